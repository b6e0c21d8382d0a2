import PyProof.Rows.All
import HandS.ForMost
import PyProof.P3Statements
import PyProof.ReprRoads
import HandS.Exc
import HandS.WordsExc
import HandS.TupMul
import HandS.Wide
import HandS.TupAny
import HandS.Deep
import HandS.IsInst
import HandS.Style
import HandS.Conv
import HandS.Flow
import HandS.CallSlots
import HandS.More
import HandS.Comp
import HandS.Iter
import HandS.Walk
import HandS.Rev
import HandS.Strs
import HandS.Evl
import HandS.HeadEnd
import HandS.HeadHook2
import HandS.EndBits
import HandS.HeadHook4
import HandS.Head0
import HandS.Head1
import HandS.Head2
import PySem.Challenge.RW_earlystop_k05_names_and_trials
section
set_option Elab.async false
set_option linter.all false
/-! An own small interpreter for the Python of the linked texts: values, store, syntax, evaluation. -/
namespace Py
open PySem L2

/-- a value: tuples are pure, all that changes stands in the store -/
inductive D where
  | non | bl (b : Bool) | int (i : Int) | str (s : Str) | tup (xs : List D) | ref (n : Nat)

mutual
def D.dec : (a b : D) → Decidable (a = b)
  | .non, .non => .isTrue rfl
  | .bl a, .bl b => if h : a = b then .isTrue (by rw [h]) else .isFalse (fun e => h (D.bl.inj e))
  | .int a, .int b => if h : a = b then .isTrue (by rw [h]) else .isFalse (fun e => h (D.int.inj e))
  | .str a, .str b => if h : a = b then .isTrue (by rw [h]) else .isFalse (fun e => h (D.str.inj e))
  | .ref a, .ref b => if h : a = b then .isTrue (by rw [h]) else .isFalse (fun e => h (D.ref.inj e))
  | .tup a, .tup b => match D.decs a b with
    | .isTrue h => .isTrue (by rw [h])
    | .isFalse h => .isFalse (fun e => h (D.tup.inj e))
  | .non, .bl _ | .non, .int _ | .non, .str _ | .non, .tup _ | .non, .ref _ => .isFalse nofun
  | .bl _, .non | .bl _, .int _ | .bl _, .str _ | .bl _, .tup _ | .bl _, .ref _ => .isFalse nofun
  | .int _, .non | .int _, .bl _ | .int _, .str _ | .int _, .tup _ | .int _, .ref _ => .isFalse nofun
  | .str _, .non | .str _, .bl _ | .str _, .int _ | .str _, .tup _ | .str _, .ref _ => .isFalse nofun
  | .tup _, .non | .tup _, .bl _ | .tup _, .int _ | .tup _, .str _ | .tup _, .ref _ => .isFalse nofun
  | .ref _, .non | .ref _, .bl _ | .ref _, .int _ | .ref _, .str _ | .ref _, .tup _ => .isFalse nofun
def D.decs : (a b : List D) → Decidable (a = b)
  | [], [] => .isTrue rfl
  | [], _ :: _ => .isFalse nofun
  | _ :: _, [] => .isFalse nofun
  | x :: xs, y :: ys => match D.dec x y, D.decs xs ys with
    | .isTrue h, .isTrue k => .isTrue (by rw [h, k])
    | .isFalse h, _ => .isFalse (fun e => h (List.cons.inj e).1)
    | _, .isFalse k => .isFalse (fun e => k (List.cons.inj e).2)
end
instance : DecidableEq D := D.dec

/-- what stands in the store -/
inductive O where
  | lst (xs : List D) | dK (kvs : List (Key × D)) | dT (kvs : List (List Key × D)) | ins (c : Nat) (fs : List (Str × D)) | lk (o : O)
  deriving DecidableEq

abbrev Store := List O
abbrev Sl := List (Option D)

/-- what comes: a value and the store; an exception of class number c with its fields; or nothing is said -/
inductive R (α : Type) where
  | ok (a : α) (st : Store) | exn (c : Nat) (fs : List (Str × D)) (st : Store) | bad
def R.bind {α β : Type} (r : R α) (f : α → Store → R β) : R β := match r with
  | .ok a st => f a st
  | .exn c fs st => .exn c fs st
  | .bad => .bad
@[simp] theorem R.bind_ok {α β : Type} (a : α) (st : Store) (f : α → Store → R β) : (R.ok a st).bind f = f a st := rfl
@[simp] theorem R.bind_exn {α β : Type} (c : Nat) (fs : List (Str × D)) (st : Store) (f : α → Store → R β) : (R.exn c fs st).bind f = .exn c fs st := rfl
@[simp] theorem R.bind_bad {α β : Type} (f : α → Store → R β) : (R.bad : R α).bind f = .bad := rfl
/-- of an option -/
def R.of {α : Type} (o : Option α) (st : Store) : R α := match o with
  | some a => .ok a st
  | none => .bad
@[simp] theorem R.of_some {α : Type} (a : α) (st : Store) : R.of (some a) st = .ok a st := rfl
@[simp] theorem R.of_none {α : Type} (st : Store) : R.of (none : Option α) st = .bad := rfl

/-! ### looks at the store -/
def lstAt (st : Store) (n : Nat) : Option (List D) := match st[n]? with
  | some (.lst xs) => some xs
  | some (.lk (.lst xs)) => some xs
  | _ => none
def keyP : Key → PyData
  | .inl i => .int i
  | .inr s => .str s
/-- the data that a value is -/
def pd (st : Store) : Nat → D → Option PyData
  | 0, _ => none
  | _ + 1, .non => some .none
  | _ + 1, .bl b => some (.bool b)
  | _ + 1, .int i => some (.int i)
  | _ + 1, .str s => some (.str s)
  | k + 1, .tup xs => (xs.mapM (pd st k)).map .tuple
  | k + 1, .ref n => match st[n]? with
    | some (.lst xs) => (xs.mapM (pd st k)).map .list
    | some (.dK []) => some (.dict [])
    | _ => none
def eqD (st : Store) (a b : D) : Option Bool := do
  let x ← pd st 60 a
  let y ← pd st 60 b
  if SeqAt.shaped x && SeqAt.shaped y then some (PyData.eqv x y) else none
def showD (st : Store) (a : D) : Option Str := do
  let x ← pd st 60 a
  if x.showable && decide (x.depth ≤ 60) && decide (x.shown.length ≤ sizeLine) then some x.shown else none
/-- its truth -/
def truth (st : Store) : D → Option Bool
  | .non => some false
  | .bl b => some b
  | .int i => some (i != 0)
  | .str s => if s.length ≤ sizeLine then some (s.length != 0) else none
  | .tup xs => some (!xs.isEmpty)
  | .ref n => match st[n]? with
    | some (.lst xs) => some (!xs.isEmpty)
    | some (.dK kvs) => some (!kvs.isEmpty)
    | _ => none

/-! ### syntax -/
inductive Kind where
  | int | bool | str | tuple | list | tupLst
  deriving DecidableEq
/-- a built-in of one list of arguments -/
inductive B where
  | len | abs | sum | all | any | tuple | list | repr | isi (k : Kind) | setlen | max2 | min2 | int
  deriving DecidableEq
/-- a method of a built-in type -/
inductive Me where
  | append | insert | extend | pop0 | pop1
  deriving DecidableEq
/-- what is walked -/
inductive IK where
  | val | range1 | range2 | enum | zip | rev
  deriving DecidableEq
/-- a target of a loop: names, tuples of targets -/
inductive T where
  | nm (i : Nat) | nil | cons (a b : T) | tp (a : T)
inductive E where
  | var (i : Nat) | non | bl (b : Bool) | int (i : Int) | str (s : Str) | gl (x : Str) (d : D)
  | add (a b : E) | sub (a b : E) | mul (a b : E) | fdiv (a b : E) | mod (a b : E) | pow (a b : E) | neg (a : E)
  | cmp (op : CmpOp) (a b : E) | chain (op op' : CmpOp) (a b c : E)
  | and (a b : E) | or (a b : E) | not (a : E) | ife (c a b : E)
  | nil | cons (a r : E)
  | tup (es : E) | lst (es : E) | dnewK | dnewT
  | ix (a i : E) | np | sl (a lo hi : E)
  | call (f : Nat) (es : E) | bc (b : B) (es : E) | bm (m : Me) (o es : E)
  | lc (own : List (Str × Nat)) (t : T) (k : IK) (it cond elt : E)
inductive S where
  | skip | seq (a b : S) | expr (e : E) | ret (e : E) | retN
  | asg (t : T) (e : E) | asgI (o i e : E) | par (i j : Nat) (a b : E)
  | iff (c : E) (a b : S) | wh (c : E) (b : S) | for (t : T) (k : IK) (it : E) (b : S) | brk | cont | never

/-! ### operators -/
def two (n : Nat) : Nat := n
/-- * of great intsD is asked below so many bits -/
def mulOk (i j : Int) : Bool := decide (i.natAbs.log2 + j.natAbs.log2 < 1000000)
def divOk (j : Int) : Bool := decide (0 < j ∧ j.natAbs.log2 < 9000)
def powOk (i j : Int) : Bool := decide (0 ≤ j ∧ j ≤ 1000000 ∧ i.natAbs < 2 ^ 64)
def repOk (k : Int) (n : Nat) : Bool := decide (0 ≤ k ∧ k ≤ 1000 ∧ n ≤ 1000)
def addD (st : Store) : D → D → R D
  | .int i, .int j => .ok (.int (i + j)) st
  | .str a, .str b => if a.length + b.length ≤ sizeLine then .ok (.str (a ++ b)) st else .bad
  | .tup a, .tup b => if a.length + b.length ≤ sizeLine then .ok (.tup (a ++ b)) st else .bad
  | .ref m, .ref n => match st[m]?, st[n]? with
    | some (.lst a), some (.lst b) => if a.length + b.length ≤ sizeLine then .ok (.ref st.length) (st ++ [.lst (a ++ b)]) else .bad
    | _, _ => .bad
  | _, _ => .bad
def mulD (st : Store) : D → D → R D
  | .int i, .int j => if mulOk i j then .ok (.int (i * j)) st else .bad
  | .tup a, .int k => if repOk k a.length then .ok (.tup (List.replicate k.toNat a).flatten) st else .bad
  | .ref m, .int k => match st[m]? with
    | some (.lst a) => if repOk k a.length then .ok (.ref st.length) (st ++ [.lst (List.replicate k.toNat a).flatten]) else .bad
    | _ => .bad
  | _, _ => .bad
def sgn1 (s : Str) : Option Nat := match s.cps.toList with
  | [c] => some c
  | _ => none
/-- membership: a sign in a text; a datum among the items of a list or tuple -/
def inSeq (p : PyData) : PyData → Option Bool
  | .list ps => if SeqAt.shaped p && SeqAt.shaped (.list ps) then some (ps.any fun z => PyData.eqv z p) else none
  | .tuple ps => if SeqAt.shaped p && SeqAt.shaped (.tuple ps) then some (ps.any fun z => PyData.eqv z p) else none
  | _ => none
def inD (st : Store) (x y : D) : Option Bool := match y with
  | .str z => match x with
    | .str s => (sgn1 s).map fun c => decide (c ∈ z.cps.toList)
    | _ => none
  | _ => do
    let p ← pd st 60 x
    let q ← pd st 60 y
    inSeq p q
def isD (x y : D) : Option Bool := match y with
  | .non => some (decide (x = .non))
  | .bl b => match x with
    | .bl a => some (decide (a = b))
    | _ => none
  | _ => none
def cmpD (st : Store) : CmpOp → D → D → Option Bool
  | .Eq, a, b => eqD st a b
  | .NotEq, a, b => (eqD st a b).map (!·)
  | .Lt, .int i, .int j => some (decide (i < j))
  | .LtE, .int i, .int j => some (decide (i ≤ j))
  | .Gt, .int i, .int j => some (decide (j < i))
  | .GtE, .int i, .int j => some (decide (j ≤ i))
  | .In, a, b => inD st a b
  | .NotIn, a, b => (inD st a b).map (!·)
  | .Is, a, b => isD a b
  | .IsNot, a, b => (isD a b).map (!·)
  | _, _, _ => none
def ixD (st : Store) : D → D → Option D
  | .tup xs, .int i => atI xs i
  | .ref n, .int i => match lstAt st n with
    | some xs => atI xs i
    | none => none
  | .str z, .int i => if z.length ≤ sizeLine then (atI z.cps.toList i).map fun c => .str ⟨#[c]⟩ else none
  | _, _ => none
def cutD (xs : List D) (lo hi : Option Int) : List D := (xs.drop (HT.sIx xs.length 0 lo)).take (HT.sIx xs.length xs.length hi - HT.sIx xs.length 0 lo)
def slD (st : Store) (lo hi : Option Int) : D → R D
  | .tup xs => .ok (.tup (cutD xs lo hi)) st
  | .str z => if z.length ≤ sizeLine then .ok (.str (cutS z lo hi)) st else .bad
  | .ref n => match lstAt st n with
    | some xs => .ok (.ref st.length) (st ++ [.lst (cutD xs lo hi)])
    | none => .bad
  | _ => .bad
def part : D → Option (Option Int)
  | .int i => some (some i)
  | _ => none

/-! ### built-ins -/
def lenD (st : Store) : D → Option Nat
  | .str z => if z.length ≤ sizeLine then some z.length else none
  | .tup xs => some xs.length
  | .ref n => (lstAt st n).map (·.length)
  | _ => none
def intsD : List D → Option (List Int)
  | [] => some []
  | .int i :: r => (intsD r).map (i :: ·)
  | _ => none
def boolsD : List D → Option (List Bool)
  | [] => some []
  | .bl i :: r => (boolsD r).map (i :: ·)
  | _ => none
def strsD : List D → Option (List Str)
  | [] => some []
  | .str i :: r => (strsD r).map (i :: ·)
  | _ => none
/-- the items of a list or a tuple -/
def itemsD (st : Store) : D → Option (List D)
  | .tup xs => some xs
  | .ref n => lstAt st n
  | _ => none
def isiD (st : Store) (k : Kind) : D → Option Bool
  | .non => some false
  | .bl _ => some (k == .int || k == .bool)
  | .int _ => some (k == .int)
  | .str _ => some (k == .str)
  | .tup _ => some (k == .tuple || k == .tupLst)
  | .ref n => match st[n]? with
    | some (.lst _) => some (k == .list || k == .tupLst)
    | some (.dK _) => some false
    | some (.dT _) => some false
    | _ => none
/-- the texts, each once, as they come -/
def stepS (acc : List Str) (x : Str) : List Str := if acc.any (· == x) then acc else acc ++ [x]
def ddup (zs : List Str) : List Str := zs.foldl stepS []
def bcD (st : Store) (b : B) (ds : List D) : R D := match b, ds with
  | .len, [d] => (R.of (lenD st d) st).bind fun n st => .ok (.int n) st
  | .abs, [.int i] => .ok (.int (if i < 0 then -i else i)) st
  | .sum, [.ref n] => (R.of ((lstAt st n).bind intsD) st).bind fun ns st => .ok (.int ns.sum) st
  | .all, [.ref n] => (R.of ((lstAt st n).bind boolsD) st).bind fun bs st => .ok (.bl (bs.all id)) st
  | .any, [.ref n] => (R.of ((lstAt st n).bind boolsD) st).bind fun bs st => .ok (.bl (bs.any id)) st
  | .tuple, [d] => (R.of (itemsD st d) st).bind fun xs st => .ok (.tup xs) st
  | .list, [d] => (R.of (itemsD st d) st).bind fun xs st => .ok (.ref st.length) (st ++ [.lst xs])
  | .repr, [d] => (R.of (showD st d) st).bind fun z st => .ok (.str z) st
  | .isi k, [d] => (R.of (isiD st k d) st).bind fun b st => .ok (.bl b) st
  | .setlen, [d] => (R.of ((itemsD st d).bind strsD) st).bind fun zs st => if zs.length < 64 then .ok (.int (ddup zs).length) st else .bad
  | .max2, [.int i, .int j] => .ok (.int (if j > i then j else i)) st
  | .min2, [.int i, .int j] => .ok (.int (if j < i then j else i)) st
  | .int, [.int i] => .ok (.int i) st
  | .int, [.bl k] => .ok (.int (if k then 1 else 0)) st
  | _, _ => .bad
def insAt {α : Type} (xs : List α) (i : Nat) (x : α) : List α := xs.take i ++ [x] ++ xs.drop i
def bmD (st : Store) (m : Me) (o : D) (ds : List D) : R D := match m, o, ds with
  | .append, .ref n, [d] => match st[n]? with
    | some (.lst xs) => if xs.length < sizeLine then .ok .non (st.set n (.lst (xs ++ [d]))) else .bad
    | _ => .bad
  | .insert, .ref n, [.int i, d] => match st[n]? with
    | some (.lst xs) => if 0 ≤ i ∧ i ≤ xs.length ∧ xs.length < sizeLine then .ok .non (st.set n (.lst (insAt xs i.toNat d))) else .bad
    | _ => .bad
  | .extend, .ref n, [.ref m] => match st[n]?, st[m]? with
    | some (.lst xs), some (.lst ys) => if xs.length + ys.length ≤ sizeLine then .ok .non (st.set n (.lst (xs ++ ys))) else .bad
    | _, _ => .bad
  | .pop0, .ref n, [] => match st[n]? with
    | some (.lst xs) => match xs[xs.length - 1]? with
      | some y => .ok y (st.set n (.lst xs.dropLast))
      | none => .bad
    | _ => .bad
  | .pop1, .ref n, [.int i] => match st[n]? with
    | some (.lst xs) => if 0 ≤ i ∧ i < xs.length ∧ xs.length < sizeLine then match xs[i.toNat]? with
      | some y => .ok y (st.set n (.lst (xs.eraseIdx i.toNat)))
      | none => .bad else .bad
    | _ => .bad
  | _, _, _ => .bad

/-- a list that may change -/
def isLst (st : Store) : D → Bool
  | .ref n => match st[n]? with
    | some (.lst _) => true
    | _ => false
  | _ => false

/-! ### walks -/
abbrev Guard := List (Nat × List D)
def gOk (g : Guard) (st : Store) : Bool := g.all fun p => decide (lstAt st p.1 = some p.2)
def src (st : Store) : D → Option (List D × Guard)
  | .tup xs => some (xs, [])
  | .ref n => (lstAt st n).map fun xs => (xs, [(n, xs)])
  | .str z => some (z.cps.toList.map fun c => .str ⟨#[c]⟩, [])
  | _ => none
def seqs (st : Store) : D → Option (List D × Guard)
  | .tup xs => some (xs, [])
  | .ref n => (lstAt st n).map fun xs => (xs, [(n, xs)])
  | _ => none
def rng (a b : Int) : List D := (List.range (b - a).toNat).map fun (k : Nat) => D.int (a + k)
def rngOk (a b : Int) : Bool := decide (a.natAbs.log2 < 62) && decide (b.natAbs.log2 < 62)
def walkD (st : Store) (k : IK) (ds : List D) : Option (List D × Guard) := match k, ds with
  | .val, [d] => src st d
  | .range1, [.int b] => if rngOk 0 b then some (rng 0 b, []) else none
  | .range2, [.int a, .int b] => if rngOk a b then some (rng a b, []) else none
  | _, _ => none
/-- a target takes a value -/
def setT : T → D → Sl → Option Sl
  | .nm i, d, env => some (env.set i (some d))
  | .nil, .tup [], env => some env
  | .cons a b, .tup (d :: ds), env => (setT a d env).bind fun env => setT b (.tup ds) env
  | .tp a, d, env => setT a d env
  | _, _, _ => none

inductive Fl where
  | nx (env : Sl) | rt (d : D) | bk (env : Sl) | ct (env : Sl)
/-- a comprehension's turns -/
def compL (g : Guard) (f : D → Store → R (Option D)) : List D → Store → R (List D)
  | [], st => if gOk g st then .ok [] st else .bad
  | d :: ds, st => if gOk g st then (f d st).bind fun o st => (compL g f ds st).bind fun r st => .ok (match o with | some x => x :: r | none => r) st else .bad
/-- a loop's turns -/
def forL (g : Guard) (f : D → Sl → Store → R Fl) : List D → Sl → Store → R Fl
  | [], env, st => if gOk g st then .ok (.nx env) st else .bad
  | d :: ds, env, st => if gOk g st then (f d env st).bind fun fl st => match fl with
    | .nx env => forL g f ds env st
    | .ct env => forL g f ds env st
    | .bk env => .ok (.nx env) st
    | .rt d => .ok (.rt d) st else .bad
def whl (c : Sl → Store → R Bool) (b : Sl → Store → R Fl) : Nat → Sl → Store → R Fl
  | 0, _, _ => .bad
  | n + 1, env, st => (c env st).bind fun k st => if k then (b env st).bind fun fl st => match fl with
    | .nx env => whl c b n env st
    | .ct env => whl c b n env st
    | .bk env => .ok (.nx env) st
    | .rt d => .ok (.rt d) st else .ok (.nx env) st
def wiped (env : Sl) : List Nat → Sl
  | [] => env
  | v :: vs => (wiped env vs).set v none
/-- an exception does not leave a comprehension -/
def noexn {α : Type} : R α → R α
  | .exn _ _ _ => .bad
  | r => r
def tr (r : R D) : R Bool := r.bind fun d st => R.of (truth st d) st

section
variable (W : Nat) (cf : Nat → List D → Store → R D)
def asTup : D → List D
  | .tup ds => ds
  | _ => []
def ev : E → Sl → Store → R D
  | .var i, env, st => R.of (match env[i]? with | some (some d) => some d | _ => none) st
  | .non, _, st => .ok .non st
  | .bl b, _, st => .ok (.bl b) st
  | .int i, _, st => .ok (.int i) st
  | .str s, _, st => .ok (.str s) st
  | .gl _ d, _, st => .ok d st
  | .add a b, env, st => (ev a env st).bind fun x st => (ev b env st).bind fun y st => addD st x y
  | .sub a b, env, st => (ev a env st).bind fun x st => (ev b env st).bind fun y st => match x, y with
    | .int i, .int j => .ok (.int (i - j)) st
    | _, _ => .bad
  | .mul a b, env, st => (ev a env st).bind fun x st => (ev b env st).bind fun y st => mulD st x y
  | .fdiv a b, env, st => (ev a env st).bind fun x st => (ev b env st).bind fun y st => match x, y with
    | .int i, .int j => if divOk j then .ok (.int (i / j)) st else .bad
    | _, _ => .bad
  | .mod a b, env, st => (ev a env st).bind fun x st => (ev b env st).bind fun y st => match x, y with
    | .int i, .int j => if 0 < j then .ok (.int (i % j)) st else .bad
    | _, _ => .bad
  | .pow a b, env, st => (ev a env st).bind fun x st => (ev b env st).bind fun y st => match x, y with
    | .int i, .int j => if powOk i j then .ok (.int (i ^ j.toNat)) st else .bad
    | _, _ => .bad
  | .neg a, env, st => (ev a env st).bind fun x st => match x with
    | .int i => .ok (.int (-i)) st
    | _ => .bad
  | .cmp op a b, env, st => (ev a env st).bind fun x st => (ev b env st).bind fun y st => (R.of (cmpD st op x y) st).bind fun k st => .ok (.bl k) st
  | .chain op op' a b c, env, st => (ev a env st).bind fun x st => (ev b env st).bind fun y st => (R.of (cmpD st op x y) st).bind fun k st =>
    if k then (ev c env st).bind fun z st => (R.of (cmpD st op' y z) st).bind fun k st => .ok (.bl k) st else .ok (.bl false) st
  | .and a b, env, st => (ev a env st).bind fun x st => (R.of (truth st x) st).bind fun k st => if k then ev b env st else .ok x st
  | .or a b, env, st => (ev a env st).bind fun x st => (R.of (truth st x) st).bind fun k st => if k then .ok x st else ev b env st
  | .not a, env, st => (ev a env st).bind fun x st => (R.of (truth st x) st).bind fun k st => .ok (.bl (!k)) st
  | .ife c a b, env, st => (tr (ev c env st)).bind fun k st => if k then ev a env st else ev b env st
  | .nil, _, st => .ok (.tup []) st
  | .cons a r, env, st => (ev a env st).bind fun x st => (ev r env st).bind fun y st => .ok (.tup (x :: asTup y)) st
  | .tup es, env, st => (ev es env st).bind fun y st => .ok (.tup (asTup y)) st
  | .lst es, env, st => (ev es env st).bind fun y st => .ok (.ref st.length) (st ++ [.lst (asTup y)])
  | .dnewK, _, st => .ok (.ref st.length) (st ++ [.dK []])
  | .dnewT, _, st => .ok (.ref st.length) (st ++ [.dT []])
  | .ix a i, env, st => (ev a env st).bind fun x st => (ev i env st).bind fun y st => R.of (ixD st x y) st
  | .np, _, _ => .bad
  | .sl a lo hi, env, st => (ev a env st).bind fun x st =>
    (match lo with
    | .np => R.ok none st
    | _ => (ev lo env st).bind fun l st => R.of (part l) st).bind fun l st =>
    (match hi with
    | .np => R.ok none st
    | _ => (ev hi env st).bind fun l st => R.of (part l) st).bind fun h st => slD st l h x
  | .call f es, env, st => (ev es env st).bind fun y st => cf f (asTup y) st
  | .bc b es, env, st => (ev es env st).bind fun y st => bcD st b (asTup y)
  | .bm m o es, env, st => (ev o env st).bind fun x st => if isLst st x then (ev es env st).bind fun y st => bmD st m x (asTup y) else .bad
  | .lc own t k it cond elt, env, st => (ev it env st).bind fun y st => (R.of (walkD st k (asTup y)) st).bind fun p st =>
    (compL p.2 (fun d st => noexn ((R.of (setT t d (wiped env (own.map (·.2)))) st).bind fun env st =>
      (match cond with
      | .np => R.ok true st
      | _ => tr (ev cond env st)).bind fun k st => if k then (ev elt env st).bind fun x st => .ok (some x) st else .ok none st)) p.1 st).bind fun xs st =>
    if xs.length ≤ sizeLine then .ok (.ref st.length) (st ++ [.lst xs]) else .bad
def ex : S → Sl → Store → R Fl
  | .skip, env, st => .ok (.nx env) st
  | .seq a b, env, st => (ex a env st).bind fun fl st => match fl with
    | .nx env => ex b env st
    | fl => .ok fl st
  | .expr e, env, st => (ev cf e env st).bind fun _ st => .ok (.nx env) st
  | .ret e, env, st => (ev cf e env st).bind fun d st => .ok (.rt d) st
  | .retN, _, st => .ok (.rt .non) st
  | .asg t e, env, st => (ev cf e env st).bind fun d st => (R.of (setT t d env) st).bind fun env st => .ok (.nx env) st
  | .asgI o i e, env, st => (ev cf e env st).bind fun d st => (ev cf o env st).bind fun x st => (ev cf i env st).bind fun y st => match x, y with
    | .ref n, .int j => match st[n]? with
      | some (.lst xs) => match ixN xs.length j with
        | some k => .ok (.nx env) (st.set n (.lst (xs.set k d)))
        | none => .bad
      | _ => .bad
    | _, _ => .bad
  | .par i j a b, env, st => (ev cf a env st).bind fun x st => (ev cf b env st).bind fun y st => .ok (.nx ((env.set i (some x)).set j (some y))) st
  | .iff c a b, env, st => (tr (ev cf c env st)).bind fun k st => if k then ex a env st else ex b env st
  | .wh c b, env, st => whl (fun env st => tr (ev cf c env st)) (ex b) W env st
  | .for t k it b, env, st => (ev cf it env st).bind fun y st => (R.of (walkD st k (asTup y)) st).bind fun p st =>
    forL p.2 (fun d env st => (R.of (setT t d env) st).bind fun env st => ex b env st) p.1 env st
  | .brk, env, st => .ok (.bk env) st
  | .cont, env, st => .ok (.ct env) st
  | .never, _, _ => .bad
end

/-! ### functions -/
/-- the turns that a while may take -/
def WH : Nat := 1000000
structure Fn where
  name : Str
  pars : List Str
  slots : List Str
  body : S
mutual
def D.lo (n : Nat) : D → Bool
  | .ref m => decide (m < n)
  | .tup xs => D.los n xs
  | _ => true
def D.los (n : Nat) : List D → Bool
  | [] => true
  | x :: xs => D.lo n x && D.los n xs
end
def O.lo (n : Nat) : O → Bool
  | .lst xs => D.los n xs
  | .dK kvs => kvs.all fun p => D.lo n p.2
  | .dT kvs => kvs.all fun p => D.lo n p.2
  | .ins _ fs => fs.all fun p => D.lo n p.2
  | .lk o => O.lo n o
/-- what a call leaves: what it made and nobody holds is dropped -/
def leave (st0 : Store) (d : D) (st : Store) : R D :=
  if decide (st.take st0.length = st0) && D.lo st0.length d then .ok d st0
  else if (st.take st0.length).all (O.lo st0.length) && D.lo st0.length d then .ok d (st.take st0.length)
  else .ok d st
def run (W : Nat) (fns : List Fn) : Nat → Nat → List D → Store → R D
  | 0, _, _, _ => .bad
  | k + 1, f, ds, st => match fns[f]? with
    | none => .bad
    | some fn => if ds.length = fn.pars.length then
        (ex W (run W fns k) fn.body (ds.map some ++ List.replicate (fn.slots.length - ds.length) none) st).bind fun fl st' => match fl with
        | .rt d => leave st d st'
        | .nx _ => leave st .non st'
        | _ => .bad
      else .bad
end Py
end

section
set_option Elab.async false
set_option linter.all false
set_option maxRecDepth 100000
/-! The store of the small interpreter beside the abstract heap. -/
namespace Py
open PySem PySem.Spec PyProof.Rows L2

mutual
/-- a value of the interpreter stands for a value of the layer -/
inductive RD (K : PySem.W.Frag) (ρ : List Addr) (H : Hp) : D → V → Prop where
  | non : RD K ρ H .non .non
  | bl (b : Bool) : RD K ρ H (.bl b) (.bl b)
  | int (i : Int) : RD K ρ H (.int i) (.int i)
  | str (s : Str) : RD K ρ H (.str s) (.str s)
  | tup {a : Addr} {ds : List D} {vs : List V} : SqT K H a vs → RDs K ρ H ds vs → RD K ρ H (.tup ds) (.ref a)
  | ref {n : Nat} {a : Addr} : ρ[n]? = some a → RD K ρ H (.ref n) (.ref a)
inductive RDs (K : PySem.W.Frag) (ρ : List Addr) (H : Hp) : List D → List V → Prop where
  | nil : RDs K ρ H [] []
  | cons {d : D} {v : V} {ds : List D} {vs : List V} : RD K ρ H d v → RDs K ρ H ds vs → RDs K ρ H (d :: ds) (v :: vs)
end
abbrev RP (K : PySem.W.Frag) (ρ : List Addr) (H : Hp) {κ : Type} : List (κ × D) → List (κ × V) → Prop := Paired fun p q => p.1 = q.1 ∧ RD K ρ H p.2 q.2
inductive RO (K : PySem.W.Frag) (cl : Nat → Addr) (ρ : List Addr) (H : Hp) : O → HO → Prop where
  | lst {xs : List D} {vs : List V} : RDs K ρ H xs vs → RO K cl ρ H (.lst xs) (.lst vs)
  | dK {xs : List (Key × D)} {vs : List (Key × V)} : RP K ρ H xs vs → RO K cl ρ H (.dK xs) (.dK vs)
  | dT {xs : List (List Key × D)} {vs : List (List Key × V)} : RP K ρ H xs vs → RO K cl ρ H (.dT xs) (.dT vs)
  | ins {c : Nat} {dx : Addr} {xs : List (Str × D)} {vs : List (Str × V)} : RP K ρ H xs vs → RO K cl ρ H (.ins c xs) (.ins (cl c) dx vs)
  | lk {o : O} {u : HO} {ob : Obj} : RO K cl ρ H o u → RO K cl ρ H (.lk o) (.frz ob u)

/-- what stands behind, from what stood ahead -/
structure Ext (K : PySem.W.Frag) (ρ : List Addr) (H : Hp) (ρ' : List Addr) (H' : Hp) : Prop where
  tup : ∀ a xs, SqT K H a xs → SqT K H' a xs
  pre : ∃ more, ρ' = ρ ++ more
  old : ∀ a o, H a = some o → a ∉ ρ → H' a = some o
  new : ∀ a, a ∈ ρ' → a ∈ ρ ∨ H a = none
structure Rel (K : PySem.W.Frag) (cl : Nat → Addr) (ρ : List Addr) (H : Hp) (st : Store) : Prop where
  len : ρ.length = st.length
  nd : ρ.Nodup
  obj : ∀ (i : Nat) (o : O) (a : Addr), st[i]? = some o → ρ[i]? = some a → ∃ u, H a = some u ∧ RO K cl ρ H o u

section
variable {K : PySem.W.Frag} {cl : Nat → Addr} {ρ ρ' ρ'' : List Addr} {H H' H'' : Hp} {st : Store}
theorem RDs.length : ∀ {ds : List D} {vs : List V}, RDs K ρ H ds vs → ds.length = vs.length
  | _, _, .nil => rfl
  | _, _, .cons _ t => by rw [List.length_cons, List.length_cons, RDs.length t]
theorem Ext.refl : Ext K ρ H ρ H := ⟨fun _ _ h => h, ⟨[], by simp⟩, fun _ _ h _ => h, fun _ h => .inl h⟩
theorem Ext.trans (a : Ext K ρ H ρ' H') (b : Ext K ρ' H' ρ'' H'') : Ext K ρ H ρ'' H'' := by
  obtain ⟨m1, e1⟩ := a.pre
  obtain ⟨m2, e2⟩ := b.pre
  refine ⟨fun x xs h => b.tup x xs (a.tup x xs h), ⟨m1 ++ m2, by rw [e2, e1, List.append_assoc]⟩, fun x o h hx => ?_, fun x h => ?_⟩
  · refine b.old x o (a.old x o h hx) fun h2 => ?_
    rcases a.new x h2 with z | z
    · exact hx z
    · rw [h] at z; cases z
  · rcases b.new x h with z | z
    · exact a.new x z
    · cases q : H x with
      | none => exact .inr rfl
      | some o =>
        by_cases hx : x ∈ ρ
        · exact .inl hx
        · have := a.old x o q hx
          rw [z] at this; cases this
theorem Ext.at_ (e : Ext K ρ H ρ' H') {n : Nat} {a : Addr} (h : ρ[n]? = some a) : ρ'[n]? = some a := by
  obtain ⟨m, rfl⟩ := e.pre
  have hl := (List.getElem?_eq_some_iff.mp h).1
  rw [List.getElem?_append_left hl]
  exact h
mutual
theorem RD.mono (ht : ∀ a xs, SqT K H a xs → SqT K H' a xs) (hr : ∀ (n : Nat) (a : Addr), ρ[n]? = some a → ρ'[n]? = some a) : ∀ {d : D} {v : V}, RD K ρ H d v → RD K ρ' H' d v
  | _, _, .non => .non
  | _, _, .bl b => .bl b
  | _, _, .int i => .int i
  | _, _, .str s => .str s
  | _, _, .tup h t => .tup (ht _ _ h) (RDs.mono ht hr t)
  | _, _, .ref h => .ref (hr _ _ h)
theorem RDs.mono (ht : ∀ a xs, SqT K H a xs → SqT K H' a xs) (hr : ∀ (n : Nat) (a : Addr), ρ[n]? = some a → ρ'[n]? = some a) : ∀ {d : List D} {v : List V}, RDs K ρ H d v → RDs K ρ' H' d v
  | _, _, .nil => .nil
  | _, _, .cons h t => .cons (RD.mono ht hr h) (RDs.mono ht hr t)
end
theorem RD.ext (e : Ext K ρ H ρ' H') {d : D} {v : V} (h : RD K ρ H d v) : RD K ρ' H' d v := h.mono e.tup fun _ _ q => e.at_ q
theorem RDs.ext (e : Ext K ρ H ρ' H') {d : List D} {v : List V} (h : RDs K ρ H d v) : RDs K ρ' H' d v := h.mono e.tup fun _ _ q => e.at_ q
theorem RP.mono {κ : Type} (ht : ∀ a xs, SqT K H a xs → SqT K H' a xs) (hr : ∀ (n : Nat) (a : Addr), ρ[n]? = some a → ρ'[n]? = some a) {d : List (κ × D)} {v : List (κ × V)} (h : RP K ρ H d v) : RP K ρ' H' d v :=
  Paired.mapP h fun _ _ q => ⟨q.1, q.2.mono ht hr⟩
theorem RO.mono (ht : ∀ a xs, SqT K H a xs → SqT K H' a xs) (hr : ∀ (n : Nat) (a : Addr), ρ[n]? = some a → ρ'[n]? = some a) : ∀ {o : O} {u : HO}, RO K cl ρ H o u → RO K cl ρ' H' o u
  | _, _, .lst h => .lst (h.mono ht hr)
  | _, _, .dK h => .dK (RP.mono ht hr h)
  | _, _, .dT h => .dT (RP.mono ht hr h)
  | _, _, .ins h => .ins (RP.mono ht hr h)
  | _, _, .lk h => .lk (RO.mono ht hr h)
theorem RO.notTup {o : O} {u : HO} (h : RO K cl ρ H o u) : ∀ xs, u ≠ .tup xs := by
  intro xs e
  subst e
  cases h
theorem RO.notTupF {o : O} {u : HO} (h : RO K cl ρ H o u) : ∀ ob xs, u ≠ .frz ob (.tup xs) := by
  intro ob xs e
  subst e
  cases h with
  | lk h => cases h

mutual
theorem RD.low {n : Nat} : ∀ {d : D} {v : V}, D.lo n d = true → RD K ρ H d v → RD K (ρ.take n) H d v
  | _, _, _, .non => .non
  | _, _, _, .bl b => .bl b
  | _, _, _, .int i => .int i
  | _, _, _, .str s => .str s
  | .tup ds, _, h, .tup q t => .tup q (RDs.low (by simpa [D.lo] using h) t)
  | .ref m, _, h, .ref q => .ref (by
      have hm : m < n := by simpa [D.lo] using h
      rw [List.getElem?_take_of_lt hm]
      exact q)
theorem RDs.low {n : Nat} : ∀ {d : List D} {v : List V}, D.los n d = true → RDs K ρ H d v → RDs K (ρ.take n) H d v
  | _, _, _, .nil => .nil
  | x :: xs, _, h, .cons q t => by
    rw [D.los, Bool.and_eq_true] at h
    exact .cons (RD.low h.1 q) (RDs.low h.2 t)
end
theorem RP.low {κ : Type} {n : Nat} : ∀ {d : List (κ × D)} {v : List (κ × V)}, (d.all fun p => D.lo n p.2) = true → RP K ρ H d v → RP K (ρ.take n) H d v
  | _, _, _, .nil => .nil
  | x :: xs, _, h, .cons q t => by
    rw [List.all_cons, Bool.and_eq_true] at h
    exact .cons ⟨q.1, q.2.low h.1⟩ (RP.low h.2 t)
theorem RO.low {n : Nat} : ∀ {o : O} {u : HO}, O.lo n o = true → RO K cl ρ H o u → RO K cl (ρ.take n) H o u
  | _, _, h, .lst q => .lst (q.low (by simpa [O.lo] using h))
  | _, _, h, .dK q => .dK (RP.low (by simpa [O.lo] using h) q)
  | _, _, h, .dT q => .dT (RP.low (by simpa [O.lo] using h) q)
  | _, _, h, .ins q => .ins (RP.low (by simpa [O.lo] using h) q)
  | _, _, h, .lk q => .lk (RO.low (by simpa [O.lo] using h) q)
theorem Rel.get (r : Rel K cl ρ H st) {n : Nat} {o : O} (h : st[n]? = some o) : ∃ a u, ρ[n]? = some a ∧ H a = some u ∧ RO K cl ρ H o u := by
  have hl := (List.getElem?_eq_some_iff.mp h).1
  have e : ρ[n]? = some (ρ[n]'(by rw [r.len]; exact hl)) := List.getElem?_eq_getElem _
  obtain ⟨u, h1, h2⟩ := r.obj n o _ h e
  exact ⟨_, u, e, h1, h2⟩
theorem Rel.mem (r : Rel K cl ρ H st) {a : Addr} (h : a ∈ ρ) : ∃ (n : Nat) (o : O) (u : HO), st[n]? = some o ∧ ρ[n]? = some a ∧ H a = some u ∧ RO K cl ρ H o u := by
  obtain ⟨n, hn, e⟩ := List.getElem_of_mem h
  have hs : n < st.length := by rw [← r.len]; exact hn
  have e1 : ρ[n]? = some a := by rw [List.getElem?_eq_getElem hn, e]
  obtain ⟨u, h1, h2⟩ := r.obj n st[n] a (List.getElem?_eq_getElem hs) e1
  exact ⟨n, _, u, List.getElem?_eq_getElem hs, e1, h1, h2⟩
theorem Rel.fresh_not (r : Rel K cl ρ H st) {p : Addr} (hp : H p = none) : p ∉ ρ := fun h => by
  obtain ⟨_, _, u, _, _, e, _⟩ := r.mem h
  rw [hp] at e; cases e
theorem sqt_fresh {a p : Addr} {o : HO} {xs : List V} (hp : H p = none) (h : SqT K H a xs) : SqT K (upd H p o) a xs := by
  rcases h with (h | ⟨ob, h⟩) | h
  · exact .inl (.inl (by rw [upd_ne (ne_of_none h hp)]; exact h))
  · exact .inl (.inr ⟨ob, by rw [upd_ne (ne_of_none h hp)]; exact h⟩)
  · exact .inr h
theorem Ext.fresh (r : Rel K cl ρ H st) {p : Addr} {o : HO} (hp : H p = none) : Ext K ρ H ρ (upd H p o) :=
  ⟨fun a xs h => sqt_fresh hp h, ⟨[], by simp⟩, fun a u h _ => by rw [upd_ne (ne_of_none h hp)]; exact h, fun a h => .inl h⟩
theorem Rel.fresh (r : Rel K cl ρ H st) {p : Addr} {o : HO} (hp : H p = none) : Rel K cl ρ (upd H p o) st := by
  refine ⟨r.len, r.nd, fun i ob a h1 h2 => ?_⟩
  obtain ⟨u, h3, h4⟩ := r.obj i ob a h1 h2
  exact ⟨u, by rw [upd_ne (ne_of_none h3 hp)]; exact h3, h4.mono (fun a xs h => sqt_fresh hp h) fun _ _ q => q⟩
theorem Ext.push (r : Rel K cl ρ H st) {p : Addr} {o : HO} (hp : H p = none) : Ext K ρ H (ρ ++ [p]) (upd H p o) :=
  ⟨fun a xs h => sqt_fresh hp h, ⟨[p], rfl⟩, fun a u h _ => by rw [upd_ne (ne_of_none h hp)]; exact h, fun a h => by
    rcases List.mem_append.mp h with h | h
    · exact .inl h
    · rw [List.mem_singleton.mp h]; exact .inr hp⟩
theorem Rel.push (r : Rel K cl ρ H st) {p : Addr} {o : O} {u : HO} (hp : H p = none) (h : RO K cl ρ H o u) : Rel K cl (ρ ++ [p]) (upd H p u) (st ++ [o]) := by
  have ht : ∀ a xs, SqT K H a xs → SqT K (upd H p u) a xs := fun a xs h => sqt_fresh hp h
  have hr : ∀ (n : Nat) (a : Addr), ρ[n]? = some a → (ρ ++ [p])[n]? = some a := fun n a q => (Ext.push (o := u) r hp).at_ q
  refine ⟨by simp [r.len], ?_, fun i ob a h1 h2 => ?_⟩
  · rw [List.nodup_append]
    refine ⟨r.nd, by simp, fun a ha b hb => ?_⟩
    rw [List.mem_singleton.mp hb]
    rintro rfl
    exact r.fresh_not hp ha
  · by_cases hi : i < st.length
    · rw [List.getElem?_append_left hi] at h1
      rw [List.getElem?_append_left (by rw [r.len]; exact hi)] at h2
      obtain ⟨w, h3, h4⟩ := r.obj i ob a h1 h2
      exact ⟨w, by rw [upd_ne (ne_of_none h3 hp)]; exact h3, h4.mono ht hr⟩
    · have hi2 : i = st.length := by
        have := (List.getElem?_eq_some_iff.mp h1).1
        simp at this
        omega
      subst hi2
      rw [← r.len] at h2
      simp at h1 h2
      subst h1 h2
      exact ⟨u, upd_same, h.mono ht hr⟩
/-- a store's object is written -/
theorem sqt_at {a b : Addr} {o u : HO} {xs : List V} (hu : H b = some u) (h1 : ∀ xs, u ≠ .tup xs) (h2 : ∀ ob xs, u ≠ .frz ob (.tup xs)) (h : SqT K H a xs) : SqT K (upd H b o) a xs := by
  rcases h with (h | ⟨ob, h⟩) | h
  · exact .inl (.inl (by rw [upd_ne (fun e => by subst e; rw [h] at hu; exact h1 _ (Option.some.inj hu).symm)]; exact h))
  · exact .inl (.inr ⟨ob, by rw [upd_ne (fun e => by subst e; rw [h] at hu; exact h2 _ _ (Option.some.inj hu).symm)]; exact h⟩)
  · exact .inr h
theorem Ext.write (r : Rel K cl ρ H st) {n : Nat} {a : Addr} {o : O} {u u' : HO} (hn : ρ[n]? = some a) (hu : H a = some u) (ho : RO K cl ρ H o u) : Ext K ρ H ρ (upd H a u') :=
  ⟨fun b xs h => sqt_at hu ho.notTup ho.notTupF h, ⟨[], by simp⟩, fun b w h hb => by
    rw [upd_ne (fun e => hb (by rw [e]; exact List.mem_of_getElem? hn))]; exact h, fun b h => .inl h⟩
theorem Rel.write (r : Rel K cl ρ H st) {n : Nat} {a : Addr} {o o' : O} {u u' : HO} (hn : ρ[n]? = some a) (hu : H a = some u) (ho : RO K cl ρ H o u) (h' : RO K cl ρ H o' u') : Rel K cl ρ (upd H a u') (st.set n o') := by
  have ht : ∀ b xs, SqT K H b xs → SqT K (upd H a u') b xs := fun b xs h => sqt_at hu ho.notTup ho.notTupF h
  refine ⟨by simp [r.len], r.nd, fun i ob b h1 h2 => ?_⟩
  by_cases hi : i = n
  · subst hi
    rw [hn] at h2
    obtain rfl := Option.some.inj h2
    have hlt : i < st.length := by rw [← r.len]; exact (List.getElem?_eq_some_iff.mp hn).1
    rw [List.getElem?_set_self hlt] at h1
    obtain rfl := Option.some.inj h1
    exact ⟨u', upd_same, h'.mono ht fun _ _ q => q⟩
  · rw [List.getElem?_set_ne (Ne.symm hi)] at h1
    obtain ⟨w, h3, h4⟩ := r.obj i ob b h1 h2
    have hb : b ≠ a := fun e => by
      subst e
      obtain ⟨l1, e1⟩ := List.getElem?_eq_some_iff.mp h2
      obtain ⟨l2, e2⟩ := List.getElem?_eq_some_iff.mp hn
      exact hi ((List.getElem_inj r.nd).mp (e1.trans e2.symm))
    exact ⟨w, by rw [upd_ne hb]; exact h3, h4.mono ht fun _ _ q => q⟩
/-- the store's end is dropped -/
theorem Rel.take (r : Rel K cl ρ H st) {n : Nat} (hlo : ∀ o ∈ st.take n, O.lo n o = true) : Rel K cl (ρ.take n) H (st.take n) := by
  refine ⟨by simp [r.len], r.nd.sublist (List.take_sublist _ _), fun i o a h1 h2 => ?_⟩
  have hi : i < n := by
    have := (List.getElem?_eq_some_iff.mp h1).1
    rw [List.length_take] at this
    omega
  have hm := List.mem_of_getElem? h1
  rw [List.getElem?_take_of_lt hi] at h1 h2
  obtain ⟨u, h3, h4⟩ := r.obj i o a h1 h2
  exact ⟨u, h3, h4.low (hlo o hm)⟩

/-! ### lists and tuples of the store -/
theorem Rel.list (r : Rel K cl ρ H st) {n : Nat} {a : Addr} {xs : List D} (h : lstAt st n = some xs) (hn : ρ[n]? = some a) : ∃ vs, SqL K H a vs ∧ RDs K ρ H xs vs := by
  unfold lstAt at h
  split at h
  · rename_i ys e
    obtain rfl := Option.some.inj h
    obtain ⟨u, hu, ho⟩ := r.obj n _ a e hn
    cases ho with
    | lst ho => exact ⟨_, .inl (.inl hu), ho⟩
  · rename_i ys e
    obtain rfl := Option.some.inj h
    obtain ⟨u, hu, ho⟩ := r.obj n _ a e hn
    cases ho with
    | lk ho =>
      cases ho with
      | lst ho => exact ⟨_, .inl (.inr ⟨_, hu⟩), ho⟩
  · cases h
end
end Py
end

section
set_option Elab.async false
set_option linter.all false
set_option maxRecDepth 100000
set_option maxHeartbeats 4000000
/-! tuple * int, also by nought and by one. -/
namespace L2
open PySem PySem.Spec PyProof.Rows
theorem tuple_mul_no (l : Addr) (items : Array Value) (n : Nat) (dd : Option Addr) (sl : Array (Option Value)) (x : Int) (u : Tok) (c0 : (decide (x < -(2 ^ 63)) || decide (x ≥ 2 ^ 63)) = false) (c1 : (items.isEmpty || x == 1) = false) (c2 : (decide (x ≤ 0) || items.isEmpty) = true) :
    Meets (Builtin.«tuple.__mul__» ⟨[.ref l, .int x u], []⟩) (fun _ R s => s.heap.get? l = some { cls := .type "tuple", dict := dd, data := .seq items n, slots := sl } ∧
      R (.ok (.ret (Value.ref s.heap.objs.size))) { s with heap := s.heap.push { cls := Value.type "tuple", data := Data.seq #[] }, toks := s.toks }) :=
  .of_wp fun prog w A R s h => by
    obtain ⟨hp, g, d, tk, os⟩ := s
    obtain ⟨hl, h⟩ := h
    have f1 := AutoSeq1.idx_int
    wp_walk using wpAny_loadPart' hl
    repeat (first
      | (refine wpAny_ite_false (decide_eq_false (by rw [c0]; exact Bool.false_ne_true)) ?_; wp_walk using wpAny_loadPart' hl)
      | (refine wpAny_ite_false (decide_eq_false (by rw [c1]; exact Bool.false_ne_true)) ?_; wp_walk using wpAny_loadPart' hl)
      | (refine wpAny_ite_true (decide_eq_true c2) ?_; wp_walk using wpAny_loadPart' hl))
    exact ⟨_, rfl, h⟩
theorem tuple_mul_one (l : Addr) (items : Array Value) (n : Nat) (dd : Option Addr) (sl : Array (Option Value)) (x : Int) (u : Tok) (c0 : (decide (x < -(2 ^ 63)) || decide (x ≥ 2 ^ 63)) = false) (c1 : (items.isEmpty || x == 1) = true) :
    Meets (Builtin.«tuple.__mul__» ⟨[.ref l, .int x u], []⟩) (fun _ R s => s.heap.get? l = some { cls := .type "tuple", dict := dd, data := .seq items n, slots := sl } ∧
      R (.ok (.ret (Value.ref l))) s) :=
  .of_wp fun prog w A R s h => by
    obtain ⟨hp, g, d, tk, os⟩ := s
    obtain ⟨hl, h⟩ := h
    have f1 := AutoSeq1.idx_int
    wp_walk using wpAny_loadPart' hl
    repeat (first
      | (refine wpAny_ite_false (decide_eq_false (by rw [c0]; exact Bool.false_ne_true)) ?_; wp_walk using wpAny_loadPart' hl)
      | (refine wpAny_ite_true (decide_eq_true c1) ?_; wp_walk using wpAny_loadPart' hl))
    exact ⟨_, rfl, h⟩
def rRepTA (K : PySem.W.Frag) : R2 := fun x y H Q => ∃ l k xs, x = .ref l ∧ y = .int k ∧ SqT K H l xs ∧ 0 ≤ k ∧ k ≤ 1000 ∧ xs.length ≤ 1000 ∧
  ((xs = [] ∨ k = 1) → Q (.ref l) H) ∧ (xs ≠ [] → k ≠ 1 → ∀ p, H p = none → Q (.ref p) (upd H p (.tup (List.replicate k.toNat xs).flatten)))
section
variable {X : Cx}
theorem op_repTA : OpR X (binaryOp .Mult) (rRepTA X.K) := by
  intro pins s σ H x y v u Q I rx ry h
  obtain ⟨l, k, xs, rfl, rfl, hT, h1, h2, hz, q1, q2⟩ := h
  by_cases hc : xs ≠ [] ∧ 2 ≤ k
  · exact op_repT pins s σ H _ _ v u Q I rx ry ⟨l, k, xs, rfl, rfl, hT, hc.1, hc.2, h2, hz, q2 hc.1 (by omega)⟩
  cases rx
  obtain ⟨t, rfl⟩ := ry
  obtain ⟨its, r, ⟨⟨cls, dd, data, sl⟩, ho, hcl, n, hd⟩, hs⟩ := I.tuple hT
  simp only at hcl hd
  subst hcl hd
  have hle : its.length = xs.length := r.length.symm
  have hi : its.toArray.isEmpty = xs.isEmpty := by
    cases r <;> rfl
  have c0 : (decide (k < -(2 ^ 63)) || decide (k ≥ 2 ^ 63)) = false := by
    rw [decide_eq_false (by omega), decide_eq_false (by omega)] <;> rfl
  by_cases hs : xs = [] ∨ k = 1
  · have c1 : (its.toArray.isEmpty || k == 1) = true := by
      rw [hi]
      rcases hs with e | e
      · rw [e]; rfl
      · rw [e]; simp
    refine wpAny_binaryOp_repeat_ref (T := "tuple") (U := "int") (by decide) ⟨_, ho, rfl⟩ (fun s' => typeIs_int s' k t) noFill_tuple_mul F.fills_int_mul F.slot_int_rmul repeat_tuple F.slot_int_index.lookup
      (call_meets F.slot_int_rmul (typeIs_int s k t) F.entry_int_rmul (F.args_int_rmul_2 _ _) (int_rmul_tuple k t l its.toArray n dd sl)
        ⟨ho, rfl, ⟨_, ho, rfl⟩, call_meets F.slot_tuple_mul ⟨_, ho, rfl⟩ F.entry_tuple_mul (F.args_tuple_mul_2 _ _) (tuple_mul_one l its.toArray n dd sl k t c0 c1) ⟨ho, ?_⟩⟩)
    exact ⟨.ref l, H, I, rfl, q1 hs⟩
  · have hx : xs ≠ [] := fun e => hs (.inl e)
    have hk1 : k ≠ 1 := fun e => hs (.inr e)
    have hk : k = 0 := by
      by_cases z : k < 2
      · omega
      · exact absurd ⟨hx, by omega⟩ hc
    have hie : xs.isEmpty = false := by
      cases xs with
      | nil => exact absurd rfl hx
      | cons _ _ => rfl
    have c1 : (its.toArray.isEmpty || k == 1) = false := by
      rw [hi, hie, hk]; rfl
    have c2 : (decide (k ≤ 0) || its.toArray.isEmpty) = true := by
      rw [hk]; rfl
    refine wpAny_binaryOp_repeat_ref (T := "tuple") (U := "int") (by decide) ⟨_, ho, rfl⟩ (fun s' => typeIs_int s' k t) noFill_tuple_mul F.fills_int_mul F.slot_int_rmul repeat_tuple F.slot_int_index.lookup
      (call_meets F.slot_int_rmul (typeIs_int s k t) F.entry_int_rmul (F.args_int_rmul_2 _ _) (int_rmul_tuple k t l its.toArray n dd sl)
        ⟨ho, rfl, ⟨_, ho, rfl⟩, call_meets F.slot_tuple_mul ⟨_, ho, rfl⟩ F.entry_tuple_mul (F.args_tuple_mul_2 _ _) (tuple_mul_no l its.toArray n dd sl k t c0 c1 c2) ⟨ho, ?_⟩⟩)
    have q := q2 hx hk1 s.heap.objs.size (I.hok.fresh (Nat.le_refl _))
    rw [hk] at q
    refine ⟨.ref s.heap.objs.size, _, I.laid (t' := s.toks) (o := .tup []) (fun b ob q => Heap.get?_push_of_some _ q) (Nat.le_refl _) ?_, rfl, q⟩
    exact ⟨Nat.zero_le _, [], .nil, IsTup.new _ _⟩
end
end L2
end

section
set_option Elab.async false
set_option linter.all false
set_option maxRecDepth 100000
set_option maxHeartbeats 1000000
/-! What the operators of the small interpreter ask of the layer's rules. -/
namespace Py
open PySem PySem.Spec PyProof.Rows L2

def Post {α : Type} (r : R α) (Q : α → Store → Prop) (E : Nat → List (Str × D) → Store → Prop) : Prop := match r with
  | .ok a st => Q a st
  | .exn c fs st => E c fs st
  | .bad => False
theorem Post.imp {α : Type} {r : R α} {Q Q' : α → Store → Prop} {E E' : Nat → List (Str × D) → Store → Prop} (h : Post r Q E) (hQ : ∀ a st, Q a st → Q' a st) (hE : ∀ c fs st, E c fs st → E' c fs st) : Post r Q' E' := by
  cases r with
  | ok a st => exact hQ _ _ h
  | exn c fs st => exact hE _ _ _ h
  | bad => exact h
theorem post_bind {α β : Type} {r : R α} {f : α → Store → R β} {Q : β → Store → Prop} {E : Nat → List (Str × D) → Store → Prop} : Post (r.bind f) Q E ↔ Post r (fun a st => Post (f a st) Q E) E := by
  cases r <;> rfl
theorem post_of {α : Type} {o : Option α} {st : Store} {Q : α → Store → Prop} {E : Nat → List (Str × D) → Store → Prop} : Post (R.of o st) Q E ↔ ∃ a, o = some a ∧ Q a st := by
  cases o with
  | none => exact ⟨fun h => h.elim, fun ⟨_, h, _⟩ => nomatch h⟩
  | some a => exact ⟨fun h => ⟨a, rfl, h⟩, fun ⟨_, h, q⟩ => by cases h; exact q⟩
theorem post_ok {α : Type} {a : α} {st : Store} {Q : α → Store → Prop} {E : Nat → List (Str × D) → Store → Prop} : Post (R.ok a st) Q E ↔ Q a st := Iff.rfl
theorem post_bad {α : Type} {Q : α → Store → Prop} {E : Nat → List (Str × D) → Store → Prop} : Post (R.bad : R α) Q E ↔ False := Iff.rfl
theorem post_if {α : Type} {c : Prop} [Decidable c] {a : R α} {Q : α → Store → Prop} {E : Nat → List (Str × D) → Store → Prop} (h : Post (if c then a else .bad) Q E) : c ∧ Post a Q E := by
  by_cases hc : c
  · rw [if_pos hc] at h; exact ⟨hc, h⟩
  · rw [if_neg hc] at h; exact h.elim
theorem post_noexn {α : Type} {r : R α} {Q : α → Store → Prop} {E E' : Nat → List (Str × D) → Store → Prop} (h : Post (noexn r) Q E) : Post r Q E' := by
  cases r with
  | ok a st => exact h
  | exn c fs st => exact h.elim
  | bad => exact h

/-- what is wanted of a value and what stands behind -/
def Cont (K : PySem.W.Frag) (cl : Nat → Addr) (ρ : List Addr) (H : Hp) (Q : VK) (d : D) (st : Store) : Prop :=
  ∀ ρ' H' v, Ext K ρ H ρ' H' → Rel K cl ρ' H' st → RD K ρ' H' d v → Q v H'
/-- an exception: its class, its fields -/
def RX (K : PySem.W.Frag) (cl : Nat → Addr) (ρ : List Addr) (H : Hp) (c : Nat) (fs : List (Str × D)) (cls : Value) (dd : Option Addr) : Prop :=
  cls = .ref (cl c) ∧ match fs with
    | [] => dd = none
    | _ => ∃ d us, dd = some d ∧ H d = some (.xd us) ∧ d ∉ ρ ∧ RP K ρ H fs us
def ExC (K : PySem.W.Frag) (cl : Nat → Addr) (ρ : List Addr) (H : Hp) (P : XK) (c : Nat) (fs : List (Str × D)) (st : Store) : Prop :=
  ∀ ρ' H' cls dd, Ext K ρ H ρ' H' → Rel K cl ρ' H' st → RX K cl ρ' H' c fs cls dd → P cls dd H'

section
variable {K : PySem.W.Frag} {cl : Nat → Addr} {ρ ρ' : List Addr} {H H' : Hp} {st st' : Store} {Q : VK} {P : XK}
theorem Cont.ext (e : Ext K ρ H ρ' H') {d : D} (h : Cont K cl ρ H Q d st) : Cont K cl ρ' H' Q d st := fun _ _ v e' r q => h _ _ v (e.trans e') r q
theorem ExC.ext (e : Ext K ρ H ρ' H') {c : Nat} {fs : List (Str × D)} (h : ExC K cl ρ H P c fs st) : ExC K cl ρ' H' P c fs st := fun _ _ _ _ e' r q => h _ _ _ _ (e.trans e') r q
theorem Cont.here {d : D} {v : V} (h : Cont K cl ρ H Q d st) (r : Rel K cl ρ H st) (q : RD K ρ H d v) : Q v H := h _ _ v Ext.refl r q
/-- a new tuple -/
theorem Cont.tup {ds : List D} {vs : List V} {p : Addr} (h : Cont K cl ρ H Q (.tup ds) st) (r : Rel K cl ρ H st) (q : RDs K ρ H ds vs) (hp : H p = none) : Q (.ref p) (upd H p (.tup vs)) :=
  h _ _ _ (Ext.fresh r hp) (r.fresh hp) (.tup (.inl (.inl upd_same)) (q.ext (Ext.fresh r hp)))
/-- a new object -/
theorem Cont.push {o : O} {u : HO} {p : Addr} (h : Cont K cl ρ H Q (.ref st.length) (st ++ [o])) (r : Rel K cl ρ H st) (q : RO K cl ρ H o u) (hp : H p = none) : Q (.ref p) (upd H p u) :=
  h _ _ _ (Ext.push r hp) (r.push hp q) (.ref (by rw [← r.len]; simp))
end

/-- an operator of two values -/
def Opr (K : PySem.W.Frag) (cl : Nat → Addr) (g : D → D → Store → R D) (r : R2) : Prop :=
  ∀ (ρ : List Addr) (st : Store) (H : Hp) (x y : D) (vx vy : V) (Q : VK) (E : Nat → List (Str × D) → Store → Prop), Rel K cl ρ H st → RD K ρ H x vx → RD K ρ H y vy → Post (g x y st) (Cont K cl ρ H Q) E → r vx vy H Q

section
variable {X : Cx} {cl : Nat → Addr}
/-- +: ints, texts, tuples, lists -/
def rAddA (K : PySem.W.Frag) : R2 := fun x y H Q => (∃ i j, x = .int i ∧ y = .int j ∧ Q (.int (i + j)) H) ∨ (∃ i j, x = .str i ∧ y = .str j ∧ i.length + j.length ≤ sizeLine ∧ Q (.str (i ++ j)) H) ∨ rCatA K x y H Q ∨ rCat x y H Q
theorem or_add : OpR X (binaryOp .Add) (rAddA X.K) := op_add.or (op_add_str.or (op_catA.or op_cat))
theorem RDs.nil_iff {K : PySem.W.Frag} {ρ : List Addr} {H : Hp} {ds : List D} {vs : List V} (h : RDs K ρ H ds vs) : vs = [] ↔ ds = [] := by
  cases h with
  | nil => simp
  | cons _ _ => simp
theorem RDs.append {K : PySem.W.Frag} {ρ : List Addr} {H : Hp} : ∀ {ds es : List D} {vs us : List V}, RDs K ρ H ds vs → RDs K ρ H es us → RDs K ρ H (ds ++ es) (vs ++ us)
  | _, _, _, _, .nil, h => h
  | _, _, _, _, .cons a t, h => .cons a (RDs.append t h)
theorem opr_add : Opr X.K cl (fun x y st => addD st x y) (rAddA X.K) := by
  intro ρ st H x y vx vy Q E r rx ry h
  cases rx with
  | int i => cases ry with
    | int j => exact .inl ⟨i, j, rfl, rfl, Cont.here h r (.int _)⟩
    | _ => exact h.elim
  | str a => cases ry with
    | str b =>
      obtain ⟨h1, h2⟩ := post_if h
      exact .inr (.inl ⟨a, b, rfl, rfl, h1, Cont.here h2 r (.str _)⟩)
    | _ => exact h.elim
  | @tup a ds vs sa qa => cases ry with
    | @tup b es us sb qb =>
      obtain ⟨h1, h2⟩ := post_if h
      refine .inr (.inr (.inl ⟨a, b, vs, us, rfl, rfl, sa, sb, by rw [← qa.length, ← qb.length]; exact h1, fun e => ?_, fun e1 e2 => ?_, fun e1 e2 p hp => ?_⟩))
      · have e' := qa.nil_iff.mp e
        subst e e'
        exact Cont.here h2 r (.tup sb qb)
      · have e' := qb.nil_iff.mp e2
        subst e2 e'
        rw [List.append_nil] at h2
        exact Cont.here h2 r (.tup sa qa)
      · exact Cont.tup h2 r (qa.append qb) hp
    | _ => exact h.elim
  | @ref m a ha => cases ry with
    | @ref n b hb =>
      have h0 : Post (match st[m]?, st[n]? with
        | some (.lst a), some (.lst b) => if a.length + b.length ≤ sizeLine then .ok (.ref st.length) (st ++ [.lst (a ++ b)]) else .bad
        | _, _ => .bad) (Cont X.K cl ρ H Q) E := h
      split at h0
      · rename_i xs ys e1 e2
        obtain ⟨h1, h2⟩ := post_if h0
        obtain ⟨u1, g1, o1⟩ := r.obj _ _ _ e1 ha
        obtain ⟨u2, g2, o2⟩ := r.obj _ _ _ e2 hb
        cases o1 with
        | lst o1 =>
          cases o2 with
          | lst o2 =>
            exact .inr (.inr (.inr ⟨a, b, _, _, rfl, rfl, g1, g2, by rw [← o1.length, ← o2.length]; exact h1, fun p hp => Cont.push h2 r (.lst (o1.append o2)) hp⟩))
      · exact h0.elim
    | _ => exact h.elim
  | _ => cases ry <;> exact h.elim

/-! ### ints -/
def gI (C : Int → Int → Bool) (f : Int → Int → Int) : D → D → Store → R D := fun x y st => match x, y with
  | .int i, .int j => if C i j = true then .ok (.int (f i j)) st else .bad
  | _, _ => .bad
theorem opr_int {C : Int → Int → Bool} {f : Int → Int → Int} {P : Int → Int → Prop} (hP : ∀ i j, C i j = true → P i j) : Opr X.K cl (gI C f) (rI P fun i j => .int (f i j)) := by
  intro ρ st H x y vx vy Q E r rx ry h
  cases rx with
  | int i => cases ry with
    | int j =>
      obtain ⟨h1, h2⟩ := post_if (show Post (if C i j = true then .ok (.int (f i j)) st else .bad) (Cont X.K cl ρ H Q) E from h)
      exact ⟨i, j, rfl, rfl, hP i j h1, Cont.here h2 r (.int _)⟩
    | _ => exact h.elim
  | _ => cases ry <;> exact h.elim

/-! ### * -/
def rMulA (K : PySem.W.Frag) : R2 := fun x y H Q => rI CMulW (fun i j => .int (i * j)) x y H Q ∨ rRepTA K x y H Q ∨ rRep x y H Q
theorem or_mul : OpR X (binaryOp .Mult) (rMulA X.K) := op_mulW.or (op_repTA.or op_rep)
theorem RDs.rep {K : PySem.W.Frag} {ρ : List Addr} {H : Hp} {ds : List D} {vs : List V} (h : RDs K ρ H ds vs) : ∀ n : Nat, RDs K ρ H (List.replicate n ds).flatten (List.replicate n vs).flatten
  | 0 => .nil
  | n + 1 => by
    rw [List.replicate_succ, List.replicate_succ, List.flatten_cons, List.flatten_cons]
    exact h.append (RDs.rep h n)
theorem rep_one {α : Type} (xs : List α) (k : Int) (h : xs = [] ∨ k = 1) : (List.replicate k.toNat xs).flatten = xs := by
  rcases h with e | e
  · subst e
    generalize k.toNat = n
    induction n with
    | zero => rfl
    | succ n ih => rw [List.replicate_succ, List.flatten_cons, ih] <;> rfl
  · subst e
    show (List.replicate 1 xs).flatten = xs
    simp
theorem opr_mul : Opr X.K cl (fun x y st => mulD st x y) (rMulA X.K) := by
  intro ρ st H x y vx vy Q E r rx ry h
  cases rx with
  | int i => cases ry with
    | int j =>
      obtain ⟨h1, h2⟩ := post_if (show Post (if mulOk i j = true then .ok (.int (i * j)) st else .bad) (Cont X.K cl ρ H Q) E from h)
      exact .inl ⟨i, j, rfl, rfl, of_decide_eq_true (p := i.natAbs.log2 + j.natAbs.log2 < 1000000) h1, Cont.here h2 r (.int _)⟩
    | _ => exact h.elim
  | @tup a ds vs sa qa => cases ry with
    | int k =>
      obtain ⟨h1, h2⟩ := post_if (show Post (if repOk k ds.length = true then .ok (.tup (List.replicate k.toNat ds).flatten) st else .bad) (Cont X.K cl ρ H Q) E from h)
      obtain ⟨k0, k1, k2⟩ := of_decide_eq_true (p := 0 ≤ k ∧ k ≤ 1000 ∧ _ ≤ 1000) h1
      refine .inr (.inl ⟨a, k, vs, rfl, rfl, sa, k0, k1, by rw [← qa.length]; exact k2, fun e => ?_, fun _ _ p hp => Cont.tup h2 r (qa.rep _) hp⟩)
      have e' : ds = [] ∨ k = 1 := e.elim (fun e => .inl (qa.nil_iff.mp e)) .inr
      rw [rep_one ds k e'] at h2
      exact Cont.here h2 r (.tup sa qa)
    | _ => exact h.elim
  | @ref m a ha => cases ry with
    | int k =>
      have h0 : Post (match st[m]? with
        | some (.lst a) => if repOk k a.length then .ok (.ref st.length) (st ++ [.lst (List.replicate k.toNat a).flatten]) else .bad
        | _ => .bad) (Cont X.K cl ρ H Q) E := h
      split at h0
      · rename_i xs e1
        obtain ⟨h1, h2⟩ := post_if h0
        obtain ⟨k0, k1, k2⟩ := of_decide_eq_true (p := 0 ≤ k ∧ k ≤ 1000 ∧ _ ≤ 1000) h1
        obtain ⟨u1, g1, o1⟩ := r.obj _ _ _ e1 ha
        cases o1 with
        | @lst _ vs o1 =>
          have hl := o1.length
          refine .inr (.inr ⟨a, k, vs, rfl, rfl, g1, by omega, by omega, ?_, fun p hp => Cont.push h2 r (.lst (o1.rep _)) hp⟩)
          rw [sizeLine_eq, ← hl]
          have a1 : xs.length * k.toNat ≤ 1000 * 1000 := Nat.mul_le_mul k2 (by omega)
          omega
      · exact h0.elim
    | _ => exact h.elim
  | _ => cases ry <;> exact h.elim

/-! ### data -/
theorem mapM_some_cons {α β : Type} {f : α → Option β} {x : α} {xs : List α} {r : List β} (h : (x :: xs).mapM f = some r) : ∃ y ys, f x = some y ∧ xs.mapM f = some ys ∧ r = y :: ys := by
  rw [List.mapM_cons] at h
  cases e1 : f x with
  | none => rw [e1] at h; cases h
  | some y =>
    rw [e1] at h
    cases e2 : xs.mapM f with
    | none => rw [e2] at h; cases h
    | some ys =>
      rw [e2] at h
      exact ⟨y, ys, rfl, rfl, (Option.some.inj h).symm⟩
/-- a datum without dicts, off the heap -/
theorem dp_of {K : PySem.W.Frag} {ρ : List Addr} {H : Hp} {st : Store} (r : Rel K cl ρ H st) : ∀ (k : Nat) {d : D} {v : V} {p : PyData}, RD K ρ H d v → pd st k d = some p → p.canLay0 = true → Dp K H v p
  | 0, _, _, _, _, h, _ => nomatch h
  | k + 1, _, _, _, q, h, hl => by
    have all : ∀ {ds : List D} {vs : List V} {ps : List PyData}, RDs K ρ H ds vs → ds.mapM (pd st k) = some ps → PyData.canLayAll0 ps = true → DpAll K H vs ps := by
      intro ds
      induction ds with
      | nil =>
        intro vs ps q h hl
        cases q
        cases h
        exact .nil
      | cons d ds ih =>
        intro vs ps q h hl
        cases q with
        | cons q1 q2 =>
          obtain ⟨y, ys, e1, e2, rfl⟩ := mapM_some_cons h
          rw [PyData.canLayAll0, Bool.and_eq_true] at hl
          exact .cons (dp_of r k q1 e1 hl.1) (ih q2 e2 hl.2)
    cases q with
    | non => cases h; exact .non
    | bl b => cases h; exact .bl b
    | int i => cases h; exact .int i
    | str s => cases h; exact .str s
    | @tup a ds vs sa qa =>
      obtain ⟨ps, e, rfl⟩ := Option.map_eq_some_iff.mp (show (ds.mapM (pd st k)).map PyData.tuple = some _ from h)
      exact .tup sa (all qa e (by simpa [PyData.canLay0] using hl))
    | @ref n a ha =>
      have h0 : (match st[n]? with
        | some (.lst xs) => (xs.mapM (pd st k)).map PyData.list
        | some (.dK []) => some (.dict [])
        | _ => none) = some _ := h
      split at h0
      · rename_i xs e1
        obtain ⟨ps, e, rfl⟩ := Option.map_eq_some_iff.mp h0
        obtain ⟨u1, g1, o1⟩ := r.obj _ _ _ e1 ha
        cases o1 with
        | lst o1 => exact .lst (.inl (.inl g1)) (all o1 e (by simpa [PyData.canLay0] using hl))
      · cases h0
        simp [PyData.canLay0] at hl
      · cases h0
theorem eqD_some {st : Store} {a b : D} {k : Bool} (h : eqD st a b = some k) : ∃ x y, pd st 60 a = some x ∧ pd st 60 b = some y ∧ SeqAt.shaped x = true ∧ SeqAt.shaped y = true ∧ k = PyData.eqv x y := by
  unfold eqD at h
  cases e1 : pd st 60 a with
  | none => rw [e1] at h; cases h
  | some x =>
    cases e2 : pd st 60 b with
    | none => rw [e1, e2] at h; cases h
    | some y =>
      rw [e1, e2] at h
      have h' : (if SeqAt.shaped x && SeqAt.shaped y then some (PyData.eqv x y) else none) = some k := h
      by_cases c : (SeqAt.shaped x && SeqAt.shaped y) = true
      · rw [if_pos c] at h'
        rw [Bool.and_eq_true] at c
        exact ⟨x, y, rfl, rfl, c.1, c.2, (Option.some.inj h').symm⟩
      · rw [if_neg c] at h'; cases h'

/-! ### comparisons -/
def gC (op : CmpOp) : D → D → Store → R D := fun x y st => (R.of (cmpD st op x y) st).bind fun k st => .ok (.bl k) st
theorem post_gC {st : Store} {op : CmpOp} {x y : D} {k : Bool} {Q : D → Store → Prop} {E : Nat → List (Str × D) → Store → Prop} (e : cmpD st op x y = some k) (h : Q (.bl k) st) : Post (gC op x y st) Q E := by
  unfold gC
  rw [e]
  exact h
theorem gC_post {K : PySem.W.Frag} {ρ : List Addr} {H : Hp} {st : Store} {op : CmpOp} {x y : D} {Q : VK} {E : Nat → List (Str × D) → Store → Prop} (r : Rel K cl ρ H st) (h : Post (gC op x y st) (Cont K cl ρ H Q) E) : ∃ k, cmpD st op x y = some k ∧ Q (.bl k) H := by
  obtain ⟨k, e, h⟩ := post_of.mp (post_bind.mp h)
  exact ⟨k, e, Cont.here (post_ok.mp h) r (.bl k)⟩
theorem opr_eq : Opr X.K cl (gC .Eq) (rEqD X.K) := by
  intro ρ st H x y vx vy Q E r rx ry h
  obtain ⟨k, e, q⟩ := gC_post r h
  obtain ⟨a, b, e1, e2, s1, s2, rfl⟩ := eqD_some e
  exact ⟨a, b, dp_of r 60 rx e1 (SeqAt.canLay_of_shaped s1), dp_of r 60 ry e2 (SeqAt.canLay_of_shaped s2), s1, s2, q⟩
theorem opr_ne : Opr X.K cl (gC .NotEq) (rNeD X.K) := by
  intro ρ st H x y vx vy Q E r rx ry h
  obtain ⟨k, e, q⟩ := gC_post r h
  obtain ⟨k', e0, rfl⟩ := Option.map_eq_some_iff.mp (show (eqD st x y).map (!·) = some k from e)
  obtain ⟨a, b, e1, e2, s1, s2, rfl⟩ := eqD_some e0
  exact ⟨a, b, dp_of r 60 rx e1 (SeqAt.canLay_of_shaped s1), dp_of r 60 ry e2 (SeqAt.canLay_of_shaped s2), s1, s2, q⟩
theorem opr_lt : Opr X.K cl (gC .Lt) (rI0 fun i j => .bl (decide (i < j))) := by
  intro ρ st H x y vx vy Q E r rx ry h
  obtain ⟨k, e, q⟩ := gC_post r h
  cases rx with
  | int i => cases ry with
    | int j => cases e; exact ⟨i, j, rfl, rfl, q⟩
    | _ => cases e
  | _ => cases ry <;> cases e
theorem opr_le : Opr X.K cl (gC .LtE) (rI0 fun i j => .bl (decide (i ≤ j))) := by
  intro ρ st H x y vx vy Q E r rx ry h
  obtain ⟨k, e, q⟩ := gC_post r h
  cases rx with
  | int i => cases ry with
    | int j => cases e; exact ⟨i, j, rfl, rfl, q⟩
    | _ => cases e
  | _ => cases ry <;> cases e
theorem opr_gt : Opr X.K cl (gC .Gt) (rI0 fun i j => .bl (decide (j < i))) := by
  intro ρ st H x y vx vy Q E r rx ry h
  obtain ⟨k, e, q⟩ := gC_post r h
  cases rx with
  | int i => cases ry with
    | int j => cases e; exact ⟨i, j, rfl, rfl, q⟩
    | _ => cases e
  | _ => cases ry <;> cases e
theorem opr_ge : Opr X.K cl (gC .GtE) (rI0 fun i j => .bl (decide (j ≤ i))) := by
  intro ρ st H x y vx vy Q E r rx ry h
  obtain ⟨k, e, q⟩ := gC_post r h
  cases rx with
  | int i => cases ry with
    | int j => cases e; exact ⟨i, j, rfl, rfl, q⟩
    | _ => cases e
  | _ => cases ry <;> cases e
def rInT (K : PySem.W.Frag) : R2 := fun x y H Q => ∃ d ds, Dp K H x d ∧ Dp K H y (.tuple ds) ∧ SeqAt.shaped d = true ∧ SeqAt.shaped (.tuple ds) = true ∧ Q (.bl (ds.any fun z => PyData.eqv z d)) H
def rNotInT (K : PySem.W.Frag) : R2 := fun x y H Q => ∃ d ds, Dp K H x d ∧ Dp K H y (.tuple ds) ∧ SeqAt.shaped d = true ∧ SeqAt.shaped (.tuple ds) = true ∧ Q (.bl (!ds.any fun z => PyData.eqv z d)) H
theorem op_inT (hu : X.A.units + 65 < cLine) : OpR X (compareOp .In) (rInT X.K) := by
  intro pins s σ H x y v u Q I rx ry h
  obtain ⟨d, ds, hd, he, sd, se, q⟩ := h
  obtain ⟨as, r1⟩ := Dp.reads I d x v hd rx
  obtain ⟨bs, r2⟩ := Dp.reads I (.tuple ds) y u he ry
  exact SeqAt.in_tuple_reads r2 r1 (SeqAt.canLay_of_shaped se) (SeqAt.canLay_of_shaped sd) (room_in_shaped sd hu) ⟨.bl _, H, I, rfl, q⟩
theorem op_notInT (hu : X.A.units + 65 < cLine) : OpR X (compareOp .NotIn) (rNotInT X.K) := by
  intro pins s σ H x y v u Q I rx ry h
  obtain ⟨d, ds, hd, he, sd, se, q⟩ := h
  obtain ⟨as, r1⟩ := Dp.reads I d x v hd rx
  obtain ⟨bs, r2⟩ := Dp.reads I (.tuple ds) y u he ry
  exact SeqAt.notIn_tuple_reads r2 r1 (SeqAt.canLay_of_shaped se) (SeqAt.canLay_of_shaped sd) (room_in_shaped sd hu) ⟨.bl _, H, I, rfl, q⟩
def rInA (K : PySem.W.Frag) : R2 := fun x y H Q => (∃ (c : Nat) (z : Str), x = .str ⟨#[c]⟩ ∧ y = .str z ∧ Q (.bl (decide (c ∈ z.cps.toList))) H) ∨ rInD K x y H Q ∨ rInT K x y H Q
def rNotInA (K : PySem.W.Frag) : R2 := fun x y H Q => (∃ (c : Nat) (z : Str), x = .str ⟨#[c]⟩ ∧ y = .str z ∧ Q (.bl (!decide (c ∈ z.cps.toList))) H) ∨ rNotInD K x y H Q ∨ rNotInT K x y H Q
theorem or_in (hu : X.A.units + 65 < cLine) : OpR X (compareOp .In) (rInA X.K) := op_in_sign.or ((op_inD hu).or (op_inT hu))
theorem or_notIn (hu : X.A.units + 65 < cLine) : OpR X (compareOp .NotIn) (rNotInA X.K) := op_notIn_sign.or ((op_notInD hu).or (op_notInT hu))
theorem sgn1_some {s : Str} {c : Nat} (h : sgn1 s = some c) : s = ⟨#[c]⟩ := by
  obtain ⟨⟨l⟩⟩ := s
  unfold sgn1 at h
  split at h
  · rename_i d e
    cases h
    have e' : l = [c] := e
    rw [e']
  · cases h
theorem inD_some {K : PySem.W.Frag} {ρ : List Addr} {H : Hp} {st : Store} {x y : D} {vx vy : V} {k : Bool} (r : Rel K cl ρ H st) (rx : RD K ρ H x vx) (ry : RD K ρ H y vy) (h : inD st x y = some k) :
    (∃ (c : Nat) (z : Str), vx = .str ⟨#[c]⟩ ∧ vy = .str z ∧ k = decide (c ∈ z.cps.toList)) ∨
    (∃ d ds, Dp K H vx d ∧ Dp K H vy (.list ds) ∧ SeqAt.shaped d = true ∧ SeqAt.shaped (.list ds) = true ∧ k = ds.any fun z => PyData.eqv z d) ∨
    (∃ d ds, Dp K H vx d ∧ Dp K H vy (.tuple ds) ∧ SeqAt.shaped d = true ∧ SeqAt.shaped (.tuple ds) = true ∧ k = ds.any fun z => PyData.eqv z d) := by
  unfold inD at h
  split at h
  · rename_i z
    split at h
    · rename_i s
      obtain ⟨c, e, rfl⟩ := Option.map_eq_some_iff.mp h
      have es := sgn1_some e
      subst es
      cases rx
      cases ry
      exact .inl ⟨c, z, rfl, rfl, rfl⟩
    · cases h
  · cases e1 : pd st 60 x with
    | none => rw [e1] at h; cases h
    | some p =>
      cases e2 : pd st 60 y with
      | none => rw [e1, e2] at h; cases h
      | some q =>
        rw [e1, e2] at h
        have h' : inSeq p q = some k := h
        unfold inSeq at h'
        split at h'
        · rename_i ps
          by_cases c : (SeqAt.shaped p && SeqAt.shaped (.list ps)) = true
          · rw [if_pos c] at h'
            rw [Bool.and_eq_true] at c
            exact .inr (.inl ⟨p, ps, dp_of r 60 rx e1 (SeqAt.canLay_of_shaped c.1), dp_of r 60 ry e2 (SeqAt.canLay_of_shaped c.2), c.1, c.2, (Option.some.inj h').symm⟩)
          · rw [if_neg c] at h'; cases h'
        · rename_i ps
          by_cases c : (SeqAt.shaped p && SeqAt.shaped (.tuple ps)) = true
          · rw [if_pos c] at h'
            rw [Bool.and_eq_true] at c
            exact .inr (.inr ⟨p, ps, dp_of r 60 rx e1 (SeqAt.canLay_of_shaped c.1), dp_of r 60 ry e2 (SeqAt.canLay_of_shaped c.2), c.1, c.2, (Option.some.inj h').symm⟩)
          · rw [if_neg c] at h'; cases h'
        · cases h'
theorem opr_in : Opr X.K cl (gC .In) (rInA X.K) := by
  intro ρ st H x y vx vy Q E r rx ry h
  obtain ⟨k, e, q⟩ := gC_post r h
  rcases inD_some r rx ry e with ⟨c, z, rfl, rfl, rfl⟩ | ⟨d, ds, h1, h2, h3, h4, rfl⟩ | ⟨d, ds, h1, h2, h3, h4, rfl⟩
  · exact .inl ⟨c, z, rfl, rfl, q⟩
  · exact .inr (.inl ⟨d, ds, h1, h2, h3, h4, q⟩)
  · exact .inr (.inr ⟨d, ds, h1, h2, h3, h4, q⟩)
theorem opr_notIn : Opr X.K cl (gC .NotIn) (rNotInA X.K) := by
  intro ρ st H x y vx vy Q E r rx ry h
  obtain ⟨k, e, q⟩ := gC_post r h
  obtain ⟨k', e0, rfl⟩ := Option.map_eq_some_iff.mp (show (inD st x y).map (!·) = some k from e)
  rcases inD_some r rx ry e0 with ⟨c, z, rfl, rfl, rfl⟩ | ⟨d, ds, h1, h2, h3, h4, rfl⟩ | ⟨d, ds, h1, h2, h3, h4, rfl⟩
  · exact .inl ⟨c, z, rfl, rfl, q⟩
  · exact .inr (.inl ⟨d, ds, h1, h2, h3, h4, q⟩)
  · exact .inr (.inr ⟨d, ds, h1, h2, h3, h4, q⟩)
def rIsA : R2 := fun x y H Q => (y = .non ∧ Q (.bl (decide (x = .non))) H) ∨ rIsB x y H Q
def rIsNotA : R2 := fun x y H Q => (y = .non ∧ Q (.bl (!decide (x = .non))) H) ∨ rNotB x y H Q
theorem or_is : OpR X (compareOp .Is) rIsA := op_isN.or op_isBl
theorem or_isNot : OpR X (compareOp .IsNot) rIsNotA := op_notN.or op_notBl
theorem isD_some {K : PySem.W.Frag} {ρ : List Addr} {H : Hp} {x y : D} {vx vy : V} {k : Bool} (rx : RD K ρ H x vx) (ry : RD K ρ H y vy) (h : isD x y = some k) :
    (vy = .non ∧ k = decide (vx = .non)) ∨ ∃ a b : Bool, vx = .bl a ∧ vy = .bl b ∧ k = decide (a = b) := by
  unfold isD at h
  split at h
  · cases ry
    cases h
    exact .inl ⟨rfl, by cases rx <;> simp⟩
  · rename_i b
    split at h
    · rename_i a
      cases rx; cases ry; cases h
      exact .inr ⟨a, b, rfl, rfl, rfl⟩
    · cases h
  · cases h
theorem opr_is : Opr X.K cl (gC .Is) rIsA := by
  intro ρ st H x y vx vy Q E r rx ry h
  obtain ⟨k, e, q⟩ := gC_post r h
  rcases isD_some rx ry e with ⟨rfl, rfl⟩ | ⟨a, b, rfl, rfl, rfl⟩
  · exact .inl ⟨rfl, q⟩
  · exact .inr ⟨a, b, rfl, rfl, q⟩
theorem opr_isNot : Opr X.K cl (gC .IsNot) rIsNotA := by
  intro ρ st H x y vx vy Q E r rx ry h
  obtain ⟨k, e, q⟩ := gC_post r h
  obtain ⟨k', e0, rfl⟩ := Option.map_eq_some_iff.mp (show (isD x y).map (!·) = some k from e)
  rcases isD_some rx ry e0 with ⟨rfl, rfl⟩ | ⟨a, b, rfl, rfl, rfl⟩
  · exact .inl ⟨rfl, q⟩
  · exact .inr ⟨a, b, rfl, rfl, q⟩
/-- the reading of a comparison by its operator -/
def rCmp (K : PySem.W.Frag) : CmpOp → R2
  | .Eq => rEqD K
  | .NotEq => rNeD K
  | .Lt => rI0 fun i j => .bl (decide (i < j))
  | .LtE => rI0 fun i j => .bl (decide (i ≤ j))
  | .Gt => rI0 fun i j => .bl (decide (j < i))
  | .GtE => rI0 fun i j => .bl (decide (j ≤ i))
  | .Is => rIsA
  | .IsNot => rIsNotA
  | .In => rInA K
  | .NotIn => rNotInA K
theorem or_cmp (hu : X.A.units + 65 < cLine) : ∀ op : CmpOp, OpR X (compareOp op) (rCmp X.K op)
  | .Eq => op_eqD (by omega)
  | .NotEq => op_neD (by omega)
  | .Lt => op_lt
  | .LtE => op_le
  | .Gt => op_gt
  | .GtE => op_ge
  | .Is => or_is
  | .IsNot => or_isNot
  | .In => or_in hu
  | .NotIn => or_notIn hu
theorem opr_cmp : ∀ op : CmpOp, Opr X.K cl (gC op) (rCmp X.K op)
  | .Eq => opr_eq
  | .NotEq => opr_ne
  | .Lt => opr_lt
  | .LtE => opr_le
  | .Gt => opr_gt
  | .GtE => opr_ge
  | .Is => opr_is
  | .IsNot => opr_isNot
  | .In => opr_in
  | .NotIn => opr_notIn
end
end Py
end

section
set_option Elab.async false
set_option linter.all false
set_option maxRecDepth 100000
set_option maxHeartbeats 1000000
/-! Expressions of the small interpreter: what their reading is, and the rules. -/
namespace Py
open PySem PySem.Spec PyProof.Rows L2

/-- the slots' values -/
def RE (K : PySem.W.Frag) (ρ : List Addr) (H : Hp) (env : Sl) (σ : List (Option V)) : Prop :=
  env.length = σ.length ∧ ∀ (i : Nat) (d : D), env[i]? = some (some d) → ∃ v, σ[i]? = some (some v) ∧ RD K ρ H d v
section
variable {K : PySem.W.Frag} {ρ ρ' : List Addr} {H H' : Hp} {env : Sl} {σ : L2.St}
theorem RE.ext (e : Ext K ρ H ρ' H') (h : RE K ρ H env σ) : RE K ρ' H' env σ := ⟨h.1, fun i d q => let ⟨v, a, b⟩ := h.2 i d q; ⟨v, a, b.ext e⟩⟩
theorem RE.set {d : D} {v : V} (h : RE K ρ H env σ) (r : RD K ρ H d v) (i : Nat) : RE K ρ H (env.set i (some d)) (σ.set i (some v)) := by
  refine ⟨by simp [h.1], fun j d' q => ?_⟩
  by_cases hj : i = j
  · subst hj
    by_cases hl : i < env.length
    · rw [List.getElem?_set_self hl] at q
      cases q
      exact ⟨v, by rw [List.getElem?_set_self (by rw [← h.1]; exact hl)], r⟩
    · rw [List.getElem?_eq_none (by simpa using hl)] at q; cases q
  · rw [List.getElem?_set_ne hj] at q ⊢
    exact h.2 j d' q
theorem RE.unset (h : RE K ρ H env σ) (i : Nat) : RE K ρ H (env.set i none) (σ.set i none) := by
  refine ⟨by simp [h.1], fun j d' q => ?_⟩
  by_cases hj : i = j
  · subst hj
    by_cases hl : i < env.length
    · rw [List.getElem?_set_self hl] at q
      cases q
    · rw [List.getElem?_eq_none (by simpa using hl)] at q; cases q
  · rw [List.getElem?_set_ne hj] at q ⊢
    exact h.2 j d' q
theorem RE.wipe (h : RE K ρ H env σ) : ∀ vs : List Nat, RE K ρ H (wiped env vs) (wipe σ vs)
  | [] => h
  | v :: vs => (RE.wipe h vs).unset v
end

/-! ### readings -/
section
variable (K : PySem.W.Frag) (cl : Nat → Addr) (Wh : Nat) (cf : Nat → List D → Store → R D) (Wx : WX)
def tE (e : E) : TE := fun σ H Q => ∃ ρ st env, Rel K cl ρ H st ∧ RE K ρ H env σ ∧ Post (ev cf e env st) (Cont K cl ρ H Q) (ExC K cl ρ H fun c d H' => Wx c d σ H')
def tA (e : E) : TA := fun σ H Q => ∃ ρ st env, Rel K cl ρ H st ∧ RE K ρ H env σ ∧ Post (ev cf e env st) (fun y st' => ∀ ρ' H' vs, Ext K ρ H ρ' H' → Rel K cl ρ' H' st' → RDs K ρ' H' (asTup y) vs → Q vs H') (ExC K cl ρ H fun c d H' => Wx c d σ H')
def tTs (e : E) : TT := fun σ H Q => ∃ ρ st env, Rel K cl ρ H st ∧ RE K ρ H env σ ∧ Post (tr (ev cf e env st)) (fun b st' => ∀ ρ' H', Ext K ρ H ρ' H' → Rel K cl ρ' H' st' → Q b H') (ExC K cl ρ H fun c d H' => Wx c d σ H')
end
theorem pe_w {X : Cx} {e : Expr} {t t' : TE} (h : PE X e t) (w : ∀ σ H Q, t' σ H Q → t σ H Q) : PE X e t' := ⟨fun pins s σ H Q I q => h.run pins s σ H Q I (w σ H Q q)⟩
theorem pt_w {X : Cx} {e : Expr} {t t' : TT} (h : PT X e t) (w : ∀ σ H Q, t' σ H Q → t σ H Q) : PT X e t' := ⟨fun pins s σ H Q I q => h.run pins s σ H Q I (w σ H Q q)⟩
theorem pa_w {X : Cx} {e : List Expr} {t t' : TA} (h : PA X e t) (w : ∀ σ H Q, t' σ H Q → t σ H Q) : PA X e t' := ⟨fun pos pins s σ H Q I q => h.run pos pins s σ H Q I (w σ H Q q)⟩
theorem pg_w {X : Cx} {e : Expr} {t t' : TG} (h : PG X e t) (w : ∀ v σ H Q, t' v σ H Q → t v σ H Q) : PG X e t' := ⟨fun pins s σ H v u Q I r q => h.run pins s σ H v u Q I r (w v σ H Q q)⟩
theorem ps_w {X : Cx} {e : Stmt} {t t' : TS} (h : PS X e t) (w : ∀ D σ H, t' D σ H → t D σ H) : PS X e t' := ⟨fun pins s σ H D I q => h.run pins s σ H D I (w D σ H q)⟩
theorem pss_w {X : Cx} {e : List Stmt} {t t' : TS} (h : PSs X e t) (w : ∀ D σ H, t' D σ H → t D σ H) : PSs X e t' := ⟨fun pins s σ H D I q => h.run pins s σ H D I (w D σ H q)⟩
theorem pi_w {X : Cx} {tg e : Expr} {t t' : TI} (h : PI X tg e t) (w : ∀ σ H Q, t' σ H Q → t σ H Q) : PI X tg e t' := ⟨fun pins s σ H Q I q => h.run pins s σ H Q I (w σ H Q q)⟩
theorem po_w {X : Cx} {e : Option Expr} {t t' : TO} (h : PO X e t) (w : ∀ σ H Q, t' σ H Q → t σ H Q) : PO X e t' := ⟨fun pins s σ H Q I q => h.run pins s σ H Q I (w σ H Q q)⟩

section
variable {K : PySem.W.Frag} {cl : Nat → Addr} {Wh : Nat} {cf : Nat → List D → Store → R D} {Wx : WX} {ρ : List Addr} {H : Hp} {st : Store} {env : Sl} {σ : L2.St}
/-- one part first -/
theorem tE_of {e : E} {Q : VK} (r : Rel K cl ρ H st) (re : RE K ρ H env σ) {φ : D → Store → Prop} (h : Post (ev cf e env st) φ (ExC K cl ρ H fun c d H' => Wx c d σ H')) (w : ∀ d st', φ d st' → Cont K cl ρ H Q d st') :
    tE K cl cf Wx e σ H Q := ⟨ρ, st, env, r, re, h.imp (fun d st' q => w d st' q) fun _ _ _ q => q⟩
theorem tA_of {e : E} {Q : List V → Hp → Prop} (r : Rel K cl ρ H st) (re : RE K ρ H env σ) {φ : D → Store → Prop} (h : Post (ev cf e env st) φ (ExC K cl ρ H fun c d H' => Wx c d σ H'))
    (w : ∀ d st', φ d st' → ∀ ρ' H' vs, Ext K ρ H ρ' H' → Rel K cl ρ' H' st' → RDs K ρ' H' (asTup d) vs → Q vs H') :
    tA K cl cf Wx e σ H Q := ⟨ρ, st, env, r, re, h.imp (fun d st' q => w d st' q) fun _ _ _ q => q⟩
theorem tTs_of {e : E} {Q : Bool → Hp → Prop} (r : Rel K cl ρ H st) (re : RE K ρ H env σ) {φ : Bool → Store → Prop} (h : Post (tr (ev cf e env st)) φ (ExC K cl ρ H fun c d H' => Wx c d σ H'))
    (w : ∀ b st', φ b st' → ∀ ρ' H', Ext K ρ H ρ' H' → Rel K cl ρ' H' st' → Q b H') :
    tTs K cl cf Wx e σ H Q := ⟨ρ, st, env, r, re, h.imp (fun d st' q => w d st' q) fun _ _ _ q => q⟩
theorem post_ext {α : Type} {ρ' : List Addr} {H' : Hp} {P : XK} {r : R α} {φ : α → Store → Prop} (e : Ext K ρ H ρ' H') (h : Post r φ (ExC K cl ρ H P)) : Post r φ (ExC K cl ρ' H' P) := h.imp (fun _ _ q => q) fun _ _ _ q => q.ext e
end

section
variable {X : Cx} {cl : Nat → Addr} {Wh : Nat} {cf : Nat → List D → Store → R D} {Wx : WX} {p q : Expr} {a b c : E} {pos : Pos}
theorem bind_fun {α β : Type} {r : R α} {f g : α → Store → R β} (h : ∀ a st, f a st = g a st) : r.bind f = r.bind g := by
  cases r with
  | ok a st => exact h a st
  | exn c fs st => rfl
  | bad => rfl
/-- two parts, then an operator -/
theorem pe_two {e : E} {g : D → D → Store → R D} {r : R2} {py : Expr} (h : PE X py (tOp r (tE X.K cl cf Wx a) (tE X.K cl cf Wx b))) (ho : Opr X.K cl g r)
    (he : ∀ env st, ev cf e env st = (ev cf a env st).bind fun x st => (ev cf b env st).bind fun y st => g x y st) : PE X py (tE X.K cl cf Wx e) := by
  refine pe_w h fun σ H Q ⟨ρ, st, env, rl, re, hp⟩ => ?_
  rw [he] at hp
  refine tE_of rl re (post_bind.mp hp) fun x st1 h1 ρ1 H1 vx e1 r1 d1 => ?_
  refine tE_of r1 (re.ext e1) (post_ext e1 (post_bind.mp h1)) fun y st2 h2 ρ2 H2 vy e2 r2 d2 => ?_
  exact ho ρ2 st2 H2 x y vx vy Q _ r2 (d1.ext e2) d2 (h2.imp (fun d st' q => q.ext (e1.trans e2)) fun _ _ _ q => q)
theorem pe_bin {op : Operator} {e : E} {g : D → D → Store → R D} {r : R2} (ha : PE X p (tE X.K cl cf Wx a)) (hb : PE X q (tE X.K cl cf Wx b)) (hr : OpR X (binaryOp op) r) (ho : Opr X.K cl g r)
    (he : ∀ env st, ev cf e env st = (ev cf a env st).bind fun x st => (ev cf b env st).bind fun y st => g x y st) : PE X (.BinOp p op q pos) (tE X.K cl cf Wx e) := pe_two (pe_op hr ha hb) ho he
theorem re_add (ha : PE X p (tE X.K cl cf Wx a)) (hb : PE X q (tE X.K cl cf Wx b)) : PE X (.BinOp p .Add q pos) (tE X.K cl cf Wx (.add a b)) := pe_bin ha hb or_add opr_add fun _ _ => rfl
theorem re_mul (ha : PE X p (tE X.K cl cf Wx a)) (hb : PE X q (tE X.K cl cf Wx b)) : PE X (.BinOp p .Mult q pos) (tE X.K cl cf Wx (.mul a b)) := pe_bin ha hb or_mul opr_mul fun _ _ => rfl
theorem re_sub (ha : PE X p (tE X.K cl cf Wx a)) (hb : PE X q (tE X.K cl cf Wx b)) : PE X (.BinOp p .Sub q pos) (tE X.K cl cf Wx (.sub a b)) :=
  pe_bin (r := rI (fun _ _ => True) fun i j => .int (i - j)) (g := gI (fun _ _ => true) fun i j => i - j) ha hb (fun pins s σ H x y v u Q I r1 r2 ⟨i, j, e1, e2, _, h⟩ => op_sub pins s σ H x y v u Q I r1 r2 ⟨i, j, e1, e2, h⟩) (opr_int fun _ _ _ => trivial) fun env st => bind_fun fun x st => bind_fun fun y st => by cases x <;> cases y <;> rfl
theorem re_fdiv (ha : PE X p (tE X.K cl cf Wx a)) (hb : PE X q (tE X.K cl cf Wx b)) : PE X (.BinOp p .FloorDiv q pos) (tE X.K cl cf Wx (.fdiv a b)) :=
  pe_bin (g := gI (fun _ j => divOk j) fun i j => i / j) ha hb op_fdivW (opr_int fun _ j h => of_decide_eq_true (p := 0 < j ∧ j.natAbs.log2 < 9000) h) fun env st => bind_fun fun x st => bind_fun fun y st => by cases x <;> cases y <;> rfl
theorem re_mod (ha : PE X p (tE X.K cl cf Wx a)) (hb : PE X q (tE X.K cl cf Wx b)) : PE X (.BinOp p .Mod q pos) (tE X.K cl cf Wx (.mod a b)) :=
  pe_bin (g := gI (fun _ j => decide (0 < j)) fun i j => i % j) ha hb op_mod (opr_int fun _ _ h => of_decide_eq_true h) fun env st => bind_fun fun x st => bind_fun fun y st => by
    cases x <;> cases y <;> first
      | rfl
      | (show (if _ then _ else _) = (if _ then _ else _); simp only [decide_eq_true_eq])
theorem re_pow (ha : PE X p (tE X.K cl cf Wx a)) (hb : PE X q (tE X.K cl cf Wx b)) : PE X (.BinOp p .Pow q pos) (tE X.K cl cf Wx (.pow a b)) :=
  pe_bin (g := gI powOk fun i j => i ^ j.toNat) ha hb op_pow (opr_int fun i j h => of_decide_eq_true (p := 0 ≤ j ∧ j ≤ 1000000 ∧ i.natAbs < 2 ^ 64) h) fun env st => bind_fun fun x st => bind_fun fun y st => by cases x <;> cases y <;> rfl
theorem re_cmp {op : CmpOp} (hu : X.A.units + 65 < cLine) (ha : PE X p (tE X.K cl cf Wx a)) (hb : PE X q (tE X.K cl cf Wx b)) (hm : behindInMarks op q = false) : PE X (.Compare p [op] [q] pos) (tE X.K cl cf Wx (.cmp op a b)) :=
  pe_two (pe_cmpR (or_cmp hu op) ha hb hm) (opr_cmp op) fun _ _ => rfl

/-! ### names, constants -/
theorem re_var {i : Nat} {x : Str} (hN : X.N[i]? = some x) (hv : Vis X.env.scope x) (hd : (x == ("__debug__" : Str)) = false) (hcd : (x == ("__classdict__" : Str)) = false) : PE X (.Name x pos) (tE X.K cl cf Wx (.var i)) := by
  refine pe_w (pe_var hN hv hd hcd) fun σ H Q ⟨ρ, st, env, rl, re, hp⟩ => ?_
  obtain ⟨d, e, h⟩ := post_of.mp (show Post (R.of (match env[i]? with | some (some d) => some d | _ => none) st) _ _ from hp)
  split at e
  · rename_i d' e2
    cases e
    obtain ⟨v, h1, h2⟩ := re.2 i d e2
    exact ⟨v, h1, h.here rl h2⟩
  · cases e
theorem re_const {e : E} {d : D} {v : V} {py : Expr} (h : PE X py (tC v)) (he : ∀ env st, ev cf e env st = .ok d st) (hd : ∀ ρ H, RD X.K ρ H d v) : PE X py (tE X.K cl cf Wx e) := by
  refine pe_w h fun σ H Q ⟨ρ, st, env, rl, re, hp⟩ => ?_
  rw [he] at hp
  exact Cont.here hp rl (hd ρ H)
theorem re_int {i : Int} {j : Nat} : PE X (.Constant (.int i) j pos) (tE X.K cl cf Wx (.int i)) := re_const pe_int (fun _ _ => rfl) fun _ _ => .int i
theorem re_bl {i : Bool} {j : Nat} : PE X (.Constant (.bool i) j pos) (tE X.K cl cf Wx (.bl i)) := re_const pe_bl (fun _ _ => rfl) fun _ _ => .bl i
theorem re_non {j : Nat} : PE X (.Constant .none j pos) (tE X.K cl cf Wx .non) := re_const pe_non (fun _ _ => rfl) fun _ _ => .non
theorem re_str {i : Str} {j : Nat} : PE X (.Constant (.str i) j pos) (tE X.K cl cf Wx (.str i)) := re_const pe_str (fun _ _ => rfl) fun _ _ => .str i
theorem re_neg (ha : PE X p (tE X.K cl cf Wx a)) : PE X (.UnaryOp .USub p pos) (tE X.K cl cf Wx (.neg a)) := by
  refine pe_w (pe_un un_neg ha) fun σ H Q ⟨ρ, st, env, rl, re, hp⟩ => ?_
  refine tE_of rl re (post_bind.mp hp) fun x st1 h1 ρ1 H1 vx e1 r1 d1 => ?_
  cases d1 with
  | int i => exact ⟨i, rfl, (show Cont X.K cl ρ H Q (.int (-i)) st1 from h1) _ _ _ e1 r1 (.int _)⟩
  | _ => exact h1.elim

/-! ### arguments, displays -/
theorem ra_nil : PA X [] (tA X.K cl cf Wx .nil) := by
  refine pa_w pa_nil fun σ H Q ⟨ρ, st, env, rl, re, hp⟩ => ?_
  exact hp ρ H [] Ext.refl rl .nil
theorem ra_cons {ps : List Expr} {r : E} (ha : PE X p (tE X.K cl cf Wx a)) (hr : PA X ps (tA X.K cl cf Wx r)) (hs : starEach (p :: ps) X.env = (false, eval p X.env) :: starEach ps X.env) : PA X (p :: ps) (tA X.K cl cf Wx (.cons a r)) := by
  refine pa_w (pa_cons ha hr hs) fun σ H Q ⟨ρ, st, env, rl, re, hp⟩ => ?_
  refine tE_of rl re (post_bind.mp hp) fun x st1 h1 ρ1 H1 vx e1 r1 d1 => ?_
  refine tA_of r1 (re.ext e1) (post_ext e1 (post_bind.mp h1)) fun y st2 h2 ρ2 H2 vs e2 r2 d2 => ?_
  exact (show ∀ ρ' H' us, Ext X.K ρ H ρ' H' → Rel X.K cl ρ' H' st2 → RDs X.K ρ' H' (x :: asTup y) us → Q us H' from h2) ρ2 H2 _ (e1.trans e2) r2 (.cons (d1.ext e2) d2)
theorem re_tup {ps : List Expr} {es : E} {k : Nat} (hsz : ps.length ≤ sizeLine) (ha : PA X ps (tA X.K cl cf Wx es)) (hl : ∀ env st d st', ev cf es env st = .ok d st' → (asTup d).length = ps.length) : PE X (.Tuple ps k pos) (tE X.K cl cf Wx (.tup es)) := by
  refine pe_w (pe_tup ha) fun σ H Q ⟨ρ, st, env, rl, re, hp⟩ => ?_
  have hp2 := post_bind.mp (show Post ((ev cf es env st).bind fun y st => .ok (D.tup (asTup y)) st) (Cont X.K cl ρ H Q) (ExC X.K cl ρ H fun c d H' => Wx c d σ H') from hp)
  cases e : ev cf es env st with
  | ok d st' =>
    have hlen := hl env st d st' e
    rw [e] at hp2
    refine ⟨ρ, st, env, rl, re, ?_⟩
    rw [e]
    intro ρ1 H1 vs e1 r1 d1
    refine ⟨by rw [← d1.length, hlen]; exact hsz, fun q hq => ?_⟩
    exact (Cont.ext e1 hp2).tup r1 d1 hq
  | exn c fs st' =>
    rw [e] at hp2
    exact ⟨ρ, st, env, rl, re, by rw [e]; exact hp2⟩
  | bad => rw [e] at hp2; exact hp2.elim
theorem re_lst {ps : List Expr} {es : E} (hsz : ps.length ≤ sizeLine) (ha : PA X ps (tA X.K cl cf Wx es)) (hl : ∀ env st d st', ev cf es env st = .ok d st' → (asTup d).length = ps.length) : PE X (.List ps pos) (tE X.K cl cf Wx (.lst es)) := by
  refine pe_w (pe_lst ha) fun σ H Q ⟨ρ, st, env, rl, re, hp⟩ => ?_
  have hp2 := post_bind.mp (show Post ((ev cf es env st).bind fun y st => .ok (D.ref st.length) (st ++ [.lst (asTup y)])) (Cont X.K cl ρ H Q) (ExC X.K cl ρ H fun c d H' => Wx c d σ H') from hp)
  cases e : ev cf es env st with
  | ok d st' =>
    have hlen := hl env st d st' e
    rw [e] at hp2
    refine ⟨ρ, st, env, rl, re, ?_⟩
    rw [e]
    intro ρ1 H1 vs e1 r1 d1
    refine ⟨by rw [← d1.length, hlen]; exact hsz, fun q hq => ?_⟩
    exact (Cont.ext e1 hp2).push r1 (.lst d1) hq
  | exn c fs st' =>
    rw [e] at hp2
    exact ⟨ρ, st, env, rl, re, by rw [e]; exact hp2⟩
  | bad => rw [e] at hp2; exact hp2.elim
theorem re_dK : PE X (.Dict [] [] pos) (tE X.K cl cf Wx .dnewK) := by
  refine pe_w pe_dnewK fun σ H Q ⟨ρ, st, env, rl, re, hp⟩ => fun q hq => ?_
  exact Cont.push (show Cont X.K cl ρ H Q (.ref st.length) (st ++ [.dK []]) from hp) rl (.dK .nil) hq
theorem re_dT : PE X (.Dict [] [] pos) (tE X.K cl cf Wx .dnewT) := by
  refine pe_w pe_dnewT fun σ H Q ⟨ρ, st, env, rl, re, hp⟩ => fun q hq => ?_
  exact Cont.push (show Cont X.K cl ρ H Q (.ref st.length) (st ++ [.dT []]) from hp) rl (.dT .nil) hq

/-! ### subscripts, slices -/
theorem RDs.get {K : PySem.W.Frag} {ρ : List Addr} {H : Hp} : ∀ {ds : List D} {vs : List V} {i : Nat} {d : D}, RDs K ρ H ds vs → ds[i]? = some d → ∃ v, vs[i]? = some v ∧ RD K ρ H d v
  | _, _, _, _, .nil, e => by simp at e
  | _, _, 0, _, .cons r _, e => by simp at e; subst e; exact ⟨_, rfl, r⟩
  | _, _, i + 1, _, .cons _ t, e => by
    obtain ⟨v, h1, h2⟩ := RDs.get (i := i) t (by simpa using e)
    exact ⟨v, by simpa using h1, h2⟩
theorem RDs.atI {K : PySem.W.Frag} {ρ : List Addr} {H : Hp} {ds : List D} {vs : List V} {i : Int} {d : D} (h : RDs K ρ H ds vs) (e : atI ds i = some d) : ∃ v, L2.atI vs i = some v ∧ RD K ρ H d v := by
  unfold L2.atI at e ⊢
  rw [← h.length]
  cases q : ixN ds.length i with
  | none => rw [q] at e; cases e
  | some j =>
    rw [q] at e
    exact h.get e
theorem opr_ix : Opr X.K cl (fun x y st => R.of (ixD st x y) st) (rIx X.K) := by
  intro ρ st H x y vx vy Q E r rx ry h
  obtain ⟨d, e, h2⟩ := post_of.mp h
  cases rx with
  | @tup a ds vs sa qa => cases ry with
    | int i =>
      obtain ⟨v, h3, h4⟩ := qa.atI e
      exact .inr (.inl ⟨a, vs, i, v, rfl, rfl, sa, h3, h2.here r h4⟩)
    | _ => cases e
  | @ref n a ha => cases ry with
    | int i =>
      have e' : (match lstAt st n with | some xs => atI xs i | none => none) = some d := e
      split at e'
      · rename_i xs e1
        obtain ⟨vs, s1, q1⟩ := r.list e1 ha
        obtain ⟨v, h3, h4⟩ := q1.atI e'
        exact .inl ⟨a, vs, i, v, rfl, rfl, s1, h3, h2.here r h4⟩
      · cases e'
    | _ => cases e
  | str z => cases ry with
    | int i =>
      have e' : (if z.length ≤ sizeLine then (L2.atI z.cps.toList i).map fun c => D.str ⟨#[c]⟩ else none) = some d := e
      by_cases c : z.length ≤ sizeLine
      · rw [if_pos c] at e'
        obtain ⟨u, h3, rfl⟩ := Option.map_eq_some_iff.mp e'
        exact .inr (.inr ⟨z, i, u, rfl, rfl, c, h3, h2.here r (.str _)⟩)
      · rw [if_neg c] at e'; cases e'
    | _ => cases e
  | _ => cases ry <;> cases e
theorem re_ix (ha : PE X p (tE X.K cl cf Wx a)) (hb : PE X q (tE X.K cl cf Wx b)) (hs : PlainIx q) : PE X (.Subscript p q pos) (tE X.K cl cf Wx (.ix a b)) :=
  pe_two (pe_ix ix_seq ha hb hs) opr_ix fun _ _ => rfl
/-- a slice's part -/
def evP (cf : Nat → List D → Store → R D) (o : E) (env : Sl) (st : Store) : R (Option Int) := match o with
  | .np => R.ok none st
  | _ => (ev cf o env st).bind fun l st => R.of (part l) st
def tP (K : PySem.W.Frag) (cl : Nat → Addr) (cf : Nat → List D → Store → R D) (Wx : WX) (o : E) : TO := fun σ H Q => ∃ ρ st env, Rel K cl ρ H st ∧ RE K ρ H env σ ∧ Post (evP cf o env st) (fun y st' => ∀ ρ' H', Ext K ρ H ρ' H' → Rel K cl ρ' H' st' → Q y H') (ExC K cl ρ H fun c d H' => Wx c d σ H')
theorem rp_none : PO X none (tP X.K cl cf Wx .np) := po_w po_none fun σ H Q ⟨ρ, st, env, rl, re, hp⟩ => hp ρ H Ext.refl rl
theorem rp_some (ha : PE X p (tE X.K cl cf Wx a)) (hn : a ≠ .np) : PO X (some p) (tP X.K cl cf Wx a) := by
  refine po_w (po_some ha) fun σ H Q ⟨ρ, st, env, rl, re, hp⟩ => ?_
  have hp2 : Post ((ev cf a env st).bind fun l st => R.of (part l) st) (fun y st' => ∀ ρ' H', Ext X.K ρ H ρ' H' → Rel X.K cl ρ' H' st' → Q y H') (ExC X.K cl ρ H fun c d H' => Wx c d σ H') := by
    unfold evP at hp
    split at hp
    · exact absurd rfl hn
    · exact hp
  refine tE_of rl re (post_bind.mp hp2) fun x st1 h1 ρ1 H1 vx e1 r1 d1 => ?_
  obtain ⟨o, e, h2⟩ := post_of.mp h1
  cases d1 with
  | int i =>
    cases e
    exact ⟨i, rfl, h2 _ _ e1 r1⟩
  | _ => cases e
def rSlice (K : PySem.W.Frag) : V → Option Int → Option Int → Hp → VK → Prop := fun x lo hi H Q => (∃ z, x = .str z ∧ z.length ≤ sizeLine ∧ Q (.str (cutS z lo hi)) H) ∨ rSlA K x lo hi H Q ∨ rSlL K x lo hi H Q
end
end Py
end

section
set_option Elab.async false
set_option linter.all false
set_option maxRecDepth 100000
set_option maxHeartbeats 1000000
/-! Expressions, further: slices, truth, tests, calls. -/
namespace Py
open PySem PySem.Spec PyProof.Rows L2

section
variable {X : Cx} {cl : Nat → Addr} {Wh : Nat} {cf : Nat → List D → Store → R D} {Wx : WX} {p q : Expr} {a b c : E} {pos : Pos}
theorem or_slice : SlR X (rSlice X.K) := sl_str.or (sl_tupA.or sl_list)
theorem RDs.drop {K : PySem.W.Frag} {ρ : List Addr} {H : Hp} : ∀ {ds : List D} {vs : List V} (n : Nat), RDs K ρ H ds vs → RDs K ρ H (ds.drop n) (vs.drop n)
  | _, _, 0, h => h
  | _, _, _ + 1, .nil => .nil
  | _, _, n + 1, .cons _ t => RDs.drop n t
theorem RDs.take {K : PySem.W.Frag} {ρ : List Addr} {H : Hp} : ∀ {ds : List D} {vs : List V} (n : Nat), RDs K ρ H ds vs → RDs K ρ H (ds.take n) (vs.take n)
  | _, _, 0, _ => .nil
  | _, _, _ + 1, .nil => .nil
  | _, _, n + 1, .cons a t => .cons a (RDs.take n t)
theorem RDs.cut {K : PySem.W.Frag} {ρ : List Addr} {H : Hp} {ds : List D} {vs : List V} (h : RDs K ρ H ds vs) (lo hi : Option Int) : RDs K ρ H (cutD ds lo hi) (cutV vs lo hi) := by
  unfold cutD cutV
  rw [← h.length]
  exact (h.drop _).take _
theorem cut_whole (ds : List D) (lo hi : Option Int) (h : HT.sIx ds.length 0 lo = 0 ∧ HT.sIx ds.length ds.length hi = ds.length) : cutD ds lo hi = ds := by
  unfold cutD
  rw [h.1, h.2]
  simp
theorem re_sl {lo hi : Option Expr} {l h : E} {p2 : Pos} (ha : PE X p (tE X.K cl cf Wx a)) (hl : PO X lo (tP X.K cl cf Wx l)) (hh : PO X hi (tP X.K cl cf Wx h)) : PE X (.Subscript p (.Slice lo hi none p2) pos) (tE X.K cl cf Wx (.sl a l h)) := by
  refine pe_w (pe_slice or_slice ha hl hh) fun σ H Q ⟨ρ, st, env, rl, re, hp⟩ => ?_
  have hp2 : Post ((ev cf a env st).bind fun x st => (evP cf l env st).bind fun l st => (evP cf h env st).bind fun h st => slD st l h x) (Cont X.K cl ρ H Q) (ExC X.K cl ρ H fun c d H' => Wx c d σ H') := hp
  refine tE_of rl re (post_bind.mp hp2) fun x st1 h1 ρ1 H1 vx e1 r1 d1 => ?_
  refine ⟨ρ1, st1, env, r1, re.ext e1, (post_ext e1 (post_bind.mp h1)).imp (fun lo st2 h2 ρ2 H2 e2 r2 => ?_) fun _ _ _ q => q⟩
  refine ⟨ρ2, st2, env, r2, (re.ext e1).ext e2, (post_ext (e1.trans e2) (post_bind.mp h2)).imp (fun hi st3 h3 ρ3 H3 e3 r3 => ?_) fun _ _ _ q => q⟩
  have ee := e1.trans (e2.trans e3)
  have dx := (d1.ext e2).ext e3
  cases dx with
  | @tup t ds vs sa qa =>
    have h3 : Cont X.K cl ρ H Q (.tup (cutD ds lo hi)) st3 := h3
    refine .inr (.inl ⟨t, vs, rfl, sa, fun w => ?_, fun _ p hp => (h3.ext ee).tup r3 (qa.cut lo hi) hp⟩)
    rw [← qa.length] at w
    rw [cut_whole ds lo hi w] at h3
    exact h3 _ _ _ ee r3 (.tup sa qa)
  | @ref n t ha =>
    have h3' : Post (match lstAt st3 n with
      | some xs => .ok (.ref st3.length) (st3 ++ [.lst (cutD xs lo hi)])
      | none => .bad) (Cont X.K cl ρ H Q) (ExC X.K cl ρ H fun c d H' => Wx c d σ H') := h3
    split at h3'
    · rename_i xs e
      obtain ⟨vs, s1, q1⟩ := r3.list e ha
      exact .inr (.inr ⟨t, vs, rfl, s1, fun p hp => Cont.push ((show Cont X.K cl ρ H Q _ _ from h3').ext ee) r3 (.lst (q1.cut lo hi)) hp⟩)
    · exact h3'.elim
  | str z =>
    obtain ⟨h4, h5⟩ := post_if h3
    exact .inl ⟨z, rfl, h4, (show Cont X.K cl ρ H Q (.str (cutS z lo hi)) st3 from h5) _ _ _ ee r3 (.str _)⟩
  | _ => exact h3.elim

/-! ### truth -/
theorem truth_ok {K : PySem.W.Frag} {ρ : List Addr} {H : Hp} {st : Store} {d : D} {v : V} {k : Bool} (r : Rel K cl ρ H st) (rd : RD K ρ H d v) (h : truth st d = some k) : TruV K v H k := by
  cases rd with
  | non => cases h; rfl
  | bl b => cases h; rfl
  | int i => cases h; rfl
  | str s =>
    have h' : (if s.length ≤ sizeLine then some (s.length != 0) else none) = some k := h
    by_cases c : s.length ≤ sizeLine
    · rw [if_pos c] at h'
      refine ⟨c, ?_⟩
      rw [← Option.some.inj h']
      cases hs : s.length with
      | zero => rfl
      | succ n => exact (bne_iff_ne.mpr (by omega)).trans (bne_iff_ne.mpr (by omega)).symm
    · rw [if_neg c] at h'; cases h'
  | @tup a ds vs sa qa =>
    refine .inr (.inl ⟨vs, sa, ?_⟩)
    rw [← Option.some.inj (show some (!ds.isEmpty) = some k from h)]
    cases qa <;> rfl
  | @ref n a ha =>
    have h' : (match st[n]? with
      | some (.lst xs) => some (!xs.isEmpty)
      | some (.dK kvs) => some (!kvs.isEmpty)
      | _ => none) = some k := h
    split at h'
    · rename_i xs e
      obtain ⟨u, hu, ho⟩ := r.obj _ _ _ e ha
      cases ho with
      | lst ho =>
        refine .inl ⟨_, .inl (.inl hu), ?_⟩
        rw [← Option.some.inj h']
        cases ho <;> rfl
    · rename_i xs e
      obtain ⟨u, hu, ho⟩ := r.obj _ _ _ e ha
      cases ho with
      | dK ho =>
        refine .inr (.inr ⟨_, hu, ?_⟩)
        rw [← Option.some.inj h']
        cases ho <;> rfl
    · cases h'
theorem re_and {rest : List Expr} {y : Expr} (ha : PE X p (tE X.K cl cf Wx a)) (hb : PE X (.BoolOp .And (y :: rest) pos) (tE X.K cl cf Wx b)) : PE X (.BoolOp .And (p :: y :: rest) pos) (tE X.K cl cf Wx (.and a b)) := by
  refine pe_w (pe_andT ha hb) fun σ H Q ⟨ρ, st, env, rl, re, hp⟩ => ?_
  refine tE_of rl re (post_bind.mp hp) fun x st1 h1 ρ1 H1 vx e1 r1 d1 => ?_
  obtain ⟨k, e, h2⟩ := post_of.mp (post_bind.mp h1)
  refine ⟨k, truth_ok r1 d1 e, ?_⟩
  cases k with
  | true => exact ⟨ρ1, st1, env, r1, re.ext e1, (post_ext e1 (show Post (ev cf b env st1) _ _ from h2)).imp (fun _ _ q => q.ext e1) fun _ _ _ q => q⟩
  | false => exact (show Cont X.K cl ρ H Q x st1 from h2) _ _ _ e1 r1 d1
theorem re_or {rest : List Expr} {y : Expr} (ha : PE X p (tE X.K cl cf Wx a)) (hb : PE X (.BoolOp .Or (y :: rest) pos) (tE X.K cl cf Wx b)) : PE X (.BoolOp .Or (p :: y :: rest) pos) (tE X.K cl cf Wx (.or a b)) := by
  refine pe_w (pe_orT ha hb) fun σ H Q ⟨ρ, st, env, rl, re, hp⟩ => ?_
  refine tE_of rl re (post_bind.mp hp) fun x st1 h1 ρ1 H1 vx e1 r1 d1 => ?_
  obtain ⟨k, e, h2⟩ := post_of.mp (post_bind.mp h1)
  refine ⟨k, truth_ok r1 d1 e, ?_⟩
  cases k with
  | false => exact ⟨ρ1, st1, env, r1, re.ext e1, (post_ext e1 (show Post (ev cf b env st1) _ _ from h2)).imp (fun _ _ q => q.ext e1) fun _ _ _ q => q⟩
  | true => exact (show Cont X.K cl ρ H Q x st1 from h2) _ _ _ e1 r1 d1
theorem re_not (ha : PE X p (tE X.K cl cf Wx a)) : PE X (.UnaryOp .Not p pos) (tE X.K cl cf Wx (.not a)) := by
  refine pe_w (pe_notT ha) fun σ H Q ⟨ρ, st, env, rl, re, hp⟩ => ?_
  refine tE_of rl re (post_bind.mp hp) fun x st1 h1 ρ1 H1 vx e1 r1 d1 => ?_
  obtain ⟨k, e, h2⟩ := post_of.mp (post_bind.mp h1)
  exact ⟨k, truth_ok r1 d1 e, (show Cont X.K cl ρ H Q (.bl (!k)) st1 from h2) _ _ _ e1 r1 (.bl _)⟩
theorem re_chain {op op' : CmpOp} {s : Expr} (hu : X.A.units + 65 < cLine) (ha : PE X p (tE X.K cl cf Wx a)) (hb : PE X q (tE X.K cl cf Wx b)) (hc : PE X s (tE X.K cl cf Wx c)) (hm : lastMarks [op, op'] [q, s] = false) :
    PE X (.Compare p [op, op'] [q, s] pos) (tE X.K cl cf Wx (.chain op op' a b c)) := by
  refine pe_w (pe_chain (or_cmp hu op) (or_cmp hu op') ha hb hc hm) fun σ H Q ⟨ρ, st, env, rl, re, hp⟩ => ?_
  refine tE_of rl re (post_bind.mp hp) fun x st1 h1 ρ1 H1 vx e1 r1 d1 => ?_
  refine tE_of r1 (re.ext e1) (post_ext e1 (post_bind.mp h1)) fun y st2 h2 ρ2 H2 vy e2 r2 d2 => ?_
  obtain ⟨k, e, h3⟩ := post_of.mp (post_bind.mp h2)
  refine opr_cmp (X := X) (cl := cl) op ρ2 st2 H2 x y vx vy _ (fun _ _ _ => True) r2 (d1.ext e2) d2 ?_
  refine post_gC e ?_
  intro ρ3 H3 vz e3 r3 d3
  cases d3
  refine ⟨k, rfl, ?_⟩
  have ee := e1.trans (e2.trans e3)
  cases k with
  | false => exact (show Cont X.K cl ρ H Q (.bl false) st2 from h3) _ _ _ ee r3 (.bl _)
  | true =>
    have h4 : Post ((ev cf c env st2).bind fun z st => (R.of (cmpD st op' y z) st).bind fun k st => .ok (.bl k) st) (Cont X.K cl ρ H Q) (ExC X.K cl ρ H fun c d H' => Wx c d σ H') := h3
    rw [if_pos rfl]
    refine tE_of r3 (re.ext ee) (post_ext ee (post_bind.mp h4)) fun z st4 h5 ρ4 H4 vz e4 r4 d4 => ?_
    exact opr_cmp (X := X) (cl := cl) op' ρ4 st4 H4 y z vy vz Q _ r4 ((d2.ext e3).ext e4) d4 (h5.imp (fun d st q => Cont.ext (ee.trans e4) q) fun _ _ _ q => q)

/-! ### tests -/
/-- any expression whose test is its value's truth -/
theorem rt_val (ha : PE X p (tE X.K cl cf Wx a)) (he : ∀ whole, isTrue p X.env whole = (do let v ← whole; standAt p.pos; holding [v] (truthy v))) : PT X p (tTs X.K cl cf Wx a) := by
  refine pt_w (pt_truth ha he) fun σ H Q ⟨ρ, st, env, rl, re, hp⟩ => ?_
  refine tE_of rl re (post_bind.mp hp) fun x st1 h1 ρ1 H1 vx e1 r1 d1 => ?_
  obtain ⟨k, e, h2⟩ := post_of.mp h1
  exact ⟨k, truth_ok r1 d1 e, h2 _ _ e1 r1⟩
theorem pw_of {op : BoolOp} {vs : List Expr} {t : TT} (h : PT X (.BoolOp op vs pos) t) : PW X (.BoolOp op vs pos) t := ⟨fun whole pins s σ H Q I q => by
  have h1 := h.run pins s σ H Q I q
  have e : ∀ w, isTrue (.BoolOp op vs pos) X.env w = allTrue op vs X.env := fun w => by
    rw [PySem.isTrue]
  rw [e] at h1 ⊢
  exact h1⟩
theorem tr_and {env : Sl} {st : Store} {Q : Bool → Store → Prop} {E : Nat → List (Str × D) → Store → Prop} (h : Post (tr (ev cf (.and a b) env st)) Q E) : Post (tr (ev cf a env st)) (fun k st => if k = true then Post (tr (ev cf b env st)) Q E else Q false st) E := by
  have h1 : Post (((ev cf a env st).bind fun x st => (R.of (truth st x) st).bind fun k st => if k then ev cf b env st else .ok x st).bind fun d st => R.of (truth st d) st) Q E := h
  refine post_bind.mpr ((post_bind.mp (post_bind.mp h1)).imp (fun x st1 h2 => ?_) fun _ _ _ q => q)
  obtain ⟨k, e, h3⟩ := post_of.mp (post_bind.mp h2)
  refine post_of.mpr ⟨k, e, ?_⟩
  cases k with
  | true => exact post_bind.mpr h3
  | false =>
    obtain ⟨k', e', h4⟩ := post_of.mp (show Post (R.of (truth st1 x) st1) Q E from h3)
    rw [e] at e'
    cases e'
    exact h4
theorem tr_or {env : Sl} {st : Store} {Q : Bool → Store → Prop} {E : Nat → List (Str × D) → Store → Prop} (h : Post (tr (ev cf (.or a b) env st)) Q E) : Post (tr (ev cf a env st)) (fun k st => if k = true then Q true st else Post (tr (ev cf b env st)) Q E) E := by
  have h1 : Post (((ev cf a env st).bind fun x st => (R.of (truth st x) st).bind fun k st => if k then .ok x st else ev cf b env st).bind fun d st => R.of (truth st d) st) Q E := h
  refine post_bind.mpr ((post_bind.mp (post_bind.mp h1)).imp (fun x st1 h2 => ?_) fun _ _ _ q => q)
  obtain ⟨k, e, h3⟩ := post_of.mp (post_bind.mp h2)
  refine post_of.mpr ⟨k, e, ?_⟩
  cases k with
  | false => exact post_bind.mpr h3
  | true =>
    obtain ⟨k', e', h4⟩ := post_of.mp (show Post (R.of (truth st1 x) st1) Q E from h3)
    rw [e] at e'
    cases e'
    exact h4
theorem rt_and {rest : List Expr} {y : Expr} (ha : PT X p (tTs X.K cl cf Wx a)) (hb : PW X (.BoolOp .And (y :: rest) pos) (tTs X.K cl cf Wx b)) : PT X (.BoolOp .And (p :: y :: rest) pos) (tTs X.K cl cf Wx (.and a b)) := by
  refine pt_w (pw_and ha hb).pt fun σ H Q ⟨ρ, st, env, rl, re, hp⟩ => ?_
  refine tTs_of rl re (tr_and hp) fun k st1 h1 ρ1 H1 e1 r1 => ?_
  cases k with
  | true => exact ⟨ρ1, st1, env, r1, re.ext e1, (post_ext e1 h1).imp (fun _ _ q ρ' H' e r => q ρ' H' (e1.trans e) r) fun _ _ _ q => q⟩
  | false => exact (show ∀ ρ' H', Ext X.K ρ H ρ' H' → Rel X.K cl ρ' H' st1 → Q false H' from h1) _ _ e1 r1
theorem rt_or {rest : List Expr} {y : Expr} (ha : PT X p (tTs X.K cl cf Wx a)) (hb : PW X (.BoolOp .Or (y :: rest) pos) (tTs X.K cl cf Wx b)) : PT X (.BoolOp .Or (p :: y :: rest) pos) (tTs X.K cl cf Wx (.or a b)) := by
  refine pt_w (pw_or ha hb).pt fun σ H Q ⟨ρ, st, env, rl, re, hp⟩ => ?_
  refine tTs_of rl re (tr_or hp) fun k st1 h1 ρ1 H1 e1 r1 => ?_
  cases k with
  | false => exact ⟨ρ1, st1, env, r1, re.ext e1, (post_ext e1 h1).imp (fun _ _ q ρ' H' e r => q ρ' H' (e1.trans e) r) fun _ _ _ q => q⟩
  | true => exact (show ∀ ρ' H', Ext X.K ρ H ρ' H' → Rel X.K cl ρ' H' st1 → Q true H' from h1) _ _ e1 r1
theorem rt_not (ha : PT X p (tTs X.K cl cf Wx a)) : PT X (.UnaryOp .Not p pos) (tTs X.K cl cf Wx (.not a)) := by
  refine pt_w (pt_not ha) fun σ H Q ⟨ρ, st, env, rl, re, hp⟩ => ?_
  have h1 : Post (((ev cf a env st).bind fun x st => (R.of (truth st x) st).bind fun k st => .ok (.bl (!k)) st).bind fun d st => R.of (truth st d) st) (fun b st' => ∀ ρ' H', Ext X.K ρ H ρ' H' → Rel X.K cl ρ' H' st' → Q b H') (ExC X.K cl ρ H fun c d H' => Wx c d σ H') := hp
  refine tTs_of (φ := fun k st' => ∀ ρ' H', Ext X.K ρ H ρ' H' → Rel X.K cl ρ' H' st' → Q (!k) H') rl re (post_bind.mpr ((post_bind.mp (post_bind.mp h1)).imp (fun x st1 h2 => ?_) fun _ _ _ q => q)) fun k st1 h ρ1 H1 e1 r1 => h ρ1 H1 e1 r1
  obtain ⟨k, e, h3⟩ := post_of.mp (post_bind.mp h2)
  exact post_of.mpr ⟨k, e, h3⟩
theorem rt_cmp {op : CmpOp} (hu : X.A.units + 65 < cLine) (ha : PE X p (tE X.K cl cf Wx a)) (hb : PE X q (tE X.K cl cf Wx b)) (hm : behindInMarks op q = false) : PT X (.Compare p [op] [q] pos) (tTs X.K cl cf Wx (.cmp op a b)) := by
  refine pt_w (pt_cmpR (or_cmp hu op) ha hb hm) fun σ H Q ⟨ρ, st, env, rl, re, hp⟩ => ?_
  have hp2 : Post (((ev cf a env st).bind fun x st => (ev cf b env st).bind fun y st => gC op x y st).bind fun d st => R.of (truth st d) st) (fun b st' => ∀ ρ' H', Ext X.K ρ H ρ' H' → Rel X.K cl ρ' H' st' → Q b H') (ExC X.K cl ρ H fun c d H' => Wx c d σ H') := hp
  refine tE_of rl re (post_bind.mp (post_bind.mp hp2)) fun x st1 h1 ρ1 H1 vx e1 r1 d1 => ?_
  refine tE_of r1 (re.ext e1) (post_ext e1 (post_bind.mp h1)) fun y st2 h2 ρ2 H2 vy e2 r2 d2 => ?_
  obtain ⟨k, e, h3⟩ := post_of.mp (post_bind.mp h2)
  refine opr_cmp (X := X) (cl := cl) op ρ2 st2 H2 x y vx vy _ (fun _ _ _ => True) r2 (d1.ext e2) d2 ?_
  refine post_gC e ?_
  intro ρ3 H3 vz e3 r3 d3
  cases d3
  have h4 : ∀ ρ' H', Ext X.K ρ H ρ' H' → Rel X.K cl ρ' H' st2 → Q k H' := h3
  exact ⟨k, rfl, h4 _ _ (e1.trans (e2.trans e3)) r3⟩
theorem rt_chain {op op' : CmpOp} {s : Expr} (hu : X.A.units + 65 < cLine) (ha : PE X p (tE X.K cl cf Wx a)) (hb : PE X q (tE X.K cl cf Wx b)) (hc : PE X s (tE X.K cl cf Wx c)) (hm : lastMarks [op, op'] [q, s] = false) :
    PT X (.Compare p [op, op'] [q, s] pos) (tTs X.K cl cf Wx (.chain op op' a b c)) := by
  refine pt_w (pt_chain (or_cmp hu op) (or_cmp hu op') ha hb hc hm) fun σ H Q ⟨ρ, st, env, rl, re, hp⟩ => ?_
  have hp2 : Post (((ev cf a env st).bind fun x st => (ev cf b env st).bind fun y st => (R.of (cmpD st op x y) st).bind fun k st => if k then (ev cf c env st).bind fun z st => (R.of (cmpD st op' y z) st).bind fun k st => .ok (.bl k) st else .ok (.bl false) st).bind fun d st => R.of (truth st d) st) (fun b st' => ∀ ρ' H', Ext X.K ρ H ρ' H' → Rel X.K cl ρ' H' st' → Q b H') (ExC X.K cl ρ H fun c d H' => Wx c d σ H') := hp
  refine tE_of rl re (post_bind.mp (post_bind.mp hp2)) fun x st1 h1 ρ1 H1 vx e1 r1 d1 => ?_
  refine tE_of r1 (re.ext e1) (post_ext e1 (post_bind.mp h1)) fun y st2 h2 ρ2 H2 vy e2 r2 d2 => ?_
  obtain ⟨k, e, h3⟩ := post_of.mp (post_bind.mp h2)
  refine opr_cmp (X := X) (cl := cl) op ρ2 st2 H2 x y vx vy _ (fun _ _ _ => True) r2 (d1.ext e2) d2 ?_
  refine post_gC e ?_
  intro ρ3 H3 vz e3 r3 d3
  cases d3
  refine ⟨k, rfl, ?_⟩
  have ee := e1.trans (e2.trans e3)
  cases k with
  | false =>
    have h4 : ∀ ρ' H', Ext X.K ρ H ρ' H' → Rel X.K cl ρ' H' st2 → Q false H' := h3
    exact ⟨false, rfl, h4 _ _ ee r3⟩
  | true =>
    have h4 : Post ((ev cf c env st2).bind fun z st => (R.of (cmpD st op' y z) st).bind fun k st => .ok (.bl k) st) (fun d st => Post (R.of (truth st d) st) (fun b st' => ∀ ρ' H', Ext X.K ρ H ρ' H' → Rel X.K cl ρ' H' st' → Q b H') (ExC X.K cl ρ H fun c d H' => Wx c d σ H')) (ExC X.K cl ρ H fun c d H' => Wx c d σ H') := h3
    rw [if_pos rfl]
    refine tE_of r3 (re.ext ee) (post_ext ee (post_bind.mp h4)) fun z st4 h5 ρ4 H4 vz e4 r4 d4 => ?_
    obtain ⟨k', e', h6⟩ := post_of.mp (post_bind.mp h5)
    refine opr_cmp (X := X) (cl := cl) op' ρ4 st4 H4 y z vy vz _ (fun _ _ _ => True) r4 ((d2.ext e3).ext e4) d4 ?_
    refine post_gC e' ?_
    intro ρ5 H5 vw e5 r5 d5
    cases d5
    have h7 : ∀ ρ' H', Ext X.K ρ H ρ' H' → Rel X.K cl ρ' H' st4 → Q k' H' := h6
    exact ⟨k', rfl, h7 _ _ (ee.trans (e4.trans e5)) r5⟩
theorem re_ife {s : Expr} (hc : PT X s (tTs X.K cl cf Wx c)) (ha : PE X p (tE X.K cl cf Wx a)) (hb : PE X q (tE X.K cl cf Wx b)) : PE X (.IfExp s p q pos) (tE X.K cl cf Wx (.ife c a b)) := by
  refine pe_w (pe_ifExp hc ha hb) fun σ H Q ⟨ρ, st, env, rl, re, hp⟩ => ?_
  refine tTs_of rl re (post_bind.mp hp) fun k st1 h1 ρ1 H1 e1 r1 => ?_
  cases k with
  | true => exact ⟨ρ1, st1, env, r1, re.ext e1, (post_ext e1 (show Post (ev cf a env st1) _ _ from h1)).imp (fun _ _ q => q.ext e1) fun _ _ _ q => q⟩
  | false => exact ⟨ρ1, st1, env, r1, re.ext e1, (post_ext e1 (show Post (ev cf b env st1) _ _ from h1)).imp (fun _ _ q => q.ext e1) fun _ _ _ q => q⟩
end
end Py
end

section
set_option Elab.async false
set_option linter.all false
set_option maxRecDepth 100000
set_option maxHeartbeats 1000000
/-! Built-ins, methods, calls. -/
namespace Py
open PySem PySem.Spec PyProof.Rows L2

section
variable {X : Cx} {cl : Nat → Addr} {Wh : Nat} {cf : Nat → List D → Store → R D} {Wx : WX} {p q : Expr} {a b c : E} {pos : Pos}
theorem RDs.one {K : PySem.W.Frag} {ρ : List Addr} {H : Hp} {d : D} {vs : List V} (h : RDs K ρ H [d] vs) : ∃ v, vs = [v] ∧ RD K ρ H d v := by
  cases h with
  | cons a t => cases t; exact ⟨_, rfl, a⟩
theorem RDs.two {K : PySem.W.Frag} {ρ : List Addr} {H : Hp} {d e : D} {vs : List V} (h : RDs K ρ H [d, e] vs) : ∃ v u, vs = [v, u] ∧ RD K ρ H d v ∧ RD K ρ H e u := by
  cases h with
  | cons a t => cases t with
    | cons b t => cases t; exact ⟨_, _, rfl, a, b⟩
theorem RDs.int_of {K : PySem.W.Frag} {ρ : List Addr} {H : Hp} : ∀ {ds : List D} {vs : List V} {ns : List Int}, RDs K ρ H ds vs → intsD ds = some ns → vs = ns.map V.int
  | _, _, _, .nil, h => by cases h; rfl
  | .int i :: ds, _, ns, .cons (.int _) t, h => by
    obtain ⟨ms, e, rfl⟩ := Option.map_eq_some_iff.mp (show (intsD ds).map (i :: ·) = some ns from h)
    rw [RDs.int_of t e]; rfl
  | .non :: _, _, _, _, h => nomatch h
  | .bl _ :: _, _, _, _, h => nomatch h
  | .str _ :: _, _, _, _, h => nomatch h
  | .tup _ :: _, _, _, _, h => nomatch h
  | .ref _ :: _, _, _, _, h => nomatch h
theorem RDs.bl_of {K : PySem.W.Frag} {ρ : List Addr} {H : Hp} : ∀ {ds : List D} {vs : List V} {ns : List Bool}, RDs K ρ H ds vs → boolsD ds = some ns → vs = ns.map V.bl
  | _, _, _, .nil, h => by cases h; rfl
  | .bl i :: ds, _, ns, .cons (.bl _) t, h => by
    obtain ⟨ms, e, rfl⟩ := Option.map_eq_some_iff.mp (show (boolsD ds).map (i :: ·) = some ns from h)
    rw [RDs.bl_of t e]; rfl
  | .non :: _, _, _, _, h => nomatch h
  | .int _ :: _, _, _, _, h => nomatch h
  | .str _ :: _, _, _, _, h => nomatch h
  | .tup _ :: _, _, _, _, h => nomatch h
  | .ref _ :: _, _, _, _, h => nomatch h
theorem RDs.str_of {K : PySem.W.Frag} {ρ : List Addr} {H : Hp} : ∀ {ds : List D} {vs : List V} {ns : List Str}, RDs K ρ H ds vs → strsD ds = some ns → vs = ns.map V.str
  | _, _, _, .nil, h => by cases h; rfl
  | .str i :: ds, _, ns, .cons (.str _) t, h => by
    obtain ⟨ms, e, rfl⟩ := Option.map_eq_some_iff.mp (show (strsD ds).map (i :: ·) = some ns from h)
    rw [RDs.str_of t e]; rfl
  | .non :: _, _, _, _, h => nomatch h
  | .int _ :: _, _, _, _, h => nomatch h
  | .bl _ :: _, _, _, _, h => nomatch h
  | .tup _ :: _, _, _, _, h => nomatch h
  | .ref _ :: _, _, _, _, h => nomatch h

/-- a call by values of a list of arguments -/
abbrev RL := List V → Hp → VK → Prop
def OprL (K : PySem.W.Frag) (cl : Nat → Addr) (g : List D → Store → R D) (r : RL) : Prop :=
  ∀ (ρ : List Addr) (st : Store) (H : Hp) (ds : List D) (vs : List V) (Q : VK) (E : Nat → List (Str × D) → Store → Prop), Rel K cl ρ H st → RDs K ρ H ds vs → Post (g ds st) (Cont K cl ρ H Q) E → r vs H Q
theorem re_bc {e : E} {es : E} {g : List D → Store → R D} {r : RL} {py : Expr} (h : PE X py (tCB r (tA X.K cl cf Wx es))) (ho : OprL X.K cl g r) (he : ∀ env st, ev cf e env st = (ev cf es env st).bind fun y st => g (asTup y) st) :
    PE X py (tE X.K cl cf Wx e) := by
  refine pe_w h fun σ H Q ⟨ρ, st, env, rl, re, hp⟩ => ?_
  rw [he] at hp
  refine tA_of rl re (post_bind.mp hp) fun y st1 h1 ρ1 H1 vs e1 r1 d1 => ?_
  exact ho ρ1 st1 H1 (asTup y) vs Q _ r1 d1 (h1.imp (fun d st q => Cont.ext e1 q) fun _ _ _ q => q)

/-! ### the rules by built-in -/
def rLen (K : PySem.W.Frag) : RL := fun xs H Q => (∃ p ys, xs = [.ref p] ∧ (SqL K H p ys ∨ SqT K H p ys) ∧ Q (.int ys.length) H) ∨ ∃ z, xs = [.str z] ∧ z.length ≤ sizeLine ∧ Q (.int z.length) H
theorem cr_len : CallR X (.builtin "len") (rLen X.K) := call_len_seq.or call_len_str
theorem op_len : OprL X.K cl (fun ds st => bcD st .len ds) (rLen X.K) := by
  intro ρ st H ds vs Q E r rd h
  match ds, rd, h with
  | [d], rd, h =>
    obtain ⟨v, rfl, r1⟩ := rd.one
    obtain ⟨n, e, h2⟩ := post_of.mp (post_bind.mp (show Post ((R.of (lenD st d) st).bind fun n st => .ok (D.int n) st) (Cont X.K cl ρ H Q) E from h))
    have h3 : Cont X.K cl ρ H Q (.int n) st := h2
    have h4 := h3.here r (.int _)
    cases r1 with
    | str z =>
      by_cases c : z.length ≤ sizeLine
      · rw [show lenD st (.str z) = some z.length from if_pos c] at e
        cases e
        exact .inr ⟨z, rfl, c, h4⟩
      · rw [show lenD st (.str z) = none from if_neg c] at e
        cases e
    | @tup a ds us sa qa =>
      cases (show some ds.length = some n from e)
      exact .inl ⟨a, us, rfl, .inr sa, by rw [← qa.length]; exact h4⟩
    | @ref m a ha =>
      obtain ⟨xs, e1, rfl⟩ := Option.map_eq_some_iff.mp (show (lstAt st m).map (·.length) = some n from e)
      obtain ⟨us, s1, q1⟩ := r.list e1 ha
      exact .inl ⟨a, us, rfl, .inl s1, by rw [← q1.length]; exact h4⟩
    | _ => cases e
  | [], _, h => exact h.elim
  | _ :: _ :: _, _, h => exact h.elim
def rAbs : RL := fun xs H Q => ∃ i, xs = [.int i] ∧ Q (.int (if i < 0 then -i else i)) H
theorem op_seq1 {bb : B} {β : Type} {f : Store → D → Option β} {g : β → D} {r : RL} (he : ∀ st d, bcD st bb [d] = (R.of (f st d) st).bind fun n st => .ok (g n) st) (h0 : ∀ st, bcD st bb [] = .bad) (h2 : ∀ st x y l, bcD st bb (x :: y :: l) = .bad)
    (hr : ∀ ρ st H d v n (Q : VK), Rel X.K cl ρ H st → RD X.K ρ H d v → f st d = some n → Cont X.K cl ρ H Q (g n) st → r [v] H Q) : OprL X.K cl (fun ds st => bcD st bb ds) r := by
  intro ρ st H ds vs Q E rl rd h
  match ds, rd, h with
  | [d], rd, h =>
    obtain ⟨v, rfl, r1⟩ := rd.one
    have h : Post (bcD st bb [d]) (Cont X.K cl ρ H Q) E := h
    rw [he] at h
    obtain ⟨n, e, h2⟩ := post_of.mp (post_bind.mp h)
    exact hr ρ st H d v n Q rl r1 e h2
  | [], _, h =>
    have h : Post (bcD st bb []) (Cont X.K cl ρ H Q) E := h
    rw [h0] at h; exact h.elim
  | x :: y :: l, _, h =>
    have h : Post (bcD st bb (x :: y :: l)) (Cont X.K cl ρ H Q) E := h
    rw [h2] at h; exact h.elim
def intOf : D → Option Int
  | .int i => some i
  | _ => none
theorem op_abs : OprL X.K cl (fun ds st => bcD st .abs ds) rAbs := by
  refine op_seq1 (f := fun _ => intOf) (g := fun (i : Int) => .int (if i < 0 then -i else i)) (fun st d => by cases d <;> rfl) (fun _ => rfl) (fun _ x _ _ => by cases x <;> rfl) fun ρ st H d v n Q rl rd e h => ?_
  cases rd with
  | int i => cases e; exact ⟨_, rfl, h.here rl (.int _)⟩
  | _ => cases e
def refL {α : Type} (st : Store) (f : List D → Option α) : D → Option α
  | .ref n => (lstAt st n).bind f
  | _ => none
theorem op_sum : OprL X.K cl (fun ds st => bcD st .sum ds) (rSum X.K) := by
  refine op_seq1 (f := fun st => refL st intsD) (g := fun ns => .int ns.sum) (fun st d => by cases d <;> rfl) (fun _ => rfl) (fun _ x _ _ => by cases x <;> rfl) fun ρ st H d v n Q rl rd e h => ?_
  cases rd with
  | @ref m a ha =>
    obtain ⟨xs, e1, e2⟩ := Option.bind_eq_some_iff.mp (show (lstAt st m).bind intsD = some n from e)
    obtain ⟨us, s1, q1⟩ := rl.list e1 ha
    exact ⟨a, n, rfl, by rw [← q1.int_of e2]; exact s1, h.here rl (.int _)⟩
  | _ => cases e
theorem op_all : OprL X.K cl (fun ds st => bcD st .all ds) (rAll X.K) := by
  refine op_seq1 (f := fun st => refL st boolsD) (g := fun ns => .bl (ns.all id)) (fun st d => by cases d <;> rfl) (fun _ => rfl) (fun _ x _ _ => by cases x <;> rfl) fun ρ st H d v n Q rl rd e h => ?_
  cases rd with
  | @ref m a ha =>
    obtain ⟨xs, e1, e2⟩ := Option.bind_eq_some_iff.mp (show (lstAt st m).bind boolsD = some n from e)
    obtain ⟨us, s1, q1⟩ := rl.list e1 ha
    exact ⟨a, n, rfl, by rw [← q1.bl_of e2]; exact s1, h.here rl (.bl _)⟩
  | _ => cases e
theorem op_any : OprL X.K cl (fun ds st => bcD st .any ds) (rAny X.K) := by
  refine op_seq1 (f := fun st => refL st boolsD) (g := fun ns => .bl (ns.any id)) (fun st d => by cases d <;> rfl) (fun _ => rfl) (fun _ x _ _ => by cases x <;> rfl) fun ρ st H d v n Q rl rd e h => ?_
  cases rd with
  | @ref m a ha =>
    obtain ⟨xs, e1, e2⟩ := Option.bind_eq_some_iff.mp (show (lstAt st m).bind boolsD = some n from e)
    obtain ⟨us, s1, q1⟩ := rl.list e1 ha
    exact ⟨a, n, rfl, by rw [← q1.bl_of e2]; exact s1, h.here rl (.bl _)⟩
  | _ => cases e
def rTupO (K : PySem.W.Frag) : RL := fun xs H Q => ∃ p ys, xs = [.ref p] ∧ ((SqL K H p ys ∧ ∀ l, H l = none → Q (.ref l) (upd H l (.tup ys))) ∨ (SqT K H p ys ∧ Q (.ref p) H))
theorem op_tuple : OprL X.K cl (fun ds st => bcD st .tuple ds) (rTupO X.K) := by
  refine op_seq1 (f := itemsD) (g := fun xs => .tup xs) (fun st d => by cases d <;> rfl) (fun _ => rfl) (fun _ x _ _ => by cases x <;> rfl) fun ρ st H d v n Q rl rd e h => ?_
  cases rd with
  | @ref m a ha =>
    obtain ⟨us, s1, q1⟩ := rl.list (show lstAt st m = some n from e) ha
    exact ⟨a, us, rfl, .inl ⟨s1, fun l hl => h.tup rl q1 hl⟩⟩
  | @tup a ds us sa qa =>
    cases (show some ds = some n from e)
    exact ⟨a, us, rfl, .inr ⟨sa, h.here rl (.tup sa qa)⟩⟩
  | _ => cases e
def rLstO (K : PySem.W.Frag) : RL := fun xs H Q => ∃ p ys, xs = [.ref p] ∧ (SqL K H p ys ∨ SqT K H p ys) ∧ ∀ l, H l = none → Q (.ref l) (upd H l (.lst ys))
theorem op_list : OprL X.K cl (fun ds st => bcD st .list ds) (rLstO X.K) := by
  intro ρ st H ds vs Q E rl rd h
  match ds, rd, h with
  | [d], rd, h =>
    obtain ⟨v, rfl, r1⟩ := rd.one
    obtain ⟨n, e, h2⟩ := post_of.mp (post_bind.mp (show Post ((R.of (itemsD st d) st).bind fun xs st => .ok (D.ref st.length) (st ++ [.lst xs])) (Cont X.K cl ρ H Q) E from h))
    have h3 : Cont X.K cl ρ H Q (.ref st.length) (st ++ [.lst n]) := h2
    cases r1 with
    | @ref m a ha =>
      obtain ⟨us, s1, q1⟩ := rl.list (show lstAt st m = some n from e) ha
      exact ⟨a, us, rfl, .inl s1, fun l hl => h3.push rl (.lst q1) hl⟩
    | @tup a ds us sa qa =>
      cases (show some ds = some n from e)
      exact ⟨a, us, rfl, .inr sa, fun l hl => h3.push rl (.lst qa) hl⟩
    | _ => cases e
  | [], _, h => exact h.elim
  | x :: _ :: _, _, h => cases x <;> exact h.elim
def rMax2 : RL := fun xs H Q => ∃ i j, xs = [.int i, .int j] ∧ Q (.int (if j > i then j else i)) H
def rMin2 : RL := fun xs H Q => ∃ i j, xs = [.int i, .int j] ∧ Q (.int (if j < i then j else i)) H
theorem op_max2 : OprL X.K cl (fun ds st => bcD st .max2 ds) rMax2 := by
  intro ρ st H ds vs Q E rl rd h
  match ds, rd, h with
  | [x, y], rd, h =>
    obtain ⟨v, u, rfl, r1, r2⟩ := rd.two
    cases r1 with
    | int i => cases r2 with
      | int j => exact ⟨i, j, rfl, (show Cont X.K cl ρ H Q _ st from h).here rl (.int _)⟩
      | _ => exact h.elim
    | _ => cases r2 <;> exact h.elim
  | [], _, h => exact h.elim
  | [x], _, h => cases x <;> exact h.elim
  | x :: y :: _ :: _, _, h => cases x <;> cases y <;> exact h.elim
theorem op_min2 : OprL X.K cl (fun ds st => bcD st .min2 ds) rMin2 := by
  intro ρ st H ds vs Q E rl rd h
  match ds, rd, h with
  | [x, y], rd, h =>
    obtain ⟨v, u, rfl, r1, r2⟩ := rd.two
    cases r1 with
    | int i => cases r2 with
      | int j => exact ⟨i, j, rfl, (show Cont X.K cl ρ H Q _ st from h).here rl (.int _)⟩
      | _ => exact h.elim
    | _ => cases r2 <;> exact h.elim
  | [], _, h => exact h.elim
  | [x], _, h => cases x <;> exact h.elim
  | x :: y :: _ :: _, _, h => cases x <;> cases y <;> exact h.elim
def rInt : RL := fun xs H Q => (∃ i, xs = [.int i] ∧ Q (.int i) H) ∨ ∃ k, xs = [.bl k] ∧ Q (.int (if k then 1 else 0)) H
theorem op_int : OprL X.K cl (fun ds st => bcD st .int ds) rInt := by
  intro ρ st H ds vs Q E rl rd h
  match ds, rd, h with
  | [x], rd, h =>
    obtain ⟨v, rfl, r1⟩ := rd.one
    cases r1 with
    | int i => exact .inl ⟨i, rfl, (show Cont X.K cl ρ H Q _ st from h).here rl (.int _)⟩
    | bl k => exact .inr ⟨k, rfl, (show Cont X.K cl ρ H Q _ st from h).here rl (.int _)⟩
    | _ => exact h.elim
  | [], _, h => exact h.elim
  | x :: _ :: _, _, h => cases x <;> exact h.elim
end

/-! ### repr -/
section
variable {X : Cx} {cl : Nat → Addr} {pins : List (Addr × Obj)} {σ : L2.St} {H : Hp} {s : Shared} {ρ : List Addr} {st : Store}
theorem not_sys (I : L2.Inv X pins σ H s) (hs : ∃ o, X.base.get? sysModules = some o) {a : Addr} {o : HO} (h : H a = some o) : a ≠ sysModules := fun e => by
  obtain ⟨ob, q⟩ := hs
  have := (I.bs _ ob q).2
  rw [← e, h] at this
  cases this
theorem reads_of (I : L2.Inv X pins σ H s) (hs : ∃ o, X.base.get? sysModules = some o) (r : Rel X.K cl ρ H st) : ∀ (k : Nat) {d : D} {v : V} {u : Value} {p : PyData}, RD X.K ρ H d v → RelV v u → pd st k d = some p → ∃ as, Reads s.heap u p as ∧ sysModules ∉ as
  | 0, _, _, _, _, _, _, h => nomatch h
  | k + 1, d, v, u, p, rd, rv, h => by
    have all : ∀ {ds : List D} {vs : List V} {us : List Value} {ps : List PyData}, RDs X.K ρ H ds vs → Vals vs us → ds.mapM (pd st k) = some ps → ∃ as, ReadsAll s.heap us ps as ∧ sysModules ∉ as := by
      intro ds
      induction ds with
      | nil =>
        intro vs us ps q w h
        cases q
        cases w
        cases h
        exact ⟨_, .nil, by simp⟩
      | cons d ds ih =>
        intro vs us ps q w h
        cases q with
        | cons q1 q2 =>
          cases w with
          | cons w1 w2 =>
            obtain ⟨y, ys, e1, e2, rfl⟩ := mapM_some_cons h
            obtain ⟨as, g1, g2⟩ := reads_of I hs r k q1 w1 e1
            obtain ⟨bs, g3, g4⟩ := ih q2 w2 e2
            exact ⟨_, .cons g1 g3, fun hm => (List.mem_append.mp hm).elim g2 g4⟩
    cases rd with
    | non => cases h; cases rv; exact ⟨_, .none, by simp⟩
    | bl b => cases h; cases rv; exact ⟨_, .bool b, by simp⟩
    | int i => cases h; obtain ⟨t, rfl⟩ := rv; exact ⟨_, .int i t, by simp⟩
    | str z => cases h; obtain ⟨t, rfl⟩ := rv; exact ⟨_, .str z t, by simp⟩
    | @tup a ds vs sa qa =>
      obtain ⟨ps, e, rfl⟩ := Option.map_eq_some_iff.mp (show (ds.mapM (pd st k)).map PyData.tuple = some p from h)
      cases rv
      obtain ⟨its, w, ⟨o, ho, hc, n, hd⟩, _⟩ := I.tuple sa
      obtain ⟨as, g1, g2⟩ := all qa w e
      exact ⟨_, .tuple ho hc hd g1, g2⟩
    | @ref n a ha =>
      cases rv
      have h0 : (match st[n]? with
        | some (.lst xs) => (xs.mapM (pd st k)).map PyData.list
        | some (.dK []) => some (.dict [])
        | _ => none) = some p := h
      split at h0
      · rename_i xs e1
        obtain ⟨ps, e, rfl⟩ := Option.map_eq_some_iff.mp h0
        obtain ⟨u1, g1, o1⟩ := r.obj _ _ _ e1 ha
        cases o1 with
        | lst o1 =>
          obtain ⟨its, w, ⟨o, n, ho, hc, _, hd⟩, _⟩ := I.list (show SqL X.K H a _ from .inl (.inl g1))
          obtain ⟨as, g2, g3⟩ := all o1 w e
          refine ⟨_, .list ho hc hd g2, fun hm => ?_⟩
          rcases List.mem_cons.mp hm with z | z
          · exact not_sys I hs g1 z.symm
          · exact g3 z
      · rename_i e1
        cases h0
        obtain ⟨u1, g1, o1⟩ := r.obj _ _ _ e1 ha
        cases o1 with
        | dK o1 =>
          cases o1
          obtain ⟨_, hsys, vs, kv, o, es, ep, ho, hex, hd, _, hp, _⟩ : ([] : List (Key × V)).length ≤ sizeLine ∧ (a == sysModules) = false ∧ ∃ vs, KV [] vs ∧ s.heap.DictOf (mixKind X.prog X.w) a vs := I.hok a _ g1
          cases kv
          have hes : es.toList = [] := by
            cases q : es.toList with
            | nil => rfl
            | cons e r => rw [q] at hp; cases hp
          refine ⟨_, .dict ho hex.1 hd (by rw [hes]; exact .nil) (by rw [hes]; exact .nil), fun hm => ?_⟩
          simp only [List.append_nil, List.mem_singleton] at hm
          exact not_sys I hs g1 hm.symm
      · cases h0

theorem showD_some {st : Store} {a : D} {z : Str} (h : showD st a = some z) : ∃ x, pd st 60 a = some x ∧ x.showable = true ∧ x.depth ≤ 60 ∧ x.shown.length ≤ sizeLine ∧ z = x.shown := by
  unfold showD at h
  cases e1 : pd st 60 a with
  | none => rw [e1] at h; cases h
  | some x =>
    rw [e1] at h
    have h' : (if x.showable && decide (x.depth ≤ 60) && decide (x.shown.length ≤ sizeLine) then some x.shown else none) = some z := h
    by_cases c : (x.showable && decide (x.depth ≤ 60) && decide (x.shown.length ≤ sizeLine)) = true
    · rw [if_pos c] at h'
      rw [Bool.and_eq_true, Bool.and_eq_true] at c
      exact ⟨x, rfl, c.1.1, of_decide_eq_true c.1.2, of_decide_eq_true c.2, (Option.some.inj h').symm⟩
    · rw [if_neg c] at h'; cases h'
/-- repr(x), x the datum d -/
def rRepr (X : Cx) (cl : Nat → Addr) : RL := fun xs H Q => ∃ (ρ : List Addr) (st : Store) (d : D) (v : V) (x : PyData), xs = [v] ∧ Rel X.K cl ρ H st ∧ RD X.K ρ H d v ∧ pd st 60 d = some x ∧ x.showable = true ∧ x.depth ≤ 60 ∧ x.shown.length ≤ sizeLine ∧ Q (.str x.shown) H
theorem op_repr : OprL X.K cl (fun ds st => bcD st .repr ds) (rRepr X cl) := by
  refine op_seq1 (f := showD) (g := fun z => .str z) (fun st d => by cases d <;> rfl) (fun _ => rfl) (fun _ x _ _ => by cases x <;> rfl) fun ρ st H d v n Q rl rd e h => ?_
  obtain ⟨x, e1, e2, e3, e4, rfl⟩ := showD_some e
  exact ⟨ρ, st, d, v, x, rfl, rl, rd, e1, e2, e3, e4, h.here rl (.str _)⟩
theorem cr_repr (hs : ∃ o, X.base.get? sysModules = some o) (hu : X.A.units + 65 < cLine) (hg : X.A.guards = some []) : CallR X (.builtin "repr") (rRepr X cl) := by
  intro pins s σ H xs us Q I rv h
  obtain ⟨ρ, st, d, v, x, rfl, rl, rd, e1, e2, e3, e4, q⟩ := h
  obtain ⟨u, rfl, ru⟩ := vals1 rv
  obtain ⟨as, g1, g2⟩ := reads_of I hs rl 60 rd ru e1
  cases rd with
  | non => cases ru; cases e1; exact PySem.P.repr_of_none ⟨.str _, H, I.tok _, ⟨_, rfl⟩, by simpa [PyData.shown] using q⟩
  | bl b => cases ru; cases e1; exact PySem.P.repr_of_bool ⟨.str _, H, I.tok _, ⟨_, rfl⟩, by simpa [PyData.shown] using q⟩
  | int i =>
    obtain ⟨t, rfl⟩ := ru
    cases e1
    exact PySem.P.repr_of_int (of_decide_eq_true (by simpa [PyData.showable] using e2)) ⟨.str _, H, I.tok _, ⟨_, rfl⟩, by simpa [PyData.shown] using q⟩
  | str z =>
    obtain ⟨t, rfl⟩ := ru
    cases e1
    exact PySem.P.repr_of_str ⟨.str _, H, I.tok _, ⟨_, rfl⟩, by simpa [PyData.shown] using q⟩ (by simpa [PyData.shown] using e4)
  | @tup a ds vs sa qa =>
    cases ru
    exact repr_of_reads' g1 e2 (fun _ => g2) hg (by omega) (fun _ _ e => e) (fun h' u tk hk => ⟨.str _, H, I.kept hk, ⟨_, rfl⟩, q⟩) e4
  | @ref n a ha =>
    cases ru
    exact repr_of_reads' g1 e2 (fun _ => g2) hg (by omega) (fun _ _ e => e) (fun h' u tk hk => ⟨.str _, H, I.kept hk, ⟨_, rfl⟩, q⟩) e4
end
end Py
end

section
set_option Elab.async false
set_option linter.all false
set_option maxRecDepth 100000
set_option maxHeartbeats 1000000
/-! Defs that know that nothing around them is being shown (no guard stands around): promises, calls, bodies. -/
namespace Py
open PySem PySem.Spec PyProof.Rows L2

/-- the def at f keeps the promise sp, where no guard is around -/
def FnG (P : Program) (w : World) (K : PySem.W.Frag) (mg : Str → Option Value) (base : Heap) (k : Nat) (f : Addr) (fd : FuncData) (ps : List Str) (sp : Sp) : Prop :=
  ∀ (A : Around) (around : List Env) (s : Shared) (H : Hp) (given : Args) (us : List Value) (vs : List V) (Q : VK) (E : XK),
    Room k A → A.guards = some [] → Env0 P w K mg base A around s H → BindsTo s fd given (ps.zip us) → Vals vs us → vs.length = ps.length → sp vs H Q E →
    codeAny (model P w) A (.call (.ref f) given) (CR (L2.CX P w) around P w H s Q E) s
theorem FnG.mono {P : Program} {w : World} {K : PySem.W.Frag} {mg : Str → Option Value} {base : Heap} {j k : Nat} {f : Addr} {fd : FuncData} {ps : List Str} {sp : Sp} (h : FnG P w K mg base j f fd ps sp) (hk : j ≤ k) : FnG P w K mg base k f fd ps sp :=
  fun A around s H given us vs Q E r => h A around s H given us vs Q E (r.mono hk)

section
variable {X : Cx} {k : Nat} {f : Addr} {fd : FuncData} {ps : List Str} {sp : Sp} {Wx : WX}
/-- such a def is called -/
theorem run_fnG {pins : List (Addr × Obj)} {σ : L2.St} {H : Hp} {s : Shared} {Q : VK} {us : List Value} {vs : List V} (F : FnG X.prog X.w X.K X.mg X.base k f fd ps sp) (room : Room k X.A) (hg : X.A.guards = some []) (hb : Binds X.K fd ps [])
    (tk : Takes X Wx) (I : L2.Inv X pins σ H s) (r : Vals vs us) (hl : vs.length = ps.length) (h : sp vs H Q (WE Wx σ)) : wpAny (model X.prog X.w) X.A (call (.ref f) us) (EP X pins σ Q) X.xe s := by
  have bt : BindsTo s fd ⟨us, []⟩ (ps.zip us) := by
    have z := hb s us I.kIn (by rw [List.append_nil, ← r.length]; exact hl)
    rwa [List.append_nil] at z
  have run := F X.A X.stack s H ⟨us, []⟩ us vs Q (WE Wx σ) room hg I.env0 bt r hl h
  refine wpAny_call (codeAny_mono run ?_)
  intro res s' hres
  match res, hres with
  | .error e, hx => exact passAt tk σ pins H s e s' I hx
  | .ok (.ret u), hx => exact I.after hx
  | .ok .next, hx => exact hx.elim
  | .ok .brk, hx => exact hx.elim
  | .ok .cont, hx => exact hx.elim
theorem pe_callG {x : Str} {p pos : Pos} {e : Expr} {es : List Expr} {t : TA} (F : FnG X.prog X.w X.K X.mg X.base k f fd ps sp) (room : Room k X.A) (hg : X.A.guards = some []) (hgl : Gl X x) (hm : X.mg x = some (.ref f)) (hk : PySem.W.keepIn X.K (.ref f) = true)
    (hb : Binds X.K fd ps []) (tk : Takes X Wx) (ha : PA X (e :: es) t) (hdb : (x == ("__debug__" : Str)) = false) (he : starEach (e :: es) X.env = (false, eval e X.env) :: starEach es X.env) (hpl : (backTo pos (starEach es X.env)).any (·.1) = false) :
    PE X (.Call (.Name x p) (e :: es) [] pos) (fun σ H Q => t σ H fun vs H1 => vs.length = ps.length ∧ sp vs H1 Q (WE Wx σ)) := by
  refine ⟨fun pins s σ H Q I h => wpAny_Call_Name_kw (ld_glob I hgl hm ?_ hdb)⟩
  refine PySem.W.callWith_K (h₀ := X.base) I.ok.mod.kin hk (thn (ha.run pos pins s σ H _ I h) ?_) he hpl
  rintro us s1 ⟨vs, H1, I1, r, hl, q⟩
  exact ⟨I1.kIn, run_fnG F room hg hb tk I1 r hl q⟩
end

/-- a def of the text keeps a promise, by its body -/
theorem fnG_of {P : Program} {w : World} {K : PySem.W.Frag} {mg : Str → Option Value} {base : Heap} {k : Nat} {f : Addr} {name qual : Str} {params : Arguments} {body : List Stmt} {scope : Scope} {dV kV doc pm cdv ct oc : Value} {an od : Option Addr}
    {osl : Array (Option Value)} {N ps : List Str} {sp : Sp} (at_ : K.lookup f = some ⟨oc, od, .func (PySem.W.fnOf name qual params body scope dV kV doc pm an cdv ct), osl⟩) (code : PySem.W.codeIn K cdv qual = true) (S : FnScope N ps scope)
    (walk : ∀ (A : Around) (around : List Env) (s : Shared) (H : Hp) (vs : List V) (Q : VK) (E : XK), Room k (A.deeper (envOfC qual scope s.heap.objs.size f cdv)) → A.guards = some [] → vs.length = ps.length → sp vs H Q E →
      ∃ t, PSs (cxOf (L2.CX P w) P w K mg base N qual scope f cdv A around s H E) body t ∧ t { nx := fun _ H' => Q .non H', rt := Q } (start N vs) H) :
    FnG P w K mg base (k + 1) f (PySem.W.fnOf name qual params body scope dV kV doc pm an cdv ct) ps sp := by
  intro A around s H given us vs Q E room hg e0 hb r hl hsp
  have stays : ∀ b o, base.get? b = some o → s.heap.get? b = some o := fun b o q => (e0.bs b o q).1
  have inK : K.In s.heap := e0.mod.kin.keeps stays
  have free : s.heap.NoLimit := e0.mod.nolimit.keeps stays
  have kinds : ∀ y ∈ ps.zip us, scope.names.lookup y.1 = some .local ∨ (scope.names.lookup y.1 = some .cell ∧ ((cellsFrom (s.heap.objs.size + 1) scope.names []).lookup y.1).isSome = true) := by
    rintro ⟨n, v⟩ hy
    cases S.par n (List.of_mem_zip hy).1 with
    | inl q => exact Or.inl q
    | inr q => exact Or.inr ⟨q, PySem.W.cellsFrom_some _ _ _ (Or.inl q)⟩
  refine codeAny_call_function room.depth (inK _ _ at_) rfl S.co S.gen rfl (PySem.W.codeRec_of inK code) (hb _ _ _ _ (wpAny_newFunctionEnv_cells S.kind kinds ?_))
  intro env henv s1 x
  subst henv
  refine ⟨free.keeps x.toInCall.keep, codeAny_func ?_⟩
  obtain ⟨t, ht, hq⟩ := walk A around s H vs Q E (room.deeper _) hg hl hsp
  have I0 : L2.Inv (cxOf (L2.CX P w) P w K mg base N qual scope f cdv A around s H E) [] (start N vs) H s1 := inv_start S room.hd e0 hl r x
  refine wpAny_mono (ht.run [] s1 (start N vs) H _ I0 hq) ?_ (fun _ _ z => z)
  intro fl s' hs
  have done : ∀ {σ' : L2.St} {H' : Hp} {v : V} {u : Value}, L2.Inv (cxOf (L2.CX P w) P w K mg base N qual scope f cdv A around s H E) [] σ' H' s' → RelV v u → Q v H' → CE around P w H s Q u s' :=
    fun {σ' H' v u} J rv q => ⟨v, H', J.os, J.bare, J.base, J.hok, rv, q⟩
  match fl, hs with
  | .ret u, ⟨v, σ', H', J, rv, q⟩ => exact done J rv q
  | .next, ⟨σ', H', J, q⟩ => exact done (v := V.non) (u := Value.none) J rfl q
  | .brk, ⟨_, _, _, q⟩ => exact False.elim q
  | .cont, ⟨_, _, _, q⟩ => exact False.elim q
end Py
end

section
set_option Elab.async false
set_option linter.all false
set_option maxRecDepth 100000
set_option maxHeartbeats 1000000
/-! Calls of own defs, methods of lists, isinstance. -/
namespace Py
open PySem PySem.Spec PyProof.Rows L2

/-- what a def of the table promises: the interpreter's own run -/
def spI (K : PySem.W.Frag) (cl : Nat → Addr) (Wh : Nat) (fns : List Fn) (k f : Nat) : Sp := fun vs H Q E =>
  ∃ ρ st ds, Rel K cl ρ H st ∧ RDs K ρ H ds vs ∧ Post (run Wh fns k f ds st) (Cont K cl ρ H Q) (ExC K cl ρ H E)
theorem run_len {Wh : Nat} {fns : List Fn} {k f : Nat} {ds : List D} {st : Store} {Q : D → Store → Prop} {E : Nat → List (Str × D) → Store → Prop} {fn : Fn} (h : Post (run Wh fns k f ds st) Q E) (hf : fns[f]? = some fn) : ds.length = fn.pars.length := by
  cases k with
  | zero => exact h.elim
  | succ k =>
    unfold run at h
    rw [hf] at h
    by_cases c : ds.length = fn.pars.length
    · exact c
    · simp only [if_neg c] at h
      exact h.elim
section
variable {X : Cx} {cl : Nat → Addr} {Wh : Nat} {fns : List Fn} {k f : Nat} {fn : Fn} {Wx : WX} {a : E}
theorem re_call {addr : Addr} {fd : FuncData} {x : Str} {p pos : Pos} {e : Expr} {es : List Expr} (hf : fns[f]? = some fn) (F : FnG X.prog X.w X.K X.mg X.base k addr fd fn.pars (spI X.K cl Wh fns k f)) (room : Room k X.A) (hg : X.A.guards = some [])
    (hgl : Gl X x) (hm : X.mg x = some (.ref addr)) (hk : PySem.W.keepIn X.K (.ref addr) = true) (hb : Binds X.K fd fn.pars []) (tk : Takes X Wx) (ha : PA X (e :: es) (tA X.K cl (run Wh fns k) Wx a)) (hdb : (x == ("__debug__" : Str)) = false)
    (he : starEach (e :: es) X.env = (false, eval e X.env) :: starEach es X.env) (hpl : (backTo pos (starEach es X.env)).any (·.1) = false) : PE X (.Call (.Name x p) (e :: es) [] pos) (tE X.K cl (run Wh fns k) Wx (.call f a)) := by
  refine pe_w (pe_callG F room hg hgl hm hk hb tk ha hdb he hpl) fun σ H Q ⟨ρ, st, env, rl, re, hp⟩ => ?_
  refine tA_of rl re (post_bind.mp (show Post ((ev (run Wh fns k) a env st).bind fun y st => run Wh fns k f (asTup y) st) _ _ from hp)) fun y st1 h1 ρ1 H1 vs e1 r1 d1 => ?_
  refine ⟨?_, ρ1, st1, asTup y, r1, d1, h1.imp (fun _ _ q => Cont.ext e1 q) fun _ _ _ q => ExC.ext e1 q⟩
  rw [← d1.length]
  exact run_len h1 hf
end

/-! ### isinstance -/
def kName : Kind → String
  | .int => "int"
  | .bool => "bool"
  | .str => "str"
  | .tuple => "tuple"
  | .list => "list"
  | .tupLst => "tuple"
/-- the name of a value's type, and whether it is of the kind -/
def tyD (st : Store) : D → Option String
  | .non => some "NoneType"
  | .bl _ => some "bool"
  | .int _ => some "int"
  | .str _ => some "str"
  | .tup _ => some "tuple"
  | .ref n => match st[n]? with
    | some (.lst _) => some "list"
    | some (.dK _) => some "dict"
    | some (.dT _) => some "dict"
    | _ => none
section
variable {X : Cx} {cl : Nat → Addr} {ρ : List Addr} {H : Hp} {st : Store}
theorem tyD_ok {K : PySem.W.Frag} (r : Rel K cl ρ H st) {d : D} {v : V} {T : String} (rd : RD K ρ H d v) (h : tyD st d = some T) : TyX K H v (.type T) := by
  cases rd with
  | non => cases h; exact .base .non
  | bl b => cases h; exact .base (.bl b)
  | int i => cases h; exact .base (.int i)
  | str s => cases h; exact .base (.str s)
  | @tup a ds vs sa qa =>
    cases h
    rcases sa with (sa | ⟨ob, sa⟩) | ⟨o, its, n, h1, h2, _⟩
    · exact .base (.tup sa)
    · exact .fTuple sa
    · exact .kTuple h1 h2
  | @ref n a ha =>
    have h0 : (match st[n]? with
      | some (.lst _) => some "list"
      | some (.dK _) => some "dict"
      | some (.dT _) => some "dict"
      | _ => none) = some T := h
    split at h0
    · rename_i xs e
      obtain ⟨u, hu, ho⟩ := r.obj _ _ _ e ha
      cases h0
      cases ho with
      | lst ho => exact .base (.lst hu)
    · rename_i xs e
      obtain ⟨u, hu, ho⟩ := r.obj _ _ _ e ha
      cases h0
      cases ho with
      | dK ho => exact .base (.dK hu)
    · rename_i xs e
      obtain ⟨u, hu, ho⟩ := r.obj _ _ _ e ha
      cases h0
      cases ho with
      | dT ho => exact .base (.dT hu)
    · cases h0
def tyIs (k : Kind) (T : String) : Bool := match k with
  | .int => T == "int" || T == "bool"
  | .tupLst => T == "tuple" || T == "list"
  | k => T == kName k
theorem isiD_ty {k : Kind} {d : D} {b : Bool} (h : isiD st k d = some b) : ∃ T, tyD st d = some T ∧ b = tyIs k T := by
  cases d with
  | ref n =>
    have h0 : (match st[n]? with
      | some (.lst _) => some (k == .list || k == .tupLst)
      | some (.dK _) => some false
      | some (.dT _) => some false
      | _ => none) = some b := h
    show ∃ T, (match st[n]? with
      | some (.lst _) => some "list"
      | some (.dK _) => some "dict"
      | some (.dT _) => some "dict"
      | _ => none) = some T ∧ b = tyIs k T
    split at h0 <;> first | (cases h0; refine ⟨_, rfl, ?_⟩; cases k <;> decide) | cases h0
  | non => cases h; refine ⟨_, rfl, ?_⟩; cases k <;> decide
  | bl x => cases h; refine ⟨_, rfl, ?_⟩; cases k <;> decide
  | int i => cases h; refine ⟨_, rfl, ?_⟩; cases k <;> decide
  | str s => cases h; refine ⟨_, rfl, ?_⟩; cases k <;> decide
  | tup xs => cases h; refine ⟨_, rfl, ?_⟩; cases k <;> decide
theorem kit_six {K : PySem.W.Frag} : ∀ (k : Kind) (T : String), T ∈ ["NoneType", "bool", "int", "str", "tuple", "list", "dict"] → k ≠ .tupLst → PySem.W.kitOne K (.type T) (.type (kName k)) = some (tyIs k T) := by
  have go : (([.int, .bool, .str, .tuple, .list] : List Kind).all fun k => (["NoneType", "bool", "int", "str", "tuple", "list", "dict"] : List String).all fun T => decide (kitB T (kName k) = some (tyIs k T))) = true := by decide +kernel
  intro k T hT hk
  have h1 := List.all_eq_true.mp go k (by cases k <;> first | exact absurd rfl hk | simp)
  exact kit_ty (of_decide_eq_true (List.all_eq_true.mp h1 T hT))
theorem tyD_mem {d : D} {T : String} (h : tyD st d = some T) : T ∈ ["NoneType", "bool", "int", "str", "tuple", "list", "dict"] := by
  cases d with
  | ref n =>
    have h0 : (match st[n]? with
      | some (.lst _) => some "list"
      | some (.dK _) => some "dict"
      | some (.dT _) => some "dict"
      | _ => none) = some T := h
    split at h0 <;> first | (cases h0; simp) | cases h0
  | _ => cases h; simp
theorem kit_two {K : PySem.W.Frag} {T : String} (h : T ∈ ["NoneType", "bool", "int", "str", "tuple", "list", "dict"]) : PySem.W.kitAny K (.type T) [.type "tuple", .type "list"] = some (tyIs .tupLst T) := by
  have a1 := kit_six (K := K) .tuple T h (by decide)
  have a2 := kit_six (K := K) .list T h (by decide)
  refine kitAny_cons a1 (fun e => kitAny_cons a2 (fun e2 => ?_) fun e2 => ?_) fun e => ?_
  · have e : (T == "tuple") = false := e
    have e2 : (T == "list") = false := e2
    show some false = some ((T == "tuple") || (T == "list"))
    rw [e, e2]; rfl
  · have e2 : (T == "list") = true := e2
    show ((T == "tuple") || (T == "list")) = true
    rw [e2, Bool.or_true]
  · have e : (T == "tuple") = true := e
    show ((T == "tuple") || (T == "list")) = true
    rw [e, Bool.true_or]
end
section
variable {X : Cx} {cl : Nat → Addr} {cf : Nat → List D → Store → R D} {Wx : WX} {a : E} {p : Expr} {pos p1 p2 : Pos} {ps : List Expr}
/-- isinstance(p, T) -/
theorem re_isi {T : Str} {k : Kind} (hk : k ≠ .tupLst) (hn : T = Str.ofString (kName k)) (hi : X.mg "isinstance" = none) (hT : X.mg T = none) (gi : Gl X "isinstance") (gT : Gl X T) (ha : PE X p (tE X.K cl cf Wx a))
    (he : starEach [p, .Name T p1] X.env = (false, eval p X.env) :: starEach [.Name T p1] X.env) (hpl : (backTo pos (starEach [.Name T p1] X.env)).any (·.1) = false) :
    PE X (.Call (.Name "isinstance" p2) [p, .Name T p1] [] pos) (tE X.K cl cf Wx (.bc (.isi k) (.cons a .nil))) := by
  have hb : bootBuiltins T = some (.type (kName k)) := by
    subst hn
    cases k <;> first | (decide +kernel) | exact absurd rfl hk
  have hne : T ≠ "__name__" := by
    subst hn
    cases k <;> first | (decide +kernel) | exact absurd rfl hk
  have hdb : (T == ("__debug__" : Str)) = false := by
    subst hn
    cases k <;> first | (decide +kernel) | exact absurd rfl hk
  refine pe_w (pe_callB call_isi gi hi (by decide +kernel) (pa_cons ha (pa_cons (pe_bltn (v := .ty (kName k)) gT hT hb rfl hne hdb) pa_nil rfl) he) (by decide +kernel) (by decide +kernel) he hpl) fun σ H Q ⟨ρ, st, env, rl, re, hp⟩ => ?_
  have hp2 : Post (((ev cf a env st).bind fun x st => .ok (.tup [x]) st).bind fun y st => bcD st (.isi k) (asTup y)) (Cont X.K cl ρ H Q) (ExC X.K cl ρ H fun c d H' => Wx c d σ H') := hp
  refine tE_of rl re (post_bind.mp (post_bind.mp hp2)) fun x st1 h1 ρ1 H1 vx e1 r1 d1 => ?_
  obtain ⟨b, e, h2⟩ := post_of.mp (post_bind.mp (show Post ((R.of (isiD st1 k x) st1).bind fun b st => .ok (.bl b) st) (Cont X.K cl ρ H Q) (ExC X.K cl ρ H fun c d H' => Wx c d σ H') from h1))
  obtain ⟨t, ht, rfl⟩ := isiD_ty e
  exact ⟨vx, .ty (kName k), .type t, .type (kName k), tyIs k t, rfl, .ty _, tyD_ok r1 d1 ht, kit_six k t (tyD_mem ht) hk, (show Cont X.K cl ρ H Q _ st1 from h2) _ _ _ e1 r1 (.bl _)⟩
/-- isinstance(p, (tuple, list)) -/
theorem re_isiT {kk : Nat} {p3 p4 : Pos} (hi : X.mg "isinstance" = none) (hT : X.mg "tuple" = none) (hL : X.mg "list" = none) (gi : Gl X "isinstance") (gT : Gl X "tuple") (gL : Gl X "list") (ha : PE X p (tE X.K cl cf Wx a))
    (he : starEach [p, .Tuple [.Name "tuple" p1, .Name "list" p3] kk p4] X.env = (false, eval p X.env) :: starEach [.Tuple [.Name "tuple" p1, .Name "list" p3] kk p4] X.env) (hpl : (backTo pos (starEach [.Tuple [.Name "tuple" p1, .Name "list" p3] kk p4] X.env)).any (·.1) = false) :
    PE X (.Call (.Name "isinstance" p2) [p, .Tuple [.Name "tuple" p1, .Name "list" p3] kk p4] [] pos) (tE X.K cl cf Wx (.bc (.isi .tupLst) (.cons a .nil))) := by
  refine pe_w (pe_callB call_isiT gi hi (by decide +kernel) (pa_cons ha (pa_cons (pe_tup (pa_cons (pe_bltn (v := .ty "tuple") gT hT (by decide +kernel) rfl (by decide +kernel) (by decide +kernel)) (pa_cons (pe_bltn (v := .ty "list") gL hL (by decide +kernel) rfl (by decide +kernel) (by decide +kernel)) pa_nil rfl) rfl)) pa_nil rfl) he) (by decide +kernel) (by decide +kernel) he hpl) fun σ H Q ⟨ρ, st, env, rl, re, hp⟩ => ?_
  have hp2 : Post (((ev cf a env st).bind fun x st => .ok (.tup [x]) st).bind fun y st => bcD st (.isi .tupLst) (asTup y)) (Cont X.K cl ρ H Q) (ExC X.K cl ρ H fun c d H' => Wx c d σ H') := hp
  refine tE_of rl re (post_bind.mp (post_bind.mp hp2)) fun x st1 h1 ρ1 H1 vx e1 r1 d1 => ?_
  refine ⟨by show 2 ≤ sizeLine; decide, fun q hq => ?_⟩
  obtain ⟨b, e, h2⟩ := post_of.mp (post_bind.mp (show Post ((R.of (isiD st1 .tupLst x) st1).bind fun b st => .ok (.bl b) st) (Cont X.K cl ρ H Q) (ExC X.K cl ρ H fun c d H' => Wx c d σ H') from h1))
  obtain ⟨t, ht, rfl⟩ := isiD_ty e
  have e2 := Ext.fresh (o := .tup [.ty "tuple", .ty "list"]) r1 hq
  have r2 : Rel X.K cl ρ1 (upd H1 q (.tup [.ty "tuple", .ty "list"])) st1 := r1.fresh hq
  exact ⟨vx, q, [.ty "tuple", .ty "list"], .type t, [.type "tuple", .type "list"], _, rfl, upd_same, .cons (.ty _) (.cons (.ty _) .nil), tyD_ok r2 (d1.ext e2) ht, kit_two (tyD_mem ht), (show Cont X.K cl ρ H Q _ st1 from h2) _ _ _ (e1.trans e2) r2 (.bl _)⟩
end

/-! ### methods of lists -/
def OprM (K : PySem.W.Frag) (cl : Nat → Addr) (g : D → List D → Store → R D) (r : V → List V → Hp → VK → Prop) : Prop :=
  ∀ (ρ : List Addr) (st : Store) (H : Hp) (o : D) (ds : List D) (vo : V) (vs : List V) (Q : VK) (E : Nat → List (Str × D) → Store → Prop), Rel K cl ρ H st → RD K ρ H o vo → RDs K ρ H ds vs → Post (g o ds st) (Cont K cl ρ H Q) E → r vo vs H Q
section
variable {X : Cx} {cl : Nat → Addr} {cf : Nat → List D → Store → R D} {Wx : WX} {a : E} {p : Expr} {pos : Pos} {ps : List Expr}
theorem re_bm_w {m : Me} {es : E} {r : V → List V → Hp → VK → Prop} {py : Expr} (h : PE X py (tBM X.K "list" r (tE X.K cl cf Wx a) (tA X.K cl cf Wx es))) (ho : OprM X.K cl (fun o ds st => bmD st m o ds) r) : PE X py (tE X.K cl cf Wx (.bm m a es)) := by
  refine pe_w h fun σ H Q ⟨ρ, st, env, rl, re, hp⟩ => ?_
  refine tE_of rl re (post_bind.mp hp) fun x st1 h1 ρ1 H1 vx e1 r1 d1 => ?_
  obtain ⟨hc, h2⟩ := post_if h1
  refine ⟨?_, ?_⟩
  · cases d1 with
    | @ref n t ha =>
      have hc' : (match st1[n]? with
        | some (.lst _) => true
        | _ => false) = true := hc
      split at hc'
      · rename_i xs e
        obtain ⟨u, hu, hob⟩ := r1.obj _ _ _ e ha
        cases hob with
        | lst hob => exact .inl ⟨rfl, _, .inl (.inl hu)⟩
      · cases hc'
    | _ => exact absurd hc (by simp [isLst])
  · refine tA_of r1 (re.ext e1) (post_ext e1 (post_bind.mp h2)) fun y st2 h3 ρ2 H2 vs e2 r2 d2 => ?_
    exact ho ρ2 st2 H2 x (asTup y) vx vs Q _ r2 (d1.ext e2) d2 (h3.imp (fun _ _ q => Cont.ext (e1.trans e2) q) fun _ _ _ q => q)
theorem re_bm0_w {m : Me} {r : V → List V → Hp → VK → Prop} {py : Expr} (h : PE X py (tBM0 X.K "list" r (tE X.K cl cf Wx a))) (ho : OprM X.K cl (fun o ds st => bmD st m o ds) r) : PE X py (tE X.K cl cf Wx (.bm m a .nil)) := by
  refine pe_w h fun σ H Q ⟨ρ, st, env, rl, re, hp⟩ => ?_
  refine tE_of rl re (post_bind.mp hp) fun x st1 h1 ρ1 H1 vx e1 r1 d1 => ?_
  obtain ⟨hc, h2⟩ := post_if h1
  refine ⟨?_, ?_⟩
  · cases d1 with
    | @ref n t ha =>
      have hc' : (match st1[n]? with
        | some (.lst _) => true
        | _ => false) = true := hc
      split at hc'
      · rename_i xs e
        obtain ⟨u, hu, hob⟩ := r1.obj _ _ _ e ha
        cases hob with
        | lst hob => exact .inl ⟨rfl, _, .inl (.inl hu)⟩
      · cases hc'
    | _ => exact absurd hc (by simp [isLst])
  · exact ho ρ1 st1 H1 x [] vx [] Q _ r1 d1 .nil ((show Post (bmD st1 m x []) _ _ from h2).imp (fun _ _ q => Cont.ext e1 q) fun _ _ _ q => q)
/-- the list at a reference -/
theorem lst_of {K : PySem.W.Frag} {ρ : List Addr} {H : Hp} {st : Store} {n : Nat} {t : Addr} {xs : List D} (r : Rel K cl ρ H st) (ha : ρ[n]? = some t) (e : st[n]? = some (.lst xs)) : ∃ vs, H t = some (.lst vs) ∧ RDs K ρ H xs vs := by
  obtain ⟨u, hu, ho⟩ := r.obj _ _ _ e ha
  cases ho with
  | lst ho => exact ⟨_, hu, ho⟩
/-- behind a store to it -/
theorem Cont.stored {K : PySem.W.Frag} {ρ : List Addr} {H : Hp} {st : Store} {n : Nat} {t : Addr} {xs ys : List D} {us vs : List V} {d : D} {v : V} {Q : VK} (h : Cont K cl ρ H Q d (st.set n (.lst ys))) (r : Rel K cl ρ H st) (ha : ρ[n]? = some t) (hu : H t = some (.lst us)) (ho : RDs K ρ H xs us)
    (hy : RDs K ρ H ys vs) (hd : RD K ρ H d v) : Q v (upd H t (.lst vs)) := by
  have e := Ext.write (u' := .lst vs) r ha hu (RO.lst (cl := cl) ho)
  exact h _ _ _ e (r.write ha hu (.lst ho) (.lst hy)) (hd.ext e)
theorem om_append : OprM X.K cl (fun o ds st => bmD st .append o ds) rAppend := by
  intro ρ st H o ds vo vs Q E r ro rd h
  match o, ds, ro, rd, h with
  | .ref n, [d], .ref (a := t) ha, rd, h =>
    obtain ⟨v, rfl, dv⟩ := rd.one
    have h0 : Post (match st[n]? with
      | some (.lst xs) => if xs.length < sizeLine then .ok .non (st.set n (.lst (xs ++ [d]))) else .bad
      | _ => .bad) (Cont X.K cl ρ H Q) E := h
    split at h0
    · rename_i xs e
      obtain ⟨c, h2⟩ := post_if h0
      obtain ⟨us, hu, ho⟩ := lst_of r ha e
      exact ⟨t, us, v, rfl, rfl, hu, by rw [← ho.length]; exact c, Cont.stored h2 r ha hu ho (ho.append (.cons dv .nil)) .non⟩
    · exact h0.elim
  | .ref _, [], _, _, h => exact h.elim
  | .ref _, _ :: _ :: _, _, _, h => exact h.elim
  | .non, _, _, _, h => exact h.elim
  | .bl _, _, _, _, h => exact h.elim
  | .int _, _, _, _, h => exact h.elim
  | .str _, _, _, _, h => exact h.elim
  | .tup _, _, _, _, h => exact h.elim
def rInsert : V → List V → Hp → VK → Prop := fun x vs H Q => ∃ (l : Addr) (xs : List V) (i : Int) (y : V), x = .ref l ∧ vs = [.int i, y] ∧ H l = some (.lst xs) ∧ xs.length < sizeLine ∧ 0 ≤ i ∧ i < 2 ^ 63 ∧ Q .non (upd H l (.lst (xs.take i.toNat ++ [y] ++ xs.drop i.toNat)))
theorem om_insert : OprM X.K cl (fun o ds st => bmD st .insert o ds) rInsert := by
  intro ρ st H o ds vo vs Q E r ro rd h
  cases ro with
  | @ref n t ha =>
    match ds, rd, h with
    | [.int i, d], .cons (.int _) rd, h =>
      obtain ⟨v, rfl, dv⟩ := rd.one
      have h0 : Post (match st[n]? with
        | some (.lst xs) => if 0 ≤ i ∧ i ≤ xs.length ∧ xs.length < sizeLine then .ok .non (st.set n (.lst (insAt xs i.toNat d))) else .bad
        | _ => .bad) (Cont X.K cl ρ H Q) E := h
      split at h0
      · rename_i xs e
        obtain ⟨⟨c0, c1, c2⟩, h2⟩ := post_if h0
        obtain ⟨us, hu, ho⟩ := lst_of r ha e
        have hl := ho.length
        have c2' := c2
        rw [sizeLine_eq] at c2'
        exact ⟨t, us, i, v, rfl, rfl, hu, by rw [← hl]; exact c2, c0, by omega, Cont.stored h2 r ha hu ho (((ho.take _).append (.cons dv .nil)).append (ho.drop _)) .non⟩
      · exact h0.elim
    | [], _, h => exact h.elim
    | [.int _], _, h => exact h.elim
    | .non :: _, _, h => exact h.elim
    | .bl _ :: _, _, h => exact h.elim
    | .str _ :: _, _, h => exact h.elim
    | .tup _ :: _, _, h => exact h.elim
    | .ref _ :: _, _, h => exact h.elim
    | .int _ :: _ :: _ :: _, _, h => exact h.elim
  | _ => exact h.elim
theorem om_extend : OprM X.K cl (fun o ds st => bmD st .extend o ds) rExtend := by
  intro ρ st H o ds vo vs Q E r ro rd h
  cases ro with
  | @ref n t ha =>
    match ds, rd, h with
    | [.ref m], .cons (.ref (a := b) hb) .nil, h =>
      have h0 : Post (match st[n]?, st[m]? with
        | some (.lst xs), some (.lst ys) => if xs.length + ys.length ≤ sizeLine then .ok .non (st.set n (.lst (xs ++ ys))) else .bad
        | _, _ => .bad) (Cont X.K cl ρ H Q) E := h
      split at h0
      · rename_i xs ys e1 e2
        obtain ⟨c, h2⟩ := post_if h0
        obtain ⟨us, hu, ho⟩ := lst_of r ha e1
        obtain ⟨ws, hw, hq⟩ := lst_of r hb e2
        exact ⟨t, b, us, ws, rfl, rfl, hu, hw, by rw [← ho.length, ← hq.length]; exact c, Cont.stored h2 r ha hu ho (ho.append hq) .non⟩
      · exact h0.elim
    | [], _, h => exact h.elim
    | .non :: _, _, h => exact h.elim
    | .bl _ :: _, _, h => exact h.elim
    | .str _ :: _, _, h => exact h.elim
    | .tup _ :: _, _, h => exact h.elim
    | .int _ :: _, _, h => exact h.elim
    | .ref _ :: _ :: _, _, h => exact h.elim
  | _ => exact h.elim
theorem RDs.dropLast {K : PySem.W.Frag} {ρ : List Addr} {H : Hp} {ds : List D} {vs : List V} (h : RDs K ρ H ds vs) : RDs K ρ H ds.dropLast vs.dropLast := by
  rw [List.dropLast_eq_take, List.dropLast_eq_take, ← h.length]
  exact h.take _
theorem RDs.eraseIdx {K : PySem.W.Frag} {ρ : List Addr} {H : Hp} {ds : List D} {vs : List V} (h : RDs K ρ H ds vs) (i : Nat) : RDs K ρ H (ds.eraseIdx i) (vs.eraseIdx i) := by
  rw [List.eraseIdx_eq_take_drop_succ, List.eraseIdx_eq_take_drop_succ]
  exact (h.take _).append (h.drop _)
theorem om_pop0 : OprM X.K cl (fun o ds st => bmD st .pop0 o ds) rPop := by
  intro ρ st H o ds vo vs Q E r ro rd h
  cases ro with
  | @ref n t ha =>
    match ds, rd, h with
    | [], .nil, h =>
      have h0 : Post (match st[n]? with
        | some (.lst xs) => match xs[xs.length - 1]? with
          | some y => .ok y (st.set n (.lst xs.dropLast))
          | none => .bad
        | _ => .bad) (Cont X.K cl ρ H Q) E := h
      split at h0
      · rename_i xs e
        obtain ⟨us, hu, ho⟩ := lst_of r ha e
        split at h0
        · rename_i y e2
          obtain ⟨v, g1, g2⟩ := ho.get e2
          exact ⟨t, us, v, rfl, rfl, hu, by rw [← ho.length]; exact g1, Cont.stored h0 r ha hu ho ho.dropLast g2⟩
        · exact h0.elim
      · exact h0.elim
    | _ :: _, _, h => exact h.elim
  | _ => exact h.elim
theorem om_pop1 : OprM X.K cl (fun o ds st => bmD st .pop1 o ds) rPopAt := by
  intro ρ st H o ds vo vs Q E r ro rd h
  cases ro with
  | @ref n t ha =>
    match ds, rd, h with
    | [.int i], .cons (.int _) .nil, h =>
      have h0 : Post (match st[n]? with
        | some (.lst xs) => if 0 ≤ i ∧ i < xs.length ∧ xs.length < sizeLine then match xs[i.toNat]? with
          | some y => .ok y (st.set n (.lst (xs.eraseIdx i.toNat)))
          | none => .bad else .bad
        | _ => .bad) (Cont X.K cl ρ H Q) E := h
      split at h0
      · rename_i xs e
        obtain ⟨us, hu, ho⟩ := lst_of r ha e
        obtain ⟨⟨c0, c1, c2⟩, h2⟩ := post_if h0
        have hl := ho.length
        have c2' := c2
        rw [sizeLine_eq] at c2'
        split at h2
        · rename_i y e2
          obtain ⟨v, g1, g2⟩ := ho.get e2
          exact ⟨t, us, i, i.toNat, v, rfl, rfl, hu, by omega, by omega, seqIndex_of c0 (by omega), g1, Cont.stored h2 r ha hu ho (ho.eraseIdx _) g2⟩
        · exact h2.elim
      · exact h0.elim
    | [], _, h => exact h.elim
    | .non :: _, _, h => exact h.elim
    | .bl _ :: _, _, h => exact h.elim
    | .str _ :: _, _, h => exact h.elim
    | .tup _ :: _, _, h => exact h.elim
    | .ref _ :: _, _, h => exact h.elim
    | .int _ :: _ :: _, _, h => exact h.elim
  | _ => exact h.elim
end
end Py
end

section
set_option Elab.async false
set_option linter.all false
set_option maxRecDepth 100000
set_option maxHeartbeats 1000000
/-! Targets, walks, comprehensions. -/
namespace Py
open PySem PySem.Spec PyProof.Rows L2

/-! ### targets -/
def tsl : T → List Nat
  | .nm i => [i]
  | .nil => []
  | .cons a b => tsl a ++ tsl b
  | .tp a => tsl a
def tlen : T → Nat
  | .cons _ b => tlen b + 1
  | _ => 0
section
variable (K : PySem.W.Frag)
def gT (t : T) : TG := fun v σ H Q => ∃ ρ d env env', RE K ρ H env σ ∧ RD K ρ H d v ∧ setT t d env = some env' ∧ ∀ σ', RE K ρ H env' σ' → (∀ vs : List Nat, (∀ i ∈ tsl t, i ∈ vs) → wipe σ' vs = wipe σ vs) → Q σ' H
def gTs (t : T) : TGs := fun vs σ H Q => ∃ ρ ds env env', RE K ρ H env σ ∧ RDs K ρ H ds vs ∧ setT t (.tup ds) env = some env' ∧ ∀ σ', RE K ρ H env' σ' → (∀ vs : List Nat, (∀ i ∈ tsl t, i ∈ vs) → wipe σ' vs = wipe σ vs) → Q σ' H
end
theorem pgs_w {X : Cx} {e : List Expr} {t t' : TGs} (h : PGs X e t) (w : ∀ v σ H Q, t' v σ H Q → t v σ H Q) : PGs X e t' := ⟨fun pins s σ H v u Q I r q => h.run pins s σ H v u Q I r (w v σ H Q q)⟩
theorem wipe_set {σ : L2.St} {i : Nat} {v : Option V} : ∀ {vs : List Nat}, i ∈ vs → wipe (σ.set i v) vs = wipe σ vs
  | w :: vs, h => by
    show (wipe (σ.set i v) vs).set w none = (wipe σ vs).set w none
    by_cases hm : i ∈ vs
    · rw [wipe_set hm]
    · obtain rfl : i = w := by
        rcases List.mem_cons.mp h with e | e
        · exact e
        · exact absurd e hm
      apply List.ext_getElem?
      intro j
      by_cases hj : i = j
      · subst hj
        by_cases hl : i < (wipe σ vs).length
        · rw [List.getElem?_set_self hl, List.getElem?_set_self (by rw [wipe_length, List.length_set]; rw [wipe_length] at hl; exact hl)]
        · rw [List.getElem?_eq_none (by rw [List.length_set, wipe_length, List.length_set]; rw [wipe_length] at hl; omega), List.getElem?_eq_none (by rw [List.length_set]; omega)]
      · rw [List.getElem?_set_ne hj, List.getElem?_set_ne hj]
        have go : ∀ (us : List Nat), (wipe (σ.set i v) us)[j]? = (wipe σ us)[j]? := by
          intro us
          induction us with
          | nil => exact List.getElem?_set_ne hj
          | cons u us ih =>
            show ((wipe (σ.set i v) us).set u none)[j]? = ((wipe σ us).set u none)[j]?
            by_cases hu : u = j
            · subst hu
              by_cases hl : u < (wipe σ us).length
              · rw [List.getElem?_set_self hl, List.getElem?_set_self (by rw [wipe_length, List.length_set]; rw [wipe_length] at hl; exact hl)]
              · rw [List.getElem?_eq_none (by rw [List.length_set, wipe_length, List.length_set]; rw [wipe_length] at hl; omega), List.getElem?_eq_none (by rw [List.length_set]; omega)]
            · rw [List.getElem?_set_ne hu, List.getElem?_set_ne hu]
              exact ih
        exact go vs
theorem wipe_idem {σ : L2.St} (vs : List Nat) : wipe (wipe σ vs) vs = wipe σ vs := by
  have go : ∀ us : List Nat, (∀ i ∈ us, i ∈ vs) → wipe (wipe σ us) vs = wipe σ vs := by
    intro us
    induction us with
    | nil => intro _; rfl
    | cons u us ih =>
      intro h
      show wipe ((wipe σ us).set u none) vs = wipe σ vs
      rw [wipe_set (h u List.mem_cons_self)]
      exact ih fun i hi => h i (List.mem_cons_of_mem _ hi)
  exact go vs fun _ h => h
section
variable {X : Cx} {pos : Pos}
theorem rg_name {i : Nat} {x : Str} (hN : X.N.Nodup) (hi : X.N[i]? = some x) (hx : Loc X.env.scope x) (hf : X.fn x = true ∨ X.env.scope.names.lookup x = some .local) : PG X (.Name x pos) (gT X.K (.nm i)) := by
  refine pg_w (L2.pg_name hN hi hx hf) fun v σ H Q ⟨ρ, d, env, env', re, rd, e, k⟩ => ?_
  cases (show some (env.set i (some d)) = some env' from e)
  exact k _ (re.set rd i) fun vs h => wipe_set (h i (by simp [tsl]))
theorem rg_nil : PGs X [] (gTs X.K .nil) := by
  refine pgs_w pgs_nil fun v σ H Q ⟨ρ, ds, env, env', re, rd, e, k⟩ => ?_
  cases rd with
  | nil =>
    cases (show some env = some env' from e)
    exact ⟨rfl, k _ re fun _ _ => rfl⟩
  | cons _ _ => cases e
theorem rg_cons {p : Expr} {ps : List Expr} {a b : T} (h1 : PG X p (gT X.K a)) (h2 : PGs X ps (gTs X.K b)) (hs : (assignEach (p :: ps) X.env).map (·.2) = assign p X.env :: (assignEach ps X.env).map (·.2)) : PGs X (p :: ps) (gTs X.K (.cons a b)) := by
  refine pgs_w (pgs_cons h1 h2 hs) fun v σ H Q ⟨ρ, ds, env, env', re, rd, e, k⟩ => ?_
  cases rd with
  | nil => cases e
  | @cons d v ds vs r1 r2 =>
    obtain ⟨env1, e1, e2⟩ := Option.bind_eq_some_iff.mp (show (setT a d env).bind (fun env => setT b (.tup ds) env) = some env' from e)
    refine ⟨v, vs, rfl, ρ, d, env, env1, re, r1, e1, fun σ1 re1 w1 => ⟨ρ, ds, env1, env', re1, r2, e2, fun σ2 re2 w2 => k σ2 re2 fun us h => ?_⟩⟩
    rw [w2 us fun i hi => h i (List.mem_append_right _ hi), w1 us fun i hi => h i (List.mem_append_left _ hi)]
theorem setT_len : ∀ {t : T} {ds : List D} {env env' : Sl}, (∀ i, t ≠ .nm i) → (∀ a, t ≠ .tp a) → setT t (.tup ds) env = some env' → ds.length = tlen t ∨ True := fun _ _ _ => .inr trivial
/-- the ends of a target's list -/
def flat : T → Bool
  | .nil => true
  | .cons _ b => flat b
  | _ => false
theorem flat_len : ∀ {t : T} {ds : List D} {env env' : Sl}, flat t = true → setT t (.tup ds) env = some env' → ds.length = tlen t
  | .nil, [], _, _, _, _ => rfl
  | .cons a b, d :: ds, env, env', h, e => by
    obtain ⟨env1, e1, e2⟩ := Option.bind_eq_some_iff.mp (show (setT a d env).bind (fun env => setT b (.tup ds) env) = some env' from e)
    rw [List.length_cons, flat_len (t := b) h e2]; rfl
  | .nil, _ :: _, _, _, _, e => nomatch e
  | .cons _ _, [], _, _, _, e => nomatch e
  | .nm _, _, _, _, h, _ => nomatch h
  | .tp _, _, _, _, h, _ => nomatch h
theorem rg_tup {es : List Expr} {k : Nat} {a : T} (hc : X.calm = true) (hf : flat a = true) (h : PGs X es (gTs X.K a)) (hn : (assignEach es X.env).length = tlen a) (hst : (assignEach es X.env).findIdx? (·.1) = none) : PG X (.Tuple es k pos) (gT X.K (.tp a)) := by
  refine pg_w (L2.pg_tup hc h hn hst) fun v σ H Q ⟨ρ, d, env, env', re, rd, e, w⟩ => ?_
  have e' : setT a d env = some env' := e
  cases rd with
  | @tup q ds vs sq rq =>
    exact ⟨q, vs, rfl, sq, by rw [← rq.length]; exact flat_len hf e', ρ, ds, env, env', re, rq, e', w⟩
  | _ => cases a <;> first | (cases e'; done) | (cases hf; done)
end

/-! ### walks -/
def WkOk (K : PySem.W.Frag) (cl : Nat → Addr) (J : It) (ρ : List Addr) (H : Hp) (xs : List D) (g : Guard) : Prop :=
  ∀ ρ' H' st', Ext K ρ H ρ' H' → Rel K cl ρ' H' st' → gOk g st' = true →
    J.stop xs.length H' ∧ ∀ i d, xs[i]? = some d → J.go i H' ∧ ∀ x H'', J.yld i H' x H'' → Ext K ρ' H' ρ' H'' ∧ Rel K cl ρ' H'' st' ∧ RD K ρ' H'' d x
def evW (cf : Nat → List D → Store → R D) (k : IK) (it : E) (env : Sl) (st : Store) : R (List D × Guard) := (ev cf it env st).bind fun y st => R.of (walkD st k (asTup y)) st
def tW (K : PySem.W.Frag) (cl : Nat → Addr) (cf : Nat → List D → Store → R D) (Wx : WX) (k : IK) (it : E) : TI := fun σ H Rr => ∃ ρ st env, Rel K cl ρ H st ∧ RE K ρ H env σ ∧
  Post (evW cf k it env st) (fun p st' => ∀ ρ' H' J, Ext K ρ H ρ' H' → Rel K cl ρ' H' st' → WkOk K cl J ρ' H' p.1 p.2 → Rr J H') (ExC K cl ρ H fun c d H' => Wx c d σ H')
section
variable {K : PySem.W.Frag} {cl : Nat → Addr} {ρ : List Addr} {H : Hp} {st : Store}
theorem gOk_one {st : Store} {n : Nat} {xs : List D} (h : gOk [(n, xs)] st = true) : lstAt st n = some xs := by
  unfold gOk at h
  rw [List.all_cons, Bool.and_eq_true] at h
  exact of_decide_eq_true h.1
theorem RDs.at {ds : List D} {vs : List V} {i : Nat} {d : D} {x : V} (h : RDs K ρ H ds vs) (e : ds[i]? = some d) (q : vs[i]? = some x) : RD K ρ H d x := by
  obtain ⟨v, h1, h2⟩ := h.get e
  rw [h1] at q
  cases q
  exact h2
theorem wk_list {n : Nat} {a : Addr} {xs : List D} (ha : ρ[n]? = some a) : WkOk K cl (Itl K a) ρ H xs [(n, xs)] := by
  intro ρ' H' st' e r g
  obtain ⟨vs, sq, q⟩ := r.list (gOk_one g) (e.at_ ha)
  have w := walk_list (K := K) (a := a) (xs := vs)
  rw [q.length]
  refine ⟨w.stops H' sq, fun i d hd => ?_⟩
  have hi : i < vs.length := by rw [← q.length]; exact (List.getElem?_eq_some_iff.mp hd).1
  refine ⟨w.goes i H' hi sq, fun x H'' y => ?_⟩
  obtain ⟨rfl, hx⟩ := w.yields i H' x H'' hi sq y
  exact ⟨Ext.refl, r, q.at hd hx⟩
theorem wk_tup {a : Addr} {ds : List D} {vs : List V} (sq : SqT K H a vs) (q : RDs K ρ H ds vs) : WkOk K cl (Itt K a) ρ H ds [] := by
  intro ρ' H' st' e r g
  have sq' := e.tup _ _ sq
  have w := walk_tup (K := K) (a := a) (xs := vs)
  rw [q.length]
  refine ⟨w.stops H' sq', fun i d hd => ?_⟩
  have hi : i < vs.length := by rw [← q.length]; exact (List.getElem?_eq_some_iff.mp hd).1
  refine ⟨w.goes i H' hi sq', fun x H'' y => ?_⟩
  obtain ⟨rfl, hx⟩ := w.yields i H' x H'' hi sq' y
  exact ⟨Ext.refl, r, (q.ext e).at hd hx⟩
theorem wk_str {z : Str} : WkOk K cl (Its z) ρ H (z.cps.toList.map fun c => .str ⟨#[c]⟩) [] := by
  intro ρ' H' st' e r g
  have w := walk_str (z := z)
  rw [List.length_map, Array.length_toList]
  refine ⟨w.stops H' trivial, fun i d hd => ?_⟩
  rw [List.getElem?_map] at hd
  obtain ⟨c, hc, rfl⟩ := Option.map_eq_some_iff.mp hd
  rw [Array.getElem?_toList] at hc
  have hi : i < z.cps.size := (Array.getElem?_eq_some_iff.mp hc).1
  refine ⟨w.goes i H' hi trivial, fun x H'' y => ?_⟩
  obtain ⟨rfl, c', hc', rfl⟩ := w.yields i H' x H'' hi trivial y
  rw [hc] at hc'
  cases hc'
  exact ⟨Ext.refl, r, .str _⟩
theorem wk_rng {a b : Int} {lo : Int} {n : Nat} (h1 : lo = a) (h2 : n = (b - a).toNat) : WkOk K cl (Itr lo n) ρ H (rng a b) [] := by
  subst h1 h2
  intro ρ' H' st' e r g
  have w := walk_range (lo := lo) (n := (b - lo).toNat)
  have hl : (rng lo b).length = (b - lo).toNat := by simp [rng]
  rw [hl]
  refine ⟨w.stops H' trivial, fun i d hd => ?_⟩
  have hi : i < (b - lo).toNat := by rw [← hl]; exact (List.getElem?_eq_some_iff.mp hd).1
  unfold rng at hd
  rw [List.getElem?_map, List.getElem?_range hi] at hd
  cases hd
  refine ⟨w.goes i H' hi trivial, fun x H'' y => ?_⟩
  obtain ⟨rfl, rfl⟩ := w.yields i H' x H'' hi trivial y
  exact ⟨Ext.refl, r, .int _⟩
end
theorem log_lt {a : Int} (h : a.natAbs.log2 < 62) : -(2 ^ 62) ≤ a ∧ a < 2 ^ 62 := by
  have z : a.natAbs < 2 ^ 62 := by
    by_cases e : a.natAbs = 0
    · rw [e]; decide
    · exact (Nat.log2_lt e).mp h
  omega
theorem rngOk_bd {a b : Int} (h : rngOk a b = true) : -(2 ^ 62) ≤ a ∧ a < 2 ^ 62 ∧ -(2 ^ 62) ≤ b ∧ b < 2 ^ 62 := by
  unfold rngOk at h
  rw [Bool.and_eq_true] at h
  obtain ⟨a1, a2⟩ := log_lt (of_decide_eq_true h.1)
  obtain ⟨b1, b2⟩ := log_lt (of_decide_eq_true h.2)
  exact ⟨a1, a2, b1, b2⟩
section
variable {X : Cx} {tg p q : Expr} {cl : Nat → Addr} {cf : Nat → List D → Store → R D} {Wx : WX} {a b es : E} {pos : Pos}
theorem pi_w' {t t' : TI} (h : PI X tg p t) (w : ∀ σ H Q, t' σ H Q → t σ H Q) : PI X tg p t' := pi_w h w
/-- a list, a tuple or a text -/
def iAny (K : PySem.W.Frag) (te : TE) : TI := fun σ H Rr => te σ H fun x H1 => (∃ a, x = .ref a ∧ (∃ xs, SqL K H1 a xs) ∧ Rr (Itl K a) H1) ∨ (∃ a, x = .ref a ∧ (∃ xs, SqT K H1 a xs) ∧ Rr (Itt K a) H1) ∨ ∃ z, x = .str z ∧ Rr (Its z) H1
theorem pi_any {te : TE} (hp : PE X p te) : PI X tg p (iAny X.K te) := by
  refine ⟨fun pn s σ H Rr J h => thn (hp.run pn s σ H _ J h) ?_⟩
  rintro v s1 ⟨x, H1, J1, rx, hq⟩
  rcases hq with ⟨a, rfl, ⟨xs, hs⟩, hR⟩ | ⟨a, rfl, ⟨xs, hs⟩, hR⟩ | ⟨z, rfl, hR⟩
  · cases rx
    obtain ⟨its, _, w, _⟩ := J1.list hs
    exact wpAny_pyIter_list w.isList (pi_one (tk := s1.toks) J1 _ (turn_list a _) ⟨_, Heap.get?_push_size _ rfl, rfl, rfl⟩ hR)
  · cases rx
    obtain ⟨its, _, w, _⟩ := J1.tuple hs
    exact wpAny_pyIter_tuple (show s1.heap.IsTuple a its.toArray from w) (pi_one (tk := s1.toks) J1 _ (turn_tuple a _) ⟨_, Heap.get?_push_size _ rfl, rfl, rfl⟩ hR)
  · obtain ⟨t, rfl⟩ := rx
    cases hz : z.cps.all (· < 128)
    · exact wpAny_pyIter_wide hz (pi_one (tk := s1.toks) J1 _ (turn_str _ z t _ (.inr rfl)) ⟨_, Heap.get?_push_size _ rfl, rfl, rfl⟩ hR)
    · exact wpAny_pyIter_ascii hz (pi_one (tk := s1.toks) J1 _ (turn_str _ z t _ (.inl rfl)) ⟨_, Heap.get?_push_size _ rfl, rfl, rfl⟩ hR)
theorem rw_val (hp : PE X p (tE X.K cl cf Wx a)) : PI X tg p (tW X.K cl cf Wx .val (.cons a .nil)) := by
  refine pi_w (pi_any hp) fun σ H Rr ⟨ρ, st, env, rl, re, h⟩ => ?_
  have h0 : Post (((ev cf a env st).bind fun x st => .ok (.tup [x]) st).bind fun y st => R.of (walkD st .val (asTup y)) st) (fun p st' => ∀ ρ' H' J, Ext X.K ρ H ρ' H' → Rel X.K cl ρ' H' st' → WkOk X.K cl J ρ' H' p.1 p.2 → Rr J H') (ExC X.K cl ρ H fun c d H' => Wx c d σ H') := h
  refine tE_of rl re (post_bind.mp (post_bind.mp h0)) fun x st1 h1 ρ1 H1 vx e1 r1 d1 => ?_
  obtain ⟨⟨xs, g⟩, e, h2⟩ := post_of.mp (show Post (R.of (src st1 x) st1) (fun p st' => ∀ ρ' H' J, Ext X.K ρ H ρ' H' → Rel X.K cl ρ' H' st' → WkOk X.K cl J ρ' H' p.1 p.2 → Rr J H') (ExC X.K cl ρ H fun c d H' => Wx c d σ H') from h1)
  cases d1 with
  | @tup t ds vs sq q =>
    cases e
    exact .inr (.inl ⟨t, rfl, ⟨vs, sq⟩, h2 _ _ _ e1 r1 (wk_tup sq q)⟩)
  | @ref n t ht =>
    obtain ⟨ys, e2, e3⟩ := Option.map_eq_some_iff.mp (show (lstAt st1 n).map (fun xs => (xs, [(n, xs)])) = some (xs, g) from e)
    cases e3
    obtain ⟨vs, sq, _⟩ := r1.list e2 ht
    exact .inl ⟨t, rfl, ⟨vs, sq⟩, h2 _ _ _ e1 r1 (wk_list ht)⟩
  | str z =>
    cases e
    exact .inr (.inr ⟨z, rfl, h2 _ _ _ e1 r1 wk_str⟩)
  | _ => cases e
theorem rw_range1 {pp : Pos} (hg : Gl X "range") (hm : X.mg "range" = none) (ha : PA X [p] (tA X.K cl cf Wx es)) (hs : starEach [p] X.env = [(false, eval p X.env)]) : PI X tg (.Call (.Name "range" pp) [p] [] pos) (tW X.K cl cf Wx .range1 es) := by
  refine pi_w (pi_range1 hg hm ha hs) fun σ H Rr ⟨ρ, st, env, rl, re, h⟩ => ?_
  refine tA_of rl re (post_bind.mp h) fun y st1 h1 ρ1 H1 vs e1 r1 d1 => ?_
  obtain ⟨⟨xs, g⟩, e, h2⟩ := post_of.mp h1
  generalize asTup y = ds at d1 e
  match ds, d1, e with
  | [.int j], .cons (.int _) .nil, e =>
    have e' : (if rngOk 0 j then some (rng 0 j, ([] : Guard)) else none) = some (xs, g) := e
    by_cases c : rngOk 0 j = true
    · rw [if_pos c] at e'
      cases e'
      obtain ⟨_, _, c1, c2⟩ := rngOk_bd c
      exact ⟨j, rfl, c1, c2, h2 _ _ _ e1 r1 (wk_rng rfl (by omega))⟩
    · rw [if_neg c] at e'; cases e'
theorem rw_range2 {pp : Pos} (hg : Gl X "range") (hm : X.mg "range" = none) (ha : PA X [p, q] (tA X.K cl cf Wx es)) (hs : starEach [p, q] X.env = [(false, eval p X.env), (false, eval q X.env)]) (hs2 : starEach [q] X.env = [(false, eval q X.env)]) :
    PI X tg (.Call (.Name "range" pp) [p, q] [] pos) (tW X.K cl cf Wx .range2 es) := by
  refine pi_w (pi_range2 hg hm ha hs hs2) fun σ H Rr ⟨ρ, st, env, rl, re, h⟩ => ?_
  refine tA_of rl re (post_bind.mp h) fun y st1 h1 ρ1 H1 vs e1 r1 d1 => ?_
  obtain ⟨⟨xs, g⟩, e, h2⟩ := post_of.mp h1
  generalize asTup y = ds at d1 e
  match ds, d1, e with
  | [.int i, .int j], .cons (.int _) (.cons (.int _) .nil), e =>
    have e' : (if rngOk i j then some (rng i j, ([] : Guard)) else none) = some (xs, g) := e
    by_cases c : rngOk i j = true
    · rw [if_pos c] at e'
      cases e'
      have c0 := rngOk_bd c
      exact ⟨i, j, rfl, c0, h2 _ _ _ e1 r1 (wk_rng rfl rfl)⟩
    · rw [if_neg c] at e'; cases e'
end
end Py
end

section
set_option Elab.async false
set_option linter.all false
set_option maxRecDepth 100000
set_option maxHeartbeats 1000000
/-! Comprehensions. -/
namespace Py
open PySem PySem.Spec PyProof.Rows L2

def evQ (cf : Nat → List D → Store → R D) (c : E) (env : Sl) (st : Store) : R Bool := match c with
  | .np => R.ok true st
  | _ => tr (ev cf c env st)
def tQ (K : PySem.W.Frag) (cl : Nat → Addr) (cf : Nat → List D → Store → R D) (Wx : WX) (c : E) : TT := fun σ H Q => ∃ ρ st env, Rel K cl ρ H st ∧ RE K ρ H env σ ∧
  Post (evQ cf c env st) (fun b st' => ∀ ρ' H', Ext K ρ H ρ' H' → Rel K cl ρ' H' st' → Q b H') (ExC K cl ρ H fun c d H' => Wx c d σ H')
theorem pts_w {X : Cx} {e : List Expr} {t t' : TT} (h : PTs X e t) (w : ∀ σ H Q, t' σ H Q → t σ H Q) : PTs X e t' := ⟨fun pins s σ H Q I q => h.run pins s σ H Q I (w σ H Q q)⟩
section
variable {K : PySem.W.Frag} {cl : Nat → Addr} {ρ ρ' : List Addr} {H H' : Hp} {st : Store}
/-- an object of ours outside the store is written -/
theorem Ext.own (e : Ext K ρ H ρ' H') {a : Addr} {us : List V} {u : HO} (hn : H a = none) (ha : H' a = some (.lst us)) : Ext K ρ H ρ' (upd H' a u) := by
  refine ⟨fun b xs h => sqt_at ha (fun _ q => nomatch q) (fun _ _ q => nomatch q) (e.tup b xs h), e.pre, fun b o h hb => ?_, e.new⟩
  rw [upd_ne (fun q => by subst q; rw [hn] at h; cases h)]
  exact e.old b o h hb
theorem Rel.own (r : Rel K cl ρ H st) {a : Addr} {us : List V} {u : HO} (ha : H a = some (.lst us)) (hn : a ∉ ρ) : Rel K cl ρ (upd H a u) st := by
  refine ⟨r.len, r.nd, fun i o b h1 h2 => ?_⟩
  obtain ⟨w, h3, h4⟩ := r.obj i o b h1 h2
  refine ⟨w, ?_, h4.mono (fun b xs h => sqt_at ha (fun _ q => nomatch q) (fun _ _ q => nomatch q) h) fun _ _ q => q⟩
  rw [upd_ne (fun q => by subst q; exact hn (List.mem_of_getElem? h2))]
  exact h3
theorem RDs.own {ds : List D} {vs : List V} (h : RDs K ρ H ds vs) {a : Addr} {us : List V} {u : HO} (ha : H a = some (.lst us)) : RDs K ρ (upd H a u) ds vs :=
  h.mono (fun b xs h => sqt_at ha (fun _ q => nomatch q) (fun _ _ q => nomatch q) h) fun _ _ q => q
theorem RE.mono {env : Sl} {σ : L2.St} (h : RE K ρ H env σ) (ht : ∀ a xs, SqT K H a xs → SqT K H' a xs) : RE K ρ H' env σ := ⟨h.1, fun i d q => let ⟨v, a, b⟩ := h.2 i d q; ⟨v, a, b.mono ht fun _ _ z => z⟩⟩
end
/-- a list that the comprehension makes, beside the store: then it is in the store -/
theorem Rel.adopt {K : PySem.W.Frag} {cl : Nat → Addr} {ρ : List Addr} {H : Hp} {st : Store} (r : Rel K cl ρ H st) {a : Addr} {o : O} {u : HO} (ha : H a = some u) (hn : a ∉ ρ) (h : RO K cl ρ H o u) : Rel K cl (ρ ++ [a]) H (st ++ [o]) := by
  have hr : ∀ (n : Nat) (b : Addr), ρ[n]? = some b → (ρ ++ [a])[n]? = some b := fun n b q => by
    rw [List.getElem?_append_left (List.getElem?_eq_some_iff.mp q).1]; exact q
  refine ⟨by simp [r.len], ?_, fun i ob b h1 h2 => ?_⟩
  · rw [List.nodup_append]
    refine ⟨r.nd, by simp, fun x hx y hy => ?_⟩
    rw [List.mem_singleton.mp hy]
    rintro rfl
    exact hn hx
  · by_cases hi : i < st.length
    · rw [List.getElem?_append_left hi] at h1
      rw [List.getElem?_append_left (by rw [r.len]; exact hi)] at h2
      obtain ⟨w, h3, h4⟩ := r.obj i ob b h1 h2
      exact ⟨w, h3, h4.mono (fun _ _ q => q) hr⟩
    · have hi2 : i = st.length := by
        have := (List.getElem?_eq_some_iff.mp h1).1
        simp at this
        omega
      subst hi2
      rw [← r.len] at h2
      simp at h1 h2
      subst h1 h2
      exact ⟨u, ha, h.mono (fun _ _ q => q) hr⟩
section
variable {X : Cx} {tg p q : Expr} {cl : Nat → Addr} {cf : Nat → List D → Store → R D} {Wx : WX} {a b es : E} {pos : Pos}
theorem rq_none : PTs X [] (tQ X.K cl cf Wx .np) := pts_w pts_nil fun σ H Q ⟨ρ, st, env, rl, re, h⟩ => h ρ H Ext.refl rl
theorem rq_one (hc : PT X p (tTs X.K cl cf Wx a)) (hn : a ≠ .np) : PTs X [p] (tQ X.K cl cf Wx a) := pts_w (pts_one hc) fun σ H Q ⟨ρ, st, env, rl, re, h⟩ => by
  refine ⟨ρ, st, env, rl, re, ?_⟩
  unfold evQ at h
  split at h
  · exact absurd rfl hn
  · exact h
/-- how a comprehension's turns go on, the list so far at D -/
def CompW (K : PySem.W.Frag) (cl : Nat → Addr) (g : Guard) (f : D → Store → R (Option D)) (xs : List D) (ρ1 : List Addr) (H1 : Hp) (Da : Addr) (Qf : List D → Store → Prop) (i : Nat) (H : Hp) : Prop :=
  ∃ ρ st acc us, Ext K ρ1 H1 ρ H ∧ Rel K cl ρ H st ∧ H Da = some (.lst us) ∧ Da ∉ ρ ∧ RDs K ρ H acc us ∧ Post (compL g f (xs.drop i) st) (fun r st' => (acc ++ r).length ≤ sizeLine ∧ Qf (acc ++ r) st') (fun _ _ _ => False)
theorem lc_red {own : List (Str × Nat)} {t : T} {k : IK} {it cond e : E} {σ : L2.St} {H : Hp} {Q : VK} (hsub : ∀ i ∈ tsl t, i ∈ own.map (·.2)) (h : tE X.K cl cf Wx (.lc own t k it cond e) σ H Q) :
    tLc (tW X.K cl cf Wx k it) (gT X.K t) (tQ X.K cl cf (fun _ _ _ _ => False) cond) (tE X.K cl cf (fun _ _ _ _ => False) e) (own.map (·.2)) σ H Q := by
  obtain ⟨ρ, st, env, rl, re, hp⟩ := h
  have hp2 : Post ((evW cf k it env st).bind fun p st => (compL p.2 (fun d st => noexn ((R.of (setT t d (wiped env (own.map (·.2)))) st).bind fun env st => (evQ cf cond env st).bind fun k st => if k then (ev cf e env st).bind fun x st => .ok (some x) st else .ok none st)) p.1 st).bind fun xs st =>
    if xs.length ≤ sizeLine then .ok (.ref st.length) (st ++ [.lst xs]) else .bad) (Cont X.K cl ρ H Q) (ExC X.K cl ρ H fun c d H' => Wx c d σ H') := by
    have : ∀ (r1 : R D) (f : List D × Guard → Store → R D), (r1.bind fun y st => (R.of (walkD st k (asTup y)) st).bind f) = (r1.bind fun y st => R.of (walkD st k (asTup y)) st).bind f := fun r1 f => by cases r1 <;> rfl
    unfold evW
    rw [← this]
    exact hp
  refine ⟨ρ, st, env, rl, re, (post_bind.mp hp2).imp (fun pw st1 h1 => ?_) fun _ _ _ q => q⟩
  obtain ⟨xs, g⟩ := pw
  intro ρ1 H1 J e1 r1 wk Da hD
  generalize hf : (fun (d : D) (st : Store) => noexn ((R.of (setT t d (wiped env (own.map (·.2)))) st).bind fun env st => (evQ cf cond env st).bind fun k st => if k then (ev cf e env st).bind fun x st => R.ok (some x) st else .ok none st)) = f at h1
  have h1' : Post ((compL g f xs st1).bind fun xs st => if xs.length ≤ sizeLine then .ok (.ref st.length) (st ++ [.lst xs]) else .bad) (Cont X.K cl ρ H Q) (ExC X.K cl ρ H fun c d H' => Wx c d σ H') := h1
  have re1 := re.ext e1
  let Qf : List D → Store → Prop := fun r st' => Cont X.K cl ρ H Q (.ref st'.length) (st' ++ [.lst r])
  have start : Post (compL g f xs st1) (fun r st' => r.length ≤ sizeLine ∧ Qf r st') (fun _ _ _ => False) := by
    cases ec : compL g f xs st1 with
    | ok r st' =>
      rw [ec] at h1'
      obtain ⟨c, h2⟩ := post_if (show Post (if r.length ≤ sizeLine then R.ok (D.ref st'.length) (st' ++ [.lst r]) else .bad) (Cont X.K cl ρ H Q) (ExC X.K cl ρ H fun c d H' => Wx c d σ H') from h1')
      exact ⟨c, h2⟩
    | exn c fs st' =>
      -- no turn lets one out
      have no : ∀ (ds : List D) (st0 : Store) (c : Nat) (fs : List (Str × D)) (st' : Store), compL g f ds st0 ≠ .exn c fs st' := by
        intro ds
        induction ds with
        | nil => intro st0 c fs st' q; unfold compL at q; split at q <;> cases q
        | cons d ds ih =>
          intro st0 c fs st' q
          unfold compL at q
          split at q
          · cases e2 : f d st0 with
            | ok o st2 =>
              rw [e2, R.bind_ok] at q
              cases e3 : compL g f ds st2 with
              | ok r st3 => rw [e3] at q; cases q
              | exn c' fs' st3 => exact ih _ _ _ _ e3
              | bad => rw [e3] at q; cases q
            | exn c' fs' st2 =>
              rw [← hf] at e2
              have : ∀ {α : Type} (r : R α) c fs st, noexn r ≠ .exn c fs st := fun r c fs st => by cases r <;> (intro q; cases q)
              exact this _ _ _ _ e2
            | bad => rw [e2] at q; cases q
          · cases q
      exact absurd ec (no _ _ _ _ _)
    | bad => rw [ec] at h1'; exact h1'.elim
  refine ⟨fun i m H => m = xs.length - i ∧ i ≤ xs.length ∧ CompW X.K cl g f xs ρ1 H1 Da Qf i H, ⟨xs.length, by simp, Nat.zero_le _, ρ1, st1, [], [], Ext.fresh r1 hD, r1.fresh hD, upd_same, r1.fresh_not hD, .nil, start⟩, ?_⟩
  rintro i m H2 ⟨rfl, hle, ρ2, st2, acc, us, e2, r2, hDa, hDn, qa, hc2⟩
  have guard : gOk g st2 = true := by
    cases hx : xs.drop i with
    | nil => rw [hx] at hc2; unfold compL at hc2; exact (post_if hc2).1
    | cons d ds => rw [hx] at hc2; unfold compL at hc2; exact (post_if hc2).1
  obtain ⟨wstop, wgo⟩ := wk ρ2 H2 st2 e2 r2 guard
  by_cases hlt : i < xs.length
  · refine .inr ?_
    obtain ⟨g1, g2⟩ := wgo i xs[i] (List.getElem?_eq_getElem hlt)
    refine ⟨g1, CompW X.K cl g f xs ρ1 H1 Da Qf (i + 1), fun H' w => ⟨xs.length - (i + 1), by omega, rfl, hlt, w⟩, fun x H3 y => ?_⟩
    obtain ⟨e3, r3, d3⟩ := g2 x H3 y
    rw [List.drop_eq_getElem_cons hlt] at hc2
    unfold compL at hc2
    obtain ⟨_, hc3⟩ := post_if hc2
    have hc4 := post_bind.mp hc3
    rw [← hf] at hc4
    have hc5 := post_bind.mp (post_noexn (E' := ExC X.K cl ρ2 H3 fun _ _ _ => False) hc4)
    obtain ⟨env', es', hc6⟩ := post_of.mp hc5
    have hDa3 : H3 Da = some (.lst us) := e3.old Da _ hDa hDn
    have rew : RE X.K ρ2 H3 (wiped env (own.map (·.2))) (wipe σ (own.map (·.2))) := ((re1.ext e2).ext e3).wipe _
    refine ⟨ρ2, xs[i], wiped env (own.map (·.2)), env', rew, d3, es', fun σ' re' w' => ⟨?_, ?_⟩⟩
    · rw [w' _ hsub, wipe_idem]
    refine ⟨ρ2, st2, env', r3, re', (post_bind.mp hc6).imp (fun b st4 h4 ρ4 H4 e4 r4 => ?_) fun _ _ _ q => q⟩
    have hDn4 : Da ∉ ρ4 := fun hm => by
      rcases e4.new Da hm with z | z
      · exact hDn z
      · rw [hDa3] at z; cases z
    have hDa4 : H4 Da = some (.lst us) := e4.old Da _ hDa3 hDn
    cases b with
    | false =>
      have h5 : Post (compL g f (xs.drop (i + 1)) st4) (fun r st' => (acc ++ r).length ≤ sizeLine ∧ Qf (acc ++ r) st') (fun _ _ _ => False) := by
        have h4' := post_bind.mp h4
        rw [← hf]
        exact h4'.imp (fun _ _ q => q) fun _ _ _ q => q
      exact ⟨ρ4, st4, acc, us, (e2.trans e3).trans e4, r4, hDa4, hDn4, (qa.ext e3).ext e4, h5⟩
    | true =>
      refine show tE X.K cl cf (fun _ _ _ _ => False) e σ' H4 _ from ?_
      have h4' := post_bind.mp (show Post ((ev cf e env' st4).bind fun x st => R.ok (some x) st) _ _ from h4)
      refine ⟨ρ4, st4, env', r4, re'.ext e4, h4'.imp (fun dx st5 h5 ρ5 H5 vx e5 r5 d5 => ?_) fun _ _ _ q => ExC.ext e4 q⟩
      have hDn5 : Da ∉ ρ5 := fun hm => by
        rcases e5.new Da hm with z | z
        · exact hDn4 z
        · rw [hDa4] at z; cases z
      have hDa5 : H5 Da = some (.lst us) := e5.old Da _ hDa4 hDn4
      have h6 : Post (compL g f (xs.drop (i + 1)) st5) (fun r st' => (acc ++ dx :: r).length ≤ sizeLine ∧ Qf (acc ++ dx :: r) st') (fun _ _ _ => False) := by
        have h5' := post_bind.mp h5
        rw [← hf]
        exact h5'.imp (fun _ _ q => q) fun _ _ _ q => q
      have qa5 : RDs X.K ρ5 H5 acc us := ((qa.ext e3).ext e4).ext e5
      have hlen : us.length < sizeLine := by
        rw [← qa5.length]
        cases ec : compL g f (xs.drop (i + 1)) st5 with
        | ok r st' =>
          rw [ec] at h6
          have := h6.1
          rw [List.length_append, List.length_cons] at this
          omega
        | exn c fs st' => rw [ec] at h6; exact h6.elim
        | bad => rw [ec] at h6; exact h6.elim
      refine ⟨us, hDa5, hlen, ρ5, st5, acc ++ [dx], us ++ [vx], ?_, r5.own hDa5 hDn5, upd_same, hDn5, (qa5.append (.cons d5 .nil)).own hDa5, ?_⟩
      · exact (((e2.trans e3).trans e4).trans e5).own hD hDa5
      · exact h6.imp (fun r st' q => by rw [List.append_assoc]; exact q) fun _ _ _ q => q
  · refine .inl ?_
    have hie : i = xs.length := by omega
    subst hie
    refine ⟨wstop, ?_⟩
    rw [List.drop_length] at hc2
    unfold compL at hc2
    obtain ⟨_, hl, hq⟩ := post_if hc2
    rw [List.append_nil] at hq
    have ef : Ext X.K ρ1 H1 (ρ2 ++ [Da]) H2 := by
      obtain ⟨more, hm⟩ := e2.pre
      refine ⟨e2.tup, ⟨more ++ [Da], by rw [hm, List.append_assoc]⟩, e2.old, fun b hb => ?_⟩
      rcases List.mem_append.mp hb with z | z
      · exact e2.new b z
      · rw [List.mem_singleton.mp z]; exact .inr hD
    exact hq (ρ2 ++ [Da]) H2 (.ref Da) (e1.trans ef) (r2.adopt hDa hDn (.lst qa)) (.ref (by rw [← r2.len]; simp))
theorem re_lc {elt iter : Expr} {ifs : List Expr} {scope : Scope} {own : List (Str × Nat)} {t : T} {k : IK} {it cond e : E} (hc : X.calm = true) (hN : X.N.Nodup) (hi : PI X tg iter (tW X.K cl cf Wx k it)) (ok : BlkOk X.N X.env.scope scope own)
    (hg : ∀ (s : Shared) (H : Hp) (C : Addr) (cll : List (Str × Addr)) (fp : List Addr), PG (X.blk s H scope (compEnvC scope cll C X.env) fp) tg (gT X.K t))
    (ht : ∀ (s : Shared) (H : Hp) (C : Addr) (cll : List (Str × Addr)) (fp : List Addr), PTs (X.blk s H scope (compEnvC scope cll C X.env) fp) ifs (tQ X.K cl cf (fun _ _ _ _ => False) cond))
    (he : ∀ (s : Shared) (H : Hp) (C : Addr) (cll : List (Str × Addr)) (fp : List Addr), PE (X.blk s H scope (compEnvC scope cll C X.env) fp) elt (tE X.K cl cf (fun _ _ _ _ => False) e))
    (hs : ∀ x, foldedSetIterable iter X.env x = pure x) (hsub : ∀ i ∈ tsl t, i ∈ own.map (·.2)) : PE X (.ListComp elt [⟨tg, iter, ifs, 0⟩] scope pos) (tE X.K cl cf Wx (.lc own t k it cond e)) := pe_w (pe_lc hc hN hi ok hg ht he hs) fun σ H Q h => lc_red hsub h
end
end Py
end

section
set_option Elab.async false
set_option linter.all false
set_option maxRecDepth 100000
set_option maxHeartbeats 1000000
/-! Statements. -/
namespace Py
open PySem PySem.Spec PyProof.Rows L2

def ContF (K : PySem.W.Frag) (cl : Nat → Addr) (ρ : List Addr) (H : Hp) (Z : Ends) : Fl → Store → Prop
  | .nx env, st => ∀ ρ' H' σ', Ext K ρ H ρ' H' → Rel K cl ρ' H' st → RE K ρ' H' env σ' → Z.nx σ' H'
  | .bk env, st => ∀ ρ' H' σ', Ext K ρ H ρ' H' → Rel K cl ρ' H' st → RE K ρ' H' env σ' → Z.bk σ' H'
  | .ct env, st => ∀ ρ' H' σ', Ext K ρ H ρ' H' → Rel K cl ρ' H' st → RE K ρ' H' env σ' → Z.ct σ' H'
  | .rt d, st => Cont K cl ρ H Z.rt d st
abbrev wx (P : XK) : WX := fun c d _ H => P c d H
def tS (K : PySem.W.Frag) (cl : Nat → Addr) (Wh : Nat) (cf : Nat → List D → Store → R D) (P : XK) (s : S) : TS := fun Z σ H => ∃ ρ st env, Rel K cl ρ H st ∧ RE K ρ H env σ ∧ Post (ex Wh cf s env st) (ContF K cl ρ H Z) (ExC K cl ρ H P)
theorem ContF.ext {K : PySem.W.Frag} {cl : Nat → Addr} {ρ ρ' : List Addr} {H H' : Hp} {Z : Ends} (e : Ext K ρ H ρ' H') {fl : Fl} {st : Store} (h : ContF K cl ρ H Z fl st) : ContF K cl ρ' H' Z fl st := by
  cases fl with
  | nx env => exact fun _ _ _ e' r q => h _ _ _ (e.trans e') r q
  | bk env => exact fun _ _ _ e' r q => h _ _ _ (e.trans e') r q
  | ct env => exact fun _ _ _ e' r q => h _ _ _ (e.trans e') r q
  | rt d => exact Cont.ext e h
section
variable {X : Cx} {tg p q : Expr} {cl : Nat → Addr} {Wh : Nat} {cf : Nat → List D → Store → R D} {P : XK} {a b c es : E} {pos : Pos} {s s' : S} {sts : List Stmt} {stm : Stmt}
theorem post_go {ρ ρ' : List Addr} {K : PySem.W.Frag} {H H' : Hp} {Z : Ends} {r : R Fl} (e : Ext K ρ H ρ' H') (h : Post r (ContF K cl ρ H Z) (ExC K cl ρ H P)) : Post r (ContF K cl ρ' H' Z) (ExC K cl ρ' H' P) := h.imp (fun _ _ q => q.ext e) fun _ _ _ q => q.ext e
theorem rs_nil : PSs X [] (tS X.K cl Wh cf P .skip) := pss_w pss_nil fun Z σ H ⟨ρ, st, env, rl, re, h⟩ => h ρ H σ Ext.refl rl re
theorem rs_cons (h1 : PS X stm (tS X.K cl Wh cf P s)) (h2 : PSs X sts (tS X.K cl Wh cf P s')) : PSs X (stm :: sts) (tS X.K cl Wh cf P (.seq s s')) := by
  refine pss_w (pss_cons h1 h2) fun Z σ H ⟨ρ, st, env, rl, re, h⟩ => ?_
  refine ⟨ρ, st, env, rl, re, (post_bind.mp h).imp (fun fl st1 q => ?_) fun _ _ _ q => q⟩
  cases fl with
  | nx env1 => exact fun ρ' H' σ' e r re' => ⟨ρ', st1, env1, r, re', post_go e (show Post (ex Wh cf s' env1 st1) (ContF X.K cl ρ H Z) (ExC X.K cl ρ H P) from q)⟩
  | bk env1 => exact q
  | ct env1 => exact q
  | rt d => exact q
theorem rs_next (h : PS X stm tNext) : PS X stm (tS X.K cl Wh cf P .skip) := ps_w h fun Z σ H ⟨ρ, st, env, rl, re, h⟩ => h ρ H σ Ext.refl rl re
theorem rs_never : PS X stm (tS X.K cl Wh cf P .never) := ps_w ps_never fun Z σ H ⟨ρ, st, env, rl, re, h⟩ => h.elim
theorem rs_brk : PS X (.Break pos) (tS X.K cl Wh cf P .brk) := ps_w ps_break fun Z σ H ⟨ρ, st, env, rl, re, h⟩ => h ρ H σ Ext.refl rl re
theorem rs_cont : PS X (.Continue pos) (tS X.K cl Wh cf P .cont) := ps_w ps_continue fun Z σ H ⟨ρ, st, env, rl, re, h⟩ => h ρ H σ Ext.refl rl re
theorem rs_expr (he : PE X p (tE X.K cl cf (wx P) a)) (hs : swapsWith p none pos.line X.env = pure false) : PS X (.Expr p pos) (tS X.K cl Wh cf P (.expr a)) := by
  refine ps_w (ps_expr he hs) fun Z σ H ⟨ρ, st, env, rl, re, h⟩ => ?_
  refine tE_of rl re (post_bind.mp h) fun x st1 h1 ρ1 H1 vx e1 r1 d1 => ?_
  exact (show ContF X.K cl ρ H Z (.nx env) st1 from h1) _ _ _ e1 r1 (re.ext e1)
theorem rs_ret (he : PE X p (tE X.K cl cf (wx P) a)) : PS X (.Return (some p) pos) (tS X.K cl Wh cf P (.ret a)) := by
  refine ps_w (ps_ret he) fun Z σ H ⟨ρ, st, env, rl, re, h⟩ => ?_
  exact tE_of rl re (post_bind.mp h) fun x st1 h1 => h1
theorem rs_retN : PS X (.Return none pos) (tS X.K cl Wh cf P .retN) := ps_w ps_retN fun Z σ H ⟨ρ, st, env, rl, re, h⟩ => Cont.here (show Cont X.K cl ρ H Z.rt .non st from h) rl .non
theorem rs_if {ts es : List Stmt} (hc : PT X p (tTs X.K cl cf (wx P) c)) (ha : PSs X ts (tS X.K cl Wh cf P s)) (hb : PSs X es (tS X.K cl Wh cf P s')) : PS X (.If p ts es pos) (tS X.K cl Wh cf P (.iff c s s')) := by
  refine ps_w (ps_if hc ha hb) fun Z σ H ⟨ρ, st, env, rl, re, h⟩ => ?_
  refine tTs_of rl re (post_bind.mp h) fun k st1 h1 ρ1 H1 e1 r1 => ?_
  cases k with
  | true => exact ⟨ρ1, st1, env, r1, re.ext e1, post_go e1 h1⟩
  | false => exact ⟨ρ1, st1, env, r1, re.ext e1, post_go e1 h1⟩
/-- an assignment by its reading: the value, then the target -/
theorem rs_asg_w {t : T} (h : PS X stm (tAsg (tE X.K cl cf (wx P) a) (gT X.K t))) : PS X stm (tS X.K cl Wh cf P (.asg t a)) := by
  refine ps_w h fun Z σ H ⟨ρ, st, env, rl, re, h⟩ => ?_
  refine tE_of rl re (post_bind.mp h) fun x st1 h1 ρ1 H1 vx e1 r1 d1 => ?_
  obtain ⟨env', e2, h2⟩ := post_of.mp (post_bind.mp h1)
  exact ⟨ρ1, x, env, env', re.ext e1, d1, e2, fun σ' re' _ => (show ContF X.K cl ρ H Z (.nx env') st1 from h2) _ _ _ e1 r1 re'⟩
theorem rs_asg {t : T} (he : PE X p (tE X.K cl cf (wx P) a)) (hg : PG X tg (gT X.K t)) (hs : swapsWithSole [tg] p pos.line X.env = pure false) (hw : swappedStores [tg] p X.env = pure none) (h1 : (assignEach [tg] X.env).map (·.2) = [assign tg X.env]) :
    PS X (.Assign [tg] p pos) (tS X.K cl Wh cf P (.asg t a)) := rs_asg_w (ps_asg he hg hs hw h1)
theorem tAsg_name {i : Nat} {te : TE} (h : PS X stm (tAsg te (gName i))) : PS X stm (tAsg te (fun v σ H Q => Q (σ.set i (some v)) H)) := h
theorem rs_asgN {i : Nat} (h : PS X stm (tAsg (tE X.K cl cf (wx P) a) (gName i))) : PS X stm (tS X.K cl Wh cf P (.asg (.nm i) a)) := by
  refine ps_w h fun Z σ H ⟨ρ, st, env, rl, re, h⟩ => ?_
  refine tE_of rl re (post_bind.mp h) fun x st1 h1 ρ1 H1 vx e1 r1 d1 => ?_
  obtain ⟨env', e2, h2⟩ := post_of.mp (post_bind.mp h1)
  cases e2
  exact (show ContF X.K cl ρ H Z (.nx (env.set i (some x))) st1 from h2) _ _ _ e1 r1 ((re.ext e1).set d1 i)
theorem rs_asgLc {i : Nat} {y : Str} {py : Pos} {elt tg iter : Expr} {ifs : List Expr} {scope : Scope} {own : List (Str × Nat)} {pos spos : Pos} {t : T} {k : IK} {it cond e : E} (hy : X.N[i]? = some y) (hyl : X.env.scope.names.lookup y = some .local)
    (hsw : swapsWith (.ListComp elt [⟨tg, iter, ifs, 0⟩] scope pos) (some (.Name y py)) spos.line X.env = pure true) (hc : X.calm = true) (hN : X.N.Nodup) (hi : PI X tg iter (tW X.K cl cf (wx P) k it)) (ok : BlkOk X.N X.env.scope scope own)
    (hg : ∀ (s : Shared) (H : Hp) (C : Addr) (cll : List (Str × Addr)) (fp : List Addr), PG (X.blk s H scope (compEnvC scope cll C X.env) fp) tg (gT X.K t))
    (ht : ∀ (s : Shared) (H : Hp) (C : Addr) (cll : List (Str × Addr)) (fp : List Addr), PTs (X.blk s H scope (compEnvC scope cll C X.env) fp) ifs (tQ X.K cl cf (fun _ _ _ _ => False) cond))
    (he : ∀ (s : Shared) (H : Hp) (C : Addr) (cll : List (Str × Addr)) (fp : List Addr), PE (X.blk s H scope (compEnvC scope cll C X.env) fp) elt (tE X.K cl cf (fun _ _ _ _ => False) e))
    (hs : ∀ x, foldedSetIterable iter X.env x = pure x) (hsub : ∀ i ∈ tsl t, i ∈ own.map (·.2)) : PS X (.Assign [.Name y py] (.ListComp elt [⟨tg, iter, ifs, 0⟩] scope pos) spos) (tS X.K cl Wh cf P (.asg (.nm i) (.lc own t k it cond e))) :=
  rs_asgN (ps_w (ps_setLc hc hN hy hyl hsw hi ok hg ht he hs) fun Z σ H h => lc_red hsub h)
theorem rs_par {i j : Nat} {ta : TA} (h : PS X stm (tPar i j ta)) (ht : ta = tA X.K cl cf (wx P) (.cons a (.cons b .nil))) : PS X stm (tS X.K cl Wh cf P (.par i j a b)) := by
  subst ht
  refine ps_w h fun Z σ H ⟨ρ, st, env, rl, re, h⟩ => ?_
  have h0 : Post ((ev cf a env st).bind fun x st => (ev cf b env st).bind fun y st => .ok (Fl.nx ((env.set i (some x)).set j (some y))) st) (ContF X.K cl ρ H Z) (ExC X.K cl ρ H P) := h
  have h1 : Post (ev cf (.cons a (.cons b .nil)) env st) (fun y st' => ∃ dx dy, asTup y = [dx, dy] ∧ ContF X.K cl ρ H Z (.nx ((env.set i (some dx)).set j (some dy))) st') (ExC X.K cl ρ H P) := by
    show Post ((ev cf a env st).bind fun x st => ((ev cf b env st).bind fun x st => .ok (D.tup [x]) st).bind fun y st => .ok (D.tup (x :: asTup y)) st) _ _
    refine post_bind.mpr ((post_bind.mp h0).imp (fun dx st1 h2 => ?_) fun _ _ _ q => q)
    refine post_bind.mpr (post_bind.mpr ((post_bind.mp h2).imp (fun dy st2 h3 => ?_) fun _ _ _ q => q))
    exact ⟨dx, dy, rfl, h3⟩
  refine tA_of rl re h1 fun y st1 ⟨dx, dy, ey, k⟩ ρ1 H1 vs e1 r1 d1 => ?_
  rw [ey] at d1
  obtain ⟨v, u, rfl, r2, r3⟩ := d1.two
  exact ⟨v, u, rfl, k _ _ _ e1 r1 (((re.ext e1).set r2 i).set r3 j)⟩
theorem RDs.setI {K : PySem.W.Frag} {ρ : List Addr} {H : Hp} : ∀ {ds : List D} {vs : List V} {d : D} {v : V} (k : Nat), RDs K ρ H ds vs → RD K ρ H d v → RDs K ρ H (ds.set k d) (vs.set k v)
  | _, _, _, _, _, .nil, _ => .nil
  | _, _, _, _, 0, .cons _ t, r => .cons r t
  | _, _, _, _, k + 1, .cons h t, r => .cons h (RDs.setI k t r)
theorem rs_asgI {o i : E} (h : PS X stm (tAsg (tE X.K cl cf (wx P) a) (gSub (tE X.K cl cf (wx P) o) (tE X.K cl cf (wx P) i) rSetL))) : PS X stm (tS X.K cl Wh cf P (.asgI o i a)) := by
  refine ps_w h fun Z σ H ⟨ρ, st, env, rl, re, h⟩ => ?_
  refine tE_of rl re (post_bind.mp h) fun dv st1 h1 ρ1 H1 vv e1 r1 d1 => ?_
  refine tE_of r1 (re.ext e1) (post_ext e1 (post_bind.mp h1)) fun dx st2 h2 ρ2 H2 vx e2 r2 d2 => ?_
  refine tE_of r2 ((re.ext e1).ext e2) (post_ext (e1.trans e2) (post_bind.mp h2)) fun dy st3 h3 ρ3 H3 vy e3 r3 d3 => ?_
  have ee := e1.trans (e2.trans e3)
  have d2' := d2.ext e3
  have d1' := (d1.ext e2).ext e3
  cases d2' with
  | @ref n t ht => cases d3 with
    | int j =>
      have h3' : Post (match st3[n]? with
        | some (.lst xs) => match ixN xs.length j with
          | some k => .ok (Fl.nx env) (st3.set n (.lst (xs.set k dv)))
          | none => .bad
        | _ => .bad) (ContF X.K cl ρ H Z) (ExC X.K cl ρ H P) := h3
      split at h3'
      · rename_i xs e
        obtain ⟨us, hu, ho⟩ := lst_of r3 ht e
        split at h3'
        · rename_i k ek
          refine ⟨t, us, j, k, rfl, rfl, hu, by rw [← ho.length]; exact ek, ?_⟩
          have ew := Ext.write (u' := .lst (us.set k vv)) r3 ht hu (RO.lst (cl := cl) ho)
          exact (show ContF X.K cl ρ H Z (.nx env) _ from h3') _ _ _ (ee.trans ew) (r3.write ht hu (.lst ho) (.lst (ho.setI k d1'))) ((re.ext ee).ext ew)
        · exact h3'.elim
      · exact h3'.elim
    | _ => exact h3.elim
  | _ => cases d3 <;> exact h3.elim

/-! ### loops -/
theorem rs_while {body : List Stmt} (hp : PassesOwn (model X.prog X.w) X.A X.env X.xe) (hc : PT X p (tTs X.K cl cf (wx P) c)) (hb : PSs X body (tS X.K cl Wh cf P s)) : PS X (.While p body [] pos) (tS X.K cl Wh cf P (.wh c s)) := by
  refine ps_w (ps_while hp hc hb) fun Z σ H ⟨ρ, st, env, rl, re, h⟩ => ?_
  have h : Post (whl (fun env st => tr (ev cf c env st)) (ex Wh cf s) Wh env st) (ContF X.K cl ρ H Z) (ExC X.K cl ρ H P) := h
  refine ⟨fun m σ' H' => ∃ ρ' st' env', Ext X.K ρ H ρ' H' ∧ Rel X.K cl ρ' H' st' ∧ RE X.K ρ' H' env' σ' ∧ Post (whl (fun env st => tr (ev cf c env st)) (ex Wh cf s) m env' st') (ContF X.K cl ρ H Z) (ExC X.K cl ρ H P), ⟨Wh, ρ, st, env, Ext.refl, rl, re, h⟩, ?_⟩
  rintro m σ1 H1 ⟨ρ1, st1, env1, e1, r1, re1, h1⟩
  cases m with
  | zero => exact h1.elim
  | succ n =>
    refine tTs_of r1 re1 (post_ext e1 (post_bind.mp (show Post ((tr (ev cf c env1 st1)).bind fun k st => if k then (ex Wh cf s env1 st).bind fun fl st => match fl with
      | .nx env => whl (fun env st => tr (ev cf c env st)) (ex Wh cf s) n env st
      | .ct env => whl (fun env st => tr (ev cf c env st)) (ex Wh cf s) n env st
      | .bk env => .ok (.nx env) st
      | .rt d => .ok (.rt d) st else .ok (.nx env1) st) (ContF X.K cl ρ H Z) (ExC X.K cl ρ H P) from h1))) fun k st2 h2 ρ2 H2 e2 r2 => ?_
    have ee := e1.trans e2
    cases k with
    | false => exact (show ContF X.K cl ρ H Z (.nx env1) st2 from h2) _ _ _ ee r2 (re1.ext e2)
    | true =>
      rw [if_pos rfl]
      refine ⟨fun σ' H' => ∃ ρ' st' env', Ext X.K ρ H ρ' H' ∧ Rel X.K cl ρ' H' st' ∧ RE X.K ρ' H' env' σ' ∧ Post (whl (fun env st => tr (ev cf c env st)) (ex Wh cf s) n env' st') (ContF X.K cl ρ H Z) (ExC X.K cl ρ H P), fun σ' H' q => ⟨n, Nat.lt_succ_self n, q⟩, ?_⟩
      refine ⟨ρ2, st2, env1, r2, re1.ext e2, ((post_bind.mp h2).imp (fun fl st3 h3 => ?_) fun _ _ _ q => ExC.ext ee q)⟩
      cases fl with
      | nx env3 => exact fun ρ' H' σ' e r re' => ⟨ρ', st3, env3, ee.trans e, r, re', h3⟩
      | ct env3 => exact fun ρ' H' σ' e r re' => ⟨ρ', st3, env3, ee.trans e, r, re', h3⟩
      | bk env3 => exact fun ρ' H' σ' e r re' => (show ContF X.K cl ρ H Z (.nx env3) st3 from h3) _ _ _ (ee.trans e) r re'
      | rt d => exact Cont.ext ee h3
/-- a loop's turns go on -/
def ForW (K : PySem.W.Frag) (cl : Nat → Addr) (g : Guard) (f : D → Sl → Store → R Fl) (xs : List D) (ρ1 : List Addr) (H1 : Hp) (Q : Fl → Store → Prop) (E : Nat → List (Str × D) → Store → Prop) (i : Nat) (σ : L2.St) (H : Hp) : Prop :=
  ∃ ρ st env, Ext K ρ1 H1 ρ H ∧ Rel K cl ρ H st ∧ RE K ρ H env σ ∧ Post (forL g f (xs.drop i) env st) Q E
theorem rs_for {iter : Expr} {body : List Stmt} {t : T} {k : IK} {it : E} (hp : PassesOwn (model X.prog X.w) X.A X.env X.xe) (hc : X.calm = true) (hi : PI X tg iter (tW X.K cl cf (wx P) k it)) (hg : PG X tg (gT X.K t)) (hb : PSs X body (tS X.K cl Wh cf P s))
    (hs : ∀ x, foldedSetIterable iter X.env x = pure x) : PS X (.For tg iter body [] pos) (tS X.K cl Wh cf P (.for t k it s)) := by
  refine ps_w (ps_for hp hc hi hg hb hs) fun Z σ H ⟨ρ, st, env, rl, re, h⟩ => ?_
  have hp2 : Post ((evW cf k it env st).bind fun p st => forL p.2 (fun d env st => (R.of (setT t d env) st).bind fun env st => ex Wh cf s env st) p.1 env st) (ContF X.K cl ρ H Z) (ExC X.K cl ρ H P) := by
    have : ∀ (r1 : R D) (f : List D × Guard → Store → R Fl), (r1.bind fun y st => (R.of (walkD st k (asTup y)) st).bind f) = (r1.bind fun y st => R.of (walkD st k (asTup y)) st).bind f := fun r1 f => by cases r1 <;> rfl
    unfold evW
    rw [← this]
    exact h
  refine ⟨ρ, st, env, rl, re, (post_bind.mp hp2).imp (fun pw st1 h1 => ?_) fun _ _ _ q => q⟩
  obtain ⟨xs, g⟩ := pw
  intro ρ1 H1 J e1 r1 wk
  generalize hf : (fun (d : D) (env : Sl) (st : Store) => (R.of (setT t d env) st).bind fun env st => ex Wh cf s env st) = f at h1
  have h1 : Post (forL g f xs env st1) (ContF X.K cl ρ H Z) (ExC X.K cl ρ H P) := h1
  refine ⟨fun i m σ H' => m = xs.length - i ∧ i ≤ xs.length ∧ ForW X.K cl g f xs ρ1 H1 (ContF X.K cl ρ H Z) (ExC X.K cl ρ H P) i σ H', ⟨xs.length, by simp, Nat.zero_le _, ρ1, st1, env, Ext.refl, r1, re.ext e1, h1⟩, ?_⟩
  rintro i m σ2 H2 ⟨rfl, hle, ρ2, st2, env2, e2, r2, re2, hc2⟩
  have guard : gOk g st2 = true := by
    cases hx : xs.drop i with
    | nil => rw [hx] at hc2; unfold forL at hc2; exact (post_if hc2).1
    | cons d ds => rw [hx] at hc2; unfold forL at hc2; exact (post_if hc2).1
  obtain ⟨wstop, wgo⟩ := wk ρ2 H2 st2 e2 r2 guard
  by_cases hlt : i < xs.length
  · refine .inr ?_
    obtain ⟨g1, g2⟩ := wgo i xs[i] (List.getElem?_eq_getElem hlt)
    refine ⟨g1, ForW X.K cl g f xs ρ1 H1 (ContF X.K cl ρ H Z) (ExC X.K cl ρ H P) (i + 1), fun σ' H' w => ⟨xs.length - (i + 1), by omega, rfl, hlt, w⟩, fun x H3 y => ?_⟩
    obtain ⟨e3, r3, d3⟩ := g2 x H3 y
    rw [List.drop_eq_getElem_cons hlt] at hc2
    unfold forL at hc2
    obtain ⟨_, hc3⟩ := post_if hc2
    have hc4 := post_bind.mp hc3
    rw [← hf] at hc4
    obtain ⟨env', es', hc6⟩ := post_of.mp (post_bind.mp hc4)
    refine ⟨ρ2, xs[i], env2, env', re2.ext e3, d3, es', fun σ' re' _ => ?_⟩
    refine ⟨ρ2, st2, env', r3, re', hc6.imp (fun fl st4 h4 => ?_) fun _ _ _ q => ExC.ext (e1.trans (e2.trans e3)) q⟩
    have ee := e1.trans (e2.trans e3)
    cases fl with
    | nx env4 =>
      intro ρ' H' σ'' e r re''
      refine ⟨ρ', st4, env4, (e2.trans e3).trans e, r, re'', ?_⟩
      rw [← hf]
      exact h4
    | ct env4 =>
      intro ρ' H' σ'' e r re''
      refine ⟨ρ', st4, env4, (e2.trans e3).trans e, r, re'', ?_⟩
      rw [← hf]
      exact h4
    | bk env4 => exact fun ρ' H' σ'' e r re'' => (show ContF X.K cl ρ H Z (.nx env4) st4 from h4) _ _ _ (ee.trans e) r re''
    | rt d => exact Cont.ext ee h4
  · refine .inl ?_
    have hie : i = xs.length := by omega
    subst hie
    refine ⟨wstop, ?_⟩
    rw [List.drop_length] at hc2
    unfold forL at hc2
    obtain ⟨_, hq⟩ := post_if hc2
    exact (show ContF X.K cl ρ H Z (.nx env2) st2 from hq) _ _ _ (e1.trans e2) r2 re2
end
end Py
end

section
set_option Elab.async false
set_option linter.all false
set_option maxRecDepth 100000
/-! len(set(texts)), of any texts. -/
namespace Py
open PySem PySem.Spec PyProof.Rows SS
def fm (xs : List Str) (i : Nat) : List Str := (xs.take i).foldl stepS []
theorem fm_succ (xs : List Str) {i : Nat} (h : i < xs.length) : fm xs (i + 1) = stepS (fm xs i) (xs.getD i Str.empty) := by
  unfold fm
  rw [List.take_add_one, List.foldl_append, List.getD_eq_getElem?_getD, List.getElem?_eq_getElem h]
  rfl
theorem fm_le (xs : List Str) : ∀ i, (fm xs i).length ≤ i := by
  have go : ∀ (ys acc : List Str), (ys.foldl stepS acc).length ≤ acc.length + ys.length := by
    intro ys
    induction ys with
    | nil => intro acc; exact Nat.le_refl _
    | cons y ys ih =>
      intro acc
      refine Nat.le_trans (ih _) ?_
      unfold stepS
      split
      · simp only [List.length_cons]; omega
      · simp only [List.length_cons, List.length_append, List.length_nil]; omega
  intro i
  refine Nat.le_trans (go _ _) ?_
  simp only [List.length_nil, List.length_take]
  omega
theorem fm_all (xs : List Str) : fm xs xs.length = ddup xs := by
  unfold fm ddup
  rw [List.take_length]
theorem any_step (acc : List Str) (x z : Str) : (stepS acc x).any (· == z) = (acc.any (· == z) || decide (z = x)) := by
  unfold stepS
  split
  · rename_i h
    by_cases e : z = x
    · subst e; rw [h]; rfl
    · rw [decide_eq_false e, Bool.or_false]
  · rw [List.any_append]
    by_cases e : z = x
    · subst e; simp
    · have : (x == z) = false := beq_eq_false_iff_ne.mpr fun q => e q.symm
      simp [this, e]
theorem len_step (acc : List Str) (x : Str) : (stepS acc x).length = if acc.any (· == x) = true then acc.length else acc.length + 1 := by
  unfold stepS
  split <;> simp
section
variable {prog : Program} {w : World} {A : Around} {R : Result → Shared → Prop} {I : Addr} {fp wr : List Addr} {G : Array GenState → Array GenState → Prop} {n : Nat} {P : Nat → Value → Prop} {St : Nat → Shared → Prop}
theorem loopS (W : WalksS prog w A.in1 I fp wr G n P St) (S : Addr) (hSf : S ∉ fp) (xs : List Str) (hsz : xs.length = n) (hn1 : n + 1 < scanBound)
    (hval : ∀ i v, P i v → ∃ t, v = .str (xs.getD i Str.empty) t) :
    ∀ (k i : Nat) (s : Shared), n - i = k → i ≤ n → St i s →
      s.heap.SetOf (PySem.strKind prog w) S (fun z => (fm xs i).any (· == z)) (fm xs i).length →
      (∀ s', Moved (S :: wr) G s s' → s'.heap.SetOf (PySem.strKind prog w) S (fun z => (fm xs n).any (· == z)) (fm xs n).length → R (.ok (.ret .none)) s') →
      codeAny (model prog w) A (.builtin "set.update.loop" ⟨[.ref S, .ref I], []⟩) R s := by
  have hSw : S ∉ wr := fun h => hSf (W.sub _ h)
  have hsub : ∀ b ∈ wr, b ∈ S :: wr := fun b hb => List.mem_cons_of_mem _ hb
  intro k
  induction k with
  | zero =>
    intro i s hk hi hst hS hR
    have hin : i = n := by omega
    subst hin
    refine codeAny_builtin PyProof.Rows.F.entry_set_update_loop ?_
    rw [Around.under_plainId PyProof.Rows.F.plain_set_update_loop _]
    show wpAny _ A.in1 (pyNext (.ref I) >>= _) _ _ s
    refine wpAny_bind (W.done s _ _ hst fun s' hm => ?_)
    show wpAny _ A.in1 (ret Value.none) _ _ s'
    exact wpAny_pure (hR s' (hm.mono hsub) (by
      obtain ⟨o, es, ep, t, ho, rest⟩ := hS
      exact ⟨o, es, ep, t, hm.heap S _ hSw ho, rest⟩))
  | succ k ih =>
    intro i s hk hi hst hS hR
    have hlt : i < n := by omega
    refine codeAny_builtin PyProof.Rows.F.entry_set_update_loop ?_
    rw [Around.under_plainId PyProof.Rows.F.plain_set_update_loop _]
    show wpAny _ A.in1 (pyNext (.ref I) >>= _) _ _ s
    refine wpAny_bind (W.item i s _ _ hlt hst fun v s' hP hst' hm => ?_)
    obtain ⟨t, rfl⟩ := hval i v hP
    have hS' : s'.heap.SetOf (PySem.strKind prog w) S (fun z => (fm xs i).any (· == z)) (fm xs i).length := by
      obtain ⟨o, es, ep, tb, ho, rest⟩ := hS
      exact ⟨o, es, ep, tb, hm.heap S _ hSw ho, rest⟩
    show wpAny _ A.in1 (holding [Value.str (xs.getD i Str.empty) t] (setAdd S (.str (xs.getD i Str.empty) t)) >>= _) _ _ s'
    refine wpAny_bind (wpAny_holding ?_)
    unfold setAdd
    refine wpAny_holding ?_
    refine wpAny_bind ((PySem.strKind prog w).pyHash (k := xs.getD i Str.empty) (strKind_is _ _ _ _) ?_)
    refine wpAny_setAddHashed_of (knd := PySem.strKind prog w) (s := { s' with toks := s'.toks + 1 }) (strKind_is _ _ _ _) rfl hS' (Nat.lt_of_le_of_lt (Nat.add_le_add_right (fm_le xs i) 1) (by omega)) fun h' hsb hS2 => ?_
    have hSi : h'.SetOf (PySem.strKind prog w) S (fun z => (fm xs (i + 1)).any (· == z)) (fm xs (i + 1)).length := SetOf_congr hS2 (fun z => by rw [fm_succ xs (by omega), any_step]) (by rw [fm_succ xs (by omega), len_step])
    refine wpAny_pure ⟨plainId_quiet PyProof.Rows.F.plain_set_update_loop _, ih (i + 1) _ (by omega) hlt (W.frame _ s' _ _ hst' (Nat.le_succ _) fun b hb o e => ?_) hSi fun s'' hm'' hS'' => ?_⟩
    · rw [hsb.2 b (fun h : b = S => hSf (by rw [← h]; exact hb))]; exact e
    · refine hR s'' (Moved.trans W.gtrans ((hm.mono hsub).then_heap (Nat.le_succ _) fun b o hb e => ?_) hm'') hS''
      rw [hsb.2 b (fun h : b = S => hb (by rw [h]; exact List.mem_cons_self))]; exact e
end

section
variable {prog : Program} {w : World} {A : Around} {E : Value → Shared → Prop} {s : Shared}
set_option maxHeartbeats 3200000 in
theorem set_lstS {l : Addr} {items : Array Value} {xs : List Str} {Q : Value → Shared → Prop}
    (hh : A.handled = none) (hl : s.heap.IsList l items) (hi : PyProof.Rows.StrsAre items.toList xs) (hn1 : xs.length + 1 < scanBound)
    (h : ∀ (h' : Heap) (tk : Nat), h'.SetOf (PySem.strKind prog w) s.heap.objs.size (fun z => (fm xs items.size).any (· == z)) (fm xs items.size).length →
      (∀ b o, b < s.heap.objs.size → s.heap.get? b = some o → h'.get? b = some o) → Q (.ref s.heap.objs.size) { s with heap := h', toks := tk }) :
    wpAny (model prog w) A (call (.type "set") [.ref l]) Q E s := by
  obtain ⟨c, tl, hmro⟩ := PySem.F.called_set.mro
  have hmade := PySem.F.called_set.made
  have hsub := PySem.F.called_set.sub
  refine wpAny_call (codeAny_of_tree ?_)
  show wpAny _ _ (callAny (.type "set") _) _ _ _
  refine wpAny_pure ⟨Code.quiet_builtin _ (by decide +kernel), codeAny_builtin PySem.F.entry_type_call ?_⟩
  rw [Around.under_plain (weight_type_call_type "set" [.ref l] []) rfl]
  have h1 := PySem.F.called_set.notType
  have h2 := PySem.F.called_set.canCreate
  have hct := PySem.F.typeCall_set_1 (.ref l)
  repeat (any_goals (first | assumption | wp_step))

  refine codeAny_mono (code_set_new_1 (.ref l) (E := E) (Q₁ := fun obj s₁ => ∃ led : Bool, obj = .ref s.heap.objs.size ∧ s₁ = { s with heap := s.heap.push { cls := .type "set", dict := none, data := .set #[] 0 (.fresh 0 0 led) } }) fun led => ⟨led, rfl, rfl⟩) fun r s₁ hr => ?_
  cases r with
  | error e => exact hr
  | ok fl =>
    cases fl with
    | ret obj =>
      obtain ⟨led, rfl, rfl⟩ := hr
      have hS : (s.heap.push { cls := .type "set", dict := none, data := .set #[] 0 (.fresh 0 0 led) }).get? s.heap.objs.size = some { cls := .type "set", dict := none, data := .set #[] 0 (.fresh 0 0 led) } := Heap.get?_push_size _ rfl
      have hT : Shared.TypeIs { s with heap := s.heap.push { cls := .type "set", dict := none, data := .set #[] 0 (.fresh 0 0 led) } } (.ref s.heap.objs.size) "set" := ⟨_, hS, rfl⟩
      have hli := PySem.F.called_set.init.lookup
      have hbi := PySem.F.called_set.init.bind (.ref s.heap.objs.size)
      repeat (any_goals (first | assumption | wp_step))

      refine codeAny_mono (codeAny_call_builtin (R := wants (fun r s₂ => r = .none ∧ ∃ h' tk, s₂ = { s with heap := h', toks := tk } ∧
          h'.SetOf (PySem.strKind prog w) s.heap.objs.size (fun z => (fm xs items.size).any (· == z)) (fm xs items.size).length ∧
          (∀ b o, b < s.heap.objs.size → s.heap.get? b = some o → h'.get? b = some o)) E) PySem.F.called_set.init.plain PySem.F.entry_set_init (check_set_init_1 hT ?_)) fun r₂ s₂ hr₂ => ?_
      · obtain ⟨ol, hol, hcl, nl, hdl⟩ := hl
        obtain ⟨ocls, odict, odata, oslots⟩ := ol
        simp only at hcl hdl
        subst hcl; subst hdl
        have hol' : (s.heap.push { cls := .type "set", dict := none, data := .set #[] 0 (.fresh 0 0 led) }).get? l = some { cls := .type "list", dict := odict, data := .seq items nl, slots := oslots } := Heap.get?_push_of_some _ hol
        have hsls := PySem.F.sub_list_set
        have hslf := PySem.F.sub_list_frozenset
        have hne : (Value.type "list" == Value.type "dict") = false := by decide
        have hl1 : (s.heap.push { cls := .type "set", dict := none, data := .set #[] 0 (.fresh 0 0 led) }).IsList l items := ⟨_, hol', rfl, nl, rfl⟩
        unfold Builtin.«set.__init__» noKeywords Builtin.Frozenset.updateFrom
        generalize hPI : pyIter = PI
        wp_walk
        subst hPI

        refine wpAny_pyIter_list hl1 ?_
        refine wpAny_bind (wpAny_runValue ?_)
        have hlS : l < s.heap.objs.size := Heap.lt_size hol
        have hh3 : A.in1.in1.in1.handled = none := by simp [hh]
        have hneI : l ≠ (s.heap.push { cls := .type "set", dict := none, data := .set #[] 0 (.fresh 0 0 led) }).objs.size := by
          rw [Heap.size_push]; exact Nat.ne_of_lt (Nat.lt_succ_of_lt hlS)
        have hSf : s.heap.objs.size ∉ [(s.heap.push { cls := .type "set", dict := none, data := .set #[] 0 (.fresh 0 0 led) }).objs.size, l] := by
          rw [Heap.size_push]; simp only [List.mem_cons, List.mem_singleton, List.not_mem_nil, or_false, not_or]
          exact ⟨Nat.ne_of_lt (Nat.lt_succ_self _), Nat.ne_of_gt hlS⟩
        have hsz : xs.length = items.size := by rw [← StrsAre.len_eq hi, Array.length_toList]
        have hval : ∀ (i : Nat) (v : Value), items[i]? = some v → ∃ t, v = .str (xs.getD i Str.empty) t := fun i v hv => strs_at hi i v (by rw [Array.getElem?_toList]; exact hv)
        refine loopS ((Walks.list hh3 _ l hneI items).toS) s.heap.objs.size
          hSf xs hsz (by rw [← hsz]; exact hn1) hval (items.size - 0) 0 _ (by omega) (Nat.zero_le _)
          ⟨⟨_, Heap.get?_push_size _ rfl, rfl, rfl⟩, (hl1.push _)⟩ ?hS0 ?hR
        case hS0 =>
          have hget : ((s.heap.push { cls := .type "set", dict := none, data := .set #[] 0 (.fresh 0 0 led) }).push { cls := .type "list_iterator", data := .fields #[.ref l, .int 0 0] }).get? s.heap.objs.size
              = some { cls := .type "set", dict := none, data := .set #[] 0 (.fresh 0 0 led) } := Heap.get?_push_of_some _ hS
          exact PyProof.Rows.SetOf_congr ((PyProof.Rows.setObjOf_fresh (knd := PySem.strKind prog w) led).setOf hget (by unfold scanBound; omega)) (fun _ => rfl) rfl
        case hR =>
          intro s' hm hS'
          obtain ⟨h', g', d', tk', os'⟩ := s'
          have eg : g' = s.gens := hm.gens
          have ed : d' = s.drawn := hm.drawn
          have eo : os' = s.os := hm.os
          subst eg; subst ed; subst eo
          show wpAny _ _ _ _ _ _
          refine wpAny_pure ?_
          show wpAny _ _ (ret Value.none) _ _ _
          refine wpAny_pure ⟨rfl, h', tk', rfl, hS', fun b o hb e => ?_⟩
          have hb1 : b ≠ s.heap.objs.size := Nat.ne_of_lt hb
          have hb2 : b ≠ (s.heap.push { cls := .type "set", dict := none, data := .set #[] 0 (.fresh 0 0 led) }).objs.size := by
            rw [Heap.size_push]; exact Nat.ne_of_lt (Nat.lt_succ_of_lt hb)
          exact hm.heap b o (by simp only [List.mem_cons, List.mem_singleton, List.not_mem_nil, or_false, not_or]; exact ⟨hb1, hb2⟩) (Heap.get?_push_of_some _ (Heap.get?_push_of_some _ e))

      · cases r₂ with
        | error e => exact hr₂
        | ok fl₂ =>
          cases fl₂ with
          | ret r =>
            obtain ⟨rfl, h', tk, rfl, hS', hk'⟩ := hr₂
            repeat (any_goals (first | assumption | wp_step))
            exact h _ _ hS' hk'
          | _ => exact hr₂.elim
    | _ => exact hr.elim

set_option maxHeartbeats 3200000 in
theorem set_tupS {l : Addr} {items : Array Value} {xs : List Str} {Q : Value → Shared → Prop}
    (hh : A.handled = none) (hl : s.heap.IsTuple l items) (hi : PyProof.Rows.StrsAre items.toList xs) (hn1 : xs.length + 1 < scanBound)
    (h : ∀ (h' : Heap) (tk : Nat), h'.SetOf (PySem.strKind prog w) s.heap.objs.size (fun z => (fm xs items.size).any (· == z)) (fm xs items.size).length →
      (∀ b o, b < s.heap.objs.size → s.heap.get? b = some o → h'.get? b = some o) → Q (.ref s.heap.objs.size) { s with heap := h', toks := tk }) :
    wpAny (model prog w) A (call (.type "set") [.ref l]) Q E s := by
  obtain ⟨c, tl, hmro⟩ := PySem.F.called_set.mro
  have hmade := PySem.F.called_set.made
  have hsub := PySem.F.called_set.sub
  refine wpAny_call (codeAny_of_tree ?_)
  show wpAny _ _ (callAny (.type "set") _) _ _ _
  refine wpAny_pure ⟨Code.quiet_builtin _ (by decide +kernel), codeAny_builtin PySem.F.entry_type_call ?_⟩
  rw [Around.under_plain (weight_type_call_type "set" [.ref l] []) rfl]
  have h1 := PySem.F.called_set.notType
  have h2 := PySem.F.called_set.canCreate
  have hct := PySem.F.typeCall_set_1 (.ref l)
  repeat (any_goals (first | assumption | wp_step))

  refine codeAny_mono (code_set_new_1 (.ref l) (E := E) (Q₁ := fun obj s₁ => ∃ led : Bool, obj = .ref s.heap.objs.size ∧ s₁ = { s with heap := s.heap.push { cls := .type "set", dict := none, data := .set #[] 0 (.fresh 0 0 led) } }) fun led => ⟨led, rfl, rfl⟩) fun r s₁ hr => ?_
  cases r with
  | error e => exact hr
  | ok fl =>
    cases fl with
    | ret obj =>
      obtain ⟨led, rfl, rfl⟩ := hr
      have hS : (s.heap.push { cls := .type "set", dict := none, data := .set #[] 0 (.fresh 0 0 led) }).get? s.heap.objs.size = some { cls := .type "set", dict := none, data := .set #[] 0 (.fresh 0 0 led) } := Heap.get?_push_size _ rfl
      have hT : Shared.TypeIs { s with heap := s.heap.push { cls := .type "set", dict := none, data := .set #[] 0 (.fresh 0 0 led) } } (.ref s.heap.objs.size) "set" := ⟨_, hS, rfl⟩
      have hli := PySem.F.called_set.init.lookup
      have hbi := PySem.F.called_set.init.bind (.ref s.heap.objs.size)
      repeat (any_goals (first | assumption | wp_step))

      refine codeAny_mono (codeAny_call_builtin (R := wants (fun r s₂ => r = .none ∧ ∃ h' tk, s₂ = { s with heap := h', toks := tk } ∧
          h'.SetOf (PySem.strKind prog w) s.heap.objs.size (fun z => (fm xs items.size).any (· == z)) (fm xs items.size).length ∧
          (∀ b o, b < s.heap.objs.size → s.heap.get? b = some o → h'.get? b = some o)) E) PySem.F.called_set.init.plain PySem.F.entry_set_init (check_set_init_1 hT ?_)) fun r₂ s₂ hr₂ => ?_
      · obtain ⟨ol, hol, hcl, nl, hdl⟩ := hl
        obtain ⟨ocls, odict, odata, oslots⟩ := ol
        simp only at hcl hdl
        subst hcl; subst hdl
        have hol' : (s.heap.push { cls := .type "set", dict := none, data := .set #[] 0 (.fresh 0 0 led) }).get? l = some { cls := .type "tuple", dict := odict, data := .seq items nl, slots := oslots } := Heap.get?_push_of_some _ hol
        have hsls := PySem.F.sub_tuple_set
        have hslf := PySem.F.sub_tuple_frozenset
        have hne : (Value.type "tuple" == Value.type "dict") = false := by decide
        have hl1 : (s.heap.push { cls := .type "set", dict := none, data := .set #[] 0 (.fresh 0 0 led) }).IsTuple l items := ⟨_, hol', rfl, nl, rfl⟩
        unfold Builtin.«set.__init__» noKeywords Builtin.Frozenset.updateFrom
        generalize hPI : pyIter = PI
        wp_walk
        subst hPI

        refine wpAny_pyIter_tuple hl1 ?_
        refine wpAny_bind (wpAny_runValue ?_)
        have hlS : l < s.heap.objs.size := Heap.lt_size hol
        have hh3 : A.in1.in1.in1.handled = none := by simp [hh]
        have hneI : l ≠ (s.heap.push { cls := .type "set", dict := none, data := .set #[] 0 (.fresh 0 0 led) }).objs.size := by
          rw [Heap.size_push]; exact Nat.ne_of_lt (Nat.lt_succ_of_lt hlS)
        have hSf : s.heap.objs.size ∉ [(s.heap.push { cls := .type "set", dict := none, data := .set #[] 0 (.fresh 0 0 led) }).objs.size, l] := by
          rw [Heap.size_push]; simp only [List.mem_cons, List.mem_singleton, List.not_mem_nil, or_false, not_or]
          exact ⟨Nat.ne_of_lt (Nat.lt_succ_self _), Nat.ne_of_gt hlS⟩
        have hsz : xs.length = items.size := by rw [← StrsAre.len_eq hi, Array.length_toList]
        have hval : ∀ (i : Nat) (v : Value), items[i]? = some v → ∃ t, v = .str (xs.getD i Str.empty) t := fun i v hv => strs_at hi i v (by rw [Array.getElem?_toList]; exact hv)
        refine loopS ((Walks.tuple hh3 _ l hneI items).toS) s.heap.objs.size
          hSf xs hsz (by rw [← hsz]; exact hn1) hval (items.size - 0) 0 _ (by omega) (Nat.zero_le _)
          ⟨⟨_, Heap.get?_push_size _ rfl, rfl, rfl⟩, (hl1.push _)⟩ ?hS0 ?hR
        case hS0 =>
          have hget : ((s.heap.push { cls := .type "set", dict := none, data := .set #[] 0 (.fresh 0 0 led) }).push { cls := .type "tuple_iterator", data := .fields #[.ref l, .int 0 0] }).get? s.heap.objs.size
              = some { cls := .type "set", dict := none, data := .set #[] 0 (.fresh 0 0 led) } := Heap.get?_push_of_some _ hS
          exact PyProof.Rows.SetOf_congr ((PyProof.Rows.setObjOf_fresh (knd := PySem.strKind prog w) led).setOf hget (by unfold scanBound; omega)) (fun _ => rfl) rfl
        case hR =>
          intro s' hm hS'
          obtain ⟨h', g', d', tk', os'⟩ := s'
          have eg : g' = s.gens := hm.gens
          have ed : d' = s.drawn := hm.drawn
          have eo : os' = s.os := hm.os
          subst eg; subst ed; subst eo
          show wpAny _ _ _ _ _ _
          refine wpAny_pure ?_
          show wpAny _ _ (ret Value.none) _ _ _
          refine wpAny_pure ⟨rfl, h', tk', rfl, hS', fun b o hb e => ?_⟩
          have hb1 : b ≠ s.heap.objs.size := Nat.ne_of_lt hb
          have hb2 : b ≠ (s.heap.push { cls := .type "set", dict := none, data := .set #[] 0 (.fresh 0 0 led) }).objs.size := by
            rw [Heap.size_push]; exact Nat.ne_of_lt (Nat.lt_succ_of_lt hb)
          exact hm.heap b o (by simp only [List.mem_cons, List.mem_singleton, List.not_mem_nil, or_false, not_or]; exact ⟨hb1, hb2⟩) (Heap.get?_push_of_some _ (Heap.get?_push_of_some _ e))

      · cases r₂ with
        | error e => exact hr₂
        | ok fl₂ =>
          cases fl₂ with
          | ret r =>
            obtain ⟨rfl, h', tk, rfl, hS', hk'⟩ := hr₂
            repeat (any_goals (first | assumption | wp_step))
            exact h _ _ hS' hk'
          | _ => exact hr₂.elim
    | _ => exact hr.elim

end
end Py

namespace Py
open PySem PySem.Spec PyProof.Rows L2
def tSetlen (K : PySem.W.Frag) (te : TE) : TE := fun σ H Q => te σ H fun x H1 => ∃ l, ∃ xs : List Str, x = .ref l ∧ (SqL K H1 l (xs.map V.str) ∨ SqT K H1 l (xs.map V.str)) ∧ xs.length < 64 ∧ Q (.int (ddup xs).length) H1
section
variable {X : Cx} {cl : Nat → Addr} {cf : Nat → List D → Store → R D} {Wx : WX} {a : E} {e : Expr} {p p2 q pos : Pos}
theorem ddup_le (xs : List Str) : (ddup xs).length ≤ xs.length := by
  rw [← fm_all]
  exact fm_le xs _
theorem pe_setlen {te : TE} (hc : X.calm = true) (g1 : Gl X "len") (m1 : X.mg "len" = none) (g2 : Gl X "set") (m2 : X.mg "set" = none) (ha : PE X e te)
    (na : starEach [e] X.env = (false, eval e X.env) :: starEach [] X.env) : PE X (.Call (.Name "len" p) [.Call (.Name "set" p2) [e] [] q] [] pos) (tSetlen X.K te) := by
  refine ⟨fun pn s σ H Q J h => Call_ (ld_blt J g1 m1 boot_len (callWith_builtin1 (args_cons (Call_ (ld_blt J g2 m2 boot_set (callWith_type1 (args_cons (thn (ha.run pn s σ H _ J h) ?_) na) na rfl))) rfl) rfl rfl))⟩
  rintro v s1 ⟨x, H1, J1, rx, l, xs, rfl, hq, hl, hQ⟩
  refine args_nil ?_
  cases rx
  have last : ∀ (its : List Value), Vals (xs.map V.str) its → ∀ (h' : Heap) (tk : Nat), h'.SetOf (PySem.strKind X.prog X.w) s1.heap.objs.size (fun z => (fm xs its.toArray.size).any (· == z)) (fm xs its.toArray.size).length →
      (∀ b o, b < s1.heap.objs.size → s1.heap.get? b = some o → h'.get? b = some o) →
      wpAny (model X.prog X.w) X.A (spliced (backTo pos (starEach [] X.env))) (fun vs s₂ => wpAny (model X.prog X.w) X.A (call (.builtin "len") (Value.ref s1.heap.objs.size :: vs)) (EP X pn σ Q) X.xe s₂) X.xe { s1 with heap := h', toks := tk } := by
    intro its rv h' tk hS hk
    refine args_nil ?_
    have el : its.toArray.size = xs.length := by rw [List.size_toArray, ← rv.length, List.length_map]
    rw [el, fm_all] at hS
    obtain ⟨o, es, ep, t, ho, hex, hd, _, _, _, hf, hn⟩ := hS
    have J2 : Inv X pn σ H1 { s1 with heap := h', toks := tk } := J1.kept fun b o w => hk b o (Heap.lt_size w) w
    have hle := ddup_le xs
    exact call_len_set ho hex hd hf (by rw [hn] <;> omega) ⟨.int (ddup xs).length, H1, J2.tok _, ⟨_, by rw [hn]⟩, hQ⟩
  rcases hq with hq | hq
  · obtain ⟨its, rv, pl, _⟩ := J1.list hq
    exact set_lstS (J1.ok.hd hc) pl.isList (by simpa using strsAre_of rv) (by unfold scanBound; omega) fun h' tk hS hk => last its rv h' tk hS hk
  · obtain ⟨its, rv, pl, _⟩ := J1.tuple hq
    exact set_tupS (J1.ok.hd hc) pl (by simpa using strsAre_of rv) (by unfold scanBound; omega) fun h' tk hS hk => last its rv h' tk hS hk
theorem re_setlen (hc : X.calm = true) (g1 : Gl X "len") (m1 : X.mg "len" = none) (g2 : Gl X "set") (m2 : X.mg "set" = none) (ha : PE X e (tE X.K cl cf Wx a))
    (na : starEach [e] X.env = (false, eval e X.env) :: starEach [] X.env) : PE X (.Call (.Name "len" p) [.Call (.Name "set" p2) [e] [] q] [] pos) (tE X.K cl cf Wx (.bc .setlen (.cons a .nil))) := by
  refine pe_w (pe_setlen hc g1 m1 g2 m2 ha na) fun σ H Q ⟨ρ, st, env, rl, re, hp⟩ => ?_
  have hp2 : Post (((ev cf a env st).bind fun x st => .ok (.tup [x]) st).bind fun y st => bcD st .setlen (asTup y)) (Cont X.K cl ρ H Q) (ExC X.K cl ρ H fun c d H' => Wx c d σ H') := hp
  refine tE_of rl re (post_bind.mp (post_bind.mp hp2)) fun x st1 h1 ρ1 H1 vx e1 r1 d1 => ?_
  obtain ⟨zs, ez, h2⟩ := post_of.mp (post_bind.mp (show Post ((R.of ((itemsD st1 x).bind strsD) st1).bind fun zs st => if zs.length < 64 then .ok (.int (ddup zs).length) st else .bad) (Cont X.K cl ρ H Q) (ExC X.K cl ρ H fun c d H' => Wx c d σ H') from h1))
  obtain ⟨hl, h3⟩ := post_if h2
  obtain ⟨ys, e2, e3⟩ := Option.bind_eq_some_iff.mp ez
  have h4 : Q (.int (ddup zs).length) H1 := (show Cont X.K cl ρ H Q _ st1 from h3) _ _ _ e1 r1 (.int _)
  cases d1 with
  | @tup t ds vs sq qa =>
    cases e2
    exact ⟨t, zs, rfl, .inr (by rw [← qa.str_of e3]; exact sq), hl, h4⟩
  | @ref n t ht =>
    obtain ⟨vs, sq, qa⟩ := r1.list (show lstAt st1 n = some ys from e2) ht
    exact ⟨t, zs, rfl, .inl (by rw [← qa.str_of e3]; exact sq), hl, h4⟩
  | _ => cases e2
end
end Py
end

section
set_option Elab.async false
set_option linter.all false
set_option maxRecDepth 100000
set_option maxHeartbeats 1000000
/-! The match of a linked tree with the own syntax, checked by computation; what the match of the syntax gives. -/
namespace Py
open PySem PySem.Spec PyProof.Rows L2

/-! ### looks at trees -/
def noStar : Expr → Bool
  | .Starred _ _ => false
  | _ => true
def noStars : List Expr → Bool
  | [] => true
  | p :: ps => noStar p && noStars ps
def notComp : Expr → Bool
  | .ListComp _ _ _ _ => false
  | .SetComp _ _ _ _ => false
  | .DictComp _ _ _ _ _ => false
  | _ => true
def notSet : Expr → Bool
  | .Set _ _ _ => false
  | _ => true
def notTup : Expr → Bool
  | .Tuple _ _ _ => false
  | .List _ _ => false
  | _ => true
def okBase : Expr → Bool
  | .Call (.Name _ _) [] [] _ => false
  | _ => true
def plainIx : Expr → Bool
  | .Slice _ _ _ _ => false
  | _ => true
def plainT : Expr → Bool
  | .UnaryOp .Not _ _ => false
  | .BoolOp _ _ _ => false
  | .IfExp _ _ _ _ => false
  | .Compare _ _ _ _ => false
  | _ => true
section
variable {p : Expr} {ps : List Expr} {env : Env} {pos : Pos}
theorem star_cons (h : noStar p = true) : starEach (p :: ps) env = (false, eval p env) :: starEach ps env := by
  cases p <;> first | rfl | cases h
theorem star_all : ∀ {ps : List Expr}, noStars ps = true → ∀ x ∈ starEach ps env, x.1 = false
  | [], _, x, hx => by cases hx
  | p :: ps, h, x, hx => by
    unfold noStars at h
    rw [Bool.and_eq_true] at h
    rw [star_cons h.1] at hx
    rcases List.mem_cons.mp hx with e | e
    · rw [e]
    · exact star_all h.2 x e
theorem star_plain (h : noStars ps = true) : (backTo pos (starEach ps env)).any (·.1) = false := by
  rw [List.any_eq_false]
  intro x hx
  obtain ⟨y, hy, rfl⟩ := List.mem_map.mp hx
  rw [show ((y.1, if y.1 = true then do let v ← y.2; standAt pos; pure v else y.2) : Bool × Sem Value).1 = y.1 from rfl, star_all h y hy]
  exact Bool.false_ne_true
theorem star_few (h : noStars ps = true) (hl : ps.length < 20) : ((backTo pos (starEach ps env)).all (fun x => !x.1) && (backToKw pos (keywordEach [] env)).all (fun x => x.1.isSome) && decide (ps.length + ([] : List Keyword).length + (if ([] : List Keyword).isEmpty then 0 else 1) < 30)) = true := by
  rw [Bool.and_eq_true, Bool.and_eq_true]
  refine ⟨⟨?_, rfl⟩, decide_eq_true (by show ps.length + 0 + 0 < 30; omega)⟩
  rw [List.all_eq_true]
  intro x hx
  obtain ⟨y, hy, rfl⟩ := List.mem_map.mp hx
  rw [show ((y.1, if y.1 = true then do let v ← y.2; standAt pos; pure v else y.2) : Bool × Sem Value).1 = y.1 from rfl, star_all h y hy]
  rfl
theorem sw_no {t : Option Expr} {l : Nat} (h : notComp p = true) : swapsWith p t l env = pure false := by
  cases p <;> first | rfl | cases h
theorem sole_no {tg : Expr} {l : Nat} (h : notComp p = true) : swapsWithSole [tg] p l env = pure false := sw_no h
theorem sole_no2 {tg : Expr} {l : Nat} (h : ∀ x ps, tg ≠ .Name x ps) : swapsWithSole [tg] p l env = pure false := by
  show swapsWith p (some tg) l env = pure false
  cases p <;> first
    | rfl
    | (cases tg <;> first | rfl | exact absurd rfl (h _ _))
theorem stores_no {tg : Expr} (h : (notTup tg || notTup p) = true) : swappedStores [tg] p env = pure none := by
  cases tg <;> first
    | rfl
    | (cases p <;> first | rfl | (exact absurd h Bool.false_ne_true))
theorem set_no {x : Value} (h : notSet p = true) : foldedSetIterable p env x = pure x := by
  cases p <;> first | rfl | cases h
theorem base_ok {a : Str} {w : Sem Value} (h : okBase p = true) : attributeBase p a env w = w := by
  cases p with
  | Call f as ks q =>
    cases f with
    | Name x q2 =>
      cases as with
      | nil =>
        cases ks with
        | nil => cases h
        | cons _ _ => rfl
      | cons _ _ => rfl
    | _ => rfl
  | _ => rfl
theorem ix_plain (h : plainIx p = true) : PlainIx p := by
  intro o i
  cases p <;> first | rfl | cases h
theorem true_plain (h : plainT p = true) : ∀ whole, isTrue p env whole = (do let v ← whole; standAt p.pos; holding [v] (truthy v)) := by
  intro whole
  cases p with
  | UnaryOp op a q => cases op <;> first | rfl | cases h
  | _ => first | rfl | cases h
theorem ass_cons (h : noStar p = true) : assignEach (p :: ps) env = (false, assign p env) :: assignEach ps env := by
  cases p <;> first | rfl | cases h
theorem ass_len : ∀ {ps : List Expr}, (assignEach ps env).length = ps.length
  | [] => rfl
  | p :: ps => by
    cases hp : noStar p with
    | true => rw [ass_cons hp, List.length_cons, List.length_cons, ass_len]
    | false =>
      cases p with
      | Starred q r => show (assignEach ps env).length + 1 = ps.length + 1; rw [ass_len]
      | _ => cases hp
theorem ass_star : ∀ {ps : List Expr}, noStars ps = true → (assignEach ps env).findIdx? (·.1) = none
  | [], _ => rfl
  | p :: ps, h => by
    unfold noStars at h
    rw [Bool.and_eq_true] at h
    rw [ass_cons h.1, List.findIdx?_cons, ass_star h.2]
    rfl
end

/-! ### what a match knows -/
structure GT where
  fns : List Fn
  bts : List Str
  cs : List (Str × D)
structure CC where
  N : List Str
  sc : Scope
  cel : List Str
def isGl (cc : CC) (x : Str) : Bool := decide (cc.sc.names.lookup x = some .globalImplicit)
def isVis (cc : CC) (x : Str) : Bool := match cc.sc.names.lookup x with
  | some .local => true
  | some .cell => true
  | some .free => true
  | _ => false
def notOdd (x : Str) : Bool := !(x == ("__debug__" : Str)) && !(x == ("__classdict__" : Str))
def isFn (G : GT) (cc : CC) (f : Nat) (x : Str) : Bool := decide ((G.fns[f]?).map (·.name) = some x) && isGl cc x && notOdd x
def isB (G : GT) (cc : CC) (x n : Str) : Bool := decide (x = n) && isGl cc x && decide (x ∈ G.bts)
def bName : B → Str
  | .len => "len" | .abs => "abs" | .sum => "sum" | .all => "all" | .any => "any" | .tuple => "tuple" | .list => "list" | .repr => "repr" | .max2 => "max" | .min2 => "min" | .int => "int"
  | .isi _ => "isinstance" | .setlen => "len"
def celOf (sc : Scope) : List Str := (sc.names.filter fun y => decide (sc.names.lookup y.1 = some .cell)).map (·.1)
def CC.inner (cc : CC) (sc : Scope) : CC := { N := cc.N, sc := relS sc cc.sc, cel := celOf sc }

def chkG : T → CC → Expr → Bool
  | .nm i, cc, p => match p with
    | .Name x _ => decide (cc.N[i]? = some x) && (decide (cc.sc.names.lookup x = some .local) || (decide (cc.sc.names.lookup x = some .cell) && decide (x ∈ cc.cel)))
    | _ => false
  | .nil, _, _ => false
  | .cons _ _, _, _ => false
  | .tp a, cc, p => match p with
    | .Tuple es _ _ => flat a && noStars es && decide (es.length = tlen a) && chkGs a cc es
    | _ => false
where chkGs : T → CC → List Expr → Bool
  | .nil, _, ps => ps.isEmpty
  | .cons a b, cc, ps => match ps with
    | p :: ps => noStar p && chkG a cc p && chkGs b cc ps
    | [] => false
  | _, _, _ => false

structure Ck where
  e : CC → Expr → Bool
  t : CC → Expr → Bool
  a : CC → List Expr → Bool
  w : IK → CC → Expr → Bool
def Ck.of (e : CC → Expr → Bool) : Ck := ⟨e, fun cc p => plainT p && e cc p, fun _ _ => false, fun _ _ _ => false⟩
def isNp : E → Bool
  | .np => true
  | _ => false
def isNil : E → Bool
  | .nil => true
  | _ => false
def ckP (o : E) (k : Ck) (cc : CC) (p : Option Expr) : Bool := if isNp o then p.isNone else match p with
  | some p => k.e cc p
  | none => false
def ckQ (o : E) (k : Ck) (cc : CC) (ps : List Expr) : Bool := if isNp o then ps.isEmpty else match ps with
  | [p] => k.t cc p
  | _ => false
def ckBin (op : Operator) (a b : Ck) : Ck := Ck.of fun cc p => match p with
  | .BinOp u o v _ => decide (o = op) && a.e cc u && b.e cc v
  | _ => false
def ckBool (op : BoolOp) (a b : CC → Expr → Bool) (cc : CC) (p : Expr) : Bool := match p with
  | .BoolOp o (u :: v :: r) q => decide (o = op) && a cc u && (match r with
    | [] => b cc v
    | _ => b cc (.BoolOp op (v :: r) q))
  | _ => false
def ckRange (G : GT) (A : CC → List Expr → Bool) (k : IK) (cc : CC) (p : Expr) : Bool := match k with
  | .range1 => (match p with
    | .Call (.Name x _) [u] [] _ => isB G cc x "range" && noStars [u] && A cc [u]
    | _ => false)
  | .range2 => (match p with
    | .Call (.Name x _) [u, v] [] _ => isB G cc x "range" && noStars [u, v] && A cc [u, v]
    | _ => false)
  | _ => false
def ckMe (m : Me) (x : Str) (us : List Expr) : Bool := match m with
  | .append => decide (x = "append") && !us.isEmpty
  | .insert => decide (x = "insert") && !us.isEmpty
  | .extend => decide (x = "extend") && !us.isEmpty
  | .pop0 => decide (x = "pop") && us.isEmpty
  | .pop1 => decide (x = "pop") && !us.isEmpty
def ckIsi (G : GT) (k : Kind) (A : CC → List Expr → Bool) (cc : CC) (u : Expr) (us : List Expr) : Bool := match us with
  | [.Name y _] => decide (k ≠ .tupLst) && isB G cc y (Str.ofString (kName k)) && A cc [u]
  | [.Tuple [.Name y _, .Name z _] _ _] => decide (k = .tupLst) && isB G cc y "tuple" && isB G cc z "list" && A cc [u]
  | _ => false
def ckSetlen (G : GT) (A : CC → List Expr → Bool) (cc : CC) (u : Expr) (us : List Expr) : Bool := match us with
  | [] => (match u with
    | .Call (.Name y _) [v] [] _ => isB G cc y "set" && A cc [v]
    | _ => false)
  | _ => false
def ckBc (G : GT) (b : B) (A : CC → List Expr → Bool) (cc : CC) (u : Expr) (us : List Expr) : Bool := match b with
  | .isi k => ckIsi G k A cc u us
  | .setlen => ckSetlen G A cc u us
  | _ => A cc (u :: us)
def ckA (a : Ck) (rA : CC → List Expr → Bool) (cc : CC) (ps : List Expr) : Bool := match ps with
  | p :: ps => noStar p && a.e cc p && rA cc ps
  | [] => false
def ckCmp (op : CmpOp) (a b : Ck) (cc : CC) (p : Expr) : Bool := match p with
  | .Compare u [o] [v] _ => decide (o = op) && !behindInMarks op v && a.e cc u && b.e cc v
  | _ => false
def ckChain (op op' : CmpOp) (a b c : Ck) (cc : CC) (p : Expr) : Bool := match p with
  | .Compare u [o, o'] [v, w] _ => decide (o = op) && decide (o' = op') && !lastMarks [op, op'] [v, w] && a.e cc u && b.e cc v && c.e cc w
  | _ => false
def ckNot (a : CC → Expr → Bool) (cc : CC) (p : Expr) : Bool := match p with
  | .UnaryOp .Not u _ => a cc u
  | _ => false
def chk (G : GT) : E → Ck
  | .var i => .of fun cc p => match p with
    | .Name x _ => decide (cc.N[i]? = some x) && isVis cc x && notOdd x
    | _ => false
  | .non => .of fun _ p => match p with
    | .Constant .none _ _ => true
    | _ => false
  | .bl b => .of fun _ p => match p with
    | .Constant (.bool k) _ _ => decide (b = k)
    | _ => false
  | .int i => .of fun _ p => match p with
    | .Constant (.int j) _ _ => decide (i = j)
    | _ => false
  | .str z => .of fun _ p => match p with
    | .Constant (.str y) _ _ => decide (z = y)
    | _ => false
  | .gl x d => .of fun cc p => match p with
    | .Name y _ => decide (x = y) && isGl cc y && notOdd y && decide ((x, d) ∈ G.cs)
    | _ => false
  | .add a b => ckBin .Add (chk G a) (chk G b)
  | .sub a b => ckBin .Sub (chk G a) (chk G b)
  | .mul a b => ckBin .Mult (chk G a) (chk G b)
  | .fdiv a b => ckBin .FloorDiv (chk G a) (chk G b)
  | .mod a b => ckBin .Mod (chk G a) (chk G b)
  | .pow a b => ckBin .Pow (chk G a) (chk G b)
  | .neg a => .of fun cc p => match p with
    | .UnaryOp .USub u _ => (chk G a).e cc u
    | _ => false
  | .cmp op a b => ⟨ckCmp op (chk G a) (chk G b), ckCmp op (chk G a) (chk G b), fun _ _ => false, fun _ _ _ => false⟩
  | .chain op op' a b c => ⟨ckChain op op' (chk G a) (chk G b) (chk G c), ckChain op op' (chk G a) (chk G b) (chk G c), fun _ _ => false, fun _ _ _ => false⟩
  | .and a b => ⟨ckBool .And (chk G a).e (chk G b).e, ckBool .And (chk G a).t (chk G b).t, fun _ _ => false, fun _ _ _ => false⟩
  | .or a b => ⟨ckBool .Or (chk G a).e (chk G b).e, ckBool .Or (chk G a).t (chk G b).t, fun _ _ => false, fun _ _ _ => false⟩
  | .not a => ⟨ckNot (chk G a).e, ckNot (chk G a).t, fun _ _ => false, fun _ _ _ => false⟩
  | .ife c a b => .of fun cc p => match p with
    | .IfExp s u v _ => (chk G c).t cc s && (chk G a).e cc u && (chk G b).e cc v
    | _ => false
  | .nil => ⟨fun _ _ => false, fun _ _ => false, fun _ ps => ps.isEmpty, fun _ _ _ => false⟩
  | .cons a r => ⟨fun _ _ => false, fun _ _ => false, ckA (chk G a) (chk G r).a, fun k cc p => match k with
    | .val => isNil r && (chk G a).e cc p
    | k => ckRange G (ckA (chk G a) (chk G r).a) k cc p⟩
  | .tup es => .of fun cc p => match p with
    | .Tuple ps _ _ => decide (ps.length ≤ 1000) && (chk G es).a cc ps
    | _ => false
  | .lst es => .of fun cc p => match p with
    | .List ps _ => decide (ps.length ≤ 1000) && (chk G es).a cc ps
    | _ => false
  | .dnewK => .of fun _ p => match p with
    | .Dict [] [] _ => true
    | _ => false
  | .dnewT => .of fun _ p => match p with
    | .Dict [] [] _ => true
    | _ => false
  | .ix a i => .of fun cc p => match p with
    | .Subscript u v _ => plainIx v && (chk G a).e cc u && (chk G i).e cc v
    | _ => false
  | .np => ⟨fun _ _ => true, fun _ _ => false, fun _ _ => false, fun _ _ _ => false⟩
  | .sl a lo hi => .of fun cc p => match p with
    | .Subscript u (.Slice l h none _) _ => (chk G a).e cc u && ckP lo (chk G lo) cc l && ckP hi (chk G hi) cc h
    | _ => false
  | .call f es => .of fun cc p => match p with
    | .Call (.Name x _) (u :: us) [] _ => isFn G cc f x && noStars (u :: us) && (chk G es).a cc (u :: us)
    | _ => false
  | .bc b es => .of fun cc p => match p with
    | .Call (.Name x _) (u :: us) [] _ => noStars (u :: us) && isB G cc x (bName b) && ckBc G b (chk G es).a cc u us
    | _ => false
  | .bm m o es => .of fun cc p => match p with
    | .Call (.Attribute u x ap) us [] cp => decide (ap.endLine = cp.line) && okBase u && noStars us && decide (us.length < 20) && (chk G o).e cc u && (chk G es).a cc us && ckMe m x us
    | _ => false
  | .lc own t k it cond elt => .of fun cc p => match p with
    | .ListComp pe [⟨tg, iter, ifs, 0⟩] sc _ => blkC cc.N cc.sc sc own && decide (∀ i ∈ tsl t, i ∈ own.map (·.2)) && notSet iter && chkG t (cc.inner sc) tg && (chk G it).w k cc iter && ckQ cond (chk G cond) (cc.inner sc) ifs && (chk G elt).e (cc.inner sc) pe
    | _ => false
end Py
end

section
set_option Elab.async false
set_option linter.all false
set_option maxRecDepth 100000
set_option maxHeartbeats 1000000
/-! A matched tree has the reading of its own syntax. -/
namespace Py
open PySem PySem.Spec PyProof.Rows L2

structure Gk (P : Program) (w : World) (K : PySem.W.Frag) (mg : Str → Option Value) (base : Heap) (cl : Nat → Addr) (Wh : Nat) (G : GT) (k : Nat) : Prop where
  fn : ∀ f fn, G.fns[f]? = some fn → ∃ addr fd, mg fn.name = some (.ref addr) ∧ PySem.W.keepIn K (.ref addr) = true ∧ Binds K fd fn.pars [] ∧ FnG P w K mg base k addr fd fn.pars (spI K cl Wh G.fns k f)
  bt : ∀ x ∈ G.bts, mg x = none
  cs : ∀ x d, (x, d) ∈ G.cs → ∃ v u, mg x = some u ∧ RelV v u ∧ ∀ ρ H, RD K ρ H d v
  sys : ∃ o, base.get? sysModules = some o
structure Ctx (X : Cx) (G : GT) (cc : CC) (Wx : WX) (cl : Nat → Addr) (Wh k : Nat) : Prop where
  gk : Gk X.prog X.w X.K X.mg X.base cl Wh G k
  eN : X.N = cc.N
  nd : X.N.Nodup
  sc : X.env.scope = cc.sc
  calm : X.calm = true
  tk : Takes X Wx
  room : Room k X.A
  gu : X.A.guards = some []
  fnl : ∀ x ∈ cc.cel, X.fn x = true
section
variable {X : Cx} {G : GT} {cc : CC} {Wx : WX} {cl : Nat → Addr} {Wh k : Nat} {x n : Str}
theorem Ctx.un (c : Ctx X G cc Wx cl Wh k) : X.A.units + 65 < cLine := by
  have := c.room.un
  omega
theorem Ctx.gl (c : Ctx X G cc Wx cl Wh k) (h : isGl cc x = true) : Gl X x := by
  show X.env.scope.names.lookup x = some .globalImplicit
  rw [c.sc]
  exact of_decide_eq_true h
theorem Ctx.b (c : Ctx X G cc Wx cl Wh k) (h : isB G cc x n = true) : x = n ∧ Gl X x ∧ X.mg x = none := by
  unfold isB at h
  rw [Bool.and_eq_true, Bool.and_eq_true] at h
  exact ⟨of_decide_eq_true h.1.1, c.gl h.1.2, c.gk.bt x (of_decide_eq_true h.2)⟩
theorem Ctx.vis (c : Ctx X G cc Wx cl Wh k) (h : isVis cc x = true) : Vis X.env.scope x := by
  rw [c.sc]
  unfold isVis at h
  unfold Vis
  split at h
  · exact .inl ‹_›
  · exact .inr (.inl ‹_›)
  · exact .inr (.inr ‹_›)
  · cases h
theorem Ctx.at (c : Ctx X G cc Wx cl Wh k) {i : Nat} (h : cc.N[i]? = some x) : X.N[i]? = some x := by rw [c.eN]; exact h
theorem odd1 (h : notOdd x = true) : (x == ("__debug__" : Str)) = false := by
  unfold notOdd at h
  rw [Bool.and_eq_true] at h
  simpa using h.1
theorem odd2 (h : notOdd x = true) : (x == ("__classdict__" : Str)) = false := by
  unfold notOdd at h
  rw [Bool.and_eq_true] at h
  simpa using h.2
theorem Ctx.blk (c : Ctx X G cc Wx cl Wh k) (s : Shared) (H : Hp) (sc : Scope) (C : Addr) (cll : List (Str × Addr)) (fp : List Addr) : Ctx (X.blk s H sc (compEnvC sc cll C X.env) fp) G (cc.inner sc) (fun _ _ _ _ => False) cl Wh k where
  gk := c.gk
  eN := c.eN
  nd := c.nd
  sc := by
    show relS sc X.env.scope = relS sc cc.sc
    rw [c.sc]
  calm := c.calm
  tk := takes0
  room := c.room
  gu := c.gu
  fnl := fun x hx => by
    obtain ⟨y, hy, rfl⟩ := List.mem_map.mp (show x ∈ celOf sc from hx)
    have h2 := (List.mem_filter.mp hy).2
    show (sc.names.lookup y.1 == some .cell) = true
    rw [of_decide_eq_true h2]
    rfl
end

/-! ### targets -/
section
variable {G : GT} {cl : Nat → Addr} {Wh k : Nat}
theorem sndG : ∀ t : T, (∀ {X : Cx} {cc : CC} {Wx : WX} {p : Expr}, Ctx X G cc Wx cl Wh k → chkG t cc p = true → PG X p (gT X.K t)) ∧
    (∀ {X : Cx} {cc : CC} {Wx : WX} {ps : List Expr}, Ctx X G cc Wx cl Wh k → chkG.chkGs t cc ps = true → PGs X ps (gTs X.K t)) := by
  intro t
  induction t with
  | nm i =>
    refine ⟨fun {X cc Wx p} c h => ?_, fun _ h => (nomatch h)⟩
    unfold chkG at h
    split at h
    · rename_i x q
      rw [Bool.and_eq_true, Bool.or_eq_true, Bool.and_eq_true] at h
      have hl : X.env.scope.names.lookup x = cc.sc.names.lookup x := by rw [c.sc]
      rcases h.2 with h2 | ⟨h2, h3⟩
      · exact rg_name c.nd (c.at (of_decide_eq_true h.1)) (.inl (hl.trans (of_decide_eq_true h2))) (.inr (hl.trans (of_decide_eq_true h2)))
      · exact rg_name c.nd (c.at (of_decide_eq_true h.1)) (.inr (hl.trans (of_decide_eq_true h2))) (.inl (c.fnl x (of_decide_eq_true h3)))
    · cases h
  | nil =>
    refine ⟨fun _ h => (nomatch h), fun {X cc Wx ps} c h => ?_⟩
    unfold chkG.chkGs at h
    cases ps with
    | nil => exact rg_nil
    | cons _ _ => cases h
  | cons a b ia ib =>
    refine ⟨fun _ h => (nomatch h), fun {X cc Wx ps} c h => ?_⟩
    unfold chkG.chkGs at h
    split at h
    · rename_i p ps
      rw [Bool.and_eq_true, Bool.and_eq_true] at h
      exact rg_cons (ia.1 c h.1.2) (ib.2 c h.2) (by rw [ass_cons h.1.1]; rfl)
    · cases h
  | tp a ia =>
    refine ⟨fun {X cc Wx p} c h => ?_, fun _ h => (nomatch h)⟩
    unfold chkG at h
    split at h
    · rename_i es kk q
      rw [Bool.and_eq_true, Bool.and_eq_true, Bool.and_eq_true] at h
      exact rg_tup c.calm h.1.1.1 (ia.2 c h.2) (by rw [ass_len]; exact of_decide_eq_true h.1.2) (ass_star h.1.1.2)
    · cases h
end

/-! ### expressions -/
structure Snd (G : GT) (cl : Nat → Addr) (Wh k : Nat) (me : E) : Prop where
  e : ∀ {X : Cx} {cc : CC} {Wx : WX} {p : Expr}, Ctx X G cc Wx cl Wh k → (chk G me).e cc p = true → PE X p (tE X.K cl (run Wh G.fns k) Wx me)
  t : ∀ {X : Cx} {cc : CC} {Wx : WX} {p : Expr}, Ctx X G cc Wx cl Wh k → (chk G me).t cc p = true → PT X p (tTs X.K cl (run Wh G.fns k) Wx me)
  a : ∀ {X : Cx} {cc : CC} {Wx : WX} {ps : List Expr}, Ctx X G cc Wx cl Wh k → (chk G me).a cc ps = true → PA X ps (tA X.K cl (run Wh G.fns k) Wx me)
  al : ∀ {cc : CC} {ps : List Expr} {env : Sl} {st st' : Store} {d : D}, (chk G me).a cc ps = true → ev (run Wh G.fns k) me env st = .ok d st' → (asTup d).length = ps.length
  w : ∀ {X : Cx} {cc : CC} {Wx : WX} {tg p : Expr} {ik : IK}, Ctx X G cc Wx cl Wh k → (chk G me).w ik cc p = true → PI X tg p (tW X.K cl (run Wh G.fns k) Wx ik me)
  one : ∀ {X : Cx} {cc : CC} {Wx : WX} {v : Expr}, Ctx X G cc Wx cl Wh k → (chk G me).a cc [v] = true → ∃ a, me = .cons a .nil ∧ noStar v = true ∧ PE X v (tE X.K cl (run Wh G.fns k) Wx a)
section
variable {G : GT} {cl : Nat → Addr} {Wh k : Nat} {a b c e : E}
theorem Snd.of {f : CC → Expr → Bool} (hf : chk G e = Ck.of f) (h : ∀ {X : Cx} {cc : CC} {Wx : WX} {p : Expr}, Ctx X G cc Wx cl Wh k → f cc p = true → PE X p (tE X.K cl (run Wh G.fns k) Wx e)) : Snd G cl Wh k e where
  e := fun c q => h c (by rw [hf] at q; exact q)
  t := fun {X cc Wx p} c q => by
    rw [hf] at q
    have q : (plainT p && f cc p) = true := q
    rw [Bool.and_eq_true] at q
    exact rt_val (h c q.2) (true_plain q.1)
  a := fun _ q => by rw [hf] at q; cases q
  al := fun q => by rw [hf] at q; cases q
  w := fun _ q => by rw [hf] at q; cases q
  one := fun _ q => by rw [hf] at q; cases q
theorem snd_bin {op : Operator} (hf : chk G e = ckBin op (chk G a) (chk G b)) (ia : Snd G cl Wh k a) (ib : Snd G cl Wh k b)
    (h : ∀ {X : Cx} {Wx : WX} {p q : Expr} {pos : Pos}, PE X p (tE X.K cl (run Wh G.fns k) Wx a) → PE X q (tE X.K cl (run Wh G.fns k) Wx b) → PE X (.BinOp p op q pos) (tE X.K cl (run Wh G.fns k) Wx e)) : Snd G cl Wh k e := by
  refine Snd.of hf fun {X cc Wx p} c q => ?_
  split at q
  · rw [Bool.and_eq_true, Bool.and_eq_true] at q
    obtain ⟨⟨q1, q2⟩, q3⟩ := q
    cases of_decide_eq_true q1
    exact h (ia.e c q2) (ib.e c q3)
  · cases q
theorem ckP_ok {X : Cx} {cc : CC} {Wx : WX} (ia : Snd G cl Wh k a) (c : Ctx X G cc Wx cl Wh k) {p : Option Expr} (h : ckP a (chk G a) cc p = true) : PO X p (tP X.K cl (run Wh G.fns k) Wx a) := by
  unfold ckP at h
  split at h
  · rename_i hn
    cases a with
    | np =>
      cases p with
      | none => exact rp_none
      | some _ => cases h
    | _ => cases hn
  · rename_i hn
    split at h
    · exact rp_some (ia.e c h) (fun e => by subst e; exact hn rfl)
    · cases h
theorem ckQ_ok {X : Cx} {cc : CC} {Wx : WX} (ia : Snd G cl Wh k a) (c : Ctx X G cc Wx cl Wh k) {ps : List Expr} (h : ckQ a (chk G a) cc ps = true) : PTs X ps (tQ X.K cl (run Wh G.fns k) Wx a) := by
  unfold ckQ at h
  split at h
  · rename_i hn
    cases a with
    | np =>
      cases ps with
      | nil => exact rq_none
      | cons _ _ => cases h
    | _ => cases hn
  · rename_i hn
    split at h
    · exact rq_one (ia.t c h) (fun e => by subst e; exact hn rfl)
    · cases h
theorem snd_bool {cc : CC} {op : BoolOp} {p : Expr} {fa fb : CC → Expr → Bool} {Ra Rb Ro : Expr → Prop} (h : ckBool op fa fb cc p = true) (ha : ∀ p, fa cc p = true → Ra p) (hb : ∀ p, fb cc p = true → Rb p) (h1 : ∀ y q, Rb y → Rb (.BoolOp op [y] q))
    (ho : ∀ u v r q, Ra u → Rb (.BoolOp op (v :: r) q) → Ro (.BoolOp op (u :: v :: r) q)) : Ro p := by
  unfold ckBool at h
  split at h
  · rename_i o u v r q
    rw [Bool.and_eq_true, Bool.and_eq_true] at h
    obtain ⟨⟨q1, q2⟩, q3⟩ := h
    cases of_decide_eq_true q1
    refine ho u v r q (ha u q2) ?_
    split at q3
    · exact h1 v q (hb v q3)
    · exact hb _ q3
  · cases h
theorem snd_bc {X : Cx} {cc : CC} {Wx : WX} {bb : B} {es : E} (ie : Snd G cl Wh k es) (c : Ctx X G cc Wx cl Wh k) {x : Str} {pos p1 : Pos} {u : Expr} {us : List Expr} (hs : noStars (u :: us) = true) (hb : isB G cc x (bName bb) = true) (h : ckBc G bb (chk G es).a cc u us = true)
    (hal : ∀ v, (chk G es).a cc [v] = true → ∃ a, es = .cons a .nil ∧ noStar v = true ∧ PE X v (tE X.K cl (run Wh G.fns k) Wx a)) : PE X (.Call (.Name x p1) (u :: us) [] pos) (tE X.K cl (run Wh G.fns k) Wx (.bc bb es)) := by
  obtain ⟨rfl, gl, gm⟩ := c.b hb
  have s0 := hs
  unfold noStars at s0
  rw [Bool.and_eq_true] at s0
  have he := star_cons (env := X.env) (ps := us) s0.1
  have hpl := star_plain (env := X.env) (pos := pos) s0.2
  cases bb with
  | isi kd =>
    have h : ckIsi G kd (chk G es).a cc u us = true := h
    unfold ckIsi at h
    split at h
    · rename_i y q
      rw [Bool.and_eq_true, Bool.and_eq_true] at h
      obtain ⟨⟨h1, h2⟩, h3⟩ := h
      obtain ⟨a, rfl, _, pu⟩ := hal u h3
      obtain ⟨rfl, gy, my⟩ := c.b h2
      exact re_isi (of_decide_eq_true h1) rfl gm my gl gy pu he hpl
    · rename_i y q z q2 kk q3
      rw [Bool.and_eq_true, Bool.and_eq_true, Bool.and_eq_true] at h
      obtain ⟨⟨⟨h1, h2⟩, h3⟩, h4⟩ := h
      obtain ⟨a, rfl, _, pu⟩ := hal u h4
      obtain ⟨rfl, gy, my⟩ := c.b h2
      obtain ⟨rfl, gz, mz⟩ := c.b h3
      cases of_decide_eq_true h1
      exact re_isiT gm my mz gl gy gz pu he hpl
    · cases h
  | setlen =>
    have h : ckSetlen G (chk G es).a cc u us = true := h
    unfold ckSetlen at h
    split at h
    · split at h
      · rename_i y v q q2
        rw [Bool.and_eq_true] at h
        obtain ⟨a, rfl, nv, pv⟩ := hal v h.2
        obtain ⟨rfl, gy, my⟩ := c.b h.1
        exact re_setlen c.calm gl gm gy my pv (star_cons nv)
      · cases h
    · cases h
  | len => exact re_bc (pe_callB cr_len gl gm (by decide +kernel) (ie.a c h) (by decide +kernel) (by decide +kernel) he hpl) op_len fun _ _ => rfl
  | abs => exact re_bc (pe_callB (call_abs (X := X)) gl gm (by decide +kernel) (ie.a c h) (by decide +kernel) (by decide +kernel) he hpl) (show OprL X.K cl _ rAbs from op_abs) fun _ _ => rfl
  | sum => exact re_bc (pe_callB (cr_sum c.calm) gl gm (by decide +kernel) (ie.a c h) (by decide +kernel) (by decide +kernel) he hpl) op_sum fun _ _ => rfl
  | all => exact re_bc (pe_callB (cr_all c.calm) gl gm (by decide +kernel) (ie.a c h) (by decide +kernel) (by decide +kernel) he hpl) op_all fun _ _ => rfl
  | any => exact re_bc (pe_callB (cr_any c.calm) gl gm (by decide +kernel) (ie.a c h) (by decide +kernel) (by decide +kernel) he hpl) op_any fun _ _ => rfl
  | tuple => exact re_bc (pe_callTy call_tuple_of gl gm (by decide +kernel) (ie.a c h) (by decide +kernel) (by decide +kernel) he hpl) (show OprL X.K cl _ (rTupO X.K) from op_tuple) fun _ _ => rfl
  | list => exact re_bc (pe_callTy call_list_of gl gm (by decide +kernel) (ie.a c h) (by decide +kernel) (by decide +kernel) he hpl) (show OprL X.K cl _ (rLstO X.K) from op_list) fun _ _ => rfl
  | repr => exact re_bc (pe_callB (cr_repr (cl := cl) c.gk.sys c.un c.gu) gl gm (by decide +kernel) (ie.a c h) (by decide +kernel) (by decide +kernel) he hpl) op_repr fun _ _ => rfl
  | max2 => exact re_bc (pe_callB (call_max2 c.calm) gl gm (by decide +kernel) (ie.a c h) (by decide +kernel) (by decide +kernel) he hpl) (show OprL X.K cl _ rMax2 from op_max2) fun _ _ => rfl
  | min2 => exact re_bc (pe_callB (call_min2 c.calm) gl gm (by decide +kernel) (ie.a c h) (by decide +kernel) (by decide +kernel) he hpl) (show OprL X.K cl _ rMin2 from op_min2) fun _ _ => rfl
  | int => exact re_bc (pe_callTy (call_int1 (X := X)) gl gm (by decide +kernel) (ie.a c h) (by decide +kernel) (by decide +kernel) he hpl) (show OprL X.K cl _ rInt from op_int) fun _ _ => rfl
theorem a_nil : ∀ {r : E} {cc : CC}, (chk G r).a cc [] = true → r = .nil := by
  intro r cc h
  cases r <;> first | rfl | cases h
theorem snd_bm {X : Cx} {cc : CC} {Wx : WX} {m : Me} {o es : E} (io : Snd G cl Wh k o) (ie : Snd G cl Wh k es) (c : Ctx X G cc Wx cl Wh k) {x : Str} {ap cp : Pos} {u : Expr} {us : List Expr} (hl : ap.endLine = cp.line) (hb : okBase u = true) (hs : noStars us = true) (hn : us.length < 20)
    (ho : (chk G o).e cc u = true) (ha : (chk G es).a cc us = true) (h : ckMe m x us = true) : PE X (.Call (.Attribute u x ap) us [] cp) (tE X.K cl (run Wh G.fns k) Wx (.bm m o es)) := by
  have hline : (ap.endLine == cp.line) = true := beq_iff_eq.mpr hl
  cases us with
  | nil =>
    obtain rfl := a_nil ha
    cases m with
    | pop0 =>
      unfold ckMe at h
      rw [Bool.and_eq_true] at h
      cases of_decide_eq_true h.1
      exact re_bm0_w (pe_bm0 PySem.F.plainAttrs_list PySem.F.slot_list_pop PySem.F.type_list_pop (show MtR X "list.pop" rPop from mt_pop) (io.e c ho) (base_ok hb) hline) om_pop0
    | append => unfold ckMe at h; simp at h
    | insert => unfold ckMe at h; simp at h
    | extend => unfold ckMe at h; simp at h
    | pop1 => unfold ckMe at h; simp at h
  | cons p ps =>
    have s0 := hs
    unfold noStars at s0
    rw [Bool.and_eq_true] at s0
    have he := star_cons (env := X.env) (ps := ps) s0.1
    have hpl := star_plain (env := X.env) (pos := cp) s0.2
    have hfew := star_few (env := X.env) (pos := cp) hs hn
    have pa := ie.a c ha
    have po := io.e c ho
    cases m with
    | pop0 => unfold ckMe at h; simp at h
    | append =>
      unfold ckMe at h
      rw [Bool.and_eq_true] at h
      cases of_decide_eq_true h.1
      exact re_bm_w (pe_bm PySem.F.plainAttrs_list PySem.F.slot_list_append PySem.F.type_list_append (show MtR X "list.append" rAppend from mt_append) po pa (base_ok hb) hfew hline he hpl) om_append
    | insert =>
      unfold ckMe at h
      rw [Bool.and_eq_true] at h
      cases of_decide_eq_true h.1
      exact re_bm_w (pe_bm PySem.F.plainAttrs_list PySem.F.slot_list_insert PySem.F.type_list_insert (show MtR X "list.insert" rInsert from mt_insert) po pa (base_ok hb) hfew hline he hpl) om_insert
    | extend =>
      unfold ckMe at h
      rw [Bool.and_eq_true] at h
      cases of_decide_eq_true h.1
      exact re_bm_w (pe_bm PySem.F.plainAttrs_list PySem.F.slot_list_extend PySem.F.type_list_extend (show MtR X "list.extend" rExtend from mt_extend) po pa (base_ok hb) hfew hline he hpl) om_extend
    | pop1 =>
      unfold ckMe at h
      rw [Bool.and_eq_true] at h
      cases of_decide_eq_true h.1
      exact re_bm_w (pe_bm PySem.F.plainAttrs_list PySem.F.slot_list_pop PySem.F.type_list_pop (show MtR X "list.pop" rPopAt from mt_popAt) po pa (base_ok hb) hfew hline he hpl) om_pop1
theorem no_a {P : Prop} (h : false = true) : P := nomatch h
theorem and2 {x y : Bool} (h : (x && y) = true) : x = true ∧ y = true := by rw [Bool.and_eq_true] at h; exact h
theorem re_gl {X : Cx} {Wx : WX} {cf : Nat → List D → Store → R D} {x : Str} {d : D} {pos : Pos} {v : V} {u : Value} (hg : Gl X x) (hm : X.mg x = some u) (r : RelV v u) (hd : ∀ ρ H, RD X.K ρ H d v) (ho : (x == ("__debug__" : Str)) = false) : PE X (.Name x pos) (tE X.K cl cf Wx (.gl x d)) :=
  re_const (pe_glob hg hm r ho) (fun _ _ => rfl) hd
theorem snd : ∀ e : E, Snd G cl Wh k e := by
  intro e
  induction e with
  | var i =>
    refine Snd.of rfl fun {X cc Wx p} c q => ?_
    split at q
    · obtain ⟨q1, q2⟩ := and2 q
      obtain ⟨q0, q1⟩ := and2 q1
      exact re_var (c.at (of_decide_eq_true q0)) (c.vis q1) (odd1 q2) (odd2 q2)
    · cases q
  | non =>
    refine Snd.of rfl fun {X cc Wx p} c q => ?_
    split at q
    · exact re_non
    · cases q
  | bl b =>
    refine Snd.of rfl fun {X cc Wx p} c q => ?_
    split at q
    · cases of_decide_eq_true q
      exact re_bl
    · cases q
  | int i =>
    refine Snd.of rfl fun {X cc Wx p} c q => ?_
    split at q
    · cases of_decide_eq_true q
      exact re_int
    · cases q
  | str z =>
    refine Snd.of rfl fun {X cc Wx p} c q => ?_
    split at q
    · cases of_decide_eq_true q
      exact re_str
    · cases q
  | gl x d =>
    refine Snd.of rfl fun {X cc Wx p} c q => ?_
    split at q
    · obtain ⟨q, q4⟩ := and2 q
      obtain ⟨q, q3⟩ := and2 q
      obtain ⟨q1, q2⟩ := and2 q
      cases of_decide_eq_true q1
      obtain ⟨v, u, h1, h2, h3⟩ := c.gk.cs x d (of_decide_eq_true q4)
      exact re_gl (c.gl q2) h1 h2 h3 (odd1 q3)
    · cases q
  | add a b ia ib => exact snd_bin rfl ia ib re_add
  | sub a b ia ib => exact snd_bin rfl ia ib re_sub
  | mul a b ia ib => exact snd_bin rfl ia ib re_mul
  | fdiv a b ia ib => exact snd_bin rfl ia ib re_fdiv
  | mod a b ia ib => exact snd_bin rfl ia ib re_mod
  | pow a b ia ib => exact snd_bin rfl ia ib re_pow
  | neg a ia =>
    refine Snd.of rfl fun {X cc Wx p} c q => ?_
    split at q
    · exact re_neg (ia.e c q)
    · cases q
  | cmp op a b ia ib =>
    have go : ∀ {X : Cx} {cc : CC} {Wx : WX} {p : Expr}, Ctx X G cc Wx cl Wh k → ckCmp op (chk G a) (chk G b) cc p = true → PE X p (tE X.K cl (run Wh G.fns k) Wx (.cmp op a b)) ∧ PT X p (tTs X.K cl (run Wh G.fns k) Wx (.cmp op a b)) := fun {X cc Wx p} c q => by
      unfold ckCmp at q
      split at q
      · obtain ⟨q, q4⟩ := and2 q
        obtain ⟨q, q3⟩ := and2 q
        obtain ⟨q1, q2⟩ := and2 q
        cases of_decide_eq_true q1
        have hm := by simpa using q2
        exact ⟨re_cmp c.un (ia.e c q3) (ib.e c q4) hm, rt_cmp c.un (ia.e c q3) (ib.e c q4) hm⟩
      · cases q
    exact ⟨fun c q => (go c q).1, fun c q => (go c q).2, fun _ q => no_a q, fun q => no_a q, fun _ q => no_a q, fun _ q => no_a q⟩
  | chain op op' a b d ia ib id =>
    have go : ∀ {X : Cx} {cc : CC} {Wx : WX} {p : Expr}, Ctx X G cc Wx cl Wh k → ckChain op op' (chk G a) (chk G b) (chk G d) cc p = true → PE X p (tE X.K cl (run Wh G.fns k) Wx (.chain op op' a b d)) ∧ PT X p (tTs X.K cl (run Wh G.fns k) Wx (.chain op op' a b d)) := fun {X cc Wx p} c q => by
      unfold ckChain at q
      split at q
      · obtain ⟨q, q6⟩ := and2 q
        obtain ⟨q, q5⟩ := and2 q
        obtain ⟨q, q4⟩ := and2 q
        obtain ⟨q, q3⟩ := and2 q
        obtain ⟨q1, q2⟩ := and2 q
        cases of_decide_eq_true q1
        cases of_decide_eq_true q2
        have hm := by simpa using q3
        exact ⟨re_chain c.un (ia.e c q4) (ib.e c q5) (id.e c q6) hm, rt_chain c.un (ia.e c q4) (ib.e c q5) (id.e c q6) hm⟩
      · cases q
    exact ⟨fun c q => (go c q).1, fun c q => (go c q).2, fun _ q => no_a q, fun q => no_a q, fun _ q => no_a q, fun _ q => no_a q⟩
  | and a b ia ib =>
    refine ⟨fun {X cc Wx p} c q => ?_, fun {X cc Wx p} c q => ?_, fun _ q => no_a q, fun q => no_a q, fun _ q => no_a q, fun _ q => no_a q⟩
    · exact snd_bool (Ra := fun p => PE X p (tE X.K cl (run Wh G.fns k) Wx a)) (Rb := fun p => PE X p (tE X.K cl (run Wh G.fns k) Wx b)) q (fun p h => ia.e c h) (fun p h => ib.e c h) (Ro := fun p => PE X p (tE X.K cl (run Wh G.fns k) Wx (.and a b))) (fun y q h => pe_one h) (fun u v r q h1 h2 => re_and h1 h2)
    · refine snd_bool (Ra := fun p => PT X p (tTs X.K cl (run Wh G.fns k) Wx a)) (Rb := fun p => PT X p (tTs X.K cl (run Wh G.fns k) Wx b)) q (fun p h => ia.t c h) (fun p h => ib.t c h) (Ro := fun p => PT X p (tTs X.K cl (run Wh G.fns k) Wx (.and a b))) (fun y q h => (pw_and1 h).pt) (fun u v r q h1 h2 => rt_and h1 (pw_of h2))
  | or a b ia ib =>
    refine ⟨fun {X cc Wx p} c q => ?_, fun {X cc Wx p} c q => ?_, fun _ q => no_a q, fun q => no_a q, fun _ q => no_a q, fun _ q => no_a q⟩
    · exact snd_bool (Ra := fun p => PE X p (tE X.K cl (run Wh G.fns k) Wx a)) (Rb := fun p => PE X p (tE X.K cl (run Wh G.fns k) Wx b)) q (fun p h => ia.e c h) (fun p h => ib.e c h) (Ro := fun p => PE X p (tE X.K cl (run Wh G.fns k) Wx (.or a b))) (fun y q h => pe_one h) (fun u v r q h1 h2 => re_or h1 h2)
    · refine snd_bool (Ra := fun p => PT X p (tTs X.K cl (run Wh G.fns k) Wx a)) (Rb := fun p => PT X p (tTs X.K cl (run Wh G.fns k) Wx b)) q (fun p h => ia.t c h) (fun p h => ib.t c h) (Ro := fun p => PT X p (tTs X.K cl (run Wh G.fns k) Wx (.or a b))) (fun y q h => (pw_or1 h).pt) (fun u v r q h1 h2 => rt_or h1 (pw_of h2))
  | not a ia =>
    refine ⟨fun {X cc Wx p} c q => ?_, fun {X cc Wx p} c q => ?_, fun _ q => no_a q, fun q => no_a q, fun _ q => no_a q, fun _ q => no_a q⟩
    · have q : ckNot (chk G a).e cc p = true := q
      unfold ckNot at q
      split at q
      · exact re_not (ia.e c q)
      · cases q
    · have q : ckNot (chk G a).t cc p = true := q
      unfold ckNot at q
      split at q
      · exact rt_not (ia.t c q)
      · cases q
  | ife s a b is ia ib =>
    refine Snd.of rfl fun {X cc Wx p} c q => ?_
    split at q
    · obtain ⟨q, q3⟩ := and2 q
      obtain ⟨q1, q2⟩ := and2 q
      exact re_ife (is.t c q1) (ia.e c q2) (ib.e c q3)
    · cases q
  | nil =>
    refine ⟨fun _ q => no_a q, fun _ q => no_a q, fun {X cc Wx ps} c q => ?_, fun {cc ps env st st' d} q h => ?_, fun _ q => no_a q, fun _ q => no_a q⟩
    · cases ps with
      | nil => exact ra_nil
      | cons _ _ => cases q
    · cases ps with
      | nil => cases h; rfl
      | cons _ _ => cases q
  | cons a r ia ir =>
    refine ⟨fun _ q => no_a q, fun _ q => no_a q, fun {X cc Wx ps} c q => ?_, fun {cc ps env st st' d} q h => ?_, fun {X cc Wx tg p ik} c q => ?_, fun {X cc Wx v} c q => ?_⟩
    · have q : ckA (chk G a) (chk G r).a cc ps = true := q
      unfold ckA at q
      split at q
      · obtain ⟨q, q3⟩ := and2 q
        obtain ⟨q1, q2⟩ := and2 q
        exact ra_cons (ia.e c q2) (ir.a c q3) (star_cons q1)
      · cases q
    · have q : ckA (chk G a) (chk G r).a cc ps = true := q
      unfold ckA at q
      split at q
      · obtain ⟨q, q3⟩ := and2 q
        have h : ((ev (run Wh G.fns k) a env st).bind fun x st => (ev (run Wh G.fns k) r env st).bind fun y st => .ok (D.tup (x :: asTup y)) st) = .ok d st' := h
        cases e1 : ev (run Wh G.fns k) a env st with
        | ok x st1 =>
          rw [e1, R.bind_ok] at h
          cases e2 : ev (run Wh G.fns k) r env st1 with
          | ok y st2 =>
            rw [e2, R.bind_ok] at h
            cases h
            show (asTup y).length + 1 = _ + 1
            rw [ir.al q3 e2]
          | exn _ _ _ => rw [e2] at h; cases h
          | bad => rw [e2] at h; cases h
        | exn _ _ _ => rw [e1] at h; cases h
        | bad => rw [e1] at h; cases h
      · cases q
    · have ra : ∀ {us : List Expr}, ckA (chk G a) (chk G r).a cc us = true → PA X us (tA X.K cl (run Wh G.fns k) Wx (.cons a r)) := fun {us} q => by
        unfold ckA at q
        split at q
        · obtain ⟨q, q3⟩ := and2 q
          obtain ⟨q1, q2⟩ := and2 q
          exact ra_cons (ia.e c q2) (ir.a c q3) (star_cons q1)
        · cases q
      cases ik with
      | val =>
        have q : (isNil r && (chk G a).e cc p) = true := q
        obtain ⟨q1, q2⟩ := and2 q
        cases r with
        | nil => exact rw_val (ia.e c q2)
        | _ => cases q1
      | range1 =>
        have q : ckRange G (ckA (chk G a) (chk G r).a) .range1 cc p = true := q
        unfold ckRange at q
        dsimp only at q
        split at q
        · obtain ⟨q, q3⟩ := and2 q
          obtain ⟨q1, q2⟩ := and2 q
          obtain ⟨rfl, g1, g2⟩ := c.b q1
          unfold noStars at q2
          exact rw_range1 g1 g2 (ra q3) (by rw [star_cons (and2 q2).1]; rfl)
        · cases q
      | range2 =>
        have q : ckRange G (ckA (chk G a) (chk G r).a) .range2 cc p = true := q
        unfold ckRange at q
        dsimp only at q
        split at q
        · obtain ⟨q, q3⟩ := and2 q
          obtain ⟨q1, q2⟩ := and2 q
          obtain ⟨rfl, g1, g2⟩ := c.b q1
          unfold noStars at q2
          have q4 := (and2 q2).2
          unfold noStars at q4
          exact rw_range2 g1 g2 (ra q3) (by rw [star_cons (and2 q2).1, star_cons (and2 q4).1]; rfl) (by rw [star_cons (and2 q4).1]; rfl)
        · cases q
      | enum => cases q
      | zip => cases q
      | rev => cases q
    · have q : (noStar v && (chk G a).e cc v && (chk G r).a cc []) = true := q
      obtain ⟨q, q3⟩ := and2 q
      obtain ⟨q1, q2⟩ := and2 q
      exact ⟨a, by rw [a_nil q3], q1, ia.e c q2⟩
  | tup es ie =>
    refine Snd.of rfl fun {X cc Wx p} c q => ?_
    split at q
    · obtain ⟨q1, q2⟩ := and2 q
      exact re_tup (Nat.le_of_lt (small1000 (of_decide_eq_true q1))) (ie.a c q2) fun env st d st' h => ie.al q2 h
    · cases q
  | lst es ie =>
    refine Snd.of rfl fun {X cc Wx p} c q => ?_
    split at q
    · obtain ⟨q1, q2⟩ := and2 q
      exact re_lst (Nat.le_of_lt (small1000 (of_decide_eq_true q1))) (ie.a c q2) fun env st d st' h => ie.al q2 h
    · cases q
  | dnewK =>
    refine Snd.of rfl fun {X cc Wx p} c q => ?_
    split at q
    · exact re_dK
    · cases q
  | dnewT =>
    refine Snd.of rfl fun {X cc Wx p} c q => ?_
    split at q
    · exact re_dT
    · cases q
  | ix a i ia ii =>
    refine Snd.of rfl fun {X cc Wx p} c q => ?_
    split at q
    · obtain ⟨q, q3⟩ := and2 q
      obtain ⟨q1, q2⟩ := and2 q
      exact re_ix (ia.e c q2) (ii.e c q3) (ix_plain q1)
    · cases q
  | np => exact ⟨fun {X cc Wx p} c q => ⟨fun pins s σ H Q I ⟨ρ, st, env, rl, re, hp⟩ => hp.elim⟩, fun _ q => no_a q, fun _ q => no_a q, fun q => no_a q, fun _ q => no_a q, fun _ q => no_a q⟩
  | sl a lo hi ia il ih =>
    refine Snd.of rfl fun {X cc Wx p} c q => ?_
    split at q
    · obtain ⟨q, q3⟩ := and2 q
      obtain ⟨q1, q2⟩ := and2 q
      exact re_sl (ia.e c q1) (ckP_ok il c q2) (ckP_ok ih c q3)
    · cases q
  | call f es ie =>
    refine Snd.of rfl fun {X cc Wx p} c q => ?_
    split at q
    · obtain ⟨q, q3⟩ := and2 q
      obtain ⟨q1, q2⟩ := and2 q
      unfold isFn at q1
      obtain ⟨q1, q5⟩ := and2 q1
      obtain ⟨q1, q4⟩ := and2 q1
      obtain ⟨fn, e1, e2⟩ := Option.map_eq_some_iff.mp (of_decide_eq_true q1)
      subst e2
      obtain ⟨addr, fd, h1, h2, h3, h4⟩ := c.gk.fn f fn e1
      unfold noStars at q2
      exact re_call e1 h4 c.room c.gu (c.gl q4) h1 h2 h3 c.tk (ie.a c q3) (odd1 q5) (star_cons (and2 q2).1) (star_plain (and2 q2).2)
    · cases q
  | bc b es ie =>
    refine Snd.of rfl fun {X cc Wx p} c q => ?_
    split at q
    · obtain ⟨q, q3⟩ := and2 q
      obtain ⟨q1, q2⟩ := and2 q
      exact snd_bc ie c q1 q2 q3 fun v h => ie.one c h
    · cases q
  | bm m o es io ie =>
    refine Snd.of rfl fun {X cc Wx p} c q => ?_
    split at q
    · obtain ⟨q, q7⟩ := and2 q
      obtain ⟨q, q6⟩ := and2 q
      obtain ⟨q, q5⟩ := and2 q
      obtain ⟨q, q4⟩ := and2 q
      obtain ⟨q, q3⟩ := and2 q
      obtain ⟨q1, q2⟩ := and2 q
      exact snd_bm io ie c (of_decide_eq_true q1) q2 q3 (of_decide_eq_true q4) q5 q6 q7
    · cases q
  | lc own t ik it cond elt ii ic ie =>
    refine Snd.of rfl fun {X cc Wx p} c q => ?_
    split at q
    · obtain ⟨q, q7⟩ := and2 q
      obtain ⟨q, q6⟩ := and2 q
      obtain ⟨q, q5⟩ := and2 q
      obtain ⟨q, q4⟩ := and2 q
      obtain ⟨q, q3⟩ := and2 q
      obtain ⟨q1, q2⟩ := and2 q
      refine re_lc c.calm c.nd (ii.w c q5) (blkOk_by (by rw [c.eN, c.sc]; exact q1)) (fun s H C cll fp => (sndG t).1 (c.blk s H _ C cll fp) q4) (fun s H C cll fp => ckQ_ok ic (c.blk s H _ C cll fp) q6) (fun s H C cll fp => ie.e (c.blk s H _ C cll fp) q7) (fun x => set_no q3) (of_decide_eq_true q2)
    · cases q
end
end Py
end

section
set_option Elab.async false
set_option linter.all false
set_option maxRecDepth 100000
set_option maxHeartbeats 1000000
/-! Statements matched. -/
namespace Py
open PySem PySem.Spec PyProof.Rows L2

theorem blockK {env : Env} (hk : env.scope.kind = .function) : env.blockKind = .function := by
  unfold Env.blockKind
  rw [hk]
  rfl
theorem stores_two {env : Env} {x y : Str} {px py pt pt2 : Pos} {kt k2 : Nat} {u v : Expr} (hk : env.scope.kind = .function) (hx : env.scope.names.lookup x = some .local) (hy : env.scope.names.lookup y = some .local) (hl : py.line = px.line) (hxy : x ≠ y) (hu : noStar u = true) (hv : noStar v = true)
    (hf : [u, v].all (foldedForSure 8) = false) (hc : [u, v].all (constantsAlone 8) = false) : swappedStores [.Tuple [.Name x px, .Name y py] kt pt] (.Tuple [u, v] k2 pt2) env = pure (some [x, y]) := by
  have kx : env.kindOf x = some .local := hx
  have ky : env.kindOf y = some .local := hy
  have hd : [x, y].eraseDups.length = 2 := by
    have : (y == x) = false := beq_eq_false_iff_ne.mpr fun e => hxy e.symm
    simp [List.eraseDups_cons, this]
  unfold swappedStores
  simp only [blockK hk, kx, ky, hf, hc, Expr.pos, hl, List.filterMap_cons, List.filterMap_nil, List.head?_cons, Option.map_some, Option.getD_some, List.length_cons, List.length_nil, beq_self_eq_true, Bool.and_self, if_true, hd]
  split
  · rename_i h; exact absurd h (by decide)
  · split
    · rename_i h
      exfalso
      rw [List.any_cons, List.any_cons, List.any_nil, Bool.or_false, Bool.or_eq_true] at h
      rcases h with h | h
      · cases u <;> first | (cases hu; done) | (cases h; done)
      · cases v <;> first | (cases hv; done) | (cases h; done)
    · rfl
theorem sw_line {elt : Expr} {gs : List Comprehension} {scope : Scope} {pos py : Pos} {y : Str} {l : Nat} {env : Env} (hl : (py.line == pos.line) = false) : swapsWith (.ListComp elt gs scope pos) (some (.Name y py)) l env = pure false := by
  unfold swapsWith
  simp only [Expr.pos, hl, Bool.and_false, Bool.false_and]
theorem sw_cell {elt : Expr} {gs : List Comprehension} {scope : Scope} {pos py : Pos} {y : Str} {l : Nat} {env : Env} (hl : env.scope.names.lookup y = some .cell) : swapsWith (.ListComp elt gs scope pos) (some (.Name y py)) l env = pure false := by
  have ky : env.kindOf y = some .cell := hl
  have e : ((some NameKind.cell : Option NameKind) == some NameKind.local) = false := by decide
  unfold swapsWith
  simp only [ky, e, Bool.and_false, Bool.false_and]
structure CkS where
  l : CC → List Stmt → Bool
  o : CC → Stmt → Bool
def CkS.of (o : CC → Stmt → Bool) : CkS := ⟨fun cc ps => match ps with
  | [st] => o cc st
  | _ => false, o⟩
theorem notT {b : Bool} (h : (!b) = true) : b = false := by
  cases b with
  | false => rfl
  | true => cases h
def isName : Expr → Bool
  | .Name _ _ => true
  | _ => false
/-- a comprehension to a name: on one line to a local, or on another line -/
def ckLc (cc : CC) (x : Str) (px : Pos) (p : Expr) : Bool := match p with
  | .ListComp _ [⟨_, _, _, 0⟩] sc q => decide (cc.sc.names.lookup x = some .local) && decide (px.line = q.line) && !(sc.names.any fun (n, k) => n == x && (k == .local || k == .cell))
  | _ => false
def ckLine (cc : CC) (x : Str) (px : Pos) (p : Expr) : Bool := match p with
  | .ListComp _ _ _ q => !(px.line == q.line) || decide (cc.sc.names.lookup x = some .cell)
  | _ => false
def ckSkip : Stmt → Bool
  | .Pass _ => true
  | .Expr (.Constant (.str _) _ _) _ => true
  | _ => false
def chkS (G : GT) : S → CkS
  | .skip => ⟨fun _ ps => ps.isEmpty, fun _ st => ckSkip st⟩
  | .seq a b => ⟨fun cc ps => match ps with
    | st :: rest => (chkS G a).o cc st && (chkS G b).l cc rest
    | [] => false, fun _ _ => false⟩
  | .expr e => .of fun cc st => match st with
    | .Expr p _ => notComp p && (chk G e).e cc p
    | _ => false
  | .ret e => .of fun cc st => match st with
    | .Return (some p) _ => (chk G e).e cc p
    | _ => false
  | .retN => .of fun _ st => match st with
    | .Return none _ => true
    | _ => false
  | .asg t e => .of fun cc st => match st with
    | .Assign [tg] p _ => noStar tg && chkG t cc tg && (chk G e).e cc p && (notTup tg || notTup p) && (match tg with
      | .Name x px => notComp p || ckLc cc x px p || ckLine cc x px p
      | _ => true)
    | _ => false
  | .asgI o i e => .of fun cc st => match st with
    | .Assign [.Subscript po pi _] p _ => plainIx pi && (chk G o).e cc po && (chk G i).e cc pi && (chk G e).e cc p
    | _ => false
  | .par i j a b => .of fun cc st => match st with
    | .Assign [.Tuple [.Name x px, .Name y py] _ _] (.Tuple [u, v] _ _) _ => decide (cc.N[i]? = some x) && decide (cc.N[j]? = some y) && decide (cc.sc.names.lookup x = some .local) && decide (cc.sc.names.lookup y = some .local) && decide (py.line = px.line) && decide (x ≠ y) && noStar u && noStar v &&
        !([u, v].all (foldedForSure 8)) && !([u, v].all (constantsAlone 8)) && (chk G a).e cc u && (chk G b).e cc v
    | _ => false
  | .iff c a b => .of fun cc st => match st with
    | .If p ts es _ => (chk G c).t cc p && (chkS G a).l cc ts && (chkS G b).l cc es
    | _ => false
  | .wh c b => .of fun cc st => match st with
    | .While p body [] _ => (chk G c).t cc p && (chkS G b).l cc body
    | _ => false
  | .for t k it b => .of fun cc st => match st with
    | .For tg iter body [] _ => chkG t cc tg && (chk G it).w k cc iter && notSet iter && (chkS G b).l cc body
    | _ => false
  | .brk => .of fun _ st => match st with
    | .Break _ => true
    | _ => false
  | .cont => .of fun _ st => match st with
    | .Continue _ => true
    | _ => false
  | .never => .of fun _ _ => true
section
variable {G : GT} {cl : Nat → Addr} {Wh k : Nat}
structure CtxS (X : Cx) (G : GT) (cc : CC) (P : XK) (cl : Nat → Addr) (Wh k : Nat) : Prop extends Ctx X G cc (wx P) cl Wh k where
  pass : PassesOwn (model X.prog X.w) X.A X.env X.xe
  kind : cc.sc.kind = .function
structure SndS (G : GT) (cl : Nat → Addr) (Wh k : Nat) (s : S) : Prop where
  l : ∀ {X : Cx} {cc : CC} {P : XK} {ps : List Stmt}, CtxS X G cc P cl Wh k → (chkS G s).l cc ps = true → PSs X ps (tS X.K cl Wh (run Wh G.fns k) P s)
  o : ∀ {X : Cx} {cc : CC} {P : XK} {st : Stmt}, CtxS X G cc P cl Wh k → (chkS G s).o cc st = true → PS X st (tS X.K cl Wh (run Wh G.fns k) P s)
theorem SndS.of {s : S} {f : CC → Stmt → Bool} (hf : chkS G s = CkS.of f) (h : ∀ {X : Cx} {cc : CC} {P : XK} {st : Stmt}, CtxS X G cc P cl Wh k → f cc st = true → PS X st (tS X.K cl Wh (run Wh G.fns k) P s)) : SndS G cl Wh k s :=
  ⟨fun {X cc P ps} c q => (by
    rw [hf] at q
    match ps, q with
    | [st], q => exact pss_one (h c q)), fun c q => h c (by rw [hf] at q; exact q)⟩
theorem rs_np {X : Cx} {P : XK} {cf : Nat → List D → Store → R D} {st : Stmt} {t : T} : PS X st (tS X.K cl Wh cf P (.asg t .np)) := ⟨fun _ _ _ _ _ _ ⟨_, _, _, _, _, h⟩ => h.elim⟩
theorem ass_ix {o i : Expr} {pos : Pos} {env : Env} (h : plainIx i = true) (v : Value) : assign (.Subscript o i pos) env v = (do
    let a ← holding [v] (eval o env)
    let b ← holding [v, a] (eval i env)
    standAt pos
    holding [v, a, b] (setItem a b v)
    release [v, a, b] []) := by
  cases i <;> first | (cases h; done) | rfl
theorem sndS : ∀ s : S, SndS G cl Wh k s := by
  intro s
  induction s with
  | skip =>
    refine ⟨fun {X cc P ps} c q => ?_, fun {X cc P st} c q => ?_⟩
    · cases ps with
      | nil => exact rs_nil
      | cons _ _ => cases q
    · have q : ckSkip st = true := q
      unfold ckSkip at q
      split at q
      · exact rs_next ps_pass
      · exact rs_next ps_doc
      · cases q
  | seq a b ia ib =>
    refine ⟨fun {X cc P ps} c q => ?_, fun _ q => no_a q⟩
    cases ps with
    | nil => cases q
    | cons st rest =>
      obtain ⟨q1, q2⟩ := and2 q
      exact rs_cons (ia.o c q1) (ib.l c q2)
  | expr e =>
    refine SndS.of rfl fun {X cc P st} c q => ?_
    split at q
    · obtain ⟨q1, q2⟩ := and2 q
      exact rs_expr ((snd e).e c.toCtx q2) (sw_no q1)
    · cases q
  | ret e =>
    refine SndS.of rfl fun {X cc P st} c q => ?_
    split at q
    · exact rs_ret ((snd e).e c.toCtx q)
    · cases q
  | retN =>
    refine SndS.of rfl fun {X cc P st} c q => ?_
    split at q
    · exact rs_retN
    · cases q
  | asg t e =>
    refine SndS.of rfl fun {X cc P st} c q => ?_
    split at q
    · rename_i tg p pos
      obtain ⟨qa, q5⟩ := and2 q
      obtain ⟨qb, q4⟩ := and2 qa
      obtain ⟨qc, q3⟩ := and2 qb
      obtain ⟨q1, q2⟩ := and2 qc
      clear q qa qb qc
      have pe := (snd e).e c.toCtx q3
      have pg := (sndG t).1 c.toCtx q2
      have h1 : (assignEach [tg] X.env).map (·.2) = [assign tg X.env] := by rw [ass_cons q1]; rfl
      cases htg : isName tg with
      | false =>
        refine rs_asg pe pg (sole_no2 fun x ps e => ?_) (stores_no q4) h1
        subst e
        cases htg
      | true =>
        cases tg with
        | Name x px =>
          have q5 : (notComp p || ckLc cc x px p || ckLine cc x px p) = true := q5
          cases hn : notComp p with
          | true => exact rs_asg pe pg (sole_no hn) (stores_no q4) h1
          | false =>
            rw [hn, Bool.false_or, Bool.or_eq_true] at q5
            rcases q5 with q5 | q5
            · unfold ckLc at q5
              split at q5
              · rename_i elt tg2 iter ifs sc q _
                obtain ⟨q5', q7⟩ := and2 q5
                obtain ⟨q50, q6⟩ := and2 q5'
                cases t with
                | nm i =>
                  unfold chkG at q2
                  obtain ⟨q20, q21⟩ := and2 q2
                  have hloc : X.env.scope.names.lookup x = some .local := by rw [c.sc]; exact of_decide_eq_true q50
                  have hkind : X.env.scope.kind = .function := by rw [c.sc]; exact c.kind
                  have hsw : swapsWith (.ListComp elt [⟨tg2, iter, ifs, 0⟩] sc q) (some (.Name x px)) pos.line X.env = pure true :=
                    sw_true hkind hloc (by simpa using q6) (by simpa using q7)
                  cases e with
                  | lc own t2 ik it cond el =>
                    obtain ⟨r, r7⟩ := and2 (show (blkC cc.N cc.sc sc own && decide (∀ i ∈ tsl t2, i ∈ own.map (·.2)) && notSet iter && chkG t2 (cc.inner sc) tg2 && (chk G it).w ik cc iter && ckQ cond (chk G cond) (cc.inner sc) ifs && (chk G el).e (cc.inner sc) elt) = true from q3)
                    obtain ⟨r, r6⟩ := and2 r
                    obtain ⟨r, r5⟩ := and2 r
                    obtain ⟨r, r4⟩ := and2 r
                    obtain ⟨r, r3⟩ := and2 r
                    obtain ⟨r1, r2⟩ := and2 r
                    exact rs_asgLc (c.at (of_decide_eq_true q20)) hloc hsw c.calm c.nd ((snd it).w c.toCtx r5) (blkOk_by (by rw [c.eN, c.sc]; exact r1)) (fun s H C cll fp => (sndG t2).1 (c.toCtx.blk s H _ C cll fp) r4) (fun s H C cll fp => ckQ_ok (snd cond) (c.toCtx.blk s H _ C cll fp) r6)
                      (fun s H C cll fp => (snd el).e (c.toCtx.blk s H _ C cll fp) r7) (fun x => set_no r3) (of_decide_eq_true r2)
                  | np => exact rs_np
                  | _ => cases q3
                | _ => first | cases q2 | (unfold chkG at q2; cases q2)
              · cases q5
            · unfold ckLine at q5
              split at q5
              · rw [Bool.or_eq_true] at q5
                rcases q5 with q5 | q5
                · exact rs_asg pe pg (sw_line (l := pos.line) (by simpa using q5)) (stores_no q4) h1
                · exact rs_asg pe pg (sw_cell (l := pos.line) (by rw [c.sc]; exact of_decide_eq_true q5)) (stores_no q4) h1
              · cases q5
        | _ => cases htg
    · cases q
  | asgI o i e =>
    refine SndS.of rfl fun {X cc P st} c q => ?_
    split at q
    · obtain ⟨q, q4⟩ := and2 q
      obtain ⟨q, q3⟩ := and2 q
      obtain ⟨q1, q2⟩ := and2 q
      exact rs_asgI (ps_asg ((snd e).e c.toCtx q4) (pg_sub ((snd o).e c.toCtx q2) ((snd i).e c.toCtx q3) set_list (ass_ix q1)) (sole_no2 fun x ps e => nomatch e) (stores_no rfl) rfl)
    · cases q
  | par i j a b =>
    refine SndS.of rfl fun {X cc P st} c q => ?_
    split at q
    · obtain ⟨q, q12⟩ := and2 q
      obtain ⟨q, q11⟩ := and2 q
      obtain ⟨q, q10⟩ := and2 q
      obtain ⟨q, q9⟩ := and2 q
      obtain ⟨q, q8⟩ := and2 q
      obtain ⟨q, q7⟩ := and2 q
      obtain ⟨q, q6⟩ := and2 q
      obtain ⟨q, q5⟩ := and2 q
      obtain ⟨q, q4⟩ := and2 q
      obtain ⟨q, q3⟩ := and2 q
      obtain ⟨q1, q2⟩ := and2 q
      have hkind : X.env.scope.kind = .function := by rw [c.sc]; exact c.kind
      have hi := c.at (of_decide_eq_true q1)
      have hj := c.at (of_decide_eq_true q2)
      have hxy := of_decide_eq_true q6
      refine rs_par (ps_par c.calm c.nd hi hj (fun e => ?_) (by rw [c.sc]; exact of_decide_eq_true q3) (by rw [c.sc]; exact of_decide_eq_true q4) (ra_cons ((snd a).e c.toCtx q11) (ra_cons ((snd b).e c.toCtx q12) ra_nil (star_cons q8)) (star_cons q7)) (stores_two hkind (by rw [c.sc]; exact of_decide_eq_true q3) (by rw [c.sc]; exact of_decide_eq_true q4) (of_decide_eq_true q5) hxy q7 q8 (notT q9) (notT q10)) (sole_no2 fun x ps e => nomatch e)) rfl
      subst e
      rw [hi] at hj
      exact hxy (Option.some.inj hj)
    · cases q
  | iff e a b ia ib =>
    refine SndS.of rfl fun {X cc P st} c q => ?_
    split at q
    · obtain ⟨q, q3⟩ := and2 q
      obtain ⟨q1, q2⟩ := and2 q
      exact rs_if ((snd e).t c.toCtx q1) (ia.l c q2) (ib.l c q3)
    · cases q
  | wh e b ib =>
    refine SndS.of rfl fun {X cc P st} c q => ?_
    split at q
    · obtain ⟨q1, q2⟩ := and2 q
      exact rs_while c.pass ((snd e).t c.toCtx q1) (ib.l c q2)
    · cases q
  | «for» t ik it b ib =>
    refine SndS.of rfl fun {X cc P st} c q => ?_
    split at q
    · obtain ⟨q, q4⟩ := and2 q
      obtain ⟨q, q3⟩ := and2 q
      obtain ⟨q1, q2⟩ := and2 q
      exact rs_for c.pass c.calm ((snd it).w c.toCtx q2) ((sndG t).1 c.toCtx q1) (ib.l c q4) (fun x => set_no q3)
    · cases q
  | brk =>
    refine SndS.of rfl fun {X cc P st} c q => ?_
    split at q
    · exact rs_brk
    · cases q
  | cont =>
    refine SndS.of rfl fun {X cc P st} c q => ?_
    split at q
    · exact rs_cont
    · cases q
  | never => exact SndS.of rfl fun {X cc P st} c q => rs_never
end
end Py
end

section
set_option Elab.async false
set_option linter.all false
set_option maxRecDepth 100000
set_option maxHeartbeats 1000000
/-! A table of defs keeps its promises; the law's call. -/
namespace Py
open PySem PySem.Spec PyProof.Rows L2

/-! ### what a call leaves -/
section
variable {K : PySem.W.Frag} {cl : Nat → Addr} {ρ ρ' : List Addr} {H H' : Hp} {st st' : Store}
mutual
theorem RD.lo : ∀ {d : D} {v : V}, RD K ρ H d v → D.lo ρ.length d = true
  | _, _, .non => rfl
  | _, _, .bl _ => rfl
  | _, _, .int _ => rfl
  | _, _, .str _ => rfl
  | .tup ds, _, .tup _ t => by
    show D.los ρ.length ds = true
    exact RDs.los t
  | .ref n, _, .ref h => by
    show decide (n < ρ.length) = true
    exact decide_eq_true (List.getElem?_eq_some_iff.mp h).1
theorem RDs.los : ∀ {d : List D} {v : List V}, RDs K ρ H d v → D.los ρ.length d = true
  | _, _, .nil => rfl
  | _, _, .cons h t => by
    show (D.lo ρ.length _ && D.los ρ.length _) = true
    rw [RD.lo h, RDs.los t]; rfl
end
theorem RP.lo {κ : Type} : ∀ {d : List (κ × D)} {v : List (κ × V)}, RP K ρ H d v → (d.all fun p => D.lo ρ.length p.2) = true
  | _, _, .nil => rfl
  | _, _, .cons h t => by
    rw [List.all_cons, h.2.lo, RP.lo t]; rfl
theorem RO.lo : ∀ {o : O} {u : HO}, RO K cl ρ H o u → O.lo ρ.length o = true
  | _, _, .lst h => h.los
  | _, _, .dK h => RP.lo h
  | _, _, .dT h => RP.lo h
  | _, _, .ins h => RP.lo h
  | .lk o, _, .lk h => by
    show O.lo ρ.length o = true
    exact RO.lo h
theorem Rel.lo (r : Rel K cl ρ H st) : ∀ o ∈ st, O.lo ρ.length o = true := by
  intro o ho
  obtain ⟨n, hn⟩ := List.mem_iff_getElem?.mp ho
  obtain ⟨a, u, _, _, h⟩ := r.get hn
  exact h.lo
theorem Ext.back (e : Ext K ρ H ρ' H') (n : Nat) (hn : n = ρ.length) : ρ'.take n = ρ ∧ Ext K ρ H ρ H' := by
  obtain ⟨more, hm⟩ := e.pre
  exact ⟨by rw [hm, hn]; simp, e.tup, ⟨[], by simp⟩, e.old, fun a h => .inl h⟩
theorem leave_ok {Q : VK} {E : Nat → List (Str × D) → Store → Prop} {d : D} (r : Rel K cl ρ H st) (h : Post (leave st d st') (Cont K cl ρ H Q) E) : Cont K cl ρ H Q d st' := by
  intro ρ' H' v e r' rd
  have hl : st.length = ρ.length := r.len.symm
  obtain ⟨ht, eb⟩ := e.back st.length hl
  unfold leave at h
  split at h
  · rename_i c
    obtain ⟨c1, c2⟩ := and2 c
    have c1 := of_decide_eq_true c1
    have rt := r'.take (n := st.length) (fun o ho => by
      rw [c1] at ho
      rw [hl]
      exact r.lo o ho)
    rw [ht, c1] at rt
    have rd2 := rd.low c2
    rw [ht] at rd2
    exact h ρ H' v eb rt rd2
  · split at h
    · rename_i c
      obtain ⟨c1, c2⟩ := and2 c
      have rt := r'.take (n := st.length) (fun o ho => List.all_eq_true.mp c1 o ho)
      rw [ht] at rt
      have rd2 := rd.low c2
      rw [ht] at rd2
      exact h ρ H' v eb rt rd2
    · exact h ρ' H' v e r' rd
theorem RDs.slots {N : List Str} : ∀ {ds : List D} {vs : List V}, RDs K ρ H ds vs → ∀ n, RE K ρ H (ds.map some ++ List.replicate n none) (vs.map some ++ List.replicate n none)
  | _, _, .nil, n => ⟨by simp, fun i d q => by
      simp only [List.map_nil, List.nil_append] at q
      rw [List.getElem?_replicate] at q
      split at q <;> cases q⟩
  | _, _, .cons h t, n => by
    obtain ⟨h1, h2⟩ := RDs.slots (N := N) t n
    refine ⟨by simpa using h1, fun i d q => ?_⟩
    cases i with
    | zero =>
      simp only [List.map_cons, List.cons_append, List.getElem?_cons_zero, Option.some.injEq] at q
      subst q
      exact ⟨_, rfl, h⟩
    | succ i =>
      simp only [List.map_cons, List.cons_append, List.getElem?_cons_succ] at q ⊢
      exact h2 i d q
end

/-! ### one def -/
def scB (fn : Fn) (sc : Scope) : Bool := decide (sc.kind = .function) && decide (sc.isCoroutine = false) && decide (sc.isGenerator = false) && decide fn.slots.Nodup && decide (fn.slots.take fn.pars.length = fn.pars) &&
  (fn.pars.all fun x => decide (sc.names.lookup x = some .local) || decide (sc.names.lookup x = some .cell)) && (sc.names.all fun y => decide (y.2 ≠ .free))
theorem scB_ok {fn : Fn} {sc : Scope} (h : scB fn sc = true) : FnScope fn.slots fn.pars sc := by
  unfold scB at h
  obtain ⟨h, h7⟩ := and2 h
  obtain ⟨h, h6⟩ := and2 h
  obtain ⟨h, h5⟩ := and2 h
  obtain ⟨h, h4⟩ := and2 h
  obtain ⟨h, h3⟩ := and2 h
  obtain ⟨h1, h2⟩ := and2 h
  refine ⟨of_decide_eq_true h1, of_decide_eq_true h2, of_decide_eq_true h3, of_decide_eq_true h4, of_decide_eq_true h5, fun x hx => ?_, fun y hy => of_decide_eq_true (List.all_eq_true.mp h7 y hy)⟩
  have q := List.all_eq_true.mp h6 x hx
  rw [Bool.or_eq_true] at q
  exact q.imp of_decide_eq_true of_decide_eq_true
def fnB (G : GT) (fn : Fn) (body : List Stmt) (sc : Scope) : Bool := scB fn sc && (chkS G fn.body).l ⟨fn.slots, sc, celOf sc⟩ body
section
variable {P : Program} {w : World} {K : PySem.W.Frag} {mg : Str → Option Value} {base : Heap} {cl : Nat → Addr} {Wh k f : Nat} {G : GT} {fn : Fn}
theorem fn_step {x qual : Str} {params : Arguments} {body : List Stmt} {scope : Scope} {dvs : List V} {kws : List (Str × V)} {addr : Addr} {fd : FuncData} (g : Gk P w K mg base cl Wh G k) (hf : G.fns[f]? = some fn) (F : FunD K x qual params body scope dvs kws addr fd) (hb : fnB G fn body scope = true) :
    FnG P w K mg base (k + 1) addr fd fn.pars (spI K cl Wh G.fns (k + 1) f) := by
  obtain ⟨oc, od, dV, kV, doc, pm, an, cdv, ct, osl, rfl, lk, hcd, _, _⟩ := F.ex
  obtain ⟨b1, b2⟩ := and2 hb
  have S := scB_ok b1
  refine fnG_of lk hcd S fun A around s H vs Q E room hg hl hsp => ?_
  obtain ⟨ρ, st, ds, rl, rd, h⟩ := hsp
  have hlen := run_len h hf
  unfold run at h
  simp only [hf, hlen, if_true] at h
  refine ⟨_, (sndS (G := G) (cl := cl) (Wh := Wh) (k := k) fn.body).l (cc := ⟨fn.slots, scope, celOf scope⟩) (P := E) ?_ b2, ?_⟩
  · exact
      { gk := g, eN := rfl, nd := S.nd, sc := rfl, calm := rfl, tk := takes_of rfl rfl rfl rfl, room := room, gu := hg, fnl := fun _ _ => rfl, pass := passes_of rfl, kind := S.kind }
  · have e1 : ds.map some ++ List.replicate (fn.slots.length - fn.pars.length) (none : Option D) = ds.map some ++ List.replicate (fn.slots.length - vs.length) none := by rw [hl]
    refine ⟨ρ, st, ds.map some ++ List.replicate (fn.slots.length - vs.length) none, rl, rd.slots (N := fn.slots) _, ?_⟩
    rw [e1] at h
    refine (post_bind.mp h).imp (fun fl st1 q => ?_) fun _ _ _ q => q
    cases fl with
    | nx env => exact fun ρ' H' σ' e r re => leave_ok rl q ρ' H' .non e r .non
    | rt d => exact leave_ok rl q
    | bk env => exact q.elim
    | ct env => exact q.elim
theorem fn_zero {addr : Addr} {fd : FuncData} {ps : List Str} : FnG P w K mg base 0 addr fd ps (spI K cl Wh G.fns 0 f) :=
  fun _ _ _ _ _ _ _ _ _ _ _ _ _ _ _ ⟨_, _, _, _, _, h⟩ => h.elim
/-- where the defs stand -/
structure FnAt (K : PySem.W.Frag) (mg : Str → Option Value) (G : GT) (fn : Fn) : Prop where
  ex : ∃ (addr : Addr) (fd : FuncData) (qual : Str) (params : Arguments) (body : List Stmt) (scope : Scope), mg fn.name = some (.ref addr) ∧ FunD K fn.name qual params body scope [] [] addr fd ∧ Binds K fd fn.pars [] ∧ fnB G fn body scope = true
theorem gk_all (h : ∀ (f : Nat) (fn : Fn), G.fns[f]? = some fn → FnAt K mg G fn) (bt : ∀ x ∈ G.bts, mg x = none) (cs : ∀ x d, (x, d) ∈ G.cs → ∃ v u, mg x = some u ∧ RelV v u ∧ ∀ ρ H, RD K ρ H d v) (sys : ∃ o, base.get? sysModules = some o) : ∀ k, Gk P w K mg base cl Wh G k
  | 0 => ⟨fun f fn hf => by
      obtain ⟨addr, fd, qual, params, body, scope, h1, h2, h3, h4⟩ := (h f fn hf).ex
      exact ⟨addr, fd, h1, h2.kp, h3, fn_zero⟩, bt, cs, sys⟩
  | k + 1 => ⟨fun f fn hf => by
      obtain ⟨addr, fd, qual, params, body, scope, h1, h2, h3, h4⟩ := (h f fn hf).ex
      exact ⟨addr, fd, h1, h2.kp, h3, fn_step (gk_all h bt cs sys k) hf h2 h4⟩, bt, cs, sys⟩
end
end Py
end

section
set_option Elab.async false
set_option linter.all false
set_option maxRecDepth 100000
set_option maxHeartbeats 1000000
/-! The head: what the module's end tells, the law's call. -/
namespace Py
open PySem PySem.Spec PyProof.Rows L2

/-! ### a part of the heap without lists -/
def isLO (o : Obj) : Bool := match o.cls with
  | .type n => n == "list"
  | _ => false
def frL (g : Addr → Option Obj) (as : List Addr) : PySem.W.Frag := (He.frG g as).filter fun q => !isLO q.2
theorem frL_mem {g : Addr → Option Obj} {as : List Addr} {a : Addr} {o : Obj} (h : (frL g as).lookup a = some o) : g a = some o ∧ isLO o = false := by
  obtain ⟨h1, h2⟩ := List.mem_filter.mp (He.lookup_mem h)
  refine ⟨He.frG_mem h1, ?_⟩
  cases q : isLO o with
  | false => rfl
  | true =>
    have h3 : (!isLO o) = true := h2
    rw [q] at h3
    cases h3
theorem frL_in {as : List Addr} {h : Heap} : (frL h.get? as).In h := fun _ _ e => (frL_mem e).1

/-! ### constants -/
mutual
def dB (K : PySem.W.Frag) : D → Value → Bool
  | .non, .none => true
  | .bl b, .bool k => b == k
  | .int i, .int j _ => decide (i = j)
  | .str x, .str y _ => decide (x = y)
  | .tup ds, .ref a => (match K.lookup a with
    | some ⟨.type c, _, .seq its _, _⟩ => decide (c = "tuple") && decide (its.toList.length ≤ 1000) && dBs K ds its.toList
    | _ => false)
  | _, _ => false
def dBs (K : PySem.W.Frag) : List D → List Value → Bool
  | [], [] => true
  | d :: ds, u :: us => dB K d u && dBs K ds us
  | _, _ => false
end
mutual
theorem dB_ok {K : PySem.W.Frag} : ∀ {d : D} {u : Value}, dB K d u = true → ∃ v, RelV v u ∧ ∀ ρ H, RD K ρ H d v
  | .non, .none, _ => ⟨.non, rfl, fun _ _ => .non⟩
  | .bl b, .bool k, h => by
    have e : b = k := eq_of_beq (show (b == k) = true from h)
    subst e
    exact ⟨.bl b, rfl, fun _ _ => .bl b⟩
  | .int i, .int j t, h => by
    have e : i = j := of_decide_eq_true h
    subst e
    exact ⟨.int i, ⟨t, rfl⟩, fun _ _ => .int i⟩
  | .str x, .str y t, h => by
    have e : x = y := of_decide_eq_true h
    subst e
    exact ⟨.str x, ⟨t, rfl⟩, fun _ _ => .str x⟩
  | .tup ds, .ref a, h => by
    have h0 : (match K.lookup a with
      | some ⟨.type c, _, .seq its _, _⟩ => decide (c = "tuple") && decide (its.toList.length ≤ 1000) && dBs K ds its.toList
      | _ => false) = true := h
    split at h0
    · rename_i c od its n osl e
      obtain ⟨h0, h3⟩ := and2 h0
      obtain ⟨h1, h2⟩ := and2 h0
      obtain ⟨vs, r1, r2⟩ := dBs_ok h3
      have hc : c = "tuple" := of_decide_eq_true h1
      subst hc
      refine ⟨.ref a, rfl, fun ρ H => .tup (.inr ⟨_, its, n, e, rfl, rfl, ?_, r1⟩) (r2 ρ H)⟩
      have h2 := of_decide_eq_true h2
      rw [Array.length_toList] at h2
      rw [sizeLine_eq]
      omega
    · cases h0
  | .ref _, _, h => by cases h
  | .non, .bool _, h => nomatch h
  | .non, .int _ _, h => nomatch h
theorem dBs_ok {K : PySem.W.Frag} : ∀ {ds : List D} {us : List Value}, dBs K ds us = true → ∃ vs, Vals vs us ∧ ∀ ρ H, RDs K ρ H ds vs
  | [], [], _ => ⟨[], .nil, fun _ _ => .nil⟩
  | d :: ds, u :: us, h => by
    obtain ⟨h1, h2⟩ := and2 (show (dB K d u && dBs K ds us) = true from h)
    obtain ⟨v, r1, r2⟩ := dB_ok h1
    obtain ⟨vs, r3, r4⟩ := dBs_ok h2
    exact ⟨v :: vs, .cons r1 r3, fun ρ H => .cons (r2 ρ H) (r4 ρ H)⟩
end

/-! ### the hook -/
def exP (cs : List (Str × D)) (K : PySem.W.Frag) : Bool := (K.lookup sysModules).isSome && cs.all fun c => match PySem.W.nsIn K mainGlobals c.1 with
  | some (some u) => dB K c.2 u
  | _ => false
def obsP (n : Nat) (fa : List He.Fa) (fn : List He.DefD) (cs : List (Str × D)) (g : Addr → Option Obj) : He.AlD × Bool := (He.obsD fa fn (frL g (sysModules :: He.asD g n)), exP cs (frL g (sysModules :: He.asD g n)))
def hkP (n : Nat) (fa : List He.Fa) (fn : List He.DefD) (cs : List (Str × D)) : PySem.W.Hook where
  α := He.AlD × Bool
  obs := fun s => obsP n fa fn cs s.heap.get?
  val := fun _ => (He.valD fn, true)
  says := fun _ h => ∃ K : PySem.W.Frag, K.In h ∧ He.SaysD fa fn K ∧ exP cs K = true ∧ ∀ a o, K.lookup a = some o → isLO o = false
  of := fun _ s e => ⟨frL s.heap.get? (sysModules :: He.asD s.heap.get? n), frL_in, congrArg Prod.fst e, congrArg Prod.snd e, fun _ _ q => (frL_mem q).2⟩
  keeps := fun _ _ _ ⟨K, hK, c⟩ k => ⟨K, PySem.W.Frag.In.keeps hK k, c⟩
theorem obsP_eq {n : Nat} {fa : List He.Fa} {fn : List He.DefD} {cs : List (Str × D)} {g : Addr → Option Obj} {s : Shared} (h : ∀ a, g a = s.heap.get? a) : obsP n fa fn cs g = (hkP n fa fn cs).obs s := by
  have e : g = s.heap.get? := funext h
  rw [e] <;> rfl
theorem exP_cs {cs : List (Str × D)} {K : PySem.W.Frag} {h : Heap} {mg : Str → Option Value} (e : exP cs K = true) (X : K.In h) (G : h.Ns mainGlobals mg) : ∀ x d, (x, d) ∈ cs → ∃ v u, mg x = some u ∧ RelV v u ∧ ∀ ρ H, RD K ρ H d v := by
  intro x d hm
  have q := List.all_eq_true.mp (and2 e).2 (x, d) hm
  dsimp only at q
  split at q
  · rename_i u e2
    obtain ⟨v, r1, r2⟩ := dB_ok q
    exact ⟨v, u, PySem.W.mg_of X G e2, r1, r2⟩
  · cases q

/-! ### the law's call -/
section
variable {P : Program} {w : World} {K : PySem.W.Frag} {mg mb : Str → Option Value} {k : Nat} {fa a : Addr} {fd : FuncData} {x : Str} {s₁ : Shared} {vs : List Value} {ns : List Int}
theorem law_G {sp : Sp} (KX : K.In s₁.heap) (g : s₁.heap.Ns mainGlobals mg) (b : s₁.heap.Ns builtinsNs mb) (bb : ∀ y : Str, y ≠ "__name__" → mb y = bootBuiltins y) (lim : s₁.heap.NoLimit) (gens : s₁.gens = #[])
    (ha : s₁.heap.get? a = some { cls := .type "list", data := .seq vs.toArray }) (hi : IntsAre vs ns) (hl : ns.length ≤ sizeLine) (room : Room k callerA) (nl : ∀ c o, K.lookup c = some o → isLO o = false)
    (F : ∀ base : Heap, K.In base → base.Ns mainGlobals mg → FnG P w K mg base k fa fd [x] sp) (bind : ∀ (s : Shared) (u : Value), BindsTo s fd ⟨[u], []⟩ [(x, u)])
    (hsp : ∀ (H : Hp) (ob : Obj), H a = some (.frz ob (.lst (ns.map V.int))) → sp [.ref a] H (fun v _ => v = .bl true) fun _ _ _ => False) :
    codeAny (model P w) callerA (.call (.ref fa) ⟨[.ref a], []⟩) (fun r s' => r = .ok (.ret (.bool true)) ∧ OldK s₁.heap s'.heap ∧ s'.os = s₁.os ∧ AllBare s'.gens) s₁ := by
  have rv := vals_ints hi
  obtain ⟨H, hH⟩ : ∃ H : Hp, H = fun c => if c = a then some (.frz { cls := .type "list", data := .seq vs.toArray } (.lst (ns.map V.int))) else none := ⟨_, rfl⟩
  have Ha : H a = some (.frz { cls := .type "list", data := .seq vs.toArray } (.lst (ns.map V.int))) := by rw [hH]; exact if_pos rfl
  have Hn : ∀ c, c ≠ a → H c = none := fun c hc => by rw [hH]; exact if_neg hc
  have Ka : K.lookup a = none := by
    cases q : K.lookup a with
    | none => rfl
    | some o =>
      have e := KX a o q
      rw [ha] at e
      cases e
      exact nomatch (nl a _ q)
  have ok : HOk P w H s₁.heap := by
    intro c u hc
    by_cases e : c = a
    · subst e
      rw [Ha] at hc
      cases hc
      exact ⟨ha, by rw [List.length_map]; exact hl, vs, _, rv, ha⟩
    · rw [Hn c e] at hc
      cases hc
  have inB : ∀ {c : Addr} {o : Obj}, s₁.heap.get? c = some o → c ≠ a → (hidT s₁.heap H).get? c = some o := fun e n => hidT_get e (Hn _ n)
  have nsB : ∀ {c : Addr} {m : Str → Option Value}, s₁.heap.Ns c m → (hidT s₁.heap H).Ns c m := fun {c m} ⟨o, es, ep, e, d, r⟩ => ⟨o, es, ep, inB e (fun z => by
    subst z
    rw [ha] at e
    cases e
    cases d), d, r⟩
  have KB : K.In (hidT s₁.heap H) := fun c o e => inB (KX c o e) fun z => by
    subst z
    rw [Ka] at e
    cases e
  have M : Mod K mg (hidT s₁.heap H) := ⟨KB, nsB g, ⟨mb, nsB b, bb⟩, lim.elim fun mc h => ⟨mc, nsB h.1, h.2⟩⟩
  have e0 : Env0 P w K mg (hidT s₁.heap H) callerA [] s₁ H := ⟨rfl, M, fun _ _ e => of_hidT e, Nat.le_of_eq (hidT_size _ _), trivial, fun c hc => absurd (show c ∈ ([] : List Addr) from hc) (by simp), ok, .of_eq gens⟩
  refine codeAny_mono (F _ KB (nsB g) callerA [] s₁ H ⟨[.ref a], []⟩ [.ref a] [.ref a] _ _ room rfl e0 (bind s₁ (.ref a)) (.cons rfl .nil) rfl (hsp H _ Ha)) fun r s' h => ?_
  match r, h with
  | .error e, h =>
    obtain ⟨_, _, _, _, _, _, _, _, _, _, _, _, z⟩ := (show L2.CX P w [] H s₁ (fun _ _ _ => False) e s' from h)
    exact z.elim
  | .ok .next, h => exact False.elim h
  | .ok .brk, h => exact False.elim h
  | .ok .cont, h => exact False.elim h
  | .ok (.ret u), ⟨v, H', os, bare, un, ok', rr, q⟩ =>
    have q : v = .bl true := q
    subst q
    obtain rfl : u = Value.bool true := rr
    refine ⟨rfl, OldK.of_keep fun c o e => ?_, os, bare⟩
    by_cases z : c = a
    · subst z
      have z2 := un.frzs c _ _ Ha
      rw [ha] at e
      cases e
      exact (ok' c _ z2).1
    · exact un.keep c o e (Hn c z) (fun y => absurd (show c ∈ ([] : List Addr) from y) (by simp)) (by simp)
end
/-- the script as the interpreter takes it -/
def scSt (ns : List Int) : Store := [.lk (.lst (ns.map D.int))]
theorem sp_script {K : PySem.W.Frag} {cl : Nat → Addr} {Wh k f : Nat} {fns : List Fn} {H : Hp} {a : Addr} {ob : Obj} {ns : List Int} (ha : H a = some (.frz ob (.lst (ns.map V.int)))) (h : ∃ st, run Wh fns k f [.ref 0] (scSt ns) = .ok (.bl true) st) :
    spI K cl Wh fns k f [.ref a] H (fun v _ => v = .bl true) fun _ _ _ => False := by
  obtain ⟨st, h⟩ := h
  have ri : ∀ ns : List Int, RDs K [a] H (ns.map D.int) (ns.map V.int) := by
    intro ns
    induction ns with
    | nil => exact .nil
    | cons n ns ih => exact .cons (.int n) ih
  refine ⟨[a], scSt ns, [.ref 0], ⟨rfl, by simp, fun i o b h1 h2 => ?_⟩, .cons (.ref rfl) .nil, ?_⟩
  · cases i with
    | zero =>
      simp only [scSt, List.getElem?_cons_zero, Option.some.injEq] at h1 h2
      subst h1 h2
      exact ⟨_, ha, .lk (.lst (ri ns))⟩
    | succ i => simp at h2
  · rw [h]
    intro ρ' H' v _ _ rd
    cases rd
    rfl
theorem walk_G {l : PySem.W.OpenLaw} {n k Wh f : Nat} {q : Program} {loose : List Str} {XP : (Str → Option Value) → Heap → Prop} {d : DefRec} {x : Str} {nn : Nat} {fa : List He.Fa} {fn : List He.DefD} {cs : List (Str × D)} {G : GT} {dl : He.DefD} {fl : Fn}
    (hn : l.most = some n) (hn2 : n ≤ sizeLine) (hdf : d.params.defaults = []) (hr : Room k callerA) (hcs : G.cs = cs) (hnm : d.name = dl.name)
    (hfl : G.fns[f]? = some fl) (hfn : fl.name = dl.name) (hps : fl.pars = [x])
    (F : ∀ (K : PySem.W.Frag) (h : Heap) (mg : Str → Option Value), K.In h → h.Ns mainGlobals mg → He.SaysD fa fn K → (∀ (i : Nat) (g : Fn), G.fns[i]? = some g → FnAt K mg G g) ∧ (∀ y ∈ G.bts, mg y = none) ∧
      ∀ (addr : Addr), mg dl.name = some (.ref addr) → ∃ fd : FuncData, (∃ (qual : Str) (params : Arguments) (body : List Stmt) (scope : Scope), FunD K fl.name qual params body scope [] [] addr fd ∧ fnB G fl body scope = true) ∧ ∀ (s : Shared) (u : Value), BindsTo s fd ⟨[u], []⟩ [(x, u)])
    (hrun : ∀ ns : List Int, ns.length ≤ n → (∀ z ∈ ns, Builtin.Int.intBits z ≤ 1048576) → ∃ st, run Wh G.fns (k + 0) f [.ref 0] (scSt ns) = .ok (.bl true) st) (hk : 0 < k) :
    PySem.W.WalkO q loose XP (hkP nn fa fn cs).says l.row.toRowW d [] (fun f vs => PySem.call f vs) := by
  refine Att.attach_callB hn hdf fun w s₀ s₁ mg mb fA o pm cd doc a vs ns Gr Y ho hd hcd hmg hobj hints hlen hbits hg => ?_
  obtain ⟨K, KX, c1, c2, c3⟩ := Y
  obtain ⟨f1, f2, f3⟩ := F K _ mg KX Gr.T.g c1
  obtain ⟨fd, ⟨qual, params, body, scope, F1, F2⟩, F3⟩ := f3 fA (by rw [← hnm]; exact hmg)
  obtain ⟨k', rfl⟩ : ∃ k', k = k' + 1 := ⟨k - 1, by omega⟩
  obtain ⟨so, hso⟩ := Option.isSome_iff_exists.mp (and2 c2).1
  refine law_G (sp := spI K (fun _ => 0) Wh G.fns (k' + 1) f) KX Gr.T.g Gr.T.b Gr.T.builtins Gr.T.nolimit hg hobj hints (Nat.le_trans hlen hn2) hr c3 (fun base KB gB => ?_) F3 fun H ob hH => sp_script hH (hrun ns hlen hbits)
  have z := fn_step (P := l.prog) (w := w) (base := base) (cl := fun _ => 0) (Wh := Wh) (gk_all f1 f2 (by rw [hcs]; exact exP_cs c2 KX Gr.T.g) ⟨so, KB _ _ hso⟩ k') hfl F1 F2
  rw [hps] at z
  exact z
end Py
end

section
set_option Elab.async false
set_option linter.all false
set_option maxRecDepth 100000
/-! The own syntax of the linked text of law k05, printed by a program. -/
namespace Py.L05
open PySem L2
def c_NOUGHT : D := (D.tup [(D.int 0), (D.int 1)])
def c_ONE : D := (D.tup [(D.int 1), (D.int 1)])
def c_LETTERS : D := (D.str (Str.ofString "abcdefghijklmnopqrstuvwxyz"))
def c_MOST_LETTERS : D := (D.int 8)
def c_TAKEN : D := (D.tup [(D.str (Str.ofString "faces")), (D.str (Str.ofString "way")), (D.str (Str.ofString "on")), (D.str (Str.ofString "say")), (D.str (Str.ofString "rule")), (D.str (Str.ofString "none")), (D.str (Str.ofString "price")), (D.str (Str.ofString "worth"))])
def c_LEAST_MANY : D := (D.int 2)
def c_MOST_MANY : D := (D.int 4)
abbrev f_is_whole : Nat := 0
def b_is_whole : S :=
  (.ret (.and (.bc (.isi .int) (.cons (.var 0) .nil)) (.not (.bc (.isi .bool) (.cons (.var 0) .nil)))))
def fn_is_whole : Fn := ⟨(Str.ofString "is_whole"), [(Str.ofString "thing")], [(Str.ofString "thing")], b_is_whole⟩
def divisor_wc1 : E :=
  (.cmp .NotEq (.var 1) (.int 0))
def divisor_wb1 : S :=
  (.par 0 1 (.var 1) (.mod (.var 0) (.var 1)))
abbrev f_divisor : Nat := 1
def b_divisor : S :=
  (.seq (.asg (.nm 0) (.bc .abs (.cons (.var 0) .nil)))
    (.seq (.asg (.nm 1) (.bc .abs (.cons (.var 1) .nil)))
    (.seq (.wh divisor_wc1 divisor_wb1)
    (.ret (.var 0)))))
def fn_divisor : Fn := ⟨(Str.ofString "divisor"), [(Str.ofString "one"), (Str.ofString "other")], [(Str.ofString "one"), (Str.ofString "other")], b_divisor⟩
abbrev f_is_fraction : Nat := 2
def b_is_fraction : S :=
  (.seq (.iff (.or (.not (.bc (.isi .tuple) (.cons (.var 0) .nil))) (.or (.cmp .NotEq (.bc .len (.cons (.var 0) .nil)) (.int 2)) (.or (.not (.call 0 (.cons (.ix (.var 0) (.int 0)) .nil))) (.not (.call 0 (.cons (.ix (.var 0) (.int 1)) .nil)))))) (.ret (.bl false)) .skip)
    (.ret (.and (.cmp .GtE (.ix (.var 0) (.int 1)) (.int 1)) (.cmp .Eq (.call 1 (.cons (.ix (.var 0) (.int 0)) (.cons (.ix (.var 0) (.int 1)) .nil))) (.int 1)))))
def fn_is_fraction : Fn := ⟨(Str.ofString "is_fraction"), [(Str.ofString "thing")], [(Str.ofString "thing")], b_is_fraction⟩
abbrev f_is_share : Nat := 3
def b_is_share : S :=
  (.ret (.and (.call 2 (.cons (.var 0) .nil)) (.chain .LtE .LtE (.int 0) (.ix (.var 0) (.int 0)) (.ix (.var 0) (.int 1)))))
def fn_is_share : Fn := ⟨(Str.ofString "is_share"), [(Str.ofString "thing")], [(Str.ofString "thing")], b_is_share⟩
abbrev f_fraction : Nat := 4
def b_fraction : S :=
  (.seq (.iff (.cmp .Eq (.var 1) (.int 0)) .never .skip)
    (.seq (.asg (.nm 2) (.call 1 (.cons (.var 0) (.cons (.var 1) .nil))))
    (.seq (.iff (.cmp .Lt (.var 1) (.int 0)) (.asg (.nm 2) (.sub (.int 0) (.var 2))) .skip)
    (.ret (.tup (.cons (.fdiv (.var 0) (.var 2)) (.cons (.fdiv (.var 1) (.var 2)) .nil)))))))
def fn_fraction : Fn := ⟨(Str.ofString "fraction"), [(Str.ofString "n"), (Str.ofString "d")], [(Str.ofString "n"), (Str.ofString "d"), (Str.ofString "by")], b_fraction⟩
abbrev f_plus : Nat := 5
def b_plus : S :=
  (.ret (.call 4 (.cons (.add (.mul (.ix (.var 0) (.int 0)) (.ix (.var 1) (.int 1))) (.mul (.ix (.var 1) (.int 0)) (.ix (.var 0) (.int 1)))) (.cons (.mul (.ix (.var 0) (.int 1)) (.ix (.var 1) (.int 1))) .nil))))
def fn_plus : Fn := ⟨(Str.ofString "plus"), [(Str.ofString "one"), (Str.ofString "other")], [(Str.ofString "one"), (Str.ofString "other")], b_plus⟩
def total_fb1 : S :=
  (.asg (.nm 1) (.call 5 (.cons (.var 1) (.cons (.var 2) .nil))))
abbrev f_total : Nat := 6
def b_total : S :=
  (.seq (.asg (.nm 1) (.gl (Str.ofString "NOUGHT") c_NOUGHT))
    (.seq (.for (.nm 2) .val (.cons (.var 0) .nil) total_fb1)
    (.ret (.var 1))))
def fn_total : Fn := ⟨(Str.ofString "total"), [(Str.ofString "some")], [(Str.ofString "some"), (Str.ofString "found"), (Str.ofString "one")], b_total⟩
def is_name_le1 : E :=
  (.cmp .In (.var 1) (.gl (Str.ofString "LETTERS") c_LETTERS))
abbrev f_is_name : Nat := 7
def b_is_name : S :=
  (.seq (.iff (.or (.not (.bc (.isi .str) (.cons (.var 0) .nil))) (.or (.not (.chain .LtE .LtE (.int 1) (.bc .len (.cons (.var 0) .nil)) (.gl (Str.ofString "MOST_LETTERS") c_MOST_LETTERS))) (.cmp .In (.var 0) (.gl (Str.ofString "TAKEN") c_TAKEN)))) (.ret (.bl false)) .skip)
    (.ret (.bc .all (.cons (.lc [((Str.ofString "sign"), 1)] (.nm 1) .val (.cons (.var 0) .nil) .np is_name_le1) .nil))))
def fn_is_name : Fn := ⟨(Str.ofString "is_name"), [(Str.ofString "thing")], [(Str.ofString "thing"), (Str.ofString "sign")], b_is_name⟩
def are_names_le1 : E :=
  (.call 7 (.cons (.var 1) .nil))
abbrev f_are_names : Nat := 8
def b_are_names : S :=
  (.ret (.and (.bc .all (.cons (.lc [((Str.ofString "one"), 1)] (.nm 1) .val (.cons (.var 0) .nil) .np are_names_le1) .nil)) (.cmp .Eq (.bc .setlen (.cons (.var 0) .nil)) (.bc .len (.cons (.var 0) .nil)))))
def fn_are_names : Fn := ⟨(Str.ofString "are_names"), [(Str.ofString "some")], [(Str.ofString "some"), (Str.ofString "one")], b_are_names⟩
abbrev f_is_many : Nat := 9
def b_is_many : S :=
  (.ret (.and (.bc (.isi .tuple) (.cons (.var 0) .nil)) (.chain .LtE .LtE (.gl (Str.ofString "LEAST_MANY") c_LEAST_MANY) (.bc .len (.cons (.var 0) .nil)) (.gl (Str.ofString "MOST_MANY") c_MOST_MANY))))
def fn_is_many : Fn := ⟨(Str.ofString "is_many"), [(Str.ofString "thing")], [(Str.ofString "thing")], b_is_many⟩
def are_shares_le1 : E :=
  (.call 3 (.cons (.var 2) .nil))
abbrev f_are_shares : Nat := 10
def b_are_shares : S :=
  (.seq (.iff (.or (.not (.bc (.isi .tuple) (.cons (.var 0) .nil))) (.or (.cmp .NotEq (.bc .len (.cons (.var 0) .nil)) (.var 1)) (.not (.bc .all (.cons (.lc [((Str.ofString "one"), 2)] (.nm 2) .val (.cons (.var 0) .nil) .np are_shares_le1) .nil))))) (.ret (.bl false)) .skip)
    (.ret (.cmp .Eq (.call 6 (.cons (.bc .list (.cons (.var 0) .nil)) .nil)) (.gl (Str.ofString "ONE") c_ONE))))
def fn_are_shares : Fn := ⟨(Str.ofString "are_shares"), [(Str.ofString "thing"), (Str.ofString "many")], [(Str.ofString "thing"), (Str.ofString "many"), (Str.ofString "one")], b_are_shares⟩
def is_trial_le1 : E :=
  (.and (.bc (.isi .tuple) (.cons (.var 3) .nil)) (.cmp .Eq (.bc .len (.cons (.var 3) .nil)) (.int 2)))
def is_trial_le2 : E :=
  (.ix (.var 3) (.int 0))
def is_trial_le3 : E :=
  (.call 10 (.cons (.ix (.var 3) (.int 1)) (.cons (.bc .len (.cons (.var 1) .nil)) .nil)))
abbrev f_is_trial : Nat := 11
def b_is_trial : S :=
  (.seq (.iff (.or (.not (.bc (.isi .tuple) (.cons (.var 0) .nil))) (.or (.cmp .NotEq (.bc .len (.cons (.var 0) .nil)) (.int 2)) (.or (.not (.call 9 (.cons (.ix (.var 0) (.int 0)) .nil))) (.not (.call 9 (.cons (.ix (.var 0) (.int 1)) .nil)))))) (.ret (.bl false)) .skip)
    (.seq (.asg (.tp (.cons (.nm 1) (.cons (.nm 2) .nil))) (.var 0))
    (.seq (.iff (.or (.not (.call 8 (.cons (.var 1) .nil))) (.not (.bc .all (.cons (.lc [((Str.ofString "way"), 3)] (.nm 3) .val (.cons (.var 2) .nil) .np is_trial_le1) .nil)))) (.ret (.bl false)) .skip)
    (.seq (.iff (.not (.call 8 (.cons (.lc [((Str.ofString "way"), 3)] (.nm 3) .val (.cons (.var 2) .nil) .np is_trial_le2) .nil))) (.ret (.bl false)) .skip)
    (.ret (.bc .all (.cons (.lc [((Str.ofString "way"), 3)] (.nm 3) .val (.cons (.var 2) .nil) .np is_trial_le3) .nil)))))))
def fn_is_trial : Fn := ⟨(Str.ofString "is_trial"), [(Str.ofString "thing")], [(Str.ofString "thing"), (Str.ofString "faces"), (Str.ofString "ways"), (Str.ofString "way")], b_is_trial⟩
abbrev f__law_feed : Nat := 12
def b__law_feed : S :=
  (.ret (.lst (.cons (.bc .list (.cons (.sl (.var 0) .np (.int 63)) .nil)) (.cons (.int 0) (.cons (.int 0) (.cons (.int 0) .nil))))))
def fn__law_feed : Fn := ⟨(Str.ofString "_law_feed"), [(Str.ofString "_law_script")], [(Str.ofString "_law_script")], b__law_feed⟩
def _law_draw_wc1 : E :=
  (.and (.cmp .Eq (.ix (.var 0) (.int 2)) (.int 0)) (.cmp .Lt (.ix (.var 0) (.int 3)) (.bc .len (.cons (.ix (.var 0) (.int 0)) .nil))))
def _law_draw_wb1 : S :=
  (.seq (.iff (.cmp .GtE (.bc .abs (.cons (.ix (.ix (.var 0) (.int 0)) (.ix (.var 0) (.int 3))) .nil)) (.pow (.int 10) (.int 18))) (.asgI (.var 0) (.int 2) (.bc .abs (.cons (.ix (.ix (.var 0) (.int 0)) (.ix (.var 0) (.int 3))) .nil))) .skip)
    (.asgI (.var 0) (.int 3) (.add (.ix (.var 0) (.int 3)) (.int 1))))
abbrev f__law_draw : Nat := 13
def b__law_draw : S :=
  (.seq (.asgI (.var 0) (.int 1) (.add (.ix (.var 0) (.int 1)) (.int 1)))
    (.seq (.wh _law_draw_wc1 _law_draw_wb1)
    (.seq (.iff (.cmp .Gt (.ix (.var 0) (.int 2)) (.int 0)) (.seq (.asg (.nm 4) (.mod (.ix (.var 0) (.int 2)) (.var 1)))
    (.seq (.asgI (.var 0) (.int 2) (.fdiv (.ix (.var 0) (.int 2)) (.var 1)))
    (.ret (.var 4)))) .skip)
    (.seq (.asg (.nm 2) (.int 0))
    (.seq (.iff (.cmp .Gt (.bc .len (.cons (.ix (.var 0) (.int 0)) .nil)) (.int 0)) (.asg (.nm 2) (.ix (.ix (.var 0) (.int 0)) (.mod (.ix (.var 0) (.int 1)) (.bc .len (.cons (.ix (.var 0) (.int 0)) .nil))))) .skip)
    (.seq (.asg (.nm 3) (.mod (.add (.add (.mul (.mod (.var 2) (.int 2147483647)) (.int 48271)) (.mul (.int 7919) (.ix (.var 0) (.int 1)))) (.int 12345)) (.int 2147483629)))
    (.seq (.asg (.nm 3) (.mod (.mul (.var 3) (.add (.var 3) (.int 40692))) (.int 2147483587)))
    (.ret (.mod (.mod (.mul (.var 3) (.int 16807)) (.int 2147483563)) (.var 1))))))))))
def fn__law_draw : Fn := ⟨(Str.ofString "_law_draw"), [(Str.ofString "_law_feed_here"), (Str.ofString "_law_many")], [(Str.ofString "_law_feed_here"), (Str.ofString "_law_many"), (Str.ofString "_law_cell"), (Str.ofString "_law_stirred"), (Str.ofString "_law_found")], b__law_draw⟩
def _law_low_wc1 : E :=
  (.cmp .NotEq (.var 3) (.int 0))
def _law_low_wb1 : S :=
  (.par 2 3 (.var 3) (.mod (.var 2) (.var 3)))
abbrev f__law_low : Nat := 14
def b__law_low : S :=
  (.seq (.par 2 3 (.bc .abs (.cons (.var 0) .nil)) (.var 1))
    (.seq (.wh _law_low_wc1 _law_low_wb1)
    (.ret (.tup (.cons (.fdiv (.var 0) (.var 2)) (.cons (.fdiv (.var 1) (.var 2)) .nil))))))
def fn__law_low : Fn := ⟨(Str.ofString "_law_low"), [(Str.ofString "_law_n"), (Str.ofString "_law_d")], [(Str.ofString "_law_n"), (Str.ofString "_law_d"), (Str.ofString "_law_one"), (Str.ofString "_law_other")], b__law_low⟩
def _law_shares_le1 : E :=
  (.mul (.call 13 (.cons (.var 0) (.cons (.var 2) .nil))) (.call 13 (.cons (.var 0) (.cons (.int 4) .nil))))
def _law_shares_le2 : E :=
  (.mod (.var 5) (.add (.var 2) (.int 1)))
def _law_shares_le3 : E :=
  (.call 14 (.cons (.var 5) (.cons (.bc .sum (.cons (.var 3) .nil)) .nil)))
abbrev f__law_shares : Nat := 15
def b__law_shares : S :=
  (.seq (.asg (.nm 2) (.ix (.lst (.cons (.int 6) (.cons (.int 6) (.cons (.int 200) .nil)))) (.call 13 (.cons (.var 0) (.cons (.int 3) .nil)))))
    (.seq (.asg (.nm 3) (.lc [((Str.ofString "_law_k"), 4)] (.nm 4) .range1 (.cons (.var 1) .nil) .np _law_shares_le1))
    (.seq (.asg (.nm 3) (.lc [((Str.ofString "_law_part"), 5)] (.nm 5) .val (.cons (.var 3) .nil) .np _law_shares_le2))
    (.seq (.asgI (.var 3) (.call 13 (.cons (.var 0) (.cons (.var 1) .nil))) (.add (.int 1) (.call 13 (.cons (.var 0) (.cons (.var 2) .nil)))))
    (.ret (.bc .tuple (.cons (.lc [((Str.ofString "_law_part"), 5)] (.nm 5) .val (.cons (.var 3) .nil) .np _law_shares_le3) .nil)))))))
def fn__law_shares : Fn := ⟨(Str.ofString "_law_shares"), [(Str.ofString "_law_feed_here"), (Str.ofString "_law_many")], [(Str.ofString "_law_feed_here"), (Str.ofString "_law_many"), (Str.ofString "_law_most"), (Str.ofString "_law_parts"), (Str.ofString "_law_k"), (Str.ofString "_law_part")], b__law_shares⟩
def _law_trial_le1 : E :=
  (.tup (.cons (.var 5) (.cons (.call 15 (.cons (.var 0) (.cons (.bc .len (.cons (.var 3) .nil)) .nil))) .nil)))
abbrev f__law_trial : Nat := 16
def b__law_trial : S :=
  (.seq (.asg (.nm 1) (.lst (.cons (.str (Str.ofString "a")) (.cons (.str (Str.ofString "ab")) (.cons (.str (Str.ofString "ways")) (.cons (.str (Str.ofString "onto")) (.cons (.str (Str.ofString "abc")) (.cons (.str (Str.ofString "sayer")) (.cons (.str (Str.ofString "ruler")) (.cons (.str (Str.ofString "b")) (.cons (.str (Str.ofString "prices")) (.cons (.str (Str.ofString "worthy")) (.cons (.str (Str.ofString "nones")) (.cons (.str (Str.ofString "zzzzzzzz")) .nil))))))))))))))
    (.seq (.asg (.nm 2) (.call 13 (.cons (.var 0) (.cons (.int 12) .nil))))
    (.seq (.asg (.nm 1) (.add (.sl (.var 1) (.var 2) .np) (.sl (.var 1) .np (.var 2))))
    (.seq (.asg (.nm 3) (.sl (.var 1) .np (.ix (.lst (.cons (.int 2) (.cons (.int 2) (.cons (.int 3) (.cons (.int 4) .nil))))) (.call 13 (.cons (.var 0) (.cons (.int 4) .nil))))))
    (.seq (.asg (.nm 4) (.sl (.sl (.var 1) (.ix (.lst (.cons (.int 0) (.cons (.int 2) (.cons (.int 5) .nil)))) (.call 13 (.cons (.var 0) (.cons (.int 3) .nil)))) .np) .np (.ix (.lst (.cons (.int 2) (.cons (.int 2) (.cons (.int 3) (.cons (.int 4) .nil))))) (.call 13 (.cons (.var 0) (.cons (.int 4) .nil))))))
    (.ret (.tup (.cons (.bc .tuple (.cons (.var 3) .nil)) (.cons (.bc .tuple (.cons (.lc [((Str.ofString "_law_name"), 5)] (.nm 5) .val (.cons (.var 4) .nil) .np _law_trial_le1) .nil)) .nil)))))))))
def fn__law_trial : Fn := ⟨(Str.ofString "_law_trial"), [(Str.ofString "_law_feed_here")], [(Str.ofString "_law_feed_here"), (Str.ofString "_law_pool"), (Str.ofString "_law_turn"), (Str.ofString "_law_faces"), (Str.ofString "_law_ways"), (Str.ofString "_law_name")], b__law_trial⟩
def _law_is_name_lc1 : E :=
  (.cmp .NotIn (.var 1) (.str (Str.ofString "abcdefghijklmnopqrstuvwxyz")))
def _law_is_name_le1 : E :=
  (.var 1)
abbrev f__law_is_name : Nat := 17
def b__law_is_name : S :=
  (.seq (.iff (.or (.not (.bc (.isi .str) (.cons (.var 0) .nil))) (.not (.chain .LtE .LtE (.int 1) (.bc .len (.cons (.var 0) .nil)) (.int 8)))) (.ret (.bl false)) .skip)
    (.seq (.iff (.cmp .In (.var 0) (.tup (.cons (.str (Str.ofString "faces")) (.cons (.str (Str.ofString "way")) (.cons (.str (Str.ofString "on")) (.cons (.str (Str.ofString "say")) (.cons (.str (Str.ofString "rule")) (.cons (.str (Str.ofString "none")) (.cons (.str (Str.ofString "price")) (.cons (.str (Str.ofString "worth")) .nil)))))))))) (.ret (.bl false)) .skip)
    (.ret (.cmp .Eq (.lc [((Str.ofString "_law_sign"), 1)] (.nm 1) .val (.cons (.var 0) .nil) _law_is_name_lc1 _law_is_name_le1) (.lst .nil)))))
def fn__law_is_name : Fn := ⟨(Str.ofString "_law_is_name"), [(Str.ofString "_law_thing")], [(Str.ofString "_law_thing"), (Str.ofString "_law_sign")], b__law_is_name⟩
abbrev f__law_whole : Nat := 18
def b__law_whole : S :=
  (.ret (.and (.bc (.isi .int) (.cons (.var 0) .nil)) (.not (.bc (.isi .bool) (.cons (.var 0) .nil)))))
def fn__law_whole : Fn := ⟨(Str.ofString "_law_whole"), [(Str.ofString "_law_thing")], [(Str.ofString "_law_thing")], b__law_whole⟩
abbrev f__law_is_fraction : Nat := 19
def b__law_is_fraction : S :=
  (.seq (.iff (.or (.not (.bc (.isi .tuple) (.cons (.var 0) .nil))) (.or (.cmp .NotEq (.bc .len (.cons (.var 0) .nil)) (.int 2)) (.or (.not (.call 18 (.cons (.ix (.var 0) (.int 0)) .nil))) (.not (.call 18 (.cons (.ix (.var 0) (.int 1)) .nil)))))) (.ret (.bl false)) .skip)
    (.ret (.and (.cmp .GtE (.ix (.var 0) (.int 1)) (.int 1)) (.cmp .Eq (.call 14 (.cons (.ix (.var 0) (.int 0)) (.cons (.ix (.var 0) (.int 1)) .nil))) (.var 0)))))
def fn__law_is_fraction : Fn := ⟨(Str.ofString "_law_is_fraction"), [(Str.ofString "_law_thing")], [(Str.ofString "_law_thing")], b__law_is_fraction⟩
abbrev f__law_is_share : Nat := 20
def b__law_is_share : S :=
  (.ret (.and (.call 19 (.cons (.var 0) .nil)) (.chain .LtE .LtE (.int 0) (.ix (.var 0) (.int 0)) (.ix (.var 0) (.int 1)))))
def fn__law_is_share : Fn := ⟨(Str.ofString "_law_is_share"), [(Str.ofString "_law_thing")], [(Str.ofString "_law_thing")], b__law_is_share⟩
def _law_come_to_one_le1 : E :=
  (.call 20 (.cons (.var 3) .nil))
def _law_come_to_one_fb1 : S :=
  (.asg (.nm 2) (.mul (.var 2) (.ix (.var 3) (.int 1))))
def _law_come_to_one_le2 : E :=
  (.mul (.ix (.var 3) (.int 0)) (.fdiv (.var 2) (.ix (.var 3) (.int 1))))
abbrev f__law_come_to_one : Nat := 21
def b__law_come_to_one : S :=
  (.seq (.iff (.or (.not (.bc (.isi .tuple) (.cons (.var 0) .nil))) (.or (.cmp .NotEq (.bc .len (.cons (.var 0) .nil)) (.var 1)) (.cmp .In (.bl false) (.lc [((Str.ofString "_law_one"), 3)] (.nm 3) .val (.cons (.var 0) .nil) .np _law_come_to_one_le1)))) (.ret (.bl false)) .skip)
    (.seq (.asg (.nm 2) (.int 1))
    (.seq (.for (.nm 3) .val (.cons (.var 0) .nil) _law_come_to_one_fb1)
    (.ret (.cmp .Eq (.bc .sum (.cons (.lc [((Str.ofString "_law_one"), 3)] (.nm 3) .val (.cons (.var 0) .nil) .np _law_come_to_one_le2) .nil)) (.var 2))))))
def fn__law_come_to_one : Fn := ⟨(Str.ofString "_law_come_to_one"), [(Str.ofString "_law_thing"), (Str.ofString "_law_many")], [(Str.ofString "_law_thing"), (Str.ofString "_law_many"), (Str.ofString "_law_whole_here"), (Str.ofString "_law_one")], b__law_come_to_one⟩
def _law_are_names_le1 : E :=
  (.call 17 (.cons (.var 1) .nil))
abbrev f__law_are_names : Nat := 22
def b__law_are_names : S :=
  (.ret (.and (.cmp .NotIn (.bl false) (.lc [((Str.ofString "_law_one"), 1)] (.nm 1) .val (.cons (.var 0) .nil) .np _law_are_names_le1)) (.cmp .Eq (.bc .setlen (.cons (.var 0) .nil)) (.bc .len (.cons (.var 0) .nil)))))
def fn__law_are_names : Fn := ⟨(Str.ofString "_law_are_names"), [(Str.ofString "_law_some")], [(Str.ofString "_law_some"), (Str.ofString "_law_one")], b__law_are_names⟩
def _law_is_trial_fb1 : S :=
  (.iff (.or (.not (.bc (.isi .tuple) (.cons (.var 1) .nil))) (.not (.chain .LtE .LtE (.int 2) (.bc .len (.cons (.var 1) .nil)) (.int 4)))) (.ret (.bl false)) .skip)
def _law_is_trial_fb2 : S :=
  (.iff (.or (.not (.bc (.isi .tuple) (.cons (.var 2) .nil))) (.cmp .NotEq (.bc .len (.cons (.var 2) .nil)) (.int 2))) (.ret (.bl false)) .skip)
def _law_is_trial_le1 : E :=
  (.ix (.var 2) (.int 0))
def _law_is_trial_le2 : E :=
  (.call 21 (.cons (.ix (.var 2) (.int 1)) (.cons (.bc .len (.cons (.ix (.var 0) (.int 0)) .nil)) .nil)))
abbrev f__law_is_trial : Nat := 23
def b__law_is_trial : S :=
  (.seq (.iff (.or (.not (.bc (.isi .tuple) (.cons (.var 0) .nil))) (.cmp .NotEq (.bc .len (.cons (.var 0) .nil)) (.int 2))) (.ret (.bl false)) .skip)
    (.seq (.for (.nm 1) .val (.cons (.var 0) .nil) _law_is_trial_fb1)
    (.seq (.for (.nm 2) .val (.cons (.ix (.var 0) (.int 1)) .nil) _law_is_trial_fb2)
    (.seq (.iff (.or (.not (.call 22 (.cons (.bc .list (.cons (.ix (.var 0) (.int 0)) .nil)) .nil))) (.not (.call 22 (.cons (.lc [((Str.ofString "_law_way"), 2)] (.nm 2) .val (.cons (.ix (.var 0) (.int 1)) .nil) .np _law_is_trial_le1) .nil)))) (.ret (.bl false)) .skip)
    (.ret (.cmp .NotIn (.bl false) (.lc [((Str.ofString "_law_way"), 2)] (.nm 2) .val (.cons (.ix (.var 0) (.int 1)) .nil) .np _law_is_trial_le2)))))))
def fn__law_is_trial : Fn := ⟨(Str.ofString "_law_is_trial"), [(Str.ofString "_law_thing")], [(Str.ofString "_law_thing"), (Str.ofString "_law_part"), (Str.ofString "_law_way")], b__law_is_trial⟩
abbrev f__law_odd : Nat := 24
def b__law_odd : S :=
  (.seq (.asg (.nm 1) (.lst (.cons .non (.cons (.bl true) (.cons (.bl false) (.cons (.int 0) (.cons (.int 1) (.cons (.neg (.int 1)) (.cons (.str (Str.ofString "")) (.cons (.str (Str.ofString "a")) (.cons (.str (Str.ofString "1")) (.cons (.tup .nil) (.cons (.lst .nil) (.cons .dnewK (.cons (.tup (.cons (.int 0) .nil)) (.cons (.tup (.cons (.int 1) .nil)) (.cons (.tup (.cons (.int 0) (.cons (.int 1) .nil))) (.cons (.lst (.cons (.int 0) (.cons (.int 1) .nil))) (.cons (.tup (.cons (.int 1) (.cons (.int 1) .nil))) (.cons (.tup (.cons (.bl true) (.cons (.int 1) .nil))) .nil))))))))))))))))))))
    (.seq (.asg (.nm 1) (.add (.var 1) (.lst (.cons (.tup (.cons (.int 0) (.cons (.int 2) .nil))) (.cons (.tup (.cons (.int 1) (.cons (.int 0) .nil))) (.cons (.tup (.cons (.int 1) (.cons (.neg (.int 1)) .nil))) (.cons (.tup (.cons (.int 2) (.cons (.int 4) .nil))) (.cons (.tup (.cons (.int 1) (.cons (.bl true) .nil))) (.cons (.tup (.cons (.str (Str.ofString "1")) (.cons (.int 1) .nil))) (.cons (.tup (.cons (.int 1) (.cons (.int 2) (.cons (.int 3) .nil)))) (.cons (.tup (.cons (.tup (.cons (.int 0) (.cons (.int 1) .nil))) .nil)) (.cons (.pow (.int 10) (.int 30)) (.cons (.tup (.cons (.int 3) (.cons (.int 2) .nil))) .nil)))))))))))))
    (.seq (.expr (.bm .append (.var 1) (.cons (.tup (.cons (.neg (.int 1)) (.cons (.int 2) .nil))) .nil)))
    (.ret (.ix (.var 1) (.call 13 (.cons (.var 0) (.cons (.int 29) .nil))))))))
def fn__law_odd : Fn := ⟨(Str.ofString "_law_odd"), [(Str.ofString "_law_feed_here")], [(Str.ofString "_law_feed_here"), (Str.ofString "_law_some")], b__law_odd⟩
abbrev f__law_bent : Nat := 25
def b__law_bent : S :=
  (.seq (.asg (.nm 3) (.call 13 (.cons (.var 0) (.cons (.int 8) .nil))))
    (.seq (.iff (.or (.cmp .Eq (.var 2) (.int 0)) (.or (.cmp .Eq (.var 3) (.int 0)) (.or (.not (.bc (.isi .tupLst) (.cons (.var 1) .nil))) (.cmp .Eq (.bc .len (.cons (.var 1) .nil)) (.int 0))))) (.seq (.iff (.and (.bc (.isi .tuple) (.cons (.var 1) .nil)) (.cmp .Lt (.var 3) (.int 3))) (.ret (.bc .list (.cons (.var 1) .nil))) .skip)
    (.ret (.call 24 (.cons (.var 0) .nil)))) .skip)
    (.seq (.asg (.nm 4) (.bc .list (.cons (.var 1) .nil)))
    (.seq (.asg (.nm 5) (.call 13 (.cons (.var 0) (.cons (.bc .len (.cons (.var 4) .nil)) .nil))))
    (.seq (.iff (.cmp .Eq (.var 3) (.int 1)) (.asg (.nm 4) (.add (.sl (.var 4) .np (.var 5)) (.sl (.var 4) (.add (.var 5) (.int 1)) .np))) (.iff (.cmp .Eq (.var 3) (.int 2)) (.expr (.bm .insert (.var 4) (.cons (.var 5) (.cons (.ix (.var 4) (.call 13 (.cons (.var 0) (.cons (.bc .len (.cons (.var 4) .nil)) .nil)))) .nil)))) (.iff (.cmp .Eq (.var 3) (.int 3)) (.asgI (.var 4) (.var 5) (.ix (.var 4) (.call 13 (.cons (.var 0) (.cons (.bc .len (.cons (.var 4) .nil)) .nil))))) (.asgI (.var 4) (.var 5) (.call 25 (.cons (.var 0) (.cons (.ix (.var 4) (.var 5)) (.cons (.sub (.var 2) (.int 1)) .nil))))))))
    (.ret (.ife (.bc (.isi .tuple) (.cons (.var 1) .nil)) (.bc .tuple (.cons (.var 4) .nil)) (.var 4))))))))
def fn__law_bent : Fn := ⟨(Str.ofString "_law_bent"), [(Str.ofString "_law_feed_here"), (Str.ofString "_law_thing"), (Str.ofString "_law_deep")], [(Str.ofString "_law_feed_here"), (Str.ofString "_law_thing"), (Str.ofString "_law_deep"), (Str.ofString "_law_way"), (Str.ofString "_law_row"), (Str.ofString "_law_at")], b__law_bent⟩
abbrev f__law_text : Nat := 26
def b__law_text : S :=
  (.seq (.asg (.nm 1) (.lst (.cons (.str (Str.ofString "faces")) (.cons (.str (Str.ofString "way")) (.cons (.str (Str.ofString "on")) (.cons (.str (Str.ofString "say")) (.cons (.str (Str.ofString "rule")) (.cons (.str (Str.ofString "none")) (.cons (.str (Str.ofString "price")) (.cons (.str (Str.ofString "worth")) (.cons (.str (Str.ofString "ways")) (.cons (.str (Str.ofString "onn")) (.cons (.str (Str.ofString "o")) (.cons (.str (Str.ofString "n")) (.cons (.str (Str.ofString "sa")) (.cons (.str (Str.ofString "rules")) .nil))))))))))))))))
    (.seq (.asg (.nm 2) (.ix (.add (.var 1) (.lst (.cons (.str (Str.ofString "abcdefgh")) .nil))) (.call 13 (.cons (.var 0) (.cons (.int 15) .nil)))))
    (.seq (.asg (.nm 3) (.call 13 (.cons (.var 0) (.cons (.int 5) .nil))))
    (.seq (.asg (.nm 4) (.call 13 (.cons (.var 0) (.cons (.add (.bc .len (.cons (.var 2) .nil)) (.int 1)) .nil))))
    (.seq (.asg (.nm 5) (.ix (.lst (.cons (.str (Str.ofString "a")) (.cons (.str (Str.ofString "z")) (.cons (.str (Str.ofString "A")) (.cons (.str (Str.ofString "1")) (.cons (.str (Str.ofString " ")) (.cons (.str (Str.ofString "-")) (.cons (.str (Str.ofString "")) (.cons (.str (Str.ofString "s")) (.cons (.str (Str.ofString "e")) .nil)))))))))) (.call 13 (.cons (.var 0) (.cons (.int 9) .nil)))))
    (.seq (.iff (.cmp .Eq (.var 3) (.int 1)) (.ret (.add (.add (.sl (.var 2) .np (.var 4)) (.var 5)) (.sl (.var 2) (.var 4) .np))) .skip)
    (.ret (.ife (.cmp .Eq (.var 3) (.int 2)) (.sl (.var 2) .np (.var 4)) (.var 2)))))))))
def fn__law_text : Fn := ⟨(Str.ofString "_law_text"), [(Str.ofString "_law_feed_here")], [(Str.ofString "_law_feed_here"), (Str.ofString "_law_some"), (Str.ofString "_law_text_here"), (Str.ofString "_law_way"), (Str.ofString "_law_at"), (Str.ofString "_law_sign")], b__law_text⟩
def _law_larger_le1 : E :=
  (.tup (.cons (.ix (.var 5) (.int 0)) (.cons (.add (.ix (.var 5) (.int 1)) (.mul (.tup (.cons (.tup (.cons (.int 0) (.cons (.int 1) .nil))) .nil)) (.bc .len (.cons (.var 2) .nil)))) .nil)))
abbrev f__law_larger : Nat := 27
def b__law_larger : S :=
  (.seq (.asg (.tp (.cons (.nm 3) (.cons (.nm 4) .nil))) (.var 1))
    (.seq (.iff (.cmp .Eq (.call 13 (.cons (.var 0) (.cons (.int 2) .nil))) (.int 0)) (.ret (.tup (.cons (.var 3) (.cons (.sl (.add (.var 4) (.tup (.cons (.tup (.cons (.str (Str.ofString "q")) (.cons (.ix (.ix (.var 4) (.int 0)) (.int 1)) .nil))) (.cons (.tup (.cons (.str (Str.ofString "qq")) (.cons (.ix (.ix (.var 4) (.int 1)) (.int 1)) .nil))) (.cons (.tup (.cons (.str (Str.ofString "qqq")) (.cons (.ix (.ix (.var 4) (.int 0)) (.int 1)) .nil))) .nil))))) .np (.add (.int 4) (.call 13 (.cons (.var 0) (.cons (.int 2) .nil))))) .nil)))) .skip)
    (.seq (.asg (.nm 2) (.sl (.tup (.cons (.str (Str.ofString "q")) (.cons (.str (Str.ofString "qq")) (.cons (.str (Str.ofString "qqq")) .nil)))) .np (.sub (.sub (.int 5) (.bc .len (.cons (.var 3) .nil))) (.call 13 (.cons (.var 0) (.cons (.int 2) .nil))))))
    (.ret (.tup (.cons (.add (.var 3) (.var 2)) (.cons (.bc .tuple (.cons (.lc [((Str.ofString "_law_way"), 5)] (.nm 5) .val (.cons (.var 4) .nil) .np _law_larger_le1) .nil)) .nil)))))))
def fn__law_larger : Fn := ⟨(Str.ofString "_law_larger"), [(Str.ofString "_law_feed_here"), (Str.ofString "_law_trial_here")], [(Str.ofString "_law_feed_here"), (Str.ofString "_law_trial_here"), (Str.ofString "_law_more"), (Str.ofString "_law_faces"), (Str.ofString "_law_ways"), (Str.ofString "_law_way")], b__law_larger⟩
def law_fb1 : S :=
  (.iff (.cmp .NotEq (.bc .repr (.cons (.call 7 (.cons (.var 5) .nil)) .nil)) (.bc .repr (.cons (.call 17 (.cons (.var 5) .nil)) .nil))) (.ret (.bl false)) .skip)
def law_fb2 : S :=
  (.seq (.asg (.nm 6) (.call 26 (.cons (.var 1) .nil)))
    (.for (.nm 5) .val (.cons (.tup (.cons (.var 6) (.cons (.call 24 (.cons (.var 1) .nil)) .nil))) .nil) law_fb1))
def law_le1 : E :=
  (.call 25 (.cons (.var 1) (.cons (.var 3) (.cons (.int 5) .nil))))
def law_fb3 : S :=
  (.seq (.asg (.nm 7) (.bc .repr (.cons (.var 5) .nil)))
    (.iff (.or (.cmp .NotEq (.bc .repr (.cons (.call 11 (.cons (.var 5) .nil)) .nil)) (.bc .repr (.cons (.call 23 (.cons (.var 5) .nil)) .nil))) (.cmp .NotEq (.bc .repr (.cons (.var 5) .nil)) (.var 7))) (.ret (.bl false)) .skip))
abbrev f_law : Nat := 28
def b_law : S :=
  (.seq (.asg (.nm 1) (.call 12 (.cons (.var 0) .nil)))
    (.seq (.for (.nm 2) .range1 (.cons (.int 12) .nil) law_fb2)
    (.seq (.asg (.nm 3) (.call 16 (.cons (.var 1) .nil)))
    (.seq (.asg (.nm 4) (.add (.lst (.cons (.var 3) (.cons (.call 27 (.cons (.var 1) (.cons (.var 3) .nil))) .nil))) (.lc [((Str.ofString "_law_k"), 2)] (.nm 2) .range1 (.cons (.add (.int 4) (.call 13 (.cons (.var 1) (.cons (.int 9) .nil)))) .nil) .np law_le1)))
    (.seq (.for (.nm 5) .val (.cons (.add (.var 4) (.lst (.cons (.call 24 (.cons (.var 1) .nil)) (.cons (.var 3) .nil)))) .nil) law_fb3)
    (.ret (.cmp .Is (.call 11 (.cons (.var 3) .nil)) (.bl true))))))))
def fn_law : Fn := ⟨(Str.ofString "law"), [(Str.ofString "_law_script")], [(Str.ofString "_law_script"), (Str.ofString "_law_feed_here"), (Str.ofString "_law_k"), (Str.ofString "_law_trial_here"), (Str.ofString "_law_things"), (Str.ofString "_law_thing"), (Str.ofString "_law_text_here"), (Str.ofString "_law_kept")], b_law⟩
def fns : List Fn := [fn_is_whole, fn_divisor, fn_is_fraction, fn_is_share, fn_fraction, fn_plus, fn_total, fn_is_name, fn_are_names, fn_is_many, fn_are_shares, fn_is_trial, fn__law_feed, fn__law_draw, fn__law_low, fn__law_shares, fn__law_trial, fn__law_is_name, fn__law_whole, fn__law_is_fraction, fn__law_is_share, fn__law_come_to_one, fn__law_are_names, fn__law_is_trial, fn__law_odd, fn__law_bent, fn__law_text, fn__law_larger, fn_law]
end Py.L05
end

section
set_option Elab.async false
set_option linter.all false
set_option maxRecDepth 100000
/-! Tools for plain reasoning about a run. -/
namespace Py
open PySem L2

section
variable (W : Nat) (cf : Nat → List D → Store → R D) (env : Sl) (st : Store) (a b c i lo hi es it cond elt : E)
@[simp] theorem ev_var (n : Nat) : ev cf (.var n) env st = R.of (match env[n]? with | some (some d) => some d | _ => none) st := rfl
@[simp] theorem ev_non : ev cf .non env st = .ok .non st := rfl
@[simp] theorem ev_bl (k : Bool) : ev cf (.bl k) env st = .ok (.bl k) st := rfl
@[simp] theorem ev_int (n : Int) : ev cf (.int n) env st = .ok (.int n) st := rfl
@[simp] theorem ev_str (s : Str) : ev cf (.str s) env st = .ok (.str s) st := rfl
@[simp] theorem ev_gl (s : Str) (d : D) : ev cf (.gl s d) env st = .ok d st := rfl
@[simp] theorem ev_add : ev cf (.add a b) env st = (ev cf a env st).bind fun x st => (ev cf b env st).bind fun y st => addD st x y := rfl
def subD (st : Store) : D → D → R D
  | .int i, .int j => .ok (.int (i - j)) st
  | _, _ => .bad
def fdivD (st : Store) : D → D → R D
  | .int i, .int j => if divOk j then .ok (.int (i / j)) st else .bad
  | _, _ => .bad
def modD (st : Store) : D → D → R D
  | .int i, .int j => if 0 < j then .ok (.int (i % j)) st else .bad
  | _, _ => .bad
def powD (st : Store) : D → D → R D
  | .int i, .int j => if powOk i j then .ok (.int (i ^ j.toNat)) st else .bad
  | _, _ => .bad
def negD (st : Store) : D → R D
  | .int i => .ok (.int (-i)) st
  | _ => .bad
theorem bind_congr {α β : Type} {r : R α} {f g : α → Store → R β} (h : ∀ a st, f a st = g a st) : r.bind f = r.bind g := by
  cases r with
  | ok a st => exact h a st
  | exn c fs st => rfl
  | bad => rfl
@[simp] theorem ev_sub : ev cf (.sub a b) env st = (ev cf a env st).bind fun x st => (ev cf b env st).bind fun y st => subD st x y := bind_congr fun x st => bind_congr fun y st => by cases x <;> cases y <;> rfl
@[simp] theorem ev_mul : ev cf (.mul a b) env st = (ev cf a env st).bind fun x st => (ev cf b env st).bind fun y st => mulD st x y := rfl
@[simp] theorem ev_fdiv : ev cf (.fdiv a b) env st = (ev cf a env st).bind fun x st => (ev cf b env st).bind fun y st => fdivD st x y := bind_congr fun x st => bind_congr fun y st => by cases x <;> cases y <;> rfl
@[simp] theorem ev_mod : ev cf (.mod a b) env st = (ev cf a env st).bind fun x st => (ev cf b env st).bind fun y st => modD st x y := bind_congr fun x st => bind_congr fun y st => by cases x <;> cases y <;> rfl
@[simp] theorem ev_pow : ev cf (.pow a b) env st = (ev cf a env st).bind fun x st => (ev cf b env st).bind fun y st => powD st x y := bind_congr fun x st => bind_congr fun y st => by cases x <;> cases y <;> rfl
@[simp] theorem ev_neg : ev cf (.neg a) env st = (ev cf a env st).bind fun x st => negD st x := bind_congr fun x st => by cases x <;> rfl
@[simp] theorem ev_cmp (op : CmpOp) : ev cf (.cmp op a b) env st = (ev cf a env st).bind fun x st => (ev cf b env st).bind fun y st => (R.of (cmpD st op x y) st).bind fun k st => .ok (.bl k) st := rfl
@[simp] theorem ev_chain (op op' : CmpOp) : ev cf (.chain op op' a b c) env st = (ev cf a env st).bind fun x st => (ev cf b env st).bind fun y st => (R.of (cmpD st op x y) st).bind fun k st =>
    if k then (ev cf c env st).bind fun z st => (R.of (cmpD st op' y z) st).bind fun k st => .ok (.bl k) st else .ok (.bl false) st := rfl
@[simp] theorem ev_and : ev cf (.and a b) env st = (ev cf a env st).bind fun x st => (R.of (truth st x) st).bind fun k st => if k then ev cf b env st else .ok x st := rfl
@[simp] theorem ev_or : ev cf (.or a b) env st = (ev cf a env st).bind fun x st => (R.of (truth st x) st).bind fun k st => if k then .ok x st else ev cf b env st := rfl
@[simp] theorem ev_not : ev cf (.not a) env st = (ev cf a env st).bind fun x st => (R.of (truth st x) st).bind fun k st => .ok (.bl (!k)) st := rfl
@[simp] theorem ev_ife : ev cf (.ife c a b) env st = (tr (ev cf c env st)).bind fun k st => if k then ev cf a env st else ev cf b env st := rfl
@[simp] theorem ev_nil : ev cf .nil env st = .ok (.tup []) st := rfl
@[simp] theorem ev_cons : ev cf (.cons a b) env st = (ev cf a env st).bind fun x st => (ev cf b env st).bind fun y st => .ok (.tup (x :: asTup y)) st := rfl
@[simp] theorem ev_tup : ev cf (.tup es) env st = (ev cf es env st).bind fun y st => .ok (.tup (asTup y)) st := rfl
@[simp] theorem ev_lst : ev cf (.lst es) env st = (ev cf es env st).bind fun y st => .ok (.ref st.length) (st ++ [.lst (asTup y)]) := rfl
@[simp] theorem ev_dnewK : ev cf .dnewK env st = .ok (.ref st.length) (st ++ [.dK []]) := rfl
@[simp] theorem ev_ix : ev cf (.ix a i) env st = (ev cf a env st).bind fun x st => (ev cf i env st).bind fun y st => R.of (ixD st x y) st := rfl
@[simp] theorem ev_sl_np : ev cf (.sl a .np .np) env st = (ev cf a env st).bind fun x st => slD st none none x := rfl
theorem ev_sl_lo (h : lo ≠ .np) : ev cf (.sl a lo .np) env st = (ev cf a env st).bind fun x st => ((ev cf lo env st).bind fun l st => R.of (part l) st).bind fun l st => slD st l none x := by
  cases lo <;> first | exact absurd rfl h | rfl
theorem ev_sl_hi (h : hi ≠ .np) : ev cf (.sl a .np hi) env st = (ev cf a env st).bind fun x st => ((ev cf hi env st).bind fun l st => R.of (part l) st).bind fun l st => slD st none l x := by
  cases hi <;> first | exact absurd rfl h | rfl
@[simp] theorem ev_call (f : Nat) : ev cf (.call f es) env st = (ev cf es env st).bind fun y st => cf f (asTup y) st := rfl
@[simp] theorem ev_bc (k : B) : ev cf (.bc k es) env st = (ev cf es env st).bind fun y st => bcD st k (asTup y) := rfl
@[simp] theorem ev_bm (m : Me) : ev cf (.bm m a es) env st = (ev cf a env st).bind fun x st => if isLst st x then (ev cf es env st).bind fun y st => bmD st m x (asTup y) else .bad := rfl
/-- a comprehension's turn -/
def lcF (vs : List Nat) (t : T) (cond elt : E) (env : Sl) (d : D) (st : Store) : R (Option D) := noexn ((R.of (setT t d (wiped env vs)) st).bind fun env st =>
      (match cond with
      | .np => R.ok true st
      | _ => tr (ev cf cond env st)).bind fun k st => if k then (ev cf elt env st).bind fun x st => .ok (some x) st else .ok none st)
def evWk (k : IK) (it : E) (env : Sl) (st : Store) : R (List D × Guard) := (ev cf it env st).bind fun y st => R.of (walkD st k (asTup y)) st
@[simp] theorem ev_lc (own : List (Str × Nat)) (t : T) (k : IK) : ev cf (.lc own t k it cond elt) env st = (evWk cf k it env st).bind fun p st => (compL p.2 (lcF cf (own.map (·.2)) t cond elt env) p.1 st).bind fun xs st => if xs.length ≤ sizeLine then .ok (.ref st.length) (st ++ [.lst xs]) else .bad := by
  have : ∀ (r1 : R D) (f : List D × Guard → Store → R D), (r1.bind fun y st => (R.of (walkD st k (asTup y)) st).bind f) = (r1.bind fun y st => R.of (walkD st k (asTup y)) st).bind f := fun r1 f => by cases r1 <;> rfl
  unfold evWk
  rw [← this]
  rfl
variable (s t : S)
@[simp] theorem ex_skip : ex W cf .skip env st = .ok (.nx env) st := rfl
/-- and then -/
def thenS (b : S) (fl : Fl) (st : Store) : R Fl := match fl with
  | .nx env => ex W cf b env st
  | fl => .ok fl st
@[simp] theorem ex_seq : ex W cf (.seq s t) env st = (ex W cf s env st).bind (thenS W cf t) := bind_congr fun fl st => by cases fl <;> rfl
@[simp] theorem then_nx : thenS W cf s (.nx env) st = ex W cf s env st := rfl
@[simp] theorem then_rt (d : D) : thenS W cf s (.rt d) st = .ok (.rt d) st := rfl
@[simp] theorem then_bk : thenS W cf s (.bk env) st = .ok (.bk env) st := rfl
@[simp] theorem then_ct : thenS W cf s (.ct env) st = .ok (.ct env) st := rfl
@[simp] theorem ex_expr : ex W cf (.expr a) env st = (ev cf a env st).bind fun _ st => .ok (.nx env) st := rfl
@[simp] theorem ex_ret : ex W cf (.ret a) env st = (ev cf a env st).bind fun d st => .ok (.rt d) st := rfl
@[simp] theorem ex_retN : ex W cf .retN env st = .ok (.rt .non) st := rfl
@[simp] theorem ex_asg (g : T) : ex W cf (.asg g a) env st = (ev cf a env st).bind fun d st => (R.of (setT g d env) st).bind fun env st => .ok (.nx env) st := rfl
/-- a list's item is written -/
def putD (env : Sl) (st : Store) (x y d : D) : R Fl := match x, y with
  | .ref n, .int j => match st[n]? with
    | some (.lst xs) => match ixN xs.length j with
      | some k => .ok (.nx env) (st.set n (.lst (xs.set k d)))
      | none => .bad
    | _ => .bad
  | _, _ => .bad
@[simp] theorem ex_asgI : ex W cf (.asgI a i b) env st = (ev cf b env st).bind fun d st => (ev cf a env st).bind fun x st => (ev cf i env st).bind fun y st => putD env st x y d := rfl
@[simp] theorem ex_par (m n : Nat) : ex W cf (.par m n a b) env st = (ev cf a env st).bind fun x st => (ev cf b env st).bind fun y st => .ok (.nx ((env.set m (some x)).set n (some y))) st := rfl
@[simp] theorem ex_iff : ex W cf (.iff a s t) env st = (tr (ev cf a env st)).bind fun k st => if k then ex W cf s env st else ex W cf t env st := rfl
def whC (c : E) (env : Sl) (st : Store) : R Bool := tr (ev cf c env st)
@[simp] theorem ex_wh : ex W cf (.wh c s) env st = whl (whC cf c) (ex W cf s) W env st := rfl
/-- a loop's turn -/
def forF (t : T) (b : S) (d : D) (env : Sl) (st : Store) : R Fl := (R.of (setT t d env) st).bind fun env st => ex W cf b env st
@[simp] theorem ex_for (g : T) (k : IK) : ex W cf (.for g k it s) env st = (evWk cf k it env st).bind fun p st => forL p.2 (forF W cf g s) p.1 env st := by
  have : ∀ (r1 : R D) (f : List D × Guard → Store → R Fl), (r1.bind fun y st => (R.of (walkD st k (asTup y)) st).bind f) = (r1.bind fun y st => R.of (walkD st k (asTup y)) st).bind f := fun r1 f => by cases r1 <;> rfl
  unfold evWk
  rw [← this]
  rfl
@[simp] theorem ex_brk : ex W cf .brk env st = .ok (.bk env) st := rfl
@[simp] theorem ex_cont : ex W cf .cont env st = .ok (.ct env) st := rfl
end
@[simp] theorem asTup_tup (ds : List D) : asTup (.tup ds) = ds := rfl
@[simp] theorem evWk_eq (cf : Nat → List D → Store → R D) (k : IK) (it : E) (env : Sl) (st : Store) : evWk cf k it env st = (ev cf it env st).bind fun y st => R.of (walkD st k (asTup y)) st := rfl
@[simp] theorem tr_ok (d : D) (st : Store) : tr (.ok d st) = R.of (truth st d) st := rfl
@[simp] theorem tr_bad : tr .bad = .bad := rfl
@[simp] theorem noexn_ok {α : Type} (a : α) (st : Store) : noexn (.ok a st) = .ok a st := rfl
@[simp] theorem truth_bl (st : Store) (b : Bool) : truth st (.bl b) = some b := rfl
@[simp] theorem truth_int (st : Store) (i : Int) : truth st (.int i) = some (i != 0) := rfl
@[simp] theorem truth_non (st : Store) : truth st .non = some false := rfl
/-- what comes out of a body -/
def outS (st0 : Store) (fl : Fl) (st' : Store) : R D := match fl with
  | .rt d => leave st0 d st'
  | .nx _ => leave st0 .non st'
  | _ => .bad
theorem run_eq {W : Nat} {fns : List Fn} {k f : Nat} {ds : List D} {st : Store} {fn : Fn} {body : S} {env0 : Sl} (hf : fns[f]? = some fn) (hb : fn.body = body) (hl : ds.length = fn.pars.length) (he : ds.map some ++ List.replicate (fn.slots.length - ds.length) none = env0) :
    run W fns (k + 1) f ds st = (ex W (run W fns k) body env0 st).bind (outS st) := by
  subst hb he
  show (match fns[f]? with
    | none => R.bad
    | some fn => if ds.length = fn.pars.length then
        (ex W (run W fns k) fn.body (ds.map some ++ List.replicate (fn.slots.length - ds.length) none) st).bind fun fl st' => match fl with
        | .rt d => leave st d st'
        | .nx _ => leave st .non st'
        | _ => .bad
      else .bad) = _
  rw [hf]
  simp only [hl, if_true]
  exact bind_congr fun fl st => by cases fl <;> rfl
@[simp] theorem out_rt (st0 st' : Store) (d : D) : outS st0 (.rt d) st' = leave st0 d st' := rfl
@[simp] theorem out_nx (st0 st' : Store) (env : Sl) : outS st0 (.nx env) st' = leave st0 .non st' := rfl
/-! ### what is left -/
@[simp] theorem leave_same (st : Store) (d : D) : leave st d st = .ok d st := by
  unfold leave
  split
  · rfl
  · split
    · simp
    · rfl
theorem leave_app {st : Store} {d : D} (h : D.lo st.length d = true) (more : Store) : leave st d (st ++ more) = .ok d st := by
  unfold leave
  simp [h]
theorem leave_set {st st1 : Store} {d : D} (hl : st1.length = st.length) (hs : st1.all (O.lo st.length) = true) (h : D.lo st.length d = true) (more : Store) : leave st d (st1 ++ more) = .ok d st1 := by
  have e : (st1 ++ more).take st.length = st1 := by rw [← hl]; simp
  unfold leave
  rw [e, hs, h]
  split
  · rename_i c
    simp only [Bool.and_true, decide_eq_true_eq] at c
    rw [c]
  · rfl
@[simp] theorem leave_bl (st more : Store) (b : Bool) : leave st (.bl b) (st ++ more) = .ok (.bl b) st := leave_app rfl more
@[simp] theorem leave_int (st more : Store) (b : Int) : leave st (.int b) (st ++ more) = .ok (.int b) st := leave_app rfl more
@[simp] theorem leave_str (st more : Store) (b : Str) : leave st (.str b) (st ++ more) = .ok (.str b) st := leave_app rfl more
@[simp] theorem leave_non (st more : Store) : leave st .non (st ++ more) = .ok .non st := leave_app rfl more
/-! ### loops -/
theorem compL_map {g : Guard} {f : D → Store → R (Option D)} {st : Store} (hg : gOk g st = true) (h : D → D) : ∀ {ds : List D}, (∀ d ∈ ds, f d st = .ok (some (h d)) st) → compL g f ds st = .ok (ds.map h) st
  | [], _ => by simp [compL, hg]
  | d :: ds, H => by
    unfold compL
    rw [if_pos hg, H d List.mem_cons_self, R.bind_ok, compL_map hg h fun x hx => H x (List.mem_cons_of_mem _ hx)]
    rfl
theorem compL_filter {g : Guard} {f : D → Store → R (Option D)} {st : Store} (hg : gOk g st = true) (h : D → Option D) : ∀ {ds : List D}, (∀ d ∈ ds, f d st = .ok (h d) st) → compL g f ds st = .ok (ds.filterMap h) st
  | [], _ => by simp [compL, hg]
  | d :: ds, H => by
    unfold compL
    rw [if_pos hg, H d List.mem_cons_self, R.bind_ok, compL_filter hg h fun x hx => H x (List.mem_cons_of_mem _ hx), List.filterMap_cons]
    cases h d <;> rfl
@[simp] theorem gOk_nil (st : Store) : gOk [] st = true := rfl
/-- a loop that leaves the store and changes the slots by a step -/
theorem forL_fold {g : Guard} {f : D → Sl → Store → R Fl} {st : Store} (hg : gOk g st = true) (step : D → Sl → Sl) (I : List D → Sl → Prop) : ∀ {ds : List D} {env : Sl}, I ds env → (∀ d ds env, I (d :: ds) env → f d env st = .ok (.nx (step d env)) st ∧ I ds (step d env)) →
    ∃ env', forL g f ds env st = .ok (.nx env') st ∧ I [] env'
  | [], env, hi, _ => ⟨env, by simp [forL, hg], hi⟩
  | d :: ds, env, hi, H => by
    obtain ⟨h1, h2⟩ := H d ds env hi
    obtain ⟨env', h3, h4⟩ := forL_fold hg step I h2 H
    refine ⟨env', ?_, h4⟩
    unfold forL
    rw [if_pos hg, h1, R.bind_ok]
    exact h3
/-! ### values -/
@[simp] theorem pd_non (st : Store) (k : Nat) : pd st (k + 1) .non = some .none := rfl
@[simp] theorem pd_bl (st : Store) (k : Nat) (b : Bool) : pd st (k + 1) (.bl b) = some (.bool b) := rfl
@[simp] theorem pd_int (st : Store) (k : Nat) (b : Int) : pd st (k + 1) (.int b) = some (.int b) := rfl
@[simp] theorem pd_str (st : Store) (k : Nat) (b : Str) : pd st (k + 1) (.str b) = some (.str b) := rfl
@[simp] theorem cmp_eq (st : Store) (a b : D) : cmpD st .Eq a b = eqD st a b := by cases a <;> cases b <;> rfl
@[simp] theorem cmp_ne (st : Store) (a b : D) : cmpD st .NotEq a b = (eqD st a b).map (!·) := by cases a <;> cases b <;> rfl
@[simp] theorem cmp_in (st : Store) (a b : D) : cmpD st .In a b = inD st a b := by cases a <;> cases b <;> rfl
@[simp] theorem cmp_notIn (st : Store) (a b : D) : cmpD st .NotIn a b = (inD st a b).map (!·) := by cases a <;> cases b <;> rfl
@[simp] theorem cmp_is (st : Store) (a b : D) : cmpD st .Is a b = isD a b := by cases a <;> cases b <;> rfl
@[simp] theorem cmp_isNot (st : Store) (a b : D) : cmpD st .IsNot a b = (isD a b).map (!·) := by cases a <;> cases b <;> rfl
@[simp] theorem cmp_lt (st : Store) (i j : Int) : cmpD st .Lt (.int i) (.int j) = some (decide (i < j)) := rfl
@[simp] theorem cmp_le (st : Store) (i j : Int) : cmpD st .LtE (.int i) (.int j) = some (decide (i ≤ j)) := rfl
@[simp] theorem cmp_gt (st : Store) (i j : Int) : cmpD st .Gt (.int i) (.int j) = some (decide (j < i)) := rfl
@[simp] theorem cmp_ge (st : Store) (i j : Int) : cmpD st .GtE (.int i) (.int j) = some (decide (j ≤ i)) := rfl
@[simp] theorem is_non (x : D) : isD x .non = some (decide (x = .non)) := rfl
@[simp] theorem is_bl (a b : Bool) : isD (.bl a) (.bl b) = some (decide (a = b)) := rfl
@[simp] theorem eqD_int (st : Store) (i j : Int) : eqD st (.int i) (.int j) = some (decide (i = j)) := by
  show some (i == j) = _
  by_cases h : i = j
  · subst h; simp
  · simp [h]
@[simp] theorem eqD_bl (st : Store) (i j : Bool) : eqD st (.bl i) (.bl j) = some (decide (i = j)) := by
  cases i <;> cases j <;> rfl
@[simp] theorem eqD_pair (st : Store) (a b c d : Int) : eqD st (.tup [.int a, .int b]) (.tup [.int c, .int d]) = some (decide (a = c) && decide (b = d)) := by
  show some (a == c && (b == d && true)) = _
  rw [Bool.and_true]
  by_cases h : a = c <;> by_cases h2 : b = d <;> simp [h, h2]
@[simp] theorem add_int (st : Store) (i j : Int) : addD st (.int i) (.int j) = .ok (.int (i + j)) st := rfl
@[simp] theorem sub_int (st : Store) (i j : Int) : subD st (.int i) (.int j) = .ok (.int (i - j)) st := rfl
@[simp] theorem neg_int (st : Store) (i : Int) : negD st (.int i) = .ok (.int (-i)) st := rfl
theorem mul_int {i j : Int} (h : mulOk i j = true) (st : Store) : mulD st (.int i) (.int j) = .ok (.int (i * j)) st := by
  show (if mulOk i j = true then _ else _) = _
  rw [if_pos h]
theorem fdiv_int {j : Int} (h : divOk j = true) (i : Int) (st : Store) : fdivD st (.int i) (.int j) = .ok (.int (i / j)) st := by
  show (if divOk j = true then _ else _) = _
  rw [if_pos h]
theorem mod_int {j : Int} (h : 0 < j) (i : Int) (st : Store) : modD st (.int i) (.int j) = .ok (.int (i % j)) st := by
  show (if 0 < j then _ else _) = _
  rw [if_pos h]
@[simp] theorem bc_abs (st : Store) (i : Int) : bcD st .abs [.int i] = .ok (.int (if i < 0 then -i else i)) st := rfl
@[simp] theorem bc_isi (st : Store) (k : Kind) (d : D) : bcD st (.isi k) [d] = (R.of (isiD st k d) st).bind fun b st => .ok (.bl b) st := rfl
@[simp] theorem bc_len (st : Store) (d : D) : bcD st .len [d] = (R.of (lenD st d) st).bind fun n st => .ok (.int n) st := rfl
@[simp] theorem len_tup (st : Store) (xs : List D) : lenD st (.tup xs) = some xs.length := rfl
@[simp] theorem isi_non (st : Store) (k : Kind) : isiD st k .non = some false := rfl
@[simp] theorem isi_bl (st : Store) (k : Kind) (b : Bool) : isiD st k (.bl b) = some (k == .int || k == .bool) := rfl
@[simp] theorem isi_int (st : Store) (k : Kind) (b : Int) : isiD st k (.int b) = some (k == .int) := rfl
@[simp] theorem isi_str (st : Store) (k : Kind) (b : Str) : isiD st k (.str b) = some (k == .str) := rfl
@[simp] theorem isi_tup (st : Store) (k : Kind) (xs : List D) : isiD st k (.tup xs) = some (k == .tuple || k == .tupLst) := rfl
@[simp] theorem st_last (st : Store) (o : O) : (st ++ [o])[st.length]? = some o := by simp
/-! ### sizes -/
/-- great, and greater -/
def BIG : Nat := 2 ^ 4000
def HUGE : Nat := 2 ^ 400000
theorem big_huge : BIG ≤ HUGE := Nat.pow_le_pow_right (by decide) (by decide)
theorem divOk_of {j : Int} (h0 : 0 < j) (h : j.natAbs < BIG) : divOk j = true := by
  unfold divOk
  refine decide_eq_true ⟨h0, ?_⟩
  exact Nat.lt_trans ((Nat.log2_lt (by omega)).mpr h) (by decide)
theorem log_huge {n : Nat} (h : n < HUGE) : n.log2 < 400001 := by
  by_cases e : n = 0
  · subst e; decide
  · exact Nat.lt_succ_of_lt ((Nat.log2_lt e).mpr h)
theorem mulOk_of {i j : Int} (hi : i.natAbs < HUGE) (hj : j.natAbs < HUGE) : mulOk i j = true := by
  unfold mulOk
  have a := log_huge hi
  have b := log_huge hj
  exact decide_eq_true (by omega)
end Py
namespace Py
open PySem L2
theorem eqD_str {st : Store} {i j : Str} (hi : PyData.strOk i = true) (hj : PyData.strOk j = true) : eqD st (.str i) (.str j) = some (decide (i = j)) := by
  have e : (i == j) = decide (i = j) := by
    by_cases h : i = j
    · subst h; simp
    · rw [decide_eq_false h, beq_eq_false_iff_ne.mpr h]
  unfold eqD
  simp [SeqAt.shaped, PyData.canLay0, PyData.depth, PyData.eqv, hi, hj, e]
end Py
end

section
set_option Elab.async false
set_option linter.all false
set_option maxRecDepth 100000
/-! Data. -/
namespace Py
open PySem L2
/-- the items' data -/
inductive Pds (st : Store) (n : Nat) : List D → List PyData → Prop where
  | nil : Pds st n [] []
  | cons {d : D} {p : PyData} {ds : List D} {ps : List PyData} : pd st n d = some p → Pds st n ds ps → Pds st n (d :: ds) (p :: ps)
theorem pds_of {st : Store} {n : Nat} : ∀ {ds : List D} {ps : List PyData}, ds.mapM (pd st n) = some ps → Pds st n ds ps
  | [], ps, h => by cases h; exact .nil
  | d :: ds, ps, h => by
    rw [List.mapM_cons] at h
    cases e1 : pd st n d with
    | none => rw [e1] at h; cases h
    | some y =>
      rw [e1] at h
      cases e2 : ds.mapM (pd st n) with
      | none => rw [e2] at h; cases h
      | some ys =>
        rw [e2] at h
        cases h
        exact .cons e1 (pds_of e2)
theorem Pds.mapM {st : Store} {n : Nat} : ∀ {ds : List D} {ps : List PyData}, Pds st n ds ps → ds.mapM (pd st n) = some ps
  | _, _, .nil => rfl
  | _, _, .cons h t => by
    rw [List.mapM_cons, h, t.mapM]; rfl
theorem Pds.length {st : Store} {n : Nat} : ∀ {ds : List D} {ps : List PyData}, Pds st n ds ps → ds.length = ps.length
  | _, _, .nil => rfl
  | _, _, .cons _ t => by rw [List.length_cons, List.length_cons, t.length]
theorem Pds.get {st : Store} {n : Nat} : ∀ {ds : List D} {ps : List PyData} {i : Nat} {p : PyData}, Pds st n ds ps → ps[i]? = some p → ∃ d, ds[i]? = some d ∧ pd st n d = some p
  | _, _, 0, _, .cons h _, e => by simp at e; subst e; exact ⟨_, rfl, h⟩
  | _, _, i + 1, _, .cons _ t, e => by
    obtain ⟨d, h1, h2⟩ := t.get (i := i) (by simpa using e)
    exact ⟨d, by simpa using h1, h2⟩
  | _, _, _, _, .nil, e => by simp at e
theorem Pds.mem {st : Store} {n : Nat} : ∀ {ds : List D} {ps : List PyData}, Pds st n ds ps → ∀ d ∈ ds, ∃ p ∈ ps, pd st n d = some p
  | _, _, .nil, d, h => by cases h
  | _, _, .cons (p := p) h t, d, hm => by
    rcases List.mem_cons.mp hm with e | e
    · subst e; exact ⟨p, List.mem_cons_self, h⟩
    · obtain ⟨q, h1, h2⟩ := t.mem d e
      exact ⟨q, List.mem_cons_of_mem _ h1, h2⟩
@[simp] theorem pd_tup (st : Store) (n : Nat) (ds : List D) : pd st (n + 1) (.tup ds) = (ds.mapM (pd st n)).map .tuple := rfl
theorem pd_ref (st : Store) (n m : Nat) : pd st (n + 1) (.ref m) = match st[m]? with
    | some (.lst xs) => (xs.mapM (pd st n)).map .list
    | some (.dK []) => some (.dict [])
    | _ => none := rfl
/-- what a datum's value is -/
inductive PdC (st : Store) (n : Nat) : D → PyData → Prop where
  | non : PdC st n .non .none
  | bl (b : Bool) : PdC st n (.bl b) (.bool b)
  | int (i : Int) : PdC st n (.int i) (.int i)
  | str (s : Str) : PdC st n (.str s) (.str s)
  | tup {ds : List D} {ps : List PyData} : Pds st n ds ps → PdC st n (.tup ds) (.tuple ps)
  | lst {m : Nat} {ds : List D} {ps : List PyData} : st[m]? = some (.lst ds) → Pds st n ds ps → PdC st n (.ref m) (.list ps)
  | dct {m : Nat} : st[m]? = some (.dK []) → PdC st n (.ref m) (.dict [])
theorem pdC {st : Store} {n : Nat} {d : D} {p : PyData} (h : pd st (n + 1) d = some p) : PdC st n d p := by
  cases d with
  | non => cases h; exact .non
  | bl b => cases h; exact .bl b
  | int b => cases h; exact .int b
  | str b => cases h; exact .str b
  | tup ds =>
    obtain ⟨ps, e, rfl⟩ := Option.map_eq_some_iff.mp (show (ds.mapM (pd st n)).map PyData.tuple = some p from h)
    exact .tup (pds_of e)
  | ref m =>
    rw [pd_ref] at h
    split at h
    · rename_i xs e
      obtain ⟨ps, e2, rfl⟩ := Option.map_eq_some_iff.mp h
      exact .lst e (pds_of e2)
    · rename_i e; cases h; exact .dct e
    · cases h
theorem PdC.pd {st : Store} {n : Nat} {d : D} {p : PyData} (h : PdC st n d p) : pd st (n + 1) d = some p := by
  cases h with
  | tup h => rw [pd_tup, h.mapM]; rfl
  | lst e h => rw [pd_ref, e]; simp only []; rw [h.mapM]; rfl
  | dct e => rw [pd_ref, e]
  | _ => rfl
/-- of what kind -/
def isK (k : Kind) : PyData → Bool
  | .none => false
  | .bool _ => k == .int || k == .bool
  | .int _ => k == .int
  | .str _ => k == .str
  | .list _ => k == .list || k == .tupLst
  | .tuple _ => k == .tuple || k == .tupLst
  | .dict _ => false
theorem isi_pd {st : Store} {n : Nat} {d : D} {p : PyData} (h : pd st (n + 1) d = some p) (k : Kind) : isiD st k d = some (isK k p) := by
  cases pdC h with
  | lst e _ => simp only [isiD, e, isK]
  | dct e => simp only [isiD, e, isK]
  | _ => rfl
theorem pd_app {st : Store} {more : Store} : ∀ {n : Nat} {d : D} {p : PyData}, pd st n d = some p → pd (st ++ more) n d = some p
  | 0, _, _, h => by cases h
  | n + 1, d, p, h => by
    have all : ∀ {ds : List D} {ps : List PyData}, Pds st n ds ps → Pds (st ++ more) n ds ps := by
      intro ds ps q
      induction q with
      | nil => exact .nil
      | cons h _ ih => exact .cons (pd_app h) ih
    have at_ : ∀ {m : Nat} {o : O}, st[m]? = some o → (st ++ more)[m]? = some o := fun e => by
      rw [List.getElem?_append_left (List.getElem?_eq_some_iff.mp e).1]; exact e
    cases pdC h with
    | tup q => exact PdC.pd (.tup (all q))
    | lst e q => exact PdC.pd (.lst (at_ e) (all q))
    | dct e => exact PdC.pd (.dct (at_ e))
    | _ => rfl
/-! ### fractions as values -/
def fr (q : Rat) : D := .tup [.int q.num, .int q.den]
theorem ixN_nat {len n : Nat} (h : n < len) : ixN len (n : Int) = some n := by
  unfold ixN
  rw [if_pos (by omega)]
  simp [h]
theorem ix_tup {st : Store} {xs : List D} {n : Nat} {x : D} (h : xs[n]? = some x) : ixD st (.tup xs) (.int (n : Int)) = some x := by
  show atI xs (n : Int) = some x
  unfold atI
  rw [ixN_nat (List.getElem?_eq_some_iff.mp h).1]
  exact h
@[simp] theorem ix_tup0 (st : Store) (x : D) (xs : List D) : ixD st (.tup (x :: xs)) (.int 0) = some x := ix_tup (n := 0) rfl
@[simp] theorem ix_tup1 (st : Store) (x y : D) (xs : List D) : ixD st (.tup (x :: y :: xs)) (.int 1) = some y := ix_tup (n := 1) rfl
@[simp] theorem ix_tup2 (st : Store) (x y z : D) (xs : List D) : ixD st (.tup (x :: y :: z :: xs)) (.int 2) = some z := ix_tup (n := 2) rfl
theorem ix_lst {st : Store} {m : Nat} {xs : List D} {n : Nat} {x : D} (hm : lstAt st m = some xs) (h : xs[n]? = some x) : ixD st (.ref m) (.int (n : Int)) = some x := by
  show (match lstAt st m with
    | some xs => atI xs (n : Int)
    | none => none) = some x
  rw [hm]
  show atI xs (n : Int) = some x
  unfold atI
  rw [ixN_nat (List.getElem?_eq_some_iff.mp h).1]
  exact h
/-! ### the ints of a datum lie below -/
mutual
def small (B : Nat) : PyData → Bool
  | .int i => decide (i.natAbs < B)
  | .str s => decide (s.length ≤ 1000) && PyData.strOk s
  | .list xs => smalls B xs
  | .tuple xs => smalls B xs
  | .dict kvs => kvs.isEmpty
  | _ => true
def smalls (B : Nat) : List PyData → Bool
  | [] => true
  | x :: xs => small B x && smalls B xs
end
def isWholeP : PyData → Bool
  | .int _ => true
  | _ => false
theorem whole_pd (p : PyData) : (isK .int p && !isK .bool p) = isWholeP p := by cases p <;> rfl
def isFracP : PyData → Bool
  | .tuple [.int n, .int d] => decide (1 ≤ d) && decide (Int.gcd n d = 1)
  | _ => false
theorem whole_inv {p : PyData} (h : isWholeP p = true) : ∃ i, p = .int i := by cases p <;> first | exact ⟨_, rfl⟩ | cases h
theorem frac_no {p1 p2 : PyData} (h : isWholeP p1 = false ∨ isWholeP p2 = false) : isFracP (.tuple [p1, p2]) = false := by
  cases p1 <;> cases p2 <;> first | rfl | (simp [isWholeP] at h)
/-! ### the store's end -/
@[simp] theorem st_at (st more : Store) (i : Nat) : (st ++ more)[st.length + i]? = more[i]? := by
  rw [List.getElem?_append_right (by omega)]
  congr 1
  omega
@[simp] theorem st_at0 (st more : Store) : (st ++ more)[st.length]? = more[0]? := st_at st more 0
theorem compL_mapL {α : Type} {g : Guard} {f : D → Store → R (Option D)} {st : Store} (hg : gOk g st = true) (v : α → D) (h : α → D) : ∀ {xs : List α}, (∀ x ∈ xs, f (v x) st = .ok (some (h x)) st) → compL g f (xs.map v) st = .ok (xs.map h) st
  | [], _ => by simp [compL, hg]
  | x :: xs, H => by
    rw [List.map_cons, compL, if_pos hg, H x List.mem_cons_self, R.bind_ok, compL_mapL hg v h fun y hy => H y (List.mem_cons_of_mem _ hy)]
    rfl
theorem compL_filterL {α : Type} {g : Guard} {f : D → Store → R (Option D)} {st : Store} (hg : gOk g st = true) (v : α → D) (h : α → Option D) : ∀ {xs : List α}, (∀ x ∈ xs, f (v x) st = .ok (h x) st) → compL g f (xs.map v) st = .ok (xs.filterMap h) st
  | [], _ => by simp [compL, hg]
  | x :: xs, H => by
    rw [List.map_cons, compL, if_pos hg, H x List.mem_cons_self, R.bind_ok, compL_filterL hg v h fun y hy => H y (List.mem_cons_of_mem _ hy), List.filterMap_cons]
    cases h x <;> rfl
/-- over items with their data -/
theorem compL_pds {g : Guard} {f : D → Store → R (Option D)} {st : Store} {n : Nat} (hg : gOk g st = true) (h : PyData → D) : ∀ {ds : List D} {ps : List PyData}, Pds st n ds ps → (∀ d p, p ∈ ps → pd st n d = some p → f d st = .ok (some (h p)) st) → compL g f ds st = .ok (ps.map h) st
  | _, _, .nil, _ => by simp [compL, hg]
  | _, _, .cons (d := d) (p := p) q t, H => by
    rw [compL, if_pos hg, H d p List.mem_cons_self q, R.bind_ok, compL_pds hg h t fun x y hy => H x y (List.mem_cons_of_mem _ hy)]
    rfl
theorem boolsD_map {α : Type} (f : α → Bool) : ∀ xs : List α, boolsD (xs.map fun x => D.bl (f x)) = some (xs.map f)
  | [] => rfl
  | x :: xs => by
    rw [List.map_cons, boolsD, boolsD_map f xs]; rfl
theorem intsD_map {α : Type} (f : α → Int) : ∀ xs : List α, intsD (xs.map fun x => D.int (f x)) = some (xs.map f)
  | [] => rfl
  | x :: xs => by
    rw [List.map_cons, intsD, intsD_map f xs]; rfl
theorem strsD_map {α : Type} (f : α → Str) : ∀ xs : List α, strsD (xs.map fun x => D.str (f x)) = some (xs.map f)
  | [] => rfl
  | x :: xs => by
    rw [List.map_cons, strsD, strsD_map f xs]; rfl
theorem lstAt_of {st : Store} {n : Nat} {xs : List D} (h : st[n]? = some (.lst xs)) : lstAt st n = some xs := by
  unfold lstAt; rw [h]
theorem bc_all {α : Type} {st : Store} {n : Nat} {f : α → Bool} {xs : List α} (h : st[n]? = some (.lst (xs.map fun x => D.bl (f x)))) : bcD st .all [.ref n] = .ok (.bl (xs.all f)) st := by
  show (R.of ((lstAt st n).bind boolsD) st).bind (fun bs st => .ok (D.bl (bs.all id)) st) = _
  rw [lstAt_of h]
  simp [boolsD_map, List.all_map]
theorem bc_sum {α : Type} {st : Store} {n : Nat} {f : α → Int} {xs : List α} (h : st[n]? = some (.lst (xs.map fun x => D.int (f x)))) : bcD st .sum [.ref n] = .ok (.int (xs.map f).sum) st := by
  show (R.of ((lstAt st n).bind intsD) st).bind (fun bs st => .ok (D.int bs.sum) st) = _
  rw [lstAt_of h]
  simp [intsD_map]
theorem Pds.bools {α : Type} {st : Store} {n : Nat} (f : α → Bool) : ∀ xs : List α, Pds st (n + 1) (xs.map fun x => D.bl (f x)) (xs.map fun x => PyData.bool (f x))
  | [] => .nil
  | x :: xs => .cons rfl (Pds.bools f xs)
theorem Pds.strs {α : Type} {st : Store} {n : Nat} (f : α → Str) : ∀ xs : List α, Pds st (n + 1) (xs.map fun x => D.str (f x)) (xs.map fun x => PyData.str (f x))
  | [] => .nil
  | x :: xs => .cons rfl (Pds.strs f xs)
theorem flat_shaped {ps : List PyData} (h1 : ∀ p ∈ ps, p.canLay0 = true) (h2 : ∀ p ∈ ps, p.depth = 0) : PyData.canLayAll0 ps = true ∧ PyData.depthAll ps = 0 := by
  induction ps with
  | nil => exact ⟨rfl, rfl⟩
  | cons p ps ih =>
    obtain ⟨a, b⟩ := ih (fun q hq => h1 q (List.mem_cons_of_mem _ hq)) (fun q hq => h2 q (List.mem_cons_of_mem _ hq))
    refine ⟨?_, ?_⟩
    · show (p.canLay0 && PyData.canLayAll0 ps) = true
      rw [h1 p List.mem_cons_self, a]; rfl
    · show max p.depth (PyData.depthAll ps) = 0
      rw [h2 p List.mem_cons_self, b]; rfl
theorem shaped_list {ps : List PyData} (h1 : ∀ p ∈ ps, p.canLay0 = true) (h2 : ∀ p ∈ ps, p.depth = 0) : SeqAt.shaped (.list ps) = true ∧ SeqAt.shaped (.tuple ps) = true := by
  obtain ⟨a, b⟩ := flat_shaped h1 h2
  refine ⟨?_, ?_⟩ <;>
  · show (PyData.canLayAll0 ps && decide (PyData.depthAll ps + 1 ≤ 64)) = true
    rw [a, b]; rfl
/-- False in a list of bools -/
theorem in_bools {α : Type} {st : Store} {n : Nat} {f : α → Bool} {xs : List α} (h : st[n]? = some (.lst (xs.map fun x => D.bl (f x)))) : inD st (.bl false) (.ref n) = some (!xs.all f) := by
  have e : pd st 60 (.ref n) = some (.list (xs.map fun x => PyData.bool (f x))) := PdC.pd (.lst h (Pds.bools f xs))
  have s1 : SeqAt.shaped (.list (xs.map fun x => PyData.bool (f x))) = true := (shaped_list (fun p hp => by obtain ⟨x, _, rfl⟩ := List.mem_map.mp hp; rfl) (fun p hp => by obtain ⟨x, _, rfl⟩ := List.mem_map.mp hp; rfl)).1
  have s2 : SeqAt.shaped (.bool false) = true := rfl
  have e2 : pd st 60 (.bl false) = some (.bool false) := rfl
  show ((pd st 60 (.bl false)).bind fun p => (pd st 60 (.ref n)).bind fun q => inSeq p q) = _
  rw [e, e2]
  show inSeq (.bool false) (.list (xs.map fun x => PyData.bool (f x))) = _
  unfold inSeq
  simp only [s1, s2, Bool.and_self, if_true]
  congr 1
  induction xs with
  | nil => rfl
  | cons x xs ih =>
    have ih' : ∀ ys : List α, (List.map (fun x => PyData.bool (f x)) ys).any (fun z => PyData.eqv z (.bool false)) = !ys.all f := by
      intro ys
      induction ys with
      | nil => rfl
      | cons y ys ih =>
        rw [List.map_cons, List.any_cons, ih, List.all_cons]
        show (f y == false || _) = _
        cases f y <;> rfl
    exact ih' _
theorem in_strs {st : Store} {s : Str} {ts : List Str} (hs : PyData.strOk s = true) (ht : ∀ t ∈ ts, PyData.strOk t = true) : inD st (.str s) (.tup (ts.map D.str)) = some (decide (s ∈ ts)) := by
  have e : pd st 60 (.tup (ts.map D.str)) = some (.tuple (ts.map PyData.str)) := PdC.pd (.tup (Pds.strs id ts))
  have s1 : SeqAt.shaped (.tuple (ts.map PyData.str)) = true := (shaped_list (fun p hp => by obtain ⟨x, hx, rfl⟩ := List.mem_map.mp hp; exact ht x hx) (fun p hp => by obtain ⟨x, _, rfl⟩ := List.mem_map.mp hp; rfl)).2
  have s2 : SeqAt.shaped (.str s) = true := by
    show (PyData.strOk s && decide (0 ≤ 64)) = true
    rw [hs]; rfl
  show ((pd st 60 (.str s)).bind fun p => (pd st 60 (.tup (ts.map D.str))).bind fun q => inSeq p q) = _
  rw [e]
  show inSeq (.str s) (.tuple (ts.map PyData.str)) = _
  unfold inSeq
  simp only [s1, s2, Bool.and_self, if_true]
  congr 1
  clear e s1 ht
  induction ts with
  | nil => rfl
  | cons t ts ih =>
    rw [List.map_cons, List.any_cons, ih]
    show (t == s || decide (s ∈ ts)) = _
    by_cases c : s = t
    · subst c; simp
    · have : (t == s) = false := beq_eq_false_iff_ne.mpr fun q => c q.symm
      simp [this, c]
@[simp] theorem in_sign (st : Store) (c : Nat) (z : Str) : inD st (.str ⟨#[c]⟩) (.str z) = some (decide (c ∈ z.cps.toList)) := rfl
@[simp] theorem bc_tuple (st : Store) (d : D) : bcD st .tuple [d] = (R.of (itemsD st d) st).bind fun xs st => .ok (.tup xs) st := by cases d <;> rfl
@[simp] theorem bc_list (st : Store) (d : D) : bcD st .list [d] = (R.of (itemsD st d) st).bind fun xs st => .ok (.ref st.length) (st ++ [.lst xs]) := by cases d <;> rfl
@[simp] theorem bc_setlen (st : Store) (d : D) : bcD st .setlen [d] = (R.of ((itemsD st d).bind strsD) st).bind fun zs st => if zs.length < 64 then .ok (.int (ddup zs).length) st else .bad := by cases d <;> rfl
@[simp] theorem bc_repr (st : Store) (d : D) : bcD st .repr [d] = (R.of (showD st d) st).bind fun z st => .ok (.str z) st := by cases d <;> rfl
theorem len_str {st : Store} {s : Str} (h : s.length ≤ 1000) : lenD st (.str s) = some s.length := by
  show (if s.length ≤ sizeLine then _ else _) = _
  rw [if_pos (Nat.le_trans h (by decide))]
theorem eqD_strs_nil {st : Store} {m n : Nat} {ts : List Str} (hm : st[m]? = some (.lst (ts.map D.str))) (hn : st[n]? = some (.lst [])) (ht : ∀ t ∈ ts, PyData.strOk t = true) : eqD st (.ref m) (.ref n) = some ts.isEmpty := by
  have e1 : pd st 60 (.ref m) = some (.list (ts.map PyData.str)) := PdC.pd (.lst hm (Pds.strs id ts))
  have e2 : pd st 60 (.ref n) = some (.list []) := PdC.pd (.lst hn .nil)
  have s1 : SeqAt.shaped (.list (ts.map PyData.str)) = true := (shaped_list (fun p hp => by obtain ⟨x, hx, rfl⟩ := List.mem_map.mp hp; exact ht x hx) (fun p hp => by obtain ⟨x, _, rfl⟩ := List.mem_map.mp hp; rfl)).1
  have s2 : SeqAt.shaped (.list []) = true := rfl
  show ((pd st 60 (.ref m)).bind fun x => (pd st 60 (.ref n)).bind fun y => if SeqAt.shaped x && SeqAt.shaped y then some (PyData.eqv x y) else none) = _
  rw [e1, e2]
  show (if SeqAt.shaped (.list (ts.map PyData.str)) && SeqAt.shaped (.list []) then some (PyData.eqv (.list (ts.map PyData.str)) (.list [])) else none) = _
  rw [s1, s2]
  cases ts <;> rfl
theorem Pds.app {st more : Store} {n : Nat} : ∀ {ds : List D} {ps : List PyData}, Pds st n ds ps → Pds (st ++ more) n ds ps
  | _, _, .nil => .nil
  | _, _, .cons h t => .cons (pd_app h) t.app
/-- over items with their data, to items with theirs -/
theorem compL_pdsX {g : Guard} {f : D → Store → R (Option D)} {st : Store} {n m : Nat} (hg : gOk g st = true) (h : PyData → PyData) : ∀ {ds : List D} {ps : List PyData}, Pds st n ds ps → (∀ d p, p ∈ ps → pd st n d = some p → ∃ d', f d st = .ok (some d') st ∧ pd st m d' = some (h p)) →
    ∃ ds', compL g f ds st = .ok ds' st ∧ Pds st m ds' (ps.map h)
  | _, _, .nil, _ => ⟨[], by simp [compL, hg], .nil⟩
  | _, _, .cons (d := d) (p := p) q t, H => by
    obtain ⟨d', h1, h2⟩ := H d p List.mem_cons_self q
    obtain ⟨ds', h3, h4⟩ := compL_pdsX hg h t fun x y hy => H x y (List.mem_cons_of_mem _ hy)
    exact ⟨d' :: ds', by rw [compL, if_pos hg, h1, R.bind_ok, h3]; rfl, .cons h2 h4⟩
/-! ### lists that change -/
theorem atI_nat {xs : List D} {n : Nat} {x : D} (h : xs[n]? = some x) : atI xs (n : Int) = some x := by
  unfold atI
  rw [ixN_nat (List.getElem?_eq_some_iff.mp h).1]
  exact h
@[simp] theorem at0 (a : D) (r : List D) : atI (a :: r) 0 = some a := atI_nat (n := 0) rfl
@[simp] theorem at1 (a b : D) (r : List D) : atI (a :: b :: r) 1 = some b := atI_nat (n := 1) rfl
@[simp] theorem at2 (a b c : D) (r : List D) : atI (a :: b :: c :: r) 2 = some c := atI_nat (n := 2) rfl
@[simp] theorem at3 (a b c d : D) (r : List D) : atI (a :: b :: c :: d :: r) 3 = some d := atI_nat (n := 3) rfl
theorem ix_ref {st : Store} {m : Nat} {xs : List D} (h : lstAt st m = some xs) (j : Int) : ixD st (.ref m) (.int j) = atI xs j := by
  show (match lstAt st m with
    | some xs => atI xs j
    | none => none) = _
  rw [h]
theorem lstAt_set {st : Store} {m : Nat} (h : m < st.length) (xs : List D) : lstAt (st.set m (.lst xs)) m = some xs := by
  unfold lstAt
  rw [List.getElem?_set_self h]
theorem lstAt_ne {st : Store} {m n : Nat} (h : m ≠ n) (o : O) : lstAt (st.set m o) n = lstAt st n := by
  unfold lstAt
  rw [List.getElem?_set_ne h]
theorem put_lst {st : Store} {n : Nat} {xs : List D} {k : Nat} (h : st[n]? = some (.lst xs)) (hk : k < xs.length) (env : Sl) (d : D) : putD env st (.ref n) (.int (k : Int)) d = .ok (.nx env) (st.set n (.lst (xs.set k d))) := by
  unfold putD
  simp only [h, ixN_nat hk]
theorem pow_int {i j : Int} (h : powOk i j = true) (st : Store) : powD st (.int i) (.int j) = .ok (.int (i ^ j.toNat)) st := by
  show (if powOk i j = true then _ else _) = _
  rw [if_pos h]
theorem len_ref {st : Store} {n : Nat} {xs : List D} (h : lstAt st n = some xs) : lenD st (.ref n) = some xs.length := by
  show (lstAt st n).map (·.length) = _
  rw [h]; rfl
theorem leave_new {st st' : Store} {d : D} (h : D.lo st.length d = false) : leave st d st' = .ok d st' := by
  unfold leave
  rw [h, Bool.and_false, Bool.and_false]
  rfl
/-- a datum stays where lists and dicts stay -/
theorem pd_mono {st st' : Store} (h1 : ∀ (i : Nat) (xs : List D), st[i]? = some (O.lst xs) → st'[i]? = some (O.lst xs)) (h2 : ∀ i : Nat, st[i]? = some (O.dK []) → st'[i]? = some (O.dK [])) : ∀ {n : Nat} {d : D} {p : PyData}, pd st n d = some p → pd st' n d = some p
  | 0, _, _, h => by cases h
  | n + 1, d, p, h => by
    have all : ∀ {ds : List D} {ps : List PyData}, Pds st n ds ps → Pds st' n ds ps := by
      intro ds ps q
      induction q with
      | nil => exact .nil
      | cons h _ ih => exact .cons (pd_mono h1 h2 h) ih
    cases pdC h with
    | tup q => exact PdC.pd (.tup (all q))
    | lst e q => exact PdC.pd (.lst (h1 _ _ e) (all q))
    | dct e => exact PdC.pd (.dct (h2 _ e))
    | _ => rfl
theorem leave_len {st st' : Store} (h : st'.length = st.length) (d : D) : leave st d st' = .ok d st' := by
  have e : st'.take st.length = st' := by rw [← h]; exact List.take_length
  unfold leave
  rw [e]
  split
  · rename_i c
    rw [Bool.and_eq_true] at c
    rw [of_decide_eq_true c.1]
  · split <;> rfl
/-- what is below looks at nothing above -/
theorem pd_low {st more : Store} (hs : ∀ o ∈ st, O.lo st.length o = true) : ∀ {n : Nat} {d : D} {p : PyData}, D.lo st.length d = true → pd (st ++ more) n d = some p → pd st n d = some p
  | 0, _, _, _, h => by cases h
  | n + 1, d, p, hd, h => by
    have all : ∀ {ds : List D} {ps : List PyData}, D.los st.length ds = true → Pds (st ++ more) n ds ps → Pds st n ds ps := by
      intro ds ps hl q
      induction q with
      | nil => exact .nil
      | cons h _ ih =>
        rw [D.los, Bool.and_eq_true] at hl
        exact .cons (pd_low hs hl.1 h) (ih hl.2)
    cases pdC h with
    | tup q => exact PdC.pd (.tup (all (by simpa [D.lo] using hd) q))
    | @lst m ds _ e q =>
      have hm : m < st.length := of_decide_eq_true (show decide (m < st.length) = true from hd)
      rw [List.getElem?_append_left hm] at e
      have ho := hs _ (List.mem_of_getElem? e)
      exact PdC.pd (.lst e (all (by simpa [O.lo] using ho) q))
    | @dct m e =>
      have hm : m < st.length := of_decide_eq_true (show decide (m < st.length) = true from hd)
      rw [List.getElem?_append_left hm] at e
      exact PdC.pd (.dct e)
    | _ => rfl
/-- what a call leaves, of any kind -/
theorem leave_any (st st' : Store) (d : D) (hl : st.length ≤ st'.length) : ∃ st'' more, leave st d st' = .ok d st'' ∧ st' = st'' ++ more ∧ (more = [] ∨ (st''.length = st.length ∧ (∀ o ∈ st'', O.lo st.length o = true) ∧ D.lo st.length d = true)) ∨ (leave st d st' = .ok d st ∧ st'.take st.length = st ∧ D.lo st.length d = true) := by
  unfold leave
  split
  · rename_i c
    rw [Bool.and_eq_true] at c
    exact ⟨st, [], .inr ⟨rfl, of_decide_eq_true c.1, c.2⟩⟩
  · split
    · rename_i c
      rw [Bool.and_eq_true] at c
      refine ⟨st'.take st.length, st'.drop st.length, .inl ⟨rfl, (List.take_append_drop _ _).symm, .inr ⟨by rw [List.length_take]; omega, fun o ho => List.all_eq_true.mp c.1 o ho, c.2⟩⟩⟩
    · exact ⟨st', [], .inl ⟨rfl, by simp, .inl rfl⟩⟩
@[simp] theorem set_at (st more : Store) (i : Nat) (o : O) : (st ++ more).set (st.length + i) o = st ++ more.set i o := by
  rw [List.set_append_right _ _ (by omega)]
  congr 2
  omega
@[simp] theorem set_at0 (st more : Store) (o : O) : (st ++ more).set st.length o = st ++ more.set 0 o := set_at st more 0 o
theorem bm_append {st : Store} {n : Nat} {xs : List D} (h : st[n]? = some (.lst xs)) (hl : xs.length < sizeLine) (d : D) : bmD st .append (.ref n) [d] = .ok .non (st.set n (.lst (xs ++ [d]))) := by
  show (match st[n]? with
    | some (.lst xs) => if xs.length < sizeLine then R.ok D.non (st.set n (O.lst (xs ++ [d]))) else .bad
    | _ => .bad) = _
  rw [h]
  exact if_pos hl
theorem isLst_of {st : Store} {n : Nat} {xs : List D} (h : st[n]? = some (.lst xs)) : isLst st (.ref n) = true := by
  unfold isLst
  simp only [h]
theorem add_lst {st : Store} {m n : Nat} {xs ys : List D} (h1 : st[m]? = some (.lst xs)) (h2 : st[n]? = some (.lst ys)) (hl : xs.length + ys.length ≤ sizeLine) : addD st (.ref m) (.ref n) = .ok (.ref st.length) (st ++ [.lst (xs ++ ys)]) := by
  show (match st[m]?, st[n]? with
    | some (.lst a), some (.lst b) => if a.length + b.length ≤ sizeLine then R.ok (D.ref st.length) (st ++ [O.lst (a ++ b)]) else .bad
    | _, _ => .bad) = _
  rw [h1, h2]
  exact if_pos hl
/-- an item at an index in range -/
theorem atI_in {xs : List D} {r : Int} (h0 : 0 ≤ r) (h1 : r < xs.length) : ∃ x, x ∈ xs ∧ atI xs r = some x := by
  obtain ⟨j, rfl⟩ : ∃ j : Nat, r = j := ⟨r.toNat, by omega⟩
  have hj : j < xs.length := by omega
  exact ⟨xs[j], List.getElem_mem hj, atI_nat (List.getElem?_eq_getElem hj)⟩
/-! ### by looking -/
theorem add_ref_def (st : Store) (m n : Nat) : addD st (.ref m) (.ref n) = match st[m]?, st[n]? with
    | some (.lst a), some (.lst b) => if a.length + b.length ≤ sizeLine then R.ok (D.ref st.length) (st ++ [O.lst (a ++ b)]) else .bad
    | _, _ => .bad := rfl
theorem append_def (st : Store) (n : Nat) (d : D) : bmD st .append (.ref n) [d] = match st[n]? with
    | some (.lst xs) => if xs.length < sizeLine then R.ok D.non (st.set n (O.lst (xs ++ [d]))) else .bad
    | _ => .bad := rfl
theorem isLst_def (st : Store) (n : Nat) : isLst st (.ref n) = match st[n]? with
    | some (.lst _) => true
    | _ => false := rfl
theorem lstAt_def (st : Store) (n : Nat) : lstAt st n = match st[n]? with
    | some (.lst xs) => some xs
    | some (.lk (.lst xs)) => some xs
    | _ => none := rfl
theorem ix_ref_def (st : Store) (n : Nat) (i : Int) : ixD st (.ref n) (.int i) = match lstAt st n with
    | some xs => atI xs i
    | none => none := rfl
theorem insert_def (st : Store) (n : Nat) (i : Int) (d : D) : bmD st .insert (.ref n) [.int i, d] = match st[n]? with
    | some (.lst xs) => if 0 ≤ i ∧ i ≤ xs.length ∧ xs.length < sizeLine then R.ok D.non (st.set n (O.lst (insAt xs i.toNat d))) else .bad
    | _ => .bad := rfl
theorem put_def (env : Sl) (st : Store) (n : Nat) (j : Int) (d : D) : putD env st (.ref n) (.int j) d = match st[n]? with
    | some (.lst xs) => match ixN xs.length j with
      | some k => R.ok (Fl.nx env) (st.set n (O.lst (xs.set k d)))
      | none => .bad
    | _ => .bad := rfl
theorem sl_ref_def (st : Store) (lo hi : Option Int) (n : Nat) : slD st lo hi (.ref n) = match lstAt st n with
    | some xs => R.ok (D.ref st.length) (st ++ [O.lst (cutD xs lo hi)])
    | none => .bad := rfl
theorem len_ref_def (st : Store) (n : Nat) : lenD st (.ref n) = (lstAt st n).map (·.length) := rfl
@[simp] theorem part_int (i : Int) : part (.int i) = some (some i) := rfl
/-! ### weights -/
theorem wAll_append : ∀ a b : List PyData, PyData.weightAll (a ++ b) = PyData.weightAll a + PyData.weightAll b
  | [], b => by simp [PyData.weightAll]
  | x :: a, b => by
    show x.weight + 1 + PyData.weightAll (a ++ b) = x.weight + 1 + PyData.weightAll a + PyData.weightAll b
    rw [wAll_append a b]; omega
theorem wAll_split (ps : List PyData) (i : Nat) : PyData.weightAll ps = PyData.weightAll (ps.take i) + PyData.weightAll (ps.drop i) := by
  rw [← wAll_append, List.take_append_drop]
theorem wAll_get {ps : List PyData} {i : Nat} {p : PyData} (h : ps[i]? = some p) : PyData.weightAll ps = PyData.weightAll (ps.take i) + (p.weight + 1) + PyData.weightAll (ps.drop (i + 1)) := by
  have hl := (List.getElem?_eq_some_iff.mp h)
  obtain ⟨hi, he⟩ := hl
  rw [wAll_split ps i, List.drop_eq_getElem_cons hi, he]
  show _ + (p.weight + 1 + _) = _
  omega
theorem len_wAll : ∀ ps : List PyData, ps.length ≤ PyData.weightAll ps
  | [] => Nat.le_refl _
  | p :: ps => by
    have := len_wAll ps
    show ps.length + 1 ≤ p.weight + 1 + PyData.weightAll ps
    omega
theorem smalls_iff {B : Nat} : ∀ {ps : List PyData}, smalls B ps = true ↔ ∀ p ∈ ps, small B p = true
  | [] => ⟨fun _ _ h => (nomatch h), fun _ => rfl⟩
  | p :: ps => by
    show (small B p && smalls B ps) = true ↔ _
    rw [Bool.and_eq_true, smalls_iff]
    constructor
    · intro h q hq
      rcases List.mem_cons.mp hq with e | e
      · subst e; exact h.1
      · exact h.2 q e
    · intro h
      exact ⟨h p List.mem_cons_self, fun q hq => h q (List.mem_cons_of_mem _ hq)⟩
theorem Pds.append {st : Store} {n : Nat} : ∀ {ds es : List D} {ps qs : List PyData}, Pds st n ds ps → Pds st n es qs → Pds st n (ds ++ es) (ps ++ qs)
  | _, _, _, _, .nil, h => h
  | _, _, _, _, .cons a t, h => .cons a (t.append h)
theorem Pds.take {st : Store} {n : Nat} : ∀ {ds : List D} {ps : List PyData} (i : Nat), Pds st n ds ps → Pds st n (ds.take i) (ps.take i)
  | _, _, 0, _ => .nil
  | _, _, _ + 1, .nil => .nil
  | _, _, i + 1, .cons a t => .cons a (t.take i)
theorem Pds.drop {st : Store} {n : Nat} : ∀ {ds : List D} {ps : List PyData} (i : Nat), Pds st n ds ps → Pds st n (ds.drop i) (ps.drop i)
  | _, _, 0, h => h
  | _, _, _ + 1, .nil => .nil
  | _, _, i + 1, .cons _ t => t.drop i
theorem Pds.set {st : Store} {n : Nat} {d : D} {p : PyData} : ∀ {ds : List D} {ps : List PyData} (i : Nat), Pds st n ds ps → pd st n d = some p → Pds st n (ds.set i d) (ps.set i p)
  | _, _, _, .nil, _ => .nil
  | _, _, 0, .cons _ t, h => .cons h t
  | _, _, i + 1, .cons a t, h => .cons a (t.set i h)
theorem Pds.at {st : Store} {n : Nat} : ∀ {ds : List D} {ps : List PyData} {i : Nat} {d : D}, Pds st n ds ps → ds[i]? = some d → ∃ p, ps[i]? = some p ∧ pd st n d = some p
  | _, _, 0, _, .cons h _, e => by simp at e; subst e; exact ⟨_, rfl, h⟩
  | _, _, i + 1, _, .cons _ t, e => by
    obtain ⟨p, h1, h2⟩ := t.at (i := i) (by simpa using e)
    exact ⟨p, by simpa using h1, h2⟩
  | _, _, _, _, .nil, e => by simp at e
theorem cut_hi (xs : List D) (i : Nat) : cutD xs none (some (i : Int)) = xs.take i := by
  unfold cutD
  rw [HT.sIx_none, HT.sIx_nat, List.drop_zero, Nat.sub_zero]
  by_cases h : i ≤ xs.length
  · rw [Nat.min_eq_left h]
  · rw [Nat.min_eq_right (by omega), List.take_length, List.take_of_length_le (by omega)]
theorem cut_lo (xs : List D) (i : Nat) : cutD xs (some (i : Int)) none = xs.drop i := by
  unfold cutD
  rw [HT.sIx_none, HT.sIx_nat]
  by_cases h : i ≤ xs.length
  · rw [Nat.min_eq_left h, List.take_of_length_le (by simp)]
  · rw [Nat.min_eq_right (by omega), List.drop_length, List.take_nil, List.drop_of_length_le (by omega)]
/-- a comprehension whose turns change the store -/
theorem compL_ind {g : Guard} {f : D → Store → R (Option D)} (P : D → Prop) (J : Nat → Store → Prop) (hg : ∀ i st, J i st → gOk g st = true) : ∀ (ds : List D) (i : Nat) (st : Store), (∀ d ∈ ds, ∀ j st, j < i + ds.length → J j st → ∃ x st', f d st = .ok (some x) st' ∧ P x ∧ J (j + 1) st') → J i st →
    ∃ xs st', compL g f ds st = .ok xs st' ∧ xs.length = ds.length ∧ (∀ x ∈ xs, P x) ∧ J (i + ds.length) st'
  | [], i, st, _, h => ⟨[], st, by simp [compL, hg i st h], rfl, fun _ h => (nomatch h), h⟩
  | d :: ds, i, st, H, h => by
    obtain ⟨x, st1, e1, p1, j1⟩ := H d List.mem_cons_self i st (by simp) h
    obtain ⟨xs, st2, e2, l2, p2, j2⟩ := compL_ind P J hg ds (i + 1) st1 (fun y hy j st hj => H y (List.mem_cons_of_mem _ hy) j st (by rw [List.length_cons]; omega)) j1
    refine ⟨x :: xs, st2, ?_, by simp [l2], fun y hy => ?_, ?_⟩
    · rw [compL, if_pos (hg i st h), e1, R.bind_ok, e2]; rfl
    · rcases List.mem_cons.mp hy with e | e
      · subst e; exact p1
      · exact p2 y e
    · rw [List.length_cons, show i + (ds.length + 1) = i + 1 + ds.length by omega]; exact j2
/-- all are of one make -/
theorem map_of {α : Type} {v : α → D} {Q : α → Prop} : ∀ {xs : List D}, (∀ x ∈ xs, ∃ a, x = v a ∧ Q a) → ∃ as : List α, xs = as.map v ∧ ∀ a ∈ as, Q a
  | [], _ => ⟨[], rfl, fun _ h => nomatch h⟩
  | x :: xs, h => by
    obtain ⟨a, rfl, q⟩ := h x List.mem_cons_self
    obtain ⟨as, rfl, qs⟩ := map_of fun y hy => h y (List.mem_cons_of_mem _ hy)
    exact ⟨a :: as, rfl, fun b hb => by
      rcases List.mem_cons.mp hb with e | e
      · subst e; exact q
      · exact qs b e⟩
theorem rngOk_nat {n : Nat} (h : n < 1000000) : rngOk 0 (n : Int) = true := by
  unfold rngOk
  have h2 : n.log2 < 62 := by
    by_cases e : n = 0
    · subst e; decide
    · exact (Nat.log2_lt e).mpr (Nat.lt_of_lt_of_le h (by decide))
  have h3 : ((n : Int)).natAbs = n := Int.natAbs_natCast n
  rw [h3, decide_eq_true h2]
  rfl
theorem rng_zero (n : Nat) : rng 0 (n : Int) = (List.range n).map fun (k : Nat) => D.int k := by
  unfold rng
  rw [Int.sub_zero, Int.toNat_natCast]
  exact List.map_congr_left fun k _ => by rw [Int.zero_add]
theorem walk_range1 {st : Store} {n : Nat} (h : n < 1000000) : walkD st .range1 [.int n] = some ((List.range n).map fun (k : Nat) => D.int k, []) := by
  simp only [walkD, rngOk_nat h, if_true, rng_zero]
theorem walk_val (st : Store) (d : D) : walkD st .val [d] = src st d := rfl
theorem src_ref (st : Store) (n : Nat) : src st (.ref n) = (lstAt st n).map fun xs => (xs, [(n, xs)]) := rfl
theorem src_tup (st : Store) (xs : List D) : src st (.tup xs) = some (xs, []) := rfl
theorem items_ref (st : Store) (n : Nat) : itemsD st (.ref n) = lstAt st n := rfl
/-- a comprehension over known things whose turns change the store -/
theorem compL_rel {α β : Type} {g : Guard} {f : D → Store → R (Option D)} (v : α → D) (u : α → β → D) (P : α → β → Prop) (J : Nat → Store → Prop) (hg : ∀ i st, J i st → gOk g st = true) : ∀ (as : List α) (i : Nat) (st : Store), (∀ a ∈ as, ∀ j st, j < i + as.length → J j st → ∃ b st', f (v a) st = .ok (some (u a b)) st' ∧ P a b ∧ J (j + 1) st') → J i st →
    ∃ (ps : List (α × β)) (st' : Store), compL g f (as.map v) st = .ok (ps.map fun x => u x.1 x.2) st' ∧ ps.map (·.1) = as ∧ (∀ x ∈ ps, P x.1 x.2) ∧ J (i + as.length) st'
  | [], i, st, _, h => ⟨[], st, by simp [compL, hg i st h], rfl, fun _ h => (nomatch h), h⟩
  | a :: as, i, st, H, h => by
    obtain ⟨b, st1, e1, p1, j1⟩ := H a List.mem_cons_self i st (by simp) h
    obtain ⟨ps, st2, e2, l2, p2, j2⟩ := compL_rel v u P J hg as (i + 1) st1 (fun y hy j st hj => H y (List.mem_cons_of_mem _ hy) j st (by rw [List.length_cons]; omega)) j1
    refine ⟨(a, b) :: ps, st2, ?_, by rw [List.map_cons, l2], fun y hy => ?_, ?_⟩
    · rw [List.map_cons, compL, if_pos (hg i st h), e1, R.bind_ok, e2]; rfl
    · rcases List.mem_cons.mp hy with e | e
      · subst e; exact p1
      · exact p2 y e
    · rw [List.length_cons, show i + (as.length + 1) = i + 1 + as.length by omega]; exact j2
end Py
end

section
set_option Elab.async false
set_option linter.all false
set_option maxRecDepth 100000
namespace Py.L05
open PySem L2
/-! ### the greatest common divisor -/
theorem gcd_step (a b : Nat) : Nat.gcd b (a % b) = Nat.gcd a b := by
  rw [Nat.gcd_comm b, ← Nat.gcd_rec, Nat.gcd_comm]
theorem gcd_fuel {α : Type} (turn : Nat → Nat → Nat → α) (step : ∀ n a b, 0 < b → turn (n + 1) a b = turn n b (a % b)) : ∀ (m n a b : Nat), b < 2 ^ m → 2 * m + 1 ≤ n → ∃ n', turn n a b = turn (n' + 1) (Nat.gcd a b) 0 := by
  intro m
  induction m with
  | zero =>
    intro n a b h1 hn
    obtain rfl : b = 0 := by simp at h1; omega
    obtain ⟨n, rfl⟩ : ∃ k, n = k + 1 := ⟨n - 1, by omega⟩
    exact ⟨n, by rw [Nat.gcd_zero_right]⟩
  | succ m ih =>
    intro n a b h1 hn
    by_cases h0 : b = 0
    · subst h0
      obtain ⟨n, rfl⟩ : ∃ k, n = k + 1 := ⟨n - 1, by omega⟩
      exact ⟨n, by rw [Nat.gcd_zero_right]⟩
    · obtain ⟨n, rfl⟩ : ∃ k, n = k + 2 := ⟨n - 2, by omega⟩
      have hb : 0 < b := by omega
      rw [step _ a b hb]
      have r1 : a % b < b := Nat.mod_lt a hb
      by_cases h2 : a % b = 0
      · have e : Nat.gcd a b = b := by rw [← gcd_step a b, h2, Nat.gcd_zero_right]
        rw [h2, e]
        exact ⟨n, rfl⟩
      · have hr : 0 < a % b := by omega
        rw [step _ b _ hr]
        obtain ⟨n', h⟩ := ih n (a % b) (b % (a % b)) (by
          have q1 := Nat.mod_lt b hr
          have q2 := Nat.div_add_mod b (a % b)
          have q3 : 1 ≤ b / (a % b) := (Nat.one_le_div_iff hr).mpr (Nat.le_of_lt r1)
          have q4 : a % b * 1 ≤ a % b * (b / (a % b)) := Nat.mul_le_mul_left _ q3
          have q5 : 2 ^ (m + 1) = 2 ^ m + 2 ^ m := by rw [Nat.pow_succ]; omega
          omega) (by omega)
        exact ⟨n', by rw [h, gcd_step, gcd_step]⟩
theorem divisor_turn {st : Store} {cf : Nat → List D → Store → R D} (n a b : Nat) (hb : 0 < b) :
    whl (whC cf divisor_wc1) (ex WH cf divisor_wb1) (n + 1) [some (.int a), some (.int b)] st = whl (whC cf divisor_wc1) (ex WH cf divisor_wb1) n [some (.int b), some (.int (a % b : Nat))] st := by
  have h0 : b ≠ 0 := by omega
  have h1 : (0 : Int) < b := by omega
  rw [whl]
  simp [whC, divisor_wc1, divisor_wb1, mod_int h1, h0]
theorem divisor_run {st : Store} {k : Nat} (a b : Int) (hb : b.natAbs < HUGE) : run WH fns (k + 1) f_divisor [.int a, .int b] st = .ok (.int (Int.gcd a b)) st := by
  rw [run_eq (fn := fn_divisor) (env0 := [some (.int a), some (.int b)]) rfl rfl rfl rfl]
  have e : ∀ i : Int, (if i < 0 then -i else i) = (i.natAbs : Int) := fun i => by split <;> omega
  obtain ⟨n, h⟩ := gcd_fuel (fun n a b => whl (whC (run WH fns k) divisor_wc1) (ex WH (run WH fns k) divisor_wb1) n [some (.int (a : Nat)), some (.int (b : Nat))] st) (fun n a b hb => divisor_turn n a b hb) 400000 WH a.natAbs b.natAbs hb (by decide)
  simp [fn_divisor, b_divisor, setT, e, h]
  rw [whl]
  simp [whC, divisor_wc1, Int.gcd]
/-! ### fractions -/
theorem is_whole_run {st : Store} {k n : Nat} {d : D} {p : PyData} (h : pd st (n + 1) d = some p) : run WH fns (k + 1) f_is_whole [d] st = .ok (.bl (isWholeP p)) st := by
  rw [run_eq (fn := fn_is_whole) (env0 := [some d]) rfl rfl rfl rfl]
  rw [← whole_pd]
  simp [fn_is_whole, b_is_whole, isi_pd h]
  cases isK .int p <;> simp
theorem law_whole_run {st : Store} {k n : Nat} {d : D} {p : PyData} (h : pd st (n + 1) d = some p) : run WH fns (k + 1) f__law_whole [d] st = .ok (.bl (isWholeP p)) st := by
  rw [run_eq (fn := fn__law_whole) (env0 := [some d]) rfl rfl rfl rfl]
  rw [← whole_pd]
  simp [fn__law_whole, b__law_whole, isi_pd h]
  cases isK .int p <;> simp
theorem is_fraction_run {st : Store} {k n : Nat} {d : D} {p : PyData} (h : pd st (n + 2) d = some p) (hs : small HUGE p = true) : run WH fns (k + 2) f_is_fraction [d] st = .ok (.bl (isFracP p)) st := by
  rw [run_eq (fn := fn_is_fraction) (env0 := [some d]) rfl rfl rfl rfl]
  cases pdC h with
  | tup q =>
    cases q with
    | nil => simp [fn_is_fraction, b_is_fraction, isFracP]
    | @cons a p1 ds ps h1 q =>
      cases q with
      | nil => simp [fn_is_fraction, b_is_fraction, isFracP]
      | @cons b p2 ds ps h2 q =>
        cases q with
        | nil =>
          have w1 := is_whole_run (k := k) h1
          have w2 := is_whole_run (k := k) h2
          cases e1 : isWholeP p1 with
          | false => simp [fn_is_fraction, b_is_fraction, w1, w2, e1, frac_no (.inl e1)]
          | true =>
            cases e2 : isWholeP p2 with
            | false => simp [fn_is_fraction, b_is_fraction, w1, w2, e1, e2, frac_no (.inr e2)]
            | true =>
              obtain ⟨i, rfl⟩ := whole_inv e1
              obtain ⟨j, rfl⟩ := whole_inv e2
              cases pdC h1
              cases pdC h2
              have hj : j.natAbs < HUGE := by simpa [small, smalls] using (by simpa [small, smalls] using hs : _ ∧ _).2
              have hd := divisor_run (st := st) (k := k) i j hj
              by_cases c : 1 ≤ j
              · simp [fn_is_fraction, b_is_fraction, w1, w2, e1, e2, isFracP, hd, c]
                omega
              · simp [fn_is_fraction, b_is_fraction, w1, w2, e1, e2, isFracP, hd, c]
        | @cons c p3 ds ps h3 q =>
          have e : ¬((ds.length : Int) + 1 + 1 + 1 = 2) := by omega
          simp [fn_is_fraction, b_is_fraction, isFracP, e]
  | _ => simp [fn_is_fraction, b_is_fraction, isFracP, isi_pd h, isK]
def isShareP (p : PyData) : Bool := isFracP p && match p with
  | .tuple [.int n, .int d] => decide (0 ≤ n) && decide (n ≤ d)
  | _ => false
theorem frac_inv {p : PyData} (h : isFracP p = true) : ∃ n d : Int, p = .tuple [.int n, .int d] ∧ 1 ≤ d ∧ Int.gcd n d = 1 := by
  unfold isFracP at h
  split at h
  · rename_i n d
    rw [Bool.and_eq_true] at h
    exact ⟨n, d, rfl, of_decide_eq_true h.1, of_decide_eq_true h.2⟩
  · cases h
theorem pd_pair {st : Store} {n : Nat} {d : D} {i j : Int} (h : pd st (n + 2) d = some (.tuple [.int i, .int j])) : d = .tup [.int i, .int j] := by
  cases pdC h with
  | tup q =>
    cases q with
    | cons h1 q =>
      cases q with
      | cons h2 q =>
        cases q
        cases pdC h1
        cases pdC h2
        rfl
theorem is_share_run {st : Store} {k n : Nat} {d : D} {p : PyData} (h : pd st (n + 2) d = some p) (hs : small HUGE p = true) : run WH fns (k + 3) f_is_share [d] st = .ok (.bl (isShareP p)) st := by
  rw [run_eq (fn := fn_is_share) (env0 := [some d]) rfl rfl rfl rfl]
  have w := is_fraction_run (k := k) h hs
  cases e : isFracP p with
  | false => simp [fn_is_share, b_is_share, w, e, isShareP]
  | true =>
    obtain ⟨i, j, rfl, h1, h2⟩ := frac_inv e
    obtain rfl := pd_pair h
    simp [fn_is_share, b_is_share, w, e, isShareP]
    by_cases c : 0 ≤ i <;> simp [c]
/-! ### sums -/
theorem fraction_run {st : Store} {k : Nat} {n d : Int} (h0 : 0 < d) (hn : n.natAbs < HUGE) (hd : d.natAbs < BIG) : run WH fns (k + 2) f_fraction [.int n, .int d] st = .ok (fr (Rat.divInt n d)) st := by
  rw [run_eq (fn := fn_fraction) (env0 := [some (.int n), some (.int d), none]) rfl rfl rfl rfl]
  have hd' := divisor_run (st := st) (k := k) n d (Nat.lt_of_lt_of_le hd big_huge)
  have g0 : 0 < Int.gcd n d := Int.gcd_pos_iff.mpr (.inr (by omega))
  have g1 : (Int.gcd n d) ≤ d.natAbs := Nat.le_of_dvd (by omega) (Nat.gcd_dvd_right _ _)
  have dv : divOk (Int.gcd n d : Int) = true := divOk_of (by omega) (by omega)
  have z : ¬ d = 0 := by omega
  have z2 : ¬ d < 0 := by omega
  have e1 : (Rat.divInt n d).num = n / (Int.gcd n d : Int) := by
    rw [Rat.num_divInt, Int.sign_eq_one_of_pos h0, Int.one_mul, Int.gcd_comm]
  have e2 : ((Rat.divInt n d).den : Int) = d / (Int.gcd n d : Int) := by
    rw [Rat.den_divInt, if_neg z, Int.gcd_comm, Int.natCast_ediv, Int.natAbs_of_nonneg (by omega)]
  simp [fn_fraction, b_fraction, hd', z, z2, setT, fdiv_int dv, fr, e1, e2]
theorem fr_natAbs {a : Rat} {B : Nat} (h : a.den < B) : ((a.den : Int)).natAbs < B := by simpa using h
theorem plus_run {st : Store} {k : Nat} {a b : Rat} (ha : a.num.natAbs < BIG) (hb : b.num.natAbs < BIG) (hda : a.den < BIG) (hdb : b.den < BIG) (hd : a.den * b.den < BIG) (hn : (a.num * b.den + b.num * a.den).natAbs < HUGE) : run WH fns (k + 3) f_plus [fr a, fr b] st = .ok (fr (a + b)) st := by
  rw [run_eq (fn := fn_plus) (env0 := [some (fr a), some (fr b)]) rfl rfl rfl rfl]
  have hu : ∀ {n : Nat}, n < BIG → n < HUGE := fun h => Nat.lt_of_lt_of_le h big_huge
  have m1 : mulOk a.num b.den = true := mulOk_of (hu ha) (hu (fr_natAbs hdb))
  have m2 : mulOk b.num a.den = true := mulOk_of (hu hb) (hu (fr_natAbs hda))
  have m3 : mulOk a.den b.den = true := mulOk_of (hu (fr_natAbs hda)) (hu (fr_natAbs hdb))
  have p1 := a.den_pos
  have p2 := b.den_pos
  have p3 : 0 < a.den * b.den := Nat.mul_pos p1 p2
  have f := fraction_run (st := st) (k := k) (n := a.num * b.den + b.num * a.den) (d := a.den * b.den) (by exact_mod_cast p3) hn (by rw [← Int.natCast_mul]; exact hd)
  have e : a + b = Rat.divInt (a.num * b.den + b.num * a.den) (a.den * b.den) := by
    rw [Rat.add_def', ← Int.natCast_mul, Rat.divInt_ofNat]
  rw [e]
  simp [fn_plus, b_plus, fr, mul_int m1, mul_int m2, mul_int m3, f]
/-- its parts lie below two to the m -/
def Lt2 (m : Nat) (q : Rat) : Prop := q.num.natAbs < 2 ^ m ∧ q.den < 2 ^ m
theorem add_den_le (a b : Rat) : (a + b).den ≤ a.den * b.den := by
  rw [Rat.den_add]
  exact Nat.div_le_self _ _
theorem add_num_le (a b : Rat) : (a + b).num.natAbs ≤ (a.num * b.den + b.num * a.den).natAbs := by
  rw [Rat.num_add]
  exact Int.natAbs_ediv_le_natAbs _ _
theorem mul_lt_pow {x y m n : Nat} (hx : x < 2 ^ m) (hy : y < 2 ^ n) : x * y < 2 ^ (m + n) := by
  rw [Nat.pow_add]
  have h0 : 0 < 2 ^ n := Nat.two_pow_pos n
  exact Nat.mul_lt_mul_of_lt_of_le hx (Nat.le_of_lt hy) h0
theorem sum_lt_pow {a b : Rat} {m n : Nat} (ha : Lt2 m a) (hb : Lt2 n b) : (a.num * b.den + b.num * a.den).natAbs < 2 ^ (m + n + 1) := by
  have h1 : (a.num * b.den).natAbs < 2 ^ (m + n) := by rw [Int.natAbs_mul]; exact mul_lt_pow ha.1 (by simpa using hb.2)
  have h2 : (b.num * a.den).natAbs < 2 ^ (m + n) := by rw [Int.natAbs_mul, Nat.add_comm]; exact mul_lt_pow hb.1 (by simpa using ha.2)
  have h3 : 2 ^ (m + n + 1) = 2 ^ (m + n) + 2 ^ (m + n) := by rw [Nat.pow_succ]; omega
  omega
theorem Lt2.add {a b : Rat} {m n : Nat} (ha : Lt2 m a) (hb : Lt2 n b) : Lt2 (m + n + 1) (a + b) := by
  refine ⟨Nat.lt_of_le_of_lt (add_num_le a b) (sum_lt_pow ha hb), ?_⟩
  refine Nat.lt_of_le_of_lt (add_den_le a b) (Nat.lt_trans (mul_lt_pow ha.2 hb.2) ?_)
  exact Nat.pow_lt_pow_right (by decide) (by omega)
theorem plus_lt {st : Store} {k m n : Nat} {a b : Rat} (ha : Lt2 m a) (hb : Lt2 n b) (h : m + n + 1 ≤ 4000) : run WH fns (k + 3) f_plus [fr a, fr b] st = .ok (fr (a + b)) st := by
  have up : ∀ {x i : Nat}, x < 2 ^ i → i ≤ 4000 → x < BIG := fun h1 h2 => Nat.lt_of_lt_of_le h1 (Nat.pow_le_pow_right (by decide) h2)
  refine plus_run (up ha.1 (by omega)) (up hb.1 (by omega)) (up ha.2 (by omega)) (up hb.2 (by omega)) (up (mul_lt_pow ha.2 hb.2) (by omega)) ?_
  exact Nat.lt_of_lt_of_le (up (sum_lt_pow ha hb) h) big_huge
theorem total_loop {st : Store} {k b : Nat} {g : Guard} (hg : gOk g st = true) {d : D} : ∀ (qs : List Rat) (a : Rat) (m : Nat) (o : Option D), Lt2 m a → (∀ q ∈ qs, Lt2 b q) → m + qs.length * (b + 1) ≤ 4000 →
    ∃ o', forL g (forF WH (run WH fns (k + 3)) (.nm 2) total_fb1) (qs.map fr) [some d, some (fr a), o] st = .ok (.nx [some d, some (fr (qs.foldl (· + ·) a)), o']) st
  | [], a, m, o, _, _, _ => ⟨o, by simp [forL, hg]⟩
  | q :: qs, a, m, o, ha, hq, h => by
    rw [List.length_cons, Nat.succ_mul] at h
    have hb := hq q List.mem_cons_self
    obtain ⟨o', e⟩ := total_loop hg qs (a + q) (m + b + 1) (some (fr q)) (ha.add hb) (fun x hx => hq x (List.mem_cons_of_mem _ hx)) (by omega)
    refine ⟨o', ?_⟩
    have p := plus_lt (st := st) (k := k) ha hb (by omega)
    rw [List.map_cons, forL, if_pos hg]
    simp [forF, setT, total_fb1, p]
    exact e
theorem total_run {st : Store} {k b : Nat} {d : D} {qs : List Rat} {g : Guard} (hd : src st d = some (qs.map fr, g)) (hg : gOk g st = true) (hq : ∀ q ∈ qs, Lt2 b q) (h : qs.length * (b + 1) + 1 ≤ 4000) :
    run WH fns (k + 4) f_total [d] st = .ok (fr (qs.foldl (· + ·) 0)) st := by
  rw [run_eq (fn := fn_total) (env0 := [some d, none, none]) rfl rfl rfl rfl]
  obtain ⟨o', e⟩ := total_loop (k := k) (d := d) hg qs 0 1 none ⟨by decide, by decide⟩ hq (by omega)
  have z : c_NOUGHT = fr 0 := rfl
  simp [fn_total, b_total, setT, walkD, hd, z, e]
end Py.L05
end

section
set_option Elab.async false
set_option linter.all false
set_option maxRecDepth 100000
namespace Py.L05
open PySem L2
theorem low_turn {st : Store} {cf : Nat → List D → Store → R D} {x y : D} (n a b : Nat) (hb : 0 < b) :
    whl (whC cf _law_low_wc1) (ex WH cf _law_low_wb1) (n + 1) [some x, some y, some (.int a), some (.int b)] st = whl (whC cf _law_low_wc1) (ex WH cf _law_low_wb1) n [some x, some y, some (.int b), some (.int (a % b : Nat))] st := by
  have h0 : b ≠ 0 := by omega
  have h1 : (0 : Int) < b := by omega
  rw [whl]
  simp [whC, _law_low_wc1, _law_low_wb1, mod_int h1, h0]
theorem frac_parts {n d : Int} (h0 : 0 < d) : (Rat.divInt n d).num = n / (Int.gcd n d : Int) ∧ ((Rat.divInt n d).den : Int) = d / (Int.gcd n d : Int) := by
  refine ⟨?_, ?_⟩
  · rw [Rat.num_divInt, Int.sign_eq_one_of_pos h0, Int.one_mul, Int.gcd_comm]
  · rw [Rat.den_divInt, if_neg (by omega), Int.gcd_comm, Int.natCast_ediv, Int.natAbs_of_nonneg (by omega)]
theorem low_run {st : Store} {k : Nat} {n d : Int} (h0 : 0 < d) (hd : d.natAbs < BIG) : run WH fns (k + 1) f__law_low [.int n, .int d] st = .ok (fr (Rat.divInt n d)) st := by
  rw [run_eq (fn := fn__law_low) (env0 := [some (.int n), some (.int d), none, none]) rfl rfl rfl rfl]
  have e : ∀ i : Int, (if i < 0 then -i else i) = (i.natAbs : Int) := fun i => by split <;> omega
  obtain ⟨m, h⟩ := gcd_fuel (fun m a b => whl (whC (run WH fns k) _law_low_wc1) (ex WH (run WH fns k) _law_low_wb1) m [some (.int n), some (.int d), some (.int (a : Nat)), some (.int (b : Nat))] st) (fun m a b hb => low_turn m a b hb) 4000 WH n.natAbs d.natAbs hd (by decide)
  have g0 : 0 < Int.gcd n d := Int.gcd_pos_iff.mpr (.inr (by omega))
  have g1 : (Int.gcd n d) ≤ d.natAbs := Nat.le_of_dvd (by omega) (Nat.gcd_dvd_right _ _)
  have dv : divOk (Int.gcd n d : Int) = true := divOk_of (by omega) (by omega)
  have ed : (d.natAbs : Int) = d := Int.natAbs_of_nonneg (by omega)
  rw [ed] at h
  obtain ⟨e1, e2⟩ := frac_parts (n := n) h0
  have eg : (n.natAbs.gcd d.natAbs : Int) = (Int.gcd n d : Int) := rfl
  rw [eg] at h
  simp [fn__law_low, b__law_low, setT, e, h]
  rw [whl]
  simp [whC, _law_low_wc1, fdiv_int dv, fr, e1, e2]
theorem eqD_tup2 {st : Store} (a b : Int) (x y : Int) : eqD st (.tup [.int a, .int b]) (.tup [.int x, .int y]) = some (decide (a = x) && decide (b = y)) := by simp
theorem law_is_fraction_run {st : Store} {k n : Nat} {d : D} {p : PyData} (h : pd st (n + 2) d = some p) (hs : small BIG p = true) : run WH fns (k + 2) f__law_is_fraction [d] st = .ok (.bl (isFracP p)) st := by
  rw [run_eq (fn := fn__law_is_fraction) (env0 := [some d]) rfl rfl rfl rfl]
  cases pdC h with
  | tup q =>
    cases q with
    | nil => simp [fn__law_is_fraction, b__law_is_fraction, isFracP]
    | @cons a p1 ds ps h1 q =>
      cases q with
      | nil => simp [fn__law_is_fraction, b__law_is_fraction, isFracP]
      | @cons b p2 ds ps h2 q =>
        cases q with
        | nil =>
          have w1 := law_whole_run (k := k) h1
          have w2 := law_whole_run (k := k) h2
          cases e1 : isWholeP p1 with
          | false => simp [fn__law_is_fraction, b__law_is_fraction, w1, w2, e1, frac_no (.inl e1)]
          | true =>
            cases e2 : isWholeP p2 with
            | false => simp [fn__law_is_fraction, b__law_is_fraction, w1, w2, e1, e2, frac_no (.inr e2)]
            | true =>
              obtain ⟨i, rfl⟩ := whole_inv e1
              obtain ⟨j, rfl⟩ := whole_inv e2
              cases pdC h1
              cases pdC h2
              have hj : j.natAbs < BIG := by simpa [small, smalls] using (by simpa [small, smalls] using hs : _ ∧ _).2
              by_cases c : 1 ≤ j
              · have hd := low_run (st := st) (k := k) (n := i) (d := j) (by omega) hj
                obtain ⟨e3, e4⟩ := frac_parts (n := i) (d := j) (by omega)
                have g0 : 0 < Int.gcd i j := Int.gcd_pos_iff.mpr (.inr (by omega))
                have key : (decide (i / (Int.gcd i j : Int) = i) && decide (j / (Int.gcd i j : Int) = j)) = decide (Int.gcd i j = 1) := by
                  by_cases g : Int.gcd i j = 1
                  · simp [g]
                  · have : ¬ (j / (Int.gcd i j : Int) = j) := by
                      intro q
                      have lt : j / (Int.gcd i j : Int) < j := Int.ediv_lt_self_of_pos_of_ne_one (show 0 < j by omega) (by omega)
                      omega
                    simp [g, this]
                simp [fn__law_is_fraction, b__law_is_fraction, w1, w2, e1, e2, isFracP, hd, c, fr, e3, e4]
                exact key
              · simp [fn__law_is_fraction, b__law_is_fraction, w1, w2, e1, e2, isFracP, c]
        | @cons c p3 ds ps h3 q =>
          have e : ¬((ds.length : Int) + 1 + 1 + 1 = 2) := by omega
          simp [fn__law_is_fraction, b__law_is_fraction, isFracP, e]
  | _ => simp [fn__law_is_fraction, b__law_is_fraction, isFracP, isi_pd h, isK]
theorem law_is_share_run {st : Store} {k n : Nat} {d : D} {p : PyData} (h : pd st (n + 2) d = some p) (hs : small BIG p = true) : run WH fns (k + 3) f__law_is_share [d] st = .ok (.bl (isShareP p)) st := by
  rw [run_eq (fn := fn__law_is_share) (env0 := [some d]) rfl rfl rfl rfl]
  have w := law_is_fraction_run (k := k) h hs
  cases e : isFracP p with
  | false => simp [fn__law_is_share, b__law_is_share, w, e, isShareP]
  | true =>
    obtain ⟨i, j, rfl, h1, h2⟩ := frac_inv e
    obtain rfl := pd_pair h
    simp [fn__law_is_share, b__law_is_share, w, e, isShareP]
    by_cases c : 0 ≤ i <;> simp [c]
end Py.L05
end

section
set_option Elab.async false
set_option linter.all false
set_option maxRecDepth 100000
namespace Py.L05
open PySem L2
/-! ### names -/
def takenL : List Str := [Str.ofString "faces", Str.ofString "way", Str.ofString "on", Str.ofString "say", Str.ofString "rule", Str.ofString "none", Str.ofString "price", Str.ofString "worth"]
def lettersL : List Nat := (Str.ofString "abcdefghijklmnopqrstuvwxyz").cps.toList
def isNameS (s : Str) : Bool := (decide (1 ≤ s.length) && decide (s.length ≤ 8)) && !decide (s ∈ takenL) && s.cps.toList.all fun c => decide (c ∈ lettersL)
def isNameP : PyData → Bool
  | .str s => isNameS s
  | _ => false
theorem taken_ok : ∀ t ∈ takenL, PyData.strOk t = true := by decide +kernel
theorem isName_turn {st : Store} {cf : Nat → List D → Store → R D} {x : D} (c : Nat) (o : Option D) : lcF cf [1] (.nm 1) .np is_name_le1 [some x, o] (.str ⟨#[c]⟩) st = .ok (some (.bl (decide (c ∈ lettersL)))) st := by
  have e : c_LETTERS = D.str (Str.ofString "abcdefghijklmnopqrstuvwxyz") := rfl
  simp [lcF, is_name_le1, setT, wiped, e, lettersL]
theorem is_name_run {st : Store} {k n : Nat} {B : Nat} {d : D} {p : PyData} (h : pd st (n + 1) d = some p) (hs : small B p = true) : run WH fns (k + 1) f_is_name [d] st = .ok (.bl (isNameP p)) st := by
  rw [run_eq (fn := fn_is_name) (env0 := [some d, none]) rfl rfl rfl rfl]
  cases pdC h with
  | str s =>
    have hs' : s.length ≤ 1000 ∧ PyData.strOk s = true := by simpa [small] using hs
    have e8 : c_MOST_LETTERS = D.int 8 := rfl
    have et : c_TAKEN = D.tup (takenL.map D.str) := rfl
    have it := in_strs (st := st) hs'.2 taken_ok
    have cl := compL_mapL (g := []) (st := st) (f := lcF (run WH fns k) [1] (.nm 1) .np is_name_le1 [some (.str s), none]) rfl (fun c => D.str ⟨#[c]⟩) (fun c => D.bl (decide (c ∈ lettersL))) (xs := s.cps.toList) (fun c _ => isName_turn c none)
    have sz : s.cps.size ≤ sizeLine := Nat.le_trans hs'.1 (by decide)
    have ba := bc_all (st := st ++ [O.lst (s.cps.toList.map fun c => D.bl (decide (c ∈ lettersL)))]) (n := st.length) (f := fun c => decide (c ∈ lettersL)) (xs := s.cps.toList) (by simp)
    by_cases c1 : 1 ≤ s.length
    · have d1 : ((1 : Int) ≤ s.length) := by omega
      by_cases c2 : s.length ≤ 8
      · have d2 : ((s.length : Int) ≤ 8) := by omega
        by_cases c3 : s ∈ takenL
        · simp [fn_is_name, b_is_name, e8, et, it, len_str hs'.1, walkD, src, isNameP, isNameS, c1, c2, d1, d2, c3]
        · simp [fn_is_name, b_is_name, e8, et, it, len_str hs'.1, walkD, src, isNameP, isNameS, c1, c2, d1, d2, c3, cl, sz, ba]
      · have d2 : ¬ ((s.length : Int) ≤ 8) := by omega
        simp [fn_is_name, b_is_name, e8, et, it, len_str hs'.1, walkD, src, isNameP, isNameS, c1, c2, d1, d2]
    · have d1 : ¬ ((1 : Int) ≤ s.length) := by omega
      simp [fn_is_name, b_is_name, e8, et, it, len_str hs'.1, walkD, src, isNameP, isNameS, c1, d1]
  | _ => simp [fn_is_name, b_is_name, isNameP, isi_pd h, isK]
theorem lawName_turn {st : Store} {cf : Nat → List D → Store → R D} {x : D} (c : Nat) (o : Option D) : lcF cf [1] (.nm 1) _law_is_name_lc1 _law_is_name_le1 [some x, o] (.str ⟨#[c]⟩) st = .ok (if c ∈ lettersL then none else some (.str ⟨#[c]⟩)) st := by
  by_cases h : c ∈ lettersL
  · have h2 : c ∈ (Str.ofString "abcdefghijklmnopqrstuvwxyz").cps.toList := h
    simp at h2
    simp [lcF, _law_is_name_lc1, _law_is_name_le1, setT, wiped, h, h2]
  · have h2 : ¬ c ∈ (Str.ofString "abcdefghijklmnopqrstuvwxyz").cps.toList := h
    simp at h2
    simp [lcF, _law_is_name_lc1, _law_is_name_le1, setT, wiped, h, h2]
theorem law_is_name_run {st : Store} {k n : Nat} {B : Nat} {d : D} {p : PyData} (h : pd st (n + 1) d = some p) (hs : small B p = true) : run WH fns (k + 1) f__law_is_name [d] st = .ok (.bl (isNameP p)) st := by
  rw [run_eq (fn := fn__law_is_name) (env0 := [some d, none]) rfl rfl rfl rfl]
  cases pdC h with
  | str s =>
    have hs' : s.length ≤ 1000 ∧ PyData.strOk s = true := by simpa [small] using hs
    have it := in_strs (st := st) hs'.2 taken_ok
    have et : (List.map D.str takenL) = [D.str (Str.ofString "faces"), D.str (Str.ofString "way"), D.str (Str.ofString "on"), D.str (Str.ofString "say"), D.str (Str.ofString "rule"), D.str (Str.ofString "none"), D.str (Str.ofString "price"), D.str (Str.ofString "worth")] := rfl
    rw [et] at it
    have cl := compL_filterL (g := []) (st := st) (f := lcF (run WH fns k) [1] (.nm 1) _law_is_name_lc1 _law_is_name_le1 [some (.str s), none]) rfl (fun c => D.str ⟨#[c]⟩) (fun c => if c ∈ lettersL then none else some (D.str ⟨#[c]⟩)) (xs := s.cps.toList) (fun c _ => lawName_turn c none)
    have ef : (s.cps.toList.filterMap fun c => if c ∈ lettersL then none else some (D.str ⟨#[c]⟩)) = (s.cps.toList.filter fun c => !decide (c ∈ lettersL)).map fun c => D.str ⟨#[c]⟩ := by
      generalize s.cps.toList = l
      induction l with
      | nil => rfl
      | cons c l ih =>
        by_cases h : c ∈ lettersL
        · simp [h, ih]
        · simp [h, ih]
    rw [ef] at cl
    generalize hm : (s.cps.toList.filter fun c => !decide (c ∈ lettersL)) = ms at cl
    have sz : ms.length ≤ sizeLine := by
      rw [← hm]
      refine Nat.le_trans (List.length_filter_le _ _) ?_
      rw [Array.length_toList]
      exact Nat.le_trans hs'.1 (by decide)
    have all_ : (s.cps.toList.all fun c => decide (c ∈ lettersL)) = ms.isEmpty := by
      rw [← hm]
      generalize s.cps.toList = l
      induction l with
      | nil => rfl
      | cons c l ih =>
        by_cases h : c ∈ lettersL
        · simpa [h] using ih
        · simp [h]
    have sm : ∀ c ∈ ms, c < 0x110000 := by
      intro c hc
      rw [← hm] at hc
      have := (List.mem_filter.mp hc).1
      have h2 := hs'.2
      unfold PyData.strOk at h2
      rw [Array.all_eq_true'] at h2
      exact of_decide_eq_true (h2 c (by simpa using this))
    have eq_ : eqD (st ++ [O.lst (ms.map fun c => D.str ⟨#[c]⟩), O.lst []]) (.ref st.length) (.ref (st.length + 1)) = some ms.isEmpty := by
      have z := eqD_strs_nil (st := st ++ [O.lst (ms.map fun c => D.str ⟨#[c]⟩), O.lst []]) (m := st.length) (n := st.length + 1) (ts := ms.map fun c => (⟨#[c]⟩ : Str)) (by simp) (by simp) (fun x hx => by
        obtain ⟨c, hc, rfl⟩ := List.mem_map.mp hx
        have := sm c hc
        simp [PyData.strOk, this])
      rw [z]
      cases ms <;> rfl
    rw [show isNameP (.str s) = ((decide (1 ≤ s.length) && decide (s.length ≤ 8)) && !decide (s ∈ takenL) && ms.isEmpty) from by rw [← all_]; rfl]
    by_cases c1 : 1 ≤ s.length
    · have d1 : ((1 : Int) ≤ s.length) := by omega
      by_cases c2 : s.length ≤ 8
      · have d2 : ((s.length : Int) ≤ 8) := by omega
        by_cases c3 : s ∈ takenL
        · simp [fn__law_is_name, b__law_is_name, it, len_str hs'.1, walkD, src, c1, c2, d1, d2, c3]
        · simp [fn__law_is_name, b__law_is_name, it, len_str hs'.1, walkD, src, c1, c2, d1, d2, c3, cl, sz, eq_]
      · have d2 : ¬ ((s.length : Int) ≤ 8) := by omega
        simp [fn__law_is_name, b__law_is_name, it, len_str hs'.1, walkD, src, c1, c2, d1, d2]
    · have d1 : ¬ ((1 : Int) ≤ s.length) := by omega
      simp [fn__law_is_name, b__law_is_name, it, len_str hs'.1, walkD, src, c1, d1]
  | _ => simp [fn__law_is_name, b__law_is_name, isNameP, isi_pd h, isK]
end Py.L05
end

section
set_option Elab.async false
set_option linter.all false
set_option maxRecDepth 100000
namespace Py.L05
open PySem L2
/-! ### items -/
structure Sq (st : Store) (d : D) (ds : List D) : Prop where
  src : ∃ g, src st d = some (ds, g) ∧ gOk g st = true
  items : itemsD st d = some ds
  len : lenD st d = some ds.length
theorem sq_tup (st : Store) (ds : List D) : Sq st (.tup ds) ds := ⟨⟨[], rfl, rfl⟩, rfl, rfl⟩
theorem gOk_of {st : Store} {n : Nat} {xs : List D} (h : lstAt st n = some xs) : gOk [(n, xs)] st = true := by
  simp [gOk, h]
theorem sq_lst {st : Store} {m : Nat} {ds : List D} (h : lstAt st m = some ds) : Sq st (.ref m) ds :=
  ⟨⟨[(m, ds)], by simp [Py.src, h], gOk_of h⟩, h, by simp [lenD, h]⟩
theorem lstAt_app {st more : Store} {m : Nat} {ds : List D} (h : lstAt st m = some ds) : lstAt (st ++ more) m = some ds := by
  have hl : m < st.length := by
    unfold lstAt at h
    cases e : st[m]? with
    | none => rw [e] at h; cases h
    | some o => exact (List.getElem?_eq_some_iff.mp e).1
  unfold lstAt at h ⊢
  rw [List.getElem?_append_left hl]
  exact h
theorem Sq.app {st more : Store} {d : D} {ds : List D} (h : Sq st d ds) : Sq (st ++ more) d ds := by
  cases d with
  | tup xs =>
    have e : xs = ds := by have := h.items; simpa [itemsD] using this
    subst e
    exact sq_tup _ _
  | ref m => exact sq_lst (lstAt_app h.items)
  | _ => exact nomatch h.items
/-! ### several names -/
def strP : PyData → Str
  | .str s => s
  | _ => Str.empty
def areNamesP (ps : List PyData) : Bool := ps.all isNameP && decide ((ddup (ps.map strP)).length = ps.length)
theorem smalls_mem {B : Nat} : ∀ {ps : List PyData}, smalls B ps = true → ∀ p ∈ ps, small B p = true
  | p :: ps, h, q, hq => by
    have h2 : small B p = true ∧ smalls B ps = true := by simpa [smalls] using h
    rcases List.mem_cons.mp hq with e | e
    · subst e; exact h2.1
    · exact smalls_mem h2.2 q e
theorem strs_names {st : Store} {n : Nat} : ∀ {ds : List D} {ps : List PyData}, Pds st (n + 1) ds ps → ps.all isNameP = true → strsD ds = some (ps.map strP)
  | _, _, .nil, _ => rfl
  | _, _, .cons (d := d) (p := p) (ds := ds) (ps := ps) h t, ha => by
    have h2 : isNameP p = true ∧ ps.all isNameP = true := by rw [List.all_cons, Bool.and_eq_true] at ha; exact ha
    cases pdC h with
    | str s =>
      have ih := strs_names t h2.2
      show (strsD _).map (s :: ·) = _
      rw [ih]; rfl
    | _ => exact nomatch h2.1
theorem are_names_run {st : Store} {k n : Nat} {B : Nat} {d : D} {ds : List D} {ps : List PyData} (sq : Sq st d ds) (q : Pds st (n + 1) ds ps) (hs : smalls B ps = true) (hl : ps.length < 64) : run WH fns (k + 2) f_are_names [d] st = .ok (.bl (areNamesP ps)) st := by
  rw [run_eq (fn := fn_are_names) (env0 := [some d, none]) rfl rfl rfl rfl]
  obtain ⟨g, s1, s2⟩ := sq.src
  have cl := compL_pds (st := st) (f := lcF (run WH fns (k + 1)) [1] (.nm 1) .np are_names_le1 [some d, none]) s2 (fun p => D.bl (isNameP p)) q (fun x p hp hx => by
    have z := is_name_run (k := k) hx (smalls_mem hs p hp)
    simp [lcF, are_names_le1, setT, wiped, z])
  have sz : ps.length ≤ sizeLine := Nat.le_trans (Nat.le_of_lt hl) (by decide)
  have ba := bc_all (st := st ++ [O.lst (ps.map fun p => D.bl (isNameP p))]) (n := st.length) (f := isNameP) (xs := ps) (by simp)
  have sq' := sq.app (more := [O.lst (ps.map fun p => D.bl (isNameP p))])
  cases e : ps.all isNameP with
  | false => simp [fn_are_names, b_are_names, walkD, s1, cl, sz, ba, e, areNamesP]
  | true =>
    have l1 := q.length
    simp [fn_are_names, b_are_names, walkD, s1, cl, sz, ba, e, areNamesP, sq'.items, sq'.len, strs_names q e, hl, l1]
    omega
theorem law_are_names_run {st : Store} {k n : Nat} {B : Nat} {d : D} {ds : List D} {ps : List PyData} (sq : Sq st d ds) (q : Pds st (n + 1) ds ps) (hs : smalls B ps = true) (hl : ps.length < 64) : run WH fns (k + 2) f__law_are_names [d] st = .ok (.bl (areNamesP ps)) st := by
  rw [run_eq (fn := fn__law_are_names) (env0 := [some d, none]) rfl rfl rfl rfl]
  obtain ⟨g, s1, s2⟩ := sq.src
  have cl := compL_pds (st := st) (f := lcF (run WH fns (k + 1)) [1] (.nm 1) .np _law_are_names_le1 [some d, none]) s2 (fun p => D.bl (isNameP p)) q (fun x p hp hx => by
    have z := law_is_name_run (k := k) hx (smalls_mem hs p hp)
    simp [lcF, _law_are_names_le1, setT, wiped, z])
  have sz : ps.length ≤ sizeLine := Nat.le_trans (Nat.le_of_lt hl) (by decide)
  have ba := in_bools (st := st ++ [O.lst (ps.map fun p => D.bl (isNameP p))]) (n := st.length) (f := isNameP) (xs := ps) (by simp)
  have sq' := sq.app (more := [O.lst (ps.map fun p => D.bl (isNameP p))])
  cases e : ps.all isNameP with
  | false => simp [fn__law_are_names, b__law_are_names, walkD, s1, cl, sz, ba, e, areNamesP]
  | true =>
    have l1 := q.length
    simp [fn__law_are_names, b__law_are_names, walkD, s1, cl, sz, ba, e, areNamesP, sq'.items, sq'.len, strs_names q e, hl, l1]
    omega
/-! ### shares -/
def toQ : PyData → Rat
  | .tuple [.int n, .int d] => Rat.divInt n d
  | _ => 0
theorem divInt_red {n d : Int} (h1 : 1 ≤ d) (h2 : Int.gcd n d = 1) : (Rat.divInt n d).num = n ∧ ((Rat.divInt n d).den : Int) = d := by
  obtain ⟨a, b⟩ := frac_parts (n := n) (d := d) (by omega)
  rw [h2] at a b
  exact ⟨by simpa using a, by simpa using b⟩
theorem frac_fr {st : Store} {n : Nat} {d : D} {p : PyData} (h : pd st (n + 2) d = some p) (hp : isFracP p = true) : d = fr (toQ p) := by
  obtain ⟨i, j, rfl, h1, h2⟩ := frac_inv hp
  obtain rfl := pd_pair h
  obtain ⟨a, b⟩ := divInt_red h1 h2
  simp [fr, toQ, a, b]
theorem frac_lt {m : Nat} {p : PyData} (hp : isFracP p = true) (hs : small (2 ^ m) p = true) : Lt2 m (toQ p) := by
  obtain ⟨i, j, rfl, h1, h2⟩ := frac_inv hp
  obtain ⟨a, b⟩ := divInt_red h1 h2
  have h3 : i.natAbs < 2 ^ m ∧ j.natAbs < 2 ^ m := by
    have z : (small (2 ^ m) (.int i) && (small (2 ^ m) (.int j) && true)) = true := hs
    simp only [Bool.and_true, Bool.and_eq_true] at z
    exact ⟨of_decide_eq_true z.1, of_decide_eq_true z.2⟩
  refine ⟨by show (Rat.divInt i j).num.natAbs < _; rw [a]; exact h3.1, ?_⟩
  show (Rat.divInt i j).den < _
  omega
theorem share_frac {p : PyData} (h : isShareP p = true) : isFracP p = true := by
  unfold isShareP at h
  rw [Bool.and_eq_true] at h
  exact h.1
def sumQ (ps : List PyData) : Rat := (ps.map toQ).foldl (· + ·) 0
def areSharesP (p : PyData) (many : Nat) : Bool := match p with
  | .tuple ps => decide (ps.length = many) && ps.all isShareP && decide (sumQ ps = 1)
  | _ => false
theorem eqD_fr (st : Store) (q : Rat) : eqD st (fr q) (.tup [.int 1, .int 1]) = some (decide (q = 1)) := by
  unfold fr
  rw [eqD_pair]
  congr 1
  by_cases h : q = 1
  · subst h; rfl
  · rw [decide_eq_false h]
    by_cases a : q.num = 1
    · have b : ¬ ((q.den : Int) = 1) := fun b => h (Rat.ext a (show q.den = 1 by omega))
      rw [decide_eq_false b, Bool.and_false]
    · rw [decide_eq_false a, Bool.false_and]
theorem shares_fr {st : Store} {n : Nat} : ∀ {ds : List D} {ps : List PyData}, Pds st (n + 2) ds ps → ps.all isShareP = true → ds = (ps.map toQ).map fr
  | _, _, .nil, _ => rfl
  | _, _, .cons (d := d) (p := p) (ds := ds) (ps := ps) h t, ha => by
    rw [List.all_cons, Bool.and_eq_true] at ha
    rw [frac_fr h (share_frac ha.1), shares_fr t ha.2]
    rfl
theorem small_up {B C : Nat} (h : B ≤ C) : ∀ {p : PyData}, small B p = true → small C p = true := by
  intro p
  have go : ∀ n, (∀ p : PyData, sizeOf p < n → small B p = true → small C p = true) := by
    intro n
    induction n with
    | zero => intro p hp; omega
    | succ n ih =>
      have all_ : ∀ ps : List PyData, sizeOf ps < n + 1 → smalls B ps = true → smalls C ps = true := by
        intro ps
        induction ps with
        | nil => intro _ _; rfl
        | cons q ps ih2 =>
          intro hz hs
          have z : small B q = true ∧ smalls B ps = true := by simpa [smalls] using hs
          have hz2 : 1 + sizeOf q + sizeOf ps < n + 1 := hz
          show (small C q && smalls C ps) = true
          rw [ih q (by omega) z.1, ih2 (by omega) z.2]; rfl
      intro p hp hs
      cases p with
      | int i =>
        have : i.natAbs < B := of_decide_eq_true hs
        exact decide_eq_true (Nat.lt_of_lt_of_le this h)
      | list ps => exact all_ ps (by simp at hp; omega) hs
      | tuple ps => exact all_ ps (by simp at hp; omega) hs
      | _ => exact hs
  exact go (sizeOf p + 1) p (Nat.lt_succ_self _)
theorem pow_huge {m : Nat} (h : m ≤ 4000) : 2 ^ m ≤ BIG := Nat.pow_le_pow_right (by decide) h
theorem are_shares_run {st : Store} {k n : Nat} {m many : Nat} {d : D} {p : PyData} (h : pd st (n + 3) d = some p) (hs : small (2 ^ m) p = true) (hm : many * (m + 1) + 1 ≤ 4000) : run WH fns (k + 5) f_are_shares [d, .int many] st = .ok (.bl (areSharesP p many)) st := by
  rw [run_eq (fn := fn_are_shares) (env0 := [some d, some (.int many), none]) rfl rfl rfl rfl]
  cases pdC h with
  | @tup ds ps q =>
    have l1 := q.length
    by_cases hl : ps.length = many
    · subst hl
      have hm2 : m ≤ 4000 ∨ ps.length = 0 := by
        cases hc : ps.length with
        | zero => exact .inr rfl
        | succ t => exact .inl (by rw [hc, Nat.succ_mul] at hm; omega)
      have hs2 : ∀ p ∈ ps, small HUGE p = true := fun p hp => by
        rcases hm2 with e | e
        · exact small_up (Nat.le_trans (pow_huge e) big_huge) (smalls_mem hs p hp)
        · rw [List.length_eq_zero_iff.mp e] at hp
          cases hp
      have cl := compL_pds (g := []) (st := st) (f := lcF (run WH fns (k + 4)) [2] (.nm 2) .np are_shares_le1 [some (.tup ds), some (.int ps.length), none]) rfl (fun p => D.bl (isShareP p)) q (fun x p hp hx => by
        have z := is_share_run (k := k + 1) hx (hs2 p hp)
        simp [lcF, are_shares_le1, setT, wiped, z])
      have sz : ps.length ≤ sizeLine := by
        have : ps.length ≤ 4000 := by
          have := Nat.le_mul_of_pos_right ps.length (show 0 < m + 1 by omega)
          omega
        exact Nat.le_trans (by omega) (show 4000 ≤ sizeLine by decide)
      have ba := bc_all (st := st ++ [O.lst (ps.map fun p => D.bl (isShareP p))]) (n := st.length) (f := isShareP) (xs := ps) (by simp)
      have one_ : c_ONE = D.tup [.int 1, .int 1] := rfl
      cases e : ps.all isShareP with
      | false => simp [fn_are_shares, b_are_shares, walkD, Py.src, cl, sz, ba, e, areSharesP, l1]
      | true =>
        have t := total_run (st := st ++ [O.lst (ps.map fun p => D.bl (isShareP p)), O.lst ds]) (k := k) (b := m) (d := .ref (st.length + 1)) (qs := ps.map toQ) (g := [(st.length + 1, (ps.map toQ).map fr)]) (by
          rw [← shares_fr q e]
          simp [Py.src, lstAt]) (by
          rw [← shares_fr q e]
          simp [gOk, lstAt]) (fun x hx => by
          obtain ⟨p, hp, rfl⟩ := List.mem_map.mp hx
          exact frac_lt (share_frac (List.all_eq_true.mp e p hp)) (smalls_mem hs p hp)) (by rw [List.length_map]; exact hm)
        simp [fn_are_shares, b_are_shares, walkD, Py.src, cl, sz, ba, e, areSharesP, l1, itemsD, t, one_, eqD_fr, sumQ]
        exact decide_eq_decide.mpr Iff.rfl
    · have hl2 : ((ps.length : Int) ≠ many) := by omega
      simp [fn_are_shares, b_are_shares, areSharesP, l1, hl, hl2]
  | _ => simp [fn_are_shares, b_are_shares, areSharesP, isi_pd h, isK]
/-! ### the law's own way: over one denominator -/
def denP (ps : List PyData) : Nat := (ps.map fun p => (toQ p).den).prod
def sumL : List Rat → Rat
  | [] => 0
  | q :: qs => q + sumL qs
theorem foldl_sumL : ∀ (qs : List Rat) (a : Rat), qs.foldl (· + ·) a = a + sumL qs
  | [], a => (Rat.add_zero a).symm
  | q :: qs, a => by
    rw [List.foldl_cons, foldl_sumL qs, Rat.add_assoc]; rfl
theorem over_one {W : Nat} : ∀ (qs : List Rat), (∀ q ∈ qs, q.den ∣ W) → (((qs.map fun q => q.num * ((W : Int) / (q.den : Int))).sum : Int) : Rat) = (W : Rat) * sumL qs
  | [], _ => by simp [sumL]
  | q :: qs, h => by
    obtain ⟨c, hc⟩ := h q List.mem_cons_self
    have ih := over_one qs fun x hx => h x (List.mem_cons_of_mem _ hx)
    have hd : (q.den : Int) ≠ 0 := by have := q.den_pos; omega
    have e : (W : Int) / (q.den : Int) = c := by
      rw [hc, Int.natCast_mul, Int.mul_ediv_cancel_left _ hd]
    rw [List.map_cons, List.sum_cons, Rat.intCast_add, ih, e]
    show _ = (W : Rat) * (q + sumL qs)
    rw [Rat.mul_add]
    congr 1
    rw [hc]
    have e2 : q = (q.num : Rat) / (q.den : Rat) := by
      conv => lhs; rw [← Rat.num_divInt_den q, Rat.divInt_eq_div]
      rfl
    have nz : ((q.den : Nat) : Rat) ≠ 0 := by
      intro z
      exact q.den_nz (by exact_mod_cast z)
    have e3 : (q.num : Rat) = q * (q.den : Rat) := by
      have z := Rat.div_mul_cancel (a := (q.num : Rat)) nz
      rw [← e2] at z
      exact z.symm
    rw [Rat.intCast_mul, Rat.natCast_mul, e3, Rat.mul_assoc, Rat.mul_comm]
    rfl
/-- so the sum is one -/
theorem over_one_iff {W : Nat} (hW : 0 < W) {qs : List Rat} (h : ∀ q ∈ qs, q.den ∣ W) : (qs.map fun q => q.num * ((W : Int) / (q.den : Int))).sum = (W : Int) ↔ qs.foldl (· + ·) 0 = 1 := by
  have e := over_one qs h
  rw [foldl_sumL, Rat.zero_add]
  have nz : (W : Rat) ≠ 0 := by
    intro z
    have : W = 0 := by exact_mod_cast z
    omega
  constructor
  · intro hs
    rw [hs] at e
    have e' : (W : Rat) * sumL qs = (W : Rat) * 1 := by rw [Rat.mul_one, ← e]; rfl
    have z : (W : Rat)⁻¹ * ((W : Rat) * sumL qs) = (W : Rat)⁻¹ * ((W : Rat) * 1) := by rw [e']
    rwa [← Rat.mul_assoc, ← Rat.mul_assoc, Rat.inv_mul_cancel _ nz, Rat.one_mul, Rat.one_mul] at z
  · intro h1
    rw [h1, Rat.mul_one] at e
    exact_mod_cast e
end Py.L05
end

section
set_option Elab.async false
set_option linter.all false
set_option maxRecDepth 100000
namespace Py.L05
open PySem L2
theorem ix_fr0 (st : Store) (q : Rat) : ixD st (fr q) (.int 0) = some (.int q.num) := ix_tup0 _ _ _
theorem ix_fr1 (st : Store) (q : Rat) : ixD st (fr q) (.int 1) = some (.int q.den) := ix_tup1 _ _ _ _
/-- the product of the denominators -/
theorem whole_loop {st : Store} {cf : Nat → List D → Store → R D} {g : Guard} (hg : gOk g st = true) {d e : D} {b : Nat} : ∀ (qs : List Rat) (W m : Nat) (o : Option D), W < 2 ^ m → (∀ q ∈ qs, Lt2 b q) → m + qs.length * b ≤ 4000 →
    ∃ o', forL g (forF WH cf (.nm 3) _law_come_to_one_fb1) (qs.map fr) [some d, some e, some (.int W), o] st = .ok (.nx [some d, some e, some (.int (W * (qs.map Rat.den).prod : Nat)), o']) st
  | [], W, m, o, _, _, _ => ⟨o, by simp [forL, hg]⟩
  | q :: qs, W, m, o, hW, hq, h => by
    rw [List.length_cons, Nat.succ_mul] at h
    have hb := hq q List.mem_cons_self
    obtain ⟨o', e⟩ := whole_loop hg (cf := cf) (d := d) (e := e) qs (W * q.den) (m + b) (some (fr q)) (mul_lt_pow hW hb.2) (fun x hx => hq x (List.mem_cons_of_mem _ hx)) (by omega)
    refine ⟨o', ?_⟩
    have up : ∀ {x i : Nat}, x < 2 ^ i → i ≤ 4000 → x < HUGE := fun h1 h2 => Nat.lt_of_lt_of_le (Nat.lt_of_lt_of_le h1 (Nat.pow_le_pow_right (by decide) h2)) big_huge
    have m1 : mulOk (W : Int) (q.den : Int) = true := mulOk_of (by simpa using up hW (by omega)) (by simpa using up hb.2 (by omega))
    rw [List.map_cons, forL, if_pos hg]
    simp [forF, setT, _law_come_to_one_fb1, ix_fr1, mul_int m1]
    simpa [_law_come_to_one_fb1, Int.mul_assoc] using e
theorem prod_lt {b : Nat} : ∀ (qs : List Rat), (∀ q ∈ qs, Lt2 b q) → (qs.map Rat.den).prod < 2 ^ (qs.length * b + 1)
  | [], _ => by simp
  | q :: qs, h => by
    have ih := prod_lt qs fun x hx => h x (List.mem_cons_of_mem _ hx)
    rw [List.map_cons, List.prod_cons, List.length_cons, Nat.succ_mul]
    have z := mul_lt_pow (h q List.mem_cons_self).2 ih
    rw [show qs.length * b + b + 1 = b + (qs.length * b + 1) by omega]
    exact z
theorem dvd_prod : ∀ {qs : List Rat}, ∀ q ∈ qs, q.den ∣ (qs.map Rat.den).prod
  | q' :: qs, q, h => by
    rw [List.map_cons, List.prod_cons]
    rcases List.mem_cons.mp h with e | e
    · subst e; exact Nat.dvd_mul_right _ _
    · exact Nat.dvd_trans (dvd_prod q e) (Nat.dvd_mul_left _ _)
theorem prod_pos : ∀ (qs : List Rat), 0 < (qs.map Rat.den).prod
  | [] => by simp
  | q :: qs => by
    rw [List.map_cons, List.prod_cons]
    exact Nat.mul_pos q.den_pos (prod_pos qs)
theorem come_to_one_run {st : Store} {k n : Nat} {m many : Nat} {d : D} {p : PyData} (h : pd st (n + 3) d = some p) (hs : small (2 ^ m) p = true) (hm : many * (m + 1) + 1 ≤ 4000) : run WH fns (k + 4) f__law_come_to_one [d, .int many] st = .ok (.bl (areSharesP p many)) st := by
  rw [run_eq (fn := fn__law_come_to_one) (env0 := [some d, some (.int many), none, none]) rfl rfl rfl rfl]
  cases pdC h with
  | @tup ds ps q =>
    have l1 := q.length
    by_cases hl : ps.length = many
    · subst hl
      have hm2 : m ≤ 4000 ∨ ps.length = 0 := by
        cases hc : ps.length with
        | zero => exact .inr rfl
        | succ t => exact .inl (by rw [hc, Nat.succ_mul] at hm; omega)
      have hs2 : ∀ p ∈ ps, small BIG p = true := fun p hp => by
        rcases hm2 with e | e
        · exact small_up (pow_huge e) (smalls_mem hs p hp)
        · rw [List.length_eq_zero_iff.mp e] at hp
          cases hp
      have cl := compL_pds (g := []) (st := st) (f := lcF (run WH fns (k + 3)) [3] (.nm 3) .np _law_come_to_one_le1 [some (.tup ds), some (.int ps.length), none, none]) rfl (fun p => D.bl (isShareP p)) q (fun x p hp hx => by
        have z := law_is_share_run (k := k) hx (hs2 p hp)
        simp [lcF, _law_come_to_one_le1, setT, wiped, z])
      have sz : ps.length ≤ sizeLine := by
        have : ps.length ≤ 4000 := by
          have := Nat.le_mul_of_pos_right ps.length (show 0 < m + 1 by omega)
          omega
        exact Nat.le_trans (by omega) (show 4000 ≤ sizeLine by decide)
      have ba := in_bools (st := st ++ [O.lst (ps.map fun p => D.bl (isShareP p))]) (n := st.length) (f := isShareP) (xs := ps) (by simp)
      cases e : ps.all isShareP with
      | false => simp [fn__law_come_to_one, b__law_come_to_one, walkD, Py.src, cl, sz, ba, e, areSharesP, l1]
      | true =>
        have dsq := shares_fr q e
        have hq : ∀ x ∈ ps.map toQ, Lt2 m x := fun x hx => by
          obtain ⟨p, hp, rfl⟩ := List.mem_map.mp hx
          exact frac_lt (share_frac (List.all_eq_true.mp e p hp)) (smalls_mem hs p hp)
        have hbit : ps.length * m + ps.length + 1 ≤ 4000 := by rw [Nat.mul_add, Nat.mul_one] at hm; omega
        generalize hqs : ps.map toQ = qs at dsq hq
        have ql : qs.length = ps.length := by rw [← hqs, List.length_map]
        have st1 : ∀ z, z = st ++ [O.lst (ps.map fun p => D.bl (isShareP p))] → ∃ o', forL [] (forF WH (run WH fns (k + 3)) (.nm 3) _law_come_to_one_fb1) ds [some (.tup ds), some (.int ps.length), some (.int 1), none] z = .ok (.nx [some (.tup ds), some (.int ps.length), some (.int (1 * (qs.map Rat.den).prod : Nat)), o']) z := fun z _ => by
          obtain ⟨o', w⟩ := whole_loop (st := z) (cf := run WH fns (k + 3)) (g := []) rfl (d := .tup ds) (e := .int ps.length) (b := m) qs 1 1 none (by decide) hq (by rw [ql]; omega)
          exact ⟨o', by rw [← dsq] at w; exact w⟩
        obtain ⟨o', wl⟩ := st1 _ rfl
        rw [Nat.one_mul] at wl
        generalize hW : (qs.map Rat.den).prod = W at wl
        have Wlt : W < 2 ^ (ps.length * m + 1) := by rw [← hW, ← ql]; exact prod_lt qs hq
        have Wpos : 0 < W := by rw [← hW]; exact prod_pos qs
        have up : ∀ {x i : Nat}, x < 2 ^ i → i ≤ 4000 → x < BIG := fun h1 h2 => Nat.lt_of_lt_of_le h1 (Nat.pow_le_pow_right (by decide) h2)
        have cl2 : ∀ z, compL [] (lcF (run WH fns (k + 3)) [3] (.nm 3) .np _law_come_to_one_le2 [some (.tup ds), some (.int ps.length), some (.int W), o']) ds z = .ok (qs.map fun q => D.int (q.num * ((W : Int) / (q.den : Int)))) z := fun z => by
          conv => lhs; rw [show ds = qs.map fr from dsq]
          refine compL_mapL (g := []) rfl fr (fun q => D.int (q.num * ((W : Int) / (q.den : Int)))) fun x hx => ?_
          have hx2 := hq x hx
          have mle : m ≤ 4000 := by
            rcases hm2 with e | e
            · exact e
            · rw [← ql] at e
              rw [List.length_eq_zero_iff.mp e] at hx
              cases hx
          have dp := x.den_pos
          have dv : divOk (x.den : Int) = true := divOk_of (by omega) (by simpa using up hx2.2 mle)
          have m1 : mulOk x.num ((W : Int) / (x.den : Int)) = true := mulOk_of (Nat.lt_of_lt_of_le (up hx2.1 mle) big_huge) (by
            refine Nat.lt_of_le_of_lt (Int.natAbs_ediv_le_natAbs _ _) ?_
            exact Nat.lt_of_lt_of_le (by simpa using up Wlt (by omega)) big_huge)
          simp [lcF, _law_come_to_one_le2, setT, wiped, ix_fr0, ix_fr1, fdiv_int dv, mul_int m1]
        have sz2 : qs.length ≤ sizeLine := by rw [ql]; exact sz
        have bs := bc_sum (st := st ++ [O.lst (ps.map fun p => D.bl (isShareP p)), O.lst (qs.map fun q => D.int (q.num * ((W : Int) / (q.den : Int))))]) (n := st.length + 1) (f := fun q : Rat => q.num * ((W : Int) / (q.den : Int))) (xs := qs) (by simp)
        have key := over_one_iff Wpos (qs := qs) (by rw [← hW]; exact dvd_prod)
        simp [fn__law_come_to_one, b__law_come_to_one, walkD, Py.src, cl, sz, ba, e, areSharesP, l1, setT, wl, cl2, sz2, bs, sumQ, hqs]
        exact key
    · have hl2 : ((ps.length : Int) ≠ many) := by omega
      simp [fn__law_come_to_one, b__law_come_to_one, areSharesP, l1, hl, hl2]
  | _ => simp [fn__law_come_to_one, b__law_come_to_one, areSharesP, isi_pd h, isK]
/-! ### a trial -/
def isManyP (p : PyData) : Bool := match p with
  | .tuple ps => decide (2 ≤ ps.length) && decide (ps.length ≤ 4)
  | _ => false
def isPairP (p : PyData) : Bool := match p with
  | .tuple ps => decide (ps.length = 2)
  | _ => false
def fstP : PyData → PyData
  | .tuple (p :: _) => p
  | _ => .none
def sndP : PyData → PyData
  | .tuple (_ :: p :: _) => p
  | _ => .none
def itemsP : PyData → List PyData
  | .tuple ps => ps
  | _ => []
def isTrialP (p : PyData) : Bool := isPairP p && isManyP (fstP p) && isManyP (sndP p) && areNamesP (itemsP (fstP p)) && (itemsP (sndP p)).all isPairP && areNamesP ((itemsP (sndP p)).map fstP) && (itemsP (sndP p)).all fun w => areSharesP (sndP w) (itemsP (fstP p)).length
theorem is_many_run {st : Store} {k n : Nat} {d : D} {p : PyData} (h : pd st (n + 1) d = some p) : run WH fns (k + 1) f_is_many [d] st = .ok (.bl (isManyP p)) st := by
  rw [run_eq (fn := fn_is_many) (env0 := [some d]) rfl rfl rfl rfl]
  have a : c_LEAST_MANY = D.int 2 := rfl
  have b : c_MOST_MANY = D.int 4 := rfl
  cases pdC h with
  | @tup ds ps q =>
    have l := q.length
    by_cases c1 : 2 ≤ ps.length
    · have d1 : ((2 : Int) ≤ ps.length) := by omega
      by_cases c2 : ps.length ≤ 4
      · have d2 : ((ps.length : Int) ≤ 4) := by omega
        simp [fn_is_many, b_is_many, a, b, isManyP, l, c1, c2, d1, d2]
      · have d2 : ¬ ((ps.length : Int) ≤ 4) := by omega
        simp [fn_is_many, b_is_many, a, b, isManyP, l, c1, c2, d1, d2]
    · have d1 : ¬ ((2 : Int) ≤ ps.length) := by omega
      simp [fn_is_many, b_is_many, a, b, isManyP, l, c1, d1]
  | _ => simp [fn_is_many, b_is_many, a, b, isManyP, isi_pd h, isK]
theorem many_inv {p : PyData} (h : isManyP p = true) : ∃ ps, p = .tuple ps ∧ 2 ≤ ps.length ∧ ps.length ≤ 4 := by
  cases p with
  | tuple ps =>
    have h2 : (decide (2 ≤ ps.length) && decide (ps.length ≤ 4)) = true := h
    rw [Bool.and_eq_true] at h2
    exact ⟨ps, rfl, of_decide_eq_true h2.1, of_decide_eq_true h2.2⟩
  | _ => cases h
theorem small_snd {B : Nat} {p : PyData} (h : small B p = true) : small B (sndP p) = true := by
  unfold sndP
  split
  · rename_i a b ps
    have z : (small B a && (small B b && smalls B ps)) = true := h
    rw [Bool.and_eq_true, Bool.and_eq_true] at z
    exact z.2.1
  · rfl
theorem small_fst {B : Nat} {p : PyData} (h : small B p = true) : small B (fstP p) = true := by
  unfold fstP
  split
  · rename_i a ps
    have z : (small B a && smalls B ps) = true := h
    rw [Bool.and_eq_true] at z
    exact z.1
  · rfl
theorem smalls_fst {B : Nat} : ∀ {ws : List PyData}, smalls B ws = true → ws.all isPairP = true → smalls B (ws.map fstP) = true
  | [], _, _ => rfl
  | w :: ws, h, ha => by
    have z : (small B w && smalls B ws) = true := h
    rw [Bool.and_eq_true] at z
    rw [List.all_cons, Bool.and_eq_true] at ha
    show (small B (fstP w) && smalls B (ws.map fstP)) = true
    rw [small_fst z.1, smalls_fst z.2 ha.2]; rfl
theorem is_trial_run {st : Store} {k n : Nat} {d : D} {p : PyData} (h : pd st (n + 6) d = some p) (hs : small (2 ^ 200) p = true) : run WH fns (k + 6) f_is_trial [d] st = .ok (.bl (isTrialP p)) st := by
  rw [run_eq (fn := fn_is_trial) (env0 := [some d, none, none, none]) rfl rfl rfl rfl]
  cases pdC h with
  | @tup ds ps q =>
    cases q with
    | nil => simp [fn_is_trial, b_is_trial, isTrialP, isPairP]
    | @cons d1 p1 ds ps h1 q =>
      cases q with
      | nil => simp [fn_is_trial, b_is_trial, isTrialP, isPairP]
      | @cons d2 p2 ds ps h2 q =>
        cases q with
        | @cons d3 p3 ds ps h3 q =>
          have e : ¬((ds.length : Int) + 1 + 1 + 1 = 2) := by omega
          simp [fn_is_trial, b_is_trial, isTrialP, isPairP, e]
        | nil =>
          have m1 := is_many_run (k := k + 4) h1
          have m2 := is_many_run (k := k + 4) h2
          have s12 : small (2 ^ 200) p1 = true ∧ small (2 ^ 200) p2 = true := by
            have z : (small (2 ^ 200) p1 && (small (2 ^ 200) p2 && true)) = true := hs
            rw [Bool.and_true, Bool.and_eq_true] at z
            exact z
          cases e1 : isManyP p1 with
          | false => simp [fn_is_trial, b_is_trial, isTrialP, isPairP, m1, m2, e1, fstP]
          | true =>
            cases e2 : isManyP p2 with
            | false => simp [fn_is_trial, b_is_trial, isTrialP, isPairP, m1, m2, e1, e2, fstP, sndP]
            | true =>
              obtain ⟨fs, rfl, f2, f4⟩ := many_inv e1
              obtain ⟨ws, rfl, w2, w4⟩ := many_inv e2
              cases pdC h1 with
              | @tup fds _ fq =>
                cases pdC h2 with
                | @tup wds _ wq =>
                  have sf : smalls (2 ^ 200) fs = true := s12.1
                  have sw : smalls (2 ^ 200) ws = true := s12.2
                  have n1 := are_names_run (k := k + 3) (sq_tup st fds) fq sf (by omega)
                  have lf := fq.length
                  have lw := wq.length
                  have c1 := compL_pds (g := []) (st := st) (f := lcF (run WH fns (k + 5)) [3] (.nm 3) .np is_trial_le1 [some (.tup [.tup fds, .tup wds]), some (.tup fds), some (.tup wds), none]) rfl (fun p => D.bl (isPairP p)) wq (fun x p hp hx => by
                    cases pdC hx with
                    | @tup xs xp xq =>
                      have lx := xq.length
                      by_cases c : xp.length = 2
                      · have c' : (xp.length : Int) = 2 := by omega
                        simp [lcF, is_trial_le1, setT, wiped, isPairP, lx, c, c']
                      · have c' : ¬ (xp.length : Int) = 2 := by omega
                        simp [lcF, is_trial_le1, setT, wiped, isPairP, lx, c, c']
                    | _ => simp [lcF, is_trial_le1, setT, wiped, isPairP, isi_pd hx, isK])
                  have z1 : ws.length ≤ sizeLine := Nat.le_trans w4 (by decide)
                  have b1 := bc_all (st := st ++ [O.lst (ws.map fun p => D.bl (isPairP p))]) (n := st.length) (f := isPairP) (xs := ws) (by simp)
                  have ev : isTrialP (.tuple [.tuple fs, .tuple ws]) = (areNamesP fs && ws.all isPairP && areNamesP (ws.map fstP) && ws.all fun w => areSharesP (sndP w) fs.length) := by
                    have ep : isPairP (.tuple [.tuple fs, .tuple ws]) = true := rfl
                    simp only [isTrialP, ep, fstP, sndP, e1, e2, itemsP, Bool.true_and]
                  rw [ev]
                  cases eN : areNamesP fs with
                  | false => simp [fn_is_trial, b_is_trial, m1, m2, e1, e2, setT, n1, eN]
                  | true =>
                    cases eP : ws.all isPairP with
                    | false => simp [fn_is_trial, b_is_trial, m1, m2, e1, e2, setT, n1, eN, walkD, Py.src, c1, z1, b1, eP]
                    | true =>
                      have pair_ : ∀ {x : D} {p : PyData} {st : Store}, p ∈ ws → pd st (n + 4) x = some p → ∃ a b, x = .tup [a, b] ∧ pd st (n + 3) a = some (fstP p) ∧ pd st (n + 3) b = some (sndP p) := fun {x p st} hp hx => by
                        have hpp := List.all_eq_true.mp eP p hp
                        cases pdC hx with
                        | @tup xs xp xq =>
                          have l2 : xp.length = 2 := of_decide_eq_true hpp
                          cases xq with
                          | nil => simp at l2
                          | cons ha xq =>
                            cases xq with
                            | nil => simp at l2
                            | cons hb xq =>
                              cases xq with
                              | nil => exact ⟨_, _, rfl, ha, hb⟩
                              | cons _ _ => simp at l2
                        | _ => cases hpp
                      obtain ⟨ns, c2, q2⟩ := compL_pdsX (g := []) (st := st ++ [O.lst (ws.map fun p => D.bl (isPairP p))]) (f := lcF (run WH fns (k + 5)) [3] (.nm 3) .np is_trial_le2 [some (.tup [.tup fds, .tup wds]), some (.tup fds), some (.tup wds), none]) (m := n + 3) rfl fstP wq.app (fun x p hp hx => by
                        obtain ⟨a, b, rfl, ha, hb⟩ := pair_ hp hx
                        exact ⟨a, by simp [lcF, is_trial_le2, setT, wiped], ha⟩)
                      have l2 := q2.length
                      have z2 : ns.length ≤ sizeLine := by rw [l2, List.length_map]; exact z1
                      have sfst : smalls (2 ^ 200) (ws.map fstP) = true := smalls_fst sw eP
                      have n2 := are_names_run (k := k + 3) (st := st ++ [O.lst (ws.map fun p => D.bl (isPairP p)), O.lst ns]) (d := .ref (st.length + 1)) (sq_lst (ds := ns) (by simp [lstAt])) (q2.app (more := [O.lst ns]) |> fun z => by simpa using z) sfst (by rw [List.length_map]; omega)
                      have c3 := compL_pds (g := []) (st := st ++ [O.lst (ws.map fun p => D.bl (isPairP p)), O.lst ns]) (f := lcF (run WH fns (k + 5)) [3] (.nm 3) .np is_trial_le3 [some (.tup [.tup fds, .tup wds]), some (.tup fds), some (.tup wds), none]) rfl (fun p => D.bl (areSharesP (sndP p) fs.length)) wq.app (fun x p hp hx => by
                        obtain ⟨a, b, rfl, ha, hb⟩ := pair_ hp hx
                        have z := are_shares_run (k := k) (many := fs.length) (st := st ++ [O.lst (ws.map fun p => D.bl (isPairP p)), O.lst ns]) (m := 200) hb (small_snd (smalls_mem sw p hp)) (by omega)
                        simp [lcF, is_trial_le3, setT, wiped, lf, z])
                      have b3 := bc_all (st := st ++ [O.lst (ws.map fun p => D.bl (isPairP p)), O.lst ns, O.lst (ws.map fun p => D.bl (areSharesP (sndP p) fs.length))]) (n := st.length + 2) (f := fun p => areSharesP (sndP p) fs.length) (xs := ws) (by simp)
                      cases eM : areNamesP (ws.map fstP) with
                      | false => simp [fn_is_trial, b_is_trial, m1, m2, e1, e2, setT, n1, eN, walkD, Py.src, c1, z1, b1, eP, c2, z2, n2, eM]
                      | true => simp [fn_is_trial, b_is_trial, m1, m2, e1, e2, setT, n1, eN, walkD, Py.src, c1, z1, b1, eP, c2, z2, n2, eM, c3, b3]
  | _ => simp [fn_is_trial, b_is_trial, isTrialP, isPairP, isi_pd h, isK]
end Py.L05
end

section
set_option Elab.async false
set_option linter.all false
set_option maxRecDepth 100000
namespace Py.L05
open PySem L2
theorem lt_fb1 {st : Store} {n : Nat} {cf : Nat → List D → Store → R D} {x : D} {d : D} {o : Option D} {p : PyData} (h : pd st (n + 1) d = some p) : forF WH cf (.nm 1) _law_is_trial_fb1 d [some x, o, none] st = if isManyP p then .ok (.nx [some x, some d, none]) st else .ok (.rt (.bl false)) st := by
  cases pdC h with
  | @tup ds ps q =>
    have l := q.length
    by_cases c1 : 2 ≤ ps.length
    · have d1 : ((2 : Int) ≤ ps.length) := by omega
      by_cases c2 : ps.length ≤ 4
      · have d2 : ((ps.length : Int) ≤ 4) := by omega
        simp [forF, setT, _law_is_trial_fb1, isManyP, l, c1, c2, d1, d2]
      · have d2 : ¬ ((ps.length : Int) ≤ 4) := by omega
        simp [forF, setT, _law_is_trial_fb1, isManyP, l, c1, c2, d1, d2]
    · have d1 : ¬ ((2 : Int) ≤ ps.length) := by omega
      simp [forF, setT, _law_is_trial_fb1, isManyP, l, c1, d1]
  | _ => simp [forF, setT, _law_is_trial_fb1, isManyP, isi_pd h, isK]
theorem lt_fb2 {st : Store} {n : Nat} {cf : Nat → List D → Store → R D} {x y : D} : ∀ {ds : List D} {ps : List PyData} (o : Option D), Pds st (n + 1) ds ps →
    ∃ o', forL [] (forF WH cf (.nm 2) _law_is_trial_fb2) ds [some x, some y, o] st = if ps.all isPairP then .ok (.nx [some x, some y, o']) st else .ok (.rt (.bl false)) st
  | _, _, o, .nil => ⟨o, by simp [forL]⟩
  | _, _, o, .cons (d := d) (p := p) (ds := ds) (ps := ps) h t => by
    obtain ⟨o', e⟩ := lt_fb2 (cf := cf) (x := x) (y := y) (some d) t
    refine ⟨o', ?_⟩
    rw [forL, if_pos (gOk_nil _)]
    have hd : forF WH cf (.nm 2) _law_is_trial_fb2 d [some x, some y, o] st = if isPairP p then .ok (.nx [some x, some y, some d]) st else .ok (.rt (.bl false)) st := by
      cases pdC h with
      | @tup xs xp xq =>
        have l := xq.length
        by_cases c : xp.length = 2
        · have c' : (xp.length : Int) = 2 := by omega
          simp [forF, setT, _law_is_trial_fb2, isPairP, l, c, c']
        · have c' : ¬ (xp.length : Int) = 2 := by omega
          simp [forF, setT, _law_is_trial_fb2, isPairP, l, c, c']
      | _ => simp [forF, setT, _law_is_trial_fb2, isPairP, isi_pd h, isK]
    rw [hd, List.all_cons]
    cases isPairP p with
    | false => simp
    | true => simpa using e
theorem law_is_trial_run {st : Store} {k n : Nat} {d : D} {p : PyData} (h : pd st (n + 6) d = some p) (hs : small (2 ^ 200) p = true) : run WH fns (k + 5) f__law_is_trial [d] st = .ok (.bl (isTrialP p)) st := by
  rw [run_eq (fn := fn__law_is_trial) (env0 := [some d, none, none]) rfl rfl rfl rfl]
  cases pdC h with
  | @tup ds ps q =>
    cases q with
    | nil => simp [fn__law_is_trial, b__law_is_trial, isTrialP, isPairP]
    | @cons d1 p1 ds ps h1 q =>
      cases q with
      | nil => simp [fn__law_is_trial, b__law_is_trial, isTrialP, isPairP]
      | @cons d2 p2 ds ps h2 q =>
        cases q with
        | @cons d3 p3 ds ps h3 q =>
          have e : ¬((ds.length : Int) + 1 + 1 + 1 = 2) := by omega
          simp [fn__law_is_trial, b__law_is_trial, isTrialP, isPairP, e]
        | nil =>
          have s12 : small (2 ^ 200) p1 = true ∧ small (2 ^ 200) p2 = true := by
            have z : (small (2 ^ 200) p1 && (small (2 ^ 200) p2 && true)) = true := hs
            rw [Bool.and_true, Bool.and_eq_true] at z
            exact z
          have t1 := lt_fb1 (cf := run WH fns (k + 4)) (x := .tup [d1, d2]) (o := none) h1
          have t2 := lt_fb1 (cf := run WH fns (k + 4)) (x := .tup [d1, d2]) (o := some d1) h2
          have lp : forL [] (forF WH (run WH fns (k + 4)) (.nm 1) _law_is_trial_fb1) [d1, d2] [some (.tup [d1, d2]), none, none] st = if isManyP p1 && isManyP p2 then .ok (.nx [some (.tup [d1, d2]), some d2, none]) st else .ok (.rt (.bl false)) st := by
            rw [forL, if_pos (gOk_nil _), t1]
            cases isManyP p1 with
            | false => simp
            | true =>
              simp only [if_true, R.bind_ok]
              rw [forL, if_pos (gOk_nil _), t2]
              cases isManyP p2 with
              | false => simp
              | true =>
                simp only [if_true, R.bind_ok]
                rw [forL, if_pos (gOk_nil _)]; rfl
          cases e12 : isManyP p1 && isManyP p2 with
          | false =>
            have ev : isTrialP (.tuple [p1, p2]) = false := by
              have ep : isPairP (.tuple [p1, p2]) = true := rfl
              unfold isTrialP
              rw [ep]
              simp only [fstP, sndP, Bool.true_and, e12, Bool.false_and]
            rw [ev]
            simp [fn__law_is_trial, b__law_is_trial, walkD, Py.src, lp, e12]
          | true =>
            obtain ⟨e1, e2⟩ := Bool.and_eq_true_iff.mp e12
            obtain ⟨fs, rfl, f2, f4⟩ := many_inv e1
            obtain ⟨ws, rfl, w2, w4⟩ := many_inv e2
            cases pdC h1 with
            | @tup fds _ fq =>
              cases pdC h2 with
              | @tup wds _ wq =>
                have sf : smalls (2 ^ 200) fs = true := s12.1
                have sw : smalls (2 ^ 200) ws = true := s12.2
                have lf := fq.length
                have ev : isTrialP (.tuple [.tuple fs, .tuple ws]) = (areNamesP fs && ws.all isPairP && areNamesP (ws.map fstP) && ws.all fun w => areSharesP (sndP w) fs.length) := by
                  have ep : isPairP (.tuple [.tuple fs, .tuple ws]) = true := rfl
                  simp only [isTrialP, ep, fstP, sndP, e1, e2, itemsP, Bool.true_and]
                rw [ev]
                obtain ⟨o', w⟩ := lt_fb2 (cf := run WH fns (k + 4)) (x := .tup [.tup fds, .tup wds]) (y := .tup wds) none wq
                cases eP : ws.all isPairP with
                | false => simp [fn__law_is_trial, b__law_is_trial, walkD, Py.src, lp, e12, e1, e2, w, eP]
                | true =>
                  have n1 := law_are_names_run (k := k + 2) (st := st ++ [O.lst fds]) (d := .ref st.length) (sq_lst (ds := fds) (by simp [lstAt])) fq.app sf (by omega)
                  cases eN : areNamesP fs with
                  | false => simp [fn__law_is_trial, b__law_is_trial, walkD, Py.src, lp, e12, e1, e2, w, eP, itemsD, n1, eN]
                  | true =>
                    have pair_ : ∀ {x : D} {p : PyData} {st : Store}, p ∈ ws → pd st (n + 4) x = some p → ∃ a b, x = .tup [a, b] ∧ pd st (n + 3) a = some (fstP p) ∧ pd st (n + 3) b = some (sndP p) := fun {x p st} hp hx => by
                      have hpp := List.all_eq_true.mp eP p hp
                      cases pdC hx with
                      | @tup xs xp xq =>
                        have l2 : xp.length = 2 := of_decide_eq_true hpp
                        cases xq with
                        | nil => simp at l2
                        | cons ha xq =>
                          cases xq with
                          | nil => simp at l2
                          | cons hb xq =>
                            cases xq with
                            | nil => exact ⟨_, _, rfl, ha, hb⟩
                            | cons _ _ => simp at l2
                      | _ => cases hpp
                    obtain ⟨ns, c2, q2⟩ := compL_pdsX (g := []) (st := st ++ [O.lst fds]) (f := lcF (run WH fns (k + 4)) [2] (.nm 2) .np _law_is_trial_le1 [some (.tup [.tup fds, .tup wds]), some (.tup wds), o']) (m := n + 3) rfl fstP wq.app (fun x p hp hx => by
                      obtain ⟨a, b, rfl, ha, hb⟩ := pair_ hp hx
                      exact ⟨a, by simp [lcF, _law_is_trial_le1, setT, wiped], ha⟩)
                    have l2 := q2.length
                    have z2 : ns.length ≤ sizeLine := by rw [l2, List.length_map]; exact Nat.le_trans w4 (by decide)
                    have sfst : smalls (2 ^ 200) (ws.map fstP) = true := smalls_fst sw eP
                    have n2 := law_are_names_run (k := k + 2) (st := st ++ [O.lst fds, O.lst ns]) (d := .ref (st.length + 1)) (sq_lst (ds := ns) (by simp [lstAt])) (q2.app (more := [O.lst ns]) |> fun z => by simpa using z) sfst (by rw [List.length_map]; omega)
                    have c3 := compL_pds (g := []) (st := st ++ [O.lst fds, O.lst ns]) (f := lcF (run WH fns (k + 4)) [2] (.nm 2) .np _law_is_trial_le2 [some (.tup [.tup fds, .tup wds]), some (.tup wds), o']) rfl (fun p => D.bl (areSharesP (sndP p) fs.length)) wq.app (fun x p hp hx => by
                      obtain ⟨a, b, rfl, ha, hb⟩ := pair_ hp hx
                      have z := come_to_one_run (k := k) (many := fs.length) (st := st ++ [O.lst fds, O.lst ns]) (m := 200) hb (small_snd (smalls_mem sw p hp)) (by omega)
                      simp [lcF, _law_is_trial_le2, setT, wiped, lf, z])
                    have z3 : ws.length ≤ sizeLine := Nat.le_trans w4 (by decide)
                    have b3 := in_bools (st := st ++ [O.lst fds, O.lst ns, O.lst (ws.map fun p => D.bl (areSharesP (sndP p) fs.length))]) (n := st.length + 2) (f := fun p => areSharesP (sndP p) fs.length) (xs := ws) (by simp)
                    cases eM : areNamesP (ws.map fstP) with
                    | false => simp [fn__law_is_trial, b__law_is_trial, walkD, Py.src, lp, e12, e1, e2, w, eP, itemsD, n1, eN, c2, z2, n2, eM]
                    | true => simp [fn__law_is_trial, b__law_is_trial, walkD, Py.src, lp, e12, e1, e2, w, eP, itemsD, n1, eN, c2, z2, n2, eM, c3, z3, b3]
  | _ => simp [fn__law_is_trial, b__law_is_trial, isTrialP, isPairP, isi_pd h, isK]
end Py.L05
end

section
set_option Elab.async false
set_option linter.all false
set_option maxRecDepth 100000
namespace Py.L05
open PySem L2
/-! ### the feed -/
def fo (C : Nat) (c g : Int) (a : Nat) : O := .lst [.ref C, .int c, .int g, .int a]
structure Feed (st : Store) (F : Nat) (m : Nat) : Prop where
  ex : ∃ (C : Nat) (cs : List Int) (c g : Int) (a : Nat), st[F]? = some (fo C c g a) ∧ st[C]? = some (.lst (cs.map D.int)) ∧ C < F ∧ 0 ≤ c ∧ c ≤ m ∧ 0 ≤ g ∧ cs.length ≤ 63
/-- how many draws there were -/
def cnt (st : Store) (F : Nat) : Int := match st[F]? with
  | some (.lst [_, .int c, _, _]) => c
  | _ => 0
/-- what a draw leaves: but for the feed the store is as it was -/
structure Step (F : Nat) (st st' : Store) : Prop where
  len : st.length ≤ st'.length
  at_ : ∀ i, i < st.length → i ≠ F → st'[i]? = st[i]?
  cn : cnt st F ≤ cnt st' F
def Drawn (F : Nat) (st st' : Store) : Prop := cnt st F < cnt st' F
theorem Step.refl {F : Nat} {st : Store} : Step F st st := ⟨Nat.le_refl _, fun _ _ _ => rfl, Int.le_refl _⟩
theorem Step.trans {F : Nat} {a b c : Store} (h : Step F a b) (k : Step F b c) : Step F a c := ⟨Nat.le_trans h.len k.len, fun i hi hf => (k.at_ i (Nat.lt_of_lt_of_le hi h.len) hf).trans (h.at_ i hi hf), Int.le_trans h.cn k.cn⟩
theorem Drawn.left {F : Nat} {a b c : Store} (h : Drawn F a b) (k : Step F b c) : Drawn F a c := Int.lt_of_lt_of_le h k.cn
theorem Drawn.right {F : Nat} {a b c : Store} (h : Step F a b) (k : Drawn F b c) : Drawn F a c := Int.lt_of_le_of_lt h.cn k
theorem Feed.lt {st : Store} {F m : Nat} (h : Feed st F m) : F < st.length := by
  obtain ⟨C, cs, c, g, a, h1, _⟩ := h.ex
  exact (List.getElem?_eq_some_iff.mp h1).1
theorem cnt_app {F : Nat} {a : Store} (hF : F < a.length) (more : Store) : cnt (a ++ more) F = cnt a F := by
  unfold cnt
  rw [List.getElem?_append_left hF]
theorem Step.app {F : Nat} {a : Store} (hF : F < a.length) (more : Store) : Step F a (a ++ more) := ⟨by simp, fun i hi _ => List.getElem?_append_left hi, by rw [cnt_app hF]; exact Int.le_refl _⟩
theorem Feed.app {st more : Store} {F m : Nat} (h : Feed st F m) : Feed (st ++ more) F m := by
  obtain ⟨C, cs, c, g, a, h1, h2, r⟩ := h.ex
  have up : ∀ {i : Nat} {o : O}, st[i]? = some o → (st ++ more)[i]? = some o := fun e => by
    rw [List.getElem?_append_left (List.getElem?_eq_some_iff.mp e).1]; exact e
  exact ⟨C, cs, c, g, a, up h1, up h2, r⟩
theorem Feed.up {st : Store} {F m n : Nat} (h : Feed st F m) (hn : m ≤ n) : Feed st F n := by
  obtain ⟨C, cs, c, g, a, h1, h2, h3, h4, h5, r⟩ := h.ex
  exact ⟨C, cs, c, g, a, h1, h2, h3, h4, by omega, r⟩
theorem p18 : powOk 10 18 = true := by decide
section
variable {st : Store} {F C : Nat} {cs : List Int} {c : Int} {m : D} {cf : Nat → List D → Store → R D}
theorem fo_at (hF : F < st.length) (g : Int) (a : Nat) : lstAt (st.set F (fo C c g a)) F = some [.ref C, .int c, .int g, .int a] := lstAt_set hF _
theorem fo_get (hF : F < st.length) (g : Int) (a : Nat) : (st.set F (fo C c g a))[F]? = some (.lst [.ref C, .int c, .int g, .int a]) := List.getElem?_set_self hF
theorem cs_at (hne : F ≠ C) (hC : st[C]? = some (.lst (cs.map D.int))) (o : O) : lstAt (st.set F o) C = some (cs.map D.int) := by
  rw [lstAt_ne hne, lstAt_of hC]
theorem put1 (hF : F < st.length) (g : Int) (a : Nat) (v : Int) (env : Sl) : putD env (st.set F (fo C c g a)) (.ref F) (.int 1) (.int v) = .ok (.nx env) (st.set F (fo C v g a)) := by
  have z := put_lst (k := 1) (fo_get (C := C) (c := c) hF g a) (show 1 < 4 by decide) env (.int v)
  rw [List.set_set] at z
  exact z
theorem put2 (hF : F < st.length) (g : Int) (a : Nat) (v : Int) (env : Sl) : putD env (st.set F (fo C c g a)) (.ref F) (.int 2) (.int v) = .ok (.nx env) (st.set F (fo C c v a)) := by
  have z := put_lst (k := 2) (fo_get (C := C) (c := c) hF g a) (show 2 < 4 by decide) env (.int v)
  rw [List.set_set] at z
  exact z
theorem put3 (hF : F < st.length) (g : Int) (a : Nat) (env : Sl) : putD env (st.set F (fo C c g a)) (.ref F) (.int 3) (.int ((a : Int) + 1)) = .ok (.nx env) (st.set F (fo C c g (a + 1))) := by
  have z := put_lst (k := 3) (fo_get (C := C) (c := c) hF g a) (show 3 < 4 by decide) env (.int ((a : Int) + 1))
  rw [List.set_set] at z
  exact z
theorem draw_loop (hF : F < st.length) (hC : st[C]? = some (.lst (cs.map D.int))) (hne : F ≠ C) : ∀ (n : Nat) (g : Int) (a : Nat), cs.length - a < n → 0 ≤ g →
    ∃ g' a', whl (whC cf _law_draw_wc1) (ex WH cf _law_draw_wb1) n [some (.ref F), some m, none, none, none] (st.set F (fo C c g a)) = .ok (.nx [some (.ref F), some m, none, none, none]) (st.set F (fo C c g' a')) ∧ 0 ≤ g'
  | 0, g, a, h, _ => by omega
  | n + 1, g, a, h, hg => by
    have f1 := fun g a => fo_at (st := st) (C := C) (c := c) hF g a
    have f2 := fun g a => fo_get (st := st) (C := C) (c := c) hF g a
    have q2 := fun g a v env => put2 (st := st) (C := C) (c := c) hF g a v env
    have q3 := fun g a env => put3 (st := st) (C := C) (c := c) hF g a env
    have f3 := fun o => cs_at (st := st) hne hC o
    rw [whl]
    by_cases hg0 : g = 0
    · subst hg0
      by_cases ha : a < cs.length
      · have ha' : (a : Int) < cs.length := by omega
        have hx : atI (cs.map D.int) (a : Int) = some (.int cs[a]) := atI_nat (by simp [ha])
        by_cases hbig : (1000000000000000000 : Int) ≤ (if cs[a] < 0 then -cs[a] else cs[a])
        · obtain ⟨g', a', e, hg'⟩ := draw_loop hF hC hne n (if cs[a] < 0 then -cs[a] else cs[a]) (a + 1) (by omega) (by split <;> omega)
          refine ⟨g', a', ?_, hg'⟩
          simp only [_law_draw_wb1, _law_draw_wc1] at e
          simp [whC, _law_draw_wc1, _law_draw_wb1, ix_ref (f1 _ _), ix_ref (f3 _), len_ref (f3 _), ha', hx, pow_int p18, hbig, q2, q3, e]
        · obtain ⟨g', a', e, hg'⟩ := draw_loop hF hC hne n 0 (a + 1) (by omega) (Int.le_refl 0)
          refine ⟨g', a', ?_, hg'⟩
          simp only [_law_draw_wb1, _law_draw_wc1] at e
          simp [whC, _law_draw_wc1, _law_draw_wb1, ix_ref (f1 _ _), ix_ref (f3 _), len_ref (f3 _), ha', hx, pow_int p18, hbig, q2, q3, e]
      · have ha' : ¬ ((a : Int) < cs.length) := by omega
        exact ⟨0, a, by simp [whC, _law_draw_wc1, ix_ref (f1 _ _), ix_ref (f3 _), len_ref (f3 _), ha'], hg⟩
    · exact ⟨g, a, by simp [whC, _law_draw_wc1, ix_ref (f1 _ _), hg0], hg⟩
theorem mul_nat_lt {x y : Int} {a b : Nat} (hx0 : 0 ≤ x) (hx : x < a) (hy0 : 0 ≤ y) (hy : y < b) (h : a < BIG) (h2 : b < BIG) : mulOk x y = true := by
  have u := big_huge
  exact mulOk_of (by omega) (by omega)
theorem draw_run {st : Store} {F k m : Nat} {many : Int} (h : Feed st F m) (h0 : 0 < many) (h1 : many < 1000000) (hm : m + 2 < BIG) :
    ∃ r st', run WH fns (k + 1) f__law_draw [.ref F, .int many] st = .ok (.int r) st' ∧ 0 ≤ r ∧ r < many ∧ Feed st' F (m + 1) ∧ Step F st st' ∧ Drawn F st st' ∧ st'.length = st.length := by
  obtain ⟨C, cs, c, g, a, e1, e2, hlt, c0, cm, g0, hl⟩ := h.ex
  have hne : F ≠ C := by omega
  have hF : F < st.length := (List.getElem?_eq_some_iff.mp e1).1
  have hst : st = st.set F (fo C c g a) := by
    obtain ⟨_, he⟩ := List.getElem?_eq_some_iff.mp e1
    rw [← he, List.set_getElem_self]
  rw [run_eq (fn := fn__law_draw) (env0 := [some (.ref F), some (.int many), none, none, none]) rfl rfl rfl rfl]
  obtain ⟨g', a', lp, hg'⟩ := draw_loop (c := c + 1) (m := .int many) (cf := run WH fns k) hF e2 hne WH g a (by unfold WH; omega) g0
  have f1 := fun c g a => fo_at (st := st) (C := C) (c := c) hF g a
  have q1 := fun c g a v env => put1 (st := st) (C := C) (c := c) hF g a v env
  have q2 := fun c g a v env => put2 (st := st) (C := C) (c := c) hF g a v env
  have f3 := fun o => cs_at (st := st) hne e2 o
  have fin : ∀ (g : Int) (a : Nat), 0 ≤ g → Feed (st.set F (fo C (c + 1) g a)) F (m + 1) ∧ Step F st (st.set F (fo C (c + 1) g a)) ∧ Drawn F st (st.set F (fo C (c + 1) g a)) ∧ (st.set F (fo C (c + 1) g a)).length = st.length := fun g a hg => by
    have k1 : cnt st F = c := by unfold cnt; rw [e1]; rfl
    have k2 : cnt (st.set F (fo C (c + 1) g a)) F = c + 1 := by unfold cnt; rw [List.getElem?_set_self hF]; rfl
    refine ⟨⟨C, cs, c + 1, g, a, List.getElem?_set_self hF, by rw [List.getElem?_set_ne hne]; exact e2, hlt, by omega, by omega, hg, hl⟩, ⟨by simp, fun i _ hf => List.getElem?_set_ne (Ne.symm hf), by rw [k1, k2]; omega⟩, by show cnt st F < cnt _ F; rw [k1, k2]; omega, by simp⟩
  have mb : (1000000 : Nat) < BIG := by decide
  have lv : ∀ (r g : Int) (a : Nat), leave st (.int r) (st.set F (fo C (c + 1) g a)) = .ok (.int r) (st.set F (fo C (c + 1) g a)) := fun r g a => leave_len (by simp) _
  have f0 : lstAt st F = some [.ref C, .int c, .int g, .int a] := by
    rw [hst]; exact f1 c g a
  have q0 : ∀ (v : Int) (env : Sl), putD env st (.ref F) (.int 1) (.int v) = .ok (.nx env) (st.set F (fo C v g a)) := fun v env => by
    have z := q1 c g a v env
    rw [← hst] at z
    exact z
  by_cases hg2 : 0 < g'
  · have dv : divOk many = true := divOk_of h0 (by omega)
    refine ⟨g' % many, st.set F (fo C (c + 1) (g' / many) a'), ?_, Int.emod_nonneg _ (by omega), Int.emod_lt_of_pos _ h0, fin _ _ (Int.ediv_nonneg hg' (by omega))⟩
    simp [fn__law_draw, b__law_draw, ix_ref f0, q0, lp, ix_ref (f1 _ _ _), hg2, mod_int h0, fdiv_int dv, q2, setT, lv]
  · have bounds : ∀ x j : Int, 0 < j → 0 ≤ x % j ∧ x % j < j := fun x j hj => ⟨Int.emod_nonneg _ (by omega), Int.emod_lt_of_pos _ hj⟩
    have tail : ∀ (cell : Int), ∃ x1 x2 x3 : Int, cell % 2147483647 = x1 ∧ (x1 * 48271 + 7919 * (c + 1) + 12345) % 2147483629 = x2 ∧ (x2 * (x2 + 40692)) % 2147483587 = x3 ∧ mulOk x1 48271 = true ∧ mulOk 7919 (c + 1) = true ∧ mulOk x2 (x2 + 40692) = true ∧ mulOk x3 16807 = true := fun cell => by
      obtain ⟨b1, b2⟩ := bounds cell 2147483647 (by decide)
      generalize hx1 : cell % 2147483647 = x1 at b1 b2
      obtain ⟨b3, b4⟩ := bounds (x1 * 48271 + 7919 * (c + 1) + 12345) 2147483629 (by decide)
      generalize hx2 : (x1 * 48271 + 7919 * (c + 1) + 12345) % 2147483629 = x2 at b3 b4
      obtain ⟨b5, b6⟩ := bounds (x2 * (x2 + 40692)) 2147483587 (by decide)
      generalize hx3 : (x2 * (x2 + 40692)) % 2147483587 = x3 at b5 b6
      have big2 : (3000000000 : Nat) < BIG := by decide
      have n1 : mulOk x1 48271 = true := mul_nat_lt (a := 3000000000) (b := 3000000000) b1 (by omega) (by decide) (by decide) big2 big2
      have n2 : mulOk 7919 (c + 1) = true := mul_nat_lt (a := 3000000000) (b := m + 2) (by decide) (by decide) (by omega) (by omega) big2 hm
      have n3 : mulOk x2 (x2 + 40692) = true := mul_nat_lt (a := 3000000000) (b := 3000000000) b3 (by omega) (by omega) (by omega) big2 big2
      have n4 : mulOk x3 16807 = true := mul_nat_lt (a := 3000000000) (b := 3000000000) b5 (by omega) (by decide) (by decide) big2 big2
      exact ⟨x1, x2, x3, rfl, hx2, hx3, n1, n2, n3, n4⟩
    have m1 := fun i st => mod_int (show (0 : Int) < 2147483647 by decide) i st
    have m2 := fun i st => mod_int (show (0 : Int) < 2147483629 by decide) i st
    have m3 := fun i st => mod_int (show (0 : Int) < 2147483587 by decide) i st
    have m4 := fun i st => mod_int (show (0 : Int) < 2147483563 by decide) i st
    by_cases hc : cs = []
    · subst hc
      obtain ⟨x1, x2, x3, hx1, hx2, hx3, n1, n2, n3, n4⟩ := tail 0
      have z1 : x1 = 0 := by rw [← hx1]; rfl
      subst z1
      refine ⟨x3 * 16807 % 2147483563 % many, st.set F (fo C (c + 1) g' a'), ?_, Int.emod_nonneg _ (by omega), Int.emod_lt_of_pos _ h0, fin _ _ hg'⟩
      simp at hx2
      simp [fn__law_draw, b__law_draw, ix_ref f0, q0, lp, ix_ref (f1 _ _ _), hg2, setT, ix_ref (f3 _), len_ref (f3 _), m1, m2, m3, m4, mod_int h0, mul_int n1, mul_int n2, hx2, mul_int n3, hx3, mul_int n4, lv]
    · have hlen : 0 < cs.length := List.length_pos_iff.mpr hc
      have hlen' : (0 : Int) < cs.length := by omega
      obtain ⟨i0, i1⟩ := bounds (c + 1) cs.length hlen'
      obtain ⟨j, hj⟩ : ∃ j : Nat, (c + 1) % (cs.length : Int) = j := ⟨((c + 1) % (cs.length : Int)).toNat, by omega⟩
      have hjl : j < cs.length := by omega
      have hx : atI (cs.map D.int) (j : Int) = some (.int cs[j]) := atI_nat (by simp [hjl])
      obtain ⟨x1, x2, x3, hx1, hx2, hx3, n1, n2, n3, n4⟩ := tail cs[j]
      refine ⟨x3 * 16807 % 2147483563 % many, st.set F (fo C (c + 1) g' a'), ?_, Int.emod_nonneg _ (by omega), Int.emod_lt_of_pos _ h0, fin _ _ hg'⟩
      simp [fn__law_draw, b__law_draw, ix_ref f0, q0, lp, ix_ref (f1 _ _ _), hg2, setT, ix_ref (f3 _), len_ref (f3 _), hlen, mod_int hlen', hj, hx, m1, m2, m3, m4, mod_int h0, hx1, mul_int n1, mul_int n2, hx2, mul_int n3, hx3, mul_int n4, lv]
end
end Py.L05
end

section
set_option Elab.async false
set_option linter.all false
set_option maxRecDepth 100000
namespace Py.L05
open PySem L2
/-! ### data beside the feed -/
def hole (st : Store) (Hs : List Nat) : Store := st.mapIdx fun i o => if i ∈ Hs then .ins 0 [] else o
theorem hole_at (st : Store) (Hs : List Nat) (i : Nat) : (hole st Hs)[i]? = st[i]?.map fun o => if i ∈ Hs then O.ins 0 [] else o := by
  unfold hole
  rw [List.getElem?_mapIdx]
theorem hole_in {st : Store} {Hs : List Nat} {i : Nat} {o : O} (h : st[i]? = some o) (hi : i ∉ Hs) : (hole st Hs)[i]? = some o := by
  rw [hole_at, h]
  simp [hi]
theorem hole_len (st : Store) (Hs : List Nat) : (hole st Hs).length = st.length := by unfold hole; rw [List.length_mapIdx]
/-- a good datum: whatever the hidden places do, it is p -/
structure Dt (Hs : List Nat) (st : Store) (n B : Nat) (d : D) : Prop where
  ex : ∃ p, pd (hole st Hs) n d = some p ∧ small (2 ^ 200) p = true ∧ p.weight ≤ B
theorem hole_get {st : Store} {Hs : List Nat} {i : Nat} {o : O} (h : (hole st Hs)[i]? = some o) (ho : o ≠ .ins 0 []) : st[i]? = some o ∧ i ∉ Hs := by
  rw [hole_at] at h
  obtain ⟨u, e1, e2⟩ := Option.map_eq_some_iff.mp h
  by_cases c : i ∈ Hs
  · rw [if_pos c] at e2
    exact absurd e2.symm ho
  · rw [if_neg c] at e2
    subst e2
    exact ⟨e1, c⟩
theorem hole_pd {st : Store} {Hs : List Nat} {n : Nat} {d : D} {p : PyData} (h : pd (hole st Hs) n d = some p) : pd st n d = some p :=
  pd_mono (fun i xs e => (hole_get e nofun).1) (fun i e => (hole_get e nofun).1) h
/-- the same datum beside more hidden places, that are new -/
theorem hole_more {F : Nat} {Hs Ls : List Nat} {st st' : Store} {n : Nat} {d : D} {p : PyData} (s : Step F st st') (hF : F ∈ Hs) (hL : ∀ i ∈ Ls, st.length ≤ i) (h : pd (hole st Hs) n d = some p) : pd (hole st' (Ls ++ Hs)) n d = some p := by
  have go : ∀ (i : Nat) (o : O), o ≠ .ins 0 [] → (hole st Hs)[i]? = some o → (hole st' (Ls ++ Hs))[i]? = some o := fun i o ho e => by
    obtain ⟨e1, e2⟩ := hole_get e ho
    have hl := (List.getElem?_eq_some_iff.mp e1).1
    have hne : i ≠ F := fun q => e2 (q ▸ hF)
    refine hole_in (by rw [s.at_ i hl hne]; exact e1) fun hm => ?_
    rcases List.mem_append.mp hm with q | q
    · have := hL i q
      omega
    · exact e2 q
  exact pd_mono (fun i xs e => go i _ nofun e) (fun i e => go i _ nofun e) h
theorem hole_step {F : Nat} {Hs : List Nat} {st st' : Store} {n : Nat} {d : D} {p : PyData} (s : Step F st st') (hF : F ∈ Hs) (h : pd (hole st Hs) n d = some p) : pd (hole st' Hs) n d = some p := hole_more (Ls := []) s hF (fun _ h => nomatch h) h
/-- a hidden place is written -/
theorem hole_set {Hs : List Nat} {L : Nat} {st : Store} {o : O} {n : Nat} {d : D} {p : PyData} (h : pd (hole st (L :: Hs)) n d = some p) : pd (hole (st.set L o) Hs) n d = some p := by
  have go : ∀ (i : Nat) (u : O), u ≠ .ins 0 [] → (hole st (L :: Hs))[i]? = some u → (hole (st.set L o) Hs)[i]? = some u := fun i u hu e => by
    obtain ⟨e1, e2⟩ := hole_get e hu
    simp only [List.mem_cons, not_or] at e2
    exact hole_in (by rw [List.getElem?_set_ne (Ne.symm e2.1)]; exact e1) e2.2
  exact pd_mono (fun i xs e => go i _ nofun e) (fun i e => go i _ nofun e) h
theorem Dt.step {F : Nat} {Hs : List Nat} {st st' : Store} {n B : Nat} {d : D} (h : Dt Hs st n B d) (s : Step F st st') (hF : F ∈ Hs) : Dt Hs st' n B d := by
  obtain ⟨p, h1, h2⟩ := h.ex
  exact ⟨p, hole_step s hF h1, h2⟩
theorem hole_app {st more : Store} {Hs : List Nat} (hH : ∀ i ∈ Hs, i < st.length) : hole (st ++ more) Hs = hole st Hs ++ more := by
  apply List.ext_getElem?
  intro i
  rw [hole_at]
  by_cases h : i < st.length
  · rw [List.getElem?_append_left h, List.getElem?_append_left (by rw [hole_len]; exact h), hole_at]
  · rw [List.getElem?_append_right (by omega), List.getElem?_append_right (by rw [hole_len]; omega), hole_len]
    have hn : i ∉ Hs := fun hm => h (hH i hm)
    cases more[i - st.length]? <;> simp [hn]
theorem pd_fuel {st : Store} : ∀ {n m : Nat} {d : D} {p : PyData}, n ≤ m → pd st n d = some p → pd st m d = some p
  | 0, _, _, _, _, h => by cases h
  | n + 1, 0, _, _, hm, _ => by omega
  | n + 1, m + 1, d, p, hm, h => by
    have all : ∀ {ds : List D} {ps : List PyData}, Pds st n ds ps → Pds st m ds ps := by
      intro ds ps q
      induction q with
      | nil => exact .nil
      | cons h _ ih => exact .cons (pd_fuel (by omega) h) ih
    cases pdC h with
    | tup q => exact PdC.pd (.tup (all q))
    | lst e q => exact PdC.pd (.lst e (all q))
    | dct e => exact PdC.pd (.dct e)
    | _ => rfl
theorem Dt.up {Hs : List Nat} {st : Store} {n m B C : Nat} {d : D} (h : Dt Hs st n B d) (hn : n ≤ m) (hB : B ≤ C) : Dt Hs st m C d := by
  obtain ⟨p, h1, h2, h3⟩ := h.ex
  exact ⟨p, pd_fuel hn h1, h2, Nat.le_trans h3 hB⟩
/-- its depth is at most the fuel -/
theorem pd_depth {st : Store} : ∀ {n : Nat} {d : D} {p : PyData}, pd st n d = some p → p.depth ≤ n
  | 0, _, _, h => by cases h
  | n + 1, d, p, h => by
    have all : ∀ {ds : List D} {ps : List PyData}, Pds st n ds ps → PyData.depthAll ps ≤ n := by
      intro ds ps q
      induction q with
      | nil => exact Nat.zero_le _
      | cons h _ ih =>
        have := pd_depth h
        show max _ _ ≤ _
        omega
    cases pdC h with
    | tup q => exact Nat.succ_le_succ (all q)
    | lst e q => exact Nat.succ_le_succ (all q)
    | dct e => exact Nat.succ_le_succ (Nat.zero_le _)
    | _ => exact Nat.zero_le _
mutual
theorem small_show : ∀ (p : PyData), small (2 ^ 200) p = true → p.leavesShort 202 = true ∧ p.showable = true
  | .none, _ => ⟨rfl, rfl⟩
  | .bool _, _ => ⟨rfl, rfl⟩
  | .int i, h => by
    have h2 : i.natAbs < 2 ^ 200 := of_decide_eq_true h
    have h3 : i.natAbs.log2 < 201 := by
      by_cases e : i.natAbs = 0
      · rw [e]; decide
      · exact Nat.lt_succ_of_lt ((Nat.log2_lt e).mpr h2)
    refine ⟨decide_eq_true ?_, decide_eq_true (by omega)⟩
    have z := PySem.int_text_length_le (a := i) (k := 201) (by decide) h3
    show (Str.ofString (toString i)).length ≤ 202
    rw [Str.ofString_eq_toList]
    show ((toString i).toList.map Char.toNat).toArray.size ≤ 202
    rw [List.size_toArray, List.length_map, String.length_toList]
    exact z
  | .str s, h => by
    have h2 : (decide (s.length ≤ 1000) && PyData.strOk s) = true := h
    rw [Bool.and_eq_true] at h2
    refine ⟨?_, rfl⟩
    show (s.cps.toList.all fun c => decide (c < 16 ^ 8)) = true
    rw [List.all_eq_true]
    intro c hc
    have h3 := h2.2
    unfold PyData.strOk at h3
    rw [Array.all_eq_true'] at h3
    have := of_decide_eq_true (h3 c (by simpa using hc))
    exact decide_eq_true (by omega)
  | .list ps, h => smalls_show ps h
  | .tuple ps, h => smalls_show ps h
  | .dict kvs, h => by
    have e : kvs = [] := List.isEmpty_iff.mp h
    subst e
    exact ⟨rfl, rfl⟩
theorem smalls_show : ∀ (ps : List PyData), smalls (2 ^ 200) ps = true → PyData.leavesShortAll 202 ps = true ∧ PyData.showableAll ps = true
  | [], _ => ⟨rfl, rfl⟩
  | p :: ps, h => by
    have h2 : (small (2 ^ 200) p && smalls (2 ^ 200) ps) = true := h
    rw [Bool.and_eq_true] at h2
    obtain ⟨a, b⟩ := small_show p h2.1
    obtain ⟨c, d⟩ := smalls_show ps h2.2
    exact ⟨by show (_ && _) = true; rw [a, c]; rfl, by show (_ && _) = true; rw [b, d]; rfl⟩
end
/-- it can be shown -/
theorem Dt.show {F : Nat} {Hs : List Nat} (hF : F ∈ Hs) {st : Store} {n B : Nat} {d : D} (h : Dt Hs st n B d) (hn : n ≤ 60) (hB : B ≤ 65536) : ∃ p, pd (hole st Hs) n d = some p ∧ small (2 ^ 200) p = true ∧ ∀ st', Step F st st' → showD st' d = some p.shown := by
  obtain ⟨p, h1, h2, h3⟩ := h.ex
  refine ⟨p, h1, h2, fun st' s => ?_⟩
  obtain ⟨a, b⟩ := small_show p h2
  have e := pd_fuel hn (hole_pd (hole_step s hF h1))
  have dp := pd_depth e
  have sl := PyData.shown_le 202 (by decide) p a
  have sl2 : p.shown.length ≤ sizeLine := by
    rw [sizeLine_eq]
    have : (202 + 2) * p.weight ≤ (202 + 2) * 65536 := Nat.mul_le_mul_left _ (Nat.le_trans h3 hB)
    omega
  show ((pd st' 60 d).bind fun x => if x.showable && decide (x.depth ≤ 60) && decide (x.shown.length ≤ sizeLine) then some x.shown else none) = _
  rw [e]
  show (if p.showable && decide (p.depth ≤ 60) && decide (p.shown.length ≤ sizeLine) then some p.shown else none) = _
  rw [b, decide_eq_true dp, decide_eq_true sl2]
  rfl
/-- a call that drew leaves its datum good -/
theorem leave_step {F m0 m : Nat} {Hs : List Nat} {st st' : Store} {n B : Nat} {d : D} (hH : ∀ i ∈ Hs, i < st.length) (hf0 : Feed st F m0) (s : Step F st st') (dr : Drawn F st st') (hf : Feed st' F m) (h : Dt Hs st' n B d) : ∃ st'', leave st d st' = .ok d st'' ∧ Step F st st'' ∧ Drawn F st st'' ∧ Feed st'' F m ∧ Dt Hs st'' n B d := by
  obtain ⟨st'', more, hl⟩ := leave_any st st' d s.len
  rcases hl with ⟨e1, e2, e3⟩ | ⟨e1, e2, e3⟩
  · rcases e3 with e3 | ⟨e3, e4, e5⟩
    · subst e3
      rw [List.append_nil] at e2
      subst e2
      exact ⟨st', e1, s, dr, hf, h⟩
    · subst e2
      have hF := hf0.lt
      have hF2 : F < st''.length := by omega
      have cn := cnt_app hF2 more
      obtain ⟨C, cs, c, g, a, h1, h2, h3⟩ := hf.ex
      rw [List.getElem?_append_left hF2] at h1
      have hC : C < st''.length := by
        have lo := e4 _ (List.mem_of_getElem? h1)
        have : D.lo st.length (.ref C) = true := by
          have z : (D.lo st.length (.ref C) && D.los st.length [.int c, .int g, .int a]) = true := lo
          rw [Bool.and_eq_true] at z
          exact z.1
        rw [e3]
        exact of_decide_eq_true (show decide (C < st.length) = true from this)
      rw [List.getElem?_append_left hC] at h2
      refine ⟨st'', e1, ⟨by omega, fun i hi hf => ?_, by rw [← cn]; exact s.cn⟩, by show _ < _; rw [← cn]; exact dr, ⟨C, cs, c, g, a, h1, h2, h3⟩, ?_⟩
      · rw [← s.at_ i hi hf, List.getElem?_append_left (by omega)]
      · obtain ⟨p, p1, p2⟩ := h.ex
        refine ⟨p, ?_, p2⟩
        rw [hole_app (fun i hi => by rw [e3]; exact hH i hi)] at p1
        refine pd_low (fun o ho => ?_) ?_ p1
        · rw [hole_len, e3]
          obtain ⟨i, hi⟩ := List.mem_iff_getElem?.mp ho
          rw [hole_at] at hi
          obtain ⟨u, u1, u2⟩ := Option.map_eq_some_iff.mp hi
          have := e4 u (List.mem_of_getElem? u1)
          subst u2
          split
          · rfl
          · exact this
        · rw [hole_len, e3]; exact e5
  · exfalso
    have hF := hf0.lt
    have : cnt st' F = cnt st F := by
      have e : st' = st ++ st'.drop st.length := by
        conv => lhs; rw [← List.take_append_drop st.length st', e2]
      rw [e, cnt_app hF]
    have z : cnt st F < cnt st' F := dr
    omega
/-- the same with an int, a text -/
theorem leave_int' {F m0 m : Nat} {st st' : Store} {i : Int} (hf0 : Feed st F m0) (s : Step F st st') (dr : Drawn F st st') (hf : Feed st' F m) (hi : i.natAbs < 2 ^ 200) : ∃ st'', leave st (.int i) st' = .ok (.int i) st'' ∧ Step F st st'' ∧ Drawn F st st'' ∧ Feed st'' F m := by
  obtain ⟨st'', h1, h2, h3, h4, _⟩ := leave_step (Hs := []) (n := 1) (B := 1000) (d := .int i) (fun _ h => nomatch h) hf0 s dr hf ⟨.int i, rfl, decide_eq_true hi, by
    show (if i == 0 then 0 else i.natAbs.log2 + 1) ≤ 1000
    split
    · omega
    · rename_i e
      have : i.natAbs ≠ 0 := by simpa using e
      have := (Nat.log2_lt this).mpr hi
      omega⟩
  exact ⟨st'', h1, h2, h3, h4⟩
end Py.L05
end

section
set_option Elab.async false
set_option linter.all false
set_option maxRecDepth 100000
namespace Py.L05
open PySem L2
theorem p30 : powOk 10 30 = true := by decide
/-- the odd things -/
def oddL (n : Nat) : List D := [.non, .bl true, .bl false, .int 0, .int 1, .int (-1), .str (Str.ofString ""), .str (Str.ofString "a"), .str (Str.ofString "1"), .tup [], .ref n, .ref (n + 1), .tup [.int 0], .tup [.int 1], .tup [.int 0, .int 1], .ref (n + 1 + 1), .tup [.int 1, .int 1], .tup [.bl true, .int 1],
  .tup [.int 0, .int 2], .tup [.int 1, .int 0], .tup [.int 1, .int (-1)], .tup [.int 2, .int 4], .tup [.int 1, .bl true], .tup [.str (Str.ofString "1"), .int 1], .tup [.int 1, .int 2, .int 3], .tup [.tup [.int 0, .int 1]], .int 1000000000000000000000000000000, .tup [.int 3, .int 2], .tup [.int (-1), .int 2]]
def oddM : List O := [.lst [], .dK [], .lst [.int 0, .int 1]]
theorem odd_dt {st more : Store} {Hs : List Nat} (hH : ∀ i ∈ Hs, i < st.length) : ∀ x ∈ oddL st.length, Dt Hs (st ++ (oddM ++ more)) 4 400 x := by
  have e : hole (st ++ (oddM ++ more)) Hs = hole st Hs ++ (oddM ++ more) := hole_app hH
  have l := hole_len st Hs
  have g : ∀ i, (hole st Hs ++ (oddM ++ more))[st.length + i]? = (oddM ++ more)[i]? := fun i => by rw [← l]; exact st_at _ _ _
  intro x hx
  simp only [oddL, List.mem_cons, List.not_mem_nil, or_false] at hx
  rcases hx with rfl | rfl | rfl | rfl | rfl | rfl | rfl | rfl | rfl | rfl | rfl | rfl | rfl | rfl | rfl | rfl | rfl | rfl | rfl | rfl | rfl | rfl | rfl | rfl | rfl | rfl | rfl | rfl | rfl
  case inr.inr.inr.inr.inr.inr.inr.inr.inr.inr.inl => exact ⟨.list [], by rw [e]; exact PdC.pd (.lst (g 0) .nil), rfl, by decide⟩
  case inr.inr.inr.inr.inr.inr.inr.inr.inr.inr.inr.inl => exact ⟨.dict [], by rw [e]; exact PdC.pd (.dct (g 1)), rfl, by decide⟩
  case inr.inr.inr.inr.inr.inr.inr.inr.inr.inr.inr.inr.inr.inr.inr.inl => exact ⟨.list [.int 0, .int 1], by rw [e]; exact PdC.pd (.lst (g 2) (.cons rfl (.cons rfl .nil))), by decide +kernel, by decide +kernel⟩
  all_goals exact ⟨_, rfl, by decide +kernel, by decide +kernel⟩
theorem odd_run {st : Store} {F k m : Nat} {Hs : List Nat} (hFm : F ∈ Hs) (hH : ∀ i ∈ Hs, i < st.length) (h : Feed st F m) (hm : m + 2 < BIG) : ∃ d st', run WH fns (k + 2) f__law_odd [.ref F] st = .ok d st' ∧ Dt Hs st' 4 400 d ∧ Feed st' F (m + 1) ∧ Step F st st' ∧ Drawn F st st' := by
  rw [run_eq (fn := fn__law_odd) (env0 := [some (.ref F), none]) rfl rfl rfl rfl]
  have hF := h.lt
  have hs1 : (18 : Nat) + 10 ≤ sizeLine := by decide
  have hs2 : (28 : Nat) < sizeLine := by decide
  generalize hM : (oddM ++ [O.lst ((oddL st.length).take 18), O.lst (((oddL st.length).drop 18).take 10), O.lst (oddL st.length)] : Store) = M
  have fM : Feed (st ++ M) F m := h.app
  obtain ⟨r, st', e, r0, r1, f', s', d', l'⟩ := draw_run (k := k) (many := 29) fM (by decide) (by decide) hm
  have g5 : st'[st.length + 5]? = some (.lst (oddL st.length)) := by
    rw [s'.at_ _ (by rw [← hM]; simp [oddM]) (by omega), st_at, ← hM]; rfl
  obtain ⟨x, hx, ex⟩ := atI_in (xs := oddL st.length) r0 r1
  have dt : Dt Hs st' 4 400 x := by
    have z := odd_dt (more := [O.lst ((oddL st.length).take 18), O.lst (((oddL st.length).drop 18).take 10), O.lst (oddL st.length)]) hH x hx
    rw [hM] at z
    exact z.step s' hFm
  have s1 := Step.app hF M
  obtain ⟨st'', l1, l2, l3, l4, l5⟩ := leave_step hH h (s1.trans s') (Drawn.right s1 d') f' dt
  refine ⟨x, st'', ?_, l5, l4, l2, l3⟩
  rw [← l1]
  rw [← hM] at e
  simp [oddM, oddL] at e
  simp [fn__law_odd, b__law_odd, setT, pow_int p30, add_ref_def, isLst_def, append_def, sizeLine_eq, e, ix_ref_def, lstAt_def, g5, ex]
end Py.L05
end

section
set_option Elab.async false
set_option linter.all false
set_option maxRecDepth 100000
namespace Py.L05
open PySem L2
/-- how it comes out: a good datum, the feed drawn from -/
def Out (Hs : List Nat) (F m : Nat) (st : Store) (n : Nat) (d : D) (B : Nat) (st' : Store) : Prop := Dt Hs st' n B d ∧ Feed st' F m ∧ Step F st st' ∧ Drawn F st st'
theorem Out.leave {Hs : List Nat} {F m0 m n B : Nat} {st st' : Store} {d : D} (hH : ∀ i ∈ Hs, i < st.length) (hf : Feed st F m0) (h : Out Hs F m st n d B st') : ∃ st'', Py.leave st d st' = .ok d st'' ∧ Out Hs F m st n d B st'' := by
  obtain ⟨h1, h2, h3, h4⟩ := h
  obtain ⟨st'', l1, l2, l3, l4, l5⟩ := leave_step hH hf h3 h4 h2 h1
  exact ⟨st'', l1, l5, l4, l2, l3⟩
/-- the row's items, and the row as a list at r or as a tuple -/
theorem row_lst {Hs : List Nat} {n : Nat} {st : Store} {r : Nat} {ds : List D} {ps : List PyData} (h : st[r]? = some (.lst ds)) (hr : r ∉ Hs) (q : Pds (hole st Hs) n ds ps) (hs : smalls (2 ^ 200) ps = true) : Dt Hs st (n + 1) (PyData.weightAll ps) (.ref r) := by
  exact ⟨.list ps, PdC.pd (.lst (hole_in h hr) q), hs, Nat.le_refl _⟩
theorem row_tup {Hs : List Nat} {n : Nat} {st : Store} {ds : List D} {ps : List PyData} (q : Pds (hole st Hs) n ds ps) (hs : smalls (2 ^ 200) ps = true) : Dt Hs st (n + 1) (PyData.weightAll ps) (.tup ds) :=
  ⟨.tuple ps, PdC.pd (.tup q), hs, Nat.le_refl _⟩
theorem Pds.stepH {Hs : List Nat} {F n : Nat} {st st' : Store} {ds : List D} {ps : List PyData} (s : Step F st st') (hF : F ∈ Hs) (q : Pds (hole st Hs) n ds ps) : Pds (hole st' Hs) n ds ps := by
  induction q with
  | nil => exact .nil
  | cons h _ ih => exact .cons (hole_step s hF h) ih
theorem Pds.fuel {st : Store} {n m : Nat} (hn : n ≤ m) {ds : List D} {ps : List PyData} (q : Pds st n ds ps) : Pds st m ds ps := by
  induction q with
  | nil => exact .nil
  | cons h _ ih => exact .cons (pd_fuel hn h) ih
theorem bent_base {F m k n : Nat} {Hs : List Nat} {st st1 : Store} {d : D} {p : PyData} {deep r : Int} (hFm : F ∈ Hs) (hH : ∀ i ∈ Hs, i < st.length) (h : Feed st F m) (f1 : Feed st1 F (m + 1)) (s1 : Step F st st1) (d1 : Drawn F st st1) (e1 : run WH fns (k + 2) f__law_draw [.ref F, .int 8] st = .ok (.int r) st1)
    (hp : pd (hole st Hs) (n + 1) d = some p) (hs : small (2 ^ 200) p = true) (hm : m + 4 < BIG) (hc : deep = 0 ∨ r = 0 ∨ isK .tupLst p = false ∨ p = .list [] ∨ p = .tuple []) :
    ∃ d' st', run WH fns (k + 3) f__law_bent [.ref F, d, .int deep] st = .ok d' st' ∧ Out Hs F (m + 2) st (n + 5) d' (2 * p.weight + 400) st' := by
  have hp1 := hole_pd (hole_step s1 hFm hp)
  have hH1 : ∀ i ∈ Hs, i < st1.length := fun i hi => Nat.lt_of_lt_of_le (hH i hi) s1.len
  obtain ⟨x, st2, e2, dt2, f2, s2, d2⟩ := odd_run (k := k) hFm hH1 f1 (by omega)
  have oddOut : Out Hs F (m + 2) st (n + 5) x (2 * p.weight + 400) st2 := ⟨dt2.up (by omega) (by omega), f2.up (by omega), s1.trans s2, d1.left s2⟩
  obtain ⟨st3, l1, l2⟩ := oddOut.leave hH h
  rw [run_eq (fn := fn__law_bent) (env0 := [some (.ref F), some d, some (.int deep), none, none, none]) rfl rfl rfl rfl]
  by_cases ht : isK .tuple p = true ∧ r < 3
  · obtain ⟨t1, t2⟩ := ht
    cases pdC hp1 with
    | @tup ds ps q =>
      have q0 : Pds (hole st Hs) n ds ps := by
        cases pdC hp with
        | tup q0 => exact q0
      have out : Out Hs F (m + 2) st (n + 5) (.ref st1.length) (2 * (PyData.tuple ps).weight + 400) (st1 ++ [.lst ds]) := by
        have sa := Step.app f1.lt [O.lst ds]
        have z := row_lst (Hs := Hs) (n := n) (r := st1.length) (st := st1 ++ [.lst ds]) (by simp) (fun hm => Nat.lt_irrefl _ (hH1 _ hm)) (Pds.stepH (s1.trans sa) hFm q0) hs
        exact ⟨z.up (by omega) (by show PyData.weightAll ps ≤ 2 * PyData.weightAll ps + 400; omega), f1.app.up (by omega), s1.trans sa, d1.left sa⟩
      obtain ⟨st4, l3, l4⟩ := out.leave hH h
      refine ⟨_, st4, ?_, l4⟩
      rw [← l3]
      have len_ : ds.length = ps.length := q.length
      rcases hc with c | c | c | c | c
      · simp [fn__law_bent, b__law_bent, setT, e1, c, t2, itemsD]
      · by_cases c0 : deep = 0
        · simp [fn__law_bent, b__law_bent, setT, e1, c0, t2, itemsD]
        · simp [fn__law_bent, b__law_bent, setT, e1, c0, c, itemsD]
      · cases c
      · cases c
      · cases c
        have hd : ds = [] := List.length_eq_zero_iff.mp (by rw [len_]; rfl)
        subst hd
        by_cases c0 : deep = 0
        · simp [fn__law_bent, b__law_bent, setT, e1, c0, t2, itemsD]
        · by_cases c1 : r = 0
          · simp [fn__law_bent, b__law_bent, setT, e1, c0, c1, itemsD]
          · simp [fn__law_bent, b__law_bent, setT, e1, c0, c1, t2, itemsD]
    | _ => cases t1
  · refine ⟨x, st3, ?_, l2⟩
    rw [← l1]
    cases pdC hp1 with
    | @tup ds ps q =>
      have r3 : ¬ r < 3 := fun c => ht ⟨rfl, c⟩
      have len_ : ds.length = ps.length := q.length
      rcases hc with c | c | c | c | c
      · simp [fn__law_bent, b__law_bent, setT, e1, c, r3, e2]
      · omega
      · cases c
      · cases c
      · cases c
        have hd : ds = [] := List.length_eq_zero_iff.mp (by rw [len_]; rfl)
        subst hd
        by_cases c0 : deep = 0
        · simp [fn__law_bent, b__law_bent, setT, e1, c0, r3, e2]
        · have c1 : ¬ r = 0 := by omega
          simp [fn__law_bent, b__law_bent, setT, e1, c0, c1, r3, e2]
    | @lst t ds ps eo q =>
      have len_ : ds.length = ps.length := q.length
      have hi := isi_pd hp1
      by_cases c0 : deep = 0
      · simp [fn__law_bent, b__law_bent, setT, e1, c0, hi, isK, e2]
      · by_cases c1 : r = 0
        · simp [fn__law_bent, b__law_bent, setT, e1, c0, c1, hi, isK, e2]
        · have hd : ds = [] := by
            rcases hc with c | c | c | c | c
            · exact absurd c c0
            · exact absurd c c1
            · cases c
            · cases c
              exact List.length_eq_zero_iff.mp (by rw [len_]; rfl)
            · cases c
          subst hd
          simp [fn__law_bent, b__law_bent, setT, e1, c0, c1, hi, isK, e2, len_ref_def, lstAt_def, eo]
    | dct eo =>
      have hi := isi_pd hp1
      by_cases c0 : deep = 0
      · simp [fn__law_bent, b__law_bent, setT, e1, c0, hi, isK, e2]
      · by_cases c1 : r = 0
        · simp [fn__law_bent, b__law_bent, setT, e1, c0, c1, hi, isK, e2]
        · simp [fn__law_bent, b__law_bent, setT, e1, c0, c1, hi, isK, e2]
    | _ =>
      by_cases c0 : deep = 0
      · simp [fn__law_bent, b__law_bent, setT, e1, c0, e2]
      · by_cases c1 : r = 0
        · simp [fn__law_bent, b__law_bent, setT, e1, c0, c1, e2]
        · simp [fn__law_bent, b__law_bent, setT, e1, c0, c1, e2]
/-- a row that was bent: as a tuple or a list -/
def rowD (b : Bool) (es : List D) (R : Nat) : D := if b then .tup es else .ref R
theorem row_out {Hs : List Nat} {F m n R W : Nat} {st stf : Store} {es : List D} {qs : List PyData} (b : Bool) (hR : stf[R]? = some (.lst es)) (hRF : R ∉ Hs) (q : Pds (hole stf Hs) n es qs) (hs : smalls (2 ^ 200) qs = true) (hW : PyData.weightAll qs ≤ W) (f : Feed stf F m) (s : Step F st stf) (d : Drawn F st stf) : Out Hs F m st (n + 1) (rowD b es R) W stf := by
  cases b with
  | true => exact ⟨(row_tup q hs).up (Nat.le_refl _) hW, f, s, d⟩
  | false => exact ⟨(row_lst hR hRF q hs).up (Nat.le_refl _) hW, f, s, d⟩
theorem Step.setAbove {F L : Nat} {st st' : Store} {o : O} (s : Step F st st') (hL : st.length ≤ L) (hF : F < st.length) : Step F st (st'.set L o) := by
  refine ⟨by simpa using s.len, fun i hi hf => ?_, ?_⟩
  · rw [List.getElem?_set_ne (by omega)]
    exact s.at_ i hi hf
  · have : cnt (st'.set L o) F = cnt st' F := by
      unfold cnt
      rw [List.getElem?_set_ne (by omega)]
    rw [this]
    exact s.cn
theorem cnt_set {F L : Nat} {st : Store} {o : O} (h : L ≠ F) : cnt (st.set L o) F = cnt st F := by
  unfold cnt
  rw [List.getElem?_set_ne h]
/-- the feed where a list behind it is written -/
theorem Feed.setAt {F m L : Nat} {st : Store} {o : O} (h : Feed st F m) (hL : F < L) : Feed (st.set L o) F m := by
  obtain ⟨C, cs, c, g, a, h1, h2, h4, h3⟩ := h.ex
  refine ⟨C, cs, c, g, a, by rw [List.getElem?_set_ne (by omega)]; exact h1, ?_, h4, h3⟩
  rw [List.getElem?_set_ne (by omega)]
  exact h2
theorem insAt_take {α : Type} (xs : List α) (i : Nat) (x : α) : insAt xs i x = xs.take i ++ x :: xs.drop i := by simp [insAt]
theorem wAll_mem {ps : List PyData} {p : PyData} (h : p ∈ ps) : p.weight + 1 ≤ PyData.weightAll ps := by
  obtain ⟨i, hi⟩ := List.mem_iff_getElem?.mp h
  rw [wAll_get hi]
  omega
theorem wAll_set {ps : List PyData} {i : Nat} {p q : PyData} (h : ps[i]? = some p) : PyData.weightAll (ps.set i q) + p.weight = PyData.weightAll ps + q.weight := by
  obtain ⟨hi, he⟩ := List.getElem?_eq_some_iff.mp h
  rw [wAll_get h, List.set_eq_take_append_cons_drop, if_pos hi, wAll_append]
  show _ + (q.weight + 1 + _) + _ = _
  omega
theorem smalls_set {B : Nat} {ps : List PyData} {i : Nat} {q : PyData} (h : smalls B ps = true) (hq : small B q = true) : smalls B (ps.set i q) = true := by
  rw [smalls_iff] at h ⊢
  intro p hp
  rcases List.mem_or_eq_of_mem_set hp with e | e
  · exact h p e
  · subst e; exact hq
theorem bent_run : ∀ (deep : Nat) {F m k n : Nat} {Hs : List Nat} {st : Store} {d : D} {p : PyData}, F ∈ Hs → (∀ i ∈ Hs, i < st.length) → Feed st F m → pd (hole st Hs) (n + 1) d = some p → small (2 ^ 200) p = true → p.weight ≤ 60000 → m + 4 * (deep + 1) + 4 < BIG →
    ∃ d' st', run WH fns (k + 3 + deep) f__law_bent [.ref F, d, .int deep] st = .ok d' st' ∧ Out Hs F (m + 4 * (deep + 1)) st (n + 5) d' (2 * p.weight + 400) st' := by
  intro deep
  induction deep with
  | zero =>
    intro F m k n Hs st d p hFm hH h hp hs hw hm
    obtain ⟨r, st1, e1, r0, r1, f1, s1, d1, l1⟩ := draw_run (k := k + 1) (many := 8) h (by decide) (by decide) (by omega)
    obtain ⟨d', st', e, o⟩ := bent_base (k := k) (deep := (0 : Nat)) hFm hH h f1 s1 d1 e1 hp hs (by omega) (.inl rfl)
    exact ⟨d', st', e, o.1, o.2.1.up (by omega), o.2.2⟩
  | succ deep ih =>
    intro F m k n Hs st d p hFm hH h hp hs hw hm
    obtain ⟨r, st1, e1, r0, r1, f1, s1, d1, l1⟩ := draw_run (k := k + 2 + deep) (many := 8) h (by decide) (by decide) (by omega)
    by_cases hc : r = 0 ∨ isK .tupLst p = false ∨ p = .list [] ∨ p = .tuple []
    · obtain ⟨d', st', e, o⟩ := bent_base (k := k + 1 + deep) (deep := ((deep + 1 : Nat) : Int)) hFm hH h f1 s1 d1 (by rw [show k + 1 + deep + 2 = k + 2 + deep + 1 by omega]; exact e1) hp hs (by omega) (.inr hc)
      refine ⟨d', st', ?_, o.1, o.2.1.up (by omega), o.2.2⟩
      rw [show k + 3 + (deep + 1) = k + 1 + deep + 3 by omega]
      exact e
    · have rn : ¬ r = 0 := fun e => hc (.inl e)
      have hp1 := hole_pd (hole_step s1 hFm hp)
      -- the row
      have row_ : ∃ ds ps, ds.length ≠ 0 ∧ Pds (hole st Hs) n ds ps ∧ smalls (2 ^ 200) ps = true ∧ p.weight = PyData.weightAll ps ∧ itemsD st1 d = some ds ∧ lenD st1 d = some ds.length ∧ isK .tupLst p = true := by
        cases pdC hp with
        | @tup ds ps q =>
          refine ⟨ds, ps, fun e => ?_, q, hs, rfl, rfl, rfl, rfl⟩
          have e2 : ps.length = 0 := by rw [← q.length]; exact e
          exact hc (.inr (.inr (.inr (by rw [List.length_eq_zero_iff.mp e2]))))
        | @lst t ds ps eo q =>
          obtain ⟨eo1, hF0⟩ := hole_get eo nofun
          have hF : t ≠ F := fun q => hF0 (q ▸ hFm)
          have hl : t < st.length := (List.getElem?_eq_some_iff.mp eo1).1
          have eo2 : st1[t]? = some (.lst ds) := by rw [s1.at_ t hl hF]; exact eo1
          refine ⟨ds, ps, fun e => ?_, q, hs, rfl, lstAt_of eo2, len_ref (lstAt_of eo2), rfl⟩
          have e2 : ps.length = 0 := by rw [← q.length]; exact e
          exact hc (.inr (.inr (.inl (by rw [List.length_eq_zero_iff.mp e2]))))
        | dct _ => exact absurd (.inr (.inl rfl)) hc
        | _ => exact absurd (.inr (.inl rfl)) hc
      obtain ⟨ds, ps, hne, q, hsm, hwt, it1, ln1, kt⟩ := row_
      have lq := q.length
      have hF := h.lt
      have hL : st1.length ∉ Hs := fun hm => by have := hH _ hm; omega
      have isf : ∀ {st'}, Step F st st' → isiD st' .tuple d = some (isK .tuple p) := fun s => isi_pd (hole_pd (hole_step s hFm hp)) .tuple
      have tl1 : isiD st1 .tupLst d = some true := by rw [isi_pd hp1, kt]
      have lw := len_wAll ps
      -- where in the row
      have f2 : Feed (st1 ++ [O.lst ds]) F (m + 1) := f1.app
      have sa : Step F st (st1 ++ [O.lst ds]) := s1.trans (Step.app f1.lt _)
      have da : Drawn F st (st1 ++ [O.lst ds]) := d1.left (Step.app f1.lt _)
      obtain ⟨at_, st2, e2, a0, a1, f3, s2, d2, l2⟩ := draw_run (k := k + 2 + deep) (many := ds.length) f2 (by omega) (by omega) (by omega)
      obtain ⟨i, rfl⟩ : ∃ i : Nat, at_ = i := ⟨at_.toNat, by omega⟩
      have hi : i < ds.length := by omega
      have g2 : st2[st1.length]? = some (.lst ds) := by rw [s2.at_ _ (by simp) (by omega)]; simp
      have g2a : ∀ more : Store, (st2 ++ more)[st1.length]? = some (.lst ds) := fun more => by
        rw [List.getElem?_append_left (List.getElem?_eq_some_iff.mp g2).1]; exact g2
      have S2 : Step F st st2 := sa.trans s2
      have D2 : Drawn F st st2 := da.left s2
      have L2 : st2.length = st1.length + 1 := by rw [l2]; simp
      have ne1 : ¬ ((ds.length : Int) = 0) := by omega
      have dz : ¬ ((deep : Int) + 1 = 0) := by omega
      have hx : atI ds (i : Int) = some ds[i] := atI_nat (List.getElem?_eq_getElem hi)
      obtain ⟨pi, gi, hpi⟩ := q.at (List.getElem?_eq_getElem hi)
      have kk : k + 2 + deep + 1 = k + 3 + deep := by omega
      rw [kk] at e1 e2
      rw [show k + 3 + (deep + 1) = k + 3 + deep + 1 by omega]
      rw [run_eq (fn := fn__law_bent) (k := k + 3 + deep) (env0 := [some (.ref F), some d, some (.int ((deep + 1 : Nat) : Int)), none, none, none]) rfl rfl rfl rfl]
      by_cases w1 : r = 1
      · subst w1
        have ai : addD (st2 ++ [O.lst (ds.take i), O.lst (ds.drop (i + 1))]) (.ref st2.length) (.ref (st2.length + 1)) = .ok (.ref (st2.length + 2)) (st2 ++ [O.lst (ds.take i), O.lst (ds.drop (i + 1)), O.lst (ds.take i ++ ds.drop (i + 1))]) := by
          have z := add_lst (st := st2 ++ [O.lst (ds.take i), O.lst (ds.drop (i + 1))]) (m := st2.length) (n := st2.length + 1) (xs := ds.take i) (ys := ds.drop (i + 1)) (by simp) (by simp) (by
            rw [List.length_take, List.length_drop, sizeLine_eq]
            omega)
          simpa using z
        have q3 : Pds (hole (st2 ++ [O.lst (ds.take i), O.lst (ds.drop (i + 1)), O.lst (ds.take i ++ ds.drop (i + 1))]) Hs) n (ds.take i ++ ds.drop (i + 1)) (ps.take i ++ ps.drop (i + 1)) := Pds.stepH (S2.trans (Step.app f3.lt _)) hFm ((q.take i).append (q.drop (i + 1)))
        have out := row_out (Hs := Hs) (F := F) (m := m + 4 * (deep + 1 + 1)) (st := st) (stf := st2 ++ [O.lst (ds.take i), O.lst (ds.drop (i + 1)), O.lst (ds.take i ++ ds.drop (i + 1))]) (isK .tuple p) (R := st2.length + 2) (W := 2 * p.weight + 400) (by simp) (fun hm => by have := hH _ hm; omega) (Pds.fuel (show n ≤ n + 4 by omega) q3)
          (smalls_iff.mpr fun x hx => by
            rw [smalls_iff] at hsm
            rcases List.mem_append.mp hx with z | z
            · exact hsm x (List.mem_of_mem_take z)
            · exact hsm x (List.mem_of_mem_drop z)) (by
            rw [wAll_append, hwt]
            have := wAll_get gi
            omega) (f3.app.up (by omega)) (S2.trans (Step.app f3.lt _)) (D2.left (Step.app f3.lt _))
        obtain ⟨stl, l3, l4⟩ := out.leave hH h
        refine ⟨_, stl, ?_, l4⟩
        rw [← l3]
        have iF := isf (S2.trans (Step.app f3.lt [O.lst (ds.take i), O.lst (ds.drop (i + 1)), O.lst (ds.take i ++ ds.drop (i + 1))]))
        have ci : cutD ds (some ((i : Int) + 1)) none = ds.drop (i + 1) := cut_lo ds (i + 1)
        simp [fn__law_bent, b__law_bent, setT, e1, dz, tl1, ln1, hne, it1, lstAt_def, len_ref_def, e2, g2, g2a, sl_ref_def, cut_hi, ev_sl_lo, ev_sl_hi, ci, ai, iF]
        cases isK .tuple p with
        | true => simp [itemsD, lstAt_def, rowD]
        | false => simp [rowD]
      · by_cases w2 : r = 2
        · subst w2
          obtain ⟨jj, st3, e3, j0, j1, f4, s3, d3, l3⟩ := draw_run (k := k + 2 + deep) (many := ds.length) f3 (by omega) (by omega) (by omega)
          rw [kk] at e3
          obtain ⟨j, rfl⟩ : ∃ j : Nat, jj = j := ⟨jj.toNat, by omega⟩
          have hj : j < ds.length := by omega
          have hxj : atI ds (j : Int) = some ds[j] := atI_nat (List.getElem?_eq_getElem hj)
          obtain ⟨pj, gj, hpj⟩ := q.at (List.getElem?_eq_getElem hj)
          have g3 : st3[st1.length]? = some (.lst ds) := by rw [s3.at_ _ (by omega) (by omega)]; exact g2
          have S3 := S2.trans s3
          have L3 : st1.length < st3.length := by omega
          have SF := S3.setAbove (o := O.lst (insAt ds i ds[j])) (L := st1.length) (by omega) hF
          have q3 : Pds (hole (st3.set st1.length (O.lst (insAt ds i ds[j]))) Hs) n (insAt ds i ds[j]) (insAt ps i pj) := by
            have z := Pds.stepH SF hFm ((q.take i).append (.cons hpj (q.drop i)))
            rw [← insAt_take, ← insAt_take] at z
            exact z
          have out := row_out (Hs := Hs) (F := F) (m := m + 4 * (deep + 1 + 1)) (st := st) (stf := st3.set st1.length (O.lst (insAt ds i ds[j]))) (isK .tuple p) (R := st1.length) (W := 2 * p.weight + 400) (es := insAt ds i ds[j]) (List.getElem?_set_self L3) hL (Pds.fuel (show n ≤ n + 4 by omega) q3)
            (smalls_iff.mpr fun x hx => by
              rw [smalls_iff] at hsm
              rw [insAt_take] at hx
              rcases List.mem_append.mp hx with z | z
              · exact hsm x (List.mem_of_mem_take z)
              · rcases List.mem_cons.mp z with z | z
                · subst z; exact hsm _ (List.mem_of_getElem? gj)
                · exact hsm x (List.mem_of_mem_drop z)) (by
              rw [insAt_take, wAll_append, hwt]
              show _ + (pj.weight + 1 + _) ≤ _
              have a := wAll_mem (List.mem_of_getElem? gj)
              have b := wAll_split ps i
              omega) ((f4.setAt (by omega)).up (by omega)) SF (by show _ < _; rw [cnt_set (by omega)]; exact (D2.left s3))
          obtain ⟨stl, l3, l4⟩ := out.leave hH h
          refine ⟨_, stl, ?_, l4⟩
          rw [← l3]
          have iF := isf SF
          have b1 : (i : Int) ≤ ds.length := by omega
          have b2 : ds.length < sizeLine := by rw [sizeLine_eq]; omega
          simp [fn__law_bent, b__law_bent, setT, e1, dz, tl1, ln1, hne, it1, lstAt_def, len_ref_def, e2, g2, isLst_def, e3, ix_ref_def, hxj, g3, insert_def, b1, b2, iF]
          cases isK .tuple p with
          | true => simp [itemsD, lstAt_def, rowD, List.getElem?_set_self L3]
          | false => simp [rowD]
        · by_cases w3 : r = 3
          · subst w3
            obtain ⟨jj, st3, e3, j0, j1, f4, s3, d3, l3⟩ := draw_run (k := k + 2 + deep) (many := ds.length) f3 (by omega) (by omega) (by omega)
            rw [kk] at e3
            obtain ⟨j, rfl⟩ : ∃ j : Nat, jj = j := ⟨jj.toNat, by omega⟩
            have hj : j < ds.length := by omega
            have hxj : atI ds (j : Int) = some ds[j] := atI_nat (List.getElem?_eq_getElem hj)
            obtain ⟨pj, gj, hpj⟩ := q.at (List.getElem?_eq_getElem hj)
            have g3 : st3[st1.length]? = some (.lst ds) := by rw [s3.at_ _ (by omega) (by omega)]; exact g2
            have S3 := S2.trans s3
            have L3 : st1.length < st3.length := by omega
            have SF := S3.setAbove (o := O.lst (ds.set i ds[j])) (L := st1.length) (by omega) hF
            have q3 : Pds (hole (st3.set st1.length (O.lst (ds.set i ds[j]))) Hs) n (ds.set i ds[j]) (ps.set i pj) := Pds.stepH SF hFm (q.set i hpj)
            have out := row_out (Hs := Hs) (F := F) (m := m + 4 * (deep + 1 + 1)) (st := st) (stf := st3.set st1.length (O.lst (ds.set i ds[j]))) (isK .tuple p) (R := st1.length) (W := 2 * p.weight + 400) (es := ds.set i ds[j]) (List.getElem?_set_self L3) hL (Pds.fuel (show n ≤ n + 4 by omega) q3)
              (smalls_set hsm (smalls_iff.mp hsm _ (List.mem_of_getElem? gj))) (by
                rw [hwt]
                have a := wAll_mem (List.mem_of_getElem? gj)
                have b := wAll_set (q := pj) gi
                omega) ((f4.setAt (by omega)).up (by omega)) SF (by show _ < _; rw [cnt_set (by omega)]; exact (D2.left s3))
            obtain ⟨stl, l3, l4⟩ := out.leave hH h
            refine ⟨_, stl, ?_, l4⟩
            rw [← l3]
            have iF := isf SF
            simp [fn__law_bent, b__law_bent, setT, e1, dz, tl1, ln1, hne, it1, lstAt_def, len_ref_def, e2, g2, e3, ix_ref_def, hxj, g3, put_def, ixN_nat hi, iF]
            cases isK .tuple p with
            | true => simp [itemsD, lstAt_def, rowD, List.getElem?_set_self L3]
            | false => simp [rowD]
          · have wi : pi.weight ≤ 60000 := by
              have := wAll_mem (List.mem_of_getElem? gi)
              omega
            obtain ⟨n', rfl⟩ : ∃ n', n = n' + 1 := by
              cases n with
              | zero => cases hpi
              | succ n' => exact ⟨n', rfl⟩
            have hpi2 : pd (hole st2 (st1.length :: Hs)) (n' + 1) ds[i] = some pi := hole_more (Ls := [st1.length]) S2 hFm (fun x hx => by
              rw [List.mem_singleton.mp hx, l1]; exact Nat.le_refl _) hpi
            obtain ⟨x, st3, e3, dtx, f4, s3, d3⟩ := ih (k := k) (Hs := st1.length :: Hs) (List.mem_cons_of_mem _ hFm) (fun x hx => by
              rcases List.mem_cons.mp hx with e | e
              · omega
              · have := hH x e
                omega) f3 hpi2 (smalls_iff.mp hsm _ (List.mem_of_getElem? gi)) wi (by omega)
            obtain ⟨px, x1, x2, x3⟩ := dtx.ex
            have g3 : st3[st1.length]? = some (.lst ds) := by rw [s3.at_ _ (by omega) (by omega)]; exact g2
            have S3 := S2.trans s3
            have L3 : st1.length < st3.length := by have := s3.len; omega
            have SF := S3.setAbove (o := O.lst (ds.set i x)) (L := st1.length) (by omega) hF
            have q3 : Pds (hole (st3.set st1.length (O.lst (ds.set i x))) Hs) (n' + 5) (ds.set i x) (ps.set i px) := (Pds.fuel (show n' + 1 ≤ n' + 5 by omega) (Pds.stepH SF hFm q)).set i (hole_set x1)
            have out := row_out (Hs := Hs) (F := F) (m := m + 4 * (deep + 1 + 1)) (st := st) (stf := st3.set st1.length (O.lst (ds.set i x))) (isK .tuple p) (R := st1.length) (W := 2 * p.weight + 400) (es := ds.set i x) (List.getElem?_set_self L3) hL q3
              (smalls_set hsm x2) (by
                rw [hwt]
                have a := wAll_mem (List.mem_of_getElem? gi)
                have b := wAll_set (q := px) gi
                omega) ((f4.setAt (by omega)).up (by omega)) SF (by show _ < _; rw [cnt_set (by omega)]; exact (D2.left s3))
            obtain ⟨stl, l3, l4⟩ := out.leave hH h
            refine ⟨_, stl, ?_, l4⟩
            rw [← l3]
            have iF := isf SF
            have hxi : atI ds (i : Int) = some ds[i] := hx
            simp [fn__law_bent, b__law_bent, setT, e1, dz, rn, w1, w2, w3, tl1, ln1, hne, it1, lstAt_def, len_ref_def, e2, g2, e3, ix_ref_def, hxi, g3, put_def, ixN_nat hi, iF]
            cases isK .tuple p with
            | true => simp [itemsD, lstAt_def, rowD, List.getElem?_set_self L3]
            | false => simp [rowD]
end Py.L05
end

section
set_option Elab.async false
set_option linter.all false
set_option maxRecDepth 100000
namespace Py.L05
open PySem L2
theorem sum_over {S : Int} (hS : S ≠ 0) : ∀ vs : List Int, sumL (vs.map fun v => Rat.divInt v S) = Rat.divInt vs.sum S
  | [] => by simp [sumL]
  | v :: vs => by
    show Rat.divInt v S + sumL (vs.map fun v => Rat.divInt v S) = _
    rw [sum_over hS vs, List.sum_cons, Rat.divInt_eq_div, Rat.divInt_eq_div, Rat.divInt_eq_div, Rat.div_def, Rat.div_def, Rat.div_def, ← Rat.add_mul, Rat.intCast_add]
/-- what shares are drawn -/
structure Drw (many : Nat) (qs : List Rat) : Prop where
  len : qs.length = many
  one : sumL qs = 1
  num : ∀ q ∈ qs, 0 ≤ q.num ∧ q.num ≤ q.den
  lt : ∀ q ∈ qs, Lt2 12 q
theorem sum_pos {vs : List Int} {i : Nat} {v : Int} (h : ∀ x ∈ vs, 0 ≤ x) (hi : vs[i]? = some v) : v ≤ vs.sum ∧ 0 ≤ vs.sum := by
  have nn : ∀ l : List Int, (∀ x ∈ l, 0 ≤ x) → 0 ≤ l.sum := by
    intro l
    induction l with
    | nil => intro _; exact Int.le_refl 0
    | cons x l ih =>
      intro hl
      rw [List.sum_cons]
      have := hl x List.mem_cons_self
      have := ih fun y hy => hl y (List.mem_cons_of_mem _ hy)
      omega
  refine ⟨?_, nn vs h⟩
  induction vs generalizing i with
  | nil => simp at hi
  | cons x vs ih =>
    rw [List.sum_cons]
    have hx := h x List.mem_cons_self
    have hr := nn vs fun y hy => h y (List.mem_cons_of_mem _ hy)
    cases i with
    | zero => simp at hi; omega
    | succ i =>
      have := ih (i := i) (fun y hy => h y (List.mem_cons_of_mem _ hy)) (by simpa using hi)
      omega
theorem sum_le_of {B : Int} : ∀ {vs : List Int}, (∀ x ∈ vs, x ≤ B) → vs.sum ≤ vs.length * B
  | [], _ => by simp
  | v :: vs, h => by
    have a := h v List.mem_cons_self
    have b := sum_le_of fun y hy => h y (List.mem_cons_of_mem _ hy)
    rw [List.sum_cons, List.length_cons, Int.natCast_succ, Int.add_mul]
    omega
def frP (q : Rat) : PyData := .tuple [.int q.num, .int q.den]
theorem fr_pd (st : Store) (n : Nat) (q : Rat) : pd st (n + 2) (fr q) = some (frP q) := rfl
theorem frs_pds (st : Store) (n : Nat) : ∀ qs : List Rat, Pds st (n + 2) (qs.map fr) (qs.map frP)
  | [] => .nil
  | q :: qs => .cons (fr_pd st n q) (frs_pds st n qs)
theorem lt_weight {i : Int} (h : i.natAbs < 2 ^ 12) : (PyData.int i).weight ≤ 12 := by
  show (if i == 0 then 0 else i.natAbs.log2 + 1) ≤ 12
  split
  · omega
  · rename_i e
    have : i.natAbs ≠ 0 := by simpa using e
    have := (Nat.log2_lt this).mpr h
    omega
theorem frP_ok {q : Rat} (h : Lt2 12 q) : small (2 ^ 200) (frP q) = true ∧ (frP q).weight ≤ 26 := by
  have a : (2 : Nat) ^ 12 ≤ 2 ^ 200 := Nat.pow_le_pow_right (by decide) (by decide)
  have hd : ((q.den : Int)).natAbs < 2 ^ 12 := by simpa using h.2
  refine ⟨?_, ?_⟩
  · show (decide (q.num.natAbs < 2 ^ 200) && (decide (((q.den : Int)).natAbs < 2 ^ 200) && true)) = true
    rw [decide_eq_true (Nat.lt_of_lt_of_le h.1 a), decide_eq_true (Nat.lt_of_lt_of_le hd a)]
    rfl
  · have w1 := lt_weight h.1
    have w2 := lt_weight hd
    show (PyData.int q.num).weight + 1 + ((PyData.int q.den).weight + 1 + 0) ≤ 26
    omega
theorem frs_ok : ∀ {qs : List Rat}, (∀ q ∈ qs, Lt2 12 q) → smalls (2 ^ 200) (qs.map frP) = true ∧ PyData.weightAll (qs.map frP) ≤ 27 * qs.length
  | [], _ => ⟨rfl, Nat.le_refl _⟩
  | q :: qs, h => by
    obtain ⟨a, b⟩ := frP_ok (h q List.mem_cons_self)
    obtain ⟨c, d⟩ := frs_ok fun x hx => h x (List.mem_cons_of_mem _ hx)
    refine ⟨?_, ?_⟩
    · show (small (2 ^ 200) (frP q) && smalls (2 ^ 200) (qs.map frP)) = true
      rw [a, c]; rfl
    · show (frP q).weight + 1 + PyData.weightAll (qs.map frP) ≤ _
      rw [List.length_cons]
      omega
theorem frs_dt (Hs : List Nat) (st : Store) {qs : List Rat} (h : ∀ q ∈ qs, Lt2 12 q) (hl : qs.length ≤ 5) : Dt Hs st 3 150 (.tup (qs.map fr)) := by
  obtain ⟨a, b⟩ := frs_ok h
  refine ⟨.tuple (qs.map frP), PdC.pd (.tup (frs_pds _ 0 qs)), a, ?_⟩
  show PyData.weightAll (qs.map frP) ≤ 150
  omega
theorem shares_run {st : Store} {F k m many : Nat} (h : Feed st F m) (h1 : 1 ≤ many) (h4 : many ≤ 5) (hm : m + 20 < BIG) :
    ∃ qs st', run WH fns (k + 2) f__law_shares [.ref F, .int many] st = .ok (.tup (qs.map fr)) st' ∧ Drw many qs ∧ Feed st' F (m + 13) ∧ Step F st st' ∧ Drawn F st st' := by
  have hF := h.lt
  -- the list 6, 6, 200 and a draw
  have fa : Feed (st ++ [O.lst [.int 6, .int 6, .int 200]]) F m := h.app
  obtain ⟨r, st1, e1, r0, r1, f1, s1, d1, l1⟩ := draw_run (k := k) (many := 3) fa (by decide) (by decide) (by omega)
  have g1 : st1[st.length]? = some (.lst [.int 6, .int 6, .int 200]) := by rw [s1.at_ _ (by simp) (by omega)]; simp
  obtain ⟨most, hr, m1, m2⟩ : ∃ most : Int, atI [D.int 6, D.int 6, D.int 200] r = some (.int most) ∧ 6 ≤ most ∧ most ≤ 200 := by
    have : r = 0 ∨ r = 1 ∨ r = 2 := by omega
    rcases this with e | e | e <;> subst e
    · exact ⟨6, rfl, by decide, by decide⟩
    · exact ⟨6, rfl, by decide, by decide⟩
    · exact ⟨200, rfl, by decide, by decide⟩
  have S1 := (Step.app hF [O.lst [.int 6, .int 6, .int 200]]).trans s1
  have D1 : Drawn F st st1 := Drawn.right (Step.app hF _) d1
  -- the parts
  have b300 : (300 : Nat) < BIG := by decide
  have ok8 : ∀ {a b : Int}, 0 ≤ a → a < 200 → 0 ≤ b → b < 4 → mulOk a b = true := fun h1 h2 h3 h4 => mul_nat_lt (a := 300) (b := 300) h1 (by omega) h3 (by omega) b300 b300
  obtain ⟨xs, st2, c1, lx, px, f2, s2, l2⟩ := compL_ind (g := []) (f := lcF (run WH fns (k + 1)) [4] (.nm 4) .np _law_shares_le1 [some (.ref F), some (.int many), some (.int most), none, none, none])
    (fun x => ∃ v : Int, x = .int v ∧ 0 ≤ v) (fun i st' => Feed st' F (m + 1 + 2 * i) ∧ Step F st1 st' ∧ st'.length = st1.length) (fun _ _ _ => rfl) ((List.range many).map fun (k : Nat) => D.int k) 0 st1 (by
      intro x hx j st' hj ⟨fj, sj, lj⟩
      rw [List.length_map, List.length_range] at hj
      obtain ⟨a, sa, ea, a0, a1, fA, sA, dA, lA⟩ := draw_run (k := k) (many := most) fj (by omega) (by omega) (by omega)
      obtain ⟨b, sb, eb, b0, b1, fB, sB, dB, lB⟩ := draw_run (k := k) (many := 4) fA (by decide) (by decide) (by omega)
      refine ⟨.int (a * b), sb, ?_, ⟨_, rfl, Int.mul_nonneg a0 b0⟩, fB.up (by omega), sj.trans (sA.trans sB), by omega⟩
      simp [lcF, _law_shares_le1, setT, wiped, ea, eb, mul_int (ok8 a0 (by omega) b0 b1)]) ⟨f1, Step.refl, rfl⟩
  obtain ⟨vs, rfl, hv⟩ := map_of px
  simp only [List.length_map, List.length_range] at lx
  have S2 := S1.trans s2
  have D2 : Drawn F st st2 := D1.left s2
  -- each below
  have mp : (0 : Int) < most + 1 := by omega
  have c2 := compL_mapL (g := [(st2.length, vs.map D.int)]) (st := st2 ++ [O.lst (vs.map D.int)]) (f := lcF (run WH fns (k + 1)) [5] (.nm 5) .np _law_shares_le2 [some (.ref F), some (.int many), some (.int most), some (.ref st2.length), none, none]) (by simp [gOk, lstAt]) D.int (fun v => D.int (v % (most + 1))) (xs := vs) (fun v hv => by
    simp [lcF, _law_shares_le2, setT, wiped, mod_int mp])
  have z2 : vs.length ≤ sizeLine := by rw [lx, sizeLine_eq]; omega
  -- one of them is set
  have fb : Feed (st2 ++ [O.lst (vs.map D.int), O.lst (vs.map fun v => D.int (v % (most + 1)))]) F (m + 1 + 2 * (0 + many)) := by
    have z : Feed st2 F (m + 1 + 2 * (0 + many)) := by simpa using f2
    exact z.app
  obtain ⟨u, st3, e3, u0, u1, f3, s3, d3, l3⟩ := draw_run (k := k) (many := most) fb (by omega) (by omega) (by omega)
  obtain ⟨w, st4, e4, w0, w1, f4, s4, d4, l4⟩ := draw_run (k := k) (many := many) f3 (by omega) (by omega) (by omega)
  obtain ⟨i, rfl⟩ : ∃ i : Nat, w = i := ⟨w.toNat, by omega⟩
  have hi : i < many := by omega
  have g4 : st4[st2.length + 1]? = some (.lst (vs.map fun v => D.int (v % (most + 1)))) := by
    have hlt := f2.lt
    rw [s4.at_ _ (by rw [l3]; simp) (by omega), s3.at_ _ (by simp) (by omega)]
    simp
  have S4 : Step F st st4 := (S2.trans (Step.app f2.lt _)).trans (s3.trans s4)
  have D4 : Drawn F st st4 := (D2.left (Step.app f2.lt _)).left (s3.trans s4)
  have L4 : st2.length + 1 < st4.length := by rw [l4, l3]; simp
  obtain ⟨ws, hws⟩ : ∃ ws : List Int, ws = (vs.map fun v => v % (most + 1)).set i (1 + u) := ⟨_, rfl⟩
  have wsD : ws.map D.int = (vs.map fun v => D.int (v % (most + 1))).set i (.int (1 + u)) := by
    rw [hws, List.map_set, List.map_map]; rfl
  have wl : ws.length = many := by rw [hws]; simp [lx]
  have wnn : ∀ x ∈ ws, 0 ≤ x ∧ x ≤ 200 := by
    intro x hx
    rw [hws] at hx
    rcases List.mem_or_eq_of_mem_set hx with e | e
    · obtain ⟨v, _, rfl⟩ := List.mem_map.mp e
      have a := Int.emod_nonneg v (show most + 1 ≠ 0 by omega)
      have b := Int.emod_lt_of_pos v mp
      omega
    · omega
  have wi : ws[i]? = some (1 + u) := by
    rw [hws, List.getElem?_set_self]
    simp [lx, hi]
  obtain ⟨sp, sn⟩ := sum_pos (fun x hx => (wnn x hx).1) wi
  have sle := sum_le_of (B := 200) (fun x hx => (wnn x hx).2)
  rw [wl] at sle
  generalize hS : ws.sum = S at sp sn sle
  have S0 : 0 < S := by omega
  have Sl : S ≤ 1000 := by omega
  have SF := S4.setAbove (o := O.lst (ws.map D.int)) (L := st2.length + 1) (by have := S2.len; omega) hF
  have hlt : F < st2.length := f2.lt
  have big1 : (1000 : Nat) < BIG := by decide
  have g5 : (st4.set (st2.length + 1) (O.lst (ws.map D.int)))[st2.length + 1]? = some (.lst (ws.map D.int)) := List.getElem?_set_self L4
  have bs := bc_sum (st := st4.set (st2.length + 1) (O.lst (ws.map D.int))) (n := st2.length + 1) (f := id) (xs := ws) g5
  simp only [List.map_id, hS] at bs
  have c3 := compL_mapL (g := [(st2.length + 1, ws.map D.int)]) (st := st4.set (st2.length + 1) (O.lst (ws.map D.int))) (f := lcF (run WH fns (k + 1)) [5] (.nm 5) .np _law_shares_le3 [some (.ref F), some (.int many), some (.int most), some (.ref (st2.length + 1)), none, none]) (by simp [gOk, lstAt, g5]) D.int (fun v => fr (Rat.divInt v S)) (xs := ws) (fun v hv => by
    have lw := low_run (st := st4.set (st2.length + 1) (O.lst (ws.map D.int))) (k := k) (n := v) S0 (by omega)
    simp [lcF, _law_shares_le3, setT, wiped, bs, lw])
  have z3 : ws.length ≤ sizeLine := by rw [wl, sizeLine_eq]; omega
  -- what is left of it
  obtain ⟨stF, hstF⟩ : ∃ z : Store, z = st4.set (st2.length + 1) (O.lst (ws.map D.int)) ++ [O.lst (ws.map fun v => fr (Rat.divInt v S))] := ⟨_, rfl⟩
  have fF : Feed stF F (m + 13) := by rw [hstF]; exact ((f4.setAt (by omega)).up (by omega)).app
  have hF4 : F < (st4.set (st2.length + 1) (O.lst (ws.map D.int))).length := by rw [List.length_set]; omega
  have SS : Step F st stF := by rw [hstF]; exact SF.trans (Step.app hF4 _)
  have DD : Drawn F st stF := by
    rw [hstF]
    show _ < _
    rw [cnt_app hF4, cnt_set (by omega)]
    exact D4
  have qd : ∀ v ∈ ws, (0 : Int) ≤ (Rat.divInt v S).num ∧ (Rat.divInt v S).num ≤ (Rat.divInt v S).den ∧ Lt2 12 (Rat.divInt v S) := fun v hv => by
    obtain ⟨a, b⟩ := frac_parts (n := v) S0
    obtain ⟨v0, v1⟩ := wnn v hv
    obtain ⟨j, hj⟩ := List.mem_iff_getElem?.mp hv
    have vS : v ≤ S := by rw [← hS]; exact (sum_pos (fun x hx => (wnn x hx).1) hj).1
    have g0 : 0 < Int.gcd v S := Int.gcd_pos_iff.mpr (.inr (by omega))
    have n0 : 0 ≤ v / (Int.gcd v S : Int) := Int.ediv_nonneg v0 (by omega)
    have n1 : v / (Int.gcd v S : Int) ≤ S / (Int.gcd v S : Int) := Int.ediv_le_ediv (by omega) vS
    have n2 : S / (Int.gcd v S : Int) ≤ S := Int.ediv_le_self _ (by omega)
    refine ⟨by omega, by omega, ⟨by omega, by omega⟩⟩
  have dr : Drw many (ws.map fun v => Rat.divInt v S) := by
    refine ⟨by rw [List.length_map, wl], ?_, fun q hq => ?_, fun q hq => ?_⟩
    · rw [sum_over (by omega), hS, Rat.divInt_self' (by omega)]
    · obtain ⟨v, hv, rfl⟩ := List.mem_map.mp hq
      exact ⟨(qd v hv).1, (qd v hv).2.1⟩
    · obtain ⟨v, hv, rfl⟩ := List.mem_map.mp hq
      exact (qd v hv).2.2
  have dt : Dt [] stF 3 100000 (.tup ((ws.map fun v => Rat.divInt v S).map fr)) := by
    exact (frs_dt [] stF dr.lt (by rw [dr.len]; exact h4)).up (Nat.le_refl _) (by decide)
  obtain ⟨st'', e5, e6, e7, e8, _⟩ := leave_step (Hs := []) (fun _ h => nomatch h) h SS DD fF dt
  refine ⟨ws.map fun v => Rat.divInt v S, st'', ?_, dr, e8, e6, e7⟩
  rw [← e5, hstF]
  rw [run_eq (fn := fn__law_shares) (env0 := [some (.ref F), some (.int many), none, none, none, none]) rfl rfl rfl rfl]
  have wr := walk_range1 (st := st1) (n := many) (by omega)
  have hi' : i < vs.length := by omega
  have e6 := wsD.symm
  simp [fn__law_shares, b__law_shares, setT, e1, ix_ref_def, lstAt_def, g1, hr, wr, c1, z2, walk_val, src_ref, c2, e3, e4, put_def, g4, ixN_nat hi', e6, g5, c3, z3, items_ref]
  rfl
end Py.L05
end

section
set_option Elab.async false
set_option linter.all false
set_option maxRecDepth 100000
namespace Py.L05
open PySem L2
def poolL : List Str := [Str.ofString "a", Str.ofString "ab", Str.ofString "ways", Str.ofString "onto", Str.ofString "abc", Str.ofString "sayer", Str.ofString "ruler", Str.ofString "b", Str.ofString "prices", Str.ofString "worthy", Str.ofString "nones", Str.ofString "zzzzzzzz"]
theorem pool_names : ∀ s ∈ poolL, isNameS s = true ∧ s.length ≤ 8 ∧ PyData.strOk s = true := by decide +kernel
theorem pool_nodup : poolL.Nodup := by decide +kernel
/-- a drawn trial -/
structure Tri (fs : List Str) (ws : List (Str × List Rat)) : Prop where
  f2 : 2 ≤ fs.length
  f4 : fs.length ≤ 4
  w2 : 2 ≤ ws.length
  w4 : ws.length ≤ 4
  fin : ∀ s ∈ fs, s ∈ poolL
  fnd : fs.Nodup
  win : ∀ w ∈ ws, w.1 ∈ poolL
  wnd : (ws.map (·.1)).Nodup
  wsh : ∀ w ∈ ws, Drw fs.length w.2
def wayD (w : Str × List Rat) : D := .tup [.str w.1, .tup (w.2.map fr)]
def triD (fs : List Str) (ws : List (Str × List Rat)) : D := .tup [.tup (fs.map D.str), .tup (ws.map wayD)]
def wayP (w : Str × List Rat) : PyData := .tuple [.str w.1, .tuple (w.2.map frP)]
def triP (fs : List Str) (ws : List (Str × List Rat)) : PyData := .tuple [.tuple (fs.map PyData.str), .tuple (ws.map wayP)]
theorem tri_pd (st : Store) (n : Nat) (fs : List Str) (ws : List (Str × List Rat)) : pd st (n + 6) (triD fs ws) = some (triP fs ws) := by
  refine PdC.pd (.tup (.cons (PdC.pd (.tup (Pds.strs id fs))) (.cons (PdC.pd (.tup ?_)) .nil)))
  have : ∀ ws : List (Str × List Rat), Pds st (n + 4) (ws.map wayD) (ws.map wayP) := by
    intro ws
    induction ws with
    | nil => exact .nil
    | cons w ws ih => exact .cons (PdC.pd (.tup (.cons rfl (.cons (PdC.pd (.tup (frs_pds st n w.2))) .nil)))) ih
  exact this ws
theorem ddup_nodup : ∀ (zs acc : List Str), (acc ++ zs).Nodup → zs.foldl stepS acc = acc ++ zs
  | [], acc, _ => by simp
  | z :: zs, acc, h => by
    have hz : (acc.any (· == z)) = false := by
      rw [List.any_eq_false]
      intro x hx e
      have e := eq_of_beq e
      subst e
      rw [List.nodup_append] at h
      exact h.2.2 x hx x List.mem_cons_self rfl
    have e : stepS acc z = acc ++ [z] := by unfold stepS; rw [hz]; rfl
    rw [List.foldl_cons, e, ddup_nodup zs (acc ++ [z]) (by simpa using h)]
    simp
theorem names_ok {zs : List Str} (h : ∀ s ∈ zs, s ∈ poolL) (hn : zs.Nodup) : areNamesP (zs.map PyData.str) = true := by
  unfold areNamesP
  rw [Bool.and_eq_true]
  refine ⟨?_, decide_eq_true ?_⟩
  · rw [List.all_eq_true]
    intro p hp
    obtain ⟨s, hs, rfl⟩ := List.mem_map.mp hp
    exact (pool_names s (h s hs)).1
  · have e : (zs.map PyData.str).map strP = zs := by rw [List.map_map]; exact List.map_id _
    rw [e, List.length_map]
    show (zs.foldl stepS []).length = _
    rw [ddup_nodup zs [] (by simpa using hn)]; rfl
theorem frP_toQ (q : Rat) : toQ (frP q) = q := Rat.num_divInt_den q
theorem frP_share {q : Rat} (h : 0 ≤ q.num ∧ q.num ≤ q.den) : isShareP (frP q) = true := by
  have hd := q.den_pos
  have hr : Int.gcd q.num q.den = 1 := q.reduced
  have e1 : isFracP (frP q) = true := by
    show (decide (1 ≤ (q.den : Int)) && decide (Int.gcd q.num q.den = 1)) = true
    rw [decide_eq_true (show (1 : Int) ≤ q.den by omega), decide_eq_true hr]; rfl
  show (isFracP (frP q) && (decide (0 ≤ q.num) && decide (q.num ≤ (q.den : Int)))) = true
  rw [e1, decide_eq_true h.1, decide_eq_true h.2]; rfl
theorem drw_shares {many : Nat} {qs : List Rat} (h : Drw many qs) : areSharesP (.tuple (qs.map frP)) many = true := by
  show (decide ((qs.map frP).length = many) && (qs.map frP).all isShareP && decide (sumQ (qs.map frP) = 1)) = true
  have a : (qs.map frP).all isShareP = true := by
    rw [List.all_eq_true]
    intro p hp
    obtain ⟨q, hq, rfl⟩ := List.mem_map.mp hp
    exact frP_share (h.num q hq)
  have b : sumQ (qs.map frP) = 1 := by
    unfold sumQ
    rw [List.map_map, show (toQ ∘ frP) = id from funext frP_toQ, List.map_id, foldl_sumL, h.one, Rat.zero_add]
  rw [a, decide_eq_true (by rw [List.length_map, h.len]), decide_eq_true b]; rfl
theorem tri_trial {fs : List Str} {ws : List (Str × List Rat)} (h : Tri fs ws) : isTrialP (triP fs ws) = true := by
  have m1 : isManyP (.tuple (fs.map PyData.str)) = true := by
    show (decide (2 ≤ (fs.map PyData.str).length) && decide ((fs.map PyData.str).length ≤ 4)) = true
    rw [List.length_map, decide_eq_true h.f2, decide_eq_true h.f4]; rfl
  have m2 : isManyP (.tuple (ws.map wayP)) = true := by
    show (decide (2 ≤ (ws.map wayP).length) && decide ((ws.map wayP).length ≤ 4)) = true
    rw [List.length_map, decide_eq_true h.w2, decide_eq_true h.w4]; rfl
  have n1 := names_ok h.fin h.fnd
  have n2 : areNamesP ((ws.map wayP).map fstP) = true := by
    have e : (ws.map wayP).map fstP = (ws.map (·.1)).map PyData.str := by rw [List.map_map, List.map_map]; rfl
    rw [e]
    exact names_ok (fun s hs => by obtain ⟨w, hw, rfl⟩ := List.mem_map.mp hs; exact h.win w hw) h.wnd
  have p1 : (ws.map wayP).all isPairP = true := by
    rw [List.all_eq_true]
    intro p hp
    obtain ⟨w, _, rfl⟩ := List.mem_map.mp hp
    rfl
  have s1 : ((ws.map wayP).all fun w => areSharesP (sndP w) (fs.map PyData.str).length) = true := by
    rw [List.all_eq_true]
    intro p hp
    obtain ⟨w, hw, rfl⟩ := List.mem_map.mp hp
    rw [List.length_map]
    exact drw_shares (h.wsh w hw)
  have ep : isPairP (triP fs ws) = true := rfl
  unfold isTrialP
  rw [ep]
  show (true && isManyP (.tuple (fs.map PyData.str)) && isManyP (.tuple (ws.map wayP)) && areNamesP (fs.map PyData.str) && (ws.map wayP).all isPairP && areNamesP ((ws.map wayP).map fstP) && (ws.map wayP).all fun w => areSharesP (sndP w) (fs.map PyData.str).length) = true
  rw [m1, m2, n1, p1, n2, s1]; rfl
theorem name_ok {s : Str} (h : s ∈ poolL) : small (2 ^ 200) (.str s) = true ∧ (PyData.str s).weight ≤ 8 := by
  obtain ⟨_, b, c⟩ := pool_names s h
  refine ⟨?_, b⟩
  show (decide (s.length ≤ 1000) && PyData.strOk s) = true
  rw [c, decide_eq_true (by omega)]; rfl
theorem strs_ok : ∀ {fs : List Str}, (∀ s ∈ fs, s ∈ poolL) → smalls (2 ^ 200) (fs.map PyData.str) = true ∧ PyData.weightAll (fs.map PyData.str) ≤ 9 * fs.length
  | [], _ => ⟨rfl, Nat.le_refl _⟩
  | s :: fs, h => by
    obtain ⟨a, b⟩ := name_ok (h s List.mem_cons_self)
    obtain ⟨c, d⟩ := strs_ok fun x hx => h x (List.mem_cons_of_mem _ hx)
    refine ⟨?_, ?_⟩
    · show (small (2 ^ 200) (.str s) && smalls (2 ^ 200) (fs.map PyData.str)) = true
      rw [a, c]; rfl
    · show (PyData.str s).weight + 1 + PyData.weightAll (fs.map PyData.str) ≤ _
      rw [List.length_cons]
      omega
theorem ways_ok {many : Nat} (hm : many ≤ 4) : ∀ {ws : List (Str × List Rat)}, (∀ w ∈ ws, w.1 ∈ poolL ∧ Drw many w.2) → smalls (2 ^ 200) (ws.map wayP) = true ∧ PyData.weightAll (ws.map wayP) ≤ 130 * ws.length
  | [], _ => ⟨rfl, Nat.le_refl _⟩
  | w :: ws, h => by
    obtain ⟨h1, h2⟩ := h w List.mem_cons_self
    obtain ⟨a, b⟩ := name_ok h1
    obtain ⟨e, f⟩ := frs_ok h2.lt
    obtain ⟨c, d⟩ := ways_ok hm fun x hx => h x (List.mem_cons_of_mem _ hx)
    have hl := h2.len
    refine ⟨?_, ?_⟩
    · show ((small (2 ^ 200) (.str w.1) && (smalls (2 ^ 200) (w.2.map frP) && true)) && smalls (2 ^ 200) (ws.map wayP)) = true
      rw [a, c, e]; rfl
    · show ((PyData.str w.1).weight + 1 + (PyData.weightAll (w.2.map frP) + 1 + 0)) + 1 + PyData.weightAll (ws.map wayP) ≤ _
      rw [List.length_cons]
      omega
theorem tri_dt {Hs : List Nat} {st : Store} {fs : List Str} {ws : List (Str × List Rat)} (h : Tri fs ws) : Dt Hs st 6 1000 (triD fs ws) := by
  obtain ⟨a, b⟩ := strs_ok h.fin
  obtain ⟨c, d⟩ := ways_ok h.f4 (ws := ws) fun w hw => ⟨h.win w hw, h.wsh w hw⟩
  refine ⟨triP fs ws, tri_pd _ 0 fs ws, ?_, ?_⟩
  · show (smalls (2 ^ 200) (fs.map PyData.str) && (smalls (2 ^ 200) (ws.map wayP) && true)) = true
    rw [a, c]; rfl
  · show PyData.weightAll (fs.map PyData.str) + 1 + (PyData.weightAll (ws.map wayP) + 1 + 0) ≤ 1000
    have := h.f4
    have := h.w4
    omega
end Py.L05
end

section
set_option Elab.async false
set_option linter.all false
set_option maxRecDepth 100000
namespace Py.L05
open PySem L2
theorem at4 {r : Int} (h0 : 0 ≤ r) (h1 : r < 4) : ∃ a : Nat, atI [D.int 2, D.int 2, D.int 3, D.int 4] r = some (.int (a : Int)) ∧ 2 ≤ a ∧ a ≤ 4 := by
  have : r = 0 ∨ r = 1 ∨ r = 2 ∨ r = 3 := by omega
  rcases this with e | e | e | e <;> subst e
  · exact ⟨2, rfl, by decide, by decide⟩
  · exact ⟨2, rfl, by decide, by decide⟩
  · exact ⟨3, rfl, by decide, by decide⟩
  · exact ⟨4, rfl, by decide, by decide⟩
theorem at3' {r : Int} (h0 : 0 ≤ r) (h1 : r < 3) : ∃ a : Nat, atI [D.int 0, D.int 2, D.int 5] r = some (.int (a : Int)) ∧ a ≤ 5 := by
  have : r = 0 ∨ r = 1 ∨ r = 2 := by omega
  rcases this with e | e | e <;> subst e
  · exact ⟨0, rfl, by decide⟩
  · exact ⟨2, rfl, by decide⟩
  · exact ⟨5, rfl, by decide⟩
theorem trial_run {st : Store} {F k m : Nat} (h : Feed st F m) (hm : m + 100 < BIG) :
    ∃ fs ws st', run WH fns (k + 3) f__law_trial [.ref F] st = .ok (triD fs ws) st' ∧ Tri fs ws ∧ Feed st' F (m + 60) ∧ Step F st st' ∧ Drawn F st st' := by
  have hF := h.lt
  obtain ⟨n0, hn0⟩ : ∃ n0, n0 = st.length := ⟨_, rfl⟩
  -- the pool, turned
  have fa : Feed (st ++ [O.lst (poolL.map D.str)]) F m := h.app
  obtain ⟨t, s1, e1, t0, t1, f1, S1, d1, l1⟩ := draw_run (k := k + 1) (many := 12) fa (by decide) (by decide) (by omega)
  obtain ⟨t, rfl⟩ : ∃ j : Nat, t = j := ⟨t.toNat, by omega⟩
  have L1 : s1.length = n0 + 1 := by rw [l1, hn0]; simp
  have g1 : ∀ more : Store, (s1 ++ more)[n0]? = some (.lst (poolL.map D.str)) := fun more => by
    rw [List.getElem?_append_left (by omega), S1.at_ _ (by rw [hn0]; simp) (by omega), hn0]; simp
  obtain ⟨pl, hpl⟩ : ∃ pl : List Str, pl = poolL.drop t ++ poolL.take t := ⟨_, rfl⟩
  have plD : pl.map D.str = (poolL.map D.str).drop t ++ (poolL.map D.str).take t := by rw [hpl, List.map_append, List.map_drop, List.map_take]
  have pll : pl.length = 12 := by
    rw [hpl, List.length_append, List.length_drop, List.length_take]
    show 12 - t + min t 12 = 12
    omega
  have plin : ∀ s ∈ pl, s ∈ poolL := fun s hs => by
    rw [hpl] at hs
    rcases List.mem_append.mp hs with z | z
    · exact List.mem_of_mem_drop z
    · exact List.mem_of_mem_take z
  have plnd : pl.Nodup := by
    have : (poolL.drop t ++ poolL.take t).Perm poolL := by
      refine List.perm_append_comm.trans ?_
      rw [List.take_append_drop]
    rw [hpl]
    exact this.nodup_iff.mpr pool_nodup
  -- the faces
  obtain ⟨M1, hM1⟩ : ∃ M : Store, M = [O.lst ((poolL.map D.str).drop t), O.lst ((poolL.map D.str).take t), O.lst (pl.map D.str), O.lst [.int 2, .int 2, .int 3, .int 4]] := ⟨_, rfl⟩
  have fb : Feed (s1 ++ M1) F (m + 1) := f1.app
  obtain ⟨r2, s2, e2, r20, r21, f2, S2, d2, l2⟩ := draw_run (k := k + 1) (many := 4) fb (by decide) (by decide) (by omega)
  have L2 : s2.length = n0 + 5 := by rw [l2, List.length_append, L1, hM1]; rfl
  obtain ⟨a, ha, a2, a4⟩ := at4 r20 r21
  have S02 : Step F s1 s2 := (Step.app f1.lt M1).trans S2
  have gp : ∀ more : Store, (s2 ++ more)[n0 + 3]? = some (.lst (pl.map D.str)) := fun more => by
    rw [List.getElem?_append_left (by omega), S2.at_ _ (by rw [List.length_append, L1, hM1]; simp) (by omega), show n0 + 3 = s1.length + 2 by omega, st_at, hM1]; rfl
  have gq : s2[n0 + 4]? = some (.lst [.int 2, .int 2, .int 3, .int 4]) := by
    rw [S2.at_ _ (by rw [List.length_append, L1, hM1]; simp) (by omega), show n0 + 4 = s1.length + 3 by omega, st_at, hM1]; rfl
  -- the ways' names
  obtain ⟨M2, hM2⟩ : ∃ M : Store, M = [O.lst ((pl.map D.str).take a), O.lst [.int 0, .int 2, .int 5]] := ⟨_, rfl⟩
  have fc : Feed (s2 ++ M2) F (m + 2) := f2.app
  obtain ⟨r3, s3, e3, r30, r31, f3, S3, d3, l3⟩ := draw_run (k := k + 1) (many := 3) fc (by decide) (by decide) (by omega)
  have L3 : s3.length = n0 + 7 := by rw [l3, List.length_append, L2, hM2]; rfl
  obtain ⟨b, hb, b5⟩ := at3' r30 r31
  have gp3 : s3[n0 + 3]? = some (.lst (pl.map D.str)) := by
    rw [S3.at_ _ (by rw [List.length_append, L2]; omega) (by omega)]; exact gp M2
  have gf3 : s3[n0 + 5]? = some (.lst ((pl.map D.str).take a)) := by
    rw [S3.at_ _ (by rw [List.length_append, L2, hM2]; simp) (by omega), show n0 + 5 = s2.length + 0 by omega, st_at, hM2]; rfl
  have gb3 : s3[n0 + 6]? = some (.lst [.int 0, .int 2, .int 5]) := by
    rw [S3.at_ _ (by rw [List.length_append, L2, hM2]; simp) (by omega), show n0 + 6 = s2.length + 1 by omega, st_at, hM2]; rfl
  obtain ⟨M3, hM3⟩ : ∃ M : Store, M = [O.lst ((pl.map D.str).drop b), O.lst [.int 2, .int 2, .int 3, .int 4]] := ⟨_, rfl⟩
  have fd : Feed (s3 ++ M3) F (m + 3) := f3.app
  obtain ⟨r4, s4, e4, r40, r41, f4, S4, d4, l4⟩ := draw_run (k := k + 1) (many := 4) fd (by decide) (by decide) (by omega)
  have L4 : s4.length = n0 + 9 := by rw [l4, List.length_append, L3, hM3]; rfl
  obtain ⟨c, hc, c2, c4⟩ := at4 r40 r41
  have gd4 : s4[n0 + 7]? = some (.lst ((pl.map D.str).drop b)) := by
    rw [S4.at_ _ (by rw [List.length_append, L3, hM3]; simp) (by omega), show n0 + 7 = s3.length + 0 by omega, st_at, hM3]; rfl
  have gc4 : s4[n0 + 8]? = some (.lst [.int 2, .int 2, .int 3, .int 4]) := by
    rw [S4.at_ _ (by rw [List.length_append, L3, hM3]; simp) (by omega), show n0 + 8 = s3.length + 1 by omega, st_at, hM3]; rfl
  have gf4 : s4[n0 + 5]? = some (.lst ((pl.map D.str).take a)) := by
    rw [S4.at_ _ (by rw [List.length_append, L3]; omega) (by omega), List.getElem?_append_left (by omega)]; exact gf3
  obtain ⟨fs, hfs⟩ : ∃ fs : List Str, fs = pl.take a := ⟨_, rfl⟩
  obtain ⟨wn, hwn⟩ : ∃ wn : List Str, wn = (pl.drop b).take c := ⟨_, rfl⟩
  have fsl : fs.length = a := by rw [hfs, List.length_take, pll]; omega
  have wnl : wn.length = c := by rw [hwn, List.length_take, List.length_drop, pll]; omega
  have fsD : fs.map D.str = (pl.map D.str).take a := by rw [hfs, List.map_take]
  have wnD : wn.map D.str = ((pl.map D.str).drop b).take c := by rw [hwn, List.map_take, List.map_drop]
  rw [← fsD] at gf3 gf4
  obtain ⟨s5, hs5⟩ : ∃ z : Store, z = s4 ++ [O.lst (wn.map D.str)] := ⟨_, rfl⟩
  have L5 : s5.length = n0 + 10 := by rw [hs5, List.length_append, L4]; rfl
  have f5 : Feed s5 F (m + 4) := by rw [hs5]; exact f4.app
  have gw5 : s5[n0 + 9]? = some (.lst (wn.map D.str)) := by rw [hs5, show n0 + 9 = s4.length + 0 by omega, st_at]; rfl
  have gf5 : s5[n0 + 5]? = some (.lst (fs.map D.str)) := by rw [hs5, List.getElem?_append_left (by omega)]; exact gf4
  have look : ∀ {z : Store}, Step F s5 z → z[n0 + 9]? = some (.lst (wn.map D.str)) ∧ z[n0 + 5]? = some (.lst (fs.map D.str)) := fun sz => ⟨by rw [sz.at_ _ (by omega) (by omega)]; exact gw5, by rw [sz.at_ _ (by omega) (by omega)]; exact gf5⟩
  obtain ⟨ws, s6, c1, w1, w2, f6, S6⟩ := compL_rel (g := [(n0 + 9, wn.map D.str)]) (f := lcF (run WH fns (k + 2)) [5] (.nm 5) .np _law_trial_le1 [some (.ref F), some (.ref (n0 + 3)), some (.int t), some (.ref (n0 + 5)), some (.ref (n0 + 9)), none])
    D.str (fun s qs => wayD (s, qs)) (fun s qs => Drw a qs) (fun i z => Feed z F (m + 4 + 13 * i) ∧ Step F s5 z) (fun i z hz => by simp [gOk, lstAt, (look hz.2).1]) wn 0 s5 (by
      intro s hs j z hj ⟨fz, Sz⟩
      rw [wnl] at hj
      obtain ⟨qs, z', e, dq, fz', Sz', dz'⟩ := shares_run (k := k) fz (many := a) (by omega) (by omega) (by omega)
      refine ⟨qs, z', ?_, dq, fz'.up (by omega), Sz.trans Sz'⟩
      simp [lcF, _law_trial_le1, setT, wiped, len_ref_def, lstAt_def, (look Sz).2, fsl, e, wayD]) ⟨f5, Step.refl⟩
  have wsl : ws.length = c := by rw [← wnl, ← w1, List.length_map]
  have tri : Tri fs ws := by
    refine ⟨by omega, by omega, by omega, by omega, fun s hs => plin s (by rw [hfs] at hs; exact List.mem_of_mem_take hs), by rw [hfs]; exact plnd.sublist (List.take_sublist _ _), fun w hw => ?_, ?_, fun w hw => by rw [fsl]; exact w2 w hw⟩
    · have hm : w.1 ∈ wn := by rw [← w1]; exact List.mem_map_of_mem hw
      rw [hwn] at hm
      exact plin _ (List.mem_of_mem_drop (List.mem_of_mem_take hm))
    · rw [w1, hwn]
      exact (plnd.sublist (List.drop_sublist _ _)).sublist (List.take_sublist _ _)
  obtain ⟨s7, hs7⟩ : ∃ z : Store, z = s6 ++ [O.lst (ws.map wayD)] := ⟨_, rfl⟩
  have f7 : Feed s7 F (m + 60) := by
    rw [hs7]
    have z : Feed s6 F (m + 4 + 13 * (0 + wn.length)) := f6
    exact (z.up (by omega)).app
  have Sp : Step F st s1 := (Step.app hF _).trans S1
  have Dp : Drawn F st s1 := Drawn.right (Step.app hF _) d1
  have S15 : Step F s1 s5 := by
    rw [hs5]
    exact ((S02.trans (Step.app f2.lt M2)).trans (S3.trans ((Step.app f3.lt M3).trans S4))).trans (Step.app f4.lt _)
  have S57 : Step F s5 s7 := by
    have z : Feed s6 F (m + 4 + 13 * (0 + wn.length)) := f6
    rw [hs7]
    exact S6.trans (Step.app z.lt _)
  have SA : Step F st s7 := Sp.trans (S15.trans S57)
  have DA : Drawn F st s7 := Dp.left (S15.trans S57)
  obtain ⟨sf, e9, S9, D9, f9, _⟩ := leave_step (Hs := []) (fun _ h => nomatch h) h SA DA f7 (tri_dt (Hs := []) (st := s7) tri)
  refine ⟨fs, ws, sf, ?_, tri, f9, S9, D9⟩
  rw [← e9]
  rw [run_eq (fn := fn__law_trial) (env0 := [some (.ref F), none, none, none, none, none]) rfl rfl rfl rfl]
  have z12 : (poolL.map D.str) = [D.str (Str.ofString "a"), D.str (Str.ofString "ab"), D.str (Str.ofString "ways"), D.str (Str.ofString "onto"), D.str (Str.ofString "abc"), D.str (Str.ofString "sayer"), D.str (Str.ofString "ruler"), D.str (Str.ofString "b"), D.str (Str.ofString "prices"), D.str (Str.ofString "worthy"), D.str (Str.ofString "nones"), D.str (Str.ofString "zzzzzzzz")] := rfl
  have g10 : s1[n0]? = some (.lst (poolL.map D.str)) := by have z := g1 []; rwa [List.append_nil] at z
  have ad : addD (s1 ++ [O.lst ((poolL.map D.str).drop t), O.lst ((poolL.map D.str).take t)]) (.ref (n0 + 1)) (.ref (n0 + 2)) = .ok (.ref (n0 + 3)) (s1 ++ [O.lst ((poolL.map D.str).drop t), O.lst ((poolL.map D.str).take t), O.lst (pl.map D.str)]) := by
    have z := add_lst (st := s1 ++ [O.lst ((poolL.map D.str).drop t), O.lst ((poolL.map D.str).take t)]) (m := n0 + 1) (n := n0 + 2) (xs := (poolL.map D.str).drop t) (ys := (poolL.map D.str).take t)
      (by rw [show n0 + 1 = s1.length + 0 by omega, st_at]; rfl) (by rw [show n0 + 2 = s1.length + 1 by omega, st_at]; rfl) (by
        rw [List.length_drop, List.length_take, List.length_map, sizeLine_eq]
        show 12 - t + min t 12 ≤ _
        omega)
    rw [← plD, List.length_append, L1, List.append_assoc] at z
    exact z
  have gp0 : (s1 ++ [O.lst ((poolL.map D.str).drop t), O.lst ((poolL.map D.str).take t), O.lst (pl.map D.str)])[n0 + 3]? = some (.lst (pl.map D.str)) := by rw [show n0 + 3 = s1.length + 2 by omega, st_at]; rfl
  have gp2 : s2[n0 + 3]? = some (.lst (pl.map D.str)) := by have z := gp []; rwa [List.append_nil] at z
  have gpf : ∀ more : Store, (s2 ++ more)[n0 + 3]? = some (.lst (pl.map D.str)) := gp
  rw [hM1] at e2
  rw [hM2] at e3
  rw [hM3] at e4
  rw [← fsD] at e3
  rw [hs5, wnD] at c1
  have k1 := lstAt_of g10
  have k2 := fun more => lstAt_of (g1 more)
  have k3 := lstAt_of gp0
  have k4 := lstAt_of gq
  have k5 := lstAt_of gp2
  have k6 := fun more => lstAt_of (gpf more)
  have k7 := lstAt_of gb3
  have k8 := lstAt_of gp3
  have k9 := lstAt_of gc4
  have k10 := lstAt_of gd4
  have k11 := lstAt_of gf4
  have k12 : lstAt (s3 ++ [O.lst ((pl.map D.str).drop b)]) (n0 + 7) = some ((pl.map D.str).drop b) := by
    rw [show n0 + 7 = s3.length + 0 by omega]
    exact lstAt_of (by rw [st_at]; rfl)
  have k0 : lstAt (st ++ [O.lst (poolL.map D.str)]) n0 = some (poolL.map D.str) := by
    rw [hn0]
    exact lstAt_of (by simp)
  have gf5' : lstAt (s4 ++ [O.lst (wn.map D.str)]) (n0 + 5) = some (fs.map D.str) := by rw [← hs5]; exact lstAt_of gf5
  have gw5' : lstAt (s4 ++ [O.lst (wn.map D.str)]) (n0 + 9) = some (wn.map D.str) := by rw [← hs5]; exact lstAt_of gw5
  rw [← wnD] at c1
  have wz : ws.length ≤ sizeLine := by rw [wsl, sizeLine_eq]; omega
  have k13 : lstAt (s6 ++ [O.lst (ws.map fun x => wayD (x.fst, x.snd))]) s6.length = some (ws.map fun x => wayD (x.fst, x.snd)) := lstAt_of (by simp)
  have L6 : n0 < s6.length := by have := S6.len; omega
  simp [fn__law_trial, b__law_trial, setT, ← z12, ← hn0, e1, ev_sl_lo, ev_sl_hi, sl_ref_def, k1, k2, k0, cut_lo, cut_hi, L1, ad, k3, e2, ix_ref_def, k4, ha, k5, ← fsD, L2, k6, e3, k7, hb, k8, L3, e4, k9, hc, k10, k12, ← wnD, L4, k11, items_ref, gf5', gw5', walk_val, src_ref, c1, wz, k13]
  rw [hs7]
  rfl
end Py.L05
end

section
set_option Elab.async false
set_option linter.all false
set_option maxRecDepth 100000
namespace Py.L05
open PySem L2
def textL : List Str := [(Str.ofString "faces"), (Str.ofString "way"), (Str.ofString "on"), (Str.ofString "say"), (Str.ofString "rule"), (Str.ofString "none"), (Str.ofString "price"), (Str.ofString "worth"), (Str.ofString "ways"), (Str.ofString "onn"), (Str.ofString "o"), (Str.ofString "n"), (Str.ofString "sa"), (Str.ofString "rules"), (Str.ofString "abcdefgh")]
def signL : List Str := [(Str.ofString "a"), (Str.ofString "z"), (Str.ofString "A"), (Str.ofString "1"), (Str.ofString " "), (Str.ofString "-"), (Str.ofString ""), (Str.ofString "s"), (Str.ofString "e")]
def okS (n : Nat) (s : Str) : Bool := decide (s.length ≤ n) && PyData.strOk s
theorem text_ok : (textL.all fun w => okS 8 w && (List.range 9).all fun a => okS 8 (cutS w none (some (a : Int))) && okS 8 (cutS w (some (a : Int)) none) && signL.all fun g => okS 1 g && okS 9 (cutS w none (some (a : Int)) ++ g) && okS 17 (cutS w none (some (a : Int)) ++ g ++ cutS w (some (a : Int)) none)) = true := by decide +kernel
theorem str_dt {n : Nat} {s : Str} {Hs : List Nat} {st : Store} (h : okS n s = true) (hn : n ≤ 20) : Dt Hs st 1 20 (.str s) := by
  unfold okS at h
  simp only [Bool.and_eq_true, decide_eq_true_eq] at h
  refine ⟨.str s, rfl, ?_, ?_⟩
  · show (decide (s.length ≤ 1000) && PyData.strOk s) = true
    rw [h.2, decide_eq_true (by omega)]; rfl
  · show s.length ≤ 20
    omega
theorem text_run {st : Store} {F k m : Nat} (h : Feed st F m) (hm : m + 10 < BIG) :
    ∃ s st', run WH fns (k + 2) f__law_text [.ref F] st = .ok (.str s) st' ∧ Out [F] F (m + 4) st 1 (.str s) 20 st' := by
  have hF := h.lt
  have hH : ∀ i ∈ [F], i < st.length := fun i hi => by rw [List.mem_singleton.mp hi]; exact hF
  obtain ⟨n0, hn0⟩ : ∃ n0, n0 = st.length := ⟨_, rfl⟩
  obtain ⟨M0, hM0⟩ : ∃ M : Store, M = [O.lst ((textL.take 14).map D.str), O.lst [.str (Str.ofString "abcdefgh")], O.lst (textL.map D.str)] := ⟨_, rfl⟩
  have fa : Feed (st ++ M0) F m := h.app
  obtain ⟨r1, s1, e1, r10, r11, f1, S1, d1, l1⟩ := draw_run (k := k) (many := 15) fa (by decide) (by decide) (by omega)
  have L1 : s1.length = n0 + 3 := by rw [l1, hM0, hn0]; simp
  have g1 : lstAt s1 (n0 + 2) = some (textL.map D.str) := lstAt_of (by
    rw [S1.at_ _ (by rw [hM0, hn0]; simp) (by omega), hn0, st_at, hM0]; rfl)
  obtain ⟨w', hw', a1⟩ := atI_in (xs := textL.map D.str) r10 r11
  obtain ⟨w, hw, rfl⟩ := List.mem_map.mp hw'
  have okw := List.all_eq_true.mp text_ok w hw
  simp only [Bool.and_eq_true] at okw
  obtain ⟨ok1, okr⟩ := okw
  have wl : w.length ≤ 8 := by
    unfold okS at ok1
    simp only [Bool.and_eq_true, decide_eq_true_eq] at ok1
    exact ok1.1
  obtain ⟨r2, s2, e2, r20, r21, f2, S2, d2, l2⟩ := draw_run (k := k) (many := 5) f1 (by decide) (by decide) (by omega)
  obtain ⟨r3, s3, e3, r30, r31, f3, S3, d3, l3⟩ := draw_run (k := k) (many := (w.length : Int) + 1) f2 (by omega) (by omega) (by omega)
  obtain ⟨a, rfl⟩ : ∃ j : Nat, r3 = j := ⟨r3.toNat, by omega⟩
  have L3 : s3.length = n0 + 3 := by omega
  have fd : Feed (s3 ++ [O.lst (signL.map D.str)]) F (m + 1 + 1 + 1) := f3.app
  obtain ⟨r4, s4, e4, r40, r41, f4, S4, d4, l4⟩ := draw_run (k := k) (many := 9) fd (by decide) (by decide) (by omega)
  have g4 : lstAt s4 (n0 + 3) = some (signL.map D.str) := lstAt_of (by
    rw [S4.at_ _ (by rw [List.length_append, L3]; simp) (by omega), show n0 + 3 = s3.length + 0 by omega, st_at]; rfl)
  obtain ⟨g', hg', a4⟩ := atI_in (xs := signL.map D.str) r40 r41
  obtain ⟨g, hg, rfl⟩ := List.mem_map.mp hg'
  have oka := List.all_eq_true.mp okr a (List.mem_range.mpr (by omega))
  simp only [Bool.and_eq_true] at oka
  obtain ⟨⟨ok2, ok3⟩, okr⟩ := oka
  have okg := List.all_eq_true.mp okr g hg
  simp only [Bool.and_eq_true] at okg
  obtain ⟨⟨ok4, ok5⟩, ok6⟩ := okg
  have len_of : ∀ {n : Nat} {s : Str}, okS n s = true → s.length ≤ n := fun h => by
    unfold okS at h
    simp only [Bool.and_eq_true, decide_eq_true_eq] at h
    exact h.1
  have q2 := len_of ok2
  have q3 := len_of ok3
  have q4 := len_of ok4
  have q5 := len_of ok5
  have S : Step F st s4 := ((((Step.app hF M0).trans S1).trans S2).trans S3).trans ((Step.app f3.lt _).trans S4)
  have dr : Drawn F st s4 := Drawn.right ((((Step.app hF M0).trans S1).trans S2).trans S3) (Drawn.right (Step.app f3.lt _) d4)
  have b1 : w.length ≤ sizeLine := by rw [sizeLine_eq]; omega
  have b2 : (cutS w none (some (a : Int))).length + g.length ≤ sizeLine := by rw [sizeLine_eq]; omega
  have b3 : (cutS w none (some (a : Int)) ++ g).length + (cutS w (some (a : Int)) none).length ≤ sizeLine := by rw [sizeLine_eq]; omega
  have hs1 : (14 : Nat) + 1 ≤ sizeLine := by decide
  have fin : ∀ {n : Nat} {s : Str}, okS n s = true → n ≤ 20 → ∃ st'', leave st (.str s) s4 = .ok (.str s) st'' ∧ Out [F] F (m + 4) st 1 (.str s) 20 st'' := fun hs hn => by
    obtain ⟨st'', x1, x2⟩ := Out.leave (n := 1) (B := 20) hH h ⟨str_dt hs hn, f4, S, dr⟩
    exact ⟨st'', x1, x2⟩
  rw [run_eq (fn := fn__law_text) (env0 := [some (.ref F), none, none, none, none, none]) rfl rfl rfl rfl]
  simp [hM0, textL] at e1
  simp [signL] at e4
  simp [textL] at a1 g1
  simp [signL] at a4 g4
  rw [hn0] at g1 g4 L1 L3
  rw [sizeLine_eq] at b1 b2 b3
  have ls : ∀ st', lenD st' (.str w) = some w.length := fun st' => by
    show (if w.length ≤ sizeLine then some w.length else none) = _
    rw [sizeLine_eq, if_pos b1]
  have ad : ∀ st' (i j : Int), addD st' (.int i) (.int j) = .ok (.int (i + j)) st' := fun _ _ _ => rfl
  have as : ∀ st' (a b : Str), addD st' (.str a) (.str b) = if a.length + b.length ≤ sizeLine then .ok (.str (a ++ b)) st' else .bad := fun _ _ _ => rfl
  by_cases c1 : r2 = 1
  · obtain ⟨st'', x1, x2⟩ := fin ok6 (by decide)
    refine ⟨_, st'', ?_, x2⟩
    rw [← x1]
    simp [fn__law_text, b__law_text, setT, add_ref_def, sizeLine_eq, e1, ix_ref_def, g1, a1, e2, b1, e3, e4, g4, a4, c1, ev_sl_lo, ev_sl_hi, slD, b2, b3, L1, L3, ls, ad, as]
  by_cases c2 : r2 = 2
  · obtain ⟨st'', x1, x2⟩ := fin ok2 (by decide)
    refine ⟨_, st'', ?_, x2⟩
    rw [← x1]
    simp [fn__law_text, b__law_text, setT, add_ref_def, sizeLine_eq, e1, ix_ref_def, g1, a1, e2, b1, e3, e4, g4, a4, c1, c2, ev_sl_lo, ev_sl_hi, slD, b2, b3, L1, L3, ls, ad, as]
  · obtain ⟨st'', x1, x2⟩ := fin ok1 (by decide)
    refine ⟨_, st'', ?_, x2⟩
    rw [← x1]
    simp [fn__law_text, b__law_text, setT, add_ref_def, sizeLine_eq, e1, ix_ref_def, g1, a1, e2, b1, e3, e4, g4, a4, c1, c2, ev_sl_lo, ev_sl_hi, slD, b2, b3, L1, L3, ls, ad, as]
end Py.L05
end

section
set_option Elab.async false
set_option linter.all false
set_option maxRecDepth 100000
namespace Py.L05
open PySem L2
def okN (s : Str) : Prop := small (2 ^ 200) (.str s) = true ∧ (PyData.str s).weight ≤ 8
theorem strs_ok' : ∀ {fs : List Str}, (∀ s ∈ fs, okN s) → smalls (2 ^ 200) (fs.map PyData.str) = true ∧ PyData.weightAll (fs.map PyData.str) ≤ 9 * fs.length
  | [], _ => ⟨rfl, Nat.le_refl _⟩
  | s :: fs, h => by
    obtain ⟨a, b⟩ := h s List.mem_cons_self
    obtain ⟨c, d⟩ := strs_ok' fun x hx => h x (List.mem_cons_of_mem _ hx)
    refine ⟨?_, ?_⟩
    · show (small (2 ^ 200) (.str s) && smalls (2 ^ 200) (fs.map PyData.str)) = true
      rw [a, c]; rfl
    · show (PyData.str s).weight + 1 + PyData.weightAll (fs.map PyData.str) ≤ _
      rw [List.length_cons]
      omega
theorem ways_ok' : ∀ {ws : List (Str × List Rat)}, (∀ w ∈ ws, okN w.1 ∧ (∀ q ∈ w.2, Lt2 12 q) ∧ w.2.length ≤ 8) → smalls (2 ^ 200) (ws.map wayP) = true ∧ PyData.weightAll (ws.map wayP) ≤ 240 * ws.length
  | [], _ => ⟨rfl, Nat.le_refl _⟩
  | w :: ws, h => by
    obtain ⟨⟨a, b⟩, h2, hl⟩ := h w List.mem_cons_self
    obtain ⟨e, f⟩ := frs_ok h2
    obtain ⟨c, d⟩ := ways_ok' fun x hx => h x (List.mem_cons_of_mem _ hx)
    refine ⟨?_, ?_⟩
    · show ((small (2 ^ 200) (.str w.1) && (smalls (2 ^ 200) (w.2.map frP) && true)) && smalls (2 ^ 200) (ws.map wayP)) = true
      rw [a, c, e]; rfl
    · show ((PyData.str w.1).weight + 1 + (PyData.weightAll (w.2.map frP) + 1 + 0)) + 1 + PyData.weightAll (ws.map wayP) ≤ _
      rw [List.length_cons]
      omega
theorem big_dt {Hs : List Nat} {st : Store} {fs : List Str} {ws : List (Str × List Rat)} (h1 : ∀ s ∈ fs, okN s) (h2 : ∀ w ∈ ws, okN w.1 ∧ (∀ q ∈ w.2, Lt2 12 q) ∧ w.2.length ≤ 8) (h3 : fs.length ≤ 8) (h4 : ws.length ≤ 8) : Dt Hs st 6 2500 (triD fs ws) := by
  obtain ⟨a, b⟩ := strs_ok' h1
  obtain ⟨c, d⟩ := ways_ok' h2
  refine ⟨triP fs ws, tri_pd _ 0 fs ws, ?_, ?_⟩
  · show (smalls (2 ^ 200) (fs.map PyData.str) && (smalls (2 ^ 200) (ws.map wayP) && true)) = true
    rw [a, c]; rfl
  · show PyData.weightAll (fs.map PyData.str) + 1 + (PyData.weightAll (ws.map wayP) + 1 + 0) ≤ 2500
    omega
def q1 : Str := Str.ofString "q"
def q2 : Str := Str.ofString "qq"
def q3 : Str := Str.ofString "qqq"
theorem okN1 : okN q1 := ⟨by decide +kernel, by decide +kernel⟩
theorem okN2 : okN q2 := ⟨by decide +kernel, by decide +kernel⟩
theorem okN3 : okN q3 := ⟨by decide +kernel, by decide +kernel⟩
theorem larger_run {st : Store} {F k m : Nat} {fs : List Str} {ws : List (Str × List Rat)} (hT : Tri fs ws) (h : Feed st F m) (hm : m + 10 < BIG) :
    ∃ d st', run WH fns (k + 2) f__law_larger [.ref F, triD fs ws] st = .ok d st' ∧ Out [F] F (m + 4) st 6 d 2500 st' := by
  have hF := h.lt
  have hH : ∀ i ∈ [F], i < st.length := fun i hi => by rw [List.mem_singleton.mp hi]; exact hF
  have wok : ∀ w ∈ ws, okN w.1 ∧ (∀ q ∈ w.2, Lt2 12 q) ∧ w.2.length ≤ 4 := fun w hw => ⟨name_ok (hT.win w hw), (hT.wsh w hw).lt, by rw [(hT.wsh w hw).len]; exact hT.f4⟩
  have fok : ∀ s ∈ fs, okN s := fun s hs => name_ok (hT.fin s hs)
  have f2 := hT.f2
  have f4 := hT.f4
  have w2 := hT.w2
  have w4 := hT.w4
  clear hT
  obtain ⟨r1, s1, e1, r10, r11, f1, S1, d1, l1⟩ := draw_run (k := k) (many := 2) h (by decide) (by decide) (by omega)
  obtain ⟨r2, s2, e2, r20, r21, F2, S2, d2, l2⟩ := draw_run (k := k) (many := 2) f1 (by decide) (by decide) (by omega)
  obtain ⟨b, rfl⟩ : ∃ j : Nat, r2 = j := ⟨r2.toNat, by omega⟩
  have fin : ∀ {d : D} {s3 : Store}, Step F s2 s3 → Feed s3 F (m + 1 + 1) → Dt [F] s3 6 2500 d → ∃ st'', leave st d s3 = .ok d st'' ∧ Out [F] F (m + 4) st 6 d 2500 st'' := fun S3 F3 hd => by
    obtain ⟨st'', x1, x2⟩ := Out.leave (n := 6) (B := 2500) hH h ⟨hd, F3.up (n := m + 4) (by omega), (S1.trans S2).trans S3, (d1.left S2).left S3⟩
    exact ⟨st'', x1, x2⟩
  rw [run_eq (fn := fn__law_larger) (env0 := [some (.ref F), some (triD fs ws), none, none, none, none]) rfl rfl rfl rfl]
  have at' : ∀ st' (a b : List D), addD st' (.tup a) (.tup b) = if a.length + b.length ≤ sizeLine then .ok (.tup (a ++ b)) st' else .bad := fun _ _ _ => rfl
  have ad : ∀ st' (i j : Int), addD st' (.int i) (.int j) = .ok (.int (i + j)) st' := fun _ _ _ => rfl
  have it : ∀ st' xs i, ixD st' (.tup xs) (.int i) = atI xs i := fun _ _ _ => rfl
  have lt' : ∀ st' (xs : List D), lenD st' (.tup xs) = some xs.length := fun _ _ => rfl
  have hz : sizeLine = sizeLine := rfl
  by_cases c1 : r1 = 0
  · obtain ⟨u0, u1, wr, rfl⟩ : ∃ u0 u1 wr, ws = u0 :: u1 :: wr := by
      match ws, w2 with
      | a :: b :: r, _ => exact ⟨a, b, r, rfl⟩
    have ok0 := wok u0 (by simp)
    have ok1 := wok u1 (by simp)
    obtain ⟨vs, hvs⟩ : ∃ vs, vs = ((u0 :: u1 :: wr) ++ [(q1, u0.2), (q2, u1.2), (q3, u0.2)]).take (4 + b) := ⟨_, rfl⟩
    have vsD : vs.map wayD = ((wayD u0 :: wayD u1 :: wr.map wayD) ++ [D.tup [.str q1, .tup (u0.2.map fr)], .tup [.str q2, .tup (u1.2.map fr)], .tup [.str q3, .tup (u0.2.map fr)]]).take (4 + b) := by
      rw [hvs, List.map_take, List.map_append]; rfl
    have vok : ∀ w ∈ vs, okN w.1 ∧ (∀ q ∈ w.2, Lt2 12 q) ∧ w.2.length ≤ 8 := fun w hw => by
      rw [hvs] at hw
      have hw := List.mem_of_mem_take hw
      rcases List.mem_append.mp hw with z | z
      · obtain ⟨a, b, c⟩ := wok w z
        exact ⟨a, b, by omega⟩
      · simp only [List.mem_cons, List.not_mem_nil, or_false] at z
        rcases z with rfl | rfl | rfl
        · exact ⟨okN1, ok0.2.1, Nat.le_trans ok0.2.2 (by decide)⟩
        · exact ⟨okN2, ok1.2.1, Nat.le_trans ok1.2.2 (by decide)⟩
        · exact ⟨okN3, ok0.2.1, Nat.le_trans ok0.2.2 (by decide)⟩
    have vl : vs.length ≤ 8 := by rw [hvs, List.length_take]; omega
    obtain ⟨st'', x1, x2⟩ := fin Step.refl F2 (big_dt fok vok (by omega) vl)
    refine ⟨_, st'', ?_, x2⟩
    rw [← x1]
    have ci : cutD ((wayD u0 :: wayD u1 :: wr.map wayD) ++ [D.tup [.str q1, .tup (u0.2.map fr)], .tup [.str q2, .tup (u1.2.map fr)], .tup [.str q3, .tup (u0.2.map fr)]]) none (some ((4 : Int) + b)) = vs.map wayD := by
      rw [vsD]; exact cut_hi _ (4 + b)
    have i0 : ∀ r, atI (wayD u0 :: r) 0 = some (wayD u0) := fun r => atI_nat (xs := wayD u0 :: r) (n := 0) rfl
    have i1 : atI (wayD u0 :: wayD u1 :: wr.map wayD) 1 = some (wayD u1) := atI_nat (n := 1) rfl
    have j0 : ∀ u st', ixD st' (wayD u) (.int 1) = some (.tup (u.2.map fr)) := fun u _ => atI_nat (xs := [.str u.1, .tup (u.2.map fr)]) (n := 1) rfl
    have ll : (wayD u0 :: wayD u1 :: wr.map wayD).length + [D.tup [.str q1, .tup (u0.2.map fr)], .tup [.str q2, .tup (u1.2.map fr)], .tup [.str q3, .tup (u0.2.map fr)]].length ≤ sizeLine := by
      rw [sizeLine_eq]; simp at w4 ⊢; omega
    have sl' : ∀ st' lo hi xs, slD st' lo hi (.tup xs) = .ok (.tup (cutD xs lo hi)) st' := fun _ _ _ _ => rfl
    have at2 : ∀ st', addD st' (.tup (wayD u0 :: wayD u1 :: wr.map wayD)) (.tup [D.tup [.str q1, .tup (u0.2.map fr)], .tup [.str q2, .tup (u1.2.map fr)], .tup [.str q3, .tup (u0.2.map fr)]]) = .ok (.tup ((wayD u0 :: wayD u1 :: wr.map wayD) ++ [D.tup [.str q1, .tup (u0.2.map fr)], .tup [.str q2, .tup (u1.2.map fr)], .tup [.str q3, .tup (u0.2.map fr)]])) st' := fun _ => by
      rw [at', if_pos ll]
    unfold q1 q2 q3 at at2 ci
    simp only [List.cons_append] at ci at2
    simp [fn__law_larger, b__law_larger, setT, triD, e1, c1, it, i0, i1, j0, at2, ev_sl_hi, e2, ad, sl', ci]
  · obtain ⟨n, hn⟩ : ∃ n : Nat, n = 5 - fs.length - b := ⟨_, rfl⟩
    have hnz : ((5 : Int) - fs.length) - b = n := by omega
    have n3 : n ≤ 3 := by omega
    obtain ⟨ml, hml⟩ : ∃ ml, ml = [q1, q2, q3].take n := ⟨_, rfl⟩
    have mlD : ml.map D.str = [D.str q1, .str q2, .str q3].take n := by rw [hml, List.map_take]; rfl
    have mll : ml.length = n := by rw [hml, List.length_take]; show min n 3 = n; omega
    have mok : ∀ s ∈ fs ++ ml, okN s := fun s hs => by
      rcases List.mem_append.mp hs with z | z
      · exact fok s z
      · rw [hml] at z
        have z := List.mem_of_mem_take z
        simp only [List.mem_cons, List.not_mem_nil, or_false] at z
        rcases z with rfl | rfl | rfl
        · exact okN1
        · exact okN2
        · exact okN3
    obtain ⟨vs, hvs⟩ : ∃ vs : List (Str × List Rat), vs = ws.map fun w => (w.1, w.2 ++ List.replicate n 0) := ⟨_, rfl⟩
    have vok : ∀ w ∈ vs, okN w.1 ∧ (∀ q ∈ w.2, Lt2 12 q) ∧ w.2.length ≤ 8 := fun w hw => by
      rw [hvs] at hw
      obtain ⟨u, hu, rfl⟩ := List.mem_map.mp hw
      obtain ⟨x, y, z⟩ := wok u hu
      refine ⟨x, fun q hq => ?_, ?_⟩
      · rcases List.mem_append.mp hq with e | e
        · exact y q e
        · rw [(List.mem_replicate.mp e).2]
          exact ⟨by decide, by decide⟩
      · show (u.2 ++ List.replicate n 0).length ≤ 8
        rw [List.length_append, List.length_replicate]; omega
    have vl : vs.length ≤ 8 := by rw [hvs, List.length_map]; omega
    have vsD : vs.map wayD = ws.map fun w => D.tup [.str w.1, .tup (w.2.map fr ++ List.replicate n (D.tup [.int 0, .int 1]))] := by
      rw [hvs, List.map_map]
      refine List.map_congr_left fun w _ => ?_
      show D.tup [.str w.1, .tup ((w.2 ++ List.replicate n 0).map fr)] = _
      rw [List.map_append, List.map_replicate]
      rfl
    have S3 : Step F s2 (s2 ++ [O.lst (vs.map wayD)]) := Step.app F2.lt _
    obtain ⟨st'', x1, x2⟩ := fin S3 F2.app (big_dt mok vok (by rw [List.length_append, mll]; omega) vl)
    refine ⟨_, st'', ?_, x2⟩
    rw [← x1]
    have ci : cutD [D.str q1, .str q2, .str q3] none (some (n : Int)) = ml.map D.str := by
      rw [mlD]; exact cut_hi _ n
    have sl' : ∀ st' lo hi xs, slD st' lo hi (.tup xs) = .ok (.tup (cutD xs lo hi)) st' := fun _ _ _ _ => rfl
    have ml2 : ∀ st', mulD st' (.tup [.tup [.int 0, .int 1]]) (.int n) = .ok (.tup (List.replicate n (D.tup [.int 0, .int 1]))) st' := fun st' => by
      show (if repOk n 1 then R.ok (D.tup (List.replicate (n : Int).toNat [D.tup [.int 0, .int 1]]).flatten) st' else R.bad) = _
      unfold repOk
      rw [if_pos (by simp; omega)]; simp
    have fl2 : (List.replicate n (D.tup [D.int 0, .int 1])).length = n := by simp
    have j0 : ∀ (u : Str × List Rat) st', ixD st' (wayD u) (.int 0) = some (.str u.1) := fun u _ => atI_nat (xs := [.str u.1, .tup (u.2.map fr)]) (n := 0) rfl
    have j1 : ∀ (u : Str × List Rat) st', ixD st' (wayD u) (.int 1) = some (.tup (u.2.map fr)) := fun u _ => atI_nat (xs := [.str u.1, .tup (u.2.map fr)]) (n := 1) rfl
    have cl := compL_mapL (g := []) (st := s2) (f := lcF (run WH fns (k + 1)) [5] (.nm 5) .np _law_larger_le1 [some (.ref F), some (triD fs ws), some (.tup (ml.map D.str)), some (.tup (fs.map D.str)), some (.tup (ws.map wayD)), none]) rfl wayD (fun w => D.tup [.str w.1, .tup (w.2.map fr ++ List.replicate n (D.tup [.int 0, .int 1]))]) (xs := ws) (fun w hw => by
      have hl := (wok w hw).2.2
      have ad2 : ∀ st', addD st' (.tup (w.2.map fr)) (.tup (List.replicate n (D.tup [D.int 0, .int 1]))) = .ok (.tup (w.2.map fr ++ (List.replicate n (D.tup [D.int 0, .int 1])))) st' := fun _ => by
        rw [at', if_pos (by rw [List.length_map, fl2, sizeLine_eq]; omega)]
      simp [lcF, _law_larger_le1, setT, wiped, j0, j1, lt', mll, ml2, ad2])
    rw [← vsD] at cl
    have wz : ws.length ≤ sizeLine := by rw [sizeLine_eq]; omega
    have vz : vs.length ≤ sizeLine := by rw [sizeLine_eq]; omega
    have adf : ∀ st', addD st' (.tup (fs.map D.str)) (.tup (ml.map D.str)) = .ok (.tup ((fs ++ ml).map D.str)) st' := fun _ => by
      rw [at', if_pos (by rw [List.length_map, List.length_map, mll, sizeLine_eq]; omega), List.map_append]
    have k13 : lstAt (s2 ++ [O.lst (vs.map wayD)]) s2.length = some (vs.map wayD) := lstAt_of (by simp)
    unfold q1 q2 q3 at ci
    have srt : ∀ st' xs, src st' (.tup xs) = some (xs, []) := fun _ _ => rfl
    have cl2 := cl
    unfold triD at cl2
    simp [fn__law_larger, b__law_larger, setT, triD, e1, c1, ev_sl_hi, e2, ad, sl', ci, hnz, lt', walk_val, srt, cl, cl2, wz, vz, adf, k13, items_ref]
end Py.L05
end

section
set_option Elab.async false
set_option linter.all false
set_option maxRecDepth 100000
namespace Py.L05
open PySem L2 Builtin Builtin.Str
def Sg (s : Str) : Prop := ∀ c ∈ s.cps.toList, c < 1114112
theorem Sg.ok {s : Str} (h : Sg s) : PyData.strOk s = true := by
  show s.cps.all (· < 1114112) = true
  rw [← Array.all_toList, List.all_eq_true]
  exact fun c hc => decide_eq_true (h c hc)
theorem ok_sg {s : Str} (h : PyData.strOk s = true) : Sg s := by
  have h : s.cps.all (· < 1114112) = true := h
  rw [← Array.all_toList, List.all_eq_true] at h
  exact fun c hc => of_decide_eq_true (h c hc)
theorem chr_lt (c : Char) : c.toNat < 1114112 := by
  have := c.valid
  rcases this with h | ⟨_, h⟩
  · show c.val.toNat < _
    omega
  · exact h
theorem sg_of (s : String) : Sg (Str.ofString s) := fun k hm => by
  have e : (Str.ofString s).cps.toList = s.toList.map Char.toNat := by
    simp only [Str.ofString_eq_toList, List.toList_toArray]
  rw [e] at hm
  obtain ⟨ch, hc, e⟩ := List.mem_map.mp hm
  rw [← e]
  exact chr_lt ch
theorem Sg.app {a b : Str} (ha : Sg a) (hb : Sg b) : Sg (a ++ b) := fun c hc => by
  have e : (a ++ b).cps = a.cps ++ b.cps := rfl
  rw [e, Array.toList_append] at hc
  rcases List.mem_append.mp hc with z | z
  · exact ha c z
  · exact hb c z
theorem sg_join {sep : Str} (hs : Sg sep) : ∀ {ts : List Str}, (∀ t ∈ ts, Sg t) → Sg (Str.join sep ts)
  | [], _ => fun c hc => by cases hc
  | [x], h => h x (by simp)
  | x :: y :: r, h => ((h x (by simp)).app hs).app (sg_join hs fun t ht => h t (List.mem_cons_of_mem _ ht))
theorem sg_from : ∀ {ts : List Str} (k : Nat) {acc : Str}, Sg acc → (∀ t ∈ ts, Sg t) → Sg (textFrom k acc ts)
  | [], _, _, ha, _ => ha
  | t :: ts, k, acc, ha, h => sg_from (k + 1) ((ha.app (sg_of _)).app (h t List.mem_cons_self)) fun u hu => h u (List.mem_cons_of_mem _ hu)
theorem sg_char {q c : Nat} (hq : q < 1114112) (hc : c < 1114112) : ∀ x ∈ reprChar q c, x < 1114112 := by
  have hx : ∀ w, ∀ x ∈ List.replicate (w - ((Nat.toDigits 16 c).map Char.toNat).length) 48 ++ (Nat.toDigits 16 c).map Char.toNat, x < 1114112 := fun w x hx => by
    rcases List.mem_append.mp hx with z | z
    · rw [(List.mem_replicate.mp z).2]; decide
    · obtain ⟨ch, _, e⟩ := List.mem_map.mp z
      rw [← e]; exact chr_lt ch
  unfold reprChar
  dsimp only
  intro x h
  repeat' split at h
  all_goals simp only [List.mem_append, List.mem_cons, List.not_mem_nil, or_false] at h
  · omega
  · omega
  · omega
  · omega
  · omega
  · rcases h with h | h
    · omega
    · exact hx 2 x (List.mem_append.mpr h)
  · rcases h with h | h
    · omega
    · exact hx 4 x (List.mem_append.mpr h)
  · rcases h with h | h
    · omega
    · exact hx 8 x (List.mem_append.mpr h)
theorem sg_fold {q : Nat} (hq : q < 1114112) : ∀ (l : List Nat) (acc : Array Nat), (∀ c ∈ l, c < 1114112) → (∀ c ∈ acc.toList, c < 1114112) → ∀ c ∈ (l.foldl (fun out c => out ++ (reprChar q c).toArray) acc).toList, c < 1114112
  | [], acc, _, h => h
  | c :: r, acc, h, ha => by
    rw [List.foldl_cons]
    refine sg_fold hq r _ (fun d hd => h d (List.mem_cons_of_mem _ hd)) fun x hx => ?_
    rw [Array.toList_append] at hx
    rcases List.mem_append.mp hx with z | z
    · exact ha x z
    · exact sg_char hq (h c List.mem_cons_self) x z
theorem sg_repr {s : Str} (h : Sg s) : Sg (reprText s) := by
  have hq : reprQuote s < 1114112 := by
    unfold reprQuote
    split <;> decide
  intro c hc
  have hc : c ∈ ((s.cps.foldl (fun out c => out ++ (reprChar (reprQuote s) c).toArray) #[reprQuote s]).push (reprQuote s)).toList := hc
  rw [Array.toList_push, ← Array.foldl_toList] at hc
  rcases List.mem_append.mp hc with z | z
  · exact sg_fold hq s.cps.toList #[reprQuote s] h (fun x hx => by
      have : x = reprQuote s := by simpa using hx
      rw [this]; exact hq) c z
  · rw [List.mem_singleton.mp z]; exact hq
mutual
theorem sg_shown : ∀ (p : PyData) {B : Nat}, small B p = true → Sg p.shown
  | .none, _, _ => sg_of "None"
  | .bool true, _, _ => sg_of "True"
  | .bool false, _, _ => sg_of "False"
  | .int i, _, _ => sg_of (toString i)
  | .str s, _, h => by
    have h : (decide (s.length ≤ 1000) && PyData.strOk s) = true := h
    rw [Bool.and_eq_true] at h
    exact sg_repr (ok_sg h.2)
  | .list ps, _, h => (sg_from 0 (sg_of "[") (sg_shownAll ps h)).app (sg_of "]")
  | .tuple ps, _, h => ((sg_of "(").app (sg_join (sg_of ", ") (sg_shownAll ps h))).app (sg_of _)
  | .dict [], _, _ => ((sg_of "{").app (sg_join (sg_of ", ") (ts := []) (fun _ h => nomatch h))).app (sg_of "}")
  | .dict (_ :: _), _, h => by cases h
theorem sg_shownAll : ∀ (ps : List PyData) {B : Nat}, smalls B ps = true → ∀ t ∈ PyData.shownAll ps, Sg t
  | [], _, _ => fun _ h => nomatch h
  | p :: ps, B, h => fun t ht => by
    have h : (small B p && smalls B ps) = true := h
    rw [Bool.and_eq_true] at h
    rcases List.mem_cons.mp ht with e | e
    · rw [e]; exact sg_shown p h.1
    · exact sg_shownAll ps h.2 t e
end
theorem shown_ok {p : PyData} {B : Nat} (h : small B p = true) : PyData.strOk p.shown = true := (sg_shown p h).ok
end Py.L05
end

section
set_option Elab.async false
set_option linter.all false
set_option maxRecDepth 100000
namespace Py.L05
open PySem L2
theorem show_bl (st : Store) (b : Bool) : showD st (.bl b) = some (PyData.bool b).shown := by
  show (if (PyData.bool b).showable && decide ((PyData.bool b).depth ≤ 60) && decide ((PyData.bool b).shown.length ≤ sizeLine) then some (PyData.bool b).shown else none) = _
  cases b <;> rw [if_pos (by decide +kernel)]
theorem eq_self {st : Store} {s : Str} (h : PyData.strOk s = true) : eqD st (.str s) (.str s) = some true := by
  rw [eqD_str h h]; simp
theorem bl_ok (b : Bool) : PyData.strOk (PyData.bool b).shown = true := shown_ok (p := .bool b) (B := 1) rfl
theorem leave_some (st0 st : Store) (d : D) : ∃ st', leave st0 d st = .ok d st' := by
  unfold leave
  repeat' split
  all_goals exact ⟨_, rfl⟩
def scL (ns : List Int) : Store := [.lk (.lst (ns.map D.int))]
theorem feed_run {k : Nat} {ns : List Int} (h : ns.length ≤ 63) : ∃ st', run WH fns (k + 1) f__law_feed [.ref 0] (scL ns) = .ok (.ref 3) st' ∧ Feed st' 3 0 := by
  obtain ⟨M, hM⟩ : ∃ M : Store, M = scL ns ++ [O.lst (ns.map D.int), O.lst (ns.map D.int), fo 2 0 0 0] := ⟨_, rfl⟩
  refine ⟨M, ?_, ⟨2, ns, 0, 0, 0, by rw [hM]; rfl, by rw [hM]; rfl, by decide, by decide, by decide, by decide, h⟩⟩
  rw [run_eq (fn := fn__law_feed) (env0 := [some (.ref 0)]) rfl rfl rfl rfl]
  have g0 : lstAt (scL ns) 0 = some (ns.map D.int) := rfl
  have c0 : cutD (ns.map D.int) none (some (63 : Int)) = ns.map D.int := by
    have := cut_hi (ns.map D.int) 63
    rw [List.take_of_length_le (by rw [List.length_map]; omega)] at this
    exact this
  have l0 : (scL ns).length = 1 := rfl
  have g1 : lstAt (scL ns ++ [O.lst (ns.map D.int)]) 1 = some (ns.map D.int) := rfl
  have z : ns.length ≤ sizeLine := by rw [sizeLine_eq]; omega
  have lv : leave (scL ns) (.ref 3) M = .ok (.ref 3) M := leave_new rfl
  rw [← lv, hM]
  simp [fn__law_feed, b__law_feed, setT, ev_sl_hi, sl_ref_def, g0, c0, l0, items_ref, g1, z, fo]
theorem fb1_run {st : Store} {k n B : Nat} {d : D} {p : PyData} (h : pd st (n + 1) d = some p) (hs : small B p = true) (a b c x y z w : Option D) : ex WH (run WH fns (k + 1)) law_fb1 [a, b, c, x, y, some d, z, w] st = .ok (.nx [a, b, c, x, y, some d, z, w]) st := by
  have e1 := is_name_run (k := k) h hs
  have e2 := law_is_name_run (k := k) h hs
  simp [law_fb1, e1, e2, show_bl, eq_self (bl_ok _)]
theorem fb2_run {st : Store} {F k m : Nat} {c d5 d6 : Option D} {i : D} (h : Feed st F m) (hm : m + 20 < BIG) :
    ∃ c' d5' d6' st', forF WH (run WH fns (k + 2)) (.nm 2) law_fb2 i [some (.ref 0), some (.ref F), c, none, none, d5, d6, none] st = .ok (.nx [some (.ref 0), some (.ref F), c', none, none, d5', d6', none]) st' ∧ Feed st' F (m + 5) := by
  obtain ⟨s, s1, e1, o1⟩ := text_run (k := k) h (by omega)
  have f1 := o1.2.1
  obtain ⟨d, s2, e2, t2, f2, S2, d2⟩ := odd_run (k := k) (Hs := [F]) (by simp) (fun i hi => by rw [List.mem_singleton.mp hi]; exact f1.lt) f1 (by omega)
  obtain ⟨p1, hp1, hs1, _⟩ := (o1.1.step S2 (by simp)).ex
  obtain ⟨p2, hp2, hs2, _⟩ := t2.ex
  have z1 := fb1_run (k := k + 1) (hole_pd hp1) hs1
  have z2 := fb1_run (k := k + 1) (n := 3) (hole_pd hp2) hs2
  refine ⟨some i, some d, some (.str s), s2, ?_, f2.up (by omega)⟩
  have srt : ∀ st' xs, src st' (.tup xs) = some (xs, []) := fun _ _ => rfl
  simp [forF, law_fb2, setT, e1, e2, walk_val, srt, forL, gOk, z1, z2]
theorem loop1 {F k : Nat} : ∀ (is : List D) {st : Store} {m : Nat} {c d5 d6 : Option D}, Feed st F m → m + 5 * is.length + 20 < BIG →
    ∃ c' d5' d6' st', forL [] (forF WH (run WH fns (k + 2)) (.nm 2) law_fb2) is [some (.ref 0), some (.ref F), c, none, none, d5, d6, none] st = .ok (.nx [some (.ref 0), some (.ref F), c', none, none, d5', d6', none]) st' ∧ Feed st' F (m + 5 * is.length)
  | [], st, m, c, d5, d6, h, _ => ⟨c, d5, d6, st, by simp [forL, gOk], h⟩
  | i :: is, st, m, c, d5, d6, h, hm => by
    rw [List.length_cons] at hm
    obtain ⟨c1, a1, b1, s1, e1, f1⟩ := fb2_run (k := k) (c := c) (d5 := d5) (d6 := d6) (i := i) h (by omega)
    obtain ⟨c2, a2, b2, s2, e2, f2⟩ := loop1 is (c := c1) (d5 := a1) (d6 := b1) f1 (by omega)
    refine ⟨c2, a2, b2, s2, ?_, by rw [List.length_cons]; exact f2.up (by omega)⟩
    rw [forL, if_pos (gOk_nil _), e1, R.bind_ok]
    exact e2
end Py.L05
end

section
set_option Elab.async false
set_option linter.all false
set_option maxRecDepth 100000
namespace Py.L05
open PySem L2
theorem fb3_run {st : Store} {F k n B : Nat} {d : D} (h : Dt [F] st n B d) (hn : n ≤ 40) (hB : B ≤ 65536) (a b c x y o z w : Option D) :
    ∃ w', forF WH (run WH fns (k + 6)) (.nm 5) law_fb3 d [a, b, c, x, y, o, z, w] st = .ok (.nx [a, b, c, x, y, some d, z, w']) st := by
  obtain ⟨p, hp, hs, hsh⟩ := h.show (F := F) (by simp) (by omega) hB
  have sh := hsh st Step.refl
  have hp' : pd st (40 + 6) d = some p := pd_fuel (by omega) (hole_pd hp)
  have e1 := is_trial_run (k := k) hp' hs
  have e2 : run WH fns (k + 6) f__law_is_trial [d] st = .ok (.bl (isTrialP p)) st := law_is_trial_run (k := k + 1) hp' hs
  refine ⟨some (.str p.shown), ?_⟩
  simp [forF, law_fb3, setT, sh, e1, e2, show_bl, eq_self (bl_ok _), eq_self (shown_ok hs)]
theorem loop3 {F k : Nat} {g : Guard} {st : Store} (hg : gOk g st = true) (a b c x y z : Option D) : ∀ (ds : List D) (o w : Option D), (∀ d ∈ ds, Dt [F] st 20 3000 d) →
    ∃ o' w', forL g (forF WH (run WH fns (k + 6)) (.nm 5) law_fb3) ds [a, b, c, x, y, o, z, w] st = .ok (.nx [a, b, c, x, y, o', z, w']) st
  | [], o, w, _ => ⟨o, w, by simp [forL, hg]⟩
  | d :: ds, o, w, H => by
    obtain ⟨w1, e1⟩ := fb3_run (k := k) (H d List.mem_cons_self) (by decide) (by decide) a b c x y o z w
    obtain ⟨o2, w2, e2⟩ := loop3 (k := k) hg a b c x y z ds (some d) w1 fun u hu => H u (List.mem_cons_of_mem _ hu)
    refine ⟨o2, w2, ?_⟩
    rw [forL, if_pos hg, e1, R.bind_ok]
    exact e2
theorem compL_dt {F : Nat} {f : D → Store → R (Option D)} (J : Nat → Store → Prop) : ∀ (ds : List D) (i : Nat) (st : Store), (∀ d ∈ ds, ∀ j st, j < i + ds.length → J j st → ∃ x st', f d st = .ok (some x) st' ∧ Dt [F] st' 20 3000 x ∧ J (j + 1) st' ∧ Step F st st') → J i st →
    ∃ xs st', compL [] f ds st = .ok xs st' ∧ xs.length = ds.length ∧ (∀ x ∈ xs, Dt [F] st' 20 3000 x) ∧ J (i + ds.length) st' ∧ Step F st st'
  | [], i, st, _, h => ⟨[], st, by simp [compL, gOk], rfl, fun _ h => (nomatch h), h, Step.refl⟩
  | d :: ds, i, st, H, h => by
    obtain ⟨x, st1, e1, p1, j1, s1⟩ := H d List.mem_cons_self i st (by simp) h
    obtain ⟨xs, st2, e2, l2, p2, j2, s2⟩ := compL_dt J ds (i + 1) st1 (fun y hy j st hj => H y (List.mem_cons_of_mem _ hy) j st (by rw [List.length_cons]; omega)) j1
    refine ⟨x :: xs, st2, ?_, by simp [l2], fun y hy => ?_, ?_, s1.trans s2⟩
    · rw [compL, if_pos (gOk_nil _), e1, R.bind_ok, e2]; rfl
    · rcases List.mem_cons.mp hy with e | e
      · subst e; exact p1.step s2 (by simp)
      · exact p2 y e
    · rw [List.length_cons, show i + (ds.length + 1) = i + 1 + ds.length by omega]; exact j2
theorem goal (ns : List Int) (hn : ns.length ≤ 63) : ∃ st, run WH fns 20 28 [.ref 0] (scL ns) = .ok (.bl true) st := by
  have big : (1000 : Nat) < BIG := by decide
  rw [run_eq (fn := fn_law) (env0 := [some (.ref 0), none, none, none, none, none, none, none]) rfl rfl rfl rfl]
  obtain ⟨s0, e0, f0⟩ := feed_run (k := 18) hn
  obtain ⟨c1, a1, b1, s1, e1, f1⟩ := loop1 (k := 17) ((List.range 12).map fun (k : Nat) => D.int k) (c := none) (d5 := none) (d6 := none) f0 (by simp; omega)
  have f1 : Feed s1 3 60 := f1
  obtain ⟨fs, ws, s2, e2, hT, f2, S2, d2⟩ := trial_run (k := 16) f1 (by omega)
  obtain ⟨dl, s3, e3, tl, f3, S3, d3⟩ := larger_run (k := 17) hT f2 (by omega)
  obtain ⟨M3, hM3⟩ : ∃ M : Store, M = [O.lst [triD fs ws, dl]] := ⟨_, rfl⟩
  have f3' : Feed (s3 ++ M3) 3 124 := f3.app
  obtain ⟨r, s4, e4, r0, r1, f4, S4, d4, l4⟩ := draw_run (k := 18) (many := 9) f3' (by decide) (by decide) (by omega)
  obtain ⟨j, rfl⟩ : ∃ j : Nat, r = j := ⟨r.toNat, by omega⟩
  have e5 := compL_dt (F := 3) (f := lcF (run WH fns 19) [2] (.nm 2) .np law_le1 [some (.ref 0), some (.ref 3), c1, some (triD fs ws), none, a1, b1, none]) (fun i st' => Feed st' 3 (125 + 24 * i)) ((List.range (4 + j)).map fun (k : Nat) => D.int k) 0 s4 (by
    intro x hx i st' hi hf
    rw [List.length_map, List.length_range] at hi
    have hf : Feed st' 3 (125 + 24 * i) := hf
    obtain ⟨p, hp, hs, hw⟩ := (tri_dt hT : Dt [3] st' 6 1000 (triD fs ws)).ex
    obtain ⟨d', st2, e, o⟩ := bent_run 5 (k := 11) (n := 5) (Hs := [3]) (by simp) (fun i hi => by rw [List.mem_singleton.mp hi]; exact hf.lt) hf hp hs (by omega) (by omega)
    refine ⟨d', st2, ?_, o.1.up (by omega) (by omega), o.2.1.up (by omega), o.2.2.1⟩
    have e : run WH fns 19 f__law_bent [D.ref 3, triD fs ws, D.int 5] st' = .ok d' st2 := e
    simp [lcF, law_le1, setT, wiped, e]) f4
  obtain ⟨xs, s5, e5, xl, xp, f5, S5⟩ := e5
  rw [List.length_map, List.length_range] at xl f5
  have f5 : Feed s5 3 500 := f5.up (by omega)
  have F2 := f2.lt
  have F3 := f3.lt
  have Lm : M3.length = 1 := by rw [hM3]; rfl
  have g3 : s5[s3.length]? = some (.lst [triD fs ws, dl]) := by
    rw [S5.at_ _ (by rw [l4, List.length_append, Lm]; omega) (by omega), S4.at_ _ (by rw [List.length_append, Lm]; omega) (by omega), hM3]
    simp
  obtain ⟨M5, hM5⟩ : ∃ M : Store, M = [O.lst xs, O.lst (triD fs ws :: dl :: xs)] := ⟨_, rfl⟩
  have f6 : Feed (s5 ++ M5) 3 500 := f5.app
  obtain ⟨d7, s7, e7, t7, f7, S7, D7⟩ := odd_run (k := 17) (Hs := [3]) (by simp) (fun i hi => by rw [List.mem_singleton.mp hi]; exact f6.lt) f6 (by omega)
  have F5 := f5.lt
  have L5 : s3.length < s5.length := (List.getElem?_eq_some_iff.mp g3).1
  have L7 : s5.length + 2 ≤ s7.length := by have := S7.len; rw [List.length_append, hM5] at this; exact this
  have g7 : ∀ more : Store, (s7 ++ more)[s5.length + 1]? = some (.lst (triD fs ws :: dl :: xs)) := fun more => by
    rw [List.getElem?_append_left (by omega), S7.at_ _ (by rw [List.length_append, hM5]; simp) (by omega), st_at, hM5]; rfl
  obtain ⟨M7, hM7⟩ : ∃ M : Store, M = [O.lst [d7, triD fs ws], O.lst (triD fs ws :: dl :: (xs ++ [d7, triD fs ws]))] := ⟨_, rfl⟩
  have S37 : Step 3 s3 s5 := (Step.app F3 M3).trans (S4.trans S5)
  have S57 : Step 3 s5 (s7 ++ M7) := (Step.app F5 M5).trans (S7.trans (Step.app f7.lt M7))
  have S78 : Step 3 s7 (s7 ++ M7) := Step.app f7.lt M7
  have dts : ∀ d ∈ triD fs ws :: dl :: (xs ++ [d7, triD fs ws]), Dt [3] (s7 ++ M7) 20 3000 d := fun d hd => by
    have tt : Dt [3] (s7 ++ M7) 20 3000 (triD fs ws) := (tri_dt hT).up (by decide) (by decide)
    simp only [List.mem_cons, List.mem_append, List.not_mem_nil, or_false] at hd
    rcases hd with rfl | rfl | hd | rfl | rfl
    · exact tt
    · exact ((tl.step S37 (by simp)).step S57 (by simp)).up (by decide) (by decide)
    · exact (xp d hd).step S57 (by simp)
    · exact (t7.step S78 (by simp)).up (by decide) (by decide)
    · exact tt
  have gL : lstAt (s7 ++ M7) (s7.length + 1) = some (triD fs ws :: dl :: (xs ++ [d7, triD fs ws])) := lstAt_of (by rw [st_at, hM7]; rfl)
  obtain ⟨o8, w8, e8⟩ := loop3 (F := 3) (k := 13) (g := [(s7.length + 1, triD fs ws :: dl :: (xs ++ [d7, triD fs ws]))]) (st := s7 ++ M7) (by simp [gOk, gL]) (some (.ref 0)) (some (.ref 3)) c1 (some (triD fs ws)) (some (.ref (s5.length + 1))) b1 (triD fs ws :: dl :: (xs ++ [d7, triD fs ws])) a1 none dts
  have e9 : run WH fns 19 f_is_trial [triD fs ws] (s7 ++ M7) = .ok (.bl true) (s7 ++ M7) := by
    obtain ⟨p, hp, hs, _⟩ := (tri_dt hT : Dt [3] (s7 ++ M7) 6 1000 (triD fs ws)).ex
    have e := hole_pd hp
    have e' := tri_pd (s7 ++ M7) 0 fs ws
    have ep : p = triP fs ws := Option.some.inj (e.symm.trans e')
    have z := is_trial_run (k := 13) (n := 0) e hs
    rw [ep, tri_trial hT] at z
    exact z
  obtain ⟨sf, lf⟩ := leave_some (scL ns) (s7 ++ M7) (.bl true)
  refine ⟨sf, ?_⟩
  rw [← lf]
  have xz : xs.length ≤ sizeLine := by rw [xl, sizeLine_eq]; omega
  have w12 : ∀ st', walkD st' .range1 [.int 12] = some ((List.range 12).map fun (k : Nat) => D.int k, []) := fun _ => walk_range1 (n := 12) (by decide)
  have w4j : ∀ st', walkD st' .range1 [.int ((4 : Int) + j)] = some ((List.range (4 + j)).map fun (k : Nat) => D.int k, []) := fun _ => walk_range1 (n := 4 + j) (by omega)
  have ad : ∀ st' (i j : Int), addD st' (.int i) (.int j) = .ok (.int (i + j)) st' := fun _ _ _ => rfl
  have adA : addD (s5 ++ [O.lst xs]) (.ref s3.length) (.ref s5.length) = .ok (.ref (s5.length + 1)) (s5 ++ M5) := by
    have h1 : (s5 ++ [O.lst xs])[s3.length]? = some (.lst [triD fs ws, dl]) := by rw [List.getElem?_append_left L5, g3]
    have h2 : (s5 ++ [O.lst xs])[s5.length]? = some (.lst xs) := by simp
    rw [add_ref_def, h1, h2]
    show (if [triD fs ws, dl].length + xs.length ≤ sizeLine then _ else _) = _
    rw [if_pos (by rw [xl, sizeLine_eq]; simp; omega), hM5]
    simp
  have adB : addD (s7 ++ [O.lst [d7, triD fs ws]]) (.ref (s5.length + 1)) (.ref s7.length) = .ok (.ref (s7.length + 1)) (s7 ++ M7) := by
    have h2 : (s7 ++ [O.lst [d7, triD fs ws]])[s7.length]? = some (.lst [d7, triD fs ws]) := by simp
    rw [add_ref_def, g7, h2]
    show (if (triD fs ws :: dl :: xs).length + [d7, triD fs ws].length ≤ sizeLine then _ else _) = _
    rw [if_pos (by simp [xl, sizeLine_eq]; omega), hM7]
    simp
  rw [hM3] at e4
  simp [fn_law, b_law, setT, e0, w12, e1, e2, e3, e4, ad, w4j, e5, xz, adA, e7, adB, walk_val, src_ref, gL, e8, e9]
end Py.L05
end

section
set_option Elab.async false
set_option linter.all false
set_option maxRecDepth 100000
set_option maxHeartbeats 0
/-! Law k05: the linked text is the own syntax; the head; the end. Printed by a program. -/
namespace Py.L05
open PySem PySem.Spec PyProof.Rows L2
abbrev R : PySem.W.OpenRow := PySem.W.OpenLaw.row PySem.Challenge.rw_earlystop_k05_names_and_trials
def top (i : Nat) : Stmt := R.prog.main.body.getD i (.Pass ⟨0, 0, 0, 0⟩)
abbrev qv : Program := PySem.W.view R.prog [42]
def names0 : List PySem.Str := ["EarlyError", "NoFraction", "NOUGHT", "ONE", "is_whole", "divisor", "is_fraction", "is_share", "fraction", "plus"]
def names1 : List PySem.Str := ["total", "LETTERS", "MOST_LETTERS", "TAKEN", "is_name", "LEAST_MANY", "MOST_MANY", "are_names", "is_many", "are_shares"]
def names2 : List PySem.Str := ["is_trial", "_law_feed", "_law_draw", "_law_low", "_law_shares", "_law_trial", "_law_is_name", "_law_whole", "_law_is_fraction", "_law_is_share"]
def names3 : List PySem.Str := ["_law_come_to_one", "_law_are_names", "_law_is_trial", "_law_odd", "_law_bent", "_law_text", "_law_larger"]
def names : List PySem.Str := names0 ++ names1 ++ names2 ++ names3
def cs : List (Str × D) := [((Str.ofString "NOUGHT"), c_NOUGHT), ((Str.ofString "ONE"), c_ONE), ((Str.ofString "LETTERS"), c_LETTERS), ((Str.ofString "MOST_LETTERS"), c_MOST_LETTERS), ((Str.ofString "TAKEN"), c_TAKEN), ((Str.ofString "LEAST_MANY"), c_LEAST_MANY), ((Str.ofString "MOST_MANY"), c_MOST_MANY)]
def bts : List Str := [Str.ofString "len", Str.ofString "abs", Str.ofString "sum", Str.ofString "all", Str.ofString "tuple", Str.ofString "list", Str.ofString "repr", Str.ofString "int", Str.ofString "isinstance", Str.ofString "set", Str.ofString "range", Str.ofString "bool", Str.ofString "str"]
def GG : GT := ⟨fns, bts, cs⟩
abbrev s_is_whole : Stmt := top 6
def d_is_whole : He.DefD := ⟨("is_whole", none), "is_whole", "is_whole", defArgs s_is_whole, defBody s_is_whole, defScope s_is_whole, [], []⟩
theorem k_is_whole : fnB GG fn_is_whole (defBody s_is_whole) (defScope s_is_whole) = true := by kernel_rfl
abbrev s_divisor : Stmt := top 7
def d_divisor : He.DefD := ⟨("divisor", none), "divisor", "divisor", defArgs s_divisor, defBody s_divisor, defScope s_divisor, [], []⟩
theorem k_divisor : fnB GG fn_divisor (defBody s_divisor) (defScope s_divisor) = true := by kernel_rfl
abbrev s_is_fraction : Stmt := top 8
def d_is_fraction : He.DefD := ⟨("is_fraction", none), "is_fraction", "is_fraction", defArgs s_is_fraction, defBody s_is_fraction, defScope s_is_fraction, [], []⟩
theorem k_is_fraction : fnB GG fn_is_fraction (defBody s_is_fraction) (defScope s_is_fraction) = true := by kernel_rfl
abbrev s_is_share : Stmt := top 9
def d_is_share : He.DefD := ⟨("is_share", none), "is_share", "is_share", defArgs s_is_share, defBody s_is_share, defScope s_is_share, [], []⟩
theorem k_is_share : fnB GG fn_is_share (defBody s_is_share) (defScope s_is_share) = true := by kernel_rfl
abbrev s_fraction : Stmt := top 10
def d_fraction : He.DefD := ⟨("fraction", none), "fraction", "fraction", defArgs s_fraction, defBody s_fraction, defScope s_fraction, [], []⟩
theorem k_fraction : fnB GG fn_fraction (defBody s_fraction) (defScope s_fraction) = true := by kernel_rfl
abbrev s_plus : Stmt := top 11
def d_plus : He.DefD := ⟨("plus", none), "plus", "plus", defArgs s_plus, defBody s_plus, defScope s_plus, [], []⟩
theorem k_plus : fnB GG fn_plus (defBody s_plus) (defScope s_plus) = true := by kernel_rfl
abbrev s_total : Stmt := top 12
def d_total : He.DefD := ⟨("total", none), "total", "total", defArgs s_total, defBody s_total, defScope s_total, [], []⟩
theorem k_total : fnB GG fn_total (defBody s_total) (defScope s_total) = true := by kernel_rfl
abbrev s_is_name : Stmt := top 17
def d_is_name : He.DefD := ⟨("is_name", none), "is_name", "is_name", defArgs s_is_name, defBody s_is_name, defScope s_is_name, [], []⟩
theorem k_is_name : fnB GG fn_is_name (defBody s_is_name) (defScope s_is_name) = true := by kernel_rfl
abbrev s_are_names : Stmt := top 21
def d_are_names : He.DefD := ⟨("are_names", none), "are_names", "are_names", defArgs s_are_names, defBody s_are_names, defScope s_are_names, [], []⟩
theorem k_are_names : fnB GG fn_are_names (defBody s_are_names) (defScope s_are_names) = true := by kernel_rfl
abbrev s_is_many : Stmt := top 22
def d_is_many : He.DefD := ⟨("is_many", none), "is_many", "is_many", defArgs s_is_many, defBody s_is_many, defScope s_is_many, [], []⟩
theorem k_is_many : fnB GG fn_is_many (defBody s_is_many) (defScope s_is_many) = true := by kernel_rfl
abbrev s_are_shares : Stmt := top 23
def d_are_shares : He.DefD := ⟨("are_shares", none), "are_shares", "are_shares", defArgs s_are_shares, defBody s_are_shares, defScope s_are_shares, [], []⟩
theorem k_are_shares : fnB GG fn_are_shares (defBody s_are_shares) (defScope s_are_shares) = true := by kernel_rfl
abbrev s_is_trial : Stmt := top 24
def d_is_trial : He.DefD := ⟨("is_trial", none), "is_trial", "is_trial", defArgs s_is_trial, defBody s_is_trial, defScope s_is_trial, [], []⟩
theorem k_is_trial : fnB GG fn_is_trial (defBody s_is_trial) (defScope s_is_trial) = true := by kernel_rfl
abbrev s__law_feed : Stmt := top 26
def d__law_feed : He.DefD := ⟨("_law_feed", none), "_law_feed", "_law_feed", defArgs s__law_feed, defBody s__law_feed, defScope s__law_feed, [], []⟩
theorem k__law_feed : fnB GG fn__law_feed (defBody s__law_feed) (defScope s__law_feed) = true := by kernel_rfl
abbrev s__law_draw : Stmt := top 27
def d__law_draw : He.DefD := ⟨("_law_draw", none), "_law_draw", "_law_draw", defArgs s__law_draw, defBody s__law_draw, defScope s__law_draw, [], []⟩
theorem k__law_draw : fnB GG fn__law_draw (defBody s__law_draw) (defScope s__law_draw) = true := by kernel_rfl
abbrev s__law_low : Stmt := top 28
def d__law_low : He.DefD := ⟨("_law_low", none), "_law_low", "_law_low", defArgs s__law_low, defBody s__law_low, defScope s__law_low, [], []⟩
theorem k__law_low : fnB GG fn__law_low (defBody s__law_low) (defScope s__law_low) = true := by kernel_rfl
abbrev s__law_shares : Stmt := top 29
def d__law_shares : He.DefD := ⟨("_law_shares", none), "_law_shares", "_law_shares", defArgs s__law_shares, defBody s__law_shares, defScope s__law_shares, [], []⟩
theorem k__law_shares : fnB GG fn__law_shares (defBody s__law_shares) (defScope s__law_shares) = true := by kernel_rfl
abbrev s__law_trial : Stmt := top 30
def d__law_trial : He.DefD := ⟨("_law_trial", none), "_law_trial", "_law_trial", defArgs s__law_trial, defBody s__law_trial, defScope s__law_trial, [], []⟩
theorem k__law_trial : fnB GG fn__law_trial (defBody s__law_trial) (defScope s__law_trial) = true := by kernel_rfl
abbrev s__law_is_name : Stmt := top 31
def d__law_is_name : He.DefD := ⟨("_law_is_name", none), "_law_is_name", "_law_is_name", defArgs s__law_is_name, defBody s__law_is_name, defScope s__law_is_name, [], []⟩
theorem k__law_is_name : fnB GG fn__law_is_name (defBody s__law_is_name) (defScope s__law_is_name) = true := by kernel_rfl
abbrev s__law_whole : Stmt := top 32
def d__law_whole : He.DefD := ⟨("_law_whole", none), "_law_whole", "_law_whole", defArgs s__law_whole, defBody s__law_whole, defScope s__law_whole, [], []⟩
theorem k__law_whole : fnB GG fn__law_whole (defBody s__law_whole) (defScope s__law_whole) = true := by kernel_rfl
abbrev s__law_is_fraction : Stmt := top 33
def d__law_is_fraction : He.DefD := ⟨("_law_is_fraction", none), "_law_is_fraction", "_law_is_fraction", defArgs s__law_is_fraction, defBody s__law_is_fraction, defScope s__law_is_fraction, [], []⟩
theorem k__law_is_fraction : fnB GG fn__law_is_fraction (defBody s__law_is_fraction) (defScope s__law_is_fraction) = true := by kernel_rfl
abbrev s__law_is_share : Stmt := top 34
def d__law_is_share : He.DefD := ⟨("_law_is_share", none), "_law_is_share", "_law_is_share", defArgs s__law_is_share, defBody s__law_is_share, defScope s__law_is_share, [], []⟩
theorem k__law_is_share : fnB GG fn__law_is_share (defBody s__law_is_share) (defScope s__law_is_share) = true := by kernel_rfl
abbrev s__law_come_to_one : Stmt := top 35
def d__law_come_to_one : He.DefD := ⟨("_law_come_to_one", none), "_law_come_to_one", "_law_come_to_one", defArgs s__law_come_to_one, defBody s__law_come_to_one, defScope s__law_come_to_one, [], []⟩
theorem k__law_come_to_one : fnB GG fn__law_come_to_one (defBody s__law_come_to_one) (defScope s__law_come_to_one) = true := by kernel_rfl
abbrev s__law_are_names : Stmt := top 36
def d__law_are_names : He.DefD := ⟨("_law_are_names", none), "_law_are_names", "_law_are_names", defArgs s__law_are_names, defBody s__law_are_names, defScope s__law_are_names, [], []⟩
theorem k__law_are_names : fnB GG fn__law_are_names (defBody s__law_are_names) (defScope s__law_are_names) = true := by kernel_rfl
abbrev s__law_is_trial : Stmt := top 37
def d__law_is_trial : He.DefD := ⟨("_law_is_trial", none), "_law_is_trial", "_law_is_trial", defArgs s__law_is_trial, defBody s__law_is_trial, defScope s__law_is_trial, [], []⟩
theorem k__law_is_trial : fnB GG fn__law_is_trial (defBody s__law_is_trial) (defScope s__law_is_trial) = true := by kernel_rfl
abbrev s__law_odd : Stmt := top 38
def d__law_odd : He.DefD := ⟨("_law_odd", none), "_law_odd", "_law_odd", defArgs s__law_odd, defBody s__law_odd, defScope s__law_odd, [], []⟩
theorem k__law_odd : fnB GG fn__law_odd (defBody s__law_odd) (defScope s__law_odd) = true := by kernel_rfl
abbrev s__law_bent : Stmt := top 39
def d__law_bent : He.DefD := ⟨("_law_bent", none), "_law_bent", "_law_bent", defArgs s__law_bent, defBody s__law_bent, defScope s__law_bent, [], []⟩
theorem k__law_bent : fnB GG fn__law_bent (defBody s__law_bent) (defScope s__law_bent) = true := by kernel_rfl
abbrev s__law_text : Stmt := top 40
def d__law_text : He.DefD := ⟨("_law_text", none), "_law_text", "_law_text", defArgs s__law_text, defBody s__law_text, defScope s__law_text, [], []⟩
theorem k__law_text : fnB GG fn__law_text (defBody s__law_text) (defScope s__law_text) = true := by kernel_rfl
abbrev s__law_larger : Stmt := top 41
def d__law_larger : He.DefD := ⟨("_law_larger", none), "_law_larger", "_law_larger", defArgs s__law_larger, defBody s__law_larger, defScope s__law_larger, [], []⟩
theorem k__law_larger : fnB GG fn__law_larger (defBody s__law_larger) (defScope s__law_larger) = true := by kernel_rfl
abbrev s_law : Stmt := top 42
def d_law : He.DefD := ⟨("law", none), "law", "law", defArgs s_law, defBody s_law, defScope s_law, [], []⟩
theorem k_law : fnB GG fn_law (defBody s_law) (defScope s_law) = true := by kernel_rfl
def dl0 : List He.DefD := [d_is_whole, d_divisor, d_is_fraction, d_is_share, d_fraction, d_plus, d_total, d_is_name]
def fa0 : List He.Fa := [.glo "is_whole", .glo "divisor", .glo "is_fraction", .glo "is_share", .glo "fraction", .glo "plus", .glo "total", .glo "is_name"]
def dl1 : List He.DefD := [d_are_names, d_is_many, d_are_shares, d_is_trial, d__law_feed, d__law_draw, d__law_low, d__law_shares]
def fa1 : List He.Fa := [.glo "are_names", .glo "is_many", .glo "are_shares", .glo "is_trial", .glo "_law_feed", .glo "_law_draw", .glo "_law_low", .glo "_law_shares"]
def dl2 : List He.DefD := [d__law_trial, d__law_is_name, d__law_whole, d__law_is_fraction, d__law_is_share, d__law_come_to_one, d__law_are_names, d__law_is_trial]
def fa2 : List He.Fa := [.glo "_law_trial", .glo "_law_is_name", .glo "_law_whole", .glo "_law_is_fraction", .glo "_law_is_share", .glo "_law_come_to_one", .glo "_law_are_names", .glo "_law_is_trial"]
def dl3 : List He.DefD := [d__law_odd, d__law_bent, d__law_text, d__law_larger, d_law]
def fa3 : List He.Fa := [.glo "_law_odd", .glo "_law_bent", .glo "_law_text", .glo "_law_larger", .glo "law"]
def fab : List He.Fa := [.free "len", .free "abs", .free "sum", .free "all", .free "tuple", .free "list", .free "repr", .free "int", .free "isinstance", .free "set", .free "range", .free "bool", .free "str"]
def dl : List He.DefD := dl0 ++ dl1 ++ dl2 ++ dl3
def fa : List He.Fa := fa0 ++ fa1 ++ fa2 ++ fa3 ++ fab
abbrev hk : PySem.W.Hook := hkP 4 fa dl cs
def ob (s : PySem.W.SharedT) : He.AlD × Bool := obsP 4 fa dl cs (HandSHeadRun.getT s)
theorem ob_eq (s : PySem.W.SharedT) : ob s = hk.obs s.abs := obsP_eq (HandSHeadRun.getT_eq s)
theorem head_run (w : World) : HandSHeadRun.RunEq R qv hk ob 4000 names w := by
  intro os
  kernel_rfl
section
variable {K : PySem.W.Frag} {h : Heap} {mg : Str → Option Value}
theorem at_is_whole (X : K.In h) (g : h.Ns mainGlobals mg) (c : He.SaysD fa dl K) : FnAt K mg GG fn_is_whole := by
  obtain ⟨fd, F⟩ := c.def_ 0 (d := d_is_whole) rfl
  exact ⟨_, fd, _, _, _, _, He.glo_ok X g (c.fact 0 (f := .glo "is_whole") rfl), F, F.bindsN (fun _ _ _ _ _ _ us hl => match us, hl with | [_], _ => rfl), k_is_whole⟩
theorem at_divisor (X : K.In h) (g : h.Ns mainGlobals mg) (c : He.SaysD fa dl K) : FnAt K mg GG fn_divisor := by
  obtain ⟨fd, F⟩ := c.def_ 1 (d := d_divisor) rfl
  exact ⟨_, fd, _, _, _, _, He.glo_ok X g (c.fact 1 (f := .glo "divisor") rfl), F, F.bindsN (fun _ _ _ _ _ _ us hl => match us, hl with | [_, _], _ => rfl), k_divisor⟩
theorem at_is_fraction (X : K.In h) (g : h.Ns mainGlobals mg) (c : He.SaysD fa dl K) : FnAt K mg GG fn_is_fraction := by
  obtain ⟨fd, F⟩ := c.def_ 2 (d := d_is_fraction) rfl
  exact ⟨_, fd, _, _, _, _, He.glo_ok X g (c.fact 2 (f := .glo "is_fraction") rfl), F, F.bindsN (fun _ _ _ _ _ _ us hl => match us, hl with | [_], _ => rfl), k_is_fraction⟩
theorem at_is_share (X : K.In h) (g : h.Ns mainGlobals mg) (c : He.SaysD fa dl K) : FnAt K mg GG fn_is_share := by
  obtain ⟨fd, F⟩ := c.def_ 3 (d := d_is_share) rfl
  exact ⟨_, fd, _, _, _, _, He.glo_ok X g (c.fact 3 (f := .glo "is_share") rfl), F, F.bindsN (fun _ _ _ _ _ _ us hl => match us, hl with | [_], _ => rfl), k_is_share⟩
theorem at_fraction (X : K.In h) (g : h.Ns mainGlobals mg) (c : He.SaysD fa dl K) : FnAt K mg GG fn_fraction := by
  obtain ⟨fd, F⟩ := c.def_ 4 (d := d_fraction) rfl
  exact ⟨_, fd, _, _, _, _, He.glo_ok X g (c.fact 4 (f := .glo "fraction") rfl), F, F.bindsN (fun _ _ _ _ _ _ us hl => match us, hl with | [_, _], _ => rfl), k_fraction⟩
theorem at_plus (X : K.In h) (g : h.Ns mainGlobals mg) (c : He.SaysD fa dl K) : FnAt K mg GG fn_plus := by
  obtain ⟨fd, F⟩ := c.def_ 5 (d := d_plus) rfl
  exact ⟨_, fd, _, _, _, _, He.glo_ok X g (c.fact 5 (f := .glo "plus") rfl), F, F.bindsN (fun _ _ _ _ _ _ us hl => match us, hl with | [_, _], _ => rfl), k_plus⟩
theorem at_total (X : K.In h) (g : h.Ns mainGlobals mg) (c : He.SaysD fa dl K) : FnAt K mg GG fn_total := by
  obtain ⟨fd, F⟩ := c.def_ 6 (d := d_total) rfl
  exact ⟨_, fd, _, _, _, _, He.glo_ok X g (c.fact 6 (f := .glo "total") rfl), F, F.bindsN (fun _ _ _ _ _ _ us hl => match us, hl with | [_], _ => rfl), k_total⟩
theorem at_is_name (X : K.In h) (g : h.Ns mainGlobals mg) (c : He.SaysD fa dl K) : FnAt K mg GG fn_is_name := by
  obtain ⟨fd, F⟩ := c.def_ 7 (d := d_is_name) rfl
  exact ⟨_, fd, _, _, _, _, He.glo_ok X g (c.fact 7 (f := .glo "is_name") rfl), F, F.bindsN (fun _ _ _ _ _ _ us hl => match us, hl with | [_], _ => rfl), k_is_name⟩
theorem at_are_names (X : K.In h) (g : h.Ns mainGlobals mg) (c : He.SaysD fa dl K) : FnAt K mg GG fn_are_names := by
  obtain ⟨fd, F⟩ := c.def_ 8 (d := d_are_names) rfl
  exact ⟨_, fd, _, _, _, _, He.glo_ok X g (c.fact 8 (f := .glo "are_names") rfl), F, F.bindsN (fun _ _ _ _ _ _ us hl => match us, hl with | [_], _ => rfl), k_are_names⟩
theorem at_is_many (X : K.In h) (g : h.Ns mainGlobals mg) (c : He.SaysD fa dl K) : FnAt K mg GG fn_is_many := by
  obtain ⟨fd, F⟩ := c.def_ 9 (d := d_is_many) rfl
  exact ⟨_, fd, _, _, _, _, He.glo_ok X g (c.fact 9 (f := .glo "is_many") rfl), F, F.bindsN (fun _ _ _ _ _ _ us hl => match us, hl with | [_], _ => rfl), k_is_many⟩
theorem at_are_shares (X : K.In h) (g : h.Ns mainGlobals mg) (c : He.SaysD fa dl K) : FnAt K mg GG fn_are_shares := by
  obtain ⟨fd, F⟩ := c.def_ 10 (d := d_are_shares) rfl
  exact ⟨_, fd, _, _, _, _, He.glo_ok X g (c.fact 10 (f := .glo "are_shares") rfl), F, F.bindsN (fun _ _ _ _ _ _ us hl => match us, hl with | [_, _], _ => rfl), k_are_shares⟩
theorem at_is_trial (X : K.In h) (g : h.Ns mainGlobals mg) (c : He.SaysD fa dl K) : FnAt K mg GG fn_is_trial := by
  obtain ⟨fd, F⟩ := c.def_ 11 (d := d_is_trial) rfl
  exact ⟨_, fd, _, _, _, _, He.glo_ok X g (c.fact 11 (f := .glo "is_trial") rfl), F, F.bindsN (fun _ _ _ _ _ _ us hl => match us, hl with | [_], _ => rfl), k_is_trial⟩
theorem at__law_feed (X : K.In h) (g : h.Ns mainGlobals mg) (c : He.SaysD fa dl K) : FnAt K mg GG fn__law_feed := by
  obtain ⟨fd, F⟩ := c.def_ 12 (d := d__law_feed) rfl
  exact ⟨_, fd, _, _, _, _, He.glo_ok X g (c.fact 12 (f := .glo "_law_feed") rfl), F, F.bindsN (fun _ _ _ _ _ _ us hl => match us, hl with | [_], _ => rfl), k__law_feed⟩
theorem at__law_draw (X : K.In h) (g : h.Ns mainGlobals mg) (c : He.SaysD fa dl K) : FnAt K mg GG fn__law_draw := by
  obtain ⟨fd, F⟩ := c.def_ 13 (d := d__law_draw) rfl
  exact ⟨_, fd, _, _, _, _, He.glo_ok X g (c.fact 13 (f := .glo "_law_draw") rfl), F, F.bindsN (fun _ _ _ _ _ _ us hl => match us, hl with | [_, _], _ => rfl), k__law_draw⟩
theorem at__law_low (X : K.In h) (g : h.Ns mainGlobals mg) (c : He.SaysD fa dl K) : FnAt K mg GG fn__law_low := by
  obtain ⟨fd, F⟩ := c.def_ 14 (d := d__law_low) rfl
  exact ⟨_, fd, _, _, _, _, He.glo_ok X g (c.fact 14 (f := .glo "_law_low") rfl), F, F.bindsN (fun _ _ _ _ _ _ us hl => match us, hl with | [_, _], _ => rfl), k__law_low⟩
theorem at__law_shares (X : K.In h) (g : h.Ns mainGlobals mg) (c : He.SaysD fa dl K) : FnAt K mg GG fn__law_shares := by
  obtain ⟨fd, F⟩ := c.def_ 15 (d := d__law_shares) rfl
  exact ⟨_, fd, _, _, _, _, He.glo_ok X g (c.fact 15 (f := .glo "_law_shares") rfl), F, F.bindsN (fun _ _ _ _ _ _ us hl => match us, hl with | [_, _], _ => rfl), k__law_shares⟩
theorem at__law_trial (X : K.In h) (g : h.Ns mainGlobals mg) (c : He.SaysD fa dl K) : FnAt K mg GG fn__law_trial := by
  obtain ⟨fd, F⟩ := c.def_ 16 (d := d__law_trial) rfl
  exact ⟨_, fd, _, _, _, _, He.glo_ok X g (c.fact 16 (f := .glo "_law_trial") rfl), F, F.bindsN (fun _ _ _ _ _ _ us hl => match us, hl with | [_], _ => rfl), k__law_trial⟩
theorem at__law_is_name (X : K.In h) (g : h.Ns mainGlobals mg) (c : He.SaysD fa dl K) : FnAt K mg GG fn__law_is_name := by
  obtain ⟨fd, F⟩ := c.def_ 17 (d := d__law_is_name) rfl
  exact ⟨_, fd, _, _, _, _, He.glo_ok X g (c.fact 17 (f := .glo "_law_is_name") rfl), F, F.bindsN (fun _ _ _ _ _ _ us hl => match us, hl with | [_], _ => rfl), k__law_is_name⟩
theorem at__law_whole (X : K.In h) (g : h.Ns mainGlobals mg) (c : He.SaysD fa dl K) : FnAt K mg GG fn__law_whole := by
  obtain ⟨fd, F⟩ := c.def_ 18 (d := d__law_whole) rfl
  exact ⟨_, fd, _, _, _, _, He.glo_ok X g (c.fact 18 (f := .glo "_law_whole") rfl), F, F.bindsN (fun _ _ _ _ _ _ us hl => match us, hl with | [_], _ => rfl), k__law_whole⟩
theorem at__law_is_fraction (X : K.In h) (g : h.Ns mainGlobals mg) (c : He.SaysD fa dl K) : FnAt K mg GG fn__law_is_fraction := by
  obtain ⟨fd, F⟩ := c.def_ 19 (d := d__law_is_fraction) rfl
  exact ⟨_, fd, _, _, _, _, He.glo_ok X g (c.fact 19 (f := .glo "_law_is_fraction") rfl), F, F.bindsN (fun _ _ _ _ _ _ us hl => match us, hl with | [_], _ => rfl), k__law_is_fraction⟩
theorem at__law_is_share (X : K.In h) (g : h.Ns mainGlobals mg) (c : He.SaysD fa dl K) : FnAt K mg GG fn__law_is_share := by
  obtain ⟨fd, F⟩ := c.def_ 20 (d := d__law_is_share) rfl
  exact ⟨_, fd, _, _, _, _, He.glo_ok X g (c.fact 20 (f := .glo "_law_is_share") rfl), F, F.bindsN (fun _ _ _ _ _ _ us hl => match us, hl with | [_], _ => rfl), k__law_is_share⟩
theorem at__law_come_to_one (X : K.In h) (g : h.Ns mainGlobals mg) (c : He.SaysD fa dl K) : FnAt K mg GG fn__law_come_to_one := by
  obtain ⟨fd, F⟩ := c.def_ 21 (d := d__law_come_to_one) rfl
  exact ⟨_, fd, _, _, _, _, He.glo_ok X g (c.fact 21 (f := .glo "_law_come_to_one") rfl), F, F.bindsN (fun _ _ _ _ _ _ us hl => match us, hl with | [_, _], _ => rfl), k__law_come_to_one⟩
theorem at__law_are_names (X : K.In h) (g : h.Ns mainGlobals mg) (c : He.SaysD fa dl K) : FnAt K mg GG fn__law_are_names := by
  obtain ⟨fd, F⟩ := c.def_ 22 (d := d__law_are_names) rfl
  exact ⟨_, fd, _, _, _, _, He.glo_ok X g (c.fact 22 (f := .glo "_law_are_names") rfl), F, F.bindsN (fun _ _ _ _ _ _ us hl => match us, hl with | [_], _ => rfl), k__law_are_names⟩
theorem at__law_is_trial (X : K.In h) (g : h.Ns mainGlobals mg) (c : He.SaysD fa dl K) : FnAt K mg GG fn__law_is_trial := by
  obtain ⟨fd, F⟩ := c.def_ 23 (d := d__law_is_trial) rfl
  exact ⟨_, fd, _, _, _, _, He.glo_ok X g (c.fact 23 (f := .glo "_law_is_trial") rfl), F, F.bindsN (fun _ _ _ _ _ _ us hl => match us, hl with | [_], _ => rfl), k__law_is_trial⟩
theorem at__law_odd (X : K.In h) (g : h.Ns mainGlobals mg) (c : He.SaysD fa dl K) : FnAt K mg GG fn__law_odd := by
  obtain ⟨fd, F⟩ := c.def_ 24 (d := d__law_odd) rfl
  exact ⟨_, fd, _, _, _, _, He.glo_ok X g (c.fact 24 (f := .glo "_law_odd") rfl), F, F.bindsN (fun _ _ _ _ _ _ us hl => match us, hl with | [_], _ => rfl), k__law_odd⟩
theorem at__law_bent (X : K.In h) (g : h.Ns mainGlobals mg) (c : He.SaysD fa dl K) : FnAt K mg GG fn__law_bent := by
  obtain ⟨fd, F⟩ := c.def_ 25 (d := d__law_bent) rfl
  exact ⟨_, fd, _, _, _, _, He.glo_ok X g (c.fact 25 (f := .glo "_law_bent") rfl), F, F.bindsN (fun _ _ _ _ _ _ us hl => match us, hl with | [_, _, _], _ => rfl), k__law_bent⟩
theorem at__law_text (X : K.In h) (g : h.Ns mainGlobals mg) (c : He.SaysD fa dl K) : FnAt K mg GG fn__law_text := by
  obtain ⟨fd, F⟩ := c.def_ 26 (d := d__law_text) rfl
  exact ⟨_, fd, _, _, _, _, He.glo_ok X g (c.fact 26 (f := .glo "_law_text") rfl), F, F.bindsN (fun _ _ _ _ _ _ us hl => match us, hl with | [_], _ => rfl), k__law_text⟩
theorem at__law_larger (X : K.In h) (g : h.Ns mainGlobals mg) (c : He.SaysD fa dl K) : FnAt K mg GG fn__law_larger := by
  obtain ⟨fd, F⟩ := c.def_ 27 (d := d__law_larger) rfl
  exact ⟨_, fd, _, _, _, _, He.glo_ok X g (c.fact 27 (f := .glo "_law_larger") rfl), F, F.bindsN (fun _ _ _ _ _ _ us hl => match us, hl with | [_, _], _ => rfl), k__law_larger⟩
theorem at_law (X : K.In h) (g : h.Ns mainGlobals mg) (c : He.SaysD fa dl K) : FnAt K mg GG fn_law := by
  obtain ⟨fd, F⟩ := c.def_ 28 (d := d_law) rfl
  exact ⟨_, fd, _, _, _, _, He.glo_ok X g (c.fact 28 (f := .glo "law") rfl), F, F.bindsN (fun _ _ _ _ _ _ us hl => match us, hl with | [_], _ => rfl), k_law⟩
theorem ats (X : K.In h) (g : h.Ns mainGlobals mg) (c : He.SaysD fa dl K) : ∀ f ∈ GG.fns, FnAt K mg GG f :=
  List.forall_mem_cons.mpr ⟨at_is_whole X g c, List.forall_mem_cons.mpr ⟨at_divisor X g c, List.forall_mem_cons.mpr ⟨at_is_fraction X g c, List.forall_mem_cons.mpr ⟨at_is_share X g c, List.forall_mem_cons.mpr ⟨at_fraction X g c, List.forall_mem_cons.mpr ⟨at_plus X g c, List.forall_mem_cons.mpr ⟨at_total X g c, List.forall_mem_cons.mpr ⟨at_is_name X g c, List.forall_mem_cons.mpr ⟨at_are_names X g c, List.forall_mem_cons.mpr ⟨at_is_many X g c, List.forall_mem_cons.mpr ⟨at_are_shares X g c, List.forall_mem_cons.mpr ⟨at_is_trial X g c, List.forall_mem_cons.mpr ⟨at__law_feed X g c, List.forall_mem_cons.mpr ⟨at__law_draw X g c, List.forall_mem_cons.mpr ⟨at__law_low X g c, List.forall_mem_cons.mpr ⟨at__law_shares X g c, List.forall_mem_cons.mpr ⟨at__law_trial X g c, List.forall_mem_cons.mpr ⟨at__law_is_name X g c, List.forall_mem_cons.mpr ⟨at__law_whole X g c, List.forall_mem_cons.mpr ⟨at__law_is_fraction X g c, List.forall_mem_cons.mpr ⟨at__law_is_share X g c, List.forall_mem_cons.mpr ⟨at__law_come_to_one X g c, List.forall_mem_cons.mpr ⟨at__law_are_names X g c, List.forall_mem_cons.mpr ⟨at__law_is_trial X g c, List.forall_mem_cons.mpr ⟨at__law_odd X g c, List.forall_mem_cons.mpr ⟨at__law_bent X g c, List.forall_mem_cons.mpr ⟨at__law_text X g c, List.forall_mem_cons.mpr ⟨at__law_larger X g c, List.forall_mem_cons.mpr ⟨at_law X g c, List.forall_mem_nil _⟩⟩⟩⟩⟩⟩⟩⟩⟩⟩⟩⟩⟩⟩⟩⟩⟩⟩⟩⟩⟩⟩⟩⟩⟩⟩⟩⟩⟩
theorem frees (X : K.In h) (g : h.Ns mainGlobals mg) (c : He.SaysD fa dl K) : ∀ y ∈ GG.bts, mg y = none :=
  List.forall_mem_cons.mpr ⟨He.free_ok X g (c.fact 29 (f := .free "len") rfl), List.forall_mem_cons.mpr ⟨He.free_ok X g (c.fact 30 (f := .free "abs") rfl), List.forall_mem_cons.mpr ⟨He.free_ok X g (c.fact 31 (f := .free "sum") rfl), List.forall_mem_cons.mpr ⟨He.free_ok X g (c.fact 32 (f := .free "all") rfl), List.forall_mem_cons.mpr ⟨He.free_ok X g (c.fact 33 (f := .free "tuple") rfl), List.forall_mem_cons.mpr ⟨He.free_ok X g (c.fact 34 (f := .free "list") rfl), List.forall_mem_cons.mpr ⟨He.free_ok X g (c.fact 35 (f := .free "repr") rfl), List.forall_mem_cons.mpr ⟨He.free_ok X g (c.fact 36 (f := .free "int") rfl), List.forall_mem_cons.mpr ⟨He.free_ok X g (c.fact 37 (f := .free "isinstance") rfl), List.forall_mem_cons.mpr ⟨He.free_ok X g (c.fact 38 (f := .free "set") rfl), List.forall_mem_cons.mpr ⟨He.free_ok X g (c.fact 39 (f := .free "range") rfl), List.forall_mem_cons.mpr ⟨He.free_ok X g (c.fact 40 (f := .free "bool") rfl), List.forall_mem_cons.mpr ⟨He.free_ok X g (c.fact 41 (f := .free "str") rfl), List.forall_mem_nil _⟩⟩⟩⟩⟩⟩⟩⟩⟩⟩⟩⟩⟩
end
def Goal : Prop := ∀ ns : List Int, ns.length ≤ 63 → (∀ z ∈ ns, Builtin.Int.intBits z ≤ 1048576) → ∃ st, run WH fns 20 28 [.ref 0] (scSt ns) = .ok (.bl true) st
theorem walk (hrun : Goal) : PySem.W.WalkO qv names (PySem.W.XL qv []) hk.says (PySem.Challenge.rw_earlystop_k05_names_and_trials).row.toRowW (HandSHeadRun.topDef R.prog 42) [] (fun f vs => PySem.call f vs) := by
  refine walk_G (l := PySem.Challenge.rw_earlystop_k05_names_and_trials) (n := 63) (k := 20) (Wh := WH) (f := 28) (x := (Str.ofString "_law_script")) (G := GG) (dl := d_law) (fl := fn_law) rfl (by decide) (by kernel_rfl) ⟨rfl, by decide, by decide⟩ rfl (by kernel_rfl) rfl rfl rfl ?_ hrun (by decide)
  intro K h mg X g c
  refine ⟨fun i f hi => ats X g c f (List.mem_of_getElem? hi), frees X g c, fun addr ha => ?_⟩
  obtain ⟨fd, F⟩ := c.def_ 28 (d := d_law) rfl
  have e := ha.symm.trans (He.glo_ok X g (c.fact 28 (f := .glo "law") rfl))
  cases e
  exact ⟨fd, ⟨_, _, _, _, F, k_law⟩, fun s u => F.bindsA (ps := [(Str.ofString "_law_script")]) (fun _ _ _ _ _ _ us hl => match us, hl with | [_], _ => rfl) s [u] rfl⟩
end Py.L05
open PySem PySem.W PySem.Calls PyProof.Rows
theorem Py.L05.holds (hrun : Py.L05.Goal) : PySem.Challenge.rw_earlystop_k05_names_and_trials.Holds := by
  w_on; o_law
  refine HandSHeadRun.head_any (r := OpenLaw.row PySem.Challenge.rw_earlystop_k05_names_and_trials) (q := view (OpenLaw.row PySem.Challenge.rw_earlystop_k05_names_and_trials).prog [42]) (H := Py.L05.hk) (ob := Py.L05.ob) (M := 4000) (loose := Py.L05.names) (d := HandSHeadRun.topDef (OpenLaw.row PySem.Challenge.rw_earlystop_k05_names_and_trials).prog 42) (kwd := []) Py.L05.ob_eq
    (by kernel_rfl) (fun s => by kernel_rfl) Py.L05.head_run (by kernel_rfl) (by kernel_rfl) (by kernel_rfl) (by rfl) (by first | assumption | decide +kernel) (by decide +kernel) ⟨rfl, rfl, rfl, rfl, rfl, by decide +kernel⟩ ?hw ?hc
  case hw => w_witness2
  case hc => exact Py.L05.walk hrun
end

theorem PySem.Challenge.cw_earlystop_k05_names_and_trials_holds : PySem.Challenge.rw_earlystop_k05_names_and_trials.Holds :=
  Py.L05.holds fun ns h _ => Py.L05.goal ns h
