import PyProof.Rows.All
import HandS.ForMost
import HandS.ForExc
import HandS.Wide
import HandS.Gcd
import HandS.TupAny
import HandS.IsInst
import HandS.Conv
import HandS.Flow
import HandS.CallSlots
import HandS.DictComp
import KE.DataEq
import PyProof.TupleKey
import PyProof.DictRoadsH
import HandS.More
import HandS.Iter
import HandS.Small
import HandS.WordsExc
import HandS.Defaults
import HandS.HeadEnd
import HandS.HeadHook2
import PySem.Challenge.RW_leastinbox_k86_canonical_worths
import HandS.Head0
import HandS.Head1
import HandS.Head2
import HandS.Head3
section
set_option Elab.async false
set_option linter.all false
set_option maxRecDepth 100000
/-! ZA: a small evaluator over data, in the place of the model: values D, a store of the things that change, expressions E, statements. -/
namespace Z
open PySem

inductive D where
  | non | bl (b : Bool) | int (i : Int) | str (x : Str) | tup (ds : List D) | rol (ds : List D) | obj (n : Nat) | fn (f : Nat)
deriving Inhabited
noncomputable instance : DecidableEq D := fun a b => Classical.propDecidable (a = b)

/-- a thing that may change: a list, a dict by ints and texts, a dict by tuples, an instance (its class, its fields by number) -/
inductive M where
  | lst (ds : List D)
  | dic (kvs : List (L2.Key × D))
  | dit (kvs : List (D × D))
  | ins (C : Nat) (fs : List (Nat × D))
deriving Inhabited
noncomputable instance : DecidableEq M := fun a b => Classical.propDecidable (a = b)
abbrev Store := List M
abbrev Env := List (Option D)

inductive R (α : Type) where
  | ok (a : α) (S : Store)
  | ex (C : Nat) (fs : List (Nat × D)) (S : Store)
  | bad
def R.bind {α β : Type} (x : R α) (f : α → Store → R β) : R β := match x with
  | .ok a S => f a S
  | .ex C fs S => .ex C fs S
  | .bad => .bad
@[simp] theorem R.bind_ok {α β : Type} (a : α) (S : Store) (f : α → Store → R β) : (R.ok a S).bind f = f a S := (rfl)
@[simp] theorem R.bind_ex {α β : Type} (C fs) (S : Store) (f : α → Store → R β) : (R.ex C fs S : R α).bind f = .ex C fs S := (rfl)
@[simp] theorem R.bind_bad {α β : Type} (f : α → Store → R β) : (R.bad : R α).bind f = .bad := (rfl)
/-- where nothing may be raised -/
def R.bindN {α β : Type} (x : R α) (f : α → Store → R β) : R β := match x with
  | .ok a S => f a S
  | _ => .bad
@[simp] theorem R.bindN_ok {α β : Type} (a : α) (S : Store) (f : α → Store → R β) : (R.ok a S).bindN f = f a S := (rfl)
@[simp] theorem R.bindN_ex {α β : Type} (C fs) (S : Store) (f : α → Store → R β) : (R.ex C fs S : R α).bindN f = .bad := (rfl)
@[simp] theorem R.bindN_bad {α β : Type} (f : α → Store → R β) : (R.bad : R α).bindN f = .bad := (rfl)
def R.of {α : Type} (S : Store) : Option α → R α
  | some a => .ok a S
  | none => .bad
@[simp] theorem R.of_some {α : Type} (S : Store) (a : α) : R.of S (some a) = .ok a S := (rfl)
@[simp] theorem R.of_none {α : Type} (S : Store) : R.of S (none : Option α) = .bad := (rfl)

/-- built-in functions, built-in methods -/
inductive B where
  | len | abs | int | str | list | tuple | all | any | sum | max | min | sorted | gcd
  deriving DecidableEq
inductive BM where
  | append | pop | popAt | get | join | items | keys
  deriving DecidableEq
/-- where a loop's item goes -/
inductive G where
  | one (i : Nat) | many (is : List Nat)

mutual
inductive E where
  | k (d : D)
  | v (i : Nat)
  | g (i : Nat)
  | tup (es : Es)
  | lst (es : Es)
  | dic (t : Bool)
  | bin (op : Operator) (a b : E)
  | neg (a : E)
  | cmp (op : CmpOp) (a b : E)
  | cmp2 (op op' : CmpOp) (a b c : E)
  | and (a b : E)
  | or (a b : E)
  | not (a : E)
  | ife (t : T) (a b : E)
  | ix (a b : E)
  | sl (a : E) (lo hi : O)
  | fld (a : E) (f : Nat)
  | call (f : Nat) (es : Es)
  | new (C : Nat) (es : Es)
  | meth (a : E) (m : Nat) (es : Es)
  | blt (f : B) (es : Es)
  | bm (a : E) (m : BM) (es : Es)
  | isT (a : E) (T : Nat)
  | lrng (es : Es)
  | lc (own : List Nat) (elt : E) (g : G) (it : I) (t : T)
  | dc (own : List Nat) (kx vx : E) (g : G) (it : I) (t : T)
inductive Es where
  | nil | cons (e : E) (es : Es)
inductive O where
  | none | some (e : E)
inductive T where
  | val (e : E) | and (a b : T) | or (a b : T) | not (a : T) | yes
inductive I where
  | seq (e : E) | rng (es : Es)
end

inductive Tg where
  | g (t : G) | fld (a : E) (f : Nat) | sub (a i : E)
mutual
inductive S where
  | asg (t : Tg) (e : E)
  | asg2 (i j : Nat) (e : E)
  | par (i j : Nat) (a b : E)
  | aug (i : Nat) (op : Operator) (e : E)
  | expr (e : E)
  | ret (e : E)
  | retN
  | ite (t : T) (a b : Ss)
  | whl (t : T) (b : Ss)
  | for (g : G) (it : I) (b : Ss)
  | brk | cont | pass | fail
inductive Ss where
  | nil | cons (s : S) (ss : Ss)
end

structure FD where
  np : Nat
  dfl : List D
  nn : Nat
  body : Ss
/-- the program: its defs, its module's constants, and of each class: its fields, its constants, its methods, its __init__ -/
structure Prg where
  defs : Nat → Option FD
  consts : Nat → Option D
  isF : Nat → Nat → Bool
  con : Nat → Nat → Option D
  mth : Nat → Nat → Option Nat
  ini : Nat → Option Nat

/-! ### operations on values -/
def line : Nat := 16777216
/-- plain data: no bool, no thing that changes, no def; nested below n -/
def D.pd : Nat → D → Bool
  | 0, _ => false
  | n + 1, d => match d with
    | .non => true | .int _ => true | .str _ => true | .tup ds => ds.all (D.pd n) | _ => false
abbrev D.pl (d : D) : Bool := D.pd 20 d
/-- a key: ints, texts, tuples of keys -/
def D.hk : Nat → D → Bool
  | 0, _ => false
  | n + 1, d => match d with | .int _ => true | .str _ => true | .tup ds => ds.all (D.hk n) | _ => false
/-- a tuple that may be a key -/
def D.tk (d : D) : Bool := match d with | .tup _ => D.hk 4 d | _ => false
def keyOf : D → Option L2.Key
  | .int i => some (.inl i)
  | .str x => some (.inr x)
  | _ => none
def kD : L2.Key → D
  | .inl i => .int i
  | .inr x => .str x
section
variable {κ : Type} [DecidableEq κ]
def findK (kvs : List (κ × D)) (k : κ) : Option D := (kvs.find? fun kv => decide (kv.1 = k)).map (·.2)
def putK (kvs : List (κ × D)) (k : κ) (v : D) : List (κ × D) :=
  if kvs.any (fun kv => decide (kv.1 = k)) then kvs.map (fun kv => if kv.1 = k then (kv.1, v) else kv) else kvs ++ [(k, v)]
end
def listAt (S : Store) : D → Option (List D)
  | .tup ds => some ds
  | .rol ds => some ds
  | .obj n => match S[n]? with
    | some (.lst ds) => some ds
    | _ => none
  | _ => none
/-- data as it stands, lists read -/
def snap (S : Store) : Nat → D → Option PyData
  | 0, _ => none
  | n + 1, d => match d with
    | .non => some .none
    | .bl b => some (.bool b)
    | .int i => some (.int i)
    | .str x => some (.str x)
    | .tup ds => (ds.mapM (snap S n)).map .tuple
    | .rol ds => (ds.mapM (snap S n)).map .list
    | .obj a => match S[a]? with
      | some (.lst ds) => (ds.mapM (snap S n)).map .list
      | _ => none
    | .fn _ => none
noncomputable def eqD (S : Store) (d e : D) : Option Bool :=
  if d.pl = true ∧ e.pl = true then some (decide (d = e))
  else match snap S 20 d, snap S 20 e with
    | some p, some q => some (PyData.eqv p q)
    | _, _ => none
noncomputable def inD (S : Store) (d e : D) : Option Bool := match e with
  | .str y => (match d with
    | .str x => some (!(Builtin.Str.occurrences y x 0 y.length 1).isEmpty)
    | _ => none)
  | .obj n => (match S[n]? with
    | some (.dic kvs) => (keyOf d).map fun k => (findK kvs k).isSome
    | some (.dit kvs) => if d.tk = true then some (findK kvs d).isSome else none
    | some (.lst ds) => if d.pl = true ∧ ds.all (D.pd 19) = true then some (ds.any fun x => decide (x = d)) else none
    | _ => none)
  | .tup ds => if d.pl = true ∧ ds.all (D.pd 19) = true then some (ds.any fun x => decide (x = d)) else none
  | _ => none
def truthy (S : Store) : D → Option Bool
  | .non => some false
  | .bl b => some b
  | .int i => some (i != 0)
  | .str x => if x.length ≤ line then some ((x.length : Int) != 0) else none
  | .tup ds => some (!ds.isEmpty)
  | .rol ds => some (!ds.isEmpty)
  | .obj n => match S[n]? with
    | some (.lst ds) => some (!ds.isEmpty)
    | some (.dic kvs) => some (!kvs.isEmpty)
    | _ => none
  | .fn _ => none
def mulOk (i j : Int) : Bool := decide (i.natAbs.log2 + j.natAbs.log2 < 1000000)
def divOk (j : Int) : Bool := decide (j ≠ 0) && decide (j.natAbs.log2 < 9000)
def powOk (i j : Int) : Bool := decide (0 ≤ j) && decide (j ≤ 1000000) && decide (i.natAbs < 2 ^ 64)
def binD (op : Operator) (x y : D) (S : Store) : R D := match op with
  | .Add => (match x, y with
    | .int i, .int j => .ok (.int (i + j)) S
    | .str i, .str j => if i.length + j.length ≤ line then .ok (.str (i ++ j)) S else .bad
    | .tup xs, .tup ys => if xs.length + ys.length ≤ line then .ok (.tup (xs ++ ys)) S else .bad
    | .obj a, .obj b => (match S[a]?, S[b]? with
      | some (.lst xs), some (.lst ys) => if xs.length + ys.length ≤ line then .ok (.obj S.length) (S ++ [.lst (xs ++ ys)]) else .bad
      | _, _ => .bad)
    | _, _ => .bad)
  | .Sub => (match x, y with
    | .int i, .int j => .ok (.int (i - j)) S
    | _, _ => .bad)
  | .Mult => (match x, y with
    | .int i, .int j => if mulOk i j then .ok (.int (i * j)) S else .bad
    | _, _ => .bad)
  | .FloorDiv => (match x, y with
    | .int i, .int j => if divOk j then .ok (.int (i.fdiv j)) S else .bad
    | _, _ => .bad)
  | .Mod => (match x, y with
    | .int i, .int j => if j = 0 then .bad else .ok (.int (i.fmod j)) S
    | _, _ => .bad)
  | .Pow => (match x, y with
    | .int i, .int j => if powOk i j then .ok (.int (i ^ j.toNat)) S else .bad
    | _, _ => .bad)
  | _ => .bad
noncomputable def cmpD (op : CmpOp) (x y : D) (S : Store) : R D := match op with
  | .Eq => R.of S ((eqD S x y).map .bl)
  | .NotEq => R.of S ((eqD S x y).map fun b => .bl (!b))
  | .Lt => (match x, y with | .int i, .int j => .ok (.bl (decide (i < j))) S | _, _ => .bad)
  | .LtE => (match x, y with | .int i, .int j => .ok (.bl (decide (i ≤ j))) S | _, _ => .bad)
  | .Gt => (match x, y with | .int i, .int j => .ok (.bl (decide (j < i))) S | _, _ => .bad)
  | .GtE => (match x, y with | .int i, .int j => .ok (.bl (decide (j ≤ i))) S | _, _ => .bad)
  | .Is => (match y with | .non => .ok (.bl (decide (x = .non))) S | _ => .bad)
  | .IsNot => (match y with | .non => .ok (.bl (!decide (x = .non))) S | _ => .bad)
  | .In => R.of S ((inD S x y).map .bl)
  | .NotIn => R.of S ((inD S x y).map fun b => .bl (!b))
noncomputable def ixD (x y : D) (S : Store) : R D := match x, y with
  | .tup ds, .int i => R.of S (L2.atI ds i)
  | .rol ds, .int i => R.of S (L2.atI ds i)
  | .str z, .int i => if z.length ≤ line then R.of S ((L2.atI z.cps.toList i).map fun c => .str ⟨#[c]⟩) else .bad
  | .obj n, d => (match S[n]? with
    | some (.lst ds) => (match d with | .int i => R.of S (L2.atI ds i) | _ => .bad)
    | some (.dic kvs) => (match keyOf d with | some k => R.of S (findK kvs k) | none => .bad)
    | some (.dit kvs) => if d.tk = true then R.of S (findK kvs d) else .bad
    | _ => .bad)
  | _, _ => .bad
def cutD {α : Type} (xs : List α) (lo hi : Option Int) : List α := (xs.drop (HT.sIx xs.length 0 lo)).take (HT.sIx xs.length xs.length hi - HT.sIx xs.length 0 lo)
def slD (x : D) (lo hi : Option Int) (S : Store) : R D := match x with
  | .tup ds => .ok (.tup (cutD ds lo hi)) S
  | .rol ds => .ok (.obj S.length) (S ++ [.lst (cutD ds lo hi)])
  | .obj n => (match S[n]? with
    | some (.lst ds) => .ok (.obj S.length) (S ++ [.lst (cutD ds lo hi)])
    | _ => .bad)
  | _ => .bad
def intsOf : List D → Option (List Int)
  | [] => some []
  | .int i :: r => (intsOf r).map (i :: ·)
  | _ :: _ => none
def boolsOf : List D → Option (List Bool)
  | [] => some []
  | .bl i :: r => (boolsOf r).map (i :: ·)
  | _ :: _ => none
/-- the ints in order -/
def insInt (i : Int) : List Int → List Int
  | [] => [i]
  | j :: r => if i ≤ j then i :: j :: r else j :: insInt i r
def sortInt : List Int → List Int
  | [] => []
  | i :: r => insInt i (sortInt r)
def bltD (f : B) (xs : List D) (S : Store) : R D := match f, xs with
  | .len, [x] => (match x with
    | .str z => if z.length ≤ line then .ok (.int z.length) S else .bad
    | .tup ds => .ok (.int ds.length) S
    | .rol ds => .ok (.int ds.length) S
    | .obj n => (match S[n]? with
      | some (.lst ds) => .ok (.int ds.length) S
      | some (.dic kvs) => .ok (.int kvs.length) S
      | _ => .bad)
    | _ => .bad)
  | .abs, [.int i] => .ok (.int (if i < 0 then -i else i)) S
  | .int, [.int i] => .ok (.int i) S
  | .int, [.bl b] => .ok (.int (if b then 1 else 0)) S
  | .str, [.int i] => if i.natAbs.log2 < 1920 then .ok (.str (toString i)) S else .bad
  | .list, [x] => (match listAt S x with
    | some ds => .ok (.obj S.length) (S ++ [.lst ds])
    | none => .bad)
  | .tuple, [x] => (match listAt S x with
    | some ds => .ok (.tup ds) S
    | none => .bad)
  | .all, [.obj n] => (match S[n]? with
    | some (.lst ds) => R.of S ((boolsOf ds).map fun bs => .bl (bs.all id))
    | _ => .bad)
  | .any, [.obj n] => (match S[n]? with
    | some (.lst ds) => R.of S ((boolsOf ds).map fun bs => .bl (bs.any id))
    | _ => .bad)
  | .gcd, [.int a, .int b] => .ok (.int (Nat.gcd a.natAbs b.natAbs : Nat)) S
  | .sorted, [.obj n] => (match S[n]? with
    | some (.lst ds) => (match intsOf ds with
      | some ns => if ns.length < 64 then .ok (.obj S.length) (S ++ [.lst ((sortInt ns).map .int)]) else .bad
      | none => .bad)
    | some (.dic kvs) => (match intsOf (kvs.map fun kv => kD kv.1) with
      | some ns => if ns.length < 64 then .ok (.obj S.length) (S ++ [.lst ((sortInt ns).map .int)]) else .bad
      | none => .bad)
    | _ => .bad)
  | _, _ => .bad
/-- the receiver of a built-in method -/
def bmT (m : BM) (x : D) (S : Store) : Bool := match m, x with
  | .join, .str _ => true
  | .append, .obj n | .pop, .obj n | .popAt, .obj n => (match S[n]? with | some (.lst _) => true | _ => false)
  | .get, .obj n | .items, .obj n | .keys, .obj n => (match S[n]? with | some (.dic _) => true | _ => false)
  | _, _ => false
def bmD (m : BM) (x : D) (ys : List D) (S : Store) : R D := match m, x, ys with
  | .append, .obj n, [y] => (match S[n]? with
    | some (.lst ds) => if ds.length < line then .ok .non (S.set n (.lst (ds ++ [y]))) else .bad
    | _ => .bad)
  | .pop, .obj n, [] => (match S[n]? with
    | some (.lst ds) => (match ds[ds.length - 1]? with
      | some y => .ok y (S.set n (.lst ds.dropLast))
      | none => .bad)
    | _ => .bad)
  | .popAt, .obj n, [.int i] => (match S[n]? with
    | some (.lst ds) => (match L2.ixN ds.length i with
      | some k => (match ds[k]? with
        | some y => .ok y (S.set n (.lst (ds.eraseIdx k)))
        | none => .bad)
      | none => .bad)
    | _ => .bad)
  | _, _, _ => .bad
noncomputable def setD (x i y : D) (S : Store) : Option Store := match x with
  | .obj n => (match S[n]? with
    | some (.lst ds) => (match i with
      | .int k => (L2.ixN ds.length k).map fun j => S.set n (.lst (ds.set j y))
      | _ => none)
    | some (.dic kvs) => (match keyOf i with
      | some k => if kvs.length < line then some (S.set n (.dic (putK kvs k y))) else none
      | none => none)
    | some (.dit kvs) => if i.tk = true ∧ kvs.length < line then some (S.set n (.dit (putK kvs i y))) else none
    | _ => none)
  | _ => none
def putN (f : Nat) (y : D) : List (Nat × D) → List (Nat × D)
  | [] => [(f, y)]
  | (g, z) :: r => if g = f then (g, y) :: r else (g, z) :: putN f y r
def setFld (p : Prg) (x : D) (f : Nat) (y : D) (S : Store) : Option Store := match x with
  | .obj n => (match S[n]? with
    | some (.ins C fs) => if p.isF C f = true ∧ fs.length < 1000 then some (S.set n (.ins C (putN f y fs))) else none
    | _ => none)
  | _ => none
def fldD (p : Prg) (x : D) (f : Nat) (S : Store) : Option D := match x with
  | .obj n => (match S[n]? with
    | some (.ins C fs) => (match fs.lookup f with
      | some y => if p.isF C f = true then some y else none
      | none => p.con C f)
    | _ => none)
  | _ => none
def methD (p : Prg) (x : D) (m : Nat) (S : Store) : Option Nat := match x with
  | .obj n => (match S[n]? with
    | some (.ins C fs) => (match fs.lookup m with
      | some _ => none
      | none => p.mth C m)
    | _ => none)
  | _ => none
/-- the built-in types by number: 0 int, 1 tuple, 2 list, 3 str, 4 bool, 5 dict -/
def isTD (x : D) (T : Nat) (S : Store) : Option Bool := match x with
  | .int _ => some (T == 0)
  | .tup _ => some (T == 1)
  | .str _ => some (T == 3)
  | .non => some false
  | .obj n => (match S[n]? with
    | some (.lst _) => some (T == 2)
    | _ => none)
  | _ => none

/-! ### binding -/
def setMany : List Nat → List D → Env → Env
  | i :: is, d :: ds, ρ => setMany is ds (ρ.set i (some d))
  | _, _, ρ => ρ
def bindG : G → D → Env → Option Env
  | .one i, d, ρ => some (ρ.set i (some d))
  | .many is, .tup ds, ρ => if ds.length = is.length then some (setMany is ds ρ) else none
  | .many _, _, _ => none
def wipeE (ρ : Env) : List Nat → Env
  | [] => ρ
  | v :: vs => (wipeE ρ vs).set v none

/-! ### what is walked -/
structure Src where
  at? : Option Nat
  ds : List D
noncomputable def Src.stays (x : Src) (S : Store) : Bool := match x.at? with
  | none => true
  | some n => decide (S[n]? = some (.lst x.ds))
def seqSrc (S : Store) : D → Option Src
  | .tup ds => some ⟨none, ds⟩
  | .rol ds => some ⟨none, ds⟩
  | .str x => some ⟨none, x.cps.toList.map fun c => .str ⟨#[c]⟩⟩
  | .obj n => match S[n]? with
    | some (.lst ds) => some ⟨some n, ds⟩
    | _ => none
  | _ => none
def big : Int := 4611686018427387904
def rngOk (i : Int) : Bool := decide (-big ≤ i) && decide (i < big)
def rng (lo : Int) (n : Nat) : List D := (List.range n).map fun (k : Nat) => D.int (lo + k)
def rngSrc : List D → Option Src
  | [.int j] => if rngOk j then some ⟨none, rng 0 j.toNat⟩ else none
  | [.int i, .int j] => if rngOk i && rngOk j then some ⟨none, rng i (j - i).toNat⟩ else none
  | _ => none
/-- the loop of a comprehension whose list is the thing n -/
noncomputable def lcLoop (src : Src) (g : G) (own : List Nat) (n : Nat) (t : Env → Store → R Bool) (e : Env → Store → R D) (ρ : Env) : List D → Store → R D
  | [], S => if src.stays S then .ok (.obj n) S else .bad
  | d :: ds, S => if src.stays S then
      match bindG g d (wipeE ρ own) with
      | some ρ' => (t ρ' S).bindN fun b S1 =>
        if b = true then (e ρ' S1).bindN fun y S2 =>
          match S2[n]? with
          | some (.lst acc) => if acc.length < line then lcLoop src g own n t e ρ ds (S2.set n (.lst (acc ++ [y]))) else .bad
          | _ => .bad
        else lcLoop src g own n t e ρ ds S1
      | none => .bad
    else .bad

/-- the loop of a dict comprehension -/
noncomputable def dcLoop (src : Src) (g : G) (own : List Nat) (n : Nat) (t : Env → Store → R Bool) (kx e : Env → Store → R D) (ρ : Env) : List D → Store → R D
  | [], S => if src.stays S then .ok (.obj n) S else .bad
  | d :: ds, S => if src.stays S then
      match bindG g d (wipeE ρ own) with
      | some ρ' => (t ρ' S).bindN fun b S1 =>
        if b = true then (kx ρ' S1).bindN fun x S2 => (e ρ' S2).bindN fun y S3 =>
          match keyOf x, S3[n]? with
          | some k, some (.dic acc) => if acc.length < line then dcLoop src g own n t kx e ρ ds (S3.set n (.dic (putK acc k y))) else .bad
          | _, _ => .bad
        else dcLoop src g own n t kx e ρ ds S1
      | none => .bad
    else .bad

/-! ### expressions -/
section
variable (p : Prg) (call : Nat → List D → Store → R D)
mutual
noncomputable def ev : E → Env → Store → R D
  | .k d => fun _ S => .ok d S
  | .v i => fun ρ S => (match ρ[i]? with | some (some d) => .ok d S | _ => .bad)
  | .g i => fun _ S => R.of S (p.consts i)
  | .tup es => fun ρ S => (evs es ρ S).bind fun ds S1 => if ds.length ≤ line then .ok (.tup ds) S1 else .bad
  | .lst es => fun ρ S => (evs es ρ S).bind fun ds S1 => if ds.length ≤ line then .ok (.obj S1.length) (S1 ++ [.lst ds]) else .bad
  | .dic t => fun _ S => .ok (.obj S.length) (S ++ [if t = true then .dit [] else .dic []])
  | .bin op a b => fun ρ S => (ev a ρ S).bind fun x S1 => (ev b ρ S1).bind fun y S2 => binD op x y S2
  | .neg a => fun ρ S => (ev a ρ S).bind fun x S1 => (match x with | .int i => .ok (.int (-i)) S1 | _ => .bad)
  | .cmp op a b => fun ρ S => (ev a ρ S).bind fun x S1 => (ev b ρ S1).bind fun y S2 => cmpD op x y S2
  | .cmp2 op op' a b c => fun ρ S => (ev a ρ S).bind fun x S1 => (ev b ρ S1).bind fun y S2 => (cmpD op x y S2).bind fun z S3 =>
      (match z with
       | .bl true => (ev c ρ S3).bind fun w S4 => cmpD op' y w S4
       | .bl false => .ok (.bl false) S3
       | _ => .bad)
  | .and a b => fun ρ S => (ev a ρ S).bind fun x S1 => (match truthy S1 x with | some true => ev b ρ S1 | some false => .ok x S1 | none => .bad)
  | .or a b => fun ρ S => (ev a ρ S).bind fun x S1 => (match truthy S1 x with | some true => .ok x S1 | some false => ev b ρ S1 | none => .bad)
  | .not a => fun ρ S => (ev a ρ S).bind fun x S1 => R.of S1 ((truthy S1 x).map fun b => .bl (!b))
  | .ife t a b => fun ρ S => (evT t ρ S).bind fun c S1 => if c = true then ev a ρ S1 else ev b ρ S1
  | .ix a b => fun ρ S => (ev a ρ S).bind fun x S1 => (ev b ρ S1).bind fun y S2 => ixD x y S2
  | .sl a lo hi => fun ρ S => (ev a ρ S).bind fun x S1 => (evO lo ρ S1).bind fun l S2 => (evO hi ρ S2).bind fun h S3 => slD x l h S3
  | .fld a f => fun ρ S => (ev a ρ S).bind fun x S1 => R.of S1 (fldD p x f S1)
  | .call f es => fun ρ S => (evs es ρ S).bind fun ds S1 => call f ds S1
  | .new C es => fun ρ S => (evs es ρ S).bind fun ds S1 => (match p.ini C with
      | some f => (call f (.obj S1.length :: ds) (S1 ++ [.ins C []])).bind fun x S2 => (match x with | .non => .ok (.obj S1.length) S2 | _ => .bad)
      | none => .bad)
  | .meth a m es => fun ρ S => (ev a ρ S).bind fun x S1 => (match methD p x m S1 with
      | some f => (evs es ρ S1).bind fun ds S2 => call f (x :: ds) S2
      | none => .bad)
  | .blt f es => fun ρ S => (evs es ρ S).bind fun ds S1 => bltD f ds S1
  | .bm a m es => fun ρ S => (ev a ρ S).bind fun x S1 => if bmT m x S1 = true then (evs es ρ S1).bind fun ds S2 => bmD m x ds S2 else .bad
  | .isT a T => fun ρ S => (ev a ρ S).bind fun x S1 => R.of S1 ((isTD x T S1).map .bl)
  | .lrng es => fun ρ S => (evs es ρ S).bind fun ds S1 => (match rngSrc ds with
      | some src => if src.ds.length ≤ line then .ok (.obj S1.length) (S1 ++ [.lst src.ds]) else .bad
      | none => .bad)
  | .lc own elt g it t => fun ρ S => (evI it ρ S).bind fun src S1 => lcLoop src g own S1.length (evT t) (ev elt) ρ src.ds (S1 ++ [.lst []])
  | .dc own kx vx g it t => fun ρ S => (evI it ρ S).bind fun src S1 => dcLoop src g own S1.length (evT t) (ev kx) (ev vx) ρ src.ds (S1 ++ [.dic []])
noncomputable def evs : Es → Env → Store → R (List D)
  | .nil => fun _ S => .ok [] S
  | .cons e es => fun ρ S => (ev e ρ S).bind fun x S1 => (evs es ρ S1).bind fun xs S2 => .ok (x :: xs) S2
noncomputable def evO : O → Env → Store → R (Option Int)
  | .none => fun _ S => .ok none S
  | .some e => fun ρ S => (ev e ρ S).bind fun x S1 => (match x with | .int i => .ok (some i) S1 | _ => .bad)
noncomputable def evT : T → Env → Store → R Bool
  | .val e => fun ρ S => (ev e ρ S).bind fun x S1 => R.of S1 (truthy S1 x)
  | .and a b => fun ρ S => (evT a ρ S).bind fun c S1 => if c = true then evT b ρ S1 else .ok false S1
  | .or a b => fun ρ S => (evT a ρ S).bind fun c S1 => if c = true then .ok true S1 else evT b ρ S1
  | .not a => fun ρ S => (evT a ρ S).bind fun c S1 => .ok (!c) S1
  | .yes => fun _ S => .ok true S
noncomputable def evI : I → Env → Store → R Src
  | .seq e => fun ρ S => (ev e ρ S).bind fun x S1 => R.of S1 (seqSrc S1 x)
  | .rng es => fun ρ S => (evs es ρ S).bind fun ds S1 => R.of S1 (rngSrc ds)
end
end

/-! ### statements -/
inductive RS where
  | nx (ρ : Env) (S : Store)
  | ret (d : D) (S : Store)
  | brk (ρ : Env) (S : Store)
  | ct (ρ : Env) (S : Store)
  | ex (C : Nat) (fs : List (Nat × D)) (ρ : Env) (S : Store)
  | bad
def R.st {α : Type} (x : R α) (ρ : Env) (f : α → Store → RS) : RS := match x with
  | .ok a S => f a S
  | .ex C fs S => .ex C fs ρ S
  | .bad => .bad
@[simp] theorem R.st_ok {α : Type} (a : α) (S : Store) (ρ : Env) (f : α → Store → RS) : (R.ok a S).st ρ f = f a S := (rfl)
@[simp] theorem R.st_ex {α : Type} (C fs) (S : Store) (ρ : Env) (f : α → Store → RS) : (R.ex C fs S : R α).st ρ f = .ex C fs ρ S := (rfl)
@[simp] theorem R.st_bad {α : Type} (ρ : Env) (f : α → Store → RS) : (R.bad : R α).st ρ f = .bad := (rfl)
def RS.seq (x : RS) (f : Env → Store → RS) : RS := match x with
  | .nx ρ S => f ρ S
  | r => r
@[simp] theorem RS.seq_nx (ρ : Env) (S : Store) (f) : (RS.nx ρ S).seq f = f ρ S := (rfl)
@[simp] theorem RS.seq_ret (d : D) (S : Store) (f) : (RS.ret d S).seq f = .ret d S := (rfl)
@[simp] theorem RS.seq_brk (ρ : Env) (S : Store) (f) : (RS.brk ρ S).seq f = .brk ρ S := (rfl)
@[simp] theorem RS.seq_ct (ρ : Env) (S : Store) (f) : (RS.ct ρ S).seq f = .ct ρ S := (rfl)
@[simp] theorem RS.seq_ex (C fs) (ρ : Env) (S : Store) (f) : (RS.ex C fs ρ S).seq f = .ex C fs ρ S := (rfl)
@[simp] theorem RS.seq_bad (f) : RS.bad.seq f = .bad := (rfl)
/-- a turn is done: what follows it, and what a break goes to -/
def RS.turn (x : RS) (again out : Env → Store → RS) : RS := match x with
  | .nx ρ S => again ρ S
  | .ct ρ S => again ρ S
  | .brk ρ S => out ρ S
  | r => r
@[simp] theorem RS.turn_nx (ρ : Env) (S : Store) (f o) : (RS.nx ρ S).turn f o = f ρ S := (rfl)
@[simp] theorem RS.turn_ret (d : D) (S : Store) (f o) : (RS.ret d S).turn f o = .ret d S := (rfl)
@[simp] theorem RS.turn_brk (ρ : Env) (S : Store) (f o) : (RS.brk ρ S).turn f o = o ρ S := (rfl)
@[simp] theorem RS.turn_ct (ρ : Env) (S : Store) (f o) : (RS.ct ρ S).turn f o = f ρ S := (rfl)
@[simp] theorem RS.turn_ex (C fs) (ρ : Env) (S : Store) (f o) : (RS.ex C fs ρ S).turn f o = .ex C fs ρ S := (rfl)
@[simp] theorem RS.turn_bad (f o) : RS.bad.turn f o = .bad := (rfl)
def whileN (t : Env → Store → R Bool) (b : Env → Store → RS) : Nat → Env → Store → RS
  | 0, _, _ => .bad
  | n + 1, ρ, S => (t ρ S).st ρ fun c S1 => if c = true then (b ρ S1).turn (whileN t b n) .nx else .nx ρ S1
open Classical in
noncomputable def whileR (t : Env → Store → R Bool) (b : Env → Store → RS) (ρ : Env) (S : Store) : RS :=
  if h : ∃ n, whileN t b n ρ S ≠ .bad then whileN t b h.choose ρ S else .bad
noncomputable def forL (src : Src) (g : G) (b : Env → Store → RS) : List D → Env → Store → RS
  | [], ρ, S => if src.stays S then .nx ρ S else .bad
  | d :: ds, ρ, S => if src.stays S then
      match bindG g d ρ with
      | some ρ' => (b ρ' S).turn (forL src g b ds) .nx
      | none => .bad
    else .bad
section
variable (p : Prg) (call : Nat → List D → Store → R D)
mutual
noncomputable def exec : S → Env → Store → RS
  | .asg (.g t) e => fun ρ S => (ev p call e ρ S).st ρ fun d S1 => (match bindG t d ρ with | some ρ' => .nx ρ' S1 | none => .bad)
  | .asg (.fld a f) e => fun ρ S => (ev p call e ρ S).st ρ fun d S1 => (ev p call a ρ S1).st ρ fun x S2 => (match setFld p x f d S2 with | some S3 => .nx ρ S3 | none => .bad)
  | .asg (.sub a i) e => fun ρ S => (ev p call e ρ S).st ρ fun d S1 => (ev p call a ρ S1).st ρ fun x S2 => (ev p call i ρ S2).st ρ fun y S3 => (match setD x y d S3 with | some S4 => .nx ρ S4 | none => .bad)
  | .asg2 i j e => fun ρ S => (ev p call e ρ S).st ρ fun d S1 => .nx ((ρ.set i (some d)).set j (some d)) S1
  | .par i j a b => fun ρ S => (ev p call a ρ S).st ρ fun x S1 => (ev p call b ρ S1).st ρ fun y S2 => .nx ((ρ.set i (some x)).set j (some y)) S2
  | .aug i op e => fun ρ S => (match ρ[i]? with
      | some (some x) => (ev p call e ρ S).st ρ fun y S1 => (binD op x y S1).st ρ fun z S2 => .nx (ρ.set i (some z)) S2
      | _ => .bad)
  | .expr e => fun ρ S => (ev p call e ρ S).st ρ fun _ S1 => .nx ρ S1
  | .ret e => fun ρ S => (ev p call e ρ S).st ρ fun d S1 => .ret d S1
  | .retN => fun _ S => .ret .non S
  | .ite t a b => fun ρ S => (evT p call t ρ S).st ρ fun c S1 => if c = true then execs a ρ S1 else execs b ρ S1
  | .whl t b => fun ρ S => whileR (evT p call t) (execs b) ρ S
  | .for g it b => fun ρ S => (evI p call it ρ S).st ρ fun src S1 => forL src g (execs b) src.ds ρ S1
  | .brk => fun ρ S => .brk ρ S
  | .cont => fun ρ S => .ct ρ S
  | .pass => fun ρ S => .nx ρ S
  | .fail => fun _ _ => .bad
noncomputable def execs : Ss → Env → Store → RS
  | .nil => fun ρ S => .nx ρ S
  | .cons s ss => fun ρ S => (exec s ρ S).seq (execs ss)
end
end

/-! ### defs -/
mutual
/-- no thing beyond the first n is named -/
def D.lo (n : Nat) : D → Bool
  | .tup ds => D.los n ds
  | .rol ds => D.los n ds
  | .obj m => decide (m < n)
  | _ => true
def D.los (n : Nat) : List D → Bool
  | [] => true
  | d :: ds => d.lo n && D.los n ds
end
def M.lo (n : Nat) : M → Bool
  | .lst ds => D.los n ds
  | .dic kvs => D.los n (kvs.map (·.2))
  | .dit kvs => D.los n (kvs.map (·.1)) && D.los n (kvs.map (·.2))
  | .ins _ fs => D.los n (fs.map (·.2))
/-- what a def has made and nobody keeps is dropped -/
def gc (n : Nat) (low : Bool) (S : Store) : Store := if low && (S.take n).all (M.lo n) then S.take n else S
def fin (n : Nat) : RS → R D
  | .nx _ S => .ok .non (gc n true S)
  | .ret d S => .ok d (gc n (d.lo n) S)
  | .ex C fs _ S => .ex C fs (gc n (D.los n (fs.map (·.2))) S)
  | _ => .bad
def argsOf (fd : FD) (ds : List D) : List D := ds ++ fd.dfl.drop (fd.dfl.length + ds.length - fd.np)
def envOf (fd : FD) (ds : List D) : Env := (argsOf fd ds).map some ++ List.replicate (fd.nn - fd.np) none
noncomputable def callK (p : Prg) : Nat → Nat → List D → Store → R D
  | 0 => fun _ _ _ => .bad
  | k + 1 => fun f ds S => match p.defs f with
    | some fd => if (argsOf fd ds).length = fd.np then fin S.length (execs p (callK p k) fd.body (envOf fd ds) S) else .bad
    | none => .bad
end Z
end

section
set_option Elab.async false
set_option linter.all false
set_option maxRecDepth 100000
/-! ZQ: dicts whose keys are tuples of ints, texts and such tuples. -/
namespace Z
open PySem L2 PyProof.Rows
mutual
def pyD : D → PyData
  | .int i => .int i
  | .str x => .str x
  | .tup ds => .tuple (pyDs ds)
  | _ => .none
def pyDs : List D → List PyData
  | [] => []
  | d :: ds => pyD d :: pyDs ds
end
mutual
def InH (h : Heap) : D → Value → Prop
  | .int i, v => ∃ t, v = .int i t
  | .str x, v => ∃ t, v = .str x t
  | .tup ds, v => ∃ a o items n, v = .ref a ∧ h.get? a = some o ∧ o.cls = .type "tuple" ∧ o.data = .seq items n ∧ InHs h ds items.toList
  | _, _ => False
def InHs (h : Heap) : List D → List Value → Prop
  | [], vs => vs = []
  | d :: ds, vs => ∃ v r, vs = v :: r ∧ InH h d v ∧ InHs h ds r
end
mutual
def hashD (w : World) : D → Int
  | .int i => keyH w (.inl i)
  | .str x => keyH w (.inr x)
  | .tup ds => reduceHash (Builtin.Tuple.tupleHashOf (hashDs w ds))
  | _ => 0
def hashDs (w : World) : List D → List Int
  | [] => []
  | d :: ds => hashD w d :: hashDs w ds
end
mutual
def drawD : D → Nat
  | .tup ds => drawDs ds + 1
  | _ => 1
def drawDs : List D → Nat
  | [] => 0
  | d :: ds => drawD d + drawDs ds
end
mutual
theorem InH.reads {h : Heap} : ∀ (d : D) (v : Value), InH h d v → ∃ as, Reads h v (pyD d) as
  | .int i, v, x => by obtain ⟨t, rfl⟩ := x; exact ⟨_, .int i t⟩
  | .str i, v, x => by obtain ⟨t, rfl⟩ := x; exact ⟨_, .str i t⟩
  | .tup ds, v, x => by
    unfold InH at x
    obtain ⟨a, o, its, n, rfl, h1, h2, h3, h4⟩ := x
    obtain ⟨as, r⟩ := InHs.reads ds _ h4
    exact ⟨as, .tuple h1 h2 h3 r⟩
  | .non, v, x => x.elim
  | .bl _, v, x => x.elim
  | .rol _, v, x => x.elim
  | .obj _, v, x => x.elim
  | .fn _, v, x => x.elim
theorem InHs.reads {h : Heap} : ∀ (ds : List D) (vs : List Value), InHs h ds vs → ∃ as, ReadsAll h vs (pyDs ds) as
  | [], vs, x => by unfold InHs at x; subst x; exact ⟨_, .nil⟩
  | d :: ds, vs, x => by
    unfold InHs at x
    obtain ⟨v, r, rfl, h1, h2⟩ := x
    obtain ⟨as, r1⟩ := InH.reads d v h1
    obtain ⟨bs, r2⟩ := InHs.reads ds r h2
    exact ⟨_, .cons r1 r2⟩
end
mutual
theorem InH.inj {h : Heap} : ∀ (d e : D) (v : Value), InH h d v → InH h e v → d = e
  | .int i, e, v, x, y => by
    obtain ⟨t, rfl⟩ := x
    cases e <;> first
      | (obtain ⟨t, e⟩ := y; cases e; done)
      | (obtain ⟨t, e⟩ := y; cases e; rfl)
      | (unfold InH at y; obtain ⟨a, o, its, n, e, _⟩ := y; cases e)
      | exact y.elim
  | .str i, e, v, x, y => by
    obtain ⟨t, rfl⟩ := x
    cases e <;> first
      | (obtain ⟨t, e⟩ := y; cases e; done)
      | (obtain ⟨t, e⟩ := y; cases e; rfl)
      | (unfold InH at y; obtain ⟨a, o, its, n, e, _⟩ := y; cases e)
      | exact y.elim
  | .tup ds, e, v, x, y => by
    unfold InH at x
    obtain ⟨a, o, its, n, rfl, h1, h2, h3, h4⟩ := x
    cases e with
    | tup es =>
      unfold InH at y
      obtain ⟨a', o', its', n', e, g1, g2, g3, g4⟩ := y
      cases e
      rw [h1] at g1; cases g1
      rw [h3] at g3; cases g3
      rw [InHs.inj ds es _ h4 g4]
    | int i => obtain ⟨t, e⟩ := y; cases e
    | str i => obtain ⟨t, e⟩ := y; cases e
    | _ => exact y.elim
  | .non, e, v, x, y => x.elim
  | .bl _, e, v, x, y => x.elim
  | .rol _, e, v, x, y => x.elim
  | .obj _, e, v, x, y => x.elim
  | .fn _, e, v, x, y => x.elim
theorem InHs.inj {h : Heap} : ∀ (ds es : List D) (vs : List Value), InHs h ds vs → InHs h es vs → ds = es
  | [], es, vs, x, y => by
    unfold InHs at x; subst x
    cases es with
    | nil => rfl
    | cons e es => unfold InHs at y; obtain ⟨v, r, e, _⟩ := y; cases e
  | d :: ds, es, vs, x, y => by
    unfold InHs at x
    obtain ⟨v, r, rfl, h1, h2⟩ := x
    cases es with
    | nil => unfold InHs at y; cases y
    | cons e es =>
      unfold InHs at y
      obtain ⟨v', r', e', g1, g2⟩ := y
      cases e'
      rw [InH.inj d e _ h1 g1, InHs.inj ds es _ h2 g2]
end
mutual
theorem InH.keep {h h' : Heap} (k : ∀ (a : Addr) (o : Obj) its n, h.get? a = some o → o.data = .seq its n → h'.get? a = some o) : ∀ (d : D) (v : Value), InH h d v → InH h' d v
  | .int i, v, x => x
  | .str i, v, x => x
  | .tup ds, v, x => by
    unfold InH at x ⊢
    obtain ⟨a, o, its, n, rfl, h1, h2, h3, h4⟩ := x
    exact ⟨a, o, its, n, rfl, k _ _ _ _ h1 h3, h2, h3, InHs.keep k ds _ h4⟩
  | .non, v, x => x
  | .bl _, v, x => x
  | .rol _, v, x => x
  | .obj _, v, x => x
  | .fn _, v, x => x
theorem InHs.keep {h h' : Heap} (k : ∀ (a : Addr) (o : Obj) its n, h.get? a = some o → o.data = .seq its n → h'.get? a = some o) : ∀ (ds : List D) (vs : List Value), InHs h ds vs → InHs h' ds vs
  | [], vs, x => x
  | d :: ds, vs, x => by
    unfold InHs at x ⊢
    obtain ⟨v, r, e, h1, h2⟩ := x
    exact ⟨v, r, e, InH.keep k d v h1, InHs.keep k ds r h2⟩
end
theorem InHs.len {h : Heap} : ∀ {ds : List D} {vs : List Value}, InHs h ds vs → ds.length = vs.length
  | [], vs, x => by unfold InHs at x; subst x; rfl
  | d :: ds, vs, x => by
    unfold InHs at x
    obtain ⟨v, r, rfl, h1, h2⟩ := x
    simp [h2.len]
theorem hk_all {n : Nat} {ds : List D} (h : D.hk (n + 1) (.tup ds) = true) : ∀ d ∈ ds, D.hk n d = true := fun d hd => List.all_eq_true.mp (show ds.all (D.hk n) = true from h) d hd
mutual
theorem pyD_plain : ∀ (n : Nat) (d : D), D.hk n d = true → (pyD d).plain = true ∧ (pyD d).depth ≤ n
  | 0, d, h => by unfold D.hk at h; cases h
  | n + 1, .int i, h => ⟨rfl, Nat.zero_le _⟩
  | n + 1, .str i, h => ⟨rfl, Nat.zero_le _⟩
  | n + 1, .tup ds, h => by
    obtain ⟨h1, h2⟩ := pyDs_plain n ds (hk_all h)
    refine ⟨h1, ?_⟩
    show (PyData.tuple (pyDs ds)).depth ≤ n + 1
    simp only [PyData.depth]; omega
  | n + 1, .non, h => by cases h
  | n + 1, .bl _, h => by cases h
  | n + 1, .rol _, h => by cases h
  | n + 1, .obj _, h => by cases h
  | n + 1, .fn _, h => by cases h
theorem pyDs_plain : ∀ (n : Nat) (ds : List D), (∀ d ∈ ds, D.hk n d = true) → PyData.plainAll (pyDs ds) = true ∧ PyData.depthAll (pyDs ds) ≤ n
  | n, [], h => ⟨rfl, Nat.zero_le _⟩
  | n, d :: ds, h => by
    obtain ⟨a, b⟩ := pyD_plain n d (h d List.mem_cons_self)
    obtain ⟨c, e⟩ := pyDs_plain n ds fun x hx => h x (List.mem_cons_of_mem _ hx)
    refine ⟨?_, ?_⟩
    · show ((pyD d).plain && PyData.plainAll (pyDs ds)) = true
      rw [a, c]; rfl
    · show PyData.depthAll (pyD d :: pyDs ds) ≤ n
      simp only [PyData.depthAll]; omega
end
mutual
theorem pyD_eqv : ∀ (n : Nat) (d e : D), D.hk n d = true → D.hk n e = true → PyData.eqv (pyD d) (pyD e) = decide (d = e)
  | 0, d, e, h, g => by unfold D.hk at h; cases h
  | n + 1, d, e, h, g => by
    cases d with
    | int i =>
      cases e with
      | int j => simp [pyD, PyData.eqv, Bool.beq_eq_decide_eq]
      | str j => simp [pyD, PyData.eqv]
      | tup j => simp [pyD, PyData.eqv]
      | _ => cases g
    | str i =>
      cases e with
      | int j => simp [pyD, PyData.eqv]
      | str j => simp [pyD, PyData.eqv, Bool.beq_eq_decide_eq]
      | tup j => simp [pyD, PyData.eqv]
      | _ => cases g
    | tup ds =>
      cases e with
      | int j => simp [pyD, PyData.eqv]
      | str j => simp [pyD, PyData.eqv]
      | tup es =>
        have := pyDs_eqv n ds es (hk_all h) (hk_all g)
        simp only [pyD, PyData.eqv, this, D.tup.injEq]
      | _ => cases g
    | _ => cases h
theorem pyDs_eqv : ∀ (n : Nat) (ds es : List D), (∀ d ∈ ds, D.hk n d = true) → (∀ d ∈ es, D.hk n d = true) → PyData.eqvAll (pyDs ds) (pyDs es) = decide (ds = es)
  | n, [], [], h, g => by simp [pyDs, PyData.eqvAll]
  | n, [], e :: es, h, g => by simp [pyDs, PyData.eqvAll]
  | n, d :: ds, [], h, g => by simp [pyDs, PyData.eqvAll]
  | n, d :: ds, e :: es, h, g => by
    have h1 := pyD_eqv n d e (h d List.mem_cons_self) (g e List.mem_cons_self)
    have h2 := pyDs_eqv n ds es (fun x hx => h x (List.mem_cons_of_mem _ hx)) (fun x hx => g x (List.mem_cons_of_mem _ hx))
    simp only [pyDs, PyData.eqvAll, h1, h2]
    by_cases e1 : d = e
    · by_cases e2 : ds = es
      · simp [e1, e2]
      · simp [e1, e2]
    · simp [e1]
end
section
variable {prog : Program} {w : World} {A : Around} {E : Value → Shared → Prop} {s : Shared}
theorem hash_d : ∀ (n : Nat) (d : D) (v : Value) (A : Around) (E : Value → Shared → Prop) (s : Shared) (Q : Int → Shared → Prop), D.hk n d = true → InH s.heap d v → A.units + 4 * n < cLine → Q (hashD w d) { s with toks := s.toks + drawD d } → wpAny (model prog w) A (pyHash v) Q E s
  | 0, d, v, A, E, s, Q, h, _, _, _ => by unfold D.hk at h; cases h
  | n + 1, d, v, A, E, s, Q, h, hi, hu, q => by
    cases d with
    | int i =>
      obtain ⟨t, rfl⟩ := hi
      exact (mixKind prog w).pyHash (k := .inl i) (by show Value.isInt i (.int i t) = true; simp [Value.isInt]) q
    | str i =>
      obtain ⟨t, rfl⟩ := hi
      exact (mixKind prog w).pyHash (k := .inr i) (by show Value.isStrOf i (.str i t) = true; simp [Value.isStrOf]) q
    | tup ks =>
      unfold InH at hi
      obtain ⟨a, o, items, m, rfl, ho, hc, hd, hi⟩ := hi
      have hT : s.TypeIs (.ref a) "tuple" := ⟨o, ho, hc⟩
      have hall := hk_all h
      have q : Q (reduceHash (Builtin.Tuple.tupleHashOf (hashDs w ks))) { s with toks := s.toks + (drawDs ks + 1) } := q
      unfold pyHash
      first | unfold pyHashByItsType | skip
      first | refine wpAny_bind (wpAny_cRoomFor_or (.inr (by omega)) ?_) | skip
      refine wpAny_bind (wpAny_specialOf hT F.slot_tuple_hash.lookup ?_)
      show wpAny _ _ (if (some (Value.builtin "tuple.__hash__") == some Value.none) = true then _ else _) Q E s
      rw [if_neg (by rw [beq_builtin_none]; exact Bool.false_ne_true)]
      refine wpAny_bind (wpAny_specialOf hT F.slot_tuple_hash.lookup ?_)
      show wpAny _ _ (callSpecialIfBoundUnlessNone? (.ref a) "__hash__" _ >>= _) Q E s
      refine wpAny_bind (wpAny_callSpecialIfBoundUnlessNone?_slot hT F.slot_tuple_hash (wpAny_call_entry F.slot_tuple_hash hT F.entry_tuple_hash ?_ (F.args_tuple_hash_1 _)))
      show wpAny _ _ (Builtin.Tuple.tupleItemsOf (.ref a) >>= _) _ _ s
      refine wpAny_bind (wpAny_tupleItemsOf ho hd ?_)
      refine wpAny_bind ?_
      rw [← Array.forIn_toList]
      refine wpAny_forIn_list _
        (fun rest (b : Array Int) s' => ∃ (hs : List Int) (left : List D) (dr : Nat), hashDs w ks = hs ++ hashDs w left ∧ drawDs ks = dr + drawDs left ∧ (∀ d ∈ left, D.hk n d = true) ∧ InHs s.heap left rest ∧ b.toList = hs ∧ s' = { s with toks := s.toks + dr })
        _ ?_ ?_ _ _ ⟨[], ks, 0, rfl, by omega, hall, hi, rfl, rfl⟩
      · rintro x rest b s' ⟨hs, left, dr, e1, e2, e3, e4, rfl, rfl⟩
        cases left with
        | nil => unfold InHs at e4; cases e4
        | cons k left =>
          unfold InHs at e4
          obtain ⟨v', r', e, h1, h2⟩ := e4
          cases e
          refine wpAny_bind (hash_d n k x _ _ _ _ (e3 k List.mem_cons_self) h1 ?_ ?_)
          · have e5 : A.in1.units = A.units + 1 := rfl
            omega
          · first
              | exact wpAny_pure ⟨b.toList ++ [hashD w k], left, dr + drawD k, by rw [e1]; simp [hashDs], by rw [e2]; simp [drawDs]; omega, fun d hd => e3 d (List.mem_cons_of_mem _ hd), h2, by simp, by simp [Nat.add_assoc]⟩
              | exact wpAny_bind (wpAny_pure (wpAny_pure ⟨b.toList ++ [hashD w k], left, dr + drawD k, by rw [e1]; simp [hashDs], by rw [e2]; simp [drawDs]; omega, fun d hd => e3 d (List.mem_cons_of_mem _ hd), h2, by simp, by simp [Nat.add_assoc]⟩))
      · rintro b s' ⟨hs, left, dr, e1, e2, e3, e4, rfl, rfl⟩
        cases left with
        | cons k left => unfold InHs at e4; obtain ⟨_, _, e, _⟩ := e4; cases e
        | nil =>
        have e1 : hashDs w ks = b.toList := by rw [e1]; simp [hashDs]
        have e2 : drawDs ks = dr := by rw [e2]; simp [drawDs]
        rw [e1, e2] at q
        show wpAny _ _ (retInt (Builtin.Tuple.tupleHashOf b.toList)) _ _ _
        refine wpAny_ret_mkInt ?_
        show wpAny _ _ (if (decide (-(2 : Int) ^ 63 ≤ Builtin.Tuple.tupleHashOf b.toList) && decide (Builtin.Tuple.tupleHashOf b.toList < 2 ^ 63)) = true then _ else _) Q E _
        unfold reduceHash at q
        by_cases hr : (decide (-(2 : Int) ^ 63 ≤ Builtin.Tuple.tupleHashOf b.toList) && decide (Builtin.Tuple.tupleHashOf b.toList < 2 ^ 63)) = true
        · rw [if_pos hr]
          rw [if_pos hr] at q
          exact wpAny_pure (by simpa [Nat.add_assoc] using q)
        · rw [if_neg hr]
          rw [if_neg hr] at q
          exact wpAny_bind (wpAny_rule (wpAny_pure (by simpa [Nat.add_assoc] using q)))
    | _ => cases h
theorem eqBool_d {n : Nat} {x y : D} {u v : Value} {Q : Bool → Shared → Prop} (hx : D.hk n x = true) (hy : D.hk n y = true) (ix : InH s.heap x u) (iy : InH s.heap y v) (hu : A.units + n < cLine) (q : Q (decide (x = y)) s) :
    wpAny (model prog w) A (eqBool u v) Q E s := by
  obtain ⟨as, r1⟩ := ix.reads
  obtain ⟨bs, r2⟩ := iy.reads
  obtain ⟨p1, d1⟩ := pyD_plain n x hx
  obtain ⟨p2, d2⟩ := pyD_plain n y hy
  exact PySem.SeqAt.eqAt_plain _ _ A s u v as bs r1 r2 p1 p2 (by have := Nat.min_le_left (pyD x).depth (pyD y).depth; omega) prog w E Q (by rw [pyD_eqv n x y hx hy]; exact q)
theorem quiet_d : ∀ (n m : Nat) (d : D) (v : Value) (A : Around) (E : Value → Shared → Prop) (s : Shared) (Q : Bool → Shared → Prop), n < m → D.hk n d = true → InH s.heap d v → Q true s → wpAny (model prog w) A (eqIsQuiet m v) Q E s
  | 0, m, d, v, A, E, s, Q, _, h, _, _ => by unfold D.hk at h; cases h
  | n + 1, 0, d, v, A, E, s, Q, hm, _, _, _ => by omega
  | n + 1, m + 1, d, v, A, E, s, Q, hm, h, hi, q => by
    cases d with
    | int i =>
      obtain ⟨t, rfl⟩ := hi
      rw [eqIsQuiet_byValue _ (by rfl)]
      exact wpAny_pure q
    | str i =>
      obtain ⟨t, rfl⟩ := hi
      rw [eqIsQuiet_byValue _ (by rfl)]
      exact wpAny_pure q
    | tup ks =>
      unfold InH at hi
      obtain ⟨a, o, items, m', rfl, ho, hc, hd, hi⟩ := hi
      have hT : s.TypeIs (.ref a) "tuple" := ⟨o, ho, hc⟩
      unfold eqIsQuiet
      refine wpAny_bind (wpAny_specialOf hT F.slot_tuple_eq.lookup ?_)
      show wpAny _ _ (isInstance (.ref a) (.type "tuple") >>= _) _ _ s
      refine wpAny_bind (wpAny_isInstance hT isSubtype_tuple_tuple ?_)
      simp only [Bool.not_true, Bool.false_eq_true, if_false]
      refine wpAny_bind (wpAny_seqItems ho hd ?_)
      refine wpAny_bind ?_
      show wpAny _ _ (forIn items _ _) _ _ s
      rw [← Array.forIn_toList]
      refine wpAny_forIn_list _ (fun rest r s' => r.1 = none ∧ s' = s ∧ ∃ left, (∀ d ∈ left, D.hk n d = true) ∧ InHs s.heap left rest) _ ?_ ?_ _ _ ⟨rfl, rfl, ks, hk_all h, hi⟩
      · rintro v rest r s' ⟨hr, rfl, left, hall, hin⟩
        cases left with
        | nil => unfold InHs at hin; cases hin
        | cons k left =>
          unfold InHs at hin
          obtain ⟨v', r', e, h1, h2⟩ := hin
          cases e
          refine wpAny_bind (quiet_d n m k v _ _ _ _ (by omega) (hall k List.mem_cons_self) h1 ?_)
          simp only [Bool.not_true, Bool.false_eq_true, if_false]
          exact wpAny_pure ⟨rfl, rfl, left, fun d hd => hall d (List.mem_cons_of_mem _ hd), h2⟩
      · rintro ⟨r1, r2⟩ s' ⟨hr, rfl, _⟩
        simp only at hr
        subst hr
        exact wpAny_pure q
    | _ => cases h
/-- keys up to a depth of four -/
noncomputable def deepKind (prog : Program) (w : World) : HeapKind prog w D where
  is := fun h d a => D.hk 4 d = true ∧ InH h d (.ref a)
  hash := hashD w
  draws := drawD
  room := fun A => A.units + 20 < cLine
  inj := fun hx hy => hx.2.inj _ _ _ hy.2
  keeps := fun {h h'} k a d o es ep x ho hd hs => ⟨x.1, x.2.keep (fun b ob its n e1 e2 => by
    have ne : b ≠ d := by
      rintro rfl
      rw [e1] at ho; cases ho
      rw [e2] at hd; cases hd
    exact (hs.2 b ne).trans e1) _ _⟩
  pyHash := fun hu hk h => hash_d 4 _ _ _ _ _ _ hk.1 hk.2 (by omega) h
  eqBool := fun hu hx hy h => eqBool_d hx.1 hy.1 hx.2 hy.2 (by omega) h
  quiet := fun hk h => quiet_d 4 8 _ _ _ _ _ _ (by omega) hk.1 hk.2 h
end

/-! ### such a dict as a thing of the heap -/
abbrev TX := List (D × Addr × V)
def entX (w : World) (y : D × Addr × Value) : DictEntry := ⟨hashD w y.1, .ref y.2.1, y.2.2⟩
def relX (p : D × Addr × V) (q : D × Addr × Value) : Prop := p.1 = q.1 ∧ p.2.1 = q.2.1 ∧ RelV p.2.2 q.2.2
def DTφ (w : World) (a : Addr) (xs : TX) (h : Heap) : Prop := xs.length ≤ sizeLine ∧ (a == sysModules) = false ∧ ∃ ys, Paired relX xs ys ∧ ∃ o es ep, h.get? a = some o ∧ o.ExactDict ∧ o.data = .dict es ep ∧ es.toList = ys.map (entX w) ∧ (ys.map (·.1)).Nodup
def DTo (w : World) (a : Addr) (xs : TX) : HO := .ext (DTφ w a xs)
theorem dto_obj {P : Program} {w w' : World} {H : Hp} {h : Heap} {a : Addr} {xs : TX} (x : DTφ w a xs h) : ObjOk P w' H h a (DTo w a xs) := by
  refine ⟨x, ?_, fun h1 h2 y k => ?_⟩
  · obtain ⟨_, _, _, _, o, _, _, e, _⟩ := x
    exact ⟨o, e⟩
  · obtain ⟨z, n, ys, r, o, es, ep, e, c⟩ := y
    exact ⟨z, n, ys, r, o, es, ep, k _ e, c⟩
theorem dto_new {w : World} (h : Heap) (hb : sysModules < h.objs.size) : DTφ w h.objs.size [] (h.push { cls := .type "dict", data := .dict #[] }) :=
  ⟨Nat.zero_le _, beq_eq_false_iff_ne.mpr (Ne.symm (Nat.ne_of_lt hb)), [], .nil, _, #[], 0, Heap.get?_push_size _ rfl, ⟨rfl, rfl, rfl⟩, rfl, rfl, List.nodup_nil⟩
noncomputable def findX (xs : TX) (k : D) : Option (Addr × V) := (xs.find? fun x => decide (x.1 = k)).map (·.2)
noncomputable def putX (xs : TX) (k : D) (a : Addr) (v : V) : TX := if (findX xs k).isSome = true then xs.map (fun x => if x.1 = k then (x.1, x.2.1, v) else x) else xs ++ [(k, a, v)]
theorem findX_rel {k : D} {xs : TX} {ys : List (D × Addr × Value)} (r : Paired relX xs ys) : (∀ a v, findX xs k = some (a, v) → ∃ u, atKey ys k = some (a, u) ∧ RelV v u) ∧ (findX xs k = none → atKey ys k = none) := by
  induction r with
  | nil => exact ⟨fun a v h => (by cases h), fun _ => rfl⟩
  | @cons x y xs ys hr t ih =>
    obtain ⟨xk, xa, xv⟩ := x
    obtain ⟨yk, ya, yu⟩ := y
    obtain ⟨e1, e2, e3⟩ := hr
    have e1 : xk = yk := e1
    have e2 : xa = ya := e2
    subst e1 e2
    by_cases hk : xk = k
    · refine ⟨fun a v h => ?_, fun h => ?_⟩
      · unfold findX at h
        rw [List.find?_cons] at h
        simp only [hk, decide_true] at h
        cases h
        refine ⟨yu, ?_, e3⟩
        unfold atKey
        rw [List.find?_cons]
        simp only [hk, decide_true]
        rfl
      · unfold findX at h
        rw [List.find?_cons] at h
        simp only [hk, decide_true] at h
        cases h
    · have f1 : ∀ l : TX, findX ((xk, xa, xv) :: l) k = findX l k := fun l => by
        unfold findX; rw [List.find?_cons]; simp only [hk, decide_false]
      have f2 : ∀ l : List (D × Addr × Value), atKey ((xk, xa, yu) :: l) k = atKey l k := fun l => by
        unfold atKey; rw [List.find?_cons]; simp only [hk, decide_false]
      rw [f1, f2]
      exact ih
theorem pairApp {α β : Type} {F : α → β → Prop} {a c : List α} {b d : List β} (h : Paired F a b) (g : Paired F c d) : Paired F (a ++ c) (b ++ d) := by
  induction h with
  | nil => exact g
  | cons r t ih => exact .cons r ih
theorem putX_rel {xs : TX} {ys : List (D × Addr × Value)} {k : D} {a : Addr} {v : V} {u : Value} (r : Paired relX xs ys) (rv : RelV v u) : Paired relX (putX xs k a v) (storedH ys k a u) := by
  obtain ⟨h1, h2⟩ := findX_rel (k := k) r
  unfold putX storedH
  have e : (findX xs k).isSome = (atKey ys k).isSome := by
    cases q : findX xs k with
    | none => rw [h2 q]; rfl
    | some z => obtain ⟨u, q1, _⟩ := h1 z.1 z.2 q; rw [q1]; rfl
  rw [e]
  have mp : Paired relX (xs.map (fun x => if x.1 = k then (x.1, x.2.1, v) else x)) (ys.map (putAt k u)) := by
    clear h1 h2 e
    induction r with
    | nil => exact .nil
    | @cons x y xs ys hr t ih =>
      refine .cons ?_ ih
      obtain ⟨xk, xa, xv⟩ := x
      obtain ⟨yk, ya, yu⟩ := y
      obtain ⟨e1, e2, e3⟩ := hr
      have e1 : xk = yk := e1
      have e2 : xa = ya := e2
      subst e1 e2
      unfold putAt
      dsimp only
      by_cases hk : xk = k
      · rw [if_pos hk, if_pos hk]
        exact ⟨rfl, rfl, rv⟩
      · rw [if_neg hk, if_neg hk]
        exact ⟨rfl, rfl, e3⟩
  split
  · exact mp
  · exact pairApp r (.cons ⟨rfl, rfl, rv⟩ .nil)
end Z
end

section
set_option Elab.async false
set_option linter.all false
set_option maxRecDepth 100000
/-! ZB: how data and store stand in the abstract heap of HandS. -/
namespace Z
open PySem L2

/-- where classes and defs stand, how fields are called -/
structure Nm where
  cA : Nat → Addr
  fA : Nat → Addr
  nm : Nat → Str
  w : World
  inj : ∀ a b, nm a = nm b → a = b

/-- a list that nobody changes -/
def SqF (K : PySem.W.Frag) (H : Hp) (a : Addr) (xs : List V) : Prop :=
  (∃ o, H a = some (.frz o (.lst xs))) ∨
    ∃ (o : Obj) (its : Array Value) (n : Nat), K.lookup a = some o ∧ o.cls = .type "list" ∧ o.dict = none ∧ o.data = .seq its n ∧ its.size ≤ sizeLine ∧ Vals xs its.toList
theorem SqF.l {K : PySem.W.Frag} {H : Hp} {a : Addr} {xs : List V} (h : SqF K H a xs) : SqL K H a xs := by
  rcases h with h | h
  · exact .inl (.inr h)
  · exact .inr h
section
variable (K : PySem.W.Frag) (Θ : Nm) (ι : List Addr) (H : Hp)
mutual
def RelD : D → V → Prop
  | .non, v => v = .non
  | .bl b, v => v = .bl b
  | .int i, v => v = .int i
  | .str x, v => v = .str x
  | .tup ds, v => ∃ a vs, v = .ref a ∧ SqT K H a vs ∧ RelDs ds vs
  | .rol ds, v => ∃ a vs, v = .ref a ∧ SqF K H a vs ∧ RelDs ds vs
  | .obj n, v => ∃ a, v = .ref a ∧ ι[n]? = some a
  | .fn f, v => v = .ref (Θ.fA f)
def RelDs : List D → List V → Prop
  | [], vs => vs = []
  | d :: ds, vs => ∃ v r, vs = v :: r ∧ RelD d v ∧ RelDs ds r
end
/-- pairs of a dict, fields of an instance -/
def RelK {κ : Type} : List (κ × D) → List (κ × V) → Prop
  | [], r => r = []
  | (k, d) :: l, r => ∃ v t, r = (k, v) :: t ∧ RelD K Θ ι H d v ∧ RelK l t
def RelF : List (Nat × D) → List (Str × V) → Prop
  | [], r => r = []
  | (f, d) :: l, r => ∃ v t, r = (Θ.nm f, v) :: t ∧ RelD K Θ ι H d v ∧ RelF l t
end

/-- a dict by tuples -/
def RelT (K : PySem.W.Frag) (Θ : Nm) (ι : List Addr) (H : Hp) : List (D × D) → TX → Prop
  | [], r => r = []
  | (k, d) :: l, r => ∃ a v t, r = (k, a, v) :: t ∧ D.hk 4 k = true ∧ RelD K Θ ι H k (.ref a) ∧ RelD K Θ ι H d v ∧ RelT K Θ ι H l t
/-- tuples stay, and what is locked -/
structure Keep (H H' : Hp) : Prop where
  t : ∀ a xs, H a = some (.tup xs) → H' a = some (.tup xs)
  f : ∀ a o u, H a = some (.frz o u) → H' a = some (.frz o u)
theorem Keep.refl (H : Hp) : Keep H H := ⟨fun _ _ h => h, fun _ _ _ h => h⟩
theorem Keep.trans {H H1 H2 : Hp} (a : Keep H H1) (b : Keep H1 H2) : Keep H H2 := ⟨fun x xs h => b.t x xs (a.t x xs h), fun x o u h => b.f x o u (a.f x o u h)⟩
theorem Keep.sq {K : PySem.W.Frag} {H H' : Hp} (k : Keep H H') {a : Addr} {xs : List V} (h : SqT K H a xs) : SqT K H' a xs := by
  rcases h with (h | ⟨o, h⟩) | h
  · exact .inl (.inl (k.t _ _ h))
  · exact .inl (.inr ⟨o, k.f _ _ _ h⟩)
  · exact .inr h
theorem Keep.sf {K : PySem.W.Frag} {H H' : Hp} (k : Keep H H') {a : Addr} {xs : List V} (h : SqF K H a xs) : SqF K H' a xs := by
  rcases h with ⟨o, h⟩ | h
  · exact .inl ⟨o, k.f _ _ _ h⟩
  · exact .inr h
theorem Keep.fresh {H : Hp} {p : Addr} {o : HO} (h : H p = none) : Keep H (upd H p o) :=
  ⟨fun a xs r => by rw [upd_ne (ne_of_none r h)]; exact r, fun a ob u r => by rw [upd_ne (ne_of_none r h)]; exact r⟩
/-- a thing of that form is no tuple -/
def notTup : HO → Bool
  | .tup _ => false
  | .frz _ _ => false
  | _ => true
theorem Keep.write {H : Hp} {p : Addr} {o u : HO} (h : H p = some u) (n : notTup u = true) : Keep H (upd H p o) :=
  ⟨fun a xs r => by rw [upd_ne (ne_of r h (by intro e; subst e; exact absurd n Bool.false_ne_true))]; exact r,
   fun a ob v r => by rw [upd_ne (ne_of r h (by intro e; subst e; exact absurd n Bool.false_ne_true))]; exact r⟩

/-- more things -/
def Pre (ι ι' : List Addr) : Prop := ∀ (n : Nat) (a : Addr), ι[n]? = some a → ι'[n]? = some a
theorem Pre.refl (ι : List Addr) : Pre ι ι := fun _ _ h => h
theorem Pre.trans {a b c : List Addr} (x : Pre a b) (y : Pre b c) : Pre a c := fun n v h => y n v (x n v h)
theorem Pre.snoc (ι : List Addr) (p : Addr) : Pre ι (ι ++ [p]) := fun n a h => by
  rw [List.getElem?_append_left (List.getElem?_eq_some_iff.mp h).1]; exact h

section
variable {K : PySem.W.Frag} {Θ : Nm} {ι ι' : List Addr} {H H' : Hp}
mutual
theorem RelD.mono (p : Pre ι ι') (k : Keep H H') : ∀ (d : D) (v : V), RelD K Θ ι H d v → RelD K Θ ι' H' d v
  | .non, v, h => h
  | .bl b, v, h => h
  | .int i, v, h => h
  | .str x, v, h => h
  | .tup ds, v, h => by
    unfold RelD at h ⊢
    obtain ⟨a, vs, e, s, r⟩ := h
    exact ⟨a, vs, e, k.sq s, RelDs.mono p k ds vs r⟩
  | .rol ds, v, h => by
    unfold RelD at h ⊢
    obtain ⟨a, vs, e, s, r⟩ := h
    exact ⟨a, vs, e, k.sf s, RelDs.mono p k ds vs r⟩
  | .obj n, v, h => by
    unfold RelD at h ⊢
    obtain ⟨a, e, s⟩ := h
    exact ⟨a, e, p n a s⟩
  | .fn f, v, h => h
theorem RelDs.mono (p : Pre ι ι') (k : Keep H H') : ∀ (ds : List D) (vs : List V), RelDs K Θ ι H ds vs → RelDs K Θ ι' H' ds vs
  | [], vs, h => h
  | d :: ds, vs, h => by
    unfold RelDs at h ⊢
    obtain ⟨v, r, e, a, b⟩ := h
    exact ⟨v, r, e, RelD.mono p k d v a, RelDs.mono p k ds r b⟩
end
theorem RelK.mono {κ : Type} (p : Pre ι ι') (k : Keep H H') : ∀ (l : List (κ × D)) (r : List (κ × V)), RelK K Θ ι H l r → RelK K Θ ι' H' l r
  | [], r, h => h
  | (j, d) :: l, r, h => by
    obtain ⟨v, t, e, a, b⟩ := h
    exact ⟨v, t, e, RelD.mono p k d v a, RelK.mono p k l t b⟩
theorem RelT.mono (p : Pre ι ι') (k : Keep H H') : ∀ (l : List (D × D)) (r : TX), RelT K Θ ι H l r → RelT K Θ ι' H' l r
  | [], r, h => h
  | (j, d) :: l, r, h => by
    obtain ⟨a, v, t, e, h1, h2, h3, h4⟩ := h
    exact ⟨a, v, t, e, h1, RelD.mono p k j _ h2, RelD.mono p k d v h3, RelT.mono p k l t h4⟩
theorem RelF.mono (p : Pre ι ι') (k : Keep H H') : ∀ (l : List (Nat × D)) (r : List (Str × V)), RelF K Θ ι H l r → RelF K Θ ι' H' l r
  | [], r, h => h
  | (j, d) :: l, r, h => by
    obtain ⟨v, t, e, a, b⟩ := h
    exact ⟨v, t, e, RelD.mono p k d v a, RelF.mono p k l t b⟩

theorem RelDs.length : ∀ {ds : List D} {vs : List V}, RelDs K Θ ι H ds vs → ds.length = vs.length
  | [], vs, h => by unfold RelDs at h; rw [h]; rfl
  | d :: ds, vs, h => by
    unfold RelDs at h
    obtain ⟨v, r, e, a, b⟩ := h
    rw [e, List.length_cons, List.length_cons, RelDs.length b]
theorem RelDs.get : ∀ {ds : List D} {vs : List V} {i : Nat} {d : D}, RelDs K Θ ι H ds vs → ds[i]? = some d → ∃ v, vs[i]? = some v ∧ RelD K Θ ι H d v
  | [], _, _, _, _, e => by simp at e
  | d :: ds, vs, 0, _, h, e => by
    unfold RelDs at h
    obtain ⟨v, r, rfl, a, b⟩ := h
    simp at e; subst e; exact ⟨v, rfl, a⟩
  | d :: ds, vs, i + 1, x, h, e => by
    unfold RelDs at h
    obtain ⟨v, r, rfl, a, b⟩ := h
    obtain ⟨w, h1, h2⟩ := RelDs.get (i := i) b (by simpa using e)
    exact ⟨w, by simpa using h1, h2⟩
theorem RelDs.app : ∀ {ds es : List D} {vs ws : List V}, RelDs K Θ ι H ds vs → RelDs K Θ ι H es ws → RelDs K Θ ι H (ds ++ es) (vs ++ ws)
  | [], es, vs, ws, h, q => by unfold RelDs at h; rw [h]; exact q
  | d :: ds, es, vs, ws, h, q => by
    unfold RelDs at h
    obtain ⟨v, r, rfl, a, b⟩ := h
    show RelDs K Θ ι H (d :: (ds ++ es)) (v :: (r ++ ws))
    unfold RelDs
    exact ⟨v, _, rfl, a, RelDs.app b q⟩
theorem RelDs.nil : RelDs K Θ ι H [] [] := by unfold RelDs; rfl
theorem RelDs.cons {d : D} {v : V} {ds : List D} {vs : List V} (a : RelD K Θ ι H d v) (b : RelDs K Θ ι H ds vs) : RelDs K Θ ι H (d :: ds) (v :: vs) := by
  unfold RelDs; exact ⟨v, vs, rfl, a, b⟩
theorem RelDs.drop : ∀ {ds : List D} {vs : List V} (n : Nat), RelDs K Θ ι H ds vs → RelDs K Θ ι H (ds.drop n) (vs.drop n)
  | _, _, 0, h => h
  | [], vs, n + 1, h => by unfold RelDs at h; rw [h]; exact RelDs.nil
  | d :: ds, vs, n + 1, h => by
    unfold RelDs at h
    obtain ⟨v, r, rfl, a, b⟩ := h
    exact RelDs.drop n b
theorem RelDs.take : ∀ {ds : List D} {vs : List V} (n : Nat), RelDs K Θ ι H ds vs → RelDs K Θ ι H (ds.take n) (vs.take n)
  | _, _, 0, h => by simp only [List.take_zero]; exact RelDs.nil
  | [], vs, n + 1, h => by unfold RelDs at h; rw [h]; exact RelDs.nil
  | d :: ds, vs, n + 1, h => by
    unfold RelDs at h
    obtain ⟨v, r, rfl, a, b⟩ := h
    exact RelDs.cons a (RelDs.take n b)
theorem RelDs.set : ∀ {ds : List D} {vs : List V} {x : D} {y : V} (n : Nat), RelDs K Θ ι H ds vs → RelD K Θ ι H x y → RelDs K Θ ι H (ds.set n x) (vs.set n y)
  | [], vs, _, _, n, h, _ => by unfold RelDs at h; rw [h]; exact RelDs.nil
  | d :: ds, vs, x, y, 0, h, q => by
    unfold RelDs at h
    obtain ⟨v, r, rfl, a, b⟩ := h
    exact RelDs.cons q b
  | d :: ds, vs, x, y, n + 1, h, q => by
    unfold RelDs at h
    obtain ⟨v, r, rfl, a, b⟩ := h
    exact RelDs.cons a (RelDs.set n b q)
theorem RelDs.erase : ∀ {ds : List D} {vs : List V} (n : Nat), RelDs K Θ ι H ds vs → RelDs K Θ ι H (ds.eraseIdx n) (vs.eraseIdx n)
  | [], vs, n, h => by unfold RelDs at h; rw [h]; exact RelDs.nil
  | d :: ds, vs, 0, h => by
    unfold RelDs at h
    obtain ⟨v, r, rfl, a, b⟩ := h
    exact b
  | d :: ds, vs, n + 1, h => by
    unfold RelDs at h
    obtain ⟨v, r, rfl, a, b⟩ := h
    exact RelDs.cons a (RelDs.erase n b)
theorem RelDs.dropLast {ds : List D} {vs : List V} (h : RelDs K Θ ι H ds vs) : RelDs K Θ ι H ds.dropLast vs.dropLast := by
  rw [List.dropLast_eq_take, List.dropLast_eq_take, ← h.length]
  exact h.take _
end

/-! ### a thing of the store -/
section
variable (K : PySem.W.Frag) (Θ : Nm) (ι : List Addr) (H : Hp)
def MOk (a : Addr) : M → Prop
  | .lst ds => ∃ vs, H a = some (.lst vs) ∧ RelDs K Θ ι H ds vs
  | .dic kvs => ∃ r, H a = some (.dK r) ∧ RelK K Θ ι H kvs r
  | .dit kvs => ∃ xs, H a = some (DTo Θ.w a xs) ∧ RelT K Θ ι H kvs xs
  | .ins C fs => ∃ dx gs, H a = some (.ins (Θ.cA C) dx gs) ∧ RelF K Θ ι H fs gs
structure Sim (S : List M) : Prop where
  len : ι.length = S.length
  nd : ι.Nodup
  ok : ∀ (n : Nat) (m : M) (a : Addr), S[n]? = some m → ι[n]? = some a → MOk K Θ ι H a m
end
section
variable {K : PySem.W.Frag} {Θ : Nm} {ι ι' : List Addr} {H H' : Hp} {S : List M}
theorem Sim.at (x : Sim K Θ ι H S) {n : Nat} {m : M} (h : S[n]? = some m) : ∃ a, ι[n]? = some a ∧ MOk K Θ ι H a m := by
  have hl : n < ι.length := by rw [x.len]; exact (List.getElem?_eq_some_iff.mp h).1
  exact ⟨ι[n], List.getElem?_eq_getElem hl, x.ok n m _ h (List.getElem?_eq_getElem hl)⟩
/-- what a thing's description leans on -/
theorem MOk.mono {a : Addr} {m : M} (x : MOk K Θ ι H a m) (p : Pre ι ι') (k : Keep H H') (e : ∀ o, H a = some o → H' a = some o) : MOk K Θ ι' H' a m := by
  cases m with
  | lst ds => obtain ⟨vs, h, r⟩ := x; exact ⟨vs, e _ h, RelDs.mono p k ds vs r⟩
  | dic kvs => obtain ⟨vs, h, r⟩ := x; exact ⟨vs, e _ h, RelK.mono p k kvs vs r⟩
  | dit kvs => obtain ⟨xs, h, r⟩ := x; exact ⟨xs, e _ h, RelT.mono p k kvs xs r⟩
  | ins C fs => obtain ⟨dx, gs, h, r⟩ := x; exact ⟨dx, gs, e _ h, RelF.mono p k fs gs r⟩
/-- a thing stands at a tracked place -/
theorem MOk.here {a : Addr} {m : M} (x : MOk K Θ ι H a m) : ∃ o, H a = some o ∧ notTup o = true := by
  cases m with
  | lst ds => obtain ⟨vs, h, r⟩ := x; exact ⟨_, h, rfl⟩
  | dic kvs => obtain ⟨vs, h, r⟩ := x; exact ⟨_, h, rfl⟩
  | dit kvs => obtain ⟨xs, h, r⟩ := x; exact ⟨_, h, rfl⟩
  | ins C fs => obtain ⟨dx, gs, h, r⟩ := x; exact ⟨_, h, rfl⟩
theorem Sim.out (x : Sim K Θ ι H S) {p : Addr} (h : H p = none) : p ∉ ι := fun hp => by
  obtain ⟨n, hn⟩ := List.mem_iff_getElem?.mp hp
  have hl : n < S.length := by rw [← x.len]; exact (List.getElem?_eq_some_iff.mp hn).1
  obtain ⟨o, e, _⟩ := (x.ok n _ p (List.getElem?_eq_getElem hl) hn).here
  rw [h] at e; cases e
/-- a new object that is no thing of the store -/
theorem Sim.fresh (x : Sim K Θ ι H S) {p : Addr} {o : HO} (h : H p = none) : Sim K Θ ι (upd H p o) S :=
  ⟨x.len, x.nd, fun n m a e1 e2 => (x.ok n m a e1 e2).mono (Pre.refl _) (Keep.fresh h) fun u q => by
    rw [upd_ne (ne_of_none q h)]; exact q⟩
/-- a new thing -/
theorem Sim.snoc (x : Sim K Θ ι H S) {p : Addr} {o : HO} {m : M} (h : H p = none) (mk : MOk K Θ (ι ++ [p]) (upd H p o) p m) : Sim K Θ (ι ++ [p]) (upd H p o) (S ++ [m]) := by
  refine ⟨by rw [List.length_append, List.length_append, x.len]; rfl, ?_, fun n m' a e1 e2 => ?_⟩
  · rw [List.nodup_append]
    refine ⟨x.nd, by simp, fun a ha b hb => ?_⟩
    have : b = p := by simpa using hb
    subst this
    intro e; subst e; exact x.out h ha
  · by_cases hn : n < S.length
    · rw [List.getElem?_append_left hn] at e1
      rw [List.getElem?_append_left (by rw [x.len]; exact hn)] at e2
      exact (x.ok n m' a e1 e2).mono (Pre.snoc _ _) (Keep.fresh h) fun u q => by
        rw [upd_ne (ne_of_none q h)]; exact q
    · have hl : n = S.length := by
        have := (List.getElem?_eq_some_iff.mp e1).1
        rw [List.length_append, List.length_singleton] at this
        omega
      subst hl
      rw [List.getElem?_append_right (Nat.le_refl _)] at e1
      rw [← x.len, List.getElem?_append_right (Nat.le_refl _)] at e2
      simp at e1 e2
      subst e1; subst e2
      exact mk
/-- a thing is changed -/
theorem Sim.write (x : Sim K Θ ι H S) {n : Nat} {a : Addr} {o u : HO} {m : M} (hu : H a = some u) (nt : notTup u = true) (ha : ι[n]? = some a) (mk : MOk K Θ ι (upd H a o) a m) : Sim K Θ ι (upd H a o) (S.set n m) := by
  refine ⟨by rw [List.length_set, x.len], x.nd, fun j m' b e1 e2 => ?_⟩
  by_cases hj : n = j
  · subst hj
    have hl : n < S.length := by rw [← x.len]; exact (List.getElem?_eq_some_iff.mp ha).1
    rw [List.getElem?_set_self hl] at e1
    cases e1
    rw [ha] at e2; cases e2
    exact mk
  · rw [List.getElem?_set_ne hj] at e1
    have ne : b ≠ a := by
      intro e; subst e
      exact hj ((List.getElem?_inj (List.getElem?_eq_some_iff.mp ha).1 x.nd).mp (ha.trans e2.symm))
    exact (x.ok j m' b e1 e2).mono (Pre.refl _) (Keep.write hu nt) fun w q => by rw [upd_ne ne]; exact q
theorem Pre.dom {ι ι' : List Addr} (p : Pre ι ι') : ι.length ≤ ι'.length := by
  by_cases h : ι.length = 0
  · omega
  · have h1 : ι.length - 1 < ι.length := by omega
    have := p (ι.length - 1) _ (List.getElem?_eq_getElem h1)
    have := (List.getElem?_eq_some_iff.mp this).1
    omega
end
end Z
end

section
set_option Elab.async false
set_option linter.all false
set_option maxRecDepth 100000
/-! ZC: the evaluator's answers as readings of HandS. -/
namespace Z
open PySem L2

section
variable (K : PySem.W.Frag) (Θ : Nm)
def RelE (ι : List Addr) (H : Hp) (ρ : Env) (σ : St) : Prop := ρ.length = σ.length ∧ ∀ (i : Nat) (d : D), ρ[i]? = some (some d) → ∃ v, σ[i]? = some (some v) ∧ RelD K Θ ι H d v
/-- an exception's own dict -/
def ExD (ι : List Addr) (H : Hp) (fs : List (Nat × D)) (d : Option Addr) : Prop := (fs = [] ∧ d = none) ∨ ∃ dx gs, d = some dx ∧ H dx = some (.xd gs) ∧ RelF K Θ ι H fs gs
def Post {α β : Type} (rel : List Addr → Hp → α → β → Prop) (W : WX) (σ : St) (ι : List Addr) (H : Hp) (Q : β → Hp → Prop) : R α → Prop
  | .ok a S => ∀ ι' H' b, Pre ι ι' → Keep H H' → Sim K Θ ι' H' S → rel ι' H' a b → Q b H'
  | .ex C fs S => ∀ ι' H' d, Pre ι ι' → Keep H H' → Sim K Θ ι' H' S → ExD K Θ ι' H' fs d → W (.ref (Θ.cA C)) d σ H'
  | .bad => False
abbrev rD : List Addr → Hp → D → V → Prop := fun ι H => RelD K Θ ι H
abbrev rDs : List Addr → Hp → List D → List V → Prop := fun ι H => RelDs K Θ ι H
abbrev rB : List Addr → Hp → Bool → Bool → Prop := fun _ _ a b => b = a
abbrev rO : List Addr → Hp → Option Int → Option Int → Prop := fun _ _ a b => b = a
/-- a state of HandS in which the evaluator's state stands, and what follows the answer -/
def tE (W : WX) (m : Env → Store → R D) : TE := fun σ H Q => ∃ ρ S ι, Sim K Θ ι H S ∧ RelE K Θ ι H ρ σ ∧ Post K Θ (rD K Θ) W σ ι H Q (m ρ S)
def tT (W : WX) (m : Env → Store → R Bool) : TT := fun σ H Q => ∃ ρ S ι, Sim K Θ ι H S ∧ RelE K Θ ι H ρ σ ∧ Post K Θ rB W σ ι H Q (m ρ S)
def tA (W : WX) (m : Env → Store → R (List D)) : TA := fun σ H Q => ∃ ρ S ι, Sim K Θ ι H S ∧ RelE K Θ ι H ρ σ ∧ Post K Θ (rDs K Θ) W σ ι H Q (m ρ S)
def tO (W : WX) (m : Env → Store → R (Option Int)) : TO := fun σ H Q => ∃ ρ S ι, Sim K Θ ι H S ∧ RelE K Θ ι H ρ σ ∧ Post K Θ rO W σ ι H Q (m ρ S)
end

section
variable {K : PySem.W.Frag} {Θ : Nm} {ι ι' : List Addr} {H H' : Hp} {S : Store} {σ : St} {ρ : Env} {W : WX}
theorem RelE.mono (x : RelE K Θ ι H ρ σ) (p : Pre ι ι') (k : Keep H H') : RelE K Θ ι' H' ρ σ :=
  ⟨x.1, fun i d e => let ⟨v, h, r⟩ := x.2 i d e; ⟨v, h, RelD.mono p k d v r⟩⟩
theorem RelE.set (x : RelE K Θ ι H ρ σ) {i : Nat} {d : D} {v : V} (r : RelD K Θ ι H d v) : RelE K Θ ι H (ρ.set i (some d)) (σ.set i (some v)) := by
  refine ⟨by rw [List.length_set, List.length_set, x.1], fun j e h => ?_⟩
  by_cases hj : i = j
  · subst hj
    have hl : i < ρ.length := by
      have := (List.getElem?_eq_some_iff.mp h).1
      rw [List.length_set] at this; exact this
    rw [List.getElem?_set_self hl] at h
    cases h
    exact ⟨v, List.getElem?_set_self (by rw [← x.1]; exact hl), r⟩
  · rw [List.getElem?_set_ne hj] at h
    obtain ⟨w, h1, h2⟩ := x.2 j e h
    exact ⟨w, by rw [List.getElem?_set_ne hj]; exact h1, h2⟩
theorem RelE.unset (x : RelE K Θ ι H ρ σ) {i : Nat} : RelE K Θ ι H (ρ.set i none) (σ.set i none) := by
  refine ⟨by rw [List.length_set, List.length_set, x.1], fun j e h => ?_⟩
  by_cases hj : i = j
  · subst hj
    have hl : i < ρ.length := by
      have := (List.getElem?_eq_some_iff.mp h).1
      rw [List.length_set] at this; exact this
    rw [List.getElem?_set_self hl] at h
    cases h
  · rw [List.getElem?_set_ne hj] at h
    obtain ⟨w, h1, h2⟩ := x.2 j e h
    exact ⟨w, by rw [List.getElem?_set_ne hj]; exact h1, h2⟩
theorem RelE.wipe (x : RelE K Θ ι H ρ σ) : ∀ vs : List Nat, RelE K Θ ι H (wipeE ρ vs) (wipe σ vs)
  | [] => x
  | v :: vs => by unfold wipeE; unfold L2.wipe; exact (RelE.wipe x vs).unset
section
variable {α β γ δ : Type} {rel : List Addr → Hp → α → β → Prop} {rel' : List Addr → Hp → γ → δ → Prop}
theorem Post.mono {Q : β → Hp → Prop} {r : R α} (x : Post K Θ rel W σ ι H Q r) (p : Pre ι ι') (k : Keep H H') : Post K Θ rel W σ ι' H' Q r := by
  cases r with
  | ok a S => exact fun ι2 H2 b p2 k2 => x ι2 H2 b (p.trans p2) (k.trans k2)
  | ex C fs S => exact fun ι2 H2 d p2 k2 => x ι2 H2 d (p.trans p2) (k.trans k2)
  | bad => exact x
theorem Post.imp {Q Q' : β → Hp → Prop} {r : R α} (x : Post K Θ rel W σ ι H Q r) (h : ∀ a S ι' H' b, r = .ok a S → Pre ι ι' → Keep H H' → Sim K Θ ι' H' S → rel ι' H' a b → Q b H' → Q' b H') : Post K Θ rel W σ ι H Q' r := by
  cases r with
  | ok a S => exact fun ι2 H2 b p2 k2 s r => h a S ι2 H2 b rfl p2 k2 s r (x ι2 H2 b p2 k2 s r)
  | ex C fs S => exact x
  | bad => exact x
/-- what a bind asks, from its first part -/
theorem Post.bind {Q : δ → Hp → Prop} {r : R α} {f : α → Store → R γ} (x : Post K Θ rel' W σ ι H Q (r.bind f)) :
    Post K Θ rel W σ ι H (fun b H1 => ∃ a S1 ι1, Pre ι ι1 ∧ Keep H H1 ∧ Sim K Θ ι1 H1 S1 ∧ rel ι1 H1 a b ∧ Post K Θ rel' W σ ι1 H1 Q (f a S1)) r := by
  cases r with
  | ok a S => exact fun ι2 H2 b p2 k2 s r => ⟨a, S, ι2, p2, k2, s, r, Post.mono x p2 k2⟩
  | ex C fs S => exact x
  | bad => exact x
theorem Post.ok {Q : β → Hp → Prop} {a : α} {b : β} (x : Post K Θ rel W σ ι H Q (.ok a S)) (s : Sim K Θ ι H S) (r : rel ι H a b) : Q b H := x ι H b (Pre.refl _) (Keep.refl _) s r
theorem Post.of {Q : β → Hp → Prop} {o : Option α} (x : Post K Θ rel W σ ι H Q (R.of S o)) : ∃ a, o = some a ∧ Post K Θ rel W σ ι H Q (.ok a S) := by
  cases o with
  | none => exact x.elim
  | some a => exact ⟨a, rfl, x⟩
end
end

section
variable {X : Cx} {K : PySem.W.Frag} {Θ : Nm} {W : WX}
theorem peImp {e : Expr} {t t' : TE} (h : PE X e t) (i : ∀ σ H Q, t' σ H Q → t σ H Q) : PE X e t' := ⟨fun pins s σ H Q I q => h.run pins s σ H Q I (i σ H Q q)⟩
theorem ptImp {e : Expr} {t t' : TT} (h : PT X e t) (i : ∀ σ H Q, t' σ H Q → t σ H Q) : PT X e t' := ⟨fun pins s σ H Q I q => h.run pins s σ H Q I (i σ H Q q)⟩
theorem pwImp {e : Expr} {t t' : TT} (h : PW X e t) (i : ∀ σ H Q, t' σ H Q → t σ H Q) : PW X e t' := ⟨fun wh pins s σ H Q I q => h.run wh pins s σ H Q I (i σ H Q q)⟩
theorem paImp {e : List Expr} {t t' : TA} (h : PA X e t) (i : ∀ σ H Q, t' σ H Q → t σ H Q) : PA X e t' := ⟨fun pos pins s σ H Q I q => h.run pos pins s σ H Q I (i σ H Q q)⟩
theorem peBad {e : Expr} : PE X e (tE K Θ W fun _ _ => .bad) := ⟨fun pins s σ H Q I q => let ⟨_, _, _, _, _, z⟩ := q; z.elim⟩

/-! ### names, constants -/
theorem peVar {i : Nat} {x : Str} {pos : Pos} (hN : X.N[i]? = some x) (hv : Vis X.env.scope x) (hd : (x == ("__debug__" : Str)) = false) (hcd : (x == ("__classdict__" : Str)) = false) (p : Prg) (c) :
    PE X (.Name x pos) (tE K Θ W (ev p c (.v i))) := peImp (pe_var hN hv hd hcd) fun σ H Q h => by
  obtain ⟨ρ, S, ι, s, r, q⟩ := h
  unfold ev at q
  cases e : ρ[i]? with
  | none => simp only [e] at q; exact q.elim
  | some o =>
    cases o with
    | none => simp only [e] at q; exact q.elim
    | some d =>
      simp only [e] at q
      obtain ⟨v, h1, h2⟩ := r.2 i d e
      exact ⟨v, h1, q.ok s h2⟩
theorem peConst {e : Expr} {v : V} {d : D} (h : PE X e (tC v)) (r : ∀ ι H, RelD K Θ ι H d v) (p : Prg) (c) : PE X e (tE K Θ W (ev p c (.k d))) := peImp h fun σ H Q h => by
  obtain ⟨ρ, S, ι, s, _, q⟩ := h
  unfold ev at q
  exact q.ok s (r ι H)
theorem peGlob {e : Expr} {v : V} {d : D} {i : Nat} (h : PE X e (tC v)) (r : ∀ ι H, RelD K Θ ι H d v) (p : Prg) (c) (hp : p.consts i = some d) : PE X e (tE K Θ W (ev p c (.g i))) := peImp h fun σ H Q h => by
  obtain ⟨ρ, S, ι, s, _, q⟩ := h
  unfold ev at q
  rw [hp] at q
  exact q.ok s (r ι H)

/-! ### arguments, displays -/
theorem paNil (p : Prg) (c) : PA X [] (tA K Θ W (evs p c .nil)) := paImp pa_nil fun σ H Q h => by
  obtain ⟨ρ, S, ι, s, _, q⟩ := h
  unfold evs at q
  exact q.ok s RelDs.nil
theorem paCons {e : Expr} {es : List Expr} {ir : E} {irs : Es} (p : Prg) (c) (h : PE X e (tE K Θ W (ev p c ir))) (hs : PA X es (tA K Θ W (evs p c irs))) (hst : starEach (e :: es) X.env = (false, eval e X.env) :: starEach es X.env) :
    PA X (e :: es) (tA K Θ W (evs p c (.cons ir irs))) := paImp (pa_cons h hs hst) fun σ H Q h => by
  obtain ⟨ρ, S, ι, s, r, q⟩ := h
  unfold evs at q
  refine ⟨ρ, S, ι, s, r, (q.bind (rel := rD K Θ)).imp ?_⟩
  rintro a S1 ι1 H1 v _ _ _ _ _ ⟨d, S2, ι2, p2, k2, s2, r2, q2⟩
  refine ⟨ρ, S2, ι2, s2, r.mono p2 k2, (q2.bind (rel := rDs K Θ)).imp ?_⟩
  rintro _ _ _ H3 vs _ _ _ _ _ ⟨ds, S3, ι3, p3, k3, s3, r3, q3⟩
  exact q3.ok s3 (RelDs.cons (RelD.mono p3 k3 d v r2) r3)
theorem line_eq : line = sizeLine := by rw [sizeLine_eq]; rfl
theorem peTup {es : List Expr} {irs : Es} {k : Nat} {pos : Pos} (p : Prg) (c) (hs : PA X es (tA X.K Θ W (evs p c irs))) : PE X (.Tuple es k pos) (tE X.K Θ W (ev p c (.tup irs))) := peImp (pe_tup hs) fun σ H Q h => by
  obtain ⟨ρ, S, ι, s, r, q⟩ := h
  unfold ev at q
  refine ⟨ρ, S, ι, s, r, (q.bind (rel := rDs X.K Θ)).imp ?_⟩
  rintro _ _ _ H1 vs _ _ _ _ _ ⟨ds, S2, ι2, p2, k2, s2, r2, q2⟩
  by_cases hl : ds.length ≤ line
  · rw [if_pos hl] at q2
    refine ⟨by rw [← r2.length, ← line_eq]; exact hl, fun a ha => ?_⟩
    refine q2 ι2 _ _ (Pre.refl _) (Keep.fresh ha) (s2.fresh ha) ?_
    show RelD X.K Θ ι2 _ (.tup ds) _
    unfold RelD
    exact ⟨a, vs, rfl, .inl (.inl upd_same), RelDs.mono (Pre.refl _) (Keep.fresh ha) ds vs r2⟩
  · rw [if_neg hl] at q2
    exact q2.elim
/-- a new thing of the store at a free place -/
theorem Post.new {Q : VK} {ι : List Addr} {H : Hp} {S : Store} {σ : St} {a : Addr} {o : HO} {m : M} (q : Post K Θ (rD K Θ) W σ ι H Q (.ok (.obj S.length) (S ++ [m]))) (s : Sim K Θ ι H S) (ha : H a = none)
    (mk : MOk K Θ (ι ++ [a]) (upd H a o) a m) : Q (.ref a) (upd H a o) := by
  refine q (ι ++ [a]) _ _ (Pre.snoc _ _) (Keep.fresh ha) (s.snoc ha mk) ?_
  show RelD K Θ _ _ (.obj S.length) _
  unfold RelD
  exact ⟨a, rfl, by rw [List.getElem?_append_right (by rw [s.len]; exact Nat.le_refl _), s.len]; simp⟩
theorem peLst {es : List Expr} {irs : Es} {pos : Pos} (p : Prg) (c) (hs : PA X es (tA X.K Θ W (evs p c irs))) : PE X (.List es pos) (tE X.K Θ W (ev p c (.lst irs))) := peImp (pe_lst hs) fun σ H Q h => by
  obtain ⟨ρ, S, ι, s, r, q⟩ := h
  unfold ev at q
  refine ⟨ρ, S, ι, s, r, (q.bind (rel := rDs X.K Θ)).imp ?_⟩
  rintro _ _ _ H1 vs _ _ _ _ _ ⟨ds, S2, ι2, p2, k2, s2, r2, q2⟩
  by_cases hl : ds.length ≤ line
  · rw [if_pos hl] at q2
    refine ⟨by rw [← r2.length, ← line_eq]; exact hl, fun a ha => q2.new s2 ha ?_⟩
    exact ⟨vs, upd_same, RelDs.mono (Pre.snoc _ _) (Keep.fresh ha) ds vs r2⟩
  · rw [if_neg hl] at q2
    exact q2.elim
theorem peDic {pos : Pos} (p : Prg) (c) : PE X (.Dict [] [] pos) (tE X.K Θ W (ev p c (.dic false))) := peImp pe_dnewK fun σ H Q h => by
  obtain ⟨ρ, S, ι, s, r, q⟩ := h
  unfold ev at q
  exact fun a ha => q.new s ha ⟨[], upd_same, rfl⟩

theorem peDicT {pos : Pos} (hw : X.w = Θ.w) (p : Prg) (c) : PE X (.Dict [] [] pos) (tE X.K Θ W (ev p c (.dic true))) := ⟨fun pins s σ H Q I h => by
  obtain ⟨ρ, S, ι, s', r, q⟩ := h
  unfold ev at q
  exact wpAny_Dict_empty ⟨.ref s.heap.objs.size, _, I.laid (a := s.heap.objs.size) (o := DTo Θ.w s.heap.objs.size []) (t' := s.toks) (fun _ _ q => Heap.get?_push_of_some _ q) (Nat.le_refl _) (dto_obj (dto_new s.heap I.big)), rfl,
    q.new s' (I.hok.fresh (Nat.le_refl _)) ⟨[], upd_same, rfl⟩⟩⟩
/-! ### two places -/
/-- an operation by values -/
def rZ2 (K : PySem.W.Frag) (Θ : Nm) (f : D → D → Store → R D) : R2 := fun x y H Q => ∃ d e S ι, Sim K Θ ι H S ∧ RelD K Θ ι H d x ∧ RelD K Θ ι H e y ∧ ∃ W σ, Post K Θ (rD K Θ) W σ ι H Q (f d e S)
theorem peOp {e : Expr} {ia ib : E} {f : D → D → Store → R D} (p : Prg) (c) (h : PE X e (tOp (rZ2 K Θ f) (tE K Θ W (ev p c ia)) (tE K Θ W (ev p c ib)))) :
    PE X e (tE K Θ W fun ρ S => (ev p c ia ρ S).bind fun x S1 => (ev p c ib ρ S1).bind fun y S2 => f x y S2) := peImp h fun σ H Q h => by
  obtain ⟨ρ, S, ι, s, r, q⟩ := h
  refine ⟨ρ, S, ι, s, r, (q.bind (rel := rD K Θ)).imp ?_⟩
  rintro a S1 ι1 H1 v _ _ _ _ _ ⟨d, S2, ι2, p2, k2, s2, r2, q2⟩
  refine ⟨ρ, S2, ι2, s2, r.mono p2 k2, (q2.bind (rel := rD K Θ)).imp ?_⟩
  rintro _ _ _ H3 u _ _ _ _ _ ⟨e, S3, ι3, p3, k3, s3, r3, q3⟩
  exact ⟨d, e, S3, ι3, s3, RelD.mono p3 k3 d v r2, r3, W, σ, q3⟩
end
end Z
end

section
set_option Elab.async false
set_option linter.all false
set_option maxRecDepth 100000
/-! ZD: the operations of ZA, by the rules of HandS. -/
namespace Z
open PySem L2

section
variable {K : PySem.W.Frag} {Θ : Nm} {ι : List Addr} {H : Hp} {S : Store} {d e : D} {x v : V}
/-! ### data as it stands -/
theorem snap_all {n : Nat} (ih : ∀ (d : D) (v : V) (p : PyData), RelD K Θ ι H d v → snap S n d = some p → Dp K H v p ∧ p.plain = true ∧ p.depth ≤ n) :
    ∀ (ds : List D) (vs : List V) (ps : List PyData), RelDs K Θ ι H ds vs → ds.mapM (snap S n) = some ps → DpAll K H vs ps ∧ PyData.plainAll ps = true ∧ PyData.depthAll ps ≤ n
  | [], vs, ps, r, e => by
    unfold RelDs at r
    subst r
    simp at e
    subst e
    exact ⟨.nil, rfl, Nat.zero_le _⟩
  | d :: ds, vs, ps, r, e => by
    unfold RelDs at r
    obtain ⟨v, t, rfl, a, b⟩ := r
    rw [List.mapM_cons] at e
    cases e1 : snap S n d with
    | none => rw [e1] at e; simp at e
    | some p =>
      rw [e1] at e
      cases e2 : ds.mapM (snap S n) with
      | none => rw [e2] at e; simp at e
      | some qs =>
        rw [e2] at e
        simp at e
        subst e
        obtain ⟨h1, h2, h3⟩ := ih d v p a e1
        obtain ⟨g1, g2, g3⟩ := snap_all ih ds t qs b e2
        refine ⟨.cons h1 g1, by simp [PyData.plainAll, h2, g2], ?_⟩
        simp only [PyData.depthAll]
        omega
theorem snap_dp (sim : Sim K Θ ι H S) : ∀ (n : Nat) (d : D) (v : V) (p : PyData), RelD K Θ ι H d v → snap S n d = some p → Dp K H v p ∧ p.plain = true ∧ p.depth ≤ n
  | 0, d, v, p, r, e => by unfold snap at e; cases e
  | n + 1, d, v, p, r, e => by
    unfold snap at e
    cases d with
    | non => cases e; unfold RelD at r; subst r; exact ⟨.non, rfl, Nat.zero_le _⟩
    | bl b => cases e; unfold RelD at r; subst r; exact ⟨.bl b, rfl, Nat.zero_le _⟩
    | int i => cases e; unfold RelD at r; subst r; exact ⟨.int i, rfl, Nat.zero_le _⟩
    | str y => cases e; unfold RelD at r; subst r; exact ⟨.str y, rfl, Nat.zero_le _⟩
    | tup ds =>
      unfold RelD at r
      obtain ⟨a, vs, rfl, h, q⟩ := r
      simp only [Option.map_eq_some_iff] at e
      obtain ⟨ps, e1, rfl⟩ := e
      obtain ⟨h1, h2, h3⟩ := snap_all (snap_dp sim n) ds vs ps q e1
      exact ⟨.tup h h1, h2, by simp only [PyData.depth]; omega⟩
    | rol ds =>
      unfold RelD at r
      obtain ⟨a, vs, rfl, h, q⟩ := r
      simp only [Option.map_eq_some_iff] at e
      obtain ⟨ps, e1, rfl⟩ := e
      obtain ⟨h1, h2, h3⟩ := snap_all (snap_dp sim n) ds vs ps q e1
      exact ⟨.lst h.l h1, h2, by simp only [PyData.depth]; omega⟩
    | obj m =>
      unfold RelD at r
      obtain ⟨a, rfl, ha⟩ := r
      dsimp only at e
      cases hm : S[m]? with
      | none => rw [hm] at e; cases e
      | some o =>
        rw [hm] at e
        cases o with
        | lst ds =>
          simp only [Option.map_eq_some_iff] at e
          obtain ⟨ps, e1, rfl⟩ := e
          obtain ⟨vs, h, q⟩ := sim.ok m _ a hm ha
          obtain ⟨h1, h2, h3⟩ := snap_all (snap_dp sim n) ds vs ps q e1
          exact ⟨.lst (.of h) h1, h2, by simp only [PyData.depth]; omega⟩
        | _ => cases e
    | fn f => cases e
theorem pd_one {n : Nat} (ih : ∀ d e : D, D.pd n d = true → D.pd n e = true → ∃ p q, snap S n d = some p ∧ snap S n e = some q ∧ PyData.eqv p q = decide (d = e)) :
    ∀ ds : List D, ds.all (D.pd n) = true → ∃ ps, ds.mapM (snap S n) = some ps ∧ ps.length = ds.length
  | [], _ => ⟨[], by simp, rfl⟩
  | e :: es, g => by
    simp only [List.all_cons, Bool.and_eq_true] at g
    obtain ⟨p, q, e1, e2, _⟩ := ih e e g.1 g.1
    obtain ⟨ps, f1, f2⟩ := pd_one ih es g.2
    exact ⟨p :: ps, by rw [List.mapM_cons, e1, f1]; rfl, by simp [f2]⟩
theorem pd_all {n : Nat} (ih : ∀ d e : D, D.pd n d = true → D.pd n e = true → ∃ p q, snap S n d = some p ∧ snap S n e = some q ∧ PyData.eqv p q = decide (d = e)) :
    ∀ ds es : List D, ds.all (D.pd n) = true → es.all (D.pd n) = true → ∃ ps qs, ds.mapM (snap S n) = some ps ∧ es.mapM (snap S n) = some qs ∧ PyData.eqvAll ps qs = decide (ds = es)
  | [], [], _, _ => ⟨[], [], by simp, by simp, by simp [PyData.eqvAll]⟩
  | [], e :: es, h, g => by
    obtain ⟨ps, f1, f2⟩ := pd_one ih (e :: es) g
    cases ps with
    | nil => simp at f2
    | cons p ps => exact ⟨[], p :: ps, by simp, f1, by simp [PyData.eqvAll]⟩
  | d :: ds, [], h, g => by
    obtain ⟨ps, f1, f2⟩ := pd_one ih (d :: ds) h
    cases ps with
    | nil => simp at f2
    | cons p ps => exact ⟨p :: ps, [], f1, by simp, by simp [PyData.eqvAll]⟩
  | d :: ds, e :: es, h, g => by
    simp only [List.all_cons, Bool.and_eq_true] at h g
    obtain ⟨p, q, e1, e2, e3⟩ := ih d e h.1 g.1
    obtain ⟨ps, qs, f1, f2, f3⟩ := pd_all ih ds es h.2 g.2
    refine ⟨p :: ps, q :: qs, by rw [List.mapM_cons, e1, f1]; rfl, by rw [List.mapM_cons, e2, f2]; rfl, ?_⟩
    simp only [PyData.eqvAll, e3, f3]
    by_cases h1 : d = e
    · by_cases h2 : ds = es
      · simp [h1, h2]
      · simp [h1, h2]
    · simp [h1]
theorem pd_eq : ∀ (n : Nat) (d e : D), D.pd n d = true → D.pd n e = true → ∃ p q, snap S n d = some p ∧ snap S n e = some q ∧ PyData.eqv p q = decide (d = e)
  | 0, d, e, h, g => by unfold D.pd at h; cases h
  | n + 1, d, e, h, g => by
    unfold D.pd at h g
    cases d with
    | bl b => exact absurd h Bool.false_ne_true
    | rol ds => exact absurd h Bool.false_ne_true
    | obj m => exact absurd h Bool.false_ne_true
    | fn f => exact absurd h Bool.false_ne_true
    | non =>
      cases e with
      | bl b => exact absurd g Bool.false_ne_true
      | rol ds => exact absurd g Bool.false_ne_true
      | obj m => exact absurd g Bool.false_ne_true
      | fn f => exact absurd g Bool.false_ne_true
      | non => exact ⟨_, _, rfl, rfl, by simp [PyData.eqv]⟩
      | int i => exact ⟨_, _, rfl, rfl, by simp [PyData.eqv]⟩
      | str y => exact ⟨_, _, rfl, rfl, by simp [PyData.eqv]⟩
      | tup es =>
        obtain ⟨ps, qs, f1, f2, f3⟩ := pd_all (pd_eq n) es es g g
        exact ⟨.none, .tuple ps, rfl, by unfold snap; dsimp only; rw [f1]; rfl, by simp [PyData.eqv]⟩
    | int j =>
      cases e with
      | bl b => exact absurd g Bool.false_ne_true
      | rol ds => exact absurd g Bool.false_ne_true
      | obj m => exact absurd g Bool.false_ne_true
      | fn f => exact absurd g Bool.false_ne_true
      | non => exact ⟨_, _, rfl, rfl, by simp [PyData.eqv]⟩
      | int i => exact ⟨_, _, rfl, rfl, by simp [PyData.eqv, Bool.beq_eq_decide_eq]⟩
      | str y => exact ⟨_, _, rfl, rfl, by simp [PyData.eqv]⟩
      | tup es =>
        obtain ⟨ps, qs, f1, f2, f3⟩ := pd_all (pd_eq n) es es g g
        exact ⟨.int j, .tuple ps, rfl, by unfold snap; dsimp only; rw [f1]; rfl, by simp [PyData.eqv]⟩
    | str z =>
      cases e with
      | bl b => exact absurd g Bool.false_ne_true
      | rol ds => exact absurd g Bool.false_ne_true
      | obj m => exact absurd g Bool.false_ne_true
      | fn f => exact absurd g Bool.false_ne_true
      | non => exact ⟨_, _, rfl, rfl, by simp [PyData.eqv]⟩
      | int i => exact ⟨_, _, rfl, rfl, by simp [PyData.eqv]⟩
      | str y => exact ⟨_, _, rfl, rfl, by simp [PyData.eqv, Bool.beq_eq_decide_eq]⟩
      | tup es =>
        obtain ⟨ps, qs, f1, f2, f3⟩ := pd_all (pd_eq n) es es g g
        exact ⟨.str z, .tuple ps, rfl, by unfold snap; dsimp only; rw [f1]; rfl, by simp [PyData.eqv]⟩
    | tup ds =>
      cases e with
      | bl b => exact absurd g Bool.false_ne_true
      | rol ds => exact absurd g Bool.false_ne_true
      | obj m => exact absurd g Bool.false_ne_true
      | fn f => exact absurd g Bool.false_ne_true
      | non =>
        obtain ⟨ps, qs, f1, f2, f3⟩ := pd_all (pd_eq n) ds ds h h
        exact ⟨.tuple ps, .none, by unfold snap; dsimp only; rw [f1]; rfl, rfl, by simp [PyData.eqv]⟩
      | int i =>
        obtain ⟨ps, qs, f1, f2, f3⟩ := pd_all (pd_eq n) ds ds h h
        exact ⟨.tuple ps, .int i, by unfold snap; dsimp only; rw [f1]; rfl, rfl, by simp [PyData.eqv]⟩
      | str y =>
        obtain ⟨ps, qs, f1, f2, f3⟩ := pd_all (pd_eq n) ds ds h h
        exact ⟨.tuple ps, .str y, by unfold snap; dsimp only; rw [f1]; rfl, rfl, by simp [PyData.eqv]⟩
      | tup es =>
        obtain ⟨ps, qs, f1, f2, f3⟩ := pd_all (pd_eq n) ds es h g
        refine ⟨.tuple ps, .tuple qs, by unfold snap; dsimp only; rw [f1]; rfl, by unfold snap; dsimp only; rw [f2]; rfl, ?_⟩
        simp only [PyData.eqv, f3, D.tup.injEq]
/-- == of two values, as data -/
theorem eqD_dp (sim : Sim K Θ ι H S) (rd : RelD K Θ ι H d x) (re : RelD K Θ ι H e v) {b : Bool} (h : eqD S d e = some b) :
    ∃ p q, Dp K H x p ∧ Dp K H v q ∧ p.plain = true ∧ q.plain = true ∧ p.depth ≤ 20 ∧ q.depth ≤ 20 ∧ PyData.eqv p q = b := by
  unfold eqD at h
  split at h
  · rename_i hp
    obtain ⟨p, q, e1, e2, e3⟩ := pd_eq (S := S) 20 d e hp.1 hp.2
    obtain ⟨h1, h2, h3⟩ := snap_dp sim 20 d x p rd e1
    obtain ⟨g1, g2, g3⟩ := snap_dp sim 20 e v q re e2
    exact ⟨p, q, h1, g1, h2, g2, h3, g3, by rw [e3]; exact Option.some.inj h⟩
  · split at h
    · rename_i p q e1 e2
      obtain ⟨h1, h2, h3⟩ := snap_dp sim 20 d x p rd e1
      obtain ⟨g1, g2, g3⟩ := snap_dp sim 20 e v q re e2
      exact ⟨p, q, h1, g1, h2, g2, h3, g3, Option.some.inj h⟩
    · cases h
/-- an item among plain ones -/
theorem anyD_dp (sim : Sim K Θ ι H S) {ds : List D} {vs : List V} (rd : RelD K Θ ι H d x) (re : RelDs K Θ ι H ds vs) (h1 : d.pl = true) (h2 : ds.all (D.pd 19) = true) :
    ∃ p qs, Dp K H x p ∧ DpAll K H vs qs ∧ p.plain = true ∧ PyData.plainAll qs = true ∧ p.depth ≤ 20 ∧ PyData.depthAll qs ≤ 20 ∧ (qs.any fun q => PyData.eqv q p) = ds.any fun y => decide (y = d) := by
  obtain ⟨p, _, e1, _, _⟩ := pd_eq (S := S) 20 d d h1 h1
  obtain ⟨a1, a2, a3⟩ := snap_dp sim 20 d x p rd e1
  have mono : ∀ (n : Nat) (y : D), D.pd n y = true → D.pd (n + 1) y = true := by
    intro n
    induction n with
    | zero => intro y h; unfold D.pd at h; cases h
    | succ n ih =>
      intro y h
      unfold D.pd at h ⊢
      cases y with
      | tup ys =>
        simp only [List.all_eq_true] at h ⊢
        exact fun z hz => ih z (h z hz)
      | _ => exact h
  have go : ∀ (ds : List D) (vs : List V), RelDs K Θ ι H ds vs → ds.all (D.pd 19) = true →
      ∃ qs, DpAll K H vs qs ∧ PyData.plainAll qs = true ∧ PyData.depthAll qs ≤ 20 ∧ (qs.any fun q => PyData.eqv q p) = ds.any fun y => decide (y = d) := by
    intro ds
    induction ds with
    | nil =>
      intro vs r _
      unfold RelDs at r; subst r
      exact ⟨[], .nil, rfl, Nat.zero_le _, rfl⟩
    | cons y ys ih =>
      intro vs r h
      unfold RelDs at r
      obtain ⟨w, t, rfl, ra, rb⟩ := r
      simp only [List.all_cons, Bool.and_eq_true] at h
      obtain ⟨q, p', f1, f2, f3⟩ := pd_eq (S := S) 20 y d (mono 19 y h.1) h1
      rw [e1] at f2; cases f2
      obtain ⟨b1, b2, b3⟩ := snap_dp sim 20 y w q ra f1
      obtain ⟨qs, c1, c2, c3, c4⟩ := ih t rb h.2
      refine ⟨q :: qs, .cons b1 c1, by simp [PyData.plainAll, b2, c2], by simp only [PyData.depthAll]; omega, ?_⟩
      rw [List.any_cons, List.any_cons, f3, c4]
  obtain ⟨qs, c1, c2, c3, c4⟩ := go ds vs re h2
  exact ⟨p, qs, a1, c1, a2, c2, a3, c3, c4⟩
end

section
variable {X : Cx} {Θ : Nm}
theorem relInt {K : PySem.W.Frag} {ι : List Addr} {H : Hp} {i : Int} {v : V} (r : RelD K Θ ι H (.int i) v) : v = .int i := r
theorem relStr {K : PySem.W.Frag} {ι : List Addr} {H : Hp} {i : Str} {v : V} (r : RelD K Θ ι H (.str i) v) : v = .str i := r
theorem relBl {K : PySem.W.Frag} {ι : List Addr} {H : Hp} {i : Bool} {v : V} (r : RelD K Θ ι H (.bl i) v) : v = .bl i := r
theorem relNon {K : PySem.W.Frag} {ι : List Addr} {H : Hp} {v : V} (r : RelD K Θ ι H .non v) : v = .non := r
theorem relTup {K : PySem.W.Frag} {ι : List Addr} {H : Hp} {ds : List D} {v : V} (r : RelD K Θ ι H (.tup ds) v) : ∃ a vs, v = .ref a ∧ SqT K H a vs ∧ RelDs K Θ ι H ds vs := by unfold RelD at r; exact r
theorem relRol {K : PySem.W.Frag} {ι : List Addr} {H : Hp} {ds : List D} {v : V} (r : RelD K Θ ι H (.rol ds) v) : ∃ a vs, v = .ref a ∧ SqF K H a vs ∧ RelDs K Θ ι H ds vs := by unfold RelD at r; exact r
theorem relObj {K : PySem.W.Frag} {ι : List Addr} {H : Hp} {n : Nat} {v : V} (r : RelD K Θ ι H (.obj n) v) : ∃ a, v = .ref a ∧ ι[n]? = some a := by unfold RelD at r; exact r
theorem relTupMk {K : PySem.W.Frag} {ι : List Addr} {H : Hp} {ds : List D} {a : Addr} {vs : List V} (h : SqT K H a vs) (r : RelDs K Θ ι H ds vs) : RelD K Θ ι H (.tup ds) (.ref a) := by unfold RelD; exact ⟨a, vs, rfl, h, r⟩
theorem relObjMk {K : PySem.W.Frag} {ι : List Addr} {H : Hp} {n : Nat} {a : Addr} (h : ι[n]? = some a) : RelD K Θ ι H (.obj n) (.ref a) := by unfold RelD; exact ⟨a, rfl, h⟩

/-! ### binary operators -/
theorem opMulW : OpR X (binaryOp .Mult) (fun x y H Q => ∃ i j, x = .int i ∧ y = .int j ∧ mulOk i j = true ∧ Q (.int (i * j)) H) := by
  intro pins s σ H x y v u Q I rx ry h
  obtain ⟨i, j, e1, e2, hm, q⟩ := h
  exact op_mulW pins s σ H x y v u Q I rx ry ⟨i, j, e1, e2, by unfold mulOk at hm; have h2 := of_decide_eq_true hm; exact h2, q⟩
theorem opFdivW : OpR X (binaryOp .FloorDiv) (fun x y H Q => ∃ i j, x = .int i ∧ y = .int j ∧ divOk j = true ∧ Q (.int (i.fdiv j)) H) := by
  intro pins s σ H x y v u Q I rx ry h
  obtain ⟨i, j, rfl, rfl, hm, q⟩ := h
  obtain ⟨t, rfl⟩ := rx
  obtain ⟨t', rfl⟩ := ry
  unfold divOk at hm
  simp only [Bool.and_eq_true, decide_eq_true_eq] at hm
  exact PyProof.Rows.floordiv_int hm.1 ⟨.int _, H, I.tok _, ⟨_, rfl⟩, q⟩ (.inl (PyProof.noPylong_of_log2 hm.2))
theorem opBin {op : Operator} : OpR X (binaryOp op) (rZ2 X.K Θ (binD op)) := by
  intro pins s σ H x y v u Q I rx ry ⟨d, e, S, ι, sim, rd, re, W, σ', q⟩
  unfold binD at q
  cases op with
  | Add =>
    dsimp only at q
    split at q
    · rename_i i j
      exact op_add pins s σ H x y v u Q I rx ry ⟨i, j, relInt rd, relInt re, q.ok sim rfl⟩
    · rename_i i j
      split at q
      · rename_i hl
        exact op_add_str pins s σ H x y v u Q I rx ry ⟨i, j, relStr rd, relStr re, by rw [← line_eq]; exact hl, q.ok sim rfl⟩
      · exact q.elim
    · rename_i xs ys
      split at q
      · rename_i hl
        obtain ⟨a, vs, rfl, h1, r1⟩ := relTup rd
        obtain ⟨b, ws, rfl, h2, r2⟩ := relTup re
        refine op_catA pins s σ H _ _ v u Q I rx ry ⟨a, b, vs, ws, rfl, rfl, h1, h2, by rw [← r1.length, ← r2.length, ← line_eq]; exact hl, fun z => ?_, fun _ z => ?_, fun _ _ p hp => ?_⟩
        · subst z
          refine q.ok sim (relTupMk h2 ?_)
          have := RelDs.app r1 r2
          exact this
        · subst z
          refine q.ok sim (relTupMk h1 ?_)
          have := RelDs.app r1 r2
          rw [List.append_nil] at this
          exact this
        · exact q ι _ _ (Pre.refl _) (Keep.fresh hp) (sim.fresh hp) (relTupMk (.inl (.inl upd_same)) (RelDs.mono (Pre.refl _) (Keep.fresh hp) _ _ (RelDs.app r1 r2)))
      · exact q.elim
    · rename_i a b
      split at q
      · rename_i xs ys e1 e2
        split at q
        · rename_i hl
          obtain ⟨pa, rfl, ha⟩ := relObj rd
          obtain ⟨pb, rfl, hb⟩ := relObj re
          obtain ⟨vs, h1, r1⟩ := sim.ok _ _ _ e1 ha
          obtain ⟨ws, h2, r2⟩ := sim.ok _ _ _ e2 hb
          refine op_cat pins s σ H _ _ v u Q I rx ry ⟨pa, pb, vs, ws, rfl, rfl, h1, h2, by rw [← r1.length, ← r2.length, ← line_eq]; exact hl, fun p hp => ?_⟩
          exact q.new sim hp ⟨_, upd_same, RelDs.mono (Pre.snoc _ _) (Keep.fresh hp) _ _ (RelDs.app r1 r2)⟩
        · exact q.elim
      · exact q.elim
    · exact q.elim
  | Sub =>
    dsimp only at q
    split at q
    · rename_i i j
      exact op_sub pins s σ H x y v u Q I rx ry ⟨i, j, relInt rd, relInt re, q.ok sim rfl⟩
    · exact q.elim
  | Mult =>
    dsimp only at q
    split at q
    · rename_i i j
      split at q
      · rename_i hm
        exact opMulW pins s σ H x y v u Q I rx ry ⟨i, j, relInt rd, relInt re, hm, q.ok sim rfl⟩
      · exact q.elim
    · exact q.elim
  | FloorDiv =>
    dsimp only at q
    split at q
    · rename_i i j
      split at q
      · rename_i hm
        exact opFdivW pins s σ H x y v u Q I rx ry ⟨i, j, relInt rd, relInt re, hm, q.ok sim rfl⟩
      · exact q.elim
    · exact q.elim
  | Mod =>
    dsimp only at q
    split at q
    · rename_i i j
      split at q
      · exact q.elim
      · rename_i hm
        exact op_modN pins s σ H x y v u Q I rx ry ⟨i, j, relInt rd, relInt re, hm, q.ok sim rfl⟩
    · exact q.elim
  | Pow =>
    dsimp only at q
    split at q
    · rename_i i j
      split at q
      · rename_i hm
        unfold powOk at hm
        simp only [Bool.and_eq_true, decide_eq_true_eq] at hm
        exact op_pow pins s σ H x y v u Q I rx ry ⟨i, j, relInt rd, relInt re, ⟨hm.1.1, hm.1.2, hm.2⟩, q.ok sim rfl⟩
      · exact q.elim
    · exact q.elim
  | _ => exact q.elim

/-! ### comparisons -/
theorem findK_rel {K : PySem.W.Frag} {ι : List Addr} {H : Hp} {κ : Type} [DecidableEq κ] (k : κ) : ∀ (l : List (κ × D)) (r : List (κ × V)), RelK K Θ ι H l r →
    (∀ d, findK l k = some d → ∃ v, valV r k = some v ∧ RelD K Θ ι H d v) ∧ (findK l k = none → valV r k = none)
  | [], r, h => by
    have h : r = [] := h
    subst h
    exact ⟨fun d e => by simp [findK] at e, fun _ => rfl⟩
  | (j, d) :: l, r, h => by
    obtain ⟨v, t, rfl, a, b⟩ := h
    obtain ⟨h1, h2⟩ := findK_rel k l t b
    by_cases hj : j = k
    · refine ⟨fun d' e => ?_, fun e => ?_⟩
      · have : d' = d := by simp [findK, List.find?_cons, hj] at e; exact e.symm
        subst this
        exact ⟨v, valV_pos hj, a⟩
      · simp [findK, List.find?_cons, hj] at e
    · have e1 : findK ((j, d) :: l) k = findK l k := by simp [findK, List.find?_cons, hj]
      rw [e1, valV_neg (p := (j, v)) hj]
      exact ⟨h1, h2⟩
theorem keyOf_rel {K : PySem.W.Frag} {ι : List Addr} {H : Hp} {d : D} {v : V} {k : Key} (r : RelD K Θ ι H d v) (h : keyOf d = some k) : v = kV k := by
  cases d with
  | int i => cases h; exact relInt r
  | str i => cases h; exact relStr r
  | _ => cases h

/-! ### dicts by tuples -/
theorem tk_tup {d : D} (h : d.tk = true) : ∃ ds, d = .tup ds ∧ D.hk 4 d = true := by
  unfold D.tk at h
  cases d with
  | tup ds => exact ⟨ds, rfl, h⟩
  | _ => cases h
mutual
theorem relInH {pins : List (Addr × Obj)} {σ : St} {H : Hp} {s : Shared} {ι : List Addr} (I : L2.Inv X pins σ H s) : ∀ (n : Nat) (d : D) (v : V) (u : Value), D.hk n d = true → RelD X.K Θ ι H d v → RelV v u → InH s.heap d u
  | 0, d, v, u, h, _, _ => by unfold D.hk at h; cases h
  | n + 1, .int i, v, u, h, r, q => by cases relInt r; exact q
  | n + 1, .str i, v, u, h, r, q => by cases relStr r; exact q
  | n + 1, .tup ds, v, u, h, r, q => by
    obtain ⟨a, vs, rfl, h1, h2⟩ := relTup r
    obtain rfl : u = Value.ref a := q
    obtain ⟨its, rv, ⟨o, e1, e2, m, e3⟩, _⟩ := I.tuple h1
    unfold InH
    exact ⟨a, o, its.toArray, m, rfl, e1, e2, e3, relInHs I n ds vs its (hk_all h) h2 rv⟩
  | n + 1, .non, v, u, h, r, q => by cases h
  | n + 1, .bl _, v, u, h, r, q => by cases h
  | n + 1, .rol _, v, u, h, r, q => by cases h
  | n + 1, .obj _, v, u, h, r, q => by cases h
  | n + 1, .fn _, v, u, h, r, q => by cases h
theorem relInHs {pins : List (Addr × Obj)} {σ : St} {H : Hp} {s : Shared} {ι : List Addr} (I : L2.Inv X pins σ H s) : ∀ (n : Nat) (ds : List D) (vs : List V) (us : List Value), (∀ d ∈ ds, D.hk n d = true) → RelDs X.K Θ ι H ds vs → Vals vs us → InHs s.heap ds us
  | n, [], vs, us, h, r, q => by
    unfold RelDs at r; subst r
    cases q
    unfold InHs; rfl
  | n, d :: ds, vs, us, h, r, q => by
    unfold RelDs at r
    obtain ⟨v, t, rfl, r1, r2⟩ := r
    cases q with
    | cons q1 q2 =>
      unfold InHs
      exact ⟨_, _, rfl, relInH I n d v _ (h d List.mem_cons_self) r1 q1, relInHs I n ds t _ (fun x hx => h x (List.mem_cons_of_mem _ hx)) r2 q2⟩
end
theorem relT_len {K : PySem.W.Frag} {ι : List Addr} {H : Hp} : ∀ (l : List (D × D)) (r : TX), RelT K Θ ι H l r → l.length = r.length
  | [], r, h => by rw [show r = [] from h]; rfl
  | (k, d) :: l, r, h => by
    obtain ⟨a, v, t, rfl, _, _, _, h4⟩ := h
    simp [relT_len l t h4]
theorem relT_keys {K : PySem.W.Frag} {ι : List Addr} {H : Hp} : ∀ (l : List (D × D)) (r : TX), RelT K Θ ι H l r → ∀ x ∈ r, D.hk 4 x.1 = true ∧ RelD K Θ ι H x.1 (.ref x.2.1)
  | [], r, h, x, hx => by rw [show r = [] from h] at hx; cases hx
  | (k, d) :: l, r, h, x, hx => by
    obtain ⟨a, v, t, rfl, h1, h2, _, h4⟩ := h
    rcases List.mem_cons.mp hx with rfl | hx
    · exact ⟨h1, h2⟩
    · exact relT_keys l t h4 x hx
theorem findT {K : PySem.W.Frag} {ι : List Addr} {H : Hp} {k : D} : ∀ (l : List (D × D)) (r : TX), RelT K Θ ι H l r → (∀ d, findK l k = some d → ∃ a v, findX r k = some (a, v) ∧ RelD K Θ ι H d v) ∧ (findK l k = none → findX r k = none)
  | [], r, h => by
    rw [show r = [] from h]
    exact ⟨fun d e => (by cases e), fun _ => rfl⟩
  | (j, d) :: l, r, h => by
    obtain ⟨a, v, t, rfl, h1, h2, h3, h4⟩ := h
    obtain ⟨i1, i2⟩ := findT l t h4
    by_cases hj : j = k
    · have e1 : findK ((j, d) :: l) k = some d := by unfold findK; rw [List.find?_cons]; simp only [hj, decide_true]; rfl
      have e2 : findX ((j, a, v) :: t) k = some (a, v) := by unfold findX; rw [List.find?_cons]; simp only [hj, decide_true]; rfl
      rw [e1, e2]
      exact ⟨fun d' e => by cases e; exact ⟨a, v, rfl, h3⟩, fun e => by cases e⟩
    · have e1 : findK ((j, d) :: l) k = findK l k := by unfold findK; rw [List.find?_cons]; simp only [hj, decide_false]
      have e2 : findX ((j, a, v) :: t) k = findX t k := by unfold findX; rw [List.find?_cons]; simp only [hj, decide_false]
      rw [e1, e2]
      exact ⟨i1, i2⟩
theorem putT {K : PySem.W.Frag} {ι : List Addr} {H : Hp} {k d : D} {b : Addr} {v : V} {l : List (D × D)} {r : TX} (h : RelT K Θ ι H l r) (hk : D.hk 4 k = true) (rk : RelD K Θ ι H k (.ref b)) (rd : RelD K Θ ι H d v) : RelT K Θ ι H (putK l k d) (putX r k b v) := by
  have key : ∀ (l : List (D × D)) (r : TX), RelT K Θ ι H l r → (l.any fun kv => decide (kv.1 = k)) = (findX r k).isSome ∧
      RelT K Θ ι H (l.map (fun kv => if kv.1 = k then (kv.1, d) else kv)) (r.map (fun x => if x.1 = k then (x.1, x.2.1, v) else x)) ∧ RelT K Θ ι H (l ++ [(k, d)]) (r ++ [(k, b, v)]) := by
    intro l
    induction l with
    | nil =>
      intro r h
      have h : r = [] := h
      subst h
      exact ⟨rfl, rfl, ⟨b, v, [], rfl, hk, rk, rd, rfl⟩⟩
    | cons x l ih =>
      intro r h
      obtain ⟨j, e⟩ := x
      obtain ⟨a, w, t, rfl, h1, h2, h3, h4⟩ := h
      obtain ⟨i1, i2, i3⟩ := ih t h4
      by_cases hj : j = k
      · have e2 : findX ((j, a, w) :: t) k = some (a, w) := by unfold findX; rw [List.find?_cons]; simp only [hj, decide_true]; rfl
        refine ⟨by rw [e2, List.any_cons]; simp [hj], ?_, ⟨a, w, _, rfl, h1, h2, h3, i3⟩⟩
        rw [List.map_cons, List.map_cons]
        simp only [hj, if_true]
        rw [hj] at h1 h2
        exact ⟨a, v, _, rfl, h1, h2, rd, i2⟩
      · have e2 : findX ((j, a, w) :: t) k = findX t k := by unfold findX; rw [List.find?_cons]; simp only [hj, decide_false]
        refine ⟨by rw [e2, List.any_cons, ← i1]; simp [hj], ?_, ⟨a, w, _, rfl, h1, h2, h3, i3⟩⟩
        rw [List.map_cons, List.map_cons]
        simp only [hj, if_false]
        exact ⟨a, w, _, rfl, h1, h2, h3, i2⟩
  obtain ⟨a, b', e⟩ := key l r h
  unfold putK putX
  rw [a]
  split
  · exact b'
  · exact e
theorem dit_at {pins : List (Addr × Obj)} {σ : St} {H : Hp} {s : Shared} {ι : List Addr} {a : Addr} {kvs : List (D × D)} {xs : TX} (I : L2.Inv X pins σ H s) (hw : X.w = Θ.w) (h : H a = some (DTo Θ.w a xs)) (r : RelT X.K Θ ι H kvs xs) :
    xs.length ≤ sizeLine ∧ (a == sysModules) = false ∧ ∃ ys, Paired relX xs ys ∧ s.heap.DictOfH (deepKind X.prog X.w) a ys := by
  have hφ : DTφ Θ.w a xs s.heap := (I.hok a _ h).1
  obtain ⟨z, n, ys, pr, o, es, ep, e1, e2, e3, e4, e5⟩ := hφ
  refine ⟨z, n, ys, pr, o, es, ep, e1, e2, e3, by rw [e4, hw]; rfl, fun y hy => ?_, e5⟩
  have : ∃ x ∈ xs, x.1 = y.1 ∧ x.2.1 = y.2.1 := by
    have key : ∀ {l : TX} {m : List (D × Addr × Value)}, Paired relX l m → y ∈ m → ∃ x ∈ l, x.1 = y.1 ∧ x.2.1 = y.2.1 := by
      intro l m pr
      induction pr with
      | nil => intro hy; cases hy
      | @cons x y' xs ys hr t ih =>
        intro hy
        rcases List.mem_cons.mp hy with rfl | hy
        · exact ⟨x, List.mem_cons_self, hr.1, hr.2.1⟩
        · obtain ⟨x', h1, h2⟩ := ih hy
          exact ⟨x', List.mem_cons_of_mem _ h1, h2⟩
    exact key pr hy
  obtain ⟨x, hx, q1, q2⟩ := this
  obtain ⟨k1, k2⟩ := relT_keys kvs xs r x hx
  rw [q1] at k1 k2
  rw [q2] at k2
  exact ⟨k1, relInH I 4 _ _ _ k1 k2 rfl⟩
theorem opIn {neg : Bool} (hu : X.A.units + 65 < cLine) (hw : X.w = Θ.w) : OpR X (compareOp (if neg then .NotIn else .In)) (rZ2 X.K Θ fun x y S => R.of S ((inD S x y).map fun b => .bl (if neg then !b else b))) := by
  intro pins s σ H x y v u Q I rx ry ⟨d, e, S, ι, sim, rd, re, W, σ', q⟩
  obtain ⟨b0, h0, q⟩ := q.of
  obtain ⟨b, h, rfl⟩ := Option.map_eq_some_iff.mp h0
  have fin : Q (.bl (if neg then !b else b)) H := q.ok sim rfl
  unfold inD at h
  split at h
  · rename_i yy
    split at h
    · rename_i xx
      cases h
      cases neg with
      | false => exact op_in_str pins s σ H x y v u Q I rx ry ⟨xx, yy, relStr rd, relStr re, fin⟩
      | true => exact L2.op_notIn_str pins s σ H x y v u Q I rx ry ⟨xx, yy, relStr rd, relStr re, fin⟩
    · cases h
  · rename_i n
    obtain ⟨a, rfl, ha⟩ := relObj re
    cases (show u = Value.ref a from ry)
    split at h
    · rename_i kvs e1
      obtain ⟨k, hk, rfl⟩ := Option.map_eq_some_iff.mp h
      obtain ⟨r, h1, r1⟩ := sim.ok _ _ _ e1 ha
      have hx := keyOf_rel rd hk
      subst hx
      have g : DGet H a (kV k) (valV r k) := DGet.k h1
      obtain ⟨f1, f2⟩ := findK_rel k kvs r r1
      have hs : (valV r k).isSome = (findK kvs k).isSome := by
        cases hf : findK kvs k with
        | none => rw [f2 hf]; rfl
        | some z => obtain ⟨z', hz, _⟩ := f1 z hf; rw [hz]; rfl
      cases neg with
      | false => exact d_in (by omega) I g rx fun s' I' => ⟨.bl _, H, I', rfl, by rw [hs]; exact fin⟩
      | true => exact d_notIn (by omega) I g rx fun s' I' => ⟨.bl _, H, I', rfl, by rw [hs]; exact fin⟩
    · rename_i kvs e1
      split at h
      · rename_i htk
        cases h
        obtain ⟨ks, rfl, hk4⟩ := tk_tup htk
        obtain ⟨xs, h1, r1⟩ := sim.ok _ _ _ e1 ha
        obtain ⟨z1, z2, ys, pr, dd⟩ := dit_at I hw h1 r1
        obtain ⟨b, vs, rfl, _, _⟩ := relTup rd
        obtain rfl : v = Value.ref b := rx
        have hkey : (deepKind X.prog X.w).is s.heap (.tup ks) b := ⟨hk4, relInH I 4 _ _ _ hk4 rd rfl⟩
        have hroom : (deepKind X.prog X.w).room X.A.in1 := by
          have e5 : X.A.in1.units = X.A.units + 1 := rfl
          show X.A.in1.units + 20 < cLine
          omega
        obtain ⟨f1, f2⟩ := findT (k := .tup ks) kvs xs r1
        obtain ⟨g1, g2⟩ := findX_rel (k := .tup ks) pr
        have hs : (atKey ys (.tup ks)).isSome = (findK kvs (.tup ks)).isSome := by
          cases hf : findK kvs (.tup ks) with
          | none => rw [g2 (f2 hf)]; rfl
          | some z => obtain ⟨a', v', e3, _⟩ := f1 z hf; obtain ⟨u', e4, _⟩ := g1 a' v' e3; rw [e4]; rfl
        cases neg with
        | false => exact wpAny_in_heap hroom hkey z2 dd ⟨.bl _, H, I.tok _, rfl, by rw [hs]; exact fin⟩
        | true => exact PyProof.Rows.wpAny_notIn_heap hroom hkey z2 dd ⟨.bl _, H, I.tok _, rfl, by rw [hs]; exact fin⟩
      · cases h
    · rename_i ds e1
      split at h
      · rename_i hp
        cases h
        obtain ⟨vs, h1, r1⟩ := sim.ok _ _ _ e1 ha
        obtain ⟨p, qs, a1, a2, a3, a4, a5, a6, a7⟩ := anyD_dp sim rd r1 hp.1 hp.2
        obtain ⟨as, q1⟩ := Dp.reads I p x v a1 rx
        obtain ⟨bs, q2⟩ := Dp.reads I (.list qs) (.ref a) (.ref a) (.lst (.of h1) a2) rfl
        have hroom : X.A.units + 1 + min (PyData.depthAll qs) p.depth < cLine := by omega
        cases neg with
        | false => exact SeqAt.in_list_data q2 q1 a4 a3 hroom ⟨.bl _, H, I, rfl, by rw [a7]; exact fin⟩
        | true => exact SeqAt.notIn_list_data q2 q1 a4 a3 hroom ⟨.bl _, H, I, rfl, by rw [a7]; exact fin⟩
      · cases h
    · cases h
  · rename_i ds
    obtain ⟨a, vs, rfl, h1, r1⟩ := relTup re
    split at h
    · rename_i hp
      cases h
      obtain ⟨p, qs, a1, a2, a3, a4, a5, a6, a7⟩ := anyD_dp sim rd r1 hp.1 hp.2
      obtain ⟨as, q1⟩ := Dp.reads I p x v a1 rx
      obtain ⟨bs, q2⟩ := Dp.reads I (.tuple qs) (.ref a) u (.tup h1 a2) ry
      have hroom : X.A.units + 1 + min (PyData.depthAll qs) p.depth < cLine := by omega
      cases neg with
      | false => exact SeqAt.in_tuple_data q2 q1 a4 a3 hroom ⟨.bl _, H, I, rfl, by rw [a7]; exact fin⟩
      | true => exact SeqAt.notIn_tuple_data q2 q1 a4 a3 hroom ⟨.bl _, H, I, rfl, by rw [a7]; exact fin⟩
    · cases h
  · cases h
theorem non_iff {K : PySem.W.Frag} {ι : List Addr} {H : Hp} {d : D} {x : V} (r : RelD K Θ ι H d x) : decide (x = .non) = decide (d = .non) := by
  cases d with
  | non => rw [relNon r]; simp
  | bl b => rw [relBl r]; simp
  | int b => rw [relInt r]; simp
  | str b => rw [relStr r]; simp
  | tup ds => obtain ⟨a, vs, rfl, _⟩ := relTup r; simp
  | rol ds => obtain ⟨a, vs, rfl, _⟩ := relRol r; simp
  | obj n => obtain ⟨a, rfl, _⟩ := relObj r; simp
  | fn f => rw [show x = .ref (Θ.fA f) from r]; simp
theorem opCmp {op : CmpOp} (hu : X.A.units + 65 < cLine) (hw : X.w = Θ.w) : OpR X (compareOp op) (rZ2 X.K Θ (cmpD op)) := by
  intro pins s σ H x y v u Q I rx ry ⟨d, e, S, ι, sim, rd, re, W, σ', q⟩
  unfold cmpD at q
  cases op with
  | Eq =>
    dsimp only at q
    obtain ⟨b0, h0, q⟩ := q.of
    obtain ⟨b, h, rfl⟩ := Option.map_eq_some_iff.mp h0
    obtain ⟨p, p', h1, h2, h3, h4, h5, h6, h7⟩ := eqD_dp sim rd re h
    obtain ⟨as, r1⟩ := Dp.reads I p x v h1 rx
    obtain ⟨bs, r2⟩ := Dp.reads I p' y u h2 ry
    exact SeqAt.eq_plain r1 r2 h3 h4 (by omega) ⟨.bl _, H, I, rfl, by rw [h7]; exact q.ok sim rfl⟩
  | NotEq =>
    dsimp only at q
    obtain ⟨b0, h0, q⟩ := q.of
    obtain ⟨b, h, rfl⟩ := Option.map_eq_some_iff.mp h0
    obtain ⟨p, p', h1, h2, h3, h4, h5, h6, h7⟩ := eqD_dp sim rd re h
    obtain ⟨as, r1⟩ := Dp.reads I p x v h1 rx
    obtain ⟨bs, r2⟩ := Dp.reads I p' y u h2 ry
    exact SeqAt.ne_plain r1 r2 h3 h4 (by omega) ⟨.bl _, H, I, rfl, by rw [h7]; exact q.ok sim rfl⟩
  | Lt =>
    dsimp only at q
    split at q
    · rename_i i j
      exact op_lt pins s σ H x y v u Q I rx ry ⟨i, j, relInt rd, relInt re, q.ok sim rfl⟩
    · exact q.elim
  | LtE =>
    dsimp only at q
    split at q
    · rename_i i j
      exact op_le pins s σ H x y v u Q I rx ry ⟨i, j, relInt rd, relInt re, q.ok sim rfl⟩
    · exact q.elim
  | Gt =>
    dsimp only at q
    split at q
    · rename_i i j
      exact op_gt pins s σ H x y v u Q I rx ry ⟨i, j, relInt rd, relInt re, q.ok sim rfl⟩
    · exact q.elim
  | GtE =>
    dsimp only at q
    split at q
    · rename_i i j
      exact op_ge pins s σ H x y v u Q I rx ry ⟨i, j, relInt rd, relInt re, q.ok sim rfl⟩
    · exact q.elim
  | Is =>
    dsimp only at q
    split at q
    · exact op_isN pins s σ H x y v u Q I rx ry ⟨relNon re, by rw [non_iff rd]; exact q.ok sim rfl⟩
    · exact q.elim
  | IsNot =>
    dsimp only at q
    split at q
    · exact op_notN pins s σ H x y v u Q I rx ry ⟨relNon re, by rw [non_iff rd]; exact q.ok sim rfl⟩
    · exact q.elim
  | In => exact opIn (Θ := Θ) (neg := false) hu hw pins s σ H x y v u Q I rx ry ⟨d, e, S, ι, sim, rd, re, W, σ', q⟩
  | NotIn => exact opIn (Θ := Θ) (neg := true) hu hw pins s σ H x y v u Q I rx ry ⟨d, e, S, ι, sim, rd, re, W, σ', q⟩

/-! ### truth -/
theorem truD {K : PySem.W.Frag} {ι : List Addr} {H : Hp} {S : Store} {d : D} {v : V} {b : Bool} (sim : Sim K Θ ι H S) (r : RelD K Θ ι H d v) (h : truthy S d = some b) : TruV K v H b := by
  unfold truthy at h
  cases d with
  | non => cases h; rw [relNon r]; exact rfl
  | bl c => cases h; rw [relBl r]; exact rfl
  | int i => cases h; rw [relInt r]; exact rfl
  | str i =>
    dsimp only at h
    split at h
    · rename_i hl; cases h; rw [relStr r]; exact ⟨by rw [← line_eq]; exact hl, rfl⟩
    · cases h
  | tup ds =>
    cases h
    obtain ⟨a, vs, rfl, h1, r1⟩ := relTup r
    refine .inr (.inl ⟨vs, h1, ?_⟩)
    cases ds with
    | nil => unfold RelDs at r1; subst r1; rfl
    | cons x xs => unfold RelDs at r1; obtain ⟨_, _, rfl, _⟩ := r1; rfl
  | rol ds =>
    cases h
    obtain ⟨a, vs, rfl, h1, r1⟩ := relRol r
    refine .inl ⟨vs, h1.l, ?_⟩
    cases ds with
    | nil => unfold RelDs at r1; subst r1; rfl
    | cons x xs => unfold RelDs at r1; obtain ⟨_, _, rfl, _⟩ := r1; rfl
  | obj n =>
    obtain ⟨a, rfl, ha⟩ := relObj r
    dsimp only at h
    split at h
    · rename_i ds e1
      cases h
      obtain ⟨vs, h1, r1⟩ := sim.ok _ _ _ e1 ha
      refine .inl ⟨vs, .of h1, ?_⟩
      cases ds with
      | nil => unfold RelDs at r1; subst r1; rfl
      | cons x xs => unfold RelDs at r1; obtain ⟨_, _, rfl, _⟩ := r1; rfl
    · rename_i kvs e1
      cases h
      obtain ⟨vs, h1, r1⟩ := sim.ok _ _ _ e1 ha
      refine .inr (.inr ⟨vs, h1, ?_⟩)
      cases kvs with
      | nil => rw [show vs = [] from r1]; rfl
      | cons x xs => obtain ⟨k, d⟩ := x; obtain ⟨_, _, rfl, _⟩ := r1; rfl
    · cases h
  | fn f => cases h
end
end Z
end

section
set_option Elab.async false
set_option linter.all false
set_option maxRecDepth 100000
/-! ZE: the other expressions. -/
namespace Z
open PySem L2

/-! ### arguments without stars -/
def isSt : Expr → Bool
  | .Starred .. => true
  | _ => false
theorem star_of {e : Expr} {es : List Expr} {env : PySem.Env} (h : isSt e = false) : starEach (e :: es) env = (false, eval e env) :: starEach es env := by
  cases e <;> first | rfl | cases h
theorem star_plain {pos : Pos} {env : PySem.Env} : ∀ {es : List Expr}, es.all (fun e => !isSt e) = true → (backTo pos (starEach es env)).any (·.1) = false
  | [], _ => rfl
  | e :: es, h => by
    simp only [List.all_cons, Bool.and_eq_true, Bool.not_eq_true'] at h
    rw [star_of h.1]
    show (false || (backTo pos (starEach es env)).any (·.1)) = false
    rw [star_plain h.2]; rfl
theorem star_all {pos : Pos} {env : PySem.Env} : ∀ {es : List Expr}, es.all (fun e => !isSt e) = true → (backTo pos (starEach es env)).all (fun x => !x.1) = true
  | [], _ => rfl
  | e :: es, h => by
    simp only [List.all_cons, Bool.and_eq_true, Bool.not_eq_true'] at h
    rw [star_of h.1]
    show ((!false) && (backTo pos (starEach es env)).all (fun x => !x.1)) = true
    rw [star_all h.2]; rfl
def isSl : Expr → Bool
  | .Slice .. => true
  | _ => false
theorem plainIx {b : Expr} (h : isSl b = false) (o i : Value) : subscripted b false o i = operate [o, i] (getItem o i) := by
  cases b <;> first | rfl | cases h
/-- not a call without arguments -/
def noSup : Expr → Bool
  | .Call (.Name ..) [] [] _ => false
  | _ => true
theorem attrB {o : Expr} {f : Str} {env : PySem.Env} {w : Sem Value} (h : noSup o = true) : attributeBase o f env w = w := by
  unfold attributeBase
  split
  · cases h
  · rfl

theorem methForm {o : Expr} {m : Str} {apos pos : Pos} {es : List Expr} {env : PySem.Env} (hb : noSup o = true) (hst : es.all (fun e => !isSt e) = true) (hn : es.length < 30) (hl : (apos.endLine == pos.line) = true) :
    eval (.Call (.Attribute o m apos) es [] pos) env = (do
      let ov ← eval o env
      standAt apos.atName
      let (f, first) ← holding [ov] (getMethod ov m (do return (← importBound o env).getD true))
      callWith pos f first (backTo pos (starEach es env)) (backToKw pos (keywordEach [] env))) := by
  show (do
    let ov ← attributeBase o m env (eval o env)
    standAt apos.atName
    methodCall o m apos pos env ov (es.length + ([] : List Keyword).length) (backTo pos (starEach es env)) (backToKw pos (keywordEach [] env))) = _
  have hf : methodCallForm (es.length + ([] : List Keyword).length) (backTo pos (starEach es env)) (backToKw pos (keywordEach [] env)) = true := by
    unfold methodCallForm
    rw [star_all hst]
    show (true && true && decide (es.length + 0 + 0 < 30)) = true
    simp [hn]
  rw [attrB hb]
  unfold methodCall calleeOf methodCallPos
  rw [hf, hl]
  rfl

/-! ### what the text gives -/
section
variable (K : PySem.W.Frag) (Θ : Nm) (call : Nat → List D → Store → R D)
/-- a def's promise: what the evaluator answers -/
def spK (np f : Nat) : Sp := fun vs H Q E => ∃ ds S ι, Sim K Θ ι H S ∧ RelDs K Θ ι H ds vs ∧ ds.length = np ∧ Post K Θ (rD K Θ) (fun c d _ H' => E c d H') [] ι H Q (call f ds S)
end
structure Tb where
  gl : Str → Option Nat
  df : Str → Option Nat
  cl : Str → Option Nat
  fd : Str → Option Nat
  om : Str → Bool
  dt : Str → Bool
  bl : Str → Bool
  gc : Bool
structure Good (X : Cx) (Θ : Nm) (p : Prg) (c : Nat → List D → Store → R D) (tb : Tb) (k : Nat) : Prop where
  calm : X.calm = true
  hw : X.w = Θ.w
  nd : X.N.Nodup
  room : Room (k + 1) X.A
  gl : ∀ x i, tb.gl x = some i → ∃ d u v, p.consts i = some d ∧ X.mg x = some u ∧ RelV v u ∧ ∀ ι H, RelD X.K Θ ι H d v
  df : ∀ x f, tb.df x = some f → X.mg x = some (.ref (Θ.fA f)) ∧ PySem.W.keepIn X.K (.ref (Θ.fA f)) = true
  cl : ∀ x C, tb.cl x = some C → X.mg x = some (.ref (Θ.cA C))
  fd : ∀ x f, tb.fd x = some f → Θ.nm f = x
  bl : ∀ x, tb.bl x = true → X.mg x = none
  gc : tb.gc = true → X.mg "gcd" = some (.builtin "math.gcd")
  ci : ∀ x C, tb.cl x = some C → (p.ini C).isSome = true
  full : ∀ f ds S, c f ds S = .bad ∨ ∃ fd, p.defs f = some fd ∧ (argsOf fd ds).length = fd.np ∧ c f (argsOf fd ds) S = c f ds S
  fn : ∀ f fd, p.defs f = some fd → ∃ fdt ps, FnOk X.prog X.w X.K X.mg X.base (L2.CX X.prog X.w) k (Θ.fA f) fdt ps (spK X.K Θ c fd.np f) ∧ ps.length = fd.np ∧
    ∀ j, j ≤ fd.dfl.length → ∃ dvs ds, Binds X.K fdt ps ds ∧ Vals dvs ds ∧ ∀ ι H, RelDs X.K Θ ι H (fd.dfl.drop j) dvs
  isF : ∀ C f, p.isF C f = true → Cls X.K (Θ.cA C) ∧ NoAttr X.K (Θ.cA C) (Θ.nm f)
  con : ∀ C f d, p.con C f = some d → Cls X.K (Θ.cA C) ∧ ∃ v u, Con X.K (Θ.cA C) (Θ.nm f) v u ∧ ∀ ι H, RelD X.K Θ ι H d v
  mth : ∀ C m f, p.mth C m = some f → Cls X.K (Θ.cA C) ∧ Meth X.K (Θ.cA C) (Θ.nm m) (Θ.fA f)
  ini : ∀ C f, p.ini C = some f → Mk X.K (Θ.cA C) (Θ.fA f)

section
variable {X : Cx} {Θ : Nm} {p : Prg} {c : Nat → List D → Store → R D} {tb : Tb} {k : Nat} {W : WX}
theorem Good.un (G : Good X Θ p c tb k) : X.A.units + 100 < cLine := by have := G.room.un; omega
theorem Good.blk (G : Good X Θ p c tb k) (s : Shared) (H : Hp) (scope : Scope) (ce : PySem.Env) (fp : List Addr) : Good (X.blk s H scope ce fp) Θ p c tb k :=
  ⟨G.calm, G.hw, G.nd, G.room, G.gl, G.df, G.cl, G.fd, G.bl, G.gc, G.ci, G.full, G.fn, G.isF, G.con, G.mth, G.ini⟩
theorem Post.conv {α β : Type} {K : PySem.W.Frag} {rel : List Addr → Hp → α → β → Prop} {W' : WX} {σ σ' : St} {ι : List Addr} {H : Hp} {Q : β → Hp → Prop} {r : R α} (x : Post K Θ rel W σ ι H Q r) (h : ∀ c d H', W c d σ H' → W' c d σ' H') : Post K Θ rel W' σ' ι H Q r := by
  cases r with
  | ok a S => exact x
  | ex C fs S => exact fun ι2 H2 d p2 k2 s r => h _ _ _ (x ι2 H2 d p2 k2 s r)
  | bad => exact x

/-- the callee runs -/
theorem runCall (G : Good X Θ p c tb k) (tk : Takes X W) {pins : List (Addr × Obj)} {σ : St} {H : Hp} {s : Shared} {ι : List Addr} {S : Store} {f : Nat} {ds : List D} {vs : List V} {us : List Value} {Q : VK} (I : L2.Inv X pins σ H s) (r : Vals vs us)
    (sim : Sim X.K Θ ι H S) (rd : RelDs X.K Θ ι H ds vs) (q : Post X.K Θ (rD X.K Θ) W σ ι H Q (c f ds S)) : wpAny (model X.prog X.w) X.A (PySem.call (.ref (Θ.fA f)) us) (EP X pins σ Q) X.xe s := by
  rcases G.full f ds S with e | ⟨fd, e1, e2, e3⟩
  · rw [e] at q; exact q.elim
  · obtain ⟨fdt, ps, F, hl, hb⟩ := G.fn f fd e1
    have hj : fd.dfl.length + ds.length - fd.np ≤ fd.dfl.length := by
      have : (argsOf fd ds).length = ds.length + (fd.dfl.length - (fd.dfl.length + ds.length - fd.np)) := by unfold argsOf; rw [List.length_append, List.length_drop]
      omega
    obtain ⟨dvs, dsv, B, hv, hr⟩ := hb _ hj
    refine run_fnSD (E := WE W) F (G.room.mono (Nat.le_succ _)) B hv (passAt tk σ) I r ⟨argsOf fd ds, S, ι, sim, RelDs.app rd (hr ι H), e2, ?_⟩
    rw [e3]
    exact q.conv fun _ _ _ h => h
/-- f(e, ..) -/
theorem peCall (G : Good X Θ p c tb k) (tk : Takes X W) {x : Str} {f : Nat} {e : Expr} {es : List Expr} {irs : Es} {pp pos : Pos} (hg : Gl X x) (hf : tb.df x = some f) (hdb : (x == ("__debug__" : Str)) = false) (h1 : isSt e = false) (hst : es.all (fun e => !isSt e) = true)
    (ha : PA X (e :: es) (tA X.K Θ W (evs p c irs))) : PE X (.Call (.Name x pp) (e :: es) [] pos) (tE X.K Θ W (ev p c (.call f irs))) := by
  refine ⟨fun pins s σ H Q I ⟨ρ, S, ι, sim, r, q⟩ => ?_⟩
  unfold ev at q
  obtain ⟨hm, hk⟩ := G.df x f hf
  refine wpAny_Call_Name_kw (ld_glob I hg hm ?_ hdb)
  refine PySem.W.callWith_K (h₀ := X.base) I.ok.mod.kin hk (thn (ha.run pos pins s σ H (fun vs H1 => ∃ ds S2 ι2, Sim X.K Θ ι2 H1 S2 ∧ RelDs X.K Θ ι2 H1 ds vs ∧ Post X.K Θ (rD X.K Θ) W σ ι2 H1 Q (c f ds S2)) I
    ⟨ρ, S, ι, sim, r, (q.bind (rel := rDs X.K Θ)).imp fun _ _ _ H1 vs _ _ _ _ _ ⟨ds, S2, ι2, p2, k2, s2, r2, q2⟩ => ⟨ds, S2, ι2, s2, r2, q2⟩⟩) fun us s1 ⟨vs, H1, I1, rv, ds, S2, ι2, s2, r2, q2⟩ => ⟨I1.kIn, ?_⟩) (star_of h1) (star_plain hst)
  exact runCall G tk I1 rv s2 r2 q2
theorem peCall0 (G : Good X Θ p c tb k) (tk : Takes X W) {x : Str} {f : Nat} {pp pos : Pos} (hg : Gl X x) (hf : tb.df x = some f) (hdb : (x == ("__debug__" : Str)) = false) :
    PE X (.Call (.Name x pp) [] [] pos) (tE X.K Θ W (ev p c (.call f .nil))) := by
  refine ⟨fun pins s σ H Q I ⟨ρ, S, ι, sim, r, q⟩ => ?_⟩
  unfold ev evs at q
  obtain ⟨hm, hk⟩ := G.df x f hf
  refine wpAny_Call_Name_kw (ld_glob I hg hm ?_ hdb)
  exact PySem.W.callWith_K0 I.kIn hk (runCall G tk I .nil sim RelDs.nil q)

/-! ### methods of own classes -/
theorem lookF {K : PySem.W.Frag} {ι : List Addr} {H : Hp} (f : Nat) : ∀ (l : List (Nat × D)) (r : List (Str × V)), RelF K Θ ι H l r →
    (∀ d, l.lookup f = some d → ∃ v, r.lookup (Θ.nm f) = some v ∧ RelD K Θ ι H d v) ∧ (l.lookup f = none → r.lookup (Θ.nm f) = none)
  | [], r, h => by
    have h : r = [] := h
    subst h
    exact ⟨fun d e => by simp at e, fun _ => rfl⟩
  | (g, d) :: l, r, h => by
    obtain ⟨v, t, rfl, a, b⟩ := h
    obtain ⟨h1, h2⟩ := lookF f l t b
    by_cases hj : f = g
    · subst hj
      refine ⟨fun d' e => ?_, fun e => ?_⟩
      · simp [List.lookup_cons] at e
        subst e
        exact ⟨v, by simp [List.lookup_cons], a⟩
      · simp [List.lookup_cons] at e
    · have n1 : (f == g) = false := by simp [hj]
      have n2 : (Θ.nm f == Θ.nm g) = false := by
        rw [beq_eq_false_iff_ne]
        exact fun e => hj (Θ.inj _ _ e)
      simp only [List.lookup_cons, n1, n2]
      exact ⟨h1, h2⟩
theorem methAt (G : Good X Θ p c tb k) {ι : List Addr} {H : Hp} {S : Store} {d : D} {x : V} {m f : Nat} (sim : Sim X.K Θ ι H S) (rd : RelD X.K Θ ι H d x) (h : methD p d m S = some f) :
    ∃ a C dx fs, x = .ref a ∧ H a = some (.ins (Θ.cA C) dx fs) ∧ Cls X.K (Θ.cA C) ∧ Meth X.K (Θ.cA C) (Θ.nm m) (Θ.fA f) ∧ fs.lookup (Θ.nm m) = none := by
  unfold methD at h
  split at h
  · rename_i n
    obtain ⟨a, rfl, ha⟩ := relObj rd
    split at h
    · rename_i C fs e1
      split at h
      · cases h
      · rename_i e2
        obtain ⟨dx, gs, h1, r1⟩ := sim.ok _ _ _ e1 ha
        obtain ⟨m1, m2⟩ := G.mth C m f h
        exact ⟨a, C, dx, gs, rfl, h1, m1, m2, (lookF m fs gs r1).2 e2⟩
    · cases h
  · cases h
theorem peMeth (G : Good X Θ p c tb k) (tk : Takes X W) {o e : Expr} {es : List Expr} {io : E} {irs : Es} {m : Nat} {apos pos : Pos} {mn : Str} (hm : Θ.nm m = mn) (hb : noSup o = true) (hn : (e :: es).length < 30) (hli : (apos.endLine == pos.line) = true) (h1 : isSt e = false) (hst : es.all (fun e => !isSt e) = true) (ho : PE X o (tE X.K Θ W (ev p c io)))
    (ha : PA X (e :: es) (tA X.K Θ W (evs p c irs))) : PE X (.Call (.Attribute o mn apos) (e :: es) [] pos) (tE X.K Θ W (ev p c (.meth io m irs))) := by
  subst hm
  refine ⟨fun pins s σ H Q I ⟨ρ, S, ι, sim, r, q⟩ => ?_⟩
  unfold ev at q
  refine PySem.W.methodCall_KW (thn (ho.run pins s σ H (fun x H1 => ∃ d S2 ι2, Pre ι ι2 ∧ Keep H H1 ∧ Sim X.K Θ ι2 H1 S2 ∧ RelD X.K Θ ι2 H1 d x ∧ Post X.K Θ (rD X.K Θ) W σ ι2 H1 Q (match methD p d m S2 with
      | some f => (evs p c irs ρ S2).bind fun ds S2 => c f (d :: ds) S2
      | none => .bad)) I ⟨ρ, S, ι, sim, r, (q.bind (rel := rD X.K Θ)).imp fun _ _ _ H1 vs _ _ _ _ _ ⟨d, S2, ι2, p2, k2, s2, r2, q2⟩ => ⟨d, S2, ι2, p2, k2, s2, r2, q2⟩⟩) fun u s1 ⟨x, H1, I1, rx, d, S2, ι2, p2, k2, s2, r2, q2⟩ => ?_) (methForm hb (by rw [List.all_cons, h1, hst]; rfl) hn hli)
  cases hme : methD p d m S2 with
  | none => rw [hme] at q2; exact q2.elim
  | some f =>
    rw [hme] at q2
    obtain ⟨a, C, dx, fs, rfl, ea, cl, me, hl⟩ := methAt G s2 r2 hme
    obtain rfl : u = Value.ref a := rx
    refine getmeth_ok I1 ea cl me hl ?_
    refine PySem.W.callWith_K (first := [.ref a]) (h₀ := X.base) I.ok.mod.kin me.kp (thn (ha.run pos pins s1 σ H1 (fun vs H3 => ∃ ds S3 ι3, Pre ι2 ι3 ∧ Keep H1 H3 ∧ Sim X.K Θ ι3 H3 S3 ∧ RelDs X.K Θ ι3 H3 ds vs ∧ Post X.K Θ (rD X.K Θ) W σ ι3 H3 Q (c f (d :: ds) S3)) I1
      ⟨ρ, S2, ι2, s2, r.mono p2 k2, (Post.bind (rel := rDs X.K Θ) q2).imp fun _ _ _ H1 vs _ _ _ _ _ ⟨ds, S3, ι3, p3, k3, s3, r3, q3⟩ => ⟨ds, S3, ι3, p3, k3, s3, r3, q3⟩⟩) fun us s2' ⟨vs, H3, I3, rv, ds, S3, ι3, p3, k3, s3, r3, q3⟩ => ⟨I3.kIn, ?_⟩) (star_of h1) (star_plain hst)
    exact runCall (us := .ref a :: us) (vs := .ref a :: vs) G tk I3 (.cons rfl rv) s3 (RelDs.cons (RelD.mono p3 k3 d _ r2) r3) q3
theorem peMeth0 (G : Good X Θ p c tb k) (tk : Takes X W) {o : Expr} {io : E} {m : Nat} {apos pos : Pos} {mn : Str} (hm : Θ.nm m = mn) (hb : noSup o = true) (hli : (apos.endLine == pos.line) = true) (ho : PE X o (tE X.K Θ W (ev p c io))) :
    PE X (.Call (.Attribute o mn apos) [] [] pos) (tE X.K Θ W (ev p c (.meth io m .nil))) := by
  subst hm
  refine ⟨fun pins s σ H Q I ⟨ρ, S, ι, sim, r, q⟩ => ?_⟩
  unfold ev at q
  refine PySem.W.methodCall_KW (thn (ho.run pins s σ H (fun x H1 => ∃ d S2 ι2, Pre ι ι2 ∧ Keep H H1 ∧ Sim X.K Θ ι2 H1 S2 ∧ RelD X.K Θ ι2 H1 d x ∧ Post X.K Θ (rD X.K Θ) W σ ι2 H1 Q (match methD p d m S2 with
      | some f => (evs p c .nil ρ S2).bind fun ds S2 => c f (d :: ds) S2
      | none => .bad)) I ⟨ρ, S, ι, sim, r, (q.bind (rel := rD X.K Θ)).imp fun _ _ _ H1 vs _ _ _ _ _ ⟨d, S2, ι2, p2, k2, s2, r2, q2⟩ => ⟨d, S2, ι2, p2, k2, s2, r2, q2⟩⟩) fun u s1 ⟨x, H1, I1, rx, d, S2, ι2, p2, k2, s2, r2, q2⟩ => ?_) (methForm hb rfl (by decide) hli)
  cases hme : methD p d m S2 with
  | none => rw [hme] at q2; exact q2.elim
  | some f =>
    rw [hme] at q2
    obtain ⟨a, C, dx, fs, rfl, ea, cl, me, hl⟩ := methAt G s2 r2 hme
    obtain rfl : u = Value.ref a := rx
    refine getmeth_ok I1 ea cl me hl ?_
    unfold evs at q2
    exact PySem.W.callWith_K0 (first := [.ref a]) I1.kIn me.kp (runCall (us := [.ref a]) (vs := [.ref a]) G tk I1 (.cons rfl .nil) s2 (RelDs.cons r2 RelDs.nil) q2)

/-! ### a new instance -/
theorem runMake (G : Good X Θ p c tb k) (tk : Takes X W) {pins : List (Addr × Obj)} {σ : St} {H : Hp} {s : Shared} {ι : List Addr} {S : Store} {C f : Nat} {ds : List D} {vs : List V} {us : List Value} {Q : VK} (I : L2.Inv X pins σ H s) (r : Vals vs us)
    (hi : p.ini C = some f) (sim : Sim X.K Θ ι H S) (rd : RelDs X.K Θ ι H ds vs)
    (q : Post X.K Θ (rD X.K Θ) W σ ι H Q ((c f (.obj S.length :: ds) (S ++ [.ins C []])).bind fun x S2 => match x with | .non => .ok (.obj S.length) S2 | _ => .bad)) : wpAny (model X.prog X.w) X.A (PySem.call (.ref (Θ.cA C)) us) (EP X pins σ Q) X.xe s := by
  have M := G.ini C f hi
  rcases G.full f (.obj S.length :: ds) (S ++ [.ins C []]) with e | ⟨fd, e1, e2, e3⟩
  · rw [e] at q; exact q.elim
  · obtain ⟨fdt, ps, F, hl, hb⟩ := G.fn f fd e1
    have hj : fd.dfl.length + (D.obj S.length :: ds).length - fd.np ≤ fd.dfl.length := by
      have : (argsOf fd (D.obj S.length :: ds)).length = (D.obj S.length :: ds).length + (fd.dfl.length - (fd.dfl.length + (D.obj S.length :: ds).length - fd.np)) := by unfold argsOf; rw [List.length_append, List.length_drop]
      omega
    obtain ⟨dvs, dsv, B, hv, hr⟩ := hb _ hj
    -- the new instance
    have hx : H (s.heap.objs.size + 1) = none := I.hok.fresh (Nat.le_succ _)
    have hdx : H s.heap.objs.size = none := I.hok.fresh (Nat.le_refl _)
    have ne : s.heap.objs.size ≠ s.heap.objs.size + 1 := Nat.ne_of_lt (Nat.lt_succ_self _)
    have I2 := Inv.made (C := Θ.cA C) I
    have hx2 : (upd H s.heap.objs.size (.own (s.heap.objs.size + 1))) (s.heap.objs.size + 1) = none := by rw [upd_ne ne.symm]; exact hx
    have K1 : Keep H (upd H s.heap.objs.size (.own (s.heap.objs.size + 1))) := Keep.fresh hdx
    have K2 := K1.trans (Keep.fresh (o := .ins (Θ.cA C) s.heap.objs.size []) hx2)
    have sim2 : Sim X.K Θ (ι ++ [s.heap.objs.size + 1]) (upd (upd H s.heap.objs.size (.own (s.heap.objs.size + 1))) (s.heap.objs.size + 1) (.ins (Θ.cA C) s.heap.objs.size [])) (S ++ [.ins C []]) :=
      (sim.fresh hdx).snoc hx2 ⟨_, [], upd_same, rfl⟩
    have rx : RelD X.K Θ (ι ++ [s.heap.objs.size + 1]) (upd (upd H s.heap.objs.size (.own (s.heap.objs.size + 1))) (s.heap.objs.size + 1) (.ins (Θ.cA C) s.heap.objs.size [])) (.obj S.length) (.ref (s.heap.objs.size + 1)) :=
      relObjMk (by rw [List.getElem?_append_right (by rw [sim.len]; exact Nat.le_refl _), sim.len]; simp)
    have rd2 := RelDs.cons rx (RelDs.mono (Pre.snoc ι (s.heap.objs.size + 1)) K2 ds vs rd)
    have r2 : Vals (V.ref (s.heap.objs.size + 1) :: (vs ++ dvs)) (Value.ref (s.heap.objs.size + 1) :: (us ++ dsv)) := .cons rfl (r.append hv)
    have hq : spK X.K Θ c fd.np f (V.ref (s.heap.objs.size + 1) :: (vs ++ dvs)) (upd (upd H s.heap.objs.size (.own (s.heap.objs.size + 1))) (s.heap.objs.size + 1) (.ins (Θ.cA C) s.heap.objs.size []))
        (fun v H2 => v = .non ∧ Q (.ref (s.heap.objs.size + 1)) H2) (WE W σ) := by
      refine ⟨argsOf fd (.obj S.length :: ds), _, _, sim2, RelDs.app rd2 (hr _ _), e2, ?_⟩
      rw [e3]
      refine Post.conv (W := W) (σ := σ) ?_ fun _ _ _ h => h
      refine (Post.bind (rel := rD X.K Θ) (Post.mono q (Pre.snoc _ _) K2)).imp ?_
      rintro a S3 ι3 H3 v ea p3 k3 s3 r3 ⟨d, S4, ι4, p4, k4, s4, r4, q4⟩
      cases d with
      | non =>
        refine ⟨relNon r4, q4.ok s4 ?_⟩
        obtain ⟨b, eb, hb2⟩ := relObj rx
        cases eb
        exact relObjMk (p4 _ _ hb2)
      | _ => exact q4.elim
    have hl2 : (Value.ref (s.heap.objs.size + 1) :: us ++ dsv).length = ps.length := by
      have e := r2.length
      rw [F.len _ _ _ _ hq] at e
      exact e.symm
    refine wpAny_call (make_map (f := Θ.fA f) I.kIn M.makes M.init (beq_iff_eq.mp M.fn) (codeAny_mono (F.run _ X.stack _ _ ⟨Value.ref (s.heap.objs.size + 1) :: us, []⟩ (Value.ref (s.heap.objs.size + 1) :: (us ++ dsv)) _ _ (WE W σ) (G.room.make (Θ.cA C) us [])
      (I2.env0.make (Θ.cA C) us []) (B _ (Value.ref (s.heap.objs.size + 1) :: us) I2.kIn hl2) r2 hq) fun r s' hq' => ?_))
    cases r with
    | error e => exact passAt tk σ pins _ _ e s' I2 hq'
    | ok fl =>
      cases fl with
      | ret u =>
        obtain ⟨v, H', I3, rv, ev, q3⟩ := I2.after hq'
        subst ev
        exact ⟨rv, ⟨V.ref (s.heap.objs.size + 1), H', I3, rfl, q3⟩⟩
      | next => exact False.elim hq'
      | brk => exact False.elim hq'
      | cont => exact False.elim hq'
theorem peNew (G : Good X Θ p c tb k) (tk : Takes X W) {x : Str} {C : Nat} {e : Expr} {es : List Expr} {irs : Es} {pp pos : Pos} (hg : Gl X x) (hf : tb.cl x = some C) (hdb : (x == ("__debug__" : Str)) = false) (h1 : isSt e = false) (hst : es.all (fun e => !isSt e) = true)
    (hi : (p.ini C).isSome = true) (ha : PA X (e :: es) (tA X.K Θ W (evs p c irs))) : PE X (.Call (.Name x pp) (e :: es) [] pos) (tE X.K Θ W (ev p c (.new C irs))) := by
  refine ⟨fun pins s σ H Q I ⟨ρ, S, ι, sim, r, q⟩ => ?_⟩
  unfold ev at q
  obtain ⟨f, hi⟩ := Option.isSome_iff_exists.mp hi
  rw [hi] at q
  refine wpAny_Call_Name_kw (ld_glob I hg (G.cl x C hf) ?_ hdb)
  refine PySem.W.callWith_K (h₀ := X.base) I.ok.mod.kin (G.ini C f hi).kp (thn (ha.run pos pins s σ H _ I
    ⟨ρ, S, ι, sim, r, (q.bind (rel := rDs X.K Θ)).imp fun _ _ _ H1 vs _ _ _ _ _ h => h⟩) fun us s1 ⟨vs, H1, I1, rv, ds, S2, ι2, p2, k2, s2, r2, q2⟩ => ⟨I1.kIn, ?_⟩) (star_of h1) (star_plain hst)
  exact runMake G tk I1 rv hi s2 r2 q2
theorem peNew0 (G : Good X Θ p c tb k) (tk : Takes X W) {x : Str} {C : Nat} {pp pos : Pos} (hg : Gl X x) (hf : tb.cl x = some C) (hdb : (x == ("__debug__" : Str)) = false) (hi : (p.ini C).isSome = true) :
    PE X (.Call (.Name x pp) [] [] pos) (tE X.K Θ W (ev p c (.new C .nil))) := by
  refine ⟨fun pins s σ H Q I ⟨ρ, S, ι, sim, r, q⟩ => ?_⟩
  unfold ev evs at q
  obtain ⟨f, hi⟩ := Option.isSome_iff_exists.mp hi
  simp only [R.bind_ok] at q
  rw [hi] at q
  refine wpAny_Call_Name_kw (ld_glob I hg (G.cl x C hf) ?_ hdb)
  exact PySem.W.callWith_K0 I.kIn (G.ini C f hi).kp (runMake G tk I .nil hi sim RelDs.nil q)

/-! ### fields -/
theorem peFld (G : Good X Θ p c tb k) {o : Expr} {io : E} {f : Nat} {pos : Pos} {fn : Str} (hf : Θ.nm f = fn) (hb : noSup o = true) (ho : PE X o (tE X.K Θ W (ev p c io))) : PE X (.Attribute o fn pos) (tE X.K Θ W (ev p c (.fld io f))) := by
  subst hf
  refine ⟨fun pins s σ H Q I ⟨ρ, S, ι, sim, r, q⟩ => ?_⟩
  unfold ev at q
  refine attr_of (attrB hb) (thn (ho.run pins s σ H _ I ⟨ρ, S, ι, sim, r, (q.bind (rel := rD X.K Θ)).imp fun _ _ _ H1 vs _ _ _ _ _ h => h⟩) fun u s1 ⟨x, H1, I1, rx, d, S2, ι2, p2, k2, s2, r2, q2⟩ => ?_)
  obtain ⟨y, h, q3⟩ := q2.of
  clear q2
  unfold fldD at h
  split at h
  · rename_i n
    obtain ⟨a, rfl, ha⟩ := relObj r2
    obtain rfl : u = Value.ref a := rx
    split at h
    · rename_i C fs e1
      obtain ⟨dx, gs, h1, r1⟩ := s2.ok _ _ _ e1 ha
      split at h
      · rename_i y' e2
        split at h
        · rename_i hF
          cases h
          obtain ⟨cl, na⟩ := G.isF C f hF
          obtain ⟨v, hv, rv⟩ := (lookF f fs gs r1).1 y e2
          exact getattr_ok I1 h1 cl na hv fun u' s2' I2 ru => ⟨v, H1, I2, ru, q3.ok s2 rv⟩
        · cases h
      · rename_i e2
        obtain ⟨cl, v, u, co, rv⟩ := G.con C f y h
        exact getcon_ok I1 h1 cl co ((lookF f fs gs r1).2 e2) fun s2' I2 => ⟨v, H1, I2, co.rel, q3.ok s2 (rv _ _)⟩
    · cases h
  · cases h
end
end Z
end

section
set_option Elab.async false
set_option linter.all false
set_option maxRecDepth 100000
/-! ZF: subscripts, slices, tests, built-in functions and methods, what is walked, comprehensions. -/
namespace Z
open PySem L2
section
variable {X : Cx} {Θ : Nm} {p : Prg} {c : Nat → List D → Store → R D} {tb : Tb} {k : Nat} {W : WX}

/-! ### subscripts -/
theorem relAt {K : PySem.W.Frag} {ι : List Addr} {H : Hp} {ds : List D} {vs : List V} {i : Int} {d : D} (r : RelDs K Θ ι H ds vs) (h : L2.atI ds i = some d) : ∃ v, L2.atI vs i = some v ∧ RelD K Θ ι H d v := by
  unfold L2.atI at h ⊢
  rw [← r.length]
  cases e : L2.ixN ds.length i with
  | none => rw [e] at h; cases h
  | some j =>
    rw [e] at h
    exact r.get h
theorem ixD_ok (hu : X.A.units + 65 < cLine) (hw : X.w = Θ.w) : IxR X (rZ2 X.K Θ ixD) := by
  intro value slice pins s σ H x y v u Q I rx ry ⟨d, e, S, ι, sim, rd, re, W, σ', q⟩ hs
  unfold ixD at q
  split at q
  · rename_i ds i
    obtain ⟨z, h, q⟩ := q.of
    obtain ⟨a, vs, rfl, h1, r1⟩ := relTup rd
    obtain ⟨w, h2, r2⟩ := relAt r1 h
    exact ix_tup value slice pins s σ H _ y v u Q I rx ry ⟨a, vs, i, w, rfl, relInt re, h1, h2, q.ok sim r2⟩ hs
  · rename_i ds i
    obtain ⟨z, h, q⟩ := q.of
    obtain ⟨a, vs, rfl, h1, r1⟩ := relRol rd
    obtain ⟨w, h2, r2⟩ := relAt r1 h
    exact ix_list value slice pins s σ H _ y v u Q I rx ry ⟨a, vs, i, w, rfl, relInt re, h1.l, h2, q.ok sim r2⟩ hs
  · rename_i z i
    split at q
    · rename_i hl
      obtain ⟨w, h, q⟩ := q.of
      obtain ⟨ch, h2, rfl⟩ := Option.map_eq_some_iff.mp h
      exact ix_str value slice pins s σ H x y v u Q I rx ry ⟨z, i, ch, relStr rd, relInt re, by rw [← line_eq]; exact hl, h2, q.ok sim rfl⟩ hs
    · exact q.elim
  · rename_i n e'
    obtain ⟨a, rfl, ha⟩ := relObj rd
    split at q
    · rename_i ds e1
      obtain ⟨vs, h1, r1⟩ := sim.ok _ _ _ e1 ha
      split at q
      · rename_i i
        obtain ⟨z, h, q⟩ := q.of
        obtain ⟨w, h2, r2⟩ := relAt r1 h
        exact ix_list value slice pins s σ H _ y v u Q I rx ry ⟨a, vs, i, w, rfl, relInt re, .of h1, h2, q.ok sim r2⟩ hs
      · exact q.elim
    · rename_i kvs e1
      obtain ⟨r, h1, r1⟩ := sim.ok _ _ _ e1 ha
      split at q
      · rename_i key hk
        obtain ⟨z, h, q⟩ := q.of
        have hy := keyOf_rel re hk
        subst hy
        obtain ⟨w, h2, r2⟩ := (findK_rel key kvs r r1).1 z h
        obtain rfl : v = Value.ref a := rx
        have g : DGet H a (kV key) (some w) := by rw [← h2]; exact DGet.k h1
        exact PyProof.Rows.tail_any (dict_typeIs I g) PySem.F.slot_dict_getitem.lookup (d_getItem (by omega) I g ry fun w' s' I' rw' => ⟨w, H, I', rw', q.ok sim r2⟩) hs
      · exact q.elim
    · rename_i kvs e1
      split at q
      · rename_i htk
        obtain ⟨z, h, q2⟩ := q.of
        obtain ⟨ks, rfl, hk4⟩ := tk_tup htk
        obtain ⟨xs, h1, r1⟩ := sim.ok _ _ _ e1 ha
        obtain ⟨z1, z2, ys, pr, dd⟩ := dit_at I hw h1 r1
        obtain ⟨b, vs, rfl, _, _⟩ := relTup re
        obtain rfl : u = Value.ref b := ry
        obtain rfl : v = Value.ref a := rx
        have hkey : (deepKind X.prog X.w).is s.heap (.tup ks) b := ⟨hk4, relInH I 4 _ _ _ hk4 re rfl⟩
        have hroom : (deepKind X.prog X.w).room X.A.in1 := by
          have e5 : X.A.in1.units = X.A.units + 1 := rfl
          show X.A.in1.units + 20 < cLine
          omega
        obtain ⟨a', w, e3, r2⟩ := (findT (k := .tup ks) kvs xs r1).1 z h
        obtain ⟨u', e4, rw'⟩ := (findX_rel (k := .tup ks) pr).1 a' w e3
        exact PyProof.Rows.tail_any dd.typeIs PySem.F.slot_dict_getitem.lookup (wpAny_getItem_heap hroom hkey dd e4 ⟨w, H, I.tok _, rw', q2.ok sim r2⟩) hs
      · exact q.elim
    · exact q.elim
  · exact q.elim
theorem peIx (hu : X.A.units + 65 < cLine) (hw : X.w = Θ.w) {a b : Expr} {ia ib : E} {pos : Pos} (ha : PE X a (tE X.K Θ W (ev p c ia))) (hb : PE X b (tE X.K Θ W (ev p c ib))) (hs : isSl b = false) : PE X (.Subscript a b pos) (tE X.K Θ W (ev p c (.ix ia ib))) := by
  have h := peOp p c (pe_ix (pos := pos) (ixD_ok (Θ := Θ) hu hw) ha hb (plainIx hs))
  refine peImp h fun σ H Q q => ?_
  obtain ⟨ρ, S, ι, s, r, q⟩ := q
  unfold ev at q
  exact ⟨ρ, S, ι, s, r, q⟩
theorem peBin {op : Operator} {a b : Expr} {ia ib : E} {pos : Pos} (ha : PE X a (tE X.K Θ W (ev p c ia))) (hb : PE X b (tE X.K Θ W (ev p c ib))) : PE X (.BinOp a op b pos) (tE X.K Θ W (ev p c (.bin op ia ib))) := by
  have h := peOp p c (pe_op (pos := pos) (opBin (Θ := Θ) (op := op)) ha hb)
  refine peImp h fun σ H Q q => ?_
  obtain ⟨ρ, S, ι, s, r, q⟩ := q
  unfold ev at q
  exact ⟨ρ, S, ι, s, r, q⟩
/-- what stands behind in, not in -/
def okIn : Expr → Bool
  | .Set .. => false
  | _ => true
theorem noMark {op : CmpOp} {b : Expr} (h : okIn b = true) : behindInMarks op b = false := by
  cases b <;> first | rfl | cases h
theorem peCmp (hu : X.A.units + 65 < cLine) (hw : X.w = Θ.w) {op : CmpOp} {a b : Expr} {ia ib : E} {pos : Pos} (hm : okIn b = true) (ha : PE X a (tE X.K Θ W (ev p c ia))) (hb : PE X b (tE X.K Θ W (ev p c ib))) : PE X (.Compare a [op] [b] pos) (tE X.K Θ W (ev p c (.cmp op ia ib))) := by
  have h := peOp p c (pe_cmpR (pos := pos) (opCmp (Θ := Θ) (op := op) hu hw) ha hb (noMark hm))
  refine peImp h fun σ H Q q => ?_
  obtain ⟨ρ, S, ι, s, r, q⟩ := q
  unfold ev at q
  exact ⟨ρ, S, ι, s, r, q⟩
theorem peNeg {a : Expr} {ia : E} {pos : Pos} (ha : PE X a (tE X.K Θ W (ev p c ia))) : PE X (.UnaryOp .USub a pos) (tE X.K Θ W (ev p c (.neg ia))) := peImp (pe_un (pos := pos) un_neg ha) fun σ H Q q => by
  obtain ⟨ρ, S, ι, s, r, q⟩ := q
  unfold ev at q
  refine ⟨ρ, S, ι, s, r, (q.bind (rel := rD X.K Θ)).imp ?_⟩
  rintro _ _ _ H1 v _ _ _ _ _ ⟨d, S2, ι2, p2, k2, s2, r2, q2⟩
  cases d with
  | int i => exact ⟨i, relInt r2, q2.ok s2 rfl⟩
  | _ => exact q2.elim

/-! ### tests, truth -/
theorem peNot {a : Expr} {ia : E} {pos : Pos} (ha : PE X a (tE X.K Θ W (ev p c ia))) : PE X (.UnaryOp .Not a pos) (tE X.K Θ W (ev p c (.not ia))) := peImp (pe_notT (pos := pos) ha) fun σ H Q q => by
  obtain ⟨ρ, S, ι, s, r, q⟩ := q
  unfold ev at q
  refine ⟨ρ, S, ι, s, r, (q.bind (rel := rD X.K Θ)).imp ?_⟩
  rintro _ _ _ H1 v _ _ _ _ _ ⟨d, S2, ι2, p2, k2, s2, r2, q2⟩
  obtain ⟨z, h, q2⟩ := q2.of
  obtain ⟨b, h2, rfl⟩ := Option.map_eq_some_iff.mp h
  exact ⟨b, truD s2 r2 h2, q2.ok s2 rfl⟩
theorem peAnd {a b : Expr} {rest : List Expr} {ia ib : E} {pos : Pos} (ha : PE X a (tE X.K Θ W (ev p c ia))) (hb : PE X (.BoolOp .And (b :: rest) pos) (tE X.K Θ W (ev p c ib))) : PE X (.BoolOp .And (a :: b :: rest) pos) (tE X.K Θ W (ev p c (.and ia ib))) :=
    peImp (pe_andT ha hb) fun σ H Q q => by
  obtain ⟨ρ, S, ι, s, r, q⟩ := q
  unfold ev at q
  refine ⟨ρ, S, ι, s, r, (q.bind (rel := rD X.K Θ)).imp ?_⟩
  rintro _ _ _ H1 v _ _ _ _ _ ⟨d, S2, ι2, p2, k2, s2, r2, q2⟩
  cases h : truthy S2 d with
  | none => rw [h] at q2; exact q2.elim
  | some b =>
    rw [h] at q2
    refine ⟨b, truD s2 r2 h, ?_⟩
    cases b with
    | true => rw [if_pos rfl]; exact ⟨ρ, S2, ι2, s2, r.mono p2 k2, q2⟩
    | false => rw [if_neg Bool.false_ne_true]; exact q2.ok s2 r2
theorem peOr {a b : Expr} {rest : List Expr} {ia ib : E} {pos : Pos} (ha : PE X a (tE X.K Θ W (ev p c ia))) (hb : PE X (.BoolOp .Or (b :: rest) pos) (tE X.K Θ W (ev p c ib))) : PE X (.BoolOp .Or (a :: b :: rest) pos) (tE X.K Θ W (ev p c (.or ia ib))) :=
    peImp (pe_orT ha hb) fun σ H Q q => by
  obtain ⟨ρ, S, ι, s, r, q⟩ := q
  unfold ev at q
  refine ⟨ρ, S, ι, s, r, (q.bind (rel := rD X.K Θ)).imp ?_⟩
  rintro _ _ _ H1 v _ _ _ _ _ ⟨d, S2, ι2, p2, k2, s2, r2, q2⟩
  cases h : truthy S2 d with
  | none => rw [h] at q2; exact q2.elim
  | some b =>
    rw [h] at q2
    refine ⟨b, truD s2 r2 h, ?_⟩
    cases b with
    | true => rw [if_pos rfl]; exact q2.ok s2 r2
    | false => rw [if_neg Bool.false_ne_true]; exact ⟨ρ, S2, ι2, s2, r.mono p2 k2, q2⟩
theorem peIte {t a b : Expr} {it : T} {ia ib : E} {pos : Pos} (ht : PT X t (tT X.K Θ W (evT p c it))) (ha : PE X a (tE X.K Θ W (ev p c ia))) (hb : PE X b (tE X.K Θ W (ev p c ib))) : PE X (.IfExp t a b pos) (tE X.K Θ W (ev p c (.ife it ia ib))) :=
    peImp (pe_ifExp (pos := pos) ht ha hb) fun σ H Q q => by
  obtain ⟨ρ, S, ι, s, r, q⟩ := q
  unfold ev at q
  refine ⟨ρ, S, ι, s, r, (q.bind (rel := rB)).imp ?_⟩
  rintro _ _ _ H1 v _ _ _ _ _ ⟨b, S2, ι2, p2, k2, s2, r2, q2⟩
  have r2 : v = b := r2
  subst r2
  cases v with
  | true => rw [if_pos rfl] at q2 ⊢; exact ⟨ρ, S2, ι2, s2, r.mono p2 k2, q2⟩
  | false => rw [if_neg Bool.false_ne_true] at q2 ⊢; exact ⟨ρ, S2, ι2, s2, r.mono p2 k2, q2⟩
/-- an expression whose test is its value's truth -/
def plT : Expr → Bool
  | .UnaryOp .Not _ _ => false
  | .BoolOp .. => false
  | .IfExp .. => false
  | .Compare .. => false
  | _ => true
theorem isTrue_plT {e : Expr} {env : PySem.Env} (h : plT e = true) (whole : Sem Value) : isTrue e env whole = (do let v ← whole; standAt e.pos; holding [v] (PySem.truthy v)) := by
  cases e with
  | UnaryOp op a pos => cases op <;> first | rfl | cases h
  | _ => first | rfl | cases h
theorem ptVal {e : Expr} {ie : E} (h : PE X e (tE X.K Θ W (ev p c ie))) (hp : plT e = true) : PT X e (tT X.K Θ W (evT p c (.val ie))) := ptImp (pt_truth h (isTrue_plT hp)) fun σ H Q q => by
  obtain ⟨ρ, S, ι, s, r, q⟩ := q
  unfold evT at q
  refine ⟨ρ, S, ι, s, r, (q.bind (rel := rD X.K Θ)).imp ?_⟩
  rintro _ _ _ H1 v _ _ _ _ _ ⟨d, S2, ι2, p2, k2, s2, r2, q2⟩
  obtain ⟨b, h2, q2⟩ := q2.of
  exact ⟨b, truD s2 r2 h2, q2.ok s2 rfl⟩
/-- the truth of a comparison -/
theorem cmpD_bl {op : CmpOp} {x y z : D} {S S' : Store} (h : cmpD op x y S = .ok z S') : ∃ b, z = .bl b ∧ S' = S := by
  unfold cmpD at h
  cases op with
  | Eq => dsimp only at h; cases e : eqD S x y with
    | none => rw [e] at h; cases h
    | some b => rw [e] at h; cases h; exact ⟨_, rfl, rfl⟩
  | NotEq => dsimp only at h; cases e : eqD S x y with
    | none => rw [e] at h; cases h
    | some b => rw [e] at h; cases h; exact ⟨_, rfl, rfl⟩
  | In => dsimp only at h; cases e : inD S x y with
    | none => rw [e] at h; cases h
    | some b => rw [e] at h; cases h; exact ⟨_, rfl, rfl⟩
  | NotIn => dsimp only at h; cases e : inD S x y with
    | none => rw [e] at h; cases h
    | some b => rw [e] at h; cases h; exact ⟨_, rfl, rfl⟩
  | _ =>
    dsimp only at h
    split at h
    · cases h; exact ⟨_, rfl, rfl⟩
    · cases h
theorem cmpD_noex {op : CmpOp} {x y : D} {S S' : Store} {C fs} (h : cmpD op x y S = .ex C fs S') : False := by
  unfold cmpD at h
  cases op <;> dsimp only at h
  case Eq => cases e : eqD S x y <;> (rw [e] at h; cases h)
  case NotEq => cases e : eqD S x y <;> (rw [e] at h; cases h)
  case In => cases e : inD S x y <;> (rw [e] at h; cases h)
  case NotIn => cases e : inD S x y <;> (rw [e] at h; cases h)
  all_goals (split at h <;> cases h)
theorem ptCmp (hu : X.A.units + 65 < cLine) (hw : X.w = Θ.w) {op : CmpOp} {a b : Expr} {ia ib : E} {pos : Pos} (hm : okIn b = true) (ha : PE X a (tE X.K Θ W (ev p c ia))) (hb : PE X b (tE X.K Θ W (ev p c ib))) : PT X (.Compare a [op] [b] pos) (tT X.K Θ W (evT p c (.val (.cmp op ia ib)))) :=
    ptImp (pt_cmpR (pos := pos) (opCmp (Θ := Θ) (op := op) hu hw) ha hb (noMark hm)) fun σ H Q q => by
  obtain ⟨ρ, S, ι, s, r, q⟩ := q
  unfold evT ev at q
  have q : Post X.K Θ rB W σ ι H Q ((ev p c ia ρ S).bind fun x S1 => (ev p c ib ρ S1).bind fun y S2 => (cmpD op x y S2).bind fun x S1 => R.of S1 (truthy S1 x)) := by
    cases e1 : ev p c ia ρ S with
    | ok d1 S1 =>
      rw [e1] at q
      simp only [R.bind_ok] at q ⊢
      cases e2 : ev p c ib ρ S1 with
      | ok d2 S2 => rw [e2] at q; exact q
      | ex C fs S2 => rw [e2] at q; exact q
      | bad => rw [e2] at q; exact q
    | ex C fs S1 => rw [e1] at q; exact q
    | bad => rw [e1] at q; exact q
  refine ⟨ρ, S, ι, s, r, (q.bind (rel := rD X.K Θ)).imp ?_⟩
  rintro _ _ _ H1 v _ _ _ _ _ ⟨d, S2, ι2, p2, k2, s2, r2, q2⟩
  refine ⟨ρ, S2, ι2, s2, r.mono p2 k2, (Post.bind (rel := rD X.K Θ) q2).imp ?_⟩
  rintro _ _ _ H3 u _ _ _ _ _ ⟨e, S3, ι3, p3, k3, s3, r3, q3⟩
  refine ⟨d, e, S3, ι3, s3, RelD.mono p3 k3 d v r2, r3, fun _ _ _ _ => False, [], ?_⟩
  cases e1 : cmpD op d e S3 with
  | bad => rw [e1] at q3; exact q3.elim
  | ex C fs S4 => exact (cmpD_noex e1).elim
  | ok z S4 =>
    obtain ⟨b, rfl, rfl⟩ := cmpD_bl e1
    rw [e1] at q3
    exact fun ι4 H4 w p4 k4 s4 r4 => ⟨b, r4, q3 ι4 H4 b p4 k4 s4 rfl⟩
theorem ptNot {a : Expr} {ia : T} {pos : Pos} (ha : PT X a (tT X.K Θ W (evT p c ia))) : PT X (.UnaryOp .Not a pos) (tT X.K Θ W (evT p c (.not ia))) := ptImp (pt_not (pos := pos) ha) fun σ H Q q => by
  obtain ⟨ρ, S, ι, s, r, q⟩ := q
  unfold evT at q
  refine ⟨ρ, S, ι, s, r, (q.bind (rel := rB)).imp ?_⟩
  rintro _ _ _ H1 v _ _ _ _ _ ⟨b, S2, ι2, p2, k2, s2, r2, q2⟩
  have r2 : v = b := r2
  subst r2
  exact q2.ok s2 rfl
theorem pwOne {op : BoolOp} {a : Expr} {ia : T} {pos : Pos} (ha : PT X a (tT X.K Θ W (evT p c ia))) : PW X (.BoolOp op [a] pos) (tT X.K Θ W (evT p c ia)) := by
  cases op with
  | And => exact pw_and1 ha
  | Or => exact pw_or1 ha
theorem pwAnd {a b : Expr} {rest : List Expr} {ia ib : T} {pos : Pos} (ha : PT X a (tT X.K Θ W (evT p c ia))) (hb : PW X (.BoolOp .And (b :: rest) pos) (tT X.K Θ W (evT p c ib))) : PW X (.BoolOp .And (a :: b :: rest) pos) (tT X.K Θ W (evT p c (.and ia ib))) :=
    pwImp (pw_and ha hb) fun σ H Q q => by
  obtain ⟨ρ, S, ι, s, r, q⟩ := q
  unfold evT at q
  refine ⟨ρ, S, ι, s, r, (q.bind (rel := rB)).imp ?_⟩
  rintro _ _ _ H1 v _ _ _ _ _ ⟨b, S2, ι2, p2, k2, s2, r2, q2⟩
  have r2 : v = b := r2
  subst r2
  cases v with
  | true => rw [if_pos rfl] at q2 ⊢; exact ⟨ρ, S2, ι2, s2, r.mono p2 k2, q2⟩
  | false => rw [if_neg Bool.false_ne_true] at q2 ⊢; exact q2.ok s2 rfl
theorem pwOr {a b : Expr} {rest : List Expr} {ia ib : T} {pos : Pos} (ha : PT X a (tT X.K Θ W (evT p c ia))) (hb : PW X (.BoolOp .Or (b :: rest) pos) (tT X.K Θ W (evT p c ib))) : PW X (.BoolOp .Or (a :: b :: rest) pos) (tT X.K Θ W (evT p c (.or ia ib))) :=
    pwImp (pw_or ha hb) fun σ H Q q => by
  obtain ⟨ρ, S, ι, s, r, q⟩ := q
  unfold evT at q
  refine ⟨ρ, S, ι, s, r, (q.bind (rel := rB)).imp ?_⟩
  rintro _ _ _ H1 v _ _ _ _ _ ⟨b, S2, ι2, p2, k2, s2, r2, q2⟩
  have r2 : v = b := r2
  subst r2
  cases v with
  | true => rw [if_pos rfl] at q2 ⊢; exact q2.ok s2 rfl
  | false => rw [if_neg Bool.false_ne_true] at q2 ⊢; exact ⟨ρ, S2, ι2, s2, r.mono p2 k2, q2⟩

/-! ### a chain of two comparisons -/
theorem chain_rd (hu : X.A.units + 65 < cLine) (hw : X.w = Θ.w) {op op' : CmpOp} {ia ib ie : E} {σ : St} {H : Hp} {Q : VK} {ρ : Env} {S : Store} {ι : List Addr} (s : Sim X.K Θ ι H S) (r : RelE X.K Θ ι H ρ σ) (q : Post X.K Θ (rD X.K Θ) W σ ι H Q (ev p c (.cmp2 op op' ia ib ie) ρ S)) :
    tChain (rZ2 X.K Θ (cmpD op)) (rZ2 X.K Θ (cmpD op')) (tE X.K Θ W (ev p c ia)) (tE X.K Θ W (ev p c ib)) (tE X.K Θ W (ev p c ie)) σ H Q := by
  unfold ev at q
  refine ⟨ρ, S, ι, s, r, (q.bind (rel := rD X.K Θ)).imp ?_⟩
  rintro _ _ _ H1 v _ _ _ _ _ ⟨d, S2, ι2, p2, k2, s2, r2, q2⟩
  refine ⟨ρ, S2, ι2, s2, r.mono p2 k2, (Post.bind (rel := rD X.K Θ) q2).imp ?_⟩
  rintro _ _ _ H3 u _ _ _ _ _ ⟨e, S3, ι3, p3, k3, s3, r3, q3⟩
  refine ⟨d, e, S3, ι3, s3, RelD.mono p3 k3 d v r2, r3, W, σ, ?_⟩
  cases e1 : cmpD op d e S3 with
  | bad => rw [e1] at q3; exact q3.elim
  | ex C fs S4 => exact (cmpD_noex e1).elim
  | ok z S4 =>
    obtain ⟨b, rfl, rfl⟩ := cmpD_bl e1
    rw [e1] at q3
    intro ι4 H4 w p4 k4 s4 r4
    refine ⟨b, r4, ?_⟩
    cases b with
    | false => rw [if_neg Bool.false_ne_true]; exact q3 ι4 H4 _ p4 k4 s4 rfl
    | true =>
      rw [if_pos rfl]
      have q4 := Post.mono q3 p4 k4
      simp only [R.bind_ok] at q4
      refine ⟨ρ, _, ι4, s4, ((r.mono p2 k2).mono p3 k3).mono p4 k4, (Post.bind (rel := rD X.K Θ) q4).imp ?_⟩
      rintro _ _ _ H5 w5 _ _ _ _ _ ⟨d5, S5, ι5, p5, k5, s5, r5, q5⟩
      exact ⟨e, d5, S5, ι5, s5, RelD.mono p5 k5 e _ (RelD.mono p4 k4 e _ r3), r5, W, σ, q5⟩
theorem peCmp2 (hu : X.A.units + 65 < cLine) (hw : X.w = Θ.w) {op op' : CmpOp} {a b e : Expr} {ia ib ie : E} {pos : Pos} (hm : okIn e = true) (ha : PE X a (tE X.K Θ W (ev p c ia))) (hb : PE X b (tE X.K Θ W (ev p c ib))) (he : PE X e (tE X.K Θ W (ev p c ie))) :
    PE X (.Compare a [op, op'] [b, e] pos) (tE X.K Θ W (ev p c (.cmp2 op op' ia ib ie))) :=
  peImp (pe_chain (pos := pos) (opCmp (Θ := Θ) (op := op) hu hw) (opCmp (Θ := Θ) (op := op') hu hw) ha hb he (show behindInMarks op' e = false from noMark hm)) fun σ H Q ⟨ρ, S, ι, s, r, q⟩ => chain_rd hu hw s r q
/-- a bool's truth is itself -/
theorem cmp2_bl {op op' : CmpOp} {ia ib ie : E} {ρ : Env} {S S' : Store} {z : D} (h : ev p c (.cmp2 op op' ia ib ie) ρ S = .ok z S') : ∃ b, z = .bl b := by
  unfold ev at h
  cases e1 : ev p c ia ρ S with
  | bad => rw [e1] at h; cases h
  | ex C fs S2 => rw [e1] at h; cases h
  | ok d S2 =>
    rw [e1] at h
    simp only [R.bind_ok] at h
    cases e2 : ev p c ib ρ S2 with
    | bad => rw [e2] at h; cases h
    | ex C fs S2 => rw [e2] at h; cases h
    | ok d2 S3 =>
      rw [e2] at h
      simp only [R.bind_ok] at h
      cases e3 : cmpD op d d2 S3 with
      | bad => rw [e3] at h; cases h
      | ex C fs S2 => rw [e3] at h; cases h
      | ok z1 S4 =>
        obtain ⟨b, rfl, rfl⟩ := cmpD_bl e3
        rw [e3] at h
        simp only [R.bind_ok] at h
        cases b with
        | false => cases h; exact ⟨_, rfl⟩
        | true =>
          dsimp only at h
          cases e4 : ev p c ie ρ S4 with
          | bad => rw [e4] at h; cases h
          | ex C fs S2 => rw [e4] at h; cases h
          | ok d3 S5 =>
            rw [e4] at h
            obtain ⟨b, rfl, _⟩ := cmpD_bl h
            exact ⟨b, rfl⟩
theorem ptCmp2 (hu : X.A.units + 65 < cLine) (hw : X.w = Θ.w) {op op' : CmpOp} {a b e : Expr} {ia ib ie : E} {pos : Pos} (hm : okIn e = true) (ha : PE X a (tE X.K Θ W (ev p c ia))) (hb : PE X b (tE X.K Θ W (ev p c ib))) (he : PE X e (tE X.K Θ W (ev p c ie))) :
    PT X (.Compare a [op, op'] [b, e] pos) (tT X.K Θ W (evT p c (.val (.cmp2 op op' ia ib ie)))) :=
  ptImp (pt_chain (pos := pos) (opCmp (Θ := Θ) (op := op) hu hw) (opCmp (Θ := Θ) (op := op') hu hw) ha hb he (show behindInMarks op' e = false from noMark hm)) fun σ H Q ⟨ρ, S, ι, s, r, q⟩ => by
    unfold evT at q
    refine chain_rd (Q := fun x H' => ∃ k, x = .bl k ∧ Q k H') hu hw s r ?_
    refine (q.bind (rel := rD X.K Θ)).imp ?_
    rintro z S1 ι1 H1 v e1 _ _ s1 r1 ⟨d, S2, ι2, p2, k2, s2, r2, q2⟩
    obtain ⟨b, h2, q2⟩ := q2.of
    obtain ⟨b', rfl⟩ := cmp2_bl e1
    rw [relBl r1] at r2 ⊢
    have : d = .bl b' := by
      cases d with
      | bl b2 => have := relBl r2; cases this; rfl
      | tup ds => obtain ⟨a, vs, e, _⟩ := relTup r2; cases e
      | rol ds => obtain ⟨a, vs, e, _⟩ := relRol r2; cases e
      | obj n => obtain ⟨a, e, _⟩ := relObj r2; cases e
      | non => have := relNon r2; cases this
      | int i => have := relInt r2; cases this
      | str i => have := relStr r2; cases this
      | fn f => have : V.bl b' = .ref (Θ.fA f) := r2; cases this
    subst this
    cases h2
    exact ⟨_, rfl, q2.ok s2 rfl⟩
end
end Z
end

section
set_option Elab.async false
set_option linter.all false
set_option maxRecDepth 100000
/-! ZG: slices, built-in functions and methods, what is walked, comprehensions. -/
namespace Z
open PySem L2
section
variable {X : Cx} {Θ : Nm} {p : Prg} {c : Nat → List D → Store → R D} {tb : Tb} {k : Nat} {W : WX}

/-! ### slices -/
theorem poNone : PO X none (tO X.K Θ W (evO p c .none)) := ⟨fun pins s σ H Q I ⟨ρ, S, ι, sim, r, q⟩ => po_none.run pins s σ H Q I (by unfold evO at q; exact q.ok sim rfl)⟩
theorem poSome {e : Expr} {ie : E} (h : PE X e (tE X.K Θ W (ev p c ie))) : PO X (some e) (tO X.K Θ W (evO p c (.some ie))) := ⟨fun pins s σ H Q I ⟨ρ, S, ι, sim, r, q⟩ => (po_some h).run pins s σ H Q I (by
  unfold evO at q
  refine ⟨ρ, S, ι, sim, r, (q.bind (rel := rD X.K Θ)).imp ?_⟩
  rintro _ _ _ H1 v _ _ _ _ _ ⟨d, S2, ι2, p2, k2, s2, r2, q2⟩
  cases d with
  | int i => exact ⟨i, relInt r2, q2.ok s2 rfl⟩
  | _ => exact q2.elim)⟩
theorem relCut {K : PySem.W.Frag} {ι : List Addr} {H : Hp} {ds : List D} {vs : List V} {lo hi : Option Int} (r : RelDs K Θ ι H ds vs) : RelDs K Θ ι H (cutD ds lo hi) (cutV vs lo hi) := by
  unfold cutD cutV
  rw [← r.length]
  exact (r.drop _).take _
theorem cut_whole {α : Type} {xs : List α} {lo hi : Option Int} (h1 : HT.sIx xs.length 0 lo = 0) (h2 : HT.sIx xs.length xs.length hi = xs.length) : cutD xs lo hi = xs := by
  unfold cutD
  rw [h1, h2]
  simp
def rSlZ (K : PySem.W.Frag) (Θ : Nm) : V → Option Int → Option Int → Hp → VK → Prop := fun x lo hi H Q => ∃ d S ι, Sim K Θ ι H S ∧ RelD K Θ ι H d x ∧ ∃ W σ, Post K Θ (rD K Θ) W σ ι H Q (slD d lo hi S)
theorem slD_ok : SlR X (rSlZ X.K Θ) := by
  intro pins s σ H x v vl vu lo hi sl Q I rx hs pl pu ⟨d, S, ι, sim, rd, W, σ', q⟩
  unfold slD at q
  split at q
  · rename_i ds
    obtain ⟨a, vs, rfl, h1, r1⟩ := relTup rd
    refine sl_tupA pins s σ H _ v vl vu lo hi sl Q I rx hs pl pu ⟨a, vs, rfl, h1, fun hw => ?_, fun _ p hp => ?_⟩
    · refine q.ok sim (relTupMk h1 ?_)
      rw [← r1.length] at hw
      rw [cut_whole hw.1 hw.2]
      exact r1
    · exact q ι _ _ (Pre.refl _) (Keep.fresh hp) (sim.fresh hp) (relTupMk (.inl (.inl upd_same)) (RelDs.mono (Pre.refl _) (Keep.fresh hp) _ _ (relCut r1)))
  · rename_i ds
    obtain ⟨a, vs, rfl, h1, r1⟩ := relRol rd
    exact sl_list pins s σ H _ v vl vu lo hi sl Q I rx hs pl pu ⟨a, vs, rfl, h1.l, fun p hp => q.new sim hp ⟨_, upd_same, RelDs.mono (Pre.snoc _ _) (Keep.fresh hp) _ _ (relCut r1)⟩⟩
  · rename_i n
    obtain ⟨a, rfl, ha⟩ := relObj rd
    split at q
    · rename_i ds e1
      obtain ⟨vs, h1, r1⟩ := sim.ok _ _ _ e1 ha
      exact sl_list pins s σ H _ v vl vu lo hi sl Q I rx hs pl pu ⟨a, vs, rfl, .of h1, fun p hp => q.new sim hp ⟨_, upd_same, RelDs.mono (Pre.snoc _ _) (Keep.fresh hp) _ _ (relCut r1)⟩⟩
    · exact q.elim
  · exact q.elim
theorem peSl {e : Expr} {lo hi : Option Expr} {ie : E} {il ih : O} {p2 pos : Pos} (he : PE X e (tE X.K Θ W (ev p c ie))) (hl : PO X lo (tO X.K Θ W (evO p c il))) (hh : PO X hi (tO X.K Θ W (evO p c ih))) :
    PE X (.Subscript e (.Slice lo hi none p2) pos) (tE X.K Θ W (ev p c (.sl ie il ih))) := peImp (pe_slice (slD_ok (Θ := Θ)) he hl hh) fun σ H Q ⟨ρ, S, ι, s, r, q⟩ => by
  unfold ev at q
  refine ⟨ρ, S, ι, s, r, (q.bind (rel := rD X.K Θ)).imp ?_⟩
  rintro _ _ _ H1 v _ _ _ _ _ ⟨d, S2, ι2, p2, k2, s2, r2, q2⟩
  refine ⟨ρ, S2, ι2, s2, r.mono p2 k2, (Post.bind (rel := rO) q2).imp ?_⟩
  rintro _ _ _ H3 l _ _ _ _ _ ⟨l', S3, ι3, p3, k3, s3, r3, q3⟩
  have r3 : l = l' := r3
  subst r3
  refine ⟨ρ, S3, ι3, s3, (r.mono p2 k2).mono p3 k3, (Post.bind (rel := rO) q3).imp ?_⟩
  rintro _ _ _ H4 h _ _ _ _ _ ⟨h', S4, ι4, p4, k4, s4, r4, q4⟩
  have r4 : h = h' := r4
  subst r4
  exact ⟨d, S4, ι4, s4, RelD.mono p4 k4 _ _ (RelD.mono p3 k3 _ _ r2), W, σ, q4⟩

/-! ### built-in functions -/
theorem rels1 {K : PySem.W.Frag} {ι : List Addr} {H : Hp} {d : D} {vs : List V} (r : RelDs K Θ ι H [d] vs) : ∃ v, vs = [v] ∧ RelD K Θ ι H d v := by
  unfold RelDs at r
  obtain ⟨v, t, rfl, a, b⟩ := r
  unfold RelDs at b
  subst b
  exact ⟨v, rfl, a⟩
theorem rels2 {K : PySem.W.Frag} {ι : List Addr} {H : Hp} {d e : D} {vs : List V} (r : RelDs K Θ ι H [d, e] vs) : ∃ v w, vs = [v, w] ∧ RelD K Θ ι H d v ∧ RelD K Θ ι H e w := by
  unfold RelDs at r
  obtain ⟨v, t, rfl, a, b⟩ := r
  obtain ⟨w, rfl, b1⟩ := rels1 b
  exact ⟨v, w, rfl, a, b1⟩
theorem relInts {K : PySem.W.Frag} {ι : List Addr} {H : Hp} : ∀ {ds : List D} {ns : List Int} {vs : List V}, intsOf ds = some ns → RelDs K Θ ι H ds vs → vs = ns.map V.int
  | [], ns, vs, e, r => by
    unfold intsOf at e; cases e
    unfold RelDs at r; subst r; rfl
  | d :: ds, ns, vs, e, r => by
    cases d with
    | int i =>
      unfold intsOf at e
      obtain ⟨ms, e1, rfl⟩ := Option.map_eq_some_iff.mp e
      unfold RelDs at r
      obtain ⟨v, t, rfl, a, b⟩ := r
      rw [relInt a, relInts e1 b]; rfl
    | _ => unfold intsOf at e; cases e
theorem relBools {K : PySem.W.Frag} {ι : List Addr} {H : Hp} : ∀ {ds : List D} {ns : List Bool} {vs : List V}, boolsOf ds = some ns → RelDs K Θ ι H ds vs → vs = ns.map V.bl
  | [], ns, vs, e, r => by
    unfold boolsOf at e; cases e
    unfold RelDs at r; subst r; rfl
  | d :: ds, ns, vs, e, r => by
    cases d with
    | bl i =>
      unfold boolsOf at e
      obtain ⟨ms, e1, rfl⟩ := Option.map_eq_some_iff.mp e
      unfold RelDs at r
      obtain ⟨v, t, rfl, a, b⟩ := r
      rw [relBl a, relBools e1 b]; rfl
    | _ => unfold boolsOf at e; cases e
theorem relOfInts {K : PySem.W.Frag} {ι : List Addr} {H : Hp} : ∀ ns : List Int, RelDs K Θ ι H (ns.map D.int) (ns.map V.int)
  | [] => RelDs.nil
  | n :: ns => RelDs.cons rfl (relOfInts ns)
/-- the sorted list is one -/
theorem insInt_perm (i : Int) : ∀ l : List Int, (insInt i l).Perm (i :: l)
  | [] => .refl _
  | j :: r => by
    unfold insInt
    split
    · exact .refl _
    · exact ((insInt_perm i r).cons j).trans (.swap i j r)
theorem sortInt_perm : ∀ l : List Int, (sortInt l).Perm l
  | [] => .refl _
  | i :: r => (insInt_perm i _).trans ((sortInt_perm r).cons i)
theorem insInt_sorted (i : Int) : ∀ l : List Int, l.Pairwise (· ≤ ·) → (insInt i l).Pairwise (· ≤ ·)
  | [], _ => by simp [insInt]
  | j :: r, h => by
    unfold insInt
    rw [List.pairwise_cons] at h
    split
    · rename_i hij
      refine List.pairwise_cons.mpr ⟨fun x hx => ?_, List.pairwise_cons.mpr h⟩
      rcases List.mem_cons.mp hx with rfl | hx
      · exact hij
      · exact Int.le_trans hij (h.1 x hx)
    · rename_i hij
      refine List.pairwise_cons.mpr ⟨fun x hx => ?_, insInt_sorted i r h.2⟩
      rcases List.mem_cons.mp ((insInt_perm i r).mem_iff.mp hx) with rfl | hx
      · omega
      · exact h.1 x hx
theorem sortInt_sorted : ∀ l : List Int, (sortInt l).Pairwise (· ≤ ·)
  | [] => .nil
  | i :: r => insInt_sorted i _ (sortInt_sorted r)
theorem sorted_unique : ∀ {a b : List Int}, a.Perm b → a.Pairwise (· ≤ ·) → b.Pairwise (· ≤ ·) → a = b
  | [], b, h, _, _ => by rw [List.Perm.nil_eq h]
  | x :: a, [], h, _, _ => by cases h.symm.nil_eq
  | x :: a, y :: b, h, ha, hb => by
    rw [List.pairwise_cons] at ha hb
    have e : x = y := by
      have h1 : x ∈ y :: b := h.mem_iff.mp List.mem_cons_self
      have h2 : y ∈ x :: a := h.mem_iff.mpr List.mem_cons_self
      rcases List.mem_cons.mp h1 with e | h1
      · exact e
      · rcases List.mem_cons.mp h2 with e | h2
        · exact e.symm
        · exact Int.le_antisymm (ha.1 y h2) (hb.1 x h1)
    subst e
    rw [sorted_unique (List.Perm.cons_inv h) ha.2 hb.2]
/-- how a built-in function stands -/
def bV : B → Value
  | .len => .builtin "len" | .abs => .builtin "abs" | .int => .type "int" | .str => .type "str" | .list => .type "list" | .tuple => .type "tuple"
  | .all => .builtin "all" | .any => .builtin "any" | .sum => .builtin "sum" | .max => .builtin "max" | .min => .builtin "min" | .sorted => .builtin "sorted" | .gcd => .builtin "math.gcd"
def rBl (K : PySem.W.Frag) (Θ : Nm) (f : B) : List V → Hp → VK → Prop := fun vs H Q => ∃ ds S ι, Sim K Θ ι H S ∧ RelDs K Θ ι H ds vs ∧ ∃ W σ, Post K Θ (rD K Θ) W σ ι H Q (bltD f ds S)
theorem listAt_rel {K : PySem.W.Frag} {ι : List Addr} {H : Hp} {S : Store} {d : D} {v : V} {ds : List D} (sim : Sim K Θ ι H S) (r : RelD K Θ ι H d v) (h : listAt S d = some ds) :
    ∃ a vs, v = .ref a ∧ (SqL K H a vs ∨ (SqT K H a vs ∧ d = .tup ds)) ∧ RelDs K Θ ι H ds vs := by
  unfold listAt at h
  split at h
  · cases h
    obtain ⟨a, vs, rfl, h1, r1⟩ := relTup r
    exact ⟨a, vs, rfl, .inr ⟨h1, rfl⟩, r1⟩
  · cases h
    obtain ⟨a, vs, rfl, h1, r1⟩ := relRol r
    exact ⟨a, vs, rfl, .inl h1.l, r1⟩
  · obtain ⟨a, rfl, ha⟩ := relObj r
    split at h
    · rename_i e1
      cases h
      obtain ⟨vs, h1, r1⟩ := sim.ok _ _ _ e1 ha
      exact ⟨a, vs, rfl, .inl (.of h1), r1⟩
    · cases h
  · cases h
theorem relKeys {K : PySem.W.Frag} {ι : List Addr} {H : Hp} : ∀ (l : List (Key × D)) (r : List (Key × V)), RelK K Θ ι H l r → l.map (·.1) = r.map (·.1)
  | [], r, h => by rw [show r = [] from h]; rfl
  | (j, d) :: l, r, h => by
    obtain ⟨v, t, rfl, a, b⟩ := h
    simp [relKeys l t b]
theorem relK_len {K : PySem.W.Frag} {ι : List Addr} {H : Hp} {κ : Type} : ∀ (l : List (κ × D)) (r : List (κ × V)), RelK K Θ ι H l r → l.length = r.length
  | [], r, h => by rw [show r = [] from h]; rfl
  | (j, d) :: l, r, h => by
    obtain ⟨v, t, rfl, a, b⟩ := h
    simp [relK_len l t b]
theorem intsKeys : ∀ {l : List (Key × D)} {ns : List Int}, intsOf (l.map fun kv => kD kv.1) = some ns → l.map (·.1) = ns.map Sum.inl
  | [], ns, e => by
    unfold intsOf at e; cases e; rfl
  | (.inl i, d) :: l, ns, e => by
    simp only [List.map_cons, kD] at e
    unfold intsOf at e
    obtain ⟨ms, e1, rfl⟩ := Option.map_eq_some_iff.mp e
    simp [intsKeys e1]
  | (.inr i, d) :: l, ns, e => by
    simp only [List.map_cons, kD] at e
    unfold intsOf at e; cases e
theorem bltD_ok (hc : X.calm = true) (f : B) : CallR X (bV f) (rBl X.K Θ f) := by
  intro pins s σ H xs us Q I r ⟨ds, S, ι, sim, rd, W, σ', q⟩
  unfold bltD at q
  split at q
  · -- len
    rename_i d
    obtain ⟨v, rfl, rd1⟩ := rels1 rd
    split at q
    · rename_i z
      split at q
      · rename_i hl
        exact call_len pins s σ H _ us Q I r ⟨v, z.length, rfl, by rw [relStr rd1]; exact ⟨by rw [← line_eq]; exact hl, rfl⟩, q.ok sim rfl⟩
      · exact q.elim
    · rename_i ds
      obtain ⟨a, vs, rfl, h1, r1⟩ := relTup rd1
      exact call_len pins s σ H _ us Q I r ⟨_, vs.length, rfl, .inr ⟨vs, h1, rfl⟩, q.ok sim (by rw [r1.length]; rfl)⟩
    · rename_i ds
      obtain ⟨a, vs, rfl, h1, r1⟩ := relRol rd1
      exact call_len pins s σ H _ us Q I r ⟨_, vs.length, rfl, .inl ⟨vs, h1.l, rfl⟩, q.ok sim (by rw [r1.length]; rfl)⟩
    · rename_i n
      obtain ⟨a, rfl, ha⟩ := relObj rd1
      split at q
      · rename_i ds e1
        obtain ⟨vs, h1, r1⟩ := sim.ok _ _ _ e1 ha
        exact call_len pins s σ H _ us Q I r ⟨_, vs.length, rfl, .inl ⟨vs, .of h1, rfl⟩, q.ok sim (by rw [r1.length]; rfl)⟩
      · rename_i kvs e1
        obtain ⟨vs, h1, r1⟩ := sim.ok _ _ _ e1 ha
        rw [Vals.ref1 r]
        exact d_len I (.inl h1) fun t s' I' => ⟨.int vs.length, H, I', ⟨t, rfl⟩, q.ok sim (by rw [relK_len _ _ r1]; rfl)⟩
      · exact q.elim
    · exact q.elim
  · rename_i i
    obtain ⟨v, rfl, rd1⟩ := rels1 rd
    exact call_abs pins s σ H _ us Q I r ⟨i, by rw [relInt rd1], q.ok sim rfl⟩
  · rename_i i
    obtain ⟨v, rfl, rd1⟩ := rels1 rd
    exact call_int1 pins s σ H _ us Q I r (.inl ⟨i, by rw [relInt rd1], q.ok sim rfl⟩)
  · rename_i b
    obtain ⟨v, rfl, rd1⟩ := rels1 rd
    exact call_int1 pins s σ H _ us Q I r (.inr ⟨b, by rw [relBl rd1], q.ok sim rfl⟩)
  · rename_i i
    obtain ⟨v, rfl, rd1⟩ := rels1 rd
    split at q
    · rename_i hl
      exact call_str_int pins s σ H _ us Q I r ⟨i, by rw [relInt rd1], hl, q.ok sim rfl⟩
    · exact q.elim
  · -- list
    rename_i d
    obtain ⟨v, rfl, rd1⟩ := rels1 rd
    split at q
    · rename_i ds e1
      obtain ⟨a, vs, rfl, h1, r1⟩ := listAt_rel sim rd1 e1
      exact call_list_of pins s σ H _ us Q I r ⟨a, vs, rfl, h1.imp id (·.1), fun l hl => q.new sim hl ⟨vs, upd_same, RelDs.mono (Pre.snoc _ _) (Keep.fresh hl) _ _ r1⟩⟩
    · exact q.elim
  · -- tuple
    rename_i d
    obtain ⟨v, rfl, rd1⟩ := rels1 rd
    split at q
    · rename_i ds e1
      obtain ⟨a, vs, rfl, h1, r1⟩ := listAt_rel sim rd1 e1
      refine call_tuple_of pins s σ H _ us Q I r ⟨a, vs, rfl, h1.imp (fun h => ⟨h, fun l hl => ?_⟩) fun h => ⟨h.1, q.ok sim (relTupMk h.1 r1)⟩⟩
      exact q ι _ _ (Pre.refl _) (Keep.fresh hl) (sim.fresh hl) (relTupMk (.inl (.inl upd_same)) (RelDs.mono (Pre.refl _) (Keep.fresh hl) _ _ r1))
    · exact q.elim
  · -- all
    rename_i n
    obtain ⟨v, rfl, rd1⟩ := rels1 rd
    obtain ⟨a, rfl, ha⟩ := relObj rd1
    split at q
    · rename_i ds e1
      obtain ⟨vs, h1, r1⟩ := sim.ok _ _ _ e1 ha
      obtain ⟨b, h, q⟩ := q.of
      obtain ⟨bs, h2, rfl⟩ := Option.map_eq_some_iff.mp h
      have := relBools h2 r1
      subst this
      exact cr_all hc pins s σ H _ us Q I r ⟨a, bs, rfl, .of h1, q.ok sim rfl⟩
    · exact q.elim
  · -- any
    rename_i n
    obtain ⟨v, rfl, rd1⟩ := rels1 rd
    obtain ⟨a, rfl, ha⟩ := relObj rd1
    split at q
    · rename_i ds e1
      obtain ⟨vs, h1, r1⟩ := sim.ok _ _ _ e1 ha
      obtain ⟨b, h, q⟩ := q.of
      obtain ⟨bs, h2, rfl⟩ := Option.map_eq_some_iff.mp h
      have := relBools h2 r1
      subst this
      exact cr_any hc pins s σ H _ us Q I r ⟨a, bs, rfl, .of h1, q.ok sim rfl⟩
    · exact q.elim
  · -- gcd
    rename_i i j
    obtain ⟨v, w, rfl, r1, r2⟩ := rels2 rd
    exact cr_gcd pins s σ H _ us Q I r ⟨i, j, by rw [relInt r1, relInt r2], q.ok sim rfl⟩
  · -- sorted
    rename_i n
    obtain ⟨v, rfl, rd1⟩ := rels1 rd
    obtain ⟨a, rfl, ha⟩ := relObj rd1
    split at q
    · rename_i ds e1
      obtain ⟨vs, h1, r1⟩ := sim.ok _ _ _ e1 ha
      split at q
      · rename_i ns e2
        split at q
        · rename_i hl
          have := relInts e2 r1
          subst this
          refine cr_sorted pins s σ H _ us Q I r ⟨a, ns, rfl, .of h1, hl, fun ns' pp h2 h3 h4 => ?_⟩
          have e : ns' = sortInt ns := sorted_unique (h2.trans (sortInt_perm ns).symm) h3 (sortInt_sorted ns)
          subst e
          exact q.new sim h4 ⟨_, upd_same, relOfInts _⟩
        · exact q.elim
      · exact q.elim
    · rename_i kvs e1
      obtain ⟨vs, h1, r1⟩ := sim.ok _ _ _ e1 ha
      split at q
      · rename_i ns e2
        split at q
        · rename_i hl
          have hk := intsKeys e2
          rw [relKeys _ _ r1] at hk
          refine call_sortedDI hc pins s σ H _ us Q I r ⟨a, vs, ns, rfl, .inl h1, hk, hl, fun ns' pp h2 h3 h4 => ?_⟩
          have e : ns' = sortInt ns := sorted_unique (h2.trans (sortInt_perm ns).symm) h3 (sortInt_sorted ns)
          subst e
          exact q.new sim h4 ⟨_, upd_same, relOfInts _⟩
        · exact q.elim
      · exact q.elim
    · exact q.elim
  · exact q.elim
end
end Z
end

section
set_option Elab.async false
set_option linter.all false
set_option maxRecDepth 100000
/-! ZH: calls of built-in functions and methods, isinstance, list(range(..)), what is walked, comprehensions. -/
namespace Z
open PySem L2
section
variable {X : Cx} {Θ : Nm} {p : Prg} {c : Nat → List D → Store → R D} {tb : Tb} {k : Nat} {W : WX}

/-! ### built-in functions -/
def bN : B → Str
  | .len => "len" | .abs => "abs" | .int => "int" | .str => "str" | .list => "list" | .tuple => "tuple"
  | .all => "all" | .any => "any" | .sum => "sum" | .max => "max" | .min => "min" | .sorted => "sorted" | .gcd => "gcd"
theorem bltRd {f : B} {irs : Es} {σ : St} {H : Hp} {Q : VK} (h : tE X.K Θ W (ev p c (.blt f irs)) σ H Q) : tCB (rBl X.K Θ f) (tA X.K Θ W (evs p c irs)) σ H Q := by
  obtain ⟨ρ, S, ι, s, r, q⟩ := h
  unfold ev at q
  refine ⟨ρ, S, ι, s, r, (q.bind (rel := rDs X.K Θ)).imp ?_⟩
  rintro _ _ _ H1 vs _ _ _ _ _ ⟨ds, S2, ι2, p2, k2, s2, r2, q2⟩
  exact ⟨ds, S2, ι2, s2, r2, W, σ, q2⟩
theorem peBlt (G : Good X Θ p c tb k) {f : B} {e : Expr} {es : List Expr} {irs : Es} {pp pos : Pos} (hg : Gl X (bN f)) (hb : if f = .gcd then tb.gc = true else tb.bl (bN f) = true) (h1 : isSt e = false) (hst : es.all (fun e => !isSt e) = true)
    (ha : PA X (e :: es) (tA X.K Θ W (evs p c irs))) : PE X (.Call (.Name (bN f) pp) (e :: es) [] pos) (tE X.K Θ W (ev p c (.blt f irs))) := by
  have hc := bltD_ok (X := X) (Θ := Θ) G.calm f
  cases f with
  | gcd => exact peImp (pe_callBfun hc hg (G.gc hb) ha (by decide) (star_of h1) (star_plain hst)) fun σ H Q h => bltRd h
  | len => exact peImp (pe_callB hc hg (G.bl _ hb) rfl ha (by decide) (by decide) (star_of h1) (star_plain hst)) fun σ H Q h => bltRd h
  | abs => exact peImp (pe_callB hc hg (G.bl _ hb) rfl ha (by decide) (by decide) (star_of h1) (star_plain hst)) fun σ H Q h => bltRd h
  | all => exact peImp (pe_callB hc hg (G.bl _ hb) rfl ha (by decide) (by decide) (star_of h1) (star_plain hst)) fun σ H Q h => bltRd h
  | any => exact peImp (pe_callB hc hg (G.bl _ hb) rfl ha (by decide) (by decide) (star_of h1) (star_plain hst)) fun σ H Q h => bltRd h
  | sum => exact peImp (pe_callB hc hg (G.bl _ hb) rfl ha (by decide) (by decide) (star_of h1) (star_plain hst)) fun σ H Q h => bltRd h
  | max => exact peImp (pe_callB hc hg (G.bl _ hb) rfl ha (by decide) (by decide) (star_of h1) (star_plain hst)) fun σ H Q h => bltRd h
  | min => exact peImp (pe_callB hc hg (G.bl _ hb) rfl ha (by decide) (by decide) (star_of h1) (star_plain hst)) fun σ H Q h => bltRd h
  | sorted => exact peImp (pe_callB hc hg (G.bl _ hb) rfl ha (by decide) (by decide) (star_of h1) (star_plain hst)) fun σ H Q h => bltRd h
  | int => exact peImp (pe_callTy hc hg (G.bl _ hb) rfl ha (by decide) (by decide) (star_of h1) (star_plain hst)) fun σ H Q h => bltRd h
  | str => exact peImp (pe_callTy hc hg (G.bl _ hb) rfl ha (by decide) (by decide) (star_of h1) (star_plain hst)) fun σ H Q h => bltRd h
  | list => exact peImp (pe_callTy hc hg (G.bl _ hb) rfl ha (by decide) (by decide) (star_of h1) (star_plain hst)) fun σ H Q h => bltRd h
  | tuple => exact peImp (pe_callTy hc hg (G.bl _ hb) rfl ha (by decide) (by decide) (star_of h1) (star_plain hst)) fun σ H Q h => bltRd h

/-! ### built-in methods -/
def bmN : BM → Str
  | .append => "append" | .pop => "pop" | .popAt => "pop" | .get => "get" | .join => "join" | .items => "items" | .keys => "keys"
/-- the receiver: a list -/
theorem bmT_list {m : BM} {d : D} {S : Store} (hm : m = .append ∨ m = .pop ∨ m = .popAt) (h : bmT m d S = true) : ∃ n ds, d = .obj n ∧ S[n]? = some (.lst ds) := by
  unfold bmT at h
  rcases hm with rfl | rfl | rfl <;> (split at h <;> first | (rename_i e; cases e; done) | skip)
  all_goals first
    | (rename_i n e; split at h <;> first | exact ⟨_, _, rfl, by assumption⟩ | cases h)
    | (rename_i n; split at h <;> first | exact ⟨_, _, rfl, by assumption⟩ | cases h)
    | (cases h)
def rBM (K : PySem.W.Frag) (Θ : Nm) (m : BM) : V → List V → Hp → VK → Prop := fun x vs H Q => ∃ d ds S ι, Sim K Θ ι H S ∧ RelD K Θ ι H d x ∧ RelDs K Θ ι H ds vs ∧ ∃ W σ, Post K Θ (rD K Θ) W σ ι H Q (bmD m d ds S)
theorem bm_append : MtR X "list.append" (rBM X.K Θ .append) := by
  intro pins s σ H x vs v us Q I rx rv ⟨d, ds, S, ι, sim, rd, rs, W, σ', q⟩
  unfold bmD at q
  split at q
  · rename_i n y
    obtain ⟨a, rfl, ha⟩ := relObj rd
    obtain ⟨z, rfl, r1⟩ := rels1 rs
    split at q
    · rename_i xs e1
      obtain ⟨ws, h1, r2⟩ := sim.ok _ _ _ e1 ha
      split at q
      · rename_i hl
        refine mt_append pins s σ H _ _ v us Q I rx rv ⟨a, ws, z, rfl, rfl, h1, by rw [← r2.length, ← line_eq]; exact hl, ?_⟩
        have kp : Keep H (upd H a (.lst (ws ++ [z]))) := Keep.write h1 rfl
        exact q ι _ _ (Pre.refl _) kp (sim.write h1 rfl ha ⟨_, upd_same, RelDs.app (RelDs.mono (Pre.refl _) kp _ _ r2) (RelDs.cons (RelD.mono (Pre.refl _) kp _ _ r1) RelDs.nil)⟩) rfl
      · exact q.elim
    · exact q.elim
  · contradiction
  · contradiction
  · exact q.elim
theorem bm_pop : MtR X "list.pop" (rBM X.K Θ .pop) := by
  intro pins s σ H x vs v us Q I rx rv ⟨d, ds, S, ι, sim, rd, rs, W, σ', q⟩
  unfold bmD at q
  split at q
  · contradiction
  · rename_i n
    obtain ⟨a, rfl, ha⟩ := relObj rd
    unfold RelDs at rs
    subst rs
    split at q
    · rename_i xs e1
      obtain ⟨ws, h1, r2⟩ := sim.ok _ _ _ e1 ha
      split at q
      · rename_i y e2
        obtain ⟨z, e3, r3⟩ := r2.get e2
        rw [r2.length] at e3
        refine mt_pop pins s σ H _ _ v us Q I rx rv ⟨a, ws, z, rfl, rfl, h1, e3, ?_⟩
        have kp : Keep H (upd H a (.lst ws.dropLast)) := Keep.write h1 rfl
        exact q ι _ _ (Pre.refl _) kp (sim.write h1 rfl ha ⟨_, upd_same, RelDs.mono (Pre.refl _) kp _ _ r2.dropLast⟩) (RelD.mono (Pre.refl _) kp _ _ r3)
      · exact q.elim
    · exact q.elim
  · contradiction
  · exact q.elim
theorem bm_popAt : MtR X "list.pop" (rBM X.K Θ .popAt) := by
  intro pins s σ H x vs v us Q I rx rv ⟨d, ds, S, ι, sim, rd, rs, W, σ', q⟩
  unfold bmD at q
  split at q
  · contradiction
  · contradiction
  · rename_i n i _
    obtain ⟨a, rfl, ha⟩ := relObj rd
    obtain ⟨z, rfl, r1⟩ := rels1 rs
    have := relInt r1
    subst this
    split at q
    · rename_i xs e1
      obtain ⟨ws, h1, r2⟩ := sim.ok _ _ _ e1 ha
      split at q
      · rename_i j e0
        split at q
        · rename_i y e2
          obtain ⟨z, e3, r3⟩ := r2.get e2
          have e0 := e0
          rw [r2.length] at e0
          obtain ⟨h2, h3, h4, h5⟩ := ixN_seq e0
          have hz := (I.lstM h1).1
          have hz : ws.length ≤ 16777216 := by rw [← sizeLine_eq]; exact hz
          refine mt_popAt pins s σ H _ _ v us Q I rx rv ⟨a, ws, i, j, z, rfl, rfl, h1, by omega, by omega, h2, e3, ?_⟩
          have kp : Keep H (upd H a (.lst (ws.eraseIdx j))) := Keep.write h1 rfl
          exact q ι _ _ (Pre.refl _) kp (sim.write h1 rfl ha ⟨_, upd_same, RelDs.mono (Pre.refl _) kp _ _ (r2.erase j)⟩) (RelD.mono (Pre.refl _) kp _ _ r3)
        · exact q.elim
      · exact q.elim
    · exact q.elim
  · exact q.elim
theorem bmRd {m : BM} (hm : m = .append ∨ m = .pop ∨ m = .popAt) {io : E} {irs : Es} {σ : St} {H : Hp} {Q : VK} (h : tE X.K Θ W (ev p c (.bm io m irs)) σ H Q) : tBM X.K "list" (rBM X.K Θ m) (tE X.K Θ W (ev p c io)) (tA X.K Θ W (evs p c irs)) σ H Q := by
  obtain ⟨ρ, S, ι, s, r, q⟩ := h
  unfold ev at q
  refine ⟨ρ, S, ι, s, r, (q.bind (rel := rD X.K Θ)).imp ?_⟩
  rintro _ _ _ H1 v _ _ _ _ _ ⟨d, S2, ι2, p2, k2, s2, r2, q2⟩
  split at q2
  · rename_i hT
    obtain ⟨n, ds, rfl, e1⟩ := bmT_list hm hT
    obtain ⟨a, rfl, ha⟩ := relObj r2
    obtain ⟨ws, h1, _⟩ := s2.ok _ _ _ e1 ha
    refine ⟨.inl ⟨rfl, ws, .of h1⟩, ρ, S2, ι2, s2, r.mono p2 k2, (Post.bind (rel := rDs X.K Θ) q2).imp ?_⟩
    rintro _ _ _ H3 vs _ _ _ _ _ ⟨ys, S3, ι3, p3, k3, s3, r3, q3⟩
    exact ⟨.obj n, ys, S3, ι3, s3, RelD.mono p3 k3 _ _ r2, r3, W, σ, q3⟩
  · exact q2.elim
theorem bmFew {pos : Pos} {es : List Expr} {env : PySem.Env} (hst : es.all (fun e => !isSt e) = true) (hn : es.length < 30) : ((backTo pos (starEach es env)).all (fun x => !x.1) && (backToKw pos (keywordEach [] env)).all (fun x => x.1.isSome)
      && decide (es.length + ([] : List Keyword).length + (if ([] : List Keyword).isEmpty then 0 else 1) < 30)) = true := by
  rw [star_all hst]
  show (true && true && decide (es.length + 0 + 0 < 30)) = true
  simp [hn]
theorem peBm {m : BM} (hm : m = .append ∨ m = .popAt) {o e : Expr} {io : E} {irs : Es} {apos pos : Pos} (hb : noSup o = true) (hli : (apos.endLine == pos.line) = true) (h1 : isSt e = false) (ho : PE X o (tE X.K Θ W (ev p c io)))
    (ha : PA X [e] (tA X.K Θ W (evs p c irs))) : PE X (.Call (.Attribute o (bmN m) apos) [e] [] pos) (tE X.K Θ W (ev p c (.bm io m irs))) := by
  have hst : [e].all (fun e => !isSt e) = true := by simp [h1]
  rcases hm with rfl | rfl
  · exact peImp (pe_bm PySem.F.plainAttrs_list PySem.F.slot_list_append PySem.F.type_list_append bm_append ho ha (attrB hb) (bmFew hst (by show 1 < 30; omega)) hli (star_of h1) (by rfl)) fun σ H Q h => bmRd (.inl rfl) h
  · exact peImp (pe_bm PySem.F.plainAttrs_list PySem.F.slot_list_pop PySem.F.type_list_pop bm_popAt ho ha (attrB hb) (bmFew hst (by show 1 < 30; omega)) hli (star_of h1) (by rfl)) fun σ H Q h => bmRd (.inr (.inr rfl)) h
theorem peBm0 {o : Expr} {io : E} {apos pos : Pos} (hb : noSup o = true) (hli : (apos.endLine == pos.line) = true) (ho : PE X o (tE X.K Θ W (ev p c io))) :
    PE X (.Call (.Attribute o "pop" apos) [] [] pos) (tE X.K Θ W (ev p c (.bm io .pop .nil))) := by
  refine peImp (pe_bm0 PySem.F.plainAttrs_list PySem.F.slot_list_pop PySem.F.type_list_pop (bm_pop (Θ := Θ)) ho (attrB hb) hli) fun σ H Q h => ?_
  have h := bmRd (.inr (.inl rfl)) h
  obtain ⟨ρ, S, ι, s, r, q⟩ := h
  refine ⟨ρ, S, ι, s, r, q.imp ?_⟩
  rintro _ _ _ H1 v _ _ _ _ _ ⟨ty, ρ, S2, ι2, s2, r2, q2⟩
  refine ⟨ty, ?_⟩
  unfold evs at q2
  exact q2.ok s2 RelDs.nil

/-! ### isinstance -/
def tyS : Nat → String
  | 0 => "int" | 1 => "tuple" | 2 => "list" | 3 => "str" | 4 => "bool" | _ => "dict"
def tyE : Nat → Str
  | 0 => "int" | 1 => "tuple" | 2 => "list" | 3 => "str" | 4 => "bool" | _ => "dict"
theorem kitAll : ∀ T, T < 6 → kitB "int" (tyS T) = some (T == 0) ∧ kitB "tuple" (tyS T) = some (T == 1) ∧ kitB "list" (tyS T) = some (T == 2) ∧ kitB "str" (tyS T) = some (T == 3) ∧ kitB "NoneType" (tyS T) = some false := by decide +kernel
theorem tupTy {K : PySem.W.Frag} {H : Hp} {a : Addr} {vs : List V} (h : SqT K H a vs) : TyX K H (.ref a) (.type "tuple") := by
  rcases h with (h | ⟨o, h⟩) | ⟨o, its, n, h1, h2, _⟩
  · exact .base (.tup h)
  · exact .fTuple h
  · exact .kTuple h1 h2
theorem isT_ok {T : Nat} (hT : T < 6) {ia : E} {σ : St} {H : Hp} {Q : VK} (h : tE X.K Θ W (ev p c (.isT ia T)) σ H Q) :
    tCB (rIsi X.K) (tCons (tE X.K Θ W (ev p c ia)) (tCons (tC (.ty (tyS T))) tNil)) σ H Q := by
  obtain ⟨ρ, S, ι, s, r, q⟩ := h
  unfold ev at q
  refine ⟨ρ, S, ι, s, r, (q.bind (rel := rD X.K Θ)).imp ?_⟩
  rintro _ _ _ H1 v _ _ _ _ _ ⟨d, S2, ι2, p2, k2, s2, r2, q2⟩
  obtain ⟨z, hz, q2⟩ := q2.of
  obtain ⟨b, hb, rfl⟩ := Option.map_eq_some_iff.mp hz
  obtain ⟨k0, k1, k2', k3, k4⟩ := kitAll T hT
  have fin : ∀ {t : String}, TyX X.K H1 v (.type t) → kitB t (tyS T) = some b → rIsi X.K [v, .ty (tyS T)] H1 Q := fun {t} ht hk =>
    ⟨v, .ty (tyS T), .type t, .type (tyS T), b, rfl, .ty _, ht, kit_ty hk, q2.ok s2 rfl⟩
  show rIsi X.K [v, .ty (tyS T)] H1 Q
  unfold isTD at hb
  split at hb
  · cases hb; cases relInt r2; exact fin (.base (.int _)) k0
  · cases hb
    obtain ⟨a, vs, rfl, h1, _⟩ := relTup r2
    exact fin (tupTy h1) k1
  · cases hb; cases relStr r2; exact fin (.base (.str _)) k3
  · cases hb; cases relNon r2; exact fin (.base .non) k4
  · rename_i n
    obtain ⟨a, rfl, ha⟩ := relObj r2
    split at hb
    · rename_i ds e1
      cases hb
      obtain ⟨ws, h1, _⟩ := s2.ok _ _ _ e1 ha
      exact fin (.base (.lst h1)) k2'
    · cases hb
  · cases hb
theorem boot_ty : ∀ {T : Nat}, T < 6 → bootBuiltins (tyE T) = some (.type (tyS T)) ∧ tyE T ≠ "__name__" ∧ (tyE T == ("__debug__" : Str)) = false
  | 0, _ => ⟨rfl, by decide, by decide⟩
  | 1, _ => ⟨rfl, by decide, by decide⟩
  | 2, _ => ⟨rfl, by decide, by decide⟩
  | 3, _ => ⟨rfl, by decide, by decide⟩
  | 4, _ => ⟨rfl, by decide, by decide⟩
  | 5, _ => ⟨rfl, by decide, by decide⟩
theorem peIsT (G : Good X Θ p c tb k) {T : Nat} (hT : T < 6) {a : Expr} {ia : E} {pp pt pos : Pos} (hg : Gl X "isinstance") (hb : tb.bl "isinstance" = true) (hg2 : Gl X (tyE T)) (hb2 : tb.bl (tyE T) = true) (h1 : isSt a = false)
    (ha : PE X a (tE X.K Θ W (ev p c ia))) : PE X (.Call (.Name "isinstance" pp) [a, .Name (tyE T) pt] [] pos) (tE X.K Θ W (ev p c (.isT ia T))) := by
  obtain ⟨b1, b2, b3⟩ := boot_ty hT
  refine peImp (pe_callB call_isi hg (G.bl _ hb) rfl (pa_cons ha (pa_cons (pe_bltn (v := .ty (tyS T)) hg2 (G.bl _ hb2) b1 rfl b2 b3) pa_nil (by rfl)) (star_of h1)) (by decide) (by decide) (star_of h1) (by rfl)) fun σ H Q h => ?_
  exact isT_ok hT h

/-! ### list(range(..)) -/
theorem relRng {K : PySem.W.Frag} {ι : List Addr} {H : Hp} (lo : Int) : ∀ l : List Nat, RelDs K Θ ι H (l.map fun (k : Nat) => D.int (lo + k)) (l.map fun (k : Nat) => V.int (lo + k))
  | [] => RelDs.nil
  | n :: l => RelDs.cons rfl (relRng lo l)
theorem rngOk_iff {i : Int} (h : rngOk i = true) : -(2 ^ 62) ≤ i ∧ i < 2 ^ 62 := by
  unfold rngOk big at h
  simp only [Bool.and_eq_true, decide_eq_true_eq] at h
  exact ⟨by omega, by omega⟩
theorem rng_len (lo : Int) (n : Nat) : (rng lo n).length = n := by unfold rng; rw [List.length_map, List.length_range]
theorem line_val : line = 2 ^ 24 := rfl
theorem lrFin {ρ : Env} {S : Store} {ι : List Addr} {σ : St} {H : Hp} {Q : VK} {a b : Int} (sim : Sim X.K Θ ι H S) (h1 : rngOk a = true) (h2 : rngOk b = true) (q : Post X.K Θ (rD X.K Θ) W σ ι H Q (if (rng a (b - a).toNat).length ≤ line then .ok (.obj S.length) (S ++ [.lst (rng a (b - a).toNat)]) else .bad)) :
    RgOk a b ∧ ∀ q', H q' = none → Q (.ref q') (upd H q' (.lst (rgV a b))) := by
  split at q
  · rename_i hl
    rw [rng_len, line_val] at hl
    obtain ⟨a1, a2⟩ := rngOk_iff h1
    obtain ⟨b1, b2⟩ := rngOk_iff h2
    exact ⟨⟨a1, a2, b1, b2, hl⟩, fun q' hq => q.new sim hq ⟨_, upd_same, relRng _ _⟩⟩
  · exact q.elim
theorem peLrng1 (G : Good X Θ p c tb k) {a : Expr} {ia : E} {p1 p2 p3 pos : Pos} (hg : Gl X "list") (hb : tb.bl "list" = true) (hg2 : Gl X "range") (hb2 : tb.bl "range" = true) (h1 : isSt a = false) (ha : PE X a (tE X.K Θ W (ev p c ia))) :
    PE X (.Call (.Name "list" p1) [.Call (.Name "range" p2) [a] [] p3] [] pos) (tE X.K Θ W (ev p c (.lrng (.cons ia .nil)))) := by
  refine peImp (pe_listRg G.calm hg (G.bl _ hb) (prg_1 hg2 (G.bl _ hb2) ha (star_of h1))) fun σ H Q h => ?_
  obtain ⟨ρ, S, ι, s, r, q⟩ := h
  unfold ev evs evs at q
  cases e : ev p c ia ρ S with
  | bad => rw [e] at q; exact q.elim
  | ex C fs S2 => refine ⟨ρ, S, ι, s, r, ?_⟩; rw [e] at q ⊢; exact q
  | ok d S2 =>
    refine ⟨ρ, S, ι, s, r, ?_⟩
    rw [e] at q ⊢
    simp only [R.bind_ok] at q
    intro ι2 H1 v p2 k2 s2 r2
    have q2 := Post.mono q p2 k2
    cases d with
    | int j =>
      unfold rngSrc at q2
      by_cases hj : rngOk j = true
      · simp only [hj, if_true] at q2
        have e0 : (j - 0).toNat = j.toNat := by simp
        rw [← e0] at q2
        exact ⟨j, relInt r2, lrFin (ρ := ρ) s2 (by decide) hj q2⟩
      · simp only [hj] at q2; exact q2.elim
    | _ => unfold rngSrc at q2; exact q2.elim
theorem peLrng2 (G : Good X Θ p c tb k) {a b : Expr} {ia ib : E} {p1 p2 p3 pos : Pos} (hg : Gl X "list") (hb : tb.bl "list" = true) (hg2 : Gl X "range") (hb2 : tb.bl "range" = true) (h1 : isSt a = false) (h2 : isSt b = false) (ha : PE X a (tE X.K Θ W (ev p c ia))) (hbb : PE X b (tE X.K Θ W (ev p c ib))) :
    PE X (.Call (.Name "list" p1) [.Call (.Name "range" p2) [a, b] [] p3] [] pos) (tE X.K Θ W (ev p c (.lrng (.cons ia (.cons ib .nil))))) := by
  refine peImp (pe_listRg G.calm hg (G.bl _ hb) (prg_2 hg2 (G.bl _ hb2) ha hbb (star_of h1) (star_of h2) (star_plain (by simp [h2])))) fun σ H Q h => ?_
  obtain ⟨ρ, S, ι, s, r, q⟩ := h
  unfold ev evs evs evs at q
  cases e : ev p c ia ρ S with
  | bad => rw [e] at q; exact q.elim
  | ex C fs S2 => refine ⟨ρ, S, ι, s, r, ?_⟩; rw [e] at q ⊢; exact q
  | ok d S2 =>
    refine ⟨ρ, S, ι, s, r, ?_⟩
    rw [e] at q ⊢
    simp only [R.bind_ok] at q
    intro ι2 H1 v p2 k2 s2 r2
    have q2 := Post.mono q p2 k2
    cases e' : ev p c ib ρ S2 with
    | bad => rw [e'] at q2; exact q2.elim
    | ex C fs S3 => refine ⟨ρ, S2, ι2, s2, r.mono p2 k2, ?_⟩; rw [e'] at q2 ⊢; exact q2
    | ok d' S3 =>
      refine ⟨ρ, S2, ι2, s2, r.mono p2 k2, ?_⟩
      rw [e'] at q2 ⊢
      simp only [R.bind_ok] at q2
      intro ι3 H3 v' p3 k3 s3 r3
      have q3 := Post.mono q2 p3 k3
      have r2 := RelD.mono p3 k3 _ _ r2
      cases d with
      | int i =>
        cases d' with
        | int j =>
          unfold rngSrc at q3
          by_cases hj : (rngOk i && rngOk j) = true
          · simp only [hj, if_true] at q3
            rw [Bool.and_eq_true] at hj
            exact ⟨i, j, relInt r2, relInt r3, lrFin (ρ := ρ) s3 hj.1 hj.2 q3⟩
          · simp only [hj] at q3; exact q3.elim
        | _ => unfold rngSrc at q3; exact q3.elim
      | _ => unfold rngSrc at q3; exact q3.elim
end
end Z
end

section
set_option Elab.async false
set_option linter.all false
set_option maxRecDepth 100000
/-! ZI: what is walked, targets, comprehensions. -/
namespace Z
open PySem L2
section
variable (K : PySem.W.Frag) (Θ : Nm)
/-- what the iterator gives, as long as the source stays -/
def Feeds (src : Src) (J : It) (ι : List Addr) (H : Hp) : Prop := ∀ ι' H' S', Pre ι ι' → Keep H H' → Sim K Θ ι' H' S' → src.stays S' = true →
  (∀ i, src.ds.length ≤ i → J.stop i H') ∧ ∀ i d, src.ds[i]? = some d → J.go i H' ∧ ∀ x H'', J.yld i H' x H'' → H'' = H' ∧ RelD K Θ ι' H' d x
abbrev rI : List Addr → Hp → Src → It → Prop := fun ι H src J => Feeds K Θ src J ι H
def tI (W : WX) (m : Env → Store → R Src) : TI := fun σ H Q => ∃ ρ S ι, Sim K Θ ι H S ∧ RelE K Θ ι H ρ σ ∧ Post K Θ (rI K Θ) W σ ι H Q (m ρ S)
end
section
variable {X : Cx} {Θ : Nm} {p : Prg} {c : Nat → List D → Store → R D} {tb : Tb} {k : Nat} {W : WX} {tg : Expr}
theorem feedL {K : PySem.W.Frag} {ι : List Addr} {H : Hp} {a : Addr} {src : Src} (h : ∀ ι' H' S', Pre ι ι' → Keep H H' → Sim K Θ ι' H' S' → src.stays S' = true → ∃ vs, SqL K H' a vs ∧ RelDs K Θ ι' H' src.ds vs) : Feeds K Θ src (Itl K a) ι H := by
  intro ι' H' S' pr kp sim st
  obtain ⟨vs, h1, h2⟩ := h ι' H' S' pr kp sim st
  refine ⟨fun i hi => ⟨vs, h1, by rw [← h2.length]; exact hi⟩, fun i d hd => ?_⟩
  obtain ⟨v, h3, h4⟩ := h2.get hd
  refine ⟨⟨vs, v, h1, h3⟩, fun x H'' ⟨e, hx⟩ => ⟨e, ?_⟩⟩
  have := hx vs h1
  rw [h3] at this; cases this
  exact h4
theorem feedT {K : PySem.W.Frag} {ι : List Addr} {H : Hp} {a : Addr} {src : Src} (h : ∀ ι' H', Pre ι ι' → Keep H H' → ∃ vs, SqT K H' a vs ∧ RelDs K Θ ι' H' src.ds vs) : Feeds K Θ src (Itt K a) ι H := by
  intro ι' H' S' pr kp sim st
  obtain ⟨vs, h1, h2⟩ := h ι' H' pr kp
  refine ⟨fun i hi => ⟨vs, h1, by rw [← h2.length]; exact hi⟩, fun i d hd => ?_⟩
  obtain ⟨v, h3, h4⟩ := h2.get hd
  refine ⟨⟨vs, v, h1, h3⟩, fun x H'' ⟨e, hx⟩ => ⟨e, ?_⟩⟩
  have := hx vs h1
  rw [h3] at this; cases this
  exact h4
theorem feedR {K : PySem.W.Frag} {ι : List Addr} {H : Hp} {lo : Int} {n : Nat} : Feeds K Θ ⟨none, rng lo n⟩ (Itr lo n) ι H := by
  intro ι' H' S' pr kp sim st
  refine ⟨fun i hi => by rw [rng_len] at hi; exact hi, fun i d hd => ?_⟩
  have hl : i < n := by
    have := (List.getElem?_eq_some_iff.mp hd).1
    rw [rng_len] at this; exact this
  refine ⟨hl, fun x H'' ⟨e, hx⟩ => ⟨e, ?_⟩⟩
  subst hx
  have : d = .int (lo + i) := by
    unfold rng at hd
    simp only [List.getElem?_map, List.getElem?_range hl, Option.map_some, Option.some.injEq] at hd
    exact hd.symm
  subst this
  rfl
theorem feedStr {K : PySem.W.Frag} {ι : List Addr} {H : Hp} {x : Str} : Feeds K Θ ⟨none, x.cps.toList.map fun c => .str ⟨#[c]⟩⟩ (Its x) ι H := by
  intro ι' H' S' pr kp sim st
  refine ⟨fun i hi => by show x.cps.size ≤ i; simpa using hi, fun i d hd => ?_⟩
  have hl : i < x.cps.size := by
    have := (List.getElem?_eq_some_iff.mp hd).1
    simpa using this
  refine ⟨hl, fun v H'' ⟨e, c, hc, hv⟩ => ⟨e, ?_⟩⟩
  subst hv
  have hd : (x.cps.toList.map fun c => D.str ⟨#[c]⟩)[i]? = some d := hd
  rw [List.getElem?_map, Array.getElem?_toList, hc] at hd
  cases hd
  rfl
theorem Post.bindE {α β γ δ : Type} {K : PySem.W.Frag} {rel : List Addr → Hp → α → β → Prop} {rel' : List Addr → Hp → γ → δ → Prop} {ι : List Addr} {H : Hp} {σ : St} {Q : δ → Hp → Prop} {r : R α} {f : α → Store → R γ} (x : Post K Θ rel' W σ ι H Q (r.bind f)) :
    Post K Θ rel W σ ι H (fun b H1 => ∃ a S1 ι1, r = .ok a S1 ∧ Pre ι ι1 ∧ Keep H H1 ∧ Sim K Θ ι1 H1 S1 ∧ rel ι1 H1 a b ∧ Post K Θ rel' W σ ι1 H1 Q (f a S1)) r := by
  cases r with
  | ok a S => exact fun ι2 H2 b p2 k2 s r => ⟨a, S, ι2, rfl, p2, k2, s, r, Post.mono x p2 k2⟩
  | ex C fs S => exact x
  | bad => exact x
def Es.len : Es → Nat
  | .nil => 0
  | .cons _ es => es.len + 1
theorem evs_len : ∀ (es : Es) (ρ : Env) (S : Store) (ds : List D) (S' : Store), evs p c es ρ S = .ok ds S' → ds.length = es.len
  | .nil, ρ, S, ds, S', h => by unfold evs at h; cases h; rfl
  | .cons e es, ρ, S, ds, S', h => by
    unfold evs at h
    cases h1 : ev p c e ρ S with
    | bad => rw [h1] at h; cases h
    | ex C fs S2 => rw [h1] at h; cases h
    | ok d S2 =>
      rw [h1] at h
      simp only [R.bind_ok] at h
      cases h2 : evs p c es ρ S2 with
      | bad => rw [h2] at h; cases h
      | ex C fs S2 => rw [h2] at h; cases h
      | ok ds2 S3 =>
        rw [h2] at h
        cases h
        simp [Es.len, evs_len es _ _ _ _ h2]
theorem piSeq {l : Expr} {il : E} (hl : PE X l (tE X.K Θ W (ev p c il))) : PI X tg l (tI X.K Θ W (evI p c (.seq il))) := by
  refine ⟨fun pins s σ H R' I ⟨ρ, S, ι, sim, r, q⟩ => ?_⟩
  unfold evI at q
  refine thn (hl.run pins s σ H (fun x H1 => ∃ d S2 ι2, Sim X.K Θ ι2 H1 S2 ∧ RelD X.K Θ ι2 H1 d x ∧ Post X.K Θ (rI X.K Θ) W σ ι2 H1 R' (R.of S2 (seqSrc S2 d))) I ⟨ρ, S, ι, sim, r, (q.bind (rel := rD X.K Θ)).imp fun _ _ _ H1 vs _ _ _ _ _ ⟨d, S2, ι2, p2, k2, s2, r2, q2⟩ => ⟨d, S2, ι2, s2, r2, q2⟩⟩) fun v s1 ⟨x, H1, I1, r1, d, S2, ι2, s2, r2, q2⟩ => ?_
  obtain ⟨src, hs, q2⟩ := q2.of
  have doL : ∀ {a : Addr} {xs : List V}, v = .ref a → SqL X.K H1 a xs → R' (Itl X.K a) H1 → wpAny (model X.prog X.w) X.A (pyIter v) (PIE X pins σ tg R') X.xe s1 := by
    intro a xs e hq q
    subst e
    obtain ⟨its, rv, pl, hz⟩ := I1.list hq
    refine wpAny_pyIter_list pl.isList ?_
    refine ⟨s1.heap.objs.size, [s1.heap.objs.size], _, _, H1, rfl, I1.kept (t' := s1.toks) fun b o e => Heap.get?_push_of_some _ e, turn_list a _, ⟨_, Heap.get?_push_size _ rfl, rfl, rfl⟩, fun b hb => ?_, q⟩
    have e : b = s1.heap.objs.size := by simpa using hb
    subst e
    exact I1.fpOk (Nat.le_refl _) (I1.hok.fresh (Nat.le_refl _))
  unfold seqSrc at hs
  split at hs
  · rename_i ds
    cases hs
    obtain ⟨a, vs, rfl, h1, r3⟩ := relTup r2
    obtain rfl : v = Value.ref a := r1
    obtain ⟨its, rv, pl, hz⟩ := I1.tuple h1
    refine wpAny_pyIter_tuple (show s1.heap.IsTuple a its.toArray from pl) ?_
    refine ⟨s1.heap.objs.size, [s1.heap.objs.size], _, _, H1, rfl, I1.kept (t' := s1.toks) fun b o e => Heap.get?_push_of_some _ e, turn_tuple a _, ⟨_, Heap.get?_push_size _ rfl, rfl, rfl⟩, fun b hb => ?_,
      q2.ok s2 (feedT fun ι' H' pr kp => ⟨vs, kp.sq h1, RelDs.mono pr kp _ _ r3⟩)⟩
    have e : b = s1.heap.objs.size := by simpa using hb
    subst e
    exact I1.fpOk (Nat.le_refl _) (I1.hok.fresh (Nat.le_refl _))
  · rename_i ds
    cases hs
    obtain ⟨a, vs, rfl, h1, r3⟩ := relRol r2
    exact doL r1 h1.l (q2.ok s2 (feedL fun ι' H' S' pr kp _ _ => ⟨vs, (kp.sf h1).l, RelDs.mono pr kp _ _ r3⟩))
  · rename_i z
    cases hs
    have ex := relStr r2
    subst ex
    obtain ⟨t, rfl⟩ := r1
    have q3 := q2.ok s2 (feedStr (K := X.K) (Θ := Θ) (ι := ι2) (H := H1) (x := z))
    cases ha : z.cps.all (· < 128)
    · exact wpAny_pyIter_wide ha (pi_one (tk := s1.toks) I1 _ (turn_str _ z t "str_iterator" (.inr rfl)) ⟨_, Heap.get?_push_size _ rfl, rfl, rfl⟩ q3)
    · exact wpAny_pyIter_ascii ha (pi_one (tk := s1.toks) I1 _ (turn_str _ z t "str_ascii_iterator" (.inl rfl)) ⟨_, Heap.get?_push_size _ rfl, rfl, rfl⟩ q3)
  · rename_i n
    obtain ⟨a, rfl, ha⟩ := relObj r2
    split at hs
    · rename_i ds e1
      cases hs
      obtain ⟨ws, h1, _⟩ := s2.ok _ _ _ e1 ha
      refine doL r1 (.of h1) (q2.ok s2 (feedL fun ι' H' S' pr kp sim' st => ?_))
      unfold Src.stays at st
      have e2 := of_decide_eq_true st
      obtain ⟨ws', h1', r1'⟩ := sim'.ok _ _ _ e2 (pr _ _ ha)
      exact ⟨ws', .of h1', r1'⟩
    · cases hs
  · cases hs
theorem piRng1 (G : Good X Θ p c tb k) {a : Expr} {irs : Es} {p1 pos : Pos} (hg : Gl X "range") (hb : tb.bl "range" = true) (h1 : isSt a = false) (hl : irs.len = 1) (ha : PA X [a] (tA X.K Θ W (evs p c irs))) :
    PI X tg (.Call (.Name "range" p1) [a] [] pos) (tI X.K Θ W (evI p c (.rng irs))) := by
  refine ⟨fun pins s σ H R' I ⟨ρ, S, ι, sim, r, q⟩ => (pi_range1 hg (G.bl _ hb) ha (by rw [star_of h1]; rfl)).run pins s σ H R' I ?_⟩
  unfold evI at q
  refine ⟨ρ, S, ι, sim, r, (q.bindE (rel := rDs X.K Θ)).imp ?_⟩
  rintro _ _ _ H1 vs _ _ _ _ _ ⟨ds, S2, ι2, e0, p2, k2, s2, r2, q2⟩
  replace e0 := (evs_len _ _ _ _ _ e0).trans hl
  obtain ⟨src, hs, q2⟩ := q2.of
  unfold rngSrc at hs
  split at hs
  · obtain ⟨v, rfl, rd⟩ := rels1 r2
    split at hs
    · rename_i hj
      cases hs
      obtain ⟨a1, a2⟩ := rngOk_iff hj
      exact ⟨_, by rw [relInt rd], a1, a2, q2.ok s2 feedR⟩
    · cases hs
  · cases e0
  · cases hs
theorem piRng2 (G : Good X Θ p c tb k) {a b : Expr} {irs : Es} {p1 pos : Pos} (hg : Gl X "range") (hb : tb.bl "range" = true) (h1 : isSt a = false) (h2 : isSt b = false) (hl : irs.len = 2) (ha : PA X [a, b] (tA X.K Θ W (evs p c irs))) :
    PI X tg (.Call (.Name "range" p1) [a, b] [] pos) (tI X.K Θ W (evI p c (.rng irs))) := by
  refine ⟨fun pins s σ H R' I ⟨ρ, S, ι, sim, r, q⟩ => (pi_range2 hg (G.bl _ hb) ha (by rw [star_of h1, star_of h2]; rfl) (by rw [star_of h2]; rfl)).run pins s σ H R' I ?_⟩
  unfold evI at q
  refine ⟨ρ, S, ι, sim, r, (q.bindE (rel := rDs X.K Θ)).imp ?_⟩
  rintro _ _ _ H1 vs _ _ _ _ _ ⟨ds, S2, ι2, e0, p2, k2, s2, r2, q2⟩
  replace e0 := (evs_len _ _ _ _ _ e0).trans hl
  obtain ⟨src, hs, q2⟩ := q2.of
  unfold rngSrc at hs
  split at hs
  · cases e0
  · obtain ⟨v, w, rfl, rd, rd2⟩ := rels2 r2
    split at hs
    · rename_i hj
      cases hs
      rw [Bool.and_eq_true] at hj
      obtain ⟨a1, a2⟩ := rngOk_iff hj.1
      obtain ⟨a3, a4⟩ := rngOk_iff hj.2
      exact ⟨_, _, by rw [relInt rd, relInt rd2], ⟨a1, a2, a3, a4⟩, q2.ok s2 feedR⟩
    · cases hs
  · cases hs

/-! ### targets -/
def G.slots : G → List Nat
  | .one i => [i]
  | .many is => is
def tG (K : PySem.W.Frag) (Θ : Nm) (g : G) : TG := fun v σ H Q => ∃ d ρ S ι ρ', Sim K Θ ι H S ∧ RelE K Θ ι H ρ σ ∧ RelD K Θ ι H d v ∧ bindG g d ρ = some ρ' ∧
  ∀ σ', RelE K Θ ι H ρ' σ' → (∀ vs, (∀ i ∈ g.slots, i ∈ vs) → wipe σ' vs = wipe σ vs) → Q σ' H
theorem wipe_set {σ : St} {i : Nat} {v : Option V} : ∀ {vs : List Nat}, i ∈ vs → wipe (σ.set i v) vs = wipe σ vs
  | [], h => by cases h
  | w :: vs, h => by
    unfold wipe
    by_cases e : i = w
    · subst e
      have key : ∀ us : List Nat, (wipe (σ.set i v) us).set i none = (wipe σ us).set i none := by
        intro us
        induction us with
        | nil => unfold wipe; rw [List.set_set]
        | cons u us ih =>
          unfold wipe
          by_cases hu : u = i
          · subst hu; rw [List.set_set, List.set_set, ih]
          · rw [List.set_comm _ _ hu, ih, List.set_comm _ _ (Ne.symm hu)]
      exact key vs
    · rw [wipe_set (vs := vs) (by rcases List.mem_cons.mp h with h | h; exact absurd h e; exact h)]
theorem pgOne (hN : X.N.Nodup) {i : Nat} {x : Str} {pos : Pos} (hi : X.N[i]? = some x) (hx : Loc X.env.scope x) (hf : X.fn x = true ∨ X.env.scope.names.lookup x = some .local) : PG X (.Name x pos) (tG X.K Θ (.one i)) := by
  refine ⟨fun pins s σ H v u Q I r ⟨d, ρ, S, ι, ρ', sim, re, rd, hb, q⟩ => (pg_name hN hi hx hf).run pins s σ H v u Q I r ?_⟩
  cases hb
  exact q _ (re.set rd) fun vs h => wipe_set (h i (by simp [G.slots]))
/-- several names -/
def tGs (K : PySem.W.Frag) (Θ : Nm) (is : List Nat) : TGs := fun vs σ H Q => ∃ ds ρ S ι, Sim K Θ ι H S ∧ RelE K Θ ι H ρ σ ∧ RelDs K Θ ι H ds vs ∧ ds.length = is.length ∧
  ∀ σ', RelE K Θ ι H (setMany is ds ρ) σ' → (∀ us, (∀ i ∈ is, i ∈ us) → wipe σ' us = wipe σ us) → Q σ' H
inductive NamesOf (X : Cx) : List Expr → List Nat → Prop where
  | nil : NamesOf X [] []
  | cons {i : Nat} {x : Str} {pos : Pos} {es : List Expr} {is : List Nat} (hi : X.N[i]? = some x) (hx : Loc X.env.scope x) (hf : X.fn x = true ∨ X.env.scope.names.lookup x = some .local) (h : NamesOf X es is) : NamesOf X (.Name x pos :: es) (i :: is)
theorem pgsNames (hN : X.N.Nodup) {es : List Expr} {is : List Nat} (h : NamesOf X es is) : PGs X es (tGs X.K Θ is) := by
  induction h with
  | nil =>
    refine ⟨fun pins s σ H vs us Q I r ⟨ds, ρ, S, ι, sim, re, rd, hl, q⟩ => pgs_nil.run pins s σ H vs us Q I r ?_⟩
    cases ds with
    | nil => unfold RelDs at rd; exact ⟨rd, q σ (by unfold setMany; exact re) fun _ _ => rfl⟩
    | cons d ds => cases hl
  | @cons i x pos es is hi hx hf h ih =>
    refine ⟨fun pins s σ H vs us Q I r ⟨ds, ρ, S, ι, sim, re, rd, hl, q⟩ => (pgs_cons (pg_name (pos := pos) hN hi hx hf) ih).run pins s σ H vs us Q I r ?_⟩
    cases ds with
    | nil => cases hl
    | cons d ds =>
      unfold RelDs at rd
      obtain ⟨v, t, rfl, r1, r2⟩ := rd
      refine ⟨v, t, rfl, ?_⟩
      refine ⟨ds, ρ.set i (some d), S, ι, sim, re.set r1, r2, by simpa using hl, fun σ' h1 h2 => q σ' (by unfold setMany; exact h1) fun us hu => ?_⟩
      rw [h2 us fun j hj => hu j (List.mem_cons_of_mem _ hj)]
      exact wipe_set (hu i List.mem_cons_self)
theorem names_len {es : List Expr} {is : List Nat} (h : NamesOf X es is) : (assignEach es X.env).length = is.length ∧ (assignEach es X.env).findIdx? (·.1) = none := by
  induction h with
  | nil => exact ⟨rfl, rfl⟩
  | @cons i x pos es is hi hx hf h ih =>
    refine ⟨?_, ?_⟩
    · show (assignEach es X.env).length + 1 = is.length + 1
      rw [ih.1]
    · show List.findIdx? (·.1) ((false, assign (.Name x pos) X.env) :: assignEach es X.env) = none
      rw [List.findIdx?_cons]
      simp [ih.2]
theorem pgMany (G : Good X Θ p c tb k) {es : List Expr} {is : List Nat} {n : Nat} {pos : Pos} (h : NamesOf X es is) : PG X (.Tuple es n pos) (tG X.K Θ (.many is)) := by
  obtain ⟨h1, h2⟩ := names_len h
  refine ⟨fun pins s σ H v u Q I r ⟨d, ρ, S, ι, ρ', sim, re, rd, hb, q⟩ => (pg_tup G.calm (pgsNames (Θ := Θ) G.nd h) h1 h2).run pins s σ H v u Q I r ?_⟩
  cases d with
  | tup ds =>
    unfold bindG at hb
    dsimp only at hb
    split at hb
    · rename_i hl
      cases hb
      obtain ⟨a, vs, rfl, hq, r1⟩ := relTup rd
      exact ⟨a, vs, rfl, hq, by rw [← r1.length]; exact hl, ds, ρ, S, ι, sim, re, r1, hl, q⟩
    · cases hb
  | _ => unfold bindG at hb; cases hb

/-! ### comprehensions -/
def W0 : WX := fun _ _ _ _ => False
theorem wipe_sub {σ : St} {vs : List Nat} : ∀ {us : List Nat}, (∀ i ∈ us, i ∈ vs) → wipe (wipe σ us) vs = wipe σ vs
  | [], _ => rfl
  | u :: us, h => by
    show wipe ((wipe σ us).set u none) vs = wipe σ vs
    rw [wipe_set (h u List.mem_cons_self), wipe_sub fun i hi => h i (List.mem_cons_of_mem _ hi)]
theorem Post.bindN {α β γ δ : Type} {K : PySem.W.Frag} {rel : List Addr → Hp → α → β → Prop} {rel' : List Addr → Hp → γ → δ → Prop} {ι : List Addr} {H : Hp} {σ σ' : St} {Q : δ → Hp → Prop} {r : R α} {f : α → Store → R γ} (x : Post K Θ rel' W σ ι H Q (r.bindN f)) :
    Post K Θ rel W0 σ' ι H (fun b H1 => ∃ a S1 ι1, Pre ι ι1 ∧ Keep H H1 ∧ Sim K Θ ι1 H1 S1 ∧ rel ι1 H1 a b ∧ Post K Θ rel' W σ ι1 H1 Q (f a S1)) r := by
  cases r with
  | ok a S => exact fun ι2 H2 b p2 k2 s r => ⟨a, S, ι2, p2, k2, s, r, Post.mono x p2 k2⟩
  | ex C fs S => exact x.elim
  | bad => exact x
theorem lcRd {src : Src} {g : G} {own : List Nat} {n : Nat} {t : Env → Store → R Bool} {e : Env → Store → R D} {ρ : Env} {σ : St} {ι0 : List Addr} {H0 : Hp} {Q : VK} {J : It} {A0 : Addr} (hsub : ∀ i ∈ g.slots, i ∈ own) (hf : Feeds X.K Θ src J ι0 H0)
    (hA : H0 A0 = none) (re : RelE X.K Θ ι0 H0 ρ σ) (hn : ι0.length = n) (q0 : ∃ ι' S', Pre (ι0 ++ [A0]) ι' ∧ Keep H0 (upd H0 A0 (.lst [])) ∧ Sim X.K Θ ι' (upd H0 A0 (.lst [])) S' ∧ Post X.K Θ (rD X.K Θ) W σ ι' (upd H0 A0 (.lst [])) Q (lcLoop src g own n t e ρ src.ds S')) :
    ∃ M : Nat → Nat → Hp → Prop, (∃ m, M 0 m (upd H0 A0 (.lst []))) ∧ ∀ i m H, M i m H →
      (J.stop i H ∧ Q (.ref A0) H) ∨ (J.go i H ∧ ∃ Nx : Hp → Prop, (∀ H', Nx H' → ∃ m', m' < m ∧ M (i + 1) m' H') ∧ ∀ x H', J.yld i H x H' → tG X.K Θ g x (wipe σ own) H' fun σ2 H2 => wipe σ2 own = wipe σ own ∧ tT X.K Θ W0 t σ2 H2 fun b H3 =>
        if b = true then tE X.K Θ W0 e σ2 H3 fun y H4 => ∃ acc, H4 A0 = some (.lst acc) ∧ acc.length < sizeLine ∧ Nx (upd H4 A0 (.lst (acc ++ [y]))) else Nx H3) := by
  have base : ∀ {i : Nat} {ι' : List Addr}, Pre (ι0 ++ [A0]) ι' → ι'[n]? = some A0 := fun {i ι'} pr => pr _ _ (by rw [List.getElem?_append_right (by omega)]; simp [hn])
  refine ⟨fun i m H => m = src.ds.length - i ∧ i ≤ src.ds.length ∧ ∃ ι' S', Pre (ι0 ++ [A0]) ι' ∧ Keep H0 H ∧ Sim X.K Θ ι' H S' ∧ Post X.K Θ (rD X.K Θ) W σ ι' H Q (lcLoop src g own n t e ρ (src.ds.drop i) S'),
    ⟨src.ds.length, by simp, Nat.zero_le _, by simpa using q0⟩, ?_⟩
  rintro i m H ⟨rfl, hi, ι', S', pr, kp, sim, q⟩
  have pr0 : Pre ι0 ι' := (Pre.snoc _ _).trans pr
  have hst : src.stays S' = true := by
    cases hd : src.ds.drop i with
    | nil =>
      rw [hd] at q
      unfold lcLoop at q
      split at q
      · assumption
      · exact q.elim
    | cons d ds =>
      rw [hd] at q
      unfold lcLoop at q
      split at q
      · assumption
      · exact q.elim
  obtain ⟨f1, f2⟩ := hf ι' H S' pr0 kp sim hst
  by_cases hlt : i < src.ds.length
  · have hd : src.ds.drop i = src.ds[i] :: src.ds.drop (i + 1) := List.drop_eq_getElem_cons hlt
    obtain ⟨hgo, hy⟩ := f2 i src.ds[i] (List.getElem?_eq_getElem hlt)
    rw [hd] at q
    unfold lcLoop at q
    rw [if_pos hst] at q
    cases hb : bindG g src.ds[i] (wipeE ρ own) with
    | none => rw [hb] at q; exact q.elim
    | some ρ' =>
      rw [hb] at q
      dsimp only at q
      refine .inr ⟨hgo, fun H' => ∃ ι' S', Pre (ι0 ++ [A0]) ι' ∧ Keep H0 H' ∧ Sim X.K Θ ι' H' S' ∧ Post X.K Θ (rD X.K Θ) W σ ι' H' Q (lcLoop src g own n t e ρ (src.ds.drop (i + 1)) S'), fun H' h => ⟨_, by omega, rfl, hlt, h⟩, fun x H' hyl => ?_⟩
      obtain ⟨rfl, rx⟩ := hy x H' hyl
      refine ⟨src.ds[i], wipeE ρ own, S', ι', ρ', sim, (re.mono pr0 kp).wipe own, rx, hb, fun σ' r1 hw => ⟨?_, ?_⟩⟩
      · rw [hw own hsub, wipe_sub fun _ h => h]
      · refine ⟨ρ', S', ι', sim, r1, (Post.bindN (rel := rB) q).imp ?_⟩
        rintro _ _ _ H1 b _ _ _ _ _ ⟨b', S1, ι1, p1, k1, s1, rb, q1⟩
        have rb : b = b' := rb
        subst rb
        cases b with
        | false =>
          rw [if_neg Bool.false_ne_true] at q1 ⊢
          exact ⟨ι1, S1, pr.trans p1, kp.trans k1, s1, q1⟩
        | true =>
          rw [if_pos rfl] at q1 ⊢
          refine ⟨ρ', S1, ι1, s1, r1.mono p1 k1, (Post.bindN (rel := rD X.K Θ) q1).imp ?_⟩
          rintro _ _ _ H2 y _ _ _ _ _ ⟨d, S2, ι2, p2, k2, s2, r2, q2⟩
          have hA2 : ι2[n]? = some A0 := p2 _ _ (p1 _ _ (base (i := i) pr))
          split at q2
          · rename_i acc e1
            split at q2
            · rename_i hl
              obtain ⟨ws, h1, r3⟩ := s2.ok _ _ _ e1 hA2
              have kw : Keep H2 (upd H2 A0 (.lst (ws ++ [y]))) := Keep.write h1 rfl
              refine ⟨ws, h1, by rw [← r3.length, ← line_eq]; exact hl, ι2, _, (pr.trans p1).trans p2, ((kp.trans k1).trans k2).trans kw, s2.write (m := .lst (acc ++ [d])) h1 rfl hA2 ⟨_, upd_same, RelDs.app (RelDs.mono (Pre.refl _) kw _ _ r3) (RelDs.cons (RelD.mono (Pre.refl _) kw _ _ r2) RelDs.nil)⟩, Post.mono q2 (Pre.refl _) kw⟩
            · exact q2.elim
          · exact q2.elim
  · have hd : src.ds.drop i = [] := List.drop_eq_nil_of_le (by omega)
    rw [hd] at q
    unfold lcLoop at q
    rw [if_pos hst] at q
    exact .inl ⟨f1 i (by omega), q.ok sim (relObjMk (base (i := i) pr))⟩
theorem lcTE {elt : E} {g : G} {it : I} {t : T} {own : List Nat} {σ : St} {H : Hp} {Q : VK} (hsub : ∀ i ∈ g.slots, i ∈ own) (h : tE X.K Θ W (ev p c (.lc own elt g it t)) σ H Q) :
    tLc (tI X.K Θ W (evI p c it)) (tG X.K Θ g) (tT X.K Θ W0 (evT p c t)) (tE X.K Θ W0 (ev p c elt)) own σ H Q := by
  obtain ⟨ρ, S, ι, s, r, q⟩ := h
  unfold ev at q
  refine ⟨ρ, S, ι, s, r, (q.bind (rel := rI X.K Θ)).imp ?_⟩
  rintro _ _ _ H1 J _ _ _ _ _ ⟨src, S2, ι2, p2, k2, s2, r2, q2⟩
  intro A0 hA
  refine lcRd (W := W) hsub r2 hA (r.mono p2 k2) s2.len ⟨ι2 ++ [A0], S2 ++ [.lst []], Pre.refl _, Keep.fresh hA, s2.snoc (m := .lst []) hA ⟨[], upd_same, RelDs.nil⟩, ?_⟩
  exact Post.mono q2 (Pre.snoc _ _) (Keep.fresh hA)
theorem peLc (G' : Good X Θ p c tb k) {elt tg iter : Expr} {ifs : List Expr} {scope : Scope} {own : List (Str × Nat)} {pos : Pos} {ie : E} {g : G} {it : I} {t : T} (hsub : ∀ i ∈ g.slots, i ∈ own.map (·.2)) (hi : PI X tg iter (tI X.K Θ W (evI p c it))) (ok : BlkOk X.N X.env.scope scope own)
    (hg : ∀ (s : Shared) (H : Hp) (C : Addr) (cl : List (Str × Addr)) (fp : List Addr), PG (X.blk s H scope (compEnvC scope cl C X.env) fp) tg (tG X.K Θ g)) (ht : ∀ (s : Shared) (H : Hp) (C : Addr) (cl : List (Str × Addr)) (fp : List Addr), PTs (X.blk s H scope (compEnvC scope cl C X.env) fp) ifs (tT X.K Θ W0 (evT p c t)))
    (he : ∀ (s : Shared) (H : Hp) (C : Addr) (cl : List (Str × Addr)) (fp : List Addr), PE (X.blk s H scope (compEnvC scope cl C X.env) fp) elt (tE X.K Θ W0 (ev p c ie))) (hs : ∀ x, foldedSetIterable iter X.env x = pure x) :
    PE X (.ListComp elt [⟨tg, iter, ifs, 0⟩] scope pos) (tE X.K Θ W (ev p c (.lc (own.map (·.2)) ie g it t))) :=
  peImp (pe_lc G'.calm G'.nd hi ok hg ht he hs) fun σ H Q h => lcTE hsub h
theorem putK_rel {K : PySem.W.Frag} {ι : List Addr} {H : Hp} {κ : Type} [DecidableEq κ] {k : κ} {d : D} {v : V} {l : List (κ × D)} {r : List (κ × V)} (h : RelK K Θ ι H l r) (rd : RelD K Θ ι H d v) : RelK K Θ ι H (putK l k d) (L2.putK r k v) := by
  have h1 : ∀ (l : List (κ × D)) (r : List (κ × V)), RelK K Θ ι H l r → (l.any fun kv => decide (kv.1 = k)) = (r.any fun kv => decide (kv.1 = k)) ∧
      RelK K Θ ι H (l.map (fun kv => if kv.1 = k then (kv.1, d) else kv)) (r.map (fun kv => if kv.1 = k then (kv.1, v) else kv)) ∧ RelK K Θ ι H (l ++ [(k, d)]) (r ++ [(k, v)]) := by
    intro l
    induction l with
    | nil =>
      intro r h
      have h : r = [] := h
      subst h
      exact ⟨rfl, rfl, ⟨v, [], rfl, rd, rfl⟩⟩
    | cons x l ih =>
      intro r h
      obtain ⟨j, e⟩ := x
      obtain ⟨w, t, rfl, a, b⟩ := h
      obtain ⟨i1, i2, i3⟩ := ih t b
      refine ⟨by rw [List.any_cons, List.any_cons, i1], ?_, ⟨w, _, rfl, a, i3⟩⟩
      by_cases hj : j = k
      · simp only [List.map_cons, hj, if_true]
        exact ⟨v, _, rfl, rd, by rw [← hj] at i2 ⊢; exact i2⟩
      · simp only [List.map_cons, hj, if_false]
        exact ⟨w, _, rfl, a, i2⟩
  obtain ⟨a, b, e⟩ := h1 l r h
  unfold putK L2.putK
  rw [a]
  split
  · exact b
  · exact e
theorem dcRd {src : Src} {g : G} {own : List Nat} {n : Nat} {t : Env → Store → R Bool} {kx e : Env → Store → R D} {ρ : Env} {σ : St} {ι0 : List Addr} {H0 : Hp} {Q : VK} {J : It} {A0 : Addr} (hsub : ∀ i ∈ g.slots, i ∈ own) (hf : Feeds X.K Θ src J ι0 H0)
    (hA : H0 A0 = none) (re : RelE X.K Θ ι0 H0 ρ σ) (hn : ι0.length = n) (q0 : ∃ ι' S', Pre (ι0 ++ [A0]) ι' ∧ Keep H0 (upd H0 A0 (.dK [])) ∧ Sim X.K Θ ι' (upd H0 A0 (.dK [])) S' ∧ Post X.K Θ (rD X.K Θ) W σ ι' (upd H0 A0 (.dK [])) Q (dcLoop src g own n t kx e ρ src.ds S')) :
    ∃ M : Nat → Nat → Hp → Prop, (∃ m, M 0 m (upd H0 A0 (.dK []))) ∧ ∀ i m H, M i m H →
      (J.stop i H ∧ Q (.ref A0) H) ∨ (J.go i H ∧ ∃ Nx : Hp → Prop, (∀ H', Nx H' → ∃ m', m' < m ∧ M (i + 1) m' H') ∧ ∀ x H', J.yld i H x H' → tG X.K Θ g x (wipe σ own) H' fun σ2 H2 => wipe σ2 own = wipe σ own ∧ tT X.K Θ W0 t σ2 H2 fun b H3 =>
        if b = true then tE X.K Θ W0 kx σ2 H3 fun y H4 => tE X.K Θ W0 e σ2 H4 fun z H5 => ∃ kvs k, y = kV k ∧ H5 A0 = some (.dK kvs) ∧ kvs.length < sizeLine ∧ Nx (upd H5 A0 (.dK (L2.putK kvs k z))) else Nx H3) := by
  have base : ∀ {i : Nat} {ι' : List Addr}, Pre (ι0 ++ [A0]) ι' → ι'[n]? = some A0 := fun {i ι'} pr => pr _ _ (by rw [List.getElem?_append_right (by omega)]; simp [hn])
  refine ⟨fun i m H => m = src.ds.length - i ∧ i ≤ src.ds.length ∧ ∃ ι' S', Pre (ι0 ++ [A0]) ι' ∧ Keep H0 H ∧ Sim X.K Θ ι' H S' ∧ Post X.K Θ (rD X.K Θ) W σ ι' H Q (dcLoop src g own n t kx e ρ (src.ds.drop i) S'),
    ⟨src.ds.length, by simp, Nat.zero_le _, by simpa using q0⟩, ?_⟩
  rintro i m H ⟨rfl, hi, ι', S', pr, kp, sim, q⟩
  have pr0 : Pre ι0 ι' := (Pre.snoc _ _).trans pr
  have hst : src.stays S' = true := by
    cases hd : src.ds.drop i with
    | nil =>
      rw [hd] at q
      unfold dcLoop at q
      split at q
      · assumption
      · exact q.elim
    | cons d ds =>
      rw [hd] at q
      unfold dcLoop at q
      split at q
      · assumption
      · exact q.elim
  obtain ⟨f1, f2⟩ := hf ι' H S' pr0 kp sim hst
  by_cases hlt : i < src.ds.length
  · have hd : src.ds.drop i = src.ds[i] :: src.ds.drop (i + 1) := List.drop_eq_getElem_cons hlt
    obtain ⟨hgo, hy⟩ := f2 i src.ds[i] (List.getElem?_eq_getElem hlt)
    rw [hd] at q
    unfold dcLoop at q
    rw [if_pos hst] at q
    cases hb : bindG g src.ds[i] (wipeE ρ own) with
    | none => rw [hb] at q; exact q.elim
    | some ρ' =>
      rw [hb] at q
      dsimp only at q
      refine .inr ⟨hgo, fun H' => ∃ ι' S', Pre (ι0 ++ [A0]) ι' ∧ Keep H0 H' ∧ Sim X.K Θ ι' H' S' ∧ Post X.K Θ (rD X.K Θ) W σ ι' H' Q (dcLoop src g own n t kx e ρ (src.ds.drop (i + 1)) S'), fun H' h => ⟨_, by omega, rfl, hlt, h⟩, fun x H' hyl => ?_⟩
      obtain ⟨rfl, rx⟩ := hy x H' hyl
      refine ⟨src.ds[i], wipeE ρ own, S', ι', ρ', sim, (re.mono pr0 kp).wipe own, rx, hb, fun σ' r1 hw => ⟨?_, ?_⟩⟩
      · rw [hw own hsub, wipe_sub fun _ h => h]
      · refine ⟨ρ', S', ι', sim, r1, (Post.bindN (rel := rB) q).imp ?_⟩
        rintro _ _ _ H1 b _ _ _ _ _ ⟨b', S1, ι1, p1, k1, s1, rb, q1⟩
        have rb : b = b' := rb
        subst rb
        cases b with
        | false =>
          rw [if_neg Bool.false_ne_true] at q1 ⊢
          exact ⟨ι1, S1, pr.trans p1, kp.trans k1, s1, q1⟩
        | true =>
          rw [if_pos rfl] at q1 ⊢
          refine ⟨ρ', S1, ι1, s1, r1.mono p1 k1, (Post.bindN (rel := rD X.K Θ) q1).imp ?_⟩
          rintro _ _ _ H2 y _ _ _ _ _ ⟨dk, S2, ι2, p2, k2, s2, r2, q2⟩
          refine ⟨ρ', S2, ι2, s2, (r1.mono p1 k1).mono p2 k2, (Post.bindN (rel := rD X.K Θ) q2).imp ?_⟩
          rintro _ _ _ H3 z _ _ _ _ _ ⟨d, S3, ι3, p3, k3, s3, r3, q3⟩
          have hA3 : ι3[n]? = some A0 := p3 _ _ (p2 _ _ (p1 _ _ (base (i := i) pr)))
          split at q3
          · rename_i key acc e0 e1
            split at q3
            · rename_i hl
              obtain ⟨ws, h1, r4⟩ := s3.ok _ _ _ e1 hA3
              have kw : Keep H3 (upd H3 A0 (.dK (L2.putK ws key z))) := Keep.write h1 rfl
              refine ⟨ws, key, keyOf_rel r2 e0, h1, by rw [← relK_len _ _ r4, ← line_eq]; exact hl, ι3, _, ((pr.trans p1).trans p2).trans p3, (((kp.trans k1).trans k2).trans k3).trans kw, s3.write (m := .dic (putK acc key d)) h1 rfl hA3 ⟨_, upd_same, putK_rel (RelK.mono (Pre.refl _) kw _ _ r4) (RelD.mono (Pre.refl _) kw _ _ r3)⟩, Post.mono q3 (Pre.refl _) kw⟩
            · exact q3.elim
          · exact q3.elim
  · have hd : src.ds.drop i = [] := List.drop_eq_nil_of_le (by omega)
    rw [hd] at q
    unfold dcLoop at q
    rw [if_pos hst] at q
    exact .inl ⟨f1 i (by omega), q.ok sim (relObjMk (base (i := i) pr))⟩
theorem dcTE {kx elt : E} {g : G} {it : I} {t : T} {own : List Nat} {σ : St} {H : Hp} {Q : VK} (hsub : ∀ i ∈ g.slots, i ∈ own) (h : tE X.K Θ W (ev p c (.dc own kx elt g it t)) σ H Q) :
    tDc (tI X.K Θ W (evI p c it)) (tG X.K Θ g) (tT X.K Θ W0 (evT p c t)) (tE X.K Θ W0 (ev p c kx)) (tE X.K Θ W0 (ev p c elt)) own σ H Q := by
  obtain ⟨ρ, S, ι, s, r, q⟩ := h
  unfold ev at q
  refine ⟨ρ, S, ι, s, r, (q.bind (rel := rI X.K Θ)).imp ?_⟩
  rintro _ _ _ H1 J _ _ _ _ _ ⟨src, S2, ι2, p2, k2, s2, r2, q2⟩
  intro A0 hA
  refine dcRd (W := W) hsub r2 hA (r.mono p2 k2) s2.len ⟨ι2 ++ [A0], S2 ++ [.dic []], Pre.refl _, Keep.fresh hA, s2.snoc (m := .dic []) hA ⟨[], upd_same, rfl⟩, ?_⟩
  exact Post.mono q2 (Pre.snoc _ _) (Keep.fresh hA)
theorem peDc (G' : Good X Θ p c tb k) {kx elt tg iter : Expr} {ifs : List Expr} {scope : Scope} {own : List (Str × Nat)} {pos : Pos} {ik ie : E} {g : G} {it : I} {t : T} (hsub : ∀ i ∈ g.slots, i ∈ own.map (·.2)) (hi : PI X tg iter (tI X.K Θ W (evI p c it))) (ok : BlkOk X.N X.env.scope scope own)
    (hg : ∀ (s : Shared) (H : Hp) (C : Addr) (cl : List (Str × Addr)) (fp : List Addr), PG (X.blk s H scope (compEnvC scope cl C X.env) fp) tg (tG X.K Θ g)) (ht : ∀ (s : Shared) (H : Hp) (C : Addr) (cl : List (Str × Addr)) (fp : List Addr), PTs (X.blk s H scope (compEnvC scope cl C X.env) fp) ifs (tT X.K Θ W0 (evT p c t)))
    (hk : ∀ (s : Shared) (H : Hp) (C : Addr) (cl : List (Str × Addr)) (fp : List Addr), PE (X.blk s H scope (compEnvC scope cl C X.env) fp) kx (tE X.K Θ W0 (ev p c ik)))
    (he : ∀ (s : Shared) (H : Hp) (C : Addr) (cl : List (Str × Addr)) (fp : List Addr), PE (X.blk s H scope (compEnvC scope cl C X.env) fp) elt (tE X.K Θ W0 (ev p c ie))) (hs : ∀ x, foldedSetIterable iter X.env x = pure x) :
    PE X (.DictComp kx elt [⟨tg, iter, ifs, 0⟩] scope pos) (tE X.K Θ W (ev p c (.dc (own.map (·.2)) ik ie g it t))) :=
  peImp (pe_dc G'.calm G'.nd hi ok hg ht hk he hs) fun σ H Q h => dcTE hsub h
end
end Z
end

section
set_option Elab.async false
set_option linter.all false
set_option maxRecDepth 100000
/-! ZJ: statements. -/
namespace Z
open PySem L2
section
variable (K : PySem.W.Frag) (Θ : Nm)
def PostS (W : WX) (ι : List Addr) (H : Hp) (D : Ends) : RS → Prop
  | .nx ρ S => ∀ ι' H' σ, Pre ι ι' → Keep H H' → Sim K Θ ι' H' S → RelE K Θ ι' H' ρ σ → D.nx σ H'
  | .ret d S => ∀ ι' H' v, Pre ι ι' → Keep H H' → Sim K Θ ι' H' S → RelD K Θ ι' H' d v → D.rt v H'
  | .brk ρ S => ∀ ι' H' σ, Pre ι ι' → Keep H H' → Sim K Θ ι' H' S → RelE K Θ ι' H' ρ σ → D.bk σ H'
  | .ct ρ S => ∀ ι' H' σ, Pre ι ι' → Keep H H' → Sim K Θ ι' H' S → RelE K Θ ι' H' ρ σ → D.ct σ H'
  | .ex C fs ρ S => ∀ ι' H' σ d, Pre ι ι' → Keep H H' → Sim K Θ ι' H' S → RelE K Θ ι' H' ρ σ → ExD K Θ ι' H' fs d → W (.ref (Θ.cA C)) d σ H'
  | .bad => False
def tS (W : WX) (m : Env → Store → RS) : TS := fun D σ H => ∃ ρ S ι, Sim K Θ ι H S ∧ RelE K Θ ι H ρ σ ∧ PostS K Θ W ι H D (m ρ S)
end
section
variable {X : Cx} {Θ : Nm} {p : Prg} {c : Nat → List D → Store → R D} {tb : Tb} {k : Nat} {W : WX}
theorem PostS.mono {K : PySem.W.Frag} {ι ι' : List Addr} {H H' : Hp} {D : Ends} {r : RS} (x : PostS K Θ W ι H D r) (p : Pre ι ι') (k : Keep H H') : PostS K Θ W ι' H' D r := by
  cases r with
  | nx ρ S => exact fun ι2 H2 b p2 k2 => x ι2 H2 b (p.trans p2) (k.trans k2)
  | ret ρ S => exact fun ι2 H2 b p2 k2 => x ι2 H2 b (p.trans p2) (k.trans k2)
  | brk ρ S => exact fun ι2 H2 b p2 k2 => x ι2 H2 b (p.trans p2) (k.trans k2)
  | ct ρ S => exact fun ι2 H2 b p2 k2 => x ι2 H2 b (p.trans p2) (k.trans k2)
  | ex C fs ρ S => exact fun ι2 H2 b d p2 k2 => x ι2 H2 b d (p.trans p2) (k.trans k2)
  | bad => exact x
theorem PostS.st {α β : Type} {K : PySem.W.Frag} {rel : List Addr → Hp → α → β → Prop} {ι : List Addr} {H : Hp} {D : Ends} {ρ : Env} {σ : St} {r : R α} {f : α → Store → RS} (x : PostS K Θ W ι H D (r.st ρ f)) (re : RelE K Θ ι H ρ σ) :
    Post K Θ rel W σ ι H (fun b H1 => ∃ a S1 ι1, Pre ι ι1 ∧ Keep H H1 ∧ Sim K Θ ι1 H1 S1 ∧ rel ι1 H1 a b ∧ RelE K Θ ι1 H1 ρ σ ∧ PostS K Θ W ι1 H1 D (f a S1)) r := by
  cases r with
  | ok a S => exact fun ι2 H2 b p2 k2 s r => ⟨a, S, ι2, p2, k2, s, r, re.mono p2 k2, PostS.mono x p2 k2⟩
  | ex C fs S => exact fun ι2 H2 d p2 k2 s e => x ι2 H2 σ d p2 k2 s (re.mono p2 k2) e
  | bad => exact x
theorem psImp {e : Stmt} {t t' : TS} (h : PS X e t) (i : ∀ D σ H, t' D σ H → t D σ H) : PS X e t' := ⟨fun pins s σ H D I q => h.run pins s σ H D I (i D σ H q)⟩
theorem pssImp {e : List Stmt} {t t' : TS} (h : PSs X e t) (i : ∀ D σ H, t' D σ H → t D σ H) : PSs X e t' := ⟨fun pins s σ H D I q => h.run pins s σ H D I (i D σ H q)⟩
theorem psFail {st : Stmt} : PS X st (tS X.K Θ W (exec p c .fail)) := ⟨fun pins s σ H D I ⟨_, _, _, _, _, q⟩ => by unfold exec at q; exact q.elim⟩
def isComp : Expr → Bool
  | .ListComp .. => true
  | .SetComp .. => true
  | .DictComp .. => true
  | _ => false
theorem swNo {e : Expr} {t : Option Expr} {l : Nat} {env : PySem.Env} (h : isComp e = false) : swapsWith e t l env = pure false := by
  cases e <;> first | rfl | cases h
theorem swNoT {e t : Expr} {l : Nat} {env : PySem.Env} (h : ∀ x p, t ≠ .Name x p) : swapsWith e (some t) l env = pure false := by
  cases e <;> first
    | rfl
    | (cases t <;> first | rfl | exact absurd rfl (h _ _))

theorem psExpr {e : Expr} {ie : E} {pos : Pos} (hs : isComp e = false) (he : PE X e (tE X.K Θ W (ev p c ie))) : PS X (.Expr e pos) (tS X.K Θ W (exec p c (.expr ie))) := psImp (ps_expr he (swNo hs)) fun D σ H ⟨ρ, S, ι, s, r, q⟩ => by
  unfold exec at q
  refine ⟨ρ, S, ι, s, r, (PostS.st (rel := rD X.K Θ) q r).imp ?_⟩
  rintro _ _ _ H1 v _ _ _ _ _ ⟨d, S2, ι2, p2, k2, s2, r2, re, q2⟩
  exact q2 ι2 H1 σ (Pre.refl _) (Keep.refl _) s2 re
theorem psRet {e : Expr} {ie : E} {pos : Pos} (he : PE X e (tE X.K Θ W (ev p c ie))) : PS X (.Return (some e) pos) (tS X.K Θ W (exec p c (.ret ie))) := psImp (ps_ret he) fun D σ H ⟨ρ, S, ι, s, r, q⟩ => by
  unfold exec at q
  refine ⟨ρ, S, ι, s, r, (PostS.st (rel := rD X.K Θ) q r).imp ?_⟩
  rintro _ _ _ H1 v _ _ _ _ _ ⟨d, S2, ι2, p2, k2, s2, r2, re, q2⟩
  exact q2 ι2 H1 v (Pre.refl _) (Keep.refl _) s2 r2
theorem psRetN {pos : Pos} : PS X (.Return none pos) (tS X.K Θ W (exec p c .retN)) := psImp ps_retN fun D σ H ⟨ρ, S, ι, s, r, q⟩ => by
  unfold exec at q
  exact q ι H .non (Pre.refl _) (Keep.refl _) s rfl
theorem psPass {pos : Pos} : PS X (.Pass pos) (tS X.K Θ W (exec p c .pass)) := psImp ps_pass fun D σ H ⟨ρ, S, ι, s, r, q⟩ => by
  unfold exec at q
  exact q ι H σ (Pre.refl _) (Keep.refl _) s r
theorem psBrk {pos : Pos} : PS X (.Break pos) (tS X.K Θ W (exec p c .brk)) := psImp ps_break fun D σ H ⟨ρ, S, ι, s, r, q⟩ => by
  unfold exec at q
  exact q ι H σ (Pre.refl _) (Keep.refl _) s r
theorem psCont {pos : Pos} : PS X (.Continue pos) (tS X.K Θ W (exec p c .cont)) := psImp ps_continue fun D σ H ⟨ρ, S, ι, s, r, q⟩ => by
  unfold exec at q
  exact q ι H σ (Pre.refl _) (Keep.refl _) s r
theorem psIf {t : Expr} {a b : List Stmt} {it : T} {ia ib : Ss} {pos : Pos} (ht : PT X t (tT X.K Θ W (evT p c it))) (ha : PSs X a (tS X.K Θ W (execs p c ia))) (hb : PSs X b (tS X.K Θ W (execs p c ib))) :
    PS X (.If t a b pos) (tS X.K Θ W (exec p c (.ite it ia ib))) := psImp (ps_if ht ha hb) fun D σ H ⟨ρ, S, ι, s, r, q⟩ => by
  unfold exec at q
  refine ⟨ρ, S, ι, s, r, (PostS.st (rel := rB) q r).imp ?_⟩
  rintro _ _ _ H1 v _ _ _ _ _ ⟨b, S2, ι2, p2, k2, s2, r2, re, q2⟩
  have r2 : v = b := r2
  subst r2
  cases v with
  | true => rw [if_pos rfl] at q2 ⊢; exact ⟨ρ, S2, ι2, s2, re, q2⟩
  | false => rw [if_neg Bool.false_ne_true] at q2 ⊢; exact ⟨ρ, S2, ι2, s2, re, q2⟩
theorem pssNil : PSs X [] (tS X.K Θ W (execs p c .nil)) := pssImp pss_nil fun D σ H ⟨ρ, S, ι, s, r, q⟩ => by
  unfold execs at q
  exact q ι H σ (Pre.refl _) (Keep.refl _) s r
theorem pssCons {st : Stmt} {sts : List Stmt} {is : S} {iss : Ss} (h1 : PS X st (tS X.K Θ W (exec p c is))) (h2 : PSs X sts (tS X.K Θ W (execs p c iss))) : PSs X (st :: sts) (tS X.K Θ W (execs p c (.cons is iss))) := pssImp (pss_cons h1 h2) fun D σ H ⟨ρ, S, ι, s, r, q⟩ => by
  unfold execs at q
  refine ⟨ρ, S, ι, s, r, ?_⟩
  cases e : exec p c is ρ S with
  | nx ρ1 S1 => rw [e] at q; exact fun ι2 H2 σ2 p2 k2 s2 r2 => ⟨ρ1, S1, ι2, s2, r2, PostS.mono q p2 k2⟩
  | ret d S1 => rw [e] at q; exact q
  | brk ρ1 S1 => rw [e] at q; exact q
  | ct ρ1 S1 => rw [e] at q; exact q
  | ex C fs ρ1 S1 => rw [e] at q; exact q
  | bad => rw [e] at q; exact q

/-! ### assignments -/
theorem psAsg {tg e : Expr} {g : G} {ie : E} {pos : Pos} (he : PE X e (tE X.K Θ W (ev p c ie))) (hg : PG X tg (tG X.K Θ g)) (hs : swapsWithSole [tg] e pos.line X.env = pure false) (hw : swappedStores [tg] e X.env = pure none) (h1 : (assignEach [tg] X.env).map (·.2) = [assign tg X.env]) :
    PS X (.Assign [tg] e pos) (tS X.K Θ W (exec p c (.asg (.g g) ie))) := psImp (ps_asg he hg hs hw h1) fun D σ H ⟨ρ, S, ι, s, r, q⟩ => by
  unfold exec at q
  refine ⟨ρ, S, ι, s, r, (PostS.st (rel := rD X.K Θ) q r).imp ?_⟩
  rintro _ _ _ H1 v _ _ _ _ _ ⟨d, S2, ι2, p2, k2, s2, r2, re, q2⟩
  cases hb : bindG g d ρ with
  | none => rw [hb] at q2; exact q2.elim
  | some ρ' =>
    rw [hb] at q2
    exact ⟨d, ρ, S2, ι2, ρ', s2, re, r2, hb, fun σ' h1 _ => q2 ι2 H1 σ' (Pre.refl _) (Keep.refl _) s2 h1⟩
theorem psAsg2 (hN : X.N.Nodup) {e : Expr} {ie : E} {i j : Nat} {x y : Str} {px py pos : Pos} (he : PE X e (tE X.K Θ W (ev p c ie))) (hi : X.N[i]? = some x) (hx : Loc X.env.scope x) (hf : X.fn x = true ∨ X.env.scope.names.lookup x = some .local) (hj : X.N[j]? = some y) (hy : Loc X.env.scope y) (hfy : X.fn y = true ∨ X.env.scope.names.lookup y = some .local) :
    PS X (.Assign [.Name x px, .Name y py] e pos) (tS X.K Θ W (exec p c (.asg2 i j ie))) := psImp (ps_asg2 he (pg_name hN hi hx hf) (pg_name hN hj hy hfy)) fun D σ H ⟨ρ, S, ι, s, r, q⟩ => by
  unfold exec at q
  refine ⟨ρ, S, ι, s, r, (PostS.st (rel := rD X.K Θ) q r).imp ?_⟩
  rintro _ _ _ H1 v _ _ _ _ _ ⟨d, S2, ι2, p2, k2, s2, r2, re, q2⟩
  exact q2 ι2 H1 _ (Pre.refl _) (Keep.refl _) s2 ((re.set r2).set r2)
theorem psPar (G' : Good X Θ p c tb k) {i j : Nat} {x y : Str} {a b : Expr} {ia ib : E} {px py pt : Pos} {kt k2 pt2 pos} (hi : X.N[i]? = some x) (hj : X.N[j]? = some y) (hij : i ≠ j) (hx : X.env.scope.names.lookup x = some .local) (hy : X.env.scope.names.lookup y = some .local)
    (ha : PE X a (tE X.K Θ W (ev p c ia))) (hb : PE X b (tE X.K Θ W (ev p c ib))) (sa : isSt a = false) (sb : isSt b = false)
    (hw : swappedStores [.Tuple [.Name x px, .Name y py] kt pt] (.Tuple [a, b] k2 pt2) X.env = pure (some [x, y])) :
    PS X (.Assign [.Tuple [.Name x px, .Name y py] kt pt] (.Tuple [a, b] k2 pt2) pos) (tS X.K Θ W (exec p c (.par i j ia ib))) :=
  psImp (ps_par G'.calm G'.nd hi hj hij hx hy (paCons p c ha (paCons p c hb (paNil p c) (star_of sb)) (star_of sa)) hw) fun D σ H ⟨ρ, S, ι, s, r, q⟩ => by
  refine ⟨ρ, S, ι, s, r, ?_⟩
  unfold exec at q
  unfold evs evs evs
  cases e1 : ev p c ia ρ S with
  | bad => rw [e1] at q; exact q.elim
  | ex C fs S1 => rw [e1] at q; exact fun ι2 H2 d p2 k2 s2 ed => q ι2 H2 σ d p2 k2 s2 (r.mono p2 k2) ed
  | ok d1 S1 =>
    rw [e1] at q
    simp only [R.st_ok, R.bind_ok] at q ⊢
    cases e2 : ev p c ib ρ S1 with
    | bad => rw [e2] at q; exact q.elim
    | ex C fs S2 => rw [e2] at q; exact fun ι2 H2 d p2 k2 s2 ed => q ι2 H2 σ d p2 k2 s2 (r.mono p2 k2) ed
    | ok d2 S2 =>
      rw [e2] at q
      intro ι2 H2 vs p2 k2 s2 r2
      obtain ⟨v, w, rfl, ra, rb⟩ := rels2 r2
      exact ⟨v, w, rfl, q ι2 H2 _ p2 k2 s2 (((r.mono p2 k2).set ra).set rb)⟩
/-- o[i] = v -/
def rSetZ (K : PySem.W.Frag) (Θ : Nm) : TSet := fun o i v H Q => ∃ x y d S S' ι, Sim K Θ ι H S ∧ RelD K Θ ι H x o ∧ RelD K Θ ι H y i ∧ RelD K Θ ι H d v ∧ setD x y d S = some S' ∧
  ∀ ι' H', Pre ι ι' → Keep H H' → Sim K Θ ι' H' S' → Q H'
theorem setD_ok (hu : X.A.units + 65 < cLine) (hw : X.w = Θ.w) : PSet X (rSetZ X.K Θ) := by
  intro pins s σ H o i v ov iv u Q I ro ri rv ⟨x, y, d, S, S', ι, sim, r1, r2, r3, h, q⟩
  unfold setD at h
  split at h
  · rename_i n
    obtain ⟨a, rfl, ha⟩ := relObj r1
    split at h
    · rename_i ds e1
      obtain ⟨ws, h1, r4⟩ := sim.ok _ _ _ e1 ha
      split at h
      · rename_i kk
        obtain ⟨j, hj, rfl⟩ := Option.map_eq_some_iff.mp h
        rw [r4.length] at hj
        have kp : Keep H (upd H a (.lst (ws.set j v))) := Keep.write h1 rfl
        exact set_list pins s σ H _ i v ov iv u Q I ro ri rv ⟨a, ws, kk, j, rfl, relInt r2, h1, hj, q ι _ (Pre.refl _) kp (sim.write (m := .lst (ds.set j d)) h1 rfl ha ⟨_, upd_same, (RelDs.mono (Pre.refl _) kp _ _ r4).set j (RelD.mono (Pre.refl _) kp _ _ r3)⟩)⟩
      · cases h
    · rename_i kvs e1
      obtain ⟨ws, h1, r4⟩ := sim.ok _ _ _ e1 ha
      split at h
      · rename_i key e2
        split at h
        · rename_i hl
          cases h
          have kp : Keep H (upd H a (.dK (L2.putK ws key v))) := Keep.write h1 rfl
          have hl' : ws.length < sizeLine := by rw [← relK_len _ _ r4, ← line_eq]; exact hl
          refine set_dict (by omega) pins s σ H _ i v ov iv u Q I ro ri rv ⟨a, _, rfl, ?_, q ι _ (Pre.refl _) kp (sim.write (m := .dic (putK kvs key d)) h1 rfl ha ⟨_, upd_same, putK_rel (RelK.mono (Pre.refl _) kp _ _ r4) (RelD.mono (Pre.refl _) kp _ _ r3)⟩)⟩
          rw [keyOf_rel r2 e2]
          exact DPut.k h1 hl'
        · cases h
      · cases h
    · rename_i kvs e1
      split at h
      · rename_i hc
        cases h
        obtain ⟨ks, rfl, hk4⟩ := tk_tup hc.1
        obtain ⟨xs, h1, r1⟩ := sim.ok _ _ _ e1 ha
        obtain ⟨z1, z2, ys, pr, dd⟩ := dit_at I hw h1 r1
        obtain ⟨b, vs, rfl, _, _⟩ := relTup r2
        obtain rfl : iv = Value.ref b := ri
        obtain rfl : ov = Value.ref a := ro
        have hkey : (deepKind X.prog X.w).is s.heap (.tup ks) b := ⟨hk4, relInH I 4 _ _ _ hk4 r2 rfl⟩
        have hroom : (deepKind X.prog X.w).room X.A.in1 := by
          have e5 : X.A.in1.units = X.A.units + 1 := rfl
          show X.A.in1.units + 20 < cLine
          omega
        have hlen : xs.length < sizeLine := by rw [← relT_len _ _ r1, ← line_eq]; exact hc.2
        have hly : ys.length ≤ sizeLine := by rw [← Paired.length pr]; exact z1
        refine wpAny_setItem_heap (hsz := hly) hroom hkey dd fun h' dd' hs => ?_
        obtain ⟨o, es, ep, g1, g2, g3, g4, _, g5⟩ := dd'
        have pr' : Paired relX (putX xs (.tup ks) b v) (storedH ys (.tup ks) b u) := putX_rel pr rv
        have hl2 : (putX xs (.tup ks) b v).length ≤ sizeLine := by
          unfold putX
          split
          · rw [List.length_map]; exact z1
          · rw [List.length_append]; show xs.length + 1 ≤ sizeLine; omega
        have kp : Keep H (upd H a (DTo Θ.w a (putX xs (.tup ks) b v))) := Keep.write h1 rfl
        refine ⟨_, I.write (x := a) (e := a) (t' := s.toks + (deepKind X.prog X.w).draws (.tup ks)) (by rw [h1]; exact True.intro) (.inl rfl) (fun b' q hb z => (hs.2 b' hb).trans z) ⟨o, g1⟩ (dto_obj ⟨hl2, z2, _, pr', o, es, ep, g1, g2, g3, by rw [g4, hw]; rfl, g5⟩), ?_⟩
        exact q ι _ (Pre.refl _) kp (sim.write (m := .dit (putK kvs (.tup ks) d)) h1 rfl ha ⟨_, upd_same, putT (RelT.mono (Pre.refl _) kp _ _ r1) hk4 (RelD.mono (Pre.refl _) kp _ _ r2) (RelD.mono (Pre.refl _) kp _ _ r3)⟩)
      · cases h
    · cases h
  · cases h
theorem asgSub {o i : Expr} {pos : Pos} {env : PySem.Env} (h : isSl i = false) (v : Value) : assign (.Subscript o i pos) env v = (do
      let ov ← holding [v] (eval o env)
      let iv ← holding [v, ov] (eval i env)
      standAt pos
      holding [v, ov, iv] (setItem ov iv v)
      release [v, ov, iv] []) := by cases i <;> first | rfl | cases h
theorem psSub (G' : Good X Θ p c tb k) {o i e : Expr} {io ii ie : E} {tpos pos : Pos} (he : PE X e (tE X.K Θ W (ev p c ie))) (ho : PE X o (tE X.K Θ W (ev p c io))) (hi : PE X i (tE X.K Θ W (ev p c ii))) (hsl : isSl i = false) (hst : isComp e = false) :
    PS X (.Assign [.Subscript o i tpos] e pos) (tS X.K Θ W (exec p c (.asg (.sub io ii) ie))) :=
  psImp (ps_asg he (pg_sub ho hi (setD_ok (Θ := Θ) (by have := G'.un; omega) G'.hw) (asgSub hsl)) (show swapsWith e (some (.Subscript o i tpos)) pos.line X.env = pure false from swNo hst) (by rfl) (by rfl)) fun D σ H ⟨ρ, S, ι, s, r, q⟩ => by
  unfold exec at q
  refine ⟨ρ, S, ι, s, r, (PostS.st (rel := rD X.K Θ) q r).imp ?_⟩
  rintro _ _ _ H1 v _ _ _ _ _ ⟨d, S2, ι2, p2, k2, s2, r2, re, q2⟩
  refine ⟨ρ, S2, ι2, s2, re, (PostS.st (rel := rD X.K Θ) q2 re).imp ?_⟩
  rintro _ _ _ H3 o _ _ _ _ _ ⟨x, S3, ι3, p3, k3, s3, r3, re3, q3⟩
  refine ⟨ρ, S3, ι3, s3, re3, (PostS.st (rel := rD X.K Θ) q3 re3).imp ?_⟩
  rintro _ _ _ H4 i _ _ _ _ _ ⟨y, S4, ι4, p4, k4, s4, r4, re4, q4⟩
  cases hb : setD x y d S4 with
  | none => rw [hb] at q4; exact q4.elim
  | some S5 =>
    rw [hb] at q4
    exact ⟨x, y, d, S4, S5, ι4, s4, RelD.mono p4 k4 _ _ r3, r4, RelD.mono p4 k4 _ _ (RelD.mono p3 k3 _ _ r2), hb, fun ι' H' pr kp sim => q4 ι' H' σ pr kp sim (re4.mono pr kp)⟩
theorem putF_rel {K : PySem.W.Frag} {ι : List Addr} {H : Hp} {f : Nat} {d : D} {v : V} (rd : RelD K Θ ι H d v) : ∀ (l : List (Nat × D)) (r : List (Str × V)), RelF K Θ ι H l r → RelF K Θ ι H (putN f d l) (putF (Θ.nm f) v r)
  | [], r, h => by
    have h : r = [] := h
    subst h
    exact ⟨v, [], rfl, rd, rfl⟩
  | (g, e) :: l, r, h => by
    obtain ⟨w, t, rfl, a, b⟩ := h
    unfold putN putF
    by_cases hg : g = f
    · subst hg
      simp only [if_true]
      exact ⟨v, t, rfl, rd, b⟩
    · have hn : Θ.nm g ≠ Θ.nm f := fun z => hg (Θ.inj _ _ z)
      simp only [hg, hn, if_false]
      exact ⟨w, _, rfl, a, putF_rel rd l t b⟩
theorem relF_len {K : PySem.W.Frag} {ι : List Addr} {H : Hp} : ∀ (l : List (Nat × D)) (r : List (Str × V)), RelF K Θ ι H l r → l.length = r.length
  | [], r, h => by rw [show r = [] from h]; rfl
  | (j, d) :: l, r, h => by
    obtain ⟨v, t, rfl, a, b⟩ := h
    simp [relF_len l t b]
theorem psFld (G' : Good X Θ p c tb k) {o e : Expr} {io ie : E} {f : Nat} {fn : Str} {tpos pos : Pos} (hf : Θ.nm f = fn) (he : PE X e (tE X.K Θ W (ev p c ie))) (ho : PE X o (tE X.K Θ W (ev p c io))) :
    PS X (.Assign [.Attribute o fn tpos] e pos) (tS X.K Θ W (exec p c (.asg (.fld io f) ie))) := by
  subst hf
  refine psImp (ps_fld ho he (swNoT fun _ _ z => by cases z)) fun D σ H ⟨ρ, S, ι, s, r, q⟩ => ?_
  unfold exec at q
  refine ⟨ρ, S, ι, s, r, (PostS.st (rel := rD X.K Θ) q r).imp ?_⟩
  rintro _ _ _ H1 v _ _ _ _ _ ⟨d, S2, ι2, p2, k2, s2, r2, re, q2⟩
  refine ⟨ρ, S2, ι2, s2, re, (PostS.st (rel := rD X.K Θ) q2 re).imp ?_⟩
  rintro _ _ _ H3 o _ _ _ _ _ ⟨x, S3, ι3, p3, k3, s3, r3, re3, q3⟩
  cases hb : setFld p x f d S3 with
  | none => rw [hb] at q3; exact q3.elim
  | some S5 =>
    rw [hb] at q3
    unfold setFld at hb
    split at hb
    · rename_i n
      obtain ⟨a, rfl, ha⟩ := relObj r3
      split at hb
      · rename_i C fs e1
        obtain ⟨dx, gs, h1, rf⟩ := s3.ok _ _ _ e1 ha
        split at hb
        · rename_i hc
          cases hb
          obtain ⟨c1, c2⟩ := G'.isF C f hc.1
          have kp : Keep H3 (upd H3 a (.ins (Θ.cA C) dx (putF (Θ.nm f) v gs))) := Keep.write h1 rfl
          refine ⟨a, Θ.cA C, dx, gs, rfl, h1, c1, c2, by rw [← relF_len _ _ rf]; exact hc.2, ?_⟩
          exact q3 ι3 _ σ (Pre.refl _) kp (s3.write (m := .ins C (putN f d fs)) h1 rfl ha ⟨dx, _, upd_same, putF_rel (RelD.mono (Pre.refl _) kp _ _ (RelD.mono p3 k3 _ _ r2)) _ _ (RelF.mono (Pre.refl _) kp _ _ rf)⟩) (re3.mono (Pre.refl _) kp)
        · cases hb
      · cases hb
    · cases hb

/-! ### loops -/
theorem PostS.turn {K : PySem.W.Frag} {ι : List Addr} {H : Hp} {D : Ends} {r : RS} {again : Env → Store → RS} {N : St → Hp → Prop} (x : PostS K Θ W ι H D (r.turn again .nx))
    (hN : ∀ ρ S ι' H' σ, Pre ι ι' → Keep H H' → Sim K Θ ι' H' S → RelE K Θ ι' H' ρ σ → PostS K Θ W ι' H' D (again ρ S) → N σ H') : PostS K Θ W ι H { D with nx := N, ct := N, bk := D.nx } r := by
  cases r with
  | nx ρ S => exact fun ι2 H2 σ p2 k2 s2 r2 => hN ρ S ι2 H2 σ p2 k2 s2 r2 (PostS.mono x p2 k2)
  | ct ρ S => exact fun ι2 H2 σ p2 k2 s2 r2 => hN ρ S ι2 H2 σ p2 k2 s2 r2 (PostS.mono x p2 k2)
  | brk ρ S => exact x
  | ret d S => exact x
  | ex C fs ρ S => exact x
  | bad => exact x
theorem psWhile (hp : PassesOwn (model X.prog X.w) X.A X.env X.xe) {t : Expr} {b : List Stmt} {it : T} {ib : Ss} {pos : Pos} (ht : PT X t (tT X.K Θ W (evT p c it))) (hb : PSs X b (tS X.K Θ W (execs p c ib))) :
    PS X (.While t b [] pos) (tS X.K Θ W (exec p c (.whl it ib))) := psImp (ps_while hp ht hb) fun D σ H ⟨ρ, S, ι, s, r, q⟩ => by
  unfold exec whileR at q
  split at q
  · rename_i hh
    refine ⟨fun m σ H => ∃ ρ S ι, Sim X.K Θ ι H S ∧ RelE X.K Θ ι H ρ σ ∧ PostS X.K Θ W ι H D (whileN (evT p c it) (execs p c ib) m ρ S), ⟨hh.choose, ρ, S, ι, s, r, q⟩, ?_⟩
    rintro m σ1 H1 ⟨ρ1, S1, ι1, s1, r1, q1⟩
    cases m with
    | zero => exact q1.elim
    | succ m =>
      unfold whileN at q1
      refine ⟨ρ1, S1, ι1, s1, r1, (PostS.st (rel := rB) q1 r1).imp ?_⟩
      rintro _ _ _ H2 v _ _ _ _ _ ⟨b, S2, ι2, p2, k2, s2, r2, re, q2⟩
      have r2 : v = b := r2
      subst r2
      cases v with
      | false =>
        rw [if_neg Bool.false_ne_true] at q2 ⊢
        exact q2 ι2 H2 σ1 (Pre.refl _) (Keep.refl _) s2 re
      | true =>
        rw [if_pos rfl] at q2 ⊢
        refine ⟨fun σ' H' => ∃ ρ S ι, Sim X.K Θ ι H' S ∧ RelE X.K Θ ι H' ρ σ' ∧ PostS X.K Θ W ι H' D (whileN (evT p c it) (execs p c ib) m ρ S), fun σ' H' h => ⟨m, Nat.lt_succ_self m, h⟩, ρ1, S2, ι2, s2, re, q2.turn ?_⟩
        exact fun ρ S ι' H' σ pr kp sm rr q => ⟨ρ, S, ι', sm, rr, q⟩
  · exact q.elim
theorem forRd {src : Src} {g : G} {b : Env → Store → RS} {σ : St} {ρ : Env} {ι0 : List Addr} {H0 : Hp} {S : Store} {D : Ends} {J : It} (hf : Feeds X.K Θ src J ι0 H0) (s0 : Sim X.K Θ ι0 H0 S) (re : RelE X.K Θ ι0 H0 ρ σ)
    (q0 : PostS X.K Θ W ι0 H0 D (forL src g b src.ds ρ S)) :
    ∃ M : Nat → Nat → St → Hp → Prop, (∃ m, M 0 m σ H0) ∧ ∀ i m σ H, M i m σ H →
      (J.stop i H ∧ D.nx σ H) ∨ (J.go i H ∧ ∃ N : St → Hp → Prop, (∀ σ' H', N σ' H' → ∃ m', m' < m ∧ M (i + 1) m' σ' H') ∧ ∀ x H', J.yld i H x H' → tG X.K Θ g x σ H' fun σ2 H2 => tS X.K Θ W b { D with nx := N, ct := N, bk := D.nx } σ2 H2) := by
  refine ⟨fun i m σ H => m = src.ds.length - i ∧ i ≤ src.ds.length ∧ ∃ ρ S ι', Pre ι0 ι' ∧ Keep H0 H ∧ Sim X.K Θ ι' H S ∧ RelE X.K Θ ι' H ρ σ ∧ PostS X.K Θ W ι' H D (forL src g b (src.ds.drop i) ρ S),
    ⟨src.ds.length, by simp, Nat.zero_le _, ρ, S, ι0, Pre.refl _, Keep.refl _, s0, re, q0⟩, ?_⟩
  rintro i m σ1 H1 ⟨rfl, hi, ρ1, S1, ι1, pr, kp, s1, r1, q⟩
  have hst : src.stays S1 = true := by
    cases hd : src.ds.drop i with
    | nil =>
      rw [hd] at q
      unfold forL at q
      split at q
      · assumption
      · exact q.elim
    | cons d ds =>
      rw [hd] at q
      unfold forL at q
      split at q
      · assumption
      · exact q.elim
  obtain ⟨f1, f2⟩ := hf ι1 H1 S1 pr kp s1 hst
  by_cases hlt : i < src.ds.length
  · have hd : src.ds.drop i = src.ds[i] :: src.ds.drop (i + 1) := List.drop_eq_getElem_cons hlt
    obtain ⟨hgo, hy⟩ := f2 i src.ds[i] (List.getElem?_eq_getElem hlt)
    rw [hd] at q
    unfold forL at q
    rw [if_pos hst] at q
    cases hb : bindG g src.ds[i] ρ1 with
    | none => rw [hb] at q; exact q.elim
    | some ρ' =>
      rw [hb] at q
      dsimp only at q
      refine .inr ⟨hgo, fun σ H => ∃ ρ S ι', Pre ι0 ι' ∧ Keep H0 H ∧ Sim X.K Θ ι' H S ∧ RelE X.K Θ ι' H ρ σ ∧ PostS X.K Θ W ι' H D (forL src g b (src.ds.drop (i + 1)) ρ S), fun σ' H' h => ⟨_, by omega, rfl, hlt, h⟩, fun x H' hyl => ?_⟩
      obtain ⟨rfl, rx⟩ := hy x H' hyl
      refine ⟨src.ds[i], ρ1, S1, ι1, ρ', s1, r1, rx, hb, fun σ' h1 _ => ⟨ρ', S1, ι1, s1, h1, PostS.turn q ?_⟩⟩
      exact fun ρ S ι' H' σ pr' kp' sm rr q' => ⟨ρ, S, ι', pr.trans pr', kp.trans kp', sm, rr, q'⟩
  · have hd : src.ds.drop i = [] := List.drop_eq_nil_of_le (by omega)
    rw [hd] at q
    unfold forL at q
    rw [if_pos hst] at q
    exact .inl ⟨f1 i (by omega), q ι1 H1 σ1 (Pre.refl _) (Keep.refl _) s1 r1⟩
theorem psFor (G' : Good X Θ p c tb k) (hp : PassesOwn (model X.prog X.w) X.A X.env X.xe) {tg iter : Expr} {body : List Stmt} {g : G} {it : I} {ib : Ss} {pos : Pos} (hi : PI X tg iter (tI X.K Θ W (evI p c it))) (hg : PG X tg (tG X.K Θ g)) (hb : PSs X body (tS X.K Θ W (execs p c ib)))
    (hs : ∀ x, foldedSetIterable iter X.env x = pure x) : PS X (.For tg iter body [] pos) (tS X.K Θ W (exec p c (.for g it ib))) := psImp (ps_for hp G'.calm hi hg hb hs) fun D σ H ⟨ρ, S, ι, s, r, q⟩ => by
  unfold exec at q
  refine ⟨ρ, S, ι, s, r, (PostS.st (rel := rI X.K Θ) q r).imp ?_⟩
  rintro _ _ _ H1 J _ _ _ _ _ ⟨src, S2, ι2, p2, k2, s2, r2, re, q2⟩
  exact forRd r2 s2 re q2

/-! ### name = [..], name = {..} on one line -/
theorem setRd {i : Nat} {ie : E} {D : Ends} {σ : St} {H : Hp} (h : tS X.K Θ W (exec p c (.asg (.g (.one i)) ie)) D σ H) : tE X.K Θ W (ev p c ie) σ H (fun x H1 => gName i x σ H1 D.nx) := by
  obtain ⟨ρ, S, ι, s, r, q⟩ := h
  unfold exec at q
  refine ⟨ρ, S, ι, s, r, (PostS.st (rel := rD X.K Θ) q r).imp ?_⟩
  rintro _ _ _ H1 v _ _ _ _ _ ⟨d, S2, ι2, p2, k2, s2, r2, re, q2⟩
  unfold bindG at q2
  exact q2 ι2 H1 _ (Pre.refl _) (Keep.refl _) s2 (re.set r2)
theorem psSetLc (G' : Good X Θ p c tb k) {i : Nat} {y : Str} {py : Pos} {elt tg iter : Expr} {ifs : List Expr} {scope : Scope} {own : List (Str × Nat)} {pos spos : Pos} {ie : E} {g : G} {it : I} {t : T} (hy : X.N[i]? = some y) (hyl : X.env.scope.names.lookup y = some .local)
    (hsw : swapsWith (.ListComp elt [⟨tg, iter, ifs, 0⟩] scope pos) (some (.Name y py)) spos.line X.env = pure true) (hsub : ∀ i ∈ g.slots, i ∈ own.map (·.2)) (hi : PI X tg iter (tI X.K Θ W (evI p c it))) (ok : BlkOk X.N X.env.scope scope own)
    (hg : ∀ (s : Shared) (H : Hp) (C : Addr) (cl : List (Str × Addr)) (fp : List Addr), PG (X.blk s H scope (compEnvC scope cl C X.env) fp) tg (tG X.K Θ g)) (ht : ∀ (s : Shared) (H : Hp) (C : Addr) (cl : List (Str × Addr)) (fp : List Addr), PTs (X.blk s H scope (compEnvC scope cl C X.env) fp) ifs (tT X.K Θ W0 (evT p c t)))
    (he : ∀ (s : Shared) (H : Hp) (C : Addr) (cl : List (Str × Addr)) (fp : List Addr), PE (X.blk s H scope (compEnvC scope cl C X.env) fp) elt (tE X.K Θ W0 (ev p c ie))) (hs : ∀ x, foldedSetIterable iter X.env x = pure x) :
    PS X (.Assign [.Name y py] (.ListComp elt [⟨tg, iter, ifs, 0⟩] scope pos) spos) (tS X.K Θ W (exec p c (.asg (.g (.one i)) (.lc (own.map (·.2)) ie g it t)))) :=
  psImp (ps_setLc G'.calm G'.nd hy hyl hsw hi ok hg ht he hs) fun D σ H h => lcTE hsub (setRd h)
theorem ps_setDc {i : Nat} {y : Str} {py : Pos} {kx vx tg iter : Expr} {ifs : List Expr} {scope : Scope} {own : List (Str × Nat)} {pos spos : Pos} {wi : TI} {g : TG} {tt : TT} {tk tv : TE} (hc : X.calm = true) (hN : X.N.Nodup) (hy : X.N[i]? = some y) (hyl : X.env.scope.names.lookup y = some .local)
    (hsw : swapsWith (.DictComp kx vx [⟨tg, iter, ifs, 0⟩] scope pos) (some (.Name y py)) spos.line X.env = pure true) (hi : PI X tg iter wi) (ok : BlkOk X.N X.env.scope scope own)
    (hg : ∀ (s : Shared) (H : Hp) (C : Addr) (cl : List (Str × Addr)) (fp : List Addr), PG (X.blk s H scope (compEnvC scope cl C X.env) fp) tg g) (ht : ∀ (s : Shared) (H : Hp) (C : Addr) (cl : List (Str × Addr)) (fp : List Addr), PTs (X.blk s H scope (compEnvC scope cl C X.env) fp) ifs tt)
    (hk : ∀ (s : Shared) (H : Hp) (C : Addr) (cl : List (Str × Addr)) (fp : List Addr), PE (X.blk s H scope (compEnvC scope cl C X.env) fp) kx tk)
    (he : ∀ (s : Shared) (H : Hp) (C : Addr) (cl : List (Str × Addr)) (fp : List Addr), PE (X.blk s H scope (compEnvC scope cl C X.env) fp) vx tv) (hs : ∀ x, foldedSetIterable iter X.env x = pure x) :
    PS X (.Assign [.Name y py] (.DictComp kx vx [⟨tg, iter, ifs, 0⟩] scope pos) spos) (tAsg (tDc wi g tt tk tv (own.map (·.2))) (gName i)) := by
  refine ⟨fun pins s σ H D I h => ?_⟩
  rw [exec_Assign_Name_used _ _ _ _ hsw]
  refine wpAny_bind (wpAny_standAt (wpAny_bind ?_))
  show wpAny _ X.A (do let _ ← comprehension (.DictComp kx vx [⟨tg, iter, ifs, 0⟩] scope pos) scope X.env (firstIterPos [⟨tg, iter, ifs, 0⟩] pos) newDict false (eval iter X.env) (some (assign (.Name y py) X.env))) _ _ s
  have h : tDc wi g tt tk tv (own.map (·.2)) σ H (fun x H1 => gName i x σ H1 D.nx) := h
  refine wpAny_bind (thn (dc_core (Qf := fun _ s' => SP X pins D .next s') hc hN I hi ok hg ht hk he hs h fun L C s' m H' I' q hn f => ?_) fun _ s' hq => wpAny_pure (wpAny_pure hq))
  show wpAny _ _ (assign (.Name y py) X.env (.ref L)) _ _ _
  refine wpAny_assign_Name (store_ok2 (v := V.ref L) I' hN hy (.inl hyl) rfl (fun s2 I2 ⟨a, sb, ha⟩ => ?_) (.inr hyl))
  obtain ⟨f0, f1, f2, f3, f4, f5⟩ := f
  have haC : C ≠ a := by
    rcases ha with z | z
    · rw [z]; exact f1
    · exact fun e => f4 y a z e.symm
  refine ⟨m, hn.sameBut sb haC, fun h3 sb3 => ?_⟩
  exact ⟨_, H', I2.turned (t' := s2.toks) (fun b o hb e => (sb3.2 b hb).trans e) f0 f1 f3 f4 f5, q⟩
theorem psSetDc (G' : Good X Θ p c tb k) {i : Nat} {y : Str} {py : Pos} {kx elt tg iter : Expr} {ifs : List Expr} {scope : Scope} {own : List (Str × Nat)} {pos spos : Pos} {ik ie : E} {g : G} {it : I} {t : T} (hy : X.N[i]? = some y) (hyl : X.env.scope.names.lookup y = some .local)
    (hsw : swapsWith (.DictComp kx elt [⟨tg, iter, ifs, 0⟩] scope pos) (some (.Name y py)) spos.line X.env = pure true) (hsub : ∀ i ∈ g.slots, i ∈ own.map (·.2)) (hi : PI X tg iter (tI X.K Θ W (evI p c it))) (ok : BlkOk X.N X.env.scope scope own)
    (hg : ∀ (s : Shared) (H : Hp) (C : Addr) (cl : List (Str × Addr)) (fp : List Addr), PG (X.blk s H scope (compEnvC scope cl C X.env) fp) tg (tG X.K Θ g)) (ht : ∀ (s : Shared) (H : Hp) (C : Addr) (cl : List (Str × Addr)) (fp : List Addr), PTs (X.blk s H scope (compEnvC scope cl C X.env) fp) ifs (tT X.K Θ W0 (evT p c t)))
    (hk : ∀ (s : Shared) (H : Hp) (C : Addr) (cl : List (Str × Addr)) (fp : List Addr), PE (X.blk s H scope (compEnvC scope cl C X.env) fp) kx (tE X.K Θ W0 (ev p c ik)))
    (he : ∀ (s : Shared) (H : Hp) (C : Addr) (cl : List (Str × Addr)) (fp : List Addr), PE (X.blk s H scope (compEnvC scope cl C X.env) fp) elt (tE X.K Θ W0 (ev p c ie))) (hs : ∀ x, foldedSetIterable iter X.env x = pure x) :
    PS X (.Assign [.Name y py] (.DictComp kx elt [⟨tg, iter, ifs, 0⟩] scope pos) spos) (tS X.K Θ W (exec p c (.asg (.g (.one i)) (.dc (own.map (·.2)) ik ie g it t)))) :=
  psImp (ps_setDc G'.calm G'.nd hy hyl hsw hi ok hg ht hk he hs) fun D σ H h => dcTE hsub (setRd h)
end
end Z
end

section
set_option Elab.async false
set_option linter.all false
set_option maxRecDepth 100000
/-! ZK: the text as instructions, each with its proof. -/
namespace Z
open PySem L2
structure CT where
  N : List Str
  sc : Scope
  tb : Tb
  st : Str → Bool
structure CTOk (X : Cx) (ct : CT) : Prop where
  N : X.N = ct.N
  sc : X.env.scope = ct.sc
  st : ∀ x, ct.st x = true → X.fn x = true
def OkE (ct : CT) (e : Expr) (ir : E) : Prop := ∀ (X : Cx) (Θ : Nm) (p : Prg) (c : Nat → List D → Store → R D) (k : Nat) (W : WX), Good X Θ p c ct.tb k → CTOk X ct → Takes X W → PE X e (tE X.K Θ W (ev p c ir))
def OkA (ct : CT) (e : List Expr) (ir : Es) : Prop := ∀ (X : Cx) (Θ : Nm) (p : Prg) (c : Nat → List D → Store → R D) (k : Nat) (W : WX), Good X Θ p c ct.tb k → CTOk X ct → Takes X W → PA X e (tA X.K Θ W (evs p c ir))
def OkT (ct : CT) (e : Expr) (ir : T) : Prop := ∀ (X : Cx) (Θ : Nm) (p : Prg) (c : Nat → List D → Store → R D) (k : Nat) (W : WX), Good X Θ p c ct.tb k → CTOk X ct → Takes X W → PT X e (tT X.K Θ W (evT p c ir))
def OkW (ct : CT) (e : Expr) (ir : T) : Prop := ∀ (X : Cx) (Θ : Nm) (p : Prg) (c : Nat → List D → Store → R D) (k : Nat) (W : WX), Good X Θ p c ct.tb k → CTOk X ct → Takes X W → PW X e (tT X.K Θ W (evT p c ir))
def OkO (ct : CT) (e : Option Expr) (ir : O) : Prop := ∀ (X : Cx) (Θ : Nm) (p : Prg) (c : Nat → List D → Store → R D) (k : Nat) (W : WX), Good X Θ p c ct.tb k → CTOk X ct → Takes X W → PO X e (tO X.K Θ W (evO p c ir))
def OkI (ct : CT) (e : Expr) (ir : I) : Prop := ∀ (tg : Expr) (X : Cx) (Θ : Nm) (p : Prg) (c : Nat → List D → Store → R D) (k : Nat) (W : WX), Good X Θ p c ct.tb k → CTOk X ct → Takes X W → PI X tg e (tI X.K Θ W (evI p c ir))
def OkG (ct : CT) (e : Expr) (g : G) : Prop := ∀ (X : Cx) (Θ : Nm) (p : Prg) (c : Nat → List D → Store → R D) (k : Nat), Good X Θ p c ct.tb k → CTOk X ct → PG X e (tG X.K Θ g)
def OkS (ct : CT) (e : Stmt) (ir : S) : Prop := ∀ (X : Cx) (Θ : Nm) (p : Prg) (c : Nat → List D → Store → R D) (k : Nat) (W : WX), Good X Θ p c ct.tb k → CTOk X ct → Takes X W → PassesOwn (model X.prog X.w) X.A X.env X.xe → PS X e (tS X.K Θ W (exec p c ir))
def OkSs (ct : CT) (e : List Stmt) (ir : Ss) : Prop := ∀ (X : Cx) (Θ : Nm) (p : Prg) (c : Nat → List D → Store → R D) (k : Nat) (W : WX), Good X Θ p c ct.tb k → CTOk X ct → Takes X W → PassesOwn (model X.prog X.w) X.A X.env X.xe → PSs X e (tS X.K Θ W (execs p c ir))
abbrev ResE (ct : CT) (e : Expr) := Option { ir : E // OkE ct e ir }
abbrev ResA (ct : CT) (e : List Expr) := Option { ir : Es // OkA ct e ir }
abbrev ResT (ct : CT) (e : Expr) := Option { ir : T // OkT ct e ir }
abbrev ResW (ct : CT) (e : Expr) := Option { ir : T // OkW ct e ir }
abbrev ResO (ct : CT) (e : Option Expr) := Option { ir : O // OkO ct e ir }
abbrev ResI (ct : CT) (e : Expr) := Option { ir : I // OkI ct e ir }
abbrev ResG (ct : CT) (e : Expr) := Option { g : G // OkG ct e g }
abbrev ResS (ct : CT) (e : Stmt) := Option { ir : S // OkS ct e ir }
abbrev ResSs (ct : CT) (e : List Stmt) := Option { ir : Ss // OkSs ct e ir }

theorem glOf {X : Cx} {ct : CT} {x : Str} (C : CTOk X ct) (h : ct.sc.names.lookup x = some .globalImplicit) : Gl X x := by
  unfold Gl Env.kindOf
  rw [C.sc]; exact h
def idx (N : List Str) (x : Str) : Option Nat := N.findIdx? fun y => y == x
/-- the slot of a name -/
def slot (N : List Str) (x : Str) : Option { i : Nat // N[i]? = some x } := match idx N x with
  | some i => if h : N[i]? = some x then some ⟨i, h⟩ else none
  | none => none
def vis (sc : Scope) (x : Str) : Bool := match sc.names.lookup x with
  | some .local => true | some .cell => true | some .free => true | _ => false
theorem vis_ok {sc : Scope} {x : Str} (h : vis sc x = true) : Vis sc x := by
  unfold vis at h
  split at h <;> first | exact .inl (by assumption) | exact .inr (.inl (by assumption)) | exact .inr (.inr (by assumption)) | cases h
def loc (ct : CT) (x : Str) : Bool := match ct.sc.names.lookup x with
  | some .local => true | some .cell => ct.st x | _ => false
theorem loc_ok {X : Cx} {ct : CT} {x : Str} (C : CTOk X ct) (h : loc ct x = true) : Loc X.env.scope x ∧ (X.fn x = true ∨ X.env.scope.names.lookup x = some .local) := by
  unfold loc at h
  rw [C.sc]
  split at h
  · rename_i e; exact ⟨.inl e, .inr e⟩
  · rename_i e; exact ⟨.inr e, .inl (C.st x h)⟩
  · cases h
def dbgN (x : Str) : Bool := x == ("__debug__" : Str)
def isGl (ct : CT) (x : Str) : Bool := ct.sc.names.lookup x == some .globalImplicit
theorem gl_of {X : Cx} {ct : CT} {x : Str} (C : CTOk X ct) (h : isGl ct x = true) : Gl X x := glOf C (by unfold isGl at h; exact eq_of_beq h)
def cName (ct : CT) (x : Str) (pos : Pos) : ResE ct (.Name x pos) :=
  if hd : (x == ("__debug__" : Str)) = false ∧ (x == ("__classdict__" : Str)) = false then
    if hv : vis ct.sc x = true then
      match slot ct.N x with
      | some ⟨i, hi⟩ => some ⟨.v i, fun X Θ p c k W G C tk => peVar (by rw [C.N]; exact hi) (by rw [C.sc]; exact vis_ok hv) hd.1 hd.2 p c⟩
      | none => none
    else if hg : isGl ct x = true then
      match hx : ct.tb.gl x with
      | some i => some ⟨.g i, fun X Θ p c k W G C tk => by
          obtain ⟨d, u, v, h1, h2, h3, h4⟩ := G.gl x i hx
          exact peGlob (pe_glob (gl_of C hg) h2 h3 hd.1) h4 p c h1⟩
      | none => none
    else none
  else none
def cConst (ct : CT) (c : Const) (j : Nat) (pos : Pos) : ResE ct (.Constant c j pos) := match c with
  | .int i => some ⟨.k (.int i), fun X Θ p c k W G C tk => peConst (d := .int i) pe_int (fun _ _ => rfl) p c⟩
  | .str i => some ⟨.k (.str i), fun X Θ p c k W G C tk => peConst (d := .str i) pe_str (fun _ _ => rfl) p c⟩
  | .bool i => some ⟨.k (.bl i), fun X Θ p c k W G C tk => peConst (d := .bl i) pe_bl (fun _ _ => rfl) p c⟩
  | .none => some ⟨.k .non, fun X Θ p c k W G C tk => peConst (d := .non) pe_non (fun _ _ => rfl) p c⟩
  | _ => none
structure Cmp where
  e : (ct : CT) → (e : Expr) → ResE ct e
  t : (ct : CT) → (e : Expr) → ResT ct e
  w : (ct : CT) → (e : Expr) → ResW ct e
def Cmp.no : Cmp := ⟨fun _ _ => none, fun _ _ => none, fun _ _ => none⟩
section
variable (r : Cmp) (ct : CT)
def cEs : (es : List Expr) → ResA ct es
  | [] => some ⟨.nil, fun X Θ p c k W G C tk => paNil p c⟩
  | e :: es => if hs : isSt e = false then
      match r.e ct e, cEs es with
      | some ⟨i, h1⟩, some ⟨is, h2⟩ => some ⟨.cons i is, fun X Θ p c k W G C tk => paCons p c (h1 X Θ p c k W G C tk) (h2 X Θ p c k W G C tk) (star_of hs)⟩
      | _, _ => none
    else none
def cO : (e : Option Expr) → ResO ct e
  | none => some ⟨.none, fun X Θ p c k W G C tk => poNone⟩
  | some e => match r.e ct e with
    | some ⟨i, h⟩ => some ⟨.some i, fun X Θ p c k W G C tk => poSome (h X Θ p c k W G C tk)⟩
    | none => none
def bOf (x : Str) : Option B := [B.len, .abs, .int, .str, .list, .tuple, .all, .any, .sum, .max, .min, .sorted, .gcd].find? fun f => bN f == x
def bOk (f : B) : Bool := match f with | .gcd => ct.tb.gc | _ => ct.tb.bl (bN f)
theorem bOk_ok {ct : CT} {f : B} (h : bOk ct f = true) : if f = .gcd then ct.tb.gc = true else ct.tb.bl (bN f) = true := by
  cases f <;> exact h
def tOf (x : Str) : Option Nat := [0, 1, 2, 3, 4, 5].find? fun f => tyE f == x
/-- a call of a built-in -/
def cBlt (x : Str) (pp : Pos) (e : Expr) (es : List Expr) (pos : Pos) : ResE ct (.Call (.Name x pp) (e :: es) [] pos) :=
  match bOf x with
  | some f => if h : bN f = x ∧ isGl ct x = true ∧ bOk ct f = true ∧ isSt e = false ∧ es.all (fun e => !isSt e) = true then
      match cEs r ct (e :: es) with
      | some ⟨is, ha⟩ => some ⟨.blt f is, fun X Θ p c k W G C tk => by
          obtain ⟨rfl, h2, h3, h4, h5⟩ := h
          exact peBlt G (gl_of C h2) (bOk_ok h3) h4 h5 (ha X Θ p c k W G C tk)⟩
      | none => none
    else none
  | none => none
def cIsT (x : Str) (pp : Pos) (a : Expr) (y : Str) (py pos : Pos) : ResE ct (.Call (.Name x pp) [a, .Name y py] [] pos) :=
  match tOf y with
  | some T => if h : x = "isinstance" ∧ tyE T = y ∧ T < 6 ∧ isGl ct "isinstance" = true ∧ ct.tb.bl "isinstance" = true ∧ isGl ct y = true ∧ ct.tb.bl y = true ∧ isSt a = false then
      match r.e ct a with
      | some ⟨ia, ha⟩ => some ⟨.isT ia T, fun X Θ p c k W G C tk => by
          obtain ⟨rfl, rfl, h2, h3, h4, h5, h6, h7⟩ := h
          exact peIsT G h2 (gl_of C h3) h4 (gl_of C h5) h6 h7 (ha X Θ p c k W G C tk)⟩
      | none => none
    else none
  | none => none
def cLrng1 (x : Str) (pp : Pos) (y : Str) (py : Pos) (a : Expr) (p3 pos : Pos) : ResE ct (.Call (.Name x pp) [.Call (.Name y py) [a] [] p3] [] pos) :=
  if h : x = "list" ∧ y = "range" ∧ isGl ct "list" = true ∧ ct.tb.bl "list" = true ∧ isGl ct "range" = true ∧ ct.tb.bl "range" = true ∧ isSt a = false then
    match r.e ct a with
    | some ⟨ia, ha⟩ => some ⟨.lrng (.cons ia .nil), fun X Θ p c k W G C tk => by
        obtain ⟨rfl, rfl, h3, h4, h5, h6, h7⟩ := h
        exact peLrng1 G (gl_of C h3) h4 (gl_of C h5) h6 h7 (ha X Θ p c k W G C tk)⟩
    | none => none
  else none
def cLrng2 (x : Str) (pp : Pos) (y : Str) (py : Pos) (a b : Expr) (p3 pos : Pos) : ResE ct (.Call (.Name x pp) [.Call (.Name y py) [a, b] [] p3] [] pos) :=
  if h : x = "list" ∧ y = "range" ∧ isGl ct "list" = true ∧ ct.tb.bl "list" = true ∧ isGl ct "range" = true ∧ ct.tb.bl "range" = true ∧ isSt a = false ∧ isSt b = false then
    match r.e ct a, r.e ct b with
    | some ⟨ia, ha⟩, some ⟨ib, hb⟩ => some ⟨.lrng (.cons ia (.cons ib .nil)), fun X Θ p c k W G C tk => by
        obtain ⟨rfl, rfl, h3, h4, h5, h6, h7, h8⟩ := h
        exact peLrng2 G (gl_of C h3) h4 (gl_of C h5) h6 h7 h8 (ha X Θ p c k W G C tk) (hb X Θ p c k W G C tk)⟩
    | _, _ => none
  else none
/-- f(..), f a def or a class -/
def cDef (x : Str) (pp : Pos) : (es : List Expr) → (pos : Pos) → ResE ct (.Call (.Name x pp) es [] pos)
  | [], pos => if h : isGl ct x = true ∧ (x == ("__debug__" : Str)) = false then
      match hf : ct.tb.df x with
      | some f => some ⟨.call f .nil, fun X Θ p c k W G C tk => peCall0 G tk (gl_of C h.1) hf h.2⟩
      | none => match hf : ct.tb.cl x with
        | some C' => some ⟨.new C' .nil, fun X Θ p c k W G C tk => peNew0 G tk (gl_of C h.1) hf h.2 (G.ci _ _ hf)⟩
        | none => none
    else none
  | e :: es, pos => if h : isGl ct x = true ∧ (x == ("__debug__" : Str)) = false ∧ isSt e = false ∧ es.all (fun e => !isSt e) = true then
      match hf : ct.tb.df x with
      | some f => (match cEs r ct (e :: es) with
        | some ⟨is, ha⟩ => some ⟨.call f is, fun X Θ p c k W G C tk => peCall G tk (gl_of C h.1) hf h.2.1 h.2.2.1 h.2.2.2 (ha X Θ p c k W G C tk)⟩
        | none => none)
      | none => match hf : ct.tb.cl x with
        | some C' => (match cEs r ct (e :: es) with
          | some ⟨is, ha⟩ => some ⟨.new C' is, fun X Θ p c k W G C tk => peNew G tk (gl_of C h.1) hf h.2.1 h.2.2.1 h.2.2.2 (G.ci _ _ hf) (ha X Θ p c k W G C tk)⟩
          | none => none)
        | none => none
    else none
def orE {α : Type} (a b : Option α) : Option α := match a with
  | some x => some x
  | none => b
def cCallN (x : Str) (pp : Pos) : (es : List Expr) → (pos : Pos) → ResE ct (.Call (.Name x pp) es [] pos)
  | [], pos => cDef r ct x pp [] pos
  | [.Call (.Name y py) [a] [] p3], pos => orE (cDef r ct x pp [.Call (.Name y py) [a] [] p3] pos) (orE (cLrng1 r ct x pp y py a p3 pos) (cBlt r ct x pp (.Call (.Name y py) [a] [] p3) [] pos))
  | [.Call (.Name y py) [a, b] [] p3], pos => orE (cDef r ct x pp [.Call (.Name y py) [a, b] [] p3] pos) (orE (cLrng2 r ct x pp y py a b p3 pos) (cBlt r ct x pp (.Call (.Name y py) [a, b] [] p3) [] pos))
  | [a, .Name y py], pos => orE (cDef r ct x pp [a, .Name y py] pos) (orE (cIsT r ct x pp a y py pos) (cBlt r ct x pp a [.Name y py] pos))
  | e :: es, pos => orE (cDef r ct x pp (e :: es) pos) (cBlt r ct x pp e es pos)
/-- o.m(..) -/
def cMeth (o : Expr) (m : Str) (apos : Pos) : (es : List Expr) → (pos : Pos) → ResE ct (.Call (.Attribute o m apos) es [] pos)
  | [], pos => if h : noSup o = true ∧ (apos.endLine == pos.line) = true then
      if h2 : ct.tb.om m = true then
        match hf : ct.tb.fd m, r.e ct o with
        | some f, some ⟨io, ho⟩ => some ⟨.meth io f .nil, fun X Θ p c k W G C tk => peMeth0 G tk (G.fd _ _ hf) h.1 h.2 (ho X Θ p c k W G C tk)⟩
        | _, _ => none
      else if h3 : m = "pop" then
        match r.e ct o with
        | some ⟨io, ho⟩ => some ⟨.bm io .pop .nil, fun X Θ p c k W G C tk => by subst h3; exact peBm0 h.1 h.2 (ho X Θ p c k W G C tk)⟩
        | none => none
      else none
    else none
  | e :: es, pos => if h : noSup o = true ∧ (apos.endLine == pos.line) = true ∧ isSt e = false ∧ es.all (fun e => !isSt e) = true ∧ (e :: es).length < 30 then
      if h2 : ct.tb.om m = true then
        match hf : ct.tb.fd m, r.e ct o, cEs r ct (e :: es) with
        | some f, some ⟨io, ho⟩, some ⟨is, ha⟩ => some ⟨.meth io f is, fun X Θ p c k W G C tk => peMeth G tk (G.fd _ _ hf) h.1 h.2.2.2.2 h.2.1 h.2.2.1 h.2.2.2.1 (ho X Θ p c k W G C tk) (ha X Θ p c k W G C tk)⟩
        | _, _, _ => none
      else match es with
        | [] => (match r.e ct o, cEs r ct [e] with
          | some ⟨io, ho⟩, some ⟨is, ha⟩ => if h3 : m = "pop" then some ⟨.bm io .popAt is, fun X Θ p c k W G C tk => by subst h3; exact peBm (.inr rfl) h.1 h.2.1 h.2.2.1 (ho X Θ p c k W G C tk) (ha X Θ p c k W G C tk)⟩
            else if h3 : m = "append" then some ⟨.bm io .append is, fun X Θ p c k W G C tk => by subst h3; exact peBm (.inl rfl) h.1 h.2.1 h.2.2.1 (ho X Θ p c k W G C tk) (ha X Θ p c k W G C tk)⟩
            else none
          | _, _ => none)
        | _ => none
    else none
def cTgs (X0 : Unit) : (es : List Expr) → Option { is : List Nat // ∀ X, CTOk X ct → NamesOf X es is }
  | [] => some ⟨[], fun _ _ => .nil⟩
  | .Name x pos :: es => if h : loc ct x = true then
      match slot ct.N x, cTgs X0 es with
      | some ⟨i, hi⟩, some ⟨is, hs⟩ => some ⟨i :: is, fun X C => .cons (by rw [C.N]; exact hi) (loc_ok C h).1 (loc_ok C h).2 (hs X C)⟩
      | _, _ => none
    else none
  | _ => none
def cG : (e : Expr) → ResG ct e
  | .Name x pos => if h : loc ct x = true then
      match slot ct.N x with
      | some ⟨i, hi⟩ => some ⟨.one i, fun X Θ p c k G C => pgOne G.nd (by rw [C.N]; exact hi) (loc_ok C h).1 (loc_ok C h).2⟩
      | none => none
    else none
  | .Tuple es n pos => match cTgs ct () es with
    | some ⟨is, hs⟩ => some ⟨.many is, fun X Θ p c k G C => pgMany G (hs X C)⟩
    | none => none
  | _ => none
def cI : (e : Expr) → ResI ct e
  | .Call (.Name x pp) [a] [] pos => if h : x = "range" ∧ isGl ct "range" = true ∧ ct.tb.bl "range" = true ∧ isSt a = false then
      match r.e ct a with
      | some ⟨ia, ha⟩ => some ⟨.rng (.cons ia .nil), fun tg X Θ p c k W G C tk => by
          obtain ⟨rfl, h2, h3, h4⟩ := h
          exact piRng1 G (gl_of C h2) h3 h4 rfl (paCons p c (ha X Θ p c k W G C tk) (paNil p c) (star_of h4))⟩
      | none => none
    else match r.e ct (.Call (.Name x pp) [a] [] pos) with
      | some ⟨ia, ha⟩ => some ⟨.seq ia, fun tg X Θ p c k W G C tk => piSeq (ha X Θ p c k W G C tk)⟩
      | none => none
  | .Call (.Name x pp) [a, b] [] pos => if h : x = "range" ∧ isGl ct "range" = true ∧ ct.tb.bl "range" = true ∧ isSt a = false ∧ isSt b = false then
      match r.e ct a, r.e ct b with
      | some ⟨ia, ha⟩, some ⟨ib, hb⟩ => some ⟨.rng (.cons ia (.cons ib .nil)), fun tg X Θ p c k W G C tk => by
          obtain ⟨rfl, h2, h3, h4, h5⟩ := h
          exact piRng2 G (gl_of C h2) h3 h4 h5 rfl (paCons p c (ha X Θ p c k W G C tk) (paCons p c (hb X Θ p c k W G C tk) (paNil p c) (star_of h5)) (star_of h4))⟩
      | _, _ => none
    else match r.e ct (.Call (.Name x pp) [a, b] [] pos) with
      | some ⟨ia, ha⟩ => some ⟨.seq ia, fun tg X Θ p c k W G C tk => piSeq (ha X Θ p c k W G C tk)⟩
      | none => none
  | e => match r.e ct e with
    | some ⟨ia, ha⟩ => some ⟨.seq ia, fun tg X Θ p c k W G C tk => piSeq (ha X Θ p c k W G C tk)⟩
    | none => none
/-! comprehensions -/
def ownOf (N : List Str) (scope : Scope) : List (Str × Nat) := scope.names.filterMap fun (n, k) => match k with
  | .local => (idx N n).map fun i => (n, i)
  | .cell => (idx N n).map fun i => (n, i)
  | _ => none
def ct' (scope : Scope) : CT := ⟨ct.N, relS scope ct.sc, ct.tb, fun x => scope.names.lookup x == some .cell⟩
theorem ct'_ok {ct : CT} {X : Cx} (C : CTOk X ct) (scope : Scope) (s : Shared) (H : Hp) (A : Addr) (cl : List (Str × Addr)) (fp : List Addr) : CTOk (X.blk s H scope (compEnvC scope cl A X.env) fp) (ct' ct scope) :=
  ⟨C.N, by
    show relabel scope X.env = relS scope ct.sc
    rw [← C.sc]; rfl, fun x h => h⟩
def noSetE : Expr → Bool
  | .Set .. => false
  | _ => true
theorem noSet {e : Expr} {env : PySem.Env} (h : noSetE e = true) (x : Value) : foldedSetIterable e env x = pure x := by
  cases e <;> first | rfl | cases h
theorem tYes_le {X : Cx} {Θ : Nm} {p : Prg} {c : Nat → List D → Store → R D} {W : WX} : PTs X [] (tT X.K Θ W (evT p c .yes)) := ⟨fun pins s σ H Q I ⟨ρ, S, ι, sim, r, q⟩ => pts_nil.run pins s σ H Q I (by
  unfold evT at q
  exact q.ok sim rfl)⟩
def cIfs (ct : CT) : (ifs : List Expr) → Option { ir : T // ∀ (X : Cx) (Θ : Nm) (p : Prg) (c : Nat → List D → Store → R D) (k : Nat) (W : WX), Good X Θ p c ct.tb k → CTOk X ct → Takes X W → PTs X ifs (tT X.K Θ W (evT p c ir)) }
  | [] => some ⟨.yes, fun X Θ p c k W G C tk => tYes_le⟩
  | [a] => match r.t ct a with
    | some ⟨ia, ha⟩ => some ⟨ia, fun X Θ p c k W G C tk => pts_one (ha X Θ p c k W G C tk)⟩
    | none => none
  | _ => none
def cLc : (e : Expr) → ResE ct e
  | .ListComp elt [⟨tg, iter, ifs, z⟩] scope pos =>
      match cG (ct' ct scope) tg, cI r ct iter, cIfs r (ct' ct scope) ifs, r.e (ct' ct scope) elt with
      | some ⟨g, hg⟩, some ⟨it, hi⟩, some ⟨t, ht⟩, some ⟨ie, he⟩ =>
        if h : z = 0 ∧ blkC ct.N ct.sc scope (ownOf ct.N scope) = true ∧ (g.slots.all fun i => decide (i ∈ (ownOf ct.N scope).map (·.2))) = true ∧ noSetE iter = true then
          some ⟨.lc ((ownOf ct.N scope).map (·.2)) ie g it t, fun X Θ p c k W G C tk => by
            obtain ⟨rfl, h2, h3, h4⟩ := h
            exact peLc G (fun i hi => of_decide_eq_true (List.all_eq_true.mp h3 i hi)) (hi tg X Θ p c k W G C tk) (by rw [C.N, C.sc]; exact blkOk_by h2)
              (fun s H A cl fp => hg _ Θ p c k (G.blk ..) (ct'_ok C scope s H A cl fp)) (fun s H A cl fp => ht _ Θ p c k W0 (G.blk ..) (ct'_ok C scope s H A cl fp) takes0)
              (fun s H A cl fp => he _ Θ p c k W0 (G.blk ..) (ct'_ok C scope s H A cl fp) takes0) (noSet h4)⟩
        else none
      | _, _, _, _ => none
  | _ => none
def cDc : (e : Expr) → ResE ct e
  | .DictComp kx elt [⟨tg, iter, ifs, z⟩] scope pos =>
      match cG (ct' ct scope) tg, cI r ct iter, cIfs r (ct' ct scope) ifs, r.e (ct' ct scope) kx, r.e (ct' ct scope) elt with
      | some ⟨g, hg⟩, some ⟨it, hi⟩, some ⟨t, ht⟩, some ⟨ik, hk⟩, some ⟨ie, he⟩ =>
        if h : z = 0 ∧ blkC ct.N ct.sc scope (ownOf ct.N scope) = true ∧ (g.slots.all fun i => decide (i ∈ (ownOf ct.N scope).map (·.2))) = true ∧ noSetE iter = true then
          some ⟨.dc ((ownOf ct.N scope).map (·.2)) ik ie g it t, fun X Θ p c k W G C tk => by
            obtain ⟨rfl, h2, h3, h4⟩ := h
            exact peDc G (fun i hi => of_decide_eq_true (List.all_eq_true.mp h3 i hi)) (hi tg X Θ p c k W G C tk) (by rw [C.N, C.sc]; exact blkOk_by h2)
              (fun s H A cl fp => hg _ Θ p c k (G.blk ..) (ct'_ok C scope s H A cl fp)) (fun s H A cl fp => ht _ Θ p c k W0 (G.blk ..) (ct'_ok C scope s H A cl fp) takes0)
              (fun s H A cl fp => hk _ Θ p c k W0 (G.blk ..) (ct'_ok C scope s H A cl fp) takes0) (fun s H A cl fp => he _ Θ p c k W0 (G.blk ..) (ct'_ok C scope s H A cl fp) takes0) (noSet h4)⟩
        else none
      | _, _, _, _, _ => none
  | _ => none
end
end Z
end

section
set_option Elab.async false
set_option linter.all false
set_option maxRecDepth 100000
/-! ZL: the text as instructions: whole expressions, statements. -/
namespace Z
open PySem L2
def stepE (r : Cmp) (ct : CT) : (e : Expr) → ResE ct e
  | .Constant c j pos => cConst ct c j pos
  | .Name x pos => cName ct x pos
  | .Tuple es j pos => match cEs r ct es with
    | some ⟨is, h⟩ => some ⟨.tup is, fun X Θ p c k W G C tk => peTup p c (h X Θ p c k W G C tk)⟩
    | none => none
  | .List es pos => match cEs r ct es with
    | some ⟨is, h⟩ => some ⟨.lst is, fun X Θ p c k W G C tk => peLst p c (h X Θ p c k W G C tk)⟩
    | none => none
  | .Dict [] [] pos => some ⟨.dic false, fun X Θ p c k W G C tk => peDic p c⟩
  | .BinOp a op b pos => match r.e ct a, r.e ct b with
    | some ⟨ia, ha⟩, some ⟨ib, hb⟩ => some ⟨.bin op ia ib, fun X Θ p c k W G C tk => peBin (ha X Θ p c k W G C tk) (hb X Θ p c k W G C tk)⟩
    | _, _ => none
  | .UnaryOp .USub a pos => match r.e ct a with
    | some ⟨ia, ha⟩ => some ⟨.neg ia, fun X Θ p c k W G C tk => peNeg (ha X Θ p c k W G C tk)⟩
    | none => none
  | .UnaryOp .Not a pos => match r.e ct a with
    | some ⟨ia, ha⟩ => some ⟨.not ia, fun X Θ p c k W G C tk => peNot (ha X Θ p c k W G C tk)⟩
    | none => none
  | .Compare a [op] [b] pos => if h : okIn b = true then
      match r.e ct a, r.e ct b with
      | some ⟨ia, ha⟩, some ⟨ib, hb⟩ => some ⟨.cmp op ia ib, fun X Θ p c k W G C tk => peCmp (by have := G.un; omega) G.hw h (ha X Θ p c k W G C tk) (hb X Θ p c k W G C tk)⟩
      | _, _ => none
    else none
  | .Compare a [op, op'] [b, e] pos => if h : okIn e = true then
      match r.e ct a, r.e ct b, r.e ct e with
      | some ⟨ia, ha⟩, some ⟨ib, hb⟩, some ⟨ie, he⟩ => some ⟨.cmp2 op op' ia ib ie, fun X Θ p c k W G C tk => peCmp2 (by have := G.un; omega) G.hw h (ha X Θ p c k W G C tk) (hb X Θ p c k W G C tk) (he X Θ p c k W G C tk)⟩
      | _, _, _ => none
    else none
  | .BoolOp op [a] pos => match r.e ct a with
    | some ⟨ia, ha⟩ => some ⟨ia, fun X Θ p c k W G C tk => pe_one (ha X Θ p c k W G C tk)⟩
    | none => none
  | .BoolOp .And (a :: b :: rest) pos => match r.e ct a, r.e ct (.BoolOp .And (b :: rest) pos) with
    | some ⟨ia, ha⟩, some ⟨ib, hb⟩ => some ⟨.and ia ib, fun X Θ p c k W G C tk => peAnd (ha X Θ p c k W G C tk) (hb X Θ p c k W G C tk)⟩
    | _, _ => none
  | .BoolOp .Or (a :: b :: rest) pos => match r.e ct a, r.e ct (.BoolOp .Or (b :: rest) pos) with
    | some ⟨ia, ha⟩, some ⟨ib, hb⟩ => some ⟨.or ia ib, fun X Θ p c k W G C tk => peOr (ha X Θ p c k W G C tk) (hb X Θ p c k W G C tk)⟩
    | _, _ => none
  | .IfExp t a b pos => match r.t ct t, r.e ct a, r.e ct b with
    | some ⟨it, ht⟩, some ⟨ia, ha⟩, some ⟨ib, hb⟩ => some ⟨.ife it ia ib, fun X Θ p c k W G C tk => peIte (ht X Θ p c k W G C tk) (ha X Θ p c k W G C tk) (hb X Θ p c k W G C tk)⟩
    | _, _, _ => none
  | .Subscript a (.Slice lo hi none p2) pos => match r.e ct a, cO r ct lo, cO r ct hi with
    | some ⟨ia, ha⟩, some ⟨il, hl⟩, some ⟨ih, hh⟩ => some ⟨.sl ia il ih, fun X Θ p c k W G C tk => peSl (ha X Θ p c k W G C tk) (hl X Θ p c k W G C tk) (hh X Θ p c k W G C tk)⟩
    | _, _, _ => none
  | .Subscript a b pos => if h : isSl b = false then
      match r.e ct a, r.e ct b with
      | some ⟨ia, ha⟩, some ⟨ib, hb⟩ => some ⟨.ix ia ib, fun X Θ p c k W G C tk => peIx (by have := G.un; omega) G.hw (ha X Θ p c k W G C tk) (hb X Θ p c k W G C tk) h⟩
      | _, _ => none
    else none
  | .Attribute a f pos => if h : noSup a = true then
      match hf : ct.tb.fd f, r.e ct a with
      | some f', some ⟨ia, ha⟩ => some ⟨.fld ia f', fun X Θ p c k W G C tk => peFld G (G.fd _ _ hf) h (ha X Θ p c k W G C tk)⟩
      | _, _ => none
    else none
  | .Call (.Name x pp) es [] pos => cCallN r ct x pp es pos
  | .Call (.Attribute o m apos) es [] pos => cMeth r ct o m apos es pos
  | .ListComp elt gs scope pos => cLc r ct (.ListComp elt gs scope pos)
  | .DictComp kx elt gs scope pos => cDc r ct (.DictComp kx elt gs scope pos)
  | _ => none
def stepV (r : Cmp) (ct : CT) (e : Expr) : ResT ct e := if h : plT e = true then
    match r.e ct e with
    | some ⟨ia, ha⟩ => some ⟨.val ia, fun X Θ p c k W G C tk => ptVal (ha X Θ p c k W G C tk) h⟩
    | none => none
  else none
def stepT (r : Cmp) (ct : CT) : (e : Expr) → ResT ct e
  | .UnaryOp .Not a pos => match r.t ct a with
    | some ⟨ia, ha⟩ => some ⟨.not ia, fun X Θ p c k W G C tk => ptNot (ha X Θ p c k W G C tk)⟩
    | none => none
  | .BoolOp op es pos => match r.w ct (.BoolOp op es pos) with
    | some ⟨ia, ha⟩ => some ⟨ia, fun X Θ p c k W G C tk => (ha X Θ p c k W G C tk).pt⟩
    | none => none
  | .Compare a [op] [b] pos => if h : okIn b = true then
      match r.e ct a, r.e ct b with
      | some ⟨ia, ha⟩, some ⟨ib, hb⟩ => some ⟨.val (.cmp op ia ib), fun X Θ p c k W G C tk => ptCmp (by have := G.un; omega) G.hw h (ha X Θ p c k W G C tk) (hb X Θ p c k W G C tk)⟩
      | _, _ => none
    else none
  | .Compare a [op, op'] [b, e] pos => if h : okIn e = true then
      match r.e ct a, r.e ct b, r.e ct e with
      | some ⟨ia, ha⟩, some ⟨ib, hb⟩, some ⟨ie, he⟩ => some ⟨.val (.cmp2 op op' ia ib ie), fun X Θ p c k W G C tk => ptCmp2 (by have := G.un; omega) G.hw h (ha X Θ p c k W G C tk) (hb X Θ p c k W G C tk) (he X Θ p c k W G C tk)⟩
      | _, _, _ => none
    else none
  | e => stepV r ct e
def stepW (r : Cmp) (ct : CT) : (e : Expr) → ResW ct e
  | .BoolOp op [a] pos => match r.t ct a with
    | some ⟨ia, ha⟩ => some ⟨ia, fun X Θ p c k W G C tk => pwOne (ha X Θ p c k W G C tk)⟩
    | none => none
  | .BoolOp .And (a :: b :: rest) pos => match r.t ct a, r.w ct (.BoolOp .And (b :: rest) pos) with
    | some ⟨ia, ha⟩, some ⟨ib, hb⟩ => some ⟨.and ia ib, fun X Θ p c k W G C tk => pwAnd (ha X Θ p c k W G C tk) (hb X Θ p c k W G C tk)⟩
    | _, _ => none
  | .BoolOp .Or (a :: b :: rest) pos => match r.t ct a, r.w ct (.BoolOp .Or (b :: rest) pos) with
    | some ⟨ia, ha⟩, some ⟨ib, hb⟩ => some ⟨.or ia ib, fun X Θ p c k W G C tk => pwOr (ha X Θ p c k W G C tk) (hb X Θ p c k W G C tk)⟩
    | _, _ => none
  | _ => none
def cmpN : Nat → Cmp
  | 0 => Cmp.no
  | n + 1 => ⟨stepE (cmpN n), stepT (cmpN n), stepW (cmpN n)⟩

/-! ### statements -/
def fuelE : Nat := 24
section
variable (ct : CT)
def cSetC (y : Str) (py : Pos) : (e : Expr) → (spos : Pos) → ResS ct (.Assign [.Name y py] e spos)
  | .ListComp elt [⟨tg, iter, ifs, z⟩] scope pos, spos =>
      match slot ct.N y, cG (ct' ct scope) tg, cI (cmpN fuelE) ct iter, cIfs (cmpN fuelE) (ct' ct scope) ifs, (cmpN fuelE).e (ct' ct scope) elt with
      | some ⟨i, hy⟩, some ⟨g, hg⟩, some ⟨it, hi⟩, some ⟨t, ht⟩, some ⟨ie, he⟩ =>
        if h : z = 0 ∧ blkC ct.N ct.sc scope (ownOf ct.N scope) = true ∧ (g.slots.all fun i => decide (i ∈ (ownOf ct.N scope).map (·.2))) = true ∧ noSetE iter = true ∧ ct.sc.kind = .function ∧ ct.sc.names.lookup y = some .local ∧
            (py.line == pos.line) = true ∧ (scope.names.any fun (n, k) => n == y && (k == .local || k == .cell)) = false then
          some ⟨.asg (.g (.one i)) (.lc ((ownOf ct.N scope).map (·.2)) ie g it t), fun X Θ p c k W G C tk po => by
            obtain ⟨rfl, h2, h3, h4, h5, h6, h7, h8⟩ := h
            exact psSetLc G (by rw [C.N]; exact hy) (by rw [C.sc]; exact h6) (sw_true (by rw [C.sc]; exact h5) (by rw [C.sc]; exact h6) h7 h8) (fun i hi => of_decide_eq_true (List.all_eq_true.mp h3 i hi)) (hi tg X Θ p c k W G C tk) (by rw [C.N, C.sc]; exact blkOk_by h2)
              (fun s H A cl fp => hg _ Θ p c k (G.blk ..) (ct'_ok C scope s H A cl fp)) (fun s H A cl fp => ht _ Θ p c k W0 (G.blk ..) (ct'_ok C scope s H A cl fp) takes0)
              (fun s H A cl fp => he _ Θ p c k W0 (G.blk ..) (ct'_ok C scope s H A cl fp) takes0) (noSet h4)⟩
        else none
      | _, _, _, _, _ => none
  | .DictComp kx elt [⟨tg, iter, ifs, z⟩] scope pos, spos =>
      match slot ct.N y, cG (ct' ct scope) tg, cI (cmpN fuelE) ct iter, cIfs (cmpN fuelE) (ct' ct scope) ifs, (cmpN fuelE).e (ct' ct scope) kx, (cmpN fuelE).e (ct' ct scope) elt with
      | some ⟨i, hy⟩, some ⟨g, hg⟩, some ⟨it, hi⟩, some ⟨t, ht⟩, some ⟨ik, hk⟩, some ⟨ie, he⟩ =>
        if h : z = 0 ∧ blkC ct.N ct.sc scope (ownOf ct.N scope) = true ∧ (g.slots.all fun i => decide (i ∈ (ownOf ct.N scope).map (·.2))) = true ∧ noSetE iter = true ∧ ct.sc.kind = .function ∧ ct.sc.names.lookup y = some .local ∧
            (py.line == pos.line) = true ∧ (scope.names.any fun (n, k) => n == y && (k == .local || k == .cell)) = false then
          some ⟨.asg (.g (.one i)) (.dc ((ownOf ct.N scope).map (·.2)) ik ie g it t), fun X Θ p c k W G C tk po => by
            obtain ⟨rfl, h2, h3, h4, h5, h6, h7, h8⟩ := h
            refine psSetDc G (by rw [C.N]; exact hy) (by rw [C.sc]; exact h6) ?_ (fun i hi => of_decide_eq_true (List.all_eq_true.mp h3 i hi)) (hi tg X Θ p c k W G C tk) (by rw [C.N, C.sc]; exact blkOk_by h2)
              (fun s H A cl fp => hg _ Θ p c k (G.blk ..) (ct'_ok C scope s H A cl fp)) (fun s H A cl fp => ht _ Θ p c k W0 (G.blk ..) (ct'_ok C scope s H A cl fp) takes0)
              (fun s H A cl fp => hk _ Θ p c k W0 (G.blk ..) (ct'_ok C scope s H A cl fp) takes0) (fun s H A cl fp => he _ Θ p c k W0 (G.blk ..) (ct'_ok C scope s H A cl fp) takes0) (noSet h4)
            have q := sw_true (elt := elt) (gs := [⟨tg, iter, ifs, 0⟩]) (scope := scope) (pos := pos) (py := py) (y := y) (l := spos.line) (env := X.env) (by rw [C.sc]; exact h5) (by rw [C.sc]; exact h6) h7 h8
            exact q⟩
        else none
      | _, _, _, _, _, _ => none
  | _, _ => none
def isTupE : Expr → Bool
  | .Tuple .. => true
  | _ => false
theorem swpNo {t e : Expr} {env : PySem.Env} (h : isTupE e = false) : swappedStores [t] e env = pure none := by
  cases t <;> first
    | rfl
    | (cases e <;> first | rfl | cases h)
theorem swpPar {x y : Str} {px py pt pt2 : Pos} {kt k2 : Nat} {a b : Expr} {env : PySem.Env} (hk : env.scope.kind = .function) (hx : env.scope.names.lookup x = some .local) (hy : env.scope.names.lookup y = some .local) (sa : isSt a = false) (sb : isSt b = false)
    (hp : (py.line == px.line) = true) (hxy : (x == y) = false) (hf : ([a, b].all (foldedForSure 8)) = false) (hc : ([a, b].all (constantsAlone 8)) = false) :
    swappedStores [.Tuple [.Name x px, .Name y py] kt pt] (.Tuple [a, b] k2 pt2) env = pure (some [x, y]) := by
  have ek : env.blockKind = .function := by unfold Env.blockKind; rw [hk]; rfl
  have kx : env.kindOf x = some .local := hx
  have ky : env.kindOf y = some .local := hy
  have one : ∀ e : Expr, isSt e = false → (match e with | .Starred .. => true | _ => false) = false := by
    intro e h; cases e <;> first | rfl | cases h
  have st : ([a, b].any fun | .Starred .. => true | _ => false) = false := by
    simp only [List.any_cons, List.any_nil, one a sa, one b sb, Bool.or_false]
  have hyx : (y == x) = false := by
    rw [beq_eq_false_iff_ne] at hxy ⊢
    exact Ne.symm hxy
  have nm : ([Expr.Name x px, Expr.Name y py].filterMap fun
    | .Name id pos => if env.kindOf id == some .local && pos.line == px.line then some id else none
    | _ => none) = [x, y] := by
    simp only [List.filterMap_cons, kx, ky, hp, List.filterMap_nil]
    simp
  have ed : [x, y].eraseDups.length = 2 := by
    simp [List.eraseDups_cons, hyx]
  unfold swappedStores
  dsimp only [List.length_cons, List.length_nil, List.head?_cons, Option.map_some, Option.getD_some, Expr.pos]
  have st1 : ¬ (isSt a = true) := by rw [sa]; decide
  simp only [List.filterMap_cons, List.filterMap_nil, kx, ky, hp, ek, hf, hc]
  have e1 : (some NameKind.local == some NameKind.local) = true := by decide
  have e2 : (px.line == px.line) = true := by simp
  simp only [e1, e2, Bool.true_and, Bool.and_true, if_true, ed]
  split
  · rename_i h; exact absurd h (by decide)
  · split
    · rename_i h
      exfalso
      simp only [List.any_cons, List.any_nil, Bool.or_false, Bool.or_eq_true] at h
      rcases h with h | h
      · cases a <;> first | (cases h; done) | (cases sa; done)
      · cases b <;> first | (cases h; done) | (cases sb; done)
    · rfl
def isLD : Expr → Bool
  | .ListComp .. => true
  | .DictComp .. => true
  | _ => false
theorem swCell {e : Expr} {y : Str} {py : Pos} {l : Nat} {env : PySem.Env} (h : isLD e = true) (hy : env.scope.names.lookup y = some .cell) : swapsWith e (some (.Name y py)) l env = pure false := by
  have ky : env.kindOf y = some .cell := hy
  have e1 : (some NameKind.cell == some NameKind.local) = false := by decide
  cases e <;> first
    | (unfold swapsWith
       simp only [ky, e1, Bool.and_false, Bool.false_and])
    | (cases h; done)
def cAsg : (tg e : Expr) → (pos : Pos) → ResS ct (.Assign [tg] e pos)
  | .Name y py, e, pos => if h : isComp e = false then
      match cG ct (.Name y py), (cmpN fuelE).e ct e with
      | some ⟨g, hg⟩, some ⟨ie, he⟩ => some ⟨.asg (.g g) ie, fun X Θ p c k W G C tk po => psAsg (he X Θ p c k W G C tk) (hg X Θ p c k G C) (show swapsWith e (some (.Name y py)) pos.line X.env = pure false from swNo h) (by rfl) (by rfl)⟩
      | _, _ => none
    else if h : isLD e = true ∧ ct.sc.names.lookup y = some .cell then
      match cG ct (.Name y py), (cmpN fuelE).e ct e with
      | some ⟨g, hg⟩, some ⟨ie, he⟩ => some ⟨.asg (.g g) ie, fun X Θ p c k W G C tk po => psAsg (he X Θ p c k W G C tk) (hg X Θ p c k G C) (show swapsWith e (some (.Name y py)) pos.line X.env = pure false from swCell h.1 (by rw [C.sc]; exact h.2)) (by cases e <;> first | rfl | (cases h.1; done)) (by rfl)⟩
      | _, _ => none
    else cSetC ct y py e pos
  | .Tuple [.Name x px, .Name y py] kt pt, .Tuple [a, b] k2 pt2, pos =>
      match slot ct.N x, slot ct.N y, (cmpN fuelE).e ct a, (cmpN fuelE).e ct b with
      | some ⟨i, hi⟩, some ⟨j, hj⟩, some ⟨ia, ha⟩, some ⟨ib, hb⟩ =>
        if h : i ≠ j ∧ ct.sc.names.lookup x = some .local ∧ ct.sc.names.lookup y = some .local ∧ isSt a = false ∧ isSt b = false ∧ ct.sc.kind = .function ∧ (px.line == px.line) = true ∧ (py.line == px.line) = true ∧ (x == y) = false ∧
            ([a, b].all (foldedForSure 8)) = false ∧ ([a, b].all (constantsAlone 8)) = false then
          some ⟨.par i j ia ib, fun X Θ p c k W G C tk po => by
            obtain ⟨h1, h2, h3, h4, h5, h6, h7, h8, h9, h10, h11⟩ := h
            refine psPar G (by rw [C.N]; exact hi) (by rw [C.N]; exact hj) h1 (by rw [C.sc]; exact h2) (by rw [C.sc]; exact h3) (ha X Θ p c k W G C tk) (hb X Θ p c k W G C tk) h4 h5 ?_
            exact swpPar (by rw [C.sc]; exact h6) (by rw [C.sc]; exact h2) (by rw [C.sc]; exact h3) h4 h5 h8 h9 h10 h11⟩
        else none
      | _, _, _, _ => none
  | .Tuple es kt pt, e, pos => if h : isComp e = false ∧ isTupE e = false then
      match cG ct (.Tuple es kt pt), (cmpN fuelE).e ct e with
      | some ⟨g, hg⟩, some ⟨ie, he⟩ => some ⟨.asg (.g g) ie, fun X Θ p c k W G C tk po => psAsg (he X Θ p c k W G C tk) (hg X Θ p c k G C) (show swapsWith e (some (.Tuple es kt pt)) pos.line X.env = pure false from swNo h.1) (swpNo h.2) (by rfl)⟩
      | _, _ => none
    else none
  | .Attribute o f tpos, .Dict [] [] dpos, pos => match hf : ct.tb.fd f, (cmpN fuelE).e ct o with
    | some f', some ⟨io, ho⟩ => if ct.tb.dt f = true then some ⟨.asg (.fld io f') (.dic true), fun X Θ p c k W G C tk po => psFld G (G.fd _ _ hf) (peDicT G.hw p c) (ho X Θ p c k W G C tk)⟩
      else some ⟨.asg (.fld io f') (.dic false), fun X Θ p c k W G C tk po => psFld G (G.fd _ _ hf) (peDic p c) (ho X Θ p c k W G C tk)⟩
    | _, _ => none
  | .Attribute o f tpos, e, pos => match hf : ct.tb.fd f, (cmpN fuelE).e ct o, (cmpN fuelE).e ct e with
    | some f', some ⟨io, ho⟩, some ⟨ie, he⟩ => some ⟨.asg (.fld io f') ie, fun X Θ p c k W G C tk po => psFld G (G.fd _ _ hf) (he X Θ p c k W G C tk) (ho X Θ p c k W G C tk)⟩
    | _, _, _ => none
  | .Subscript o i tpos, e, pos => if h : isSl i = false ∧ isComp e = false then
      match (cmpN fuelE).e ct o, (cmpN fuelE).e ct i, (cmpN fuelE).e ct e with
      | some ⟨io, ho⟩, some ⟨ii, hi⟩, some ⟨ie, he⟩ => some ⟨.asg (.sub io ii) ie, fun X Θ p c k W G C tk po => psSub G (he X Θ p c k W G C tk) (ho X Θ p c k W G C tk) (hi X Θ p c k W G C tk) h.1 h.2⟩
      | _, _, _ => none
    else none
  | _, _, _ => none
def cAsg2 (x : Str) (px : Pos) (y : Str) (py : Pos) (e : Expr) (pos : Pos) : ResS ct (.Assign [.Name x px, .Name y py] e pos) :=
  if h : loc ct x = true ∧ loc ct y = true then
    match slot ct.N x, slot ct.N y, (cmpN fuelE).e ct e with
    | some ⟨i, hi⟩, some ⟨j, hj⟩, some ⟨ie, he⟩ => some ⟨.asg2 i j ie, fun X Θ p c k W G C tk po => psAsg2 G.nd (he X Θ p c k W G C tk) (by rw [C.N]; exact hi) (loc_ok C h.1).1 (loc_ok C h.1).2 (by rw [C.N]; exact hj) (loc_ok C h.2).1 (loc_ok C h.2).2⟩
    | _, _, _ => none
  else none
def cS (rec : (ss : List Stmt) → ResSs ct ss) : (st : Stmt) → ResS ct st
  | .Assign [tg] e pos => cAsg ct tg e pos
  | .Assign [.Name x px, .Name y py] e pos => cAsg2 ct x px y py e pos
  | .Expr e pos => if h : isComp e = false then
      match (cmpN fuelE).e ct e with
      | some ⟨ie, he⟩ => some ⟨.expr ie, fun X Θ p c k W G C tk po => psExpr h (he X Θ p c k W G C tk)⟩
      | none => none
    else none
  | .Return (some e) pos => match (cmpN fuelE).e ct e with
    | some ⟨ie, he⟩ => some ⟨.ret ie, fun X Θ p c k W G C tk po => psRet (he X Θ p c k W G C tk)⟩
    | none => none
  | .Return none pos => some ⟨.retN, fun X Θ p c k W G C tk po => psRetN⟩
  | .If t a b pos => match (cmpN fuelE).t ct t, rec a, rec b with
    | some ⟨it, ht⟩, some ⟨ia, ha⟩, some ⟨ib, hb⟩ => some ⟨.ite it ia ib, fun X Θ p c k W G C tk po => psIf (ht X Θ p c k W G C tk) (ha X Θ p c k W G C tk po) (hb X Θ p c k W G C tk po)⟩
    | _, _, _ => none
  | .While t b [] pos => match (cmpN fuelE).t ct t, rec b with
    | some ⟨it, ht⟩, some ⟨ib, hb⟩ => some ⟨.whl it ib, fun X Θ p c k W G C tk po => psWhile po (ht X Θ p c k W G C tk) (hb X Θ p c k W G C tk po)⟩
    | _, _ => none
  | .For tg iter b [] pos => if h : noSetE iter = true then
      match cG ct tg, cI (cmpN fuelE) ct iter, rec b with
      | some ⟨g, hg⟩, some ⟨it, hi⟩, some ⟨ib, hb⟩ => some ⟨.for g it ib, fun X Θ p c k W G C tk po => psFor G po (hi tg X Θ p c k W G C tk) (hg X Θ p c k G C) (hb X Θ p c k W G C tk po) (noSet h)⟩
      | _, _, _ => none
    else none
  | .Break pos => some ⟨.brk, fun X Θ p c k W G C tk po => psBrk⟩
  | .Continue pos => some ⟨.cont, fun X Θ p c k W G C tk po => psCont⟩
  | .Pass pos => some ⟨.pass, fun X Θ p c k W G C tk po => psPass⟩
  | .Raise e d pos => some ⟨.fail, fun X Θ p c k W G C tk po => psFail⟩
  | _ => none
def cL (f : (st : Stmt) → ResS ct st) : (ss : List Stmt) → ResSs ct ss
  | [] => some ⟨.nil, fun X Θ p c k W G C tk po => pssNil⟩
  | s :: ss => match f s, cL f ss with
    | some ⟨is, h1⟩, some ⟨iss, h2⟩ => some ⟨.cons is iss, fun X Θ p c k W G C tk po => pssCons (h1 X Θ p c k W G C tk po) (h2 X Θ p c k W G C tk po)⟩
    | _, _ => none
def cSs : Nat → (ss : List Stmt) → ResSs ct ss
  | 0 => fun _ => none
  | n + 1 => cL ct (cS ct (cSs n))
end
end Z
end

section
set_option Elab.async false
set_option linter.all false
set_option maxRecDepth 100000
/-! ZM: the defs of a program, by induction on the depth of calls. -/
namespace Z
open PySem L2

/-! ### what a def leaves behind -/
section
variable {K : PySem.W.Frag} {Θ : Nm} {ι ι' : List Addr} {H H' : Hp} {n : Nat}
theorem take_get {ι : List Addr} {n m : Nat} {a : Addr} (h : ι[m]? = some a) (hm : m < n) : (ι.take n)[m]? = some a := by
  rw [List.getElem?_take_of_lt hm]; exact h
mutual
theorem loD : ∀ (d : D) (v : V), d.lo n = true → RelD K Θ ι H d v → RelD K Θ (ι.take n) H d v
  | .non, v, _, h => h
  | .bl b, v, _, h => h
  | .int i, v, _, h => h
  | .str x, v, _, h => h
  | .tup ds, v, l, h => by
    unfold RelD at h ⊢
    obtain ⟨a, vs, e, s, r⟩ := h
    exact ⟨a, vs, e, s, loDs ds vs (by unfold D.lo at l; exact l) r⟩
  | .rol ds, v, l, h => by
    unfold RelD at h ⊢
    obtain ⟨a, vs, e, s, r⟩ := h
    exact ⟨a, vs, e, s, loDs ds vs (by unfold D.lo at l; exact l) r⟩
  | .obj m, v, l, h => by
    unfold RelD at h ⊢
    obtain ⟨a, e, s⟩ := h
    exact ⟨a, e, take_get s (by unfold D.lo at l; exact of_decide_eq_true l)⟩
  | .fn f, v, _, h => h
theorem loDs : ∀ (ds : List D) (vs : List V), D.los n ds = true → RelDs K Θ ι H ds vs → RelDs K Θ (ι.take n) H ds vs
  | [], vs, _, h => h
  | d :: ds, vs, l, h => by
    unfold D.los at l
    rw [Bool.and_eq_true] at l
    unfold RelDs at h ⊢
    obtain ⟨v, r, e, a, b⟩ := h
    exact ⟨v, r, e, loD d v l.1 a, loDs ds r l.2 b⟩
end
theorem loK {κ : Type} : ∀ (l : List (κ × D)) (r : List (κ × V)), D.los n (l.map (·.2)) = true → RelK K Θ ι H l r → RelK K Θ (ι.take n) H l r
  | [], r, _, h => h
  | (j, d) :: l, r, hl, h => by
    rw [List.map_cons] at hl
    unfold D.los at hl
    rw [Bool.and_eq_true] at hl
    obtain ⟨v, t, e, a, b⟩ := h
    exact ⟨v, t, e, loD d v hl.1 a, loK l t hl.2 b⟩
theorem loF : ∀ (l : List (Nat × D)) (r : List (Str × V)), D.los n (l.map (·.2)) = true → RelF K Θ ι H l r → RelF K Θ (ι.take n) H l r
  | [], r, _, h => h
  | (j, d) :: l, r, hl, h => by
    rw [List.map_cons] at hl
    unfold D.los at hl
    rw [Bool.and_eq_true] at hl
    obtain ⟨v, t, e, a, b⟩ := h
    exact ⟨v, t, e, loD d v hl.1 a, loF l t hl.2 b⟩
theorem loT : ∀ (l : List (D × D)) (r : TX), D.los n (l.map (·.1)) = true → D.los n (l.map (·.2)) = true → RelT K Θ ι H l r → RelT K Θ (ι.take n) H l r
  | [], r, _, _, h => h
  | (j, d) :: l, r, h1, h2, h => by
    rw [List.map_cons] at h1 h2
    unfold D.los at h1 h2
    rw [Bool.and_eq_true] at h1 h2
    obtain ⟨a, v, t, e, q1, q2, q3, q4⟩ := h
    exact ⟨a, v, t, e, q1, loD j _ h1.1 q2, loD d v h2.1 q3, loT l t h1.2 h2.2 q4⟩
theorem loM {m : M} {a : Addr} (hl : m.lo n = true) (x : MOk K Θ ι H a m) : MOk K Θ (ι.take n) H a m := by
  cases m with
  | lst ds => obtain ⟨vs, h, r⟩ := x; exact ⟨vs, h, loDs ds vs hl r⟩
  | dic kvs => obtain ⟨vs, h, r⟩ := x; exact ⟨vs, h, loK kvs vs hl r⟩
  | dit kvs =>
    obtain ⟨vs, h, r⟩ := x
    have hl : (D.los n (kvs.map (·.1)) && D.los n (kvs.map (·.2))) = true := hl
    rw [Bool.and_eq_true] at hl
    exact ⟨vs, h, loT kvs vs hl.1 hl.2 r⟩
  | ins C fs => obtain ⟨dx, gs, h, r⟩ := x; exact ⟨dx, gs, h, loF fs gs hl r⟩
theorem gc_ok {S : Store} {low : Bool} (pr : Pre ι ι') (hn : ι.length = n) (s : Sim K Θ ι' H S) :
    ∃ ι2, Pre ι ι2 ∧ Sim K Θ ι2 H (gc n low S) ∧ (∀ d v, (low = true → d.lo n = true) → RelD K Θ ι' H d v → RelD K Θ ι2 H d v) ∧ (∀ (fs : List (Nat × D)) r, (low = true → D.los n (fs.map (·.2)) = true) → RelF K Θ ι' H fs r → RelF K Θ ι2 H fs r) := by
  unfold gc
  split
  · rename_i h
    rw [Bool.and_eq_true] at h
    refine ⟨ι'.take n, fun m a e => take_get (pr m a e) (by have := (List.getElem?_eq_some_iff.mp e).1; omega), ⟨by rw [List.length_take, List.length_take, s.len], s.nd.sublist (List.take_sublist _ _), fun m x a e1 e2 => ?_⟩,
      fun d v hd r => loD d v (hd h.1) r, fun fs r hd q => loF fs r (hd h.1) q⟩
    have hm : m < n := by
      have := (List.getElem?_eq_some_iff.mp e1).1
      rw [List.length_take] at this; omega
    have e1' := e1
    rw [List.getElem?_take_of_lt hm] at e1
    rw [List.getElem?_take_of_lt hm] at e2
    exact loM (List.all_eq_true.mp h.2 x (List.mem_of_getElem? e1')) (s.ok m x a e1 e2)
  · exact ⟨ι', pr, s, fun _ _ _ r => r, fun _ _ _ r => r⟩
/-- a body's end is the def's answer -/
theorem fin_ok {Q : VK} {E : XK} {W : WX} {r : RS} (hn : ι.length = n) (hW : ∀ c d σ H', E c d H' → W c d σ H') (q : Post K Θ (rD K Θ) (fun c d _ H' => E c d H') [] ι H Q (fin n r)) :
    PostS K Θ W ι H { nx := fun _ H' => Q .non H', rt := Q } r := by
  cases r with
  | nx ρ S =>
    intro ι' H' σ pr kp s re
    obtain ⟨ι2, p2, s2, _⟩ := gc_ok (low := true) pr hn s
    exact q ι2 H' .non p2 kp s2 rfl
  | ret d S =>
    intro ι' H' v pr kp s rd
    obtain ⟨ι2, p2, s2, r2, _⟩ := gc_ok (low := d.lo n) pr hn s
    exact q ι2 H' v p2 kp s2 (r2 d v id rd)
  | ex C fs ρ S =>
    intro ι' H' σ d pr kp s re ed
    obtain ⟨ι2, p2, s2, _, r2⟩ := gc_ok (low := D.los n (fs.map (·.2))) pr hn s
    refine hW _ _ _ _ (q ι2 H' d p2 kp s2 ?_)
    rcases ed with ed | ⟨dx, gs, h1, h2, h3⟩
    · exact .inl ed
    · exact .inr ⟨dx, gs, h1, h2, r2 fs gs id h3⟩
  | brk ρ S => exact q.elim
  | ct ρ S => exact q.elim
  | bad => exact q.elim
theorem env_ok {fd : FD} {N : List Str} {ds : List D} {vs : List V} (hN : N.length = fd.nn) (ha : argsOf fd ds = ds) (hl : ds.length = fd.np) (r : RelDs K Θ ι H ds vs) : RelE K Θ ι H (envOf fd ds) (L2.start N vs) := by
  unfold envOf L2.start
  rw [ha]
  have hv := r.length
  refine ⟨by simp [hN, ← hv, hl], fun i d e => ?_⟩
  by_cases hi : i < ds.length
  · rw [List.getElem?_append_left (by simpa using hi), List.getElem?_map] at e
    cases e1 : ds[i]? with
    | none => rw [e1] at e; cases e
    | some d' =>
      rw [e1] at e
      have e : d' = d := by simpa using e
      subst e
      obtain ⟨v, h1, h2⟩ := r.get e1
      refine ⟨v, ?_, h2⟩
      rw [List.getElem?_append_left (by simpa [← hv] using hi), List.getElem?_map, h1]
      rfl
  · rw [List.getElem?_append_right (by simpa using hi), List.getElem?_replicate] at e
    split at e <;> cases e
end

/-! ### the program's facts -/
structure Stat (K : PySem.W.Frag) (mg : Str → Option Value) (Θ : Nm) (p : Prg) (tb : Tb) : Prop where
  gl : ∀ x i, tb.gl x = some i → ∃ d u v, p.consts i = some d ∧ mg x = some u ∧ RelV v u ∧ ∀ ι H, RelD K Θ ι H d v
  df : ∀ x f, tb.df x = some f → mg x = some (.ref (Θ.fA f)) ∧ PySem.W.keepIn K (.ref (Θ.fA f)) = true
  cl : ∀ x C, tb.cl x = some C → mg x = some (.ref (Θ.cA C))
  fd : ∀ x f, tb.fd x = some f → Θ.nm f = x
  bl : ∀ x, tb.bl x = true → mg x = none
  gc : tb.gc = true → mg "gcd" = some (.builtin "math.gcd")
  ci : ∀ x C, tb.cl x = some C → (p.ini C).isSome = true
  isF : ∀ C f, p.isF C f = true → Cls K (Θ.cA C) ∧ NoAttr K (Θ.cA C) (Θ.nm f)
  con : ∀ C f d, p.con C f = some d → Cls K (Θ.cA C) ∧ ∃ v u, Con K (Θ.cA C) (Θ.nm f) v u ∧ ∀ ι H, RelD K Θ ι H d v
  mth : ∀ C m f, p.mth C m = some f → Cls K (Θ.cA C) ∧ Meth K (Θ.cA C) (Θ.nm m) (Θ.fA f)
  ini : ∀ C f, p.ini C = some f → Mk K (Θ.cA C) (Θ.fA f)
def FdBinds (K : PySem.W.Frag) (Θ : Nm) (fd : FD) (fdt : FuncData) (ps : List Str) : Prop :=
  ∀ j, j ≤ fd.dfl.length → ∃ dvs ds, Binds K fdt ps ds ∧ Vals dvs ds ∧ ∀ ι H, RelDs K Θ ι H (fd.dfl.drop j) dvs
/-- one def -/
def DefF (K : PySem.W.Frag) (Θ : Nm) (tb : Tb) (f : Nat) (fd : FD) : Prop := ∃ (x qual : Str) (params : Arguments) (body : List Stmt) (scope : Scope) (dvs : List V) (kws : List (Str × V)) (N ps : List Str) (fdt : FuncData),
  FunD K x qual params body scope dvs kws (Θ.fA f) fdt ∧ FnScope N ps scope ∧ ps.length = fd.np ∧ N.length = fd.nn ∧ OkSs ⟨N, scope, tb, fun _ => true⟩ body fd.body ∧ FdBinds K Θ fd fdt ps
theorem argsOf_full {fd : FD} {ds : List D} (h : ds.length = fd.np) : argsOf fd ds = ds := by
  unfold argsOf
  rw [List.drop_eq_nil_of_le (by omega), List.append_nil]
theorem full_ok (p : Prg) : ∀ n f ds S, callK p n f ds S = .bad ∨ ∃ fd, p.defs f = some fd ∧ (argsOf fd ds).length = fd.np ∧ callK p n f (argsOf fd ds) S = callK p n f ds S
  | 0, f, ds, S => .inl rfl
  | n + 1, f, ds, S => by
    unfold callK
    cases e : p.defs f with
    | none => exact .inl rfl
    | some fd =>
      by_cases h : (argsOf fd ds).length = fd.np
      · refine .inr ⟨fd, rfl, h, ?_⟩
        have e2 : argsOf fd (argsOf fd ds) = argsOf fd ds := argsOf_full h
        simp only [e2, h, if_true, envOf]
      · refine .inl ?_
        simp only [h, if_false]
theorem Stat.good {X : Cx} {K : PySem.W.Frag} {mg : Str → Option Value} {Θ : Nm} {p : Prg} {tb : Tb} (T : Stat K mg Θ p tb) {n k : Nat} (hK : X.K = K) (hm : X.mg = mg) (hw : X.w = Θ.w) (hc : X.calm = true) (hN : X.N.Nodup) (hr : Room (k + 1) X.A)
    (fn : ∀ f fd, p.defs f = some fd → ∃ fdt ps, FnOk X.prog X.w X.K X.mg X.base (L2.CX X.prog X.w) k (Θ.fA f) fdt ps (spK X.K Θ (callK p n) fd.np f) ∧ ps.length = fd.np ∧ FdBinds X.K Θ fd fdt ps) : Good X Θ p (callK p n) tb k := by
  subst hK hm
  exact ⟨hc, hw, hN, hr, T.gl, T.df, T.cl, T.fd, T.bl, T.gc, T.ci, full_ok p n, fn, T.isF, T.con, T.mth, T.ini⟩
theorem step {P : Program} {w : World} {K : PySem.W.Frag} {mg : Str → Option Value} {base : Heap} {Θ : Nm} {p : Prg} {tb : Tb} (T : Stat K mg Θ p tb) (hw : w = Θ.w) {n f : Nat} {fd : FD} (h : p.defs f = some fd)
    (ih : ∀ f fd, p.defs f = some fd → ∃ fdt ps, FnOk P w K mg base (L2.CX P w) (2 * n) (Θ.fA f) fdt ps (spK K Θ (callK p n) fd.np f) ∧ ps.length = fd.np ∧ FdBinds K Θ fd fdt ps)
    {x qual : Str} {params : Arguments} {body : List Stmt} {scope : Scope} {dvs : List V} {kws : List (Str × V)} {N ps : List Str} {fdt : FuncData} (hF : FunD K x qual params body scope dvs kws (Θ.fA f) fdt) (hS : FnScope N ps scope) (hl : ps.length = fd.np) (hN : N.length = fd.nn)
    (hok : OkSs ⟨N, scope, tb, fun _ => true⟩ body fd.body) : FnOk P w K mg base (L2.CX P w) (2 * (n + 1)) (Θ.fA f) fdt ps (spK K Θ (callK p (n + 1)) fd.np f) := by
  show FnOk P w K mg base (L2.CX P w) (2 * n + 1 + 1) (Θ.fA f) fdt ps _
  refine hF.ok hS (fun vs H Q E ⟨ds, S, ι, _, r, l, _⟩ => by rw [← r.length, l, hl]) fun cdv A outer s H vs Q E hr ⟨ds, S, ι, sim, rd, ld, q⟩ => ?_
  have G : Good (cxOf (L2.CX P w) P w K mg base N qual scope (Θ.fA f) cdv A outer s H E) Θ p (callK p n) tb (2 * n) := T.good rfl rfl hw rfl hS.nd hr ih
  have tk : Takes (cxOf (L2.CX P w) P w K mg base N qual scope (Θ.fA f) cdv A outer s H E) (fun cls d _ H => E cls d H) := takes_of rfl rfl rfl rfl
  have po : PassesOwn (model P w) (cxOf (L2.CX P w) P w K mg base N qual scope (Θ.fA f) cdv A outer s H E).A (cxOf (L2.CX P w) P w K mg base N qual scope (Θ.fA f) cdv A outer s H E).env (cxOf (L2.CX P w) P w K mg base N qual scope (Θ.fA f) cdv A outer s H E).xe :=
    passes_of (X := cxOf (L2.CX P w) P w K mg base N qual scope (Θ.fA f) cdv A outer s H E) (K := fun e s'' => L2.CX P w outer H s E e s'') rfl
  refine ⟨_, hok _ Θ p (callK p n) (2 * n) _ G ⟨rfl, rfl, fun _ _ => rfl⟩ tk po, ?_⟩
  have ha : argsOf fd ds = ds := argsOf_full ld
  refine ⟨envOf fd ds, S, ι, sim, env_ok hN ha ld rd, ?_⟩
  unfold callK at q
  rw [h] at q
  dsimp only at q
  rw [ha, if_pos ld] at q
  exact fin_ok sim.len (fun _ _ _ _ z => z) q
theorem lev {P : Program} {w : World} {K : PySem.W.Frag} {mg : Str → Option Value} {base : Heap} {Θ : Nm} {p : Prg} {tb : Tb} (T : Stat K mg Θ p tb) (F : ∀ f fd, p.defs f = some fd → DefF K Θ tb f fd) (hw : w = Θ.w) :
    ∀ n f fd, p.defs f = some fd → ∃ fdt ps, FnOk P w K mg base (L2.CX P w) (2 * n) (Θ.fA f) fdt ps (spK K Θ (callK p n) fd.np f) ∧ ps.length = fd.np ∧ FdBinds K Θ fd fdt ps
  | 0, f, fd, h => by
    obtain ⟨x, qual, params, body, scope, dvs, kws, N, ps, fdt, hF, hS, hl, hN, hok, hb⟩ := F f fd h
    exact ⟨fdt, ps, ⟨fun vs H Q E ⟨_, _, _, _, _, _, q⟩ => q.elim, fun A outer s H args us vs Q E _ _ _ _ ⟨_, _, _, _, _, _, q⟩ => q.elim⟩, hl, hb⟩
  | n + 1, f, fd, h => by
    obtain ⟨x, qual, params, body, scope, dvs, kws, N, ps, fdt, hF, hS, hl, hN, hok, hb⟩ := F f fd h
    exact ⟨fdt, ps, step T hw h (lev T F hw n) hF hS hl hN hok, hl, hb⟩
/-- a def that lets nothing out -/
theorem fn_nox {P : Program} {w : World} {K : PySem.W.Frag} {mg : Str → Option Value} {base : Heap} {k : Nat} {f : Addr} {fd : FuncData} {ps : List Str} {sp : Sp} (F : FnOk P w K mg base (L2.CX P w) k f fd ps sp) :
    FnOk P w K mg base CX0 k f fd ps (fun vs H Q _ => sp vs H Q fun _ _ _ => False) := by
  refine ⟨fun vs H Q E h => F.len _ _ _ _ h, fun A outer s H args us vs Q E hr e0 hb hv h => codeAny_mono (F.run A outer s H args us vs Q _ hr e0 hb hv h) fun r s' q => ?_⟩
  cases r with
  | ok fl => cases fl <;> exact q
  | error e =>
    obtain ⟨_, _, _, _, _, _, _, _, _, _, _, _, z⟩ := q
    exact z.elim
theorem only_seq {K : PySem.W.Frag} {H : Hp} {a : Addr} {xs : List V} (hO : Only H) (h : SqL K H a xs) : SqF K H a xs := by
  rcases h with (h | ⟨o, h⟩) | h
  · rcases hO a with e | ⟨o, ys, e⟩
    · rw [e] at h; cases h
    · rw [e] at h; cases h
  · exact .inl ⟨o, h⟩
  · exact .inr h
/-- THE END: a law whose instructions answer True at every list of ints -/
theorem endZ {l : PySem.W.OpenLaw} {q : Program} {loose : List Str} {XP : (Str → Option Value) → Heap → Prop} {YP : World → Heap → Prop} {d : DefRec} {p : Prg} {tb : Tb} {n li : Nat} {fdl : FD} {N : List Str} {x : Str} {Θ : PySem.W.Frag → World → Nm}
    (hn : l.most = some 63) (hdf : d.params.defaults = []) (hr : Room (2 * (n + 1)) callerA)
    (hY : ∀ (w : World) (mg : Str → Option Value) (h : Heap), YP w h → h.Ns mainGlobals mg → ∃ K : PySem.W.Frag, K.In h ∧ Stat K mg (Θ K w) p tb ∧ (∀ f fd, p.defs f = some fd → DefF K (Θ K w) tb f fd) ∧ mg d.name = some (.ref ((Θ K w).fA li)) ∧
      ∃ (qual nm : Str) (params : Arguments) (body : List Stmt) (scope : Scope) (fdt : FuncData), FunD K nm qual params body scope [] [] ((Θ K w).fA li) fdt ∧ FnScope N [x] scope ∧ OkSs ⟨N, scope, tb, fun _ => true⟩ body fdl.body ∧ ∀ (s : Shared) (u : Value), BindsTo s fdt ⟨[u], []⟩ [(x, u)])
    (hΘ : ∀ K w, (Θ K w).w = w) (hl : p.defs li = some fdl) (hnp : fdl.np = 1) (hN : N.length = fdl.nn)
    (comp : ∀ ns : List Int, ns.length ≤ 63 → ∃ S, callK p (n + 1) li [.rol (ns.map .int)] [] = .ok (.bl true) S) :
    PySem.W.WalkO q loose XP YP l.row.toRowW d [] (fun f vs => PySem.call f vs) := by
  refine L2.walk_ofE (l := l) (n := 63) (k := 2 * (n + 1)) (x := x) (CX := L2.CX0) hn (by decide) hdf hr ?_ (fun _ _ _ _ z => z)
  intro w mg fa h Y G hmg
  obtain ⟨K, KX, T, F, hg, qual, nm, params, body, scope, fdt, hF, hS, hok, hb⟩ := hY w mg h Y G
  have e := hmg.symm.trans hg
  cases e
  refine ⟨K, fdt, _, KX, hb, ?_, fun base _ _ => fn_nox (step T (hΘ K w).symm hl (lev T F (hΘ K w).symm n) hF hS (by rw [hnp]; rfl) hN hok)⟩
  intro H a ns hlen hO hS
  obtain ⟨S, e⟩ := comp ns hlen
  refine ⟨[.rol (ns.map .int)], [], [], ⟨rfl, List.nodup_nil, fun n m a e => by cases e⟩, ?_, by rw [hnp]; rfl, ?_⟩
  · refine RelDs.cons ?_ RelDs.nil
    unfold RelD
    refine ⟨a, ns.map V.int, rfl, only_seq hO hS, ?_⟩
    have key : ∀ l : List Int, RelDs K (Θ K w) [] H (l.map D.int) (l.map V.int) := by
      intro l
      induction l with
      | nil => exact RelDs.nil
      | cons n l ih => exact RelDs.cons rfl ih
    exact key ns
  · rw [e]
    exact fun ι' H' v _ _ _ r => r
end Z
end

section
set_option Elab.async false
set_option linter.all false
set_option maxRecDepth 100000
/-! ZN: a program as data, what is to be looked up behind its top. -/
namespace Z
open PySem L2

mutual
def relDB (K : PySem.W.Frag) : D → Value → Bool
  | .non, u => (match u with | .none => true | _ => false)
  | .bl b, u => (match u with | .bool c => b == c | _ => false)
  | .int i, u => (match u with | .int j _ => decide (i = j) | _ => false)
  | .str x, u => (match u with | .str y _ => decide (x = y) | _ => false)
  | .tup ds, u => (match u with
    | .ref a => (match K.lookup a with
      | some ⟨.type c, _, .seq its _, _⟩ => decide (c = "tuple") && (decide (its.size ≤ sizeLine) && relDBs K ds its.toList)
      | _ => false)
    | _ => false)
  | _, _ => false
def relDBs (K : PySem.W.Frag) : List D → List Value → Bool
  | [], us => us.isEmpty
  | d :: ds, us => (match us with | u :: r => relDB K d u && relDBs K ds r | [] => false)
end
mutual
theorem relDB_ok {K : PySem.W.Frag} {Θ : Nm} : ∀ (d : D) (u : Value), relDB K d u = true → ∃ v, RelV v u ∧ ∀ ι H, RelD K Θ ι H d v
  | .non, u, h => by
    unfold relDB at h
    split at h
    · exact ⟨.non, rfl, fun _ _ => rfl⟩
    · cases h
  | .bl b, u, h => by
    unfold relDB at h
    split at h
    · have e := eq_of_beq h; subst e; exact ⟨.bl b, rfl, fun _ _ => rfl⟩
    · cases h
  | .int i, u, h => by
    unfold relDB at h
    split at h
    · have e := of_decide_eq_true h; subst e; exact ⟨.int i, ⟨_, rfl⟩, fun _ _ => rfl⟩
    · cases h
  | .str i, u, h => by
    unfold relDB at h
    split at h
    · have e := of_decide_eq_true h; subst e; exact ⟨.str i, ⟨_, rfl⟩, fun _ _ => rfl⟩
    · cases h
  | .tup ds, u, h => by
    unfold relDB at h
    split at h
    · rename_i a
      split at h
      · rename_i c od its n sl hk
        rw [Bool.and_eq_true, Bool.and_eq_true] at h
        obtain ⟨vs, h1, h2⟩ := relDBs_ok (Θ := Θ) ds _ h.2.2
        refine ⟨.ref a, rfl, fun ι H => ?_⟩
        exact relTupMk (.inr ⟨_, its, n, hk, congrArg Value.type (of_decide_eq_true h.1), rfl, of_decide_eq_true h.2.1, h1⟩) (h2 ι H)
      · cases h
    · cases h
  | .rol ds, u, h => by unfold relDB at h; cases h
  | .obj ds, u, h => by unfold relDB at h; cases h
  | .fn ds, u, h => by unfold relDB at h; cases h
theorem relDBs_ok {K : PySem.W.Frag} {Θ : Nm} : ∀ (ds : List D) (us : List Value), relDBs K ds us = true → ∃ vs, Vals vs us ∧ ∀ ι H, RelDs K Θ ι H ds vs
  | [], us, h => by
    unfold relDBs at h
    cases us with
    | nil => exact ⟨[], .nil, fun _ _ => RelDs.nil⟩
    | cons u r => cases h
  | d :: ds, us, h => by
    unfold relDBs at h
    split at h
    · rename_i u r
      rw [Bool.and_eq_true] at h
      obtain ⟨v, h1, h2⟩ := relDB_ok (Θ := Θ) d u h.1
      obtain ⟨vs, h3, h4⟩ := relDBs_ok (Θ := Θ) ds r h.2
      exact ⟨v :: vs, .cons h1 h3, fun ι H => RelDs.cons (h2 ι H) (h4 ι H)⟩
    · cases h
end

theorem mem_lk {κ α : Type} [BEq κ] [LawfulBEq κ] {k : κ} {v : α} : ∀ {l : List (κ × α)}, l.lookup k = some v → (k, v) ∈ l
  | [], h => by cases h
  | (j, w) :: l, h => by
    rw [List.lookup_cons] at h
    split at h
    · rename_i e
      have e := eq_of_beq e
      subst e
      cases h
      exact List.mem_cons_self
    · exact List.mem_cons_of_mem _ (mem_lk h)
structure ClD where
  name : Str
  fields : List Nat
  cons : List (Nat × D)
  meths : List (Nat × Nat)
  ini : Option Nat
structure DfD where
  d : He.DefD
  fd : FD
structure PDat where
  consts : List (Str × D)
  cls : List ClD
  names : List Str
  om : List Str
  dt : List Str
  bl : List Str
  gc : Bool
  defs : List DfD
def PDat.p (D : PDat) : Prg where
  defs := fun f => (D.defs[f]?).map (·.fd)
  consts := fun i => (D.consts[i]?).map (·.2)
  isF := fun C f => match D.cls[C]? with | some c => c.fields.contains f | none => false
  con := fun C f => match D.cls[C]? with | some c => c.cons.lookup f | none => none
  mth := fun C f => match D.cls[C]? with | some c => c.meths.lookup f | none => none
  ini := fun C => match D.cls[C]? with | some c => c.ini | none => none
/-- the names alone: what the compiler asks -/
structure TDat where
  consts : List Str
  cls : List Str
  names : List Str
  om : List Str
  dt : List Str
  bl : List Str
  gc : Bool
  glob : List (Option Str)
def ixOf (l : List Str) (x : Str) : Option Nat := l.findIdx? fun y => y == x
def TDat.tb (D : TDat) : Tb where
  gl := ixOf D.consts
  df := fun x => D.glob.findIdx? fun q => q == some x
  cl := ixOf D.cls
  fd := ixOf D.names
  om := fun x => D.om.contains x
  dt := fun x => D.dt.contains x
  bl := fun x => D.bl.contains x
  gc := D.gc
/-- a def of the module, not of a class -/
def DfD.gl (q : DfD) : Option Str := match q.d.at_.2 with | none => some q.d.at_.1 | some _ => none
def PDat.t (D : PDat) : TDat := ⟨D.consts.map (·.1), D.cls.map (·.name), D.names, D.om, D.dt, D.bl, D.gc, D.defs.map DfD.gl⟩
def nmOf (names : List Str) (n : Nat) : Str := match names[n]? with
  | some x => x
  | none => ⟨Array.replicate (n + 1000) 35⟩
theorem nmOf_inj {names : List Str} (h1 : names.Nodup) (h2 : names.all (fun x => decide (x.cps.size < 1000)) = true) (a b : Nat) (h : nmOf names a = nmOf names b) : a = b := by
  have sm : ∀ {n : Nat} {x : Str}, names[n]? = some x → x.cps.size < 1000 := fun {n x} e => of_decide_eq_true (List.all_eq_true.mp h2 x (List.mem_of_getElem? e))
  unfold nmOf at h
  cases ea : names[a]? with
  | some x =>
    cases eb : names[b]? with
    | some y =>
      rw [ea, eb] at h
      have h : x = y := h
      subst h
      exact (List.getElem?_inj (List.getElem?_eq_some_iff.mp ea).1 h1).mp (ea.trans eb.symm)
    | none =>
      rw [ea, eb] at h
      have h : x = ⟨Array.replicate (b + 1000) 35⟩ := h
      have := sm ea
      rw [h] at this
      simp at this
      omega
  | none =>
    cases eb : names[b]? with
    | some y =>
      rw [ea, eb] at h
      have h : (⟨Array.replicate (a + 1000) 35⟩ : Str) = y := h
      have := sm eb
      rw [← h] at this
      simp at this
      omega
    | none =>
      rw [ea, eb] at h
      have h : (⟨Array.replicate (a + 1000) 35⟩ : Str) = ⟨Array.replicate (b + 1000) 35⟩ := h
      have := congrArg (fun z : Str => z.cps.size) h
      simp at this
      exact this
section
variable (D : PDat) (K : PySem.W.Frag)
def conB (C f : Str) (d : Z.D) : Bool := (match PySem.W.findIn K (.ref (He.ga K C)) f with
  | some (some u) => relDB K d u && (decide (PySem.W.specialIn K u "__get__" = some none) && !PySem.W.copiedNames.contains f)
  | _ => false)
def clB (c : ClD) : Bool := (He.Fa.glo c.name).ok K && ((He.Fa.cls c.name).ok K && ((c.fields.all fun f => (He.Fa.noat c.name (nmOf D.names f)).ok K) && ((c.cons.all fun q => conB K c.name (nmOf D.names q.1) q.2) &&
  ((c.meths.all fun q => (He.Fa.meth c.name (nmOf D.names q.1)).ok K && (match D.defs[q.2]? with | some e => decide (e.d.at_ = (c.name, some (nmOf D.names q.1))) | none => false)) &&
  (match c.ini with | none => true | some f => (He.Fa.mkr c.name).ok K && (match D.defs[f]? with | some e => decide (e.d.at_ = (c.name, some ("__init__" : Str))) | none => false))))))
def exZ : Bool := (D.consts.all fun q => match PySem.W.nsIn K mainGlobals q.1 with | some (some u) => relDB K q.2 u | _ => false) &&
  ((D.defs.all fun q => match DfD.gl q with | some x => (He.Fa.glo x).ok K | none => true) && ((D.cls.all fun c => clB D K c) && ((D.bl.all fun x => (He.Fa.free x).ok K) &&
    (!D.gc || He.eqO (PySem.W.nsIn K mainGlobals "gcd") (some (some (.builtin "math.gcd")))))))
def obsZ : He.AlD := (exZ D K && D.defs.all fun q => q.d.ok K, D.defs.map fun q => He.fnW K q.d.at_)
end
def valZ (D : PDat) : He.AlD := (true, D.defs.map fun q => q.d.val)
def SaysZ (D : PDat) (K : PySem.W.Frag) : Prop := obsZ D K = valZ D
/-- what is reached in n steps: what was seen is kept as bits -/
def addB : Nat × List Addr → Addr → Nat × List Addr
  | (m, l), a => if Nat.testBit m a then (m, l) else (Nat.lor m (Nat.shiftLeft 1 a), a :: l)
def addsB : List Addr → Nat × List Addr → Nat × List Addr
  | [], x => x
  | a :: as, x => addsB as (addB x a)
def frontB (g : Addr → Option Obj) : List Addr → Nat × List Addr → Nat × List Addr
  | [], x => x
  | a :: as, x => frontB g as (match g a with | some o => addsB (He.refsD o) x | none => x)
def growB (g : Addr → Option Obj) : Nat → Nat → List Addr → List Addr → List Addr
  | 0, _, all, front => all ++ front
  | n + 1, m, all, front => match frontB g front (m, []) with
    | (m', front') => growB g n m' (all ++ front) front'
def asB (g : Addr → Option Obj) (n : Nat) : List Addr := growB g n (Nat.shiftLeft 1 mainGlobals) [] [mainGlobals]
def obsZG (n : Nat) (D : PDat) (g : Addr → Option Obj) : He.AlD := obsZ D (He.frG g (asB g n))
def hookZ (n : Nat) (D : PDat) : PySem.W.Hook where
  α := He.AlD
  obs := fun s => obsZG n D s.heap.get?
  val := fun _ => valZ D
  says := fun _ h => ∃ K : PySem.W.Frag, K.In h ∧ SaysZ D K
  of := fun _ _ e => ⟨_, He.frG_in, e⟩
  keeps := fun _ _ _ ⟨K, hK, c⟩ k => ⟨K, PySem.W.Frag.In.keeps hK k, c⟩
theorem obsZG_eq {n : Nat} {D : PDat} {g : Addr → Option Obj} {s : Shared} (h : ∀ a, g a = s.heap.get? a) : obsZG n D g = (hookZ n D).obs s := by
  have e : g = s.heap.get? := funext h
  rw [e] <;> rfl
def thZ (D : PDat) (K : PySem.W.Frag) (w : World) (h1 : D.names.Nodup) (h2 : D.names.all (fun x => decide (x.cps.size < 1000)) = true) : Nm where
  cA := fun C => match D.cls[C]? with | some c => He.ga K c.name | none => 0
  fA := fun f => match D.defs[f]? with | some q => He.fAd K q.d.at_ | none => 0
  nm := nmOf D.names
  w := w
  inj := nmOf_inj h1 h2
theorem ixOf_ok {l : List Str} {x : Str} {i : Nat} (h : ixOf l x = some i) : l[i]? = some x := by
  unfold ixOf at h
  rw [List.findIdx?_eq_some_iff_getElem] at h
  obtain ⟨hl, h, _⟩ := h
  rw [List.getElem?_eq_getElem hl, eq_of_beq h]
section
variable {D : PDat} {K : PySem.W.Frag} {h : Heap} {mg : Str → Option Value} {w : World}
theorem SaysZ.stat (c : SaysZ D K) (X : K.In h) (G : h.Ns mainGlobals mg) (h1 : D.names.Nodup) (h2 : D.names.all (fun x => decide (x.cps.size < 1000)) = true) (hci : (D.cls.all fun c => c.ini.isSome) = true) : Stat K mg (thZ D K w h1 h2) D.p D.t.tb := by
  have c0 : (exZ D K && D.defs.all fun q => q.d.ok K) = true := congrArg (fun z : He.AlD => z.1) c
  rw [Bool.and_eq_true] at c0
  obtain ⟨c1, c2⟩ := c0
  unfold exZ at c1
  simp only [Bool.and_eq_true] at c1
  obtain ⟨e1, e2, e3, e4, e5⟩ := c1
  have kp : ∀ (f : Nat) (q : DfD), D.defs[f]? = some q → PySem.W.keepIn K (.ref (He.fAd K q.d.at_)) = true := fun f q hq => by
    have z := List.all_eq_true.mp c2 q (List.mem_of_getElem? hq)
    unfold He.DefD.ok at z
    exact (He.ba z).1
  have cB : ∀ (C : Nat) (k : ClD), D.cls[C]? = some k → clB D K k = true := fun C k hk => List.all_eq_true.mp e3 k (List.mem_of_getElem? hk)
  have cA : ∀ (C : Nat) (k : ClD), D.cls[C]? = some k → (thZ D K w h1 h2).cA C = He.ga K k.name := fun C k hk => by
    show (match D.cls[C]? with | some c => He.ga K c.name | none => 0) = _
    rw [hk]
  have fA : ∀ (f : Nat) (q : DfD), D.defs[f]? = some q → (thZ D K w h1 h2).fA f = He.fAd K q.d.at_ := fun f q hq => by
    show (match D.defs[f]? with | some q => He.fAd K q.d.at_ | none => 0) = _
    rw [hq]
  refine ⟨fun x i hx => ?_, fun x f hx => ?_, fun x C hx => ?_, fun x f hx => ?_, fun x hx => ?_, fun hx => ?_, fun x C hx => ?_, fun C f hx => ?_, fun C f d hx => ?_, fun C m f hx => ?_, fun C f hx => ?_⟩
  · have hx : ixOf (D.consts.map (·.1)) x = some i := hx
    have hi := ixOf_ok hx
    rw [List.getElem?_map] at hi
    cases hq : D.consts[i]? with
    | none => rw [hq] at hi; cases hi
    | some q =>
      rw [hq] at hi
      have ex : q.1 = x := by simpa using hi
      have z := List.all_eq_true.mp e1 q (List.mem_of_getElem? hq)
      cases hn : PySem.W.nsIn K mainGlobals q.1 with
      | none => rw [hn] at z; cases z
      | some o =>
        rw [hn] at z
        cases o with
        | none => cases z
        | some u =>
          obtain ⟨v, r1, r2⟩ := relDB_ok (Θ := thZ D K w h1 h2) q.2 u z
          refine ⟨q.2, u, v, ?_, by rw [← ex]; exact PySem.W.mg_of X G hn, r1, r2⟩
          show (D.consts[i]?).map (·.2) = _
          rw [hq]; rfl
  · have hx : (D.defs.map DfD.gl).findIdx? (fun q => q == some x) = some f := hx
    rw [List.findIdx?_eq_some_iff_getElem] at hx
    obtain ⟨hl, hx, _⟩ := hx
    rw [List.length_map] at hl
    rw [List.getElem_map] at hx
    have hq : D.defs[f]? = some D.defs[f] := List.getElem?_eq_getElem hl
    have hg : DfD.gl D.defs[f] = some x := eq_of_beq hx
    have z := List.all_eq_true.mp e2 _ (List.mem_of_getElem? hq)
    rw [hg] at z
    rw [fA f _ hq]
    have ef : He.fAd K D.defs[f].d.at_ = He.ga K x := by
      unfold DfD.gl at hg
      unfold He.fAd
      split at hg
      · rename_i e
        rw [e]
        cases hg
        rfl
      · cases hg
    rw [ef]
    exact ⟨He.glo_ok X G z, by rw [← ef]; exact kp f _ hq⟩
  · have hi := ixOf_ok (show ixOf (D.cls.map (·.name)) x = some C from hx)
    rw [List.getElem?_map] at hi
    cases hq : D.cls[C]? with
    | none => rw [hq] at hi; cases hi
    | some q =>
      rw [hq] at hi
      have ex : q.name = x := by simpa using hi
      have z := cB C q hq
      unfold clB at z
      simp only [Bool.and_eq_true] at z
      rw [cA C q hq, ← ex]
      exact He.glo_ok X G z.1
  · have hi := ixOf_ok (show ixOf D.names x = some f from hx)
    show nmOf D.names f = x
    unfold nmOf
    rw [hi]
  · have hx : D.bl.contains x = true := hx
    have hm : x ∈ D.bl := by simpa using hx
    exact He.free_ok X G (List.all_eq_true.mp e4 x hm)
  · have hx : D.gc = true := hx
    rw [hx] at e5
    exact PySem.W.mg_of X G (He.eqO_ok (by simpa using e5))
  · have hi := ixOf_ok (show ixOf (D.cls.map (·.name)) x = some C from hx)
    rw [List.getElem?_map] at hi
    cases hq : D.cls[C]? with
    | none => rw [hq] at hi; cases hi
    | some q =>
      show (match D.cls[C]? with | some c => c.ini | none => none).isSome = true
      rw [hq]
      exact List.all_eq_true.mp hci q (List.mem_of_getElem? hq)
  · have hx : (match D.cls[C]? with | some c => c.fields.contains f | none => false) = true := hx
    cases hq : D.cls[C]? with
    | none => rw [hq] at hx; cases hx
    | some q =>
      rw [hq] at hx
      have z := cB C q hq
      unfold clB at z
      simp only [Bool.and_eq_true] at z
      obtain ⟨z1, z2, z3, z4, z5, z6⟩ := z
      rw [cA C q hq]
      exact ⟨He.cls_ok z2, He.noat_ok (List.all_eq_true.mp z3 f (by simpa using hx))⟩
  · have hx : (match D.cls[C]? with | some c => c.cons.lookup f | none => none) = some d := hx
    cases hq : D.cls[C]? with
    | none => rw [hq] at hx; cases hx
    | some q =>
      rw [hq] at hx
      have z := cB C q hq
      unfold clB at z
      simp only [Bool.and_eq_true] at z
      obtain ⟨z1, z2, z3, z4, z5, z6⟩ := z
      rw [cA C q hq]
      have y := List.all_eq_true.mp z4 (f, d) (mem_lk hx)
      unfold conB at y
      split at y
      · rename_i u hu
        simp only [Bool.and_eq_true] at y
        obtain ⟨v, r1, r2⟩ := relDB_ok (Θ := thZ D K w h1 h2) d u y.1
        exact ⟨He.cls_ok z2, v, u, ⟨hu, r1, of_decide_eq_true y.2.1, by have q := y.2.2; rw [Bool.not_eq_true'] at q; exact q⟩, r2⟩
      · cases y
  · have hx : (match D.cls[C]? with | some c => c.meths.lookup m | none => none) = some f := hx
    cases hq : D.cls[C]? with
    | none => rw [hq] at hx; cases hx
    | some q =>
      rw [hq] at hx
      have z := cB C q hq
      unfold clB at z
      simp only [Bool.and_eq_true] at z
      obtain ⟨z1, z2, z3, z4, z5, z6⟩ := z
      rw [cA C q hq]
      have y := List.all_eq_true.mp z5 (m, f) (mem_lk hx)
      simp only [Bool.and_eq_true] at y
      obtain ⟨y1, y2⟩ := y
      split at y2
      · rename_i e he
        have ea := of_decide_eq_true y2
        rw [fA f e he, ea]
        exact ⟨He.cls_ok z2, He.meth_ok y1⟩
      · cases y2
  · have hx : (match D.cls[C]? with | some c => c.ini | none => none) = some f := hx
    cases hq : D.cls[C]? with
    | none => rw [hq] at hx; cases hx
    | some q =>
      rw [hq] at hx
      have hx : q.ini = some f := hx
      have z := cB C q hq
      unfold clB at z
      simp only [Bool.and_eq_true] at z
      obtain ⟨z1, z2, z3, z4, z5, z6⟩ := z
      rw [cA C q hq]
      rw [hx] at z6
      simp only [Bool.and_eq_true] at z6
      obtain ⟨y1, y2⟩ := z6
      split at y2
      · rename_i e he
        have ea := of_decide_eq_true y2
        rw [fA f e he, ea]
        exact He.mkr_ok y1
      · cases y2
theorem SaysZ.def_ (c : SaysZ D K) {i : Nat} {q : DfD} (h : D.defs[i]? = some q) : ∃ fd, FunD K q.d.name q.d.qual q.d.params q.d.body q.d.scope (q.d.dvs K) (q.d.kws K) (He.fAd K q.d.at_) fd := by
  have c2 := (He.ba (show (exZ D K && D.defs.all fun q => q.d.ok K) = true from congrArg (fun z : He.AlD => z.1) c)).2
  have e : D.defs.map (fun q => He.fnW K q.d.at_) = D.defs.map fun q => q.d.val := congrArg (fun z : He.AlD => z.2) c
  have e2 : (D.defs.map fun q => He.fnW K q.d.at_)[i]? = (D.defs.map fun q => q.d.val)[i]? := by rw [e]
  rw [List.getElem?_map, List.getElem?_map, h] at e2
  exact He.DefD.funD (Option.some.inj e2) (List.all_eq_true.mp c2 q (List.mem_of_getElem? h))
end
theorem cSs_ok {ct : CT} {n : Nat} {ss : List Stmt} {ir : Ss} (h : (cSs ct n ss).map (·.1) = some ir) : OkSs ct ss ir := by
  cases e : cSs ct n ss with
  | none => rw [e] at h; cases h
  | some x =>
    rw [e] at h
    have : x.1 = ir := by simpa using h
    rw [← this]
    exact x.2
/-! ### binding -/
theorem bindsZ0 {K : PySem.W.Frag} {Θ : Nm} {fd : FD} {fdt : FuncData} {ps : List Str} (h : fd.dfl = []) (b : Binds K fdt ps []) : FdBinds K Θ fd fdt ps := fun j hj => by
  rw [h] at hj ⊢
  exact ⟨[], [], b, .nil, fun ι H => by simp only [List.drop_nil]; exact RelDs.nil⟩
theorem bindsZ1 {K : PySem.W.Frag} {Θ : Nm} {fd : FD} {fdt : FuncData} {ps : List Str} {d : D} {v : V} (h : fd.dfl = [d]) (r : ∀ ι H, RelD K Θ ι H d v) (b0 : ∃ ds, Vals [v] ds ∧ Binds K fdt ps ds) (b1 : ∃ ds, Vals [] ds ∧ Binds K fdt ps ds) : FdBinds K Θ fd fdt ps := fun j hj => by
  rw [h] at hj ⊢
  match j, hj with
  | 0, _ =>
    obtain ⟨ds, h1, h2⟩ := b0
    exact ⟨[v], ds, h2, h1, fun ι H => RelDs.cons (r ι H) RelDs.nil⟩
  | 1, _ =>
    obtain ⟨ds, h1, h2⟩ := b1
    exact ⟨[], ds, h2, h1, fun ι H => RelDs.nil⟩
end Z
end

section
set_option Elab.async false
set_option linter.all false
set_option maxRecDepth 100000
namespace Z
open PySem L2
def top (i : Nat) : Stmt := PySem.Challenge.pw_leastinbox_k86_canonical_worths.main.body.getD i (.Pass ⟨0, 0, 0, 0⟩)
def clsBody : Stmt → List Stmt
  | .ClassDef _ _ _ b _ _ _ _ _ _ _ => b
  | _ => []
def mtd (i j : Nat) : Stmt := (clsBody (top i)).getD j (.Pass ⟨0, 0, 0, 0⟩)
def tdat : TDat := ⟨["ZERO", "ONE", "RESERVED", "FIRST_SIGNS", "LATER_SIGNS", "BEYOND"], ["Problem", "Builder"], ["letters", "nodes", "ranges", "conditions", "goal", "MOST_LETTERS", "MOST_NODES", "MOST_CONDITIONS", "MOST_WEIGHT", "weights", "_known", "letter", "number", "node", "_place", "keep", "least", "problem", "_order"], ["letter", "number", "node", "_place", "keep", "least", "problem", "_order"], ["_known"], ["len", "abs", "int", "list", "tuple", "all", "sorted", "isinstance", "range"], true, [some ("ratio" : Str), some ("add" : Str), some ("sub" : Str), some ("mul" : Str), some ("div" : Str), some ("negate" : Str), some ("size" : Str), some ("power" : Str), some ("upto" : Str), some ("lesser" : Str), some ("greater" : Str), some ("floor" : Str), some ("ceil" : Str), some ("point_stretch" : Str), some ("add_stretches" : Str), some ("sub_stretches" : Str), some ("negate_stretch" : Str), some ("mul_stretches" : Str), some ("has_zero" : Str), some ("div_stretches" : Str), some ("power_stretch" : Str), some ("abs_stretch" : Str), some ("max_stretches" : Str), some ("min_stretches" : Str), some ("arguments" : Str), some ("moved_node" : Str), some ("combine" : Str), some ("node_worth" : Str), some ("combine_stretches" : Str), some ("node_range" : Str), some ("node_weight" : Str), some ("valid_name" : Str), none, none, none, none, none, none, none, none, none, none, some ("too_long" : Str), some ("worths" : Str), some ("uses" : Str), some ("problem_key" : Str), some ("_law_jar" : Str), some ("_law_draw" : Str), some ("_law_low" : Str), some ("_law_less" : Str), some ("_law_apply" : Str), some ("_law_letters" : Str), some ("_law_point" : Str), some ("_law_terms" : Str), some ("_law_parts" : Str), some ("_law_shaped" : Str), some ("_law_order" : Str), some ("_law_worths_right" : Str), some ("law" : Str)]⟩
def ir_ratio : Ss := 
  (.cons (.asg (.g (.one 2)) (.blt .gcd (.cons (.v 0) (.cons (.v 1) .nil)))) 
  (.cons (.ite (.val (.cmp .Lt (.v 1) (.k (.int (0))))) 
   (.cons (.asg (.g (.one 2)) (.neg (.v 2))) .nil) .nil) 
  (.cons (.ret (.tup (.cons (.bin .FloorDiv (.v 0) (.v 2)) (.cons (.bin .FloorDiv (.v 1) (.v 2)) .nil)))) .nil)))
def fd_ratio : FD := ⟨2, [.int (1)], 3, ir_ratio⟩
theorem ok_ratio : OkSs ⟨["top", "bottom", "common"], defScope (top 13), tdat.tb, fun _ => true⟩ (defBody (top 13)) ir_ratio := by
  have h : (cSs ⟨["top", "bottom", "common"], defScope (top 13), tdat.tb, fun _ => true⟩ 12 (defBody (top 13))).map (·.1) = some ir_ratio := by kernel_rfl
  exact cSs_ok h
def ir_add : Ss := 
  (.cons (.ite (.and (.val (.cmp .Eq (.ix (.v 0) (.k (.int (1)))) (.k (.int (1))))) (.val (.cmp .Eq (.ix (.v 1) (.k (.int (1)))) (.k (.int (1)))))) 
   (.cons (.ret (.tup (.cons (.bin .Add (.ix (.v 0) (.k (.int (0)))) (.ix (.v 1) (.k (.int (0))))) (.cons (.k (.int (1))) .nil)))) .nil) .nil) 
  (.cons (.ret (.call 0 (.cons (.bin .Add (.bin .Mult (.ix (.v 0) (.k (.int (0)))) (.ix (.v 1) (.k (.int (1))))) (.bin .Mult (.ix (.v 1) (.k (.int (0)))) (.ix (.v 0) (.k (.int (1)))))) (.cons (.bin .Mult (.ix (.v 0) (.k (.int (1)))) (.ix (.v 1) (.k (.int (1))))) .nil)))) .nil))
def fd_add : FD := ⟨2, [], 2, ir_add⟩
theorem ok_add : OkSs ⟨["one", "two"], defScope (top 14), tdat.tb, fun _ => true⟩ (defBody (top 14)) ir_add := by
  have h : (cSs ⟨["one", "two"], defScope (top 14), tdat.tb, fun _ => true⟩ 12 (defBody (top 14))).map (·.1) = some ir_add := by kernel_rfl
  exact cSs_ok h
def ir_sub : Ss := 
  (.cons (.ite (.and (.val (.cmp .Eq (.ix (.v 0) (.k (.int (1)))) (.k (.int (1))))) (.val (.cmp .Eq (.ix (.v 1) (.k (.int (1)))) (.k (.int (1)))))) 
   (.cons (.ret (.tup (.cons (.bin .Sub (.ix (.v 0) (.k (.int (0)))) (.ix (.v 1) (.k (.int (0))))) (.cons (.k (.int (1))) .nil)))) .nil) .nil) 
  (.cons (.ret (.call 0 (.cons (.bin .Sub (.bin .Mult (.ix (.v 0) (.k (.int (0)))) (.ix (.v 1) (.k (.int (1))))) (.bin .Mult (.ix (.v 1) (.k (.int (0)))) (.ix (.v 0) (.k (.int (1)))))) (.cons (.bin .Mult (.ix (.v 0) (.k (.int (1)))) (.ix (.v 1) (.k (.int (1))))) .nil)))) .nil))
def fd_sub : FD := ⟨2, [], 2, ir_sub⟩
theorem ok_sub : OkSs ⟨["one", "two"], defScope (top 15), tdat.tb, fun _ => true⟩ (defBody (top 15)) ir_sub := by
  have h : (cSs ⟨["one", "two"], defScope (top 15), tdat.tb, fun _ => true⟩ 12 (defBody (top 15))).map (·.1) = some ir_sub := by kernel_rfl
  exact cSs_ok h
def ir_mul : Ss := 
  (.cons (.ite (.and (.val (.cmp .Eq (.ix (.v 0) (.k (.int (1)))) (.k (.int (1))))) (.val (.cmp .Eq (.ix (.v 1) (.k (.int (1)))) (.k (.int (1)))))) 
   (.cons (.ret (.tup (.cons (.bin .Mult (.ix (.v 0) (.k (.int (0)))) (.ix (.v 1) (.k (.int (0))))) (.cons (.k (.int (1))) .nil)))) .nil) .nil) 
  (.cons (.ret (.call 0 (.cons (.bin .Mult (.ix (.v 0) (.k (.int (0)))) (.ix (.v 1) (.k (.int (0))))) (.cons (.bin .Mult (.ix (.v 0) (.k (.int (1)))) (.ix (.v 1) (.k (.int (1))))) .nil)))) .nil))
def fd_mul : FD := ⟨2, [], 2, ir_mul⟩
theorem ok_mul : OkSs ⟨["one", "two"], defScope (top 16), tdat.tb, fun _ => true⟩ (defBody (top 16)) ir_mul := by
  have h : (cSs ⟨["one", "two"], defScope (top 16), tdat.tb, fun _ => true⟩ 12 (defBody (top 16))).map (·.1) = some ir_mul := by kernel_rfl
  exact cSs_ok h
def ir_div : Ss := 
  (.cons (.ret (.call 0 (.cons (.bin .Mult (.ix (.v 0) (.k (.int (0)))) (.ix (.v 1) (.k (.int (1))))) (.cons (.bin .Mult (.ix (.v 0) (.k (.int (1)))) (.ix (.v 1) (.k (.int (0))))) .nil)))) .nil)
def fd_div : FD := ⟨2, [], 2, ir_div⟩
theorem ok_div : OkSs ⟨["one", "two"], defScope (top 17), tdat.tb, fun _ => true⟩ (defBody (top 17)) ir_div := by
  have h : (cSs ⟨["one", "two"], defScope (top 17), tdat.tb, fun _ => true⟩ 12 (defBody (top 17))).map (·.1) = some ir_div := by kernel_rfl
  exact cSs_ok h
def ir_negate : Ss := 
  (.cons (.ret (.tup (.cons (.neg (.ix (.v 0) (.k (.int (0))))) (.cons (.ix (.v 0) (.k (.int (1)))) .nil)))) .nil)
def fd_negate : FD := ⟨1, [], 1, ir_negate⟩
theorem ok_negate : OkSs ⟨["one"], defScope (top 18), tdat.tb, fun _ => true⟩ (defBody (top 18)) ir_negate := by
  have h : (cSs ⟨["one"], defScope (top 18), tdat.tb, fun _ => true⟩ 12 (defBody (top 18))).map (·.1) = some ir_negate := by kernel_rfl
  exact cSs_ok h
def ir_size : Ss := 
  (.cons (.ret (.tup (.cons (.blt .abs (.cons (.ix (.v 0) (.k (.int (0)))) .nil)) (.cons (.ix (.v 0) (.k (.int (1)))) .nil)))) .nil)
def fd_size : FD := ⟨1, [], 1, ir_size⟩
theorem ok_size : OkSs ⟨["one"], defScope (top 19), tdat.tb, fun _ => true⟩ (defBody (top 19)) ir_size := by
  have h : (cSs ⟨["one"], defScope (top 19), tdat.tb, fun _ => true⟩ 12 (defBody (top 19))).map (·.1) = some ir_size := by kernel_rfl
  exact cSs_ok h
def ir_power : Ss := 
  (.cons (.asg2 2 3 (.k (.int (1)))) 
  (.cons (.for (.one 4) (.rng (.cons (.v 1) .nil)) 
   (.cons (.asg (.g (.one 2)) (.bin .Mult (.v 2) (.ix (.v 0) (.k (.int (0)))))) 
   (.cons (.asg (.g (.one 3)) (.bin .Mult (.v 3) (.ix (.v 0) (.k (.int (1)))))) .nil))) 
  (.cons (.ret (.tup (.cons (.v 2) (.cons (.v 3) .nil)))) .nil)))
def fd_power : FD := ⟨2, [], 5, ir_power⟩
theorem ok_power : OkSs ⟨["one", "count", "top", "bottom", "_"], defScope (top 20), tdat.tb, fun _ => true⟩ (defBody (top 20)) ir_power := by
  have h : (cSs ⟨["one", "count", "top", "bottom", "_"], defScope (top 20), tdat.tb, fun _ => true⟩ 12 (defBody (top 20))).map (·.1) = some ir_power := by kernel_rfl
  exact cSs_ok h
def ir_upto : Ss := 
  (.cons (.ret (.cmp .LtE (.bin .Mult (.ix (.v 0) (.k (.int (0)))) (.ix (.v 1) (.k (.int (1))))) (.bin .Mult (.ix (.v 1) (.k (.int (0)))) (.ix (.v 0) (.k (.int (1))))))) .nil)
def fd_upto : FD := ⟨2, [], 2, ir_upto⟩
theorem ok_upto : OkSs ⟨["one", "two"], defScope (top 21), tdat.tb, fun _ => true⟩ (defBody (top 21)) ir_upto := by
  have h : (cSs ⟨["one", "two"], defScope (top 21), tdat.tb, fun _ => true⟩ 12 (defBody (top 21))).map (·.1) = some ir_upto := by kernel_rfl
  exact cSs_ok h
def ir_lesser : Ss := 
  (.cons (.ite (.val (.call 8 (.cons (.v 0) (.cons (.v 1) .nil)))) 
   (.cons (.ret (.v 0)) .nil) .nil) 
  (.cons (.ret (.v 1)) .nil))
def fd_lesser : FD := ⟨2, [], 2, ir_lesser⟩
theorem ok_lesser : OkSs ⟨["one", "two"], defScope (top 22), tdat.tb, fun _ => true⟩ (defBody (top 22)) ir_lesser := by
  have h : (cSs ⟨["one", "two"], defScope (top 22), tdat.tb, fun _ => true⟩ 12 (defBody (top 22))).map (·.1) = some ir_lesser := by kernel_rfl
  exact cSs_ok h
def ir_greater : Ss := 
  (.cons (.ite (.val (.call 8 (.cons (.v 1) (.cons (.v 0) .nil)))) 
   (.cons (.ret (.v 0)) .nil) .nil) 
  (.cons (.ret (.v 1)) .nil))
def fd_greater : FD := ⟨2, [], 2, ir_greater⟩
theorem ok_greater : OkSs ⟨["one", "two"], defScope (top 23), tdat.tb, fun _ => true⟩ (defBody (top 23)) ir_greater := by
  have h : (cSs ⟨["one", "two"], defScope (top 23), tdat.tb, fun _ => true⟩ 12 (defBody (top 23))).map (·.1) = some ir_greater := by kernel_rfl
  exact cSs_ok h
def ir_floor : Ss := 
  (.cons (.ret (.bin .FloorDiv (.ix (.v 0) (.k (.int (0)))) (.ix (.v 0) (.k (.int (1)))))) .nil)
def fd_floor : FD := ⟨1, [], 1, ir_floor⟩
theorem ok_floor : OkSs ⟨["one"], defScope (top 24), tdat.tb, fun _ => true⟩ (defBody (top 24)) ir_floor := by
  have h : (cSs ⟨["one"], defScope (top 24), tdat.tb, fun _ => true⟩ 12 (defBody (top 24))).map (·.1) = some ir_floor := by kernel_rfl
  exact cSs_ok h
def ir_ceil : Ss := 
  (.cons (.ret (.neg (.bin .FloorDiv (.neg (.ix (.v 0) (.k (.int (0))))) (.ix (.v 0) (.k (.int (1))))))) .nil)
def fd_ceil : FD := ⟨1, [], 1, ir_ceil⟩
theorem ok_ceil : OkSs ⟨["one"], defScope (top 25), tdat.tb, fun _ => true⟩ (defBody (top 25)) ir_ceil := by
  have h : (cSs ⟨["one"], defScope (top 25), tdat.tb, fun _ => true⟩ 12 (defBody (top 25))).map (·.1) = some ir_ceil := by kernel_rfl
  exact cSs_ok h
def ir_point_stretch : Ss := 
  (.cons (.ret (.tup (.cons (.v 0) (.cons (.v 0) .nil)))) .nil)
def fd_point_stretch : FD := ⟨1, [], 1, ir_point_stretch⟩
theorem ok_point_stretch : OkSs ⟨["number"], defScope (top 27), tdat.tb, fun _ => true⟩ (defBody (top 27)) ir_point_stretch := by
  have h : (cSs ⟨["number"], defScope (top 27), tdat.tb, fun _ => true⟩ 12 (defBody (top 27))).map (·.1) = some ir_point_stretch := by kernel_rfl
  exact cSs_ok h
def ir_add_stretches : Ss := 
  (.cons (.ret (.tup (.cons (.call 1 (.cons (.ix (.v 0) (.k (.int (0)))) (.cons (.ix (.v 1) (.k (.int (0)))) .nil))) (.cons (.call 1 (.cons (.ix (.v 0) (.k (.int (1)))) (.cons (.ix (.v 1) (.k (.int (1)))) .nil))) .nil)))) .nil)
def fd_add_stretches : FD := ⟨2, [], 2, ir_add_stretches⟩
theorem ok_add_stretches : OkSs ⟨["one", "two"], defScope (top 28), tdat.tb, fun _ => true⟩ (defBody (top 28)) ir_add_stretches := by
  have h : (cSs ⟨["one", "two"], defScope (top 28), tdat.tb, fun _ => true⟩ 12 (defBody (top 28))).map (·.1) = some ir_add_stretches := by kernel_rfl
  exact cSs_ok h
def ir_sub_stretches : Ss := 
  (.cons (.ret (.tup (.cons (.call 2 (.cons (.ix (.v 0) (.k (.int (0)))) (.cons (.ix (.v 1) (.k (.int (1)))) .nil))) (.cons (.call 2 (.cons (.ix (.v 0) (.k (.int (1)))) (.cons (.ix (.v 1) (.k (.int (0)))) .nil))) .nil)))) .nil)
def fd_sub_stretches : FD := ⟨2, [], 2, ir_sub_stretches⟩
theorem ok_sub_stretches : OkSs ⟨["one", "two"], defScope (top 29), tdat.tb, fun _ => true⟩ (defBody (top 29)) ir_sub_stretches := by
  have h : (cSs ⟨["one", "two"], defScope (top 29), tdat.tb, fun _ => true⟩ 12 (defBody (top 29))).map (·.1) = some ir_sub_stretches := by kernel_rfl
  exact cSs_ok h
def ir_negate_stretch : Ss := 
  (.cons (.ret (.tup (.cons (.call 5 (.cons (.ix (.v 0) (.k (.int (1)))) .nil)) (.cons (.call 5 (.cons (.ix (.v 0) (.k (.int (0)))) .nil)) .nil)))) .nil)
def fd_negate_stretch : FD := ⟨1, [], 1, ir_negate_stretch⟩
theorem ok_negate_stretch : OkSs ⟨["one"], defScope (top 30), tdat.tb, fun _ => true⟩ (defBody (top 30)) ir_negate_stretch := by
  have h : (cSs ⟨["one"], defScope (top 30), tdat.tb, fun _ => true⟩ 12 (defBody (top 30))).map (·.1) = some ir_negate_stretch := by kernel_rfl
  exact cSs_ok h
def ir_mul_stretches : Ss := 
  (.cons (.ite (.and (.val (.cmp .GtE (.ix (.ix (.v 0) (.k (.int (0)))) (.k (.int (0)))) (.k (.int (0))))) (.val (.cmp .GtE (.ix (.ix (.v 1) (.k (.int (0)))) (.k (.int (0)))) (.k (.int (0)))))) 
   (.cons (.ret (.tup (.cons (.call 3 (.cons (.ix (.v 0) (.k (.int (0)))) (.cons (.ix (.v 1) (.k (.int (0)))) .nil))) (.cons (.call 3 (.cons (.ix (.v 0) (.k (.int (1)))) (.cons (.ix (.v 1) (.k (.int (1)))) .nil))) .nil)))) .nil) .nil) 
  (.cons (.asg2 2 3 (.call 3 (.cons (.ix (.v 0) (.k (.int (0)))) (.cons (.ix (.v 1) (.k (.int (0)))) .nil)))) 
  (.cons (.for (.one 4) (.seq (.tup (.cons (.call 3 (.cons (.ix (.v 0) (.k (.int (0)))) (.cons (.ix (.v 1) (.k (.int (1)))) .nil))) (.cons (.call 3 (.cons (.ix (.v 0) (.k (.int (1)))) (.cons (.ix (.v 1) (.k (.int (0)))) .nil))) (.cons (.call 3 (.cons (.ix (.v 0) (.k (.int (1)))) (.cons (.ix (.v 1) (.k (.int (1)))) .nil))) .nil))))) 
   (.cons (.asg (.g (.one 2)) (.call 9 (.cons (.v 2) (.cons (.v 4) .nil)))) 
   (.cons (.asg (.g (.one 3)) (.call 10 (.cons (.v 3) (.cons (.v 4) .nil)))) .nil))) 
  (.cons (.ret (.tup (.cons (.v 2) (.cons (.v 3) .nil)))) .nil))))
def fd_mul_stretches : FD := ⟨2, [], 5, ir_mul_stretches⟩
theorem ok_mul_stretches : OkSs ⟨["one", "two", "low", "high", "end"], defScope (top 31), tdat.tb, fun _ => true⟩ (defBody (top 31)) ir_mul_stretches := by
  have h : (cSs ⟨["one", "two", "low", "high", "end"], defScope (top 31), tdat.tb, fun _ => true⟩ 12 (defBody (top 31))).map (·.1) = some ir_mul_stretches := by kernel_rfl
  exact cSs_ok h
def ir_has_zero : Ss := 
  (.cons (.ret (.and (.cmp .LtE (.ix (.ix (.v 0) (.k (.int (0)))) (.k (.int (0)))) (.k (.int (0)))) (.cmp .GtE (.ix (.ix (.v 0) (.k (.int (1)))) (.k (.int (0)))) (.k (.int (0)))))) .nil)
def fd_has_zero : FD := ⟨1, [], 1, ir_has_zero⟩
theorem ok_has_zero : OkSs ⟨["one"], defScope (top 32), tdat.tb, fun _ => true⟩ (defBody (top 32)) ir_has_zero := by
  have h : (cSs ⟨["one"], defScope (top 32), tdat.tb, fun _ => true⟩ 12 (defBody (top 32))).map (·.1) = some ir_has_zero := by kernel_rfl
  exact cSs_ok h
def ir_div_stretches : Ss := 
  (.cons (.ret (.call 17 (.cons (.v 0) (.cons (.tup (.cons (.call 4 (.cons (.g 1) (.cons (.ix (.v 1) (.k (.int (1)))) .nil))) (.cons (.call 4 (.cons (.g 1) (.cons (.ix (.v 1) (.k (.int (0)))) .nil))) .nil))) .nil)))) .nil)
def fd_div_stretches : FD := ⟨2, [], 2, ir_div_stretches⟩
theorem ok_div_stretches : OkSs ⟨["one", "two"], defScope (top 33), tdat.tb, fun _ => true⟩ (defBody (top 33)) ir_div_stretches := by
  have h : (cSs ⟨["one", "two"], defScope (top 33), tdat.tb, fun _ => true⟩ 12 (defBody (top 33))).map (·.1) = some ir_div_stretches := by kernel_rfl
  exact cSs_ok h
def ir_power_stretch : Ss := 
  (.cons (.asg (.g (.one 2)) (.call 7 (.cons (.ix (.v 0) (.k (.int (0)))) (.cons (.v 1) .nil)))) 
  (.cons (.asg (.g (.one 3)) (.call 7 (.cons (.ix (.v 0) (.k (.int (1)))) (.cons (.v 1) .nil)))) 
  (.cons (.ite (.or (.val (.cmp .Eq (.bin .Mod (.v 1) (.k (.int (2)))) (.k (.int (1))))) (.val (.cmp .GtE (.ix (.ix (.v 0) (.k (.int (0)))) (.k (.int (0)))) (.k (.int (0)))))) 
   (.cons (.ret (.tup (.cons (.v 2) (.cons (.v 3) .nil)))) .nil) .nil) 
  (.cons (.ite (.val (.cmp .LtE (.ix (.ix (.v 0) (.k (.int (1)))) (.k (.int (0)))) (.k (.int (0))))) 
   (.cons (.ret (.tup (.cons (.v 3) (.cons (.v 2) .nil)))) .nil) .nil) 
  (.cons (.ite (.val (.cmp .Eq (.v 1) (.k (.int (0))))) 
   (.cons (.ret (.tup (.cons (.g 1) (.cons (.g 1) .nil)))) .nil) .nil) 
  (.cons (.ret (.tup (.cons (.g 0) (.cons (.call 10 (.cons (.v 2) (.cons (.v 3) .nil))) .nil)))) .nil))))))
def fd_power_stretch : FD := ⟨2, [], 4, ir_power_stretch⟩
theorem ok_power_stretch : OkSs ⟨["one", "count", "low", "high"], defScope (top 34), tdat.tb, fun _ => true⟩ (defBody (top 34)) ir_power_stretch := by
  have h : (cSs ⟨["one", "count", "low", "high"], defScope (top 34), tdat.tb, fun _ => true⟩ 12 (defBody (top 34))).map (·.1) = some ir_power_stretch := by kernel_rfl
  exact cSs_ok h
def ir_abs_stretch : Ss := 
  (.cons (.ite (.val (.cmp .GtE (.ix (.ix (.v 0) (.k (.int (0)))) (.k (.int (0)))) (.k (.int (0))))) 
   (.cons (.ret (.v 0)) .nil) .nil) 
  (.cons (.ite (.val (.cmp .LtE (.ix (.ix (.v 0) (.k (.int (1)))) (.k (.int (0)))) (.k (.int (0))))) 
   (.cons (.ret (.call 16 (.cons (.v 0) .nil))) .nil) .nil) 
  (.cons (.ret (.tup (.cons (.g 0) (.cons (.call 10 (.cons (.call 5 (.cons (.ix (.v 0) (.k (.int (0)))) .nil)) (.cons (.ix (.v 0) (.k (.int (1)))) .nil))) .nil)))) .nil)))
def fd_abs_stretch : FD := ⟨1, [], 1, ir_abs_stretch⟩
theorem ok_abs_stretch : OkSs ⟨["one"], defScope (top 35), tdat.tb, fun _ => true⟩ (defBody (top 35)) ir_abs_stretch := by
  have h : (cSs ⟨["one"], defScope (top 35), tdat.tb, fun _ => true⟩ 12 (defBody (top 35))).map (·.1) = some ir_abs_stretch := by kernel_rfl
  exact cSs_ok h
def ir_max_stretches : Ss := 
  (.cons (.ret (.tup (.cons (.call 10 (.cons (.ix (.v 0) (.k (.int (0)))) (.cons (.ix (.v 1) (.k (.int (0)))) .nil))) (.cons (.call 10 (.cons (.ix (.v 0) (.k (.int (1)))) (.cons (.ix (.v 1) (.k (.int (1)))) .nil))) .nil)))) .nil)
def fd_max_stretches : FD := ⟨2, [], 2, ir_max_stretches⟩
theorem ok_max_stretches : OkSs ⟨["one", "two"], defScope (top 36), tdat.tb, fun _ => true⟩ (defBody (top 36)) ir_max_stretches := by
  have h : (cSs ⟨["one", "two"], defScope (top 36), tdat.tb, fun _ => true⟩ 12 (defBody (top 36))).map (·.1) = some ir_max_stretches := by kernel_rfl
  exact cSs_ok h
def ir_min_stretches : Ss := 
  (.cons (.ret (.tup (.cons (.call 9 (.cons (.ix (.v 0) (.k (.int (0)))) (.cons (.ix (.v 1) (.k (.int (0)))) .nil))) (.cons (.call 9 (.cons (.ix (.v 0) (.k (.int (1)))) (.cons (.ix (.v 1) (.k (.int (1)))) .nil))) .nil)))) .nil)
def fd_min_stretches : FD := ⟨2, [], 2, ir_min_stretches⟩
theorem ok_min_stretches : OkSs ⟨["one", "two"], defScope (top 37), tdat.tb, fun _ => true⟩ (defBody (top 37)) ir_min_stretches := by
  have h : (cSs ⟨["one", "two"], defScope (top 37), tdat.tb, fun _ => true⟩ 12 (defBody (top 37))).map (·.1) = some ir_min_stretches := by kernel_rfl
  exact cSs_ok h
def ir_arguments : Ss := 
  (.cons (.ite (.or (.val (.cmp .Eq (.ix (.v 0) (.k (.int (0)))) (.k (.str "num")))) (.val (.cmp .Eq (.ix (.v 0) (.k (.int (0)))) (.k (.str "letter"))))) 
   (.cons (.ret (.tup .nil)) .nil) .nil) 
  (.cons (.ite (.or (.val (.cmp .Eq (.ix (.v 0) (.k (.int (0)))) (.k (.str "abs")))) (.val (.cmp .Eq (.ix (.v 0) (.k (.int (0)))) (.k (.str "pow"))))) 
   (.cons (.ret (.tup (.cons (.ix (.v 0) (.k (.int (1)))) .nil))) .nil) .nil) 
  (.cons (.ret (.tup (.cons (.ix (.v 0) (.k (.int (1)))) (.cons (.ix (.v 0) (.k (.int (2)))) .nil)))) .nil)))
def fd_arguments : FD := ⟨1, [], 1, ir_arguments⟩
theorem ok_arguments : OkSs ⟨["node"], defScope (top 39), tdat.tb, fun _ => true⟩ (defBody (top 39)) ir_arguments := by
  have h : (cSs ⟨["node"], defScope (top 39), tdat.tb, fun _ => true⟩ 12 (defBody (top 39))).map (·.1) = some ir_arguments := by kernel_rfl
  exact cSs_ok h
def ir_moved_node : Ss := 
  (.cons (.ite (.or (.val (.cmp .Eq (.ix (.v 0) (.k (.int (0)))) (.k (.str "num")))) (.val (.cmp .Eq (.ix (.v 0) (.k (.int (0)))) (.k (.str "letter"))))) 
   (.cons (.ret (.v 0)) .nil) .nil) 
  (.cons (.ite (.val (.cmp .Eq (.ix (.v 0) (.k (.int (0)))) (.k (.str "abs")))) 
   (.cons (.ret (.tup (.cons (.k (.str "abs")) (.cons (.ix (.v 1) (.ix (.v 0) (.k (.int (1))))) .nil)))) .nil) .nil) 
  (.cons (.ite (.val (.cmp .Eq (.ix (.v 0) (.k (.int (0)))) (.k (.str "pow")))) 
   (.cons (.ret (.tup (.cons (.k (.str "pow")) (.cons (.ix (.v 1) (.ix (.v 0) (.k (.int (1))))) (.cons (.ix (.v 0) (.k (.int (2)))) .nil))))) .nil) .nil) 
  (.cons (.ret (.tup (.cons (.ix (.v 0) (.k (.int (0)))) (.cons (.ix (.v 1) (.ix (.v 0) (.k (.int (1))))) (.cons (.ix (.v 1) (.ix (.v 0) (.k (.int (2))))) .nil))))) .nil))))
def fd_moved_node : FD := ⟨2, [], 2, ir_moved_node⟩
theorem ok_moved_node : OkSs ⟨["node", "places"], defScope (top 40), tdat.tb, fun _ => true⟩ (defBody (top 40)) ir_moved_node := by
  have h : (cSs ⟨["node", "places"], defScope (top 40), tdat.tb, fun _ => true⟩ 12 (defBody (top 40))).map (·.1) = some ir_moved_node := by kernel_rfl
  exact cSs_ok h
def ir_combine : Ss := 
  (.cons (.ite (.val (.cmp .Eq (.v 0) (.k (.str "add")))) 
   (.cons (.ret (.call 1 (.cons (.v 1) (.cons (.v 2) .nil)))) .nil) .nil) 
  (.cons (.ite (.val (.cmp .Eq (.v 0) (.k (.str "sub")))) 
   (.cons (.ret (.call 2 (.cons (.v 1) (.cons (.v 2) .nil)))) .nil) .nil) 
  (.cons (.ite (.val (.cmp .Eq (.v 0) (.k (.str "mul")))) 
   (.cons (.ret (.call 3 (.cons (.v 1) (.cons (.v 2) .nil)))) .nil) .nil) 
  (.cons (.ite (.val (.cmp .Eq (.v 0) (.k (.str "div")))) 
   (.cons (.ret (.call 4 (.cons (.v 1) (.cons (.v 2) .nil)))) .nil) .nil) 
  (.cons (.ite (.val (.cmp .Eq (.v 0) (.k (.str "max")))) 
   (.cons (.ret (.call 10 (.cons (.v 1) (.cons (.v 2) .nil)))) .nil) .nil) 
  (.cons (.ret (.call 9 (.cons (.v 1) (.cons (.v 2) .nil)))) .nil))))))
def fd_combine : FD := ⟨3, [], 3, ir_combine⟩
theorem ok_combine : OkSs ⟨["kind", "one", "two"], defScope (top 41), tdat.tb, fun _ => true⟩ (defBody (top 41)) ir_combine := by
  have h : (cSs ⟨["kind", "one", "two"], defScope (top 41), tdat.tb, fun _ => true⟩ 12 (defBody (top 41))).map (·.1) = some ir_combine := by kernel_rfl
  exact cSs_ok h
def ir_node_worth : Ss := 
  (.cons (.ite (.val (.cmp .Eq (.ix (.v 0) (.k (.int (0)))) (.k (.str "num")))) 
   (.cons (.ret (.ix (.v 0) (.k (.int (1))))) .nil) .nil) 
  (.cons (.ite (.val (.cmp .Eq (.ix (.v 0) (.k (.int (0)))) (.k (.str "letter")))) 
   (.cons (.ret (.ix (.v 2) (.ix (.v 0) (.k (.int (1)))))) .nil) .nil) 
  (.cons (.ite (.val (.cmp .Eq (.ix (.v 0) (.k (.int (0)))) (.k (.str "abs")))) 
   (.cons (.ret (.call 6 (.cons (.ix (.v 1) (.ix (.v 0) (.k (.int (1))))) .nil))) .nil) .nil) 
  (.cons (.ite (.val (.cmp .Eq (.ix (.v 0) (.k (.int (0)))) (.k (.str "pow")))) 
   (.cons (.ret (.call 7 (.cons (.ix (.v 1) (.ix (.v 0) (.k (.int (1))))) (.cons (.ix (.v 0) (.k (.int (2)))) .nil)))) .nil) .nil) 
  (.cons (.ret (.call 26 (.cons (.ix (.v 0) (.k (.int (0)))) (.cons (.ix (.v 1) (.ix (.v 0) (.k (.int (1))))) (.cons (.ix (.v 1) (.ix (.v 0) (.k (.int (2))))) .nil))))) .nil)))))
def fd_node_worth : FD := ⟨3, [], 3, ir_node_worth⟩
theorem ok_node_worth : OkSs ⟨["node", "found", "point"], defScope (top 42), tdat.tb, fun _ => true⟩ (defBody (top 42)) ir_node_worth := by
  have h : (cSs ⟨["node", "found", "point"], defScope (top 42), tdat.tb, fun _ => true⟩ 12 (defBody (top 42))).map (·.1) = some ir_node_worth := by kernel_rfl
  exact cSs_ok h
def ir_combine_stretches : Ss := 
  (.cons (.ite (.val (.cmp .Eq (.v 0) (.k (.str "add")))) 
   (.cons (.ret (.call 14 (.cons (.v 1) (.cons (.v 2) .nil)))) .nil) .nil) 
  (.cons (.ite (.val (.cmp .Eq (.v 0) (.k (.str "sub")))) 
   (.cons (.ret (.call 15 (.cons (.v 1) (.cons (.v 2) .nil)))) .nil) .nil) 
  (.cons (.ite (.val (.cmp .Eq (.v 0) (.k (.str "mul")))) 
   (.cons (.ret (.call 17 (.cons (.v 1) (.cons (.v 2) .nil)))) .nil) .nil) 
  (.cons (.ite (.val (.cmp .Eq (.v 0) (.k (.str "div")))) 
   (.cons (.ret (.call 19 (.cons (.v 1) (.cons (.v 2) .nil)))) .nil) .nil) 
  (.cons (.ite (.val (.cmp .Eq (.v 0) (.k (.str "max")))) 
   (.cons (.ret (.call 22 (.cons (.v 1) (.cons (.v 2) .nil)))) .nil) .nil) 
  (.cons (.ret (.call 23 (.cons (.v 1) (.cons (.v 2) .nil)))) .nil))))))
def fd_combine_stretches : FD := ⟨3, [], 3, ir_combine_stretches⟩
theorem ok_combine_stretches : OkSs ⟨["kind", "one", "two"], defScope (top 43), tdat.tb, fun _ => true⟩ (defBody (top 43)) ir_combine_stretches := by
  have h : (cSs ⟨["kind", "one", "two"], defScope (top 43), tdat.tb, fun _ => true⟩ 12 (defBody (top 43))).map (·.1) = some ir_combine_stretches := by kernel_rfl
  exact cSs_ok h
def ir_node_range : Ss := 
  (.cons (.ite (.val (.cmp .Eq (.ix (.v 0) (.k (.int (0)))) (.k (.str "num")))) 
   (.cons (.ret (.call 13 (.cons (.ix (.v 0) (.k (.int (1)))) .nil))) .nil) .nil) 
  (.cons (.ite (.val (.cmp .Eq (.ix (.v 0) (.k (.int (0)))) (.k (.str "letter")))) 
   (.cons (.ret (.ix (.v 2) (.ix (.v 0) (.k (.int (1)))))) .nil) .nil) 
  (.cons (.ite (.val (.cmp .Eq (.ix (.v 0) (.k (.int (0)))) (.k (.str "abs")))) 
   (.cons (.ret (.call 21 (.cons (.ix (.v 1) (.ix (.v 0) (.k (.int (1))))) .nil))) .nil) .nil) 
  (.cons (.ite (.val (.cmp .Eq (.ix (.v 0) (.k (.int (0)))) (.k (.str "pow")))) 
   (.cons (.ret (.call 20 (.cons (.ix (.v 1) (.ix (.v 0) (.k (.int (1))))) (.cons (.ix (.v 0) (.k (.int (2)))) .nil)))) .nil) .nil) 
  (.cons (.ret (.call 28 (.cons (.ix (.v 0) (.k (.int (0)))) (.cons (.ix (.v 1) (.ix (.v 0) (.k (.int (1))))) (.cons (.ix (.v 1) (.ix (.v 0) (.k (.int (2))))) .nil))))) .nil)))))
def fd_node_range : FD := ⟨3, [], 3, ir_node_range⟩
theorem ok_node_range : OkSs ⟨["node", "found", "box"], defScope (top 44), tdat.tb, fun _ => true⟩ (defBody (top 44)) ir_node_range := by
  have h : (cSs ⟨["node", "found", "box"], defScope (top 44), tdat.tb, fun _ => true⟩ 12 (defBody (top 44))).map (·.1) = some ir_node_range := by kernel_rfl
  exact cSs_ok h
def ir_node_weight : Ss := 
  (.cons (.ite (.or (.val (.cmp .Eq (.ix (.v 0) (.k (.int (0)))) (.k (.str "num")))) (.val (.cmp .Eq (.ix (.v 0) (.k (.int (0)))) (.k (.str "letter"))))) 
   (.cons (.ret (.k (.int (1)))) .nil) .nil) 
  (.cons (.ite (.val (.cmp .Eq (.ix (.v 0) (.k (.int (0)))) (.k (.str "abs")))) 
   (.cons (.ret (.bin .Add (.ix (.v 1) (.ix (.v 0) (.k (.int (1))))) (.k (.int (1))))) .nil) .nil) 
  (.cons (.ite (.val (.cmp .Eq (.ix (.v 0) (.k (.int (0)))) (.k (.str "pow")))) 
   (.cons (.ret (.bin .Mult (.ix (.v 1) (.ix (.v 0) (.k (.int (1))))) (.ix (.v 0) (.k (.int (2)))))) .nil) .nil) 
  (.cons (.ret (.bin .Add (.ix (.v 1) (.ix (.v 0) (.k (.int (1))))) (.ix (.v 1) (.ix (.v 0) (.k (.int (2))))))) .nil))))
def fd_node_weight : FD := ⟨2, [], 2, ir_node_weight⟩
theorem ok_node_weight : OkSs ⟨["node", "found"], defScope (top 45), tdat.tb, fun _ => true⟩ (defBody (top 45)) ir_node_weight := by
  have h : (cSs ⟨["node", "found"], defScope (top 45), tdat.tb, fun _ => true⟩ 12 (defBody (top 45))).map (·.1) = some ir_node_weight := by kernel_rfl
  exact cSs_ok h
def ir_valid_name : Ss := 
  (.cons (.ite (.or (.val (.cmp .Eq (.v 0) (.k (.str "")))) (.or (.val (.cmp .Gt (.blt .len (.cons (.v 0) .nil)) (.k (.int (12))))) (.or (.val (.cmp .In (.v 0) (.g 2))) (.val (.cmp .NotIn (.ix (.v 0) (.k (.int (0)))) (.g 3)))))) 
   (.cons (.ret (.k (.bl false))) .nil) .nil) 
  (.cons (.for (.one 1) (.seq (.v 0)) 
   (.cons (.ite (.val (.cmp .NotIn (.v 1) (.g 4))) 
    (.cons (.ret (.k (.bl false))) .nil) .nil) .nil)) 
  (.cons (.ret (.k (.bl true))) .nil)))
def fd_valid_name : FD := ⟨1, [], 2, ir_valid_name⟩
theorem ok_valid_name : OkSs ⟨["name", "sign"], defScope (top 51), tdat.tb, fun _ => true⟩ (defBody (top 51)) ir_valid_name := by
  have h : (cSs ⟨["name", "sign"], defScope (top 51), tdat.tb, fun _ => true⟩ 12 (defBody (top 51))).map (·.1) = some ir_valid_name := by kernel_rfl
  exact cSs_ok h
def ir_Problemu_initu : Ss := 
  (.cons (.asg (.fld (.v 0) 0) (.v 1)) 
  (.cons (.asg (.fld (.v 0) 1) (.v 2)) 
  (.cons (.asg (.fld (.v 0) 2) (.v 3)) 
  (.cons (.asg (.fld (.v 0) 3) (.v 4)) 
  (.cons (.asg (.fld (.v 0) 4) (.v 5)) .nil)))))
def fd_Problemu_initu : FD := ⟨6, [], 6, ir_Problemu_initu⟩
theorem ok_Problemu_initu : OkSs ⟨["self", "letters", "nodes", "ranges", "conditions", "goal"], defScope (mtd 52 0), tdat.tb, fun _ => true⟩ (defBody (mtd 52 0)) ir_Problemu_initu := by
  have h : (cSs ⟨["self", "letters", "nodes", "ranges", "conditions", "goal"], defScope (mtd 52 0), tdat.tb, fun _ => true⟩ 12 (defBody (mtd 52 0))).map (·.1) = some ir_Problemu_initu := by kernel_rfl
  exact cSs_ok h
def ir_Builderu_initu : Ss := 
  (.cons (.asg (.fld (.v 0) 0) (.lst .nil)) 
  (.cons (.asg (.fld (.v 0) 1) (.lst .nil)) 
  (.cons (.asg (.fld (.v 0) 2) (.lst .nil)) 
  (.cons (.asg (.fld (.v 0) 9) (.lst .nil)) 
  (.cons (.asg (.fld (.v 0) 3) (.lst .nil)) 
  (.cons (.asg (.fld (.v 0) 4) (.k (.non))) 
  (.cons (.asg (.fld (.v 0) 10) (.dic true)) .nil)))))))
def fd_Builderu_initu : FD := ⟨1, [], 1, ir_Builderu_initu⟩
theorem ok_Builderu_initu : OkSs ⟨["self"], defScope (mtd 53 4), tdat.tb, fun _ => true⟩ (defBody (mtd 53 4)) ir_Builderu_initu := by
  have h : (cSs ⟨["self"], defScope (mtd 53 4), tdat.tb, fun _ => true⟩ 12 (defBody (mtd 53 4))).map (·.1) = some ir_Builderu_initu := by kernel_rfl
  exact cSs_ok h
def ir_Builder_letter : Ss := 
  (.cons (.ite (.or (.not (.val (.call 31 (.cons (.v 1) .nil)))) (.val (.cmp .In (.v 1) (.lc [5] (.ix (.v 5) (.k (.int (0)))) (.one 5) (.seq (.fld (.v 0) 0)) .yes)))) 
   (.cons .fail .nil) .nil) 
  (.cons (.ite (.not (.val (.call 8 (.cons (.v 3) (.cons (.v 4) .nil))))) 
   (.cons .fail .nil) .nil) 
  (.cons (.ite (.val (.cmp .Eq (.v 2) (.k (.str "whole")))) 
   (.cons (.asg (.g (.one 3)) (.tup (.cons (.call 12 (.cons (.v 3) .nil)) (.cons (.k (.int (1))) .nil)))) 
   (.cons (.asg (.g (.one 4)) (.tup (.cons (.call 11 (.cons (.v 4) .nil)) (.cons (.k (.int (1))) .nil)))) 
   (.cons (.ite (.not (.val (.call 8 (.cons (.v 3) (.cons (.v 4) .nil))))) 
    (.cons .fail .nil) .nil) .nil))) .nil) 
  (.cons (.ite (.or (.val (.call 42 (.cons (.v 3) .nil))) (.val (.call 42 (.cons (.v 4) .nil)))) 
   (.cons .fail .nil) .nil) 
  (.cons (.ite (.val (.cmp .GtE (.blt .len (.cons (.fld (.v 0) 0) .nil)) (.fld (.v 0) 5))) 
   (.cons .fail .nil) .nil) 
  (.cons (.expr (.bm (.fld (.v 0) 0) .append (.cons (.tup (.cons (.v 1) (.cons (.v 2) (.cons (.v 3) (.cons (.v 4) .nil))))) .nil))) 
  (.cons (.ret (.meth (.v 0) 14 (.cons (.tup (.cons (.k (.str "letter")) (.cons (.bin .Sub (.blt .len (.cons (.fld (.v 0) 0) .nil)) (.k (.int (1)))) .nil))) .nil))) .nil)))))))
def fd_Builder_letter : FD := ⟨5, [], 6, ir_Builder_letter⟩
theorem ok_Builder_letter : OkSs ⟨["self", "name", "kind", "low", "high", "row"], defScope (mtd 53 5), tdat.tb, fun _ => true⟩ (defBody (mtd 53 5)) ir_Builder_letter := by
  have h : (cSs ⟨["self", "name", "kind", "low", "high", "row"], defScope (mtd 53 5), tdat.tb, fun _ => true⟩ 12 (defBody (mtd 53 5))).map (·.1) = some ir_Builder_letter := by kernel_rfl
  exact cSs_ok h
def ir_Builder_number : Ss := 
  (.cons (.ite (.val (.call 42 (.cons (.v 1) .nil))) 
   (.cons .fail .nil) .nil) 
  (.cons (.ret (.meth (.v 0) 14 (.cons (.tup (.cons (.k (.str "num")) (.cons (.v 1) .nil))) .nil))) .nil))
def fd_Builder_number : FD := ⟨2, [], 2, ir_Builder_number⟩
theorem ok_Builder_number : OkSs ⟨["self", "value"], defScope (mtd 53 6), tdat.tb, fun _ => true⟩ (defBody (mtd 53 6)) ir_Builder_number := by
  have h : (cSs ⟨["self", "value"], defScope (mtd 53 6), tdat.tb, fun _ => true⟩ 12 (defBody (mtd 53 6))).map (·.1) = some ir_Builder_number := by kernel_rfl
  exact cSs_ok h
def ir_Builder_node : Ss := 
  (.cons (.ite (.and (.val (.cmp .Eq (.v 1) (.k (.str "pow")))) (.not (.val (.cmp2 .LtE .LtE (.k (.int (2))) (.v 3) (.k (.int (6))))))) 
   (.cons .fail .nil) .nil) 
  (.cons (.ite (.and (.val (.cmp .Eq (.v 1) (.k (.str "div")))) (.val (.call 18 (.cons (.ix (.fld (.v 0) 2) (.v 3)) .nil)))) 
   (.cons .fail .nil) .nil) 
  (.cons (.ite (.val (.cmp .Eq (.v 1) (.k (.str "abs")))) 
   (.cons (.asg (.g (.one 5)) (.tup (.cons (.k (.str "abs")) (.cons (.v 2) .nil)))) .nil) 
   (.cons (.ite (.and (.val (.cmp .Eq (.v 1) (.k (.str "mul")))) (.val (.cmp .Eq (.v 2) (.v 3)))) 
    (.cons (.asg (.g (.one 5)) (.tup (.cons (.k (.str "pow")) (.cons (.v 2) (.cons (.k (.int (2))) .nil))))) .nil) 
    (.cons (.asg (.g (.one 5)) (.tup (.cons (.v 1) (.cons (.v 2) (.cons (.v 3) .nil))))) .nil)) .nil)) 
  (.cons (.asg (.g (.one 4)) (.call 24 (.cons (.v 5) .nil))) 
  (.cons (.ite (.val (.blt .all (.cons (.lc [7] (.cmp .Eq (.ix (.ix (.fld (.v 0) 1) (.v 7)) (.k (.int (0)))) (.k (.str "num"))) (.one 7) (.seq (.v 4)) .yes) .nil))) 
   (.cons (.asg (.g (.one 6)) (.dc [7] (.v 7) (.ix (.ix (.fld (.v 0) 1) (.v 7)) (.k (.int (1)))) (.one 7) (.seq (.v 4)) .yes)) 
   (.cons (.ret (.meth (.v 0) 12 (.cons (.call 27 (.cons (.v 5) (.cons (.v 6) (.cons (.tup .nil) .nil)))) .nil))) .nil)) .nil) 
  (.cons (.ret (.meth (.v 0) 14 (.cons (.v 5) .nil))) .nil))))))
def fd_Builder_node : FD := ⟨4, [.non], 8, ir_Builder_node⟩
theorem ok_Builder_node : OkSs ⟨["self", "kind", "one", "two", "parts", "found", "worths_here", "part"], defScope (mtd 53 7), tdat.tb, fun _ => true⟩ (defBody (mtd 53 7)) ir_Builder_node := by
  have h : (cSs ⟨["self", "kind", "one", "two", "parts", "found", "worths_here", "part"], defScope (mtd 53 7), tdat.tb, fun _ => true⟩ 12 (defBody (mtd 53 7))).map (·.1) = some ir_Builder_node := by kernel_rfl
  exact cSs_ok h
def ir_Builderuplace : Ss := 
  (.cons (.ite (.val (.cmp .In (.v 1) (.fld (.v 0) 10))) 
   (.cons (.ret (.ix (.fld (.v 0) 10) (.v 1))) .nil) .nil) 
  (.cons (.asg (.g (.one 2)) (.call 30 (.cons (.v 1) (.cons (.fld (.v 0) 9) .nil)))) 
  (.cons (.ite (.val (.cmp .Gt (.v 2) (.fld (.v 0) 8))) 
   (.cons .fail .nil) .nil) 
  (.cons (.asg (.g (.one 3)) (.lc [4] (.tup (.cons (.ix (.v 4) (.k (.int (2)))) (.cons (.ix (.v 4) (.k (.int (3)))) .nil))) (.one 4) (.seq (.fld (.v 0) 0)) .yes)) 
  (.cons (.expr (.bm (.fld (.v 0) 2) .append (.cons (.call 29 (.cons (.v 1) (.cons (.fld (.v 0) 2) (.cons (.v 3) .nil)))) .nil))) 
  (.cons (.expr (.bm (.fld (.v 0) 9) .append (.cons (.v 2) .nil))) 
  (.cons (.expr (.bm (.fld (.v 0) 1) .append (.cons (.v 1) .nil))) 
  (.cons (.asg (.sub (.fld (.v 0) 10) (.v 1)) (.bin .Sub (.blt .len (.cons (.fld (.v 0) 1) .nil)) (.k (.int (1))))) 
  (.cons (.ret (.bin .Sub (.blt .len (.cons (.fld (.v 0) 1) .nil)) (.k (.int (1))))) .nil)))))))))
def fd_Builderuplace : FD := ⟨2, [], 5, ir_Builderuplace⟩
theorem ok_Builderuplace : OkSs ⟨["self", "node", "weight", "box", "row"], defScope (mtd 53 8), tdat.tb, fun _ => true⟩ (defBody (mtd 53 8)) ir_Builderuplace := by
  have h : (cSs ⟨["self", "node", "weight", "box", "row"], defScope (mtd 53 8), tdat.tb, fun _ => true⟩ 12 (defBody (mtd 53 8))).map (·.1) = some ir_Builderuplace := by kernel_rfl
  exact cSs_ok h
def ir_Builder_keep : Ss := 
  (.cons (.ite (.val (.cmp .GtE (.blt .len (.cons (.fld (.v 0) 3) .nil)) (.fld (.v 0) 7))) 
   (.cons .fail .nil) .nil) 
  (.cons (.expr (.bm (.fld (.v 0) 3) .append (.cons (.v 1) .nil))) .nil))
def fd_Builder_keep : FD := ⟨2, [], 2, ir_Builder_keep⟩
theorem ok_Builder_keep : OkSs ⟨["self", "node"], defScope (mtd 53 9), tdat.tb, fun _ => true⟩ (defBody (mtd 53 9)) ir_Builder_keep := by
  have h : (cSs ⟨["self", "node"], defScope (mtd 53 9), tdat.tb, fun _ => true⟩ 12 (defBody (mtd 53 9))).map (·.1) = some ir_Builder_keep := by kernel_rfl
  exact cSs_ok h
def ir_Builder_least : Ss := 
  (.cons (.asg (.fld (.v 0) 4) (.v 1)) .nil)
def fd_Builder_least : FD := ⟨2, [], 2, ir_Builder_least⟩
theorem ok_Builder_least : OkSs ⟨["self", "node"], defScope (mtd 53 10), tdat.tb, fun _ => true⟩ (defBody (mtd 53 10)) ir_Builder_least := by
  have h : (cSs ⟨["self", "node"], defScope (mtd 53 10), tdat.tb, fun _ => true⟩ 12 (defBody (mtd 53 10))).map (·.1) = some ir_Builder_least := by kernel_rfl
  exact cSs_ok h
def ir_Builder_problem : Ss := 
  (.cons (.ite (.val (.cmp .Is (.fld (.v 0) 4) (.k (.non)))) 
   (.cons .fail .nil) .nil) 
  (.cons (.asg (.g (.one 1)) (.meth (.v 0) 18 .nil)) 
  (.cons (.ite (.val (.cmp .Gt (.blt .len (.cons (.v 1) .nil)) (.fld (.v 0) 6))) 
   (.cons .fail .nil) .nil) 
  (.cons (.asg (.g (.one 2)) (.dc [6] (.ix (.v 1) (.v 6)) (.v 6) (.one 6) (.rng (.cons (.blt .len (.cons (.v 1) .nil)) .nil)) .yes)) 
  (.cons (.asg (.g (.one 3)) (.blt .tuple (.cons (.lc [7] (.call 25 (.cons (.ix (.fld (.v 0) 1) (.v 7)) (.cons (.v 2) .nil))) (.one 7) (.seq (.v 1)) .yes) .nil))) 
  (.cons (.asg (.g (.one 4)) (.blt .tuple (.cons (.lc [7] (.ix (.fld (.v 0) 2) (.v 7)) (.one 7) (.seq (.v 1)) .yes) .nil))) 
  (.cons (.asg (.g (.one 5)) (.blt .tuple (.cons (.lc [7] (.ix (.v 2) (.v 7)) (.one 7) (.seq (.fld (.v 0) 3)) .yes) .nil))) 
  (.cons (.ret (.new 0 (.cons (.blt .tuple (.cons (.fld (.v 0) 0) .nil)) (.cons (.v 3) (.cons (.v 4) (.cons (.v 5) (.cons (.ix (.v 2) (.fld (.v 0) 4)) .nil))))))) .nil))))))))
def fd_Builder_problem : FD := ⟨1, [], 8, ir_Builder_problem⟩
theorem ok_Builder_problem : OkSs ⟨["self", "order", "places", "nodes", "ranges", "conditions", "k", "at"], defScope (mtd 53 11), tdat.tb, fun _ => true⟩ (defBody (mtd 53 11)) ir_Builder_problem := by
  have h : (cSs ⟨["self", "order", "places", "nodes", "ranges", "conditions", "k", "at"], defScope (mtd 53 11), tdat.tb, fun _ => true⟩ 12 (defBody (mtd 53 11))).map (·.1) = some ir_Builder_problem := by kernel_rfl
  exact cSs_ok h
def ir_Builderuorder : Ss := 
  (.cons (.asg (.g (.one 1)) (.lc [5] (.ix (.fld (.v 0) 10) (.tup (.cons (.k (.str "letter")) (.cons (.v 5) .nil)))) (.one 5) (.rng (.cons (.blt .len (.cons (.fld (.v 0) 0) .nil)) .nil)) .yes)) 
  (.cons (.asg (.g (.one 2)) (.dc [6] (.v 6) (.k (.bl true)) (.one 6) (.seq (.v 1)) .yes)) 
  (.cons (.for (.one 3) (.seq (.bin .Add (.fld (.v 0) 3) (.lst (.cons (.fld (.v 0) 4) .nil)))) 
   (.cons (.asg (.g (.one 4)) (.lst (.cons (.v 3) .nil))) 
   (.cons (.whl (.val (.v 4)) 
    (.cons (.asg (.g (.one 6)) (.ix (.v 4) (.neg (.k (.int (1)))))) 
    (.cons (.asg (.g (.one 7)) (.lc [8] (.v 8) (.one 8) (.seq (.call 24 (.cons (.ix (.fld (.v 0) 1) (.v 6)) .nil))) (.val (.cmp .NotIn (.v 8) (.v 2))))) 
    (.cons (.ite (.val (.v 7)) 
     (.cons (.expr (.bm (.v 4) .append (.cons (.ix (.v 7) (.k (.int (0)))) .nil))) 
     (.cons .cont .nil)) .nil) 
    (.cons (.expr (.bm (.v 4) .pop .nil)) 
    (.cons (.ite (.val (.cmp .NotIn (.v 6) (.v 2))) 
     (.cons (.asg (.sub (.v 2) (.v 6)) (.k (.bl true))) 
     (.cons (.expr (.bm (.v 1) .append (.cons (.v 6) .nil))) .nil)) .nil) .nil)))))) .nil))) 
  (.cons (.ret (.v 1)) .nil))))
def fd_Builderuorder : FD := ⟨1, [], 9, ir_Builderuorder⟩
theorem ok_Builderuorder : OkSs ⟨["self", "order", "done", "root_node", "waiting", "k", "at", "open_parts", "part"], defScope (mtd 53 12), tdat.tb, fun _ => true⟩ (defBody (mtd 53 12)) ir_Builderuorder := by
  have h : (cSs ⟨["self", "order", "done", "root_node", "waiting", "k", "at", "open_parts", "part"], defScope (mtd 53 12), tdat.tb, fun _ => true⟩ 12 (defBody (mtd 53 12))).map (·.1) = some ir_Builderuorder := by kernel_rfl
  exact cSs_ok h
def ir_too_long : Ss := 
  (.cons (.ret (.or (.cmp .GtE (.blt .abs (.cons (.ix (.v 0) (.k (.int (0)))) .nil)) (.g 5)) (.cmp .GtE (.ix (.v 0) (.k (.int (1)))) (.g 5)))) .nil)
def fd_too_long : FD := ⟨1, [], 1, ir_too_long⟩
theorem ok_too_long : OkSs ⟨["value"], defScope (top 54), tdat.tb, fun _ => true⟩ (defBody (top 54)) ir_too_long := by
  have h : (cSs ⟨["value"], defScope (top 54), tdat.tb, fun _ => true⟩ 12 (defBody (top 54))).map (·.1) = some ir_too_long := by kernel_rfl
  exact cSs_ok h
def ir_worths : Ss := 
  (.cons (.asg (.g (.one 2)) (.lst .nil)) 
  (.cons (.for (.one 3) (.seq (.fld (.v 0) 1)) 
   (.cons (.expr (.bm (.v 2) .append (.cons (.call 27 (.cons (.v 3) (.cons (.v 2) (.cons (.v 1) .nil)))) .nil))) .nil)) 
  (.cons (.ret (.blt .tuple (.cons (.v 2) .nil))) .nil)))
def fd_worths : FD := ⟨2, [], 4, ir_worths⟩
theorem ok_worths : OkSs ⟨["problem", "point", "found", "node"], defScope (top 55), tdat.tb, fun _ => true⟩ (defBody (top 55)) ir_worths := by
  have h : (cSs ⟨["problem", "point", "found", "node"], defScope (top 55), tdat.tb, fun _ => true⟩ 12 (defBody (top 55))).map (·.1) = some ir_worths := by kernel_rfl
  exact cSs_ok h
def ir_uses : Ss := 
  (.cons (.asg (.g (.one 1)) (.lst .nil)) 
  (.cons (.for (.one 2) (.seq (.fld (.v 0) 1)) 
   (.cons (.ite (.val (.cmp .Eq (.ix (.v 2) (.k (.int (0)))) (.k (.str "letter")))) 
    (.cons (.expr (.bm (.v 1) .append (.cons (.tup (.cons (.ix (.v 2) (.k (.int (1)))) .nil)) .nil))) .nil) 
    (.cons (.asg (.g (.one 3)) (.dic false)) 
    (.cons (.for (.one 4) (.seq (.call 24 (.cons (.v 2) .nil))) 
     (.cons (.for (.one 5) (.seq (.ix (.v 1) (.v 4))) 
      (.cons (.asg (.sub (.v 3) (.v 5)) (.k (.bl true))) .nil)) .nil)) 
    (.cons (.expr (.bm (.v 1) .append (.cons (.blt .tuple (.cons (.blt .sorted (.cons (.v 3) .nil)) .nil)) .nil))) .nil)))) .nil)) 
  (.cons (.ret (.blt .tuple (.cons (.v 1) .nil))) .nil)))
def fd_uses : FD := ⟨1, [], 6, ir_uses⟩
theorem ok_uses : OkSs ⟨["problem", "found", "node", "inner", "part", "k"], defScope (top 56), tdat.tb, fun _ => true⟩ (defBody (top 56)) ir_uses := by
  have h : (cSs ⟨["problem", "found", "node", "inner", "part", "k"], defScope (top 56), tdat.tb, fun _ => true⟩ 12 (defBody (top 56))).map (·.1) = some ir_uses := by kernel_rfl
  exact cSs_ok h
def ir_problem_key : Ss := 
  (.cons (.ret (.tup (.cons (.fld (.v 0) 0) (.cons (.fld (.v 0) 1) (.cons (.fld (.v 0) 3) (.cons (.fld (.v 0) 4) .nil)))))) .nil)
def fd_problem_key : FD := ⟨1, [], 1, ir_problem_key⟩
theorem ok_problem_key : OkSs ⟨["problem"], defScope (top 57), tdat.tb, fun _ => true⟩ (defBody (top 57)) ir_problem_key := by
  have h : (cSs ⟨["problem"], defScope (top 57), tdat.tb, fun _ => true⟩ 12 (defBody (top 57))).map (·.1) = some ir_problem_key := by kernel_rfl
  exact cSs_ok h
def ir__law_jar : Ss := 
  (.cons (.asg (.g (.one 1)) (.lc [3] (.v 3) (.one 3) (.seq (.sl (.v 0) .none (.some (.k (.int (63)))))) (.val (.cmp .GtE (.v 3) (.bin .Pow (.k (.int (10))) (.k (.int (18)))))))) 
  (.cons (.asg (.g (.one 2)) (.k (.int (7)))) 
  (.cons (.for (.one 3) (.seq (.sl (.v 0) .none (.some (.k (.int (63)))))) 
   (.cons (.asg (.g (.one 2)) (.bin .Mod (.bin .Add (.bin .Add (.bin .Mult (.v 2) (.k (.int (48271)))) (.bin .Mod (.blt .int (.cons (.v 3) .nil)) (.k (.int (2147483629))))) (.k (.int (11)))) (.k (.int (2147483647))))) .nil)) 
  (.cons (.ret (.lst (.cons (.v 1) (.cons (.k (.int (0))) (.cons (.v 2) (.cons (.k (.int (0))) .nil)))))) .nil))))
def fd__law_jar : FD := ⟨1, [], 4, ir__law_jar⟩
theorem ok__law_jar : OkSs ⟨["script", "great", "mix", "cell"], defScope (top 59), tdat.tb, fun _ => true⟩ (defBody (top 59)) ir__law_jar := by
  have h : (cSs ⟨["script", "great", "mix", "cell"], defScope (top 59), tdat.tb, fun _ => true⟩ 12 (defBody (top 59))).map (·.1) = some ir__law_jar := by kernel_rfl
  exact cSs_ok h
def ir__law_draw : Ss := 
  (.cons (.ite (.and (.val (.cmp .Eq (.ix (.v 0) (.k (.int (1)))) (.k (.int (0))))) (.val (.cmp .Gt (.blt .len (.cons (.ix (.v 0) (.k (.int (0)))) .nil)) (.k (.int (0)))))) 
   (.cons (.asg (.sub (.v 0) (.k (.int (1)))) (.bm (.ix (.v 0) (.k (.int (0)))) .popAt (.cons (.k (.int (0))) .nil))) .nil) .nil) 
  (.cons (.ite (.val (.cmp .Gt (.ix (.v 0) (.k (.int (1)))) (.k (.int (0))))) 
   (.cons (.asg (.g (.one 2)) (.bin .Mod (.blt .int (.cons (.ix (.v 0) (.k (.int (1)))) .nil)) (.v 1))) 
   (.cons (.asg (.sub (.v 0) (.k (.int (1)))) (.bin .FloorDiv (.ix (.v 0) (.k (.int (1)))) (.v 1))) 
   (.cons (.ret (.v 2)) .nil))) .nil) 
  (.cons (.asg (.sub (.v 0) (.k (.int (3)))) (.bin .Add (.ix (.v 0) (.k (.int (3)))) (.k (.int (1))))) 
  (.cons (.asg (.sub (.v 0) (.k (.int (2)))) (.bin .Mod (.bin .Add (.bin .Add (.bin .Mult (.ix (.v 0) (.k (.int (2)))) (.k (.int (48271)))) (.bin .Mult (.ix (.v 0) (.k (.int (3)))) (.k (.int (69621))))) (.k (.int (1)))) (.k (.int (2147483647))))) 
  (.cons (.ret (.bin .Mod (.bin .FloorDiv (.ix (.v 0) (.k (.int (2)))) (.k (.int (8)))) (.v 1))) .nil)))))
def fd__law_draw : FD := ⟨2, [], 3, ir__law_draw⟩
theorem ok__law_draw : OkSs ⟨["jar", "many", "digit"], defScope (top 60), tdat.tb, fun _ => true⟩ (defBody (top 60)) ir__law_draw := by
  have h : (cSs ⟨["jar", "many", "digit"], defScope (top 60), tdat.tb, fun _ => true⟩ 12 (defBody (top 60))).map (·.1) = some ir__law_draw := by kernel_rfl
  exact cSs_ok h
def ir__law_low : Ss := 
  (.cons (.asg (.g (.one 2)) (.blt .abs (.cons (.v 0) .nil))) 
  (.cons (.asg (.g (.one 3)) (.blt .abs (.cons (.v 1) .nil))) 
  (.cons (.whl (.val (.cmp .Gt (.v 3) (.k (.int (0))))) 
   (.cons (.par 2 3 (.v 3) (.bin .Mod (.blt .int (.cons (.v 2) .nil)) (.v 3))) .nil)) 
  (.cons (.ite (.val (.cmp .Lt (.v 1) (.k (.int (0))))) 
   (.cons (.asg (.g (.one 2)) (.neg (.v 2))) .nil) .nil) 
  (.cons (.ret (.tup (.cons (.bin .FloorDiv (.v 0) (.v 2)) (.cons (.bin .FloorDiv (.v 1) (.v 2)) .nil)))) .nil)))))
def fd__law_low : FD := ⟨2, [], 4, ir__law_low⟩
theorem ok__law_low : OkSs ⟨["top", "bottom", "a", "b"], defScope (top 61), tdat.tb, fun _ => true⟩ (defBody (top 61)) ir__law_low := by
  have h : (cSs ⟨["top", "bottom", "a", "b"], defScope (top 61), tdat.tb, fun _ => true⟩ 12 (defBody (top 61))).map (·.1) = some ir__law_low := by kernel_rfl
  exact cSs_ok h
def ir__law_less : Ss := 
  (.cons (.ret (.cmp .Lt (.bin .Mult (.ix (.v 0) (.k (.int (0)))) (.ix (.v 1) (.k (.int (1))))) (.bin .Mult (.ix (.v 1) (.k (.int (0)))) (.ix (.v 0) (.k (.int (1))))))) .nil)
def fd__law_less : FD := ⟨2, [], 2, ir__law_less⟩
theorem ok__law_less : OkSs ⟨["one", "two"], defScope (top 62), tdat.tb, fun _ => true⟩ (defBody (top 62)) ir__law_less := by
  have h : (cSs ⟨["one", "two"], defScope (top 62), tdat.tb, fun _ => true⟩ 12 (defBody (top 62))).map (·.1) = some ir__law_less := by kernel_rfl
  exact cSs_ok h
def ir__law_apply : Ss := 
  (.cons (.ite (.val (.cmp .Eq (.v 0) (.k (.str "add")))) 
   (.cons (.ret (.call 48 (.cons (.bin .Add (.bin .Mult (.ix (.v 1) (.k (.int (0)))) (.ix (.v 2) (.k (.int (1))))) (.bin .Mult (.ix (.v 2) (.k (.int (0)))) (.ix (.v 1) (.k (.int (1)))))) (.cons (.bin .Mult (.ix (.v 1) (.k (.int (1)))) (.ix (.v 2) (.k (.int (1))))) .nil)))) .nil) .nil) 
  (.cons (.ite (.val (.cmp .Eq (.v 0) (.k (.str "sub")))) 
   (.cons (.ret (.call 48 (.cons (.bin .Sub (.bin .Mult (.ix (.v 1) (.k (.int (0)))) (.ix (.v 2) (.k (.int (1))))) (.bin .Mult (.ix (.v 2) (.k (.int (0)))) (.ix (.v 1) (.k (.int (1)))))) (.cons (.bin .Mult (.ix (.v 1) (.k (.int (1)))) (.ix (.v 2) (.k (.int (1))))) .nil)))) .nil) .nil) 
  (.cons (.ite (.val (.cmp .Eq (.v 0) (.k (.str "mul")))) 
   (.cons (.ret (.call 48 (.cons (.bin .Mult (.ix (.v 1) (.k (.int (0)))) (.ix (.v 2) (.k (.int (0))))) (.cons (.bin .Mult (.ix (.v 1) (.k (.int (1)))) (.ix (.v 2) (.k (.int (1))))) .nil)))) .nil) .nil) 
  (.cons (.ite (.val (.cmp .Eq (.v 0) (.k (.str "div")))) 
   (.cons (.ret (.call 48 (.cons (.bin .Mult (.ix (.v 1) (.k (.int (0)))) (.ix (.v 2) (.k (.int (1))))) (.cons (.bin .Mult (.ix (.v 1) (.k (.int (1)))) (.ix (.v 2) (.k (.int (0))))) .nil)))) .nil) .nil) 
  (.cons (.ite (.val (.cmp .Eq (.v 0) (.k (.str "abs")))) 
   (.cons (.ret (.tup (.cons (.blt .abs (.cons (.ix (.v 1) (.k (.int (0)))) .nil)) (.cons (.ix (.v 1) (.k (.int (1)))) .nil)))) .nil) .nil) 
  (.cons (.ite (.val (.cmp .Eq (.v 0) (.k (.str "max")))) 
   (.cons (.ret (.ife (.val (.call 49 (.cons (.v 1) (.cons (.v 2) .nil)))) (.v 2) (.v 1))) .nil) .nil) 
  (.cons (.ite (.val (.cmp .Eq (.v 0) (.k (.str "min")))) 
   (.cons (.ret (.ife (.val (.call 49 (.cons (.v 1) (.cons (.v 2) .nil)))) (.v 1) (.v 2))) .nil) .nil) 
  (.cons (.asg (.g (.one 3)) (.tup (.cons (.k (.int (1))) (.cons (.k (.int (1))) .nil)))) 
  (.cons (.for (.one 4) (.rng (.cons (.v 2) .nil)) 
   (.cons (.asg (.g (.one 3)) (.tup (.cons (.bin .Mult (.ix (.v 3) (.k (.int (0)))) (.ix (.v 1) (.k (.int (0))))) (.cons (.bin .Mult (.ix (.v 3) (.k (.int (1)))) (.ix (.v 1) (.k (.int (1))))) .nil)))) .nil)) 
  (.cons (.ret (.v 3)) .nil))))))))))
def fd__law_apply : FD := ⟨3, [], 5, ir__law_apply⟩
theorem ok__law_apply : OkSs ⟨["kind", "one", "two", "found", "k"], defScope (top 63), tdat.tb, fun _ => true⟩ (defBody (top 63)) ir__law_apply := by
  have h : (cSs ⟨["kind", "one", "two", "found", "k"], defScope (top 63), tdat.tb, fun _ => true⟩ 12 (defBody (top 63))).map (·.1) = some ir__law_apply := by kernel_rfl
  exact cSs_ok h
def ir__law_letters : Ss := 
  (.cons (.asg (.g (.one 1)) (.lst (.cons (.k (.str "x")) (.cons (.k (.str "y2")) (.cons (.k (.str "long0name1z")) (.cons (.k (.str "a")) .nil)))))) 
  (.cons (.asg (.g (.one 2)) (.call 47 (.cons (.v 0) (.cons (.k (.int (2))) .nil)))) 
  (.cons (.asg (.g (.one 3)) (.lst .nil)) 
  (.cons (.for (.one 4) (.rng (.cons (.bin .Add (.k (.int (1))) (.call 47 (.cons (.v 0) (.cons (.k (.int (3))) .nil)))) .nil)) 
   (.cons (.asg (.g (.one 5)) (.ix (.lst (.cons (.k (.str "real")) (.cons (.k (.str "real")) (.cons (.k (.str "whole")) .nil)))) (.call 47 (.cons (.v 0) (.cons (.k (.int (3))) .nil))))) 
   (.cons (.asg (.g (.one 6)) (.k (.int (1)))) 
   (.cons (.asg (.g (.one 7)) (.call 47 (.cons (.v 0) (.cons (.k (.int (13))) .nil)))) 
   (.cons (.ite (.val (.cmp .Eq (.v 5) (.k (.str "real")))) 
    (.cons (.asg (.g (.one 6)) (.bin .Add (.k (.int (1))) (.call 47 (.cons (.v 0) (.cons (.k (.int (4))) .nil))))) .nil) .nil) 
   (.cons (.asg (.g (.one 8)) (.bin .Sub (.call 47 (.cons (.v 0) (.cons (.k (.int (25))) .nil))) (.k (.int (12))))) 
   (.cons (.expr (.bm (.v 3) .append (.cons (.tup (.cons (.ix (.v 1) (.bin .Add (.v 2) (.v 4))) (.cons (.v 5) (.cons (.call 48 (.cons (.v 8) (.cons (.v 6) .nil))) (.cons (.call 48 (.cons (.bin .Add (.v 8) (.v 7)) (.cons (.v 6) .nil))) .nil))))) .nil))) .nil))))))) 
  (.cons (.ret (.v 3)) .nil)))))
def fd__law_letters : FD := ⟨1, [], 9, ir__law_letters⟩
theorem ok__law_letters : OkSs ⟨["jar", "names", "start", "letters", "k", "kind", "bottom", "wide", "low"], defScope (top 64), tdat.tb, fun _ => true⟩ (defBody (top 64)) ir__law_letters := by
  have h : (cSs ⟨["jar", "names", "start", "letters", "k", "kind", "bottom", "wide", "low"], defScope (top 64), tdat.tb, fun _ => true⟩ 12 (defBody (top 64))).map (·.1) = some ir__law_letters := by kernel_rfl
  exact cSs_ok h
def ir__law_point : Ss := 
  (.cons (.asg (.g (.one 2)) (.lst .nil)) 
  (.cons (.for (.many [3, 4, 5, 6]) (.seq (.v 1)) 
   (.cons (.asg (.g (.one 7)) (.call 50 (.cons (.k (.str "sub")) (.cons (.v 6) (.cons (.v 5) .nil))))) 
   (.cons (.ite (.val (.cmp .Eq (.v 4) (.k (.str "whole")))) 
    (.cons (.expr (.bm (.v 2) .append (.cons (.tup (.cons (.bin .Add (.ix (.v 5) (.k (.int (0)))) (.call 47 (.cons (.v 0) (.cons (.bin .Add (.ix (.v 7) (.k (.int (0)))) (.k (.int (1)))) .nil)))) (.cons (.k (.int (1))) .nil))) .nil))) .nil) 
    (.cons (.expr (.bm (.v 2) .append (.cons (.call 50 (.cons (.k (.str "add")) (.cons (.v 5) (.cons (.call 50 (.cons (.k (.str "mul")) (.cons (.v 7) (.cons (.call 48 (.cons (.call 47 (.cons (.v 0) (.cons (.k (.int (9))) .nil))) (.cons (.k (.int (8))) .nil))) .nil)))) .nil)))) .nil))) .nil)) .nil))) 
  (.cons (.ret (.blt .tuple (.cons (.v 2) .nil))) .nil)))
def fd__law_point : FD := ⟨2, [], 8, ir__law_point⟩
theorem ok__law_point : OkSs ⟨["jar", "letters", "point", "name", "kind", "low", "high", "wide"], defScope (top 65), tdat.tb, fun _ => true⟩ (defBody (top 65)) ir__law_point := by
  have h : (cSs ⟨["jar", "letters", "point", "name", "kind", "low", "high", "wide"], defScope (top 65), tdat.tb, fun _ => true⟩ 12 (defBody (top 65))).map (·.1) = some ir__law_point := by kernel_rfl
  exact cSs_ok h
def ir__law_terms : Ss := 
  (.cons (.asg (.g (.one 4)) (.lst .nil)) 
  (.cons (.for (.one 5) (.rng (.cons (.blt .len (.cons (.v 1) .nil)) .nil)) 
   (.cons (.asg (.g (.many [6, 7, 8, 9])) (.ix (.v 1) (.v 5))) 
   (.cons (.expr (.bm (.v 4) .append (.cons (.tup (.cons (.meth (.v 3) 11 (.cons (.v 6) (.cons (.v 7) (.cons (.v 8) (.cons (.v 9) .nil))))) (.cons (.ix (.v 2) (.v 5)) (.cons (.k (.int (1))) (.cons (.k (.bl true)) (.cons (.tup (.cons (.v 5) .nil)) .nil)))))) .nil))) .nil))) 
  (.cons (.for (.one 5) (.rng (.cons (.bin .Add (.k (.int (1))) (.call 47 (.cons (.v 0) (.cons (.k (.int (12))) .nil)))) .nil)) 
   (.cons (.asg (.g (.one 10)) (.ix (.v 4) (.call 47 (.cons (.v 0) (.cons (.blt .len (.cons (.v 4) .nil)) .nil))))) 
   (.cons (.asg (.g (.one 11)) (.ix (.v 4) (.call 47 (.cons (.v 0) (.cons (.blt .len (.cons (.v 4) .nil)) .nil))))) 
   (.cons (.asg (.g (.one 7)) (.ix (.lst (.cons (.k (.str "add")) (.cons (.k (.str "sub")) (.cons (.k (.str "mul")) (.cons (.k (.str "pow")) (.cons (.k (.str "abs")) (.cons (.k (.str "max")) (.cons (.k (.str "min")) (.cons (.k (.str "div")) (.cons (.k (.str "num")) .nil)))))))))) (.call 47 (.cons (.v 0) (.cons (.k (.int (9))) .nil))))) 
   (.cons (.ite (.or (.val (.cmp .Eq (.v 7) (.k (.str "num")))) (.not (.val (.ix (.v 10) (.k (.int (3))))))) 
    (.cons (.asg (.g (.one 12)) (.call 48 (.cons (.bin .Sub (.call 47 (.cons (.v 0) (.cons (.k (.int (41))) .nil))) (.k (.int (20)))) (.cons (.bin .Add (.k (.int (1))) (.call 47 (.cons (.v 0) (.cons (.k (.int (3))) .nil)))) .nil)))) 
    (.cons (.expr (.bm (.v 4) .append (.cons (.tup (.cons (.meth (.v 3) 12 (.cons (.v 12) .nil)) (.cons (.v 12) (.cons (.k (.int (1))) (.cons (.k (.bl false)) (.cons (.tup .nil) .nil)))))) .nil))) 
    (.cons .cont .nil))) .nil) 
   (.cons (.ite (.val (.cmp .Eq (.v 7) (.k (.str "div")))) 
    (.cons (.asg (.g (.one 12)) (.call 48 (.cons (.bin .Mult (.bin .Add (.k (.int (1))) (.call 47 (.cons (.v 0) (.cons (.k (.int (9))) .nil)))) (.bin .Sub (.k (.int (1))) (.bin .Mult (.k (.int (2))) (.call 47 (.cons (.v 0) (.cons (.k (.int (2))) .nil)))))) (.cons (.bin .Add (.k (.int (1))) (.call 47 (.cons (.v 0) (.cons (.k (.int (3))) .nil)))) .nil)))) 
    (.cons (.asg (.g (.one 11)) (.tup (.cons (.meth (.v 3) 12 (.cons (.v 12) .nil)) (.cons (.v 12) (.cons (.k (.int (1))) (.cons (.k (.bl false)) (.cons (.tup .nil) .nil))))))) .nil)) .nil) 
   (.cons (.ite (.val (.cmp .Eq (.v 7) (.k (.str "abs")))) 
    (.cons (.ite (.val (.cmp .Lt (.ix (.v 10) (.k (.int (2)))) (.k (.int (40))))) 
     (.cons (.expr (.bm (.v 4) .append (.cons (.tup (.cons (.meth (.v 3) 13 (.cons (.k (.str "abs")) (.cons (.ix (.v 10) (.k (.int (0)))) .nil))) (.cons (.call 50 (.cons (.k (.str "abs")) (.cons (.ix (.v 10) (.k (.int (1)))) (.cons (.k (.non)) .nil)))) (.cons (.bin .Add (.ix (.v 10) (.k (.int (2)))) (.k (.int (1)))) (.cons (.k (.bl true)) (.cons (.ix (.v 10) (.k (.int (4)))) .nil)))))) .nil))) .nil) .nil) .nil) 
    (.cons (.ite (.val (.cmp .Eq (.v 7) (.k (.str "pow")))) 
     (.cons (.asg (.g (.one 13)) (.bin .Add (.k (.int (2))) (.call 47 (.cons (.v 0) (.cons (.k (.int (5))) .nil))))) 
     (.cons (.ite (.val (.cmp .LtE (.bin .Mult (.ix (.v 10) (.k (.int (2)))) (.v 13)) (.k (.int (40))))) 
      (.cons (.asg (.g (.one 14)) (.call 50 (.cons (.k (.str "pow")) (.cons (.ix (.v 10) (.k (.int (1)))) (.cons (.v 13) .nil))))) 
      (.cons (.expr (.bm (.v 4) .append (.cons (.tup (.cons (.meth (.v 3) 13 (.cons (.k (.str "pow")) (.cons (.ix (.v 10) (.k (.int (0)))) (.cons (.v 13) .nil)))) (.cons (.v 14) (.cons (.bin .Mult (.ix (.v 10) (.k (.int (2)))) (.v 13)) (.cons (.k (.bl true)) (.cons (.ix (.v 10) (.k (.int (4)))) .nil)))))) .nil))) .nil)) .nil) .nil)) 
     (.cons (.ite (.val (.cmp .LtE (.bin .Add (.ix (.v 10) (.k (.int (2)))) (.ix (.v 11) (.k (.int (2))))) (.k (.int (40))))) 
      (.cons (.asg (.g (.one 14)) (.call 50 (.cons (.v 7) (.cons (.ix (.v 10) (.k (.int (1)))) (.cons (.ix (.v 11) (.k (.int (1)))) .nil))))) 
      (.cons (.asg (.g (.one 15)) (.blt .tuple (.cons (.lc [16] (.v 16) (.one 16) (.rng (.cons (.blt .len (.cons (.v 1) .nil)) .nil)) (.or (.val (.cmp .In (.v 16) (.ix (.v 10) (.k (.int (4)))))) (.val (.cmp .In (.v 16) (.ix (.v 11) (.k (.int (4)))))))) .nil))) 
      (.cons (.expr (.bm (.v 4) .append (.cons (.tup (.cons (.meth (.v 3) 13 (.cons (.v 7) (.cons (.ix (.v 10) (.k (.int (0)))) (.cons (.ix (.v 11) (.k (.int (0)))) .nil)))) (.cons (.v 14) (.cons (.bin .Add (.ix (.v 10) (.k (.int (2)))) (.ix (.v 11) (.k (.int (2))))) (.cons (.k (.bl true)) (.cons (.v 15) .nil)))))) .nil))) .nil))) .nil) .nil)) .nil)) .nil))))))) 
  (.cons (.ret (.v 4)) .nil))))
def fd__law_terms : FD := ⟨4, [], 17, ir__law_terms⟩
theorem ok__law_terms : OkSs ⟨["jar", "letters", "point", "builder", "terms", "k", "name", "kind", "low", "high", "one", "two", "value", "count", "worth", "both", "j"], defScope (top 66), tdat.tb, fun _ => true⟩ (defBody (top 66)) ir__law_terms := by
  have h : (cSs ⟨["jar", "letters", "point", "builder", "terms", "k", "name", "kind", "low", "high", "one", "two", "value", "count", "worth", "both", "j"], defScope (top 66), tdat.tb, fun _ => true⟩ 12 (defBody (top 66))).map (·.1) = some ir__law_terms := by kernel_rfl
  exact cSs_ok h
def ir__law_parts : Ss := 
  (.cons (.ite (.or (.val (.cmp .Eq (.ix (.v 0) (.k (.int (0)))) (.k (.str "num")))) (.val (.cmp .Eq (.ix (.v 0) (.k (.int (0)))) (.k (.str "letter"))))) 
   (.cons (.ret (.lst .nil)) .nil) .nil) 
  (.cons (.ite (.or (.val (.cmp .Eq (.ix (.v 0) (.k (.int (0)))) (.k (.str "abs")))) (.val (.cmp .Eq (.ix (.v 0) (.k (.int (0)))) (.k (.str "pow"))))) 
   (.cons (.ret (.lst (.cons (.ix (.v 0) (.k (.int (1)))) .nil))) .nil) .nil) 
  (.cons (.ret (.lst (.cons (.ix (.v 0) (.k (.int (1)))) (.cons (.ix (.v 0) (.k (.int (2)))) .nil)))) .nil)))
def fd__law_parts : FD := ⟨1, [], 1, ir__law_parts⟩
theorem ok__law_parts : OkSs ⟨["node"], defScope (top 67), tdat.tb, fun _ => true⟩ (defBody (top 67)) ir__law_parts := by
  have h : (cSs ⟨["node"], defScope (top 67), tdat.tb, fun _ => true⟩ 12 (defBody (top 67))).map (·.1) = some ir__law_parts := by kernel_rfl
  exact cSs_ok h
def ir__law_shaped : Ss := 
  (.cons (.ite (.or (.not (.val (.isT (.fld (.v 0) 1) 1))) (.val (.cmp .NotEq (.blt .len (.cons (.fld (.v 0) 1) .nil)) (.blt .len (.cons (.fld (.v 0) 2) .nil))))) 
   (.cons (.ret (.k (.bl false))) .nil) .nil) 
  (.cons (.for (.one 2) (.rng (.cons (.blt .len (.cons (.fld (.v 0) 1) .nil)) .nil)) 
   (.cons (.ite (.and (.val (.cmp .Lt (.v 2) (.v 1))) (.val (.cmp .NotEq (.ix (.fld (.v 0) 1) (.v 2)) (.tup (.cons (.k (.str "letter")) (.cons (.v 2) .nil)))))) 
    (.cons (.ret (.k (.bl false))) .nil) .nil) 
   (.cons (.ite (.and (.val (.cmp .GtE (.v 2) (.v 1))) (.val (.cmp .Eq (.ix (.ix (.fld (.v 0) 1) (.v 2)) (.k (.int (0)))) (.k (.str "letter"))))) 
    (.cons (.ret (.k (.bl false))) .nil) .nil) 
   (.cons (.for (.one 3) (.seq (.call 54 (.cons (.ix (.fld (.v 0) 1) (.v 2)) .nil))) 
    (.cons (.ite (.or (.not (.val (.isT (.v 3) 0))) (.not (.val (.cmp2 .LtE .Lt (.k (.int (0))) (.v 3) (.v 2))))) 
     (.cons (.ret (.k (.bl false))) .nil) .nil) .nil)) 
   (.cons (.ite (.val (.cmp .In (.ix (.fld (.v 0) 1) (.v 2)) (.sl (.fld (.v 0) 1) .none (.some (.v 2))))) 
    (.cons (.ret (.k (.bl false))) .nil) .nil) .nil))))) 
  (.cons (.ret (.k (.bl true))) .nil)))
def fd__law_shaped : FD := ⟨2, [], 4, ir__law_shaped⟩
theorem ok__law_shaped : OkSs ⟨["problem", "count", "t", "part"], defScope (top 68), tdat.tb, fun _ => true⟩ (defBody (top 68)) ir__law_shaped := by
  have h : (cSs ⟨["problem", "count", "t", "part"], defScope (top 68), tdat.tb, fun _ => true⟩ 12 (defBody (top 68))).map (·.1) = some ir__law_shaped := by kernel_rfl
  exact cSs_ok h
def ir__law_order : Ss := 
  (.cons (.asg (.g (.one 2)) (.lrng (.cons (.v 1) .nil))) 
  (.cons (.for (.one 3) (.seq (.bin .Add (.blt .list (.cons (.fld (.v 0) 3) .nil)) (.lst (.cons (.fld (.v 0) 4) .nil)))) 
   (.cons (.asg (.g (.one 4)) (.lst (.cons (.v 3) .nil))) 
   (.cons (.for (.one 5) (.rng (.cons (.k (.int (1000))) .nil)) 
    (.cons (.ite (.not (.val (.v 4))) 
     (.cons .brk .nil) .nil) 
    (.cons (.asg (.g (.one 6)) (.lc [8] (.v 8) (.one 8) (.seq (.call 54 (.cons (.ix (.fld (.v 0) 1) (.ix (.v 4) (.neg (.k (.int (1)))))) .nil))) (.val (.cmp .NotIn (.v 8) (.v 2))))) 
    (.cons (.ite (.val (.v 6)) 
     (.cons (.expr (.bm (.v 4) .append (.cons (.ix (.v 6) (.k (.int (0)))) .nil))) .nil) 
     (.cons (.asg (.g (.one 7)) (.bm (.v 4) .pop .nil)) 
     (.cons (.ite (.val (.cmp .NotIn (.v 7) (.v 2))) 
      (.cons (.expr (.bm (.v 2) .append (.cons (.v 7) .nil))) .nil) .nil) .nil))) .nil)))) .nil))) 
  (.cons (.ret (.v 2)) .nil)))
def fd__law_order : FD := ⟨2, [], 9, ir__law_order⟩
theorem ok__law_order : OkSs ⟨["problem", "count", "order", "start", "waiting", "step", "missing", "done", "part"], defScope (top 69), tdat.tb, fun _ => true⟩ (defBody (top 69)) ir__law_order := by
  have h : (cSs ⟨["problem", "count", "order", "start", "waiting", "step", "missing", "done", "part"], defScope (top 69), tdat.tb, fun _ => true⟩ 12 (defBody (top 69))).map (·.1) = some ir__law_order := by kernel_rfl
  exact cSs_ok h
def ir__law_worths_right : Ss := 
  (.cons (.ite (.or (.not (.val (.isT (.v 2) 1))) (.val (.cmp .NotEq (.blt .len (.cons (.v 2) .nil)) (.blt .len (.cons (.fld (.v 0) 1) .nil))))) 
   (.cons (.ret (.k (.bl false))) .nil) .nil) 
  (.cons (.asg (.g (.one 3)) (.lst .nil)) 
  (.cons (.for (.one 4) (.rng (.cons (.blt .len (.cons (.fld (.v 0) 1) .nil)) .nil)) 
   (.cons (.asg (.g (.one 5)) (.ix (.fld (.v 0) 1) (.v 4))) 
   (.cons (.ite (.val (.cmp .Eq (.ix (.v 5) (.k (.int (0)))) (.k (.str "num")))) 
    (.cons (.expr (.bm (.v 3) .append (.cons (.ix (.v 5) (.k (.int (1)))) .nil))) .nil) 
    (.cons (.ite (.val (.cmp .Eq (.ix (.v 5) (.k (.int (0)))) (.k (.str "letter")))) 
     (.cons (.expr (.bm (.v 3) .append (.cons (.ix (.v 1) (.ix (.v 5) (.k (.int (1))))) .nil))) .nil) 
     (.cons (.ite (.val (.cmp .Eq (.ix (.v 5) (.k (.int (0)))) (.k (.str "abs")))) 
      (.cons (.expr (.bm (.v 3) .append (.cons (.call 50 (.cons (.k (.str "abs")) (.cons (.ix (.v 3) (.ix (.v 5) (.k (.int (1))))) (.cons (.k (.non)) .nil)))) .nil))) .nil) 
      (.cons (.ite (.val (.cmp .Eq (.ix (.v 5) (.k (.int (0)))) (.k (.str "pow")))) 
       (.cons (.expr (.bm (.v 3) .append (.cons (.call 50 (.cons (.k (.str "pow")) (.cons (.ix (.v 3) (.ix (.v 5) (.k (.int (1))))) (.cons (.ix (.v 5) (.k (.int (2)))) .nil)))) .nil))) .nil) 
       (.cons (.expr (.bm (.v 3) .append (.cons (.call 50 (.cons (.ix (.v 5) (.k (.int (0)))) (.cons (.ix (.v 3) (.ix (.v 5) (.k (.int (1))))) (.cons (.ix (.v 3) (.ix (.v 5) (.k (.int (2))))) .nil)))) .nil))) .nil)) .nil)) .nil)) .nil)) 
   (.cons (.ite (.val (.cmp .NotEq (.ix (.v 2) (.v 4)) (.ix (.v 3) (.v 4)))) 
    (.cons (.ret (.k (.bl false))) .nil) .nil) 
   (.cons (.ite (.or (.val (.call 49 (.cons (.ix (.v 3) (.v 4)) (.cons (.ix (.ix (.fld (.v 0) 2) (.v 4)) (.k (.int (0)))) .nil)))) (.val (.call 49 (.cons (.ix (.ix (.fld (.v 0) 2) (.v 4)) (.k (.int (1)))) (.cons (.ix (.v 3) (.v 4)) .nil))))) 
    (.cons (.ret (.k (.bl false))) .nil) .nil) .nil))))) 
  (.cons (.ret (.k (.bl true))) .nil))))
def fd__law_worths_right : FD := ⟨3, [], 6, ir__law_worths_right⟩
theorem ok__law_worths_right : OkSs ⟨["problem", "point", "told", "found", "t", "node"], defScope (top 70), tdat.tb, fun _ => true⟩ (defBody (top 70)) ir__law_worths_right := by
  have h : (cSs ⟨["problem", "point", "told", "found", "t", "node"], defScope (top 70), tdat.tb, fun _ => true⟩ 12 (defBody (top 70))).map (·.1) = some ir__law_worths_right := by kernel_rfl
  exact cSs_ok h
def ir_law : Ss := 
  (.cons (.asg (.g (.one 1)) (.call 46 (.cons (.v 0) .nil))) 
  (.cons (.asg (.g (.one 2)) (.call 51 (.cons (.v 1) .nil))) 
  (.cons (.asg (.g (.one 3)) (.call 52 (.cons (.v 1) (.cons (.v 2) .nil)))) 
  (.cons (.asg (.g (.one 4)) (.new 1 .nil)) 
  (.cons (.asg (.g (.one 5)) (.call 53 (.cons (.v 1) (.cons (.v 2) (.cons (.v 3) (.cons (.v 4) .nil)))))) 
  (.cons (.asg (.g (.one 6)) (.lc [13] (.ix (.v 5) (.call 47 (.cons (.v 1) (.cons (.blt .len (.cons (.v 5) .nil)) .nil)))) (.one 13) (.rng (.cons (.call 47 (.cons (.v 1) (.cons (.k (.int (4))) .nil))) .nil)) .yes)) 
  (.cons (.asg (.g (.one 7)) (.ix (.v 5) (.bin .Sub (.bin .Sub (.blt .len (.cons (.v 5) .nil)) (.k (.int (1)))) (.bin .Mult (.call 47 (.cons (.v 1) (.cons (.k (.int (2))) .nil))) (.call 47 (.cons (.v 1) (.cons (.blt .len (.cons (.v 5) .nil)) .nil))))))) 
  (.cons (.for (.one 8) (.seq (.v 6)) 
   (.cons (.expr (.meth (.v 4) 15 (.cons (.ix (.v 8) (.k (.int (0)))) .nil))) .nil)) 
  (.cons (.expr (.meth (.v 4) 16 (.cons (.ix (.ix (.v 5) (.k (.int (0)))) (.k (.int (0)))) .nil))) 
  (.cons (.expr (.meth (.v 4) 16 (.cons (.ix (.v 7) (.k (.int (0)))) .nil))) 
  (.cons (.asg (.g (.one 9)) (.meth (.v 4) 17 .nil)) 
  (.cons (.asg (.g (.one 10)) (.call 45 (.cons (.v 9) .nil))) 
  (.cons (.expr (.meth (.v 4) 15 (.cons (.ix (.ix (.v 5) (.k (.int (0)))) (.k (.int (0)))) .nil))) 
  (.cons (.expr (.meth (.v 4) 16 (.cons (.meth (.v 4) 12 (.cons (.tup (.cons (.k (.int (77))) (.cons (.k (.int (5))) .nil))) .nil)) .nil))) 
  (.cons (.ite (.or (.val (.cmp .NotEq (.call 45 (.cons (.v 9) .nil)) (.v 10))) (.val (.cmp .NotEq (.v 10) (.tup (.cons (.fld (.v 9) 0) (.cons (.fld (.v 9) 1) (.cons (.fld (.v 9) 3) (.cons (.fld (.v 9) 4) .nil)))))))) 
   (.cons (.ret (.k (.bl false))) .nil) .nil) 
  (.cons (.ite (.or (.val (.cmp .NotEq (.fld (.v 9) 0) (.blt .tuple (.cons (.v 2) .nil)))) (.val (.cmp .NotEq (.blt .len (.cons (.fld (.v 9) 3) .nil)) (.blt .len (.cons (.v 6) .nil))))) 
   (.cons (.ret (.k (.bl false))) .nil) .nil) 
  (.cons (.ite (.not (.val (.call 55 (.cons (.v 9) (.cons (.blt .len (.cons (.v 2) .nil)) .nil))))) 
   (.cons (.ret (.k (.bl false))) .nil) .nil) 
  (.cons (.ite (.val (.cmp .NotEq (.call 56 (.cons (.v 9) (.cons (.blt .len (.cons (.v 2) .nil)) .nil))) (.lrng (.cons (.blt .len (.cons (.fld (.v 9) 1) .nil)) .nil)))) 
   (.cons (.ret (.k (.bl false))) .nil) .nil) 
  (.cons (.asg (.g (.one 11)) (.call 43 (.cons (.v 9) (.cons (.v 3) .nil)))) 
  (.cons (.ite (.not (.val (.call 57 (.cons (.v 9) (.cons (.v 3) (.cons (.v 11) .nil)))))) 
   (.cons (.ret (.k (.bl false))) .nil) .nil) 
  (.cons (.asg (.g (.one 12)) (.call 44 (.cons (.v 9) .nil))) 
  (.cons (.for (.one 13) (.rng (.cons (.blt .len (.cons (.v 6) .nil)) .nil)) 
   (.cons (.ite (.or (.val (.cmp .NotEq (.ix (.v 11) (.ix (.fld (.v 9) 3) (.v 13))) (.ix (.ix (.v 6) (.v 13)) (.k (.int (1)))))) (.val (.cmp .NotEq (.ix (.v 12) (.ix (.fld (.v 9) 3) (.v 13))) (.ix (.ix (.v 6) (.v 13)) (.k (.int (4))))))) 
    (.cons (.ret (.k (.bl false))) .nil) .nil) .nil)) 
  (.cons (.ret (.and (.cmp .Eq (.ix (.v 11) (.fld (.v 9) 4)) (.ix (.v 7) (.k (.int (1))))) (.cmp .Eq (.ix (.v 12) (.fld (.v 9) 4)) (.ix (.v 7) (.k (.int (4))))))) .nil)))))))))))))))))))))))
def fd_law : FD := ⟨1, [], 14, ir_law⟩
theorem ok_law : OkSs ⟨["script", "jar", "letters", "point", "builder", "terms", "kept", "goal", "term", "problem", "key", "told", "used", "k"], defScope (top 71), tdat.tb, fun _ => true⟩ (defBody (top 71)) ir_law := by
  have h : (cSs ⟨["script", "jar", "letters", "point", "builder", "terms", "kept", "goal", "term", "problem", "key", "told", "used", "k"], defScope (top 71), tdat.tb, fun _ => true⟩ 12 (defBody (top 71))).map (·.1) = some ir_law := by kernel_rfl
  exact cSs_ok h
end Z
end

section
set_option Elab.async false
set_option linter.all false
set_option maxRecDepth 100000
set_option maxHeartbeats 0
namespace Z
open PySem L2
def dd_ratio : He.DefD := ⟨("ratio", none), "ratio", "ratio", defArgs (top 13), defBody (top 13), defScope (top 13), [.int (1)], []⟩
def dd_add : He.DefD := ⟨("add", none), "add", "add", defArgs (top 14), defBody (top 14), defScope (top 14), [], []⟩
def dd_sub : He.DefD := ⟨("sub", none), "sub", "sub", defArgs (top 15), defBody (top 15), defScope (top 15), [], []⟩
def dd_mul : He.DefD := ⟨("mul", none), "mul", "mul", defArgs (top 16), defBody (top 16), defScope (top 16), [], []⟩
def dd_div : He.DefD := ⟨("div", none), "div", "div", defArgs (top 17), defBody (top 17), defScope (top 17), [], []⟩
def dd_negate : He.DefD := ⟨("negate", none), "negate", "negate", defArgs (top 18), defBody (top 18), defScope (top 18), [], []⟩
def dd_size : He.DefD := ⟨("size", none), "size", "size", defArgs (top 19), defBody (top 19), defScope (top 19), [], []⟩
def dd_power : He.DefD := ⟨("power", none), "power", "power", defArgs (top 20), defBody (top 20), defScope (top 20), [], []⟩
def dd_upto : He.DefD := ⟨("upto", none), "upto", "upto", defArgs (top 21), defBody (top 21), defScope (top 21), [], []⟩
def dd_lesser : He.DefD := ⟨("lesser", none), "lesser", "lesser", defArgs (top 22), defBody (top 22), defScope (top 22), [], []⟩
def dd_greater : He.DefD := ⟨("greater", none), "greater", "greater", defArgs (top 23), defBody (top 23), defScope (top 23), [], []⟩
def dd_floor : He.DefD := ⟨("floor", none), "floor", "floor", defArgs (top 24), defBody (top 24), defScope (top 24), [], []⟩
def dd_ceil : He.DefD := ⟨("ceil", none), "ceil", "ceil", defArgs (top 25), defBody (top 25), defScope (top 25), [], []⟩
def dd_point_stretch : He.DefD := ⟨("point_stretch", none), "point_stretch", "point_stretch", defArgs (top 27), defBody (top 27), defScope (top 27), [], []⟩
def dd_add_stretches : He.DefD := ⟨("add_stretches", none), "add_stretches", "add_stretches", defArgs (top 28), defBody (top 28), defScope (top 28), [], []⟩
def dd_sub_stretches : He.DefD := ⟨("sub_stretches", none), "sub_stretches", "sub_stretches", defArgs (top 29), defBody (top 29), defScope (top 29), [], []⟩
def dd_negate_stretch : He.DefD := ⟨("negate_stretch", none), "negate_stretch", "negate_stretch", defArgs (top 30), defBody (top 30), defScope (top 30), [], []⟩
def dd_mul_stretches : He.DefD := ⟨("mul_stretches", none), "mul_stretches", "mul_stretches", defArgs (top 31), defBody (top 31), defScope (top 31), [], []⟩
def dd_has_zero : He.DefD := ⟨("has_zero", none), "has_zero", "has_zero", defArgs (top 32), defBody (top 32), defScope (top 32), [], []⟩
def dd_div_stretches : He.DefD := ⟨("div_stretches", none), "div_stretches", "div_stretches", defArgs (top 33), defBody (top 33), defScope (top 33), [], []⟩
def dd_power_stretch : He.DefD := ⟨("power_stretch", none), "power_stretch", "power_stretch", defArgs (top 34), defBody (top 34), defScope (top 34), [], []⟩
def dd_abs_stretch : He.DefD := ⟨("abs_stretch", none), "abs_stretch", "abs_stretch", defArgs (top 35), defBody (top 35), defScope (top 35), [], []⟩
def dd_max_stretches : He.DefD := ⟨("max_stretches", none), "max_stretches", "max_stretches", defArgs (top 36), defBody (top 36), defScope (top 36), [], []⟩
def dd_min_stretches : He.DefD := ⟨("min_stretches", none), "min_stretches", "min_stretches", defArgs (top 37), defBody (top 37), defScope (top 37), [], []⟩
def dd_arguments : He.DefD := ⟨("arguments", none), "arguments", "arguments", defArgs (top 39), defBody (top 39), defScope (top 39), [], []⟩
def dd_moved_node : He.DefD := ⟨("moved_node", none), "moved_node", "moved_node", defArgs (top 40), defBody (top 40), defScope (top 40), [], []⟩
def dd_combine : He.DefD := ⟨("combine", none), "combine", "combine", defArgs (top 41), defBody (top 41), defScope (top 41), [], []⟩
def dd_node_worth : He.DefD := ⟨("node_worth", none), "node_worth", "node_worth", defArgs (top 42), defBody (top 42), defScope (top 42), [], []⟩
def dd_combine_stretches : He.DefD := ⟨("combine_stretches", none), "combine_stretches", "combine_stretches", defArgs (top 43), defBody (top 43), defScope (top 43), [], []⟩
def dd_node_range : He.DefD := ⟨("node_range", none), "node_range", "node_range", defArgs (top 44), defBody (top 44), defScope (top 44), [], []⟩
def dd_node_weight : He.DefD := ⟨("node_weight", none), "node_weight", "node_weight", defArgs (top 45), defBody (top 45), defScope (top 45), [], []⟩
def dd_valid_name : He.DefD := ⟨("valid_name", none), "valid_name", "valid_name", defArgs (top 51), defBody (top 51), defScope (top 51), [], []⟩
def dd_Problemu_initu : He.DefD := ⟨("Problem", some "__init__"), "__init__", "Problem.__init__", defArgs (mtd 52 0), defBody (mtd 52 0), defScope (mtd 52 0), [], []⟩
def dd_Builderu_initu : He.DefD := ⟨("Builder", some "__init__"), "__init__", "Builder.__init__", defArgs (mtd 53 4), defBody (mtd 53 4), defScope (mtd 53 4), [], []⟩
def dd_Builder_letter : He.DefD := ⟨("Builder", some "letter"), "letter", "Builder.letter", defArgs (mtd 53 5), defBody (mtd 53 5), defScope (mtd 53 5), [], []⟩
def dd_Builder_number : He.DefD := ⟨("Builder", some "number"), "number", "Builder.number", defArgs (mtd 53 6), defBody (mtd 53 6), defScope (mtd 53 6), [], []⟩
def dd_Builder_node : He.DefD := ⟨("Builder", some "node"), "node", "Builder.node", defArgs (mtd 53 7), defBody (mtd 53 7), defScope (mtd 53 7), [.non], []⟩
def dd_Builderuplace : He.DefD := ⟨("Builder", some "_place"), "_place", "Builder._place", defArgs (mtd 53 8), defBody (mtd 53 8), defScope (mtd 53 8), [], []⟩
def dd_Builder_keep : He.DefD := ⟨("Builder", some "keep"), "keep", "Builder.keep", defArgs (mtd 53 9), defBody (mtd 53 9), defScope (mtd 53 9), [], []⟩
def dd_Builder_least : He.DefD := ⟨("Builder", some "least"), "least", "Builder.least", defArgs (mtd 53 10), defBody (mtd 53 10), defScope (mtd 53 10), [], []⟩
def dd_Builder_problem : He.DefD := ⟨("Builder", some "problem"), "problem", "Builder.problem", defArgs (mtd 53 11), defBody (mtd 53 11), defScope (mtd 53 11), [], []⟩
def dd_Builderuorder : He.DefD := ⟨("Builder", some "_order"), "_order", "Builder._order", defArgs (mtd 53 12), defBody (mtd 53 12), defScope (mtd 53 12), [], []⟩
def dd_too_long : He.DefD := ⟨("too_long", none), "too_long", "too_long", defArgs (top 54), defBody (top 54), defScope (top 54), [], []⟩
def dd_worths : He.DefD := ⟨("worths", none), "worths", "worths", defArgs (top 55), defBody (top 55), defScope (top 55), [], []⟩
def dd_uses : He.DefD := ⟨("uses", none), "uses", "uses", defArgs (top 56), defBody (top 56), defScope (top 56), [], []⟩
def dd_problem_key : He.DefD := ⟨("problem_key", none), "problem_key", "problem_key", defArgs (top 57), defBody (top 57), defScope (top 57), [], []⟩
def dd__law_jar : He.DefD := ⟨("_law_jar", none), "_law_jar", "_law_jar", defArgs (top 59), defBody (top 59), defScope (top 59), [], []⟩
def dd__law_draw : He.DefD := ⟨("_law_draw", none), "_law_draw", "_law_draw", defArgs (top 60), defBody (top 60), defScope (top 60), [], []⟩
def dd__law_low : He.DefD := ⟨("_law_low", none), "_law_low", "_law_low", defArgs (top 61), defBody (top 61), defScope (top 61), [], []⟩
def dd__law_less : He.DefD := ⟨("_law_less", none), "_law_less", "_law_less", defArgs (top 62), defBody (top 62), defScope (top 62), [], []⟩
def dd__law_apply : He.DefD := ⟨("_law_apply", none), "_law_apply", "_law_apply", defArgs (top 63), defBody (top 63), defScope (top 63), [], []⟩
def dd__law_letters : He.DefD := ⟨("_law_letters", none), "_law_letters", "_law_letters", defArgs (top 64), defBody (top 64), defScope (top 64), [], []⟩
def dd__law_point : He.DefD := ⟨("_law_point", none), "_law_point", "_law_point", defArgs (top 65), defBody (top 65), defScope (top 65), [], []⟩
def dd__law_terms : He.DefD := ⟨("_law_terms", none), "_law_terms", "_law_terms", defArgs (top 66), defBody (top 66), defScope (top 66), [], []⟩
def dd__law_parts : He.DefD := ⟨("_law_parts", none), "_law_parts", "_law_parts", defArgs (top 67), defBody (top 67), defScope (top 67), [], []⟩
def dd__law_shaped : He.DefD := ⟨("_law_shaped", none), "_law_shaped", "_law_shaped", defArgs (top 68), defBody (top 68), defScope (top 68), [], []⟩
def dd__law_order : He.DefD := ⟨("_law_order", none), "_law_order", "_law_order", defArgs (top 69), defBody (top 69), defScope (top 69), [], []⟩
def dd__law_worths_right : He.DefD := ⟨("_law_worths_right", none), "_law_worths_right", "_law_worths_right", defArgs (top 70), defBody (top 70), defScope (top 70), [], []⟩
def dd_law : He.DefD := ⟨("law", none), "law", "law", defArgs (top 71), defBody (top 71), defScope (top 71), [], []⟩
def pdat : PDat := ⟨[("ZERO", .tup [.int (0), .int (1)]), ("ONE", .tup [.int (1), .int (1)]), ("RESERVED", .tup [.str "abs", .str "max", .str "min", .str "real", .str "whole", .str "let", .str "keep", .str "least"]), ("FIRST_SIGNS", .str "abcdefghijklmnopqrstuvwxyz"), ("LATER_SIGNS", .str "abcdefghijklmnopqrstuvwxyz0123456789"), ("BEYOND", .int (1000000000000))], [⟨"Problem", [0, 1, 2, 3, 4], [], [], some 32⟩, ⟨"Builder", [0, 1, 2, 9, 3, 4, 10], [(5, .int (6)), (6, .int (60)), (7, .int (12)), (8, .int (40))], [(11, 34), (12, 35), (13, 36), (14, 37), (15, 38), (16, 39), (17, 40), (18, 41)], some 33⟩], tdat.names, tdat.om, tdat.dt, tdat.bl, tdat.gc, ([⟨dd_ratio, fd_ratio⟩, ⟨dd_add, fd_add⟩, ⟨dd_sub, fd_sub⟩, ⟨dd_mul, fd_mul⟩, ⟨dd_div, fd_div⟩, ⟨dd_negate, fd_negate⟩, ⟨dd_size, fd_size⟩, ⟨dd_power, fd_power⟩, ⟨dd_upto, fd_upto⟩, ⟨dd_lesser, fd_lesser⟩, ⟨dd_greater, fd_greater⟩, ⟨dd_floor, fd_floor⟩, ⟨dd_ceil, fd_ceil⟩, ⟨dd_point_stretch, fd_point_stretch⟩, ⟨dd_add_stretches, fd_add_stretches⟩, ⟨dd_sub_stretches, fd_sub_stretches⟩, ⟨dd_negate_stretch, fd_negate_stretch⟩, ⟨dd_mul_stretches, fd_mul_stretches⟩, ⟨dd_has_zero, fd_has_zero⟩, ⟨dd_div_stretches, fd_div_stretches⟩, ⟨dd_power_stretch, fd_power_stretch⟩, ⟨dd_abs_stretch, fd_abs_stretch⟩, ⟨dd_max_stretches, fd_max_stretches⟩, ⟨dd_min_stretches, fd_min_stretches⟩, ⟨dd_arguments, fd_arguments⟩, ⟨dd_moved_node, fd_moved_node⟩, ⟨dd_combine, fd_combine⟩, ⟨dd_node_worth, fd_node_worth⟩, ⟨dd_combine_stretches, fd_combine_stretches⟩, ⟨dd_node_range, fd_node_range⟩] : List DfD) ++ ([⟨dd_node_weight, fd_node_weight⟩, ⟨dd_valid_name, fd_valid_name⟩, ⟨dd_Problemu_initu, fd_Problemu_initu⟩, ⟨dd_Builderu_initu, fd_Builderu_initu⟩, ⟨dd_Builder_letter, fd_Builder_letter⟩, ⟨dd_Builder_number, fd_Builder_number⟩, ⟨dd_Builder_node, fd_Builder_node⟩, ⟨dd_Builderuplace, fd_Builderuplace⟩, ⟨dd_Builder_keep, fd_Builder_keep⟩, ⟨dd_Builder_least, fd_Builder_least⟩, ⟨dd_Builder_problem, fd_Builder_problem⟩, ⟨dd_Builderuorder, fd_Builderuorder⟩, ⟨dd_too_long, fd_too_long⟩, ⟨dd_worths, fd_worths⟩, ⟨dd_uses, fd_uses⟩, ⟨dd_problem_key, fd_problem_key⟩, ⟨dd__law_jar, fd__law_jar⟩, ⟨dd__law_draw, fd__law_draw⟩, ⟨dd__law_low, fd__law_low⟩, ⟨dd__law_less, fd__law_less⟩, ⟨dd__law_apply, fd__law_apply⟩, ⟨dd__law_letters, fd__law_letters⟩, ⟨dd__law_point, fd__law_point⟩, ⟨dd__law_terms, fd__law_terms⟩, ⟨dd__law_parts, fd__law_parts⟩, ⟨dd__law_shaped, fd__law_shaped⟩, ⟨dd__law_order, fd__law_order⟩, ⟨dd__law_worths_right, fd__law_worths_right⟩, ⟨dd_law, fd_law⟩] : List DfD)⟩
theorem pdat_t : pdat.t = tdat := by rfl
theorem pdat_nd : pdat.names.Nodup := by decide +kernel
theorem pdat_sz : pdat.names.all (fun x => decide (x.cps.size < 1000)) = true := by decide +kernel
abbrev th (K : PySem.W.Frag) (w : World) : Nm := thZ pdat K w pdat_nd pdat_sz
theorem df_ratio {K : PySem.W.Frag} {w : World} (c : SaysZ pdat K) : DefF K (th K w) tdat.tb 0 fd_ratio := by
  obtain ⟨fdt, F⟩ := c.def_ (i := 0) (q := ⟨dd_ratio, fd_ratio⟩) rfl
  exact ⟨_, _, _, _, _, _, _, ["top", "bottom", "common"], ["top", "bottom"], fdt, F, ⟨rfl, rfl, rfl, by decide +kernel, rfl, by decide +kernel, by decide +kernel⟩, rfl, rfl, ok_ratio, bindsZ1 (v := .int (1)) rfl (fun _ _ => rfl) (FunD.binds1 (ps := ["top", "bottom"]) F 1 0 (by intro h; cases h) rfl fun _ _ _ _ _ _ _ us its h1 h2 => match us, its, h1, h2 with | [_], [_], _, _ => ⟨_, rfl, rfl⟩) (FunD.binds1 (ps := ["top", "bottom"]) F 2 1 (by intro h; cases h) rfl fun _ _ _ _ _ _ _ us its h1 h2 => match us, its, h1, h2 with | [_, _], [_], _, _ => ⟨_, rfl, rfl⟩)⟩
theorem df_add {K : PySem.W.Frag} {w : World} (c : SaysZ pdat K) : DefF K (th K w) tdat.tb 1 fd_add := by
  obtain ⟨fdt, F⟩ := c.def_ (i := 1) (q := ⟨dd_add, fd_add⟩) rfl
  exact ⟨_, _, _, _, _, _, _, ["one", "two"], ["one", "two"], fdt, F, ⟨rfl, rfl, rfl, by decide +kernel, rfl, by decide +kernel, by decide +kernel⟩, rfl, rfl, ok_add, bindsZ0 rfl (FunD.bindsN (ps := ["one", "two"]) F fun _ _ _ _ _ _ us hl => match us, hl with | [_, _], _ => rfl)⟩
theorem df_sub {K : PySem.W.Frag} {w : World} (c : SaysZ pdat K) : DefF K (th K w) tdat.tb 2 fd_sub := by
  obtain ⟨fdt, F⟩ := c.def_ (i := 2) (q := ⟨dd_sub, fd_sub⟩) rfl
  exact ⟨_, _, _, _, _, _, _, ["one", "two"], ["one", "two"], fdt, F, ⟨rfl, rfl, rfl, by decide +kernel, rfl, by decide +kernel, by decide +kernel⟩, rfl, rfl, ok_sub, bindsZ0 rfl (FunD.bindsN (ps := ["one", "two"]) F fun _ _ _ _ _ _ us hl => match us, hl with | [_, _], _ => rfl)⟩
theorem df_mul {K : PySem.W.Frag} {w : World} (c : SaysZ pdat K) : DefF K (th K w) tdat.tb 3 fd_mul := by
  obtain ⟨fdt, F⟩ := c.def_ (i := 3) (q := ⟨dd_mul, fd_mul⟩) rfl
  exact ⟨_, _, _, _, _, _, _, ["one", "two"], ["one", "two"], fdt, F, ⟨rfl, rfl, rfl, by decide +kernel, rfl, by decide +kernel, by decide +kernel⟩, rfl, rfl, ok_mul, bindsZ0 rfl (FunD.bindsN (ps := ["one", "two"]) F fun _ _ _ _ _ _ us hl => match us, hl with | [_, _], _ => rfl)⟩
theorem df_div {K : PySem.W.Frag} {w : World} (c : SaysZ pdat K) : DefF K (th K w) tdat.tb 4 fd_div := by
  obtain ⟨fdt, F⟩ := c.def_ (i := 4) (q := ⟨dd_div, fd_div⟩) rfl
  exact ⟨_, _, _, _, _, _, _, ["one", "two"], ["one", "two"], fdt, F, ⟨rfl, rfl, rfl, by decide +kernel, rfl, by decide +kernel, by decide +kernel⟩, rfl, rfl, ok_div, bindsZ0 rfl (FunD.bindsN (ps := ["one", "two"]) F fun _ _ _ _ _ _ us hl => match us, hl with | [_, _], _ => rfl)⟩
theorem df_negate {K : PySem.W.Frag} {w : World} (c : SaysZ pdat K) : DefF K (th K w) tdat.tb 5 fd_negate := by
  obtain ⟨fdt, F⟩ := c.def_ (i := 5) (q := ⟨dd_negate, fd_negate⟩) rfl
  exact ⟨_, _, _, _, _, _, _, ["one"], ["one"], fdt, F, ⟨rfl, rfl, rfl, by decide +kernel, rfl, by decide +kernel, by decide +kernel⟩, rfl, rfl, ok_negate, bindsZ0 rfl (FunD.bindsN (ps := ["one"]) F fun _ _ _ _ _ _ us hl => match us, hl with | [_], _ => rfl)⟩
theorem df_size {K : PySem.W.Frag} {w : World} (c : SaysZ pdat K) : DefF K (th K w) tdat.tb 6 fd_size := by
  obtain ⟨fdt, F⟩ := c.def_ (i := 6) (q := ⟨dd_size, fd_size⟩) rfl
  exact ⟨_, _, _, _, _, _, _, ["one"], ["one"], fdt, F, ⟨rfl, rfl, rfl, by decide +kernel, rfl, by decide +kernel, by decide +kernel⟩, rfl, rfl, ok_size, bindsZ0 rfl (FunD.bindsN (ps := ["one"]) F fun _ _ _ _ _ _ us hl => match us, hl with | [_], _ => rfl)⟩
theorem df_power {K : PySem.W.Frag} {w : World} (c : SaysZ pdat K) : DefF K (th K w) tdat.tb 7 fd_power := by
  obtain ⟨fdt, F⟩ := c.def_ (i := 7) (q := ⟨dd_power, fd_power⟩) rfl
  exact ⟨_, _, _, _, _, _, _, ["one", "count", "top", "bottom", "_"], ["one", "count"], fdt, F, ⟨rfl, rfl, rfl, by decide +kernel, rfl, by decide +kernel, by decide +kernel⟩, rfl, rfl, ok_power, bindsZ0 rfl (FunD.bindsN (ps := ["one", "count"]) F fun _ _ _ _ _ _ us hl => match us, hl with | [_, _], _ => rfl)⟩
theorem df_upto {K : PySem.W.Frag} {w : World} (c : SaysZ pdat K) : DefF K (th K w) tdat.tb 8 fd_upto := by
  obtain ⟨fdt, F⟩ := c.def_ (i := 8) (q := ⟨dd_upto, fd_upto⟩) rfl
  exact ⟨_, _, _, _, _, _, _, ["one", "two"], ["one", "two"], fdt, F, ⟨rfl, rfl, rfl, by decide +kernel, rfl, by decide +kernel, by decide +kernel⟩, rfl, rfl, ok_upto, bindsZ0 rfl (FunD.bindsN (ps := ["one", "two"]) F fun _ _ _ _ _ _ us hl => match us, hl with | [_, _], _ => rfl)⟩
theorem df_lesser {K : PySem.W.Frag} {w : World} (c : SaysZ pdat K) : DefF K (th K w) tdat.tb 9 fd_lesser := by
  obtain ⟨fdt, F⟩ := c.def_ (i := 9) (q := ⟨dd_lesser, fd_lesser⟩) rfl
  exact ⟨_, _, _, _, _, _, _, ["one", "two"], ["one", "two"], fdt, F, ⟨rfl, rfl, rfl, by decide +kernel, rfl, by decide +kernel, by decide +kernel⟩, rfl, rfl, ok_lesser, bindsZ0 rfl (FunD.bindsN (ps := ["one", "two"]) F fun _ _ _ _ _ _ us hl => match us, hl with | [_, _], _ => rfl)⟩
theorem df_greater {K : PySem.W.Frag} {w : World} (c : SaysZ pdat K) : DefF K (th K w) tdat.tb 10 fd_greater := by
  obtain ⟨fdt, F⟩ := c.def_ (i := 10) (q := ⟨dd_greater, fd_greater⟩) rfl
  exact ⟨_, _, _, _, _, _, _, ["one", "two"], ["one", "two"], fdt, F, ⟨rfl, rfl, rfl, by decide +kernel, rfl, by decide +kernel, by decide +kernel⟩, rfl, rfl, ok_greater, bindsZ0 rfl (FunD.bindsN (ps := ["one", "two"]) F fun _ _ _ _ _ _ us hl => match us, hl with | [_, _], _ => rfl)⟩
theorem df_floor {K : PySem.W.Frag} {w : World} (c : SaysZ pdat K) : DefF K (th K w) tdat.tb 11 fd_floor := by
  obtain ⟨fdt, F⟩ := c.def_ (i := 11) (q := ⟨dd_floor, fd_floor⟩) rfl
  exact ⟨_, _, _, _, _, _, _, ["one"], ["one"], fdt, F, ⟨rfl, rfl, rfl, by decide +kernel, rfl, by decide +kernel, by decide +kernel⟩, rfl, rfl, ok_floor, bindsZ0 rfl (FunD.bindsN (ps := ["one"]) F fun _ _ _ _ _ _ us hl => match us, hl with | [_], _ => rfl)⟩
theorem df_ceil {K : PySem.W.Frag} {w : World} (c : SaysZ pdat K) : DefF K (th K w) tdat.tb 12 fd_ceil := by
  obtain ⟨fdt, F⟩ := c.def_ (i := 12) (q := ⟨dd_ceil, fd_ceil⟩) rfl
  exact ⟨_, _, _, _, _, _, _, ["one"], ["one"], fdt, F, ⟨rfl, rfl, rfl, by decide +kernel, rfl, by decide +kernel, by decide +kernel⟩, rfl, rfl, ok_ceil, bindsZ0 rfl (FunD.bindsN (ps := ["one"]) F fun _ _ _ _ _ _ us hl => match us, hl with | [_], _ => rfl)⟩
theorem df_point_stretch {K : PySem.W.Frag} {w : World} (c : SaysZ pdat K) : DefF K (th K w) tdat.tb 13 fd_point_stretch := by
  obtain ⟨fdt, F⟩ := c.def_ (i := 13) (q := ⟨dd_point_stretch, fd_point_stretch⟩) rfl
  exact ⟨_, _, _, _, _, _, _, ["number"], ["number"], fdt, F, ⟨rfl, rfl, rfl, by decide +kernel, rfl, by decide +kernel, by decide +kernel⟩, rfl, rfl, ok_point_stretch, bindsZ0 rfl (FunD.bindsN (ps := ["number"]) F fun _ _ _ _ _ _ us hl => match us, hl with | [_], _ => rfl)⟩
theorem df_add_stretches {K : PySem.W.Frag} {w : World} (c : SaysZ pdat K) : DefF K (th K w) tdat.tb 14 fd_add_stretches := by
  obtain ⟨fdt, F⟩ := c.def_ (i := 14) (q := ⟨dd_add_stretches, fd_add_stretches⟩) rfl
  exact ⟨_, _, _, _, _, _, _, ["one", "two"], ["one", "two"], fdt, F, ⟨rfl, rfl, rfl, by decide +kernel, rfl, by decide +kernel, by decide +kernel⟩, rfl, rfl, ok_add_stretches, bindsZ0 rfl (FunD.bindsN (ps := ["one", "two"]) F fun _ _ _ _ _ _ us hl => match us, hl with | [_, _], _ => rfl)⟩
theorem df_sub_stretches {K : PySem.W.Frag} {w : World} (c : SaysZ pdat K) : DefF K (th K w) tdat.tb 15 fd_sub_stretches := by
  obtain ⟨fdt, F⟩ := c.def_ (i := 15) (q := ⟨dd_sub_stretches, fd_sub_stretches⟩) rfl
  exact ⟨_, _, _, _, _, _, _, ["one", "two"], ["one", "two"], fdt, F, ⟨rfl, rfl, rfl, by decide +kernel, rfl, by decide +kernel, by decide +kernel⟩, rfl, rfl, ok_sub_stretches, bindsZ0 rfl (FunD.bindsN (ps := ["one", "two"]) F fun _ _ _ _ _ _ us hl => match us, hl with | [_, _], _ => rfl)⟩
theorem df_negate_stretch {K : PySem.W.Frag} {w : World} (c : SaysZ pdat K) : DefF K (th K w) tdat.tb 16 fd_negate_stretch := by
  obtain ⟨fdt, F⟩ := c.def_ (i := 16) (q := ⟨dd_negate_stretch, fd_negate_stretch⟩) rfl
  exact ⟨_, _, _, _, _, _, _, ["one"], ["one"], fdt, F, ⟨rfl, rfl, rfl, by decide +kernel, rfl, by decide +kernel, by decide +kernel⟩, rfl, rfl, ok_negate_stretch, bindsZ0 rfl (FunD.bindsN (ps := ["one"]) F fun _ _ _ _ _ _ us hl => match us, hl with | [_], _ => rfl)⟩
theorem df_mul_stretches {K : PySem.W.Frag} {w : World} (c : SaysZ pdat K) : DefF K (th K w) tdat.tb 17 fd_mul_stretches := by
  obtain ⟨fdt, F⟩ := c.def_ (i := 17) (q := ⟨dd_mul_stretches, fd_mul_stretches⟩) rfl
  exact ⟨_, _, _, _, _, _, _, ["one", "two", "low", "high", "end"], ["one", "two"], fdt, F, ⟨rfl, rfl, rfl, by decide +kernel, rfl, by decide +kernel, by decide +kernel⟩, rfl, rfl, ok_mul_stretches, bindsZ0 rfl (FunD.bindsN (ps := ["one", "two"]) F fun _ _ _ _ _ _ us hl => match us, hl with | [_, _], _ => rfl)⟩
theorem df_has_zero {K : PySem.W.Frag} {w : World} (c : SaysZ pdat K) : DefF K (th K w) tdat.tb 18 fd_has_zero := by
  obtain ⟨fdt, F⟩ := c.def_ (i := 18) (q := ⟨dd_has_zero, fd_has_zero⟩) rfl
  exact ⟨_, _, _, _, _, _, _, ["one"], ["one"], fdt, F, ⟨rfl, rfl, rfl, by decide +kernel, rfl, by decide +kernel, by decide +kernel⟩, rfl, rfl, ok_has_zero, bindsZ0 rfl (FunD.bindsN (ps := ["one"]) F fun _ _ _ _ _ _ us hl => match us, hl with | [_], _ => rfl)⟩
theorem df_div_stretches {K : PySem.W.Frag} {w : World} (c : SaysZ pdat K) : DefF K (th K w) tdat.tb 19 fd_div_stretches := by
  obtain ⟨fdt, F⟩ := c.def_ (i := 19) (q := ⟨dd_div_stretches, fd_div_stretches⟩) rfl
  exact ⟨_, _, _, _, _, _, _, ["one", "two"], ["one", "two"], fdt, F, ⟨rfl, rfl, rfl, by decide +kernel, rfl, by decide +kernel, by decide +kernel⟩, rfl, rfl, ok_div_stretches, bindsZ0 rfl (FunD.bindsN (ps := ["one", "two"]) F fun _ _ _ _ _ _ us hl => match us, hl with | [_, _], _ => rfl)⟩
theorem df_power_stretch {K : PySem.W.Frag} {w : World} (c : SaysZ pdat K) : DefF K (th K w) tdat.tb 20 fd_power_stretch := by
  obtain ⟨fdt, F⟩ := c.def_ (i := 20) (q := ⟨dd_power_stretch, fd_power_stretch⟩) rfl
  exact ⟨_, _, _, _, _, _, _, ["one", "count", "low", "high"], ["one", "count"], fdt, F, ⟨rfl, rfl, rfl, by decide +kernel, rfl, by decide +kernel, by decide +kernel⟩, rfl, rfl, ok_power_stretch, bindsZ0 rfl (FunD.bindsN (ps := ["one", "count"]) F fun _ _ _ _ _ _ us hl => match us, hl with | [_, _], _ => rfl)⟩
theorem df_abs_stretch {K : PySem.W.Frag} {w : World} (c : SaysZ pdat K) : DefF K (th K w) tdat.tb 21 fd_abs_stretch := by
  obtain ⟨fdt, F⟩ := c.def_ (i := 21) (q := ⟨dd_abs_stretch, fd_abs_stretch⟩) rfl
  exact ⟨_, _, _, _, _, _, _, ["one"], ["one"], fdt, F, ⟨rfl, rfl, rfl, by decide +kernel, rfl, by decide +kernel, by decide +kernel⟩, rfl, rfl, ok_abs_stretch, bindsZ0 rfl (FunD.bindsN (ps := ["one"]) F fun _ _ _ _ _ _ us hl => match us, hl with | [_], _ => rfl)⟩
theorem df_max_stretches {K : PySem.W.Frag} {w : World} (c : SaysZ pdat K) : DefF K (th K w) tdat.tb 22 fd_max_stretches := by
  obtain ⟨fdt, F⟩ := c.def_ (i := 22) (q := ⟨dd_max_stretches, fd_max_stretches⟩) rfl
  exact ⟨_, _, _, _, _, _, _, ["one", "two"], ["one", "two"], fdt, F, ⟨rfl, rfl, rfl, by decide +kernel, rfl, by decide +kernel, by decide +kernel⟩, rfl, rfl, ok_max_stretches, bindsZ0 rfl (FunD.bindsN (ps := ["one", "two"]) F fun _ _ _ _ _ _ us hl => match us, hl with | [_, _], _ => rfl)⟩
theorem df_min_stretches {K : PySem.W.Frag} {w : World} (c : SaysZ pdat K) : DefF K (th K w) tdat.tb 23 fd_min_stretches := by
  obtain ⟨fdt, F⟩ := c.def_ (i := 23) (q := ⟨dd_min_stretches, fd_min_stretches⟩) rfl
  exact ⟨_, _, _, _, _, _, _, ["one", "two"], ["one", "two"], fdt, F, ⟨rfl, rfl, rfl, by decide +kernel, rfl, by decide +kernel, by decide +kernel⟩, rfl, rfl, ok_min_stretches, bindsZ0 rfl (FunD.bindsN (ps := ["one", "two"]) F fun _ _ _ _ _ _ us hl => match us, hl with | [_, _], _ => rfl)⟩
theorem df_arguments {K : PySem.W.Frag} {w : World} (c : SaysZ pdat K) : DefF K (th K w) tdat.tb 24 fd_arguments := by
  obtain ⟨fdt, F⟩ := c.def_ (i := 24) (q := ⟨dd_arguments, fd_arguments⟩) rfl
  exact ⟨_, _, _, _, _, _, _, ["node"], ["node"], fdt, F, ⟨rfl, rfl, rfl, by decide +kernel, rfl, by decide +kernel, by decide +kernel⟩, rfl, rfl, ok_arguments, bindsZ0 rfl (FunD.bindsN (ps := ["node"]) F fun _ _ _ _ _ _ us hl => match us, hl with | [_], _ => rfl)⟩
theorem df_moved_node {K : PySem.W.Frag} {w : World} (c : SaysZ pdat K) : DefF K (th K w) tdat.tb 25 fd_moved_node := by
  obtain ⟨fdt, F⟩ := c.def_ (i := 25) (q := ⟨dd_moved_node, fd_moved_node⟩) rfl
  exact ⟨_, _, _, _, _, _, _, ["node", "places"], ["node", "places"], fdt, F, ⟨rfl, rfl, rfl, by decide +kernel, rfl, by decide +kernel, by decide +kernel⟩, rfl, rfl, ok_moved_node, bindsZ0 rfl (FunD.bindsN (ps := ["node", "places"]) F fun _ _ _ _ _ _ us hl => match us, hl with | [_, _], _ => rfl)⟩
theorem df_combine {K : PySem.W.Frag} {w : World} (c : SaysZ pdat K) : DefF K (th K w) tdat.tb 26 fd_combine := by
  obtain ⟨fdt, F⟩ := c.def_ (i := 26) (q := ⟨dd_combine, fd_combine⟩) rfl
  exact ⟨_, _, _, _, _, _, _, ["kind", "one", "two"], ["kind", "one", "two"], fdt, F, ⟨rfl, rfl, rfl, by decide +kernel, rfl, by decide +kernel, by decide +kernel⟩, rfl, rfl, ok_combine, bindsZ0 rfl (FunD.bindsN (ps := ["kind", "one", "two"]) F fun _ _ _ _ _ _ us hl => match us, hl with | [_, _, _], _ => rfl)⟩
theorem df_node_worth {K : PySem.W.Frag} {w : World} (c : SaysZ pdat K) : DefF K (th K w) tdat.tb 27 fd_node_worth := by
  obtain ⟨fdt, F⟩ := c.def_ (i := 27) (q := ⟨dd_node_worth, fd_node_worth⟩) rfl
  exact ⟨_, _, _, _, _, _, _, ["node", "found", "point"], ["node", "found", "point"], fdt, F, ⟨rfl, rfl, rfl, by decide +kernel, rfl, by decide +kernel, by decide +kernel⟩, rfl, rfl, ok_node_worth, bindsZ0 rfl (FunD.bindsN (ps := ["node", "found", "point"]) F fun _ _ _ _ _ _ us hl => match us, hl with | [_, _, _], _ => rfl)⟩
theorem df_combine_stretches {K : PySem.W.Frag} {w : World} (c : SaysZ pdat K) : DefF K (th K w) tdat.tb 28 fd_combine_stretches := by
  obtain ⟨fdt, F⟩ := c.def_ (i := 28) (q := ⟨dd_combine_stretches, fd_combine_stretches⟩) rfl
  exact ⟨_, _, _, _, _, _, _, ["kind", "one", "two"], ["kind", "one", "two"], fdt, F, ⟨rfl, rfl, rfl, by decide +kernel, rfl, by decide +kernel, by decide +kernel⟩, rfl, rfl, ok_combine_stretches, bindsZ0 rfl (FunD.bindsN (ps := ["kind", "one", "two"]) F fun _ _ _ _ _ _ us hl => match us, hl with | [_, _, _], _ => rfl)⟩
theorem df_node_range {K : PySem.W.Frag} {w : World} (c : SaysZ pdat K) : DefF K (th K w) tdat.tb 29 fd_node_range := by
  obtain ⟨fdt, F⟩ := c.def_ (i := 29) (q := ⟨dd_node_range, fd_node_range⟩) rfl
  exact ⟨_, _, _, _, _, _, _, ["node", "found", "box"], ["node", "found", "box"], fdt, F, ⟨rfl, rfl, rfl, by decide +kernel, rfl, by decide +kernel, by decide +kernel⟩, rfl, rfl, ok_node_range, bindsZ0 rfl (FunD.bindsN (ps := ["node", "found", "box"]) F fun _ _ _ _ _ _ us hl => match us, hl with | [_, _, _], _ => rfl)⟩
theorem df_node_weight {K : PySem.W.Frag} {w : World} (c : SaysZ pdat K) : DefF K (th K w) tdat.tb 30 fd_node_weight := by
  obtain ⟨fdt, F⟩ := c.def_ (i := 30) (q := ⟨dd_node_weight, fd_node_weight⟩) rfl
  exact ⟨_, _, _, _, _, _, _, ["node", "found"], ["node", "found"], fdt, F, ⟨rfl, rfl, rfl, by decide +kernel, rfl, by decide +kernel, by decide +kernel⟩, rfl, rfl, ok_node_weight, bindsZ0 rfl (FunD.bindsN (ps := ["node", "found"]) F fun _ _ _ _ _ _ us hl => match us, hl with | [_, _], _ => rfl)⟩
theorem df_valid_name {K : PySem.W.Frag} {w : World} (c : SaysZ pdat K) : DefF K (th K w) tdat.tb 31 fd_valid_name := by
  obtain ⟨fdt, F⟩ := c.def_ (i := 31) (q := ⟨dd_valid_name, fd_valid_name⟩) rfl
  exact ⟨_, _, _, _, _, _, _, ["name", "sign"], ["name"], fdt, F, ⟨rfl, rfl, rfl, by decide +kernel, rfl, by decide +kernel, by decide +kernel⟩, rfl, rfl, ok_valid_name, bindsZ0 rfl (FunD.bindsN (ps := ["name"]) F fun _ _ _ _ _ _ us hl => match us, hl with | [_], _ => rfl)⟩
theorem df_Problemu_initu {K : PySem.W.Frag} {w : World} (c : SaysZ pdat K) : DefF K (th K w) tdat.tb 32 fd_Problemu_initu := by
  obtain ⟨fdt, F⟩ := c.def_ (i := 32) (q := ⟨dd_Problemu_initu, fd_Problemu_initu⟩) rfl
  exact ⟨_, _, _, _, _, _, _, ["self", "letters", "nodes", "ranges", "conditions", "goal"], ["self", "letters", "nodes", "ranges", "conditions", "goal"], fdt, F, ⟨rfl, rfl, rfl, by decide +kernel, rfl, by decide +kernel, by decide +kernel⟩, rfl, rfl, ok_Problemu_initu, bindsZ0 rfl (FunD.bindsN (ps := ["self", "letters", "nodes", "ranges", "conditions", "goal"]) F fun _ _ _ _ _ _ us hl => match us, hl with | [_, _, _, _, _, _], _ => rfl)⟩
theorem df_Builderu_initu {K : PySem.W.Frag} {w : World} (c : SaysZ pdat K) : DefF K (th K w) tdat.tb 33 fd_Builderu_initu := by
  obtain ⟨fdt, F⟩ := c.def_ (i := 33) (q := ⟨dd_Builderu_initu, fd_Builderu_initu⟩) rfl
  exact ⟨_, _, _, _, _, _, _, ["self"], ["self"], fdt, F, ⟨rfl, rfl, rfl, by decide +kernel, rfl, by decide +kernel, by decide +kernel⟩, rfl, rfl, ok_Builderu_initu, bindsZ0 rfl (FunD.bindsN (ps := ["self"]) F fun _ _ _ _ _ _ us hl => match us, hl with | [_], _ => rfl)⟩
theorem df_Builder_letter {K : PySem.W.Frag} {w : World} (c : SaysZ pdat K) : DefF K (th K w) tdat.tb 34 fd_Builder_letter := by
  obtain ⟨fdt, F⟩ := c.def_ (i := 34) (q := ⟨dd_Builder_letter, fd_Builder_letter⟩) rfl
  exact ⟨_, _, _, _, _, _, _, ["self", "name", "kind", "low", "high", "row"], ["self", "name", "kind", "low", "high"], fdt, F, ⟨rfl, rfl, rfl, by decide +kernel, rfl, by decide +kernel, by decide +kernel⟩, rfl, rfl, ok_Builder_letter, bindsZ0 rfl (FunD.bindsN (ps := ["self", "name", "kind", "low", "high"]) F fun _ _ _ _ _ _ us hl => match us, hl with | [_, _, _, _, _], _ => rfl)⟩
theorem df_Builder_number {K : PySem.W.Frag} {w : World} (c : SaysZ pdat K) : DefF K (th K w) tdat.tb 35 fd_Builder_number := by
  obtain ⟨fdt, F⟩ := c.def_ (i := 35) (q := ⟨dd_Builder_number, fd_Builder_number⟩) rfl
  exact ⟨_, _, _, _, _, _, _, ["self", "value"], ["self", "value"], fdt, F, ⟨rfl, rfl, rfl, by decide +kernel, rfl, by decide +kernel, by decide +kernel⟩, rfl, rfl, ok_Builder_number, bindsZ0 rfl (FunD.bindsN (ps := ["self", "value"]) F fun _ _ _ _ _ _ us hl => match us, hl with | [_, _], _ => rfl)⟩
theorem df_Builder_node {K : PySem.W.Frag} {w : World} (c : SaysZ pdat K) : DefF K (th K w) tdat.tb 36 fd_Builder_node := by
  obtain ⟨fdt, F⟩ := c.def_ (i := 36) (q := ⟨dd_Builder_node, fd_Builder_node⟩) rfl
  exact ⟨_, _, _, _, _, _, _, ["self", "kind", "one", "two", "parts", "found", "worths_here", "part"], ["self", "kind", "one", "two"], fdt, F, ⟨rfl, rfl, rfl, by decide +kernel, rfl, by decide +kernel, by decide +kernel⟩, rfl, rfl, ok_Builder_node, bindsZ1 (v := .non) rfl (fun _ _ => rfl) (FunD.binds1 (ps := ["self", "kind", "one", "two"]) F 3 0 (by intro h; cases h) rfl fun _ _ _ _ _ _ _ us its h1 h2 => match us, its, h1, h2 with | [_, _, _], [_], _, _ => ⟨_, rfl, rfl⟩) (FunD.binds1 (ps := ["self", "kind", "one", "two"]) F 4 1 (by intro h; cases h) rfl fun _ _ _ _ _ _ _ us its h1 h2 => match us, its, h1, h2 with | [_, _, _, _], [_], _, _ => ⟨_, rfl, rfl⟩)⟩
theorem df_Builderuplace {K : PySem.W.Frag} {w : World} (c : SaysZ pdat K) : DefF K (th K w) tdat.tb 37 fd_Builderuplace := by
  obtain ⟨fdt, F⟩ := c.def_ (i := 37) (q := ⟨dd_Builderuplace, fd_Builderuplace⟩) rfl
  exact ⟨_, _, _, _, _, _, _, ["self", "node", "weight", "box", "row"], ["self", "node"], fdt, F, ⟨rfl, rfl, rfl, by decide +kernel, rfl, by decide +kernel, by decide +kernel⟩, rfl, rfl, ok_Builderuplace, bindsZ0 rfl (FunD.bindsN (ps := ["self", "node"]) F fun _ _ _ _ _ _ us hl => match us, hl with | [_, _], _ => rfl)⟩
theorem df_Builder_keep {K : PySem.W.Frag} {w : World} (c : SaysZ pdat K) : DefF K (th K w) tdat.tb 38 fd_Builder_keep := by
  obtain ⟨fdt, F⟩ := c.def_ (i := 38) (q := ⟨dd_Builder_keep, fd_Builder_keep⟩) rfl
  exact ⟨_, _, _, _, _, _, _, ["self", "node"], ["self", "node"], fdt, F, ⟨rfl, rfl, rfl, by decide +kernel, rfl, by decide +kernel, by decide +kernel⟩, rfl, rfl, ok_Builder_keep, bindsZ0 rfl (FunD.bindsN (ps := ["self", "node"]) F fun _ _ _ _ _ _ us hl => match us, hl with | [_, _], _ => rfl)⟩
theorem df_Builder_least {K : PySem.W.Frag} {w : World} (c : SaysZ pdat K) : DefF K (th K w) tdat.tb 39 fd_Builder_least := by
  obtain ⟨fdt, F⟩ := c.def_ (i := 39) (q := ⟨dd_Builder_least, fd_Builder_least⟩) rfl
  exact ⟨_, _, _, _, _, _, _, ["self", "node"], ["self", "node"], fdt, F, ⟨rfl, rfl, rfl, by decide +kernel, rfl, by decide +kernel, by decide +kernel⟩, rfl, rfl, ok_Builder_least, bindsZ0 rfl (FunD.bindsN (ps := ["self", "node"]) F fun _ _ _ _ _ _ us hl => match us, hl with | [_, _], _ => rfl)⟩
theorem df_Builder_problem {K : PySem.W.Frag} {w : World} (c : SaysZ pdat K) : DefF K (th K w) tdat.tb 40 fd_Builder_problem := by
  obtain ⟨fdt, F⟩ := c.def_ (i := 40) (q := ⟨dd_Builder_problem, fd_Builder_problem⟩) rfl
  exact ⟨_, _, _, _, _, _, _, ["self", "order", "places", "nodes", "ranges", "conditions", "k", "at"], ["self"], fdt, F, ⟨rfl, rfl, rfl, by decide +kernel, rfl, by decide +kernel, by decide +kernel⟩, rfl, rfl, ok_Builder_problem, bindsZ0 rfl (FunD.bindsN (ps := ["self"]) F fun _ _ _ _ _ _ us hl => match us, hl with | [_], _ => rfl)⟩
theorem df_Builderuorder {K : PySem.W.Frag} {w : World} (c : SaysZ pdat K) : DefF K (th K w) tdat.tb 41 fd_Builderuorder := by
  obtain ⟨fdt, F⟩ := c.def_ (i := 41) (q := ⟨dd_Builderuorder, fd_Builderuorder⟩) rfl
  exact ⟨_, _, _, _, _, _, _, ["self", "order", "done", "root_node", "waiting", "k", "at", "open_parts", "part"], ["self"], fdt, F, ⟨rfl, rfl, rfl, by decide +kernel, rfl, by decide +kernel, by decide +kernel⟩, rfl, rfl, ok_Builderuorder, bindsZ0 rfl (FunD.bindsN (ps := ["self"]) F fun _ _ _ _ _ _ us hl => match us, hl with | [_], _ => rfl)⟩
theorem df_too_long {K : PySem.W.Frag} {w : World} (c : SaysZ pdat K) : DefF K (th K w) tdat.tb 42 fd_too_long := by
  obtain ⟨fdt, F⟩ := c.def_ (i := 42) (q := ⟨dd_too_long, fd_too_long⟩) rfl
  exact ⟨_, _, _, _, _, _, _, ["value"], ["value"], fdt, F, ⟨rfl, rfl, rfl, by decide +kernel, rfl, by decide +kernel, by decide +kernel⟩, rfl, rfl, ok_too_long, bindsZ0 rfl (FunD.bindsN (ps := ["value"]) F fun _ _ _ _ _ _ us hl => match us, hl with | [_], _ => rfl)⟩
theorem df_worths {K : PySem.W.Frag} {w : World} (c : SaysZ pdat K) : DefF K (th K w) tdat.tb 43 fd_worths := by
  obtain ⟨fdt, F⟩ := c.def_ (i := 43) (q := ⟨dd_worths, fd_worths⟩) rfl
  exact ⟨_, _, _, _, _, _, _, ["problem", "point", "found", "node"], ["problem", "point"], fdt, F, ⟨rfl, rfl, rfl, by decide +kernel, rfl, by decide +kernel, by decide +kernel⟩, rfl, rfl, ok_worths, bindsZ0 rfl (FunD.bindsN (ps := ["problem", "point"]) F fun _ _ _ _ _ _ us hl => match us, hl with | [_, _], _ => rfl)⟩
theorem df_uses {K : PySem.W.Frag} {w : World} (c : SaysZ pdat K) : DefF K (th K w) tdat.tb 44 fd_uses := by
  obtain ⟨fdt, F⟩ := c.def_ (i := 44) (q := ⟨dd_uses, fd_uses⟩) rfl
  exact ⟨_, _, _, _, _, _, _, ["problem", "found", "node", "inner", "part", "k"], ["problem"], fdt, F, ⟨rfl, rfl, rfl, by decide +kernel, rfl, by decide +kernel, by decide +kernel⟩, rfl, rfl, ok_uses, bindsZ0 rfl (FunD.bindsN (ps := ["problem"]) F fun _ _ _ _ _ _ us hl => match us, hl with | [_], _ => rfl)⟩
theorem df_problem_key {K : PySem.W.Frag} {w : World} (c : SaysZ pdat K) : DefF K (th K w) tdat.tb 45 fd_problem_key := by
  obtain ⟨fdt, F⟩ := c.def_ (i := 45) (q := ⟨dd_problem_key, fd_problem_key⟩) rfl
  exact ⟨_, _, _, _, _, _, _, ["problem"], ["problem"], fdt, F, ⟨rfl, rfl, rfl, by decide +kernel, rfl, by decide +kernel, by decide +kernel⟩, rfl, rfl, ok_problem_key, bindsZ0 rfl (FunD.bindsN (ps := ["problem"]) F fun _ _ _ _ _ _ us hl => match us, hl with | [_], _ => rfl)⟩
theorem df__law_jar {K : PySem.W.Frag} {w : World} (c : SaysZ pdat K) : DefF K (th K w) tdat.tb 46 fd__law_jar := by
  obtain ⟨fdt, F⟩ := c.def_ (i := 46) (q := ⟨dd__law_jar, fd__law_jar⟩) rfl
  exact ⟨_, _, _, _, _, _, _, ["script", "great", "mix", "cell"], ["script"], fdt, F, ⟨rfl, rfl, rfl, by decide +kernel, rfl, by decide +kernel, by decide +kernel⟩, rfl, rfl, ok__law_jar, bindsZ0 rfl (FunD.bindsN (ps := ["script"]) F fun _ _ _ _ _ _ us hl => match us, hl with | [_], _ => rfl)⟩
theorem df__law_draw {K : PySem.W.Frag} {w : World} (c : SaysZ pdat K) : DefF K (th K w) tdat.tb 47 fd__law_draw := by
  obtain ⟨fdt, F⟩ := c.def_ (i := 47) (q := ⟨dd__law_draw, fd__law_draw⟩) rfl
  exact ⟨_, _, _, _, _, _, _, ["jar", "many", "digit"], ["jar", "many"], fdt, F, ⟨rfl, rfl, rfl, by decide +kernel, rfl, by decide +kernel, by decide +kernel⟩, rfl, rfl, ok__law_draw, bindsZ0 rfl (FunD.bindsN (ps := ["jar", "many"]) F fun _ _ _ _ _ _ us hl => match us, hl with | [_, _], _ => rfl)⟩
theorem df__law_low {K : PySem.W.Frag} {w : World} (c : SaysZ pdat K) : DefF K (th K w) tdat.tb 48 fd__law_low := by
  obtain ⟨fdt, F⟩ := c.def_ (i := 48) (q := ⟨dd__law_low, fd__law_low⟩) rfl
  exact ⟨_, _, _, _, _, _, _, ["top", "bottom", "a", "b"], ["top", "bottom"], fdt, F, ⟨rfl, rfl, rfl, by decide +kernel, rfl, by decide +kernel, by decide +kernel⟩, rfl, rfl, ok__law_low, bindsZ0 rfl (FunD.bindsN (ps := ["top", "bottom"]) F fun _ _ _ _ _ _ us hl => match us, hl with | [_, _], _ => rfl)⟩
theorem df__law_less {K : PySem.W.Frag} {w : World} (c : SaysZ pdat K) : DefF K (th K w) tdat.tb 49 fd__law_less := by
  obtain ⟨fdt, F⟩ := c.def_ (i := 49) (q := ⟨dd__law_less, fd__law_less⟩) rfl
  exact ⟨_, _, _, _, _, _, _, ["one", "two"], ["one", "two"], fdt, F, ⟨rfl, rfl, rfl, by decide +kernel, rfl, by decide +kernel, by decide +kernel⟩, rfl, rfl, ok__law_less, bindsZ0 rfl (FunD.bindsN (ps := ["one", "two"]) F fun _ _ _ _ _ _ us hl => match us, hl with | [_, _], _ => rfl)⟩
theorem df__law_apply {K : PySem.W.Frag} {w : World} (c : SaysZ pdat K) : DefF K (th K w) tdat.tb 50 fd__law_apply := by
  obtain ⟨fdt, F⟩ := c.def_ (i := 50) (q := ⟨dd__law_apply, fd__law_apply⟩) rfl
  exact ⟨_, _, _, _, _, _, _, ["kind", "one", "two", "found", "k"], ["kind", "one", "two"], fdt, F, ⟨rfl, rfl, rfl, by decide +kernel, rfl, by decide +kernel, by decide +kernel⟩, rfl, rfl, ok__law_apply, bindsZ0 rfl (FunD.bindsN (ps := ["kind", "one", "two"]) F fun _ _ _ _ _ _ us hl => match us, hl with | [_, _, _], _ => rfl)⟩
theorem df__law_letters {K : PySem.W.Frag} {w : World} (c : SaysZ pdat K) : DefF K (th K w) tdat.tb 51 fd__law_letters := by
  obtain ⟨fdt, F⟩ := c.def_ (i := 51) (q := ⟨dd__law_letters, fd__law_letters⟩) rfl
  exact ⟨_, _, _, _, _, _, _, ["jar", "names", "start", "letters", "k", "kind", "bottom", "wide", "low"], ["jar"], fdt, F, ⟨rfl, rfl, rfl, by decide +kernel, rfl, by decide +kernel, by decide +kernel⟩, rfl, rfl, ok__law_letters, bindsZ0 rfl (FunD.bindsN (ps := ["jar"]) F fun _ _ _ _ _ _ us hl => match us, hl with | [_], _ => rfl)⟩
theorem df__law_point {K : PySem.W.Frag} {w : World} (c : SaysZ pdat K) : DefF K (th K w) tdat.tb 52 fd__law_point := by
  obtain ⟨fdt, F⟩ := c.def_ (i := 52) (q := ⟨dd__law_point, fd__law_point⟩) rfl
  exact ⟨_, _, _, _, _, _, _, ["jar", "letters", "point", "name", "kind", "low", "high", "wide"], ["jar", "letters"], fdt, F, ⟨rfl, rfl, rfl, by decide +kernel, rfl, by decide +kernel, by decide +kernel⟩, rfl, rfl, ok__law_point, bindsZ0 rfl (FunD.bindsN (ps := ["jar", "letters"]) F fun _ _ _ _ _ _ us hl => match us, hl with | [_, _], _ => rfl)⟩
theorem df__law_terms {K : PySem.W.Frag} {w : World} (c : SaysZ pdat K) : DefF K (th K w) tdat.tb 53 fd__law_terms := by
  obtain ⟨fdt, F⟩ := c.def_ (i := 53) (q := ⟨dd__law_terms, fd__law_terms⟩) rfl
  exact ⟨_, _, _, _, _, _, _, ["jar", "letters", "point", "builder", "terms", "k", "name", "kind", "low", "high", "one", "two", "value", "count", "worth", "both", "j"], ["jar", "letters", "point", "builder"], fdt, F, ⟨rfl, rfl, rfl, by decide +kernel, rfl, by decide +kernel, by decide +kernel⟩, rfl, rfl, ok__law_terms, bindsZ0 rfl (FunD.bindsN (ps := ["jar", "letters", "point", "builder"]) F fun _ _ _ _ _ _ us hl => match us, hl with | [_, _, _, _], _ => rfl)⟩
theorem df__law_parts {K : PySem.W.Frag} {w : World} (c : SaysZ pdat K) : DefF K (th K w) tdat.tb 54 fd__law_parts := by
  obtain ⟨fdt, F⟩ := c.def_ (i := 54) (q := ⟨dd__law_parts, fd__law_parts⟩) rfl
  exact ⟨_, _, _, _, _, _, _, ["node"], ["node"], fdt, F, ⟨rfl, rfl, rfl, by decide +kernel, rfl, by decide +kernel, by decide +kernel⟩, rfl, rfl, ok__law_parts, bindsZ0 rfl (FunD.bindsN (ps := ["node"]) F fun _ _ _ _ _ _ us hl => match us, hl with | [_], _ => rfl)⟩
theorem df__law_shaped {K : PySem.W.Frag} {w : World} (c : SaysZ pdat K) : DefF K (th K w) tdat.tb 55 fd__law_shaped := by
  obtain ⟨fdt, F⟩ := c.def_ (i := 55) (q := ⟨dd__law_shaped, fd__law_shaped⟩) rfl
  exact ⟨_, _, _, _, _, _, _, ["problem", "count", "t", "part"], ["problem", "count"], fdt, F, ⟨rfl, rfl, rfl, by decide +kernel, rfl, by decide +kernel, by decide +kernel⟩, rfl, rfl, ok__law_shaped, bindsZ0 rfl (FunD.bindsN (ps := ["problem", "count"]) F fun _ _ _ _ _ _ us hl => match us, hl with | [_, _], _ => rfl)⟩
theorem df__law_order {K : PySem.W.Frag} {w : World} (c : SaysZ pdat K) : DefF K (th K w) tdat.tb 56 fd__law_order := by
  obtain ⟨fdt, F⟩ := c.def_ (i := 56) (q := ⟨dd__law_order, fd__law_order⟩) rfl
  exact ⟨_, _, _, _, _, _, _, ["problem", "count", "order", "start", "waiting", "step", "missing", "done", "part"], ["problem", "count"], fdt, F, ⟨rfl, rfl, rfl, by decide +kernel, rfl, by decide +kernel, by decide +kernel⟩, rfl, rfl, ok__law_order, bindsZ0 rfl (FunD.bindsN (ps := ["problem", "count"]) F fun _ _ _ _ _ _ us hl => match us, hl with | [_, _], _ => rfl)⟩
theorem df__law_worths_right {K : PySem.W.Frag} {w : World} (c : SaysZ pdat K) : DefF K (th K w) tdat.tb 57 fd__law_worths_right := by
  obtain ⟨fdt, F⟩ := c.def_ (i := 57) (q := ⟨dd__law_worths_right, fd__law_worths_right⟩) rfl
  exact ⟨_, _, _, _, _, _, _, ["problem", "point", "told", "found", "t", "node"], ["problem", "point", "told"], fdt, F, ⟨rfl, rfl, rfl, by decide +kernel, rfl, by decide +kernel, by decide +kernel⟩, rfl, rfl, ok__law_worths_right, bindsZ0 rfl (FunD.bindsN (ps := ["problem", "point", "told"]) F fun _ _ _ _ _ _ us hl => match us, hl with | [_, _, _], _ => rfl)⟩
theorem df_law {K : PySem.W.Frag} {w : World} (c : SaysZ pdat K) : DefF K (th K w) tdat.tb 58 fd_law := by
  obtain ⟨fdt, F⟩ := c.def_ (i := 58) (q := ⟨dd_law, fd_law⟩) rfl
  exact ⟨_, _, _, _, _, _, _, ["script", "jar", "letters", "point", "builder", "terms", "kept", "goal", "term", "problem", "key", "told", "used", "k"], ["script"], fdt, F, ⟨rfl, rfl, rfl, by decide +kernel, rfl, by decide +kernel, by decide +kernel⟩, rfl, rfl, ok_law, bindsZ0 rfl (FunD.bindsN (ps := ["script"]) F fun _ _ _ _ _ _ us hl => match us, hl with | [_], _ => rfl)⟩
theorem df_all {K : PySem.W.Frag} {w : World} (c : SaysZ pdat K) : ∀ f fd, pdat.p.defs f = some fd → DefF K (th K w) tdat.tb f fd := fun f fd h => match f, h with
  | 0, h => by cases h; exact df_ratio c
  | 1, h => by cases h; exact df_add c
  | 2, h => by cases h; exact df_sub c
  | 3, h => by cases h; exact df_mul c
  | 4, h => by cases h; exact df_div c
  | 5, h => by cases h; exact df_negate c
  | 6, h => by cases h; exact df_size c
  | 7, h => by cases h; exact df_power c
  | 8, h => by cases h; exact df_upto c
  | 9, h => by cases h; exact df_lesser c
  | 10, h => by cases h; exact df_greater c
  | 11, h => by cases h; exact df_floor c
  | 12, h => by cases h; exact df_ceil c
  | 13, h => by cases h; exact df_point_stretch c
  | 14, h => by cases h; exact df_add_stretches c
  | 15, h => by cases h; exact df_sub_stretches c
  | 16, h => by cases h; exact df_negate_stretch c
  | 17, h => by cases h; exact df_mul_stretches c
  | 18, h => by cases h; exact df_has_zero c
  | 19, h => by cases h; exact df_div_stretches c
  | 20, h => by cases h; exact df_power_stretch c
  | 21, h => by cases h; exact df_abs_stretch c
  | 22, h => by cases h; exact df_max_stretches c
  | 23, h => by cases h; exact df_min_stretches c
  | 24, h => by cases h; exact df_arguments c
  | 25, h => by cases h; exact df_moved_node c
  | 26, h => by cases h; exact df_combine c
  | 27, h => by cases h; exact df_node_worth c
  | 28, h => by cases h; exact df_combine_stretches c
  | 29, h => by cases h; exact df_node_range c
  | 30, h => by cases h; exact df_node_weight c
  | 31, h => by cases h; exact df_valid_name c
  | 32, h => by cases h; exact df_Problemu_initu c
  | 33, h => by cases h; exact df_Builderu_initu c
  | 34, h => by cases h; exact df_Builder_letter c
  | 35, h => by cases h; exact df_Builder_number c
  | 36, h => by cases h; exact df_Builder_node c
  | 37, h => by cases h; exact df_Builderuplace c
  | 38, h => by cases h; exact df_Builder_keep c
  | 39, h => by cases h; exact df_Builder_least c
  | 40, h => by cases h; exact df_Builder_problem c
  | 41, h => by cases h; exact df_Builderuorder c
  | 42, h => by cases h; exact df_too_long c
  | 43, h => by cases h; exact df_worths c
  | 44, h => by cases h; exact df_uses c
  | 45, h => by cases h; exact df_problem_key c
  | 46, h => by cases h; exact df__law_jar c
  | 47, h => by cases h; exact df__law_draw c
  | 48, h => by cases h; exact df__law_low c
  | 49, h => by cases h; exact df__law_less c
  | 50, h => by cases h; exact df__law_apply c
  | 51, h => by cases h; exact df__law_letters c
  | 52, h => by cases h; exact df__law_point c
  | 53, h => by cases h; exact df__law_terms c
  | 54, h => by cases h; exact df__law_parts c
  | 55, h => by cases h; exact df__law_shaped c
  | 56, h => by cases h; exact df__law_order c
  | 57, h => by cases h; exact df__law_worths_right c
  | 58, h => by cases h; exact df_law c
  | n + 59, h => by
    have h : ((pdat.defs[n + 59]?).map (·.fd)) = some fd := h
    rw [List.getElem?_eq_none (by show 59 ≤ n + 59; omega)] at h
    cases h
end Z
end

section
set_option Elab.async false
set_option linter.all false
set_option maxRecDepth 100000
set_option maxHeartbeats 0
namespace Z
open PySem L2
abbrev RR : PySem.W.OpenRow := PySem.W.OpenLaw.row PySem.Challenge.rw_leastinbox_k86_canonical_worths
def looseN : List Str := (["LeastError", "BadName", "BadStretch", "EmptyRange", "BadPower", "BadQuotient", "NoGoal", "TooMany", "ZERO", "ONE", "ratio", "add", "sub", "mul", "div", "negate", "size", "power", "upto", "lesser", "greater", "floor", "ceil", "point_stretch", "add_stretches", "sub_stretches", "negate_stretch", "mul_stretches", "has_zero", "div_stretches"] : List Str) ++ (["power_stretch", "abs_stretch", "max_stretches", "min_stretches", "arguments", "moved_node", "combine", "node_worth", "combine_stretches", "node_range", "node_weight", "RESERVED", "FIRST_SIGNS", "LATER_SIGNS", "BEYOND", "valid_name", "Problem", "Builder", "too_long", "worths", "uses", "problem_key", "_law_jar", "_law_draw", "_law_low", "_law_less", "_law_apply", "_law_letters", "_law_point", "_law_terms"] : List Str) ++ (["_law_parts", "_law_shaped", "_law_order", "_law_worths_right"] : List Str)
abbrev hk : PySem.W.Hook := hookZ 5 pdat
def ob (s : PySem.W.SharedT) : He.AlD := obsZG 5 pdat (HandSHeadRun.getT s)
theorem ob_eq (s : PySem.W.SharedT) : ob s = hk.obs s.abs := obsZG_eq (HandSHeadRun.getT_eq s)
theorem runTop (w : World) : HandSHeadRun.RunEqI RR (PySem.W.view RR.prog [0, 71]) hk ob 8000 looseN w := by
  unfold HandSHeadRun.RunEqI
  kernel_rfl
end Z
end

section
set_option Elab.async false
set_option linter.all false
set_option maxRecDepth 100000
set_option maxHeartbeats 0
namespace Z
open PySem L2
/-- what is left: the law answers True -/
def Comp : Prop := ∀ ns : List Int, ns.length ≤ 63 → ∃ S, callK pdat.p 12 58 [.rol (ns.map .int)] [] = .ok (.bl true) S
theorem law_facts (w : World) (mg : Str → Option Value) (h : Heap) (K : PySem.W.Frag) (KX : K.In h) (c : SaysZ pdat K) (G : h.Ns mainGlobals mg) : mg "law" = some (.ref ((th K w).fA 58)) ∧
      ∃ (qual nm : Str) (params : Arguments) (body : List Stmt) (scope : Scope) (fdt : FuncData), FunD K nm qual params body scope [] [] ((th K w).fA 58) fdt ∧ FnScope ["script", "jar", "letters", "point", "builder", "terms", "kept", "goal", "term", "problem", "key", "told", "used", "k"] ["script"] scope ∧ OkSs ⟨["script", "jar", "letters", "point", "builder", "terms", "kept", "goal", "term", "problem", "key", "told", "used", "k"], scope, tdat.tb, fun _ => true⟩ body fd_law.body ∧ ∀ (s : Shared) (u : Value), BindsTo s fdt ⟨[u], []⟩ [("script", u)] := by
  have T := c.stat (w := w) KX G pdat_nd pdat_sz (by decide +kernel)
  refine ⟨(T.df "law" 58 (by decide +kernel)).1, ?_⟩
  obtain ⟨fdt, F⟩ := c.def_ (i := 58) (q := ⟨dd_law, fd_law⟩) rfl
  have b := FunD.bindsA (ps := ["script"]) F fun _ _ _ _ _ _ us hl => match us, hl with | [_], _ => rfl
  exact ⟨_, _, _, _, _, fdt, F, ⟨rfl, rfl, rfl, by decide +kernel, rfl, by decide +kernel, by decide +kernel⟩, ok_law, fun s u => b s [u] rfl⟩
open PySem PySem.W PySem.Calls PyProof.Rows in
theorem holds_of (comp : Comp) : PySem.Challenge.rw_leastinbox_k86_canonical_worths.Holds := by
  w_on; o_law
  refine HandSHeadRun.head_imp (r := RR) (q := view RR.prog [0, 71]) (H := hk) (ob := ob) (M := 8000) (loose := looseN) (d := HandSHeadRun.topDef RR.prog 71) (kwd := []) ob_eq runTop (by kernel_rfl) (by kernel_rfl) (by kernel_rfl) (by rfl) (by first | assumption | decide +kernel) (by decide +kernel) ⟨rfl, rfl, rfl, rfl, rfl, by decide +kernel⟩ ?hw ?hc
  case hw => w_witness2
  case hc =>
    refine endZ (l := PySem.Challenge.rw_leastinbox_k86_canonical_worths) (Θ := fun K w => th K w) (p := pdat.p) (tb := tdat.tb) (n := 11) (li := 58) (fdl := fd_law) (N := ["script", "jar", "letters", "point", "builder", "terms", "kept", "goal", "term", "problem", "key", "told", "used", "k"]) (x := "script") rfl (by kernel_rfl) ⟨rfl, by decide, by decide⟩ ?_ (fun _ _ => rfl) rfl rfl rfl comp
    intro w mg h Y G
    obtain ⟨K, KX, c⟩ := Y
    obtain ⟨h1, h2⟩ := law_facts w mg h K KX c G
    exact ⟨K, KX, c.stat KX G pdat_nd pdat_sz (by decide +kernel), df_all c, h1, h2⟩
end Z
end

section
set_option Elab.async false
set_option linter.all false
set_option maxRecDepth 100000
/-! ZR: the evaluator's equations, for simp. -/
namespace Z
open PySem
section
variable (p : Prg) (c : Nat → List D → Store → R D)
@[simp] theorem ev_k (d ρ S) : ev p c (.k d) ρ S = .ok d S := by unfold ev; rfl
@[simp] theorem ev_v (i) (ρ : Env) (S) : ev p c (.v i) ρ S = (match ρ[i]? with | some (some d) => .ok d S | _ => .bad) := by unfold ev; rfl
@[simp] theorem ev_g (i ρ S) : ev p c (.g i) ρ S = R.of S (p.consts i) := by unfold ev; rfl
@[simp] theorem ev_tup (es ρ S) : ev p c (.tup es) ρ S = (evs p c es ρ S).bind fun ds S1 => if ds.length ≤ line then .ok (.tup ds) S1 else .bad := by rw [ev]
@[simp] theorem ev_lst (es ρ S) : ev p c (.lst es) ρ S = (evs p c es ρ S).bind fun ds S1 => if ds.length ≤ line then .ok (.obj S1.length) (S1 ++ [.lst ds]) else .bad := by rw [ev]
@[simp] theorem ev_dict (t ρ) (S : Store) : ev p c (.dic t) ρ S = .ok (.obj S.length) (S ++ [if t = true then .dit [] else .dic []]) := by rw [ev]
@[simp] theorem ev_bin (op a b ρ S) : ev p c (.bin op a b) ρ S = (ev p c a ρ S).bind fun x S1 => (ev p c b ρ S1).bind fun y S2 => binD op x y S2 := by rw [ev]
@[simp] theorem ev_neg (a ρ S) : ev p c (.neg a) ρ S = (ev p c a ρ S).bind fun x S1 => (match x with | .int i => .ok (.int (-i)) S1 | _ => .bad) := by rw [ev] <;> rfl
@[simp] theorem ev_cmp (op a b ρ S) : ev p c (.cmp op a b) ρ S = (ev p c a ρ S).bind fun x S1 => (ev p c b ρ S1).bind fun y S2 => cmpD op x y S2 := by rw [ev]
@[simp] theorem ev_cmp2 (op op' a b e ρ S) : ev p c (.cmp2 op op' a b e) ρ S = (ev p c a ρ S).bind fun x S1 => (ev p c b ρ S1).bind fun y S2 => (cmpD op x y S2).bind fun z S3 =>
      (match z with
       | .bl true => (ev p c e ρ S3).bind fun w S4 => cmpD op' y w S4
       | .bl false => .ok (.bl false) S3
       | _ => .bad) := by rw [ev] <;> rfl
@[simp] theorem ev_and (a b ρ S) : ev p c (.and a b) ρ S = (ev p c a ρ S).bind fun x S1 => (match truthy S1 x with | some true => ev p c b ρ S1 | some false => .ok x S1 | none => .bad) := by rw [ev] <;> rfl
@[simp] theorem ev_or (a b ρ S) : ev p c (.or a b) ρ S = (ev p c a ρ S).bind fun x S1 => (match truthy S1 x with | some true => .ok x S1 | some false => ev p c b ρ S1 | none => .bad) := by rw [ev] <;> rfl
@[simp] theorem ev_not (a ρ S) : ev p c (.not a) ρ S = (ev p c a ρ S).bind fun x S1 => R.of S1 ((truthy S1 x).map fun b => .bl (!b)) := by rw [ev]
@[simp] theorem ev_ife (t a b ρ S) : ev p c (.ife t a b) ρ S = (evT p c t ρ S).bind fun x S1 => if x = true then ev p c a ρ S1 else ev p c b ρ S1 := by rw [ev]
@[simp] theorem ev_ix (a b ρ S) : ev p c (.ix a b) ρ S = (ev p c a ρ S).bind fun x S1 => (ev p c b ρ S1).bind fun y S2 => ixD x y S2 := by rw [ev]
@[simp] theorem ev_sl (a lo hi ρ S) : ev p c (.sl a lo hi) ρ S = (ev p c a ρ S).bind fun x S1 => (evO p c lo ρ S1).bind fun l S2 => (evO p c hi ρ S2).bind fun h S3 => slD x l h S3 := by rw [ev]
@[simp] theorem ev_fld (a f ρ S) : ev p c (.fld a f) ρ S = (ev p c a ρ S).bind fun x S1 => R.of S1 (fldD p x f S1) := by rw [ev]
@[simp] theorem ev_call (f es ρ S) : ev p c (.call f es) ρ S = (evs p c es ρ S).bind fun ds S1 => c f ds S1 := by rw [ev]
@[simp] theorem ev_new (C es ρ S) : ev p c (.new C es) ρ S = (evs p c es ρ S).bind fun ds S1 => (match p.ini C with
      | some f => (c f (.obj S1.length :: ds) (S1 ++ [.ins C []])).bind fun x S2 => (match x with | .non => .ok (.obj S1.length) S2 | _ => .bad)
      | none => .bad) := by rw [ev] <;> rfl
@[simp] theorem ev_meth (a m es ρ S) : ev p c (.meth a m es) ρ S = (ev p c a ρ S).bind fun x S1 => (match methD p x m S1 with
      | some f => (evs p c es ρ S1).bind fun ds S2 => c f (x :: ds) S2
      | none => .bad) := by rw [ev] <;> rfl
@[simp] theorem ev_blt (f es ρ S) : ev p c (.blt f es) ρ S = (evs p c es ρ S).bind fun ds S1 => bltD f ds S1 := by rw [ev]
@[simp] theorem ev_bm (a m es ρ S) : ev p c (.bm a m es) ρ S = (ev p c a ρ S).bind fun x S1 => if bmT m x S1 = true then (evs p c es ρ S1).bind fun ds S2 => bmD m x ds S2 else .bad := by rw [ev]
@[simp] theorem ev_isT (a t ρ S) : ev p c (.isT a t) ρ S = (ev p c a ρ S).bind fun x S1 => R.of S1 ((isTD x t S1).map .bl) := by rw [ev]
@[simp] theorem ev_lrng (es ρ S) : ev p c (.lrng es) ρ S = (evs p c es ρ S).bind fun ds S1 => (match rngSrc ds with
      | some src => if src.ds.length ≤ line then .ok (.obj S1.length) (S1 ++ [.lst src.ds]) else .bad
      | none => .bad) := by rw [ev] <;> rfl
@[simp] theorem ev_lc (own elt g it t ρ S) : ev p c (.lc own elt g it t) ρ S = (evI p c it ρ S).bind fun src S1 => lcLoop src g own S1.length (evT p c t) (ev p c elt) ρ src.ds (S1 ++ [.lst []]) := by rw [ev]
@[simp] theorem ev_dc (own kx vx g it t ρ S) : ev p c (.dc own kx vx g it t) ρ S = (evI p c it ρ S).bind fun src S1 => dcLoop src g own S1.length (evT p c t) (ev p c kx) (ev p c vx) ρ src.ds (S1 ++ [.dic []]) := by rw [ev]
@[simp] theorem evs_nil (ρ S) : evs p c .nil ρ S = .ok [] S := by unfold evs; rfl
@[simp] theorem evs_cons (e es ρ S) : evs p c (.cons e es) ρ S = (ev p c e ρ S).bind fun x S1 => (evs p c es ρ S1).bind fun xs S2 => .ok (x :: xs) S2 := by rw [evs]
@[simp] theorem evO_none (ρ S) : evO p c .none ρ S = .ok none S := by unfold evO; rfl
@[simp] theorem evO_some (e ρ S) : evO p c (.some e) ρ S = (ev p c e ρ S).bind fun x S1 => (match x with | .int i => .ok (some i) S1 | _ => .bad) := by rw [evO] <;> rfl
@[simp] theorem evT_val (e ρ S) : evT p c (.val e) ρ S = (ev p c e ρ S).bind fun x S1 => R.of S1 (truthy S1 x) := by rw [evT]
@[simp] theorem evT_and (a b ρ S) : evT p c (.and a b) ρ S = (evT p c a ρ S).bind fun x S1 => if x = true then evT p c b ρ S1 else .ok false S1 := by rw [evT]
@[simp] theorem evT_or (a b ρ S) : evT p c (.or a b) ρ S = (evT p c a ρ S).bind fun x S1 => if x = true then .ok true S1 else evT p c b ρ S1 := by rw [evT]
@[simp] theorem evT_not (a ρ S) : evT p c (.not a) ρ S = (evT p c a ρ S).bind fun x S1 => .ok (!x) S1 := by rw [evT]
@[simp] theorem evT_yes (ρ S) : evT p c .yes ρ S = .ok true S := by unfold evT; rfl
@[simp] theorem evI_seq (e ρ S) : evI p c (.seq e) ρ S = (ev p c e ρ S).bind fun x S1 => R.of S1 (seqSrc S1 x) := by rw [evI]
@[simp] theorem evI_rng (es ρ S) : evI p c (.rng es) ρ S = (evs p c es ρ S).bind fun ds S1 => R.of S1 (rngSrc ds) := by rw [evI]
@[simp] theorem exec_asg (t e ρ S) : exec p c (.asg (.g t) e) ρ S = (ev p c e ρ S).st ρ fun d S1 => (match bindG t d ρ with | some ρ' => .nx ρ' S1 | none => .bad) := by rw [exec] <;> rfl
@[simp] theorem exec_fld (a f e ρ S) : exec p c (.asg (.fld a f) e) ρ S = (ev p c e ρ S).st ρ fun d S1 => (ev p c a ρ S1).st ρ fun x S2 => (match setFld p x f d S2 with | some S3 => .nx ρ S3 | none => .bad) := by rw [exec] <;> rfl
@[simp] theorem exec_sub (a i e ρ S) : exec p c (.asg (.sub a i) e) ρ S = (ev p c e ρ S).st ρ fun d S1 => (ev p c a ρ S1).st ρ fun x S2 => (ev p c i ρ S2).st ρ fun y S3 => (match setD x y d S3 with | some S4 => .nx ρ S4 | none => .bad) := by rw [exec] <;> rfl
@[simp] theorem exec_asg2 (i j e ρ S) : exec p c (.asg2 i j e) ρ S = (ev p c e ρ S).st ρ fun d S1 => .nx ((ρ.set i (some d)).set j (some d)) S1 := by rw [exec]
@[simp] theorem exec_par (i j a b ρ S) : exec p c (.par i j a b) ρ S = (ev p c a ρ S).st ρ fun x S1 => (ev p c b ρ S1).st ρ fun y S2 => .nx ((ρ.set i (some x)).set j (some y)) S2 := by rw [exec]
@[simp] theorem exec_expr (e ρ S) : exec p c (.expr e) ρ S = (ev p c e ρ S).st ρ fun _ S1 => .nx ρ S1 := by rw [exec]
@[simp] theorem exec_ret (e ρ S) : exec p c (.ret e) ρ S = (ev p c e ρ S).st ρ fun d S1 => .ret d S1 := by rw [exec]
@[simp] theorem exec_retN (ρ S) : exec p c .retN ρ S = .ret .non S := by unfold exec; rfl
@[simp] theorem exec_ite (t a b ρ S) : exec p c (.ite t a b) ρ S = (evT p c t ρ S).st ρ fun x S1 => if x = true then execs p c a ρ S1 else execs p c b ρ S1 := by rw [exec]
@[simp] theorem exec_whl (t b ρ S) : exec p c (.whl t b) ρ S = whileR (evT p c t) (execs p c b) ρ S := by rw [exec]
@[simp] theorem exec_for (g it b ρ S) : exec p c (.for g it b) ρ S = (evI p c it ρ S).st ρ fun src S1 => forL src g (execs p c b) src.ds ρ S1 := by rw [exec]
@[simp] theorem exec_brk (ρ S) : exec p c .brk ρ S = .brk ρ S := by unfold exec; rfl
@[simp] theorem exec_cont (ρ S) : exec p c .cont ρ S = .ct ρ S := by unfold exec; rfl
@[simp] theorem exec_pass (ρ S) : exec p c .pass ρ S = .nx ρ S := by unfold exec; rfl
@[simp] theorem execs_nil (ρ S) : execs p c .nil ρ S = .nx ρ S := by unfold execs; rfl
@[simp] theorem execs_cons (s ss ρ S) : execs p c (.cons s ss) ρ S = (exec p c s ρ S).seq (execs p c ss) := by rw [execs]
end
/-! values -/
@[simp] theorem bin_add (i j S) : binD .Add (.int i) (.int j) S = .ok (.int (i + j)) S := (rfl)
@[simp] theorem bin_sub (i j S) : binD .Sub (.int i) (.int j) S = .ok (.int (i - j)) S := (rfl)
theorem bin_mul {i j : Int} (S) (h : mulOk i j = true) : binD .Mult (.int i) (.int j) S = .ok (.int (i * j)) S := by unfold binD; simp [h]
theorem bin_fdiv {i j : Int} (S) (h : divOk j = true) : binD .FloorDiv (.int i) (.int j) S = .ok (.int (i.fdiv j)) S := by unfold binD; simp [h]
theorem bin_mod {i j : Int} (S) (h : j ≠ 0) : binD .Mod (.int i) (.int j) S = .ok (.int (i.fmod j)) S := by unfold binD; simp [h]
@[simp] theorem cmp_lt (i j S) : cmpD .Lt (.int i) (.int j) S = .ok (.bl (decide (i < j))) S := (rfl)
@[simp] theorem cmp_le (i j S) : cmpD .LtE (.int i) (.int j) S = .ok (.bl (decide (i ≤ j))) S := (rfl)
@[simp] theorem cmp_gt (i j S) : cmpD .Gt (.int i) (.int j) S = .ok (.bl (decide (j < i))) S := (rfl)
@[simp] theorem cmp_ge (i j S) : cmpD .GtE (.int i) (.int j) S = .ok (.bl (decide (j ≤ i))) S := (rfl)
theorem eqD_pl {d e : D} (S) (h : d.pl = true) (g : e.pl = true) : eqD S d e = some (decide (d = e)) := by unfold eqD; simp [h, g]
@[simp] theorem cmp_eq_int (i j S) : cmpD .Eq (.int i) (.int j) S = .ok (.bl (decide (i = j))) S := by
  show R.of S ((eqD S (.int i) (.int j)).map D.bl) = _
  rw [eqD_pl S rfl rfl]; simp
@[simp] theorem cmp_eq_str (i j S) : cmpD .Eq (.str i) (.str j) S = .ok (.bl (decide (i = j))) S := by
  show R.of S ((eqD S (.str i) (.str j)).map D.bl) = _
  rw [eqD_pl S rfl rfl]; simp
theorem cmp_eq_pl {d e : D} (S) (h : d.pl = true) (g : e.pl = true) : cmpD .Eq d e S = .ok (.bl (decide (d = e))) S := by
  show R.of S ((eqD S d e).map D.bl) = _
  rw [eqD_pl S h g]; simp
theorem cmp_ne_pl {d e : D} (S) (h : d.pl = true) (g : e.pl = true) : cmpD .NotEq d e S = .ok (.bl (!decide (d = e))) S := by
  show R.of S ((eqD S d e).map fun b => D.bl (!b)) = _
  rw [eqD_pl S h g]; simp
@[simp] theorem cmp_is (x S) : cmpD .Is x .non S = .ok (.bl (decide (x = .non))) S := (rfl)
@[simp] theorem cmp_isnot (x S) : cmpD .IsNot x .non S = .ok (.bl (!decide (x = .non))) S := (rfl)
@[simp] theorem truthy_bl (b S) : truthy S (.bl b) = some b := (rfl)
@[simp] theorem atI_0 {α : Type} (ds : List α) : L2.atI ds 0 = ds[0]? := by
  unfold L2.atI L2.ixN
  cases ds <;> simp
theorem atI_nat {α : Type} (ds : List α) (n : Nat) : L2.atI ds (n : Int) = ds[n]? := by
  unfold L2.atI L2.ixN
  by_cases h : n < ds.length
  · simp [h]
  · simp [h]
@[simp] theorem atI_1 {α : Type} (ds : List α) : L2.atI ds 1 = ds[1]? := atI_nat ds 1
@[simp] theorem atI_2 {α : Type} (ds : List α) : L2.atI ds 2 = ds[2]? := atI_nat ds 2
@[simp] theorem atI_3 {α : Type} (ds : List α) : L2.atI ds 3 = ds[3]? := atI_nat ds 3
@[simp] theorem atI_4 {α : Type} (ds : List α) : L2.atI ds 4 = ds[4]? := atI_nat ds 4
@[simp] theorem ixD_tup (ds i S) : ixD (.tup ds) (.int i) S = R.of S (L2.atI ds i) := (rfl)
@[simp] theorem ixD_rol (ds i S) : ixD (.rol ds) (.int i) S = R.of S (L2.atI ds i) := (rfl)
theorem ixD_lst {n : Nat} {ds : List D} {S : Store} (i : Int) (h : S[n]? = some (.lst ds)) : ixD (.obj n) (.int i) S = R.of S (L2.atI ds i) := by unfold ixD; simp [h]
@[simp] theorem fin_nx (n ρ S) : fin n (.nx ρ S) = .ok .non (gc n true S) := (rfl)
@[simp] theorem fin_ret (n d S) : fin n (.ret d S) = .ok d (gc n (d.lo n) S) := (rfl)
theorem gc_same (S : Store) (b : Bool) : gc S.length b S = S := by
  unfold gc
  split
  · exact List.take_length
  · rfl
@[simp] theorem bindG_one (i d) (ρ : Env) : bindG (.one i) d ρ = some (ρ.set i (some d)) := (rfl)
@[simp] theorem line_ok {n : Nat} : (n ≤ line) = (n ≤ 16777216) := (rfl)
/-! loops -/
@[simp] theorem stays_none (ds S) : Src.stays ⟨none, ds⟩ S = true := (rfl)
theorem stays_some {n : Nat} {ds : List D} {S : Store} (h : S[n]? = some (.lst ds)) : Src.stays ⟨some n, ds⟩ S = true := by unfold Src.stays; simp [h]
theorem forL_cons (src g b d ds ρ S) : forL src g b (d :: ds) ρ S = if src.stays S then (match bindG g d ρ with | some ρ' => (b ρ' S).turn (forL src g b ds) .nx | none => .bad) else .bad := by rw [forL] <;> rfl
theorem forL_nil (src g b ρ S) : forL src g b [] ρ S = if src.stays S then .nx ρ S else .bad := by rw [forL]
@[simp] theorem seqSrc_tup (S ds) : seqSrc S (.tup ds) = some ⟨none, ds⟩ := (rfl)
@[simp] theorem seqSrc_rol (S ds) : seqSrc S (.rol ds) = some ⟨none, ds⟩ := (rfl)
theorem seqSrc_lst {S : Store} {n : Nat} {ds : List D} (h : S[n]? = some (.lst ds)) : seqSrc S (.obj n) = some ⟨some n, ds⟩ := by unfold seqSrc; simp [h]
theorem forL_inv {src : Src} {g : G} {b : Env → Store → RS} (P : Nat → Env → Store → Prop) (ds0 : List D) (hs : ∀ i d ρ S, ds0[i]? = some d → P i ρ S → src.stays S = true ∧ ∃ ρ1, bindG g d ρ = some ρ1 ∧ ∃ ρ' S', (b ρ1 S = .nx ρ' S' ∨ b ρ1 S = .ct ρ' S') ∧ P (i + 1) ρ' S')
    (he : ∀ ρ S, P ds0.length ρ S → src.stays S = true) {ρ : Env} {S : Store} (h0 : P 0 ρ S) : ∃ ρ' S', forL src g b ds0 ρ S = .nx ρ' S' ∧ P ds0.length ρ' S' := by
  have key : ∀ (ds : List D) (i : Nat) (ρ : Env) (S : Store), ds0.drop i = ds → i ≤ ds0.length → P i ρ S → ∃ ρ' S', forL src g b ds ρ S = .nx ρ' S' ∧ P ds0.length ρ' S' := by
    intro ds
    induction ds with
    | nil =>
      intro i ρ S hd hi hP
      have : i = ds0.length := by
        have := List.drop_eq_nil_iff.mp hd
        omega
      subst this
      exact ⟨ρ, S, by rw [forL_nil, if_pos (he ρ S hP)], hP⟩
    | cons d ds ih =>
      intro i ρ S hd hi hP
      have hl : i < ds0.length := by
        rcases Nat.lt_or_ge i ds0.length with h | h
        · exact h
        · rw [List.drop_eq_nil_of_le h] at hd; cases hd
      have hd2 := List.drop_eq_getElem_cons hl
      rw [hd] at hd2
      injection hd2 with e1 e2
      obtain ⟨st, ρ1, hb, ρ', S', hbody, hP'⟩ := hs i d ρ S (by rw [e1]; exact List.getElem?_eq_getElem hl) hP
      obtain ⟨ρ2, S2, h1, h2⟩ := ih (i + 1) ρ' S' e2.symm hl hP'
      refine ⟨ρ2, S2, ?_, h2⟩
      rw [forL_cons, if_pos st, hb]
      dsimp only
      rcases hbody with h | h <;> rw [h] <;> exact h1
  exact key ds0 0 ρ S rfl (Nat.zero_le _) h0
theorem lcLoop_inv {src : Src} {g : G} {own : List Nat} {n : Nat} {t : Env → Store → R Bool} {e : Env → Store → R D} {ρ : Env} (P : Nat → List D → Store → Prop) (ds0 : List D)
    (hs : ∀ i d acc S, ds0[i]? = some d → P i acc S → src.stays S = true ∧ ∃ ρ1, bindG g d (wipeE ρ own) = some ρ1 ∧ ∃ b S1, t ρ1 S = .ok b S1 ∧ (b = false → P (i + 1) acc S1) ∧ (b = true → ∃ y S2, e ρ1 S1 = .ok y S2 ∧ S2[n]? = some (.lst acc) ∧ acc.length < line ∧ P (i + 1) (acc ++ [y]) (S2.set n (.lst (acc ++ [y])))))
    (he : ∀ acc S, P ds0.length acc S → src.stays S = true) {S : Store} (h0 : P 0 [] S) : ∃ acc S', lcLoop src g own n t e ρ ds0 S = .ok (.obj n) S' ∧ P ds0.length acc S' := by
  have key : ∀ (ds : List D) (i : Nat) (acc : List D) (S : Store), ds0.drop i = ds → i ≤ ds0.length → P i acc S → ∃ acc S', lcLoop src g own n t e ρ ds S = .ok (.obj n) S' ∧ P ds0.length acc S' := by
    intro ds
    induction ds with
    | nil =>
      intro i acc S hd hi hP
      have : i = ds0.length := by
        have := List.drop_eq_nil_iff.mp hd
        omega
      subst this
      exact ⟨acc, S, by rw [lcLoop, if_pos (he acc S hP)], hP⟩
    | cons d ds ih =>
      intro i acc S hd hi hP
      have hl : i < ds0.length := by
        rcases Nat.lt_or_ge i ds0.length with h | h
        · exact h
        · rw [List.drop_eq_nil_of_le h] at hd; cases hd
      have hd2 := List.drop_eq_getElem_cons hl
      rw [hd] at hd2
      injection hd2 with e1 e2
      obtain ⟨st, ρ1, hb, b, S1, ht, h1, h2⟩ := hs i d acc S (by rw [e1]; exact List.getElem?_eq_getElem hl) hP
      rw [lcLoop, if_pos st, hb]
      dsimp only
      rw [ht, R.bindN_ok]
      cases b with
      | false =>
        rw [if_neg Bool.false_ne_true]
        exact ih (i + 1) acc S1 e2.symm hl (h1 rfl)
      | true =>
        obtain ⟨y, S2, he2, hn, hlen, hP'⟩ := h2 rfl
        rw [if_pos rfl, he2, R.bindN_ok, hn]
        dsimp only
        rw [if_pos hlen]
        exact ih (i + 1) (acc ++ [y]) _ e2.symm hl hP'
  exact key ds0 0 [] S rfl (Nat.zero_le _) h0
/-- a comprehension that leaves the store as it is -/
theorem lcLoop_pure {src : Src} {g : G} {own : List Nat} {t : Env → Store → R Bool} {e : Env → Store → R D} {ρ : Env} {S0 : Store} (f : D → Option D) (ds0 : List D) (hlen : ds0.length < line) (hst : ∀ acc, src.stays (S0 ++ [.lst acc]) = true)
    (hs : ∀ (i : Nat) d acc, ds0[i]? = some d → ∃ ρ1, bindG g d (wipeE ρ own) = some ρ1 ∧ ∃ b, t ρ1 (S0 ++ [.lst acc]) = .ok b (S0 ++ [.lst acc]) ∧ (b = false → f d = none) ∧ (b = true → ∃ y, e ρ1 (S0 ++ [.lst acc]) = .ok y (S0 ++ [.lst acc]) ∧ f d = some y)) :
    lcLoop src g own S0.length t e ρ ds0 (S0 ++ [.lst []]) = .ok (.obj S0.length) (S0 ++ [.lst (ds0.filterMap f)]) := by
  obtain ⟨acc, S', h1, h2, h3⟩ := lcLoop_inv (src := src) (g := g) (own := own) (n := S0.length) (t := t) (e := e) (ρ := ρ) (fun i acc S => acc = (ds0.take i).filterMap f ∧ S = S0 ++ [.lst acc]) ds0 (fun i d acc S hd ⟨ha, hS⟩ => by
    subst hS
    obtain ⟨ρ1, hb, b, ht, h1, h2⟩ := hs i d acc hd
    have hl := (List.getElem?_eq_some_iff.mp hd).1
    have htk : ds0.take (i + 1) = ds0.take i ++ [d] := by
      rw [List.take_succ, hd]; rfl
    refine ⟨hst acc, ρ1, hb, b, _, ht, fun hb => ⟨by rw [htk, List.filterMap_append, ha]; simp [h1 hb], rfl⟩, fun hb => ?_⟩
    obtain ⟨y, he, hf⟩ := h2 hb
    refine ⟨y, _, he, by simp, ?_, by rw [htk, List.filterMap_append, ha]; simp [hf], ?_⟩
    · have : acc.length ≤ i := by rw [ha]; exact Nat.le_trans (List.length_filterMap_le _ _) (by rw [List.length_take]; omega)
      omega
    · simp) (fun acc S ⟨_, hS⟩ => by subst hS; exact hst acc) (S := S0 ++ [.lst []]) ⟨by simp, rfl⟩
  rw [h1, h3, h2, List.take_length]
/-! the store -/
/-- every thing named stands -/
def Lo (S : Store) : Prop := S.all (M.lo S.length) = true
theorem gc_app {S J : Store} (h : Lo S) : gc S.length true (S ++ J) = S := by
  unfold gc
  have e : (S ++ J).take S.length = S := by simp
  rw [e]
  unfold Lo at h
  simp only [Bool.true_and]
  rw [if_pos h]
theorem gc_take {S : Store} {n : Nat} (h : (S.take n).all (M.lo n) = true) : gc n true S = S.take n := by
  unfold gc; simp [h]
end Z
end

section
set_option Elab.async false
set_option linter.all false
set_option maxRecDepth 100000
namespace Z
open PySem
theorem c_ratio (k : Nat) (x0 x1 : D) (S : Store) : callK pdat.p (k + 1) 0 [x0, x1] S = fin S.length (execs pdat.p (callK pdat.p k) ir_ratio [some (x0), some (x1), none] S) := rfl
theorem c_ratio_1 (k : Nat) (x0 : D) (S : Store) : callK pdat.p (k + 1) 0 [x0] S = fin S.length (execs pdat.p (callK pdat.p k) ir_ratio [some (x0), some (.int (1)), none] S) := rfl
theorem c_add (k : Nat) (x0 x1 : D) (S : Store) : callK pdat.p (k + 1) 1 [x0, x1] S = fin S.length (execs pdat.p (callK pdat.p k) ir_add [some (x0), some (x1)] S) := rfl
theorem c_sub (k : Nat) (x0 x1 : D) (S : Store) : callK pdat.p (k + 1) 2 [x0, x1] S = fin S.length (execs pdat.p (callK pdat.p k) ir_sub [some (x0), some (x1)] S) := rfl
theorem c_mul (k : Nat) (x0 x1 : D) (S : Store) : callK pdat.p (k + 1) 3 [x0, x1] S = fin S.length (execs pdat.p (callK pdat.p k) ir_mul [some (x0), some (x1)] S) := rfl
theorem c_div (k : Nat) (x0 x1 : D) (S : Store) : callK pdat.p (k + 1) 4 [x0, x1] S = fin S.length (execs pdat.p (callK pdat.p k) ir_div [some (x0), some (x1)] S) := rfl
theorem c_negate (k : Nat) (x0 : D) (S : Store) : callK pdat.p (k + 1) 5 [x0] S = fin S.length (execs pdat.p (callK pdat.p k) ir_negate [some (x0)] S) := rfl
theorem c_size (k : Nat) (x0 : D) (S : Store) : callK pdat.p (k + 1) 6 [x0] S = fin S.length (execs pdat.p (callK pdat.p k) ir_size [some (x0)] S) := rfl
theorem c_power (k : Nat) (x0 x1 : D) (S : Store) : callK pdat.p (k + 1) 7 [x0, x1] S = fin S.length (execs pdat.p (callK pdat.p k) ir_power [some (x0), some (x1), none, none, none] S) := rfl
theorem c_upto (k : Nat) (x0 x1 : D) (S : Store) : callK pdat.p (k + 1) 8 [x0, x1] S = fin S.length (execs pdat.p (callK pdat.p k) ir_upto [some (x0), some (x1)] S) := rfl
theorem c_lesser (k : Nat) (x0 x1 : D) (S : Store) : callK pdat.p (k + 1) 9 [x0, x1] S = fin S.length (execs pdat.p (callK pdat.p k) ir_lesser [some (x0), some (x1)] S) := rfl
theorem c_greater (k : Nat) (x0 x1 : D) (S : Store) : callK pdat.p (k + 1) 10 [x0, x1] S = fin S.length (execs pdat.p (callK pdat.p k) ir_greater [some (x0), some (x1)] S) := rfl
theorem c_floor (k : Nat) (x0 : D) (S : Store) : callK pdat.p (k + 1) 11 [x0] S = fin S.length (execs pdat.p (callK pdat.p k) ir_floor [some (x0)] S) := rfl
theorem c_ceil (k : Nat) (x0 : D) (S : Store) : callK pdat.p (k + 1) 12 [x0] S = fin S.length (execs pdat.p (callK pdat.p k) ir_ceil [some (x0)] S) := rfl
theorem c_point_stretch (k : Nat) (x0 : D) (S : Store) : callK pdat.p (k + 1) 13 [x0] S = fin S.length (execs pdat.p (callK pdat.p k) ir_point_stretch [some (x0)] S) := rfl
theorem c_add_stretches (k : Nat) (x0 x1 : D) (S : Store) : callK pdat.p (k + 1) 14 [x0, x1] S = fin S.length (execs pdat.p (callK pdat.p k) ir_add_stretches [some (x0), some (x1)] S) := rfl
theorem c_sub_stretches (k : Nat) (x0 x1 : D) (S : Store) : callK pdat.p (k + 1) 15 [x0, x1] S = fin S.length (execs pdat.p (callK pdat.p k) ir_sub_stretches [some (x0), some (x1)] S) := rfl
theorem c_negate_stretch (k : Nat) (x0 : D) (S : Store) : callK pdat.p (k + 1) 16 [x0] S = fin S.length (execs pdat.p (callK pdat.p k) ir_negate_stretch [some (x0)] S) := rfl
theorem c_mul_stretches (k : Nat) (x0 x1 : D) (S : Store) : callK pdat.p (k + 1) 17 [x0, x1] S = fin S.length (execs pdat.p (callK pdat.p k) ir_mul_stretches [some (x0), some (x1), none, none, none] S) := rfl
theorem c_has_zero (k : Nat) (x0 : D) (S : Store) : callK pdat.p (k + 1) 18 [x0] S = fin S.length (execs pdat.p (callK pdat.p k) ir_has_zero [some (x0)] S) := rfl
theorem c_div_stretches (k : Nat) (x0 x1 : D) (S : Store) : callK pdat.p (k + 1) 19 [x0, x1] S = fin S.length (execs pdat.p (callK pdat.p k) ir_div_stretches [some (x0), some (x1)] S) := rfl
theorem c_power_stretch (k : Nat) (x0 x1 : D) (S : Store) : callK pdat.p (k + 1) 20 [x0, x1] S = fin S.length (execs pdat.p (callK pdat.p k) ir_power_stretch [some (x0), some (x1), none, none] S) := rfl
theorem c_abs_stretch (k : Nat) (x0 : D) (S : Store) : callK pdat.p (k + 1) 21 [x0] S = fin S.length (execs pdat.p (callK pdat.p k) ir_abs_stretch [some (x0)] S) := rfl
theorem c_max_stretches (k : Nat) (x0 x1 : D) (S : Store) : callK pdat.p (k + 1) 22 [x0, x1] S = fin S.length (execs pdat.p (callK pdat.p k) ir_max_stretches [some (x0), some (x1)] S) := rfl
theorem c_min_stretches (k : Nat) (x0 x1 : D) (S : Store) : callK pdat.p (k + 1) 23 [x0, x1] S = fin S.length (execs pdat.p (callK pdat.p k) ir_min_stretches [some (x0), some (x1)] S) := rfl
theorem c_arguments (k : Nat) (x0 : D) (S : Store) : callK pdat.p (k + 1) 24 [x0] S = fin S.length (execs pdat.p (callK pdat.p k) ir_arguments [some (x0)] S) := rfl
theorem c_moved_node (k : Nat) (x0 x1 : D) (S : Store) : callK pdat.p (k + 1) 25 [x0, x1] S = fin S.length (execs pdat.p (callK pdat.p k) ir_moved_node [some (x0), some (x1)] S) := rfl
theorem c_combine (k : Nat) (x0 x1 x2 : D) (S : Store) : callK pdat.p (k + 1) 26 [x0, x1, x2] S = fin S.length (execs pdat.p (callK pdat.p k) ir_combine [some (x0), some (x1), some (x2)] S) := rfl
theorem c_node_worth (k : Nat) (x0 x1 x2 : D) (S : Store) : callK pdat.p (k + 1) 27 [x0, x1, x2] S = fin S.length (execs pdat.p (callK pdat.p k) ir_node_worth [some (x0), some (x1), some (x2)] S) := rfl
theorem c_combine_stretches (k : Nat) (x0 x1 x2 : D) (S : Store) : callK pdat.p (k + 1) 28 [x0, x1, x2] S = fin S.length (execs pdat.p (callK pdat.p k) ir_combine_stretches [some (x0), some (x1), some (x2)] S) := rfl
theorem c_node_range (k : Nat) (x0 x1 x2 : D) (S : Store) : callK pdat.p (k + 1) 29 [x0, x1, x2] S = fin S.length (execs pdat.p (callK pdat.p k) ir_node_range [some (x0), some (x1), some (x2)] S) := rfl
theorem c_node_weight (k : Nat) (x0 x1 : D) (S : Store) : callK pdat.p (k + 1) 30 [x0, x1] S = fin S.length (execs pdat.p (callK pdat.p k) ir_node_weight [some (x0), some (x1)] S) := rfl
theorem c_valid_name (k : Nat) (x0 : D) (S : Store) : callK pdat.p (k + 1) 31 [x0] S = fin S.length (execs pdat.p (callK pdat.p k) ir_valid_name [some (x0), none] S) := rfl
theorem c_Problemu_initu (k : Nat) (x0 x1 x2 x3 x4 x5 : D) (S : Store) : callK pdat.p (k + 1) 32 [x0, x1, x2, x3, x4, x5] S = fin S.length (execs pdat.p (callK pdat.p k) ir_Problemu_initu [some (x0), some (x1), some (x2), some (x3), some (x4), some (x5)] S) := rfl
theorem c_Builderu_initu (k : Nat) (x0 : D) (S : Store) : callK pdat.p (k + 1) 33 [x0] S = fin S.length (execs pdat.p (callK pdat.p k) ir_Builderu_initu [some (x0)] S) := rfl
theorem c_Builder_letter (k : Nat) (x0 x1 x2 x3 x4 : D) (S : Store) : callK pdat.p (k + 1) 34 [x0, x1, x2, x3, x4] S = fin S.length (execs pdat.p (callK pdat.p k) ir_Builder_letter [some (x0), some (x1), some (x2), some (x3), some (x4), none] S) := rfl
theorem c_Builder_number (k : Nat) (x0 x1 : D) (S : Store) : callK pdat.p (k + 1) 35 [x0, x1] S = fin S.length (execs pdat.p (callK pdat.p k) ir_Builder_number [some (x0), some (x1)] S) := rfl
theorem c_Builder_node (k : Nat) (x0 x1 x2 x3 : D) (S : Store) : callK pdat.p (k + 1) 36 [x0, x1, x2, x3] S = fin S.length (execs pdat.p (callK pdat.p k) ir_Builder_node [some (x0), some (x1), some (x2), some (x3), none, none, none, none] S) := rfl
theorem c_Builder_node_1 (k : Nat) (x0 x1 x2 : D) (S : Store) : callK pdat.p (k + 1) 36 [x0, x1, x2] S = fin S.length (execs pdat.p (callK pdat.p k) ir_Builder_node [some (x0), some (x1), some (x2), some (.non), none, none, none, none] S) := rfl
theorem c_Builderuplace (k : Nat) (x0 x1 : D) (S : Store) : callK pdat.p (k + 1) 37 [x0, x1] S = fin S.length (execs pdat.p (callK pdat.p k) ir_Builderuplace [some (x0), some (x1), none, none, none] S) := rfl
theorem c_Builder_keep (k : Nat) (x0 x1 : D) (S : Store) : callK pdat.p (k + 1) 38 [x0, x1] S = fin S.length (execs pdat.p (callK pdat.p k) ir_Builder_keep [some (x0), some (x1)] S) := rfl
theorem c_Builder_least (k : Nat) (x0 x1 : D) (S : Store) : callK pdat.p (k + 1) 39 [x0, x1] S = fin S.length (execs pdat.p (callK pdat.p k) ir_Builder_least [some (x0), some (x1)] S) := rfl
theorem c_Builder_problem (k : Nat) (x0 : D) (S : Store) : callK pdat.p (k + 1) 40 [x0] S = fin S.length (execs pdat.p (callK pdat.p k) ir_Builder_problem [some (x0), none, none, none, none, none, none, none] S) := rfl
theorem c_Builderuorder (k : Nat) (x0 : D) (S : Store) : callK pdat.p (k + 1) 41 [x0] S = fin S.length (execs pdat.p (callK pdat.p k) ir_Builderuorder [some (x0), none, none, none, none, none, none, none, none] S) := rfl
theorem c_too_long (k : Nat) (x0 : D) (S : Store) : callK pdat.p (k + 1) 42 [x0] S = fin S.length (execs pdat.p (callK pdat.p k) ir_too_long [some (x0)] S) := rfl
theorem c_worths (k : Nat) (x0 x1 : D) (S : Store) : callK pdat.p (k + 1) 43 [x0, x1] S = fin S.length (execs pdat.p (callK pdat.p k) ir_worths [some (x0), some (x1), none, none] S) := rfl
theorem c_uses (k : Nat) (x0 : D) (S : Store) : callK pdat.p (k + 1) 44 [x0] S = fin S.length (execs pdat.p (callK pdat.p k) ir_uses [some (x0), none, none, none, none, none] S) := rfl
theorem c_problem_key (k : Nat) (x0 : D) (S : Store) : callK pdat.p (k + 1) 45 [x0] S = fin S.length (execs pdat.p (callK pdat.p k) ir_problem_key [some (x0)] S) := rfl
theorem c__law_jar (k : Nat) (x0 : D) (S : Store) : callK pdat.p (k + 1) 46 [x0] S = fin S.length (execs pdat.p (callK pdat.p k) ir__law_jar [some (x0), none, none, none] S) := rfl
theorem c__law_draw (k : Nat) (x0 x1 : D) (S : Store) : callK pdat.p (k + 1) 47 [x0, x1] S = fin S.length (execs pdat.p (callK pdat.p k) ir__law_draw [some (x0), some (x1), none] S) := rfl
theorem c__law_low (k : Nat) (x0 x1 : D) (S : Store) : callK pdat.p (k + 1) 48 [x0, x1] S = fin S.length (execs pdat.p (callK pdat.p k) ir__law_low [some (x0), some (x1), none, none] S) := rfl
theorem c__law_less (k : Nat) (x0 x1 : D) (S : Store) : callK pdat.p (k + 1) 49 [x0, x1] S = fin S.length (execs pdat.p (callK pdat.p k) ir__law_less [some (x0), some (x1)] S) := rfl
theorem c__law_apply (k : Nat) (x0 x1 x2 : D) (S : Store) : callK pdat.p (k + 1) 50 [x0, x1, x2] S = fin S.length (execs pdat.p (callK pdat.p k) ir__law_apply [some (x0), some (x1), some (x2), none, none] S) := rfl
theorem c__law_letters (k : Nat) (x0 : D) (S : Store) : callK pdat.p (k + 1) 51 [x0] S = fin S.length (execs pdat.p (callK pdat.p k) ir__law_letters [some (x0), none, none, none, none, none, none, none, none] S) := rfl
theorem c__law_point (k : Nat) (x0 x1 : D) (S : Store) : callK pdat.p (k + 1) 52 [x0, x1] S = fin S.length (execs pdat.p (callK pdat.p k) ir__law_point [some (x0), some (x1), none, none, none, none, none, none] S) := rfl
theorem c__law_terms (k : Nat) (x0 x1 x2 x3 : D) (S : Store) : callK pdat.p (k + 1) 53 [x0, x1, x2, x3] S = fin S.length (execs pdat.p (callK pdat.p k) ir__law_terms [some (x0), some (x1), some (x2), some (x3), none, none, none, none, none, none, none, none, none, none, none, none, none] S) := rfl
theorem c__law_parts (k : Nat) (x0 : D) (S : Store) : callK pdat.p (k + 1) 54 [x0] S = fin S.length (execs pdat.p (callK pdat.p k) ir__law_parts [some (x0)] S) := rfl
theorem c__law_shaped (k : Nat) (x0 x1 : D) (S : Store) : callK pdat.p (k + 1) 55 [x0, x1] S = fin S.length (execs pdat.p (callK pdat.p k) ir__law_shaped [some (x0), some (x1), none, none] S) := rfl
theorem c__law_order (k : Nat) (x0 x1 : D) (S : Store) : callK pdat.p (k + 1) 56 [x0, x1] S = fin S.length (execs pdat.p (callK pdat.p k) ir__law_order [some (x0), some (x1), none, none, none, none, none, none, none] S) := rfl
theorem c__law_worths_right (k : Nat) (x0 x1 x2 : D) (S : Store) : callK pdat.p (k + 1) 57 [x0, x1, x2] S = fin S.length (execs pdat.p (callK pdat.p k) ir__law_worths_right [some (x0), some (x1), some (x2), none, none, none] S) := rfl
theorem c_law (k : Nat) (x0 : D) (S : Store) : callK pdat.p (k + 1) 58 [x0] S = fin S.length (execs pdat.p (callK pdat.p k) ir_law [some (x0), none, none, none, none, none, none, none, none, none, none, none, none, none] S) := rfl
end Z
end

section
set_option Elab.async false
set_option linter.all false
set_option maxRecDepth 100000
/-! MA: the program's numbers. -/
namespace Z
open PySem
abbrev Qq := Int × Int
def rq (q : Qq) : D := .tup [.int q.1, .int q.2]
/-! ### sizes -/
def Sm (n : Nat) (i : Int) : Prop := i.natAbs < 2 ^ n
theorem Sm.mono {n m : Nat} {i : Int} (h : Sm n i) (l : n ≤ m) : Sm m i := Nat.lt_of_lt_of_le h (Nat.pow_le_pow_right (by decide) l)
theorem Sm.log {n : Nat} {i : Int} (h : Sm n i) (h0 : 0 < n) : i.natAbs.log2 < n := by
  by_cases hz : i.natAbs = 0
  · rw [hz]; simpa using h0
  · exact (Nat.log2_lt hz).mpr h
theorem mulOk_of {n m : Nat} {i j : Int} (h : Sm n i) (g : Sm m j) (h0 : 0 < n) (g0 : 0 < m) (l : n + m ≤ 1000000) : mulOk i j = true := by
  unfold mulOk
  have := h.log h0
  have := g.log g0
  exact decide_eq_true (by omega)
theorem divOk_of {n : Nat} {j : Int} (h : Sm n j) (h0 : 0 < n) (l : n ≤ 9000) (hz : j ≠ 0) : divOk j = true := by
  unfold divOk
  have := h.log h0
  simp only [Bool.and_eq_true, decide_eq_true_eq]
  exact ⟨hz, by omega⟩
theorem Sm.mul {n m : Nat} {i j : Int} (h : Sm n i) (g : Sm m j) : Sm (n + m) (i * j) := by
  unfold Sm at *
  rw [Int.natAbs_mul, Nat.pow_add]
  by_cases hz : i.natAbs = 0
  · rw [hz, Nat.zero_mul]; exact Nat.mul_pos (Nat.pow_pos (by decide)) (Nat.pow_pos (by decide))
  · exact Nat.mul_lt_mul_of_lt_of_le h (Nat.le_of_lt g) (Nat.pow_pos (by decide)) |> fun z => z
theorem Sm.add {n : Nat} {i j : Int} (h : Sm n i) (g : Sm n j) : Sm (n + 1) (i + j) := by
  unfold Sm at *
  have := Int.natAbs_add_le i j
  rw [Nat.pow_succ]; omega
theorem Sm.sub {n : Nat} {i j : Int} (h : Sm n i) (g : Sm n j) : Sm (n + 1) (i - j) := by
  unfold Sm at *
  have := Int.natAbs_sub_le i j
  rw [Nat.pow_succ]; omega
theorem Sm.neg {n : Nat} {i : Int} (h : Sm n i) : Sm n (-i) := by unfold Sm at *; rw [Int.natAbs_neg]; exact h
theorem Sm.fdiv {n : Nat} {i c : Int} (h : Sm n i) (hd : c ∣ i) : Sm n (i.fdiv c) := by
  obtain ⟨k, rfl⟩ := hd
  by_cases hc : c = 0
  · subst hc; simp [Sm]; exact Nat.pow_pos (by decide)
  · rw [Int.mul_fdiv_cancel_left _ hc]
    unfold Sm at *
    rw [Int.natAbs_mul] at h
    have : 1 ≤ c.natAbs := by omega
    calc k.natAbs = 1 * k.natAbs := by omega
      _ ≤ c.natAbs * k.natAbs := Nat.mul_le_mul_right _ this
      _ < 2 ^ n := h
/-! ### lowest terms -/
def sgc (t b : Int) : Int := if b < 0 then -(Nat.gcd t.natAbs b.natAbs : Nat) else (Nat.gcd t.natAbs b.natAbs : Nat)
def nrm (t b : Int) : Qq := (t.fdiv (sgc t b), b.fdiv (sgc t b))
theorem sgc_ne {t b : Int} (h : b ≠ 0) : sgc t b ≠ 0 := by
  unfold sgc
  have : 0 < Nat.gcd t.natAbs b.natAbs := Nat.gcd_pos_of_pos_right _ (by omega)
  split <;> omega
theorem sgc_dvd_l (t b : Int) : sgc t b ∣ t := by
  unfold sgc
  have h : ((Nat.gcd t.natAbs b.natAbs : Nat) : Int) ∣ t := Int.ofNat_dvd_left.mpr (Nat.gcd_dvd_left _ _)
  split
  · exact Int.neg_dvd.mpr h
  · exact h
theorem sgc_dvd_r (t b : Int) : sgc t b ∣ b := by
  unfold sgc
  have h : ((Nat.gcd t.natAbs b.natAbs : Nat) : Int) ∣ b := Int.ofNat_dvd_left.mpr (Nat.gcd_dvd_right _ _)
  split
  · exact Int.neg_dvd.mpr h
  · exact h
theorem sgc_sm {n : Nat} {t b : Int} (h : Sm n b) (hb : b ≠ 0) : Sm n (sgc t b) := by
  have hg : Nat.gcd t.natAbs b.natAbs ≤ b.natAbs := Nat.gcd_le_right _ (by omega)
  unfold sgc Sm at *
  split <;> omega
/-! ### ratio -/
theorem s_ratio (k : Nat) (t b : Int) (S : Store) (hb : b ≠ 0) (h : Sm 9000 b) : callK pdat.p (k + 1) 0 [.int t, .int b] S = .ok (rq (nrm t b)) S := by
  have hd : divOk (sgc t b) = true := divOk_of (sgc_sm h hb) (by decide) (by decide) (sgc_ne hb)
  rw [c_ratio]
  unfold ir_ratio
  by_cases hneg : b < 0
  · have e : sgc t b = -(Nat.gcd t.natAbs b.natAbs : Nat) := by unfold sgc; rw [if_pos hneg]
    rw [e] at hd
    simp [bltD, hneg, bin_fdiv _ hd, gc_same, rq, nrm, e]
  · have e : sgc t b = (Nat.gcd t.natAbs b.natAbs : Nat) := by unfold sgc; rw [if_neg hneg]
    rw [e] at hd
    simp [bltD, hneg, bin_fdiv _ hd, gc_same, rq, nrm, e]
/-- a number that is small enough, its bottom positive -/
structure In (n : Nat) (q : Qq) : Prop where
  t : Sm n q.1
  b : Sm n q.2
  p : 0 < q.2
theorem In.mono {n m : Nat} {q : Qq} (h : In n q) (l : n ≤ m) : In m q := ⟨h.t.mono l, h.b.mono l, h.p⟩
theorem In.pos {n : Nat} {q : Qq} (h : In n q) : 0 < n := by
  have h1 := h.b
  have h2 := h.p
  unfold Sm at h1
  by_cases hn : n = 0
  · subst hn; simp at h1; omega
  · omega
theorem In.nz {n : Nat} {q : Qq} (h : In n q) : q.2 ≠ 0 := by have := h.p; omega
def qadd (x y : Qq) : Qq := nrm (x.1 * y.2 + y.1 * x.2) (x.2 * y.2)
def qsub (x y : Qq) : Qq := nrm (x.1 * y.2 - y.1 * x.2) (x.2 * y.2)
def qmul (x y : Qq) : Qq := nrm (x.1 * y.1) (x.2 * y.2)
def qdiv (x y : Qq) : Qq := nrm (x.1 * y.2) (x.2 * y.1)
def qneg (x : Qq) : Qq := (-x.1, x.2)
def qabs (x : Qq) : Qq := (x.1.natAbs, x.2)
def qle (x y : Qq) : Prop := x.1 * y.2 ≤ y.1 * x.2
instance (x y : Qq) : Decidable (qle x y) := by unfold qle; infer_instance
def qmin (x y : Qq) : Qq := if qle x y then x else y
def qmax (x y : Qq) : Qq := if qle y x then x else y
def qpow (x : Qq) (n : Nat) : Qq := (x.1 ^ n, x.2 ^ n)
theorem nrm_one (t : Int) : nrm t 1 = (t, 1) := by
  have e : sgc t 1 = 1 := by unfold sgc; simp
  unfold nrm
  rw [e]; simp
section
variable {n m : Nat} {x y : Qq} (hx : In n x) (hy : In m y) (l : n + m ≤ 8000)
include hx hy l
theorem mok1 : mulOk x.1 y.2 = true := mulOk_of hx.t hy.b hx.pos hy.pos (by omega)
theorem mok2 : mulOk y.1 x.2 = true := mulOk_of hy.t hx.b hy.pos hx.pos (by omega)
theorem mok3 : mulOk x.2 y.2 = true := mulOk_of hx.b hy.b hx.pos hy.pos (by omega)
theorem mok4 : mulOk x.1 y.1 = true := mulOk_of hx.t hy.t hx.pos hy.pos (by omega)
theorem mok5 : mulOk x.2 y.1 = true := mulOk_of hx.b hy.t hx.pos hy.pos (by omega)
theorem b_nz : x.2 * y.2 ≠ 0 := Int.mul_ne_zero hx.nz hy.nz
theorem b_sm : Sm 9000 (x.2 * y.2) := (hx.b.mul hy.b).mono (by omega)
theorem s_add (k : Nat) (S : Store) : callK pdat.p (k + 2) 1 [rq x, rq y] S = .ok (rq (qadd x y)) S := by
  rw [c_add]
  unfold ir_add rq
  have hr := s_ratio k (x.1 * y.2 + y.1 * x.2) (x.2 * y.2) S (b_nz hx hy l) (b_sm hx hy l)
  by_cases h1 : x.2 = 1
  · by_cases h2 : y.2 = 1
    · simp [if_pos h1, decide_eq_true h2, gc_same, bin_mul, mok4 hx hy l]
      unfold qadd
      rw [h1, h2]
      simp [nrm_one]
    · simp [if_pos h1, decide_eq_false h2, gc_same, bin_mul, mok1 hx hy l, mok2 hx hy l, mok3 hx hy l, mok4 hx hy l, hr, rq, qadd]
  · simp [if_neg h1, gc_same, bin_mul, mok1 hx hy l, mok2 hx hy l, mok3 hx hy l, mok4 hx hy l, hr, rq, qadd]
theorem s_sub (k : Nat) (S : Store) : callK pdat.p (k + 2) 2 [rq x, rq y] S = .ok (rq (qsub x y)) S := by
  rw [c_sub]
  unfold ir_sub rq
  have hr := s_ratio k (x.1 * y.2 - y.1 * x.2) (x.2 * y.2) S (b_nz hx hy l) (b_sm hx hy l)
  by_cases h1 : x.2 = 1
  · by_cases h2 : y.2 = 1
    · simp [if_pos h1, decide_eq_true h2, gc_same, bin_mul, mok4 hx hy l]
      unfold qsub
      rw [h1, h2]
      simp [nrm_one]
    · simp [if_pos h1, decide_eq_false h2, gc_same, bin_mul, mok1 hx hy l, mok2 hx hy l, mok3 hx hy l, mok4 hx hy l, hr, rq, qsub]
  · simp [if_neg h1, gc_same, bin_mul, mok1 hx hy l, mok2 hx hy l, mok3 hx hy l, mok4 hx hy l, hr, rq, qsub]
theorem s_mul (k : Nat) (S : Store) : callK pdat.p (k + 2) 3 [rq x, rq y] S = .ok (rq (qmul x y)) S := by
  rw [c_mul]
  unfold ir_mul rq
  have hr := s_ratio k (x.1 * y.1) (x.2 * y.2) S (b_nz hx hy l) (b_sm hx hy l)
  by_cases h1 : x.2 = 1
  · by_cases h2 : y.2 = 1
    · simp [if_pos h1, decide_eq_true h2, gc_same, bin_mul, mok4 hx hy l]
      unfold qmul
      rw [h1, h2]
      simp [nrm_one]
    · simp [if_pos h1, decide_eq_false h2, gc_same, bin_mul, mok1 hx hy l, mok2 hx hy l, mok3 hx hy l, mok4 hx hy l, hr, rq, qmul]
  · simp [if_neg h1, gc_same, bin_mul, mok1 hx hy l, mok2 hx hy l, mok3 hx hy l, mok4 hx hy l, hr, rq, qmul]
theorem s_div (h0 : y.1 ≠ 0) (k : Nat) (S : Store) : callK pdat.p (k + 2) 4 [rq x, rq y] S = .ok (rq (qdiv x y)) S := by
  rw [c_div]
  unfold ir_div rq
  have hr := s_ratio k (x.1 * y.2) (x.2 * y.1) S (Int.mul_ne_zero hx.nz h0) ((hx.b.mul hy.t).mono (by omega))
  simp [gc_same, bin_mul, mok1 hx hy l, mok5 hx hy l, hr, rq, qdiv]
theorem s_upto (k : Nat) (S : Store) : callK pdat.p (k + 1) 8 [rq x, rq y] S = .ok (.bl (decide (qle x y))) S := by
  rw [c_upto]
  unfold ir_upto rq
  simp [gc_same, bin_mul, mok1 hx hy l, mok2 hx hy l, qle]
theorem s_lesser (k : Nat) (S : Store) : callK pdat.p (k + 2) 9 [rq x, rq y] S = .ok (rq (qmin x y)) S := by
  have hr := s_upto hx hy l k S
  rw [c_lesser]
  unfold ir_lesser
  unfold qmin
  by_cases h : qle x y
  · simp [hr, h, gc_same]
  · simp [hr, h, gc_same]
theorem s_greater (k : Nat) (S : Store) : callK pdat.p (k + 2) 10 [rq x, rq y] S = .ok (rq (qmax x y)) S := by
  have hr := s_upto hy hx (by omega) k S
  rw [c_greater]
  unfold ir_greater
  unfold qmax
  by_cases h : qle y x
  · simp [hr, h, gc_same]
  · simp [hr, h, gc_same]
end
theorem s_negate (x : Qq) (k : Nat) (S : Store) : callK pdat.p (k + 1) 5 [rq x] S = .ok (rq (qneg x)) S := by
  rw [c_negate]
  unfold ir_negate rq
  simp [gc_same, qneg]
theorem s_size (x : Qq) (k : Nat) (S : Store) : callK pdat.p (k + 1) 6 [rq x] S = .ok (rq (qabs x)) S := by
  have e : (if x.1 < 0 then -x.1 else x.1) = (x.1.natAbs : Int) := by split <;> omega
  rw [c_size]
  unfold ir_size rq
  simp [gc_same, qabs, bltD, e]
end Z
end

section
set_option Elab.async false
set_option linter.all false
set_option maxRecDepth 100000
/-! MB: powers, stretches. -/
namespace Z
open PySem
@[simp] theorem ix_rq0 (x : Qq) (S) : ixD (rq x) (.int 0) S = .ok (.int x.1) S := by unfold rq; simp
@[simp] theorem ix_rq1 (x : Qq) (S) : ixD (rq x) (.int 1) S = .ok (.int x.2) S := by unfold rq; simp
theorem range_src (c : Nat) (hc : c < 1000) : rngSrc [.int (c : Int)] = some ⟨none, rng 0 c⟩ := by
  unfold rngSrc
  have : rngOk (c : Int) = true := by unfold rngOk big; simp; omega
  simp [this]
theorem rng_get {lo : Int} {n i : Nat} {d : D} (h : (rng lo n)[i]? = some d) : i < n ∧ d = .int (lo + i) := by
  have hl : i < n := by
    have := (List.getElem?_eq_some_iff.mp h).1
    unfold rng at this
    rw [List.length_map, List.length_range] at this; exact this
  refine ⟨hl, ?_⟩
  unfold rng at h
  simp only [List.getElem?_map, List.getElem?_range hl, Option.map_some, Option.some.injEq] at h
  exact h.symm
theorem rng_length (lo : Int) (n : Nat) : (rng lo n).length = n := by unfold rng; rw [List.length_map, List.length_range]
theorem Sm.pow {n : Nat} {i : Int} (h : Sm n i) (k : Nat) : Sm (n * k + 1) (i ^ k) := by
  unfold Sm at *
  rw [Int.natAbs_pow]
  have h1 : i.natAbs ^ k ≤ (2 ^ n) ^ k := Nat.pow_le_pow_left (Nat.le_of_lt h) k
  rw [← Nat.pow_mul] at h1
  have : 2 ^ (n * k) < 2 ^ (n * k + 1) := Nat.pow_lt_pow_right (by decide) (Nat.lt_succ_self _)
  omega
theorem s_power {n : Nat} {x : Qq} (hx : In n x) (c : Nat) (hc : c ≤ 40) (l : n ≤ 4000) (k : Nat) (S : Store) : callK pdat.p (k + 1) 7 [rq x, .int (c : Int)] S = .ok (rq (qpow x c)) S := by
  rw [c_power]
  unfold ir_power
  obtain ⟨W, hW0, hW, bound⟩ : ∃ W, 0 < W ∧ W + n ≤ 1000000 ∧ ∀ i, i ≤ c → Sm W (x.1 ^ i) ∧ Sm W (x.2 ^ i) := by
    refine ⟨n * c + 1, Nat.succ_pos _, ?_, fun i hi => ?_⟩
    · have nc : n * c ≤ 4000 * 40 := Nat.mul_le_mul l hc
      omega
    · have ni : n * i ≤ n * c := Nat.mul_le_mul_left _ hi
      exact ⟨(hx.t.pow i).mono (by omega), (hx.b.pow i).mono (by omega)⟩
  obtain ⟨ρ', S', hf, u', e1, e2⟩ := forL_inv (src := ⟨none, rng 0 c⟩) (g := .one 4) (b := execs pdat.p (callK pdat.p k) (.cons (.asg (.g (.one 2)) (.bin .Mult (.v 2) (.ix (.v 0) (.k (.int (0)))))) (.cons (.asg (.g (.one 3)) (.bin .Mult (.v 3) (.ix (.v 0) (.k (.int (1)))))) .nil)))
    (fun i ρ T => ∃ u, ρ = [some (rq x), some (.int c), some (.int (x.1 ^ i)), some (.int (x.2 ^ i)), u] ∧ T = S) (rng 0 c) (fun i d ρ T hd ⟨u, hρ, hT⟩ => by
      obtain ⟨hi, rfl⟩ := rng_get hd
      subst hρ hT
      obtain ⟨b1, b2⟩ := bound i (by omega)
      refine ⟨rfl, _, rfl, _, _, .inl ?_, some (.int (0 + i)), rfl, rfl⟩
      have m1 : mulOk (x.1 ^ i) x.1 = true := mulOk_of b1 hx.t hW0 hx.pos hW
      have m2 : mulOk (x.2 ^ i) x.2 = true := mulOk_of b2 hx.b hW0 hx.pos hW
      simp [bin_mul, m1, m2, Int.pow_succ]) (fun ρ T _ => rfl) (ρ := [some (rq x), some (.int c), some (.int 1), some (.int 1), none]) (S := S) ⟨none, by simp, rfl⟩
  subst e2
  rw [rng_length] at e1
  simp [range_src c (by omega), hf, e1, gc_same]
  unfold rq qpow
  rfl
theorem s_floor {n : Nat} {x : Qq} (hx : In n x) (l : n ≤ 8000) (k : Nat) (S : Store) : callK pdat.p (k + 1) 11 [rq x] S = .ok (.int (x.1.fdiv x.2)) S := by
  rw [c_floor]
  unfold ir_floor
  simp [bin_fdiv _ (divOk_of hx.b hx.pos (by omega) hx.nz), gc_same]
theorem s_ceil {n : Nat} {x : Qq} (hx : In n x) (l : n ≤ 8000) (k : Nat) (S : Store) : callK pdat.p (k + 1) 12 [rq x] S = .ok (.int (-((-x.1).fdiv x.2))) S := by
  rw [c_ceil]
  unfold ir_ceil
  simp [bin_fdiv _ (divOk_of hx.b hx.pos (by omega) hx.nz), gc_same]
/-! ### sizes of what comes out -/
theorem sgc_eq (t b : Int) : sgc t b = (Nat.gcd t.natAbs b.natAbs : Nat) ∨ sgc t b = -(Nat.gcd t.natAbs b.natAbs : Nat) := by
  unfold sgc; split
  · exact .inr rfl
  · exact .inl rfl
theorem nrm_r {t b : Int} (h : b ≠ 0) : (nrm t b).2 * sgc t b = b := by
  show b.fdiv (sgc t b) * sgc t b = b
  exact Int.fdiv_mul_cancel (sgc_dvd_r t b)
theorem nrm_l {t b : Int} (h : b ≠ 0) : (nrm t b).1 * sgc t b = t := by
  show t.fdiv (sgc t b) * sgc t b = t
  exact Int.fdiv_mul_cancel (sgc_dvd_l t b)
theorem nrm_pos {t b : Int} (h : b ≠ 0) : 0 < (nrm t b).2 := by
  have h1 := nrm_r (t := t) h
  have hg : 0 < Nat.gcd t.natAbs b.natAbs := Nat.gcd_pos_of_pos_right _ (by omega)
  by_cases hb : b < 0
  · have e : sgc t b = -(Nat.gcd t.natAbs b.natAbs : Nat) := by unfold sgc; rw [if_pos hb]
    rw [e] at h1
    rcases Int.lt_or_le 0 (nrm t b).2 with q | q
    · exact q
    · exfalso
      have := Int.mul_nonneg_of_nonpos_of_nonpos q (show -((Nat.gcd t.natAbs b.natAbs : Nat) : Int) ≤ 0 by omega)
      omega
  · have e : sgc t b = (Nat.gcd t.natAbs b.natAbs : Nat) := by unfold sgc; rw [if_neg hb]
    rw [e] at h1
    rcases Int.lt_or_le 0 (nrm t b).2 with q | q
    · exact q
    · exfalso
      have := Int.mul_nonpos_of_nonpos_of_nonneg q (show 0 ≤ ((Nat.gcd t.natAbs b.natAbs : Nat) : Int) by omega)
      omega
theorem nrm_in {n : Nat} {t b : Int} (h : b ≠ 0) (ht : Sm n t) (hb : Sm n b) : In n (nrm t b) := ⟨ht.fdiv (sgc_dvd_l t b), hb.fdiv (sgc_dvd_r t b), nrm_pos h⟩
theorem In.qadd {n m : Nat} {x y : Qq} (hx : In n x) (hy : In m y) : In (n + m + 1) (qadd x y) := by
  refine nrm_in (Int.mul_ne_zero hx.nz hy.nz) ?_ ((hx.b.mul hy.b).mono (by omega))
  have h2 : Sm (n + m) (y.1 * x.2) := by rw [Nat.add_comm]; exact hy.t.mul hx.b
  exact (hx.t.mul hy.b).add h2
theorem In.qsub {n m : Nat} {x y : Qq} (hx : In n x) (hy : In m y) : In (n + m + 1) (qsub x y) := by
  refine nrm_in (Int.mul_ne_zero hx.nz hy.nz) ?_ ((hx.b.mul hy.b).mono (by omega))
  have h2 : Sm (n + m) (y.1 * x.2) := by rw [Nat.add_comm]; exact hy.t.mul hx.b
  exact (hx.t.mul hy.b).sub h2
theorem In.qmul {n m : Nat} {x y : Qq} (hx : In n x) (hy : In m y) : In (n + m) (qmul x y) := nrm_in (Int.mul_ne_zero hx.nz hy.nz) (hx.t.mul hy.t) (hx.b.mul hy.b)
theorem In.qdiv {n m : Nat} {x y : Qq} (hx : In n x) (hy : In m y) (h0 : y.1 ≠ 0) : In (n + m) (qdiv x y) := nrm_in (Int.mul_ne_zero hx.nz h0) (hx.t.mul hy.b) (hx.b.mul hy.t)
theorem In.qmin {n : Nat} {x y : Qq} (hx : In n x) (hy : In n y) : In n (qmin x y) := by unfold Z.qmin; split <;> assumption
theorem In.qmax {n : Nat} {x y : Qq} (hx : In n x) (hy : In n y) : In n (qmax x y) := by unfold Z.qmax; split <;> assumption
theorem In.qneg {n : Nat} {x : Qq} (hx : In n x) : In n (qneg x) := ⟨hx.t.neg, hx.b, hx.p⟩
theorem In.qabs {n : Nat} {x : Qq} (hx : In n x) : In n (qabs x) := ⟨by have := hx.t; unfold Sm Z.qabs at *; simpa using this, hx.b, hx.p⟩
theorem In.qpow {n : Nat} {x : Qq} (hx : In n x) (k : Nat) : In (n * k + 1) (qpow x k) := ⟨hx.t.pow k, hx.b.pow k, Int.pow_pos hx.p⟩
end Z
end

section
set_option Elab.async false
set_option linter.all false
set_option maxRecDepth 100000
/-! MC: stretches. -/
namespace Z
open PySem
abbrev Iv := Qq × Qq
def iv (v : Iv) : D := .tup [rq v.1, rq v.2]
@[simp] theorem ix_iv0 (x : Iv) (S) : ixD (iv x) (.int 0) S = .ok (rq x.1) S := by unfold iv; simp
@[simp] theorem ix_iv1 (x : Iv) (S) : ixD (iv x) (.int 1) S = .ok (rq x.2) S := by unfold iv; simp
theorem mk_iv (a b : Qq) : D.tup [rq a, rq b] = iv (a, b) := rfl
theorem mk_rq (a b : Int) : D.tup [.int a, .int b] = rq (a, b) := rfl
structure InI (n : Nat) (v : Iv) : Prop where
  l : In n v.1
  h : In n v.2
def iadd (x y : Iv) : Iv := (qadd x.1 y.1, qadd x.2 y.2)
def isub (x y : Iv) : Iv := (qsub x.1 y.2, qsub x.2 y.1)
def ineg (x : Iv) : Iv := (qneg x.2, qneg x.1)
def imul (x y : Iv) : Iv := if 0 ≤ x.1.1 ∧ 0 ≤ y.1.1 then (qmul x.1 y.1, qmul x.2 y.2) else
  (qmin (qmin (qmin (qmul x.1 y.1) (qmul x.1 y.2)) (qmul x.2 y.1)) (qmul x.2 y.2), qmax (qmax (qmax (qmul x.1 y.1) (qmul x.1 y.2)) (qmul x.2 y.1)) (qmul x.2 y.2))
def idiv (x y : Iv) : Iv := imul x (qdiv (1, 1) y.2, qdiv (1, 1) y.1)
def ipow (x : Iv) (c : Nat) : Iv := if c % 2 = 1 ∨ 0 ≤ x.1.1 then (qpow x.1 c, qpow x.2 c) else if x.2.1 ≤ 0 then (qpow x.2 c, qpow x.1 c) else if c = 0 then ((1, 1), (1, 1)) else ((0, 1), qmax (qpow x.1 c) (qpow x.2 c))
def iabs (x : Iv) : Iv := if 0 ≤ x.1.1 then x else if x.2.1 ≤ 0 then ineg x else ((0, 1), qmax (qneg x.1) x.2)
def imax (x y : Iv) : Iv := (qmax x.1 y.1, qmax x.2 y.2)
def imin (x y : Iv) : Iv := (qmin x.1 y.1, qmin x.2 y.2)
theorem s_point (q : Qq) (k : Nat) (S : Store) : callK pdat.p (k + 1) 13 [rq q] S = .ok (iv (q, q)) S := by
  rw [c_point_stretch]; unfold ir_point_stretch
  simp [gc_same, mk_iv]
theorem s_ineg (x : Iv) (k : Nat) (S : Store) : callK pdat.p (k + 2) 16 [iv x] S = .ok (iv (ineg x)) S := by
  rw [c_negate_stretch]; unfold ir_negate_stretch
  simp [gc_same, mk_iv, s_negate, ineg]
theorem s_has_zero (x : Iv) (k : Nat) (S : Store) : callK pdat.p (k + 1) 18 [iv x] S = .ok (.bl (decide (x.1.1 ≤ 0) && decide (0 ≤ x.2.1))) S := by
  rw [c_has_zero]; unfold ir_has_zero
  by_cases h : x.1.1 ≤ 0
  · simp [gc_same, h]
  · simp [gc_same, h]
section
variable {n m : Nat} {x y : Iv} (hx : InI n x) (hy : InI m y) (l : n + m ≤ 3900)
include hx hy l
theorem s_iadd (k : Nat) (S : Store) : callK pdat.p (k + 3) 14 [iv x, iv y] S = .ok (iv (iadd x y)) S := by
  rw [c_add_stretches]; unfold ir_add_stretches
  simp [gc_same, mk_iv, s_add hx.l hy.l (by omega), s_add hx.h hy.h (by omega), iadd]
theorem s_isub (k : Nat) (S : Store) : callK pdat.p (k + 3) 15 [iv x, iv y] S = .ok (iv (isub x y)) S := by
  rw [c_sub_stretches]; unfold ir_sub_stretches
  simp [gc_same, mk_iv, s_sub hx.l hy.h (by omega), s_sub hx.h hy.l (by omega), isub]
theorem s_imax (k : Nat) (S : Store) : callK pdat.p (k + 3) 22 [iv x, iv y] S = .ok (iv (imax x y)) S := by
  rw [c_max_stretches]; unfold ir_max_stretches
  simp [gc_same, mk_iv, s_greater hx.l hy.l (by omega), s_greater hx.h hy.h (by omega), imax]
theorem s_imin (k : Nat) (S : Store) : callK pdat.p (k + 3) 23 [iv x, iv y] S = .ok (iv (imin x y)) S := by
  rw [c_min_stretches]; unfold ir_min_stretches
  simp [gc_same, mk_iv, s_lesser hx.l hy.l (by omega), s_lesser hx.h hy.h (by omega), imin]
theorem s_imul (k : Nat) (S : Store) : callK pdat.p (k + 3) 17 [iv x, iv y] S = .ok (iv (imul x y)) S := by
  rw [c_mul_stretches]; unfold ir_mul_stretches
  have m1 := hx.l.qmul hy.l
  have m2 := hx.l.qmul hy.h
  have m3 := hx.h.qmul hy.l
  have m4 := hx.h.qmul hy.h
  have a1 := m1.qmin m2
  have a2 := a1.qmin m3
  have b1 := m1.qmax m2
  have b2 := b1.qmax m3
  by_cases h1 : 0 ≤ x.1.1
  · by_cases h2 : 0 ≤ y.1.1
    · simp [gc_same, mk_iv, h1, h2, s_mul hx.l hy.l (by omega), s_mul hx.h hy.h (by omega), imul]
    · simp [gc_same, mk_iv, h1, h2, s_mul hx.l hy.l (by omega), s_mul hx.h hy.h (by omega), s_mul hx.l hy.h (by omega), s_mul hx.h hy.l (by omega), imul, forL_cons, forL_nil,
        s_lesser m1 m2 (by omega), s_greater m1 m2 (by omega), s_lesser a1 m3 (by omega), s_greater b1 m3 (by omega), s_lesser a2 m4 (by omega), s_greater b2 m4 (by omega)]
  · simp [gc_same, mk_iv, h1, s_mul hx.l hy.l (by omega), s_mul hx.h hy.h (by omega), s_mul hx.l hy.h (by omega), s_mul hx.h hy.l (by omega), imul, forL_cons, forL_nil,
        s_lesser m1 m2 (by omega), s_greater m1 m2 (by omega), s_lesser a1 m3 (by omega), s_greater b1 m3 (by omega), s_lesser a2 m4 (by omega), s_greater b2 m4 (by omega)]
end
theorem InI.imul {n m : Nat} {x y : Iv} (hx : InI n x) (hy : InI m y) : InI (n + m) (imul x y) := by
  have m1 := hx.l.qmul hy.l
  have m2 := hx.l.qmul hy.h
  have m3 := hx.h.qmul hy.l
  have m4 := hx.h.qmul hy.h
  unfold Z.imul
  split
  · exact ⟨m1, m4⟩
  · exact ⟨((m1.qmin m2).qmin m3).qmin m4, ((m1.qmax m2).qmax m3).qmax m4⟩
theorem one_in : In 1 ((1, 1) : Qq) := ⟨by unfold Sm; decide, by unfold Sm; decide, by decide⟩
theorem zero_in : In 1 ((0, 1) : Qq) := ⟨by unfold Sm; decide, by unfold Sm; decide, by decide⟩
theorem g_one (k : Nat) (S : Store) (ρ) : ev pdat.p (callK pdat.p k) (.g 1) ρ S = .ok (rq (1, 1)) S := by
  rw [ev_g]; rfl
theorem g_zero (k : Nat) (S : Store) (ρ) : ev pdat.p (callK pdat.p k) (.g 0) ρ S = .ok (rq (0, 1)) S := by
  rw [ev_g]; rfl
theorem s_idiv {n m : Nat} {x y : Iv} (hx : InI n x) (hy : InI m y) (l : n + m ≤ 3000) (h1 : y.1.1 ≠ 0) (h2 : y.2.1 ≠ 0) (k : Nat) (S : Store) : callK pdat.p (k + 4) 19 [iv x, iv y] S = .ok (iv (idiv x y)) S := by
  rw [c_div_stretches]; unfold ir_div_stretches
  have d1 := one_in.qdiv hy.h h2
  have d2 := one_in.qdiv hy.l h1
  have hI : InI (1 + m) (qdiv (1, 1) y.2, qdiv (1, 1) y.1) := ⟨d1, d2⟩
  simp only [execs_cons, exec_ret, ev_call, evs_cons, evs_nil, ev_v, ev_tup, g_one, ev_ix, ev_k]
  simp [gc_same, mk_iv, s_div one_in hy.h (by omega) h2, s_div one_in hy.l (by omega) h1, s_imul hx hI (by omega), idiv]
theorem s_ipow {n : Nat} {x : Iv} (hx : InI n x) (c : Nat) (hc : c ≤ 40) (hc1 : 1 ≤ c) (l : n * c ≤ 3000) (k : Nat) (S : Store) : callK pdat.p (k + 3) 20 [iv x, .int (c : Int)] S = .ok (iv (ipow x c)) S := by
  have hn : n ≤ 4000 := by
    have : n * 1 ≤ n * c := Nat.mul_le_mul_left _ hc1
    omega
  have p1 := s_power hx.l c hc hn (k + 1) S
  have p2 := s_power hx.h c hc hn (k + 1) S
  have q1 := hx.l.qpow c
  have q2 := hx.h.qpow c
  have g := s_greater q1 q2 (by omega) k S
  have e1 : ((c : Int).fmod 2 = 1) = (c % 2 = 1) := by
    apply propext
    rw [Int.fmod_eq_emod_of_nonneg _ (by decide)]
    omega
  have e2 : ((c : Int) = 0) = False := by simp; omega
  have e3 : (c = 0) = False := by simp; omega
  rw [c_power_stretch]; unfold ir_power_stretch
  by_cases h1 : c % 2 = 1
  · simp [gc_same, mk_iv, p1, p2, bin_mod, e1, h1, ipow]
  · by_cases h2 : 0 ≤ x.1.1
    · simp [gc_same, mk_iv, p1, p2, bin_mod, e1, h1, h2, ipow]
    · by_cases h3 : x.2.1 ≤ 0
      · simp [gc_same, mk_iv, p1, p2, bin_mod, e1, h1, h2, h3, ipow]
      · simp [gc_same, mk_iv, p1, p2, bin_mod, e1, h1, h2, h3, ipow, e2, e3, g, -ev_g, g_zero]
theorem s_iabs {n : Nat} {x : Iv} (hx : InI n x) (l : n ≤ 3000) (k : Nat) (S : Store) : callK pdat.p (k + 3) 21 [iv x] S = .ok (iv (iabs x)) S := by
  have g := s_greater hx.l.qneg hx.h (by omega) k S
  rw [c_abs_stretch]; unfold ir_abs_stretch
  by_cases h2 : 0 ≤ x.1.1
  · simp [gc_same, mk_iv, h2, iabs]
  · by_cases h3 : x.2.1 ≤ 0
    · simp [gc_same, mk_iv, h2, h3, iabs, s_ineg]
    · simp [gc_same, mk_iv, h2, h3, iabs, s_negate, g, -ev_g, g_zero]
end Z
end

section
set_option Elab.async false
set_option linter.all false
set_option maxRecDepth 100000
/-! MD: nodes. -/
namespace Z
open PySem
@[simp] theorem kn_num_letter : (Str.ofString "num" = Str.ofString "letter") = False := eq_false (by decide)
@[simp] theorem kn_num_abs : (Str.ofString "num" = Str.ofString "abs") = False := eq_false (by decide)
@[simp] theorem kn_num_pow : (Str.ofString "num" = Str.ofString "pow") = False := eq_false (by decide)
@[simp] theorem kn_num_add : (Str.ofString "num" = Str.ofString "add") = False := eq_false (by decide)
@[simp] theorem kn_num_sub : (Str.ofString "num" = Str.ofString "sub") = False := eq_false (by decide)
@[simp] theorem kn_num_mul : (Str.ofString "num" = Str.ofString "mul") = False := eq_false (by decide)
@[simp] theorem kn_num_div : (Str.ofString "num" = Str.ofString "div") = False := eq_false (by decide)
@[simp] theorem kn_num_max : (Str.ofString "num" = Str.ofString "max") = False := eq_false (by decide)
@[simp] theorem kn_num_min : (Str.ofString "num" = Str.ofString "min") = False := eq_false (by decide)
@[simp] theorem kn_num_real : (Str.ofString "num" = Str.ofString "real") = False := eq_false (by decide)
@[simp] theorem kn_num_whole : (Str.ofString "num" = Str.ofString "whole") = False := eq_false (by decide)
@[simp] theorem kn_letter_num : (Str.ofString "letter" = Str.ofString "num") = False := eq_false (by decide)
@[simp] theorem kn_letter_abs : (Str.ofString "letter" = Str.ofString "abs") = False := eq_false (by decide)
@[simp] theorem kn_letter_pow : (Str.ofString "letter" = Str.ofString "pow") = False := eq_false (by decide)
@[simp] theorem kn_letter_add : (Str.ofString "letter" = Str.ofString "add") = False := eq_false (by decide)
@[simp] theorem kn_letter_sub : (Str.ofString "letter" = Str.ofString "sub") = False := eq_false (by decide)
@[simp] theorem kn_letter_mul : (Str.ofString "letter" = Str.ofString "mul") = False := eq_false (by decide)
@[simp] theorem kn_letter_div : (Str.ofString "letter" = Str.ofString "div") = False := eq_false (by decide)
@[simp] theorem kn_letter_max : (Str.ofString "letter" = Str.ofString "max") = False := eq_false (by decide)
@[simp] theorem kn_letter_min : (Str.ofString "letter" = Str.ofString "min") = False := eq_false (by decide)
@[simp] theorem kn_letter_real : (Str.ofString "letter" = Str.ofString "real") = False := eq_false (by decide)
@[simp] theorem kn_letter_whole : (Str.ofString "letter" = Str.ofString "whole") = False := eq_false (by decide)
@[simp] theorem kn_abs_num : (Str.ofString "abs" = Str.ofString "num") = False := eq_false (by decide)
@[simp] theorem kn_abs_letter : (Str.ofString "abs" = Str.ofString "letter") = False := eq_false (by decide)
@[simp] theorem kn_abs_pow : (Str.ofString "abs" = Str.ofString "pow") = False := eq_false (by decide)
@[simp] theorem kn_abs_add : (Str.ofString "abs" = Str.ofString "add") = False := eq_false (by decide)
@[simp] theorem kn_abs_sub : (Str.ofString "abs" = Str.ofString "sub") = False := eq_false (by decide)
@[simp] theorem kn_abs_mul : (Str.ofString "abs" = Str.ofString "mul") = False := eq_false (by decide)
@[simp] theorem kn_abs_div : (Str.ofString "abs" = Str.ofString "div") = False := eq_false (by decide)
@[simp] theorem kn_abs_max : (Str.ofString "abs" = Str.ofString "max") = False := eq_false (by decide)
@[simp] theorem kn_abs_min : (Str.ofString "abs" = Str.ofString "min") = False := eq_false (by decide)
@[simp] theorem kn_abs_real : (Str.ofString "abs" = Str.ofString "real") = False := eq_false (by decide)
@[simp] theorem kn_abs_whole : (Str.ofString "abs" = Str.ofString "whole") = False := eq_false (by decide)
@[simp] theorem kn_pow_num : (Str.ofString "pow" = Str.ofString "num") = False := eq_false (by decide)
@[simp] theorem kn_pow_letter : (Str.ofString "pow" = Str.ofString "letter") = False := eq_false (by decide)
@[simp] theorem kn_pow_abs : (Str.ofString "pow" = Str.ofString "abs") = False := eq_false (by decide)
@[simp] theorem kn_pow_add : (Str.ofString "pow" = Str.ofString "add") = False := eq_false (by decide)
@[simp] theorem kn_pow_sub : (Str.ofString "pow" = Str.ofString "sub") = False := eq_false (by decide)
@[simp] theorem kn_pow_mul : (Str.ofString "pow" = Str.ofString "mul") = False := eq_false (by decide)
@[simp] theorem kn_pow_div : (Str.ofString "pow" = Str.ofString "div") = False := eq_false (by decide)
@[simp] theorem kn_pow_max : (Str.ofString "pow" = Str.ofString "max") = False := eq_false (by decide)
@[simp] theorem kn_pow_min : (Str.ofString "pow" = Str.ofString "min") = False := eq_false (by decide)
@[simp] theorem kn_pow_real : (Str.ofString "pow" = Str.ofString "real") = False := eq_false (by decide)
@[simp] theorem kn_pow_whole : (Str.ofString "pow" = Str.ofString "whole") = False := eq_false (by decide)
@[simp] theorem kn_add_num : (Str.ofString "add" = Str.ofString "num") = False := eq_false (by decide)
@[simp] theorem kn_add_letter : (Str.ofString "add" = Str.ofString "letter") = False := eq_false (by decide)
@[simp] theorem kn_add_abs : (Str.ofString "add" = Str.ofString "abs") = False := eq_false (by decide)
@[simp] theorem kn_add_pow : (Str.ofString "add" = Str.ofString "pow") = False := eq_false (by decide)
@[simp] theorem kn_add_sub : (Str.ofString "add" = Str.ofString "sub") = False := eq_false (by decide)
@[simp] theorem kn_add_mul : (Str.ofString "add" = Str.ofString "mul") = False := eq_false (by decide)
@[simp] theorem kn_add_div : (Str.ofString "add" = Str.ofString "div") = False := eq_false (by decide)
@[simp] theorem kn_add_max : (Str.ofString "add" = Str.ofString "max") = False := eq_false (by decide)
@[simp] theorem kn_add_min : (Str.ofString "add" = Str.ofString "min") = False := eq_false (by decide)
@[simp] theorem kn_add_real : (Str.ofString "add" = Str.ofString "real") = False := eq_false (by decide)
@[simp] theorem kn_add_whole : (Str.ofString "add" = Str.ofString "whole") = False := eq_false (by decide)
@[simp] theorem kn_sub_num : (Str.ofString "sub" = Str.ofString "num") = False := eq_false (by decide)
@[simp] theorem kn_sub_letter : (Str.ofString "sub" = Str.ofString "letter") = False := eq_false (by decide)
@[simp] theorem kn_sub_abs : (Str.ofString "sub" = Str.ofString "abs") = False := eq_false (by decide)
@[simp] theorem kn_sub_pow : (Str.ofString "sub" = Str.ofString "pow") = False := eq_false (by decide)
@[simp] theorem kn_sub_add : (Str.ofString "sub" = Str.ofString "add") = False := eq_false (by decide)
@[simp] theorem kn_sub_mul : (Str.ofString "sub" = Str.ofString "mul") = False := eq_false (by decide)
@[simp] theorem kn_sub_div : (Str.ofString "sub" = Str.ofString "div") = False := eq_false (by decide)
@[simp] theorem kn_sub_max : (Str.ofString "sub" = Str.ofString "max") = False := eq_false (by decide)
@[simp] theorem kn_sub_min : (Str.ofString "sub" = Str.ofString "min") = False := eq_false (by decide)
@[simp] theorem kn_sub_real : (Str.ofString "sub" = Str.ofString "real") = False := eq_false (by decide)
@[simp] theorem kn_sub_whole : (Str.ofString "sub" = Str.ofString "whole") = False := eq_false (by decide)
@[simp] theorem kn_mul_num : (Str.ofString "mul" = Str.ofString "num") = False := eq_false (by decide)
@[simp] theorem kn_mul_letter : (Str.ofString "mul" = Str.ofString "letter") = False := eq_false (by decide)
@[simp] theorem kn_mul_abs : (Str.ofString "mul" = Str.ofString "abs") = False := eq_false (by decide)
@[simp] theorem kn_mul_pow : (Str.ofString "mul" = Str.ofString "pow") = False := eq_false (by decide)
@[simp] theorem kn_mul_add : (Str.ofString "mul" = Str.ofString "add") = False := eq_false (by decide)
@[simp] theorem kn_mul_sub : (Str.ofString "mul" = Str.ofString "sub") = False := eq_false (by decide)
@[simp] theorem kn_mul_div : (Str.ofString "mul" = Str.ofString "div") = False := eq_false (by decide)
@[simp] theorem kn_mul_max : (Str.ofString "mul" = Str.ofString "max") = False := eq_false (by decide)
@[simp] theorem kn_mul_min : (Str.ofString "mul" = Str.ofString "min") = False := eq_false (by decide)
@[simp] theorem kn_mul_real : (Str.ofString "mul" = Str.ofString "real") = False := eq_false (by decide)
@[simp] theorem kn_mul_whole : (Str.ofString "mul" = Str.ofString "whole") = False := eq_false (by decide)
@[simp] theorem kn_div_num : (Str.ofString "div" = Str.ofString "num") = False := eq_false (by decide)
@[simp] theorem kn_div_letter : (Str.ofString "div" = Str.ofString "letter") = False := eq_false (by decide)
@[simp] theorem kn_div_abs : (Str.ofString "div" = Str.ofString "abs") = False := eq_false (by decide)
@[simp] theorem kn_div_pow : (Str.ofString "div" = Str.ofString "pow") = False := eq_false (by decide)
@[simp] theorem kn_div_add : (Str.ofString "div" = Str.ofString "add") = False := eq_false (by decide)
@[simp] theorem kn_div_sub : (Str.ofString "div" = Str.ofString "sub") = False := eq_false (by decide)
@[simp] theorem kn_div_mul : (Str.ofString "div" = Str.ofString "mul") = False := eq_false (by decide)
@[simp] theorem kn_div_max : (Str.ofString "div" = Str.ofString "max") = False := eq_false (by decide)
@[simp] theorem kn_div_min : (Str.ofString "div" = Str.ofString "min") = False := eq_false (by decide)
@[simp] theorem kn_div_real : (Str.ofString "div" = Str.ofString "real") = False := eq_false (by decide)
@[simp] theorem kn_div_whole : (Str.ofString "div" = Str.ofString "whole") = False := eq_false (by decide)
@[simp] theorem kn_max_num : (Str.ofString "max" = Str.ofString "num") = False := eq_false (by decide)
@[simp] theorem kn_max_letter : (Str.ofString "max" = Str.ofString "letter") = False := eq_false (by decide)
@[simp] theorem kn_max_abs : (Str.ofString "max" = Str.ofString "abs") = False := eq_false (by decide)
@[simp] theorem kn_max_pow : (Str.ofString "max" = Str.ofString "pow") = False := eq_false (by decide)
@[simp] theorem kn_max_add : (Str.ofString "max" = Str.ofString "add") = False := eq_false (by decide)
@[simp] theorem kn_max_sub : (Str.ofString "max" = Str.ofString "sub") = False := eq_false (by decide)
@[simp] theorem kn_max_mul : (Str.ofString "max" = Str.ofString "mul") = False := eq_false (by decide)
@[simp] theorem kn_max_div : (Str.ofString "max" = Str.ofString "div") = False := eq_false (by decide)
@[simp] theorem kn_max_min : (Str.ofString "max" = Str.ofString "min") = False := eq_false (by decide)
@[simp] theorem kn_max_real : (Str.ofString "max" = Str.ofString "real") = False := eq_false (by decide)
@[simp] theorem kn_max_whole : (Str.ofString "max" = Str.ofString "whole") = False := eq_false (by decide)
@[simp] theorem kn_min_num : (Str.ofString "min" = Str.ofString "num") = False := eq_false (by decide)
@[simp] theorem kn_min_letter : (Str.ofString "min" = Str.ofString "letter") = False := eq_false (by decide)
@[simp] theorem kn_min_abs : (Str.ofString "min" = Str.ofString "abs") = False := eq_false (by decide)
@[simp] theorem kn_min_pow : (Str.ofString "min" = Str.ofString "pow") = False := eq_false (by decide)
@[simp] theorem kn_min_add : (Str.ofString "min" = Str.ofString "add") = False := eq_false (by decide)
@[simp] theorem kn_min_sub : (Str.ofString "min" = Str.ofString "sub") = False := eq_false (by decide)
@[simp] theorem kn_min_mul : (Str.ofString "min" = Str.ofString "mul") = False := eq_false (by decide)
@[simp] theorem kn_min_div : (Str.ofString "min" = Str.ofString "div") = False := eq_false (by decide)
@[simp] theorem kn_min_max : (Str.ofString "min" = Str.ofString "max") = False := eq_false (by decide)
@[simp] theorem kn_min_real : (Str.ofString "min" = Str.ofString "real") = False := eq_false (by decide)
@[simp] theorem kn_min_whole : (Str.ofString "min" = Str.ofString "whole") = False := eq_false (by decide)
@[simp] theorem kn_real_num : (Str.ofString "real" = Str.ofString "num") = False := eq_false (by decide)
@[simp] theorem kn_real_letter : (Str.ofString "real" = Str.ofString "letter") = False := eq_false (by decide)
@[simp] theorem kn_real_abs : (Str.ofString "real" = Str.ofString "abs") = False := eq_false (by decide)
@[simp] theorem kn_real_pow : (Str.ofString "real" = Str.ofString "pow") = False := eq_false (by decide)
@[simp] theorem kn_real_add : (Str.ofString "real" = Str.ofString "add") = False := eq_false (by decide)
@[simp] theorem kn_real_sub : (Str.ofString "real" = Str.ofString "sub") = False := eq_false (by decide)
@[simp] theorem kn_real_mul : (Str.ofString "real" = Str.ofString "mul") = False := eq_false (by decide)
@[simp] theorem kn_real_div : (Str.ofString "real" = Str.ofString "div") = False := eq_false (by decide)
@[simp] theorem kn_real_max : (Str.ofString "real" = Str.ofString "max") = False := eq_false (by decide)
@[simp] theorem kn_real_min : (Str.ofString "real" = Str.ofString "min") = False := eq_false (by decide)
@[simp] theorem kn_real_whole : (Str.ofString "real" = Str.ofString "whole") = False := eq_false (by decide)
@[simp] theorem kn_whole_num : (Str.ofString "whole" = Str.ofString "num") = False := eq_false (by decide)
@[simp] theorem kn_whole_letter : (Str.ofString "whole" = Str.ofString "letter") = False := eq_false (by decide)
@[simp] theorem kn_whole_abs : (Str.ofString "whole" = Str.ofString "abs") = False := eq_false (by decide)
@[simp] theorem kn_whole_pow : (Str.ofString "whole" = Str.ofString "pow") = False := eq_false (by decide)
@[simp] theorem kn_whole_add : (Str.ofString "whole" = Str.ofString "add") = False := eq_false (by decide)
@[simp] theorem kn_whole_sub : (Str.ofString "whole" = Str.ofString "sub") = False := eq_false (by decide)
@[simp] theorem kn_whole_mul : (Str.ofString "whole" = Str.ofString "mul") = False := eq_false (by decide)
@[simp] theorem kn_whole_div : (Str.ofString "whole" = Str.ofString "div") = False := eq_false (by decide)
@[simp] theorem kn_whole_max : (Str.ofString "whole" = Str.ofString "max") = False := eq_false (by decide)
@[simp] theorem kn_whole_min : (Str.ofString "whole" = Str.ofString "min") = False := eq_false (by decide)
@[simp] theorem kn_whole_real : (Str.ofString "whole" = Str.ofString "real") = False := eq_false (by decide)
inductive Op where
  | add | sub | mul | div | max | min
  deriving DecidableEq
inductive Nd where
  | num (v : Qq) | letter (k : Nat) | abs (i : Nat) | pow (i n : Nat) | op (o : Op) (i j : Nat)
  deriving DecidableEq
def Op.s : Op → Str
  | .add => "add" | .sub => "sub" | .mul => "mul" | .div => "div" | .max => "max" | .min => "min"
def nd : Nd → D
  | .num v => .tup [.str "num", rq v]
  | .letter k => .tup [.str "letter", .int (k : Nat)]
  | .abs i => .tup [.str "abs", .int (i : Nat)]
  | .pow i n => .tup [.str "pow", .int (i : Nat), .int (n : Nat)]
  | .op o i j => .tup [.str o.s, .int (i : Nat), .int (j : Nat)]
def Nd.args : Nd → List Nat
  | .num _ => [] | .letter _ => [] | .abs i => [i] | .pow i _ => [i] | .op _ i j => [i, j]
def nats (l : List Nat) : List D := l.map fun (i : Nat) => D.int (i : Nat)
@[simp] theorem nats_nil : nats [] = [] := rfl
@[simp] theorem nats_cons (i l) : nats (i :: l) = D.int ((i : Nat) : Int) :: nats l := rfl
def Op.q : Op → Qq → Qq → Qq
  | .add => qadd | .sub => qsub | .mul => qmul | .div => qdiv | .max => qmax | .min => qmin
def Op.i : Op → Iv → Iv → Iv
  | .add => iadd | .sub => isub | .mul => imul | .div => idiv | .max => imax | .min => imin
theorem s_arguments (n : Nd) (k : Nat) (S : Store) : callK pdat.p (k + 1) 24 [nd n] S = .ok (.tup (nats n.args)) S := by
  rw [c_arguments]; unfold ir_arguments
  cases n with
  | num v => simp [nd, gc_same, Nd.args]
  | letter v => simp [nd, gc_same, Nd.args]
  | abs v => simp [nd, gc_same, Nd.args]
  | pow v n => simp [nd, gc_same, Nd.args]
  | op o i j => cases o <;> simp [nd, gc_same, Nd.args, Op.s]
theorem s_combine {n m : Nat} {x y : Qq} (hx : In n x) (hy : In m y) (l : n + m ≤ 3900) (o : Op) (h0 : o = .div → y.1 ≠ 0) (k : Nat) (S : Store) : callK pdat.p (k + 3) 26 [.str o.s, rq x, rq y] S = .ok (rq (o.q x y)) S := by
  rw [c_combine]; unfold ir_combine
  cases o with
  | add => simp [Op.s, Op.q, gc_same, s_add hx hy (by omega)]
  | sub => simp [Op.s, Op.q, gc_same, s_sub hx hy (by omega)]
  | mul => simp [Op.s, Op.q, gc_same, s_mul hx hy (by omega)]
  | div => simp [Op.s, Op.q, gc_same, s_div hx hy (by omega) (h0 rfl)]
  | max => simp [Op.s, Op.q, gc_same, s_greater hx hy (by omega)]
  | min => simp [Op.s, Op.q, gc_same, s_lesser hx hy (by omega)]
theorem s_combineI {n m : Nat} {x y : Iv} (hx : InI n x) (hy : InI m y) (l : n + m ≤ 2900) (o : Op) (h0 : o = .div → y.1.1 ≠ 0 ∧ y.2.1 ≠ 0) (k : Nat) (S : Store) : callK pdat.p (k + 5) 28 [.str o.s, iv x, iv y] S = .ok (iv (o.i x y)) S := by
  rw [c_combine_stretches]; unfold ir_combine_stretches
  cases o with
  | add => simp [Op.s, Op.i, gc_same, s_iadd hx hy (by omega)]
  | sub => simp [Op.s, Op.i, gc_same, s_isub hx hy (by omega)]
  | mul => simp [Op.s, Op.i, gc_same, s_imul hx hy (by omega)]
  | div => simp [Op.s, Op.i, gc_same, s_idiv hx hy (by omega) (h0 rfl).1 (h0 rfl).2]
  | max => simp [Op.s, Op.i, gc_same, s_imax hx hy (by omega)]
  | min => simp [Op.s, Op.i, gc_same, s_imin hx hy (by omega)]
theorem get_map {α : Type} (f : α → D) (l : List α) (d : α) {i : Nat} (h : i < l.length) : L2.atI (l.map f) (i : Int) = some (f (l.getD i d)) := by
  rw [atI_nat, List.getElem?_map, List.getElem?_eq_getElem h]
  simp [List.getD, List.getElem?_eq_getElem h]
theorem ix_lst {α : Type} {f : α → D} {l : List α} {n : Nat} {S : Store} (hS : S[n]? = some (.lst (l.map f))) (d : α) {i : Nat} (h : i < l.length) : ixD (.obj n) (.int (i : Int)) S = .ok (f (l.getD i d)) S := by
  rw [ixD_lst _ hS, get_map f l d h]; simp
theorem ix_tup {α : Type} (f : α → D) (l : List α) (S : Store) (d : α) {i : Nat} (h : i < l.length) : ixD (.tup (l.map f)) (.int (i : Int)) S = .ok (f (l.getD i d)) S := by
  rw [ixD_tup, get_map f l d h]; simp
abbrev q0 : Qq := (0, 1)
abbrev i0 : Iv := (q0, q0)
def Nd.q (fs ps : List Qq) : Nd → Qq
  | .num v => v | .letter k => ps.getD k q0 | .abs i => qabs (fs.getD i q0) | .pow i n => qpow (fs.getD i q0) n | .op o i j => o.q (fs.getD i q0) (fs.getD j q0)
def Nd.iv (fs box : List Iv) : Nd → Iv
  | .num v => (v, v) | .letter k => box.getD k i0 | .abs i => iabs (fs.getD i i0) | .pow i n => ipow (fs.getD i i0) n | .op o i j => o.i (fs.getD i i0) (fs.getD j i0)
def Nd.w (ws : List Nat) : Nd → Nat
  | .num _ => 1 | .letter _ => 1 | .abs i => ws.getD i 0 + 1 | .pow i n => ws.getD i 0 * n | .op _ i j => ws.getD i 0 + ws.getD j 0
/-- a node over the first m, of so many letters -/
def Nd.ok (m ℓ : Nat) : Nd → Prop
  | .num _ => True | .letter k => k < ℓ | .abs i => i < m | .pow i n => i < m ∧ 2 ≤ n ∧ n ≤ 6 | .op _ i j => i < m ∧ j < m
/-- sizes by weights: 16 bits a unit -/
def SzQ (ws : List Nat) (fs : List Qq) : Prop := ∀ i, i < fs.length → In (16 * ws.getD i 0) (fs.getD i q0)
def SzI (ws : List Nat) (fs : List Iv) : Prop := ∀ i, i < fs.length → InI (16 * ws.getD i 0) (fs.getD i i0)
/-- no divisor is zero -/
def Nd.dq (fs : List Qq) : Nd → Prop
  | .op .div _ j => (fs.getD j q0).1 ≠ 0 | _ => True
def Nd.di (fs : List Iv) : Nd → Prop
  | .op .div _ j => (fs.getD j i0).1.1 ≠ 0 ∧ (fs.getD j i0).2.1 ≠ 0 | _ => True
theorem kn_op (o : Op) : decide (o.s = "num") = false ∧ decide (o.s = "letter") = false ∧ decide (o.s = "abs") = false ∧ decide (o.s = "pow") = false := by cases o <;> decide
theorem s_node_worth (n : Nd) (fs ps : List Qq) (ws : List Nat) (fo : Nat) (S : Store) (hS : S[fo]? = some (.lst (fs.map rq))) (ho : n.ok fs.length ps.length) (hz : SzQ ws fs) (hw : n.w ws ≤ 40) (hd : n.dq fs) (k : Nat) :
    callK pdat.p (k + 4) 27 [nd n, .obj fo, .tup (ps.map rq)] S = .ok (rq (n.q fs ps)) S := by
  rw [c_node_worth]; unfold ir_node_worth
  cases n with
  | num v => simp [nd, gc_same, Nd.q]
  | letter j =>
    have e := get_map rq ps q0 (show j < ps.length from ho)
    unfold Nd.q
    dsimp only
    generalize ps.getD j q0 = x at *
    simp [nd, gc_same, e]
  | abs i =>
    have e := ix_lst hS q0 (show i < fs.length from ho)
    unfold Nd.q
    dsimp only
    generalize fs.getD i q0 = x at *
    simp [nd, gc_same, e, s_size]
  | pow i c =>
    obtain ⟨h1, h2, h3⟩ := ho
    have e := ix_lst hS q0 h1
    have hb : 16 * ws.getD i 0 ≤ 4000 := by
      have h4 : ws.getD i 0 * c ≤ 40 := hw
      have h5 : ws.getD i 0 * 2 ≤ ws.getD i 0 * c := Nat.mul_le_mul_left _ h2
      omega
    have sp : callK pdat.p (k + 3) 7 _ S = _ := s_power (hz i h1) c (by omega) hb (k + 2) S
    unfold Nd.q
    dsimp only
    generalize fs.getD i q0 = x at *
    simp [nd, gc_same, e, sp]
  | op o i j =>
    obtain ⟨h1, h2⟩ := ho
    have e1 := ix_lst hS q0 h1
    have e2 := ix_lst hS q0 h2
    have hw : ws.getD i 0 + ws.getD j 0 ≤ 40 := hw
    have sp := s_combine (hz i h1) (hz j h2) (by omega) o (fun h => by subst h; exact hd) k S
    obtain ⟨k1, k2, k3, k4⟩ := kn_op o
    unfold Nd.q
    dsimp only
    generalize fs.getD i q0 = x at *
    generalize fs.getD j q0 = y at *
    simp [nd, gc_same, e1, e2, sp, k1, k2, k3, k4]
theorem s_node_range (n : Nd) (fs box : List Iv) (ws : List Nat) (fo bo : Nat) (S : Store) (hS : S[fo]? = some (.lst (fs.map Z.iv))) (hB : S[bo]? = some (.lst (box.map Z.iv))) (ho : n.ok fs.length box.length) (hz : SzI ws fs) (hw : n.w ws ≤ 40) (hd : n.di fs) (k : Nat) :
    callK pdat.p (k + 6) 29 [nd n, .obj fo, .obj bo] S = .ok (Z.iv (n.iv fs box)) S := by
  rw [c_node_range]; unfold ir_node_range
  cases n with
  | num v => simp [nd, gc_same, Nd.iv, s_point]
  | letter j =>
    have e := ix_lst hB i0 (show j < box.length from ho)
    unfold Nd.iv
    dsimp only
    generalize box.getD j i0 = x at *
    simp [nd, gc_same, e]
  | abs i =>
    have e := ix_lst hS i0 (show i < fs.length from ho)
    have hw : ws.getD i 0 + 1 ≤ 40 := hw
    have sp : callK pdat.p (k + 5) 21 _ S = _ := s_iabs (hz i ho) (by omega) (k + 2) S
    unfold Nd.iv
    dsimp only
    generalize fs.getD i i0 = x at *
    simp [nd, gc_same, e, sp]
  | pow i c =>
    obtain ⟨h1, h2, h3⟩ := ho
    have e := ix_lst hS i0 h1
    have hb : 16 * ws.getD i 0 * c ≤ 3000 := by
      have h4 : ws.getD i 0 * c ≤ 40 := hw
      rw [Nat.mul_assoc]; omega
    have sp : callK pdat.p (k + 5) 20 _ S = _ := s_ipow (hz i h1) c (by omega) (by omega) hb (k + 2) S
    unfold Nd.iv
    dsimp only
    generalize fs.getD i i0 = x at *
    simp [nd, gc_same, e, sp]
  | op o i j =>
    obtain ⟨h1, h2⟩ := ho
    have e1 := ix_lst hS i0 h1
    have e2 := ix_lst hS i0 h2
    have hw : ws.getD i 0 + ws.getD j 0 ≤ 40 := hw
    have sp : callK pdat.p (k + 5) 28 _ S = _ := s_combineI (hz i h1) (hz j h2) (by omega) o (fun h => by subst h; exact hd) k S
    obtain ⟨k1, k2, k3, k4⟩ := kn_op o
    unfold Nd.iv
    dsimp only
    generalize fs.getD i i0 = x at *
    generalize fs.getD j i0 = y at *
    simp [nd, gc_same, e1, e2, sp, k1, k2, k3, k4]
theorem sm_nat {n m : Nat} (h : n < 2 ^ m) : Sm m (n : Int) := by unfold Sm; simpa using h
theorem s_node_weight (n : Nd) (ws : List Nat) (wo : Nat) (S : Store) (hS : S[wo]? = some (.lst (nats ws))) (ho' : (∃ j, n = .letter j) ∨ n.ok ws.length 0) (hb : ∀ i, i < ws.length → ws.getD i 0 ≤ 40) (k : Nat) :
    callK pdat.p (k + 1) 30 [nd n, .obj wo] S = .ok (.int (n.w ws : Nat)) S := by
  rw [c_node_weight]; unfold ir_node_weight
  have ix : ∀ i, i < ws.length → ixD (.obj wo) (.int (i : Int)) S = .ok (.int (ws.getD i 0 : Nat)) S := fun i hi => ix_lst (f := fun (i : Nat) => D.int (i : Nat)) hS 0 hi
  cases n with
  | num v => simp [nd, gc_same, Nd.w]
  | letter v => simp [nd, gc_same, Nd.w]
  | abs i =>
    have h1 : i < ws.length := by rcases ho' with ⟨j, h⟩ | h; · cases h
                                  · exact h
    have e := ix i h1
    unfold Nd.w
    dsimp only
    generalize ws.getD i 0 = x at *
    simp [nd, gc_same, e]
  | pow i c =>
    obtain ⟨h1, h2, h3⟩ : i < ws.length ∧ 2 ≤ c ∧ c ≤ 6 := by rcases ho' with ⟨j, h⟩ | h; · cases h
                                                              · exact h
    have e := ix i h1
    have hx := hb i h1
    unfold Nd.w
    dsimp only
    generalize ws.getD i 0 = x at *
    have m : mulOk (x : Int) (c : Int) = true := mulOk_of (n := 10) (m := 10) (sm_nat (by omega)) (sm_nat (by omega)) (by omega) (by omega) (by omega)
    simp [nd, gc_same, e, bin_mul, m]
  | op o i j =>
    obtain ⟨h1, h2⟩ : i < ws.length ∧ j < ws.length := by rcases ho' with ⟨j, h⟩ | h; · cases h
                                                          · exact h
    have e1 := ix i h1
    have e2 := ix j h2
    obtain ⟨k1, k2, k3, k4⟩ := kn_op o
    unfold Nd.w
    dsimp only
    generalize ws.getD i 0 = x at *
    generalize ws.getD j 0 = y at *
    simp [nd, gc_same, e1, e2, k1, k2, k3, k4]
end Z
end

section
set_option Elab.async false
set_option linter.all false
set_option maxRecDepth 100000
/-! ME: the builder in the store. -/
namespace Z
open PySem
/-! ### a part of the store -/
@[simp] theorem ap_get (A X : Store) (j : Nat) : (A ++ X)[A.length + j]? = X[j]? := by
  rw [List.getElem?_append_right (by omega)]; congr 1; omega
@[simp] theorem ap_get0 (A X : Store) : (A ++ X)[A.length]? = X[0]? := by
  rw [List.getElem?_append_right (Nat.le_refl _)]; simp
@[simp] theorem ap_set (A X : Store) (j : Nat) (m : M) : (A ++ X).set (A.length + j) m = A ++ X.set j m := by
  rw [List.set_append_right _ _ (by omega)]; congr 2; omega
@[simp] theorem ap_set0 (A X : Store) (m : M) : (A ++ X).set A.length m = A ++ X.set 0 m := by
  rw [List.set_append_right _ _ (Nat.le_refl _)]; simp
theorem fldB (A Y : Store) (fs : List (Nat × D)) (f : Nat) (C : Nat) : fldD pdat.p (.obj A.length) f (A ++ (.ins C fs :: Y)) = (match fs.lookup f with
      | some y => if pdat.p.isF C f = true then some y else none
      | none => pdat.p.con C f) := by
  unfold fldD; simp <;> rfl
theorem methB (A Y : Store) (fs : List (Nat × D)) (f : Nat) (C : Nat) : methD pdat.p (.obj A.length) f (A ++ (.ins C fs :: Y)) = (match fs.lookup f with
      | some _ => none
      | none => pdat.p.mth C f) := by
  unfold methD; simp <;> rfl
theorem isF1 : pdat.p.isF 1 0 = true ∧ pdat.p.isF 1 1 = true ∧ pdat.p.isF 1 2 = true ∧ pdat.p.isF 1 9 = true ∧ pdat.p.isF 1 3 = true ∧ pdat.p.isF 1 4 = true ∧ pdat.p.isF 1 10 = true := ⟨rfl, rfl, rfl, rfl, rfl, rfl, rfl⟩
theorem con1 : pdat.p.con 1 5 = some (.int 6) ∧ pdat.p.con 1 6 = some (.int 60) ∧ pdat.p.con 1 7 = some (.int 12) ∧ pdat.p.con 1 8 = some (.int 40) := ⟨rfl, rfl, rfl, rfl⟩
theorem mth1 : pdat.p.mth 1 14 = some 37 ∧ pdat.p.mth 1 11 = some 34 ∧ pdat.p.mth 1 12 = some 35 ∧ pdat.p.mth 1 13 = some 36 ∧ pdat.p.mth 1 15 = some 38 ∧ pdat.p.mth 1 16 = some 39 ∧ pdat.p.mth 1 17 = some 40 ∧ pdat.p.mth 1 18 = some 41 := ⟨rfl, rfl, rfl, rfl, rfl, rfl, rfl, rfl⟩
/-! ### the builder's state -/
structure Row where
  name : Str
  whole : Bool
  v : Iv
def kindS (w : Bool) : Str := if w then "whole" else "real"
def rowD (r : Row) : D := .tup [.str r.name, .str (kindS r.whole), rq r.v.1, rq r.v.2]
structure BSt where
  rows : List Row
  nodes : List Nd
  known : List Nd
  ranges : List Iv
  ws : List Nat
  conds : List Nat
  goal : Option Nat
def goalD : Option Nat → D
  | none => .non
  | some i => .int (i : Nat)
def knF : Nat → List Nd → List (D × D)
  | _, [] => []
  | i, n :: ns => (nd n, .int (i : Nat)) :: knF (i + 1) ns
def bins (n : Nat) (g : D) : M := .ins 1 [(0, .obj (n + 1)), (1, .obj (n + 2)), (2, .obj (n + 3)), (9, .obj (n + 4)), (3, .obj (n + 5)), (4, g), (10, .obj (n + 6))]
def blk (n : Nat) (s : BSt) : Store := [bins n (goalD s.goal), .lst (s.rows.map rowD), .lst (s.nodes.map nd), .lst (s.ranges.map iv), .lst (nats s.ws), .lst (nats s.conds), .dit (knF 0 s.known)]
theorem nd_inj {a b : Nd} (h : nd a = nd b) : a = b := by
  have os : ∀ o p : Op, o.s = p.s → o = p := by intro o p; cases o <;> cases p <;> decide
  have on : ∀ o : Op, o.s ≠ "num" ∧ o.s ≠ "letter" ∧ o.s ≠ "abs" ∧ o.s ≠ "pow" := by intro o; cases o <;> decide
  cases a <;> cases b <;> simp [nd, rq] at h
  · rename_i v w
    obtain ⟨v1, v2⟩ := v
    obtain ⟨w1, w2⟩ := w
    simp at h; simp [h]
  · simp; omega
  · simp; omega
  · simp; omega
  · rename_i o _ _
    exact absurd h.1.symm (on o).2.2.2
  · rename_i o _ _ _ _
    exact absurd h.1 (on o).2.2.2
  · obtain ⟨h1, h2, h3⟩ := h
    rw [os _ _ h1]; simp; omega
theorem tk_nd (n : Nd) : (nd n).tk = true := by cases n <;> rfl
/-- where a node stands -/
def ixN (ns : List Nd) (n : Nd) : Option Nat := ns.findIdx? fun m => decide (m = n)
theorem find_kn (n : Nd) : ∀ (ns : List Nd) (i : Nat), findK (knF i ns) (nd n) = (ixN ns n).map fun j => D.int ((i + j : Nat) : Int)
  | [], i => rfl
  | m :: ns, i => by
    unfold knF ixN
    by_cases h : m = n
    · subst h
      unfold findK
      rw [List.find?_cons]
      simp [List.findIdx?_cons]
    · have hn : ¬ nd m = nd n := fun e => h (nd_inj e)
      have e1 : findK ((nd m, D.int ((i : Nat) : Int)) :: knF (i + 1) ns) (nd n) = findK (knF (i + 1) ns) (nd n) := by
        unfold findK; rw [List.find?_cons]; simp [hn]
      rw [e1, find_kn n ns (i + 1), List.findIdx?_cons]
      simp only [h, decide_false]
      unfold ixN
      cases ns.findIdx? (fun m => decide (m = n)) with
      | none => rfl
      | some j => simp; omega
theorem kn_app (n : Nd) : ∀ (ns : List Nd) (i : Nat), knF i (ns ++ [n]) = knF i ns ++ [(nd n, D.int ((i + ns.length : Nat) : Int))]
  | [], i => by simp [knF]
  | m :: ns, i => by
    simp only [List.cons_append, knF, kn_app n ns (i + 1), List.length_cons]
    congr 5; omega
theorem put_kn {n : Nd} {ns : List Nd} (h : ixN ns n = none) : putK (knF 0 ns) (nd n) (.int (ns.length : Nat)) = knF 0 (ns ++ [n]) := by
  have e := find_kn n ns 0
  rw [h] at e
  unfold putK
  have : ((knF 0 ns).any fun kv => decide (kv.1 = nd n)) = false := by
    unfold findK at e
    cases q : (knF 0 ns).any fun kv => decide (kv.1 = nd n) with
    | false => rfl
    | true =>
      obtain ⟨x, hx, hp⟩ := List.any_eq_true.mp q
      have e : ((knF 0 ns).find? fun kv => decide (kv.1 = nd n)) = none := by simpa using e
      rw [List.find?_eq_none] at e
      exact absurd hp (e x hx)
  rw [this, kn_app]; simp
theorem kn_len : ∀ (ns : List Nd) (i : Nat), (knF i ns).length = ns.length
  | [], _ => rfl
  | _ :: ns, i => by simp [knF, kn_len ns (i + 1)]
/-! ### what is kept -/
theorem los_map {α : Type} (f : α → D) (n : Nat) (h : ∀ a, (f a).lo n = true) : ∀ l : List α, D.los n (l.map f) = true
  | [] => rfl
  | a :: l => by
    show ((f a).lo n && D.los n (l.map f)) = true
    rw [h a, los_map f n h l]; rfl
theorem lo_rq (n : Nat) (q : Qq) : (rq q).lo n = true := rfl
theorem lo_iv (n : Nat) (q : Iv) : (iv q).lo n = true := rfl
theorem lo_nd (n : Nat) (q : Nd) : (nd q).lo n = true := by cases q <;> rfl
theorem lo_row (n : Nat) (q : Row) : (rowD q).lo n = true := rfl
theorem lo_kn (n : Nat) : ∀ (ns : List Nd) (i : Nat), D.los n ((knF i ns).map (·.1)) = true ∧ D.los n ((knF i ns).map (·.2)) = true
  | [], _ => ⟨rfl, rfl⟩
  | m :: ns, i => by
    obtain ⟨h1, h2⟩ := lo_kn n ns (i + 1)
    refine ⟨?_, ?_⟩
    · show ((nd m).lo n && D.los n ((knF (i + 1) ns).map (·.1))) = true
      rw [lo_nd, h1]; rfl
    · show D.los n ((knF (i + 1) ns).map (·.2)) = true
      exact h2
theorem lo_blk {n b : Nat} (s : BSt) (h : b + 7 ≤ n) : (blk b s).all (M.lo n) = true := by
  have o : ∀ j, j < 7 → (D.obj (b + j)).lo n = true := fun j hj => decide_eq_true (by omega)
  have g : (goalD s.goal).lo n = true := by cases s.goal <;> rfl
  obtain ⟨k1, k2⟩ := lo_kn n s.known 0
  unfold blk
  simp only [List.all_cons, List.all_nil, Bool.and_true, Bool.and_eq_true]
  refine ⟨?_, los_map rowD n (lo_row n) _, los_map nd n (lo_nd n) _, los_map iv n (lo_iv n) _, los_map _ n (fun _ => rfl) _, los_map _ n (fun _ => rfl) _, ?_⟩
  · unfold bins M.lo
    simp only [List.map_cons, List.map_nil, D.los, o 1 (by omega), o 2 (by omega), o 3 (by omega), o 4 (by omega), o 5 (by omega), o 6 (by omega), g, Bool.and_self]
  · show (D.los n ((knF 0 s.known).map (·.1)) && D.los n ((knF 0 s.known).map (·.2))) = true
    rw [k1, k2]; rfl
/-- the rest of the store keeps to itself -/
structure Rest (A C : Store) : Prop where
  a : A.all (M.lo (A.length + 7 + C.length)) = true
  c : C.all (M.lo (A.length + 7 + C.length)) = true
theorem blk_len (b : Nat) (s : BSt) : (blk b s).length = 7 := rfl
/-- the store with a builder -/
def bs (A : Store) (s : BSt) (C : Store) : Store := A ++ (blk A.length s ++ C)
theorem bs_len (A : Store) (s : BSt) (C : Store) : (bs A s C).length = A.length + 7 + C.length := by
  unfold bs; rw [List.length_append, List.length_append, blk_len]; omega
theorem bs_lo {A C : Store} (h : Rest A C) (s : BSt) : Lo (bs A s C) := by
  unfold Lo
  rw [bs_len]
  unfold bs
  rw [List.all_append, List.all_append, h.a, h.c, lo_blk s (by omega)]; rfl
theorem bs_gc {A C : Store} (h : Rest A C) (s : BSt) (J : Store) : gc (A.length + 7 + C.length) true (bs A s C ++ J) = bs A s C := by
  have := gc_app (J := J) (bs_lo h s)
  rw [bs_len] at this; exact this
end Z
end

section
set_option Elab.async false
set_option linter.all false
set_option maxRecDepth 100000
/-! MF: what the builder does: _place. -/
namespace Z
open PySem
/-! ### operations by what stands -/
theorem append_ok {n : Nat} {ds : List D} {S : Store} {y : D} (h : S[n]? = some (.lst ds)) (hl : ds.length < line) : bmD .append (.obj n) [y] S = .ok .non (S.set n (.lst (ds ++ [y]))) := by
  unfold bmD; simp only [h]; rw [if_pos hl]
theorem bmT_app {n : Nat} {ds : List D} {S : Store} (h : S[n]? = some (.lst ds)) : bmT .append (.obj n) S = true := by
  unfold bmT; simp [h]
theorem bmT_pop {n : Nat} {ds : List D} {S : Store} (h : S[n]? = some (.lst ds)) : bmT .pop (.obj n) S = true := by
  unfold bmT; simp [h]
theorem bmT_popAt {n : Nat} {ds : List D} {S : Store} (h : S[n]? = some (.lst ds)) : bmT .popAt (.obj n) S = true := by
  unfold bmT; simp [h]
theorem len_lst {n : Nat} {ds : List D} {S : Store} (h : S[n]? = some (.lst ds)) : bltD .len [.obj n] S = .ok (.int ds.length) S := by
  unfold bltD; simp [h]
@[simp] theorem len_tup (ds S) : bltD .len [.tup ds] S = .ok (.int ds.length) S := rfl
theorem tuple_lst {n : Nat} {ds : List D} {S : Store} (h : S[n]? = some (.lst ds)) : bltD .tuple [.obj n] S = .ok (.tup ds) S := by
  unfold bltD listAt; simp [h]
theorem in_dit {n : Nat} {kvs : List (D × D)} {S : Store} {d : D} (h : S[n]? = some (.dit kvs)) (ht : d.tk = true) : cmpD .In d (.obj n) S = .ok (.bl (findK kvs d).isSome) S := by
  show R.of S ((inD S d (.obj n)).map D.bl) = _
  unfold inD; simp [h, ht]
theorem ix_dit {n : Nat} {kvs : List (D × D)} {S : Store} {d : D} (h : S[n]? = some (.dit kvs)) (ht : d.tk = true) : ixD (.obj n) d S = R.of S (findK kvs d) := by
  have : ∃ ds, d = .tup ds := by
    unfold D.tk at ht
    cases d <;> first | exact ⟨_, rfl⟩ | cases ht
  obtain ⟨ds, rfl⟩ := this
  unfold ixD; simp [h, ht]
theorem set_dit {n : Nat} {kvs : List (D × D)} {S : Store} {d v : D} (h : S[n]? = some (.dit kvs)) (ht : d.tk = true) (hl : kvs.length < line) : setD (.obj n) d v S = some (S.set n (.dit (putK kvs d v))) := by
  unfold setD; simp [h, ht, hl]
/-! ### the builder's parts -/
section
variable (A : Store) (s : BSt) (C : Store)
theorem bs_app (J : Store) : bs A s C ++ J = bs A s (C ++ J) := by unfold bs; simp
@[simp] theorem bs0 : (bs A s C)[A.length]? = some (bins A.length (goalD s.goal)) := by unfold bs blk; simp
@[simp] theorem bs1 : (bs A s C)[A.length + 1]? = some (.lst (s.rows.map rowD)) := by unfold bs blk; simp
@[simp] theorem bs2 : (bs A s C)[A.length + 2]? = some (.lst (s.nodes.map nd)) := by unfold bs blk; simp
@[simp] theorem bs3 : (bs A s C)[A.length + 3]? = some (.lst (s.ranges.map iv)) := by unfold bs blk; simp
@[simp] theorem bs4 : (bs A s C)[A.length + 4]? = some (.lst (nats s.ws)) := by unfold bs blk; simp
@[simp] theorem bs5 : (bs A s C)[A.length + 5]? = some (.lst (nats s.conds)) := by unfold bs blk; simp
@[simp] theorem bs6 : (bs A s C)[A.length + 6]? = some (.dit (knF 0 s.known)) := by unfold bs blk; simp
theorem bsF (f : Nat) : fldD pdat.p (.obj A.length) f (bs A s C) = (match List.lookup f [(0, D.obj (A.length + 1)), (1, .obj (A.length + 2)), (2, .obj (A.length + 3)), (9, .obj (A.length + 4)), (3, .obj (A.length + 5)), (4, goalD s.goal), (10, .obj (A.length + 6))] with
      | some y => if pdat.p.isF 1 f = true then some y else none
      | none => pdat.p.con 1 f) := by
  unfold fldD; simp only [bs0, bins] <;> rfl
@[simp] theorem f0 : fldD pdat.p (.obj A.length) 0 (bs A s C) = some (.obj (A.length + 1)) := by rw [bsF]; simp [List.lookup, isF1.1]
@[simp] theorem f1 : fldD pdat.p (.obj A.length) 1 (bs A s C) = some (.obj (A.length + 2)) := by rw [bsF]; simp [List.lookup, isF1.2.1]
@[simp] theorem f2 : fldD pdat.p (.obj A.length) 2 (bs A s C) = some (.obj (A.length + 3)) := by rw [bsF]; simp [List.lookup, isF1.2.2.1]
@[simp] theorem f9 : fldD pdat.p (.obj A.length) 9 (bs A s C) = some (.obj (A.length + 4)) := by rw [bsF]; simp [List.lookup, isF1.2.2.2.1]
@[simp] theorem f3 : fldD pdat.p (.obj A.length) 3 (bs A s C) = some (.obj (A.length + 5)) := by rw [bsF]; simp [List.lookup, isF1.2.2.2.2.1]
@[simp] theorem f4 : fldD pdat.p (.obj A.length) 4 (bs A s C) = some (goalD s.goal) := by rw [bsF]; simp [List.lookup, isF1.2.2.2.2.2.1]
@[simp] theorem f10 : fldD pdat.p (.obj A.length) 10 (bs A s C) = some (.obj (A.length + 6)) := by rw [bsF]; simp [List.lookup, isF1.2.2.2.2.2.2]
@[simp] theorem f5 : fldD pdat.p (.obj A.length) 5 (bs A s C) = some (.int 6) := by rw [bsF]; simp [List.lookup, con1.1]
@[simp] theorem f6 : fldD pdat.p (.obj A.length) 6 (bs A s C) = some (.int 60) := by rw [bsF]; simp [List.lookup, con1.2.1]
@[simp] theorem f7 : fldD pdat.p (.obj A.length) 7 (bs A s C) = some (.int 12) := by rw [bsF]; simp [List.lookup, con1.2.2.1]
@[simp] theorem f8 : fldD pdat.p (.obj A.length) 8 (bs A s C) = some (.int 40) := by rw [bsF]; simp [List.lookup, con1.2.2.2]
theorem bsM (f : Nat) : methD pdat.p (.obj A.length) f (bs A s C) = (match List.lookup f [(0, D.obj (A.length + 1)), (1, .obj (A.length + 2)), (2, .obj (A.length + 3)), (9, .obj (A.length + 4)), (3, .obj (A.length + 5)), (4, goalD s.goal), (10, .obj (A.length + 6))] with
      | some _ => none
      | none => pdat.p.mth 1 f) := by
  unfold methD; simp only [bs0, bins] <;> rfl
@[simp] theorem m14 : methD pdat.p (.obj A.length) 14 (bs A s C) = some 37 := by rw [bsM]; simp [List.lookup, mth1.1]
@[simp] theorem m11 : methD pdat.p (.obj A.length) 11 (bs A s C) = some 34 := by rw [bsM]; simp [List.lookup, mth1.2.1]
@[simp] theorem m12 : methD pdat.p (.obj A.length) 12 (bs A s C) = some 35 := by rw [bsM]; simp [List.lookup, mth1.2.2.1]
@[simp] theorem m13 : methD pdat.p (.obj A.length) 13 (bs A s C) = some 36 := by rw [bsM]; simp [List.lookup, mth1.2.2.2.1]
@[simp] theorem m15 : methD pdat.p (.obj A.length) 15 (bs A s C) = some 38 := by rw [bsM]; simp [List.lookup, mth1.2.2.2.2.1]
@[simp] theorem m16 : methD pdat.p (.obj A.length) 16 (bs A s C) = some 39 := by rw [bsM]; simp [List.lookup, mth1.2.2.2.2.2.1]
@[simp] theorem m17 : methD pdat.p (.obj A.length) 17 (bs A s C) = some 40 := by rw [bsM]; simp [List.lookup, mth1.2.2.2.2.2.2.1]
@[simp] theorem m18 : methD pdat.p (.obj A.length) 18 (bs A s C) = some 41 := by rw [bsM]; simp [List.lookup, mth1.2.2.2.2.2.2.2]
theorem u1 (r : Row) : (bs A s C).set (A.length + 1) (.lst (s.rows.map rowD ++ [rowD r])) = bs A { s with rows := s.rows ++ [r] } C := by unfold bs blk; simp
theorem u2 (n : Nd) : (bs A s C).set (A.length + 2) (.lst (s.nodes.map nd ++ [nd n])) = bs A { s with nodes := s.nodes ++ [n] } C := by unfold bs blk; simp
theorem u6 (l : List Nd) : (bs A s C).set (A.length + 6) (.dit (knF 0 l)) = bs A { s with known := l } C := by unfold bs blk; simp
theorem u0 (g : Option Nat) : (bs A s C).set A.length (bins A.length (goalD g)) = bs A { s with goal := g } C := by unfold bs blk; simp
theorem u3 (v : Iv) : (bs A s C).set (A.length + 3) (.lst (s.ranges.map iv ++ [iv v])) = bs A { s with ranges := s.ranges ++ [v] } C := by unfold bs blk; simp
theorem u4 (v : Nat) : (bs A s C).set (A.length + 4) (.lst (nats s.ws ++ [.int (v : Nat)])) = bs A { s with ws := s.ws ++ [v] } C := by unfold bs blk nats; simp
theorem u5 (v : Nat) : (bs A s C).set (A.length + 5) (.lst (nats s.conds ++ [.int (v : Nat)])) = bs A { s with conds := s.conds ++ [v] } C := by unfold bs blk nats; simp
end
section
variable (A : Store) (s : BSt) (C : Store)
@[simp] theorem bt1 : bmT .append (.obj (A.length + 1)) (bs A s C) = true := bmT_app (bs1 A s C)
@[simp] theorem bt2 : bmT .append (.obj (A.length + 2)) (bs A s C) = true := bmT_app (bs2 A s C)
@[simp] theorem bt3 : bmT .append (.obj (A.length + 3)) (bs A s C) = true := bmT_app (bs3 A s C)
@[simp] theorem bt4 : bmT .append (.obj (A.length + 4)) (bs A s C) = true := bmT_app (bs4 A s C)
@[simp] theorem bt5 : bmT .append (.obj (A.length + 5)) (bs A s C) = true := bmT_app (bs5 A s C)
theorem ln (n : Nat) (h : n ≤ 1000) : n < line := by have : line = 16777216 := rfl; omega
theorem bm1 (r : Row) (h : s.rows.length ≤ 1000) : bmD .append (.obj (A.length + 1)) [rowD r] (bs A s C) = .ok .non (bs A { s with rows := s.rows ++ [r] } C) := by
  rw [append_ok (bs1 A s C) (by rw [List.length_map]; exact ln _ h), u1]
theorem bm2 (r : Nd) (h : s.nodes.length ≤ 1000) : bmD .append (.obj (A.length + 2)) [nd r] (bs A s C) = .ok .non (bs A { s with nodes := s.nodes ++ [r] } C) := by
  rw [append_ok (bs2 A s C) (by rw [List.length_map]; exact ln _ h), u2]
theorem bm3 (r : Iv) (h : s.ranges.length ≤ 1000) : bmD .append (.obj (A.length + 3)) [iv r] (bs A s C) = .ok .non (bs A { s with ranges := s.ranges ++ [r] } C) := by
  rw [append_ok (bs3 A s C) (by rw [List.length_map]; exact ln _ h), u3]
theorem bm4 (r : Nat) (h : s.ws.length ≤ 1000) : bmD .append (.obj (A.length + 4)) [.int (r : Nat)] (bs A s C) = .ok .non (bs A { s with ws := s.ws ++ [r] } C) := by
  rw [append_ok (bs4 A s C) (by unfold nats; rw [List.length_map]; exact ln _ h), u4]
theorem bm5 (r : Nat) (h : s.conds.length ≤ 1000) : bmD .append (.obj (A.length + 5)) [.int (r : Nat)] (bs A s C) = .ok .non (bs A { s with conds := s.conds ++ [r] } C) := by
  rw [append_ok (bs5 A s C) (by unfold nats; rw [List.length_map]; exact ln _ h), u5]
theorem sd6 (n : Nd) (h : ixN s.known n = none) (hl : s.known.length ≤ 1000) : setD (.obj (A.length + 6)) (nd n) (.int (s.known.length : Nat)) (bs A s C) = some (bs A { s with known := s.known ++ [n] } C) := by
  rw [set_dit (bs6 A s C) (tk_nd n) (by rw [kn_len]; exact ln _ hl), put_kn h, u6]
@[simp] theorem ln2 : bltD .len [.obj (A.length + 2)] (bs A s C) = .ok (.int (s.nodes.length : Nat)) (bs A s C) := by rw [len_lst (bs2 A s C), List.length_map]
@[simp] theorem ln1 : bltD .len [.obj (A.length + 1)] (bs A s C) = .ok (.int (s.rows.length : Nat)) (bs A s C) := by rw [len_lst (bs1 A s C), List.length_map]
@[simp] theorem ln5 : bltD .len [.obj (A.length + 5)] (bs A s C) = .ok (.int (s.conds.length : Nat)) (bs A s C) := by rw [len_lst (bs5 A s C)]; unfold nats; rw [List.length_map]
end
@[simp] theorem ix_row0 (r : Row) (S) : ixD (rowD r) (.int 0) S = .ok (.str r.name) S := by unfold rowD; simp
@[simp] theorem ix_row1 (r : Row) (S) : ixD (rowD r) (.int 1) S = .ok (.str (kindS r.whole)) S := by unfold rowD; simp
@[simp] theorem ix_row2 (r : Row) (S) : ixD (rowD r) (.int 2) S = .ok (rq r.v.1) S := by unfold rowD; simp
@[simp] theorem ix_row3 (r : Row) (S) : ixD (rowD r) (.int 3) S = .ok (rq r.v.2) S := by unfold rowD; simp
/-! ### _place -/
/-- sizes by weights, strictly -/
def SzI1 (ws : List Nat) (fs : List Iv) : Prop := ∀ i, i < fs.length → 1 ≤ ws.getD i 0 ∧ InI (16 * ws.getD i 0 - 1) (fs.getD i i0)
theorem InI.mono {n m : Nat} {v : Iv} (h : InI n v) (l : n ≤ m) : InI m v := ⟨h.l.mono l, h.h.mono l⟩
theorem SzI1.weak {ws : List Nat} {fs : List Iv} (h : SzI1 ws fs) : SzI ws fs := fun i hi => (h i hi).2.mono (by omega)
theorem Sm.pow1 {n : Nat} {i : Int} (h : Sm n i) {k : Nat} (hk : 1 ≤ k) : Sm (n * k) (i ^ k) := by
  unfold Sm at *
  rw [Int.natAbs_pow, Nat.pow_mul]
  exact Nat.pow_lt_pow_left h (by omega)
theorem In.qpow1 {n : Nat} {x : Qq} (hx : In n x) {k : Nat} (hk : 1 ≤ k) : In (n * k) (Z.qpow x k) := ⟨hx.t.pow1 hk, hx.b.pow1 hk, Int.pow_pos hx.p⟩
theorem InI.ipow {n : Nat} {x : Iv} (hx : InI n x) {k : Nat} (hk : 1 ≤ k) : InI (n * k) (Z.ipow x k) := by
  have h1 := hx.l.qpow1 hk
  have h2 := hx.h.qpow1 hk
  have hp : 1 ≤ n * k := by
    have := hx.l.pos
    exact Nat.mul_pos this (by omega)
  unfold Z.ipow
  split
  · exact ⟨h1, h2⟩
  · split
    · exact ⟨h2, h1⟩
    · split
      · exact ⟨one_in.mono hp, one_in.mono hp⟩
      · exact ⟨zero_in.mono hp, h1.qmax h2⟩
theorem InI.iabs {n : Nat} {x : Iv} (hx : InI n x) : InI n (Z.iabs x) := by
  have hp := hx.l.pos
  unfold Z.iabs
  split
  · exact hx
  · split
    · exact ⟨hx.h.qneg, hx.l.qneg⟩
    · exact ⟨zero_in.mono hp, hx.l.qneg.qmax hx.h⟩
theorem iv_in {n : Nd} {ws : List Nat} {fs box : List Iv} (hs : SzI1 ws fs) (ho : n.ok fs.length box.length) (hd : n.di fs) (hn : ∀ v, n = .num v → In 15 v) (hb : ∀ i, i < box.length → InI 15 (box.getD i i0)) : 1 ≤ n.w ws ∧ InI (16 * n.w ws - 1) (n.iv fs box) := by
  cases n with
  | num v => exact ⟨Nat.le_refl _, ⟨hn v rfl, hn v rfl⟩⟩
  | letter k => exact ⟨Nat.le_refl _, hb k ho⟩
  | abs i =>
    obtain ⟨h1, h2⟩ := hs i ho
    exact ⟨Nat.le_add_left _ _, h2.iabs.mono (by show _ ≤ 16 * (ws.getD i 0 + 1) - 1; omega)⟩
  | pow i c =>
    obtain ⟨q1, q2, q3⟩ := ho
    obtain ⟨h1, h2⟩ := hs i q1
    refine ⟨Nat.mul_pos h1 (by omega), (h2.ipow (by omega)).mono ?_⟩
    show (16 * ws.getD i 0 - 1) * c ≤ 16 * (ws.getD i 0 * c) - 1
    rw [Nat.sub_mul, Nat.mul_assoc]
    omega
  | op o i j =>
    obtain ⟨q1, q2⟩ := ho
    obtain ⟨h1, h2⟩ := hs i q1
    obtain ⟨h3, h4⟩ := hs j q2
    refine ⟨by show 1 ≤ ws.getD i 0 + ws.getD j 0; omega, ?_⟩
    have le : (16 * ws.getD i 0 - 1) + (16 * ws.getD j 0 - 1) + 1 ≤ 16 * (ws.getD i 0 + ws.getD j 0) - 1 := by omega
    show InI (16 * (ws.getD i 0 + ws.getD j 0) - 1) (o.i (fs.getD i i0) (fs.getD j i0))
    refine InI.mono ?_ le
    cases o with
    | add => exact ⟨h2.l.qadd h4.l, h2.h.qadd h4.h⟩
    | sub => exact ⟨h2.l.qsub h4.h, h2.h.qsub h4.l⟩
    | mul => exact (h2.imul h4).mono (by omega)
    | div =>
      have hd : (fs.getD j i0).1.1 ≠ 0 ∧ (fs.getD j i0).2.1 ≠ 0 := hd
      have d : InI (1 + (16 * ws.getD j 0 - 1)) (qdiv (1, 1) (fs.getD j i0).2, qdiv (1, 1) (fs.getD j i0).1) := ⟨one_in.qdiv h4.h hd.2, one_in.qdiv h4.l hd.1⟩
      exact (h2.imul d).mono (by omega)
    | max => exact ⟨(h2.l.mono (by omega)).qmax (h4.l.mono (by omega)), (h2.h.mono (by omega)).qmax (h4.h.mono (by omega))⟩
    | min => exact ⟨(h2.l.mono (by omega)).qmin (h4.l.mono (by omega)), (h2.h.mono (by omega)).qmin (h4.h.mono (by omega))⟩
/-- the builder keeps to its bounds -/
structure BOk (s : BSt) : Prop where
  kn : s.known = s.nodes
  lr : s.ranges.length = s.nodes.length
  lw : s.ws.length = s.nodes.length
  few : s.nodes.length ≤ 100
  rows : s.rows.length ≤ 3
  w : ∀ i, i < s.ws.length → s.ws.getD i 0 ≤ 40
  szs : SzI1 s.ws s.ranges
  rsz : ∀ i, i < s.rows.length → InI 15 ((s.rows.map (·.v)).getD i i0)
def BSt.box (s : BSt) : List Iv := s.rows.map (·.v)
def BSt.place (s : BSt) (n : Nd) : BSt := match ixN s.nodes n with
  | some _ => s
  | none => { s with nodes := s.nodes ++ [n], known := s.nodes ++ [n], ranges := s.ranges ++ [n.iv s.ranges s.box], ws := s.ws ++ [n.w s.ws] }
def BSt.at (s : BSt) (n : Nd) : Nat := (ixN s.nodes n).getD s.nodes.length
theorem Nd.ok.mono {n : Nd} {m ℓ : Nat} (h : n.ok m ℓ) : n.ok m 0 ∨ ∃ j, n = .letter j := by
  cases n with
  | letter j => exact .inr ⟨j, rfl⟩
  | _ => exact .inl h
theorem box_lc {A C : Store} {s : BSt} (p : Prg) (c : Nat → List D → Store → R D) (ρ : Env) (hl : s.rows.length ≤ 3) (hρ : ρ.length = 5) : lcLoop ⟨some (A.length + 1), s.rows.map rowD⟩ (.one 4) [4] (bs A s C).length (evT p c .yes) (ev p c (.tup (.cons (.ix (.v 4) (.k (.int (2)))) (.cons (.ix (.v 4) (.k (.int (3)))) .nil)))) ρ (s.rows.map rowD) (bs A s C ++ [.lst []]) =
    .ok (.obj (bs A s C).length) (bs A s C ++ [.lst (s.box.map iv)]) := by
  have h := lcLoop_pure (src := ⟨some (A.length + 1), s.rows.map rowD⟩) (g := .one 4) (own := [4]) (t := evT p c .yes) (e := ev p c (.tup (.cons (.ix (.v 4) (.k (.int (2)))) (.cons (.ix (.v 4) (.k (.int (3)))) .nil)))) (ρ := ρ) (S0 := bs A s C)
    (fun d => match d with | .tup [_, _, x, y] => some (.tup [x, y]) | _ => none) (s.rows.map rowD) (by rw [List.length_map]; have : line = 16777216 := rfl; omega)
    (fun acc => stays_some (by rw [bs_app]; simp)) (fun i d acc hd => by
      rw [List.getElem?_map] at hd
      cases hr : s.rows[i]? with
      | none => rw [hr] at hd; cases hd
      | some r =>
        rw [hr] at hd
        have hd : rowD r = d := by simpa using hd
        subst hd
        refine ⟨_, rfl, true, by simp, by simp, fun _ => ⟨.tup [rq r.v.1, rq r.v.2], ?_, rfl⟩⟩
        have e4 : ((wipeE ρ [4]).set 4 (some (rowD r)))[4]? = some (some (rowD r)) := by
          rw [List.getElem?_set_self]; simp [wipeE, hρ]
        simp [e4])
  rw [h]
  congr 3
  unfold BSt.box
  rw [List.map_map, List.filterMap_map]
  have : ((fun d => match d with | .tup [_, _, x, y] => some (D.tup [x, y]) | _ => none) ∘ rowD) = fun r : Row => some (iv r.v) := by
    funext r; rfl
  rw [this]
  congr 1
  clear h hl
  induction s.rows with
  | nil => rfl
  | cons r l ih => simp [ih]
theorem s_place {A C : Store} (hR : Rest A C) (s : BSt) (hB : BOk s) (n : Nd) (ho : n.ok s.nodes.length s.rows.length) (hw : n.w s.ws ≤ 40) (hd : n.di s.ranges) (k : Nat) :
    callK pdat.p (k + 7) 37 [.obj A.length, nd n] (bs A s C) = .ok (.int (s.at n : Nat)) (bs A (s.place n) C) := by
  rw [c_Builderuplace]; unfold ir_Builderuplace
  have hk := find_kn n s.nodes 0
  have htk := tk_nd n
  have hin := in_dit (bs6 A s C) htk
  have hix := ix_dit (bs6 A s C) htk
  have hlen := bs_len A s C
  rw [hB.kn] at hin hix
  rw [hk] at hin hix
  unfold BSt.at BSt.place
  cases hx : ixN s.nodes n with
  | some j =>
    rw [hx] at hin hix
    simp [hin, hix, gc_same]
  | none =>
    rw [hx] at hin hix
    have hwt : callK pdat.p (k + 6) 30 [nd n, .obj (A.length + 4)] (bs A s C) = _ := s_node_weight n s.ws (A.length + 4) (bs A s C) (bs4 A s C) (by
      rcases Nd.ok.mono ho with h | h
      · rw [hB.lw]; exact .inr h
      · exact .inl h) hB.w (k + 5)
    have hbox := box_lc (A := A) (C := C) (s := s) pdat.p (callK pdat.p (k + 6)) [some (.obj A.length), some (nd n), some (.int (n.w s.ws : Nat)), none, none] hB.rows rfl
    have hrg : callK pdat.p (k + 6) 29 [nd n, .obj (A.length + 3), .obj (bs A s C).length] (bs A s (C ++ [.lst (s.box.map iv)])) = _ :=
      s_node_range n s.ranges s.box s.ws (A.length + 3) (bs A s C).length _ (bs3 A s _) (by rw [← bs_app, List.getElem?_append_right (Nat.le_refl _)]; simp) (by rw [hB.lr]; unfold BSt.box; rw [List.length_map]; exact ho) hB.szs.weak hw hd k
    have hgt : decide ((40 : Int) < (n.w s.ws : Nat)) = false := decide_eq_false (by omega)
    simp [hin, hwt, hgt, seqSrc_lst (bs1 A s C), hbox]
    rw [bs_app]
    have l1 : s.ranges.length ≤ 1000 := by rw [hB.lr]; have := hB.few; omega
    have l2 : s.ws.length ≤ 1000 := by rw [hB.lw]; have := hB.few; omega
    have l3 : s.nodes.length ≤ 1000 := by have := hB.few; omega
    have sd : setD (.obj (A.length + 6)) (nd n) (.int (s.nodes.length : Nat)) (bs A { s with nodes := s.nodes ++ [n], ranges := s.ranges ++ [n.iv s.ranges s.box], ws := s.ws ++ [n.w s.ws] } (C ++ [.lst (s.box.map iv)])) = some (bs A { s with nodes := s.nodes ++ [n], known := s.nodes ++ [n], ranges := s.ranges ++ [n.iv s.ranges s.box], ws := s.ws ++ [n.w s.ws] } (C ++ [.lst (s.box.map iv)])) := by
      have kn := hB.kn
      clear hk hin hix hlen hwt hbox hrg
      obtain ⟨rows, nodes, known, ranges, ws, conds, goal⟩ := s
      have kn : known = nodes := kn
      subst kn
      exact sd6 A _ _ n hx l3
    simp [hrg, bm3 _ _ _ _ l1, bm4, bm2, l2, l3, sd]
    rw [← bs_app, bs_len]
    exact bs_gc hR _ _
theorem getD_app_lt {α : Type} (l : List α) (x d : α) {i : Nat} (h : i < l.length) : (l ++ [x]).getD i d = l.getD i d := by
  simp [List.getD, List.getElem?_append_left h]
theorem getD_app_eq {α : Type} (l : List α) (x d : α) : (l ++ [x]).getD l.length d = x := by
  simp [List.getD]
theorem BOk.place {s : BSt} (hB : BOk s) {n : Nd} (ho : n.ok s.nodes.length s.rows.length) (hw : n.w s.ws ≤ 40) (hd : n.di s.ranges) (hn : ∀ v, n = .num v → In 15 v) (hf : s.nodes.length < 100) : BOk (s.place n) := by
  unfold BSt.place
  cases hx : ixN s.nodes n with
  | some j => exact hB
  | none =>
    have hv := iv_in (n := n) (box := s.box) hB.szs (by rw [hB.lr]; unfold BSt.box; rw [List.length_map]; exact ho) hd hn (fun i hi => hB.rsz i (by unfold BSt.box at hi; rw [List.length_map] at hi; exact hi))
    refine ⟨rfl, by show (s.ranges ++ [_]).length = (s.nodes ++ [n]).length; simp [hB.lr], by show (s.ws ++ [_]).length = (s.nodes ++ [n]).length; simp [hB.lw], by show (s.nodes ++ [n]).length ≤ 100; simp; omega, hB.rows, fun i hi => ?_, fun i hi => ?_, hB.rsz⟩
    · have hi : i < (s.ws ++ [n.w s.ws]).length := hi
      show (s.ws ++ [n.w s.ws]).getD i 0 ≤ 40
      by_cases h : i < s.ws.length
      · rw [getD_app_lt _ _ _ h]; exact hB.w i h
      · have : i = s.ws.length := by rw [List.length_append, List.length_singleton] at hi; omega
        subst this
        rw [getD_app_eq]; exact hw
    · have hi : i < (s.ranges ++ [n.iv s.ranges s.box]).length := hi
      show 1 ≤ (s.ws ++ [n.w s.ws]).getD i 0 ∧ InI (16 * (s.ws ++ [n.w s.ws]).getD i 0 - 1) ((s.ranges ++ [n.iv s.ranges s.box]).getD i i0)
      have hlen : s.ranges.length = s.ws.length := by rw [hB.lr, hB.lw]
      by_cases h : i < s.ranges.length
      · rw [getD_app_lt _ _ _ h, getD_app_lt _ _ _ (by rw [← hlen]; exact h)]; exact hB.szs i h
      · have : i = s.ranges.length := by rw [List.length_append, List.length_singleton] at hi; omega
        subst this
        rw [getD_app_eq]
        rw [hlen, getD_app_eq]
        exact hv
end Z
end

section
set_option Elab.async false
set_option linter.all false
set_option maxRecDepth 100000
/-! MG: the builder's methods. -/
namespace Z
open PySem
theorem g_beyond (k : Nat) (S : Store) (ρ) : ev pdat.p (callK pdat.p k) (.g 5) ρ S = .ok (.int 1000000000000) S := by
  rw [ev_g]; rfl
/-- small enough for the builder -/
def Short (q : Qq) : Prop := q.1.natAbs < 1000000000000 ∧ q.2 < 1000000000000
theorem s_too_long {q : Qq} (h : Short q) (k : Nat) (S : Store) : callK pdat.p (k + 1) 42 [rq q] S = .ok (.bl false) S := by
  rw [c_too_long]; unfold ir_too_long
  obtain ⟨h1, h2⟩ := h
  have e : (if q.1 < 0 then -q.1 else q.1) = (q.1.natAbs : Int) := by split <;> omega
  have d1 : decide ((1000000000000 : Int) ≤ (q.1.natAbs : Nat)) = false := decide_eq_false (by omega)
  have d2 : decide ((1000000000000 : Int) ≤ q.2) = false := decide_eq_false (by omega)
  simp only [execs_cons, execs_nil, exec_ret, ev_or, ev_cmp, ev_blt, evs_cons, evs_nil, ev_ix, ev_v, ev_k, g_beyond, R.bind_ok, List.getElem?_cons_zero, ix_rq0, ix_rq1, bltD, e, cmp_ge, d1, d2, truthy_bl, R.st_ok, RS.seq_ret, fin_ret, gc_same]
theorem s_number {A C : Store} (hR : Rest A C) (s : BSt) (hB : BOk s) (q : Qq) (h : Short q) (k : Nat) :
    callK pdat.p (k + 8) 35 [.obj A.length, rq q] (bs A s C) = .ok (.int (s.at (.num q) : Nat)) (bs A (s.place (.num q)) C) := by
  have h1 : callK pdat.p (k + 7) 42 [rq q] (bs A s C) = _ := s_too_long h (k + 6) (bs A s C)
  have h2 : callK pdat.p (k + 7) 37 [.obj A.length, .tup [.str "num", rq q]] (bs A s C) = _ := s_place hR s hB (.num q) trivial (by show 1 ≤ 40; omega) trivial k
  have hg : ∀ b, gc (bs A s C).length b (bs A (s.place (.num q)) C) = bs A (s.place (.num q)) C := fun b => by
    have e : (bs A s C).length = (bs A (s.place (.num q)) C).length := by rw [bs_len, bs_len]
    rw [e, gc_same]
  rw [c_Builder_number]; unfold ir_Builder_number
  simp [h1, h2, hg]
theorem s_keep {A C : Store} (hR : Rest A C) (s : BSt) (i : Nat) (h : s.conds.length < 12) (k : Nat) :
    callK pdat.p (k + 1) 38 [.obj A.length, .int (i : Nat)] (bs A s C) = .ok .non (bs A { s with conds := s.conds ++ [i] } C) := by
  have hg : ∀ b, gc (bs A s C).length b (bs A { s with conds := s.conds ++ [i] } C) = bs A { s with conds := s.conds ++ [i] } C := fun b => by
    have e : (bs A s C).length = (bs A { s with conds := s.conds ++ [i] } C).length := by rw [bs_len, bs_len]
    rw [e, gc_same]
  have d1 : decide ((12 : Int) ≤ (s.conds.length : Nat)) = false := decide_eq_false (by omega)
  rw [c_Builder_keep]; unfold ir_Builder_keep
  simp [d1, bm5 A s C i (by omega), hg]
theorem s_least {A C : Store} (s : BSt) (i : Nat) (k : Nat) :
    callK pdat.p (k + 1) 39 [.obj A.length, .int (i : Nat)] (bs A s C) = .ok .non (bs A { s with goal := some i } C) := by
  have hg : ∀ b, gc (bs A s C).length b (bs A { s with goal := some i } C) = bs A { s with goal := some i } C := fun b => by
    have e : (bs A s C).length = (bs A { s with goal := some i } C).length := by rw [bs_len, bs_len]
    rw [e, gc_same]
  have sf : setFld pdat.p (.obj A.length) 4 (.int (i : Nat)) (bs A s C) = some (bs A { s with goal := some i } C) := by
    unfold setFld
    simp only [bs0, bins, isF1.2.2.2.2.2.1]
    rw [if_pos (by simp)]
    have : putN 4 (D.int (i : Nat)) [(0, D.obj (A.length + 1)), (1, .obj (A.length + 2)), (2, .obj (A.length + 3)), (9, .obj (A.length + 4)), (3, .obj (A.length + 5)), (4, goalD s.goal), (10, .obj (A.length + 6))] = [(0, D.obj (A.length + 1)), (1, .obj (A.length + 2)), (2, .obj (A.length + 3)), (9, .obj (A.length + 4)), (3, .obj (A.length + 5)), (4, goalD (some i)), (10, .obj (A.length + 6))] := by
      simp [putN, goalD]
    rw [this]
    exact congrArg some (u0 A s C (some i))
  rw [c_Builder_least]; unfold ir_Builder_least
  simp [sf, hg]
end Z
end

section
set_option Elab.async false
set_option linter.all false
set_option maxRecDepth 100000
/-! MH: the law's draws. -/
namespace Z
open PySem
structure Jar where
  sl : List Int
  gs : List Int
  a : Int
  b : Int
  c : Int
def iL (l : List Int) : List D := l.map .int
def Jar.st (J : Jar) : Store := [.lst (iL J.sl), .lst (iL J.gs), .lst (iL J.sl), .lst [.obj 1, .int J.a, .int J.b, .int J.c]]
structure Jar.Ok (J : Jar) (n : Nat) : Prop where
  a : 0 ≤ J.a
  b0 : 0 ≤ J.b
  b1 : J.b < 2147483647
  c0 : 0 ≤ J.c
  c1 : J.c ≤ n
  g : ∀ x ∈ J.gs, 0 < x
theorem set_lst {n : Nat} {ds : List D} {S : Store} {i : Int} {j : Nat} (y : D) (h : S[n]? = some (.lst ds)) (hi : L2.ixN ds.length i = some j) : setD (.obj n) (.int i) y S = some (S.set n (.lst (ds.set j y))) := by
  unfold setD; simp [h, hi]
theorem popAt0 {n : Nat} {d : D} {ds : List D} {S : Store} (h : S[n]? = some (.lst (d :: ds))) : bmD .popAt (.obj n) [.int 0] S = .ok d (S.set n (.lst ds)) := by
  unfold bmD
  have : L2.ixN (d :: ds).length 0 = some 0 := by unfold L2.ixN; simp
  simp only [h, this]; simp
theorem int_int (i S) : bltD .int [.int i] S = .ok (.int i) S := rfl
section
variable (sl gs : List Int) (a b c : Int) (R : Store)
theorem jr_get : ((⟨sl, gs, a, b, c⟩ : Jar).st ++ R)[3]? = some (.lst [.obj 1, .int a, .int b, .int c]) := rfl
theorem jr_g : ((⟨sl, gs, a, b, c⟩ : Jar).st ++ R)[1]? = some (.lst (iL gs)) := rfl
theorem jr_ix (i : Nat) (d : D) (h : [D.obj 1, .int a, .int b, .int c][i]? = some d) : ixD (.obj 3) (.int (i : Nat)) ((⟨sl, gs, a, b, c⟩ : Jar).st ++ R) = .ok d ((⟨sl, gs, a, b, c⟩ : Jar).st ++ R) := by
  rw [ixD_lst _ (jr_get sl gs a b c R), atI_nat, h]; simp
theorem jr0 : ixD (.obj 3) (.int 0) ((⟨sl, gs, a, b, c⟩ : Jar).st ++ R) = .ok (.obj 1) ((⟨sl, gs, a, b, c⟩ : Jar).st ++ R) := jr_ix sl gs a b c R 0 _ rfl
theorem jr1 : ixD (.obj 3) (.int 1) ((⟨sl, gs, a, b, c⟩ : Jar).st ++ R) = .ok (.int a) ((⟨sl, gs, a, b, c⟩ : Jar).st ++ R) := jr_ix sl gs a b c R 1 _ rfl
theorem jr2 : ixD (.obj 3) (.int 2) ((⟨sl, gs, a, b, c⟩ : Jar).st ++ R) = .ok (.int b) ((⟨sl, gs, a, b, c⟩ : Jar).st ++ R) := jr_ix sl gs a b c R 2 _ rfl
theorem jr3 : ixD (.obj 3) (.int 3) ((⟨sl, gs, a, b, c⟩ : Jar).st ++ R) = .ok (.int c) ((⟨sl, gs, a, b, c⟩ : Jar).st ++ R) := jr_ix sl gs a b c R 3 _ rfl
theorem js1 (y : Int) : setD (.obj 3) (.int 1) (.int y) ((⟨sl, gs, a, b, c⟩ : Jar).st ++ R) = some ((⟨sl, gs, y, b, c⟩ : Jar).st ++ R) := by
  rw [set_lst (j := 1) _ (jr_get sl gs a b c R) (by rfl)]; rfl
theorem js2 (y : Int) : setD (.obj 3) (.int 2) (.int y) ((⟨sl, gs, a, b, c⟩ : Jar).st ++ R) = some ((⟨sl, gs, a, y, c⟩ : Jar).st ++ R) := by
  rw [set_lst (j := 2) _ (jr_get sl gs a b c R) (by rfl)]; rfl
theorem js3 (y : Int) : setD (.obj 3) (.int 3) (.int y) ((⟨sl, gs, a, b, c⟩ : Jar).st ++ R) = some ((⟨sl, gs, a, b, y⟩ : Jar).st ++ R) := by
  rw [set_lst (j := 3) _ (jr_get sl gs a b c R) (by rfl)]; rfl
theorem jlen : bltD .len [.obj 1] ((⟨sl, gs, a, b, c⟩ : Jar).st ++ R) = .ok (.int (gs.length : Nat)) ((⟨sl, gs, a, b, c⟩ : Jar).st ++ R) := by
  rw [len_lst (jr_g sl gs a b c R)]; unfold iL; rw [List.length_map]
theorem jpop (g : Int) : bmD .popAt (.obj 1) [.int 0] ((⟨sl, g :: gs, a, b, c⟩ : Jar).st ++ R) = .ok (.int g) ((⟨sl, gs, a, b, c⟩ : Jar).st ++ R) := popAt0 (jr_g sl (g :: gs) a b c R)
theorem jbt : bmT .popAt (.obj 1) ((⟨sl, gs, a, b, c⟩ : Jar).st ++ R) = true := bmT_popAt (jr_g sl gs a b c R)
theorem jst_len (J : Jar) : J.st.length = 4 := rfl
theorem jgc (J J' : Jar) (x : Bool) : gc (J.st ++ R).length x (J'.st ++ R) = J'.st ++ R := by
  have e : (J.st ++ R).length = (J'.st ++ R).length := by simp [jst_len]
  rw [e, gc_same]
end
theorem draw2 {sl gs : List Int} {a b c : Int} {n : Nat} (h : Jar.Ok ⟨sl, gs, a, b, c⟩ n) (hn : n ≤ 10000) (m : Nat) (hm : 1 ≤ m) (hm2 : m ≤ 1000) (R : Store) (k : Nat) (ρ2 : Option D) :
    ∃ (d : Nat) (J' : Jar), d < m ∧ Jar.Ok J' (n + 1) ∧ J'.sl = sl ∧ (execs pdat.p (callK pdat.p k) (.cons (.ite (.val (.cmp .Gt (.ix (.v 0) (.k (.int (1)))) (.k (.int (0))))) 
   (.cons (.asg (.g (.one 2)) (.bin .Mod (.blt .int (.cons (.ix (.v 0) (.k (.int (1)))) .nil)) (.v 1))) 
   (.cons (.asg (.sub (.v 0) (.k (.int (1)))) (.bin .FloorDiv (.ix (.v 0) (.k (.int (1)))) (.v 1))) 
   (.cons (.ret (.v 2)) .nil))) .nil) 
  (.cons (.asg (.sub (.v 0) (.k (.int (3)))) (.bin .Add (.ix (.v 0) (.k (.int (3)))) (.k (.int (1))))) 
  (.cons (.asg (.sub (.v 0) (.k (.int (2)))) (.bin .Mod (.bin .Add (.bin .Add (.bin .Mult (.ix (.v 0) (.k (.int (2)))) (.k (.int (48271)))) (.bin .Mult (.ix (.v 0) (.k (.int (3)))) (.k (.int (69621))))) (.k (.int (1)))) (.k (.int (2147483647))))) 
  (.cons (.ret (.bin .Mod (.bin .FloorDiv (.ix (.v 0) (.k (.int (2)))) (.k (.int (8)))) (.v 1))) .nil)))) [some (.obj 3), some (.int (m : Nat)), ρ2] ((⟨sl, gs, a, b, c⟩ : Jar).st ++ R)) = .ret (.int (d : Nat)) (J'.st ++ R) := by
  have hm0 : ((m : Nat) : Int) ≠ 0 := by omega
  have dm : divOk (m : Int) = true := divOk_of (n := 20) (by unfold Sm; simp; omega) (by decide) (by decide) hm0
  obtain ⟨ha, hb0, hb1, hc0, hc1, hg⟩ := h
  have ha : 0 ≤ a := ha
  have hb0 : 0 ≤ b := hb0
  have hb1 : b < 2147483647 := hb1
  have hc0 : 0 ≤ c := hc0
  have hc1 : c ≤ (n : Int) := hc1
  have bm : ∀ i S, binD .Mod (.int i) (.int (m : Int)) S = .ok (.int (i.fmod m)) S := fun i S => bin_mod S hm0
  have bd : ∀ i S, binD .FloorDiv (.int i) (.int (m : Int)) S = .ok (.int (i.fdiv m)) S := fun i S => bin_fdiv S dm
  by_cases h0 : 0 < a
  · have p1 : 0 ≤ a.fmod m := Int.fmod_nonneg_of_pos _ (by omega)
    have p2 : a.fmod m < m := Int.fmod_lt_of_pos _ (by omega)
    refine ⟨(a.fmod m).toNat, ⟨sl, gs, a.fdiv m, b, c⟩, by omega, ⟨Int.fdiv_nonneg ha (by omega), hb0, hb1, hc0, by show c ≤ ((n + 1 : Nat) : Int); push_cast; have : c ≤ (n : Int) := hc1; omega, hg⟩, rfl, ?_⟩
    have e : (((a.fmod m).toNat : Nat) : Int) = a.fmod m := by omega
    rw [e]
    simp [jr1, js1, int_int, bm, bd, h0]
  · have hb8 : divOk (8 : Int) = true := by decide
    have m1 : mulOk b 48271 = true := mulOk_of (n := 40) (m := 40) (by unfold Sm; have : (2:Nat)^40 = 1099511627776 := by decide
                                                                       omega) (by unfold Sm; decide) (by decide) (by decide) (by decide)
    have m2 : mulOk (c + 1) 69621 = true := mulOk_of (n := 40) (m := 40) (by unfold Sm; have : (2:Nat)^40 = 1099511627776 := by decide
                                                                             have : c ≤ (n : Int) := hc1
                                                                             omega) (by unfold Sm; decide) (by decide) (by decide) (by decide)
    generalize hb' : (b * 48271 + (c + 1) * 69621 + 1).fmod 2147483647 = b'
    have q1 : 0 ≤ b' := by rw [← hb']; exact Int.fmod_nonneg_of_pos _ (by decide)
    have q2 : b' < 2147483647 := by rw [← hb']; exact Int.fmod_lt_of_pos _ (by decide)
    have p1 : 0 ≤ (b'.fdiv 8).fmod m := Int.fmod_nonneg_of_pos _ (by omega)
    have p2 : (b'.fdiv 8).fmod m < m := Int.fmod_lt_of_pos _ (by omega)
    refine ⟨((b'.fdiv 8).fmod m).toNat, ⟨sl, gs, a, b', c + 1⟩, by omega, ⟨ha, q1, q2, by show 0 ≤ c + 1; have : 0 ≤ c := hc0; omega, by show c + 1 ≤ ((n + 1 : Nat) : Int); push_cast; have : c ≤ (n : Int) := hc1; omega, hg⟩, rfl, ?_⟩
    have e : ((((b'.fdiv 8).fmod m).toNat : Nat) : Int) = (b'.fdiv 8).fmod m := by omega
    rw [e]
    have b8 : ∀ i S, binD .FloorDiv (.int i) (.int 8) S = .ok (.int (i.fdiv 8)) S := fun i S => bin_fdiv S hb8
    have bp : ∀ i S, binD .Mod (.int i) (.int 2147483647) S = .ok (.int (i.fmod 2147483647)) S := fun i S => bin_mod S (by decide)
    simp [jr1, jr2, jr3, js2, js3, bin_mul, m1, m2, bm, b8, bp, h0, hb']
theorem s_draw {J : Jar} {n : Nat} (h : J.Ok n) (hn : n ≤ 10000) (m : Nat) (hm : 1 ≤ m) (hm2 : m ≤ 1000) (R : Store) (k : Nat) :
    ∃ (d : Nat) (J' : Jar), d < m ∧ J'.Ok (n + 1) ∧ J'.sl = J.sl ∧ callK pdat.p (k + 1) 47 [.obj 3, .int (m : Nat)] (J.st ++ R) = .ok (.int (d : Nat)) (J'.st ++ R) := by
  obtain ⟨sl, gs, a, b, c⟩ := J
  by_cases h1 : a = 0 ∧ gs ≠ []
  · obtain ⟨h1, h2⟩ := h1
    subst h1
    cases gs with
    | nil => exact absurd rfl h2
    | cons g gs =>
      obtain ⟨ha, hb0, hb1, hc0, hc1, hg⟩ := h
      have hg0 := hg g List.mem_cons_self
      obtain ⟨d, J', hd, hJ, hs, he⟩ := draw2 (sl := sl) (gs := gs) (a := g) (b := b) (c := c) (n := n) ⟨by show 0 ≤ g; omega, hb0, hb1, hc0, hc1, fun x hx => hg x (List.mem_cons_of_mem _ hx)⟩ hn m hm hm2 R k none
      refine ⟨d, J', hd, hJ, hs, ?_⟩
      rw [c__law_draw]; unfold ir__law_draw
      have hl : decide ((0 : Int) < ((g :: gs).length : Nat)) = true := decide_eq_true (by simp)
      rw [execs_cons]
      have e1 : exec pdat.p (callK pdat.p k) (.ite (.and (.val (.cmp .Eq (.ix (.v 0) (.k (.int (1)))) (.k (.int (0))))) (.val (.cmp .Gt (.blt .len (.cons (.ix (.v 0) (.k (.int (0)))) .nil)) (.k (.int (0)))))) 
   (.cons (.asg (.sub (.v 0) (.k (.int (1)))) (.bm (.ix (.v 0) (.k (.int (0)))) .popAt (.cons (.k (.int (0))) .nil))) .nil) .nil) [some (.obj 3), some (.int (m : Nat)), none] ((⟨sl, g :: gs, 0, b, c⟩ : Jar).st ++ R) = .nx [some (.obj 3), some (.int (m : Nat)), none] ((⟨sl, gs, g, b, c⟩ : Jar).st ++ R) := by
        simp only [exec_ite, evT_and, evT_val, ev_cmp, ev_ix, ev_v, ev_k, ev_blt, evs_cons, evs_nil, Z.R.bind_ok, List.getElem?_cons_zero, jr1, jr0, jlen, cmp_eq_int, cmp_gt, truthy_bl, Z.R.of_some, hl, decide_true, if_true, Z.R.st_ok, execs_cons, execs_nil, exec_sub, ev_bm, jbt, jpop, js1, RS.seq_nx]
      rw [e1, RS.seq_nx, he, fin_ret, jgc]
  · obtain ⟨d, J', hd, hJ, hs, he⟩ := draw2 h hn m hm hm2 R k none
    refine ⟨d, J', hd, hJ, hs, ?_⟩
    rw [c__law_draw]; unfold ir__law_draw
    rw [execs_cons]
    have e1 : exec pdat.p (callK pdat.p k) (.ite (.and (.val (.cmp .Eq (.ix (.v 0) (.k (.int (1)))) (.k (.int (0))))) (.val (.cmp .Gt (.blt .len (.cons (.ix (.v 0) (.k (.int (0)))) .nil)) (.k (.int (0)))))) 
   (.cons (.asg (.sub (.v 0) (.k (.int (1)))) (.bm (.ix (.v 0) (.k (.int (0)))) .popAt (.cons (.k (.int (0))) .nil))) .nil) .nil) [some (.obj 3), some (.int (m : Nat)), none] ((⟨sl, gs, a, b, c⟩ : Jar).st ++ R) = .nx [some (.obj 3), some (.int (m : Nat)), none] ((⟨sl, gs, a, b, c⟩ : Jar).st ++ R) := by
      by_cases ha : a = 0
      · have hg : gs = [] := by
          cases gs with
          | nil => rfl
          | cons g gs => exact absurd ⟨ha, by simp⟩ h1
        subst ha hg
        simp [jr1, jr0, jlen]
      · simp [jr1, jr0, jlen, ha]
    rw [e1, RS.seq_nx, he, fin_ret, jgc]
end Z
end

section
set_option Elab.async false
set_option linter.all false
set_option maxRecDepth 100000
/-! MI: while loops; the law's own numbers. -/
namespace Z
open PySem
theorem whileN_mono {t : Env → Store → R Bool} {b : Env → Store → RS} : ∀ (n : Nat) (ρ : Env) (S : Store) (r : RS), whileN t b n ρ S = r → r ≠ .bad → whileN t b (n + 1) ρ S = r
  | 0, ρ, S, r, h, hr => by
    unfold whileN at h; exact absurd h.symm hr
  | n + 1, ρ, S, r, h, hr => by
    rw [whileN] at h ⊢
    cases e : t ρ S with
    | bad => rw [e] at h; exact absurd h.symm hr
    | ex C fs S1 => rw [e] at h; exact h
    | ok c S1 =>
      rw [e] at h
      simp only [R.st_ok] at h ⊢
      cases c with
      | false => exact h
      | true =>
        rw [if_pos rfl] at h ⊢
        cases e2 : b ρ S1 with
        | nx ρ2 S2 => rw [e2] at h; simp only [RS.turn_nx] at h ⊢; exact whileN_mono n ρ2 S2 r h hr
        | ct ρ2 S2 => rw [e2] at h; simp only [RS.turn_ct] at h ⊢; exact whileN_mono n ρ2 S2 r h hr
        | brk ρ2 S2 => rw [e2] at h; exact h
        | ret d S2 => rw [e2] at h; exact h
        | ex C fs ρ2 S2 => rw [e2] at h; exact h
        | bad => rw [e2] at h; exact h
theorem whileN_add {t : Env → Store → R Bool} {b : Env → Store → RS} {n : Nat} {ρ : Env} {S : Store} {r : RS} (h : whileN t b n ρ S = r) (hr : r ≠ .bad) : ∀ m, whileN t b (n + m) ρ S = r
  | 0 => h
  | m + 1 => whileN_mono (n + m) ρ S r (whileN_add h hr m) hr
theorem whileR_eq {t : Env → Store → R Bool} {b : Env → Store → RS} {n : Nat} {ρ : Env} {S : Store} {r : RS} (h : whileN t b n ρ S = r) (hr : r ≠ .bad) : whileR t b ρ S = r := by
  unfold whileR
  have he : ∃ n, whileN t b n ρ S ≠ .bad := ⟨n, by rw [h]; exact hr⟩
  rw [dif_pos he]
  generalize hm : he.choose = m
  have hb : whileN t b m ρ S ≠ .bad := by rw [← hm]; exact he.choose_spec
  have h1 := whileN_add h hr m
  have h2 := whileN_add (rfl : whileN t b m ρ S = _) hb n
  rw [Nat.add_comm] at h2
  rw [← h2, h1]
/-! ### _law_low -/
noncomputable def lowT (k : Nat) : Env → Store → R Bool := evT pdat.p (callK pdat.p k) (.val (.cmp .Gt (.v 3) (.k (.int (0)))))
noncomputable def lowB (k : Nat) : Env → Store → RS := execs pdat.p (callK pdat.p k) (.cons (.par 2 3 (.v 3) (.bin .Mod (.blt .int (.cons (.v 2) .nil)) (.v 3))) .nil)
theorem low_loop (k : Nat) (x y : Option D) (S : Store) : ∀ (b a : Nat), ∃ n, whileN (lowT k) (lowB k) n [x, y, some (.int (a : Nat)), some (.int (b : Nat))] S = .nx [x, y, some (.int (Nat.gcd a b : Nat)), some (.int 0)] S := by
  intro b
  induction b using Nat.strongRecOn with
  | _ b ih =>
    intro a
    by_cases hb : b = 0
    · subst hb
      refine ⟨1, ?_⟩
      unfold whileN lowT
      simp
    · obtain ⟨n, hn⟩ := ih (a % b) (Nat.mod_lt _ (by omega)) b
      refine ⟨n + 1, ?_⟩
      have hb0 : ((b : Nat) : Int) ≠ 0 := by omega
      have e1 : lowT k [x, y, some (.int (a : Nat)), some (.int (b : Nat))] S = .ok true S := by
        unfold lowT
        have : decide ((0 : Int) < (b : Nat)) = true := decide_eq_true (by omega)
        simp [this]; omega
      have e2 : lowB k [x, y, some (.int (a : Nat)), some (.int (b : Nat))] S = .nx [x, y, some (.int (b : Nat)), some (.int ((a % b : Nat) : Int))] S := by
        unfold lowB
        have bm : binD .Mod (.int (a : Nat)) (.int (b : Nat)) S = .ok (.int ((a : Int).fmod b)) S := bin_mod S hb0
        have em : (a : Int).fmod b = ((a % b : Nat) : Int) := by rw [Int.fmod_eq_emod_of_nonneg _ (by omega)]; rfl
        rw [em] at bm
        simp [int_int, bm]
      rw [whileN, e1]
      simp only [R.st_ok, if_true]
      rw [e2]
      simp only [RS.turn_nx]
      rw [hn]
      rw [Nat.gcd_comm b (a % b), ← Nat.gcd_rec b a, Nat.gcd_comm b a]
theorem s_low (k : Nat) (t b : Int) (S : Store) (hb : b ≠ 0) (h : Sm 9000 b) : callK pdat.p (k + 1) 48 [.int t, .int b] S = .ok (rq (nrm t b)) S := by
  have hd : divOk (sgc t b) = true := divOk_of (sgc_sm h hb) (by decide) (by decide) (sgc_ne hb)
  have ea : ∀ i : Int, bltD .abs [.int i] S = .ok (.int (i.natAbs : Nat)) S := fun i => by
    have e : (if i < 0 then -i else i) = (i.natAbs : Int) := by split <;> omega
    unfold bltD; simp [e]
  obtain ⟨n, hn⟩ := low_loop k (some (.int t)) (some (.int b)) S b.natAbs t.natAbs
  have hw := whileR_eq hn (by intro h; cases h)
  unfold lowT lowB at hw
  rw [c__law_low]
  unfold ir__law_low
  by_cases hneg : b < 0
  · have e : sgc t b = -(Nat.gcd t.natAbs b.natAbs : Nat) := by unfold sgc; rw [if_pos hneg]
    rw [e] at hd
    simp [ea, hw, hneg, bin_fdiv _ hd, gc_same, rq, nrm, e]
  · have e : sgc t b = (Nat.gcd t.natAbs b.natAbs : Nat) := by unfold sgc; rw [if_neg hneg]
    rw [e] at hd
    simp [ea, hw, hneg, bin_fdiv _ hd, gc_same, rq, nrm, e]
end Z
end

section
set_option Elab.async false
set_option linter.all false
set_option maxRecDepth 100000
/-! MJ: the law's own arithmetic. -/
namespace Z
open PySem
def Low (q : Qq) : Prop := Nat.gcd q.1.natAbs q.2.natAbs = 1
theorem low_uniq {x y : Qq} (hx : Low x) (hy : Low y) (px : 0 < x.2) (py : 0 < y.2) (h : x.1 * y.2 = y.1 * x.2) : x = y := by
  have hn : x.1.natAbs * y.2.natAbs = y.1.natAbs * x.2.natAbs := by
    have := congrArg Int.natAbs h
    rwa [Int.natAbs_mul, Int.natAbs_mul] at this
  have c1 : Nat.Coprime x.2.natAbs x.1.natAbs := by unfold Nat.Coprime; rw [Nat.gcd_comm]; exact hx
  have c2 : Nat.Coprime y.2.natAbs y.1.natAbs := by unfold Nat.Coprime; rw [Nat.gcd_comm]; exact hy
  have d1 : x.2.natAbs ∣ y.2.natAbs := c1.dvd_of_dvd_mul_left (by rw [hn]; exact Nat.dvd_mul_left _ _)
  have d2 : y.2.natAbs ∣ x.2.natAbs := c2.dvd_of_dvd_mul_left (by rw [← hn]; exact Nat.dvd_mul_left _ _)
  have e := Nat.dvd_antisymm d1 d2
  have e2 : x.2 = y.2 := by omega
  rw [e2] at h
  have e1 : x.1 = y.1 := Int.eq_of_mul_eq_mul_right (by omega) h
  exact Prod.ext e1 e2
theorem fdiv_abs {t c : Int} (hc : c ∣ t) : (t.fdiv c).natAbs = t.natAbs / c.natAbs := by
  obtain ⟨k, rfl⟩ := hc
  by_cases h : c = 0
  · subst h; simp
  · rw [Int.mul_fdiv_cancel_left _ h, Int.natAbs_mul, Nat.mul_div_cancel_left _ (by omega)]
theorem nrm_low {t b : Int} (h : b ≠ 0) : Low (nrm t b) := by
  have hg : 0 < Nat.gcd t.natAbs b.natAbs := Nat.gcd_pos_of_pos_right _ (by omega)
  have e : (sgc t b).natAbs = Nat.gcd t.natAbs b.natAbs := by
    rcases sgc_eq t b with e | e <;> rw [e] <;> simp
  unfold Low nrm
  dsimp only
  rw [fdiv_abs (sgc_dvd_l t b), fdiv_abs (sgc_dvd_r t b), e]
  exact Nat.gcd_div_gcd_div_gcd_of_pos_right (by omega)
theorem s_less {n m : Nat} {x y : Qq} (hx : In n x) (hy : In m y) (l : n + m ≤ 8000) (k : Nat) (S : Store) : callK pdat.p (k + 1) 49 [rq x, rq y] S = .ok (.bl (decide (x.1 * y.2 < y.1 * x.2))) S := by
  rw [c__law_less]
  unfold ir__law_less
  simp [gc_same, bin_mul, mok1 hx hy l, mok2 hx hy l]
theorem s_apply {n m : Nat} {x y : Qq} (hx : In n x) (hy : In m y) (l : n + m ≤ 8000) (o : Op) (hd : o = .div → y.1 ≠ 0) (lx : Low x) (ly : Low y) (k : Nat) (S : Store) : callK pdat.p (k + 2) 50 [.str o.s, rq x, rq y] S = .ok (rq (o.q x y)) S := by
  rw [c__law_apply]
  unfold ir__law_apply
  have hb := b_nz hx hy l
  have hs := b_sm hx hy l
  have hl := s_less hx hy l k S
  cases o with
  | add =>
    have hr := s_low k (x.1 * y.2 + y.1 * x.2) (x.2 * y.2) S hb hs
    simp [Op.s, Op.q, gc_same, bin_mul, mok1 hx hy l, mok2 hx hy l, mok3 hx hy l, hr, qadd]
  | sub =>
    have hr := s_low k (x.1 * y.2 - y.1 * x.2) (x.2 * y.2) S hb hs
    simp [Op.s, Op.q, gc_same, bin_mul, mok1 hx hy l, mok2 hx hy l, mok3 hx hy l, hr, qsub]
  | mul =>
    have hr := s_low k (x.1 * y.1) (x.2 * y.2) S hb hs
    simp [Op.s, Op.q, gc_same, bin_mul, mok4 hx hy l, mok3 hx hy l, hr, qmul]
  | div =>
    have hr := s_low k (x.1 * y.2) (x.2 * y.1) S (Int.mul_ne_zero hx.nz (hd rfl)) ((hx.b.mul hy.t).mono (by omega))
    simp [Op.s, Op.q, gc_same, bin_mul, mok1 hx hy l, mok5 hx hy l, hr, qdiv]
  | max =>
    by_cases h : x.1 * y.2 < y.1 * x.2
    · have q : ¬ qle y x := by unfold qle; omega
      simp [Op.s, Op.q, gc_same, hl, h, qmax, q]
    · have q : qle y x := by unfold qle; omega
      simp [Op.s, Op.q, gc_same, hl, h, qmax, q]
  | min =>
    by_cases h : x.1 * y.2 < y.1 * x.2
    · have q : qle x y := by unfold qle; omega
      simp [Op.s, Op.q, gc_same, hl, h, qmin, q]
    · by_cases q : qle x y
      · have e : x = y := low_uniq lx ly hx.p hy.p (by unfold qle at q; omega)
        subst e
        simp [Op.s, Op.q, gc_same, hl, qmin]
      · simp [Op.s, Op.q, gc_same, hl, h, qmin, q]
theorem s_applyAbs (x : Qq) (k : Nat) (S : Store) : callK pdat.p (k + 2) 50 [.str "abs", rq x, .non] S = .ok (rq (qabs x)) S := by
  have e : (if x.1 < 0 then -x.1 else x.1) = (x.1.natAbs : Int) := by split <;> omega
  rw [c__law_apply]
  unfold ir__law_apply
  simp [gc_same, bltD, e, qabs, mk_rq]
theorem s_applyPow {n : Nat} {x : Qq} (hx : In n x) (c : Nat) (hc : c ≤ 40) (l : n ≤ 4000) (k : Nat) (S : Store) : callK pdat.p (k + 2) 50 [.str "pow", rq x, .int (c : Int)] S = .ok (rq (qpow x c)) S := by
  rw [c__law_apply]
  unfold ir__law_apply
  obtain ⟨W, hW0, hW, bound⟩ : ∃ W, 0 < W ∧ W + n ≤ 1000000 ∧ ∀ i, i ≤ c → Sm W (x.1 ^ i) ∧ Sm W (x.2 ^ i) := by
    refine ⟨n * c + 1, Nat.succ_pos _, ?_, fun i hi => ?_⟩
    · have nc : n * c ≤ 4000 * 40 := Nat.mul_le_mul l hc
      omega
    · have ni : n * i ≤ n * c := Nat.mul_le_mul_left _ hi
      exact ⟨(hx.t.pow i).mono (by omega), (hx.b.pow i).mono (by omega)⟩
  obtain ⟨ρ', S', hf, u', e1, e2⟩ := forL_inv (src := ⟨none, rng 0 c⟩) (g := .one 4) (b := execs pdat.p (callK pdat.p (k + 1)) (.cons (.asg (.g (.one 3)) (.tup (.cons (.bin .Mult (.ix (.v 3) (.k (.int (0)))) (.ix (.v 1) (.k (.int (0))))) (.cons (.bin .Mult (.ix (.v 3) (.k (.int (1)))) (.ix (.v 1) (.k (.int (1))))) .nil)))) .nil))
    (fun i ρ T => ∃ u, ρ = [some (.str "pow"), some (rq x), some (.int c), some (rq (qpow x i)), u] ∧ T = S) (rng 0 c) (fun i d ρ T hd ⟨u, hρ, hT⟩ => by
      obtain ⟨hi, rfl⟩ := rng_get hd
      subst hρ hT
      obtain ⟨b1, b2⟩ := bound i (by omega)
      refine ⟨rfl, _, rfl, _, _, .inl ?_, some (.int (0 + i)), rfl, rfl⟩
      have m1 : mulOk (x.1 ^ i) x.1 = true := mulOk_of b1 hx.t hW0 hx.pos hW
      have m2 : mulOk (x.2 ^ i) x.2 = true := mulOk_of b2 hx.b hW0 hx.pos hW
      simp [bin_mul, m1, m2, mk_rq, qpow, Int.pow_succ]) (fun ρ T _ => rfl) (ρ := [some (.str "pow"), some (rq x), some (.int c), some (rq (1, 1)), none]) (S := S) ⟨none, by simp [qpow], rfl⟩
  subst e2
  rw [rng_length] at e1
  simp [mk_rq, range_src c (by omega), hf, e1, gc_same]
end Z
end

section
set_option Elab.async false
set_option linter.all false
set_option maxRecDepth 100000
/-! MK: Builder.node, Builder.letter. -/
namespace Z
open PySem
def Nd.tag : Nd → Str
  | .num _ => "num" | .letter _ => "letter" | .abs _ => "abs" | .pow _ _ => "pow" | .op o _ _ => o.s
@[simp] theorem ix_nd0 (n : Nd) (S) : ixD (nd n) (.int 0) S = .ok (.str n.tag) S := by cases n <;> simp [nd, Nd.tag]
def Nd.isNum : Nd → Bool
  | .num _ => true | _ => false
theorem tag_num (n : Nd) : decide (n.tag = "num") = n.isNum := by
  cases n with
  | op o i j => exact (kn_op o).1
  | _ => simp [Nd.tag, Nd.isNum]
theorem bools_map : ∀ l : List Bool, boolsOf (l.map D.bl) = some l
  | [] => rfl
  | b :: l => by
    show (boolsOf (l.map D.bl)).map (b :: ·) = _
    rw [bools_map l]; rfl
theorem all_lst {n : Nat} {l : List Bool} {S : Store} (h : S[n]? = some (.lst (l.map .bl))) : bltD .all [.obj n] S = .ok (.bl (l.all id)) S := by
  unfold bltD; simp only [h]; rw [bools_map]; rfl
theorem nats_get {l : List Nat} {i : Nat} {d : D} (h : (nats l)[i]? = some d) : ∃ j, j ∈ l ∧ d = .int (j : Nat) := by
  unfold nats at h
  rw [List.getElem?_map] at h
  cases e : l[i]? with
  | none => rw [e] at h; cases h
  | some j => rw [e] at h; cases h; exact ⟨j, List.mem_of_getElem? e, rfl⟩
theorem place_len {A : Store} (s : BSt) (n : Nd) (C : Store) : (bs A (s.place n) C).length = (bs A s C).length := by rw [bs_len, bs_len]
theorem ret_bs {A C : Store} (hR : Rest A C) (s s' : BSt) (J : Store) (i : Nat) : fin (bs A s C).length (.ret (.int (i : Nat)) (bs A s' (C ++ J))) = .ok (.int (i : Nat)) (bs A s' C) := by
  rw [fin_ret, ← bs_app, bs_len]
  exact congrArg _ (bs_gc hR s' J)
mutual
theorem lo_mono {n m : Nat} (h : n ≤ m) : ∀ d : D, d.lo n = true → d.lo m = true
  | .non, _ => rfl
  | .bl _, _ => rfl
  | .int _, _ => rfl
  | .str _, _ => rfl
  | .fn _, _ => rfl
  | .obj k, q => by
    have q : decide (k < n) = true := q
    show decide (k < m) = true
    have := of_decide_eq_true q
    exact decide_eq_true (by omega)
  | .tup ds, q => los_mono h ds q
  | .rol ds, q => los_mono h ds q
theorem los_mono {n m : Nat} (h : n ≤ m) : ∀ ds : List D, D.los n ds = true → D.los m ds = true
  | [], _ => rfl
  | d :: ds, q => by
    have q : (d.lo n && D.los n ds) = true := q
    rw [Bool.and_eq_true] at q
    show (d.lo m && D.los m ds) = true
    rw [lo_mono h d q.1, los_mono h ds q.2]; rfl
end
theorem mlo_mono {n m : Nat} (h : n ≤ m) (x : M) (q : x.lo n = true) : x.lo m = true := by
  cases x with
  | lst ds => exact los_mono h _ q
  | dic kvs => exact los_mono h _ q
  | ins C fs => exact los_mono h _ q
  | dit kvs =>
    have q : (D.los n (kvs.map (·.1)) && D.los n (kvs.map (·.2))) = true := q
    rw [Bool.and_eq_true] at q
    show (D.los m (kvs.map (·.1)) && D.los m (kvs.map (·.2))) = true
    rw [los_mono h _ q.1, los_mono h _ q.2]; rfl
theorem all_mono {n m : Nat} (h : n ≤ m) (S : Store) (q : S.all (M.lo n) = true) : S.all (M.lo m) = true :=
  List.all_eq_true.mpr fun x hx => mlo_mono h x (List.all_eq_true.mp q x hx)
theorem rest_app {A C : Store} (hR : Rest A C) {l : List D} (h : ∀ n, D.los n l = true) : Rest A (C ++ [.lst l]) := by
  refine ⟨all_mono (by simp) A hR.a, ?_⟩
  rw [List.all_append, all_mono (by simp) C hR.c]
  simp [M.lo, h]
/-- all of a node's parts are numbers -/
def allNum (s : BSt) (n : Nd) : Bool := n.args.all fun i => (s.nodes.getD i (.letter 0)).isNum
theorem ret_eq {A C : Store} (hR : Rest A C) (s : BSt) (hB : BOk s) (n : Nd) (ho : n.ok s.nodes.length s.rows.length) (hw : n.w s.ws ≤ 40) (hd : n.di s.ranges) (hnn : allNum s n = false) (hargs : ∀ i ∈ n.args, i < s.nodes.length) (k : Nat) (x1 x2 x3 : Option D) :
    fin (bs A s C).length (execs pdat.p (callK pdat.p (k + 7)) (.cons (.asg (.g (.one 4)) (.call 24 (.cons (.v 5) .nil))) 
  (.cons (.ite (.val (.blt .all (.cons (.lc [7] (.cmp .Eq (.ix (.ix (.fld (.v 0) 1) (.v 7)) (.k (.int (0)))) (.k (.str "num"))) (.one 7) (.seq (.v 4)) .yes) .nil))) 
   (.cons (.asg (.g (.one 6)) (.dc [7] (.v 7) (.ix (.ix (.fld (.v 0) 1) (.v 7)) (.k (.int (1)))) (.one 7) (.seq (.v 4)) .yes)) 
   (.cons (.ret (.meth (.v 0) 12 (.cons (.call 27 (.cons (.v 5) (.cons (.v 6) (.cons (.tup .nil) .nil)))) .nil))) .nil)) .nil) 
  (.cons (.ret (.meth (.v 0) 14 (.cons (.v 5) .nil))) .nil))) [some (.obj A.length), x1, x2, x3, none, some (nd n), none, none] (bs A s C)) = .ok (.int (s.at n : Nat)) (bs A (s.place n) C) := by
  have harg : callK pdat.p (k + 7) 24 [nd n] (bs A s C) = _ := s_arguments n (k + 6) (bs A s C)
  have hlc := lcLoop_pure (src := ⟨none, nats n.args⟩) (g := .one 7) (own := [7]) (t := evT pdat.p (callK pdat.p (k + 7)) .yes) (e := ev pdat.p (callK pdat.p (k + 7)) (.cmp .Eq (.ix (.ix (.fld (.v 0) 1) (.v 7)) (.k (.int (0)))) (.k (.str "num")))) (ρ := [some (.obj A.length), x1, x2, x3, some (.tup (nats n.args)), some (nd n), none, none]) (S0 := bs A s C)
    (fun d => match d with | .int i => some (.bl (s.nodes.getD i.toNat (.letter 0)).isNum) | _ => none) (nats n.args) (by unfold nats; rw [List.length_map]; exact ln _ (by cases n <;> simp [Nd.args])) (fun acc => rfl) (fun i d acc hdd => by
      obtain ⟨j, hj, rfl⟩ := nats_get hdd
      refine ⟨_, rfl, true, by simp, by simp, fun _ => ⟨_, ?_, rfl⟩⟩
      have e1 : ixD (.obj (A.length + 2)) (.int (j : Nat)) (bs A s (C ++ [.lst acc])) = _ := ix_lst (bs2 A s (C ++ [.lst acc])) (.letter 0) (hargs j hj)
      rw [bs_app]
      simp only [wipeE, List.set_cons_succ, List.set_cons_zero, ev_cmp, ev_ix, ev_fld, ev_v, ev_k, List.getElem?_cons_zero, List.getElem?_cons_succ, R.bind_ok, f1, R.of_some, e1, ix_nd0, cmp_eq_str, tag_num, Int.toNat_natCast])
  have hmap : (nats n.args).filterMap (fun d => match d with | .int i => some (D.bl (s.nodes.getD i.toNat (.letter 0)).isNum) | _ => none) = (n.args.map fun i => (s.nodes.getD i (.letter 0)).isNum).map D.bl := by
    unfold nats
    generalize n.args = l
    induction l with
    | nil => rfl
    | cons i l ih => simp only [List.map_cons, List.filterMap_cons, ih, Int.toNat_natCast]
  rw [hmap] at hlc
  have hall : bltD .all [.obj (bs A s C).length] (bs A s (C ++ [.lst ((n.args.map fun i => (s.nodes.getD i (.letter 0)).isNum).map D.bl)])) = .ok (.bl false) (bs A s (C ++ [.lst ((n.args.map fun i => (s.nodes.getD i (.letter 0)).isNum).map D.bl)])) := by
    rw [all_lst (l := n.args.map fun i => (s.nodes.getD i (.letter 0)).isNum) (by rw [← bs_app, List.getElem?_append_right (Nat.le_refl _)]; simp)]
    have : (n.args.map fun i => (s.nodes.getD i (.letter 0)).isNum).all id = false := by rw [List.all_map]; exact hnn
    rw [this]
  have hR2 := rest_app hR (l := (n.args.map fun i => (s.nodes.getD i (.letter 0)).isNum).map D.bl) (fun m => los_map D.bl m (fun _ => rfl) _)
  have hp : callK pdat.p (k + 7) 37 [.obj A.length, nd n] (bs A s (C ++ [.lst ((n.args.map fun i => (s.nodes.getD i (.letter 0)).isNum).map D.bl)])) = _ := s_place hR2 s hB n ho hw hd k
  generalize (n.args.map fun i => (s.nodes.getD i (.letter 0)).isNum).map D.bl = L at hlc hall hp
  simp [harg, hlc]
  rw [bs_app]
  simp [hall, hp]
  rw [← bs_app, bs_len]
  exact bs_gc hR _ _
/-! ### Builder.node -/
def mkOp (o : Op) (i j : Nat) : Nd := if o = .mul ∧ i = j then .pow i 2 else .op o i j
theorem s_nodeAbs {A C : Store} (hR : Rest A C) (s : BSt) (hB : BOk s) (i : Nat) (hi : i < s.nodes.length) (hw : s.ws.getD i 0 + 1 ≤ 40) (hnn : (s.nodes.getD i (.letter 0)).isNum = false) (k : Nat) :
    callK pdat.p (k + 8) 36 [.obj A.length, .str "abs", .int (i : Nat)] (bs A s C) = .ok (.int (s.at (.abs i) : Nat)) (bs A (s.place (.abs i)) C) := by
  rw [c_Builder_node_1]; unfold ir_Builder_node
  have h := ret_eq hR s hB (.abs i) hi hw trivial (by simp [allNum, Nd.args]; exact hnn) (by simp [Nd.args]; exact hi) k (some (.str "abs")) (some (.int (i : Nat))) (some .non)
  rw [← h]
  simp [nd]
theorem s_nodePow {A C : Store} (hR : Rest A C) (s : BSt) (hB : BOk s) (i n : Nat) (hi : i < s.nodes.length) (h2 : 2 ≤ n) (h6 : n ≤ 6) (hw : s.ws.getD i 0 * n ≤ 40) (hnn : (s.nodes.getD i (.letter 0)).isNum = false) (k : Nat) :
    callK pdat.p (k + 8) 36 [.obj A.length, .str "pow", .int (i : Nat), .int (n : Nat)] (bs A s C) = .ok (.int (s.at (.pow i n) : Nat)) (bs A (s.place (.pow i n)) C) := by
  rw [c_Builder_node]; unfold ir_Builder_node
  have h := ret_eq hR s hB (.pow i n) ⟨hi, h2, h6⟩ hw trivial (by simp [allNum, Nd.args]; exact hnn) (by simp [Nd.args]; exact hi) k (some (.str "pow")) (some (.int (i : Nat))) (some (.int (n : Nat)))
  rw [← h]
  have d1 : decide ((2 : Int) ≤ (n : Nat)) = true := decide_eq_true (by omega)
  have d2 : decide (((n : Nat) : Int) ≤ 6) = true := decide_eq_true (by omega)
  simp [nd, d1, d2]
theorem s_nodeOp {A C : Store} (hR : Rest A C) (s : BSt) (hB : BOk s) (o : Op) (i j : Nat) (hi : i < s.nodes.length) (hj : j < s.nodes.length) (hw : s.ws.getD i 0 + s.ws.getD j 0 ≤ 40) (hnn : (s.nodes.getD i (.letter 0)).isNum = false)
    (hz : o = .div → 0 < (s.ranges.getD j i0).1.1 ∨ (s.ranges.getD j i0).2.1 < 0) (hd : (Nd.op o i j).di s.ranges) (k : Nat) :
    callK pdat.p (k + 8) 36 [.obj A.length, .str o.s, .int (i : Nat), .int (j : Nat)] (bs A s C) = .ok (.int (s.at (mkOp o i j) : Nat)) (bs A (s.place (mkOp o i j)) C) := by
  rw [c_Builder_node]; unfold ir_Builder_node
  have hok : (mkOp o i j).ok s.nodes.length s.rows.length := by
    unfold mkOp; split
    · exact ⟨hi, by omega, by omega⟩
    · exact ⟨hi, hj⟩
  have hw' : (mkOp o i j).w s.ws ≤ 40 := by
    unfold mkOp; split
    · rename_i h; obtain ⟨_, rfl⟩ := h; show s.ws.getD i 0 * 2 ≤ 40; omega
    · exact hw
  have hd' : (mkOp o i j).di s.ranges := by
    unfold mkOp; split
    · trivial
    · exact hd
  have h := ret_eq hR s hB (mkOp o i j) hok hw' hd' (by unfold mkOp; split <;> simp [allNum, Nd.args] <;> simp [List.getD] at hnn ⊢ <;> simp [hnn]) (by unfold mkOp; split <;> simp [Nd.args] <;> omega) k (some (.str o.s)) (some (.int (i : Nat))) (some (.int (j : Nat)))
  rw [← h]
  have er : ixD (.obj (A.length + 3)) (.int (j : Nat)) (bs A s C) = _ := ix_lst (bs3 A s C) i0 (by rw [hB.lr]; exact hj)
  have hh : callK pdat.p (k + 7) 18 [iv (s.ranges.getD j i0)] (bs A s C) = _ := s_has_zero (s.ranges.getD j i0) (k + 6) (bs A s C)
  generalize s.ranges.getD j i0 = v at *
  have hij : decide (((i : Nat) : Int) = (j : Nat)) = decide (i = j) := by
    by_cases e : i = j
    · simp [e]
    · simp [e]; omega
  cases o with
  | div =>
    have e : (decide (v.1.1 ≤ 0) && decide (0 ≤ v.2.1)) = false := by
      rcases hz rfl with q | q
      · have : decide (v.1.1 ≤ 0) = false := decide_eq_false (by omega)
        rw [this]; rfl
      · have : decide (0 ≤ v.2.1) = false := decide_eq_false (by omega)
        rw [this]; simp
    rw [e] at hh
    simp [Op.s, er, hh, mkOp, nd]
  | mul =>
    by_cases e : i = j
    · subst e
      simp [Op.s, mkOp, nd]
    · have hm : mkOp .mul i j = .op .mul i j := if_neg (fun q => e q.2)
      have hd2 : decide (((i : Nat) : Int) = (j : Nat)) = false := by rw [hij]; exact decide_eq_false e
      rw [hm]
      simp only [execs_cons, exec_ite, evT_and, evT_val, evT_not, ev_cmp, ev_v, ev_k, R.bind_ok, List.getElem?_cons_zero, List.getElem?_cons_succ, cmp_eq_str, Op.s, kn_mul_pow, kn_mul_div, kn_mul_abs, decide_false, decide_true, truthy_bl, R.of_some, R.st_ok, Bool.false_eq_true, if_false, if_true, cmp_eq_int, hd2, execs_nil, RS.seq_nx, exec_asg, ev_tup, evs_cons, evs_nil, bindG_one, List.set_cons_succ, List.set_cons_zero, List.length_cons, List.length_nil, nd]
      rfl
  | add => simp [Op.s, mkOp, nd]
  | sub => simp [Op.s, mkOp, nd]
  | max => simp [Op.s, mkOp, nd]
  | min => simp [Op.s, mkOp, nd]
end Z
end

section
set_option Elab.async false
set_option linter.all false
set_option maxRecDepth 100000
/-! ML: Builder.letter. -/
namespace Z
open PySem
theorem in_lst {n : Nat} {ds : List D} {S : Store} {d : D} (h : S[n]? = some (.lst ds)) (hd : d.pl = true) (ha : ds.all (D.pd 19) = true) : cmpD .In d (.obj n) S = .ok (.bl (ds.any fun x => decide (x = d))) S := by
  show R.of S ((inD S d (.obj n)).map D.bl) = _
  unfold inD; simp only [h]; rw [if_pos ⟨hd, ha⟩]; rfl
theorem in_tupD {ds : List D} {S : Store} {d : D} (hd : d.pl = true) (ha : ds.all (D.pd 19) = true) : cmpD .In d (.tup ds) S = .ok (.bl (ds.any fun x => decide (x = d))) S := by
  show R.of S ((inD S d (.tup ds)).map D.bl) = _
  unfold inD; dsimp only; rw [if_pos ⟨hd, ha⟩]; rfl
theorem names_lc {A C : Store} {s : BSt} (p : Prg) (c : Nat → List D → Store → R D) (ρ : Env) (hl : s.rows.length ≤ 3) (hρ : ρ.length = 6) : lcLoop ⟨some (A.length + 1), s.rows.map rowD⟩ (.one 5) [5] (bs A s C).length (evT p c .yes) (ev p c (.ix (.v 5) (.k (.int (0))))) ρ (s.rows.map rowD) (bs A s C ++ [.lst []]) =
    .ok (.obj (bs A s C).length) (bs A s C ++ [.lst (s.rows.map fun r => .str r.name)]) := by
  have h := lcLoop_pure (src := ⟨some (A.length + 1), s.rows.map rowD⟩) (g := .one 5) (own := [5]) (t := evT p c .yes) (e := ev p c (.ix (.v 5) (.k (.int (0))))) (ρ := ρ) (S0 := bs A s C)
    (fun d => match d with | .tup (x :: _) => some x | _ => none) (s.rows.map rowD) (by rw [List.length_map]; exact ln _ (by omega))
    (fun acc => stays_some (by rw [bs_app]; simp)) (fun i d acc hd => by
      rw [List.getElem?_map] at hd
      cases hr : s.rows[i]? with
      | none => rw [hr] at hd; cases hd
      | some r =>
        rw [hr] at hd
        have hd : rowD r = d := by simpa using hd
        subst hd
        refine ⟨_, rfl, true, by simp, by simp, fun _ => ⟨.str r.name, ?_, rfl⟩⟩
        have e4 : ((wipeE ρ [5]).set 5 (some (rowD r)))[5]? = some (some (rowD r)) := by
          rw [List.getElem?_set_self]; simp [wipeE, hρ]
        simp [e4])
  have e : ∀ l : List Row, (l.map rowD).filterMap (fun d => match d with | .tup (x :: _) => some x | _ => none) = l.map fun r => D.str r.name := by
    intro l
    induction l with
    | nil => rfl
    | cons r l ih =>
      show D.str r.name :: ((l.map rowD).filterMap _) = _
      rw [ih]; rfl
  rw [h, e]
/-- a letter's row -/
structure ROk (s : BSt) (r : Row) : Prop where
  fresh : ∀ q ∈ s.rows, q.name ≠ r.name
  le : qle r.v.1 r.v.2
  wh : r.whole = true → r.v.1.2 = 1 ∧ r.v.2.2 = 1
  s1 : Short r.v.1
  s2 : Short r.v.2
  z : InI 15 r.v
theorem fdiv1 (x : Int) : x.fdiv 1 = x := by simp
theorem s_letter {A C : Store} (hR : Rest A C) (s : BSt) (hB : BOk s) (r : Row) (hr : ROk s r) (h3 : s.rows.length < 3) (hf : s.nodes.length < 100) (k : Nat) (hv : ∀ S, callK pdat.p (k + 7) 31 [.str r.name] S = .ok (.bl true) S) :
    callK pdat.p (k + 8) 34 [.obj A.length, .str r.name, .str (kindS r.whole), rq r.v.1, rq r.v.2] (bs A s C) = .ok (.int (({ s with rows := s.rows ++ [r] } : BSt).at (.letter s.rows.length) : Nat)) (bs A (({ s with rows := s.rows ++ [r] } : BSt).place (.letter s.rows.length)) C) := by
  rw [c_Builder_letter]; unfold ir_Builder_letter
  have hlc := names_lc (A := A) (C := C) (s := s) pdat.p (callK pdat.p (k + 7)) [some (.obj A.length), some (.str r.name), some (.str (kindS r.whole)), some (rq r.v.1), some (rq r.v.2), none] (by omega) rfl
  have hin : cmpD .In (.str r.name) (.obj (bs A s C).length) (bs A s C ++ [.lst (s.rows.map fun r => .str r.name)]) = .ok (.bl false) (bs A s C ++ [.lst (s.rows.map fun r => .str r.name)]) := by
    rw [in_lst (ds := s.rows.map fun r => .str r.name) (by rw [List.getElem?_append_right (Nat.le_refl _)]; simp) rfl (by rw [List.all_map]; exact List.all_eq_true.mpr fun _ _ => rfl)]
    congr 2
    rw [List.any_map]
    refine List.any_eq_false.mpr fun q hq => ?_
    have := hr.fresh q hq
    simp [this]
  have hup : ∀ S, callK pdat.p (k + 7) 8 [rq r.v.1, rq r.v.2] S = .ok (.bl true) S := fun S => by
    rw [s_upto hr.z.l hr.z.h (by omega) (k + 6) S, decide_eq_true hr.le]
  have ht1 : ∀ S, callK pdat.p (k + 7) 42 [rq r.v.1] S = _ := fun S => s_too_long hr.s1 (k + 6) S
  have ht2 : ∀ S, callK pdat.p (k + 7) 42 [rq r.v.2] S = _ := fun S => s_too_long hr.s2 (k + 6) S
  have hR2 := rest_app hR (l := s.rows.map fun r => D.str r.name) (fun m => los_map _ m (fun _ => rfl) _)
  have hB2 : BOk { s with rows := s.rows ++ [r] } := ⟨hB.kn, hB.lr, hB.lw, hB.few, by show (s.rows ++ [r]).length ≤ 3; simp; omega, hB.w, hB.szs, fun i hi => by
    have hi : i < (s.rows ++ [r]).length := hi
    show InI 15 (((s.rows ++ [r]).map (·.v)).getD i i0)
    rw [List.map_append]
    by_cases h : i < s.rows.length
    · rw [show [r].map (·.v) = [r.v] from rfl, getD_app_lt _ _ _ (by rw [List.length_map]; exact h)]; exact hB.rsz i h
    · have e : i = (s.rows.map (·.v)).length := by rw [List.length_map]; rw [List.length_append, List.length_singleton] at hi; omega
      rw [show [r].map (·.v) = [r.v] from rfl, e, getD_app_eq]; exact hr.z⟩
  have hp : callK pdat.p (k + 7) 37 [.obj A.length, nd (.letter s.rows.length)] (bs A { s with rows := s.rows ++ [r] } (C ++ [.lst (s.rows.map fun r => .str r.name)])) = _ :=
    s_place hR2 { s with rows := s.rows ++ [r] } hB2 (.letter s.rows.length) (by show s.rows.length < (s.rows ++ [r]).length; simp) (by show 1 ≤ 40; omega) trivial k
  have d6 : decide ((6 : Int) ≤ (s.rows.length : Nat)) = false := decide_eq_false (by omega)
  have hbm := bm1 A s (C ++ [.lst (s.rows.map fun r => D.str r.name)]) r (by omega)
  generalize s.rows.map (fun r => D.str r.name) = L at *
  have fin : ∀ S', S' = bs A (({ s with rows := s.rows ++ [r] } : BSt).place (.letter s.rows.length)) (C ++ [.lst L]) → Z.fin (bs A s C).length (.ret (.int (({ s with rows := s.rows ++ [r] } : BSt).at (.letter s.rows.length) : Nat)) S') = .ok (.int (({ s with rows := s.rows ++ [r] } : BSt).at (.letter s.rows.length) : Nat)) (bs A (({ s with rows := s.rows ++ [r] } : BSt).place (.letter s.rows.length)) C) := fun S' e => by
    subst e
    exact ret_bs hR s _ [.lst L] _
  by_cases hw : r.whole = true
  · obtain ⟨w1, w2⟩ := hr.wh hw
    have hc : ∀ S, callK pdat.p (k + 7) 12 [rq r.v.1] S = .ok (.int r.v.1.1) S := fun S => by
      rw [s_ceil hr.z.l (by omega) (k + 6) S, w1]; simp
    have hfl : ∀ S, callK pdat.p (k + 7) 11 [rq r.v.2] S = .ok (.int r.v.2.1) S := fun S => by
      rw [s_floor hr.z.h (by omega) (k + 6) S, w2]; simp
    have e1 : D.tup [.int r.v.1.1, .int 1] = rq r.v.1 := by unfold rq; rw [w1]
    have e2 : D.tup [.int r.v.2.1, .int 1] = rq r.v.2 := by unfold rq; rw [w2]
    have er : D.tup [.str r.name, .str (Str.ofString "whole"), rq r.v.1, rq r.v.2] = rowD r := by unfold rowD kindS; rw [if_pos hw]
    have ek : kindS r.whole = Str.ofString "whole" := by unfold kindS; rw [if_pos hw]
    rw [ek] at hlc ⊢
    simp [hv, seqSrc_lst (bs1 A s C), hlc, hin, hup, hc, hfl, e1, e2, ht1, ht2]
    rw [bs_app]
    simp [d6, er, hbm]
    have hp2 : callK pdat.p (k + 7) 37 [.obj A.length, .tup [.str "letter", .int (s.rows.length : Nat)]] _ = _ := hp
    rw [hp2]
    simp only [R.st_ok, RS.seq_ret]
    exact fin _ rfl
  · have er : D.tup [.str r.name, .str (Str.ofString "real"), rq r.v.1, rq r.v.2] = rowD r := by unfold rowD kindS; rw [if_neg hw]
    have ek : kindS r.whole = Str.ofString "real" := by unfold kindS; rw [if_neg hw]
    rw [ek] at hlc ⊢
    simp [hv, seqSrc_lst (bs1 A s C), hlc, hin, hup, ht1, ht2]
    rw [bs_app]
    simp [d6, er, hbm]
    have hp2 : callK pdat.p (k + 7) 37 [.obj A.length, .tup [.str "letter", .int (s.rows.length : Nat)]] _ = _ := hp
    rw [hp2]
    simp only [R.st_ok, RS.seq_ret]
    exact fin _ rfl
end Z
end

section
set_option Elab.async false
set_option linter.all false
set_option maxRecDepth 100000
/-! MN: the law's four names are valid. -/
namespace Z
open PySem
def later : Str := "abcdefghijklmnopqrstuvwxyz0123456789"
def firsts : Str := "abcdefghijklmnopqrstuvwxyz"
def reserved : List D := [.str "abs", .str "max", .str "min", .str "real", .str "whole", .str "let", .str "keep", .str "least"]
theorem g_later (k : Nat) (S : Store) (ρ) : ev pdat.p (callK pdat.p k) (.g 4) ρ S = .ok (.str later) S := by rw [ev_g]; rfl
theorem g_firsts (k : Nat) (S : Store) (ρ) : ev pdat.p (callK pdat.p k) (.g 3) ρ S = .ok (.str firsts) S := by rw [ev_g]; rfl
theorem g_reserved (k : Nat) (S : Store) (ρ) : ev pdat.p (callK pdat.p k) (.g 2) ρ S = .ok (.tup reserved) S := by rw [ev_g]; rfl
def hasS (y x : Str) : Bool := !(Builtin.Str.occurrences y x 0 y.length 1).isEmpty
theorem notIn_str (x y : Str) (S) : cmpD .NotIn (.str x) (.str y) S = .ok (.bl (!hasS y x)) S := rfl
/-- what is asked of a name, by computing -/
structure Named (x : Str) : Prop where
  e : decide (x = Str.ofString "") = false
  l : x.length ≤ 12
  r : (reserved.any fun y => decide (y = .str x)) = false
  f : ∃ c, x.cps.toList[0]? = some c ∧ hasS firsts ⟨#[c]⟩ = true
  a : ∀ c ∈ x.cps.toList, hasS later ⟨#[c]⟩ = true
theorem s_valid {x : Str} (h : Named x) (k : Nat) (S : Store) : callK pdat.p (k + 1) 31 [.str x] S = .ok (.bl true) S := by
  rw [c_valid_name]; unfold ir_valid_name
  obtain ⟨c, hc, hf⟩ := h.f
  have hlen : bltD .len [.str x] S = .ok (.int (x.length : Nat)) S := by
    unfold bltD; dsimp only; rw [if_pos (by have := h.l; have : line = 16777216 := rfl; omega)]
  have d12 : decide ((12 : Int) < (x.length : Nat)) = false := decide_eq_false (by have := h.l; omega)
  have hin : cmpD .In (.str x) (.tup reserved) S = .ok (.bl false) S := by
    rw [in_tupD rfl (by rfl), h.r]
  have hix : ixD (.str x) (.int 0) S = .ok (.str ⟨#[c]⟩) S := by
    unfold ixD; dsimp only
    rw [if_pos (by have := h.l; have : line = 16777216 := rfl; omega), atI_0, hc]; rfl
  obtain ⟨ρ', S', hl, ⟨u, hu⟩, hS⟩ := forL_inv (src := ⟨none, x.cps.toList.map fun c => .str ⟨#[c]⟩⟩) (g := .one 1) (b := execs pdat.p (callK pdat.p k) (.cons (.ite (.val (.cmp .NotIn (.v 1) (.g 4))) (.cons (.ret (.k (.bl false))) .nil) .nil) .nil))
    (fun i ρ T => (∃ u, ρ = [some (.str x), u]) ∧ T = S) (x.cps.toList.map fun c => D.str ⟨#[c]⟩) (fun i d ρ T hd ⟨⟨u, hρ⟩, hT⟩ => by
      subst hρ hT
      rw [List.getElem?_map] at hd
      cases e : x.cps.toList[i]? with
      | none => rw [e] at hd; cases hd
      | some c =>
        rw [e] at hd; cases hd
        refine ⟨rfl, _, rfl, _, _, .inl ?_, ⟨some (.str ⟨#[c]⟩), rfl⟩, rfl⟩
        have := h.a c (List.mem_of_getElem? e)
        simp [-ev_g, g_later, notIn_str, this]) (fun _ _ _ => rfl) (ρ := [some (.str x), none]) (S := S) ⟨⟨none, rfl⟩, rfl⟩
  subst hS hu
  have hseq : seqSrc S' (.str x) = some ⟨none, x.cps.toList.map fun c => .str ⟨#[c]⟩⟩ := rfl
  simp [-ev_g, g_firsts, g_reserved, h.e, hlen, d12, hin, hix, notIn_str, hf, hseq, hl, gc_same]
theorem nm_x : Named "x" := ⟨by decide +kernel, by decide +kernel, by simp [reserved]; decide +kernel, ⟨120, by decide +kernel, by decide +kernel⟩, by decide +kernel⟩
theorem nm_y : Named "y2" := ⟨by decide +kernel, by decide +kernel, by simp [reserved]; decide +kernel, ⟨121, by decide +kernel, by decide +kernel⟩, by decide +kernel⟩
theorem nm_l : Named "long0name1z" := ⟨by decide +kernel, by decide +kernel, by simp [reserved]; decide +kernel, ⟨108, by decide +kernel, by decide +kernel⟩, by decide +kernel⟩
theorem nm_a : Named "a" := ⟨by decide +kernel, by decide +kernel, by simp [reserved]; decide +kernel, ⟨97, by decide +kernel, by decide +kernel⟩, by decide +kernel⟩
end Z
end

section
set_option Elab.async false
set_option linter.all false
set_option maxRecDepth 100000
/-! MO: the law's jar. -/
namespace Z
open PySem
theorem cut_map {α β : Type} (f : α → β) (l : List α) (lo hi : Option Int) : cutD (l.map f) lo hi = (cutD l lo hi).map f := by
  unfold cutD; rw [List.length_map, List.map_take, List.map_drop]
theorem cut_len {α : Type} (l : List α) (lo hi : Option Int) : (cutD l lo hi).length ≤ l.length := by
  unfold cutD; rw [List.length_take, List.length_drop]; omega
theorem pow18 (S) : binD .Pow (.int 10) (.int 18) S = .ok (.int 1000000000000000000) S := by
  have h : powOk 10 18 = true := by decide
  show (if powOk 10 18 = true then R.ok (D.int (10 ^ (18 : Int).toNat)) S else .bad) = _
  rw [if_pos h]; rfl
theorem s_jar (ns : List Int) (hn : ns.length ≤ 63) (k : Nat) : ∃ J : Jar, J.Ok 0 ∧ callK pdat.p (k + 1) 46 [.rol (ns.map .int)] [] = .ok (.obj 3) J.st := by
  have hsl : ∀ S, slD (.rol (ns.map .int)) none (some 63) S = .ok (.obj S.length) (S ++ [.lst (iL (cutD ns none (some 63)))]) := fun S => by
    show R.ok (D.obj S.length) (S ++ [M.lst (cutD (ns.map .int) none (some 63))]) = _
    rw [cut_map]; rfl
  have hl := cut_len ns none (some 63)
  generalize cutD ns none (some 63) = sl at hsl hl
  have hlc := lcLoop_pure (src := ⟨some 0, iL sl⟩) (g := .one 3) (own := [3]) (t := evT pdat.p (callK pdat.p k) (.val (.cmp .GtE (.v 3) (.bin .Pow (.k (.int (10))) (.k (.int (18))))))) (e := ev pdat.p (callK pdat.p k) (.v 3)) (ρ := [some (.rol (ns.map .int)), none, none, none]) (S0 := [.lst (iL sl)])
    (fun d => match d with | .int i => if (1000000000000000000 : Int) ≤ i then some (.int i) else none | _ => none) (iL sl) (by unfold iL; rw [List.length_map]; exact ln _ (by omega)) (fun acc => stays_some rfl) (fun i d acc hd => by
      unfold iL at hd
      rw [List.getElem?_map] at hd
      cases e : sl[i]? with
      | none => rw [e] at hd; cases hd
      | some x =>
        rw [e] at hd; cases hd
        refine ⟨_, rfl, decide ((1000000000000000000 : Int) ≤ x), ?_, ?_, ?_⟩
        · simp [wipeE, pow18]
        · intro h; have h := of_decide_eq_false h; simp; omega
        · intro h; have h := of_decide_eq_true h
          exact ⟨.int x, by simp [wipeE], by simp [h]⟩)
  have hfm : (iL sl).filterMap (fun d => match d with | .int i => if (1000000000000000000 : Int) ≤ i then some (D.int i) else none | _ => none) = iL (sl.filter fun i => decide ((1000000000000000000 : Int) ≤ i)) := by
    clear hlc hl hsl
    induction sl with
    | nil => rfl
    | cons x l ih =>
      unfold iL at ih ⊢
      rw [List.map_cons, List.filterMap_cons, ih]
      by_cases h : (1000000000000000000 : Int) ≤ x
      · simp [h]
      · simp [h]
  rw [hfm] at hlc
  generalize hgs : sl.filter (fun i => decide ((1000000000000000000 : Int) ≤ i)) = gs at hlc
  have hg : ∀ x ∈ gs, 0 < x := by
    intro x hx
    rw [← hgs, List.mem_filter] at hx
    have := of_decide_eq_true hx.2
    omega
  obtain ⟨ρ', S', hfor, ⟨mix, u, hρ, m0, m1⟩, hS⟩ := forL_inv (src := ⟨some 2, iL sl⟩) (g := .one 3) (b := execs pdat.p (callK pdat.p k) (.cons (.asg (.g (.one 2)) (.bin .Mod (.bin .Add (.bin .Add (.bin .Mult (.v 2) (.k (.int (48271)))) (.bin .Mod (.blt .int (.cons (.v 3) .nil)) (.k (.int (2147483629))))) (.k (.int (11)))) (.k (.int (2147483647))))) .nil))
    (fun i ρ T => (∃ (mix : Int) (u : Option D), ρ = [some (.rol (ns.map .int)), some (.obj 1), some (.int mix), u] ∧ 0 ≤ mix ∧ mix < 2147483647) ∧ T = [.lst (iL sl), .lst (iL gs), .lst (iL sl)]) (iL sl) (fun i d ρ T hd ⟨⟨mix, u, hρ, m0, m1⟩, hT⟩ => by
      subst hρ hT
      unfold iL at hd
      rw [List.getElem?_map] at hd
      cases e : sl[i]? with
      | none => rw [e] at hd; cases hd
      | some x =>
        rw [e] at hd; cases hd
        have sm : Sm 40 mix := by
          unfold Sm
          have : (2:Nat)^40 = 1099511627776 := by decide
          omega
        have mm : mulOk mix 48271 = true := mulOk_of (n := 40) (m := 40) sm (by unfold Sm; decide) (by decide) (by decide) (by decide)
        have b1 : ∀ i S, binD .Mod (.int i) (.int 2147483629) S = .ok (.int (i.fmod 2147483629)) S := fun i S => bin_mod S (by decide)
        have b2 : ∀ i S, binD .Mod (.int i) (.int 2147483647) S = .ok (.int (i.fmod 2147483647)) S := fun i S => bin_mod S (by decide)
        refine ⟨stays_some rfl, _, rfl, _, _, .inl ?_, ⟨(mix * 48271 + x.fmod 2147483629 + 11).fmod 2147483647, some (.int x), rfl, Int.fmod_nonneg_of_pos _ (by decide), Int.fmod_lt_of_pos _ (by decide)⟩, rfl⟩
        simp [bin_mul, mm, int_int, b1, b2]) (fun ρ T ⟨_, hT⟩ => by subst hT; exact stays_some rfl) (ρ := [some (.rol (ns.map .int)), some (.obj 1), some (.int 7), none]) (S := [.lst (iL sl), .lst (iL gs), .lst (iL sl)]) ⟨⟨7, none, rfl, by decide, by decide⟩, rfl⟩
  subst hS hρ
  refine ⟨⟨sl, gs, 0, mix, 0⟩, ⟨by show (0:Int) ≤ 0; decide, m0, m1, by show (0:Int) ≤ 0; decide, by show (0:Int) ≤ _; simp, hg⟩, ?_⟩
  rw [c__law_jar]; unfold ir__law_jar
  have hs0 : seqSrc [M.lst (iL sl)] (.obj 0) = some ⟨some 0, iL sl⟩ := rfl
  have hs2 : seqSrc [M.lst (iL sl), .lst (iL gs), .lst (iL sl)] (.obj 2) = some ⟨some 2, iL sl⟩ := rfl
  have hlc : lcLoop ⟨some 0, iL sl⟩ (.one 3) [3] 1 _ _ _ (iL sl) [.lst (iL sl), .lst []] = .ok (.obj 1) [.lst (iL sl), .lst (iL gs)] := hlc
  simp [hsl, hs0, hlc, hs2, hfor]
  rfl
end Z
end

section
set_option Elab.async false
set_option linter.all false
set_option maxRecDepth 100000
/-! MP: small defs: _law_parts, moved_node, Problem, Builder(). -/
namespace Z
open PySem
theorem lo_self (n : Nat) : (D.obj n).lo n = false := decide_eq_false (Nat.lt_irrefl n)
theorem gc_low (n : Nat) (S : Store) : gc n false S = S := by unfold gc; simp
theorem s_parts (n : Nd) (k : Nat) (S : Store) : callK pdat.p (k + 1) 54 [nd n] S = .ok (.obj S.length) (S ++ [.lst (nats n.args)]) := by
  rw [c__law_parts]; unfold ir__law_parts
  cases n with
  | num v => simp [nd, Nd.args, lo_self, gc_low]
  | letter v => simp [nd, Nd.args, lo_self, gc_low]
  | abs v => simp [nd, Nd.args, lo_self, gc_low]
  | pow v n => simp [nd, Nd.args, lo_self, gc_low]
  | op o i j =>
    obtain ⟨k1, k2, k3, k4⟩ := kn_op o
    simp [nd, Nd.args, lo_self, gc_low, k1, k2, k3, k4]
/-- a node renumbered -/
def Nd.mv (π : Nat → Nat) : Nd → Nd
  | .num v => .num v | .letter k => .letter k | .abs i => .abs (π i) | .pow i n => .pow (π i) n | .op o i j => .op o (π i) (π j)
theorem ix_dic {n : Nat} {kvs : List (L2.Key × D)} {S : Store} {i : Int} {d : D} (h : S[n]? = some (.dic kvs)) (hf : findK kvs (.inl i) = some d) : ixD (.obj n) (.int i) S = .ok d S := by
  unfold ixD; simp [h, keyOf, hf]
theorem s_moved (n : Nd) (π : Nat → Nat) (pl : Nat) (kvs : List (L2.Key × D)) (S : Store) (h : S[pl]? = some (.dic kvs)) (hf : ∀ i ∈ n.args, findK kvs (.inl (i : Nat)) = some (.int (π i : Nat))) (k : Nat) :
    callK pdat.p (k + 1) 25 [nd n, .obj pl] S = .ok (nd (n.mv π)) S := by
  rw [c_moved_node]; unfold ir_moved_node
  cases n with
  | num v => simp [nd, Nd.mv, gc_same]
  | letter v => simp [nd, Nd.mv, gc_same]
  | abs i =>
    have e := ix_dic h (hf i (by simp [Nd.args]))
    simp [nd, Nd.mv, gc_same, e]
  | pow i n =>
    have e := ix_dic h (hf i (by simp [Nd.args]))
    simp [nd, Nd.mv, gc_same, e]
  | op o i j =>
    have e1 := ix_dic h (hf i (by simp [Nd.args]))
    have e2 := ix_dic h (hf j (by simp [Nd.args]))
    obtain ⟨k1, k2, k3, k4⟩ := kn_op o
    simp [nd, Nd.mv, gc_same, e1, e2, k1, k2, k3, k4]
theorem isF0 : pdat.p.isF 0 0 = true ∧ pdat.p.isF 0 1 = true ∧ pdat.p.isF 0 2 = true ∧ pdat.p.isF 0 3 = true ∧ pdat.p.isF 0 4 = true := ⟨rfl, rfl, rfl, rfl, rfl⟩
def pins0 (a b c d e : D) : M := .ins 0 [(0, a), (1, b), (2, c), (3, d), (4, e)]
theorem setF_at {S : Store} {fs : List (Nat × D)} {C f : Nat} {y : D} (J : Store) (hf : pdat.p.isF C f = true) (hl : fs.length < 1000) : setFld pdat.p (.obj S.length) f y (S ++ (.ins C fs :: J)) = some (S ++ (.ins C (putN f y fs) :: J)) := by
  unfold setFld
  simp [hf, hl]
theorem s_new0 (a b c d e : D) (S : Store) (hS : Lo S) (k : Nat) : callK pdat.p (k + 1) 32 [.obj S.length, a, b, c, d, e] (S ++ [.ins 0 []]) = .ok .non (gc (S.length + 1) true (S ++ [pins0 a b c d e])) := by
  rw [c_Problemu_initu]; unfold ir_Problemu_initu
  obtain ⟨h0, h1, h2, h3, h4⟩ := isF0
  simp [setF_at, h0, h1, h2, h3, h4, putN, pins0]
end Z
end

section
set_option Elab.async false
set_option linter.all false
set_option maxRecDepth 100000
/-! MQ: new instances. -/
namespace Z
open PySem
theorem s_new0' (a b c d e : D) (S : Store) (hS : Lo S) (k : Nat) : callK pdat.p (k + 1) 32 [.obj S.length, a, b, c, d, e] (S ++ [.ins 0 []]) = .ok .non (S ++ [pins0 a b c d e]) := by
  rw [s_new0 a b c d e S hS k]
  have h : S.length + 1 = (S ++ [pins0 a b c d e]).length := by simp
  rw [h, gc_same]
def b0 : BSt := ⟨[], [], [], [], [], [], none⟩
theorem gc_no {S : Store} {n : Nat} {b : Bool} (h : (S.take n).all (M.lo n) = false) : gc n b S = S := by
  unfold gc; simp [h]
theorem s_newB (A : Store) (k : Nat) : callK pdat.p (k + 1) 33 [.obj A.length] (A ++ [.ins 1 []]) = .ok .non (bs A b0 []) := by
  obtain ⟨h0, h1, h2, h9, h3, h4, h10⟩ := isF1
  have hg : gc (A.length + 1) true (A ++ [bins A.length .non, .lst [], .lst [], .lst [], .lst [], .lst [], .dit []]) = A ++ [bins A.length .non, .lst [], .lst [], .lst [], .lst [], .lst [], .dit []] := by
    refine gc_no ?_
    have e : (A ++ [bins A.length .non, .lst [], .lst [], .lst [], .lst [], .lst [], .dit []]).take (A.length + 1) = A ++ [bins A.length .non] := by
      rw [List.take_append]; simp [List.take_of_length_le]
    rw [e, List.all_append]
    have : (bins A.length .non).lo (A.length + 1) = false := by
      have o : (D.obj (A.length + 1)).lo (A.length + 1) = false := lo_self _
      show D.los _ _ = false
      simp only [List.map_cons, D.los, o, Bool.false_and]
    simp [this]
  rw [c_Builderu_initu]; unfold ir_Builderu_initu
  simp [setF_at, h0, h1, h2, h3, h4, h9, h10, putN]
  exact hg
end Z
end

section
set_option Elab.async false
set_option linter.all false
set_option maxRecDepth 100000
/-! MR: worths. -/
namespace Z
open PySem
theorem fld0_at {S : Store} {P : Nat} {a b c d e : D} (h : S[P]? = some (pins0 a b c d e)) : fldD pdat.p (.obj P) 0 S = some a ∧ fldD pdat.p (.obj P) 1 S = some b ∧ fldD pdat.p (.obj P) 2 S = some c ∧ fldD pdat.p (.obj P) 3 S = some d ∧ fldD pdat.p (.obj P) 4 S = some e := by
  obtain ⟨h0, h1, h2, h3, h4⟩ := isF0
  unfold fldD
  simp [h, pins0, h0, h1, h2, h3, h4, List.lookup]
/-- the worths of a list of nodes, one after another -/
structure Wl (nodes : List Nd) (ps fs : List Qq) (ws : List Nat) : Prop where
  len : fs.length = nodes.length
  q : ∀ (i : Nat) (n : Nd), nodes[i]? = some n → n.q (fs.take i) ps = fs.getD i q0
  ok : ∀ (i : Nat) (n : Nd), nodes[i]? = some n → n.ok i ps.length
  w : ∀ (i : Nat) (n : Nd), nodes[i]? = some n → n.w ws ≤ 40
  d : ∀ (i : Nat) (n : Nd), nodes[i]? = some n → n.dq (fs.take i)
  z : ∀ i, i ≤ nodes.length → SzQ ws (fs.take i)
theorem s_worths {nodes : List Nd} {ps fs : List Qq} {ws : List Nat} (h : Wl nodes ps fs ws) {S : Store} (hS : Lo S) {P : Nat} {a c d e : D} (hP : S[P]? = some (pins0 a (.tup (nodes.map nd)) c d e)) (hn : nodes.length ≤ 1000) (k : Nat) :
    callK pdat.p (k + 5) 43 [.obj P, .tup (ps.map rq)] S = .ok (.tup (fs.map rq)) S := by
  rw [c_worths]; unfold ir_worths
  have hPl : P < S.length := (List.getElem?_eq_some_iff.mp hP).1
  obtain ⟨ρ', S', hfor, ⟨u, hρ⟩, hT⟩ := forL_inv (src := ⟨none, nodes.map nd⟩) (g := .one 3) (b := execs pdat.p (callK pdat.p (k + 4)) (.cons (.expr (.bm (.v 2) .append (.cons (.call 27 (.cons (.v 3) (.cons (.v 2) (.cons (.v 1) .nil)))) .nil))) .nil))
    (fun i ρ T => (∃ u, ρ = [some (.obj P), some (.tup (ps.map rq)), some (.obj S.length), u]) ∧ T = S ++ [.lst ((fs.take i).map rq)]) (nodes.map nd) (fun i x ρ T hd ⟨⟨u, hρ⟩, hT⟩ => by
      subst hρ hT
      rw [List.getElem?_map] at hd
      cases en : nodes[i]? with
      | none => rw [en] at hd; cases hd
      | some n =>
        rw [en] at hd; cases hd
        have hi : i < nodes.length := (List.getElem?_eq_some_iff.mp en).1
        have hfl : (fs.take i).length = i := by rw [List.length_take, h.len]; omega
        have hg : (S ++ [M.lst ((fs.take i).map rq)])[S.length]? = some (.lst ((fs.take i).map rq)) := by simp
        have hw := s_node_worth n (fs.take i) ps ws S.length _ hg (by rw [hfl]; exact h.ok i n en) (h.z i (by omega)) (h.w i n en) (h.d i n en) k
        rw [h.q i n en] at hw
        have ht : fs.take (i + 1) = fs.take i ++ [fs.getD i q0] := by
          have hif : i < fs.length := by rw [h.len]; exact hi
          rw [List.take_succ, List.getElem?_eq_getElem hif]; simp [List.getD, List.getElem?_eq_getElem hif]
        have hap : bmD .append (.obj S.length) [rq (fs.getD i q0)] (S ++ [M.lst ((fs.take i).map rq)]) = .ok .non (S ++ [.lst ((fs.take (i + 1)).map rq)]) := by
          rw [append_ok hg (by rw [List.length_map, hfl]; exact ln _ (by omega)), ap_set0, ht]; simp
        have hbt := bmT_app hg
        refine ⟨rfl, _, rfl, _, _, .inl ?_, ⟨some (nd n), rfl⟩, rfl⟩
        generalize fs.getD i q0 = v at *
        generalize S ++ [M.lst ((fs.take i).map rq)] = T at *
        simp [hbt, hw, hap]) (fun _ _ _ => rfl) (ρ := [some (.obj P), some (.tup (ps.map rq)), some (.obj S.length), none]) (S := S ++ [.lst []]) ⟨⟨none, rfl⟩, by simp⟩
  subst hρ hT
  rw [List.length_map, ← h.len, List.take_length] at hfor
  have hf1 := (fld0_at (S := S ++ [.lst []]) (P := P) (by rw [List.getElem?_append_left hPl]; exact hP)).2.1
  have htu : bltD .tuple [.obj S.length] (S ++ [.lst (fs.map rq)]) = .ok (.tup (fs.map rq)) (S ++ [.lst (fs.map rq)]) := tuple_lst (by simp)
  have hlo : (D.tup (fs.map rq)).lo S.length = true := los_map rq _ (fun q => lo_rq _ q) _
  simp [hf1, hfor, htu, hlo, gc_app hS]
end Z
end

section
set_option Elab.async false
set_option linter.all false
set_option maxRecDepth 100000
/-! MS: the walk through the needed nodes, plain. -/
namespace Z
/-- one step: the stack (its top first) and what is done -/
def stp (ar : Nat → List Nat) (x : List Nat × List Nat) : List Nat × List Nat :=
  match x.1 with
  | [] => x
  | a :: r => match (ar a).find? (fun p => decide (p ∉ x.2)) with
    | some p => (p :: a :: r, x.2)
    | none => (r, if a ∈ x.2 then x.2 else x.2 ++ [a])
def run (ar : Nat → List Nat) : Nat → List Nat × List Nat → List Nat × List Nat
  | 0, x => x
  | k + 1, x => run ar k (stp ar x)
theorem run_nil (ar : Nat → List Nat) (o : List Nat) : ∀ k, run ar k ([], o) = ([], o)
  | 0 => rfl
  | k + 1 => run_nil ar o k
theorem stp_push {ar : Nat → List Nat} {a p : Nat} {r o : List Nat} (h : (ar a).find? (fun p => decide (p ∉ o)) = some p) : stp ar (a :: r, o) = (p :: a :: r, o) := by
  unfold stp; simp only [h]
theorem stp_pop {ar : Nat → List Nat} {a : Nat} {r o : List Nat} (h : (ar a).find? (fun p => decide (p ∉ o)) = none) : stp ar (a :: r, o) = (r, if a ∈ o then o else o ++ [a]) := by
  unfold stp; simp only [h]
theorem find_none {l o : List Nat} (h : l.find? (fun p => decide (p ∉ o)) = none) : ∀ p ∈ l, p ∈ o := by
  intro p hp
  have := List.find?_eq_none.mp h p hp
  simpa using this
theorem find_some {l o : List Nat} {p : Nat} (h : l.find? (fun p => decide (p ∉ o)) = some p) : p ∈ l ∧ p ∉ o := by
  refine ⟨List.mem_of_find?_eq_some h, ?_⟩
  have := List.find?_some h
  simpa using this
/-! ### it ends -/
def fre (N : Nat) (st o : List Nat) : Nat := ((List.range N).filter fun i => decide (i ∉ o ∧ i ∉ st)).length
theorem filt_le {α : Type} (P Q : α → Bool) (h : ∀ x, P x = true → Q x = true) : ∀ l : List α, (l.filter P).length ≤ (l.filter Q).length
  | [] => Nat.le_refl _
  | x :: l => by
    have := filt_le P Q h l
    cases hp : P x with
    | true => rw [List.filter_cons_of_pos hp, List.filter_cons_of_pos (h x hp)]; simp; exact this
    | false =>
      rw [List.filter_cons_of_neg (by simp [hp])]
      cases hq : Q x with
      | true => rw [List.filter_cons_of_pos hq]; simp; omega
      | false => rw [List.filter_cons_of_neg (by simp [hq])]; exact this
theorem filt_lt {α : Type} (P Q : α → Bool) (h : ∀ x, P x = true → Q x = true) {y : α} (hq : Q y = true) (hp : P y = false) : ∀ l : List α, y ∈ l → (l.filter P).length + 1 ≤ (l.filter Q).length
  | [], hy => by cases hy
  | x :: l, hy => by
    have le := filt_le P Q h l
    rcases List.mem_cons.mp hy with rfl | hy
    · rw [List.filter_cons_of_neg (by simp [hp]), List.filter_cons_of_pos hq]; simp; exact le
    · have := filt_lt P Q h hq hp l hy
      cases hpx : P x with
      | true => rw [List.filter_cons_of_pos hpx, List.filter_cons_of_pos (h x hpx)]; simp; omega
      | false =>
        rw [List.filter_cons_of_neg (by simp [hpx])]
        cases hqx : Q x with
        | true => rw [List.filter_cons_of_pos hqx]; simp; omega
        | false => rw [List.filter_cons_of_neg (by simp [hqx])]; exact this
theorem run_done {ar : Nat → List Nat} (hi : ∀ a, ∀ p ∈ ar a, p < a) (N : Nat) : ∀ (k : Nat) (st o : List Nat), st.Pairwise (· < ·) → (∀ x ∈ st, x < N) → 2 * fre N st o + st.length ≤ k → (run ar k (st, o)).1 = []
  | 0, st, o, _, _, hk => by
    have : st.length = 0 := by omega
    exact List.length_eq_zero_iff.mp this
  | k + 1, [], o, _, _, hk => by rw [run_nil]
  | k + 1, a :: r, o, hs, hN, hk => by
    show (run ar k (stp ar (a :: r, o))).1 = []
    have hs' := List.pairwise_cons.mp hs
    cases hf : (ar a).find? (fun p => decide (p ∉ o)) with
    | some p =>
      obtain ⟨hp, hpo⟩ := find_some hf
      have hpa := hi a p hp
      rw [stp_push hf]
      have hps : p ∉ a :: r := by
        intro h
        rcases List.mem_cons.mp h with h | h
        · omega
        · have := hs'.1 p h; omega
      refine run_done hi N k (p :: a :: r) o ?_ ?_ ?_
      · refine List.pairwise_cons.mpr ⟨fun x hx => ?_, hs⟩
        rcases List.mem_cons.mp hx with h | h
        · omega
        · have := hs'.1 x h; omega
      · intro x hx
        rcases List.mem_cons.mp hx with h | h
        · have := hN a List.mem_cons_self; omega
        · exact hN x h
      · have : fre N (p :: a :: r) o + 1 ≤ fre N (a :: r) o := by
          unfold fre
          refine filt_lt _ _ (fun x hx => ?_) (y := p) ?_ ?_ _ (List.mem_range.mpr (by have := hN a List.mem_cons_self; omega))
          · simp only [decide_eq_true_eq] at hx ⊢
            exact ⟨hx.1, fun h => hx.2 (List.mem_cons_of_mem _ h)⟩
          · simp only [decide_eq_true_eq]; exact ⟨hpo, hps⟩
          · simp
        simp only [List.length_cons] at hk ⊢
        omega
    | none =>
      rw [stp_pop hf]
      refine run_done hi N k r _ hs'.2 (fun x hx => hN x (List.mem_cons_of_mem _ hx)) ?_
      have : fre N r (if a ∈ o then o else o ++ [a]) ≤ fre N (a :: r) o := by
        unfold fre
        refine filt_le _ _ (fun x hx => ?_) _
        simp only [decide_eq_true_eq] at hx ⊢
        by_cases h : a ∈ o
        · rw [if_pos h] at hx
          refine ⟨hx.1, fun h' => ?_⟩
          rcases List.mem_cons.mp h' with rfl | h'
          · exact hx.1 h
          · exact hx.2 h'
        · rw [if_neg h] at hx
          simp only [List.mem_append, List.mem_singleton] at hx
          refine ⟨fun h' => hx.1 (.inl h'), fun h' => ?_⟩
          rcases List.mem_cons.mp h' with rfl | h'
          · exact hx.1 (.inr rfl)
          · exact hx.2 h'
      simp only [List.length_cons] at hk
      omega
theorem fre_le (N : Nat) (st o : List Nat) : fre N st o ≤ N := by
  unfold fre
  have := List.length_filter_le (fun i => decide (i ∉ o ∧ i ∉ st)) (List.range N)
  rw [List.length_range] at this; exact this
theorem run_one {ar : Nat → List Nat} (hi : ∀ a, ∀ p ∈ ar a, p < a) {s N k : Nat} (hs : s < N) (hk : 2 * N + 1 ≤ k) (o : List Nat) : (run ar k ([s], o)).1 = [] :=
  run_done hi N k [s] o (List.pairwise_singleton _ _) (fun x hx => by rw [List.mem_singleton] at hx; omega) (by have := fre_le N [s] o; simp; omega)
/-! ### what it does -/
structure Ord (ar : Nat → List Nat) (o : List Nat) : Prop where
  nd : o.Nodup
  topo : ∀ (t a : Nat), o[t]? = some a → ∀ p ∈ ar a, p ∈ o.take t
theorem Ord.closed {ar : Nat → List Nat} {o : List Nat} (h : Ord ar o) {a : Nat} (ha : a ∈ o) : ∀ p ∈ ar a, p ∈ o := by
  obtain ⟨t, ht⟩ := List.mem_iff_getElem?.mp ha
  intro p hp
  exact List.mem_of_mem_take (h.topo t a ht p hp)
theorem stp_ord {ar : Nat → List Nat} {x : List Nat × List Nat} (h : Ord ar x.2) : Ord ar (stp ar x).2 := by
  obtain ⟨st, o⟩ := x
  cases st with
  | nil => exact h
  | cons a r =>
    cases hf : (ar a).find? (fun p => decide (p ∉ o)) with
    | some p => rw [stp_push hf]; exact h
    | none =>
      rw [stp_pop hf]
      by_cases ha : a ∈ o
      · simp only [if_pos ha]; exact h
      · simp only [if_neg ha]
        refine ⟨?_, fun t b hb p hp => ?_⟩
        · rw [List.nodup_append]
          refine ⟨h.nd, List.nodup_cons.mpr ⟨by simp, List.nodup_nil⟩, fun x hx y hy => ?_⟩
          rw [List.mem_singleton] at hy
          subst hy
          intro e; subst e; exact ha hx
        · by_cases ht : t < o.length
          · rw [List.getElem?_append_left ht] at hb
            rw [List.take_append_of_le_length (by omega)]
            exact h.topo t b hb p hp
          · have hl := (List.getElem?_eq_some_iff.mp hb).1
            rw [List.length_append, List.length_singleton] at hl
            have e : t = o.length := by omega
            subst e
            simp at hb
            subst hb
            rw [List.take_left]
            exact find_none hf p hp
theorem stp_pre (ar : Nat → List Nat) (x : List Nat × List Nat) : ∃ l, (stp ar x).2 = x.2 ++ l := by
  obtain ⟨st, o⟩ := x
  cases st with
  | nil => exact ⟨[], by simp [stp]⟩
  | cons a r =>
    cases hf : (ar a).find? (fun p => decide (p ∉ o)) with
    | some p => rw [stp_push hf]; exact ⟨[], by simp⟩
    | none =>
      rw [stp_pop hf]
      by_cases ha : a ∈ o
      · exact ⟨[], by simp [ha]⟩
      · exact ⟨[a], by simp [ha]⟩
theorem run_ord {ar : Nat → List Nat} : ∀ (k : Nat) {x : List Nat × List Nat}, Ord ar x.2 → Ord ar (run ar k x).2
  | 0, _, h => h
  | k + 1, _, h => run_ord k (stp_ord h)
theorem run_pre (ar : Nat → List Nat) : ∀ (k : Nat) (x : List Nat × List Nat), ∃ l, (run ar k x).2 = x.2 ++ l
  | 0, _ => ⟨[], by simp [run]⟩
  | k + 1, x => by
    obtain ⟨l, h⟩ := stp_pre ar x
    obtain ⟨m, g⟩ := run_pre ar k (stp ar x)
    exact ⟨l ++ m, by show (run ar k (stp ar x)).2 = _; rw [g, h, List.append_assoc]⟩
theorem run_sub {ar : Nat → List Nat} {k : Nat} {x : List Nat × List Nat} {a : Nat} (h : a ∈ x.2) : a ∈ (run ar k x).2 := by
  obtain ⟨l, e⟩ := run_pre ar k x
  rw [e]; exact List.mem_append_left _ h
theorem run_has {ar : Nat → List Nat} : ∀ (k : Nat) {x : List Nat × List Nat}, (run ar k x).1 = [] → ∀ a ∈ x.1, a ∈ (run ar k x).2
  | 0, x, h, a, ha => by
    have h : x.1 = [] := h
    rw [h] at ha; cases ha
  | k + 1, (st, o), h, a, ha => by
    show a ∈ (run ar k (stp ar (st, o))).2
    cases st with
    | nil => cases ha
    | cons b r =>
      have h : (run ar k (stp ar (b :: r, o))).1 = [] := h
      cases hf : (ar b).find? (fun p => decide (p ∉ o)) with
      | some p =>
        rw [stp_push hf] at h ⊢
        exact run_has k h a (List.mem_cons_of_mem _ ha)
      | none =>
        rw [stp_pop hf] at h ⊢
        rcases List.mem_cons.mp ha with rfl | ha
        · refine run_sub ?_
          by_cases q : a ∈ o
          · simp [q]
          · simp [q]
        · exact run_has k h a ha
/-! ### the same under new numbers -/
theorem find_map {π : Nat → Nat} {f : List Nat} (inj : ∀ a ∈ f, ∀ b ∈ f, π a = π b → a = b) {o : List Nat} (ho : ∀ a ∈ o, a ∈ f) : ∀ l : List Nat, (∀ a ∈ l, a ∈ f) → (l.map π).find? (fun p => decide (p ∉ o.map π)) = (l.find? (fun p => decide (p ∉ o))).map π
  | [], _ => rfl
  | a :: l, hl => by
    have ha := hl a List.mem_cons_self
    have e : (π a ∈ o.map π) ↔ a ∈ o := by
      rw [List.mem_map]
      exact ⟨fun ⟨b, hb, hab⟩ => by rw [← inj b (ho b hb) a ha hab]; exact hb, fun h => ⟨a, h, rfl⟩⟩
    rw [List.map_cons, List.find?_cons, List.find?_cons]
    by_cases h : a ∈ o
    · have h' := e.mpr h
      simp only [h, h', not_true_eq_false, decide_false]
      exact find_map inj ho l (fun b hb => hl b (List.mem_cons_of_mem _ hb))
    · have h' : π a ∉ o.map π := fun q => h (e.mp q)
      simp only [h, h', not_false_eq_true, decide_true]
      rfl
def mp (π : Nat → Nat) (x : List Nat × List Nat) : List Nat × List Nat := (x.1.map π, x.2.map π)
theorem run_map {ar ar' : Nat → List Nat} {π : Nat → Nat} {f : List Nat} (inj : ∀ a ∈ f, ∀ b ∈ f, π a = π b → a = b) (hc : ∀ a ∈ f, ∀ p ∈ ar a, p ∈ f) (har : ∀ a ∈ f, ar' (π a) = (ar a).map π) :
    ∀ (k : Nat) (x : List Nat × List Nat), (∀ a ∈ x.1, a ∈ f) → (∀ a ∈ x.2, a ∈ f) → run ar' k (mp π x) = mp π (run ar k x)
  | 0, x, _, _ => rfl
  | k + 1, (st, o), hs, ho => by
    have key : stp ar' (mp π (st, o)) = mp π (stp ar (st, o)) ∧ (∀ a ∈ (stp ar (st, o)).1, a ∈ f) ∧ (∀ a ∈ (stp ar (st, o)).2, a ∈ f) := by
      cases st with
      | nil => exact ⟨rfl, hs, ho⟩
      | cons a r =>
        have ha := hs a List.mem_cons_self
        have hr : ∀ b ∈ r, b ∈ f := fun b hb => hs b (List.mem_cons_of_mem _ hb)
        have hfm := find_map inj ho (ar a) (hc a ha)
        rw [← har a ha] at hfm
        have e : (π a ∈ o.map π) ↔ a ∈ o := by
          rw [List.mem_map]
          exact ⟨fun ⟨b, hb, hab⟩ => by rw [← inj b (ho b hb) a ha hab]; exact hb, fun h => ⟨a, h, rfl⟩⟩
        cases hf : (ar a).find? (fun p => decide (p ∉ o)) with
        | some p =>
          rw [hf] at hfm
          rw [stp_push hf]
          refine ⟨?_, ?_, ho⟩
          · show stp ar' (π a :: r.map π, o.map π) = _
            rw [stp_push hfm]; rfl
          · intro b hb
            rcases List.mem_cons.mp hb with rfl | hb
            · exact hc a ha _ (find_some hf).1
            · exact hs b hb
        | none =>
          rw [hf] at hfm
          rw [stp_pop hf]
          refine ⟨?_, hr, ?_⟩
          · show stp ar' (π a :: r.map π, o.map π) = _
            rw [stp_pop hfm]
            unfold mp
            by_cases h : a ∈ o
            · simp only [if_pos h, if_pos (e.mpr h)]
            · simp only [if_neg h, if_neg (fun q => h (e.mp q))]; simp
          · intro b hb
            by_cases h : a ∈ o
            · simp only [if_pos h] at hb; exact ho b hb
            · simp only [if_neg h] at hb
              rcases List.mem_append.mp hb with hb | hb
              · exact ho b hb
              · rw [List.mem_singleton] at hb; subst hb; exact ha
    show run ar' k (stp ar' (mp π (st, o))) = mp π (run ar k (stp ar (st, o)))
    rw [key.1]
    exact run_map inj hc har k _ key.2.1 key.2.2
/-! ### all starts -/
def ords (ar : Nat → List Nat) (k : Nat) : List Nat → List Nat → List Nat
  | [], o => o
  | s :: ss, o => ords ar k ss (run ar k ([s], o)).2
theorem ords_pre (ar : Nat → List Nat) (k : Nat) : ∀ (ss o : List Nat), ∃ l, ords ar k ss o = o ++ l
  | [], o => ⟨[], by simp [ords]⟩
  | s :: ss, o => by
    obtain ⟨l, h⟩ := run_pre ar k ([s], o)
    obtain ⟨m, g⟩ := ords_pre ar k ss (run ar k ([s], o)).2
    exact ⟨l ++ m, by show ords ar k ss (run ar k ([s], o)).2 = _; rw [g, h, List.append_assoc]⟩
theorem ords_ord {ar : Nat → List Nat} {k : Nat} : ∀ (ss : List Nat) {o : List Nat}, Ord ar o → Ord ar (ords ar k ss o)
  | [], _, h => h
  | s :: ss, o, h => ords_ord ss (run_ord k (x := ([s], o)) h)
theorem ords_sub {ar : Nat → List Nat} {k : Nat} {ss o : List Nat} {a : Nat} (h : a ∈ o) : a ∈ ords ar k ss o := by
  obtain ⟨l, e⟩ := ords_pre ar k ss o
  rw [e]; exact List.mem_append_left _ h
theorem ords_has {ar : Nat → List Nat} (hi : ∀ a, ∀ p ∈ ar a, p < a) {N k : Nat} (hk : 2 * N + 1 ≤ k) : ∀ (ss : List Nat), (∀ s ∈ ss, s < N) → ∀ (o : List Nat), ∀ s ∈ ss, s ∈ ords ar k ss o
  | [], _, _, s, hs => by cases hs
  | s :: ss, hN, o, a, ha => by
    have h1 := run_one hi (hN s List.mem_cons_self) hk o
    rcases List.mem_cons.mp ha with rfl | ha
    · exact ords_sub (o := (run ar k ([a], o)).2) (ss := ss) (run_has k h1 a (by simp))
    · exact ords_has hi hk ss (fun x hx => hN x (List.mem_cons_of_mem _ hx)) _ a ha
theorem run_lt {ar : Nat → List Nat} {N : Nat} (hi : ∀ a, ∀ p ∈ ar a, p < a) : ∀ (k : Nat) (x : List Nat × List Nat), (∀ a ∈ x.1, a < N) → (∀ a ∈ x.2, a < N) → (∀ a ∈ (run ar k x).2, a < N)
  | 0, x, _, h => h
  | k + 1, (st, o), hs, ho => by
    show ∀ a ∈ (run ar k (stp ar (st, o))).2, a < N
    cases st with
    | nil => exact run_lt hi k ([], o) hs ho
    | cons a r =>
      cases hf : (ar a).find? (fun p => decide (p ∉ o)) with
      | some p =>
        rw [stp_push hf]
        refine run_lt hi k _ (fun b hb => ?_) ho
        rcases List.mem_cons.mp hb with rfl | hb
        · have := hi a b (find_some hf).1
          have := hs a List.mem_cons_self
          omega
        · exact hs b hb
      | none =>
        rw [stp_pop hf]
        refine run_lt hi k _ (fun b hb => hs b (List.mem_cons_of_mem _ hb)) (fun b hb => ?_)
        by_cases h : a ∈ o
        · simp only [if_pos h] at hb; exact ho b hb
        · simp only [if_neg h] at hb
          rcases List.mem_append.mp hb with hb | hb
          · exact ho b hb
          · rw [List.mem_singleton] at hb; subst hb; exact hs b List.mem_cons_self
theorem ords_lt {ar : Nat → List Nat} {N k : Nat} (hi : ∀ a, ∀ p ∈ ar a, p < a) : ∀ (ss : List Nat), (∀ s ∈ ss, s < N) → ∀ (o : List Nat), (∀ a ∈ o, a < N) → ∀ a ∈ ords ar k ss o, a < N
  | [], _, _, h => h
  | s :: ss, hN, o, h => ords_lt hi ss (fun x hx => hN x (List.mem_cons_of_mem _ hx)) _ (run_lt hi k ([s], o) (fun a ha => by rw [List.mem_singleton] at ha; subst ha; exact hN a List.mem_cons_self) h)
theorem ords_map {ar ar' : Nat → List Nat} {π : Nat → Nat} {f : List Nat} (inj : ∀ a ∈ f, ∀ b ∈ f, π a = π b → a = b) (hc : ∀ a ∈ f, ∀ p ∈ ar a, p ∈ f) (har : ∀ a ∈ f, ar' (π a) = (ar a).map π) (k : Nat) :
    ∀ (ss o : List Nat), (∀ a ∈ ss, a ∈ f) → (∀ a ∈ ords ar k ss o, a ∈ f) → ords ar' k (ss.map π) (o.map π) = (ords ar k ss o).map π
  | [], o, _, _ => rfl
  | s :: ss, o, hs, ho => by
    have ho : ∀ a ∈ ords ar k ss (run ar k ([s], o)).2, a ∈ f := ho
    have h1 : ∀ a ∈ (run ar k ([s], o)).2, a ∈ f := fun a ha => ho a (ords_sub ha)
    have h2 : ∀ a ∈ o, a ∈ f := fun a ha => h1 a (run_sub ha)
    have e := run_map inj hc har k ([s], o) (fun a ha => by rw [List.mem_singleton] at ha; subst ha; exact hs a List.mem_cons_self) h2
    show ords ar' k (ss.map π) (run ar' k ([π s], o.map π)).2 = _
    have e2 : run ar' k ([π s], o.map π) = mp π (run ar k ([s], o)) := e
    rw [e2]
    exact ords_map inj hc har k ss _ (fun a ha => hs a (List.mem_cons_of_mem _ ha)) ho
/-! ### places -/
/-- where a node stands in the order -/
def plc (f : List Nat) (a : Nat) : Nat := (f.findIdx? fun b => decide (b = a)).getD f.length
theorem plc_at {f : List Nat} (hn : f.Nodup) {t a : Nat} (h : f[t]? = some a) : plc f a = t := by
  unfold plc
  induction f generalizing t with
  | nil => simp at h
  | cons b f ih =>
    rw [List.findIdx?_cons]
    cases t with
    | zero =>
      simp at h; subst h; simp
    | succ t =>
      have h : f[t]? = some a := by simpa using h
      have hm : a ∈ f := List.mem_of_getElem? h
      have hba : ¬ b = a := fun e => (List.nodup_cons.mp hn).1 (e ▸ hm)
      have hi := ih (List.nodup_cons.mp hn).2 h
      simp only [decide_eq_false hba]
      cases hx : f.findIdx? (fun b => decide (b = a)) with
      | none =>
        exfalso
        have := List.findIdx?_eq_none_iff.mp hx a hm
        simp at this
      | some j => rw [hx] at hi; simp at hi; simp [hi]
theorem plc_map {f : List Nat} (hn : f.Nodup) : f.map (plc f) = List.range f.length := by
  apply List.ext_getElem?
  intro t
  rw [List.getElem?_map]
  by_cases h : t < f.length
  · rw [List.getElem?_eq_getElem h, List.getElem?_range h]
    simp only [Option.map_some]
    rw [plc_at hn (List.getElem?_eq_getElem h)]
  · rw [List.getElem?_eq_none (by omega), List.getElem?_eq_none (by simp; omega)]; rfl
theorem plc_get {f : List Nat} (hn : f.Nodup) {a : Nat} (h : a ∈ f) : f[plc f a]? = some a := by
  obtain ⟨t, ht⟩ := List.mem_iff_getElem?.mp h
  rw [plc_at hn ht]; exact ht
theorem plc_inj {f : List Nat} (hn : f.Nodup) : ∀ a ∈ f, ∀ b ∈ f, plc f a = plc f b → a = b := by
  intro a ha b hb e
  have h1 := plc_get hn ha
  have h2 := plc_get hn hb
  rw [e, h2] at h1
  exact (Option.some.inj h1).symm
theorem plc_lt {f : List Nat} (hn : f.Nodup) {a : Nat} (h : a ∈ f) : plc f a < f.length := (List.getElem?_eq_some_iff.mp (plc_get hn h)).1
end Z
end

section
set_option Elab.async false
set_option linter.all false
set_option maxRecDepth 100000
/-! MT: Builder._order. -/
namespace Z
open PySem
def dk (o : List Nat) : List (L2.Key × D) := o.map fun (a : Nat) => (.inl (a : Int), .bl true)
theorem dk_find (o : List Nat) (a : Nat) : (findK (dk o) (.inl (a : Int))).isSome = decide (a ∈ o) := by
  unfold findK dk
  rw [Option.isSome_map]
  induction o with
  | nil => simp
  | cons b o ih =>
    rw [List.map_cons, List.find?_cons]
    by_cases h : b = a
    · subst h; simp
    · have h1 : ¬ ((Sum.inl ((b : Nat) : Int) : L2.Key) = .inl ((a : Nat) : Int)) := fun e => by
        injection e with e; omega
      simp only [decide_eq_false h1]
      rw [ih]
      have : (a ∈ b :: o) ↔ a ∈ o := by
        rw [List.mem_cons]; exact ⟨fun q => q.resolve_left (fun e => h e.symm), .inr⟩
      exact decide_eq_decide.mpr this.symm
theorem dk_put {o : List Nat} {a : Nat} (h : a ∉ o) : putK (dk o) (.inl (a : Int)) (.bl true) = dk (o ++ [a]) := by
  unfold putK
  have : ((dk o).any fun kv => decide (kv.1 = (.inl (a : Int) : L2.Key))) = false := by
    rw [List.any_eq_false]
    intro x hx
    unfold dk at hx
    obtain ⟨b, hb, rfl⟩ := List.mem_map.mp hx
    simp only [decide_eq_true_eq]
    intro e
    injection e with e
    have : b = a := by omega
    subst this; exact h hb
  rw [this]
  unfold dk; simp
theorem in_dic {n : Nat} {kvs : List (L2.Key × D)} {S : Store} {i : Int} (h : S[n]? = some (.dic kvs)) : cmpD .NotIn (.int i) (.obj n) S = .ok (.bl (!(findK kvs (.inl i)).isSome)) S := by
  show R.of S ((inD S (.int i) (.obj n)).map fun b => D.bl (!b)) = _
  unfold inD; simp [h, keyOf]
theorem set_dic {n : Nat} {kvs : List (L2.Key × D)} {S : Store} {i : Int} {v : D} (h : S[n]? = some (.dic kvs)) (hl : kvs.length < line) : setD (.obj n) (.int i) v S = some (S.set n (.dic (putK kvs (.inl i) v))) := by
  unfold setD; simp [h, keyOf, hl]
theorem tr_lst {n : Nat} {ds : List D} {S : Store} (h : S[n]? = some (.lst ds)) : truthy S (.obj n) = some (!ds.isEmpty) := by
  unfold truthy; simp [h]
theorem pop_lst {n : Nat} {ds : List D} {d : D} {S : Store} (h : S[n]? = some (.lst (ds ++ [d]))) : bmD .pop (.obj n) [] S = .ok d (S.set n (.lst ds)) := by
  unfold bmD; simp [h]
theorem ix_last {n : Nat} {ds : List D} {d : D} {S : Store} (h : S[n]? = some (.lst (ds ++ [d]))) : ixD (.obj n) (.int (-1)) S = .ok d S := by
  rw [ixD_lst _ h]
  unfold L2.atI L2.ixN
  have e1 : (1 : Int) ≤ ds.length + 1 := by omega
  have e2 : (-1 + ((ds.length : Int) + 1)).toNat = ds.length := by omega
  simp [e1, e2]
/-- plain things: nothing in the store is named -/
def Pu (J : Store) : Prop := J.all (M.lo 0) = true
theorem Pu.app {J K : Store} (h : Pu J) (g : Pu K) : Pu (J ++ K) := by unfold Pu at *; rw [List.all_append, h, g]; rfl
theorem Pu.nil : Pu [] := rfl
theorem pu_nats (l : List Nat) : Pu [.lst (nats l)] := by
  have := los_map (fun (i : Nat) => D.int (i : Nat)) 0 (fun _ => rfl) l
  unfold Pu; simp only [List.all_cons, List.all_nil, Bool.and_true]; exact this
theorem pu_dk (l : List Nat) : Pu [.dic (dk l)] := by
  unfold Pu dk
  simp only [List.all_cons, List.all_nil, Bool.and_true]
  show D.los 0 ((l.map _).map _) = true
  rw [List.map_map]
  exact los_map _ 0 (fun _ => rfl) l
/-! ### the store of the walk -/
def ot (X : Store) (o o2 : List Nat) (g1 g2 : M) (J1 : Store) (w : List Nat) (J2 : Store) : Store := X ++ ([.lst (nats o), .dic (dk o2), g1, g2] ++ (J1 ++ (.lst (nats w.reverse) :: J2)))
section
variable (X : Store) (o o2 : List Nat) (g1 g2 : M) (J1 : Store) (w : List Nat) (J2 : Store)
theorem ot0 : (ot X o o2 g1 g2 J1 w J2)[X.length]? = some (.lst (nats o)) := by unfold ot; simp
theorem ot1 : (ot X o o2 g1 g2 J1 w J2)[X.length + 1]? = some (.dic (dk o2)) := by unfold ot; simp
theorem ot3 : (ot X o o2 g1 g2 J1 w J2)[X.length + 3]? = some g2 := by unfold ot; simp
theorem otw : (ot X o o2 g1 g2 J1 w J2)[X.length + 4 + J1.length]? = some (.lst (nats w.reverse)) := by
  unfold ot
  have e : X.length + 4 + J1.length = X.length + (4 + J1.length) := by omega
  rw [e, ap_get, List.getElem?_append_right (by simp)]
  have e2 : 4 + J1.length - [M.lst (nats o), .dic (dk o2), g1, g2].length = J1.length := by simp
  rw [e2, List.getElem?_append_right (Nat.le_refl _)]; simp
theorem ot_set0 (o' : List Nat) : (ot X o o2 g1 g2 J1 w J2).set X.length (.lst (nats o')) = ot X o' o2 g1 g2 J1 w J2 := by unfold ot; simp
theorem ot_set1 (o' : List Nat) : (ot X o o2 g1 g2 J1 w J2).set (X.length + 1) (.dic (dk o')) = ot X o o' g1 g2 J1 w J2 := by unfold ot; simp
theorem ot_setw (w' : List Nat) : (ot X o o2 g1 g2 J1 w J2).set (X.length + 4 + J1.length) (.lst (nats w'.reverse)) = ot X o o2 g1 g2 J1 w' J2 := by
  unfold ot
  have e : X.length + 4 + J1.length = X.length + (4 + J1.length) := by omega
  rw [e, ap_set, List.set_append_right _ _ (by simp)]
  have e2 : 4 + J1.length - [M.lst (nats o), .dic (dk o2), g1, g2].length = J1.length := by simp
  rw [e2, List.set_append_right _ _ (Nat.le_refl _)]; simp
theorem ot_app (K : Store) : ot X o o2 g1 g2 J1 w J2 ++ K = ot X o o2 g1 g2 J1 w (J2 ++ K) := by unfold ot; simp
theorem ot_len : (ot X o o2 g1 g2 J1 w J2).length = X.length + 5 + J1.length + J2.length := by unfold ot; simp; omega
end
end Z
end

section
set_option Elab.async false
set_option linter.all false
set_option maxRecDepth 100000
/-! MU: the loop of Builder._order. -/
namespace Z
open PySem
def arN (nodes : List Nd) (a : Nat) : List Nat := (nodes.getD a (.letter 0)).args
noncomputable def ordT (k : Nat) : Env → Store → R Bool := evT pdat.p (callK pdat.p k) (.val (.v 4))
noncomputable def ordB (k : Nat) : Env → Store → RS := execs pdat.p (callK pdat.p k) (.cons (.asg (.g (.one 6)) (.ix (.v 4) (.neg (.k (.int (1)))))) 
    (.cons (.asg (.g (.one 7)) (.lc [8] (.v 8) (.one 8) (.seq (.call 24 (.cons (.ix (.fld (.v 0) 1) (.v 6)) .nil))) (.val (.cmp .NotIn (.v 8) (.v 2))))) 
    (.cons (.ite (.val (.v 7)) 
     (.cons (.expr (.bm (.v 4) .append (.cons (.ix (.v 7) (.k (.int (0)))) .nil))) 
     (.cons .cont .nil)) .nil) 
    (.cons (.expr (.bm (.v 4) .pop .nil)) 
    (.cons (.ite (.val (.cmp .NotIn (.v 6) (.v 2))) 
     (.cons (.asg (.sub (.v 2) (.v 6)) (.k (.bl true))) 
     (.cons (.expr (.bm (.v 1) .append (.cons (.v 6) .nil))) .nil)) .nil) .nil)))))
theorem filt_nats (o l : List Nat) : (nats l).filterMap (fun d => match d with | .int i => if i.toNat ∈ o then none else some (D.int i) | _ => none) = nats (l.filter fun p => decide (p ∉ o)) := by
  unfold nats
  induction l with
  | nil => rfl
  | cons a l ih =>
    rw [List.map_cons, List.filterMap_cons, ih]
    by_cases h : a ∈ o
    · simp [h]
    · simp [h]
section
variable (A : Store) (s : BSt) (C : Store)
theorem ot_bs (o o2 : List Nat) (g1 g2 : M) (J1 : Store) (w : List Nat) (J2 : Store) : ∃ C', ot (bs A s C) o o2 g1 g2 J1 w J2 = bs A s C' := ⟨_, by unfold ot; rw [bs_app]⟩
theorem ord_step (o : List Nat) (g1 g2 : M) (J1 : Store) (a : Nat) (r : List Nat) (J2 : Store) (k : Nat) (x3 x5 x6 x7 x8 : Option D) (hl : o.length ≤ 1000) (hw : (a :: r).length ≤ 1000) (ha : a < s.nodes.length) :
    ∃ ρ J3, (ordB (k + 1) [some (.obj A.length), some (.obj (bs A s C).length), some (.obj ((bs A s C).length + 1)), x3, some (.obj ((bs A s C).length + 4 + J1.length)), x5, x6, x7, x8] (ot (bs A s C) o o g1 g2 J1 (a :: r) J2) = .nx ρ (ot (bs A s C) (stp (arN s.nodes) (a :: r, o)).2 (stp (arN s.nodes) (a :: r, o)).2 g1 g2 J1 (stp (arN s.nodes) (a :: r, o)).1 J3) ∨
      ordB (k + 1) [some (.obj A.length), some (.obj (bs A s C).length), some (.obj ((bs A s C).length + 1)), x3, some (.obj ((bs A s C).length + 4 + J1.length)), x5, x6, x7, x8] (ot (bs A s C) o o g1 g2 J1 (a :: r) J2) = .ct ρ (ot (bs A s C) (stp (arN s.nodes) (a :: r, o)).2 (stp (arN s.nodes) (a :: r, o)).2 g1 g2 J1 (stp (arN s.nodes) (a :: r, o)).1 J3)) ∧
      (∃ y6 y7 y8, ρ = [some (.obj A.length), some (.obj (bs A s C).length), some (.obj ((bs A s C).length + 1)), x3, some (.obj ((bs A s C).length + 4 + J1.length)), x5, y6, y7, y8]) ∧ (Pu J2 → Pu J3) := by
  obtain ⟨C1, hC1⟩ := ot_bs A s C o o g1 g2 J1 (a :: r) J2
  have hlast : ixD (.obj ((bs A s C).length + 4 + J1.length)) (.int (-1)) (ot (bs A s C) o o g1 g2 J1 (a :: r) J2) = .ok (.int (a : Nat)) (ot (bs A s C) o o g1 g2 J1 (a :: r) J2) := by
    refine ix_last (ds := nats r.reverse) (d := .int (a : Nat)) ?_
    rw [otw]; unfold nats; simp
  have hf1 : fldD pdat.p (.obj A.length) 1 (ot (bs A s C) o o g1 g2 J1 (a :: r) J2) = some (.obj (A.length + 2)) := by rw [hC1]; simp
  have hnd : ixD (.obj (A.length + 2)) (.int (a : Nat)) (ot (bs A s C) o o g1 g2 J1 (a :: r) J2) = .ok (nd (s.nodes.getD a (.letter 0))) (ot (bs A s C) o o g1 g2 J1 (a :: r) J2) := by
    rw [hC1]; exact ix_lst (bs2 A s C1) (.letter 0) ha
  have harg : callK pdat.p (k + 1) 24 [nd (s.nodes.getD a (.letter 0))] (ot (bs A s C) o o g1 g2 J1 (a :: r) J2) = _ := s_arguments (s.nodes.getD a (.letter 0)) k _
  have hal : (nats (s.nodes.getD a (.letter 0)).args).length ≤ 2 := by
    unfold nats; rw [List.length_map]; cases s.nodes.getD a (.letter 0) <;> simp [Nd.args]
  have har : arN s.nodes a = (s.nodes.getD a (.letter 0)).args := rfl
  have hlc := lcLoop_pure (src := ⟨none, nats (arN s.nodes a)⟩) (g := .one 8) (own := [8]) (t := evT pdat.p (callK pdat.p (k + 1)) (.val (.cmp .NotIn (.v 8) (.v 2)))) (e := ev pdat.p (callK pdat.p (k + 1)) (.v 8)) (ρ := [some (.obj A.length), some (.obj (bs A s C).length), some (.obj ((bs A s C).length + 1)), x3, some (.obj ((bs A s C).length + 4 + J1.length)), x5, some (.int (a : Nat)), x7, x8]) (S0 := ot (bs A s C) o o g1 g2 J1 (a :: r) J2)
    (fun d => match d with | .int i => if i.toNat ∈ o then none else some (D.int i) | _ => none) (nats (arN s.nodes a)) (ln _ (by rw [har]; omega)) (fun acc => rfl) (fun i d acc hdd => by
      obtain ⟨j, hj, rfl⟩ := nats_get hdd
      have hni : cmpD .NotIn (.int (j : Nat)) (.obj ((bs A s C).length + 1)) (ot (bs A s C) o o g1 g2 J1 (a :: r) J2 ++ [.lst acc]) = .ok (.bl (!decide (j ∈ o))) (ot (bs A s C) o o g1 g2 J1 (a :: r) J2 ++ [.lst acc]) := by
        rw [in_dic (kvs := dk o) (by rw [ot_app]; exact ot1 _ _ _ _ _ _ _ _), dk_find]
      refine ⟨_, rfl, !decide (j ∈ o), ?_, ?_, ?_⟩
      · simp only [wipeE, List.set_cons_succ, List.set_cons_zero, evT_val, ev_cmp, ev_v, List.getElem?_cons_zero, List.getElem?_cons_succ, R.bind_ok, hni, truthy_bl, R.of_some]
      · intro h
        have : j ∈ o := by simpa using h
        simp [this]
      · intro h
        have : j ∉ o := by simpa using h
        exact ⟨.int (j : Nat), by simp [wipeE], by simp [this]⟩)
  rw [filt_nats] at hlc
  rw [har] at hlc
  have hfind : ((s.nodes.getD a (.letter 0)).args.filter fun p => decide (p ∉ o)).head? = (arN s.nodes a).find? fun p => decide (p ∉ o) := by rw [List.head?_filter, har]
  cases hfl : (s.nodes.getD a (.letter 0)).args.filter (fun p => decide (p ∉ o)) with
  | cons p ps =>
    rw [hfl] at hlc hfind
    rw [stp_push hfind.symm]
    have hT : (ot (bs A s C) o o g1 g2 J1 (a :: r) J2 ++ [M.lst (nats (p :: ps))])[(ot (bs A s C) o o g1 g2 J1 (a :: r) J2).length]? = some (.lst (nats (p :: ps))) := by rw [List.getElem?_append_right (Nat.le_refl _)]; simp
    have htr := tr_lst hT
    have hix := ixD_lst 0 hT
    have e0 : L2.atI (nats (p :: ps)) 0 = some (.int (p : Nat)) := by simp
    rw [e0, R.of_some] at hix
    have hwl := otw (bs A s C) o o g1 g2 J1 (a :: r) (J2 ++ [.lst (nats (p :: ps))])
    rw [← ot_app] at hwl
    have hbt := bmT_app hwl
    have hap := append_ok (y := .int (p : Nat)) hwl (by unfold nats; rw [List.length_map, List.length_reverse]; exact ln _ hw)
    have er : nats (a :: r).reverse ++ [D.int (p : Nat)] = nats (p :: a :: r).reverse := by unfold nats; simp
    have hu := ot_setw (bs A s C) o o g1 g2 J1 (a :: r) (J2 ++ [.lst (nats (p :: ps))]) (p :: a :: r)
    rw [er, ot_app, hu] at hap
    refine ⟨_, J2 ++ [.lst (nats (p :: ps))], .inr ?_, ⟨some (.int (a : Nat)), some (.obj (ot (bs A s C) o o g1 g2 J1 (a :: r) J2).length), x8, rfl⟩, fun h => h.app (pu_nats _)⟩
    have ea := ot_app (bs A s C) o o g1 g2 J1 (a :: r) J2 [M.lst (nats (p :: ps))]
    rw [ea] at hlc htr hix hbt
    have htr : truthy _ _ = some true := htr
    unfold ordB
    clear hT hwl hu e0
    generalize M.lst (nats (p :: ps)) = L at *
    generalize ot (bs A s C) o o g1 g2 J1 (a :: r) J2 = T at *
    generalize ot (bs A s C) o o g1 g2 J1 (a :: r) (J2 ++ [L]) = T2 at *
    generalize s.nodes.getD a (.letter 0) = n at *
    simp [hlast, hf1, hnd, harg, hlc, htr, hix, hbt, hap]
  | nil =>
    rw [hfl] at hlc hfind
    rw [stp_pop hfind.symm]
    have hT : (ot (bs A s C) o o g1 g2 J1 (a :: r) J2 ++ [M.lst (nats [])])[(ot (bs A s C) o o g1 g2 J1 (a :: r) J2).length]? = some (.lst (nats [])) := by rw [List.getElem?_append_right (Nat.le_refl _)]; simp
    have htr := tr_lst hT
    have hwl := otw (bs A s C) o o g1 g2 J1 (a :: r) (J2 ++ [.lst (nats [])])
    have hbt := bmT_pop hwl
    have er : nats (a :: r).reverse = nats r.reverse ++ [D.int (a : Nat)] := by unfold nats; simp
    rw [er] at hwl
    have hpp := pop_lst hwl
    rw [ot_setw] at hpp
    have hni : cmpD .NotIn (.int (a : Nat)) (.obj ((bs A s C).length + 1)) (ot (bs A s C) o o g1 g2 J1 r (J2 ++ [.lst (nats [])])) = .ok (.bl (!decide (a ∈ o))) (ot (bs A s C) o o g1 g2 J1 r (J2 ++ [.lst (nats [])])) := by
      rw [in_dic (ot1 _ _ _ _ _ _ _ _), dk_find]
    refine ⟨_, J2 ++ [.lst (nats [])], .inl ?_, ⟨some (.int (a : Nat)), some (.obj (ot (bs A s C) o o g1 g2 J1 (a :: r) J2).length), x8, rfl⟩, fun h => h.app (pu_nats _)⟩
    have ea := ot_app (bs A s C) o o g1 g2 J1 (a :: r) J2 [M.lst (nats [])]
    rw [ea] at hlc htr
    have htr : truthy _ _ = some false := htr
    clear hT hwl
    generalize M.lst (nats []) = L at *
    unfold ordB
    by_cases hao : a ∈ o
    · rw [if_pos hao]
      generalize ot (bs A s C) o o g1 g2 J1 (a :: r) J2 = T at *
      generalize ot (bs A s C) o o g1 g2 J1 (a :: r) (J2 ++ [L]) = T2 at *
      generalize s.nodes.getD a (.letter 0) = n at *
      simp [hlast, hf1, hnd, harg, hlc, htr, hbt, hpp, hni, hao]
    · rw [if_neg hao]
      have hsd := set_dic (i := (a : Nat)) (v := .bl true) (ot1 (bs A s C) o o g1 g2 J1 r (J2 ++ [L])) (by unfold dk; rw [List.length_map]; exact ln _ hl)
      rw [dk_put hao, ot_set1] at hsd
      have h0 := ot0 (bs A s C) o (o ++ [a]) g1 g2 J1 r (J2 ++ [L])
      have hbt0 := bmT_app h0
      have hap := append_ok (y := .int (a : Nat)) h0 (by unfold nats; rw [List.length_map]; exact ln _ hl)
      have er2 : nats o ++ [D.int (a : Nat)] = nats (o ++ [a]) := by unfold nats; simp
      rw [er2, ot_set0] at hap
      generalize ot (bs A s C) o o g1 g2 J1 (a :: r) J2 = T at *
      generalize ot (bs A s C) o o g1 g2 J1 (a :: r) (J2 ++ [L]) = T2 at *
      generalize ot (bs A s C) o o g1 g2 J1 r (J2 ++ [L]) = T3 at *
      generalize ot (bs A s C) o (o ++ [a]) g1 g2 J1 r (J2 ++ [L]) = T4 at *
      generalize s.nodes.getD a (.letter 0) = n at *
      simp [hlast, hf1, hnd, harg, hlc, htr, hbt, hpp, hni, hao, hsd, hbt0, hap]
end
end Z
end

section
set_option Elab.async false
set_option linter.all false
set_option maxRecDepth 100000
/-! MV: Builder._order as a whole. -/
namespace Z
open PySem
theorem nodup_len : ∀ (N : Nat) (o : List Nat), o.Nodup → (∀ a ∈ o, a < N) → o.length ≤ N
  | 0, o, _, h => by
    cases o with
    | nil => simp
    | cons a o => have := h a List.mem_cons_self; omega
  | N + 1, o, hn, h => by
    have h1 := nodup_len N (o.erase N) (hn.erase N) (fun a ha => by
      have h2 := (hn.mem_erase_iff).mp ha
      have := h a h2.2
      have := h2.1
      omega)
    by_cases hm : N ∈ o
    · rw [List.length_erase_of_mem hm] at h1; omega
    · rw [List.erase_of_not_mem hm] at h1; omega
section
variable (A : Store) (s : BSt) (C : Store)
theorem stp_len (ar : Nat → List Nat) (x : List Nat × List Nat) : (stp ar x).1.length ≤ x.1.length + 1 ∧ (stp ar x).2.length ≤ x.2.length + 1 := by
  obtain ⟨st, o⟩ := x
  cases st with
  | nil => exact ⟨by simp [stp], by simp [stp]⟩
  | cons a r =>
    cases hf : (ar a).find? (fun p => decide (p ∉ o)) with
    | some p => rw [stp_push hf]; simp
    | none =>
      rw [stp_pop hf]
      by_cases h : a ∈ o <;> simp [h] <;> omega
theorem stp_lt {ar : Nat → List Nat} {N : Nat} (hi : ∀ a, ∀ p ∈ ar a, p < a) {x : List Nat × List Nat} (h : ∀ a ∈ x.1, a < N) : ∀ a ∈ (stp ar x).1, a < N := by
  obtain ⟨st, o⟩ := x
  cases st with
  | nil => exact h
  | cons a r =>
    cases hf : (ar a).find? (fun p => decide (p ∉ o)) with
    | some p =>
      rw [stp_push hf]
      intro b hb
      rcases List.mem_cons.mp hb with rfl | hb
      · have := hi a b (find_some hf).1
        have := h a List.mem_cons_self
        omega
      · exact h b hb
    | none => rw [stp_pop hf]; exact fun b hb => h b (List.mem_cons_of_mem _ hb)
theorem ord_while (hi : ∀ a, ∀ p ∈ arN s.nodes a, p < a) (g1 g2 : M) (J1 : Store) (k : Nat) (x3 x5 : Option D) : ∀ (n : Nat) (st o : List Nat) (J2 : Store) (x6 x7 x8 : Option D), (run (arN s.nodes) n (st, o)).1 = [] → (∀ a ∈ st, a < s.nodes.length) → o.length + n ≤ 1000 → st.length + n ≤ 1000 → Pu J2 →
    ∃ y6 y7 y8 J3, whileN (ordT (k + 1)) (ordB (k + 1)) (n + 1) [some (.obj A.length), some (.obj (bs A s C).length), some (.obj ((bs A s C).length + 1)), x3, some (.obj ((bs A s C).length + 4 + J1.length)), x5, x6, x7, x8] (ot (bs A s C) o o g1 g2 J1 st J2) =
      .nx [some (.obj A.length), some (.obj (bs A s C).length), some (.obj ((bs A s C).length + 1)), x3, some (.obj ((bs A s C).length + 4 + J1.length)), x5, y6, y7, y8] (ot (bs A s C) (run (arN s.nodes) n (st, o)).2 (run (arN s.nodes) n (st, o)).2 g1 g2 J1 [] J3) ∧ Pu J3
  | n, [], o, J2, x6, x7, x8, h, _, _, _, hp => by
    refine ⟨x6, x7, x8, J2, ?_, hp⟩
    rw [run_nil, whileN]
    have htr := tr_lst (otw (bs A s C) o o g1 g2 J1 [] J2)
    have : ordT (k + 1) [some (.obj A.length), some (.obj (bs A s C).length), some (.obj ((bs A s C).length + 1)), x3, some (.obj ((bs A s C).length + 4 + J1.length)), x5, x6, x7, x8] (ot (bs A s C) o o g1 g2 J1 [] J2) = .ok false (ot (bs A s C) o o g1 g2 J1 [] J2) := by
      unfold ordT
      simp [htr]
    rw [this]; rfl
  | 0, a :: r, o, J2, x6, x7, x8, h, _, _, _, hp => by cases h
  | n + 1, a :: r, o, J2, x6, x7, x8, h, hN, hl, hw, hp => by
    have htr := tr_lst (otw (bs A s C) o o g1 g2 J1 (a :: r) J2)
    have hne : (!(nats (a :: r).reverse).isEmpty) = true := by unfold nats; simp
    rw [hne] at htr
    have hT : ordT (k + 1) [some (.obj A.length), some (.obj (bs A s C).length), some (.obj ((bs A s C).length + 1)), x3, some (.obj ((bs A s C).length + 4 + J1.length)), x5, x6, x7, x8] (ot (bs A s C) o o g1 g2 J1 (a :: r) J2) = .ok true (ot (bs A s C) o o g1 g2 J1 (a :: r) J2) := by
      unfold ordT
      generalize ot (bs A s C) o o g1 g2 J1 (a :: r) J2 = T at *
      simp [htr]
    obtain ⟨ρ, J3, hb, ⟨y6, y7, y8, hρ⟩, hJ⟩ := ord_step A s C o g1 g2 J1 a r J2 k x3 x5 x6 x7 x8 (by omega) (by simp only [List.length_cons] at hw ⊢; omega) (hN a List.mem_cons_self)
    subst hρ
    have hlen := stp_len (arN s.nodes) (a :: r, o)
    obtain ⟨z6, z7, z8, J4, hr, hJ4⟩ := ord_while hi g1 g2 J1 k x3 x5 n (stp (arN s.nodes) (a :: r, o)).1 (stp (arN s.nodes) (a :: r, o)).2 J3 y6 y7 y8 h (stp_lt hi (x := (a :: r, o)) hN) (by have := hlen.2; simp only at this; omega) (by have := hlen.1; simp only at this; omega) (hJ hp)
    refine ⟨z6, z7, z8, J4, ?_, hJ4⟩
    rw [whileN, hT]
    simp only [R.st_ok, if_true]
    rcases hb with hb | hb <;> rw [hb] <;> simp only [RS.turn_nx, RS.turn_ct] <;> exact hr
end
end Z
end

section
set_option Elab.async false
set_option linter.all false
set_option maxRecDepth 100000
/-! MW: dict comprehensions; Builder._order as a whole. -/
namespace Z
open PySem
theorem dcLoop_inv {src : Src} {g : G} {own : List Nat} {n : Nat} {t : Env → Store → R Bool} {kx e : Env → Store → R D} {ρ : Env} (P : Nat → List (L2.Key × D) → Store → Prop) (ds0 : List D)
    (hs : ∀ i d acc S, ds0[i]? = some d → P i acc S → src.stays S = true ∧ ∃ ρ1, bindG g d (wipeE ρ own) = some ρ1 ∧ t ρ1 S = .ok true S ∧ ∃ x y k, kx ρ1 S = .ok x S ∧ e ρ1 S = .ok y S ∧ keyOf x = some k ∧ S[n]? = some (.dic acc) ∧ acc.length < line ∧ P (i + 1) (putK acc k y) (S.set n (.dic (putK acc k y))))
    (he : ∀ acc S, P ds0.length acc S → src.stays S = true) {S : Store} (h0 : P 0 [] S) : ∃ acc S', dcLoop src g own n t kx e ρ ds0 S = .ok (.obj n) S' ∧ P ds0.length acc S' := by
  have key : ∀ (ds : List D) (i : Nat) (acc : List (L2.Key × D)) (S : Store), ds0.drop i = ds → i ≤ ds0.length → P i acc S → ∃ acc S', dcLoop src g own n t kx e ρ ds S = .ok (.obj n) S' ∧ P ds0.length acc S' := by
    intro ds
    induction ds with
    | nil =>
      intro i acc S hd hi hP
      have : i = ds0.length := by
        have := List.drop_eq_nil_iff.mp hd
        omega
      subst this
      exact ⟨acc, S, by rw [dcLoop, if_pos (he acc S hP)], hP⟩
    | cons d ds ih =>
      intro i acc S hd hi hP
      have hl : i < ds0.length := by
        rcases Nat.lt_or_ge i ds0.length with h | h
        · exact h
        · rw [List.drop_eq_nil_of_le h] at hd; cases hd
      have hd2 := List.drop_eq_getElem_cons hl
      rw [hd] at hd2
      injection hd2 with e1 e2
      obtain ⟨st, ρ1, hb, ht, x, y, k, hx, hy, hk, hn, hlen, hP'⟩ := hs i d acc S (by rw [e1]; exact List.getElem?_eq_getElem hl) hP
      rw [dcLoop, if_pos st, hb]
      dsimp only
      rw [ht, R.bindN_ok, if_pos rfl, hx, R.bindN_ok, hy, R.bindN_ok, hk, hn]
      dsimp only
      rw [if_pos hlen]
      exact ih (i + 1) _ _ e2.symm hl hP'
  exact key ds0 0 [] S rfl (Nat.zero_le _) h0
theorem putK_len {κ : Type} [DecidableEq κ] (kvs : List (κ × D)) (k : κ) (v : D) : (putK kvs k v).length ≤ kvs.length + 1 := by
  unfold putK; split <;> simp
theorem findK_putK {κ : Type} [DecidableEq κ] (kvs : List (κ × D)) (k k' : κ) (v : D) : findK (putK kvs k v) k' = if k = k' then some v else findK kvs k' := by
  unfold putK
  by_cases h : (kvs.any fun kv => decide (kv.1 = k)) = true
  · rw [if_pos h]
    unfold findK
    induction kvs with
    | nil => simp at h
    | cons kv kvs ih =>
      rw [List.map_cons, List.find?_cons]
      by_cases h1 : kv.1 = k
      · by_cases h2 : k = k'
        · simp [h1, h2]
        · rw [if_pos h1, if_neg h2]
          have h3 : ¬ kv.1 = k' := fun q => h2 (h1 ▸ q)
          simp only [decide_eq_false h3]
          rw [List.find?_cons]
          simp only [decide_eq_false h3]
          by_cases h4 : (kvs.any fun kv => decide (kv.1 = k)) = true
          · have := ih h4
            rw [if_neg h2] at this; exact this
          · have e : kvs.map (fun kv => if kv.1 = k then (kv.1, v) else kv) = kvs := by
              rw [List.map_congr_left (g := id)]
              · simp
              · intro a ha
                have := List.any_eq_false.mp (Bool.eq_false_iff.mpr h4) a ha
                simp at this
                simp [this]
            rw [e]
      · rw [if_neg h1]
        have h4 : (kvs.any fun kv => decide (kv.1 = k)) = true := by
          rw [List.any_cons] at h; simpa [h1] using h
        by_cases h3 : kv.1 = k'
        · have h2 : ¬ k = k' := fun q => h1 (h3.trans q.symm)
          simp [h3, h2]
        · simp only [decide_eq_false h3]
          rw [ih h4, List.find?_cons]
          simp only [decide_eq_false h3]
  · rw [if_neg h]
    have h5 := List.any_eq_false.mp (Bool.eq_false_iff.mpr h)
    unfold findK
    rw [List.find?_append]
    by_cases h2 : k = k'
    · subst h2
      have : (kvs.find? fun kv => decide (kv.1 = k)) = none := List.find?_eq_none.mpr h5
      simp [this]
    · rw [if_neg h2]
      cases (kvs.find? fun kv => decide (kv.1 = k')) with
      | none => simp [h2]
      | some x => simp
theorem rng_nats (n : Nat) : rng 0 n = nats (List.range n) := by unfold rng nats; simp
theorem nats_len (l : List Nat) : (nats l).length = l.length := by unfold nats; rw [List.length_map]
theorem nats_app (l m : List Nat) : nats (l ++ m) = nats l ++ nats m := by unfold nats; rw [List.map_append]
theorem nats_at {l : List Nat} {i : Nat} {d : D} (h : (nats l)[i]? = some d) : ∃ j, l[i]? = some j ∧ d = .int (j : Nat) := by
  unfold nats at h
  rw [List.getElem?_map] at h
  cases e : l[i]? with
  | none => rw [e] at h; cases h
  | some j => rw [e] at h; cases h; exact ⟨j, rfl, rfl⟩
/-- the letters stand first -/
def Letters (s : BSt) : Prop := ∀ k, k < s.rows.length → ixN s.nodes (.letter k) = some k
section
variable (A : Store) (s : BSt) (C : Store)
theorem ord_letters (hB : BOk s) (hL : Letters s) (k : Nat) (ρ : Env) (hρ : ρ = [some (.obj A.length), none, none, none, none, none, none, none, none]) : lcLoop ⟨none, rng 0 s.rows.length⟩ (.one 5) [5] (bs A s C).length (evT pdat.p (callK pdat.p k) .yes) (ev pdat.p (callK pdat.p k) (.ix (.fld (.v 0) 10) (.tup (.cons (.k (.str "letter")) (.cons (.v 5) .nil))))) ρ (rng 0 s.rows.length) (bs A s C ++ [.lst []]) = .ok (.obj (bs A s C).length) (bs A s C ++ [.lst (nats (List.range s.rows.length))]) := by
  have h := lcLoop_pure (src := ⟨none, rng 0 s.rows.length⟩) (g := .one 5) (own := [5]) (t := evT pdat.p (callK pdat.p k) .yes) (e := ev pdat.p (callK pdat.p k) (.ix (.fld (.v 0) 10) (.tup (.cons (.k (.str "letter")) (.cons (.v 5) .nil))))) (ρ := ρ) (S0 := bs A s C) some (rng 0 s.rows.length) (by rw [rng_length]; exact ln _ (by have := hB.rows; omega)) (fun acc => rfl) (fun i d acc hd => by
    obtain ⟨hi, rfl⟩ := rng_get hd
    refine ⟨_, rfl, true, by simp, by simp, fun _ => ⟨_, ?_, rfl⟩⟩
    have hx : ixD (.obj (A.length + 6)) (nd (.letter i)) (bs A s (C ++ [.lst acc])) = .ok (.int (i : Nat)) (bs A s (C ++ [.lst acc])) := by
      rw [ix_dit (bs6 _ _ _) (tk_nd _), find_kn, hB.kn, hL i hi]; simp
    have hx2 : ixD (.obj (A.length + 6)) (.tup [.str "letter", .int (i : Nat)]) (bs A s (C ++ [.lst acc])) = _ := hx
    rw [bs_app]
    simp [hρ, wipeE, hx2])
  rw [List.filterMap_some, rng_nats] at h
  rw [rng_nats] at *
  exact h
theorem range_succ_take (n i : Nat) (h : i < n) : (List.range n).take (i + 1) = (List.range n).take i ++ [i] := by
  rw [List.take_succ, List.getElem?_range h]; rfl
theorem ord_done (X : Store) (ℓ : Nat) (hℓ : ℓ ≤ 3) (k : Nat) (ρ : Env) (hl : 6 < ρ.length) : dcLoop ⟨some X.length, nats (List.range ℓ)⟩ (.one 6) [6] (X.length + 1) (evT pdat.p (callK pdat.p k) .yes) (ev pdat.p (callK pdat.p k) (.v 6)) (ev pdat.p (callK pdat.p k) (.k (.bl true))) ρ (nats (List.range ℓ)) (X ++ [.lst (nats (List.range ℓ)), .dic []]) = .ok (.obj (X.length + 1)) (X ++ [.lst (nats (List.range ℓ)), .dic (dk (List.range ℓ))]) := by
  obtain ⟨acc, S', h1, h2, h3⟩ := dcLoop_inv (src := ⟨some X.length, nats (List.range ℓ)⟩) (g := .one 6) (own := [6]) (n := X.length + 1) (t := evT pdat.p (callK pdat.p k) .yes) (kx := ev pdat.p (callK pdat.p k) (.v 6)) (e := ev pdat.p (callK pdat.p k) (.k (.bl true))) (ρ := ρ)
    (fun i acc S => acc = dk ((List.range ℓ).take i) ∧ S = X ++ [.lst (nats (List.range ℓ)), .dic acc]) (nats (List.range ℓ)) (fun i d acc S hd ⟨ha, hS⟩ => by
      obtain ⟨j, hj, rfl⟩ := nats_at hd
      have hi : i < ℓ := by
        have := (List.getElem?_eq_some_iff.mp hj).1
        simpa using this
      rw [List.getElem?_range hi] at hj
      cases hj
      have e6 : ((wipeE ρ [6]).set 6 (some (.int ((i : Nat) : Int))))[6]? = some (some (.int ((i : Nat) : Int))) := by
        rw [List.getElem?_set_self]; simp [wipeE, hl]
      have hp : putK acc (.inl ((i : Nat) : Int)) (.bl true) = dk ((List.range ℓ).take (i + 1)) := by
        rw [range_succ_take ℓ i hi, ha]
        refine dk_put ?_
        intro hm
        rw [List.take_range] at hm
        have := List.mem_range.mp hm
        omega
      have hlen : acc.length < line := by
        rw [ha]; unfold dk; rw [List.length_map, List.length_take]; exact ln _ (by omega)
      subst hS
      refine ⟨stays_some (by simp), _, rfl, by simp, .int (i : Nat), .bl true, .inl (i : Nat), ?_, by simp, rfl, by simp, hlen, hp, ?_⟩
      · simp [e6]
      · simp) (fun acc S ⟨_, hS⟩ => by subst hS; exact stays_some (by simp)) (S := X ++ [.lst (nats (List.range ℓ)), .dic []]) ⟨by simp [dk], rfl⟩
  rw [h1, h3, h2]
  have : (nats (List.range ℓ)).length = ℓ := by rw [nats_len, List.length_range]
  rw [this, List.take_of_length_le (by simp)]
end
/-- the nodes refer to earlier ones -/
def Early (ar : Nat → List Nat) : Prop := ∀ a, ∀ p ∈ ar a, p < a
theorem add_lst {n m : Nat} {xs ys : List D} {S : Store} (h : S[n]? = some (.lst xs)) (g : S[m]? = some (.lst ys)) (hl : xs.length + ys.length ≤ line) : binD .Add (.obj n) (.obj m) S = .ok (.obj S.length) (S ++ [.lst (xs ++ ys)]) := by
  unfold binD; simp only [h, g]; rw [if_pos hl]
theorem s_order {A C : Store} (s : BSt) (hB : BOk s) (hL : Letters s) (hE : Early (arN s.nodes)) (g : Nat) (hg : s.goal = some g) (hgN : g < s.nodes.length) (hc : ∀ a ∈ s.conds, a < s.nodes.length) (hcl : s.conds.length ≤ 12) (hr : s.rows.length ≤ s.nodes.length) (k : Nat) :
    ∃ J, Pu J ∧ callK pdat.p (k + 2) 41 [.obj A.length] (bs A s C) = .ok (.obj (bs A s C).length) (bs A s C ++ (.lst (nats (ords (arN s.nodes) 500 (s.conds ++ [g]) (List.range s.rows.length))) :: J)) := by
  have hfew := hB.few
  have hrows := hB.rows
  have hlc := ord_letters A s C hB hL (k + 1) [some (.obj A.length), none, none, none, none, none, none, none, none] rfl
  have hdc := ord_done (bs A s C) s.rows.length hB.rows (k + 1) [some (.obj A.length), some (.obj (bs A s C).length), none, none, none, none, none, none, none] (by simp)
  generalize hX : bs A s C = X at *
  have hfX : ∀ K, fldD pdat.p (.obj A.length) 0 (X ++ K) = some (.obj (A.length + 1)) ∧ fldD pdat.p (.obj A.length) 3 (X ++ K) = some (.obj (A.length + 5)) ∧ fldD pdat.p (.obj A.length) 4 (X ++ K) = some (.int (g : Nat)) ∧ (X ++ K)[A.length + 5]? = some (.lst (nats s.conds)) := by
    intro K
    rw [← hX, bs_app]
    refine ⟨by simp, by simp, by simp [hg, goalD], by simp⟩
  have hl1 : bltD .len [.obj (A.length + 1)] X = .ok (.int (s.rows.length : Nat)) X := by rw [← hX]; simp
  have hf0 : fldD pdat.p (.obj A.length) 0 X = some (.obj (A.length + 1)) := by rw [← hX]; simp
  have hsum : nats s.conds ++ [D.int (g : Nat)] = nats (s.conds ++ [g]) := by rw [nats_app]; rfl
  obtain ⟨ρ', S', hfor, J1, u3, u4, u6, u7, u8, hJ1, hρ, hS⟩ := forL_inv (src := ⟨some (X.length + 3), nats (s.conds ++ [g])⟩) (g := .one 3) (b := execs pdat.p (callK pdat.p (k + 1)) (.cons (.asg (.g (.one 4)) (.lst (.cons (.v 3) .nil))) 
   (.cons (.whl (.val (.v 4)) 
    (.cons (.asg (.g (.one 6)) (.ix (.v 4) (.neg (.k (.int (1)))))) 
    (.cons (.asg (.g (.one 7)) (.lc [8] (.v 8) (.one 8) (.seq (.call 24 (.cons (.ix (.fld (.v 0) 1) (.v 6)) .nil))) (.val (.cmp .NotIn (.v 8) (.v 2))))) 
    (.cons (.ite (.val (.v 7)) 
     (.cons (.expr (.bm (.v 4) .append (.cons (.ix (.v 7) (.k (.int (0)))) .nil))) 
     (.cons .cont .nil)) .nil) 
    (.cons (.expr (.bm (.v 4) .pop .nil)) 
    (.cons (.ite (.val (.cmp .NotIn (.v 6) (.v 2))) 
     (.cons (.asg (.sub (.v 2) (.v 6)) (.k (.bl true))) 
     (.cons (.expr (.bm (.v 1) .append (.cons (.v 6) .nil))) .nil)) .nil) .nil)))))) .nil)))
    (fun i ρ T => ∃ J1 u3 u4 u6 u7 u8, Pu J1 ∧ ρ = [some (.obj A.length), some (.obj X.length), some (.obj (X.length + 1)), u3, u4, none, u6, u7, u8] ∧
      T = X ++ ([.lst (nats (ords (arN s.nodes) 500 ((s.conds ++ [g]).take i) (List.range s.rows.length))), .dic (dk (ords (arN s.nodes) 500 ((s.conds ++ [g]).take i) (List.range s.rows.length))), .lst [.int (g : Nat)], .lst (nats (s.conds ++ [g]))] ++ J1)) (nats (s.conds ++ [g])) (fun i d ρ T hd ⟨J1, u3, u4, u6, u7, u8, hJ1, hρ, hT⟩ => by
      obtain ⟨a, ha, rfl⟩ := nats_at hd
      subst hρ hT
      have haN : a < s.nodes.length := by
        rcases List.mem_append.mp (List.mem_of_getElem? ha) with h | h
        · exact hc a h
        · rw [List.mem_singleton] at h; subst h; exact hgN
      have hlt : ∀ b ∈ ords (arN s.nodes) 500 ((s.conds ++ [g]).take i) (List.range s.rows.length), b < s.nodes.length := ords_lt hE _ (fun b hb => by
        rcases List.mem_append.mp (List.mem_of_mem_take hb) with h | h
        · exact hc b h
        · rw [List.mem_singleton] at h; subst h; exact hgN) _ (fun b hb => by have := List.mem_range.mp hb; omega)
      have hnd : (ords (arN s.nodes) 500 ((s.conds ++ [g]).take i) (List.range s.rows.length)).Nodup := by
        refine (ords_ord (ar := arN s.nodes) _ ?_).nd
        refine ⟨List.nodup_range, fun t b hb p hp => ?_⟩
        have hb2 := (List.getElem?_eq_some_iff.mp hb).1
        rw [List.length_range] at hb2
        rw [List.getElem?_range hb2] at hb
        cases hb
        have e : arN s.nodes t = [] := by
          unfold arN
          have := hL t hb2
          unfold ixN at this
          obtain ⟨h1, h2, _⟩ := List.findIdx?_eq_some_iff_getElem.mp this
          have h2 : s.nodes[t] = .letter t := by simpa using h2
          simp [List.getD, List.getElem?_eq_getElem h1, h2, Nd.args]
        rw [e] at hp; cases hp
      have hlen := nodup_len s.nodes.length _ hnd hlt
      have htk : (s.conds ++ [g]).take (i + 1) = (s.conds ++ [g]).take i ++ [a] := by rw [List.take_succ, ha]; rfl
      have hor : ords (arN s.nodes) 500 ((s.conds ++ [g]).take (i + 1)) (List.range s.rows.length) = (run (arN s.nodes) 500 ([a], ords (arN s.nodes) 500 ((s.conds ++ [g]).take i) (List.range s.rows.length))).2 := by
        rw [htk]
        generalize (s.conds ++ [g]).take i = l
        generalize List.range s.rows.length = o
        induction l generalizing o with
        | nil => rfl
        | cons b l ih => exact ih _
      rw [hor]
      generalize ords (arN s.nodes) 500 ((s.conds ++ [g]).take i) (List.range s.rows.length) = o at *
      have hone := run_one hE haN (k := 500) (by omega) o
      obtain ⟨y6, y7, y8, J3, hw, hJ3⟩ := ord_while A s C hE (.lst [.int (g : Nat)]) (.lst (nats (s.conds ++ [g]))) J1 k (some (.int (a : Nat))) none 500 [a] o [] u6 u7 u8 hone (fun b hb => by rw [List.mem_singleton] at hb; subst hb; exact haN) (by omega) (by simp) Pu.nil
      rw [hX] at hw
      have hwr := whileR_eq hw (by intro h; cases h)
      refine ⟨stays_some (by simp), _, rfl, _, _, .inl ?_, J1 ++ (.lst (nats []) :: J3), some (.int (a : Nat)), some (.obj (X.length + 4 + J1.length)), y6, y7, y8, ?_, rfl, rfl⟩
      · have e1 : (X ++ ([M.lst (nats o), .dic (dk o), .lst [.int (g : Nat)], .lst (nats (s.conds ++ [g]))] ++ J1)).length = X.length + 4 + J1.length := by simp; omega
        have e2 : X ++ ([M.lst (nats o), .dic (dk o), .lst [.int (g : Nat)], .lst (nats (s.conds ++ [g]))] ++ J1) ++ [.lst [.int (a : Nat)]] = ot X o o (.lst [.int (g : Nat)]) (.lst (nats (s.conds ++ [g]))) J1 [a] [] := by
          unfold ot; simp
        unfold ordT ordB at hwr
        simp only [execs_cons, execs_nil, exec_asg, ev_lst, evs_cons, evs_nil, ev_v, bindG_one, List.set_cons_succ, List.set_cons_zero, List.getElem?_cons_succ, List.getElem?_cons_zero, R.bind_ok, List.length_cons, List.length_nil, e1, e2, R.st_ok, RS.seq_nx, exec_whl]
        rw [if_pos (by decide)]
        simp only [R.st_ok, RS.seq_nx, execs_cons, execs_nil, exec_whl]
        rw [hwr]
        simp only [RS.seq_nx]
        unfold ot
        simp
      · exact hJ1.app (by have := (pu_nats []).app hJ3; exact this)) (fun ρ T ⟨J1, u3, u4, u6, u7, u8, hJ1, hρ, hT⟩ => by subst hT; exact stays_some (by simp)) (ρ := [some (.obj A.length), some (.obj X.length), some (.obj (X.length + 1)), none, none, none, none, none, none]) (S := X ++ [.lst (nats (List.range s.rows.length)), .dic (dk (List.range s.rows.length)), .lst [.int (g : Nat)], .lst (nats (s.conds ++ [g]))])
    ⟨[], none, none, none, none, none, Pu.nil, rfl, by simp [ords]⟩
  subst hρ hS
  rw [nats_len, List.take_length] at hfor
  refine ⟨.dic (dk (ords (arN s.nodes) 500 (s.conds ++ [g]) (List.range s.rows.length))) :: .lst [.int (g : Nat)] :: .lst (nats (s.conds ++ [g])) :: J1, ?_, ?_⟩
  · exact (pu_dk _).app (Pu.app (J := [.lst [.int (g : Nat)]]) (pu_nats [g]) (Pu.app (J := [.lst (nats (s.conds ++ [g]))]) (pu_nats _) hJ1))
  · rw [c_Builderuorder]; unfold ir_Builderuorder
    have hsrc : seqSrc (X ++ [M.lst (nats (List.range s.rows.length))]) (.obj X.length) = some ⟨some X.length, nats (List.range s.rows.length)⟩ := seqSrc_lst (by simp)
    have h3 := (hfX [M.lst (nats (List.range s.rows.length)), .dic (dk (List.range s.rows.length))]).2.1
    have h4 := (hfX [M.lst (nats (List.range s.rows.length)), .dic (dk (List.range s.rows.length))]).2.2.1
    have hadd := add_lst (n := A.length + 5) (m := X.length + 2) (xs := nats s.conds) (ys := [.int (g : Nat)]) (S := X ++ [M.lst (nats (List.range s.rows.length)), .dic (dk (List.range s.rows.length)), .lst [.int (g : Nat)]]) (hfX _).2.2.2 (by simp) (by rw [nats_len]; have := ln (s.conds.length + 1) (by omega); simp only [List.length_cons, List.length_nil]; omega)
    rw [hsum] at hadd
    have hsrc2 : seqSrc (X ++ [M.lst (nats (List.range s.rows.length)), .dic (dk (List.range s.rows.length)), .lst [.int (g : Nat)], .lst (nats (s.conds ++ [g]))]) (.obj (X.length + 3)) = some ⟨some (X.length + 3), nats (s.conds ++ [g])⟩ := seqSrc_lst (by simp)
    have hlo := lo_self X.length
    rw [rng_nats] at hlc
    simp [hf0, hl1, range_src s.rows.length (by omega), rng_nats, hlc, hsrc, hdc, h3, h4, hadd, hsrc2, hfor, hlo, gc_low]
end Z
end

section
set_option Elab.async false
set_option linter.all false
set_option maxRecDepth 100000
/-! MX: Builder.problem. -/
namespace Z
open PySem
theorem lc_nats {p : Prg} {c : Nat → List D → Store → R D} {q v : Nat} {f : List Nat} {S : Store} {e : Env → Store → R D} {ρ : Env} (h : Nat → D) (hq : S[q]? = some (.lst (nats f))) (hl : f.length ≤ 1000)
    (he : ∀ a ∈ f, ∀ acc, e ((wipeE ρ [v]).set v (some (.int (a : Nat)))) (S ++ [.lst acc]) = .ok (h a) (S ++ [.lst acc])) :
    lcLoop ⟨some q, nats f⟩ (.one v) [v] S.length (evT p c .yes) e ρ (nats f) (S ++ [.lst []]) = .ok (.obj S.length) (S ++ [.lst (f.map h)]) := by
  have hqS : q < S.length := (List.getElem?_eq_some_iff.mp hq).1
  have h1 := lcLoop_pure (src := ⟨some q, nats f⟩) (g := .one v) (own := [v]) (t := evT p c .yes) (e := e) (ρ := ρ) (S0 := S) (fun d => match d with | .int i => some (h i.toNat) | _ => none) (nats f) (by rw [nats_len]; exact ln _ hl) (fun acc => stays_some (by rw [List.getElem?_append_left hqS]; exact hq)) (fun i d acc hd => by
    obtain ⟨a, ha, rfl⟩ := nats_at hd
    exact ⟨_, rfl, true, by simp, by simp, fun _ => ⟨_, he a (List.mem_of_getElem? ha) acc, by simp⟩⟩)
  have h2 : ∀ l : List Nat, (nats l).filterMap (fun d => match d with | .int i => some (h i.toNat) | _ => none) = l.map h := by
    intro l
    induction l with
    | nil => rfl
    | cons a l ih => rw [nats_cons, List.filterMap_cons, ih]; simp
  rw [h1, h2]
theorem pu_put {kvs : List (L2.Key × D)} {k : L2.Key} {v : D} (h : Pu [.dic kvs]) (hv : v.lo 0 = true) : Pu [.dic (putK kvs k v)] := by
  have e : ∀ l : List (L2.Key × D), Pu [.dic l] ↔ D.los 0 (l.map (·.2)) = true := by
    intro l; unfold Pu; simp only [List.all_cons, List.all_nil, Bool.and_true]; exact Iff.rfl
  rw [e] at *
  have la : ∀ l : List D, D.los 0 l = true ↔ ∀ d ∈ l, d.lo 0 = true := by
    intro l
    induction l with
    | nil => simp [D.los]
    | cons d l ih => simp [D.los, ih]
  rw [la] at *
  unfold putK
  split
  · intro d hd
    obtain ⟨kv, hkv, rfl⟩ := List.mem_map.mp hd
    obtain ⟨kw, hkw, rfl⟩ := List.mem_map.mp hkv
    split
    · exact hv
    · exact h _ (List.mem_map.mpr ⟨kw, hkw, rfl⟩)
  · intro d hd
    rw [List.map_append] at hd
    rcases List.mem_append.mp hd with hd | hd
    · exact h d hd
    · simp at hd; subst hd; exact hv
theorem places_dc {q : Nat} {f : List Nat} (hf : f.Nodup) {S : Store} (hq : S[q]? = some (.lst (nats f))) (hl : f.length ≤ 100) {c : Nat → List D → Store → R D} {ρ : Env} {x0 : Option D} (h1 : ρ = [x0, some (.obj q), none, none, none, none, none, none]) :
    ∃ kvs, Pu [.dic kvs] ∧ (∀ a ∈ f, findK kvs (.inl (a : Nat)) = some (.int (plc f a : Nat))) ∧ dcLoop ⟨none, rng 0 f.length⟩ (.one 6) [6] S.length (evT pdat.p c .yes) (ev pdat.p c (.ix (.v 1) (.v 6))) (ev pdat.p c (.v 6)) ρ (rng 0 f.length) (S ++ [.dic []]) = .ok (.obj S.length) (S ++ [.dic kvs]) := by
  have hqS : q < S.length := (List.getElem?_eq_some_iff.mp hq).1
  obtain ⟨acc, S', e1, e2, e3, e4, e5⟩ := dcLoop_inv (src := ⟨none, rng 0 f.length⟩) (g := .one 6) (own := [6]) (n := S.length) (t := evT pdat.p c .yes) (kx := ev pdat.p c (.ix (.v 1) (.v 6))) (e := ev pdat.p c (.v 6)) (ρ := ρ)
    (fun i acc T => Pu [.dic acc] ∧ acc.length ≤ i ∧ (∀ (t a : Nat), t < i → f[t]? = some a → findK acc (.inl (a : Nat)) = some (.int (t : Nat))) ∧ T = S ++ [.dic acc]) (rng 0 f.length) (fun i d acc T hd ⟨hp, hlen, hi, hT⟩ => by
      obtain ⟨hif, rfl⟩ := rng_get hd
      subst hT
      have ea := List.getElem?_eq_getElem hif
      generalize f[i] = a at ea
      have hq2 : (S ++ [M.dic acc])[q]? = some (.lst (nats f)) := by rw [List.getElem?_append_left hqS]; exact hq
      have hix : ixD (.obj q) (.int (i : Nat)) (S ++ [M.dic acc]) = .ok (.int (a : Nat)) (S ++ [M.dic acc]) := by
        rw [ixD_lst _ hq2, atI_nat]
        unfold nats; rw [List.getElem?_map, ea]; simp
      refine ⟨rfl, _, rfl, by simp, .int (a : Nat), .int (i : Nat), .inl (a : Nat), ?_, ?_, rfl, by simp, ln _ (by omega), ?_, ?_, ?_, ?_⟩
      · simp [h1, wipeE, hix]
      · simp [h1, wipeE]
      · exact pu_put hp rfl
      · have := putK_len acc (.inl (a : Nat)) (.int (i : Nat)); omega
      · intro t b ht hb
        rw [findK_putK]
        by_cases h : t = i
        · subst h; rw [ea] at hb; cases hb; simp
        · have hne : ¬ ((Sum.inl ((a : Nat) : Int) : L2.Key) = .inl ((b : Nat) : Int)) := by
            intro q
            injection q with q
            have q : a = b := by omega
            subst q
            have t1 := plc_at hf hb
            have t2 := plc_at hf ea
            exact h (t1.symm.trans t2)
          rw [if_neg hne]
          exact hi t b (by omega) hb
      · simp) (fun _ _ _ => rfl) (S := S ++ [.dic []]) ⟨rfl, Nat.zero_le _, fun t a h => by omega, rfl⟩
  subst e5
  refine ⟨acc, e2, fun a ha => ?_, e1⟩
  obtain ⟨t, ht⟩ := List.mem_iff_getElem?.mp ha
  rw [plc_at hf ht]
  exact e4 t a (by rw [rng_length]; exact (List.getElem?_eq_some_iff.mp ht).1) ht
/-- the order of the nodes -/
def BSt.ord (s : BSt) (g : Nat) : List Nat := ords (arN s.nodes) 500 (s.conds ++ [g]) (List.range s.rows.length)
def pOf (s : BSt) (g : Nat) (f : List Nat) : M := pins0 (.tup (s.rows.map rowD)) (.tup ((f.map fun a => (s.nodes.getD a (.letter 0)).mv (plc f)).map nd)) (.tup ((f.map fun a => s.ranges.getD a i0).map iv)) (.tup (nats (s.conds.map (plc f)))) (.int (plc f g : Nat))
theorem Pu.lo {J : Store} (h : Pu J) (n : Nat) : J.all (M.lo n) = true := all_mono (Nat.zero_le n) J h
theorem Rest.app {A C J : Store} (h : Rest A C) (hJ : Pu J) : Rest A (C ++ J) := by
  refine ⟨all_mono (by simp) A h.a, ?_⟩
  rw [List.all_append, all_mono (by simp) C h.c, hJ.lo]; rfl
theorem pu_lst {α : Type} (f : α → D) (h : ∀ a, (f a).lo 0 = true) (l : List α) : Pu [.lst (l.map f)] := by
  unfold Pu; simp only [List.all_cons, List.all_nil, Bool.and_true]; exact los_map f 0 h l
theorem bs_last (A : Store) (s : BSt) (C : Store) (x : M) : (bs A s (C ++ [x]))[(bs A s C).length]? = some x := by rw [← bs_app, ap_get0]; rfl
theorem s_problem {A C : Store} (hR : Rest A C) (s : BSt) (hB : BOk s) (hL : Letters s) (hE : Early (arN s.nodes)) (g : Nat) (hg : s.goal = some g) (hgN : g < s.nodes.length) (hc : ∀ a ∈ s.conds, a < s.nodes.length) (hcl : s.conds.length ≤ 12) (hr : s.rows.length ≤ s.nodes.length) (h60 : s.nodes.length ≤ 60) (k : Nat)
    (hnd : (s.ord g).Nodup) (hlt : ∀ a ∈ s.ord g, a < s.nodes.length) (hcl2 : ∀ a ∈ s.ord g, ∀ p ∈ arN s.nodes a, p ∈ s.ord g) (hcf : ∀ a ∈ s.conds, a ∈ s.ord g) (hgf : g ∈ s.ord g) :
    ∃ J, Pu J ∧ callK pdat.p (k + 3) 40 [.obj A.length] (bs A s C) = .ok (.obj (bs A s (C ++ J)).length) (bs A s (C ++ J ++ [pOf s g (s.ord g)])) := by
  obtain ⟨J0, hJ0, ho⟩ := s_order (A := A) (C := C) s hB hL hE g hg hgN hc hcl hr k
  change _ = R.ok _ (bs A s C ++ (.lst (nats (s.ord g)) :: J0)) at ho
  have hflen : (s.ord g).length ≤ 60 := Nat.le_trans (nodup_len _ _ hnd hlt) h60
  generalize s.ord g = f at *
  have hq : ∀ K, (bs A s (C ++ (.lst (nats f) :: J0) ++ K))[(bs A s C).length]? = some (.lst (nats f)) := by
    intro K
    rw [List.append_assoc, ← bs_app, ap_get0]; rfl
  rw [bs_app] at ho
  generalize hq0 : (bs A s C).length = q at *
  generalize hC1 : C ++ (.lst (nats f) :: J0) = C1 at *
  have hR1 : Rest A C1 := by rw [← hC1]; exact hR.app ((pu_nats f).app hJ0)
  have hqC1 := hq []
  rw [List.append_nil] at hqC1
  obtain ⟨kvs, hkp, hkf, hdc⟩ := places_dc hnd hqC1 (by omega) (c := callK pdat.p (k + 2)) (ρ := [some (.obj A.length), some (.obj q), none, none, none, none, none, none]) (x0 := some (.obj A.length)) rfl
  rw [bs_app A s C1 [M.dic kvs]] at hdc
  -- the nodes
  have hp2 : ∀ K, (bs A s (C1 ++ [.dic kvs] ++ K))[(bs A s C1).length]? = some (.dic kvs) := by
    intro K; rw [List.append_assoc, ← bs_app, ap_get0]; rfl
  have hn := lc_nats (p := pdat.p) (c := callK pdat.p (k + 2)) (v := 7) (f := f) (S := bs A s (C1 ++ [.dic kvs])) (e := ev pdat.p (callK pdat.p (k + 2)) (.call 25 (.cons (.ix (.fld (.v 0) 1) (.v 7)) (.cons (.v 2) .nil)))) (ρ := [some (.obj A.length), some (.obj q), some (.obj (bs A s C1).length), none, none, none, none, none]) (fun a => nd ((s.nodes.getD a (.letter 0)).mv (plc f))) (hq [.dic kvs]) (by omega) (fun a ha acc => by
    rw [bs_app]
    have hx : ixD (.obj (A.length + 2)) (.int (a : Nat)) (bs A s (C1 ++ [.dic kvs] ++ [.lst acc])) = _ := ix_lst (bs2 A s _) (.letter 0) (hlt a ha)
    have hm : callK pdat.p (k + 2) 25 [nd (s.nodes.getD a (.letter 0)), .obj (bs A s C1).length] (bs A s (C1 ++ [.dic kvs] ++ [.lst acc])) = _ := s_moved (s.nodes.getD a (.letter 0)) (plc f) _ kvs _ (hp2 [.lst acc]) (fun i hi => hkf i (hcl2 a ha i hi)) (k + 1)
    generalize s.nodes.getD a (.letter 0) = n at *
    generalize C1 ++ [M.dic kvs] ++ [M.lst acc] = CC at *
    simp [wipeE, hx, hm])
  have hnl : (f.map fun a => nd ((s.nodes.getD a (.letter 0)).mv (plc f))) = (f.map fun a => (s.nodes.getD a (.letter 0)).mv (plc f)).map nd := by rw [List.map_map]; rfl
  rw [hnl] at hn
  have hPn : Pu [.lst ((f.map fun a => (s.nodes.getD a (.letter 0)).mv (plc f)).map nd)] := pu_lst nd (lo_nd 0) _
  generalize hLn : (f.map fun a => (s.nodes.getD a (.letter 0)).mv (plc f)) = Ln at *
  rw [bs_app A s (C1 ++ [M.dic kvs]) [M.lst (Ln.map nd)]] at hn
  -- the ranges
  have hv := lc_nats (p := pdat.p) (c := callK pdat.p (k + 2)) (v := 7) (f := f) (S := bs A s (C1 ++ [.dic kvs] ++ [.lst (Ln.map nd)])) (e := ev pdat.p (callK pdat.p (k + 2)) (.ix (.fld (.v 0) 2) (.v 7))) (ρ := [some (.obj A.length), some (.obj q), some (.obj (bs A s C1).length), some (.tup (Ln.map nd)), none, none, none, none]) (fun a => iv (s.ranges.getD a i0)) (by rw [List.append_assoc]; exact hq _) (by omega) (fun a ha acc => by
    rw [bs_app]
    have hx : ixD (.obj (A.length + 3)) (.int (a : Nat)) (bs A s (C1 ++ [.dic kvs] ++ [.lst (Ln.map nd)] ++ [.lst acc])) = _ := ix_lst (bs3 A s _) i0 (by rw [hB.lr]; exact hlt a ha)
    generalize s.ranges.getD a i0 = n at *
    generalize C1 ++ [M.dic kvs] ++ [.lst (Ln.map nd)] ++ [M.lst acc] = CC at *
    simp [wipeE, hx])
  have hvl : (f.map fun a => iv (s.ranges.getD a i0)) = (f.map fun a => s.ranges.getD a i0).map iv := by rw [List.map_map]; rfl
  rw [hvl] at hv
  have hPv : Pu [.lst ((f.map fun a => s.ranges.getD a i0).map iv)] := pu_lst iv (lo_iv 0) _
  generalize hLv : (f.map fun a => s.ranges.getD a i0) = Lv at *
  rw [bs_app A s (C1 ++ [M.dic kvs] ++ [M.lst (Ln.map nd)]) [M.lst (Lv.map iv)]] at hv
  -- the conditions
  have hw := lc_nats (p := pdat.p) (c := callK pdat.p (k + 2)) (v := 7) (q := A.length + 5) (f := s.conds) (S := bs A s (C1 ++ [.dic kvs] ++ [.lst (Ln.map nd)] ++ [.lst (Lv.map iv)])) (e := ev pdat.p (callK pdat.p (k + 2)) (.ix (.v 2) (.v 7))) (ρ := [some (.obj A.length), some (.obj q), some (.obj (bs A s C1).length), some (.tup (Ln.map nd)), some (.tup (Lv.map iv)), none, none, none]) (fun a => .int (plc f a : Nat)) (bs5 A s _) (by omega) (fun a ha acc => by
    rw [bs_app]
    have hx : ixD (.obj (bs A s C1).length) (.int (a : Nat)) (bs A s (C1 ++ [.dic kvs] ++ [.lst (Ln.map nd)] ++ [.lst (Lv.map iv)] ++ [.lst acc])) = _ := ix_dic (by rw [List.append_assoc, List.append_assoc]; exact hp2 _) (hkf a (hcf a ha))
    generalize plc f a = n at *
    generalize C1 ++ [M.dic kvs] ++ [.lst (Ln.map nd)] ++ [.lst (Lv.map iv)] ++ [M.lst acc] = CC at *
    simp [wipeE, hx])
  have hwl : (s.conds.map fun a => D.int (plc f a : Nat)) = nats (s.conds.map (plc f)) := by unfold nats; rw [List.map_map]; rfl
  rw [hwl, bs_app A s (C1 ++ [M.dic kvs] ++ [M.lst (Ln.map nd)] ++ [M.lst (Lv.map iv)]) [M.lst (nats (s.conds.map (plc f)))]] at hw
  have hgx : ixD (.obj (bs A s C1).length) (.int (g : Nat)) (bs A s (C1 ++ [.dic kvs] ++ [.lst (Ln.map nd)] ++ [.lst (Lv.map iv)] ++ [.lst (nats (s.conds.map (plc f)))])) = _ := ix_dic (by rw [List.append_assoc, List.append_assoc]; exact hp2 _) (hkf g hgf)
  have hJall : Pu ([.dic kvs] ++ [.lst (Ln.map nd)] ++ [.lst (Lv.map iv)] ++ [.lst (nats (s.conds.map (plc f)))]) := ((hkp.app hPn).app hPv).app (pu_nats _)
  have hRf : Rest A (C1 ++ [.dic kvs] ++ [.lst (Ln.map nd)] ++ [.lst (Lv.map iv)] ++ [.lst (nats (s.conds.map (plc f)))]) := by
    have := hR1.app hJall
    simpa using this
  have hnew := s_new0' (.tup (s.rows.map rowD)) (.tup (Ln.map nd)) (.tup (Lv.map iv)) (.tup (nats (s.conds.map (plc f)))) (.int (plc f g : Nat)) (bs A s (C1 ++ [.dic kvs] ++ [.lst (Ln.map nd)] ++ [.lst (Lv.map iv)] ++ [.lst (nats (s.conds.map (plc f)))])) (bs_lo hRf s) (k + 1)
  have hP : pOf s g f = pins0 (.tup (s.rows.map rowD)) (.tup (Ln.map nd)) (.tup (Lv.map iv)) (.tup (nats (s.conds.map (plc f)))) (.int (plc f g : Nat)) := by unfold pOf; rw [hLn, hLv]
  refine ⟨(.lst (nats f) :: J0) ++ ([.dic kvs] ++ [.lst (Ln.map nd)] ++ [.lst (Lv.map iv)] ++ [.lst (nats (s.conds.map (plc f)))]), Pu.app ((pu_nats f).app hJ0) hJall, ?_⟩
  have hCC : C ++ ((.lst (nats f) :: J0) ++ ([.dic kvs] ++ [.lst (Ln.map nd)] ++ [.lst (Lv.map iv)] ++ [.lst (nats (s.conds.map (plc f)))])) = C1 ++ [.dic kvs] ++ [.lst (Ln.map nd)] ++ [.lst (Lv.map iv)] ++ [.lst (nats (s.conds.map (plc f)))] := by rw [← hC1]; simp
  rw [hCC, hP]
  have hlenf : bltD .len [.obj q] (bs A s C1) = .ok (.int (f.length : Nat)) (bs A s C1) := by rw [len_lst hqC1, nats_len]
  have d60 : decide ((60 : Int) < (f.length : Nat)) = false := decide_eq_false (by omega)
  have hs2 : seqSrc (bs A s (C1 ++ [.dic kvs])) (.obj q) = some ⟨some q, nats f⟩ := seqSrc_lst (hq _)
  have hs3 : seqSrc (bs A s (C1 ++ [.dic kvs] ++ [.lst (Ln.map nd)])) (.obj q) = some ⟨some q, nats f⟩ := seqSrc_lst (by rw [List.append_assoc]; exact hq _)
  have hs4 : seqSrc (bs A s (C1 ++ [.dic kvs] ++ [.lst (Ln.map nd)] ++ [.lst (Lv.map iv)])) (.obj (A.length + 5)) = some ⟨some (A.length + 5), nats s.conds⟩ := seqSrc_lst (bs5 _ _ _)
  have ht1 : bltD .tuple [.obj (bs A s (C1 ++ [.dic kvs])).length] (bs A s (C1 ++ [.dic kvs] ++ [.lst (Ln.map nd)])) = .ok (.tup (Ln.map nd)) (bs A s (C1 ++ [.dic kvs] ++ [.lst (Ln.map nd)])) := tuple_lst (bs_last _ _ _ _)
  have ht2 : bltD .tuple [.obj (bs A s (C1 ++ [.dic kvs] ++ [.lst (Ln.map nd)])).length] (bs A s (C1 ++ [.dic kvs] ++ [.lst (Ln.map nd)] ++ [.lst (Lv.map iv)])) = .ok (.tup (Lv.map iv)) (bs A s (C1 ++ [.dic kvs] ++ [.lst (Ln.map nd)] ++ [.lst (Lv.map iv)])) := tuple_lst (bs_last _ _ _ _)
  have ht3 : bltD .tuple [.obj (bs A s (C1 ++ [.dic kvs] ++ [.lst (Ln.map nd)] ++ [.lst (Lv.map iv)])).length] (bs A s (C1 ++ [.dic kvs] ++ [.lst (Ln.map nd)] ++ [.lst (Lv.map iv)] ++ [.lst (nats (s.conds.map (plc f)))])) = .ok (.tup (nats (s.conds.map (plc f)))) (bs A s (C1 ++ [.dic kvs] ++ [.lst (Ln.map nd)] ++ [.lst (Lv.map iv)] ++ [.lst (nats (s.conds.map (plc f)))])) := tuple_lst (bs_last _ _ _ _)
  have ht4 : bltD .tuple [.obj (A.length + 1)] (bs A s (C1 ++ [.dic kvs] ++ [.lst (Ln.map nd)] ++ [.lst (Lv.map iv)] ++ [.lst (nats (s.conds.map (plc f)))])) = .ok (.tup (s.rows.map rowD)) (bs A s (C1 ++ [.dic kvs] ++ [.lst (Ln.map nd)] ++ [.lst (Lv.map iv)] ++ [.lst (nats (s.conds.map (plc f)))])) := tuple_lst (bs1 _ _ _)
  have hini : pdat.p.ini 0 = some 32 := rfl
  have hgd : goalD s.goal = .int (g : Nat) := by rw [hg]; rfl
  have hrange := range_src f.length (by omega)
  have hlo : (D.obj (bs A s (C1 ++ [.dic kvs] ++ [.lst (Ln.map nd)] ++ [.lst (Lv.map iv)] ++ [.lst (nats (s.conds.map (plc f)))])).length).lo q = false := by
    refine decide_eq_false ?_
    rw [bs_len, ← hq0, bs_len, ← hC1]; simp
  rw [c_Builder_problem]; unfold ir_Builder_problem
  rw [hq0]
  have hgcl : bs A s (C1 ++ [.dic kvs] ++ [.lst (Ln.map nd)] ++ [.lst (Lv.map iv)] ++ [.lst (nats (s.conds.map (plc f)))] ++ [pins0 (.tup (s.rows.map rowD)) (.tup (Ln.map nd)) (.tup (Lv.map iv)) (.tup (nats (s.conds.map (plc f)))) (.int (plc f g : Nat))]) = bs A s (C1 ++ [.dic kvs] ++ [.lst (Ln.map nd)] ++ [.lst (Lv.map iv)] ++ [.lst (nats (s.conds.map (plc f)))]) ++ [pins0 (.tup (s.rows.map rowD)) (.tup (Ln.map nd)) (.tup (Lv.map iv)) (.tup (nats (s.conds.map (plc f)))) (.int (plc f g : Nat))] := by rw [← bs_app]
  rw [hgcl]
  have hf5 : fldD pdat.p (.obj A.length) 0 (bs A s (C1 ++ [.dic kvs] ++ [.lst (Ln.map nd)] ++ [.lst (Lv.map iv)] ++ [.lst (nats (s.conds.map (plc f)))])) = some (.obj (A.length + 1)) := f0 _ _ _
  have hf54 : fldD pdat.p (.obj A.length) 4 (bs A s (C1 ++ [.dic kvs] ++ [.lst (Ln.map nd)] ++ [.lst (Lv.map iv)] ++ [.lst (nats (s.conds.map (plc f)))])) = some (.int (g : Nat)) := by rw [f4, hgd]
  have hf34 : fldD pdat.p (.obj A.length) 3 (bs A s (C1 ++ [.dic kvs] ++ [.lst (Ln.map nd)] ++ [.lst (Lv.map iv)])) = some (.obj (A.length + 5)) := f3 _ _ _
  have hf4 : fldD pdat.p (.obj A.length) 4 (bs A s C) = some (.int (g : Nat)) := by rw [f4, hgd]
  have hf6 : fldD pdat.p (.obj A.length) 6 (bs A s C1) = some (.int 60) := f6 _ _ _
  have hm18 : methD pdat.p (.obj A.length) 18 (bs A s C) = some 41 := m18 _ _ _
  generalize bs A s (C1 ++ [.dic kvs] ++ [.lst (Ln.map nd)] ++ [.lst (Lv.map iv)] ++ [.lst (nats (s.conds.map (plc f)))]) = S5 at *
  generalize bs A s (C1 ++ [.dic kvs] ++ [.lst (Ln.map nd)] ++ [.lst (Lv.map iv)]) = S4 at *
  generalize bs A s (C1 ++ [.dic kvs] ++ [.lst (Ln.map nd)]) = S3 at *
  generalize bs A s (C1 ++ [.dic kvs]) = S2 at *
  generalize bs A s C1 = S1 at *
  generalize bs A s C = S0 at *
  generalize pins0 (.tup (s.rows.map rowD)) (.tup (Ln.map nd)) (.tup (Lv.map iv)) (.tup (nats (s.conds.map (plc f)))) (.int (plc f g : Nat)) = PP at *
  clear hq hqC1 hp2 hR hR1 hRf hP hPn hPv hLn hLv hJall hCC hC1 hnl hvl hwl hgcl
  simp [hf4, hm18, ho, hlenf, hf6, d60, hrange, hdc, hs2, hn, ht1, hs3, hv, ht2, hf34, hs4, hw, ht3, hf5, ht4, hgx, hf54, hini, hnew, hlo, gc_low]
end Z
end

section
set_option Elab.async false
set_option linter.all false
set_option maxRecDepth 100000
/-! MY: uses. -/
namespace Z
open PySem
/-! ### sorted lists -/
theorem ext_sorted : ∀ {l m : List Int}, l.Pairwise (· < ·) → m.Pairwise (· < ·) → (∀ x, x ∈ l ↔ x ∈ m) → l = m
  | [], [], _, _, _ => rfl
  | [], b :: m, _, _, h => by have := (h b).mpr List.mem_cons_self; cases this
  | a :: l, [], _, _, h => by have := (h a).mp List.mem_cons_self; cases this
  | a :: l, b :: m, hl, hm, h => by
    obtain ⟨l1, l2⟩ := List.pairwise_cons.mp hl
    obtain ⟨m1, m2⟩ := List.pairwise_cons.mp hm
    have e : a = b := by
      rcases List.mem_cons.mp ((h a).mp List.mem_cons_self) with q | q
      · exact q
      · rcases List.mem_cons.mp ((h b).mpr List.mem_cons_self) with r | r
        · exact r.symm
        · have := m1 a q; have := l1 b r; omega
    subst e
    rw [ext_sorted l2 m2 (fun x => ⟨fun q => by
      rcases List.mem_cons.mp ((h x).mp (List.mem_cons_of_mem _ q)) with r | r
      · subst r; have := l1 x q; omega
      · exact r, fun q => by
      rcases List.mem_cons.mp ((h x).mpr (List.mem_cons_of_mem _ q)) with r | r
      · subst r; have := m1 x q; omega
      · exact r⟩)]
theorem mem_insInt (i x : Int) : ∀ l : List Int, x ∈ insInt i l ↔ x = i ∨ x ∈ l
  | [] => by simp [insInt]
  | j :: r => by
    unfold insInt
    by_cases h : i ≤ j
    · rw [if_pos h]; simp
    · rw [if_neg h, List.mem_cons, mem_insInt i x r, List.mem_cons]
      constructor
      · rintro (h | h | h) <;> simp [h]
      · rintro (h | h | h) <;> simp [h]
theorem mem_sortInt (x : Int) : ∀ l : List Int, x ∈ sortInt l ↔ x ∈ l
  | [] => by simp [sortInt]
  | i :: r => by unfold sortInt; rw [mem_insInt, mem_sortInt x r, List.mem_cons]
theorem srt_insInt (i : Int) : ∀ l : List Int, l.Pairwise (· < ·) → i ∉ l → (insInt i l).Pairwise (· < ·)
  | [], _, _ => by simp [insInt]
  | j :: r, h, hi => by
    obtain ⟨h1, h2⟩ := List.pairwise_cons.mp h
    unfold insInt
    by_cases hj : i ≤ j
    · rw [if_pos hj]
      have : i ≠ j := fun e => hi (by simp [e])
      refine List.pairwise_cons.mpr ⟨fun x hx => ?_, h⟩
      rcases List.mem_cons.mp hx with q | q
      · omega
      · have := h1 x q; omega
    · rw [if_neg hj]
      refine List.pairwise_cons.mpr ⟨fun x hx => ?_, srt_insInt i r h2 (fun q => hi (List.mem_cons_of_mem _ q))⟩
      rcases (mem_insInt i x r).mp hx with q | q
      · omega
      · exact h1 x q
theorem srt_sortInt : ∀ l : List Int, l.Nodup → (sortInt l).Pairwise (· < ·)
  | [], _ => by simp [sortInt]
  | i :: r, h => by
    obtain ⟨h1, h2⟩ := List.nodup_cons.mp h
    unfold sortInt
    exact srt_insInt i _ (srt_sortInt r h2) (fun q => h1 ((mem_sortInt i r).mp q))
/-! ### sets as dicts -/
def ads (o : List Nat) (l : List Nat) : List Nat := l.foldl (fun o a => if a ∈ o then o else o ++ [a]) o
theorem ads_mem (x : Nat) : ∀ (l o : List Nat), x ∈ ads o l ↔ x ∈ o ∨ x ∈ l
  | [], o => by simp [ads]
  | a :: l, o => by
    show x ∈ ads (if a ∈ o then o else o ++ [a]) l ↔ _
    rw [ads_mem x l, List.mem_cons]
    by_cases h : a ∈ o
    · rw [if_pos h]
      constructor
      · rintro (q | q) <;> simp [q]
      · rintro (q | q | q)
        · exact .inl q
        · subst q; exact .inl h
        · exact .inr q
    · rw [if_neg h, List.mem_append, List.mem_singleton]
      constructor
      · rintro ((q | q) | q) <;> simp [q]
      · rintro (q | q | q) <;> simp [q]
theorem ads_nodup : ∀ (l o : List Nat), o.Nodup → (ads o l).Nodup
  | [], o, h => h
  | a :: l, o, h => by
    show (ads (if a ∈ o then o else o ++ [a]) l).Nodup
    refine ads_nodup l _ ?_
    by_cases q : a ∈ o
    · rw [if_pos q]; exact h
    · rw [if_neg q, List.nodup_append]
      refine ⟨h, List.nodup_cons.mpr ⟨by simp, List.nodup_nil⟩, fun x hx y hy e => ?_⟩
      rw [List.mem_singleton] at hy
      subst hy e; exact q hx
theorem dk_put' (o : List Nat) (a : Nat) : putK (dk o) (.inl (a : Int)) (.bl true) = dk (if a ∈ o then o else o ++ [a]) := by
  by_cases h : a ∈ o
  · rw [if_pos h]
    unfold putK
    have hs := dk_find o a
    rw [decide_eq_true h] at hs
    have h1 : ((dk o).any fun kv => decide (kv.1 = (.inl (a : Int) : L2.Key))) = true := by
      cases q : (dk o).any fun kv => decide (kv.1 = (.inl (a : Int) : L2.Key)) with
      | true => rfl
      | false =>
        exfalso
        unfold findK at hs
        have : ((dk o).find? fun kv => decide (kv.1 = (.inl (a : Int) : L2.Key))) = none := List.find?_eq_none.mpr (List.any_eq_false.mp q)
        rw [this] at hs; cases hs
    rw [if_pos h1]
    unfold dk
    rw [List.map_map]
    refine List.map_congr_left fun b _ => ?_
    simp only [Function.comp]
    split <;> rfl
  · rw [if_neg h]; exact dk_put h
theorem dk_len (o : List Nat) : (dk o).length = o.length := by unfold dk; rw [List.length_map]
theorem ads_len : ∀ (l o : List Nat), (ads o l).length ≤ o.length + l.length
  | [], o => by simp [ads]
  | a :: l, o => by
    have := ads_len l (if a ∈ o then o else o ++ [a])
    have h2 : (if a ∈ o then o else o ++ [a]).length ≤ o.length + 1 := by split <;> simp
    show (ads (if a ∈ o then o else o ++ [a]) l).length ≤ _
    rw [List.length_cons]; omega
theorem ints_nats : ∀ o : List Nat, intsOf ((dk o).map fun kv => kD kv.1) = some (o.map fun (a : Nat) => (a : Int))
  | [] => rfl
  | a :: o => by
    show (intsOf ((dk o).map fun kv => kD kv.1)).map ((a : Int) :: ·) = _
    rw [ints_nats o]; rfl
theorem sorted_dk {n : Nat} {o : List Nat} {S : Store} (h : S[n]? = some (.dic (dk o))) (hl : o.length < 64) : bltD .sorted [.obj n] S = .ok (.obj S.length) (S ++ [.lst ((sortInt (o.map fun (a : Nat) => (a : Int))).map .int)]) := by
  unfold bltD
  simp only [h, ints_nats]
  rw [if_pos (by rw [List.length_map]; exact hl)]
theorem sort_eq {o l : List Nat} (ho : o.Nodup) (hl : l.Pairwise (· < ·)) (h : ∀ x, x ∈ o ↔ x ∈ l) : (sortInt (o.map fun (a : Nat) => (a : Int))).map D.int = nats l := by
  have e : sortInt (o.map fun (a : Nat) => (a : Int)) = l.map fun (a : Nat) => (a : Int) := by
    refine ext_sorted (srt_sortInt _ ?_) ?_ (fun x => ?_)
    · show List.Pairwise _ _
      rw [List.pairwise_map]
      exact ho.imp (fun h q => h (by omega))
    · rw [List.pairwise_map]; exact hl.imp (fun h => by omega)
    · rw [mem_sortInt, List.mem_map, List.mem_map]
      exact ⟨fun ⟨a, ha, q⟩ => ⟨a, (h a).mp ha, q⟩, fun ⟨a, ha, q⟩ => ⟨a, (h a).mpr ha, q⟩⟩
  rw [e, List.map_map]; rfl
/-! ### uses -/
def Nd.u (ℓ : Nat) (us : List (List Nat)) : Nd → List Nat
  | .num _ => [] | .letter k => [k] | .abs i => us.getD i [] | .pow i _ => us.getD i [] | .op _ i j => (List.range ℓ).filter fun x => decide (x ∈ us.getD i [] ∨ x ∈ us.getD j [])
def utup (l : List Nat) : D := .tup (nats l)
theorem lo_utup (n : Nat) (l : List Nat) : (utup l).lo n = true := los_map _ n (fun _ => rfl) l
structure Ul (nodes : List Nd) (ℓ : Nat) (us : List (List Nat)) : Prop where
  len : us.length = nodes.length
  u : ∀ (i : Nat) (n : Nd), nodes[i]? = some n → n.u ℓ (us.take i) = us.getD i []
  ok : ∀ (i : Nat) (n : Nd), nodes[i]? = some n → ∀ p ∈ n.args, p < i
  s : ∀ i, (us.getD i []).Pairwise (· < ·)
  b : ∀ i, ∀ x ∈ us.getD i [], x < ℓ
  few : ∀ i, (us.getD i []).length ≤ 6
theorem use_in (k : Nat) (q : Nat) (x0 x1 x2 x4 : Option D) : ∀ (l o : List Nat) (T : Store) (x5 : Option D), T[q]? = some (.dic (dk o)) → o.length + l.length ≤ 100 →
    ∃ y5, forL ⟨none, nats l⟩ (.one 5) (execs pdat.p (callK pdat.p k) (.cons (.asg (.sub (.v 3) (.v 5)) (.k (.bl true))) .nil)) (nats l) [x0, x1, x2, some (.obj q), x4, x5] T = .nx [x0, x1, x2, some (.obj q), x4, y5] (T.set q (.dic (dk (ads o l)))) := by
  intro l0
  generalize hsrc : (⟨none, nats l0⟩ : Src) = src
  have hst : ∀ T, src.stays T = true := by intro T; rw [← hsrc]; rfl
  clear hsrc
  revert l0
  intro l
  induction l with
  | nil =>
    intro o T x5 hT hl
    refine ⟨x5, ?_⟩
    rw [nats_nil, forL_nil, if_pos (hst T)]
    have hq := (List.getElem?_eq_some_iff.mp hT)
    obtain ⟨hq1, hq2⟩ := hq
    show _ = RS.nx _ (T.set q (.dic (dk o)))
    rw [← hq2, List.set_getElem_self]
  | cons a l ih =>
    intro o T x5 hT hl
    rw [List.length_cons] at hl
    rw [nats_cons, forL_cons, if_pos (hst T)]
    have hsd := set_dic (i := (a : Nat)) (v := .bl true) hT (by rw [dk_len]; exact ln _ (by omega))
    rw [dk_put'] at hsd
    have hql := (List.getElem?_eq_some_iff.mp hT).1
    obtain ⟨y5, hy⟩ := ih (if a ∈ o then o else o ++ [a]) (T.set q (.dic (dk (if a ∈ o then o else o ++ [a])))) (some (.int (a : Nat))) (by rw [List.getElem?_set_self hql]) (by
      have h2 : (if a ∈ o then o else o ++ [a]).length ≤ o.length + 1 := by split <;> simp
      omega)
    refine ⟨y5, ?_⟩
    rw [List.set_set] at hy
    have hb : execs pdat.p (callK pdat.p k) (.cons (.asg (.sub (.v 3) (.v 5)) (.k (.bl true))) .nil) [x0, x1, x2, some (.obj q), x4, some (.int (a : Nat))] T = .nx [x0, x1, x2, some (.obj q), x4, some (.int (a : Nat))] (T.set q (.dic (dk (if a ∈ o then o else o ++ [a])))) := by
      simp [hsd]
    simp only [bindG_one, List.set_cons_succ, List.set_cons_zero]
    rw [hb, RS.turn_nx]
    exact hy
theorem tr_u {us : List (List Nat)} {i p : Nat} (h : p < i) : (us.take i).getD p [] = us.getD p [] := by
  simp [List.getD, List.getElem?_take, h]
def Nd.parts (us : List (List Nat)) (n : Nd) : List Nat := n.args.flatMap fun p => us.getD p []
theorem ads_app (o l m : List Nat) : ads (ads o l) m = ads o (l ++ m) := by unfold ads; rw [List.foldl_append]
theorem use_out (k : Nat) (q fo : Nat) (hne : q ≠ fo) (us : List (List Nat)) (hfew : ∀ i, (us.getD i []).length ≤ 6) (x0 x2 : Option D) : ∀ (l o : List Nat) (T : Store) (x4 x5 : Option D), T[q]? = some (.dic (dk o)) → T[fo]? = some (.lst (us.map utup)) → (∀ p ∈ l, p < us.length) → o.length + 6 * l.length ≤ 50 →
    ∃ y4 y5, forL ⟨none, nats l⟩ (.one 4) (execs pdat.p (callK pdat.p k) (.cons (.for (.one 5) (.seq (.ix (.v 1) (.v 4))) 
      (.cons (.asg (.sub (.v 3) (.v 5)) (.k (.bl true))) .nil)) .nil)) (nats l) [x0, some (.obj fo), x2, some (.obj q), x4, x5] T = .nx [x0, some (.obj fo), x2, some (.obj q), y4, y5] (T.set q (.dic (dk (ads o (l.flatMap fun p => us.getD p []))))) := by
  intro l0
  generalize hsrc : (⟨none, nats l0⟩ : Src) = src
  have hst : ∀ T, src.stays T = true := by intro T; rw [← hsrc]; rfl
  clear hsrc
  revert l0
  intro l
  induction l with
  | nil =>
    intro o T x4 x5 hT hF hp hl
    refine ⟨x4, x5, ?_⟩
    rw [nats_nil, forL_nil, if_pos (hst T)]
    obtain ⟨hq1, hq2⟩ := List.getElem?_eq_some_iff.mp hT
    show _ = RS.nx _ (T.set q (.dic (dk o)))
    rw [← hq2, List.set_getElem_self]
  | cons a l ih =>
    intro o T x4 x5 hT hF hp hl
    rw [List.length_cons] at hl
    rw [nats_cons, forL_cons, if_pos (hst T)]
    have hql := (List.getElem?_eq_some_iff.mp hT).1
    have ha := hfew a
    have hix : ixD (.obj fo) (.int (a : Nat)) T = .ok (utup (us.getD a [])) T := ix_lst hF [] (hp a List.mem_cons_self)
    obtain ⟨z5, hz⟩ := use_in k q x0 (some (.obj fo)) x2 (some (.int (a : Nat))) (us.getD a []) o T x5 hT (by omega)
    have hal := ads_len (us.getD a []) o
    obtain ⟨y4, y5, hy⟩ := ih (ads o (us.getD a [])) (T.set q (.dic (dk (ads o (us.getD a []))))) (some (.int (a : Nat))) z5 (by rw [List.getElem?_set_self hql]) (by rw [List.getElem?_set_ne hne]; exact hF) (fun p h => hp p (List.mem_cons_of_mem _ h)) (by omega)
    refine ⟨y4, y5, ?_⟩
    rw [List.set_set, ads_app] at hy
    simp only [bindG_one, List.set_cons_succ, List.set_cons_zero]
    have hb : execs pdat.p (callK pdat.p k) (.cons (.for (.one 5) (.seq (.ix (.v 1) (.v 4))) 
      (.cons (.asg (.sub (.v 3) (.v 5)) (.k (.bl true))) .nil)) .nil) [x0, some (.obj fo), x2, some (.obj q), some (.int (a : Nat)), x5] T = .nx [x0, some (.obj fo), x2, some (.obj q), some (.int (a : Nat)), z5] (T.set q (.dic (dk (ads o (us.getD a []))))) := by
      simp only [execs_cons, execs_nil, exec_for, evI_seq, ev_ix, ev_v, List.getElem?_cons_zero, List.getElem?_cons_succ, R.bind_ok, hix]
      unfold utup
      simp only [seqSrc_tup, R.of_some, R.st_ok]
      rw [hz]; rfl
    rw [hb, RS.turn_nx]
    rw [List.flatMap_cons]
    exact hy
theorem mem_parts {n : Nd} {ℓ : Nat} {us : List (List Nat)} (hb : ∀ i, ∀ x ∈ us.getD i [], x < ℓ) (hn : ∀ k, n ≠ .letter k) (x : Nat) : x ∈ n.parts us ↔ x ∈ n.u ℓ us := by
  cases n with
  | num v => simp [Nd.parts, Nd.args, Nd.u]
  | letter k => exact absurd rfl (hn k)
  | abs i => simp [Nd.parts, Nd.args, Nd.u]
  | pow i c => simp [Nd.parts, Nd.args, Nd.u]
  | op o i j =>
    unfold Nd.parts Nd.args Nd.u
    rw [List.mem_filter, decide_eq_true_eq, List.mem_range]
    have : x ∈ [i, j].flatMap (fun p => us.getD p []) ↔ (x ∈ us.getD i [] ∨ x ∈ us.getD j []) := by simp
    rw [this]
    exact ⟨fun h => ⟨h.elim (hb i x) (hb j x), h⟩, fun h => h.2⟩
theorem s_uses {nodes : List Nd} {ℓ : Nat} {us : List (List Nat)} (h : Ul nodes ℓ us) {S : Store} (hS : Lo S) {P : Nat} {a c d e : D} (hP : S[P]? = some (pins0 a (.tup (nodes.map nd)) c d e)) (hn : nodes.length ≤ 1000) (k : Nat) :
    callK pdat.p (k + 2) 44 [.obj P] S = .ok (.tup (us.map utup)) S := by
  rw [c_uses]; unfold ir_uses
  have hPl : P < S.length := (List.getElem?_eq_some_iff.mp hP).1
  obtain ⟨ρ', S', hfor, ⟨J, u2, u3, u4, u5, hρ, hJ⟩⟩ := forL_inv (src := ⟨none, nodes.map nd⟩) (g := .one 2) (b := execs pdat.p (callK pdat.p (k + 1)) (.cons (.ite (.val (.cmp .Eq (.ix (.v 2) (.k (.int (0)))) (.k (.str "letter")))) 
    (.cons (.expr (.bm (.v 1) .append (.cons (.tup (.cons (.ix (.v 2) (.k (.int (1)))) .nil)) .nil))) .nil) 
    (.cons (.asg (.g (.one 3)) (.dic false)) 
    (.cons (.for (.one 4) (.seq (.call 24 (.cons (.v 2) .nil))) 
     (.cons (.for (.one 5) (.seq (.ix (.v 1) (.v 4))) 
      (.cons (.asg (.sub (.v 3) (.v 5)) (.k (.bl true))) .nil)) .nil)) 
    (.cons (.expr (.bm (.v 1) .append (.cons (.blt .tuple (.cons (.blt .sorted (.cons (.v 3) .nil)) .nil)) .nil))) .nil)))) .nil))
    (fun i ρ T => ∃ J u2 u3 u4 u5, ρ = [some (.obj P), some (.obj S.length), u2, u3, u4, u5] ∧ T = S ++ (.lst ((us.take i).map utup) :: J)) (nodes.map nd) (fun i x ρ T hd ⟨J, u2, u3, u4, u5, hρ, hT⟩ => by
      subst hρ hT
      rw [List.getElem?_map] at hd
      cases en : nodes[i]? with
      | none => rw [en] at hd; cases hd
      | some n =>
        rw [en] at hd; cases hd
        have hi : i < nodes.length := (List.getElem?_eq_some_iff.mp en).1
        have hfl : (us.take i).length = i := by rw [List.length_take, h.len]; omega
        have hu := h.u i n en
        have ht : us.take (i + 1) = us.take i ++ [us.getD i []] := by
          have hif : i < us.length := by rw [h.len]; exact hi
          rw [List.take_succ, List.getElem?_eq_getElem hif]; simp [List.getD, List.getElem?_eq_getElem hif]
        have hgE : ∀ j, (us.take i).getD j [] = us.getD j [] ∨ (us.take i).getD j [] = [] := by
          intro j
          by_cases hj : j < i
          · exact .inl (tr_u hj)
          · right; simp [List.getD, List.getElem?_take, hj]
        have hfew : ∀ j, ((us.take i).getD j []).length ≤ 6 := fun j => by
          rcases hgE j with q | q <;> rw [q]
          · exact h.few j
          · simp
        have hb : ∀ j, ∀ x ∈ (us.take i).getD j [], x < ℓ := fun j x hx => by
          rcases hgE j with q | q <;> rw [q] at hx
          · exact h.b j x hx
          · cases hx
        have happ : ∀ J', bmT .append (.obj S.length) (S ++ (M.lst ((us.take i).map utup) :: J')) = true ∧ bmD .append (.obj S.length) [utup (us.getD i [])] (S ++ (M.lst ((us.take i).map utup) :: J')) = .ok .non (S ++ (.lst ((us.take (i + 1)).map utup) :: J')) := fun J' => by
          have hg : (S ++ (M.lst ((us.take i).map utup) :: J'))[S.length]? = some (.lst ((us.take i).map utup)) := by simp
          refine ⟨bmT_app hg, ?_⟩
          rw [append_ok hg (by rw [List.length_map, hfl]; exact ln _ (by omega)), ap_set0, ht]; simp
        by_cases hL : ∃ m, n = .letter m
        · obtain ⟨m, rfl⟩ := hL
          have hu : [m] = us.getD i [] := hu
          have e1 : D.tup [.int (m : Nat)] = utup (us.getD i []) := by rw [← hu]; rfl
          have h1 := (happ J).1
          have h2 := (happ J).2
          refine ⟨rfl, _, rfl, _, _, .inl ?_, J, some (nd (.letter m)), u3, u4, u5, rfl, rfl⟩
          generalize us.getD i [] = v at *
          generalize S ++ (M.lst ((us.take i).map utup) :: J) = T at *
          simp only [bindG_one, List.set_cons_succ, List.set_cons_zero]
          simp [nd, h1, e1, h2]
        · have hnl : ∀ m, n ≠ .letter m := fun m q => hL ⟨m, q⟩
          have htag : decide (n.tag = "letter") = false := by
            cases n with
            | letter m => exact absurd rfl (hnl m)
            | op o i j => exact (kn_op o).2.1
            | _ => simp [Nd.tag]
          have hq : (S ++ (M.lst ((us.take i).map utup) :: J)).length = S.length + 1 + J.length := by simp; omega
          have hal : n.args.length ≤ 2 := by cases n <;> simp [Nd.args]
          obtain ⟨y4, y5, hy⟩ := use_out (k + 1) (S.length + 1 + J.length) S.length (by omega) (us.take i) hfew (some (.obj P)) (some (nd n)) n.args [] (S ++ (M.lst ((us.take i).map utup) :: J) ++ [M.dic []]) u4 u5 (by rw [← hq, ap_get0]; rfl) (by simp) (fun p hp => by rw [hfl]; exact h.ok i n en p hp) (by simp; omega)
          have hset : ∀ m, (S ++ (M.lst ((us.take i).map utup) :: J) ++ [M.dic []]).set (S.length + 1 + J.length) m = S ++ (M.lst ((us.take i).map utup) :: (J ++ [m])) := by
            intro m; rw [← hq, ap_set0]; simp
          rw [hset] at hy
          have hso := sorted_dk (n := S.length + 1 + J.length) (o := ads [] (n.args.flatMap fun p => (us.take i).getD p [])) (S := S ++ (M.lst ((us.take i).map utup) :: (J ++ [M.dic (dk (ads [] (n.args.flatMap fun p => (us.take i).getD p [])))]))) (by
            have : S ++ (M.lst ((us.take i).map utup) :: (J ++ [M.dic (dk (ads [] (n.args.flatMap fun p => (us.take i).getD p [])))])) = (S ++ (M.lst ((us.take i).map utup) :: J)) ++ [M.dic (dk (ads [] (n.args.flatMap fun p => (us.take i).getD p [])))] := by simp
            rw [this, ← hq, ap_get0]; rfl) (by
            have := ads_len (n.args.flatMap fun p => (us.take i).getD p []) []
            have h2 : (n.args.flatMap fun p => (us.take i).getD p []).length ≤ 12 := by
              cases n with
              | num v => simp [Nd.args]
              | letter v => simp [Nd.args]
              | abs v => have := hfew v; simp [Nd.args] at *; omega
              | pow v c => have := hfew v; simp [Nd.args] at *; omega
              | op o v w => have := hfew v; have := hfew w; simp [Nd.args] at *; omega
            rw [List.length_nil, Nat.zero_add] at this; omega)
          have hse := sort_eq (ads_nodup (n.args.flatMap fun p => (us.take i).getD p []) [] List.nodup_nil) (h.s i) (fun x => by
            rw [ads_mem, ← hu]
            have := mem_parts hb hnl x
            unfold Nd.parts at this
            rw [this]
            simp)
          rw [hse] at hso
          have h1 := (happ (J ++ [M.dic (dk (ads [] (n.args.flatMap fun p => (us.take i).getD p [])))])).1
          have h2 := (happ (J ++ [M.dic (dk (ads [] (n.args.flatMap fun p => (us.take i).getD p []))), M.lst (nats (us.getD i []))])).2
          have harg := s_arguments n k (S ++ (M.lst ((us.take i).map utup) :: J) ++ [M.dic []])
          generalize hU : us.getD i [] = v at *
          generalize hdk : dk (ads [] (n.args.flatMap fun p => (us.take i).getD p [])) = dd at *
          have hcat : S ++ (M.lst ((us.take i).map utup) :: (J ++ [M.dic dd])) ++ [.lst (nats v)] = S ++ (M.lst ((us.take i).map utup) :: (J ++ [M.dic dd, M.lst (nats v)])) := by simp
          have htu : bltD .tuple [.obj (S ++ (M.lst ((us.take i).map utup) :: (J ++ [M.dic dd]))).length] (S ++ (M.lst ((us.take i).map utup) :: (J ++ [M.dic dd, M.lst (nats v)]))) = .ok (utup v) (S ++ (M.lst ((us.take i).map utup) :: (J ++ [M.dic dd, M.lst (nats v)]))) := by
            refine tuple_lst ?_
            rw [← hcat, ap_get0]; rfl
          rw [hcat] at hso
          refine ⟨rfl, _, rfl, _, _, .inl ?_, J ++ [M.dic dd, M.lst (nats v)], some (nd n), some (.obj (S.length + 1 + J.length)), y4, y5, rfl, rfl⟩
          simp only [bindG_one, List.set_cons_succ, List.set_cons_zero]
          simp only [execs_cons, execs_nil, exec_ite, evT_val, ev_cmp, ev_ix, ev_v, ev_k, List.getElem?_cons_zero, List.getElem?_cons_succ, R.bind_ok, ix_nd0, cmp_eq_str, htag, truthy_bl, R.of_some, R.st_ok, exec_asg, ev_dict, bindG_one, List.set_cons_succ, List.set_cons_zero, RS.seq_nx, exec_for, evI_seq, ev_call, evs_cons, evs_nil, hq]
          simp only [Bool.false_eq_true, if_false, harg, R.bind_ok, seqSrc_tup, R.of_some, R.st_ok, hy, RS.seq_nx, execs_cons, execs_nil, exec_expr, ev_bm, ev_v, ev_blt, evs_cons, evs_nil, List.getElem?_cons_zero, List.getElem?_cons_succ, h1, if_true, hso, htu, h2]) (fun _ _ _ => rfl) (ρ := [some (.obj P), some (.obj S.length), none, none, none, none]) (S := S ++ [.lst []]) ⟨[], none, none, none, none, rfl, by simp⟩
  subst hρ hJ
  rw [List.length_map, ← h.len, List.take_length] at hfor
  have hf1 := (fld0_at (S := S ++ [.lst []]) (P := P) (by rw [List.getElem?_append_left hPl]; exact hP)).2.1
  have htu : bltD .tuple [.obj S.length] (S ++ (.lst (us.map utup) :: J)) = .ok (.tup (us.map utup)) (S ++ (.lst (us.map utup) :: J)) := tuple_lst (by simp)
  have hlo : (D.tup (us.map utup)).lo S.length = true := los_map utup _ (fun q => lo_utup _ q) _
  simp [hf1, hfor, htu, hlo, gc_app hS]
end Z
end

section
set_option Elab.async false
set_option linter.all false
set_option maxRecDepth 100000
/-! RA: the numbers as rationals; stretches are sound. -/
namespace Z
def rv (q : Qq) : Rat := (q.1 : Rat) / (q.2 : Rat)
theorem rc_ne {b : Int} (h : b ≠ 0) : (b : Rat) ≠ 0 := by
  intro e; exact h (by exact_mod_cast e)
theorem rc_pos {b : Int} (h : 0 < b) : (0 : Rat) < (b : Rat) := Rat.intCast_pos.mpr h
theorem rv_mul {q : Qq} (h : 0 < q.2) : rv q * (q.2 : Rat) = (q.1 : Rat) := Rat.div_mul_cancel (rc_ne (by omega))
theorem div_eq_iff' {a b c d : Int} (hb : b ≠ 0) (hd : d ≠ 0) : (a : Rat) / (b : Rat) = (c : Rat) / (d : Rat) ↔ a * d = c * b := by
  rw [← Rat.divInt_eq_div, ← Rat.divInt_eq_div]; exact Rat.divInt_eq_divInt_iff hb hd
theorem rv_nrm {t b : Int} (h : b ≠ 0) : rv (nrm t b) = (t : Rat) / (b : Rat) := by
  unfold rv
  have hp := nrm_pos (t := t) h
  rw [div_eq_iff' (by omega) h]
  have h1 := nrm_l (t := t) h
  have h2 := nrm_r (t := t) h
  generalize nrm t b = q at *
  generalize sgc t b = c at *
  rw [← h1, ← h2]
  simp only [Int.mul_assoc, Int.mul_comm, Int.mul_left_comm]
theorem rv_add {x y : Qq} (hx : 0 < x.2) (hy : 0 < y.2) : rv (qadd x y) = rv x + rv y := by
  unfold qadd
  rw [rv_nrm (Int.mul_ne_zero (by omega) (by omega))]
  unfold rv
  rw [← Rat.divInt_eq_div, ← Rat.divInt_eq_div, ← Rat.divInt_eq_div, Rat.divInt_add_divInt _ _ (by omega) (by omega)]
theorem rv_sub {x y : Qq} (hx : 0 < x.2) (hy : 0 < y.2) : rv (qsub x y) = rv x - rv y := by
  unfold qsub
  rw [rv_nrm (Int.mul_ne_zero (by omega) (by omega))]
  unfold rv
  rw [← Rat.divInt_eq_div, ← Rat.divInt_eq_div, ← Rat.divInt_eq_div, Rat.divInt_sub_divInt _ _ (by omega) (by omega)]
theorem rv_qmul {x y : Qq} (hx : 0 < x.2) (hy : 0 < y.2) : rv (qmul x y) = rv x * rv y := by
  unfold qmul
  rw [rv_nrm (Int.mul_ne_zero (by omega) (by omega))]
  unfold rv
  rw [← Rat.divInt_eq_div, ← Rat.divInt_eq_div, ← Rat.divInt_eq_div, Rat.divInt_mul_divInt]
theorem rv_div {x y : Qq} (hx : 0 < x.2) (hy : 0 < y.2) (h0 : y.1 ≠ 0) : rv (qdiv x y) = rv x * (rv y)⁻¹ := by
  unfold qdiv
  rw [rv_nrm (Int.mul_ne_zero (by omega) h0)]
  unfold rv
  have e : ((y.1 : Rat) / (y.2 : Rat))⁻¹ = (y.2 : Rat) / (y.1 : Rat) := by
    rw [Rat.div_def, Rat.inv_mul_rev, Rat.inv_inv, Rat.div_def]
  rw [e, ← Rat.divInt_eq_div, ← Rat.divInt_eq_div, ← Rat.divInt_eq_div, Rat.divInt_mul_divInt]
theorem rv_neg (x : Qq) : rv (qneg x) = - rv x := by
  unfold qneg rv
  rw [← Rat.divInt_eq_div, ← Rat.divInt_eq_div, Rat.neg_divInt]
theorem rv_le {x y : Qq} (hx : 0 < x.2) (hy : 0 < y.2) : qle x y ↔ rv x ≤ rv y := by
  have h1 := rv_mul hx
  have h2 := rv_mul hy
  have p1 := rc_pos hx
  have p2 := rc_pos hy
  have p3 := Rat.mul_pos p1 p2
  have e : qle x y ↔ (x.1 : Rat) * (y.2 : Rat) ≤ (y.1 : Rat) * (x.2 : Rat) := by
    unfold qle
    rw [← Rat.intCast_mul, ← Rat.intCast_mul, Rat.intCast_le_intCast]
  rw [e, ← h1, ← h2]
  have e1 : rv x * (x.2 : Rat) * (y.2 : Rat) = rv x * ((x.2 : Rat) * (y.2 : Rat)) := by grind
  have e2 : rv y * (y.2 : Rat) * (x.2 : Rat) = rv y * ((x.2 : Rat) * (y.2 : Rat)) := by grind
  rw [e1, e2]
  exact ⟨fun h => Rat.le_of_mul_le_mul_right h p3, fun h => Rat.mul_le_mul_of_nonneg_right h (Rat.le_of_lt p3)⟩
theorem rv_inj {x y : Qq} (hx : 0 < x.2) (hy : 0 < y.2) (lx : Low x) (ly : Low y) (h : rv x = rv y) : x = y := by
  refine low_uniq lx ly hx hy ?_
  unfold rv at h
  exact (div_eq_iff' (by omega) (by omega)).mp h
theorem rv_min {x y : Qq} (hx : 0 < x.2) (hy : 0 < y.2) : rv (qmin x y) = min (rv x) (rv y) := by
  unfold qmin
  by_cases h : qle x y
  · rw [if_pos h]; rw [rv_le hx hy] at h; grind
  · rw [if_neg h]; rw [rv_le hx hy] at h; grind
theorem rv_max {x y : Qq} (hx : 0 < x.2) (hy : 0 < y.2) : rv (qmax x y) = max (rv x) (rv y) := by
  unfold qmax
  by_cases h : qle y x
  · rw [if_pos h]; rw [rv_le hy hx] at h; grind
  · rw [if_neg h]; rw [rv_le hy hx] at h; grind
theorem rv_pow (x : Qq) (h : 0 < x.2) (n : Nat) : rv (qpow x n) = rv x ^ n := by
  unfold qpow rv
  have hb : (x.2 : Rat) ≠ 0 := rc_ne (by omega)
  induction n with
  | zero => simp; decide +kernel
  | succ n ih =>
    rw [Rat.pow_succ, ← ih]
    dsimp only
    rw [Int.pow_succ, Int.pow_succ]
    rw [← Rat.divInt_eq_div, ← Rat.divInt_eq_div, ← Rat.divInt_eq_div, Rat.divInt_mul_divInt]
theorem rv_abs (x : Qq) (h : 0 < x.2) : rv (qabs x) = if 0 ≤ rv x then rv x else - rv x := by
  have hs : 0 ≤ x.1 ↔ 0 ≤ rv x := by
    have := rv_le (x := (0, 1)) (y := x) (by decide) h
    unfold qle at this
    have e : rv (0, 1) = 0 := by decide +kernel
    rw [e] at this
    rw [← this]; simp
  by_cases h0 : 0 ≤ x.1
  · rw [if_pos (hs.mp h0)]
    unfold qabs
    have : ((x.1.natAbs : Nat) : Int) = x.1 := by omega
    rw [this]
  · rw [if_neg (fun q => h0 (hs.mpr q)), ← rv_neg]
    unfold qabs qneg
    have : ((x.1.natAbs : Nat) : Int) = -x.1 := by omega
    rw [this]
theorem rv_sgn {x : Qq} (h : 0 < x.2) : (0 ≤ x.1 ↔ 0 ≤ rv x) ∧ (x.1 ≤ 0 ↔ rv x ≤ 0) := by
  have e : rv (0, 1) = 0 := by decide +kernel
  have h1 := rv_le (x := (0, 1)) (y := x) (by decide) h
  have h2 := rv_le (x := x) (y := (0, 1)) h (by decide)
  unfold qle at h1 h2
  rw [e] at h1 h2
  exact ⟨by rw [← h1]; simp, by rw [← h2]; simp⟩
/-! ### in a stretch -/
structure PI (v : Iv) : Prop where
  l : 0 < v.1.2
  h : 0 < v.2.2
def Inn (q : Qq) (v : Iv) : Prop := rv v.1 ≤ rv q ∧ rv q ≤ rv v.2
theorem nrm_p {t b : Int} (h : b ≠ 0) : 0 < (nrm t b).2 := nrm_pos h
theorem qadd_p {x y : Qq} (hx : 0 < x.2) (hy : 0 < y.2) : 0 < (qadd x y).2 := nrm_pos (Int.mul_ne_zero (by omega) (by omega))
theorem qsub_p {x y : Qq} (hx : 0 < x.2) (hy : 0 < y.2) : 0 < (qsub x y).2 := nrm_pos (Int.mul_ne_zero (by omega) (by omega))
theorem qmul_p {x y : Qq} (hx : 0 < x.2) (hy : 0 < y.2) : 0 < (qmul x y).2 := nrm_pos (Int.mul_ne_zero (by omega) (by omega))
theorem qdiv_p {x y : Qq} (hx : 0 < x.2) (h0 : y.1 ≠ 0) : 0 < (qdiv x y).2 := nrm_pos (Int.mul_ne_zero (by omega) h0)
theorem qmin_p {x y : Qq} (hx : 0 < x.2) (hy : 0 < y.2) : 0 < (qmin x y).2 := by unfold qmin; split <;> assumption
theorem qmax_p {x y : Qq} (hx : 0 < x.2) (hy : 0 < y.2) : 0 < (qmax x y).2 := by unfold qmax; split <;> assumption
theorem in_add {x y : Qq} {v w : Iv} (hx : 0 < x.2) (hy : 0 < y.2) (pv : PI v) (pw : PI w) (h : Inn x v) (g : Inn y w) : Inn (qadd x y) (iadd v w) := by
  unfold Inn iadd at *
  rw [rv_add hx hy, rv_add pv.l pw.l, rv_add pv.h pw.h]
  grind
theorem in_sub {x y : Qq} {v w : Iv} (hx : 0 < x.2) (hy : 0 < y.2) (pv : PI v) (pw : PI w) (h : Inn x v) (g : Inn y w) : Inn (qsub x y) (isub v w) := by
  unfold Inn isub at *
  rw [rv_sub hx hy, rv_sub pv.l pw.h, rv_sub pv.h pw.l]
  grind
theorem mul_bd {a b x y : Rat} (h1 : a ≤ x) (h2 : x ≤ b) : min (a * y) (b * y) ≤ x * y ∧ x * y ≤ max (a * y) (b * y) := by
  by_cases hy : 0 ≤ y
  · have := Rat.mul_le_mul_of_nonneg_right h1 hy
    have := Rat.mul_le_mul_of_nonneg_right h2 hy
    grind
  · have hy' : 0 ≤ -y := by grind
    have := Rat.mul_le_mul_of_nonneg_right h1 hy'
    have := Rat.mul_le_mul_of_nonneg_right h2 hy'
    rw [Rat.mul_neg, Rat.mul_neg] at *
    grind
theorem mul_bd2 {a b c d x y : Rat} (h1 : a ≤ x) (h2 : x ≤ b) (h3 : c ≤ y) (h4 : y ≤ d) : min (min (min (a * c) (a * d)) (b * c)) (b * d) ≤ x * y ∧ x * y ≤ max (max (max (a * c) (a * d)) (b * c)) (b * d) := by
  have p := mul_bd (y := y) h1 h2
  have q := mul_bd (y := a) h3 h4
  have r := mul_bd (y := b) h3 h4
  rw [Rat.mul_comm c a, Rat.mul_comm d a, Rat.mul_comm y a] at q
  rw [Rat.mul_comm c b, Rat.mul_comm d b, Rat.mul_comm y b] at r
  grind
theorem in_mul {x y : Qq} {v w : Iv} (hx : 0 < x.2) (hy : 0 < y.2) (pv : PI v) (pw : PI w) (h : Inn x v) (g : Inn y w) : Inn (qmul x y) (imul v w) := by
  have m1 := qmul_p pv.l pw.l
  have m2 := qmul_p pv.l pw.h
  have m3 := qmul_p pv.h pw.l
  have m4 := qmul_p pv.h pw.h
  unfold Inn imul at *
  rw [rv_qmul hx hy]
  by_cases hs : 0 ≤ v.1.1 ∧ 0 ≤ w.1.1
  · rw [if_pos hs]
    rw [rv_qmul pv.l pw.l, rv_qmul pv.h pw.h]
    have s1 := (rv_sgn pv.l).1.mp hs.1
    have s2 := (rv_sgn pw.l).1.mp hs.2
    have a1 := Rat.mul_le_mul_of_nonneg_right h.1 s2
    have a2 := Rat.mul_le_mul_of_nonneg_left g.1 (show 0 ≤ rv x by grind)
    have a3 := Rat.mul_le_mul_of_nonneg_right h.2 (show 0 ≤ rv y by grind)
    have a4 := Rat.mul_le_mul_of_nonneg_left g.2 (show 0 ≤ rv v.2 by grind)
    grind
  · rw [if_neg hs]
    dsimp only
    rw [rv_min (qmin_p (qmin_p m1 m2) m3) m4, rv_min (qmin_p m1 m2) m3, rv_min m1 m2, rv_max (qmax_p (qmax_p m1 m2) m3) m4, rv_max (qmax_p m1 m2) m3, rv_max m1 m2]
    rw [rv_qmul pv.l pw.l, rv_qmul pv.l pw.h, rv_qmul pv.h pw.l, rv_qmul pv.h pw.h]
    exact mul_bd2 h.1 h.2 g.1 g.2
theorem in_neg {x : Qq} {v : Iv} (h : Inn x v) : Inn (qneg x) (ineg v) := by
  unfold Inn ineg at *
  rw [rv_neg, rv_neg, rv_neg]
  grind
theorem in_max {x y : Qq} {v w : Iv} (hx : 0 < x.2) (hy : 0 < y.2) (pv : PI v) (pw : PI w) (h : Inn x v) (g : Inn y w) : Inn (qmax x y) (imax v w) := by
  unfold Inn imax at *
  rw [rv_max hx hy, rv_max pv.l pw.l, rv_max pv.h pw.h]
  grind
theorem in_min {x y : Qq} {v w : Iv} (hx : 0 < x.2) (hy : 0 < y.2) (pv : PI v) (pw : PI w) (h : Inn x v) (g : Inn y w) : Inn (qmin x y) (imin v w) := by
  unfold Inn imin at *
  rw [rv_min hx hy, rv_min pv.l pw.l, rv_min pv.h pw.h]
  grind
theorem in_abs {x : Qq} {v : Iv} (hx : 0 < x.2) (pv : PI v) (h : Inn x v) : Inn (qabs x) (iabs v) := by
  unfold iabs
  have s1 := (rv_sgn pv.l).1
  have s2 := (rv_sgn pv.h).2
  by_cases h0 : 0 ≤ v.1.1
  · rw [if_pos h0]
    have := s1.mp h0
    unfold Inn at *
    rw [rv_abs x hx]
    grind
  · rw [if_neg h0]
    by_cases h1 : v.2.1 ≤ 0
    · rw [if_pos h1]
      have := s2.mp h1
      unfold Inn ineg at *
      rw [rv_abs x hx, rv_neg, rv_neg]
      grind
    · rw [if_neg h1]
      unfold Inn at *
      dsimp only
      rw [rv_abs x hx, rv_max (show 0 < (qneg v.1).2 from pv.l) pv.h, rv_neg]
      have e : rv (0, 1) = 0 := by decide +kernel
      rw [e]
      grind
theorem pow_mono {x y : Rat} (h0 : 0 ≤ x) (h : x ≤ y) : ∀ n : Nat, x ^ n ≤ y ^ n
  | 0 => by simp
  | n + 1 => by
    rw [Rat.pow_succ, Rat.pow_succ]
    have h1 := pow_mono h0 h n
    have h2 := Rat.pow_nonneg (n := n) h0
    have a1 := Rat.mul_le_mul_of_nonneg_right h1 h0
    have a2 := Rat.mul_le_mul_of_nonneg_left h (show 0 ≤ y ^ n by grind)
    grind
theorem pow_par (x : Rat) : ∀ n : Nat, ((-x) ^ (2 * n) = x ^ (2 * n)) ∧ ((-x) ^ (2 * n + 1) = - x ^ (2 * n + 1))
  | 0 => by simp [Rat.pow_succ]
  | n + 1 => by
    obtain ⟨h1, h2⟩ := pow_par x n
    have e : 2 * (n + 1) = 2 * n + 1 + 1 := by omega
    have h3 : (-x) ^ (2 * (n + 1)) = x ^ (2 * (n + 1)) := by
      rw [e, Rat.pow_succ, h2, Rat.pow_succ x (2 * n + 1)]; grind
    refine ⟨h3, ?_⟩
    rw [Rat.pow_succ, h3, Rat.pow_succ]; grind
theorem pow_odd {x y : Rat} (h : x ≤ y) (n : Nat) (hn : n % 2 = 1) : x ^ n ≤ y ^ n := by
  obtain ⟨m, rfl⟩ : ∃ m, n = 2 * m + 1 := ⟨n / 2, by omega⟩
  by_cases hx : 0 ≤ x
  · exact pow_mono hx h _
  · have e1 := (pow_par x m).2
    by_cases hy : 0 ≤ y
    · have a1 := Rat.pow_nonneg (n := 2 * m + 1) hy
      have a2 := Rat.pow_nonneg (n := 2 * m + 1) (show 0 ≤ -x by grind)
      grind
    · have e2 := (pow_par y m).2
      have a := pow_mono (x := -y) (y := -x) (by grind) (by grind) (2 * m + 1)
      grind
theorem in_pow {x : Qq} {v : Iv} (hx : 0 < x.2) (pv : PI v) (h : Inn x v) (c : Nat) (hc : 1 ≤ c) : Inn (qpow x c) (ipow v c) := by
  unfold ipow
  have s1 := (rv_sgn pv.l).1
  have s2 := (rv_sgn pv.h).2
  unfold Inn at h
  by_cases h0 : c % 2 = 1 ∨ 0 ≤ v.1.1
  · rw [if_pos h0]
    unfold Inn
    rw [rv_pow x hx, rv_pow _ pv.l, rv_pow _ pv.h]
    rcases h0 with h0 | h0
    · exact ⟨pow_odd h.1 c h0, pow_odd h.2 c h0⟩
    · have := s1.mp h0
      exact ⟨pow_mono this h.1 c, pow_mono (by grind) h.2 c⟩
  · rw [if_neg h0]
    have hev : c % 2 = 0 := by omega
    obtain ⟨m, rfl⟩ : ∃ m, c = 2 * m := ⟨c / 2, by omega⟩
    have e := fun z => (pow_par z m).1
    by_cases h1 : v.2.1 ≤ 0
    · rw [if_pos h1]
      have := s2.mp h1
      unfold Inn
      rw [rv_pow x hx, rv_pow _ pv.l, rv_pow _ pv.h, ← e (rv x), ← e (rv v.1), ← e (rv v.2)]
      exact ⟨pow_mono (by grind) (by grind) _, pow_mono (by grind) (by grind) _⟩
    · rw [if_neg h1, if_neg (by omega)]
      unfold Inn
      dsimp only
      have q1 : 0 < (qpow v.1 (2 * m)).2 := Int.pow_pos pv.l
      have q2 : 0 < (qpow v.2 (2 * m)).2 := Int.pow_pos pv.h
      rw [rv_max q1 q2, rv_pow x hx, rv_pow _ pv.l, rv_pow _ pv.h]
      have e0 : rv (0, 1) = 0 := by decide +kernel
      rw [e0]
      by_cases hx0 : 0 ≤ rv x
      · have a := pow_mono hx0 h.2 (2 * m)
        have b := Rat.pow_nonneg (n := 2 * m) hx0
        grind
      · have a := pow_mono (x := - rv x) (y := - rv v.1) (by grind) (by grind) (2 * m)
        have b := Rat.pow_nonneg (n := 2 * m) (show 0 ≤ - rv x by grind)
        rw [e, e] at a
        rw [e] at b
        grind
/-- the inverse of a stretch without zero -/
theorem in_inv {y : Qq} {w : Iv} (hy : 0 < y.2) (pw : PI w) (g : Inn y w) (hz : 0 < w.1.1 ∨ w.2.1 < 0) (h0 : y.1 ≠ 0) (h1 : w.1.1 ≠ 0) (h2 : w.2.1 ≠ 0) : Inn (qdiv (1, 1) y) (qdiv (1, 1) w.2, qdiv (1, 1) w.1) := by
  unfold Inn at *
  have e : rv (1, 1) = 1 := by decide +kernel
  dsimp only
  rw [rv_div (by decide) hy h0, rv_div (by decide) pw.h h2, rv_div (by decide) pw.l h1, e, Rat.one_mul, Rat.one_mul, Rat.one_mul]
  have inv_le : ∀ a b : Rat, 0 < a → a ≤ b → b⁻¹ ≤ a⁻¹ := by
    intro a b ha hab
    have hb : 0 < b := by grind
    have ia := Rat.inv_pos.mpr ha
    have ib := Rat.inv_pos.mpr hb
    have h1 := Rat.mul_le_mul_of_nonneg_right hab (Rat.le_of_lt (Rat.mul_pos ia ib))
    have e1 : a * (a⁻¹ * b⁻¹) = b⁻¹ := by
      rw [← Rat.mul_assoc, Rat.mul_inv_cancel a (by grind), Rat.one_mul]
    have e2 : b * (a⁻¹ * b⁻¹) = a⁻¹ := by
      rw [Rat.mul_comm a⁻¹, ← Rat.mul_assoc, Rat.mul_inv_cancel b (by grind), Rat.one_mul]
    rw [e1, e2] at h1
    exact h1
  have s1 := rv_sgn pw.l
  have s2 := rv_sgn pw.h
  rcases hz with hz | hz
  · have p1 : 0 < rv w.1 := by
      have := s1.2
      have h3 : ¬ w.1.1 ≤ 0 := by omega
      grind
    exact ⟨inv_le _ _ (by grind) g.2, inv_le _ _ p1 g.1⟩
  · have p1 : rv w.2 < 0 := by
      have := s2.1
      have h3 : ¬ 0 ≤ w.2.1 := by omega
      grind
    have ineg : ∀ a : Rat, a < 0 → (-a)⁻¹ = -(a⁻¹) := by
      intro a ha
      refine Rat.inv_eq_of_mul_eq_one ?_
      have := Rat.mul_inv_cancel a (by grind)
      grind
    have a1 := inv_le (- rv w.2) (- rv y) (by grind) (by grind)
    have a2 := inv_le (- rv y) (- rv w.1) (by grind) (by grind)
    rw [ineg _ (by grind), ineg _ (by grind)] at a1 a2
    grind
theorem in_div {x y : Qq} {v w : Iv} (hx : 0 < x.2) (hy : 0 < y.2) (pv : PI v) (pw : PI w) (h : Inn x v) (g : Inn y w) (hz : 0 < w.1.1 ∨ w.2.1 < 0) (h0 : y.1 ≠ 0) (h1 : w.1.1 ≠ 0) (h2 : w.2.1 ≠ 0) : Inn (qdiv x y) (idiv v w) := by
  have hi := in_inv hy pw g hz h0 h1 h2
  have hm := in_mul hx (qdiv_p (x := (1, 1)) (by decide) h0) pv ⟨qdiv_p (by decide) h2, qdiv_p (by decide) h1⟩ h hi
  unfold idiv
  unfold Inn at *
  have e : rv (qdiv x y) = rv (qmul x (qdiv (1, 1) y)) := by
    have e1 : rv (1, 1) = 1 := by decide +kernel
    rw [rv_div hx hy h0, rv_qmul hx (qdiv_p (by decide) h0), rv_div (by decide) hy h0, e1, Rat.one_mul]
  rw [e]
  exact hm
end Z
end

section
set_option Elab.async false
set_option linter.all false
set_option maxRecDepth 100000
/-! NA: the law's letters. -/
namespace Z
open PySem
def nmS : Nat → Str
  | 0 => "x" | 1 => "y2" | 2 => "long0name1z" | _ => "a"
def namesL : List D := [.str "x", .str "y2", .str "long0name1z", .str "a"]
theorem nm_inj : ∀ i, i < 4 → ∀ j, j < 4 → nmS i = nmS j → i = j := by
  intro i hi j hj
  match i, hi, j, hj with
  | 0, _, 0, _ => intro _; rfl
  | 1, _, 1, _ => intro _; rfl
  | 2, _, 2, _ => intro _; rfl
  | 3, _, 3, _ => intro _; rfl
  | 0, _, 1, _ => intro h; exact absurd h (by decide)
  | 0, _, 2, _ => intro h; exact absurd h (by decide)
  | 0, _, 3, _ => intro h; exact absurd h (by decide)
  | 1, _, 0, _ => intro h; exact absurd h (by decide)
  | 1, _, 2, _ => intro h; exact absurd h (by decide)
  | 1, _, 3, _ => intro h; exact absurd h (by decide)
  | 2, _, 0, _ => intro h; exact absurd h (by decide)
  | 2, _, 1, _ => intro h; exact absurd h (by decide)
  | 2, _, 3, _ => intro h; exact absurd h (by decide)
  | 3, _, 0, _ => intro h; exact absurd h (by decide)
  | 3, _, 1, _ => intro h; exact absurd h (by decide)
  | 3, _, 2, _ => intro h; exact absurd h (by decide)
theorem nm_named (i : Nat) : Named (nmS i) := by
  match i with
  | 0 => exact nm_x
  | 1 => exact nm_y
  | 2 => exact nm_l
  | n + 3 => exact nm_a
/-- a row as the law makes it -/
def RGood (r : Row) : Prop := ∃ (lo : Int) (w b : Nat), -12 ≤ lo ∧ lo ≤ 12 ∧ w ≤ 12 ∧ 1 ≤ b ∧ b ≤ 4 ∧ (r.whole = true → b = 1) ∧ r.v = (nrm lo (b : Int), nrm (lo + w) (b : Int))
theorem sm5 {i : Int} (h : -31 ≤ i) (g : i ≤ 31) : Sm 5 i := by unfold Sm; have : (2:Nat)^5 = 32 := by decide
                                                                omega
theorem RGood.z {r : Row} (h : RGood r) : InI 5 r.v := by
  obtain ⟨lo, w, b, h1, h2, h3, h4, h5, h6, h7⟩ := h
  rw [h7]
  exact ⟨nrm_in (by omega) (sm5 (by omega) (by omega)) (sm5 (by omega) (by omega)), nrm_in (by omega) (sm5 (by omega) (by omega)) (sm5 (by omega) (by omega))⟩
theorem RGood.low {r : Row} (h : RGood r) : Low r.v.1 ∧ Low r.v.2 := by
  obtain ⟨lo, w, b, h1, h2, h3, h4, h5, h6, h7⟩ := h
  rw [h7]
  exact ⟨nrm_low (by omega), nrm_low (by omega)⟩
theorem short_of {q : Qq} (h : In 15 q) : Short q := by
  have h1 := h.t
  have h2 := h.b
  have h3 := h.p
  unfold Sm at h1 h2
  have : (2:Nat)^15 = 32768 := by decide
  refine ⟨by omega, by omega⟩
theorem RGood.le {r : Row} (h : RGood r) : rv r.v.1 ≤ rv r.v.2 := by
  obtain ⟨lo, w, b, h1, h2, h3, h4, h5, h6, h7⟩ := h
  rw [h7]
  dsimp only
  rw [rv_nrm (by omega), rv_nrm (by omega)]
  have hb : (0 : Rat) < ((b : Int) : Rat) := rc_pos (by omega)
  rw [Rat.div_def, Rat.div_def]
  refine Rat.mul_le_mul_of_nonneg_right ?_ (Rat.le_of_lt (Rat.inv_pos.mpr hb))
  rw [Rat.intCast_le_intCast]; omega
theorem RGood.wh {r : Row} (h : RGood r) : r.whole = true → r.v.1.2 = 1 ∧ r.v.2.2 = 1 := by
  obtain ⟨lo, w, b, h1, h2, h3, h4, h5, h6, h7⟩ := h
  intro hw
  have := h6 hw
  subst this
  rw [h7]
  dsimp only
  rw [show ((1 : Nat) : Int) = 1 from rfl, nrm_one, nrm_one]
  exact ⟨rfl, rfl⟩
def lets (names : Nat) (rows : List Row) : Prop := ∀ (j : Nat) (r : Row), rows[j]? = some r → r.name = nmS (names + j) ∧ RGood r
theorem pu_kinds (l : List Str) : Pu [.lst (l.map .str)] := pu_lst D.str (fun _ => rfl) l
theorem s_letters (J : Jar) (hJ : J.Ok 0) (k : Nat) : ∃ (J' : Jar) (start : Nat) (rows : List Row) (K : Store), J'.Ok 20 ∧ start < 2 ∧ 1 ≤ rows.length ∧ rows.length ≤ 3 ∧ lets start rows ∧ Pu K ∧ callK pdat.p (k + 2) 51 [.obj 3] J.st = .ok (.obj 5) (J'.st ++ (.lst namesL :: .lst (rows.map rowD) :: K)) := by
  obtain ⟨start, J1, hs2, hJ1, _, e1⟩ := s_draw hJ (by decide) 2 (by decide) (by decide) [.lst namesL] k
  obtain ⟨m, J2, hm, hJ2, _, e2⟩ := s_draw hJ1 (by decide) 3 (by decide) (by decide) [.lst namesL, .lst []] k
  have e1 : callK pdat.p (k + 1) 47 [.obj 3, .int 2] (J.st ++ [.lst namesL]) = _ := e1
  have e2 : callK pdat.p (k + 1) 47 [.obj 3, .int 3] (J1.st ++ [.lst namesL, .lst []]) = _ := e2
  obtain ⟨ρ', S', hfor, J3, rows, K, u4, u5, u6, u7, u8, hρ, hS, hlen, hgood, hK, hJ3⟩ := forL_inv (src := ⟨none, rng 0 (1 + m)⟩) (g := .one 4) (b := execs pdat.p (callK pdat.p (k + 1)) (.cons (.asg (.g (.one 5)) (.ix (.lst (.cons (.k (.str "real")) (.cons (.k (.str "real")) (.cons (.k (.str "whole")) .nil)))) (.call 47 (.cons (.v 0) (.cons (.k (.int (3))) .nil))))) 
   (.cons (.asg (.g (.one 6)) (.k (.int (1)))) 
   (.cons (.asg (.g (.one 7)) (.call 47 (.cons (.v 0) (.cons (.k (.int (13))) .nil)))) 
   (.cons (.ite (.val (.cmp .Eq (.v 5) (.k (.str "real")))) 
    (.cons (.asg (.g (.one 6)) (.bin .Add (.k (.int (1))) (.call 47 (.cons (.v 0) (.cons (.k (.int (4))) .nil))))) .nil) .nil) 
   (.cons (.asg (.g (.one 8)) (.bin .Sub (.call 47 (.cons (.v 0) (.cons (.k (.int (25))) .nil))) (.k (.int (12))))) 
   (.cons (.expr (.bm (.v 3) .append (.cons (.tup (.cons (.ix (.v 1) (.bin .Add (.v 2) (.v 4))) (.cons (.v 5) (.cons (.call 48 (.cons (.v 8) (.cons (.v 6) .nil))) (.cons (.call 48 (.cons (.bin .Add (.v 8) (.v 7)) (.cons (.v 6) .nil))) .nil))))) .nil))) .nil)))))))
    (fun i ρ T => ∃ J rows K u4 u5 u6 u7 u8, ρ = [some (.obj 3), some (.obj 4), some (.int (start : Nat)), some (.obj 5), u4, u5, u6, u7, u8] ∧ T = J.st ++ (.lst namesL :: .lst (rows.map rowD) :: K) ∧ rows.length = i ∧ lets start rows ∧ Pu K ∧ J.Ok (2 + 4 * i)) (rng 0 (1 + m)) (fun i d ρ T hd ⟨J, rows, K, u4, u5, u6, u7, u8, hρ, hT, hlen, hgood, hK, hJ⟩ => by
      obtain ⟨hi, rfl⟩ := rng_get hd
      subst hρ hT
      have hk3 : Pu [.lst [D.str "real", .str "real", .str "whole"]] := pu_kinds ["real", "real", "whole"]
      have hq : (J.st ++ (M.lst namesL :: .lst (rows.map rowD) :: K)).length = 6 + K.length := by rw [List.length_append, jst_len]; simp; omega
      obtain ⟨d1, Ja, hd1, hJa, _, ea⟩ := s_draw hJ (by omega) 3 (by decide) (by decide) (.lst namesL :: .lst (rows.map rowD) :: (K ++ [.lst [D.str "real", .str "real", .str "whole"]])) k
      obtain ⟨w, Jb, hw, hJb, _, eb⟩ := s_draw hJa (by omega) 13 (by decide) (by decide) (.lst namesL :: .lst (rows.map rowD) :: (K ++ [.lst [D.str "real", .str "real", .str "whole"]])) k
      have ea : callK pdat.p (k + 1) 47 [.obj 3, .int 3] _ = _ := ea
      have eb : callK pdat.p (k + 1) 47 [.obj 3, .int 13] _ = _ := eb
      have hcat : J.st ++ (M.lst namesL :: .lst (rows.map rowD) :: K) ++ [.lst [D.str "real", .str "real", .str "whole"]] = J.st ++ (M.lst namesL :: .lst (rows.map rowD) :: (K ++ [.lst [D.str "real", .str "real", .str "whole"]])) := by simp
      have hgk : ∀ J' : Jar, (J'.st ++ (M.lst namesL :: .lst (rows.map rowD) :: (K ++ [.lst [D.str "real", .str "real", .str "whole"]])))[6 + K.length]? = some (.lst [D.str "real", .str "real", .str "whole"]) := fun J' => by
        have e : 6 + K.length = J'.st.length + (2 + K.length) := by rw [jst_len]; omega
        rw [e, ap_get]
        have e2 : 2 + K.length = K.length + 1 + 1 := by omega
        rw [e2, List.getElem?_cons_succ, List.getElem?_cons_succ, ap_get0]; rfl
      have hg4 : ∀ (J' : Jar) X, (J'.st ++ (M.lst namesL :: X))[4]? = some (.lst namesL) := fun J' X => by
        have := ap_get0 J'.st (M.lst namesL :: X); rw [jst_len] at this; exact this
      have hg5 : ∀ (J' : Jar) x X, (J'.st ++ (M.lst namesL :: x :: X))[5]? = some x := fun J' x X => by
        have := ap_get J'.st (M.lst namesL :: x :: X) 1; rw [jst_len] at this; exact this
      have hs5 : ∀ (J' : Jar) x y X, (J'.st ++ (M.lst namesL :: x :: X)).set 5 y = J'.st ++ (M.lst namesL :: y :: X) := fun J' x y X => by
        have := ap_set J'.st (M.lst namesL :: x :: X) 1 y; rw [jst_len] at this; exact this
      have hname : ∀ (J' : Jar) X, ixD (.obj 4) (.int ((start : Nat) + (i : Nat) : Int)) (J'.st ++ (M.lst namesL :: X)) = .ok (.str (nmS (start + i))) (J'.st ++ (M.lst namesL :: X)) := fun J' X => by
        rw [ixD_lst _ (hg4 J' X)]
        have e : ((start : Nat) + (i : Nat) : Int) = ((start + i : Nat) : Int) := by omega
        rw [e, atI_nat]
        have : start + i < 4 := by omega
        match start + i, this with
        | 0, _ => rfl
        | 1, _ => rfl
        | 2, _ => rfl
        | 3, _ => rfl
      have happ : ∀ (J' : Jar) X (r : Row), bmD .append (.obj 5) [rowD r] (J'.st ++ (M.lst namesL :: .lst (rows.map rowD) :: X)) = .ok .non (J'.st ++ (M.lst namesL :: .lst ((rows ++ [r]).map rowD) :: X)) := fun J' X r => by
        rw [append_ok (hg5 J' _ X) (by rw [List.length_map]; exact ln _ (by omega)), hs5]; simp
      have hbt : ∀ (J' : Jar) X, bmT .append (.obj 5) (J'.st ++ (M.lst namesL :: .lst (rows.map rowD) :: X)) = true := fun J' X => bmT_app (hg5 J' _ X)
      have hlets : ∀ r : Row, r.name = nmS (start + i) → RGood r → lets start (rows ++ [r]) := fun r h1 h2 j q hq => by
        by_cases hj : j < rows.length
        · rw [List.getElem?_append_left hj] at hq; exact hgood j q hq
        · rw [List.getElem?_append_right (by omega)] at hq
          have : j = rows.length := by
            have := (List.getElem?_eq_some_iff.mp hq).1
            simp at this; omega
          subst this
          simp at hq; subst hq
          rw [hlen]; exact ⟨h1, h2⟩
      by_cases h2 : d1 = 2
      · subst h2
        obtain ⟨l, Jc, hl, hJc, _, ec⟩ := s_draw hJb (by omega) 25 (by decide) (by decide) (.lst namesL :: .lst (rows.map rowD) :: (K ++ [.lst [D.str "real", .str "real", .str "whole"]])) k
        have ec : callK pdat.p (k + 1) 47 [.obj 3, .int 25] _ = _ := ec
        have hg : RGood ⟨nmS (start + i), true, (nrm ((l : Int) - 12) 1, nrm ((l : Int) - 12 + w) 1)⟩ := ⟨(l : Int) - 12, w, 1, by omega, by omega, by omega, by omega, by omega, fun _ => rfl, rfl⟩
        have hix : ixD (.obj (6 + K.length)) (.int 2) (Ja.st ++ (M.lst namesL :: .lst (rows.map rowD) :: (K ++ [.lst [D.str "real", .str "real", .str "whole"]]))) = .ok (.str "whole") (Ja.st ++ (M.lst namesL :: .lst (rows.map rowD) :: (K ++ [.lst [D.str "real", .str "real", .str "whole"]]))) := ixD_lst 2 (hgk Ja)
        have hl1 := s_low k ((l : Int) - 12) 1 (Jc.st ++ (.lst namesL :: .lst (rows.map rowD) :: (K ++ [.lst [D.str "real", .str "real", .str "whole"]]))) (by decide) (by unfold Sm; exact Nat.one_lt_two_pow (by decide))
        have hl2 := s_low k ((l : Int) - 12 + w) 1 (Jc.st ++ (.lst namesL :: .lst (rows.map rowD) :: (K ++ [.lst [D.str "real", .str "real", .str "whole"]]))) (by decide) (by unfold Sm; exact Nat.one_lt_two_pow (by decide))
        have hap := happ Jc (K ++ [.lst [D.str "real", .str "real", .str "whole"]]) ⟨nmS (start + i), true, (nrm ((l : Int) - 12) 1, nrm ((l : Int) - 12 + w) 1)⟩
        have hnm := hname Jc (.lst (rows.map rowD) :: (K ++ [.lst [D.str "real", .str "real", .str "whole"]]))
        have hb := hbt Jc (K ++ [.lst [D.str "real", .str "real", .str "whole"]])
        have er : rowD ⟨nmS (start + i), true, (nrm ((l : Int) - 12) 1, nrm ((l : Int) - 12 + w) 1)⟩ = D.tup [.str (nmS (start + i)), .str "whole", rq (nrm ((l : Int) - 12) 1), rq (nrm ((l : Int) - 12 + w) 1)] := rfl
        rw [er] at hap
        refine ⟨rfl, _, rfl, _, _, .inl ?_, Jc, rows ++ [⟨nmS (start + i), true, (nrm ((l : Int) - 12) 1, nrm ((l : Int) - 12 + w) 1)⟩], K ++ [.lst [D.str "real", .str "real", .str "whole"]], some (.int (0 + i)), some (.str "whole"), some (.int 1), some (.int (w : Nat)), some (.int ((l : Int) - 12)), rfl, rfl, by simp [hlen], hlets _ rfl hg, hK.app hk3, ?_⟩
        · generalize (rows ++ [⟨nmS (start + i), true, (nrm ((l : Int) - 12) 1, nrm ((l : Int) - 12 + w) 1)⟩] : List Row) = rows2 at *
          generalize rq (nrm ((l : Int) - 12) 1) = q1 at *
          generalize rq (nrm ((l : Int) - 12 + w) 1) = q2 at *
          simp only [bindG_one, List.set_cons_succ, List.set_cons_zero]
          simp [hcat, hq, ea, hix, eb, ec, hnm, hl1, hl2, hap, hb]
        · have := hJc; have e : 2 + 4 * i + 1 + 1 + 1 ≤ 2 + 4 * (i + 1) := by omega
          exact ⟨hJc.a, hJc.b0, hJc.b1, hJc.c0, by have := hJc.c1; omega, hJc.g⟩
      · obtain ⟨b, Jx, hb4, hJx, _, ex⟩ := s_draw hJb (by omega) 4 (by decide) (by decide) (.lst namesL :: .lst (rows.map rowD) :: (K ++ [.lst [D.str "real", .str "real", .str "whole"]])) k
        have ex : callK pdat.p (k + 1) 47 [.obj 3, .int 4] _ = _ := ex
        obtain ⟨l, Jc, hl, hJc, _, ec⟩ := s_draw hJx (by omega) 25 (by decide) (by decide) (.lst namesL :: .lst (rows.map rowD) :: (K ++ [.lst [D.str "real", .str "real", .str "whole"]])) k
        have ec : callK pdat.p (k + 1) 47 [.obj 3, .int 25] _ = _ := ec
        have hg : RGood ⟨nmS (start + i), false, (nrm ((l : Int) - 12) (1 + b), nrm ((l : Int) - 12 + w) (1 + b))⟩ := ⟨(l : Int) - 12, w, 1 + b, by omega, by omega, by omega, by omega, by omega, fun h => (by cases h), by simp⟩
        have hix : ixD (.obj (6 + K.length)) (.int (d1 : Nat)) (Ja.st ++ (M.lst namesL :: .lst (rows.map rowD) :: (K ++ [.lst [D.str "real", .str "real", .str "whole"]]))) = .ok (.str "real") (Ja.st ++ (M.lst namesL :: .lst (rows.map rowD) :: (K ++ [.lst [D.str "real", .str "real", .str "whole"]]))) := by
          rw [ixD_lst _ (hgk Ja), atI_nat]
          have : d1 = 0 ∨ d1 = 1 := by omega
          rcases this with rfl | rfl <;> rfl
        have hsb : Sm 9000 ((1 : Int) + b) := (sm5 (i := 1 + (b : Int)) (by omega) (by omega)).mono (by decide)
        have hl1 := s_low k ((l : Int) - 12) (1 + b) (Jc.st ++ (.lst namesL :: .lst (rows.map rowD) :: (K ++ [.lst [D.str "real", .str "real", .str "whole"]]))) (by omega) hsb
        have hl2 := s_low k ((l : Int) - 12 + w) (1 + b) (Jc.st ++ (.lst namesL :: .lst (rows.map rowD) :: (K ++ [.lst [D.str "real", .str "real", .str "whole"]]))) (by omega) hsb
        have hap := happ Jc (K ++ [.lst [D.str "real", .str "real", .str "whole"]]) ⟨nmS (start + i), false, (nrm ((l : Int) - 12) (1 + b), nrm ((l : Int) - 12 + w) (1 + b))⟩
        have hnm := hname Jc (.lst (rows.map rowD) :: (K ++ [.lst [D.str "real", .str "real", .str "whole"]]))
        have hb := hbt Jc (K ++ [.lst [D.str "real", .str "real", .str "whole"]])
        have er : rowD ⟨nmS (start + i), false, (nrm ((l : Int) - 12) (1 + b), nrm ((l : Int) - 12 + w) (1 + b))⟩ = D.tup [.str (nmS (start + i)), .str "real", rq (nrm ((l : Int) - 12) (1 + b)), rq (nrm ((l : Int) - 12 + w) (1 + b))] := rfl
        rw [er] at hap
        refine ⟨rfl, _, rfl, _, _, .inl ?_, Jc, rows ++ [⟨nmS (start + i), false, (nrm ((l : Int) - 12) (1 + b), nrm ((l : Int) - 12 + w) (1 + b))⟩], K ++ [.lst [D.str "real", .str "real", .str "whole"]], some (.int (0 + i)), some (.str "real"), some (.int (1 + (b : Nat))), some (.int (w : Nat)), some (.int ((l : Int) - 12)), rfl, rfl, by simp [hlen], hlets _ rfl hg, hK.app hk3, ?_⟩
        · generalize (rows ++ [⟨nmS (start + i), false, (nrm ((l : Int) - 12) (1 + b), nrm ((l : Int) - 12 + w) (1 + b))⟩] : List Row) = rows2 at *
          generalize rq (nrm ((l : Int) - 12) (1 + b)) = q1 at *
          generalize rq (nrm ((l : Int) - 12 + w) (1 + b)) = q2 at *
          simp only [bindG_one, List.set_cons_succ, List.set_cons_zero]
          simp [hcat, hq, ea, hix, eb, ex, ec, hnm, hl1, hl2, hap, hb]
        · exact ⟨hJc.a, hJc.b0, hJc.b1, hJc.c0, by have := hJc.c1; omega, hJc.g⟩) (fun _ _ _ => rfl) (ρ := [some (.obj 3), some (.obj 4), some (.int (start : Nat)), some (.obj 5), none, none, none, none, none]) (S := J2.st ++ [.lst namesL, .lst []]) ⟨J2, [], [], none, none, none, none, none, rfl, rfl, rfl, fun j r h => by simp at h, Pu.nil, by simpa using hJ2⟩
  subst hρ hS
  rw [rng_length] at hlen hJ3
  refine ⟨J3, start, rows, K, ⟨hJ3.a, hJ3.b0, hJ3.b1, hJ3.c0, by have := hJ3.c1; omega, hJ3.g⟩, hs2, by omega, by omega, hgood, hK, ?_⟩
  rw [c__law_letters]; unfold ir__law_letters
  have hr : rngSrc [.int (1 + (m : Int))] = some ⟨none, rng 0 (1 + m)⟩ := by
    have := range_src (1 + m) (by omega)
    rw [show ((1 + m : Nat) : Int) = 1 + (m : Int) by omega] at this; exact this
  have hl4 : J.st.length = 4 := jst_len J
  have hl5 : (J1.st ++ [M.lst namesL]).length = 5 := by rw [List.length_append, jst_len]; rfl
  have hn : [D.str "x", .str "y2", .str "long0name1z", .str "a"] = namesL := rfl
  have hlo : (D.obj 5).lo 4 = false := rfl
  have hnl : namesL.length = 4 := rfl
  simp [hl4, hn, hnl, e1, hl5, e2, hr, hfor, hlo, gc_low]
end Z
end

section
set_option Elab.async false
set_option linter.all false
set_option maxRecDepth 100000
/-! NB: the law's point. -/
namespace Z
open PySem
structure PGood (r : Row) (q : Qq) : Prop where
  z : In 15 q
  low : Low q
  inn : Inn q r.v
theorem jar_lo (J : Jar) {X : Store} (hX : Pu X) : Lo (J.st ++ X) := by
  have hn : 2 ≤ (J.st ++ X).length := by rw [List.length_append, jst_len]; omega
  unfold Lo
  generalize (J.st ++ X).length = n at hn
  rw [List.all_append, hX.lo]
  have e : ∀ l : List Int, D.los n (iL l) = true := fun l => los_map D.int _ (fun _ => rfl) l
  have o : (D.obj 1).lo n = true := by
    show decide (1 < n) = true
    exact decide_eq_true (by omega)
  unfold Jar.st
  simp only [List.all_cons, List.all_nil, Bool.and_true, Bool.and_eq_true]
  refine ⟨e _, e _, e _, ?_⟩
  show D.los _ _ = true
  unfold D.los
  rw [o]
  rfl
theorem in_low_eq {q : Qq} {t b : Int} (hp : 0 < q.2) (hl : Low q) (hb : 0 < b) (h : rv q = (t : Rat) / (b : Rat)) : q = nrm t b := by
  refine rv_inj hp (nrm_pos (by omega)) hl (nrm_low (by omega)) ?_
  rw [h, rv_nrm (by omega)]
theorem low_one (i : Int) : Low (i, 1) := by unfold Low; simp
theorem pg_whole {r : Row} (hr : RGood r) (hw : r.whole = true) (d : Nat) (hd : (d : Int) ≤ r.v.2.1 - r.v.1.1) : PGood r (r.v.1.1 + d, 1) := by
  obtain ⟨lo, w, b, h1, h2, h3, h4, h5, h6, h7⟩ := hr
  have := h6 hw
  subst this
  rw [show ((1 : Nat) : Int) = 1 from rfl, nrm_one, nrm_one] at h7
  rw [h7] at hd ⊢
  have hd : (d : Int) ≤ lo + w - lo := hd
  have e : ∀ i : Int, rv (i, 1) = (i : Rat) := by
    intro i; unfold rv
    show (i : Rat) / ((1 : Int) : Rat) = i
    rw [Rat.div_def]
    have : ((1 : Int) : Rat)⁻¹ = 1 := by decide +kernel
    rw [this, Rat.mul_one]
  refine ⟨⟨?_, ?_, ?_⟩, low_one _, ?_⟩
  · unfold Sm; show (lo + (d : Int)).natAbs < 2 ^ 15
    have : (2:Nat)^15 = 32768 := by decide
    omega
  · unfold Sm; show (1 : Int).natAbs < 2 ^ 15
    have : (2:Nat)^15 = 32768 := by decide
    omega
  · show (0 : Int) < 1; decide
  · unfold Inn
    rw [h7]
    dsimp only
    rw [e, e, e, Rat.intCast_le_intCast, Rat.intCast_le_intCast]
    omega
theorem pg_real {r : Row} (hr : RGood r) (d : Nat) (hd : d ≤ 8) : PGood r (qadd r.v.1 (qmul (qsub r.v.2 r.v.1) (nrm d 8))) := by
  have hz := hr.z
  have hle := hr.le
  have p1 := hz.l.p
  have p2 := hz.h.p
  have p3 := qsub_p p2 p1
  have p4 : 0 < (nrm (d : Int) 8).2 := nrm_pos (by decide)
  have p5 := qmul_p p3 p4
  have hlow : Low (qadd r.v.1 (qmul (qsub r.v.2 r.v.1) (nrm d 8))) := nrm_low (Int.mul_ne_zero (by omega) (by omega))
  have hv : rv (qadd r.v.1 (qmul (qsub r.v.2 r.v.1) (nrm d 8))) = rv r.v.1 + (rv r.v.2 - rv r.v.1) * ((d : Int) : Rat) / ((8 : Int) : Rat) := by
    rw [rv_add p1 p5, rv_qmul p3 p4, rv_sub p2 p1, rv_nrm (by decide), Rat.div_def, Rat.div_def, Rat.mul_assoc]
  have d0 : (0 : Rat) ≤ ((d : Int) : Rat) := Rat.intCast_nonneg.mpr (by omega)
  have d8 : ((d : Int) : Rat) ≤ ((8 : Int) : Rat) := Rat.intCast_le_intCast.mpr (by omega)
  have e8 : ((8 : Int) : Rat) = 8 := rfl
  refine ⟨?_, hlow, ?_⟩
  · obtain ⟨lo, w, b, h1, h2, h3, h4, h5, h6, h7⟩ := hr
    have hq : rv (qadd r.v.1 (qmul (qsub r.v.2 r.v.1) (nrm d 8))) = ((8 * lo + w * d : Int) : Rat) / ((8 * b : Int) : Rat) := by
      rw [hv, h7]
      dsimp only
      rw [rv_nrm (by omega), rv_nrm (by omega)]
      have hb : ((b : Int) : Rat) ≠ 0 := rc_ne (by omega)
      rw [Rat.intCast_add, Rat.intCast_add, Rat.intCast_mul, Rat.intCast_mul, Rat.intCast_mul, e8]
      generalize ((b : Int) : Rat) = B at *
      generalize ((lo : Int) : Rat) = L at *
      generalize (((w : Nat) : Int) : Rat) = W at *
      generalize ((d : Int) : Rat) = DD at *
      rw [Rat.div_def, Rat.div_def, Rat.div_def, Rat.div_def, Rat.inv_mul_rev]
      have hb1 := Rat.mul_inv_cancel B hb
      generalize B⁻¹ = I at *
      have h8 : (8 : Rat) * (8 : Rat)⁻¹ = 1 := by decide +kernel
      generalize (8 : Rat)⁻¹ = E at *
      grind
    have hp : 0 < (qadd r.v.1 (qmul (qsub r.v.2 r.v.1) (nrm d 8))).2 := qadd_p p1 p5
    rw [in_low_eq hp hlow (by omega) hq]
    have hwd : 0 ≤ (w : Int) * d ∧ (w : Int) * d ≤ 96 := by
      refine ⟨Int.mul_nonneg (by omega) (by omega), ?_⟩
      have : w * d ≤ 12 * 8 := Nat.mul_le_mul h3 hd
      have e : ((w * d : Nat) : Int) = (w : Int) * d := by push_cast; rfl
      omega
    have p15 : (2:Nat)^15 = 32768 := by decide
    refine nrm_in (by omega) ?_ ?_
    · unfold Sm; omega
    · unfold Sm; omega
  · unfold Inn
    rw [hv]
    have i8 : (0 : Rat) < ((8 : Int) : Rat)⁻¹ := by rw [e8]; decide +kernel
    have h8 : ((8 : Int) : Rat) * ((8 : Int) : Rat)⁻¹ = 1 := by rw [e8]; decide +kernel
    rw [Rat.div_def]
    generalize ((8 : Int) : Rat)⁻¹ = E at *
    generalize ((8 : Int) : Rat) = T at *
    generalize ((d : Int) : Rat) = DD at *
    generalize rv r.v.1 = a at *
    generalize rv r.v.2 = b at *
    have hba : 0 ≤ b - a := by grind
    have m1 : 0 ≤ (b - a) * DD * E := Rat.mul_nonneg (Rat.mul_nonneg hba d0) (Rat.le_of_lt i8)
    have m2 : (b - a) * DD * E ≤ (b - a) * T * E := Rat.mul_le_mul_of_nonneg_right (Rat.mul_le_mul_of_nonneg_left d8 hba) (Rat.le_of_lt i8)
    have m3 : (b - a) * T * E = b - a := by rw [Rat.mul_assoc, h8, Rat.mul_one]
    grind
theorem many4 (a b c d : D) (x0 x1 x2 x3 x4 x5 x6 x7 : Option D) : bindG (.many [3, 4, 5, 6]) (.tup [a, b, c, d]) [x0, x1, x2, x3, x4, x5, x6, x7] = some [x0, x1, x2, some a, some b, some c, some d, x7] := rfl
theorem s_lawPoint {J : Jar} {n : Nat} (hJ : J.Ok n) (hn : n ≤ 1000) (rows : List Row) (h3 : rows.length ≤ 3) (hg : ∀ r ∈ rows, RGood r) {N : M} {K : Store} (hN : Pu [N]) (hK : Pu K) (k : Nat) :
    ∃ (J' : Jar) (pts : List Qq), J'.Ok (n + 3) ∧ pts.length = rows.length ∧ (∀ j r, rows[j]? = some r → PGood r (pts.getD j q0)) ∧
      callK pdat.p (k + 3) 52 [.obj 3, .obj 5] (J.st ++ (N :: .lst (rows.map rowD) :: K)) = .ok (.tup (pts.map rq)) (J'.st ++ (N :: .lst (rows.map rowD) :: K)) := by
  have hX : Pu (N :: .lst (rows.map rowD) :: K) := hN.app (Pu.app (J := [.lst (rows.map rowD)]) (pu_lst rowD (lo_row 0) rows) hK)
  have h5 : ∀ (J : Jar) K', (J.st ++ (N :: .lst (rows.map rowD) :: K'))[5]? = some (.lst (rows.map rowD)) := fun J K' => by
    have := ap_get J.st (N :: .lst (rows.map rowD) :: K') 1; rw [jst_len] at this; exact this
  have hlen : ∀ J : Jar, (J.st ++ (N :: .lst (rows.map rowD) :: K)).length = 6 + K.length := fun J => by rw [List.length_append, jst_len]; simp; omega
  obtain ⟨ρ', S', hfor, J', pts, u3, u4, u5, u6, u7, hρ, hS, hpl, hpg, hJ'⟩ := forL_inv (src := ⟨some 5, rows.map rowD⟩) (g := .many [3, 4, 5, 6]) (b := execs pdat.p (callK pdat.p (k + 2)) (.cons (.asg (.g (.one 7)) (.call 50 (.cons (.k (.str "sub")) (.cons (.v 6) (.cons (.v 5) .nil))))) 
   (.cons (.ite (.val (.cmp .Eq (.v 4) (.k (.str "whole")))) 
    (.cons (.expr (.bm (.v 2) .append (.cons (.tup (.cons (.bin .Add (.ix (.v 5) (.k (.int (0)))) (.call 47 (.cons (.v 0) (.cons (.bin .Add (.ix (.v 7) (.k (.int (0)))) (.k (.int (1)))) .nil)))) (.cons (.k (.int (1))) .nil))) .nil))) .nil) 
    (.cons (.expr (.bm (.v 2) .append (.cons (.call 50 (.cons (.k (.str "add")) (.cons (.v 5) (.cons (.call 50 (.cons (.k (.str "mul")) (.cons (.v 7) (.cons (.call 48 (.cons (.call 47 (.cons (.v 0) (.cons (.k (.int (9))) .nil))) (.cons (.k (.int (8))) .nil))) .nil)))) .nil)))) .nil))) .nil)) .nil)))
    (fun i ρ T => ∃ (J' : Jar) (pts : List Qq) (u3 u4 u5 u6 u7 : Option D), ρ = [some (.obj 3), some (.obj 5), some (.obj (6 + K.length)), u3, u4, u5, u6, u7] ∧ T = J'.st ++ (N :: .lst (rows.map rowD) :: (K ++ [.lst (pts.map rq)])) ∧ pts.length = i ∧ (∀ j r, j < i → rows[j]? = some r → PGood r (pts.getD j q0)) ∧ J'.Ok (n + i)) (rows.map rowD) (fun i d ρ T hd ⟨J', pts, u3, u4, u5, u6, u7, hρ, hT, hpl, hpg, hJ'⟩ => by
      subst hρ hT
      rw [List.getElem?_map] at hd
      cases er : rows[i]? with
      | none => rw [er] at hd; cases hd
      | some r =>
        rw [er] at hd; cases hd
        have hr := hg r (List.mem_of_getElem? er)
        have hi : i < rows.length := (List.getElem?_eq_some_iff.mp er).1
        have hz := hr.z
        have hl := hr.low
        have hsub : ∀ S, callK pdat.p (k + 2) 50 [.str "sub", rq r.v.2, rq r.v.1] S = .ok (rq (qsub r.v.2 r.v.1)) S := fun S => s_apply hz.h hz.l (by decide) .sub (by intro h; cases h) hl.2 hl.1 k S
        have hgl : ∀ J' : Jar, (J'.st ++ (N :: M.lst (rows.map rowD) :: (K ++ [.lst (pts.map rq)])))[6 + K.length]? = some (.lst (pts.map rq)) := fun J' => by
          have e : 6 + K.length = J'.st.length + (2 + K.length) := by rw [jst_len]; omega
          rw [e, ap_get]
          have e2 : 2 + K.length = K.length + 1 + 1 := by omega
          rw [e2, List.getElem?_cons_succ, List.getElem?_cons_succ, ap_get0]; rfl
        have hsl : ∀ (J' : Jar) y, (J'.st ++ (N :: M.lst (rows.map rowD) :: (K ++ [.lst (pts.map rq)]))).set (6 + K.length) y = J'.st ++ (N :: M.lst (rows.map rowD) :: (K ++ [y])) := fun J' y => by
          have e : 6 + K.length = J'.st.length + (2 + K.length) := by rw [jst_len]; omega
          rw [e, ap_set]
          have e2 : 2 + K.length = K.length + 1 + 1 := by omega
          rw [e2, List.set_cons_succ, List.set_cons_succ, ap_set0]; rfl
        have hapd : ∀ (J' : Jar) (q : Qq), bmD .append (.obj (6 + K.length)) [rq q] (J'.st ++ (N :: M.lst (rows.map rowD) :: (K ++ [.lst (pts.map rq)]))) = .ok .non (J'.st ++ (N :: M.lst (rows.map rowD) :: (K ++ [.lst ((pts ++ [q]).map rq)]))) := fun J' q => by
          rw [append_ok (hgl J') (by rw [List.length_map]; exact ln _ (by omega)), hsl]; simp
        have hbt : ∀ J' : Jar, bmT .append (.obj (6 + K.length)) (J'.st ++ (N :: M.lst (rows.map rowD) :: (K ++ [.lst (pts.map rq)]))) = true := fun J' => bmT_app (hgl J')
        have hpg2 : ∀ q, PGood r q → ∀ j r', j < i + 1 → rows[j]? = some r' → PGood r' ((pts ++ [q]).getD j q0) := fun q hq j r' hj hr' => by
          by_cases h : j < i
          · rw [getD_app_lt _ _ _ (by omega)]; exact hpg j r' h hr'
          · have : j = i := by omega
            subst this
            rw [er] at hr'; cases hr'
            rw [← hpl, getD_app_eq]; exact hq
        have hst := fun J' : Jar => stays_some (h5 J' (K ++ [.lst (pts.map rq)]))
        by_cases hw : r.whole = true
        · obtain ⟨w1, w2⟩ := hr.wh hw
          have hws : qsub r.v.2 r.v.1 = (r.v.2.1 - r.v.1.1, 1) := by
            unfold qsub; rw [w1, w2]; simp [nrm_one]
          obtain ⟨lo, w, b, g1, g2, g3, g4, g5, g6, g7⟩ := hr
          have hb := g6 hw
          subst hb
          have hwid : r.v.2.1 - r.v.1.1 = w := by rw [g7]; rw [show ((1 : Nat) : Int) = 1 from rfl, nrm_one, nrm_one]; show lo + (w : Int) - lo = w; omega
          have hr : RGood r := hg r (List.mem_of_getElem? er)
          obtain ⟨x, Ja, hx, hJa, _, ea⟩ := s_draw hJ' (by omega) (w + 1) (by omega) (by omega) (N :: M.lst (rows.map rowD) :: (K ++ [.lst (pts.map rq)])) (k + 1)
          have ea : callK pdat.p (k + 2) 47 [.obj 3, .int ((w : Nat) + 1 : Int)] _ = _ := ea
          have hpw := pg_whole hr hw x (by omega)
          have hap := hapd Ja (r.v.1.1 + x, 1)
          have erq : rq (r.v.1.1 + (x : Int), 1) = D.tup [.int (r.v.1.1 + x), .int 1] := rfl
          rw [erq] at hap
          have hbJ := hbt J'
          refine ⟨hst J', _, rfl, _, _, .inl ?_, Ja, pts ++ [(r.v.1.1 + x, 1)], some (.str r.name), some (.str (kindS r.whole)), some (rq r.v.1), some (rq r.v.2), some (rq (qsub r.v.2 r.v.1)), rfl, rfl, by simp [hpl], hpg2 _ hpw, hJa⟩
          have ek : kindS r.whole = "whole" := by unfold kindS; rw [if_pos hw]
          rw [ek]
          simp only [setMany, List.set_cons_succ, List.set_cons_zero]
          generalize hvv : ((pts ++ [(r.v.1.1 + (x : Int), 1)]).map rq) = PP at *
          have hx0 : (qsub r.v.2 r.v.1).1 = (w : Int) := by rw [hws]; exact hwid
          generalize qsub r.v.2 r.v.1 = qs at *
          simp [hsub, hbJ, hx0, ea, hap]
        · obtain ⟨x, Ja, hx, hJa, _, ea⟩ := s_draw hJ' (by omega) 9 (by omega) (by omega) (N :: M.lst (rows.map rowD) :: (K ++ [.lst (pts.map rq)])) (k + 1)
          have ea : callK pdat.p (k + 2) 47 [.obj 3, .int 9] _ = _ := ea
          have hpw := pg_real hr x (by omega)
          have hs8 : Sm 5 (8 : Int) := sm5 (by decide) (by decide)
          have hsx : Sm 5 (x : Int) := sm5 (by omega) (by omega)
          have hlow : ∀ S, callK pdat.p (k + 2) 48 [.int (x : Nat), .int 8] S = .ok (rq (nrm x 8)) S := fun S => s_low (k + 1) x 8 S (by decide) (hs8.mono (by decide))
          have n8 : In 5 (nrm (x : Int) 8) := nrm_in (by decide) hsx hs8
          have n1 := hz.h.qsub hz.l
          have l1 : Low (qsub r.v.2 r.v.1) := nrm_low (Int.mul_ne_zero hz.h.nz hz.l.nz)
          have hmul : ∀ S, callK pdat.p (k + 2) 50 [.str "mul", rq (qsub r.v.2 r.v.1), rq (nrm x 8)] S = .ok (rq (qmul (qsub r.v.2 r.v.1) (nrm x 8))) S := fun S => s_apply n1 n8 (by decide) .mul (by intro h; cases h) l1 (nrm_low (by decide)) k S
          have n2 := n1.qmul n8
          have l2 : Low (qmul (qsub r.v.2 r.v.1) (nrm x 8)) := nrm_low (Int.mul_ne_zero n1.nz n8.nz)
          have hadd : ∀ S, callK pdat.p (k + 2) 50 [.str "add", rq r.v.1, rq (qmul (qsub r.v.2 r.v.1) (nrm x 8))] S = .ok (rq (qadd r.v.1 (qmul (qsub r.v.2 r.v.1) (nrm x 8)))) S := fun S => s_apply hz.l n2 (by decide) .add (by intro h; cases h) hl.1 l2 k S
          have hap := hapd Ja (qadd r.v.1 (qmul (qsub r.v.2 r.v.1) (nrm x 8)))
          have hbJ := hbt J'
          refine ⟨hst J', _, rfl, _, _, .inl ?_, Ja, pts ++ [qadd r.v.1 (qmul (qsub r.v.2 r.v.1) (nrm x 8))], some (.str r.name), some (.str (kindS r.whole)), some (rq r.v.1), some (rq r.v.2), some (rq (qsub r.v.2 r.v.1)), rfl, rfl, by simp [hpl], hpg2 _ hpw, hJa⟩
          have ek : kindS r.whole = "real" := by unfold kindS; rw [if_neg hw]
          rw [ek]
          simp only [setMany, List.set_cons_succ, List.set_cons_zero]
          generalize ((pts ++ [qadd r.v.1 (qmul (qsub r.v.2 r.v.1) (nrm x 8))]).map rq) = PP at *
          generalize qadd r.v.1 (qmul (qsub r.v.2 r.v.1) (nrm x 8)) = q3 at *
          generalize qmul (qsub r.v.2 r.v.1) (nrm x 8) = q2 at *
          generalize qsub r.v.2 r.v.1 = q1 at *
          simp [hsub, hbJ, ea, hlow, hmul, hadd, hap]) (fun ρ T ⟨J', pts, u3, u4, u5, u6, u7, hρ, hT, _⟩ => by subst hT; exact stays_some (h5 _ _)) (ρ := [some (.obj 3), some (.obj 5), some (.obj (6 + K.length)), none, none, none, none, none]) (S := J.st ++ (N :: .lst (rows.map rowD) :: (K ++ [.lst []]))) ⟨J, [], none, none, none, none, none, rfl, rfl, rfl, fun j r h => by omega, by simpa using hJ⟩
  subst hρ hS
  rw [List.length_map] at hpl hpg hJ'
  refine ⟨J', pts, ⟨hJ'.a, hJ'.b0, hJ'.b1, hJ'.c0, by have := hJ'.c1; omega, hJ'.g⟩, hpl, fun j r hj => hpg j r ((List.getElem?_eq_some_iff.mp hj).1) hj, ?_⟩
  rw [c__law_point]; unfold ir__law_point
  have hcat : ∀ (J : Jar) x, J.st ++ (N :: M.lst (rows.map rowD) :: K) ++ [x] = J.st ++ (N :: M.lst (rows.map rowD) :: (K ++ [x])) := fun J x => by simp
  have hsq := seqSrc_lst (h5 J (K ++ [.lst []]))
  have htu : bltD .tuple [.obj (6 + K.length)] (J'.st ++ (N :: M.lst (rows.map rowD) :: (K ++ [.lst (pts.map rq)]))) = .ok (.tup (pts.map rq)) (J'.st ++ (N :: M.lst (rows.map rowD) :: (K ++ [.lst (pts.map rq)]))) := by
    refine tuple_lst ?_
    rw [← hcat, ← hlen J', ap_get0]; rfl
  have hlo : (D.tup (pts.map rq)).lo (6 + K.length) = true := los_map rq _ (fun q => lo_rq _ q) _
  have hgc : gc (6 + K.length) true (J'.st ++ (N :: M.lst (rows.map rowD) :: (K ++ [.lst (pts.map rq)]))) = J'.st ++ (N :: M.lst (rows.map rowD) :: K) := by
    rw [← hcat, ← hlen J']; exact gc_app (jar_lo J' hX)
  rw [hlen J]
  have hl1 := hlen J
  have hc1 := hcat J (.lst [])
  generalize hS0 : J.st ++ (N :: M.lst (rows.map rowD) :: K) = S0 at *
  generalize J.st ++ (N :: M.lst (rows.map rowD) :: (K ++ [.lst []])) = S1 at *
  generalize J'.st ++ (N :: M.lst (rows.map rowD) :: (K ++ [.lst (pts.map rq)])) = S2 at *
  simp [hl1, hc1, hsq, hfor, htu, hlo, hgc]
end Z
end

section
set_option Elab.async false
set_option linter.all false
set_option maxRecDepth 100000
/-! NC: what the builder's nodes mean. -/
namespace Z
open PySem
theorem low_pow {x : Qq} (h : Low x) (n : Nat) : Low (qpow x n) := by
  unfold Low qpow at *
  dsimp only
  rw [Int.natAbs_pow, Int.natAbs_pow]
  exact Nat.Coprime.pow n n h
theorem qmul_sq {x : Qq} (h : Low x) (hp : 0 < x.2) : qmul x x = qpow x 2 := by
  refine rv_inj (qmul_p hp hp) (show 0 < (qpow x 2).2 from Int.pow_pos hp) (nrm_low (Int.mul_ne_zero (by omega) (by omega))) (low_pow h 2) ?_
  rw [rv_qmul hp hp, rv_pow x hp, Rat.pow_succ, Rat.pow_succ, Rat.pow_zero, Rat.one_mul]
theorem low_abs {x : Qq} (h : Low x) : Low (qabs x) := by
  unfold Low qabs at *; simpa using h
theorem low_op (o : Op) {x y : Qq} (hx : Low x) (hy : Low y) (px : 0 < x.2) (py : 0 < y.2) (hd : o = .div → y.1 ≠ 0) : Low (o.q x y) := by
  cases o with
  | add => exact nrm_low (Int.mul_ne_zero (by omega) (by omega))
  | sub => exact nrm_low (Int.mul_ne_zero (by omega) (by omega))
  | mul => exact nrm_low (Int.mul_ne_zero (by omega) (by omega))
  | div => exact nrm_low (Int.mul_ne_zero (by omega) (hd rfl))
  | max => show Low (qmax x y); unfold qmax; split <;> assumption
  | min => show Low (qmin x y); unfold qmin; split <;> assumption
/-- the divisors are numbers unlike zero -/
def Nd.dn (nodes : List Nd) : Nd → Prop
  | .op .div _ j => ∃ v : Qq, nodes[j]? = some (.num v) ∧ v.1 ≠ 0 | _ => True
structure Sem (ℓ : Nat) (s : BSt) (pts fs : List Qq) (us : List (List Nat)) : Prop where
  b : BOk s
  lets : Letters s
  lf : fs.length = s.nodes.length
  lu : us.length = s.nodes.length
  lr : s.rows.length = ℓ
  lp : pts.length = ℓ
  ok : ∀ (i : Nat) (n : Nd), s.nodes[i]? = some n → n.ok i s.rows.length
  q : ∀ (i : Nat) (n : Nd), s.nodes[i]? = some n → n.q fs pts = fs.getD i q0
  u : ∀ (i : Nat) (n : Nd), s.nodes[i]? = some n → n.u ℓ us = us.getD i []
  w : ∀ (i : Nat) (n : Nd), s.nodes[i]? = some n → n.w s.ws = s.ws.getD i 0
  dn : ∀ (i : Nat) (n : Nd), s.nodes[i]? = some n → n.dn s.nodes
  rn : ∀ (i : Nat) (v : Qq), s.nodes[i]? = some (.num v) → s.ranges.getD i i0 = (v, v)
  inn : ∀ i, i < s.nodes.length → Inn (fs.getD i q0) (s.ranges.getD i i0)
  sz : ∀ i, i < s.nodes.length → 1 ≤ s.ws.getD i 0 ∧ In (16 * s.ws.getD i 0 - 1) (fs.getD i q0)
  low : ∀ i, i < s.nodes.length → Low (fs.getD i q0)
  us1 : ∀ i, i < s.nodes.length → (us.getD i []).Pairwise (· < ·)
  us2 : ∀ i, i < s.nodes.length → ∀ x ∈ us.getD i [], x < ℓ
  nd : s.nodes.Nodup
  box : ∀ k, k < s.rows.length → Inn (pts.getD k q0) (s.box.getD k i0) ∧ In 15 (pts.getD k q0) ∧ Low (pts.getD k q0)
theorem ixN_some {ns : List Nd} {n : Nd} {j : Nat} (h : ixN ns n = some j) : ns[j]? = some n ∧ j < ns.length := by
  unfold ixN at h
  obtain ⟨h1, h2, _⟩ := List.findIdx?_eq_some_iff_getElem.mp h
  have h2 : ns[j] = n := by simpa using h2
  exact ⟨by rw [List.getElem?_eq_getElem h1, h2], h1⟩
theorem ixN_none {ns : List Nd} {n : Nd} (h : ixN ns n = none) : n ∉ ns := by
  unfold ixN at h
  intro hm
  have := List.findIdx?_eq_none_iff.mp h n hm
  simp at this
theorem ixN_app {ns : List Nd} {n m : Nd} {j : Nat} (h : ixN ns n = some j) : ixN (ns ++ [m]) n = some j := by
  unfold ixN at *
  rw [List.findIdx?_append, h]; rfl
def fsP (s : BSt) (pts fs : List Qq) (n : Nd) : List Qq := match ixN s.nodes n with
  | some _ => fs | none => fs ++ [n.q fs pts]
def usP (ℓ : Nat) (s : BSt) (us : List (List Nat)) (n : Nd) : List (List Nat) := match ixN s.nodes n with
  | some _ => us | none => us ++ [n.u ℓ us]
theorem Nd.q_app {n : Nd} {m ℓ : Nat} (ho : n.ok m ℓ) {fs : List Qq} (hm : m ≤ fs.length) (x : Qq) (ps : List Qq) : n.q (fs ++ [x]) ps = n.q fs ps := by
  cases n with
  | num v => rfl
  | letter k => rfl
  | abs i => unfold Nd.q; dsimp only; rw [getD_app_lt _ _ _ (show i < fs.length from Nat.lt_of_lt_of_le ho hm)]
  | pow i c => unfold Nd.q; dsimp only; rw [getD_app_lt _ _ _ (show i < fs.length from Nat.lt_of_lt_of_le ho.1 hm)]
  | op o i j => unfold Nd.q; dsimp only; rw [getD_app_lt _ _ _ (show i < fs.length from Nat.lt_of_lt_of_le ho.1 hm), getD_app_lt _ _ _ (show j < fs.length from Nat.lt_of_lt_of_le ho.2 hm)]
theorem Nd.u_app {n : Nd} {m ℓ L : Nat} (ho : n.ok m ℓ) {us : List (List Nat)} (hm : m ≤ us.length) (x : List Nat) : n.u L (us ++ [x]) = n.u L us := by
  cases n with
  | num v => rfl
  | letter k => rfl
  | abs i => unfold Nd.u; dsimp only; rw [getD_app_lt _ _ _ (show i < us.length from Nat.lt_of_lt_of_le ho hm)]
  | pow i c => unfold Nd.u; dsimp only; rw [getD_app_lt _ _ _ (show i < us.length from Nat.lt_of_lt_of_le ho.1 hm)]
  | op o i j => unfold Nd.u; dsimp only; rw [getD_app_lt _ _ _ (show i < us.length from Nat.lt_of_lt_of_le ho.1 hm), getD_app_lt _ _ _ (show j < us.length from Nat.lt_of_lt_of_le ho.2 hm)]
theorem Nd.w_app {n : Nd} {m ℓ : Nat} (ho : n.ok m ℓ) {ws : List Nat} (hm : m ≤ ws.length) (x : Nat) : n.w (ws ++ [x]) = n.w ws := by
  cases n with
  | num v => rfl
  | letter k => rfl
  | abs i => unfold Nd.w; dsimp only; rw [getD_app_lt _ _ _ (show i < ws.length from Nat.lt_of_lt_of_le ho hm)]
  | pow i c => unfold Nd.w; dsimp only; rw [getD_app_lt _ _ _ (show i < ws.length from Nat.lt_of_lt_of_le ho.1 hm)]
  | op o i j => unfold Nd.w; dsimp only; rw [getD_app_lt _ _ _ (show i < ws.length from Nat.lt_of_lt_of_le ho.1 hm), getD_app_lt _ _ _ (show j < ws.length from Nat.lt_of_lt_of_le ho.2 hm)]
theorem Nd.dn_app {n : Nd} {nodes : List Nd} (h : n.dn nodes) (x : Nd) : n.dn (nodes ++ [x]) := by
  cases n with
  | op o i j =>
    cases o with
    | div =>
      obtain ⟨v, h1, h2⟩ := h
      exact ⟨v, by rw [List.getElem?_append_left (List.getElem?_eq_some_iff.mp h1).1]; exact h1, h2⟩
    | _ => trivial
  | _ => trivial
theorem Nd.ok_mono {n : Nd} {m m' ℓ : Nat} (h : n.ok m ℓ) (hm : m ≤ m') : n.ok m' ℓ := by
  cases n with
  | num v => trivial
  | letter k => exact h
  | abs i => exact Nat.lt_of_lt_of_le h hm
  | pow i c => exact ⟨Nat.lt_of_lt_of_le h.1 hm, h.2⟩
  | op o i j => exact ⟨Nat.lt_of_lt_of_le h.1 hm, Nat.lt_of_lt_of_le h.2 hm⟩
section
variable {ℓ : Nat} {s : BSt} {pts fs : List Qq} {us : List (List Nat)}
theorem Sem.dv (h : Sem ℓ s pts fs us) {n : Nd} (ho : n.ok s.nodes.length s.rows.length) (hd : n.dn s.nodes) : n.dq fs ∧ n.di s.ranges := by
  cases n with
  | op o i j =>
    cases o with
    | div =>
      obtain ⟨v, h1, h2⟩ := hd
      have e1 := h.q j _ h1
      have e2 := h.rn j v h1
      refine ⟨?_, ?_⟩
      · show (fs.getD j q0).1 ≠ 0
        rw [← e1]; exact h2
      · show (s.ranges.getD j i0).1.1 ≠ 0 ∧ (s.ranges.getD j i0).2.1 ≠ 0
        rw [e2]; exact ⟨h2, h2⟩
    | _ => exact ⟨trivial, trivial⟩
  | _ => exact ⟨trivial, trivial⟩
/-- what a new node means -/
theorem Sem.new (h : Sem ℓ s pts fs us) {n : Nd} (ho : n.ok s.nodes.length s.rows.length) (hd : n.dn s.nodes) (hn : ∀ v, n = .num v → In 15 v ∧ Low v) :
    Inn (n.q fs pts) (n.iv s.ranges s.box) ∧ (1 ≤ n.w s.ws ∧ In (16 * n.w s.ws - 1) (n.q fs pts)) ∧ Low (n.q fs pts) ∧ (n.u ℓ us).Pairwise (· < ·) ∧ ∀ x ∈ n.u ℓ us, x < ℓ := by
  have pi : ∀ i, i < s.nodes.length → PI (s.ranges.getD i i0) := fun i hi => by
    have := (h.b.szs i (by rw [h.b.lr]; exact hi)).2
    exact ⟨this.l.p, this.h.p⟩
  have pq : ∀ i, i < s.nodes.length → 0 < (fs.getD i q0).2 := fun i hi => (h.sz i hi).2.p
  obtain ⟨hdq, hdi⟩ := h.dv ho hd
  cases n with
  | num v =>
    obtain ⟨h1, h2⟩ := hn v rfl
    exact ⟨⟨Rat.le_refl, Rat.le_refl⟩, ⟨Nat.le_refl _, h1⟩, h2, List.Pairwise.nil, fun x hx => by cases hx⟩
  | letter k =>
    obtain ⟨h1, h2, h3⟩ := h.box k ho
    refine ⟨h1, ⟨Nat.le_refl _, h2⟩, h3, List.pairwise_singleton _ _, fun x hx => ?_⟩
    have : x = k := by simpa [Nd.u] using hx
    have ho : k < s.rows.length := ho
    have := h.lr
    omega
  | abs i =>
    have ho : i < s.nodes.length := ho
    obtain ⟨h1, h2⟩ := h.sz i ho
    refine ⟨in_abs (pq i ho) (pi i ho) (h.inn i ho), ⟨Nat.le_add_left _ _, h2.qabs.mono (by show _ ≤ 16 * (s.ws.getD i 0 + 1) - 1; omega)⟩, low_abs (h.low i ho), h.us1 i ho, h.us2 i ho⟩
  | pow i c =>
    obtain ⟨o1, o2, o3⟩ := ho
    obtain ⟨h1, h2⟩ := h.sz i o1
    refine ⟨in_pow (pq i o1) (pi i o1) (h.inn i o1) c (by omega), ⟨Nat.mul_pos h1 (by omega), (h2.qpow1 (by omega)).mono ?_⟩, low_pow (h.low i o1) c, h.us1 i o1, h.us2 i o1⟩
    show (16 * s.ws.getD i 0 - 1) * c ≤ 16 * (s.ws.getD i 0 * c) - 1
    rw [Nat.sub_mul, Nat.mul_assoc]
    omega
  | op o i j =>
    obtain ⟨o1, o2⟩ := ho
    obtain ⟨h1, h2⟩ := h.sz i o1
    obtain ⟨h3, h4⟩ := h.sz j o2
    have le : (16 * s.ws.getD i 0 - 1) + (16 * s.ws.getD j 0 - 1) + 1 ≤ 16 * (s.ws.getD i 0 + s.ws.getD j 0) - 1 := by omega
    refine ⟨?_, ⟨by show 1 ≤ s.ws.getD i 0 + s.ws.getD j 0; omega, ?_⟩, ?_, ?_, ?_⟩
    · show Inn (o.q (fs.getD i q0) (fs.getD j q0)) (o.i (s.ranges.getD i i0) (s.ranges.getD j i0))
      cases o with
      | add => exact in_add (pq i o1) (pq j o2) (pi i o1) (pi j o2) (h.inn i o1) (h.inn j o2)
      | sub => exact in_sub (pq i o1) (pq j o2) (pi i o1) (pi j o2) (h.inn i o1) (h.inn j o2)
      | mul => exact in_mul (pq i o1) (pq j o2) (pi i o1) (pi j o2) (h.inn i o1) (h.inn j o2)
      | div =>
        obtain ⟨v, g1, g2⟩ := hd
        have e2 := h.rn j v g1
        refine in_div (pq i o1) (pq j o2) (pi i o1) (pi j o2) (h.inn i o1) (h.inn j o2) ?_ hdq hdi.1 hdi.2
        rw [e2]
        show 0 < v.1 ∨ v.1 < 0
        omega
      | max => exact in_max (pq i o1) (pq j o2) (pi i o1) (pi j o2) (h.inn i o1) (h.inn j o2)
      | min => exact in_min (pq i o1) (pq j o2) (pi i o1) (pi j o2) (h.inn i o1) (h.inn j o2)
    · show In (16 * (s.ws.getD i 0 + s.ws.getD j 0) - 1) (o.q (fs.getD i q0) (fs.getD j q0))
      refine In.mono ?_ le
      cases o with
      | add => exact h2.qadd h4
      | sub => exact h2.qsub h4
      | mul => exact (h2.qmul h4).mono (by omega)
      | div => exact (h2.qdiv h4 hdq).mono (by omega)
      | max => exact (h2.mono (by omega)).qmax (h4.mono (by omega))
      | min => exact (h2.mono (by omega)).qmin (h4.mono (by omega))
    · exact low_op o (h.low i o1) (h.low j o2) (pq i o1) (pq j o2) (fun e => by subst e; exact hdq)
    · exact List.Pairwise.filter _ List.pairwise_lt_range
    · intro x hx
      have := (List.mem_filter.mp hx).1
      exact List.mem_range.mp this
theorem app_get {α : Type} {l : List α} {x y : α} {i : Nat} (h : (l ++ [x])[i]? = some y) : (i < l.length ∧ l[i]? = some y) ∨ (i = l.length ∧ y = x) := by
  by_cases hi : i < l.length
  · rw [List.getElem?_append_left hi] at h; exact .inl ⟨hi, h⟩
  · have hl := (List.getElem?_eq_some_iff.mp h).1
    have e : i = l.length := by rw [List.length_append, List.length_singleton] at hl; omega
    subst e
    simp at h
    exact .inr ⟨rfl, h.symm⟩
theorem Sem.place (h : Sem ℓ s pts fs us) {n : Nd} (ho : n.ok s.nodes.length s.rows.length) (hw : n.w s.ws ≤ 40) (hd : n.dn s.nodes) (hn : ∀ v, n = .num v → In 15 v ∧ Low v) (hf : s.nodes.length < 100) : Sem ℓ (s.place n) pts (fsP s pts fs n) (usP ℓ s us n) := by
  have hB := h.b.place ho hw (h.dv ho hd).2 (fun v e => (hn v e).1) hf
  obtain ⟨n1, n2, n3, n4, n5⟩ := h.new ho hd hn
  unfold fsP usP
  unfold BSt.place at *
  cases hx : ixN s.nodes n with
  | some j => exact h
  | none =>
    rw [hx] at hB
    have hlw := h.b.lw
    have hlr := h.b.lr
    have hlf := h.lf
    have hlu := h.lu
    have old : ∀ (i : Nat) (m : Nd), s.nodes[i]? = some m → i < s.nodes.length ∧ m.ok i s.rows.length := fun i m hm => ⟨(List.getElem?_eq_some_iff.mp hm).1, h.ok i m hm⟩
    refine ⟨hB, fun k hk => ixN_app (h.lets k hk), ?_, ?_, h.lr, h.lp, ?_, ?_, ?_, ?_, ?_, ?_, ?_, ?_, ?_, ?_, ?_, ?_, h.box⟩
    · show (fs ++ [_]).length = (s.nodes ++ [n]).length; simp [hlf]
    · show (us ++ [_]).length = (s.nodes ++ [n]).length; simp [hlu]
    · intro i m hm
      rcases app_get hm with ⟨hi, hm⟩ | ⟨hi, rfl⟩
      · exact h.ok i m hm
      · subst hi; exact ho
    · intro i m hm
      rcases app_get hm with ⟨hi, hm⟩ | ⟨hi, rfl⟩
      · rw [Nd.q_app (h.ok i m hm) (by omega), getD_app_lt _ _ _ (by omega)]; exact h.q i m hm
      · subst hi; rw [Nd.q_app ho (by omega), ← hlf, getD_app_eq]
    · intro i m hm
      rcases app_get hm with ⟨hi, hm⟩ | ⟨hi, rfl⟩
      · rw [Nd.u_app (h.ok i m hm) (by omega), getD_app_lt _ _ _ (by omega)]; exact h.u i m hm
      · subst hi; rw [Nd.u_app ho (by omega), ← hlu, getD_app_eq]
    · intro i m hm
      rcases app_get hm with ⟨hi, hm⟩ | ⟨hi, rfl⟩
      · show m.w (s.ws ++ [_]) = (s.ws ++ [_]).getD i 0
        rw [Nd.w_app (h.ok i m hm) (by omega), getD_app_lt _ _ _ (by omega)]; exact h.w i m hm
      · subst hi; show m.w (s.ws ++ [_]) = (s.ws ++ [_]).getD s.nodes.length 0
        rw [Nd.w_app ho (by omega), ← hlw, getD_app_eq]
    · intro i m hm
      rcases app_get hm with ⟨hi, hm⟩ | ⟨hi, rfl⟩
      · exact Nd.dn_app (h.dn i m hm) n
      · exact Nd.dn_app hd m
    · intro i v hm
      show (s.ranges ++ [_]).getD i i0 = (v, v)
      rcases app_get hm with ⟨hi, hm⟩ | ⟨hi, he⟩
      · rw [getD_app_lt _ _ _ (by omega)]; exact h.rn i v hm
      · subst hi; rw [← hlr, getD_app_eq, ← he]; rfl
    · intro i hi
      have hi : i < (s.nodes ++ [n]).length := hi
      show Inn ((fs ++ [n.q fs pts]).getD i q0) ((s.ranges ++ [n.iv s.ranges s.box]).getD i i0)
      rw [List.length_append, List.length_singleton] at hi
      by_cases hh : i < s.nodes.length
      · rw [getD_app_lt _ _ _ (by omega), getD_app_lt _ _ _ (by omega)]; exact h.inn i hh
      · have e : i = s.nodes.length := by omega
        subst e
        have e1 : (fs ++ [n.q fs pts]).getD s.nodes.length q0 = n.q fs pts := by rw [← hlf, getD_app_eq]
        have e2 : (s.ranges ++ [n.iv s.ranges s.box]).getD s.nodes.length i0 = n.iv s.ranges s.box := by rw [← hlr, getD_app_eq]
        rw [e1, e2]; exact n1
    · intro i hi
      have hi : i < (s.nodes ++ [n]).length := hi
      show 1 ≤ (s.ws ++ [n.w s.ws]).getD i 0 ∧ In (16 * (s.ws ++ [n.w s.ws]).getD i 0 - 1) ((fs ++ [n.q fs pts]).getD i q0)
      rw [List.length_append, List.length_singleton] at hi
      by_cases hh : i < s.nodes.length
      · rw [getD_app_lt _ _ _ (by omega), getD_app_lt _ _ _ (by omega)]; exact h.sz i hh
      · have e : i = s.nodes.length := by omega
        subst e
        have e1 : (fs ++ [n.q fs pts]).getD s.nodes.length q0 = n.q fs pts := by rw [← hlf, getD_app_eq]
        have e2 : (s.ws ++ [n.w s.ws]).getD s.nodes.length 0 = n.w s.ws := by rw [← hlw, getD_app_eq]
        rw [e1, e2]; exact n2
    · intro i hi
      have hi : i < (s.nodes ++ [n]).length := hi
      rw [List.length_append, List.length_singleton] at hi
      by_cases hh : i < s.nodes.length
      · rw [getD_app_lt _ _ _ (by omega)]; exact h.low i hh
      · have e : i = s.nodes.length := by omega
        subst e
        have e1 : (fs ++ [n.q fs pts]).getD s.nodes.length q0 = n.q fs pts := by rw [← hlf, getD_app_eq]
        rw [e1]; exact n3
    · intro i hi
      have hi : i < (s.nodes ++ [n]).length := hi
      rw [List.length_append, List.length_singleton] at hi
      by_cases hh : i < s.nodes.length
      · rw [getD_app_lt _ _ _ (by omega)]; exact h.us1 i hh
      · have e : i = s.nodes.length := by omega
        subst e
        have e1 : (us ++ [n.u ℓ us]).getD s.nodes.length [] = n.u ℓ us := by rw [← hlu, getD_app_eq]
        rw [e1]; exact n4
    · intro i hi
      have hi : i < (s.nodes ++ [n]).length := hi
      rw [List.length_append, List.length_singleton] at hi
      by_cases hh : i < s.nodes.length
      · rw [getD_app_lt _ _ _ (by omega)]; exact h.us2 i hh
      · have e : i = s.nodes.length := by omega
        subst e
        have e1 : (us ++ [n.u ℓ us]).getD s.nodes.length [] = n.u ℓ us := by rw [← hlu, getD_app_eq]
        rw [e1]; exact n5
    · show (s.nodes ++ [n]).Nodup
      rw [List.nodup_append]
      refine ⟨h.nd, List.nodup_cons.mpr ⟨by simp, List.nodup_nil⟩, fun x hm y hy e => ?_⟩
      rw [List.mem_singleton] at hy
      subst hy e
      exact ixN_none hx hm
end
end Z
end

section
set_option Elab.async false
set_option linter.all false
set_option maxRecDepth 100000
/-! ND: the store of the law: the jar, the letters, the builder. -/
namespace Z
open PySem
def tb (L : Store) (J : Jar) (s : BSt) (C : Store) : Store := bs (J.st ++ L) s C
section
variable {L : Store} (J : Jar) (s : BSt) (C : Store)
theorem jl_len (L : Store) : (J.st ++ L).length = 4 + L.length := by rw [List.length_append, jst_len]
theorem tb_len : (tb L J s C).length = 11 + L.length + C.length := by unfold tb; rw [bs_len, jl_len]; omega
theorem tb_app (X : Store) : tb L J s C ++ X = tb L J s (C ++ X) := by unfold tb; rw [bs_app]
theorem tb_eq : tb L J s C = J.st ++ (L ++ (blk (4 + L.length) s ++ C)) := by unfold tb bs; rw [jl_len]; simp
theorem tb_at (i : Nat) : (tb L J s C)[11 + L.length + i]? = C[i]? := by
  have e : tb L J s C = (J.st ++ L ++ blk (4 + L.length) s) ++ C := by rw [tb_eq]; simp
  have hl : (J.st ++ L ++ blk (4 + L.length) s).length = 11 + L.length := by rw [List.length_append, jl_len, blk_len]; omega
  rw [e, ← hl, ap_get]
theorem tb_at0 : (tb L J s C)[11 + L.length]? = C[0]? := tb_at J s C 0
theorem tb_set (i : Nat) (m : M) : (tb L J s C).set (11 + L.length + i) m = tb L J s (C.set i m) := by
  have e : ∀ C, tb L J s C = (J.st ++ L ++ blk (4 + L.length) s) ++ C := fun C => by rw [tb_eq]; simp
  have hl : (J.st ++ L ++ blk (4 + L.length) s).length = 11 + L.length := by rw [List.length_append, jl_len, blk_len]; omega
  rw [e C, ← hl, ap_set, ← e]
theorem tb_set0 (m : M) : (tb L J s C).set (11 + L.length) m = tb L J s (C.set 0 m) := tb_set J s C 0 m
theorem tb_L {i : Nat} (h : i < L.length) : (tb L J s C)[4 + i]? = L[i]? := by
  rw [tb_eq]
  have := ap_get J.st (L ++ (blk (4 + L.length) s ++ C)) i
  rw [jst_len] at this
  rw [this, List.getElem?_append_left h]
theorem tb_last (m : M) : (tb L J s (C ++ [m]))[11 + L.length + C.length]? = some m := by rw [tb_at, ap_get0]; rfl
theorem tb_draw {J : Jar} {n : Nat} (h : J.Ok n) (hn : n ≤ 10000) (m : Nat) (hm : 1 ≤ m) (hm2 : m ≤ 1000) (s : BSt) (C : Store) (k : Nat) :
    ∃ (d : Nat) (J' : Jar), d < m ∧ J'.Ok (n + 1) ∧ callK pdat.p (k + 1) 47 [.obj 3, .int (m : Nat)] (tb L J s C) = .ok (.int (d : Nat)) (tb L J' s C) := by
  obtain ⟨d, J', h1, h2, _, h3⟩ := s_draw h hn m hm hm2 (L ++ (blk (4 + L.length) s ++ C)) k
  exact ⟨d, J', h1, h2, by rw [tb_eq, tb_eq]; exact h3⟩
theorem rest_tb (hL : Pu L) (hC : Pu C) : Rest (J.st ++ L) C := by
  refine ⟨?_, hC.lo _⟩
  have h := jar_lo J hL
  unfold Lo at h
  exact all_mono (by omega) _ h
theorem tb_lo (hL : Pu L) (hC : Pu C) : Lo (tb L J s C) := bs_lo (rest_tb J C hL hC) s
theorem tb_gc (hL : Pu L) (hC : Pu C) (X : Store) : gc (11 + L.length + C.length) true (tb L J s C ++ X) = tb L J s C := by
  have := gc_app (J := X) (tb_lo J s C hL hC)
  rw [tb_len] at this; exact this
theorem tb_gc2 (hL : Pu L) (hC : Pu C) (X : Store) : gc (11 + L.length + C.length) true (tb L J s (C ++ X)) = tb L J s C := by rw [← tb_app]; exact tb_gc J s C hL hC X
theorem tb_m {f : Nat} {i : Nat} (h : methD pdat.p (.obj (J.st ++ L).length) f (bs (J.st ++ L) s C) = some i) : methD pdat.p (.obj (4 + L.length)) f (tb L J s C) = some i := by rw [jl_len] at h; exact h
theorem tm11 : methD pdat.p (.obj (4 + L.length)) 11 (tb L J s C) = some 34 := tb_m J s C (m11 _ _ _)
theorem tm12 : methD pdat.p (.obj (4 + L.length)) 12 (tb L J s C) = some 35 := tb_m J s C (m12 _ _ _)
theorem tm13 : methD pdat.p (.obj (4 + L.length)) 13 (tb L J s C) = some 36 := tb_m J s C (m13 _ _ _)
theorem tm15 : methD pdat.p (.obj (4 + L.length)) 15 (tb L J s C) = some 38 := tb_m J s C (m15 _ _ _)
theorem tm16 : methD pdat.p (.obj (4 + L.length)) 16 (tb L J s C) = some 39 := tb_m J s C (m16 _ _ _)
theorem tm17 : methD pdat.p (.obj (4 + L.length)) 17 (tb L J s C) = some 40 := tb_m J s C (m17 _ _ _)
variable {s C} (hL : Pu L) (hC : Pu C)
include hL hC
theorem tb_number (hB : BOk s) (q : Qq) (h : Short q) (k : Nat) : callK pdat.p (k + 8) 35 [.obj (4 + L.length), rq q] (tb L J s C) = .ok (.int (s.at (.num q) : Nat)) (tb L J (s.place (.num q)) C) := by
  have := s_number (rest_tb J C hL hC) s hB q h k
  rw [jl_len] at this; exact this
theorem tb_keep (i : Nat) (h : s.conds.length < 12) (k : Nat) : callK pdat.p (k + 1) 38 [.obj (4 + L.length), .int (i : Nat)] (tb L J s C) = .ok .non (tb L J { s with conds := s.conds ++ [i] } C) := by
  have := s_keep (rest_tb J C hL hC) s i h k
  rw [jl_len] at this; exact this
theorem tb_least (i : Nat) (k : Nat) : callK pdat.p (k + 1) 39 [.obj (4 + L.length), .int (i : Nat)] (tb L J s C) = .ok .non (tb L J { s with goal := some i } C) := by
  have := s_least (A := J.st ++ L) (C := C) s i k
  rw [jl_len] at this; exact this
theorem tb_abs (hB : BOk s) (i : Nat) (hi : i < s.nodes.length) (hw : s.ws.getD i 0 + 1 ≤ 40) (hnn : (s.nodes.getD i (.letter 0)).isNum = false) (k : Nat) :
    callK pdat.p (k + 8) 36 [.obj (4 + L.length), .str "abs", .int (i : Nat)] (tb L J s C) = .ok (.int (s.at (.abs i) : Nat)) (tb L J (s.place (.abs i)) C) := by
  have := s_nodeAbs (rest_tb J C hL hC) s hB i hi hw hnn k
  rw [jl_len] at this; exact this
theorem tb_pow (hB : BOk s) (i n : Nat) (hi : i < s.nodes.length) (h2 : 2 ≤ n) (h6 : n ≤ 6) (hw : s.ws.getD i 0 * n ≤ 40) (hnn : (s.nodes.getD i (.letter 0)).isNum = false) (k : Nat) :
    callK pdat.p (k + 8) 36 [.obj (4 + L.length), .str "pow", .int (i : Nat), .int (n : Nat)] (tb L J s C) = .ok (.int (s.at (.pow i n) : Nat)) (tb L J (s.place (.pow i n)) C) := by
  have := s_nodePow (rest_tb J C hL hC) s hB i n hi h2 h6 hw hnn k
  rw [jl_len] at this; exact this
theorem tb_op (hB : BOk s) (o : Op) (i j : Nat) (hi : i < s.nodes.length) (hj : j < s.nodes.length) (hw : s.ws.getD i 0 + s.ws.getD j 0 ≤ 40) (hnn : (s.nodes.getD i (.letter 0)).isNum = false)
    (hz : o = .div → 0 < (s.ranges.getD j i0).1.1 ∨ (s.ranges.getD j i0).2.1 < 0) (hd : (Nd.op o i j).di s.ranges) (k : Nat) :
    callK pdat.p (k + 8) 36 [.obj (4 + L.length), .str o.s, .int (i : Nat), .int (j : Nat)] (tb L J s C) = .ok (.int (s.at (mkOp o i j) : Nat)) (tb L J (s.place (mkOp o i j)) C) := by
  have := s_nodeOp (rest_tb J C hL hC) s hB o i j hi hj hw hnn hz hd k
  rw [jl_len] at this; exact this
theorem tb_letter (hB : BOk s) (r : Row) (hr : ROk s r) (h3 : s.rows.length < 3) (hf : s.nodes.length < 100) (k : Nat) (hv : Named r.name) :
    callK pdat.p (k + 8) 34 [.obj (4 + L.length), .str r.name, .str (kindS r.whole), rq r.v.1, rq r.v.2] (tb L J s C) = .ok (.int (({ s with rows := s.rows ++ [r] } : BSt).at (.letter s.rows.length) : Nat)) (tb L J (({ s with rows := s.rows ++ [r] } : BSt).place (.letter s.rows.length)) C) := by
  have := s_letter (rest_tb J C hL hC) s hB r hr h3 hf k (fun S => s_valid hv (k + 6) S)
  rw [jl_len] at this; exact this
end
end Z
end

section
set_option Elab.async false
set_option linter.all false
set_option maxRecDepth 100000
/-! NE: the law's terms: the letters. -/
namespace Z
open PySem
structure Tm where
  i : Nat
  q : Qq
  w : Nat
  b : Bool
  u : List Nat
def tmD (t : Tm) : D := .tup [.int (t.i : Nat), rq t.q, .int (t.w : Nat), .bl t.b, utup t.u]
theorem lo_tm (n : Nat) (t : Tm) : (tmD t).lo n = true := by
  unfold tmD
  show D.los n _ = true
  have := lo_utup n t.u
  unfold D.los
  simp only [D.los, this, lo_rq]
  rfl
theorem pu_tms (l : List Tm) : Pu [.lst (l.map tmD)] := pu_lst tmD (lo_tm 0) l
def ltN (i : Nat) : List Nd := (List.range i).map .letter
def bL (rows : List Row) (i : Nat) : BSt := ⟨rows.take i, ltN i, ltN i, (rows.take i).map (·.v), List.replicate i 1, [], none⟩
def tL (pts : List Qq) (i : Nat) : List Tm := (List.range i).map fun k => ⟨k, pts.getD k q0, 1, true, [k]⟩
theorem ltN_len (i : Nat) : (ltN i).length = i := by unfold ltN; simp
theorem ltN_get {i k : Nat} (h : k < i) : (ltN i)[k]? = some (.letter k) := by
  unfold ltN; rw [List.getElem?_map, List.getElem?_range h]; rfl
theorem ltN_succ (i : Nat) : ltN (i + 1) = ltN i ++ [.letter i] := by unfold ltN; rw [List.range_succ, List.map_append]; rfl
theorem ltN_ix {i k : Nat} (h : k < i) : ixN (ltN i) (.letter k) = some k := by
  unfold ixN
  rw [List.findIdx?_eq_some_iff_getElem]
  refine ⟨by rw [ltN_len]; exact h, ?_, fun j hj => ?_⟩
  · have := ltN_get h
    rw [List.getElem?_eq_getElem (by rw [ltN_len]; exact h)] at this
    simp [Option.some.inj this]
  · have h2 : j < i := by omega
    have := ltN_get h2
    rw [List.getElem?_eq_getElem (by rw [ltN_len]; exact h2)] at this
    simp [Option.some.inj this]; omega
theorem ltN_none (i : Nat) : ixN (ltN i) (.letter i) = none := by
  unfold ixN
  rw [List.findIdx?_eq_none_iff]
  intro x hx
  unfold ltN at hx
  obtain ⟨k, hk, rfl⟩ := List.mem_map.mp hx
  have := List.mem_range.mp hk
  simp; omega
section
variable {rows : List Row}
theorem take_succ' {α : Type} {l : List α} {i : Nat} {r : α} (h : l[i]? = some r) : l.take (i + 1) = l.take i ++ [r] := by rw [List.take_succ, h]; rfl
theorem bL_step {i : Nat} {r : Row} (h : rows[i]? = some r) : ({ bL rows i with rows := (bL rows i).rows ++ [r] } : BSt).place (.letter i) = bL rows (i + 1) ∧ ({ bL rows i with rows := (bL rows i).rows ++ [r] } : BSt).at (.letter i) = i := by
  have hi := (List.getElem?_eq_some_iff.mp h).1
  have hn : ixN (bL rows i).nodes (.letter i) = none := ltN_none i
  have ht := take_succ' h
  have e1 : (Nd.letter i).iv ((rows.take i).map (·.v)) ((rows.take i ++ [r]).map (·.v)) = r.v := by
    show ((rows.take i ++ [r]).map (·.v)).getD i i0 = r.v
    rw [List.map_append]
    have : ((rows.take i).map (·.v)).length = i := by rw [List.length_map, List.length_take]; omega
    have h2 := getD_app_eq ((rows.take i).map (·.v)) r.v i0
    rw [this] at h2; exact h2
  refine ⟨?_, ?_⟩
  · unfold BSt.place
    dsimp only
    rw [hn]
    unfold bL BSt.box
    dsimp only
    rw [ltN_succ, ht, e1, List.map_append, List.replicate_succ']
    rfl
  · unfold BSt.at
    dsimp only
    rw [hn]
    exact ltN_len i
theorem bL_ok (hl : rows.length ≤ 3) (hg : ∀ r ∈ rows, RGood r) (i : Nat) (hi : i ≤ rows.length) : BOk (bL rows i) := by
  have ht : (rows.take i).length = i := by rw [List.length_take]; omega
  refine ⟨rfl, ?_, ?_, ?_, ?_, ?_, ?_, ?_⟩
  · show ((rows.take i).map (·.v)).length = (ltN i).length
    rw [List.length_map, ht, ltN_len]
  · show (List.replicate i 1).length = (ltN i).length
    rw [List.length_replicate, ltN_len]
  · show (ltN i).length ≤ 100
    rw [ltN_len]; omega
  · show (rows.take i).length ≤ 3
    omega
  · intro j hj
    have hj : j < (List.replicate i 1).length := hj
    rw [List.length_replicate] at hj
    show (List.replicate i 1).getD j 0 ≤ 40
    simp [List.getD, List.getElem?_replicate, hj]
  · intro j hj
    have hj : j < ((rows.take i).map (·.v)).length := hj
    rw [List.length_map, ht] at hj
    have e : (List.replicate i 1).getD j 0 = 1 := by simp [List.getD, List.getElem?_replicate, hj]
    show 1 ≤ (List.replicate i 1).getD j 0 ∧ InI (16 * (List.replicate i 1).getD j 0 - 1) (((rows.take i).map (·.v)).getD j i0)
    rw [e]
    refine ⟨Nat.le_refl _, ?_⟩
    have hjr : j < rows.length := by omega
    have e2 : ((rows.take i).map (·.v)).getD j i0 = (rows[j]).v := by
      simp [List.getD, List.getElem?_take, hj, List.getElem?_eq_getElem hjr]
    rw [e2]
    exact (hg _ (List.getElem_mem hjr)).z.mono (by decide)
  · intro j hj
    have hj : j < (rows.take i).length := hj
    rw [ht] at hj
    have hjr : j < rows.length := by omega
    show InI 15 (((rows.take i).map (·.v)).getD j i0)
    have e2 : ((rows.take i).map (·.v)).getD j i0 = (rows[j]).v := by
      simp [List.getD, List.getElem?_take, hj, List.getElem?_eq_getElem hjr]
    rw [e2]
    exact (hg _ (List.getElem_mem hjr)).z.mono (by decide)
theorem bL_row {start : Nat} (hs : start < 2) (hl : rows.length ≤ 3) (hlt : lets start rows) {i : Nat} {r : Row} (h : rows[i]? = some r) : ROk (bL rows i) r := by
  obtain ⟨hn, hg⟩ := hlt i r h
  have hi := (List.getElem?_eq_some_iff.mp h).1
  have hz := hg.z
  refine ⟨fun q hq e => ?_, (rv_le hz.l.p hz.h.p).mpr hg.le, hg.wh, short_of (hz.l.mono (by decide)), short_of (hz.h.mono (by decide)), hz.mono (by decide)⟩
  have hq : q ∈ rows.take i := hq
  obtain ⟨j, hj⟩ := List.mem_iff_getElem?.mp hq
  have hji : j < i := by
    have := (List.getElem?_eq_some_iff.mp hj).1
    rw [List.length_take] at this; omega
  rw [List.getElem?_take_of_lt hji] at hj
  have hqn := (hlt j q hj).1
  rw [hqn, hn] at e
  have := nm_inj (start + j) (by omega) (start + i) (by omega) e
  omega
theorem bL_sem {pts : List Qq} (hl : rows.length ≤ 3) (hg : ∀ r ∈ rows, RGood r) (hp : pts.length = rows.length) (hpg : ∀ j r, rows[j]? = some r → PGood r (pts.getD j q0)) :
    Sem rows.length (bL rows rows.length) pts pts ((List.range rows.length).map fun k => [k]) := by
  have hn : ∀ (i : Nat) (n : Nd), (bL rows rows.length).nodes[i]? = some n → i < rows.length ∧ n = .letter i := fun i n h => by
    have h : (ltN rows.length)[i]? = some n := h
    have hi := (List.getElem?_eq_some_iff.mp h).1
    rw [ltN_len] at hi
    rw [ltN_get hi] at h
    exact ⟨hi, (Option.some.inj h).symm⟩
  have hr : (bL rows rows.length).rows = rows := List.take_length
  have hlen : (bL rows rows.length).nodes.length = rows.length := ltN_len _
  have hus : ∀ i, i < rows.length → ((List.range rows.length).map fun k => [k]).getD i [] = [i] := fun i hi => by
    simp [List.getD, List.getElem?_range hi]
  have hws : ∀ i, i < rows.length → (bL rows rows.length).ws.getD i 0 = 1 := fun i hi => by
    show (List.replicate rows.length 1).getD i 0 = 1
    simp [List.getD, List.getElem?_replicate, hi]
  have hrg : ∀ i, i < rows.length → (bL rows rows.length).ranges.getD i i0 = (rows.map (·.v)).getD i i0 := fun i hi => by
    show ((rows.take rows.length).map (·.v)).getD i i0 = _
    rw [List.take_length]
  have hpgi : ∀ i, i < rows.length → Inn (pts.getD i q0) ((rows.map (·.v)).getD i i0) ∧ In 15 (pts.getD i q0) ∧ Low (pts.getD i q0) := fun i hi => by
    have := hpg i rows[i] (List.getElem?_eq_getElem hi)
    have e : (rows.map (·.v)).getD i i0 = rows[i].v := by simp [List.getD, List.getElem?_eq_getElem hi]
    rw [e]
    exact ⟨this.inn, this.z, this.low⟩
  refine ⟨bL_ok hl hg _ (Nat.le_refl _), ?_, by rw [hlen, hp], by rw [hlen]; simp, by rw [hr], hp, ?_, ?_, ?_, ?_, ?_, ?_, ?_, ?_, ?_, ?_, ?_, ?_, ?_⟩
  · intro k hk; rw [hr] at hk; exact ltN_ix hk
  · intro i n h; obtain ⟨h1, rfl⟩ := hn i n h; rw [hr]; exact h1
  · intro i n h; obtain ⟨h1, rfl⟩ := hn i n h; rfl
  · intro i n h; obtain ⟨h1, rfl⟩ := hn i n h; exact (hus i h1).symm
  · intro i n h; obtain ⟨h1, rfl⟩ := hn i n h; exact (hws i h1).symm
  · intro i n h; obtain ⟨h1, rfl⟩ := hn i n h; trivial
  · intro i v h; obtain ⟨h1, h2⟩ := hn i _ h; cases h2
  · intro i h; rw [hlen] at h; rw [hrg i h]; exact (hpgi i h).1
  · intro i h; rw [hlen] at h; rw [hws i h]; exact ⟨Nat.le_refl _, (hpgi i h).2.1⟩
  · intro i h; rw [hlen] at h; exact (hpgi i h).2.2
  · intro i h; rw [hlen] at h; rw [hus i h]; exact List.pairwise_singleton _ _
  · intro i h x hx; rw [hlen] at h; rw [hus i h, List.mem_singleton] at hx; subst hx; exact h
  · show (ltN rows.length).Nodup
    unfold ltN
    show List.Pairwise _ _
    rw [List.pairwise_map]
    exact List.nodup_range.imp (fun h e => h (by cases e; rfl))
  · intro k hk
    rw [hr] at hk
    have e : (bL rows rows.length).box = rows.map (·.v) := by
      show (rows.take rows.length).map (·.v) = _
      rw [List.take_length]
    rw [e]
    exact hpgi k hk
theorem terms_letters {start : Nat} (hs : start < 2) (hl : rows.length ≤ 3) (hlt : lets start rows) {pts : List Qq} (hp : pts.length = rows.length) {N : M} {K : Store} (hN : Pu [N]) (hK : Pu K) (J : Jar) (k : Nat) (ρt : Env) (hρt : ρt = List.replicate 12 none) :
    ∃ u5 u6 u7 u8 u9, forL ⟨none, rng 0 rows.length⟩ (.one 5) (execs pdat.p (callK pdat.p (k + 8)) (.cons (.asg (.g (.many [6, 7, 8, 9])) (.ix (.v 1) (.v 5))) 
   (.cons (.expr (.bm (.v 4) .append (.cons (.tup (.cons (.meth (.v 3) 11 (.cons (.v 6) (.cons (.v 7) (.cons (.v 8) (.cons (.v 9) .nil))))) (.cons (.ix (.v 2) (.v 5)) (.cons (.k (.int (1))) (.cons (.k (.bl true)) (.cons (.tup (.cons (.v 5) .nil)) .nil)))))) .nil))) .nil))) (rng 0 rows.length) [some (.obj 3), some (.obj 5), some (.tup (pts.map rq)), some (.obj (4 + (N :: .lst (rows.map rowD) :: K).length)), some (.obj (11 + (N :: .lst (rows.map rowD) :: K).length)), none, none, none, none, none, none, none, none, none, none, none, none] (tb (N :: .lst (rows.map rowD) :: K) J (bL rows 0) [.lst []]) =
    .nx [some (.obj 3), some (.obj 5), some (.tup (pts.map rq)), some (.obj (4 + (N :: .lst (rows.map rowD) :: K).length)), some (.obj (11 + (N :: .lst (rows.map rowD) :: K).length)), u5, u6, u7, u8, u9, none, none, none, none, none, none, none] (tb (N :: .lst (rows.map rowD) :: K) J (bL rows rows.length) [.lst ((tL pts rows.length).map tmD)]) := by
  have hX : Pu (N :: .lst (rows.map rowD) :: K) := hN.app (Pu.app (J := [.lst (rows.map rowD)]) (pu_lst rowD (lo_row 0) rows) hK)
  have h5 : ∀ s C, (tb (N :: .lst (rows.map rowD) :: K) J s C)[5]? = some (.lst (rows.map rowD)) := fun s C => tb_L (i := 1) J s C (by simp)
  generalize hLL : (N :: M.lst (rows.map rowD) :: K) = L at *
  obtain ⟨ρ', S', hfor, u5, u6, u7, u8, u9, hρ, hS⟩ := forL_inv (src := ⟨none, rng 0 rows.length⟩) (g := .one 5) (b := execs pdat.p (callK pdat.p (k + 8)) (.cons (.asg (.g (.many [6, 7, 8, 9])) (.ix (.v 1) (.v 5))) 
   (.cons (.expr (.bm (.v 4) .append (.cons (.tup (.cons (.meth (.v 3) 11 (.cons (.v 6) (.cons (.v 7) (.cons (.v 8) (.cons (.v 9) .nil))))) (.cons (.ix (.v 2) (.v 5)) (.cons (.k (.int (1))) (.cons (.k (.bl true)) (.cons (.tup (.cons (.v 5) .nil)) .nil)))))) .nil))) .nil)))
    (fun i ρ T => ∃ u5 u6 u7 u8 u9, ρ = [some (.obj 3), some (.obj 5), some (.tup (pts.map rq)), some (.obj (4 + L.length)), some (.obj (11 + L.length)), u5, u6, u7, u8, u9, none, none, none, none, none, none, none] ∧ T = tb L J (bL rows i) [.lst ((tL pts i).map tmD)]) (rng 0 rows.length) (fun i d ρ T hd ⟨u5, u6, u7, u8, u9, hρ, hT⟩ => by
      obtain ⟨hi, rfl⟩ := rng_get hd
      subst hρ hT
      have er := List.getElem?_eq_getElem hi
      generalize rows[i] = r at er
      obtain ⟨hn, hg⟩ := hlt i r er
      have hgall : ∀ r ∈ rows, RGood r := fun r hr => by
        obtain ⟨j, hj⟩ := List.mem_iff_getElem?.mp hr
        exact (hlt j r hj).2
      have hB := bL_ok hl hgall i (by omega)
      have hrl : (bL rows i).rows.length = i := by show (rows.take i).length = i; rw [List.length_take]; omega
      have hnl : (bL rows i).nodes.length = i := ltN_len i
      have hlet := tb_letter J hX (pu_tms (tL pts i)) hB r (bL_row hs hl hlt er) (by omega) (by omega) k (hn ▸ nm_named _)
      rw [hrl] at hlet
      obtain ⟨st1, st2⟩ := bL_step er
      rw [st1, st2] at hlet
      have hix : ixD (.obj 5) (.int (i : Nat)) (tb L J (bL rows i) [.lst ((tL pts i).map tmD)]) = .ok (rowD r) (tb L J (bL rows i) [.lst ((tL pts i).map tmD)]) := by
        rw [ixD_lst _ (h5 _ _), atI_nat, List.getElem?_map, er]; rfl
      have hpx : L2.atI (pts.map rq) (i : Int) = _ := get_map rq pts q0 (by omega)
      have hbt : bmT .append (.obj (11 + L.length)) (tb L J (bL rows i) [.lst ((tL pts i).map tmD)]) = true := bmT_app (ds := (tL pts i).map tmD) (by rw [tb_at0]; rfl)
      have htl : tL pts (i + 1) = tL pts i ++ [⟨i, pts.getD i q0, 1, true, [i]⟩] := by unfold tL; rw [List.range_succ, List.map_append]; rfl
      have hap : bmD .append (.obj (11 + L.length)) [tmD ⟨i, pts.getD i q0, 1, true, [i]⟩] (tb L J (bL rows (i + 1)) [.lst ((tL pts i).map tmD)]) = .ok .non (tb L J (bL rows (i + 1)) [.lst ((tL pts (i + 1)).map tmD)]) := by
        rw [append_ok (ds := (tL pts i).map tmD) (by rw [tb_at0]; rfl) (by rw [List.length_map]; unfold tL; rw [List.length_map, List.length_range]; exact ln _ (by omega)), tb_set0, htl]; simp
      have hmt : methD pdat.p (.obj (4 + L.length)) 11 (tb L J (bL rows i) [.lst ((tL pts i).map tmD)]) = some 34 := tm11 _ _ _
      refine ⟨rfl, _, rfl, _, _, .inl ?_, some (.int (0 + i)), some (.str r.name), some (.str (kindS r.whole)), some (rq r.v.1), some (rq r.v.2), rfl, rfl⟩
      have etm : D.tup [.int (i : Nat), rq (pts.getD i q0), .int 1, .bl true, .tup [.int (i : Nat)]] = tmD ⟨i, pts.getD i q0, 1, true, [i]⟩ := rfl
      rw [← etm] at hap
      generalize tb L J (bL rows i) [.lst ((tL pts i).map tmD)] = T1 at *
      generalize tb L J (bL rows (i + 1)) [.lst ((tL pts i).map tmD)] = T2 at *
      generalize tb L J (bL rows (i + 1)) [.lst ((tL pts (i + 1)).map tmD)] = T3 at *
      generalize pts.getD i q0 = pq at *
      have hbg : ∀ (a b c d : D) (x0 x1 x2 x3 x4 x5 x6 x7 x8 x9 y0 y1 y2 y3 y4 y5 y6 : Option D), bindG (.many [6, 7, 8, 9]) (.tup [a, b, c, d]) [x0, x1, x2, x3, x4, x5, x6, x7, x8, x9, y0, y1, y2, y3, y4, y5, y6] = some [x0, x1, x2, x3, x4, x5, some a, some b, some c, some d, y0, y1, y2, y3, y4, y5, y6] := fun _ _ _ _ _ _ _ _ _ _ _ _ _ _ _ _ _ _ _ _ _ => rfl
      have hrow : rowD r = .tup [.str r.name, .str (kindS r.whole), rq r.v.1, rq r.v.2] := rfl
      rw [hrow] at hix
      simp [hix, hbg, hbt, hmt, hlet, hpx, hap]) (fun _ _ _ => rfl) (ρ := [some (.obj 3), some (.obj 5), some (.tup (pts.map rq)), some (.obj (4 + L.length)), some (.obj (11 + L.length)), none, none, none, none, none, none, none, none, none, none, none, none]) (S := tb L J (bL rows 0) [.lst []]) ⟨none, none, none, none, none, rfl, rfl⟩
  subst hρ hS
  rw [rng_length] at hfor
  exact ⟨u5, u6, u7, u8, u9, hfor⟩
end
end Z
end

section
set_option Elab.async false
set_option linter.all false
set_option maxRecDepth 100000
/-! NF: the law's terms: what holds between turns. -/
namespace Z
open PySem
structure TOk (s : BSt) (fs : List Qq) (us : List (List Nat)) (t : Tm) : Prop where
  i : t.i < s.nodes.length
  q : fs.getD t.i q0 = t.q
  u : us.getD t.i [] = t.u
  w : s.ws.getD t.i 0 ≤ t.w
  w1 : 1 ≤ t.w
  w40 : t.w ≤ 40
  n : t.b = true → (s.nodes.getD t.i (.letter 0)).isNum = false
structure St (rows : List Row) (pts : List Qq) (s : BSt) (fs : List Qq) (us : List (List Nat)) (T : List Tm) (nb : Nat) : Prop where
  sem : Sem rows.length s pts fs us
  t : ∀ t ∈ T, TOk s fs us t
  r : s.rows = rows
  c : s.conds = []
  nl : s.nodes.length ≤ nb
  tl : T.length ≤ nb
  t1 : 1 ≤ T.length
theorem St.mono {rows pts s fs us T nb nb'} (h : St rows pts s fs us T nb) (l : nb ≤ nb') : St rows pts s fs us T nb' := ⟨h.sem, h.t, h.r, h.c, Nat.le_trans h.nl l, Nat.le_trans h.tl l, h.t1⟩
theorem TOk.place {ℓ : Nat} {s : BSt} {pts fs : List Qq} {us : List (List Nat)} {t : Tm} (h : TOk s fs us t) (hs : Sem ℓ s pts fs us) (n : Nd) : TOk (s.place n) (fsP s pts fs n) (usP ℓ s us n) t := by
  unfold fsP usP BSt.place
  cases hx : ixN s.nodes n with
  | some j => exact h
  | none =>
    have hlw := hs.b.lw
    have hlf := hs.lf
    have hlu := hs.lu
    have hi := h.i
    refine ⟨?_, ?_, ?_, ?_, h.w1, h.w40, fun hb => ?_⟩
    · show t.i < (s.nodes ++ [n]).length; simp; omega
    · show (fs ++ [_]).getD t.i q0 = t.q
      rw [getD_app_lt _ _ _ (by omega)]; exact h.q
    · show (us ++ [_]).getD t.i [] = t.u
      rw [getD_app_lt _ _ _ (by omega)]; exact h.u
    · show (s.ws ++ [_]).getD t.i 0 ≤ t.w
      rw [getD_app_lt _ _ _ (by omega)]; exact h.w
    · show ((s.nodes ++ [n]).getD t.i (.letter 0)).isNum = false
      rw [getD_app_lt _ _ _ (by omega)]; exact h.n hb
theorem TOk.new {ℓ : Nat} {s : BSt} {pts fs : List Qq} {us : List (List Nat)} (hs : Sem ℓ s pts fs us) (n : Nd) {w : Nat} (hw : n.w s.ws ≤ w) (w1 : 1 ≤ w) (w40 : w ≤ 40) {b : Bool} (hb : b = true → n.isNum = false) :
    TOk (s.place n) (fsP s pts fs n) (usP ℓ s us n) ⟨s.at n, n.q fs pts, w, b, n.u ℓ us⟩ := by
  unfold fsP usP BSt.place BSt.at
  cases hx : ixN s.nodes n with
  | some j =>
    obtain ⟨hj, hjl⟩ := ixN_some hx
    refine ⟨hjl, (hs.q j n hj).symm, (hs.u j n hj).symm, ?_, w1, w40, fun h => ?_⟩
    · show s.ws.getD j 0 ≤ w
      rw [← hs.w j n hj]; exact hw
    · show (s.nodes.getD j (.letter 0)).isNum = false
      simp [List.getD, hj]; exact hb h
  | none =>
    have hlw := hs.b.lw
    have hlf := hs.lf
    have hlu := hs.lu
    refine ⟨?_, ?_, ?_, ?_, w1, w40, fun h => ?_⟩
    · show s.nodes.length < (s.nodes ++ [n]).length; simp
    · show (fs ++ [n.q fs pts]).getD s.nodes.length q0 = n.q fs pts
      rw [← hlf, getD_app_eq]
    · show (us ++ [n.u ℓ us]).getD s.nodes.length [] = n.u ℓ us
      rw [← hlu, getD_app_eq]
    · show (s.ws ++ [n.w s.ws]).getD s.nodes.length 0 ≤ w
      rw [← hlw, getD_app_eq]; exact hw
    · show ((s.nodes ++ [n]).getD s.nodes.length (.letter 0)).isNum = false
      rw [getD_app_eq]; exact hb h
theorem place_rows (s : BSt) (n : Nd) : (s.place n).rows = s.rows ∧ (s.place n).conds = s.conds ∧ (s.place n).nodes.length ≤ s.nodes.length + 1 := by
  unfold BSt.place
  cases ixN s.nodes n with
  | some j => exact ⟨rfl, rfl, by simp⟩
  | none => exact ⟨rfl, rfl, by simp⟩
section
variable {rows : List Row} {pts : List Qq} {s : BSt} {fs : List Qq} {us : List (List Nat)} {T : List Tm} {nb : Nat}
theorem St.place (h : St rows pts s fs us T nb) {n : Nd} (ho : n.ok s.nodes.length s.rows.length) (hw : n.w s.ws ≤ 40) (hd : n.dn s.nodes) (hn : ∀ v, n = .num v → In 15 v ∧ Low v) (hf : nb < 100) :
    St rows pts (s.place n) (fsP s pts fs n) (usP rows.length s us n) T (nb + 1) := by
  obtain ⟨p1, p2, p3⟩ := place_rows s n
  have := h.nl
  have := h.tl
  exact ⟨h.sem.place ho hw hd hn (by omega), fun t ht => (h.t t ht).place h.sem n, by rw [p1]; exact h.r, by rw [p2]; exact h.c, by omega, by omega, h.t1⟩
theorem St.add (h : St rows pts s fs us T nb) {n : Nd} (ho : n.ok s.nodes.length s.rows.length) {w : Nat} (hw : n.w s.ws ≤ w) (w1 : 1 ≤ w) (w40 : w ≤ 40) (hd : n.dn s.nodes) (hn : ∀ v, n = .num v → In 15 v ∧ Low v) (hf : nb < 100) {b : Bool} (hb : b = true → n.isNum = false) :
    St rows pts (s.place n) (fsP s pts fs n) (usP rows.length s us n) (T ++ [⟨s.at n, n.q fs pts, w, b, n.u rows.length us⟩]) (nb + 1) := by
  have hp := h.place ho (by omega) hd hn hf
  have := h.tl
  refine ⟨hp.sem, fun t ht => ?_, hp.r, hp.c, hp.nl, by simp; omega, by simp⟩
  rcases List.mem_append.mp ht with ht | ht
  · exact hp.t t ht
  · rw [List.mem_singleton] at ht
    subst ht
    exact TOk.new h.sem n hw w1 w40 hb
end
/-! ### the text of a turn -/
def tbOp : Ss := (.cons (.ite (.val (.cmp .LtE (.bin .Add (.ix (.v 10) (.k (.int (2)))) (.ix (.v 11) (.k (.int (2))))) (.k (.int (40))))) 
      (.cons (.asg (.g (.one 14)) (.call 50 (.cons (.v 7) (.cons (.ix (.v 10) (.k (.int (1)))) (.cons (.ix (.v 11) (.k (.int (1)))) .nil))))) 
      (.cons (.asg (.g (.one 15)) (.blt .tuple (.cons (.lc [16] (.v 16) (.one 16) (.rng (.cons (.blt .len (.cons (.v 1) .nil)) .nil)) (.or (.val (.cmp .In (.v 16) (.ix (.v 10) (.k (.int (4)))))) (.val (.cmp .In (.v 16) (.ix (.v 11) (.k (.int (4)))))))) .nil))) 
      (.cons (.expr (.bm (.v 4) .append (.cons (.tup (.cons (.meth (.v 3) 13 (.cons (.v 7) (.cons (.ix (.v 10) (.k (.int (0)))) (.cons (.ix (.v 11) (.k (.int (0)))) .nil)))) (.cons (.v 14) (.cons (.bin .Add (.ix (.v 10) (.k (.int (2)))) (.ix (.v 11) (.k (.int (2))))) (.cons (.k (.bl true)) (.cons (.v 15) .nil)))))) .nil))) .nil))) .nil) .nil)
def tbPow : Ss := (.cons (.asg (.g (.one 13)) (.bin .Add (.k (.int (2))) (.call 47 (.cons (.v 0) (.cons (.k (.int (5))) .nil))))) 
     (.cons (.ite (.val (.cmp .LtE (.bin .Mult (.ix (.v 10) (.k (.int (2)))) (.v 13)) (.k (.int (40))))) 
      (.cons (.asg (.g (.one 14)) (.call 50 (.cons (.k (.str "pow")) (.cons (.ix (.v 10) (.k (.int (1)))) (.cons (.v 13) .nil))))) 
      (.cons (.expr (.bm (.v 4) .append (.cons (.tup (.cons (.meth (.v 3) 13 (.cons (.k (.str "pow")) (.cons (.ix (.v 10) (.k (.int (0)))) (.cons (.v 13) .nil)))) (.cons (.v 14) (.cons (.bin .Mult (.ix (.v 10) (.k (.int (2)))) (.v 13)) (.cons (.k (.bl true)) (.cons (.ix (.v 10) (.k (.int (4)))) .nil)))))) .nil))) .nil)) .nil) .nil))
def tbAbs : Ss := (.cons (.ite (.val (.cmp .Lt (.ix (.v 10) (.k (.int (2)))) (.k (.int (40))))) 
     (.cons (.expr (.bm (.v 4) .append (.cons (.tup (.cons (.meth (.v 3) 13 (.cons (.k (.str "abs")) (.cons (.ix (.v 10) (.k (.int (0)))) .nil))) (.cons (.call 50 (.cons (.k (.str "abs")) (.cons (.ix (.v 10) (.k (.int (1)))) (.cons (.k (.non)) .nil)))) (.cons (.bin .Add (.ix (.v 10) (.k (.int (2)))) (.k (.int (1)))) (.cons (.k (.bl true)) (.cons (.ix (.v 10) (.k (.int (4)))) .nil)))))) .nil))) .nil) .nil) .nil)
def tb6 : S := (.ite (.val (.cmp .Eq (.v 7) (.k (.str "abs")))) tbAbs (.cons (.ite (.val (.cmp .Eq (.v 7) (.k (.str "pow")))) tbPow tbOp) .nil))
def tbDiv : Ss := (.cons (.asg (.g (.one 12)) (.call 48 (.cons (.bin .Mult (.bin .Add (.k (.int (1))) (.call 47 (.cons (.v 0) (.cons (.k (.int (9))) .nil)))) (.bin .Sub (.k (.int (1))) (.bin .Mult (.k (.int (2))) (.call 47 (.cons (.v 0) (.cons (.k (.int (2))) .nil)))))) (.cons (.bin .Add (.k (.int (1))) (.call 47 (.cons (.v 0) (.cons (.k (.int (3))) .nil)))) .nil)))) 
    (.cons (.asg (.g (.one 11)) (.tup (.cons (.meth (.v 3) 12 (.cons (.v 12) .nil)) (.cons (.v 12) (.cons (.k (.int (1))) (.cons (.k (.bl false)) (.cons (.tup .nil) .nil))))))) .nil))
def tb5 : S := (.ite (.val (.cmp .Eq (.v 7) (.k (.str "div")))) tbDiv .nil)
def tbNum : Ss := (.cons (.asg (.g (.one 12)) (.call 48 (.cons (.bin .Sub (.call 47 (.cons (.v 0) (.cons (.k (.int (41))) .nil))) (.k (.int (20)))) (.cons (.bin .Add (.k (.int (1))) (.call 47 (.cons (.v 0) (.cons (.k (.int (3))) .nil)))) .nil)))) 
    (.cons (.expr (.bm (.v 4) .append (.cons (.tup (.cons (.meth (.v 3) 12 (.cons (.v 12) .nil)) (.cons (.v 12) (.cons (.k (.int (1))) (.cons (.k (.bl false)) (.cons (.tup .nil) .nil)))))) .nil))) 
    (.cons .cont .nil)))
def tb4 : S := (.ite (.or (.val (.cmp .Eq (.v 7) (.k (.str "num")))) (.not (.val (.ix (.v 10) (.k (.int (3))))))) tbNum .nil)
def tb1 : S := (.asg (.g (.one 10)) (.ix (.v 4) (.call 47 (.cons (.v 0) (.cons (.blt .len (.cons (.v 4) .nil)) .nil)))))
def tb2 : S := (.asg (.g (.one 11)) (.ix (.v 4) (.call 47 (.cons (.v 0) (.cons (.blt .len (.cons (.v 4) .nil)) .nil)))))
def tb3 : S := (.asg (.g (.one 7)) (.ix (.lst (.cons (.k (.str "add")) (.cons (.k (.str "sub")) (.cons (.k (.str "mul")) (.cons (.k (.str "pow")) (.cons (.k (.str "abs")) (.cons (.k (.str "max")) (.cons (.k (.str "min")) (.cons (.k (.str "div")) (.cons (.k (.str "num")) .nil)))))))))) (.call 47 (.cons (.v 0) (.cons (.k (.int (9))) .nil)))))
def tmBody : Ss := .cons tb1 (.cons tb2 (.cons tb3 (.cons tb4 (.cons tb5 (.cons tb6 .nil)))))
theorem ir_terms_eq : ir__law_terms = (.cons (.asg (.g (.one 4)) (.lst .nil)) 
  (.cons (.for (.one 5) (.rng (.cons (.blt .len (.cons (.v 1) .nil)) .nil)) 
   (.cons (.asg (.g (.many [6, 7, 8, 9])) (.ix (.v 1) (.v 5))) 
   (.cons (.expr (.bm (.v 4) .append (.cons (.tup (.cons (.meth (.v 3) 11 (.cons (.v 6) (.cons (.v 7) (.cons (.v 8) (.cons (.v 9) .nil))))) (.cons (.ix (.v 2) (.v 5)) (.cons (.k (.int (1))) (.cons (.k (.bl true)) (.cons (.tup (.cons (.v 5) .nil)) .nil)))))) .nil))) .nil))) 
  (.cons (.for (.one 5) (.rng (.cons (.bin .Add (.k (.int (1))) (.call 47 (.cons (.v 0) (.cons (.k (.int (12))) .nil)))) .nil)) tmBody) 
  (.cons (.ret (.v 4)) .nil)))) := rfl
@[simp] theorem ix_tm0 (t : Tm) (S) : ixD (tmD t) (.int 0) S = .ok (.int (t.i : Nat)) S := by unfold tmD; simp
@[simp] theorem ix_tm1 (t : Tm) (S) : ixD (tmD t) (.int 1) S = .ok (rq t.q) S := by unfold tmD; simp
@[simp] theorem ix_tm2 (t : Tm) (S) : ixD (tmD t) (.int 2) S = .ok (.int (t.w : Nat)) S := by unfold tmD; simp
@[simp] theorem ix_tm3 (t : Tm) (S) : ixD (tmD t) (.int 3) S = .ok (.bl t.b) S := by unfold tmD; simp
@[simp] theorem ix_tm4 (t : Tm) (S) : ixD (tmD t) (.int 4) S = .ok (utup t.u) S := by unfold tmD; simp
theorem mk_tm (i : Nat) (q : Qq) (w : Int) (w' : Nat) (hw : w = (w' : Int)) (b : Bool) (u : List Nat) : D.tup [.int (i : Nat), rq q, .int w, .bl b, utup u] = tmD ⟨i, q, w', b, u⟩ := by subst hw; rfl
section
variable {L : Store} (J : Jar) (s : BSt) (T : List Tm) (K : Store)
theorem tb_push (t : Tm) (h : T.length ≤ 1000) : bmD .append (.obj (11 + L.length)) [tmD t] (tb L J s (.lst (T.map tmD) :: K)) = .ok .non (tb L J s (.lst ((T ++ [t]).map tmD) :: K)) := by
  rw [append_ok (ds := T.map tmD) (by rw [tb_at0]; rfl) (by rw [List.length_map]; exact ln _ h), tb_set0]; simp
theorem tb_bt : bmT .append (.obj (11 + L.length)) (tb L J s (.lst (T.map tmD) :: K)) = true := bmT_app (ds := T.map tmD) (by rw [tb_at0]; rfl)
theorem tb_ix {i : Nat} {t : Tm} (h : T[i]? = some t) : ixD (.obj (11 + L.length)) (.int (i : Nat)) (tb L J s (.lst (T.map tmD) :: K)) = .ok (tmD t) (tb L J s (.lst (T.map tmD) :: K)) := by
  rw [ixD_lst (ds := T.map tmD) _ (by rw [tb_at0]; rfl), atI_nat, List.getElem?_map, h]; rfl
theorem tb_ln : bltD .len [.obj (11 + L.length)] (tb L J s (.lst (T.map tmD) :: K)) = .ok (.int (T.length : Nat)) (tb L J s (.lst (T.map tmD) :: K)) := by
  rw [len_lst (ds := T.map tmD) (by rw [tb_at0]; rfl), List.length_map]
end
end Z
end

section
set_option Elab.async false
set_option linter.all false
set_option maxRecDepth 100000
/-! NG: the branches of a turn. -/
namespace Z
open PySem
def Shp (L : Store) (pts : List Qq) (ρ : Env) : Prop := ∃ x5 x6 x7 x8 x9 x10 x11 x12 x13 x14 x15 x16 : Option D, ρ = [some (.obj 3), some (.obj 5), some (.tup (pts.map rq)), some (.obj (4 + L.length)), some (.obj (11 + L.length)), x5, x6, x7, x8, x9, x10, x11, x12, x13, x14, x15, x16]
def Out (L : Store) (rows : List Row) (pts : List Qq) (nb jn : Nat) (r : RS) : Prop := ∃ J s fs us T K ρ, (r = .nx ρ (tb L J s (.lst (T.map tmD) :: K)) ∨ r = .ct ρ (tb L J s (.lst (T.map tmD) :: K))) ∧ Shp L pts ρ ∧ St rows pts s fs us T nb ∧ Pu K ∧ J.Ok jn
theorem in_utup (x : Nat) (u : List Nat) (S) : cmpD .In (.int (x : Nat)) (utup u) S = .ok (.bl (decide (x ∈ u))) S := by
  unfold utup
  rw [in_tupD rfl (by unfold nats; rw [List.all_map]; exact List.all_eq_true.mpr fun _ _ => rfl)]
  congr 2
  unfold nats
  rw [List.any_map]
  induction u with
  | nil => rfl
  | cons a u ih =>
    rw [List.any_cons, ih]
    by_cases h : a = x
    · subst h; simp
    · have h1 : ¬ x = a := fun e => h e.symm
      have h2 : ¬ (D.int (a : Nat) = D.int (x : Nat)) := fun e => by injection e with e; omega
      simp [h1, h2]
theorem ext_sortedN {l m : List Nat} (hl : l.Pairwise (· < ·)) (hm : m.Pairwise (· < ·)) (h : ∀ x, x ∈ l ↔ x ∈ m) : l = m := by
  have e := ext_sorted (l := l.map fun (a : Nat) => (a : Int)) (m := m.map fun (a : Nat) => (a : Int)) (by rw [List.pairwise_map]; exact hl.imp (fun h => by omega)) (by rw [List.pairwise_map]; exact hm.imp (fun h => by omega)) (fun x => by
    rw [List.mem_map, List.mem_map]
    exact ⟨fun ⟨a, ha, q⟩ => ⟨a, (h a).mp ha, q⟩, fun ⟨a, ha, q⟩ => ⟨a, (h a).mpr ha, q⟩⟩)
  have e2 := congrArg (List.map Int.toNat) e
  rw [List.map_map, List.map_map] at e2
  have e3 : (Int.toNat ∘ fun (a : Nat) => (a : Int)) = id := by funext a; simp
  rw [e3, List.map_id, List.map_id] at e2
  exact e2
theorem filt_self {ℓ : Nat} {u : List Nat} (h : u.Pairwise (· < ·)) (hb : ∀ x ∈ u, x < ℓ) : (List.range ℓ).filter (fun x => decide (x ∈ u ∨ x ∈ u)) = u := by
  refine ext_sortedN (List.Pairwise.filter _ List.pairwise_lt_range) h (fun x => ?_)
  rw [List.mem_filter, List.mem_range]
  simp only [or_self, decide_eq_true_eq]
  exact ⟨fun h => h.2, fun h => ⟨hb x h, h⟩⟩
section
variable {L : Store} {rows : List Row} {pts : List Qq} {s : BSt} {fs : List Qq} {us : List (List Nat)} {T : List Tm} {nb jn : Nat} {K : Store} {J : Jar}
variable (hX : Pu L) (h : St rows pts s fs us T nb) (hnb : nb < 90) (hK : Pu K)
include hX h hnb hK
theorem tm_pu : Pu (.lst (T.map tmD) :: K) := Pu.app (J := [.lst (T.map tmD)]) (pu_tms T) hK
theorem tm_in {t : Tm} (ht : TOk s fs us t) : In 640 t.q ∧ Low t.q := by
  have h1 := (h.sem.sz t.i ht.i).2
  have h2 := h.sem.low t.i ht.i
  have h3 := ht.w
  have h4 := ht.w40
  rw [ht.q] at h1 h2
  exact ⟨h1.mono (by omega), h2⟩
theorem tm_abs {one : Tm} (h1 : TOk s fs us one) (hb : one.b = true) (hJ : J.Ok jn) (k : Nat) (x5 x6 x7 x8 x9 x11 x12 x13 x14 x15 x16 : Option D) :
    Out L rows pts (nb + 1) jn (execs pdat.p (callK pdat.p (k + 8)) tbAbs [some (.obj 3), some (.obj 5), some (.tup (pts.map rq)), some (.obj (4 + L.length)), some (.obj (11 + L.length)), x5, x6, x7, x8, x9, some (tmD one), x11, x12, x13, x14, x15, x16] (tb L J s (.lst (T.map tmD) :: K))) := by
  unfold tbAbs
  have hnl := h.nl
  have htl := h.tl
  have hw1 := h1.w
  by_cases hw : one.w < 40
  · have hab := tb_abs J hX (tm_pu hX h hnb hK) h.sem.b one.i h1.i (by omega) (h1.n hb) k
    have hap : ∀ S, callK pdat.p (k + 8) 50 [.str "abs", rq one.q, .non] S = _ := fun S => s_applyAbs one.q (k + 6) S
    have hst := h.add (n := .abs one.i) h1.i (w := one.w + 1) (by show s.ws.getD one.i 0 + 1 ≤ one.w + 1; omega) (by omega) (by omega) trivial (fun v e => by cases e) (by omega) (b := true) (fun _ => rfl)
    have eq1 : (Nd.abs one.i).q fs pts = qabs one.q := by show qabs (fs.getD one.i q0) = _; rw [h1.q]
    have eu1 : (Nd.abs one.i).u rows.length us = one.u := h1.u
    rw [eq1, eu1] at hst
    have hpu := tb_push J (s.place (.abs one.i)) T K ⟨s.at (.abs one.i), qabs one.q, one.w + 1, true, one.u⟩ (L := L) (by omega)
    have hbt := tb_bt J s T K (L := L)
    have hm := tm13 J s (.lst (T.map tmD) :: K) (L := L)
    refine ⟨J, _, _, _, _, K, _, .inl ?_, ⟨x5, x6, x7, x8, x9, some (tmD one), x11, x12, x13, x14, x15, x16, rfl⟩, hst, hK, hJ⟩
    have d : decide ((one.w : Int) < 40) = true := decide_eq_true (by omega)
    have etm := mk_tm (s.at (.abs one.i)) (qabs one.q) ((one.w : Int) + 1) (one.w + 1) (by push_cast; rfl) true one.u
    generalize tmD ⟨s.at (.abs one.i), qabs one.q, one.w + 1, true, one.u⟩ = tt at *
    generalize tb L J s (.lst (T.map tmD) :: K) = S1 at *
    generalize tb L J (s.place (.abs one.i)) (.lst (T.map tmD) :: K) = S2 at *
    simp [d, hbt, hm, hab, hap, etm, hpu]
  · refine ⟨J, _, _, _, _, K, _, .inl ?_, ⟨x5, x6, x7, x8, x9, some (tmD one), x11, x12, x13, x14, x15, x16, rfl⟩, h.mono (by omega), hK, hJ⟩
    have d : decide ((one.w : Int) < 40) = false := decide_eq_false (by omega)
    simp [d]
theorem tm_pow {one : Tm} (h1 : TOk s fs us one) (hb : one.b = true) (hJ : J.Ok jn) (hjn : jn ≤ 9000) (k : Nat) (x5 x6 x7 x8 x9 x11 x12 x13 x14 x15 x16 : Option D) :
    Out L rows pts (nb + 1) (jn + 1) (execs pdat.p (callK pdat.p (k + 8)) tbPow [some (.obj 3), some (.obj 5), some (.tup (pts.map rq)), some (.obj (4 + L.length)), some (.obj (11 + L.length)), x5, x6, x7, x8, x9, some (tmD one), x11, x12, x13, x14, x15, x16] (tb L J s (.lst (T.map tmD) :: K))) := by
  unfold tbPow
  have hnl := h.nl
  have htl := h.tl
  have hw1 := h1.w
  obtain ⟨d, Ja, hd, hJa, ea⟩ := tb_draw (L := L) hJ (by omega) 5 (by decide) (by decide) s (.lst (T.map tmD) :: K) (k + 7)
  have ea : callK pdat.p (k + 8) 47 [.obj 3, .int 5] _ = _ := ea
  have mm : mulOk (one.w : Int) (2 + (d : Int)) = true := mulOk_of (n := 10) (m := 10) (sm_nat (by have := h1.w40; omega)) (by unfold Sm; omega) (by decide) (by decide) (by decide)
  by_cases hw : one.w * (2 + d) ≤ 40
  · have hwn : s.ws.getD one.i 0 * (2 + d) ≤ one.w * (2 + d) := Nat.mul_le_mul_right _ hw1
    have hpw := tb_pow Ja hX (tm_pu hX h hnb hK) h.sem.b one.i (2 + d) h1.i (by omega) (by omega) (by omega) (h1.n hb) k
    have ec : (((2 + d : Nat)) : Int) = 2 + (d : Int) := by omega
    obtain ⟨hin, hlow⟩ := tm_in hX h hnb hK h1
    have hap : ∀ S, callK pdat.p (k + 8) 50 [.str "pow", rq one.q, .int ((2 + d : Nat) : Int)] S = _ := fun S => s_applyPow hin (2 + d) (by omega) (by decide) (k + 6) S
    rw [ec] at hpw
    simp only [ec] at hap
    have hst := h.add (n := .pow one.i (2 + d)) ⟨h1.i, by omega, by omega⟩ (w := one.w * (2 + d)) hwn (Nat.mul_pos h1.w1 (by omega)) hw trivial (fun v e => by cases e) (by omega) (b := true) (fun _ => rfl)
    have eq1 : (Nd.pow one.i (2 + d)).q fs pts = qpow one.q (2 + d) := by show qpow (fs.getD one.i q0) _ = _; rw [h1.q]
    have eu1 : (Nd.pow one.i (2 + d)).u rows.length us = one.u := h1.u
    rw [eq1, eu1] at hst
    have hpu := tb_push Ja (s.place (.pow one.i (2 + d))) T K ⟨s.at (.pow one.i (2 + d)), qpow one.q (2 + d), one.w * (2 + d), true, one.u⟩ (L := L) (by omega)
    have hbt := tb_bt Ja s T K (L := L)
    have hm := tm13 Ja s (.lst (T.map tmD) :: K) (L := L)
    refine ⟨Ja, _, _, _, _, K, _, .inl ?_, ⟨x5, x6, x7, x8, x9, some (tmD one), x11, x12, some (.int (2 + (d : Int))), some (rq (qpow one.q (2 + d))), x15, x16, rfl⟩, hst, hK, hJa⟩
    have d40 : decide ((one.w : Int) * (2 + (d : Int)) ≤ 40) = true := by
      refine decide_eq_true ?_
      rw [← ec, ← Int.natCast_mul]; omega
    have etm := mk_tm (s.at (.pow one.i (2 + d))) (qpow one.q (2 + d)) ((one.w : Int) * (2 + (d : Int))) (one.w * (2 + d)) (by push_cast; rfl) true one.u
    generalize tmD ⟨s.at (.pow one.i (2 + d)), qpow one.q (2 + d), one.w * (2 + d), true, one.u⟩ = tt at *
    generalize tb L J s (.lst (T.map tmD) :: K) = S1 at *
    generalize tb L Ja s (.lst (T.map tmD) :: K) = S1b at *
    generalize tb L Ja (s.place (.pow one.i (2 + d))) (.lst (T.map tmD) :: K) = S2 at *
    generalize qpow one.q (2 + d) = qq at *
    simp [ea, bin_mul, mm, d40, hbt, hm, hpw, hap, etm, hpu]
  · refine ⟨Ja, _, _, _, _, K, _, .inl ?_, ⟨x5, x6, x7, x8, x9, some (tmD one), x11, x12, some (.int (2 + (d : Int))), x14, x15, x16, rfl⟩, h.mono (by omega), hK, hJa⟩
    have ec : (((2 + d : Nat)) : Int) = 2 + (d : Int) := by omega
    have d40 : decide ((one.w : Int) * (2 + (d : Int)) ≤ 40) = false := by
      refine decide_eq_false ?_
      rw [← ec, ← Int.natCast_mul]; omega
    generalize tb L J s (.lst (T.map tmD) :: K) = S1 at *
    generalize tb L Ja s (.lst (T.map tmD) :: K) = S1b at *
    simp [ea, bin_mul, mm, d40]
theorem tm_op {one two : Tm} (hL5 : L[1]? = some (.lst (rows.map rowD))) (hrl : rows.length ≤ 3) (h1 : TOk s fs us one) (hb : one.b = true) (h2 : TOk s fs us two) (o : Op) (hdv : o = .div → ∃ v : Qq, s.nodes[two.i]? = some (.num v) ∧ v.1 ≠ 0) (hJ : J.Ok jn) (k : Nat) (x5 x6 x8 x9 x12 x13 x14 x15 x16 : Option D) :
    Out L rows pts (nb + 1) jn (execs pdat.p (callK pdat.p (k + 8)) tbOp [some (.obj 3), some (.obj 5), some (.tup (pts.map rq)), some (.obj (4 + L.length)), some (.obj (11 + L.length)), x5, x6, some (.str o.s), x8, x9, some (tmD one), some (tmD two), x12, x13, x14, x15, x16] (tb L J s (.lst (T.map tmD) :: K))) := by
  unfold tbOp
  have hnl := h.nl
  have htl := h.tl
  have hw1 := h1.w
  have hw2 := h2.w
  have hLl : 1 < L.length := (List.getElem?_eq_some_iff.mp hL5).1
  by_cases hw : one.w + two.w ≤ 40
  · obtain ⟨in1, lo1⟩ := tm_in hX h hnb hK h1
    obtain ⟨in2, lo2⟩ := tm_in hX h hnb hK h2
    have hdn : (Nd.op o one.i two.i).dn s.nodes := by
      cases o with
      | div => exact hdv rfl
      | _ => trivial
    have hdq : o = .div → two.q.1 ≠ 0 := fun e => by
      obtain ⟨v, g1, g2⟩ := hdv e
      have := h.sem.q two.i _ g1
      rw [h2.q] at this
      rw [← this]; exact g2
    have hap : ∀ S, callK pdat.p (k + 8) 50 [.str o.s, rq one.q, rq two.q] S = _ := fun S => s_apply in1 in2 (by decide) o hdq lo1 lo2 (k + 6) S
    have hrlS := h.sem.b.rows
    obtain ⟨hdqn, hdi⟩ := h.sem.dv (n := .op o one.i two.i) ⟨h1.i, h2.i⟩ hdn
    -- the letters of both
    have h5 : ∀ C, (tb L J s C)[5]? = some (.lst (rows.map rowD)) := fun C => by have := tb_L (i := 1) J s C hLl; rw [hL5] at this; exact this
    have hlc := lcLoop_pure (src := ⟨none, rng 0 rows.length⟩) (g := .one 16) (own := [16]) (t := evT pdat.p (callK pdat.p (k + 8)) (.or (.val (.cmp .In (.v 16) (.ix (.v 10) (.k (.int (4)))))) (.val (.cmp .In (.v 16) (.ix (.v 11) (.k (.int (4)))))))) (e := ev pdat.p (callK pdat.p (k + 8)) (.v 16)) (ρ := [some (.obj 3), some (.obj 5), some (.tup (pts.map rq)), some (.obj (4 + L.length)), some (.obj (11 + L.length)), x5, x6, some (.str o.s), x8, x9, some (tmD one), some (tmD two), x12, x13, some (rq (o.q one.q two.q)), x15, x16]) (S0 := tb L J s (.lst (T.map tmD) :: K))
      (fun d => match d with | .int i => if i.toNat ∈ one.u ∨ i.toNat ∈ two.u then some d else none | _ => none) (rng 0 rows.length) (by rw [rng_length]; exact ln _ (by omega)) (fun acc => rfl) (fun i d acc hd => by
        obtain ⟨hi, rfl⟩ := rng_get hd
        have e0 : (0 : Int) + (i : Int) = ((i : Nat) : Int) := by omega
        rw [e0]
        refine ⟨_, rfl, decide (i ∈ one.u ∨ i ∈ two.u), ?_, ?_, ?_⟩
        · simp only [wipeE, List.set_cons_succ, List.set_cons_zero, evT_or, evT_val, ev_cmp, ev_v, ev_ix, ev_k, List.getElem?_cons_zero, List.getElem?_cons_succ, R.bind_ok, ix_tm4, in_utup, truthy_bl, R.of_some]
          by_cases q : i ∈ one.u
          · simp [q]
          · simp [q]
        · intro q
          have q := of_decide_eq_false q
          simp only [Int.toNat_natCast]
          rw [if_neg q]
        · intro q
          have q := of_decide_eq_true q
          refine ⟨.int (i : Nat), by simp [wipeE], ?_⟩
          simp only [Int.toNat_natCast]
          rw [if_pos q])
    have hfm : (rng 0 rows.length).filterMap (fun d => match d with | .int i => if i.toNat ∈ one.u ∨ i.toNat ∈ two.u then some d else none | _ => none) = nats ((List.range rows.length).filter fun x => decide (x ∈ one.u ∨ x ∈ two.u)) := by
      rw [rng_nats]
      generalize List.range rows.length = l
      induction l with
      | nil => rfl
      | cons a l ih =>
        rw [nats_cons, List.filterMap_cons, ih]
        by_cases q : a ∈ one.u ∨ a ∈ two.u
        · simp [q]
        · simp [q]
    rw [hfm, rng_nats] at hlc
    generalize hvv : ((List.range rows.length).filter fun x => decide (x ∈ one.u ∨ x ∈ two.u)) = vv at *
    rw [tb_app, tb_app] at hlc
    have htu : bltD .tuple [.obj (tb L J s (.lst (T.map tmD) :: K)).length] (tb L J s (.lst (T.map tmD) :: K ++ [.lst (nats vv)])) = .ok (utup vv) (tb L J s (.lst (T.map tmD) :: K ++ [.lst (nats vv)])) := by
      refine tuple_lst ?_
      rw [← tb_app, ap_get0]; rfl
    have hK2 : Pu (K ++ [.lst (nats vv)]) := hK.app (pu_nats vv)
    have hop := tb_op J hX (tm_pu hX h hnb hK2) h.sem.b o one.i two.i h1.i h2.i (by omega) (h1.n hb) (fun e => by
      obtain ⟨v, g1, g2⟩ := hdv e
      rw [h.sem.rn two.i v g1]
      show 0 < v.1 ∨ v.1 < 0
      omega) hdi k
    have hst := h.add (n := mkOp o one.i two.i) (by
      unfold mkOp; split
      · exact ⟨h1.i, by omega, by omega⟩
      · exact ⟨h1.i, h2.i⟩) (w := one.w + two.w) (by
      unfold mkOp; split
      · rename_i hh; obtain ⟨_, hh⟩ := hh
        show s.ws.getD one.i 0 * 2 ≤ _
        rw [← hh] at hw2; omega
      · show s.ws.getD one.i 0 + s.ws.getD two.i 0 ≤ _; omega) (by have := h1.w1; omega) hw (by
      unfold mkOp; split
      · trivial
      · exact hdn) (fun v e => by unfold mkOp at e; split at e <;> cases e) (by omega) (b := true) (fun _ => by unfold mkOp; split <;> rfl)
    have eq1 : (mkOp o one.i two.i).q fs pts = o.q one.q two.q := by
      unfold mkOp; split
      · rename_i hh
        obtain ⟨rfl, hh⟩ := hh
        show qpow (fs.getD one.i q0) 2 = qmul one.q two.q
        have e2 := h2.q
        rw [← hh, h1.q] at e2
        rw [h1.q, ← e2, qmul_sq lo1 in1.p]
      · show o.q (fs.getD one.i q0) (fs.getD two.i q0) = _
        rw [h1.q, h2.q]
    have eu1 : (mkOp o one.i two.i).u rows.length us = vv := by
      unfold mkOp; split
      · rename_i hh
        obtain ⟨rfl, hh⟩ := hh
        show us.getD one.i [] = vv
        have e2 := h2.u
        rw [← hh, h1.u] at e2
        have p1 := h.sem.us1 one.i h1.i
        have p2 := h.sem.us2 one.i h1.i
        rw [h1.u] at p1 p2 ⊢
        rw [← hvv, ← e2]
        exact (filt_self p1 p2).symm
      · show ((List.range rows.length).filter fun x => decide (x ∈ us.getD one.i [] ∨ x ∈ us.getD two.i [])) = vv
        rw [h1.u, h2.u, hvv]
    rw [eq1, eu1] at hst
    have hpu := tb_push J (s.place (mkOp o one.i two.i)) T (K ++ [.lst (nats vv)]) ⟨s.at (mkOp o one.i two.i), o.q one.q two.q, one.w + two.w, true, vv⟩ (L := L) (by omega)
    have hbt := tb_bt J s T (K ++ [.lst (nats vv)]) (L := L)
    have hm := tm13 J s (.lst (T.map tmD) :: (K ++ [.lst (nats vv)])) (L := L)
    refine ⟨J, _, _, _, _, K ++ [.lst (nats vv)], _, .inl ?_, ⟨x5, x6, some (.str o.s), x8, x9, some (tmD one), some (tmD two), x12, x13, some (rq (o.q one.q two.q)), some (utup vv), x16, rfl⟩, hst, hK2, hJ⟩
    have d40 : decide ((one.w : Int) + (two.w : Int) ≤ 40) = true := decide_eq_true (by omega)
    have etm := mk_tm (s.at (mkOp o one.i two.i)) (o.q one.q two.q) ((one.w : Int) + (two.w : Int)) (one.w + two.w) (by push_cast; rfl) true vv
    have hln5 : bltD .len [.obj 5] (tb L J s (.lst (T.map tmD) :: K)) = .ok (.int (rows.length : Nat)) (tb L J s (.lst (T.map tmD) :: K)) := by rw [len_lst (h5 _), List.length_map]
    have hrg := range_src rows.length (by omega)
    rw [rng_nats] at hrg
    have hcons : ∀ X : M, M.lst (T.map tmD) :: K ++ [X] = M.lst (T.map tmD) :: (K ++ [X]) := fun X => rfl
    rw [hcons] at hlc htu
    rw [hcons] at hlc
    have happ := tb_app J s (.lst (T.map tmD) :: K) [.lst []] (L := L)
    rw [hcons] at happ
    generalize tmD ⟨s.at (mkOp o one.i two.i), o.q one.q two.q, one.w + two.w, true, vv⟩ = tt at *
    generalize tb L J s (.lst (T.map tmD) :: K) = S1 at *
    generalize tb L J s (.lst (T.map tmD) :: (K ++ [.lst (nats vv)])) = S1b at *
    generalize tb L J s (.lst (T.map tmD) :: (K ++ [.lst []])) = S1c at *
    generalize tb L J (s.place (mkOp o one.i two.i)) (.lst (T.map tmD) :: (K ++ [.lst (nats vv)])) = S2 at *
    generalize rq (o.q one.q two.q) = qq at *
    simp [d40, hap, hln5, hrg, happ, hlc, htu, hbt, hm, hop, etm, hpu]
  · refine ⟨J, _, _, _, _, K, _, .inl ?_, ⟨x5, x6, some (.str o.s), x8, x9, some (tmD one), some (tmD two), x12, x13, x14, x15, x16, rfl⟩, h.mono (by omega), hK, hJ⟩
    have d40 : decide ((one.w : Int) + (two.w : Int) ≤ 40) = false := decide_eq_false (by omega)
    simp [d40]
end
end Z
end

section
set_option Elab.async false
set_option linter.all false
set_option maxRecDepth 100000
/-! NH: a turn, the loop, _law_terms. -/
namespace Z
open PySem
theorem Out.seq_nil {L rows pts nb jn r} {p : Prg} {c : Nat → List D → Store → R D} (h : Out L rows pts nb jn r) : Out L rows pts nb jn (r.seq (execs p c .nil)) := by
  obtain ⟨J, s, fs, us, T, K, ρ, hr, h2⟩ := h
  refine ⟨J, s, fs, us, T, K, ρ, ?_, h2⟩
  rcases hr with hr | hr <;> rw [hr]
  · left; simp
  · right; simp
theorem Out.mono {L rows pts nb jn nb' jn' r} (h : Out L rows pts nb jn r) (l1 : nb ≤ nb') (l2 : jn ≤ jn') : Out L rows pts nb' jn' r := by
  obtain ⟨J, s, fs, us, T, K, ρ, hr, h2, h3, h4, h5⟩ := h
  exact ⟨J, s, fs, us, T, K, ρ, hr, h2, h3.mono l1, h4, ⟨h5.a, h5.b0, h5.b1, h5.c0, by have := h5.c1; omega, h5.g⟩⟩
def kS : Nat → Str
  | 0 => "add" | 1 => "sub" | 2 => "mul" | 3 => "pow" | 4 => "abs" | 5 => "max" | 6 => "min" | 7 => "div" | _ => "num"
def kindsL : List D := [.str "add", .str "sub", .str "mul", .str "pow", .str "abs", .str "max", .str "min", .str "div", .str "num"]
theorem kinds_at {d : Nat} (h : d < 9) : kindsL[d]? = some (.str (kS d)) := by
  match d, h with
  | 0, _ => rfl
  | 1, _ => rfl
  | 2, _ => rfl
  | 3, _ => rfl
  | 4, _ => rfl
  | 5, _ => rfl
  | 6, _ => rfl
  | 7, _ => rfl
  | 8, _ => rfl
theorem nrm_nz {t b : Int} (hb : b ≠ 0) (ht : t ≠ 0) : (nrm t b).1 ≠ 0 := by
  intro h
  have := nrm_l (t := t) hb
  rw [h, Int.zero_mul] at this
  exact ht this.symm
section
variable (c : Nat → List D → Store → R D) {ρ : Env} (S : Store)
theorem tb6_abs (h : ρ[7]? = some (some (.str "abs"))) : exec pdat.p c tb6 ρ S = execs pdat.p c tbAbs ρ S := by
  unfold tb6; simp [h]
theorem tb6_pow (h : ρ[7]? = some (some (.str "pow"))) : exec pdat.p c tb6 ρ S = (execs pdat.p c tbPow ρ S).seq (execs pdat.p c .nil) := by
  unfold tb6
  rw [exec_ite, evT_val, ev_cmp, ev_v, h]
  simp only [ev_k, R.bind_ok, cmp_eq_str, kn_pow_abs, decide_false, truthy_bl, R.of_some, R.st_ok, Bool.false_eq_true, if_false]
  rw [execs_cons, exec_ite, evT_val, ev_cmp, ev_v, h]
  simp only [ev_k, R.bind_ok, cmp_eq_str, decide_true, truthy_bl, R.of_some, R.st_ok, if_true]
theorem tb6_op (o : Op) (h : ρ[7]? = some (some (.str o.s))) : exec pdat.p c tb6 ρ S = (execs pdat.p c tbOp ρ S).seq (execs pdat.p c .nil) := by
  unfold tb6
  obtain ⟨k1, k2, k3, k4⟩ := kn_op o
  rw [exec_ite, evT_val, ev_cmp, ev_v, h]
  simp only [ev_k, R.bind_ok, cmp_eq_str, k3, truthy_bl, R.of_some, R.st_ok, Bool.false_eq_true, if_false]
  rw [execs_cons, exec_ite, evT_val, ev_cmp, ev_v, h]
  simp only [ev_k, R.bind_ok, cmp_eq_str, k4, truthy_bl, R.of_some, R.st_ok, Bool.false_eq_true, if_false]
theorem tb5_no {x : Str} (h : ρ[7]? = some (some (.str x))) (hx : x ≠ "div") : exec pdat.p c tb5 ρ S = .nx ρ S := by
  unfold tb5
  have : decide (x = "div") = false := decide_eq_false hx
  rw [exec_ite, evT_val, ev_cmp, ev_v, h]
  simp only [ev_k, R.bind_ok, cmp_eq_str, this, truthy_bl, R.of_some, R.st_ok, Bool.false_eq_true, if_false, execs_nil]
theorem tb5_yes (h : ρ[7]? = some (some (.str "div"))) : exec pdat.p c tb5 ρ S = execs pdat.p c tbDiv ρ S := by
  unfold tb5
  rw [exec_ite, evT_val, ev_cmp, ev_v, h]
  simp only [ev_k, R.bind_ok, cmp_eq_str, decide_true, truthy_bl, R.of_some, R.st_ok, if_true]
theorem tb4_no {x : Str} {t : Tm} (h : ρ[7]? = some (some (.str x))) (hx : x ≠ "num") (h2 : ρ[10]? = some (some (tmD t))) (ht : t.b = true) : exec pdat.p c tb4 ρ S = .nx ρ S := by
  unfold tb4
  have : decide (x = "num") = false := decide_eq_false hx
  rw [exec_ite, evT_or, evT_val, ev_cmp, ev_v, h]
  simp [this, h2, ht]
end
section
variable {L : Store} {rows : List Row} {pts : List Qq} {s : BSt} {fs : List Qq} {us : List (List Nat)} {T : List Tm} {nb jn : Nat} {K : Store} {J : Jar}
variable (hX : Pu L) (h : St rows pts s fs us T nb) (hnb : nb < 90) (hK : Pu K)
include hX h hnb hK
theorem tm_num (hJ : J.Ok jn) (hjn : jn ≤ 9000) (k : Nat) (x5 x6 x7 x8 x9 x10 x11 x12 x13 x14 x15 x16 : Option D) :
    ∃ J' s' fs' us' T' K' ρ', (execs pdat.p (callK pdat.p (k + 8)) tbNum [some (.obj 3), some (.obj 5), some (.tup (pts.map rq)), some (.obj (4 + L.length)), some (.obj (11 + L.length)), x5, x6, x7, x8, x9, x10, x11, x12, x13, x14, x15, x16] (tb L J s (.lst (T.map tmD) :: K))) = .ct ρ' (tb L J' s' (.lst (T'.map tmD) :: K')) ∧ Shp L pts ρ' ∧ St rows pts s' fs' us' T' (nb + 1) ∧ Pu K' ∧ J'.Ok (jn + 2) := by
  unfold tbNum
  have hnl := h.nl
  have htl := h.tl
  obtain ⟨d, Ja, hd, hJa, ea⟩ := tb_draw (L := L) hJ (by omega) 41 (by decide) (by decide) s (.lst (T.map tmD) :: K) (k + 7)
  obtain ⟨c, Jb, hc, hJb, eb⟩ := tb_draw (L := L) hJa (by omega) 3 (by decide) (by decide) s (.lst (T.map tmD) :: K) (k + 7)
  have ea : callK pdat.p (k + 8) 47 [.obj 3, .int 41] _ = _ := ea
  have eb : callK pdat.p (k + 8) 47 [.obj 3, .int 3] _ = _ := eb
  have hcz : (1 : Int) + (c : Int) ≠ 0 := by omega
  have hsc : Sm 5 ((1 : Int) + c) := sm5 (by omega) (by omega)
  have hsd : Sm 5 ((d : Int) - 20) := sm5 (by omega) (by omega)
  have hlw : ∀ S, callK pdat.p (k + 8) 48 [.int ((d : Int) - 20), .int (1 + (c : Int))] S = _ := fun S => s_low (k + 7) ((d : Int) - 20) (1 + c) S hcz (hsc.mono (by decide))
  have hin : In 15 (nrm ((d : Int) - 20) (1 + c)) := (nrm_in hcz hsd hsc).mono (by decide)
  have hlo : Low (nrm ((d : Int) - 20) (1 + c)) := nrm_low hcz
  generalize nrm ((d : Int) - 20) (1 + c) = v at *
  have hnu := tb_number Jb hX (tm_pu hX h hnb hK) h.sem.b v (short_of hin) k
  have hst := h.add (n := .num v) trivial (w := 1) (Nat.le_refl _) (Nat.le_refl _) (by decide) trivial (fun w e => by cases e; exact ⟨hin, hlo⟩) (by omega) (b := false) (fun e => by cases e)
  have hpu := tb_push Jb (s.place (.num v)) T K ⟨s.at (.num v), v, 1, false, []⟩ (L := L) (by omega)
  have hbt := tb_bt Jb s T K (L := L)
  have hm := tm12 Jb s (.lst (T.map tmD) :: K) (L := L)
  refine ⟨Jb, _, _, _, _, K, _, ?_, ⟨x5, x6, x7, x8, x9, x10, x11, some (rq v), x13, x14, x15, x16, rfl⟩, hst, hK, hJb⟩
  have eun : (Nd.num v).u rows.length us = [] := rfl
  have eqn : (Nd.num v).q fs pts = v := rfl
  have etm : D.tup [.int (s.at (.num v) : Nat), rq v, .int 1, .bl false, .tup []] = tmD ⟨s.at (.num v), v, 1, false, []⟩ := rfl
  rw [eun, eqn]
  generalize tmD ⟨s.at (.num v), v, 1, false, []⟩ = tt at *
  generalize tb L J s (.lst (T.map tmD) :: K) = S1 at *
  generalize tb L Ja s (.lst (T.map tmD) :: K) = S1a at *
  generalize tb L Jb s (.lst (T.map tmD) :: K) = S1b at *
  generalize tb L Jb (s.place (.num v)) (.lst (T.map tmD) :: K) = S2 at *
  simp [ea, eb, hlw, hbt, hm, hnu, etm, hpu]
theorem tm_div (hJ : J.Ok jn) (hjn : jn ≤ 9000) (k : Nat) (x5 x6 x7 x8 x9 x10 x11 x12 x13 x14 x15 x16 : Option D) :
    ∃ (v : Qq) (Jb : Jar), St rows pts (s.place (.num v)) (fsP s pts fs (.num v)) (usP rows.length s us (.num v)) T (nb + 1) ∧ TOk (s.place (.num v)) (fsP s pts fs (.num v)) (usP rows.length s us (.num v)) ⟨s.at (.num v), v, 1, false, []⟩ ∧ (s.place (.num v)).nodes[s.at (.num v)]? = some (.num v) ∧ v.1 ≠ 0 ∧ Jb.Ok (jn + 3) ∧
    execs pdat.p (callK pdat.p (k + 8)) tbDiv [some (.obj 3), some (.obj 5), some (.tup (pts.map rq)), some (.obj (4 + L.length)), some (.obj (11 + L.length)), x5, x6, x7, x8, x9, x10, x11, x12, x13, x14, x15, x16] (tb L J s (.lst (T.map tmD) :: K)) =
      .nx [some (.obj 3), some (.obj 5), some (.tup (pts.map rq)), some (.obj (4 + L.length)), some (.obj (11 + L.length)), x5, x6, x7, x8, x9, x10, some (tmD ⟨s.at (.num v), v, 1, false, []⟩), some (rq v), x13, x14, x15, x16] (tb L Jb (s.place (.num v)) (.lst (T.map tmD) :: K)) := by
  unfold tbDiv
  have hnl := h.nl
  have htl := h.tl
  obtain ⟨a, Ja, ha, hJa, ea⟩ := tb_draw (L := L) hJ (by omega) 9 (by decide) (by decide) s (.lst (T.map tmD) :: K) (k + 7)
  obtain ⟨b, Jb, hb, hJb, eb⟩ := tb_draw (L := L) hJa (by omega) 2 (by decide) (by decide) s (.lst (T.map tmD) :: K) (k + 7)
  obtain ⟨c, Jc, hc, hJc, ec⟩ := tb_draw (L := L) hJb (by omega) 3 (by decide) (by decide) s (.lst (T.map tmD) :: K) (k + 7)
  have ea : callK pdat.p (k + 8) 47 [.obj 3, .int 9] _ = _ := ea
  have eb : callK pdat.p (k + 8) 47 [.obj 3, .int 2] _ = _ := eb
  have ec : callK pdat.p (k + 8) 47 [.obj 3, .int 3] _ = _ := ec
  have hcz : (1 : Int) + (c : Int) ≠ 0 := by omega
  have hsc : Sm 5 ((1 : Int) + c) := sm5 (by omega) (by omega)
  have hbb : b = 0 ∨ b = 1 := by omega
  have m2 : mulOk (2 : Int) (b : Int) = true := by rcases hbb with rfl | rfl <;> decide
  have hs1 : Sm 5 ((1 : Int) + a) := sm5 (by omega) (by omega)
  have hs2 : Sm 5 ((1 : Int) - 2 * b) := sm5 (by omega) (by omega)
  have m1 : mulOk ((1 : Int) + a) ((1 : Int) - 2 * b) = true := mulOk_of hs1 hs2 (by decide) (by decide) (by decide)
  have hsd : Sm 10 (((1 : Int) + a) * ((1 : Int) - 2 * b)) := hs1.mul hs2
  have htz : ((1 : Int) + a) * ((1 : Int) - 2 * b) ≠ 0 := Int.mul_ne_zero (by omega) (by omega)
  generalize htt : ((1 : Int) + a) * ((1 : Int) - 2 * b) = t at *
  have hlw : ∀ S, callK pdat.p (k + 8) 48 [.int t, .int (1 + (c : Int))] S = _ := fun S => s_low (k + 7) t (1 + c) S hcz (hsc.mono (by decide))
  have hin : In 15 (nrm t (1 + c)) := (nrm_in hcz hsd (hsc.mono (by decide))).mono (by decide)
  have hlo : Low (nrm t (1 + c)) := nrm_low hcz
  have hnz : (nrm t (1 + c)).1 ≠ 0 := nrm_nz hcz htz
  generalize nrm t (1 + c) = v at *
  have hnu := tb_number Jc hX (tm_pu hX h hnb hK) h.sem.b v (short_of hin) k
  have hn : ∀ w, Nd.num v = .num w → In 15 w ∧ Low w := fun w e => by cases e; exact ⟨hin, hlo⟩
  have hst := h.place (n := .num v) trivial (by show 1 ≤ 40; decide) trivial hn (by omega)
  have htk := TOk.new h.sem (.num v) (w := 1) (Nat.le_refl _) (Nat.le_refl _) (by decide) (b := false) (fun e => by cases e)
  have hat : (s.place (.num v)).nodes[s.at (.num v)]? = some (.num v) := by
    unfold BSt.place BSt.at
    cases hx : ixN s.nodes (.num v) with
    | some j => exact (ixN_some hx).1
    | none => show (s.nodes ++ [Nd.num v])[s.nodes.length]? = _; simp
  have hm := tm12 Jc s (.lst (T.map tmD) :: K) (L := L)
  refine ⟨v, Jc, hst, htk, hat, hnz, hJc, ?_⟩
  have etm : D.tup [.int (s.at (.num v) : Nat), rq v, .int 1, .bl false, .tup []] = tmD ⟨s.at (.num v), v, 1, false, []⟩ := rfl
  generalize tmD ⟨s.at (.num v), v, 1, false, []⟩ = tt at *
  generalize tb L J s (.lst (T.map tmD) :: K) = S1 at *
  generalize tb L Ja s (.lst (T.map tmD) :: K) = S1a at *
  generalize tb L Jb s (.lst (T.map tmD) :: K) = S1b at *
  generalize tb L Jc s (.lst (T.map tmD) :: K) = S1c at *
  generalize tb L Jc (s.place (.num v)) (.lst (T.map tmD) :: K) = S2 at *
  simp [ea, eb, ec, bin_mul, m2, m1, htt, hlw, hm, hnu, etm]
theorem tm_turn (hnb2 : nb < 80) (hL5 : L[1]? = some (.lst (rows.map rowD))) (hrl : rows.length ≤ 3) (hJ : J.Ok jn) (hjn : jn ≤ 8000) (k : Nat) (x5 x6 x7 x8 x9 x10 x11 x12 x13 x14 x15 x16 : Option D) :
    Out L rows pts (nb + 2) (jn + 10) (execs pdat.p (callK pdat.p (k + 8)) tmBody [some (.obj 3), some (.obj 5), some (.tup (pts.map rq)), some (.obj (4 + L.length)), some (.obj (11 + L.length)), x5, x6, x7, x8, x9, x10, x11, x12, x13, x14, x15, x16] (tb L J s (.lst (T.map tmD) :: K))) := by
  have hnl := h.nl
  have htl := h.tl
  have ht1 := h.t1
  obtain ⟨a, Ja, ha, hJa, ea⟩ := tb_draw (L := L) hJ (by omega) T.length (by omega) (by omega) s (.lst (T.map tmD) :: K) (k + 7)
  obtain ⟨b, Jb, hb, hJb, eb⟩ := tb_draw (L := L) hJa (by omega) T.length (by omega) (by omega) s (.lst (T.map tmD) :: K) (k + 7)
  obtain ⟨d, Jc, hd, hJc, ed⟩ := tb_draw (L := L) hJb (by omega) 9 (by decide) (by decide) s (.lst (T.map tmD) :: (K ++ [.lst kindsL])) (k + 7)
  have ea : callK pdat.p (k + 8) 47 [.obj 3, .int (T.length : Nat)] _ = _ := ea
  have eb : callK pdat.p (k + 8) 47 [.obj 3, .int (T.length : Nat)] _ = _ := eb
  have ed : callK pdat.p (k + 8) 47 [.obj 3, .int 9] _ = _ := ed
  have e1 := List.getElem?_eq_getElem ha
  have e2 := List.getElem?_eq_getElem hb
  have h1 := h.t _ (List.getElem_mem ha)
  have h2 := h.t _ (List.getElem_mem hb)
  generalize T[a] = one at *
  generalize T[b] = two at *
  have ia := tb_ix Ja s T K e1 (L := L)
  have ib := tb_ix Jb s T K e2 (L := L)
  have la := tb_ln J s T K (L := L)
  have lb := tb_ln Ja s T K (L := L)
  have hKd : Pu (K ++ [.lst kindsL]) := hK.app (pu_kinds ["add", "sub", "mul", "pow", "abs", "max", "min", "div", "num"])
  have hix : ixD (.obj (tb L Jb s (.lst (T.map tmD) :: K)).length) (.int (d : Nat)) (tb L Jc s (.lst (T.map tmD) :: (K ++ [.lst kindsL]))) = .ok (.str (kS d)) (tb L Jc s (.lst (T.map tmD) :: (K ++ [.lst kindsL]))) := by
    have e3 : (tb L Jc s (.lst (T.map tmD) :: (K ++ [.lst kindsL])))[(tb L Jb s (.lst (T.map tmD) :: K)).length]? = some (.lst kindsL) := by
      rw [tb_len]; exact tb_last Jc s (.lst (T.map tmD) :: K) (.lst kindsL)
    rw [ixD_lst _ e3, atI_nat, kinds_at hd]; rfl
  have happ := tb_app Jb s (.lst (T.map tmD) :: K) [.lst kindsL] (L := L)
  have head : execs pdat.p (callK pdat.p (k + 8)) tmBody [some (.obj 3), some (.obj 5), some (.tup (pts.map rq)), some (.obj (4 + L.length)), some (.obj (11 + L.length)), x5, x6, x7, x8, x9, x10, x11, x12, x13, x14, x15, x16] (tb L J s (.lst (T.map tmD) :: K)) =
      execs pdat.p (callK pdat.p (k + 8)) (.cons tb4 (.cons tb5 (.cons tb6 .nil))) [some (.obj 3), some (.obj 5), some (.tup (pts.map rq)), some (.obj (4 + L.length)), some (.obj (11 + L.length)), x5, x6, some (.str (kS d)), x8, x9, some (tmD one), some (tmD two), x12, x13, x14, x15, x16] (tb L Jc s (.lst (T.map tmD) :: (K ++ [.lst kindsL]))) := by
    unfold tmBody tb1 tb2 tb3
    have hcons : ∀ X : M, M.lst (T.map tmD) :: K ++ [X] = M.lst (T.map tmD) :: (K ++ [X]) := fun X => rfl
    rw [hcons] at happ
    have hk : [D.str "add", .str "sub", .str "mul", .str "pow", .str "abs", .str "max", .str "min", .str "div", .str "num"] = kindsL := rfl
    have hkl : kindsL.length = 9 := rfl
    generalize tb L J s (.lst (T.map tmD) :: K) = S1 at *
    generalize tb L Ja s (.lst (T.map tmD) :: K) = S1a at *
    generalize tb L Jb s (.lst (T.map tmD) :: K) = S1b at *
    generalize tb L Jb s (.lst (T.map tmD) :: (K ++ [.lst kindsL])) = S1c at *
    generalize tb L Jc s (.lst (T.map tmD) :: (K ++ [.lst kindsL])) = S1d at *
    rw [execs_cons]
    have q1 : ∀ (y10 y11 y7 : Option D), exec pdat.p (callK pdat.p (k + 8)) (.asg (.g (.one 10)) (.ix (.v 4) (.call 47 (.cons (.v 0) (.cons (.blt .len (.cons (.v 4) .nil)) .nil))))) [some (.obj 3), some (.obj 5), some (.tup (pts.map rq)), some (.obj (4 + L.length)), some (.obj (11 + L.length)), x5, x6, x7, x8, x9, x10, x11, x12, x13, x14, x15, x16] S1 = .nx [some (.obj 3), some (.obj 5), some (.tup (pts.map rq)), some (.obj (4 + L.length)), some (.obj (11 + L.length)), x5, x6, x7, x8, x9, some (tmD one), x11, x12, x13, x14, x15, x16] S1a := fun _ _ _ => by
      simp [la, ea, ia]
    rw [q1 none none none, RS.seq_nx, execs_cons]
    have q2 : exec pdat.p (callK pdat.p (k + 8)) (.asg (.g (.one 11)) (.ix (.v 4) (.call 47 (.cons (.v 0) (.cons (.blt .len (.cons (.v 4) .nil)) .nil))))) [some (.obj 3), some (.obj 5), some (.tup (pts.map rq)), some (.obj (4 + L.length)), some (.obj (11 + L.length)), x5, x6, x7, x8, x9, some (tmD one), x11, x12, x13, x14, x15, x16] S1a = .nx [some (.obj 3), some (.obj 5), some (.tup (pts.map rq)), some (.obj (4 + L.length)), some (.obj (11 + L.length)), x5, x6, x7, x8, x9, some (tmD one), some (tmD two), x12, x13, x14, x15, x16] S1b := by
      simp [lb, eb, ib]
    rw [q2, RS.seq_nx, execs_cons]
    have q3 : exec pdat.p (callK pdat.p (k + 8)) (.asg (.g (.one 7)) (.ix (.lst (.cons (.k (.str "add")) (.cons (.k (.str "sub")) (.cons (.k (.str "mul")) (.cons (.k (.str "pow")) (.cons (.k (.str "abs")) (.cons (.k (.str "max")) (.cons (.k (.str "min")) (.cons (.k (.str "div")) (.cons (.k (.str "num")) .nil)))))))))) (.call 47 (.cons (.v 0) (.cons (.k (.int (9))) .nil))))) [some (.obj 3), some (.obj 5), some (.tup (pts.map rq)), some (.obj (4 + L.length)), some (.obj (11 + L.length)), x5, x6, x7, x8, x9, some (tmD one), some (tmD two), x12, x13, x14, x15, x16] S1b = .nx [some (.obj 3), some (.obj 5), some (.tup (pts.map rq)), some (.obj (4 + L.length)), some (.obj (11 + L.length)), x5, x6, some (.str (kS d)), x8, x9, some (tmD one), some (tmD two), x12, x13, x14, x15, x16] S1d := by
      simp [hk, hkl, happ, ed, hix]
    rw [q3, RS.seq_nx]
  rw [head]
  clear head ea eb ed ia ib la lb hix happ
  have hJc : Jc.Ok (jn + 3) := hJc
  by_cases hnum : d = 8 ∨ one.b = false
  · have e4 : exec pdat.p (callK pdat.p (k + 8)) tb4 [some (.obj 3), some (.obj 5), some (.tup (pts.map rq)), some (.obj (4 + L.length)), some (.obj (11 + L.length)), x5, x6, some (.str (kS d)), x8, x9, some (tmD one), some (tmD two), x12, x13, x14, x15, x16] (tb L Jc s (.lst (T.map tmD) :: (K ++ [.lst kindsL]))) = execs pdat.p (callK pdat.p (k + 8)) tbNum [some (.obj 3), some (.obj 5), some (.tup (pts.map rq)), some (.obj (4 + L.length)), some (.obj (11 + L.length)), x5, x6, some (.str (kS d)), x8, x9, some (tmD one), some (tmD two), x12, x13, x14, x15, x16] (tb L Jc s (.lst (T.map tmD) :: (K ++ [.lst kindsL]))) := by
      unfold tb4
      rcases hnum with rfl | hb0
      · simp [kS]
      · by_cases q : kS d = "num"
        · simp [q]
        · simp [q, hb0]
    obtain ⟨J2, s2, fs2, us2, T2, K2, ρ2, hr, r2, r3, r4, r5⟩ := tm_num hX h hnb hKd hJc (by omega) k x5 x6 (some (.str (kS d))) x8 x9 (some (tmD one)) (some (tmD two)) x12 x13 x14 x15 x16
    rw [execs_cons, e4, hr, RS.seq_ct]
    exact ⟨J2, s2, fs2, us2, T2, K2, ρ2, .inr rfl, r2, r3.mono (by omega), r4, ⟨r5.a, r5.b0, r5.b1, r5.c0, by have := r5.c1; omega, r5.g⟩⟩
  · have hb : one.b = true := by
      cases q : one.b with
      | true => rfl
      | false => exact absurd (.inr q) hnum
    have hd8 : d < 8 := by have : d ≠ 8 := fun q => hnum (.inl q); omega
    have hkn : kS d ≠ "num" := by
      match d, hd8 with
      | 0, _ => decide
      | 1, _ => decide
      | 2, _ => decide
      | 3, _ => decide
      | 4, _ => decide
      | 5, _ => decide
      | 6, _ => decide
      | 7, _ => decide
    rw [execs_cons, tb4_no _ _ rfl hkn rfl hb, RS.seq_nx, execs_cons]
    by_cases hd7 : d = 7
    · subst hd7
      rw [tb5_yes _ _ rfl]
      obtain ⟨v, Jd, hst, htk, hat, hv, hJd, e⟩ := tm_div hX h hnb hKd hJc (by omega) k x5 x6 (some (.str (kS 7))) x8 x9 (some (tmD one)) (some (tmD two)) x12 x13 x14 x15 x16
      rw [e, RS.seq_nx, execs_cons, tb6_op _ _ .div rfl]
      exact ((tm_op hX hst (by omega) hKd hL5 hrl (h1.place h.sem _) hb htk .div (fun _ => ⟨v, hat, hv⟩) hJd k x5 x6 x8 x9 _ x13 x14 x15 x16).seq_nil.seq_nil).mono (by omega) (by omega)
    · have hk7 : kS d ≠ "div" := by
        match d, hd8, hd7 with
        | 0, _, _ => decide
        | 1, _, _ => decide
        | 2, _, _ => decide
        | 3, _, _ => decide
        | 4, _, _ => decide
        | 5, _, _ => decide
        | 6, _, _ => decide
        | 7, _, q => exact absurd rfl q
      rw [tb5_no _ _ rfl hk7, RS.seq_nx, execs_cons]
      have hops : ∀ o : Op, o ≠ .div → kS d = o.s → Out L rows pts (nb + 2) (jn + 10) ((exec pdat.p (callK pdat.p (k + 8)) tb6 [some (.obj 3), some (.obj 5), some (.tup (pts.map rq)), some (.obj (4 + L.length)), some (.obj (11 + L.length)), x5, x6, some (.str (kS d)), x8, x9, some (tmD one), some (tmD two), x12, x13, x14, x15, x16] (tb L Jc s (.lst (T.map tmD) :: (K ++ [.lst kindsL])))).seq (execs pdat.p (callK pdat.p (k + 8)) .nil)) := fun o ho e => by
        rw [e, tb6_op _ _ o rfl]
        exact ((tm_op hX h hnb hKd hL5 hrl h1 hb h2 o (fun q => absurd q ho) hJc k x5 x6 x8 x9 x12 x13 x14 x15 x16).seq_nil.seq_nil).mono (by omega) (by omega)
      match d, hd8, hd7, hops with
      | 0, _, _, hops => exact hops .add (by decide) rfl
      | 1, _, _, hops => exact hops .sub (by decide) rfl
      | 2, _, _, hops => exact hops .mul (by decide) rfl
      | 3, _, _, _ =>
        rw [tb6_pow _ _ rfl]
        exact ((tm_pow hX h hnb hKd h1 hb hJc (by omega) k x5 x6 _ x8 x9 _ x12 x13 x14 x15 x16).seq_nil.seq_nil).mono (by omega) (by omega)
      | 4, _, _, _ =>
        rw [tb6_abs _ _ rfl]
        exact ((tm_abs hX h hnb hKd h1 hb hJc k x5 x6 _ x8 x9 _ x12 x13 x14 x15 x16).seq_nil).mono (by omega) (by omega)
      | 5, _, _, hops => exact hops .max (by decide) rfl
      | 6, _, _, hops => exact hops .min (by decide) rfl
      | 7, _, q, _ => exact absurd rfl q
end
theorem s_terms {start : Nat} (hs : start < 2) {rows : List Row} (hl : rows.length ≤ 3) (hl1 : 1 ≤ rows.length) (hlt : lets start rows) {pts : List Qq} (hp : pts.length = rows.length) (hpg : ∀ j r, rows[j]? = some r → PGood r (pts.getD j q0)) {N : M} {K : Store} (hN : Pu [N]) (hK : Pu K) {J : Jar} {jn : Nat} (hJ : J.Ok jn) (hjn : jn ≤ 1000) (k : Nat) :
    ∃ J' s fs us T K', St rows pts s fs us T 30 ∧ Pu K' ∧ J'.Ok (jn + 130) ∧ callK pdat.p (k + 9) 53 [.obj 3, .obj 5, .tup (pts.map rq), .obj (4 + (N :: .lst (rows.map rowD) :: K).length)] (tb (N :: .lst (rows.map rowD) :: K) J (bL rows 0) []) = .ok (.obj (11 + (N :: .lst (rows.map rowD) :: K).length)) (tb (N :: .lst (rows.map rowD) :: K) J' s (.lst (T.map tmD) :: K')) := by
  obtain ⟨u5, u6, u7, u8, u9, hfor1⟩ := terms_letters hs hl hlt hp hN hK J k _ rfl
  have hX : Pu (N :: .lst (rows.map rowD) :: K) := hN.app (Pu.app (J := [.lst (rows.map rowD)]) (pu_lst rowD (lo_row 0) rows) hK)
  have hL5 : (N :: M.lst (rows.map rowD) :: K)[1]? = some (.lst (rows.map rowD)) := rfl
  have h5 : ∀ s C, (tb (N :: .lst (rows.map rowD) :: K) J s C)[5]? = some (.lst (rows.map rowD)) := fun s C => tb_L (i := 1) J s C (by simp)
  generalize hLL : (N :: M.lst (rows.map rowD) :: K) = L at *
  have hgall : ∀ r ∈ rows, RGood r := fun r hr => by
    obtain ⟨j, hj⟩ := List.mem_iff_getElem?.mp hr
    exact (hlt j r hj).2
  have hsem := bL_sem hl hgall hp hpg
  have hst0 : St rows pts (bL rows rows.length) pts ((List.range rows.length).map fun k => [k]) (tL pts rows.length) 4 := by
    refine ⟨hsem, fun t ht => ?_, List.take_length, rfl, by show (ltN _).length ≤ 4; rw [ltN_len]; omega, by unfold tL; simp; omega, by unfold tL; simp; omega⟩
    unfold tL at ht
    obtain ⟨i, hi, rfl⟩ := List.mem_map.mp ht
    have hi := List.mem_range.mp hi
    refine ⟨by show i < (ltN _).length; rw [ltN_len]; exact hi, rfl, by simp [List.getD, List.getElem?_range hi], ?_, Nat.le_refl _, by show 1 ≤ 40; decide, fun _ => ?_⟩
    · show (List.replicate rows.length 1).getD i 0 ≤ 1
      simp [List.getD, List.getElem?_replicate, hi]
    · show ((ltN rows.length).getD i (.letter 0)).isNum = false
      simp [List.getD, ltN_get hi, Nd.isNum]
  obtain ⟨m, Ja, hm, hJa, ea⟩ := tb_draw (L := L) hJ (by omega) 12 (by decide) (by decide) (bL rows rows.length) [.lst ((tL pts rows.length).map tmD)] (k + 7)
  have ea : callK pdat.p (k + 8) 47 [.obj 3, .int 12] _ = _ := ea
  obtain ⟨ρ', S', hfor, J', s, fs, us, T, K', hρ, hS, hst, hK', hJ'⟩ := forL_inv (src := ⟨none, rng 0 (1 + m)⟩) (g := .one 5) (b := execs pdat.p (callK pdat.p (k + 8)) tmBody)
    (fun i ρ S => ∃ J' s fs us T K', Shp L pts ρ ∧ S = tb L J' s (.lst (T.map tmD) :: K') ∧ St rows pts s fs us T (4 + 2 * i) ∧ Pu K' ∧ J'.Ok (jn + 1 + 10 * i)) (rng 0 (1 + m)) (fun i d ρ S hd ⟨J', s, fs, us, T, K', hρ, hS, hst, hK', hJ'⟩ => by
      obtain ⟨hi, rfl⟩ := rng_get hd
      obtain ⟨x5, x6, x7, x8, x9, x10, x11, x12, x13, x14, x15, x16, rfl⟩ := hρ
      subst hS
      obtain ⟨J2, s2, fs2, us2, T2, K2, ρ2, hr, r2, r3, r4, r5⟩ := tm_turn hX hst (by omega) hK' (by omega) hL5 hl hJ' (by omega) k (some (.int (0 + (i : Int)))) x6 x7 x8 x9 x10 x11 x12 x13 x14 x15 x16
      exact ⟨rfl, _, rfl, ρ2, _, hr, J2, s2, fs2, us2, T2, K2, r2, rfl, r3.mono (by omega), r4, ⟨r5.a, r5.b0, r5.b1, r5.c0, by have := r5.c1; omega, r5.g⟩⟩) (fun _ _ _ => rfl) (ρ := [some (.obj 3), some (.obj 5), some (.tup (pts.map rq)), some (.obj (4 + L.length)), some (.obj (11 + L.length)), u5, u6, u7, u8, u9, none, none, none, none, none, none, none]) (S := tb L Ja (bL rows rows.length) [.lst ((tL pts rows.length).map tmD)]) ⟨Ja, _, _, _, _, [], ⟨u5, u6, u7, u8, u9, none, none, none, none, none, none, none, rfl⟩, rfl, hst0, Pu.nil, by simpa using hJa⟩
  subst hS
  obtain ⟨x5, x6, x7, x8, x9, x10, x11, x12, x13, x14, x15, x16, rfl⟩ := hρ
  rw [rng_length] at hst hJ'
  refine ⟨J', s, fs, us, T, K', hst.mono (by omega), hK', ⟨hJ'.a, hJ'.b0, hJ'.b1, hJ'.c0, by have := hJ'.c1; omega, hJ'.g⟩, ?_⟩
  rw [c__law_terms, ir_terms_eq]
  have hr : rngSrc [.int (1 + (m : Int))] = some ⟨none, rng 0 (1 + m)⟩ := by
    have := range_src (1 + m) (by omega)
    rw [show ((1 + m : Nat) : Int) = 1 + (m : Int) by omega] at this; exact this
  have hlen0 : (tb L J (bL rows 0) []).length = 11 + L.length := by rw [tb_len]; rfl
  have happ : tb L J (bL rows 0) [] ++ [M.lst []] = tb L J (bL rows 0) [.lst []] := tb_app _ _ _ _
  have hln5 : bltD .len [.obj 5] (tb L J (bL rows 0) [.lst []]) = .ok (.int (rows.length : Nat)) (tb L J (bL rows 0) [.lst []]) := by rw [len_lst (h5 _ _), List.length_map]
  have hrg := range_src rows.length (by omega)
  have hlo : (D.obj (11 + L.length)).lo (11 + L.length) = false := lo_self _
  rw [hlen0]
  generalize tb L J (bL rows 0) [] = S0 at *
  generalize tb L J (bL rows 0) [.lst []] = S1 at *
  generalize tb L J (bL rows rows.length) [.lst ((tL pts rows.length).map tmD)] = S2 at *
  generalize tb L Ja (bL rows rows.length) [.lst ((tL pts rows.length).map tmD)] = S3 at *
  generalize tb L J' s (.lst (T.map tmD) :: K') = S4 at *
  simp [hlen0, happ, hln5, hrg, hfor1, ea, hr, hfor, hlo, gc_low]
end Z
end

section
set_option Elab.async false
set_option linter.all false
set_option maxRecDepth 100000
/-! NI: _law_shaped. -/
namespace Z
open PySem
theorem nd_pd (n : Nd) : D.pd 19 (nd n) = true := by cases n <;> rfl
theorem nd_pl (n : Nd) : (nd n).pl = true := by cases n <;> rfl
theorem in_nds (n : Nd) (l : List Nd) (S) : cmpD .In (nd n) (.tup (l.map nd)) S = .ok (.bl (decide (n ∈ l))) S := by
  rw [in_tupD (nd_pl n) (by rw [List.all_map]; exact List.all_eq_true.mpr fun _ _ => nd_pd _)]
  congr 2
  rw [List.any_map]
  induction l with
  | nil => rfl
  | cons a u ih =>
    rw [List.any_cons, ih]
    by_cases h : a = n
    · subst h; simp
    · have h1 : ¬ n = a := fun e => h e.symm
      have h2 : ¬ (nd a = nd n) := fun e => h (nd_inj e)
      simp [h1, h2]
@[simp] theorem cmp_ne_int (i j S) : cmpD .NotEq (.int i) (.int j) S = .ok (.bl (!decide (i = j))) S := by
  rw [cmp_ne_pl S rfl rfl]; simp
theorem cut_take {α : Type} (l : List α) (t : Nat) (h : t ≤ l.length) : cutD l none (some (t : Int)) = l.take t := by
  unfold cutD
  rw [HT.sIx_none, HT.sIx_nat, Nat.min_eq_left h]
  simp
structure Shaped (pn : List Nd) (ℓ : Nat) : Prop where
  le : ∀ (t : Nat) (n : Nd), pn[t]? = some n → t < ℓ → n = .letter t
  nl : ∀ (t : Nat) (n : Nd), pn[t]? = some n → ℓ ≤ t → n.tag ≠ "letter"
  ar : ∀ (t : Nat) (n : Nd), pn[t]? = some n → ∀ p ∈ n.args, p < t
  nd : pn.Nodup
theorem not_mem_take {pn : List Nd} (h : pn.Nodup) {t : Nat} {n : Nd} (ht : pn[t]? = some n) : n ∉ pn.take t := by
  intro hm
  have hl := (List.getElem?_eq_some_iff.mp ht).1
  have e : pn = pn.take t ++ pn.drop t := (List.take_append_drop t pn).symm
  have hd : n ∈ pn.drop t := by
    have : (pn.drop t)[0]? = some n := by rw [List.getElem?_drop]; simpa using ht
    exact List.mem_of_getElem? this
  rw [e, List.nodup_append] at h
  exact h.2.2 n hm n hd rfl
theorem parts_in (k : Nat) (t : Nat) (x0 x1 : Option D) (T : Store) (q : Nat) : ∀ (l0 l : List Nat) (x3 : Option D), T[q]? = some (.lst (nats l0)) → (∀ p ∈ l, p < t) → ∃ y3, forL ⟨some q, nats l0⟩ (.one 3) (execs pdat.p (callK pdat.p k) (.cons (.ite (.or (.not (.val (.isT (.v 3) 0))) (.not (.val (.cmp2 .LtE .Lt (.k (.int (0))) (.v 3) (.v 2))))) 
     (.cons (.ret (.k (.bl false))) .nil) .nil) .nil)) (nats l) [x0, x1, some (.int (t : Nat)), x3] T = .nx [x0, x1, some (.int (t : Nat)), y3] T := by
  intro l0 l
  induction l with
  | nil => intro x3 hT _; exact ⟨x3, by rw [nats_nil, forL_nil, if_pos (stays_some hT)]⟩
  | cons a l ih =>
    intro x3 hT hp
    obtain ⟨y3, hy⟩ := ih (some (.int (a : Nat))) hT (fun p h => hp p (List.mem_cons_of_mem _ h))
    refine ⟨y3, ?_⟩
    rw [nats_cons, forL_cons, if_pos (stays_some hT)]
    have ha := hp a List.mem_cons_self
    have d1 : decide ((0 : Int) ≤ (a : Nat)) = true := decide_eq_true (by omega)
    have d2 : decide (((a : Nat) : Int) < (t : Nat)) = true := decide_eq_true (by omega)
    have hb : execs pdat.p (callK pdat.p k) (.cons (.ite (.or (.not (.val (.isT (.v 3) 0))) (.not (.val (.cmp2 .LtE .Lt (.k (.int (0))) (.v 3) (.v 2))))) 
     (.cons (.ret (.k (.bl false))) .nil) .nil) .nil) [x0, x1, some (.int (t : Nat)), some (.int (a : Nat))] T = .nx [x0, x1, some (.int (t : Nat)), some (.int (a : Nat))] T := by
      simp only [execs_cons, execs_nil, exec_ite, evT_or, evT_not, evT_val, ev_isT, ev_cmp2, ev_v, ev_k, List.getElem?_cons_zero, List.getElem?_cons_succ, R.bind_ok, isTD, Option.map_some, R.of_some, truthy_bl, cmp_le, cmp_lt, d1, d2, R.st_ok, RS.seq_nx]
      rfl
    simp only [bindG_one, List.set_cons_succ, List.set_cons_zero]
    rw [hb, RS.turn_nx]
    exact hy
theorem s_shaped {pn : List Nd} {pr : List Iv} {ℓ : Nat} (h : Shaped pn ℓ) (hlen : pr.length = pn.length) (hn : pn.length ≤ 900) {S : Store} (hS : Lo S) {P : Nat} {a d e : D} (hP : S[P]? = some (pins0 a (.tup (pn.map nd)) (.tup (pr.map iv)) d e)) (k : Nat) :
    callK pdat.p (k + 2) 55 [.obj P, .int (ℓ : Nat)] S = .ok (.bl true) S := by
  rw [c__law_shaped]; unfold ir__law_shaped
  have hPl : P < S.length := (List.getElem?_eq_some_iff.mp hP).1
  have hPJ : ∀ J, (S ++ J)[P]? = some (pins0 a (.tup (pn.map nd)) (.tup (pr.map iv)) d e) := fun J => by rw [List.getElem?_append_left hPl]; exact hP
  have f1 : ∀ J, fldD pdat.p (.obj P) 1 (S ++ J) = some (.tup (pn.map nd)) := fun J => (fld0_at (hPJ J)).2.1
  have f2 : ∀ J, fldD pdat.p (.obj P) 2 (S ++ J) = some (.tup (pr.map iv)) := fun J => (fld0_at (hPJ J)).2.2.1
  obtain ⟨ρ', S', hfor, J, u2, u3, hρ, hT⟩ := forL_inv (src := ⟨none, rng 0 pn.length⟩) (g := .one 2) (b := execs pdat.p (callK pdat.p (k + 1)) (.cons (.ite (.and (.val (.cmp .Lt (.v 2) (.v 1))) (.val (.cmp .NotEq (.ix (.fld (.v 0) 1) (.v 2)) (.tup (.cons (.k (.str "letter")) (.cons (.v 2) .nil)))))) 
    (.cons (.ret (.k (.bl false))) .nil) .nil) 
   (.cons (.ite (.and (.val (.cmp .GtE (.v 2) (.v 1))) (.val (.cmp .Eq (.ix (.ix (.fld (.v 0) 1) (.v 2)) (.k (.int (0)))) (.k (.str "letter"))))) 
    (.cons (.ret (.k (.bl false))) .nil) .nil) 
   (.cons (.for (.one 3) (.seq (.call 54 (.cons (.ix (.fld (.v 0) 1) (.v 2)) .nil))) 
    (.cons (.ite (.or (.not (.val (.isT (.v 3) 0))) (.not (.val (.cmp2 .LtE .Lt (.k (.int (0))) (.v 3) (.v 2))))) 
     (.cons (.ret (.k (.bl false))) .nil) .nil) .nil)) 
   (.cons (.ite (.val (.cmp .In (.ix (.fld (.v 0) 1) (.v 2)) (.sl (.fld (.v 0) 1) .none (.some (.v 2))))) 
    (.cons (.ret (.k (.bl false))) .nil) .nil) .nil)))))
    (fun i ρ T => ∃ J u2 u3, ρ = [some (.obj P), some (.int (ℓ : Nat)), u2, u3] ∧ T = S ++ J) (rng 0 pn.length) (fun i x ρ T hd ⟨J, u2, u3, hρ, hT⟩ => by
      obtain ⟨hi, rfl⟩ := rng_get hd
      subst hρ hT
      have e0 : (0 : Int) + (i : Int) = ((i : Nat) : Int) := by omega
      rw [e0]
      have en := List.getElem?_eq_getElem hi
      generalize pn[i] = n at en
      have hix : ∀ T, ixD (.tup (pn.map nd)) (.int (i : Nat)) T = .ok (nd n) T := fun T => by
        have := get_map nd pn (.letter 0) hi
        rw [ixD_tup, this]; simp [List.getD, en]
      have hq : (S ++ (J ++ [.lst (nats n.args)]))[(S ++ J).length]? = some (.lst (nats n.args)) := by
        rw [← List.append_assoc, ap_get0]; rfl
      obtain ⟨y3, hy⟩ := parts_in (k + 1) i (some (.obj P)) (some (.int (ℓ : Nat))) (S ++ (J ++ [.lst (nats n.args)])) (S ++ J).length n.args n.args u3 hq (h.ar i n en)
      have hsq := seqSrc_lst hq
      have hpt : callK pdat.p (k + 1) 54 [nd n] (S ++ J) = .ok (.obj (S ++ J).length) (S ++ (J ++ [.lst (nats n.args)])) := by
        rw [s_parts n k (S ++ J), List.append_assoc]
      have hsl : ∀ T, slD (.tup (pn.map nd)) none (some ((i : Nat) : Int)) T = .ok (.tup ((pn.take i).map nd)) T := fun T => by
        show R.ok (D.tup (cutD (pn.map nd) none (some ((i : Nat) : Int)))) T = _
        rw [cut_map, cut_take pn i (by omega)]
      have hni : ∀ T, cmpD .In (nd n) (.tup ((pn.take i).map nd)) T = .ok (.bl false) T := fun T => by
        rw [in_nds, decide_eq_false (not_mem_take h.nd en)]
      refine ⟨rfl, _, rfl, _, _, .inl ?_, J ++ [.lst (nats n.args)], some (.int (i : Nat)), y3, rfl, rfl⟩
      simp only [bindG_one, List.set_cons_succ, List.set_cons_zero]
      have f1a := f1 J
      have f1b := f1 (J ++ [.lst (nats n.args)])
      generalize S ++ (J ++ [M.lst (nats n.args)]) = T2 at *
      generalize S ++ J = T1 at *
      by_cases hl : i < ℓ
      · have hnl := h.le i n en hl
        have hne : cmpD .NotEq (nd n) (.tup [.str "letter", .int (i : Nat)]) T1 = .ok (.bl false) T1 := by
          rw [hnl]
          have : D.tup [.str "letter", .int (i : Nat)] = nd (.letter i) := rfl
          rw [this, cmp_ne_pl _ (nd_pl _) (nd_pl _)]; simp
        have dl : decide (((i : Nat) : Int) < (ℓ : Nat)) = true := decide_eq_true (by omega)
        have dg : decide (((ℓ : Nat) : Int) ≤ (i : Nat)) = false := decide_eq_false (by omega)
        simp only [execs_cons, execs_nil, exec_ite, evT_and, evT_val, ev_cmp, ev_v, ev_k, ev_ix, ev_fld, List.getElem?_cons_zero, List.getElem?_cons_succ, R.bind_ok, cmp_lt, cmp_ge, dl, dg, truthy_bl, R.of_some, f1a, hix, ev_tup, evs_cons, evs_nil, List.length_cons, List.length_nil, if_true, Bool.false_eq_true, if_false, R.st_ok, RS.seq_nx]
        rw [if_pos (by decide)]
        simp only [execs_cons, ev_tup, R.bind_ok, hne, truthy_bl, R.of_some, R.st_ok, Bool.false_eq_true, if_false, RS.seq_nx, exec_for, evI_seq, ev_call, evs_cons, evs_nil, ev_ix, ev_fld, ev_v, List.getElem?_cons_zero, List.getElem?_cons_succ, f1a, hix, hpt, hsq, hy, exec_ite, evT_val, ev_cmp, ev_sl, evO_none, evO_some, f1b, hsl, hni, execs_nil, evT_and, cmp_ge, dg, ev_k]
      · have hnl := h.nl i n en (by omega)
        have ht : decide (n.tag = "letter") = false := decide_eq_false hnl
        have dl : decide (((i : Nat) : Int) < (ℓ : Nat)) = false := decide_eq_false (by omega)
        have dg : decide (((ℓ : Nat) : Int) ≤ (i : Nat)) = true := decide_eq_true (by omega)
        simp only [execs_cons, execs_nil, exec_ite, evT_and, evT_val, ev_cmp, ev_v, ev_k, ev_ix, ev_fld, List.getElem?_cons_zero, List.getElem?_cons_succ, R.bind_ok, cmp_lt, cmp_ge, dl, dg, truthy_bl, R.of_some, f1a, hix, ix_nd0, cmp_eq_str, ht, if_true, Bool.false_eq_true, if_false, R.st_ok, RS.seq_nx, exec_for, evI_seq, ev_call, evs_cons, evs_nil, hpt, hsq, hy, ev_sl, evO_none, evO_some, f1b, hsl, hni]) (fun _ _ _ => rfl) (ρ := [some (.obj P), some (.int (ℓ : Nat)), none, none]) (S := S ++ []) ⟨[], none, none, rfl, rfl⟩
  subst hρ hT
  rw [List.append_nil] at hfor
  have f1a := f1 []
  have f2a := f2 []
  rw [List.append_nil] at f1a f2a
  have hisT : isTD (.tup (pn.map nd)) 1 S = some true := rfl
  have hrg := range_src pn.length (by omega)
  simp [f1a, f2a, hisT, hlen, hrg, hfor]
  exact gc_app hS
end Z
end

section
set_option Elab.async false
set_option linter.all false
set_option maxRecDepth 100000
/-! NJ: _law_order. -/
namespace Z
open PySem
theorem in_natsD {n : Nat} {o : List Nat} {S : Store} (h : S[n]? = some (.lst (nats o))) (x : Nat) : inD S (.int (x : Nat)) (.obj n) = some (decide (x ∈ o)) := by
  unfold inD
  simp only [h]
  rw [if_pos ⟨rfl, by unfold nats; rw [List.all_map]; exact List.all_eq_true.mpr fun _ _ => rfl⟩]
  congr 1
  clear h
  unfold nats
  rw [List.any_map]
  induction o with
  | nil => rfl
  | cons a u ih =>
    rw [List.any_cons, ih]
    by_cases h : a = x
    · subst h; simp
    · have h1 : ¬ x = a := fun e => h e.symm
      have h2 : ¬ (D.int (a : Nat) = D.int (x : Nat)) := fun e => by injection e with e; omega
      simp [h1, h2]
theorem notIn_nats {n : Nat} {o : List Nat} {S : Store} (h : S[n]? = some (.lst (nats o))) (x : Nat) : cmpD .NotIn (.int (x : Nat)) (.obj n) S = .ok (.bl (!decide (x ∈ o))) S := by
  show R.of S ((inD S (.int (x : Nat)) (.obj n)).map fun b => D.bl (!b)) = _
  rw [in_natsD h]; rfl
def keepN (o : List Nat) : D → Option D
  | .int i => if i.toNat ∈ o then none else some (.int i) | _ => none
theorem keep_nats (o l : List Nat) : (nats l).filterMap (keepN o) = nats (l.filter fun p => decide (p ∉ o)) := by
  unfold nats
  induction l with
  | nil => rfl
  | cons a l ih =>
    rw [List.map_cons, List.filterMap_cons, ih]
    by_cases h : a ∈ o
    · simp [keepN, h]
    · simp [keepN, h]
def ou (X : Store) (o : List Nat) (G J1 : Store) (w : List Nat) (J2 : Store) : Store := X ++ (.lst (nats o) :: (G ++ (J1 ++ (.lst (nats w.reverse) :: J2))))
section
variable (X : Store) (o : List Nat) (G J1 : Store) (w : List Nat) (J2 : Store)
theorem ou0 : (ou X o G J1 w J2)[X.length]? = some (.lst (nats o)) := by unfold ou; simp
theorem ou_eq : ou X o G J1 w J2 = (X ++ (.lst (nats o) :: (G ++ J1))) ++ (.lst (nats w.reverse) :: J2) := by unfold ou; simp
theorem ou_l : (X ++ (M.lst (nats o) :: (G ++ J1))).length = X.length + 1 + G.length + J1.length := by simp; omega
theorem ouw : (ou X o G J1 w J2)[X.length + 1 + G.length + J1.length]? = some (.lst (nats w.reverse)) := by
  rw [ou_eq, ← ou_l X o G J1, ap_get0]; rfl
theorem ou_set0 (o' : List Nat) : (ou X o G J1 w J2).set X.length (.lst (nats o')) = ou X o' G J1 w J2 := by unfold ou; simp
theorem ou_setw (w' : List Nat) : (ou X o G J1 w J2).set (X.length + 1 + G.length + J1.length) (.lst (nats w'.reverse)) = ou X o G J1 w' J2 := by
  rw [ou_eq, ou_eq, ← ou_l X o G J1, ap_set0]; rfl
theorem ou_app (K : Store) : ou X o G J1 w J2 ++ K = ou X o G J1 w (J2 ++ K) := by unfold ou; simp
theorem ouX {i : Nat} {m : M} (h : X[i]? = some m) : (ou X o G J1 w J2)[i]? = some m := by
  unfold ou; rw [List.getElem?_append_left (List.getElem?_eq_some_iff.mp h).1]; exact h
end
def loBody : Ss := (.cons (.ite (.not (.val (.v 4))) 
     (.cons .brk .nil) .nil) 
    (.cons (.asg (.g (.one 6)) (.lc [8] (.v 8) (.one 8) (.seq (.call 54 (.cons (.ix (.fld (.v 0) 1) (.ix (.v 4) (.neg (.k (.int (1)))))) .nil))) (.val (.cmp .NotIn (.v 8) (.v 2))))) 
    (.cons (.ite (.val (.v 6)) 
     (.cons (.expr (.bm (.v 4) .append (.cons (.ix (.v 6) (.k (.int (0)))) .nil))) .nil) 
     (.cons (.asg (.g (.one 7)) (.bm (.v 4) .pop .nil)) 
     (.cons (.ite (.val (.cmp .NotIn (.v 7) (.v 2))) 
      (.cons (.expr (.bm (.v 2) .append (.cons (.v 7) .nil))) .nil) .nil) .nil))) .nil)))
section
variable {X : Store} {P : Nat} {a c d e : D} {pn : List Nd} (hP : X[P]? = some (pins0 a (.tup (pn.map nd)) c d e)) (G : Store)
include hP
theorem lo_step (o : List Nat) (J1 : Store) (t : Nat) (r : List Nat) (J2 : Store) (k : Nat) (x1 x3 x5 x6 x7 x8 : Option D) (hl : o.length ≤ 1000) (hw : (t :: r).length ≤ 1000) (ht : t < pn.length) :
    ∃ y6 y7 y8 J3, execs pdat.p (callK pdat.p (k + 1)) loBody [some (.obj P), x1, some (.obj X.length), x3, some (.obj (X.length + 1 + G.length + J1.length)), x5, x6, x7, x8] (ou X o G J1 (t :: r) J2) = .nx [some (.obj P), x1, some (.obj X.length), x3, some (.obj (X.length + 1 + G.length + J1.length)), x5, y6, y7, y8] (ou X (stp (arN pn) (t :: r, o)).2 G J1 (stp (arN pn) (t :: r, o)).1 J3) ∧ (Pu J2 → Pu J3) := by
  have hlast : ixD (.obj (X.length + 1 + G.length + J1.length)) (.int (-1)) (ou X o G J1 (t :: r) J2) = .ok (.int (t : Nat)) (ou X o G J1 (t :: r) J2) := by
    refine ix_last (ds := nats r.reverse) (d := .int (t : Nat)) ?_
    rw [ouw]; unfold nats; simp
  have hf1 : fldD pdat.p (.obj P) 1 (ou X o G J1 (t :: r) J2) = some (.tup (pn.map nd)) := (fld0_at (ouX X o G J1 (t :: r) J2 hP)).2.1
  have hnd : L2.atI (pn.map nd) (t : Int) = some (nd (pn.getD t (.letter 0))) := get_map nd pn (.letter 0) ht
  have hpt := s_parts (pn.getD t (.letter 0)) k (ou X o G J1 (t :: r) J2)
  have hal : (nats (pn.getD t (.letter 0)).args).length ≤ 2 := by
    unfold nats; rw [List.length_map]; cases pn.getD t (.letter 0) <;> simp [Nd.args]
  have har : arN pn t = (pn.getD t (.letter 0)).args := rfl
  have hq : (ou X o G J1 (t :: r) (J2 ++ [.lst (nats (arN pn t))]))[(ou X o G J1 (t :: r) J2).length]? = some (.lst (nats (arN pn t))) := by
    rw [← ou_app, ap_get0]; rfl
  have hq2 : ∀ acc, (ou X o G J1 (t :: r) (J2 ++ [.lst (nats (arN pn t))]) ++ [.lst acc])[(ou X o G J1 (t :: r) J2).length]? = some (.lst (nats (arN pn t))) := fun acc => by
    rw [List.getElem?_append_left (List.getElem?_eq_some_iff.mp hq).1]; exact hq
  have hlc := lcLoop_pure (src := ⟨some (ou X o G J1 (t :: r) J2).length, nats (arN pn t)⟩) (g := .one 8) (own := [8]) (t := evT pdat.p (callK pdat.p (k + 1)) (.val (.cmp .NotIn (.v 8) (.v 2)))) (e := ev pdat.p (callK pdat.p (k + 1)) (.v 8)) (ρ := [some (.obj P), x1, some (.obj X.length), x3, some (.obj (X.length + 1 + G.length + J1.length)), x5, x6, x7, x8]) (S0 := ou X o G J1 (t :: r) (J2 ++ [.lst (nats (arN pn t))]))
    (keepN o) (nats (arN pn t)) (ln _ (by rw [har]; omega)) (fun acc => stays_some (hq2 acc)) (fun i d acc hdd => by
      obtain ⟨j, hj, rfl⟩ := nats_get hdd
      have hni : cmpD .NotIn (.int (j : Nat)) (.obj X.length) (ou X o G J1 (t :: r) (J2 ++ [.lst (nats (arN pn t))]) ++ [.lst acc]) = .ok (.bl (!decide (j ∈ o))) (ou X o G J1 (t :: r) (J2 ++ [.lst (nats (arN pn t))]) ++ [.lst acc]) := notIn_nats (by rw [ou_app]; exact ou0 _ _ _ _ _ _) j
      refine ⟨_, rfl, !decide (j ∈ o), ?_, ?_, ?_⟩
      · simp only [wipeE, List.set_cons_succ, List.set_cons_zero, evT_val, ev_cmp, ev_v, List.getElem?_cons_zero, List.getElem?_cons_succ, R.bind_ok, hni, truthy_bl, R.of_some]
      · intro h
        have : j ∈ o := by simpa using h
        simp [keepN, this]
      · intro h
        have : j ∉ o := by simpa using h
        exact ⟨.int (j : Nat), by simp [wipeE], by simp [keepN, this]⟩)
  rw [keep_nats] at hlc
  have hsq := seqSrc_lst hq
  have htr0 := tr_lst (ouw X o G J1 (t :: r) J2)
  have hne : (!(nats (t :: r).reverse).isEmpty) = true := by unfold nats; simp
  rw [hne] at htr0
  rw [← har] at hpt
  have ea1 := ou_app X o G J1 (t :: r) J2 [M.lst (nats (arN pn t))]
  rw [ea1] at hpt
  have hfind : ((arN pn t).filter fun p => decide (p ∉ o)).head? = (arN pn t).find? fun p => decide (p ∉ o) := by rw [List.head?_filter]
  clear hal har
  generalize hj2 : J2 ++ [M.lst (nats (arN pn t))] = J2' at *
  cases hfl : (arN pn t).filter (fun p => decide (p ∉ o)) with
  | cons p ps =>
    rw [hfl] at hlc hfind
    rw [stp_push hfind.symm]
    have hT : (ou X o G J1 (t :: r) J2' ++ [M.lst (nats (p :: ps))])[(ou X o G J1 (t :: r) J2').length]? = some (.lst (nats (p :: ps))) := by rw [List.getElem?_append_right (Nat.le_refl _)]; simp
    have htr := tr_lst hT
    have hix := ixD_lst 0 hT
    have e0 : L2.atI (nats (p :: ps)) 0 = some (.int (p : Nat)) := by simp
    rw [e0, R.of_some] at hix
    have hwl := ouw X o G J1 (t :: r) (J2' ++ [.lst (nats (p :: ps))])
    rw [← ou_app] at hwl
    have hbt := bmT_app hwl
    have hap := append_ok (y := .int (p : Nat)) hwl (by unfold nats; rw [List.length_map, List.length_reverse]; exact ln _ hw)
    have er : nats (t :: r).reverse ++ [D.int (p : Nat)] = nats (p :: t :: r).reverse := by unfold nats; simp
    have hu := ou_setw X o G J1 (t :: r) (J2' ++ [.lst (nats (p :: ps))]) (p :: t :: r)
    rw [er, ou_app, hu] at hap
    refine ⟨some (.obj (ou X o G J1 (t :: r) J2').length), x7, x8, J2' ++ [.lst (nats (p :: ps))], ?_, fun hp => by rw [← hj2]; exact (hp.app (pu_nats _)).app (pu_nats _)⟩
    have ea := ou_app X o G J1 (t :: r) J2' [M.lst (nats (p :: ps))]
    rw [ea] at hlc htr hix hbt
    have htr : truthy _ _ = some true := htr
    unfold loBody
    clear hT hwl hu e0
    generalize M.lst (nats (p :: ps)) = Lp at *
    generalize ou X o G J1 (t :: r) J2 = T0 at *
    generalize ou X o G J1 (t :: r) J2' = T1 at *
    generalize ou X o G J1 (t :: r) (J2' ++ [Lp]) = T2 at *
    generalize pn.getD t (.letter 0) = n at *
    simp [htr0, hlast, hf1, hnd, hpt, hsq, hlc, htr, hix, hbt, hap]
  | nil =>
    rw [hfl] at hlc hfind
    rw [stp_pop hfind.symm]
    have hT : (ou X o G J1 (t :: r) J2' ++ [M.lst (nats [])])[(ou X o G J1 (t :: r) J2').length]? = some (.lst (nats [])) := by rw [List.getElem?_append_right (Nat.le_refl _)]; simp
    have htr := tr_lst hT
    have hwl := ouw X o G J1 (t :: r) (J2' ++ [.lst (nats [])])
    have hbt := bmT_pop hwl
    have er : nats (t :: r).reverse = nats r.reverse ++ [D.int (t : Nat)] := by unfold nats; simp
    rw [er] at hwl
    have hpp := pop_lst hwl
    rw [ou_setw] at hpp
    have hni : cmpD .NotIn (.int (t : Nat)) (.obj X.length) (ou X o G J1 r (J2' ++ [.lst (nats [])])) = .ok (.bl (!decide (t ∈ o))) (ou X o G J1 r (J2' ++ [.lst (nats [])])) := notIn_nats (ou0 _ _ _ _ _ _) t
    refine ⟨some (.obj (ou X o G J1 (t :: r) J2').length), some (.int (t : Nat)), x8, J2' ++ [.lst (nats [])], ?_, fun hp => by rw [← hj2]; exact (hp.app (pu_nats _)).app (pu_nats [])⟩
    have ea := ou_app X o G J1 (t :: r) J2' [M.lst (nats [])]
    rw [ea] at hlc htr
    have htr : truthy _ _ = some false := htr
    clear hT hwl
    generalize M.lst (nats []) = Lp at *
    unfold loBody
    by_cases hao : t ∈ o
    · rw [if_pos hao]
      generalize ou X o G J1 (t :: r) J2 = T0 at *
      generalize ou X o G J1 (t :: r) J2' = T1 at *
      generalize ou X o G J1 (t :: r) (J2' ++ [Lp]) = T2 at *
      generalize ou X o G J1 r (J2' ++ [Lp]) = T3 at *
      generalize pn.getD t (.letter 0) = n at *
      simp [htr0, hlast, hf1, hnd, hpt, hsq, hlc, htr, hbt, hpp, hni, hao]
    · rw [if_neg hao]
      have h0 := ou0 X o G J1 r (J2' ++ [Lp])
      have hbt0 := bmT_app h0
      have hap := append_ok (y := .int (t : Nat)) h0 (by unfold nats; rw [List.length_map]; exact ln _ hl)
      have er2 : nats o ++ [D.int (t : Nat)] = nats (o ++ [t]) := by unfold nats; simp
      rw [er2, ou_set0] at hap
      generalize ou X o G J1 (t :: r) J2 = T0 at *
      generalize ou X o G J1 (t :: r) J2' = T1 at *
      generalize ou X o G J1 (t :: r) (J2' ++ [Lp]) = T2 at *
      generalize ou X o G J1 r (J2' ++ [Lp]) = T3 at *
      generalize ou X (o ++ [t]) G J1 r (J2' ++ [Lp]) = T4 at *
      generalize pn.getD t (.letter 0) = n at *
      simp [htr0, hlast, hf1, hnd, hpt, hsq, hlc, htr, hbt, hpp, hni, hao, hbt0, hap]
theorem lo_for (hi : Early (arN pn)) (J1 : Store) (k : Nat) (x1 x3 : Option D) (src : Src) (hst : ∀ T, src.stays T = true) : ∀ (ds : List D) (st o : List Nat) (J2 : Store) (x5 x6 x7 x8 : Option D), (run (arN pn) ds.length (st, o)).1 = [] → (∀ a ∈ st, a < pn.length) → (∀ a ∈ o, a < pn.length) → o.Nodup → st.Pairwise (· < ·) → pn.length ≤ 900 →
    ∃ y5 y6 y7 y8 J3, forL src (.one 5) (execs pdat.p (callK pdat.p (k + 1)) loBody) ds [some (.obj P), x1, some (.obj X.length), x3, some (.obj (X.length + 1 + G.length + J1.length)), x5, x6, x7, x8] (ou X o G J1 st J2) =
      .nx [some (.obj P), x1, some (.obj X.length), x3, some (.obj (X.length + 1 + G.length + J1.length)), y5, y6, y7, y8] (ou X (run (arN pn) ds.length (st, o)).2 G J1 [] J3) ∧ (Pu J2 → Pu J3) := by
  intro ds
  induction ds with
  | nil =>
    intro st o J2 x5 x6 x7 x8 h hst1 hst2 hst3 hst4 hpn
    have h : st = [] := h
    subst h
    exact ⟨x5, x6, x7, x8, J2, by rw [forL_nil, if_pos (hst _)]; rfl, id⟩
  | cons dd ds ih =>
    intro st o J2 x5 x6 x7 x8 h hst1 hst2 hst3 hst4 hpn
    rw [forL_cons, if_pos (hst _)]
    simp only [bindG_one, List.set_cons_succ, List.set_cons_zero]
    cases st with
    | nil =>
      have htr := tr_lst (ouw X o G J1 [] J2)
      have hne : (!(nats ([] : List Nat).reverse).isEmpty) = false := by unfold nats; simp
      rw [hne] at htr
      refine ⟨some dd, x6, x7, x8, J2, ?_, id⟩
      rw [run_nil]
      have hb : execs pdat.p (callK pdat.p (k + 1)) loBody [some (.obj P), x1, some (.obj X.length), x3, some (.obj (X.length + 1 + G.length + J1.length)), some dd, x6, x7, x8] (ou X o G J1 [] J2) = .brk [some (.obj P), x1, some (.obj X.length), x3, some (.obj (X.length + 1 + G.length + J1.length)), some dd, x6, x7, x8] (ou X o G J1 [] J2) := by
        unfold loBody
        generalize ou X o G J1 [] J2 = T at *
        simp [htr]
      rw [hb, RS.turn_brk]
    | cons a r =>
      have ha := hst1 a List.mem_cons_self
      have hol := nodup_len pn.length o hst3 hst2
      have hsl : (a :: r).length ≤ pn.length := nodup_len pn.length (a :: r) (hst4.imp (fun h => by omega)) hst1
      obtain ⟨y6, y7, y8, J3, hb, hp1⟩ := lo_step hP G o J1 a r J2 k x1 x3 (some dd) x6 x7 x8 (by omega) (by omega) ha
      have hord : ∀ b ∈ (stp (arN pn) (a :: r, o)).2, b < pn.length := by
        have := run_lt hi (N := pn.length) 1 (a :: r, o) hst1 hst2
        exact this
      have hnd : (stp (arN pn) (a :: r, o)).2.Nodup := by
        cases hf : (arN pn a).find? (fun p => decide (p ∉ o)) with
        | some p => rw [stp_push hf]; exact hst3
        | none =>
          rw [stp_pop hf]
          by_cases q : a ∈ o
          · simp only [if_pos q]; exact hst3
          · simp only [if_neg q]
            rw [List.nodup_append]
            refine ⟨hst3, List.nodup_cons.mpr ⟨by simp, List.nodup_nil⟩, fun x hx y hy e => ?_⟩
            rw [List.mem_singleton] at hy
            subst hy e; exact q hx
      have hpw : (stp (arN pn) (a :: r, o)).1.Pairwise (· < ·) := by
        cases hf : (arN pn a).find? (fun p => decide (p ∉ o)) with
        | some p =>
          rw [stp_push hf]
          have hpa := hi a p (find_some hf).1
          refine List.pairwise_cons.mpr ⟨fun x hx => ?_, hst4⟩
          rcases List.mem_cons.mp hx with h | h
          · omega
          · have := (List.pairwise_cons.mp hst4).1 x h; omega
        | none => rw [stp_pop hf]; exact (List.pairwise_cons.mp hst4).2
      obtain ⟨z5, z6, z7, z8, J4, hr, hp2⟩ := ih (stp (arN pn) (a :: r, o)).1 (stp (arN pn) (a :: r, o)).2 J3 (some dd) y6 y7 y8 h (stp_lt hi (x := (a :: r, o)) hst1) hord hnd hpw hpn
      refine ⟨z5, z6, z7, z8, J4, ?_, fun hp => hp2 (hp1 hp)⟩
      rw [hb, RS.turn_nx]
      exact hr
end
theorem s_lawOrder {S : Store} {P : Nat} {a c : D} {pn : List Nd} {cs : List Nat} {g ℓ : Nat} (hP : S[P]? = some (pins0 a (.tup (pn.map nd)) c (.tup (nats cs)) (.int (g : Nat)))) (hi : Early (arN pn)) (hcs : ∀ x ∈ cs, x < pn.length) (hg : g < pn.length) (hcl : cs.length ≤ 12) (hpn : pn.length ≤ 400) (hℓ : ℓ ≤ pn.length) (hlt : ∀ t, t < ℓ → arN pn t = []) (k : Nat) :
    ∃ J, Pu J ∧ callK pdat.p (k + 2) 56 [.obj P, .int (ℓ : Nat)] S = .ok (.obj S.length) (S ++ (.lst (nats (ords (arN pn) 1000 (cs ++ [g]) (List.range ℓ))) :: J)) := by
  have hPl : P < S.length := (List.getElem?_eq_some_iff.mp hP).1
  have hsum : nats cs ++ [D.int (g : Nat)] = nats (cs ++ [g]) := by rw [nats_app]; rfl
  generalize hG : ([.lst (nats cs), .lst [.int (g : Nat)], .lst (nats (cs ++ [g]))] : Store) = G
  have hGl : G.length = 3 := by rw [← hG]; rfl
  have hGp : Pu G := by rw [← hG]; exact (pu_nats cs).app (Pu.app (J := [.lst [.int (g : Nat)]]) (pu_nats [g]) (pu_nats _))
  have hG3 : ∀ o J1, (S ++ (M.lst (nats o) :: (G ++ J1)))[S.length + 3]? = some (.lst (nats (cs ++ [g]))) := fun o J1 => by
    rw [ap_get, ← hG]; rfl
  obtain ⟨ρ', S', hfor, J1, u3, u4, u5, u6, u7, u8, hJ1, hρ, hS⟩ := forL_inv (src := ⟨some (S.length + 3), nats (cs ++ [g])⟩) (g := .one 3) (b := execs pdat.p (callK pdat.p (k + 1)) (.cons (.asg (.g (.one 4)) (.lst (.cons (.v 3) .nil))) 
   (.cons (.for (.one 5) (.rng (.cons (.k (.int (1000))) .nil)) loBody) .nil)))
    (fun i ρ T => ∃ J1 u3 u4 u5 u6 u7 u8, Pu J1 ∧ ρ = [some (.obj P), some (.int (ℓ : Nat)), some (.obj S.length), u3, u4, u5, u6, u7, u8] ∧
      T = S ++ (.lst (nats (ords (arN pn) 1000 ((cs ++ [g]).take i) (List.range ℓ))) :: (G ++ J1))) (nats (cs ++ [g])) (fun i x ρ T hd ⟨J1, u3, u4, u5, u6, u7, u8, hJ1, hρ, hT⟩ => by
      obtain ⟨t, ht, rfl⟩ := nats_at hd
      subst hρ hT
      have hcg : ∀ b ∈ cs ++ [g], b < pn.length := fun b hb => by
        rcases List.mem_append.mp hb with h | h
        · exact hcs b h
        · rw [List.mem_singleton] at h; subst h; exact hg
      have htN := hcg t (List.mem_of_getElem? ht)
      have hlt2 : ∀ b ∈ ords (arN pn) 1000 ((cs ++ [g]).take i) (List.range ℓ), b < pn.length := ords_lt hi _ (fun b hb => hcg b (List.mem_of_mem_take hb)) _ (fun b hb => by have := List.mem_range.mp hb; omega)
      have hnd : (ords (arN pn) 1000 ((cs ++ [g]).take i) (List.range ℓ)).Nodup := by
        refine (ords_ord (ar := arN pn) _ ?_).nd
        refine ⟨List.nodup_range, fun t b hb p hp => ?_⟩
        have hb2 := (List.getElem?_eq_some_iff.mp hb).1
        rw [List.length_range] at hb2
        rw [List.getElem?_range hb2] at hb
        cases hb
        rw [hlt t hb2] at hp; cases hp
      have htk : (cs ++ [g]).take (i + 1) = (cs ++ [g]).take i ++ [t] := by rw [List.take_succ, ht]; rfl
      have hor : ords (arN pn) 1000 ((cs ++ [g]).take (i + 1)) (List.range ℓ) = (run (arN pn) 1000 ([t], ords (arN pn) 1000 ((cs ++ [g]).take i) (List.range ℓ))).2 := by
        rw [htk]
        generalize (cs ++ [g]).take i = l
        generalize List.range ℓ = o
        induction l generalizing o with
        | nil => rfl
        | cons b l ih => exact ih _
      rw [hor]
      generalize ords (arN pn) 1000 ((cs ++ [g]).take i) (List.range ℓ) = o at *
      have hone := run_one hi htN (k := 1000) (by omega) o
      have hl1000 : (rng 0 1000).length = 1000 := rng_length 0 1000
      obtain ⟨y5, y6, y7, y8, J3, hw, hJ3⟩ := lo_for hP G hi J1 k (some (.int (ℓ : Nat))) (some (.int (t : Nat))) ⟨none, rng 0 1000⟩ (fun _ => rfl) (rng 0 1000) [t] o [] u5 u6 u7 u8 (by rw [hl1000]; exact hone) (fun b hb => by rw [List.mem_singleton] at hb; subst hb; exact htN) hlt2 hnd (List.pairwise_singleton _ _) (by omega)
      rw [hl1000] at hw
      refine ⟨stays_some (hG3 o J1), _, rfl, _, _, .inl ?_, J1 ++ (.lst (nats []) :: J3), some (.int (t : Nat)), some (.obj (S.length + 1 + G.length + J1.length)), y5, y6, y7, y8, ?_, rfl, rfl⟩
      · have e1 : (S ++ (M.lst (nats o) :: (G ++ J1))).length = S.length + 1 + G.length + J1.length := ou_l S o G J1
        have e2 : S ++ (M.lst (nats o) :: (G ++ J1)) ++ [.lst [.int (t : Nat)]] = ou S o G J1 [t] [] := by unfold ou; simp
        have hr : rngSrc [.int (1000 : Int)] = some ⟨none, rng 0 1000⟩ := rfl
        simp only [execs_cons, execs_nil, exec_asg, ev_lst, evs_cons, evs_nil, ev_v, bindG_one, List.set_cons_succ, List.set_cons_zero, List.getElem?_cons_succ, List.getElem?_cons_zero, R.bind_ok, List.length_cons, List.length_nil, e1, e2]
        rw [if_pos (by decide)]
        simp only [R.st_ok, RS.seq_nx, exec_for, evI_rng, evs_cons, evs_nil, ev_k, R.bind_ok, hr, R.of_some, execs_cons, execs_nil]
        rw [hw]
        simp only [RS.seq_nx]
        unfold ou
        simp
      · exact hJ1.app ((pu_nats []).app (hJ3 Pu.nil))) (fun ρ T ⟨J1, u3, u4, u5, u6, u7, u8, hJ1, hρ, hT⟩ => by subst hT; exact stays_some (hG3 _ _)) (ρ := [some (.obj P), some (.int (ℓ : Nat)), some (.obj S.length), none, none, none, none, none, none]) (S := S ++ (.lst (nats (List.range ℓ)) :: (G ++ [])))
    ⟨[], none, none, none, none, none, none, Pu.nil, rfl, by simp [ords]⟩
  subst hρ hS
  rw [nats_len, List.take_length] at hfor
  refine ⟨G ++ J1, hGp.app hJ1, ?_⟩
  rw [c__law_order]; unfold ir__law_order
  have f3 : fldD pdat.p (.obj P) 3 (S ++ [.lst (nats (List.range ℓ))]) = some (.tup (nats cs)) := (fld0_at (by rw [List.getElem?_append_left hPl]; exact hP)).2.2.2.1
  have f4 : fldD pdat.p (.obj P) 4 (S ++ [.lst (nats (List.range ℓ)), .lst (nats cs)]) = some (.int (g : Nat)) := (fld0_at (by rw [List.getElem?_append_left hPl]; exact hP)).2.2.2.2
  have hrg := range_src ℓ (by omega)
  rw [rng_nats] at hrg
  have hll : (nats (List.range ℓ)).length ≤ 16777216 := by rw [nats_len, List.length_range]; omega
  have hli : ∀ T, bltD .list [.tup (nats cs)] T = .ok (.obj T.length) (T ++ [.lst (nats cs)]) := fun T => rfl
  have hadd := add_lst (n := S.length + 1) (m := S.length + 2) (xs := nats cs) (ys := [.int (g : Nat)]) (S := S ++ [.lst (nats (List.range ℓ)), .lst (nats cs), .lst [.int (g : Nat)]]) (by simp) (by simp) (by rw [nats_len]; have := ln (cs.length + 1) (by omega); simp only [List.length_cons, List.length_nil]; omega)
  rw [hsum] at hadd
  have hsq : seqSrc (S ++ [M.lst (nats (List.range ℓ)), .lst (nats cs), .lst [.int (g : Nat)], .lst (nats (cs ++ [g]))]) (.obj (S.length + 3)) = some ⟨some (S.length + 3), nats (cs ++ [g])⟩ := seqSrc_lst (by simp)
  have hS0 : S ++ (M.lst (nats (List.range ℓ)) :: (G ++ [])) = S ++ [M.lst (nats (List.range ℓ)), .lst (nats cs), .lst [.int (g : Nat)], .lst (nats (cs ++ [g]))] := by rw [← hG]; rfl
  rw [hS0] at hfor
  have hlo := lo_self S.length
  unfold loBody at hfor
  simp [hrg, hll, f3, f4, hli, hadd, hsq, hfor, hlo, gc_low]
end Z
end

section
set_option Elab.async false
set_option linter.all false
set_option maxRecDepth 100000
/-! NK: _law_worths_right. -/
namespace Z
open PySem
structure Rgt (pn : List Nd) (ps fs : List Qq) (pr : List Iv) : Prop where
  len : fs.length = pn.length
  lr : pr.length = pn.length
  q : ∀ (i : Nat) (n : Nd), pn[i]? = some n → n.q (fs.take i) ps = fs.getD i q0
  ok : ∀ (i : Nat) (n : Nd), pn[i]? = some n → n.ok i ps.length
  d : ∀ (i : Nat) (n : Nd), pn[i]? = some n → n.dq (fs.take i)
  low : ∀ i, i < pn.length → Low (fs.getD i q0)
  z : ∀ i, i < pn.length → In 640 (fs.getD i q0)
  zr : ∀ i, i < pn.length → InI 640 (pr.getD i i0)
  inn : ∀ i, i < pn.length → Inn (fs.getD i q0) (pr.getD i i0)
theorem rq_pl (q : Qq) : (rq q).pl = true := rfl
theorem take_getD {α : Type} (l : List α) (d : α) {i p : Nat} (h : p < i) : (l.take i).getD p d = l.getD p d := by
  simp [List.getD, List.getElem?_take, h]
def rgNode : S := (.ite (.val (.cmp .Eq (.ix (.v 5) (.k (.int (0)))) (.k (.str "num")))) 
    (.cons (.expr (.bm (.v 3) .append (.cons (.ix (.v 5) (.k (.int (1)))) .nil))) .nil) 
    (.cons (.ite (.val (.cmp .Eq (.ix (.v 5) (.k (.int (0)))) (.k (.str "letter")))) 
     (.cons (.expr (.bm (.v 3) .append (.cons (.ix (.v 1) (.ix (.v 5) (.k (.int (1))))) .nil))) .nil) 
     (.cons (.ite (.val (.cmp .Eq (.ix (.v 5) (.k (.int (0)))) (.k (.str "abs")))) 
      (.cons (.expr (.bm (.v 3) .append (.cons (.call 50 (.cons (.k (.str "abs")) (.cons (.ix (.v 3) (.ix (.v 5) (.k (.int (1))))) (.cons (.k (.non)) .nil)))) .nil))) .nil) 
      (.cons (.ite (.val (.cmp .Eq (.ix (.v 5) (.k (.int (0)))) (.k (.str "pow")))) 
       (.cons (.expr (.bm (.v 3) .append (.cons (.call 50 (.cons (.k (.str "pow")) (.cons (.ix (.v 3) (.ix (.v 5) (.k (.int (1))))) (.cons (.ix (.v 5) (.k (.int (2)))) .nil)))) .nil))) .nil) 
       (.cons (.expr (.bm (.v 3) .append (.cons (.call 50 (.cons (.ix (.v 5) (.k (.int (0)))) (.cons (.ix (.v 3) (.ix (.v 5) (.k (.int (1))))) (.cons (.ix (.v 3) (.ix (.v 5) (.k (.int (2))))) .nil)))) .nil))) .nil)) .nil)) .nil)) .nil))
theorem rg_node {pn : List Nd} {ps fs : List Qq} {pr : List Iv} (h : Rgt pn ps fs pr) (S : Store) {i : Nat} {n : Nd} (hn : pn[i]? = some n) (hl : pn.length ≤ 900) (k : Nat) (x0 x2 x4 : Option D) :
    exec pdat.p (callK pdat.p (k + 2)) rgNode [x0, some (.tup (ps.map rq)), x2, some (.obj S.length), x4, some (nd n)] (S ++ [.lst ((fs.take i).map rq)]) = .nx [x0, some (.tup (ps.map rq)), x2, some (.obj S.length), x4, some (nd n)] (S ++ [.lst ((fs.take (i + 1)).map rq)]) := by
  have hi := (List.getElem?_eq_some_iff.mp hn).1
  have hif : i < fs.length := by rw [h.len]; exact hi
  have hfl : (fs.take i).length = i := by rw [List.length_take]; omega
  have hg : (S ++ [M.lst ((fs.take i).map rq)])[S.length]? = some (.lst ((fs.take i).map rq)) := by simp
  have ht : fs.take (i + 1) = fs.take i ++ [fs.getD i q0] := by
    rw [List.take_succ, List.getElem?_eq_getElem hif]; simp [List.getD, List.getElem?_eq_getElem hif]
  have hap : bmD .append (.obj S.length) [rq (fs.getD i q0)] (S ++ [M.lst ((fs.take i).map rq)]) = .ok .non (S ++ [.lst ((fs.take (i + 1)).map rq)]) := by
    rw [append_ok hg (by rw [List.length_map, hfl]; exact ln _ (by omega)), ap_set0, ht]; simp
  have hbt := bmT_app hg
  have hq := h.q i n hn
  have hok := h.ok i n hn
  have hix : ∀ p, p < i → ixD (.obj S.length) (.int (p : Nat)) (S ++ [M.lst ((fs.take i).map rq)]) = .ok (rq (fs.getD p q0)) (S ++ [M.lst ((fs.take i).map rq)]) := fun p hp => by
    have := ix_lst hg q0 (i := p) (by omega)
    rw [take_getD fs q0 hp] at this; exact this
  unfold rgNode
  generalize hT : S ++ [M.lst ((fs.take i).map rq)] = T at *
  generalize S ++ [M.lst ((fs.take (i + 1)).map rq)] = T2 at *
  cases n with
  | num v =>
    have hq : v = fs.getD i q0 := hq
    rw [← hq] at hap
    simp [nd, hbt, hap]
  | letter j =>
    have hj : j < ps.length := hok
    have hq : ps.getD j q0 = fs.getD i q0 := hq
    have hp := get_map rq ps q0 hj
    rw [hq] at hp
    generalize fs.getD i q0 = v at *
    simp [nd, hbt, hp, hap]
  | abs p =>
    have hp : p < i := hok
    have hq : qabs ((fs.take i).getD p q0) = fs.getD i q0 := hq
    rw [take_getD fs q0 hp] at hq
    have ha := s_applyAbs (fs.getD p q0) k T
    rw [hq] at ha
    have hx := hix p hp
    generalize fs.getD i q0 = v at *
    generalize fs.getD p q0 = w at *
    simp [nd, hbt, hx, ha, hap]
  | pow p c =>
    obtain ⟨hp, h2, h6⟩ := hok
    have hq : qpow ((fs.take i).getD p q0) c = fs.getD i q0 := hq
    rw [take_getD fs q0 hp] at hq
    have ha := s_applyPow (h.z p (by omega)) c (by omega) (by decide) k T
    rw [hq] at ha
    have hx := hix p hp
    generalize fs.getD i q0 = v at *
    generalize fs.getD p q0 = w at *
    simp [nd, hbt, hx, ha, hap]
  | op o p r =>
    obtain ⟨hp, hr⟩ := hok
    have hq : o.q ((fs.take i).getD p q0) ((fs.take i).getD r q0) = fs.getD i q0 := hq
    rw [take_getD fs q0 hp, take_getD fs q0 hr] at hq
    have hd := h.d i _ hn
    have ha := s_apply (h.z p (by omega)) (h.z r (by omega)) (by decide) o (fun e => by
      subst e
      have hd : ((fs.take i).getD r q0).1 ≠ 0 := hd
      rw [take_getD fs q0 hr] at hd; exact hd) (h.low p (by omega)) (h.low r (by omega)) k T
    rw [hq] at ha
    have hx := hix p hp
    have hy := hix r hr
    obtain ⟨k1, k2, k3, k4⟩ := kn_op o
    generalize fs.getD i q0 = v at *
    generalize fs.getD p q0 = w at *
    generalize fs.getD r q0 = u at *
    simp [nd, k1, k2, k3, k4, hbt, hx, hy, ha, hap]
theorem s_right {pn : List Nd} {ps fs : List Qq} {pr : List Iv} (h : Rgt pn ps fs pr) (hl : pn.length ≤ 900) {S : Store} (hS : Lo S) {P : Nat} {a d e : D} (hP : S[P]? = some (pins0 a (.tup (pn.map nd)) (.tup (pr.map iv)) d e)) (k : Nat) :
    callK pdat.p (k + 3) 57 [.obj P, .tup (ps.map rq), .tup (fs.map rq)] S = .ok (.bl true) S := by
  rw [c__law_worths_right]; unfold ir__law_worths_right
  have hPl : P < S.length := (List.getElem?_eq_some_iff.mp hP).1
  have hPJ : ∀ J, (S ++ J)[P]? = some (pins0 a (.tup (pn.map nd)) (.tup (pr.map iv)) d e) := fun J => by rw [List.getElem?_append_left hPl]; exact hP
  have f1 : ∀ J, fldD pdat.p (.obj P) 1 (S ++ J) = some (.tup (pn.map nd)) := fun J => (fld0_at (hPJ J)).2.1
  have f2 : ∀ J, fldD pdat.p (.obj P) 2 (S ++ J) = some (.tup (pr.map iv)) := fun J => (fld0_at (hPJ J)).2.2.1
  have f1S : fldD pdat.p (.obj P) 1 S = some (.tup (pn.map nd)) := (fld0_at hP).2.1
  obtain ⟨ρ', S', hfor, u4, u5, hρ, hT⟩ := forL_inv (src := ⟨none, rng 0 pn.length⟩) (g := .one 4) (b := execs pdat.p (callK pdat.p (k + 2)) (.cons (.asg (.g (.one 5)) (.ix (.fld (.v 0) 1) (.v 4))) 
   (.cons rgNode 
   (.cons (.ite (.val (.cmp .NotEq (.ix (.v 2) (.v 4)) (.ix (.v 3) (.v 4)))) 
    (.cons (.ret (.k (.bl false))) .nil) .nil) 
   (.cons (.ite (.or (.val (.call 49 (.cons (.ix (.v 3) (.v 4)) (.cons (.ix (.ix (.fld (.v 0) 2) (.v 4)) (.k (.int (0)))) .nil)))) (.val (.call 49 (.cons (.ix (.ix (.fld (.v 0) 2) (.v 4)) (.k (.int (1)))) (.cons (.ix (.v 3) (.v 4)) .nil))))) 
    (.cons (.ret (.k (.bl false))) .nil) .nil) .nil)))))
    (fun i ρ T => ∃ u4 u5, ρ = [some (.obj P), some (.tup (ps.map rq)), some (.tup (fs.map rq)), some (.obj S.length), u4, u5] ∧ T = S ++ [.lst ((fs.take i).map rq)]) (rng 0 pn.length) (fun i x ρ T hd ⟨u4, u5, hρ, hT⟩ => by
      obtain ⟨hi, rfl⟩ := rng_get hd
      subst hρ hT
      have e0 : (0 : Int) + (i : Int) = ((i : Nat) : Int) := by omega
      rw [e0]
      have en := List.getElem?_eq_getElem hi
      generalize pn[i] = n at en
      have hif : i < fs.length := by rw [h.len]; exact hi
      have hir : i < pr.length := by rw [h.lr]; exact hi
      have hix : ∀ T, ixD (.tup (pn.map nd)) (.int (i : Nat)) T = .ok (nd n) T := fun T => by
        have := get_map nd pn (.letter 0) hi
        rw [ixD_tup, this]; simp [List.getD, en]
      have hnode := rg_node h S en hl k (some (.obj P)) (some (.tup (fs.map rq))) (some (.int (i : Nat)))
      have hg : (S ++ [M.lst ((fs.take (i + 1)).map rq)])[S.length]? = some (.lst ((fs.take (i + 1)).map rq)) := by simp
      have hx3 : ixD (.obj S.length) (.int (i : Nat)) (S ++ [M.lst ((fs.take (i + 1)).map rq)]) = .ok (rq (fs.getD i q0)) (S ++ [M.lst ((fs.take (i + 1)).map rq)]) := by
        have := ix_lst hg q0 (i := i) (by rw [List.length_take]; omega)
        rw [take_getD fs q0 (Nat.lt_succ_self i)] at this; exact this
      have hx2 : ∀ T, ixD (.tup (fs.map rq)) (.int (i : Nat)) T = .ok (rq (fs.getD i q0)) T := fun T => ix_tup rq fs T q0 hif
      have hxr : ∀ T, ixD (.tup (pr.map iv)) (.int (i : Nat)) T = .ok (iv (pr.getD i i0)) T := fun T => ix_tup iv pr T i0 hir
      have z := h.z i hi
      have zr := h.zr i hi
      have inn := h.inn i hi
      have g1 := (rv_le zr.l.p z.p).mpr inn.1
      have g2 := (rv_le z.p zr.h.p).mpr inn.2
      unfold qle at g1 g2
      have l1 : ∀ T, callK pdat.p (k + 2) 49 [rq (fs.getD i q0), rq (pr.getD i i0).1] T = .ok (.bl false) T := fun T => by
        rw [s_less z zr.l (by decide) (k + 1) T, decide_eq_false (by omega)]
      have l2 : ∀ T, callK pdat.p (k + 2) 49 [rq (pr.getD i i0).2, rq (fs.getD i q0)] T = .ok (.bl false) T := fun T => by
        rw [s_less zr.h z (by decide) (k + 1) T, decide_eq_false (by omega)]
      have hne : ∀ T, cmpD .NotEq (rq (fs.getD i q0)) (rq (fs.getD i q0)) T = .ok (.bl false) T := fun T => by
        rw [cmp_ne_pl _ (rq_pl _) (rq_pl _)]; simp
      refine ⟨rfl, _, rfl, _, _, .inl ?_, some (.int (i : Nat)), some (nd n), rfl, rfl⟩
      have f1a := f1 [M.lst ((fs.take i).map rq)]
      have f2b := f2 [M.lst ((fs.take (i + 1)).map rq)]
      generalize S ++ [M.lst ((fs.take i).map rq)] = T1 at *
      generalize S ++ [M.lst ((fs.take (i + 1)).map rq)] = T2 at *
      generalize fs.getD i q0 = v at *
      generalize pr.getD i i0 = w at *
      simp only [bindG_one, List.set_cons_succ, List.set_cons_zero]
      simp only [execs_cons, execs_nil, exec_asg, ev_ix, ev_fld, ev_v, List.getElem?_cons_zero, List.getElem?_cons_succ, R.bind_ok, f1a, R.of_some, hix, R.st_ok, bindG_one, List.set_cons_succ, List.set_cons_zero, RS.seq_nx, hnode, exec_ite, evT_val, evT_or, ev_cmp, hx2, hx3, hne, truthy_bl, Bool.false_eq_true, if_false, ev_call, evs_cons, evs_nil, ev_k, f2b, hxr, ix_iv0, ix_iv1, l1, l2]) (fun _ _ _ => rfl) (ρ := [some (.obj P), some (.tup (ps.map rq)), some (.tup (fs.map rq)), some (.obj S.length), none, none]) (S := S ++ [.lst []]) ⟨none, none, rfl, by simp⟩
  subst hρ hT
  rw [rng_length] at hfor
  have hisT : isTD (.tup (fs.map rq)) 1 S = some true := rfl
  have hrg := range_src pn.length (by omega)
  have f1b := f1 [.lst []]
  have hlen := h.len
  unfold rgNode at hfor
  simp [f1S, f1b, hisT, hlen, hrg, hfor]
  exact gc_app hS
end Z
end

section
set_option Elab.async false
set_option linter.all false
set_option maxRecDepth 100000
/-! NL: the problem's nodes in canonical order. -/
namespace Z
open PySem
theorem run_stab (ar : Nat → List Nat) : ∀ (j : Nat) (x : List Nat × List Nat), (run ar j x).1 = [] → ∀ m, run ar (j + m) x = run ar j x
  | 0, (st, o), h, m => by
    have h : st = [] := h
    subst h
    rw [Nat.zero_add, run_nil]; rfl
  | j + 1, x, h, m => by
    have e : j + 1 + m = (j + m) + 1 := by omega
    rw [e]
    exact run_stab ar j (stp ar x) h m
theorem ords_stab {ar : Nat → List Nat} (hi : Early ar) {N k m : Nat} (hk : 2 * N + 1 ≤ k) : ∀ (ss o : List Nat), (∀ s ∈ ss, s < N) → ords ar (k + m) ss o = ords ar k ss o
  | [], o, _ => rfl
  | s :: ss, o, h => by
    show ords ar (k + m) ss (run ar (k + m) ([s], o)).2 = ords ar k ss (run ar k ([s], o)).2
    rw [run_stab ar k ([s], o) (run_one hi (h s List.mem_cons_self) hk o) m]
    exact ords_stab hi hk ss _ (fun x hx => h x (List.mem_cons_of_mem _ hx))
theorem mv_args (π : Nat → Nat) (n : Nd) : (n.mv π).args = n.args.map π := by cases n <;> rfl
section
variable {ℓ : Nat} {s : BSt} {pts fs : List Qq} {us : List (List Nat)}
theorem Sem.early (h : Sem ℓ s pts fs us) : Early (arN s.nodes) := by
  intro a p hp
  unfold arN at hp
  cases e : s.nodes[a]? with
  | none => simp [List.getD, e, Nd.args] at hp
  | some n =>
    have e2 : s.nodes.getD a (.letter 0) = n := by simp [List.getD, e]
    rw [e2] at hp
    have ho := h.ok a n e
    cases n with
    | num v => cases hp
    | letter k => cases hp
    | abs i => have : p = i := by simpa [Nd.args] using hp
               subst this; exact ho
    | pow i c => have : p = i := by simpa [Nd.args] using hp
                 subst this; exact ho.1
    | op o i j =>
      have : p = i ∨ p = j := by simpa [Nd.args] using hp
      rcases this with rfl | rfl
      · exact ho.1
      · exact ho.2
theorem Sem.letter (h : Sem ℓ s pts fs us) {t : Nat} (ht : t < ℓ) : s.nodes[t]? = some (.letter t) := (ixN_some (h.lets t (by rw [h.lr]; exact ht))).1
theorem Sem.ℓle (h : Sem ℓ s pts fs us) : ℓ ≤ s.nodes.length := by
  rcases Nat.eq_zero_or_pos ℓ with e | e
  · omega
  · have := (List.getElem?_eq_some_iff.mp (h.letter (t := ℓ - 1) (by omega))).1
    omega
/-- the order and what is needed of it -/
structure Od (ℓ : Nat) (s : BSt) (f : List Nat) : Prop where
  nd : f.Nodup
  topo : ∀ (t a : Nat), f[t]? = some a → ∀ p ∈ arN s.nodes a, p ∈ f.take t
  lt : ∀ a ∈ f, a < s.nodes.length
  pre : ∃ l, f = List.range ℓ ++ l
theorem Sem.od (h : Sem ℓ s pts fs us) {g : Nat} (hg : g < s.nodes.length) (hc : ∀ a ∈ s.conds, a < s.nodes.length) (h60 : s.nodes.length ≤ 60) :
    Od ℓ s (s.ord g) ∧ (∀ a ∈ s.conds, a ∈ s.ord g) ∧ g ∈ s.ord g := by
  have hE := h.early
  have hcg : ∀ b ∈ s.conds ++ [g], b < s.nodes.length := fun b hb => by
    rcases List.mem_append.mp hb with h | h
    · exact hc b h
    · rw [List.mem_singleton] at h; subst h; exact hg
  have hle := h.ℓle
  have h0 : Ord (arN s.nodes) (List.range s.rows.length) := by
    refine ⟨List.nodup_range, fun t b hb p hp => ?_⟩
    have hb2 := (List.getElem?_eq_some_iff.mp hb).1
    rw [List.length_range] at hb2
    rw [List.getElem?_range hb2] at hb
    cases hb
    have e : arN s.nodes t = [] := by
      unfold arN
      have := h.letter (t := t) (by rw [← h.lr]; exact hb2)
      simp [List.getD, this, Nd.args]
    rw [e] at hp; cases hp
  have ho := ords_ord (ar := arN s.nodes) (k := 500) (s.conds ++ [g]) h0
  have hhas := ords_has hE (N := s.nodes.length) (k := 500) (by omega) (s.conds ++ [g]) hcg (List.range s.rows.length)
  refine ⟨⟨ho.nd, ho.topo, ?_, ?_⟩, fun a ha => hhas a (List.mem_append_left _ ha), hhas g (by simp)⟩
  · exact ords_lt hE _ hcg _ (fun b hb => by have := List.mem_range.mp hb; rw [h.lr] at this; omega)
  · have := ords_pre (arN s.nodes) 500 (s.conds ++ [g]) (List.range s.rows.length)
    rw [h.lr] at this
    unfold BSt.ord
    rw [h.lr]; exact this
def pnOf (s : BSt) (f : List Nat) : List Nd := f.map fun a => (s.nodes.getD a (.letter 0)).mv (plc f)
theorem pn_get {f : List Nat} (hlt : ∀ a ∈ f, a < s.nodes.length) {t : Nat} {n : Nd} (h : (pnOf s f)[t]? = some n) : ∃ a m, f[t]? = some a ∧ s.nodes[a]? = some m ∧ n = m.mv (plc f) ∧ arN s.nodes a = m.args := by
  unfold pnOf at h
  rw [List.getElem?_map] at h
  cases e : f[t]? with
  | none => rw [e] at h; cases h
  | some a =>
    rw [e] at h
    have ha := hlt a (List.mem_of_getElem? e)
    refine ⟨a, s.nodes[a], rfl, List.getElem?_eq_getElem ha, ?_, ?_⟩
    · have h := (Option.some.inj h).symm
      rw [h]; simp [List.getD, List.getElem?_eq_getElem ha]
    · unfold arN; simp [List.getD, List.getElem?_eq_getElem ha]
section
variable {f : List Nat} (h : Sem ℓ s pts fs us) (od : Od ℓ s f)
include h od
theorem od_at {t : Nat} (ht : t < ℓ) : f[t]? = some t := by
  obtain ⟨l, e⟩ := od.pre
  rw [e, List.getElem?_append_left (by rw [List.length_range]; exact ht), List.getElem?_range ht]
theorem od_len : ℓ ≤ f.length := by
  obtain ⟨l, e⟩ := od.pre
  rw [e, List.length_append, List.length_range]; omega
theorem od_lt {t a p : Nat} (ht : f[t]? = some a) (hp : p ∈ arN s.nodes a) : p ∈ f ∧ plc f p < t := by
  have hm := od.topo t a ht p hp
  refine ⟨List.mem_of_mem_take hm, ?_⟩
  obtain ⟨j, hj⟩ := List.mem_iff_getElem?.mp hm
  have hjt : j < t := by
    have := (List.getElem?_eq_some_iff.mp hj).1
    rw [List.length_take] at this; omega
  rw [List.getElem?_take_of_lt hjt] at hj
  rw [plc_at od.nd hj]; exact hjt
theorem letter_at {t a k : Nat} (ht : f[t]? = some a) (hk : s.nodes[a]? = some (.letter k)) : t < ℓ ∧ k = t ∧ a = t := by
  have hkl : k < ℓ := by have := h.ok a _ hk; have e := h.lr; exact e ▸ this
  have hk2 := h.letter hkl
  have hal := (List.getElem?_eq_some_iff.mp hk).1
  have e : a = k := by
    have h1 := ((List.getElem?_inj hal h.nd).mp (hk.trans hk2.symm))
    exact h1
  subst e
  have e2 := od_at h od hkl
  have htl := (List.getElem?_eq_some_iff.mp ht).1
  have e3 : t = a := (List.getElem?_inj htl od.nd).mp (ht.trans e2.symm)
  subst e3
  exact ⟨hkl, rfl, rfl⟩
theorem pn_shaped : Shaped (pnOf s f) ℓ := by
  refine ⟨fun t n hn ht => ?_, fun t n hn ht => ?_, fun t n hn p hp => ?_, ?_⟩
  · obtain ⟨a, m, h1, h2, h3, _⟩ := pn_get od.lt hn
    rw [od_at h od ht] at h1
    cases h1
    rw [h.letter ht] at h2
    cases h2
    exact h3
  · obtain ⟨a, m, h1, h2, h3, _⟩ := pn_get od.lt hn
    subst h3
    cases m with
    | letter k => have := (letter_at h od h1 h2).1; omega
    | num v => simp [Nd.mv, Nd.tag]
    | abs i => simp [Nd.mv, Nd.tag]
    | pow i c => simp [Nd.mv, Nd.tag]
    | op o i j => exact of_decide_eq_false (kn_op o).2.1
  · obtain ⟨a, m, h1, h2, h3, h4⟩ := pn_get od.lt hn
    subst h3
    rw [mv_args] at hp
    obtain ⟨q, hq, rfl⟩ := List.mem_map.mp hp
    exact (od_lt h od h1 (by rw [h4]; exact hq)).2
  · unfold pnOf
    show List.Pairwise _ _
    rw [List.pairwise_map]
    refine List.Pairwise.imp_of_mem (fun {a b} ha hb hne e => hne ?_) od.nd
    obtain ⟨t, ht⟩ := List.mem_iff_getElem?.mp ha
    obtain ⟨u, hu⟩ := List.mem_iff_getElem?.mp hb
    have hal := od.lt a ha
    have hbl := od.lt b hb
    have ea : s.nodes.getD a (.letter 0) = s.nodes[a] := by simp [List.getD, List.getElem?_eq_getElem hal]
    have eb : s.nodes.getD b (.letter 0) = s.nodes[b] := by simp [List.getD, List.getElem?_eq_getElem hbl]
    have ga : ∀ p ∈ (s.nodes.getD a (.letter 0)).args, p ∈ f := fun p hp => (od_lt h od ht hp).1
    have gb : ∀ p ∈ (s.nodes.getD b (.letter 0)).args, p ∈ f := fun p hp => (od_lt h od hu hp).1
    have inj := plc_inj od.nd
    have e2 : s.nodes.getD a (.letter 0) = s.nodes.getD b (.letter 0) := by
      revert e ga gb
      generalize s.nodes.getD a (.letter 0) = m
      generalize s.nodes.getD b (.letter 0) = m'
      intro e ga gb
      cases m <;> cases m' <;> simp [Nd.mv] at e <;> simp [Nd.args] at ga gb
      · simp [e]
      · simp [e]
      · simp [inj _ ga _ gb e]
      · simp [inj _ ga _ gb e.1, e.2]
      · obtain ⟨e1, e2, e3⟩ := e
        simp [e1, inj _ ga.1 _ gb.1 e2, inj _ ga.2 _ gb.2 e3]
    rw [ea, eb] at e2
    have e3 : s.nodes[a]? = s.nodes[b]? := by rw [List.getElem?_eq_getElem hal, List.getElem?_eq_getElem hbl, e2]
    exact (List.getElem?_inj hal h.nd).mp e3
theorem pn_len : (pnOf s f).length = f.length := by unfold pnOf; rw [List.length_map]
theorem pn_ar {a : Nat} (ha : a ∈ f) : arN (pnOf s f) (plc f a) = (arN s.nodes a).map (plc f) := by
  have hg := plc_get od.nd ha
  unfold arN pnOf
  have : (f.map fun a => (s.nodes.getD a (.letter 0)).mv (plc f)).getD (plc f a) (.letter 0) = (s.nodes.getD a (.letter 0)).mv (plc f) := by
    simp [List.getD, hg]
  rw [this, mv_args]
theorem pn_order {g : Nat} (hf : f = s.ord g) (hcf : ∀ a ∈ s.conds, a ∈ f) (hgf : g ∈ f) (hN : s.nodes.length ≤ 60) : ords (arN (pnOf s f)) 1000 (s.conds.map (plc f) ++ [plc f g]) (List.range ℓ) = List.range f.length := by
  have hss : s.conds.map (plc f) ++ [plc f g] = (s.conds ++ [g]).map (plc f) := by simp
  have hcg : ∀ b ∈ s.conds ++ [g], b ∈ f := fun b hb => by
    rcases List.mem_append.mp hb with h | h
    · exact hcf b h
    · rw [List.mem_singleton] at h; subst h; exact hgf
  have h1000 : ords (arN s.nodes) 1000 (s.conds ++ [g]) (List.range ℓ) = f := by
    have := ords_stab h.early (N := s.nodes.length) (k := 500) (m := 500) (by omega) (s.conds ++ [g]) (List.range ℓ) (fun b hb => od.lt b (hcg b hb))
    rw [show 500 + 500 = 1000 from rfl] at this
    rw [this, hf]
    unfold BSt.ord
    rw [h.lr]
  have hrange : (List.range ℓ).map (plc f) = List.range ℓ := by
    have e : ∀ t ∈ List.range ℓ, plc f t = t := fun t ht => plc_at od.nd (od_at h od (List.mem_range.mp ht))
    rw [List.map_congr_left e]; simp
  have := ords_map (ar := arN s.nodes) (ar' := arN (pnOf s f)) (π := plc f) (f := f) (plc_inj od.nd) (fun a ha p hp => by
    obtain ⟨t, ht⟩ := List.mem_iff_getElem?.mp ha
    exact (od_lt h od ht hp).1) (fun a ha => pn_ar h od ha) 1000 (s.conds ++ [g]) (List.range ℓ) hcg (fun a ha => by rw [h1000] at ha; exact ha)
  rw [hss, ← hrange, this, h1000, plc_map od.nd]
end
end
end Z
end

section
set_option Elab.async false
set_option linter.all false
set_option maxRecDepth 100000
/-! NM: worths, ranges and uses in canonical order. -/
namespace Z
open PySem
theorem map_getD {α : Type} (g : Nat → α) (d : α) {f : List Nat} {t a : Nat} (h : f[t]? = some a) : (f.map g).getD t d = g a := by
  simp [List.getD, h]
section
variable {ℓ : Nat} {s : BSt} {pts fs : List Qq} {us : List (List Nat)} {f : List Nat} (h : Sem ℓ s pts fs us) (od : Od ℓ s f)
include h od
/-- a value of an argument, found at its new place -/
theorem arg_val {α : Type} (g : Nat → α) (d : α) {t a p : Nat} (ht : f[t]? = some a) (hp : p ∈ arN s.nodes a) : ((f.map g).take t).getD (plc f p) d = g p ∧ (f.map g).getD (plc f p) d = g p := by
  obtain ⟨h1, h2⟩ := od_lt h od ht hp
  have hg := plc_get od.nd h1
  rw [take_getD _ _ h2]
  exact ⟨map_getD g d hg, map_getD g d hg⟩
theorem mv_q {t a : Nat} {m : Nd} (ht : f[t]? = some a) (hm : s.nodes[a]? = some m) (hA : arN s.nodes a = m.args) (ps : List Qq) : (m.mv (plc f)).q ((f.map fun a => fs.getD a q0).take t) ps = m.q fs ps := by
  have key : ∀ p ∈ m.args, ((f.map fun a => fs.getD a q0).take t).getD (plc f p) q0 = fs.getD p q0 := fun p hp => (arg_val h od (fun a => fs.getD a q0) q0 ht (by rw [hA]; exact hp)).1
  generalize (f.map fun a => fs.getD a q0).take t = F at *
  cases m with
  | num v => rfl
  | letter k => rfl
  | abs i => show qabs (F.getD (plc f i) q0) = qabs (fs.getD i q0); rw [key i (by simp [Nd.args])]
  | pow i c => show qpow (F.getD (plc f i) q0) c = qpow (fs.getD i q0) c; rw [key i (by simp [Nd.args])]
  | op o i j => show o.q (F.getD (plc f i) q0) (F.getD (plc f j) q0) = o.q (fs.getD i q0) (fs.getD j q0); rw [key i (by simp [Nd.args]), key j (by simp [Nd.args])]
theorem mv_u {t a : Nat} {m : Nd} (ht : f[t]? = some a) (hm : s.nodes[a]? = some m) (hA : arN s.nodes a = m.args) : (m.mv (plc f)).u ℓ ((f.map fun a => us.getD a []).take t) = m.u ℓ us := by
  have key : ∀ p ∈ m.args, ((f.map fun a => us.getD a []).take t).getD (plc f p) [] = us.getD p [] := fun p hp => (arg_val h od (fun a => us.getD a []) [] ht (by rw [hA]; exact hp)).1
  generalize (f.map fun a => us.getD a []).take t = F at *
  cases m with
  | num v => rfl
  | letter k => rfl
  | abs i => show F.getD (plc f i) [] = us.getD i []; rw [key i (by simp [Nd.args])]
  | pow i c => show F.getD (plc f i) [] = us.getD i []; rw [key i (by simp [Nd.args])]
  | op o i j => show (List.range ℓ).filter _ = (List.range ℓ).filter _; rw [key i (by simp [Nd.args]), key j (by simp [Nd.args])]
theorem mv_w {t a : Nat} {m : Nd} (ht : f[t]? = some a) (hm : s.nodes[a]? = some m) (hA : arN s.nodes a = m.args) : (m.mv (plc f)).w (f.map fun a => s.ws.getD a 0) = m.w s.ws := by
  have key : ∀ p ∈ m.args, (f.map fun a => s.ws.getD a 0).getD (plc f p) 0 = s.ws.getD p 0 := fun p hp => (arg_val h od (fun a => s.ws.getD a 0) 0 ht (by rw [hA]; exact hp)).2
  generalize (f.map fun a => s.ws.getD a 0) = F at *
  cases m with
  | num v => rfl
  | letter k => rfl
  | abs i => show F.getD (plc f i) 0 + 1 = s.ws.getD i 0 + 1; rw [key i (by simp [Nd.args])]
  | pow i c => show F.getD (plc f i) 0 * c = s.ws.getD i 0 * c; rw [key i (by simp [Nd.args])]
  | op o i j => show F.getD (plc f i) 0 + F.getD (plc f j) 0 = s.ws.getD i 0 + s.ws.getD j 0; rw [key i (by simp [Nd.args]), key j (by simp [Nd.args])]
theorem mv_ok {t a : Nat} {m : Nd} (ht : f[t]? = some a) (hm : s.nodes[a]? = some m) (hA : arN s.nodes a = m.args) : (m.mv (plc f)).ok t pts.length := by
  have key : ∀ p ∈ m.args, plc f p < t := fun p hp => (od_lt h od ht (by rw [hA]; exact hp)).2
  have ho := h.ok a m hm
  cases m with
  | num v => trivial
  | letter k => show k < pts.length; rw [h.lp, ← h.lr]; exact ho
  | abs i => exact key i (by simp [Nd.args])
  | pow i c => exact ⟨key i (by simp [Nd.args]), ho.2⟩
  | op o i j => exact ⟨key i (by simp [Nd.args]), key j (by simp [Nd.args])⟩
theorem mv_dq {t a : Nat} {m : Nd} (ht : f[t]? = some a) (hm : s.nodes[a]? = some m) (hA : arN s.nodes a = m.args) : (m.mv (plc f)).dq ((f.map fun a => fs.getD a q0).take t) := by
  have key : ∀ p ∈ m.args, ((f.map fun a => fs.getD a q0).take t).getD (plc f p) q0 = fs.getD p q0 := fun p hp => (arg_val h od (fun a => fs.getD a q0) q0 ht (by rw [hA]; exact hp)).1
  have ha := (List.getElem?_eq_some_iff.mp hm).1
  have hd := (h.dv (n := m) (Nd.ok_mono (h.ok a m hm) (by omega)) (h.dn a m hm)).1
  generalize (f.map fun a => fs.getD a q0).take t = F at *
  cases m with
  | op o i j =>
    cases o with
    | div =>
      have hd : (fs.getD j q0).1 ≠ 0 := hd
      show (F.getD (plc f j) q0).1 ≠ 0
      rw [key j (by simp [Nd.args])]; exact hd
    | _ => trivial
  | _ => trivial
theorem sz640 {a : Nat} (ha : a ∈ f) : In (16 * s.ws.getD a 0) (fs.getD a q0) ∧ s.ws.getD a 0 ≤ 40 := by
  have hl := od.lt a ha
  obtain ⟨h1, h2⟩ := h.sz a hl
  exact ⟨h2.mono (by omega), h.b.w a (by rw [h.b.lw]; exact hl)⟩
theorem cn_wl : Wl (pnOf s f) pts (f.map fun a => fs.getD a q0) (f.map fun a => s.ws.getD a 0) := by
  refine ⟨by rw [pn_len h od, List.length_map], ?_, ?_, ?_, ?_, ?_⟩
  · intro t n hn
    obtain ⟨a, m, h1, h2, h3, h4⟩ := pn_get od.lt hn
    subst h3
    rw [mv_q h od h1 h2 h4, map_getD (fun a => fs.getD a q0) q0 h1]
    exact h.q a m h2
  · intro t n hn
    obtain ⟨a, m, h1, h2, h3, h4⟩ := pn_get od.lt hn
    subst h3
    exact mv_ok h od h1 h2 h4
  · intro t n hn
    obtain ⟨a, m, h1, h2, h3, h4⟩ := pn_get od.lt hn
    subst h3
    rw [mv_w h od h1 h2 h4, h.w a m h2]
    exact (sz640 h od (List.mem_of_getElem? h1)).2
  · intro t n hn
    obtain ⟨a, m, h1, h2, h3, h4⟩ := pn_get od.lt hn
    subst h3
    exact mv_dq h od h1 h2 h4
  · intro i hi j hj
    rw [pn_len h od] at hi
    have hji : j < i := by rw [List.length_take] at hj; omega
    have e := List.getElem?_eq_getElem (l := f) (i := j) (by omega)
    rw [take_getD _ _ hji, map_getD (fun a => fs.getD a q0) q0 e, map_getD (fun a => s.ws.getD a 0) 0 e]
    exact (sz640 h od (List.mem_of_getElem? e)).1
theorem cn_rgt : Rgt (pnOf s f) pts (f.map fun a => fs.getD a q0) (f.map fun a => s.ranges.getD a i0) := by
  have hw := cn_wl h od
  have at_ : ∀ i, i < (pnOf s f).length → ∃ a, f[i]? = some a ∧ a ∈ f ∧ a < s.nodes.length := fun i hi => by
    rw [pn_len h od] at hi
    have e := List.getElem?_eq_getElem (l := f) (i := i) hi
    have hm := List.mem_of_getElem? e
    exact ⟨_, e, hm, od.lt _ hm⟩
  refine ⟨hw.len, by rw [pn_len h od, List.length_map], hw.q, hw.ok, hw.d, ?_, ?_, ?_, ?_⟩
  · intro i hi
    obtain ⟨a, e, hm, hl⟩ := at_ i hi
    rw [map_getD (fun a => fs.getD a q0) q0 e]
    exact h.low a hl
  · intro i hi
    obtain ⟨a, e, hm, hl⟩ := at_ i hi
    rw [map_getD (fun a => fs.getD a q0) q0 e]
    obtain ⟨h1, h2⟩ := sz640 h od hm
    exact h1.mono (by omega)
  · intro i hi
    obtain ⟨a, e, hm, hl⟩ := at_ i hi
    rw [map_getD (fun a => s.ranges.getD a i0) i0 e]
    obtain ⟨h1, h2⟩ := sz640 h od hm
    exact (h.b.szs a (by rw [h.b.lr]; exact hl)).2.mono (by omega)
  · intro i hi
    obtain ⟨a, e, hm, hl⟩ := at_ i hi
    rw [map_getD (fun a => s.ranges.getD a i0) i0 e, map_getD (fun a => fs.getD a q0) q0 e]
    exact h.inn a hl
theorem cn_ul (hℓ : ℓ ≤ 3) : Ul (pnOf s f) ℓ (f.map fun a => us.getD a []) := by
  have g : ∀ i, (∃ a, f[i]? = some a ∧ a < s.nodes.length ∧ (f.map fun a => us.getD a []).getD i [] = us.getD a []) ∨ (f.map fun a => us.getD a []).getD i [] = [] := fun i => by
    cases e : f[i]? with
    | none => right; simp [List.getD, e]
    | some a => left; exact ⟨a, rfl, od.lt a (List.mem_of_getElem? e), map_getD (fun a => us.getD a []) [] e⟩
  have gs : ∀ i, ((f.map fun a => us.getD a []).getD i []).Pairwise (· < ·) := fun i => by
    rcases g i with ⟨a, e, hl, e2⟩ | e2 <;> rw [e2]
    · exact h.us1 a hl
    · exact List.Pairwise.nil
  have gb : ∀ i, ∀ x ∈ (f.map fun a => us.getD a []).getD i [], x < ℓ := fun i x hx => by
    rcases g i with ⟨a, e, hl, e2⟩ | e2 <;> rw [e2] at hx
    · exact h.us2 a hl x hx
    · cases hx
  refine ⟨by rw [pn_len h od, List.length_map], ?_, (pn_shaped h od).ar, gs, gb, fun i => ?_⟩
  · intro t n hn
    obtain ⟨a, m, h1, h2, h3, h4⟩ := pn_get od.lt hn
    subst h3
    rw [mv_u h od h1 h2 h4, map_getD (fun a => us.getD a []) [] h1]
    exact h.u a m h2
  · have := nodup_len ℓ _ ((gs i).imp (fun h => by omega)) (gb i)
    omega
end
end Z
end

section
set_option Elab.async false
set_option linter.all false
set_option maxRecDepth 100000
/-! NN: the law's checks. -/
namespace Z
open PySem
def pyI (l : List Nat) : List PyData := l.map fun (a : Nat) => .int (a : Int)
theorem snap_nats (S : Store) (l : List Nat) : (nats l).mapM (snap S 19) = some (pyI l) := by
  induction l with
  | nil => rfl
  | cons a l ih =>
    rw [nats_cons, List.mapM_cons, ih]; rfl
theorem eqvAll_pyI : ∀ l : List Nat, PyData.eqvAll (pyI l) (pyI l) = true
  | [] => rfl
  | a :: l => by
    show (((a : Int) == (a : Int)) && PyData.eqvAll (pyI l) (pyI l)) = true
    rw [eqvAll_pyI l]; simp
theorem ne_nats {S : Store} {a b : Nat} {l : List Nat} (ha : S[a]? = some (.lst (nats l))) (hb : S[b]? = some (.lst (nats l))) : cmpD .NotEq (.obj a) (.obj b) S = .ok (.bl false) S := by
  have h1 : ∀ {a : Nat}, S[a]? = some (.lst (nats l)) → snap S 20 (.obj a) = some (.list (pyI l)) := fun {a} ha => by
    unfold snap
    simp only [ha, snap_nats]; rfl
  show R.of S ((eqD S (.obj a) (.obj b)).map fun b => D.bl (!b)) = _
  have : eqD S (.obj a) (.obj b) = some true := by
    unfold eqD
    rw [if_neg (fun h => by have := h.1; cases this), h1 ha, h1 hb]
    show some (PyData.eqvAll (pyI l) (pyI l)) = some true
    rw [eqvAll_pyI]
  rw [this]; rfl
theorem Lo.app {S X : Store} (h : Lo S) (hX : Pu X) : Lo (S ++ X) := by
  unfold Lo at *
  rw [List.all_append, hX.lo, all_mono (by simp) S h]; rfl
def keyD (rows : List Row) (pn : List Nd) (cs : List Nat) (g : Nat) : D := .tup [.tup (rows.map rowD), .tup (pn.map nd), .tup (nats cs), .int (g : Nat)]
theorem row_pd (r : Row) : D.pd 18 (rowD r) = true := rfl
theorem rows_pl (rows : List Row) : (D.tup (rows.map rowD)).pl = true := by
  show (rows.map rowD).all (D.pd 19) = true
  rw [List.all_map]; exact List.all_eq_true.mpr fun _ _ => rfl
theorem nd_pd18 (n : Nd) : D.pd 18 (nd n) = true := by cases n <;> rfl
theorem key_pl (rows : List Row) (pn : List Nd) (cs : List Nat) (g : Nat) : (keyD rows pn cs g).pl = true := by
  have h1 : D.pd 19 (.tup (rows.map rowD)) = true := by
    show (rows.map rowD).all (D.pd 18) = true
    rw [List.all_map]; exact List.all_eq_true.mpr fun _ _ => rfl
  have h2 : D.pd 19 (.tup (pn.map nd)) = true := by
    show (pn.map nd).all (D.pd 18) = true
    rw [List.all_map]; exact List.all_eq_true.mpr fun n _ => nd_pd18 n
  have h3 : D.pd 19 (.tup (nats cs)) = true := by
    show (nats cs).all (D.pd 18) = true
    unfold nats
    rw [List.all_map]; exact List.all_eq_true.mpr fun _ _ => rfl
  show [D.tup (rows.map rowD), D.tup (pn.map nd), D.tup (nats cs), D.int (g : Nat)].all (D.pd 19) = true
  simp only [List.all_cons, List.all_nil, h1, h2, h3]; rfl
section
variable {rows : List Row} {pn : List Nd} {pr : List Iv} {cs : List Nat} {g : Nat} {S : Store} {P : Nat}
theorem s_key (hP : S[P]? = some (pins0 (.tup (rows.map rowD)) (.tup (pn.map nd)) (.tup (pr.map iv)) (.tup (nats cs)) (.int (g : Nat)))) (k : Nat) : callK pdat.p (k + 1) 45 [.obj P] S = .ok (keyD rows pn cs g) S := by
  obtain ⟨h0, h1, h2, h3, h4⟩ := fld0_at hP
  rw [c_problem_key]; unfold ir_problem_key
  simp [h0, h1, h3, h4, gc_same]
  rfl
end
theorem utup_pl (u : List Nat) : (utup u).pl = true := by
  show (nats u).all (D.pd 19) = true
  unfold nats
  rw [List.all_map]; exact List.all_eq_true.mpr fun _ _ => rfl
def lwA : S := (.ite (.or (.val (.cmp .NotEq (.call 45 (.cons (.v 9) .nil)) (.v 10))) (.val (.cmp .NotEq (.v 10) (.tup (.cons (.fld (.v 9) 0) (.cons (.fld (.v 9) 1) (.cons (.fld (.v 9) 3) (.cons (.fld (.v 9) 4) .nil)))))))) 
   (.cons (.ret (.k (.bl false))) .nil) .nil)
def lwB : S := (.ite (.or (.val (.cmp .NotEq (.fld (.v 9) 0) (.blt .tuple (.cons (.v 2) .nil)))) (.val (.cmp .NotEq (.blt .len (.cons (.fld (.v 9) 3) .nil)) (.blt .len (.cons (.v 6) .nil))))) 
   (.cons (.ret (.k (.bl false))) .nil) .nil)
def lwC : S := (.ite (.not (.val (.call 55 (.cons (.v 9) (.cons (.blt .len (.cons (.v 2) .nil)) .nil))))) 
   (.cons (.ret (.k (.bl false))) .nil) .nil)
def lwD : S := (.ite (.val (.cmp .NotEq (.call 56 (.cons (.v 9) (.cons (.blt .len (.cons (.v 2) .nil)) .nil))) (.lrng (.cons (.blt .len (.cons (.fld (.v 9) 1) .nil)) .nil)))) 
   (.cons (.ret (.k (.bl false))) .nil) .nil)
def lwE : S := (.asg (.g (.one 11)) (.call 43 (.cons (.v 9) (.cons (.v 3) .nil))))
def lwF : S := (.ite (.not (.val (.call 57 (.cons (.v 9) (.cons (.v 3) (.cons (.v 11) .nil)))))) 
   (.cons (.ret (.k (.bl false))) .nil) .nil)
def lwG : S := (.asg (.g (.one 12)) (.call 44 (.cons (.v 9) .nil)))
def lwHb : Ss := (.cons (.ite (.or (.val (.cmp .NotEq (.ix (.v 11) (.ix (.fld (.v 9) 3) (.v 13))) (.ix (.ix (.v 6) (.v 13)) (.k (.int (1)))))) (.val (.cmp .NotEq (.ix (.v 12) (.ix (.fld (.v 9) 3) (.v 13))) (.ix (.ix (.v 6) (.v 13)) (.k (.int (4))))))) 
    (.cons (.ret (.k (.bl false))) .nil) .nil) .nil)
def lwH : S := (.for (.one 13) (.rng (.cons (.blt .len (.cons (.v 6) .nil)) .nil)) lwHb)
def lwI : S := (.ret (.and (.cmp .Eq (.ix (.v 11) (.fld (.v 9) 4)) (.ix (.v 7) (.k (.int (1))))) (.cmp .Eq (.ix (.v 12) (.fld (.v 9) 4)) (.ix (.v 7) (.k (.int (4)))))))
def lwEnd : Ss := .cons lwA (.cons lwB (.cons lwC (.cons lwD (.cons lwE (.cons lwF (.cons lwG (.cons lwH (.cons lwI .nil))))))))
section
variable {rows : List Row} {pn : List Nd} {pr : List Iv} {cs : List Nat} {g : Nat} {S : Store} {P Q B T : Nat} {pts fs : List Qq} {ws : List Nat} {us : List (List Nat)} {kept : List Tm} {goal : Tm}
theorem law_end (hS : Lo S) (hP : S[P]? = some (pins0 (.tup (rows.map rowD)) (.tup (pn.map nd)) (.tup (pr.map iv)) (.tup (nats cs)) (.int (g : Nat)))) (h5 : S[5]? = some (.lst (rows.map rowD))) (hQ : S[Q]? = some (.lst (kept.map tmD))) (hcl : cs.length = kept.length) (hc12 : cs.length ≤ 12)
    (hn : pn.length ≤ 400) (hℓ : rows.length ≤ 3) (hℓn : rows.length ≤ pn.length) (hsh : Shaped pn rows.length) (hE : Early (arN pn)) (hcs : ∀ x ∈ cs, x < pn.length) (hg : g < pn.length) (hlt : ∀ t, t < rows.length → arN pn t = [])
    (hord : ords (arN pn) 1000 (cs ++ [g]) (List.range rows.length) = List.range pn.length) (hwl : Wl pn pts fs ws) (hrg : Rgt pn pts fs pr) (hul : Ul pn rows.length us)
    (hk : ∀ (i c : Nat) (t : Tm), cs[i]? = some c → kept[i]? = some t → fs.getD c q0 = t.q ∧ us.getD c [] = t.u) (hgoal : fs.getD g q0 = goal.q ∧ us.getD g [] = goal.u) (k : Nat) (x0 x1 x8 x11 x12 x13 : Option D) :
    ∃ S', execs pdat.p (callK pdat.p (k + 8)) lwEnd [x0, x1, some (.obj 5), some (.tup (pts.map rq)), some (.obj B), some (.obj T), some (.obj Q), some (tmD goal), x8, some (.obj P), some (keyD rows pn cs g), x11, x12, x13] S = .ret (.bl true) S' := by
  have hkey : callK pdat.p (k + 8) 45 [.obj P] S = _ := s_key hP (k + 7)
  obtain ⟨f0, f1, f2, f3, f4⟩ := fld0_at hP
  have hkk : ∀ T, cmpD .NotEq (keyD rows pn cs g) (keyD rows pn cs g) T = .ok (.bl false) T := fun T => by
    rw [cmp_ne_pl _ (key_pl _ _ _ _) (key_pl _ _ _ _)]; simp
  have hrr : ∀ T, cmpD .NotEq (.tup (rows.map rowD)) (.tup (rows.map rowD)) T = .ok (.bl false) T := fun T => by
    rw [cmp_ne_pl _ (rows_pl _) (rows_pl _)]; simp
  have htu : bltD .tuple [.obj 5] S = .ok (.tup (rows.map rowD)) S := tuple_lst h5
  have hlq : bltD .len [.obj Q] S = .ok (.int (kept.length : Nat)) S := by rw [len_lst hQ, List.length_map]
  have hl5 : bltD .len [.obj 5] S = .ok (.int (rows.length : Nat)) S := by rw [len_lst h5, List.length_map]
  have hlc : ∀ T, bltD .len [.tup (nats cs)] T = .ok (.int (kept.length : Nat)) T := fun T => by rw [len_tup, nats_len, hcl]
  have hshp : callK pdat.p (k + 8) 55 [.obj P, .int (rows.length : Nat)] S = _ := s_shaped hsh hrg.lr (by omega) hS hP (k + 6)
  obtain ⟨J, hJ, hor⟩ := s_lawOrder hP hE hcs hg hc12 hn hℓn hlt (k + 6)
  have hor : callK pdat.p (k + 8) 56 [.obj P, .int (rows.length : Nat)] S = _ := hor
  rw [hord] at hor
  have hPl : P < S.length := (List.getElem?_eq_some_iff.mp hP).1
  have hQl : Q < S.length := (List.getElem?_eq_some_iff.mp hQ).1
  have hPX : ∀ X, (S ++ X)[P]? = some (pins0 (.tup (rows.map rowD)) (.tup (pn.map nd)) (.tup (pr.map iv)) (.tup (nats cs)) (.int (g : Nat))) := fun X => by rw [List.getElem?_append_left hPl]; exact hP
  have hQX : ∀ X, (S ++ X)[Q]? = some (.lst (kept.map tmD)) := fun X => by rw [List.getElem?_append_left hQl]; exact hQ
  have f1b := (fld0_at (hPX (.lst (nats (List.range pn.length)) :: J))).2.1
  have hln1 : ∀ T, bltD .len [.tup (pn.map nd)] T = .ok (.int (pn.length : Nat)) T := fun T => by rw [len_tup, List.length_map]
  have hrgs := range_src pn.length (by omega)
  have hrl : (rng 0 pn.length).length ≤ line := by rw [rng_length]; have := ln pn.length (by omega); omega
  have hcat : S ++ (M.lst (nats (List.range pn.length)) :: J) ++ [.lst (rng 0 pn.length)] = S ++ (M.lst (nats (List.range pn.length)) :: (J ++ [.lst (rng 0 pn.length)])) := by simp
  have hne : cmpD .NotEq (.obj S.length) (.obj (S ++ (M.lst (nats (List.range pn.length)) :: J)).length) (S ++ (M.lst (nats (List.range pn.length)) :: (J ++ [.lst (rng 0 pn.length)]))) = _ := ne_nats (l := List.range pn.length) (by rw [ap_get0]; rfl) (by rw [← hcat, ap_get0, ← rng_nats]; rfl)
  have hPu : Pu (M.lst (nats (List.range pn.length)) :: (J ++ [.lst (rng 0 pn.length)])) := by
    rw [rng_nats]
    exact Pu.app (J := [M.lst (nats (List.range pn.length))]) (pu_nats _) (hJ.app (pu_nats _))
  have hS3 := hS.app hPu
  have hP3 := hPX (M.lst (nats (List.range pn.length)) :: (J ++ [.lst (rng 0 pn.length)]))
  have hQ3 := hQX (M.lst (nats (List.range pn.length)) :: (J ++ [.lst (rng 0 pn.length)]))
  generalize hL1 : (M.lst (nats (List.range pn.length)) :: J) = L1 at *
  generalize (M.lst (nats (List.range pn.length)) :: (J ++ [.lst (rng 0 pn.length)])) = L2 at *
  have hwo : callK pdat.p (k + 8) 43 [.obj P, .tup (pts.map rq)] (S ++ L2) = _ := s_worths hwl hS3 hP3 (by omega) (k + 3)
  have hri : callK pdat.p (k + 8) 57 [.obj P, .tup (pts.map rq), .tup (fs.map rq)] (S ++ L2) = _ := s_right hrg (by omega) hS3 hP3 (k + 5)
  have hus : callK pdat.p (k + 8) 44 [.obj P] (S ++ L2) = _ := s_uses hul hS3 hP3 (by omega) (k + 6)
  have hlq3 : bltD .len [.obj Q] (S ++ L2) = .ok (.int (kept.length : Nat)) (S ++ L2) := by rw [len_lst hQ3, List.length_map]
  obtain ⟨g0, g1, g2, g3, g4⟩ := fld0_at hP3
  have hkrg := range_src kept.length (by omega)
  have hfl : fs.length = pn.length := hwl.len
  have hulen : us.length = pn.length := hul.len
  have hgx1 : ixD (.tup (fs.map rq)) (.int (g : Nat)) (S ++ L2) = _ := ix_tup rq fs (S ++ L2) q0 (i := g) (by omega)
  have hgx2 : ixD (.tup (us.map utup)) (.int (g : Nat)) (S ++ L2) = _ := ix_tup utup us (S ++ L2) [] (i := g) (by omega)
  rw [hgoal.1] at hgx1
  rw [hgoal.2] at hgx2
  have hee1 : cmpD .Eq (rq goal.q) (rq goal.q) (S ++ L2) = .ok (.bl true) (S ++ L2) := by rw [cmp_eq_pl _ (rq_pl _) (rq_pl _)]; simp
  have hee2 : cmpD .Eq (utup goal.u) (utup goal.u) (S ++ L2) = .ok (.bl true) (S ++ L2) := by rw [cmp_eq_pl _ (utup_pl _) (utup_pl _)]; simp
  obtain ⟨ρ', S', hfor, u13, hρ, hS'⟩ := forL_inv (src := ⟨none, rng 0 kept.length⟩) (g := .one 13) (b := execs pdat.p (callK pdat.p (k + 8)) lwHb)
    (fun i ρ T' => ∃ u13, ρ = [x0, x1, some (.obj 5), some (.tup (pts.map rq)), some (.obj B), some (.obj T), some (.obj Q), some (tmD goal), x8, some (.obj P), some (keyD rows pn cs g), some (.tup (fs.map rq)), some (.tup (us.map utup)), u13] ∧ T' = S ++ L2) (rng 0 kept.length) (fun i x ρ T' hd ⟨u13, hρ, hT⟩ => by
      obtain ⟨hi, rfl⟩ := rng_get hd
      subst hρ hT
      have e0 : (0 : Int) + (i : Int) = ((i : Nat) : Int) := by omega
      rw [e0]
      have ec := List.getElem?_eq_getElem (l := cs) (i := i) (by omega)
      have et := List.getElem?_eq_getElem hi
      generalize cs[i] = c at ec
      generalize kept[i] = t at et
      obtain ⟨q1, q2⟩ := hk i c t ec et
      have hcn := hcs c (List.mem_of_getElem? ec)
      have hx1 : L2.length = L2.length := rfl
      have hxc : ∀ X, ixD (.tup (nats cs)) (.int (i : Nat)) X = .ok (.int (c : Nat)) X := fun X => by
        rw [ixD_tup, atI_nat]; unfold nats; rw [List.getElem?_map, ec]; rfl
      have hxk : ixD (.obj Q) (.int (i : Nat)) (S ++ L2) = .ok (tmD t) (S ++ L2) := by
        rw [ixD_lst _ hQ3, atI_nat, List.getElem?_map, et]; rfl
      have hxf : ixD (.tup (fs.map rq)) (.int (c : Nat)) (S ++ L2) = _ := ix_tup rq fs (S ++ L2) q0 (i := c) (by omega)
      have hxu : ixD (.tup (us.map utup)) (.int (c : Nat)) (S ++ L2) = _ := ix_tup utup us (S ++ L2) [] (i := c) (by omega)
      rw [q1] at hxf
      rw [q2] at hxu
      have n1 : cmpD .NotEq (rq t.q) (rq t.q) (S ++ L2) = .ok (.bl false) (S ++ L2) := by rw [cmp_ne_pl _ (rq_pl _) (rq_pl _)]; simp
      have n2 : cmpD .NotEq (utup t.u) (utup t.u) (S ++ L2) = .ok (.bl false) (S ++ L2) := by rw [cmp_ne_pl _ (utup_pl _) (utup_pl _)]; simp
      refine ⟨rfl, _, rfl, _, _, .inl ?_, some (.int (i : Nat)), rfl, rfl⟩
      unfold lwHb
      simp only [bindG_one, List.set_cons_succ, List.set_cons_zero]
      simp only [execs_cons, execs_nil, exec_ite, evT_or, evT_val, ev_cmp, ev_ix, ev_fld, ev_v, ev_k, List.getElem?_cons_zero, List.getElem?_cons_succ, R.bind_ok, g3, R.of_some, hxc, hxf, hxk, ix_tm1, n1, truthy_bl, Bool.false_eq_true, if_false, hxu, ix_tm4, n2, R.st_ok, RS.seq_nx]) (fun _ _ _ => rfl) (ρ := [x0, x1, some (.obj 5), some (.tup (pts.map rq)), some (.obj B), some (.obj T), some (.obj Q), some (tmD goal), x8, some (.obj P), some (keyD rows pn cs g), some (.tup (fs.map rq)), some (.tup (us.map utup)), x13]) (S := S ++ L2) ⟨x13, rfl, rfl⟩
  subst hρ hS'
  refine ⟨S ++ L2, ?_⟩
  have hktup : ∀ X, (if 4 ≤ line then R.ok (D.tup [.tup (rows.map rowD), .tup (pn.map nd), .tup (nats cs), .int (g : Nat)]) X else R.bad) = R.ok (keyD rows pn cs g) X := fun X => rfl
  unfold lwEnd lwA lwB lwC lwD lwE lwF lwG lwH lwI
  have sA : ∀ x11 x12 x13, exec pdat.p (callK pdat.p (k + 8)) (.ite (.or (.val (.cmp .NotEq (.call 45 (.cons (.v 9) .nil)) (.v 10))) (.val (.cmp .NotEq (.v 10) (.tup (.cons (.fld (.v 9) 0) (.cons (.fld (.v 9) 1) (.cons (.fld (.v 9) 3) (.cons (.fld (.v 9) 4) .nil)))))))) 
   (.cons (.ret (.k (.bl false))) .nil) .nil) [x0, x1, some (.obj 5), some (.tup (pts.map rq)), some (.obj B), some (.obj T), some (.obj Q), some (tmD goal), x8, some (.obj P), some (keyD rows pn cs g), x11, x12, x13] S = .nx [x0, x1, some (.obj 5), some (.tup (pts.map rq)), some (.obj B), some (.obj T), some (.obj Q), some (tmD goal), x8, some (.obj P), some (keyD rows pn cs g), x11, x12, x13] S := fun x11 x12 x13 => by
    simp only [exec_ite, evT_or, evT_val, ev_cmp, ev_call, evs_cons, evs_nil, ev_v, List.getElem?_cons_zero, List.getElem?_cons_succ, R.bind_ok, hkey, hkk, truthy_bl, R.of_some, Bool.false_eq_true, if_false, ev_tup, ev_fld, f0, f1, f3, f4, List.length_cons, List.length_nil, Nat.zero_add, Nat.reduceAdd]
    rw [hktup]
    simp only [R.bind_ok, hkk, truthy_bl, R.of_some, R.st_ok, Bool.false_eq_true, if_false, execs_nil]
  rw [execs_cons, sA, RS.seq_nx]
  simp only [execs_cons, execs_nil, exec_ite, exec_asg, evT_or, evT_not, evT_val, ev_cmp, ev_call, ev_blt, ev_lrng, evs_cons, evs_nil, ev_v, List.getElem?_cons_zero, List.getElem?_cons_succ, R.bind_ok, truthy_bl, R.of_some, Bool.false_eq_true, if_false, if_true, ev_fld, f0, f1, f3, f4, htu, hrr, hlc, hlq, cmp_ne_int, decide_true, Bool.not_true, Bool.not_false, R.st_ok, RS.seq_nx, hl5, hshp, hor, f1b, hln1, hrgs]
  rw [if_pos hrl]
  simp only [execs_cons, exec_ite, exec_asg, evT_not, evT_val, ev_call, R.bind_ok, hcat, hne, truthy_bl, R.of_some, R.st_ok, Bool.false_eq_true, if_false, RS.seq_nx, hwo, bindG_one, List.set_cons_succ, List.set_cons_zero, List.getElem?_cons_zero, List.getElem?_cons_succ, hri, Bool.not_true, hus, exec_for, evI_rng, evs_cons, evs_nil, ev_blt, ev_v, hlq3, hkrg, hfor, exec_ret, ev_and, ev_cmp, ev_ix, ev_fld, g4, hgx1, ev_k, ix_tm1, hee1, hgx2, ix_tm4, hee2, execs_nil, RS.seq_ret]
end
end Z
end

section
set_option Elab.async false
set_option linter.all false
set_option maxRecDepth 100000
/-! NO: the law. -/
namespace Z
open PySem
theorem Sem.with {ℓ : Nat} {s : BSt} {pts fs : List Qq} {us : List (List Nat)} (h : Sem ℓ s pts fs us) (cs : List Nat) (g : Option Nat) : Sem ℓ { s with conds := cs, goal := g } pts fs us :=
  ⟨⟨h.b.kn, h.b.lr, h.b.lw, h.b.few, h.b.rows, h.b.w, h.b.szs, h.b.rsz⟩, h.lets, h.lf, h.lu, h.lr, h.lp, h.ok, h.q, h.u, h.w, h.dn, h.rn, h.inn, h.sz, h.low, h.us1, h.us2, h.nd, h.box⟩
theorem shaped_early {pn : List Nd} {ℓ : Nat} (h : Shaped pn ℓ) : Early (arN pn) := by
  intro a p hp
  unfold arN at hp
  cases e : pn[a]? with
  | none => simp [List.getD, e, Nd.args] at hp
  | some n =>
    have e2 : pn.getD a (.letter 0) = n := by simp [List.getD, e]
    rw [e2] at hp
    exact h.ar a n e p hp
theorem shaped_let {pn : List Nd} {ℓ : Nat} (h : Shaped pn ℓ) (hℓ : ℓ ≤ pn.length) : ∀ t, t < ℓ → arN pn t = [] := by
  intro t ht
  have e := List.getElem?_eq_getElem (l := pn) (i := t) (by omega)
  unfold arN
  have e2 : pn.getD t (.letter 0) = pn[t] := by simp [List.getD, e]
  rw [e2, h.le t _ e ht]; rfl
theorem kept_lc {L : Store} {rows : List Row} {pts : List Qq} {s : BSt} {fs : List Qq} {us : List (List Nat)} {T : List Tm} {nb jn : Nat} {K : Store} {J : Jar} (h : St rows pts s fs us T nb) (hnb : nb ≤ 500) (hJ : J.Ok jn) (hjn : jn ≤ 1000) (m : Nat) (hm : m ≤ 5) (k : Nat) (ρ : Env) (x0 x2 x3 x4 : Option D) (hρ : ρ = [x0, some (.obj 3), x2, x3, x4, some (.obj (11 + L.length)), none, none, none, none, none, none, none, none]) :
    ∃ (J' : Jar) (kept : List Tm), J'.Ok (jn + 5) ∧ kept.length = m ∧ (∀ t ∈ kept, t ∈ T) ∧ lcLoop ⟨none, rng 0 m⟩ (.one 13) [13] (tb L J s (.lst (T.map tmD) :: K)).length (evT pdat.p (callK pdat.p (k + 1)) .yes) (ev pdat.p (callK pdat.p (k + 1)) (.ix (.v 5) (.call 47 (.cons (.v 1) (.cons (.blt .len (.cons (.v 5) .nil)) .nil))))) ρ (rng 0 m) (tb L J s (.lst (T.map tmD) :: (K ++ [.lst []]))) =
      .ok (.obj (tb L J s (.lst (T.map tmD) :: K)).length) (tb L J' s (.lst (T.map tmD) :: (K ++ [.lst (kept.map tmD)]))) := by
  obtain ⟨acc, S', h1, J', kept, h2, h3, h4, h5, h6⟩ := lcLoop_inv (src := ⟨none, rng 0 m⟩) (g := .one 13) (own := [13]) (n := (tb L J s (.lst (T.map tmD) :: K)).length) (t := evT pdat.p (callK pdat.p (k + 1)) .yes) (e := ev pdat.p (callK pdat.p (k + 1)) (.ix (.v 5) (.call 47 (.cons (.v 1) (.cons (.blt .len (.cons (.v 5) .nil)) .nil))))) (ρ := ρ)
    (fun i acc S => ∃ (J' : Jar) (kept : List Tm), acc = kept.map tmD ∧ S = tb L J' s (.lst (T.map tmD) :: (K ++ [.lst acc])) ∧ kept.length = i ∧ (∀ t ∈ kept, t ∈ T) ∧ J'.Ok (jn + i)) (rng 0 m) (fun i d acc S hd ⟨J', kept, ha, hS, hl, hk, hJ'⟩ => by
      obtain ⟨hi, rfl⟩ := rng_get hd
      subst hS
      have htl := h.tl
      have ht1 := h.t1
      obtain ⟨b, Jb, hb, hJb, eb⟩ := tb_draw (L := L) hJ' (by omega) T.length (by omega) (by omega) s (.lst (T.map tmD) :: (K ++ [.lst acc])) k
      have et := List.getElem?_eq_getElem hb
      have hmem := List.getElem_mem hb
      generalize T[b] = t at et hmem
      have hix := tb_ix Jb s T (K ++ [.lst acc]) et (L := L)
      have hln := tb_ln J' s T (K ++ [.lst acc]) (L := L)
      have hg : ∀ J'' : Jar, (tb L J'' s (.lst (T.map tmD) :: (K ++ [.lst acc])))[(tb L J s (.lst (T.map tmD) :: K)).length]? = some (.lst acc) := fun J'' => by
        rw [tb_len]; exact tb_last J'' s (.lst (T.map tmD) :: K) (.lst acc)
      have hset : ∀ (J'' : Jar) x, (tb L J'' s (.lst (T.map tmD) :: (K ++ [.lst acc]))).set (tb L J s (.lst (T.map tmD) :: K)).length x = tb L J'' s (.lst (T.map tmD) :: (K ++ [x])) := fun J'' x => by
        rw [tb_len, tb_set, List.length_cons, List.set_cons_succ, ap_set0]; rfl
      refine ⟨rfl, _, rfl, true, _, evT_yes _ _ _ _, fun h => (by cases h), fun _ => ⟨tmD t, _, ?_, hg Jb, by rw [ha, List.length_map, hl]; exact ln _ (by omega), Jb, kept ++ [t], by rw [ha]; simp, hset Jb _, by simp [hl], ?_, hJb⟩⟩
      · rw [hρ]
        generalize tb L J' s (.lst (T.map tmD) :: (K ++ [.lst acc])) = S1 at *
        generalize tb L Jb s (.lst (T.map tmD) :: (K ++ [.lst acc])) = S2 at *
        simp [wipeE, hln, eb, hix]
      · intro u hu
        rcases List.mem_append.mp hu with hu | hu
        · exact hk u hu
        · rw [List.mem_singleton] at hu; subst hu; exact hmem) (fun _ _ _ => rfl) (S := tb L J s (.lst (T.map tmD) :: (K ++ [.lst []]))) ⟨J, [], rfl, rfl, rfl, (fun t ht => by cases ht), hJ⟩
  rw [rng_length] at h4 h6
  exact ⟨J', kept, ⟨h6.a, h6.b0, h6.b1, h6.c0, by have := h6.c1; omega, h6.g⟩, h4, h5, by rw [h1, h3, h2]⟩
theorem keep_for {L : Store} (hX : Pu L) {s : BSt} {kept : List Tm} {C : Store} (hC : Pu C) {J : Jar} {Q : Nat} (hQ : ∀ s, (tb L J s C)[Q]? = some (.lst (kept.map tmD))) (hkl : kept.length ≤ 5) (hc : s.conds = []) (k : Nat) (x0 x1 x2 x3 x5 x6 x7 x8 : Option D) :
    ∃ y8, forL ⟨some Q, kept.map tmD⟩ (.one 8) (execs pdat.p (callK pdat.p (k + 1)) (.cons (.expr (.meth (.v 4) 15 (.cons (.ix (.v 8) (.k (.int (0)))) .nil))) .nil)) (kept.map tmD) [x0, x1, x2, x3, some (.obj (4 + L.length)), x5, x6, x7, x8, none, none, none, none, none] (tb L J s C) =
      .nx [x0, x1, x2, x3, some (.obj (4 + L.length)), x5, x6, x7, y8, none, none, none, none, none] (tb L J { s with conds := kept.map (·.i) } C) := by
  obtain ⟨ρ', S', hfor, y8, hρ, hS⟩ := forL_inv (src := ⟨some Q, kept.map tmD⟩) (g := .one 8) (b := execs pdat.p (callK pdat.p (k + 1)) (.cons (.expr (.meth (.v 4) 15 (.cons (.ix (.v 8) (.k (.int (0)))) .nil))) .nil))
    (fun i ρ S => ∃ y8, ρ = [x0, x1, x2, x3, some (.obj (4 + L.length)), x5, x6, x7, y8, none, none, none, none, none] ∧ S = tb L J { s with conds := (kept.take i).map (·.i) } C) (kept.map tmD) (fun i d ρ S hd ⟨y8, hρ, hS⟩ => by
      subst hρ hS
      rw [List.getElem?_map] at hd
      cases et : kept[i]? with
      | none => rw [et] at hd; cases hd
      | some t =>
        rw [et] at hd; cases hd
        have hi := (List.getElem?_eq_some_iff.mp et).1
        have hk := tb_keep J hX hC (s := { s with conds := (kept.take i).map (·.i) }) t.i (by show ((kept.take i).map (·.i)).length < 12; rw [List.length_map, List.length_take]; omega) k
        have e : (kept.take i).map (·.i) ++ [t.i] = (kept.take (i + 1)).map (·.i) := by rw [List.take_succ, et]; simp
        have hk : callK pdat.p (k + 1) 38 [.obj (4 + L.length), .int (t.i : Nat)] (tb L J { s with conds := (kept.take i).map (·.i) } C) = .ok .non (tb L J { s with conds := (kept.take i).map (·.i) ++ [t.i] } C) := hk
        rw [e] at hk
        have hm := tm15 J { s with conds := (kept.take i).map (·.i) } C (L := L)
        refine ⟨stays_some (hQ _), _, rfl, _, _, .inl ?_, some (tmD t), rfl, rfl⟩
        generalize tb L J { s with conds := (kept.take i).map (·.i) } C = S1 at *
        generalize tb L J { s with conds := (kept.take (i + 1)).map (·.i) } C = S2 at *
        simp [hm, hk]) (fun ρ S ⟨y8, _, hS⟩ => by subst hS; exact stays_some (hQ _)) (ρ := [x0, x1, x2, x3, some (.obj (4 + L.length)), x5, x6, x7, x8, none, none, none, none, none]) (S := tb L J s C) ⟨x8, rfl, by
      obtain ⟨r, n, kn, rg, w, c, g⟩ := s
      have hc : c = [] := hc
      subst hc; rfl⟩
  subst hρ hS
  rw [List.length_map, List.take_length] at hfor
  exact ⟨y8, hfor⟩
theorem rows_all {start : Nat} {rows : List Row} (h : lets start rows) : ∀ r ∈ rows, RGood r := fun r hr => by
  obtain ⟨j, hj⟩ := List.mem_iff_getElem?.mp hr
  exact (h j r hj).2
theorem ir_law_eq : ir_law = (.cons (.asg (.g (.one 1)) (.call 46 (.cons (.v 0) .nil))) 
  (.cons (.asg (.g (.one 2)) (.call 51 (.cons (.v 1) .nil))) 
  (.cons (.asg (.g (.one 3)) (.call 52 (.cons (.v 1) (.cons (.v 2) .nil)))) 
  (.cons (.asg (.g (.one 4)) (.new 1 .nil)) 
  (.cons (.asg (.g (.one 5)) (.call 53 (.cons (.v 1) (.cons (.v 2) (.cons (.v 3) (.cons (.v 4) .nil)))))) 
  (.cons (.asg (.g (.one 6)) (.lc [13] (.ix (.v 5) (.call 47 (.cons (.v 1) (.cons (.blt .len (.cons (.v 5) .nil)) .nil)))) (.one 13) (.rng (.cons (.call 47 (.cons (.v 1) (.cons (.k (.int (4))) .nil))) .nil)) .yes)) 
  (.cons (.asg (.g (.one 7)) (.ix (.v 5) (.bin .Sub (.bin .Sub (.blt .len (.cons (.v 5) .nil)) (.k (.int (1)))) (.bin .Mult (.call 47 (.cons (.v 1) (.cons (.k (.int (2))) .nil))) (.call 47 (.cons (.v 1) (.cons (.blt .len (.cons (.v 5) .nil)) .nil))))))) 
  (.cons (.for (.one 8) (.seq (.v 6)) 
   (.cons (.expr (.meth (.v 4) 15 (.cons (.ix (.v 8) (.k (.int (0)))) .nil))) .nil)) 
  (.cons (.expr (.meth (.v 4) 16 (.cons (.ix (.ix (.v 5) (.k (.int (0)))) (.k (.int (0)))) .nil))) 
  (.cons (.expr (.meth (.v 4) 16 (.cons (.ix (.v 7) (.k (.int (0)))) .nil))) 
  (.cons (.asg (.g (.one 9)) (.meth (.v 4) 17 .nil)) 
  (.cons (.asg (.g (.one 10)) (.call 45 (.cons (.v 9) .nil))) 
  (.cons (.expr (.meth (.v 4) 15 (.cons (.ix (.ix (.v 5) (.k (.int (0)))) (.k (.int (0)))) .nil))) 
  (.cons (.expr (.meth (.v 4) 16 (.cons (.meth (.v 4) 12 (.cons (.tup (.cons (.k (.int (77))) (.cons (.k (.int (5))) .nil))) .nil)) .nil))) lwEnd)))))))))))))) := rfl
theorem law_true (ns : List Int) (hn : ns.length ≤ 63) : ∃ S, callK pdat.p 12 58 [.rol (ns.map .int)] [] = .ok (.bl true) S := by
  obtain ⟨J0, hJ0, ej⟩ := s_jar ns hn 10
  obtain ⟨J1, start, rows, K1, hJ1, hs, hl1, hl3, hlets, hK1, el⟩ := s_letters J0 hJ0 9
  have hgall := rows_all hlets
  have hN : Pu [M.lst namesL] := pu_kinds ["x", "y2", "long0name1z", "a"]
  obtain ⟨J2, pts, hJ2, hpl, hpg, ep⟩ := s_lawPoint hJ1 (by decide) rows hl3 hgall hN hK1 8
  obtain ⟨J3, s, fs, us, T, K, hst, hK, hJ3, et⟩ := s_terms hs hl3 hl1 hlets hpl hpg hN hK1 hJ2 (by decide) 2
  have hX : Pu (.lst namesL :: .lst (rows.map rowD) :: K1) := hN.app (Pu.app (J := [.lst (rows.map rowD)]) (pu_lst rowD (lo_row 0) rows) hK1)
  have hL1 : (M.lst namesL :: M.lst (rows.map rowD) :: K1)[1]? = some (.lst (rows.map rowD)) := rfl
  have hLl : 2 ≤ (M.lst namesL :: M.lst (rows.map rowD) :: K1).length := by simp
  have enew := s_newB (J2.st ++ (.lst namesL :: .lst (rows.map rowD) :: K1)) 10
  rw [jl_len] at enew
  have eb0 : bs (J2.st ++ (.lst namesL :: .lst (rows.map rowD) :: K1)) b0 [] = tb (.lst namesL :: .lst (rows.map rowD) :: K1) J2 (bL rows 0) [] := rfl
  rw [eb0] at enew
  have hlenL : (J2.st ++ (.lst namesL :: .lst (rows.map rowD) :: K1)).length = 4 + (M.lst namesL :: .lst (rows.map rowD) :: K1).length := jl_len J2 _
  generalize (M.lst namesL :: .lst (rows.map rowD) :: K1) = L at *
  have htl := hst.tl
  have ht1 := hst.t1
  -- kept
  obtain ⟨m, J4, hm, hJ4, em⟩ := tb_draw (L := L) hJ3 (by decide) 4 (by decide) (by decide) s (.lst (T.map tmD) :: K) 10
  have em : callK pdat.p 11 47 [.obj 3, .int 4] _ = _ := em
  obtain ⟨J5, kept, hJ5, hkl, hkm, elc⟩ := kept_lc (L := L) (K := K) hst (by decide) hJ4 (by decide) m (by omega) 10 _ (some (.rol (ns.map .int))) (some (.obj 5)) (some (.tup (pts.map rq))) (some (.obj (4 + L.length))) rfl
  have hkp : Pu (.lst (T.map tmD) :: (K ++ [.lst (kept.map tmD)])) := Pu.app (J := [.lst (T.map tmD)]) (pu_tms T) (hK.app (pu_tms kept))
  have hQ : ∀ (J : Jar) (s : BSt) (X : Store), (tb L J s (.lst (T.map tmD) :: (K ++ [.lst (kept.map tmD)]) ++ X))[(tb L J4 s (.lst (T.map tmD) :: K)).length]? = some (.lst (kept.map tmD)) := fun J s X => by
    rw [tb_len, tb_at, List.cons_append, List.length_cons, List.getElem?_cons_succ, List.append_assoc, ap_get0]; rfl
  -- goal
  obtain ⟨a, J6, ha, hJ6, ea⟩ := tb_draw (L := L) hJ5 (by decide) 2 (by decide) (by decide) s (.lst (T.map tmD) :: (K ++ [.lst (kept.map tmD)])) 10
  have ea : callK pdat.p 11 47 [.obj 3, .int 2] _ = _ := ea
  obtain ⟨b, J7, hb, hJ7, eb⟩ := tb_draw (L := L) hJ6 (by decide) T.length (by omega) (by omega) s (.lst (T.map tmD) :: (K ++ [.lst (kept.map tmD)])) 10
  have eb : callK pdat.p 11 47 [.obj 3, .int (T.length : Nat)] _ = _ := eb
  have hab : a * b < T.length := by
    have : a = 0 ∨ a = 1 := by omega
    rcases this with rfl | rfl <;> omega
  have mab : mulOk (a : Int) (b : Int) = true := mulOk_of (n := 10) (m := 10) (sm_nat (by omega)) (sm_nat (by omega)) (by decide) (by decide) (by decide)
  have hidx : (T.length : Int) - 1 - (a : Int) * (b : Int) = ((T.length - 1 - a * b : Nat) : Int) := by
    rw [← Int.natCast_mul]; omega
  have hgi : T.length - 1 - a * b < T.length := by omega
  have eg := List.getElem?_eq_getElem hgi
  have hgm := List.getElem_mem hgi
  generalize T[T.length - 1 - a * b] = goal at eg hgm
  have e0 := List.getElem?_eq_getElem (l := T) (i := 0) (by omega)
  have h0m := List.getElem_mem (l := T) (n := 0) (by omega)
  generalize T[0] = t0 at e0 h0m
  have ig := tb_ix J7 s T (K ++ [.lst (kept.map tmD)]) eg (L := L)
  have lnT := tb_ln J5 s T (K ++ [.lst (kept.map tmD)]) (L := L)
  have lnT6 := tb_ln J6 s T (K ++ [.lst (kept.map tmD)]) (L := L)
  have hPuG : ∀ J : Jar, True := fun _ => trivial
  clear hPuG
  -- the conditions
  have hsc := hst.c
  have hk0 : ∀ s : BSt, (tb L J7 s (.lst (T.map tmD) :: (K ++ [.lst (kept.map tmD)])))[(tb L J4 s (.lst (T.map tmD) :: K)).length]? = some (.lst (kept.map tmD)) := fun s => by
    have := hQ J7 s []; rw [List.append_nil] at this; exact this
  have hQn : (tb L J4 s (.lst (T.map tmD) :: K)).length = 11 + L.length + (K.length + 1) := by rw [tb_len]; rfl
  have hQ2 : ∀ (s : BSt), (tb L J7 s (.lst (T.map tmD) :: (K ++ [.lst (kept.map tmD)])))[11 + L.length + (K.length + 1)]? = some (.lst (kept.map tmD)) := fun s => by
    rw [tb_at, List.getElem?_cons_succ, ap_get0]; rfl
  obtain ⟨y8, ekeep⟩ := keep_for hX (s := s) (kept := kept) hkp (J := J7) hQ2 (by omega) hsc 10 (some (.rol (ns.map .int))) (some (.obj 3)) (some (.obj 5)) (some (.tup (pts.map rq))) (some (.obj (11 + L.length))) (some (.obj (11 + L.length + (K.length + 1)))) (some (tmD goal)) none
  have hseqQ := seqSrc_lst (hQ2 s)
  -- the goals
  have el0 := tb_least J7 hX hkp (s := { s with conds := kept.map (·.i) }) t0.i 10
  have el1 := tb_least J7 hX hkp (s := { s with conds := kept.map (·.i), goal := some t0.i }) goal.i 10
  have el0 : callK pdat.p 11 39 [.obj (4 + L.length), .int (t0.i : Nat)] (tb L J7 { s with conds := kept.map (·.i) } (.lst (T.map tmD) :: (K ++ [.lst (kept.map tmD)]))) = .ok .non (tb L J7 { s with conds := kept.map (·.i), goal := some t0.i } (.lst (T.map tmD) :: (K ++ [.lst (kept.map tmD)]))) := el0
  have el1 : callK pdat.p 11 39 [.obj (4 + L.length), .int (goal.i : Nat)] (tb L J7 { s with conds := kept.map (·.i), goal := some t0.i } (.lst (T.map tmD) :: (K ++ [.lst (kept.map tmD)]))) = .ok .non (tb L J7 { s with conds := kept.map (·.i), goal := some goal.i } (.lst (T.map tmD) :: (K ++ [.lst (kept.map tmD)]))) := el1
  have ix0 := tb_ix J7 { s with conds := kept.map (·.i) } T (K ++ [.lst (kept.map tmD)]) e0 (L := L)
  have ix0 : ixD (.obj (11 + L.length)) (.int 0) _ = _ := ix0
  have hm16 := tm16 J7 { s with conds := kept.map (·.i) } (.lst (T.map tmD) :: (K ++ [.lst (kept.map tmD)])) (L := L)
  have hm16b := tm16 J7 { s with conds := kept.map (·.i), goal := some t0.i } (.lst (T.map tmD) :: (K ++ [.lst (kept.map tmD)])) (L := L)
  have hm17 := tm17 J7 { s with conds := kept.map (·.i), goal := some goal.i } (.lst (T.map tmD) :: (K ++ [.lst (kept.map tmD)])) (L := L)
  -- the problem
  have hsem := hst.sem.with (kept.map (·.i)) (some goal.i)
  have hrows : s.rows = rows := hst.r
  have hki : ∀ x ∈ kept.map (·.i), x < s.nodes.length := fun x hx => by
    obtain ⟨t, ht, rfl⟩ := List.mem_map.mp hx
    exact (hst.t t (hkm t ht)).i
  have hgt := hst.t goal hgm
  have h0t := hst.t t0 h0m
  have hnl := hst.nl
  obtain ⟨od, hcf, hgf⟩ := hsem.od (g := goal.i) hgt.i hki (by show s.nodes.length ≤ 60; omega)
  have hrle : s.rows.length ≤ s.nodes.length := by rw [hrows]; exact hst.sem.ℓle
  obtain ⟨Jp, hJp, epr⟩ := s_problem (rest_tb J7 (.lst (T.map tmD) :: (K ++ [.lst (kept.map tmD)])) hX hkp) { s with conds := kept.map (·.i), goal := some goal.i } hsem.b hsem.lets hsem.early goal.i rfl hgt.i hki (by show (kept.map (·.i)).length ≤ 12; rw [List.length_map]; omega) hrle (by show s.nodes.length ≤ 60; omega) 8 od.nd od.lt (fun a ha p hp => by
    obtain ⟨t, ht⟩ := List.mem_iff_getElem?.mp ha
    exact (od_lt hsem od ht hp).1) hcf hgf
  have hlenA : (J7.st ++ L).length = 4 + L.length := jl_len J7 L
  rw [hlenA] at epr
  generalize hf : ({ s with conds := kept.map (·.i), goal := some goal.i } : BSt).ord goal.i = f at *
  have epr : callK pdat.p 11 40 [.obj (4 + L.length)] (tb L J7 { s with conds := kept.map (·.i), goal := some goal.i } (.lst (T.map tmD) :: (K ++ [.lst (kept.map tmD)]))) = .ok (.obj (tb L J7 { s with conds := kept.map (·.i), goal := some goal.i } (.lst (T.map tmD) :: (K ++ [.lst (kept.map tmD)]) ++ Jp)).length) (tb L J7 { s with conds := kept.map (·.i), goal := some goal.i } (.lst (T.map tmD) :: (K ++ [.lst (kept.map tmD)]) ++ Jp ++ [pOf { s with conds := kept.map (·.i), goal := some goal.i } goal.i f])) := epr
  have hpOf : pOf { s with conds := kept.map (·.i), goal := some goal.i } goal.i f = pins0 (.tup (rows.map rowD)) (.tup ((pnOf { s with conds := kept.map (·.i), goal := some goal.i } f).map nd)) (.tup ((f.map fun a => s.ranges.getD a i0).map iv)) (.tup (nats ((kept.map (·.i)).map (plc f)))) (.int (plc f goal.i : Nat)) := by
    unfold pOf; rw [← hrows]; rfl
  rw [hpOf] at epr
  -- canonical facts
  have hsh := pn_shaped hsem od
  have hnl2 := pn_len hsem od
  have hfl : f.length ≤ 60 := Nat.le_trans (nodup_len _ _ od.nd od.lt) (by show s.nodes.length ≤ 60; omega)
  have hwl := cn_wl hsem od
  have hrg := cn_rgt hsem od
  have hul := cn_ul hsem od hl3
  have hord := pn_order hsem od hf.symm hcf hgf (by show s.nodes.length ≤ 60; omega)
  rw [← hnl2] at hord
  have hℓf := od_len hsem od
  rw [← hnl2] at hℓf
  have hpm : ∀ x ∈ f, plc f x < (pnOf { s with conds := kept.map (·.i), goal := some goal.i } f).length := fun x hx => by rw [hnl2]; exact plc_lt od.nd hx
  have hval : ∀ t : Tm, t ∈ T → t.i ∈ f → (f.map fun a => fs.getD a q0).getD (plc f t.i) q0 = t.q ∧ (f.map fun a => us.getD a []).getD (plc f t.i) [] = t.u := fun t ht htf => by
    have hg := plc_get od.nd htf
    rw [map_getD (fun a => fs.getD a q0) q0 hg, map_getD (fun a => us.getD a []) [] hg]
    exact ⟨(hst.t t ht).q, (hst.t t ht).u⟩
  have hcs : ∀ x ∈ (kept.map (·.i)).map (plc f), x < (pnOf { s with conds := kept.map (·.i), goal := some goal.i } f).length := fun x hx => by
    obtain ⟨y, hy, rfl⟩ := List.mem_map.mp hx
    exact hpm y (hcf y hy)
  have hkk : ∀ (i c : Nat) (t : Tm), ((kept.map (·.i)).map (plc f))[i]? = some c → kept[i]? = some t → (f.map fun a => fs.getD a q0).getD c q0 = t.q ∧ (f.map fun a => us.getD a []).getD c [] = t.u := fun i c t hc ht => by
    rw [List.getElem?_map, List.getElem?_map, ht] at hc
    cases hc
    exact hval t (hkm t (List.mem_of_getElem? ht)) (hcf t.i (List.mem_map.mpr ⟨t, List.mem_of_getElem? ht, rfl⟩))
  have hgv := hval goal hgm hgf
  have hn77 : Short (77, 5) := ⟨by decide, by decide⟩
  have hPP : Pu [pins0 (.tup (rows.map rowD)) (.tup ((pnOf { s with conds := kept.map (·.i), goal := some goal.i } f).map nd)) (.tup ((f.map fun a => s.ranges.getD a i0).map iv)) (.tup (nats ((kept.map (·.i)).map (plc f)))) (.int (plc f goal.i : Nat))] := by
    have h1 : (D.tup (rows.map rowD)).lo 0 = true := los_map rowD 0 (lo_row 0) _
    have h2 : (D.tup ((pnOf { s with conds := kept.map (·.i), goal := some goal.i } f).map nd)).lo 0 = true := los_map nd 0 (lo_nd 0) _
    have h3 : (D.tup ((f.map fun a => s.ranges.getD a i0).map iv)).lo 0 = true := los_map iv 0 (lo_iv 0) _
    have h4 : (D.tup (nats ((kept.map (·.i)).map (plc f)))).lo 0 = true := los_map _ 0 (fun _ => rfl) _
    unfold Pu pins0
    simp only [List.all_cons, List.all_nil, Bool.and_true]
    show D.los 0 _ = true
    simp only [List.map_cons, List.map_nil, D.los, h1, h2, h3, h4]
    rfl
  have hC1 := (hkp.app hJp).app hPP
  have hpl2 := tb_last J7 (L := L) { s with conds := kept.map (·.i), goal := some goal.i } (.lst (T.map tmD) :: (K ++ [.lst (kept.map tmD)]) ++ Jp) (pins0 (.tup (rows.map rowD)) (.tup ((pnOf { s with conds := kept.map (·.i), goal := some goal.i } f).map nd)) (.tup ((f.map fun a => s.ranges.getD a i0).map iv)) (.tup (nats ((kept.map (·.i)).map (plc f)))) (.int (plc f goal.i : Nat)))
  have hplast : ∀ s : BSt, (tb L J7 s (.lst (T.map tmD) :: (K ++ [.lst (kept.map tmD)]) ++ Jp ++ [pins0 (.tup (rows.map rowD)) (.tup ((pnOf { s with conds := kept.map (·.i), goal := some goal.i } f).map nd)) (.tup ((f.map fun a => s.ranges.getD a i0).map iv)) (.tup (nats ((kept.map (·.i)).map (plc f)))) (.int (plc f goal.i : Nat))]))[11 + L.length + (M.lst (T.map tmD) :: (K ++ [.lst (kept.map tmD)]) ++ Jp).length]? = _ := fun s => tb_last J7 s _ _
  clear hplast
  rw [tb_len] at epr
  generalize hpn : pnOf { s with conds := kept.map (·.i), goal := some goal.i } f = pn at *
  generalize (f.map fun a => s.ranges.getD a i0) = pr at *
  have hcsl : ((kept.map (·.i)).map (plc f)).length = kept.length := by rw [List.length_map, List.length_map]
  generalize (kept.map (·.i)).map (plc f) = cs at *
  generalize hPd : pins0 (.tup (rows.map rowD)) (.tup (pn.map nd)) (.tup (pr.map iv)) (.tup (nats cs)) (.int (plc f goal.i : Nat)) = PP at *
  have hplast : ∀ s : BSt, (tb L J7 s (.lst (T.map tmD) :: (K ++ [.lst (kept.map tmD)]) ++ Jp ++ [PP]))[11 + L.length + (M.lst (T.map tmD) :: (K ++ [.lst (kept.map tmD)]) ++ Jp).length]? = some PP := fun s => tb_last J7 s _ _
  have hQl : ∀ s : BSt, (tb L J7 s (.lst (T.map tmD) :: (K ++ [.lst (kept.map tmD)]) ++ Jp ++ [PP]))[11 + L.length + (K.length + 1)]? = some (.lst (kept.map tmD)) := fun s => by
    have := hQ J7 s (Jp ++ [PP])
    rw [tb_len, List.length_cons, ← List.append_assoc] at this; exact this
  have h5l : ∀ s : BSt, (tb L J7 s (.lst (T.map tmD) :: (K ++ [.lst (kept.map tmD)]) ++ Jp ++ [PP]))[5]? = some (.lst (rows.map rowD)) := fun s => by
    have := tb_L (L := L) (i := 1) J7 s (.lst (T.map tmD) :: (K ++ [.lst (kept.map tmD)]) ++ Jp ++ [PP]) (by omega)
    rw [hL1] at this; exact this
  generalize hPn : 11 + L.length + (M.lst (T.map tmD) :: (K ++ [.lst (kept.map tmD)]) ++ Jp).length = P at *
  generalize hQn2 : 11 + L.length + (K.length + 1) = Q at *
  rw [hQn] at elc
  have ekey : callK pdat.p 11 45 [.obj P] (tb L J7 { s with conds := kept.map (·.i), goal := some goal.i } (.lst (T.map tmD) :: (K ++ [.lst (kept.map tmD)]) ++ Jp ++ [PP])) = _ := s_key (by rw [hplast, ← hPd]) 10
  have ek2 := tb_keep J7 hX hC1 (s := { s with conds := kept.map (·.i), goal := some goal.i }) t0.i (by show (kept.map (·.i)).length < 12; rw [List.length_map]; omega) 10
  have ek2 : callK pdat.p 11 38 [.obj (4 + L.length), .int (t0.i : Nat)] (tb L J7 { s with conds := kept.map (·.i), goal := some goal.i } (.lst (T.map tmD) :: (K ++ [.lst (kept.map tmD)]) ++ Jp ++ [PP])) = .ok .non (tb L J7 { s with conds := kept.map (·.i) ++ [t0.i], goal := some goal.i } (.lst (T.map tmD) :: (K ++ [.lst (kept.map tmD)]) ++ Jp ++ [PP])) := ek2
  have hsem2 := hst.sem.with (kept.map (·.i) ++ [t0.i]) (some goal.i)
  have en := tb_number J7 hX hC1 (s := { s with conds := kept.map (·.i) ++ [t0.i], goal := some goal.i }) hsem2.b (77, 5) hn77 3
  have en : callK pdat.p 11 35 [.obj (4 + L.length), .tup [.int 77, .int 5]] _ = _ := en
  have el2 := tb_least J7 hX hC1 (s := ({ s with conds := kept.map (·.i) ++ [t0.i], goal := some goal.i } : BSt).place (.num (77, 5))) (({ s with conds := kept.map (·.i) ++ [t0.i], goal := some goal.i } : BSt).at (.num (77, 5))) 10
  have ix02 : ixD (.obj (11 + L.length)) (.int 0) (tb L J7 { s with conds := kept.map (·.i), goal := some goal.i } (.lst (T.map tmD) :: (K ++ [.lst (kept.map tmD)]) ++ Jp ++ [PP])) = .ok (tmD t0) (tb L J7 { s with conds := kept.map (·.i), goal := some goal.i } (.lst (T.map tmD) :: (K ++ [.lst (kept.map tmD)]) ++ Jp ++ [PP])) := tb_ix J7 _ T (K ++ [.lst (kept.map tmD)] ++ Jp ++ [PP]) e0 (L := L)
  have hm15 := tm15 J7 { s with conds := kept.map (·.i), goal := some goal.i } (.lst (T.map tmD) :: (K ++ [.lst (kept.map tmD)]) ++ Jp ++ [PP]) (L := L)
  have hm16c := tm16 J7 { s with conds := kept.map (·.i) ++ [t0.i], goal := some goal.i } (.lst (T.map tmD) :: (K ++ [.lst (kept.map tmD)]) ++ Jp ++ [PP]) (L := L)
  have hm12 := tm12 J7 { s with conds := kept.map (·.i) ++ [t0.i], goal := some goal.i } (.lst (T.map tmD) :: (K ++ [.lst (kept.map tmD)]) ++ Jp ++ [PP]) (L := L)
  have hS := tb_lo J7 { ({ s with conds := kept.map (·.i) ++ [t0.i], goal := some goal.i } : BSt).place (.num (77, 5)) with goal := some (({ s with conds := kept.map (·.i) ++ [t0.i], goal := some goal.i } : BSt).at (.num (77, 5))) } (.lst (T.map tmD) :: (K ++ [.lst (kept.map tmD)]) ++ Jp ++ [PP]) hX hC1
  obtain ⟨Se, eend⟩ := law_end (g := plc f goal.i) hS (by rw [hplast, ← hPd]) (h5l _) (hQl _) hcsl (by omega) (by omega) hl3 hℓf hsh (shaped_early hsh) hcs (hpm goal.i hgf) (shaped_let hsh hℓf) hord hwl hrg hul hkk hgv 3 (B := 4 + L.length) (T := 11 + L.length) (some (.rol (ns.map .int))) (some (.obj 3)) y8 none none none
  refine ⟨gc 0 true Se, ?_⟩
  rw [c_law, ir_law_eq]
  have hini : pdat.p.ini 1 = some 33 := rfl
  have happ0 := tb_app J4 s (.lst (T.map tmD) :: K) [.lst []] (L := L)
  have hcons : ∀ X : M, M.lst (T.map tmD) :: K ++ [X] = M.lst (T.map tmD) :: (K ++ [X]) := fun X => rfl
  rw [hcons] at happ0
  have hrg4 := range_src m (by omega)
  have hS3l : (tb L J4 s (.lst (T.map tmD) :: K)).length = Q := by rw [tb_len, ← hQn2]; rfl
  have h77 : ∀ X : Store, (if 2 ≤ line then R.ok (D.tup [.int 77, .int 5]) X else R.bad) = R.ok (D.tup [.int 77, .int 5]) X := fun X => rfl
  generalize J0.st = T0 at *
  generalize J1.st ++ L = T1 at *
  generalize J2.st ++ L = T2 at *
  generalize tb L J2 (bL rows 0) [] = T2b at *
  generalize tb L J3 s (.lst (T.map tmD) :: K) = T3 at *
  generalize tb L J4 s (.lst (T.map tmD) :: K) = T4 at *
  generalize tb L J4 s (.lst (T.map tmD) :: (K ++ [.lst []])) = T4b at *
  generalize tb L J5 s (.lst (T.map tmD) :: (K ++ [.lst (kept.map tmD)])) = T5 at *
  generalize tb L J6 s (.lst (T.map tmD) :: (K ++ [.lst (kept.map tmD)])) = T6 at *
  generalize tb L J7 s (.lst (T.map tmD) :: (K ++ [.lst (kept.map tmD)])) = T7 at *
  generalize tb L J7 { s with conds := kept.map (·.i) } (.lst (T.map tmD) :: (K ++ [.lst (kept.map tmD)])) = T8 at *
  generalize tb L J7 { s with conds := kept.map (·.i), goal := some t0.i } (.lst (T.map tmD) :: (K ++ [.lst (kept.map tmD)])) = T9 at *
  generalize tb L J7 { s with conds := kept.map (·.i), goal := some goal.i } (.lst (T.map tmD) :: (K ++ [.lst (kept.map tmD)])) = T10 at *
  generalize (.lst (T.map tmD) :: (K ++ [.lst (kept.map tmD)]) ++ Jp ++ [PP] : Store) = CC at *
  generalize tb L J7 { s with conds := kept.map (·.i), goal := some goal.i } CC = T11 at *
  generalize tb L J7 { s with conds := kept.map (·.i) ++ [t0.i], goal := some goal.i } CC = T12 at *
  generalize tb L J7 (({ s with conds := kept.map (·.i) ++ [t0.i], goal := some goal.i } : BSt).place (.num (77, 5))) CC = T13 at *
  generalize tb L J7 { ({ s with conds := kept.map (·.i) ++ [t0.i], goal := some goal.i } : BSt).place (.num (77, 5)) with goal := some (({ s with conds := kept.map (·.i) ++ [t0.i], goal := some goal.i } : BSt).at (.num (77, 5))) } CC = T14 at *
  simp only [execs_cons, exec_asg, ev_call, evs_cons, evs_nil, ev_v, ev_k, List.getElem?_cons_zero, List.getElem?_cons_succ, R.bind_ok, ej, R.st_ok, bindG_one, List.set_cons_succ, List.set_cons_zero, RS.seq_nx, el, ep, ev_new, hini, hlenL, enew, et, ev_lc, evI_rng, em, hrg4, R.of_some, hS3l, happ0]
  rw [elc]
  simp only [execs_cons, execs_nil, exec_asg, exec_expr, exec_for, ev_call, evs_cons, evs_nil, ev_v, ev_k, ev_ix, ev_bin, ev_blt, List.getElem?_cons_zero, List.getElem?_cons_succ, R.bind_ok, R.st_ok, bindG_one, List.set_cons_succ, List.set_cons_zero, RS.seq_nx, R.of_some, lnT, bin_sub, ea, lnT6, eb, bin_mul _ mab, hidx, ig, evI_seq, hseqQ]
  rw [ekeep]
  simp only [execs_cons, execs_nil, exec_asg, exec_expr, ev_meth, ev_call, evs_cons, evs_nil, ev_v, ev_k, ev_ix, ev_tup, List.getElem?_cons_zero, List.getElem?_cons_succ, List.length_cons, List.length_nil, Nat.zero_add, Nat.reduceAdd, R.bind_ok, R.st_ok, bindG_one, List.set_cons_succ, List.set_cons_zero, RS.seq_nx, ix0, ix_tm0, hm16, el0, hm16b, el1, hm17, epr, ekey, ix02, hm15, ek2, hm16c, hm12, h77, en, el2]
  rw [eend]
  rfl
end Z
end

section
set_option Elab.async false
theorem PySem.Challenge.cw_leastinbox_k86_canonical_worths_holds : PySem.Challenge.rw_leastinbox_k86_canonical_worths.Holds := by
  exact Z.holds_of Z.law_true
end
