import PyProof.Rows.All
import PySem.Syntax
import Wide.All
import OpenK.AllK
import Wide.FinOn
import HandS.ForMost
import HandS.ForExc
import HandS.TryMany
import HandS.IsInst
import HandS.Zip
import HandS.Walk
import HandS.CallLocal
import HandS.TupAny
import HandS.Style
import HandS.ExcSuper
import HandS.RaiseMore
import HandS.Small
import HandS.Conv
import HandS.Deep
import HandS.TupLe
import KE.GoesMore
import KE.GoesEnum
import KE.KExcSuper
import HandS.ExcField
import PySem.Challenge.RW_floorsagree_k03_spans
section
set_option Elab.async false
set_option linter.all false
/-! PD0: immutable data, a store of lists, outcomes, a small AST and its pure meaning. No program, no model in sight. -/
namespace PD
open PySem (CmpOp Operator)

/-- immutable data; a list that nobody changes any more is data, too -/
inductive D where
  | non | bl (b : Bool) | int (i : Int) | str (s : List Nat) | tup (l : List D) | lst (l : List D)
  deriving Inhabited
/-- a value: data, the n-th thing of the store, the f-th def -/
inductive A where
  | d (x : D) | obj (n : Nat) | fn (f : Nat)
  deriving Inhabited
/-- what stands in the store: a list, a list that is frozen -/
inductive MO where
  | ls (l : List D) | fz (l : List D)
  deriving Inhabited
abbrev Store := List MO
abbrev Env := List (Option A)
structure Exn where
  cls : Nat
  arg : Option D
  deriving Inhabited
inductive Out (α : Type) where
  | ok (a : α) (st : Store)
  | exn (e : Exn) (st : Store)
  | bad
/-- a statement's outcome -/
inductive SO where
  | nx (env : Env) (st : Store)
  | rt (a : A) (st : Store)
  | bk (env : Env) (st : Store)
  | ct (env : Env) (st : Store)
  | ex (e : Exn) (env : Env) (st : Store)
  | bad

def Out.bind {α β : Type} (o : Out α) (f : α → Store → Out β) : Out β :=
  match o with
  | .ok a st => f a st
  | .exn e st => .exn e st
  | .bad => .bad
def Out.toS {α : Type} (o : Out α) (env : Env) (f : α → Store → SO) : SO :=
  match o with
  | .ok a st => f a st
  | .exn e st => .ex e env st
  | .bad => .bad
@[simp] theorem bind_ok {α β : Type} {a : α} {st : Store} {f : α → Store → Out β} : (Out.ok a st).bind f = f a st := rfl
@[simp] theorem bind_exn {α β : Type} {e : Exn} {st : Store} {f : α → Store → Out β} : (Out.exn e st : Out α).bind f = .exn e st := rfl
@[simp] theorem bind_bad {α β : Type} {f : α → Store → Out β} : (Out.bad : Out α).bind f = .bad := rfl
@[simp] theorem toS_ok {α : Type} {a : α} {st : Store} {env : Env} {f : α → Store → SO} : (Out.ok a st).toS env f = f a st := rfl
@[simp] theorem toS_exn {α : Type} {e : Exn} {st : Store} {env : Env} {f : α → Store → SO} : (Out.exn e st : Out α).toS env f = .ex e env st := rfl
@[simp] theorem toS_bad {α : Type} {env : Env} {f : α → Store → SO} : (Out.bad : Out α).toS env f = .bad := rfl

/-- what is new in the store is dropped, but the value itself -/
def settleV (L : Nat) (a : A) (st : Store) : Out A :=
  match a with
  | .d x => .ok (.d x) (st.take L)
  | .fn f => .ok (.fn f) (st.take L)
  | .obj n => if n < L then .ok (.obj n) (st.take L) else
      match st[n]? with
      | some m => .ok (.obj L) (st.take L ++ [m])
      | none => .bad
def settle (L : Nat) (o : Out A) : Out A :=
  match o with
  | .ok a st => settleV L a st
  | .exn e st => .exn e (st.take L)
  | .bad => .bad

/-- a value as data that stays: a list of the store is frozen -/
def freeze (a : A) (st : Store) : Option (D × Store) :=
  match a with
  | .d x => some (x, st)
  | .fn _ => none
  | .obj n =>
    match st[n]? with
    | some (.ls l) => some (.lst l, st.set n (.fz l))
    | some (.fz l) => some (.lst l, st)
    | none => none
def freezeAll : List A → Store → Option (List D × Store)
  | [], st => some ([], st)
  | a :: r, st =>
    match freeze a st with
    | none => none
    | some (x, st1) =>
      match freezeAll r st1 with
      | none => none
      | some (xs, st2) => some (x :: xs, st2)
/-- a value as data, as it is now -/
def now (a : A) (st : Store) : Option D :=
  match a with
  | .d x => some x
  | .fn _ => none
  | .obj n =>
    match st[n]? with
    | some (.ls l) => some (.lst l)
    | some (.fz l) => some (.lst l)
    | none => none
def nowAll : List A → Store → Option (List D)
  | [], _ => some []
  | a :: r, st =>
    match now a st, nowAll r st with
    | some x, some xs => some (x :: xs)
    | _, _ => none

/-- the lids of the model: most items, most signs -/
def LID : Nat := 16777216

/-! ### equality and places -/
mutual
def D.eqv : D → D → Bool
  | .non, .non => true
  | .bl a, .bl b => a == b
  | .bl a, .int j => (if a then (1 : Int) else 0) == j
  | .int i, .bl b => i == (if b then (1 : Int) else 0)
  | .int i, .int j => i == j
  | .str a, .str b => a == b
  | .tup a, .tup b => D.eqvs a b
  | .lst a, .lst b => D.eqvs a b
  | _, _ => false
def D.eqvs : List D → List D → Bool
  | [], [] => true
  | x :: xs, y :: ys => D.eqv x y && D.eqvs xs ys
  | _, _ => false
end
mutual
/-- how deep data is nested -/
def D.deep : D → Nat
  | .tup l => D.deeps l + 1
  | .lst l => D.deeps l + 1
  | _ => 0
def D.deeps : List D → Nat
  | [] => 0
  | x :: xs => max (D.deep x) (D.deeps xs)
end
/-- where an index stands in a row of n, if it does -/
def place (i : Int) (n : Nat) : Option Nat :=
  if 0 ≤ i then (if i < n then some i.toNat else none) else if 0 ≤ i + n then some (i + n).toNat else none
/-- where a slice's end stands in a row of n -/
def clip (i : Int) (n : Nat) : Nat := if 0 ≤ i then min i.toNat n else (i + n).toNat
def cutL {α : Type} (l : List α) (lo hi : Option Int) : List α :=
  let a := match lo with | none => 0 | some i => clip i l.length
  let b := match hi with | none => l.length | some i => clip i l.length
  (l.drop a).take (b - a)

/-! ### what built-in things make of data -/
inductive Res where
  | v (d : D) | l (xs : List D)
def give (r : Res) (st : Store) : Out A :=
  match r with
  | .v d => .ok (.d d) st
  | .l xs => .ok (.obj st.length) (st ++ [.ls xs])
abbrev Prim := List D → Option Res

def pAdd : Prim
  | [.int i, .int j] => some (.v (.int (i + j)))
  | [.str a, .str b] => if a.length + b.length ≤ LID then some (.v (.str (a ++ b))) else none
  | [.tup a, .tup b] => if a.length + b.length ≤ LID then some (.v (.tup (a ++ b))) else none
  | [.lst a, .lst b] => if a.length + b.length ≤ LID then some (.l (a ++ b)) else none
  | _ => none
def pSub : Prim
  | [.int i, .int j] => some (.v (.int (i - j)))
  | _ => none
def smallI (i : Int) : Bool := decide (-18446744073709551616 < i) && decide (i < 18446744073709551616)
def pMul : Prim
  | [.int i, .int j] => if smallI i || smallI j then some (.v (.int (i * j))) else none
  | [.str a, .int j] => if a.length * j.toNat ≤ 1000000 && decide (a.length ≤ 1000000) && decide (-1000000 ≤ j) && decide (j ≤ 1000000) then some (.v (.str ((List.replicate j.toNat a).flatten))) else none
  | _ => none
def pFdiv : Prim
  | [.int i, .int j] => if 0 < j ∧ j < 1073741824 then some (.v (.int (i / j))) else none
  | _ => none
def pMod : Prim
  | [.int i, .int j] => if 0 < j then some (.v (.int (i % j))) else none
  | _ => none
def pPow : Prim
  | [.int i, .int j] => if 0 ≤ j ∧ j ≤ 1000 ∧ i.natAbs < 18446744073709551616 then some (.v (.int (i ^ j.toNat))) else none
  | _ => none
def pNeg : Prim
  | [.int i] => some (.v (.int (-i)))
  | _ => none
def okDeep (a b : D) : Bool := decide (a.deep ≤ 60) && decide (b.deep ≤ 60)
def pEq : Prim
  | [a, b] => if okDeep a b then some (.v (.bl (a.eqv b))) else none
  | _ => none
def pNe : Prim
  | [a, b] => if okDeep a b then some (.v (.bl (!a.eqv b))) else none
  | _ => none
def pLt : Prim
  | [.int i, .int j] => some (.v (.bl (decide (i < j))))
  | [.str a, .str b] => some (.v (.bl (decide (a < b))))
  | _ => none
def pLe : Prim
  | [.int i, .int j] => some (.v (.bl (decide (i ≤ j))))
  | [.str a, .str b] => some (.v (.bl (!decide (b < a))))
  | _ => none
def pGt : Prim
  | [.int i, .int j] => some (.v (.bl (decide (j < i))))
  | [.str a, .str b] => some (.v (.bl (decide (b < a))))
  | _ => none
def pGe : Prim
  | [.int i, .int j] => some (.v (.bl (decide (j ≤ i))))
  | [.str a, .str b] => some (.v (.bl (!decide (a < b))))
  | _ => none
def flatD : D → Bool
  | .non => true | .bl _ => true | .int _ => true | .str _ => true | _ => false
def isIn (x : D) (l : List D) : Bool := l.any fun y => y.eqv x
def pIn : Prim
  | [.str [c], .str s] => some (.v (.bl (decide (c ∈ s))))
  | [x, .tup l] => if flatD x && l.all flatD then some (.v (.bl (isIn x l))) else none
  | [x, .lst l] => if flatD x && l.all flatD then some (.v (.bl (isIn x l))) else none
  | _ => none
def pNotIn : Prim
  | [.str [c], .str s] => some (.v (.bl (!decide (c ∈ s))))
  | [x, .tup l] => if flatD x && l.all flatD then some (.v (.bl (!isIn x l))) else none
  | [x, .lst l] => if flatD x && l.all flatD then some (.v (.bl (!isIn x l))) else none
  | _ => none
def D.isNon : D → Bool
  | .non => true
  | _ => false
def pIsN : Prim
  | [a, .non] => some (.v (.bl a.isNon))
  | _ => none
def pNotN : Prim
  | [a, .non] => some (.v (.bl (!a.isNon)))
  | _ => none
def pIsB : Prim
  | [.bl a, .bl b] => some (.v (.bl (a == b)))
  | _ => none
def pNotB : Prim
  | [.bl a, .bl b] => some (.v (.bl (!(a == b))))
  | _ => none
def pIs : Prim
  | [.bl a, .bl b] => some (.v (.bl (a == b)))
  | [a, .non] => some (.v (.bl a.isNon))
  | _ => none
def pIsNot : Prim
  | [.bl a, .bl b] => some (.v (.bl (!(a == b))))
  | [a, .non] => some (.v (.bl (!a.isNon)))
  | _ => none
def pLen : Prim
  | [.str s] => if s.length ≤ LID then some (.v (.int s.length)) else none
  | [.tup l] => some (.v (.int l.length))
  | [.lst l] => some (.v (.int l.length))
  | _ => none
/-- the types that isinstance is asked for -/
inductive Ty where
  | int | str | bool | tuple | list
def D.isTy : D → Ty → Bool
  | .bl _, .int => true
  | .bl _, .bool => true
  | .int _, .int => true
  | .str _, .str => true
  | .tup _, .tuple => true
  | .lst _, .list => true
  | _, _ => false
def pIsi (t : Ty) : Prim
  | [x] => some (.v (.bl (x.isTy t)))
  | _ => none
def boolsOf : List D → Option (List Bool)
  | [] => some []
  | .bl b :: r => (boolsOf r).map (b :: ·)
  | _ => none
def intsOf : List D → Option (List Int)
  | [] => some []
  | .int b :: r => (intsOf r).map (b :: ·)
  | _ => none
def textsOf : List D → Option (List (List Nat))
  | [] => some []
  | .str b :: r => (textsOf r).map (b :: ·)
  | _ => none
def pAll : Prim
  | [.lst l] => (boolsOf l).map fun bs => .v (.bl (bs.all id))
  | _ => none
def pAny : Prim
  | [.lst l] => (boolsOf l).map fun bs => .v (.bl (bs.any id))
  | _ => none
def pSum : Prim
  | [.lst l] => (intsOf l).map fun bs => .v (.int bs.sum)
  | _ => none
def maxL : Int → List Int → Int
  | m, [] => m
  | m, x :: r => maxL (if x > m then x else m) r
def minL : Int → List Int → Int
  | m, [] => m
  | m, x :: r => minL (if x < m then x else m) r
def pMaxL : Prim
  | [.lst l] => match intsOf l with
    | some (m :: r) => some (.v (.int (maxL m r)))
    | _ => none
  | _ => none
def pMinL : Prim
  | [.lst l] => match intsOf l with
    | some (m :: r) => some (.v (.int (minL m r)))
    | _ => none
  | _ => none
def pMax2 : Prim
  | [.int i, .int j] => some (.v (.int (if j > i then j else i)))
  | _ => none
def pMin2 : Prim
  | [.int i, .int j] => some (.v (.int (if j < i then j else i)))
  | _ => none
def pTuple : Prim
  | [.lst l] => some (.v (.tup l))
  | [.tup l] => some (.v (.tup l))
  | _ => none
def pList : Prim
  | [.lst l] => some (.l l)
  | [.tup l] => some (.l l)
  | _ => none
def pInt : Prim
  | [.int i] => some (.v (.int i))
  | [.bl b] => some (.v (.int (if b then 1 else 0)))
  | _ => none
def joined (sep : List Nat) : List (List Nat) → List Nat
  | [] => []
  | [x] => x
  | x :: r => x ++ sep ++ joined sep r
def lensOf (sep : List Nat) : List (List Nat) → Nat
  | [] => 0
  | x :: r => x.length + sep.length + lensOf sep r
def pJoin : Prim
  | [.str sep, .lst l] => match textsOf l with
    | some ts => if lensOf sep ts ≤ LID then some (.v (.str (joined sep ts))) else none
    | none => none
  | [.str sep, .tup l] => match textsOf l with
    | some ts => if lensOf sep ts ≤ LID then some (.v (.str (joined sep ts))) else none
    | none => none
  | _ => none
def pIx : Prim
  | [.str s, .int i] => if s.length ≤ LID then ((place i s.length).bind fun j => s[j]?).map fun c => .v (.str [c]) else none
  | [.tup l, .int i] => ((place i l.length).bind fun j => l[j]?).map .v
  | [.lst l, .int i] => ((place i l.length).bind fun j => l[j]?).map .v
  | _ => none
def part : D → Option (Option Int)
  | .non => some none
  | .int i => some (some i)
  | _ => none
def pSl : Prim
  | [.str s, lo, hi] => match part lo, part hi with
    | some a, some b => if s.length ≤ LID then some (.v (.str (cutL s a b))) else none
    | _, _ => none
  | [.tup l, lo, hi] => match part lo, part hi with
    | some a, some b => some (.v (.tup (cutL l a b)))
    | _, _ => none
  | [.lst l, lo, hi] => match part lo, part hi with
    | some a, some b => some (.l (cutL l a b))
    | _, _ => none
  | _ => none
def pRev : Prim
  | [.tup l] => some (.v (.tup l.reverse))
  | [.lst l] => some (.l l.reverse)
  | _ => none

def pIAdd : Prim
  | [.int i, .int j] => some (.v (.int (i + j)))
  | [.str a, .str b] => if a.length + b.length ≤ LID then some (.v (.str (a ++ b))) else none
  | _ => none
/-! ### expressions -/
abbrev SemE := Env → Store → Out A
abbrev SemT := Env → Store → Out Bool
abbrev SemAs := Env → Store → Out (List A)
abbrev SemF := Nat → List A → Store → Out A
abbrev SemS := Env → Store → SO

def gVar (i : Nat) : SemE := fun env st =>
  match env[i]? with
  | some (some a) => .ok a st
  | _ => .bad
def gCon (d : D) : SemE := fun _ st => .ok (.d d) st
def gFn (f : Nat) : SemE := fun _ st => .ok (.fn f) st
def gNil : SemAs := fun _ st => .ok [] st
def gCons (a : SemE) (r : SemAs) : SemAs := fun env st => (a env st).bind fun x s1 => (r env s1).bind fun xs s2 => .ok (x :: xs) s2
def opOn (p : Prim) (xs : List A) (st : Store) : Out A :=
  match nowAll xs st with
  | none => .bad
  | some ds =>
    match p ds with
    | none => .bad
    | some r => give r st
def gOp (p : Prim) (as : SemAs) : SemE := fun env st => settle st.length ((as env st).bind fun xs s1 => opOn p xs s1)
def gTup (as : SemAs) : SemE := fun env st => settle st.length ((as env st).bind fun xs s1 =>
  match freezeAll xs s1 with
  | none => .bad
  | some (ds, s2) => if ds.length ≤ LID then .ok (.d (.tup ds)) s2 else .bad)
def gLst (as : SemAs) : SemE := fun env st => settle st.length ((as env st).bind fun xs s1 =>
  match freezeAll xs s1 with
  | none => .bad
  | some (ds, s2) => if ds.length ≤ LID then .ok (.obj s2.length) (s2 ++ [.ls ds]) else .bad)
/-- the truth of data -/
def D.truth : D → Bool
  | .non => false
  | .bl b => b
  | .int i => i != 0
  | .str s => !s.isEmpty
  | .tup l => !l.isEmpty
  | .lst l => !l.isEmpty
def okLen : D → Bool
  | .str s => decide (s.length ≤ LID)
  | _ => true
def tVal (g : SemE) : SemT := fun env st => (g env st).bind fun a s1 =>
  match now a s1 with
  | some d => if okLen d then .ok d.truth (s1.take st.length) else .bad
  | none => .bad
def tAnd (a b : SemT) : SemT := fun env st => (a env st).bind fun x s1 => if x then b env s1 else .ok false s1
def tOr (a b : SemT) : SemT := fun env st => (a env st).bind fun x s1 => if x then .ok true s1 else b env s1
def tNot (a : SemT) : SemT := fun env st => (a env st).bind fun x s1 => .ok (!x) s1
def gAnd (a b : SemE) : SemE := fun env st => (a env st).bind fun x s1 =>
  match x with
  | .d (.bl true) => b env s1
  | .d (.bl false) => .ok (.d (.bl false)) s1
  | _ => .bad
def gOr (a b : SemE) : SemE := fun env st => (a env st).bind fun x s1 =>
  match x with
  | .d (.bl true) => .ok (.d (.bl true)) s1
  | .d (.bl false) => b env s1
  | _ => .bad
def gNot (a : SemE) : SemE := fun env st => (a env st).bind fun x s1 =>
  match x with
  | .d (.bl b) => .ok (.d (.bl (!b))) s1
  | _ => .bad
def gIf (c : SemT) (a b : SemE) : SemE := fun env st => (c env st).bind fun x s1 => if x then a env s1 else b env s1
def gChain (p q : Prim) (a b c : SemE) : SemE := fun env st => settle st.length ((a env st).bind fun x s1 => (b env s1).bind fun y s2 => (opOn p [x, y] s2).bind fun z s3 =>
  match z with
  | .d (.bl true) => (c env s3).bind fun w s4 => opOn q [y, w] s4
  | .d (.bl false) => .ok (.d (.bl false)) s3
  | _ => .bad)
def gCall (F : SemF) (f : Nat) (as : SemAs) : SemE := fun env st => settle st.length ((as env st).bind fun xs s1 => F f xs s1)
def gCallV (F : SemF) (i : Nat) (as : SemAs) : SemE := fun env st =>
  match env[i]? with
  | some (some (.fn f)) => settle st.length ((as env st).bind fun xs s1 => F f xs s1)
  | _ => .bad

/-- a slice's part: an int -/
def gInt (g : SemE) : SemE := fun env st => (g env st).bind fun x s1 =>
  match x with
  | .d (.int i) => .ok (.d (.int i)) s1
  | _ => .bad

/-- a method's owner: a text -/
def gStr (g : SemE) : SemE := fun env st => (g env st).bind fun x s1 =>
  match x with
  | .d (.str i) => .ok (.d (.str i)) s1
  | _ => .bad

/-! ### what is walked -/
mutual
def D.same : D → D → Bool
  | .non, .non => true
  | .bl a, .bl b => a == b
  | .int i, .int j => i == j
  | .str a, .str b => a == b
  | .tup a, .tup b => D.sames a b
  | .lst a, .lst b => D.sames a b
  | _, _ => false
def D.sames : List D → List D → Bool
  | [], [] => true
  | x :: xs, y :: ys => D.same x y && D.sames xs ys
  | _, _ => false
end
/-- the items, and the lists of the store that must stay as they are -/
structure Src where
  items : List D
  watch : List (Nat × List D)
def heldAt (st : Store) (n : Nat) (l : List D) : Bool :=
  match st[n]? with
  | some (.ls m) => D.sames m l
  | some (.fz m) => D.sames m l
  | none => false
def Src.ok (s : Src) (st : Store) : Bool := s.watch.all fun w => heldAt st w.1 w.2
abbrev SemI := Env → Store → Out Src
def signs (s : List Nat) : List D := s.map fun c => .str [c]
/-- a row: a list or a tuple, its items, what is to be watched -/
def rowOf (a : A) (st : Store) : Option (Bool × List D × List (Nat × List D)) :=
  match a with
  | .d (.tup l) => some (false, l, [])
  | .d (.lst l) => some (true, l, [])
  | .obj n =>
    match st[n]? with
    | some (.ls l) => some (true, l, [(n, l)])
    | some (.fz l) => some (true, l, [(n, l)])
    | none => none
  | _ => none
def iVal (g : SemE) : SemI := fun env st => (g env st).bind fun a s1 =>
  match a with
  | .d (.str s) => .ok ⟨signs s, []⟩ s1
  | _ =>
    match rowOf a s1 with
    | some (_, l, w) => .ok ⟨l, w⟩ s1
    | none => .bad
def rangeL (lo hi : Int) : List D := (List.range (hi - lo).toNat).map fun k => .int (lo + (k : Nat))
def big62 : Int := 4611686018427387904
def iRange1 (a : SemE) : SemI := fun env st => (a env st).bind fun x s1 =>
  match x with
  | .d (.int n) => if -big62 ≤ n ∧ n < big62 then .ok ⟨rangeL 0 n, []⟩ s1 else .bad
  | _ => .bad
def iRange2 (a b : SemE) : SemI := fun env st => (a env st).bind fun x s1 => (b env s1).bind fun y s2 =>
  match x, y with
  | .d (.int i), .d (.int j) => if (-big62 ≤ i ∧ i < big62) ∧ -big62 ≤ j ∧ j < big62 then .ok ⟨rangeL i j, []⟩ s2 else .bad
  | _, _ => .bad
def numbered : Nat → List D → List D
  | _, [] => []
  | k, d :: r => .tup [.int (k : Nat), d] :: numbered (k + 1) r
/-- enumerate: of texts, of lists -/
def iEnum (a : SemE) : SemI := fun env st => (a env st).bind fun x s1 =>
  match x with
  | .d (.str s) => .ok ⟨numbered 0 (signs s), []⟩ s1
  | _ =>
    match rowOf x s1 with
    | some (true, l, w) => .ok ⟨numbered 0 l, w⟩ s1
    | some (false, l, w) => .ok ⟨numbered 0 l, w⟩ s1
    | none => .bad
def paired : List D → List D → List D
  | x :: xs, y :: ys => .tup [x, y] :: paired xs ys
  | _, _ => []
def iZip (a b : SemE) : SemI := fun env st => (a env st).bind fun x s1 => (b env s1).bind fun y s2 =>
  match rowOf x s2, rowOf y s2 with
  | some (false, l, _), some (false, m, _) => .ok ⟨paired l m, []⟩ s2
  | some (true, l, v), some (true, m, w) => .ok ⟨paired l m, v ++ w⟩ s2
  | _, _ => .bad

/-! ### targets -/
inductive Tg where
  | name (i : Nat) | tup (ts : List Tg)
def setAll : List Nat → List D → Env → Option Env
  | [], [], env => some env
  | i :: is, d :: ds, env => setAll is ds (env.set i (some (.d d)))
  | _, _, _ => none
mutual
def Tg.put : Tg → D → Env → Option Env
  | .name i, d, env => some (env.set i (some (.d d)))
  | .tup ts, .tup l, env => Tg.puts ts l env
  | _, _, _ => none
def Tg.puts : List Tg → List D → Env → Option Env
  | [], [], env => some env
  | t :: ts, d :: ds, env =>
    match Tg.put t d env with
    | some env1 => Tg.puts ts ds env1
    | none => none
  | _, _, _ => none
end
mutual
def Tg.slots : Tg → List Nat
  | .name i => [i]
  | .tup ts => Tg.slotss ts
def Tg.slotss : List Tg → List Nat
  | [] => []
  | t :: ts => Tg.slots t ++ Tg.slotss ts
end
def wipeE (env : Env) : List Nat → Env
  | [] => env
  | v :: vs => (wipeE env vs).set v none

/-! ### list comprehensions -/
def lcGo (step : D → Store → Out (Option D)) (ok : Store → Bool) : List D → Store → Out (List D)
  | [], st => if ok st then .ok [] st else .bad
  | d :: ds, st =>
    if ok st then
      match step d st with
      | .ok o s1 =>
        match lcGo step ok ds (s1.take st.length) with
        | .ok xs s2 => .ok (match o with | some x => x :: xs | none => xs) s2
        | _ => .bad
      | _ => .bad
    else .bad
def lcStep (tg : Tg) (cond : SemT) (elt : SemE) (env : Env) (d : D) (st : Store) : Out (Option D) :=
  match tg.put d env with
  | none => .bad
  | some env1 => (cond env1 st).bind fun b s1 =>
    if b then (elt env1 s1).bind fun a s2 =>
      match freeze a s2 with
      | some (x, s3) => .ok (some x) s3
      | none => .bad
    else .ok none s1
def gLc (it : SemI) (tg : Tg) (cond : SemT) (elt : SemE) (own : List Nat) : SemE := fun env st =>
  settle st.length ((it env st).bind fun src s1 =>
    if src.items.length < LID then
      match lcGo (lcStep tg cond elt (wipeE env own)) src.ok src.items s1 with
      | .ok xs s2 => .ok (.obj s2.length) (s2 ++ [.ls xs])
      | _ => .bad
    else .bad)
def tTrue : SemT := fun _ st => .ok true st

/-! ### statements -/
def sNext : SemS := fun env st => .nx env st
def sSeq (a b : SemS) : SemS := fun env st =>
  match a env st with
  | .nx env1 s1 => b env1 s1
  | o => o
def sBreak : SemS := fun env st => .bk env st
def sCont : SemS := fun env st => .ct env st
def sSet (i : Nat) (g : SemE) : SemS := fun env st => (g env st).toS env fun a s1 => .nx (env.set i (some a)) s1
def sExpr (g : SemE) : SemS := fun env st => (g env st).toS env fun _ s1 => .nx env (s1.take st.length)
def sRet (g : SemE) : SemS := fun env st => (g env st).toS env fun a s1 => .rt a s1
def sRetN : SemS := fun _ st => .rt (.d .non) st
def sIf (c : SemT) (a b : SemS) : SemS := fun env st => (c env st).toS env fun x s1 => if x then a env s1 else b env s1
def sUnpack (is : List Nat) (g : SemE) : SemS := fun env st => (g env st).toS env fun a s1 =>
  match now a s1 with
  | some (.tup l) =>
    match setAll is l env with
    | some env1 => .nx env1 (s1.take st.length)
    | none => .bad
  | some (.lst l) =>
    match setAll is l env with
    | some env1 => .nx env1 (s1.take st.length)
    | none => .bad
  | _ => .bad
def sPar (i j : Nat) (a b : SemE) : SemS := fun env st => (a env st).toS env fun x s1 => (b env s1).toS env fun y s2 => .nx ((env.set i (some x)).set j (some y)) s2
def sAug (i : Nat) (p : Prim) (g : SemE) : SemS := fun env st =>
  match env[i]? with
  | some (some (.d x)) => (g env st).toS env fun a s1 =>
    match now a s1 with
    | some y =>
      match p [x, y] with
      | some (.v z) => .nx (env.set i (some (.d z))) (s1.take st.length)
      | _ => .bad
    | none => .bad
  | _ => .bad
/-- o.append(v) -/
def sAppend (o v : SemE) : SemS := fun env st => (o env st).toS env fun x s1 =>
  match x with
  | .obj n => (v env s1).toS env fun a s2 =>
    match freeze a s2 with
    | some (d, s3) =>
      match s3[n]? with
      | some (.ls l) => if l.length < LID then .nx env ((s3.set n (.ls (l ++ [d]))).take st.length) else .bad
      | _ => .bad
    | none => .bad
  | _ => .bad
/-- o[i] = v -/
def sSetIx (o i v : SemE) : SemS := fun env st => (v env st).toS env fun a s1 => (o env s1).toS env fun x s2 => (i env s2).toS env fun y s3 =>
  match x, y, freeze a s3 with
  | .obj n, .d (.int k), some (d, s4) =>
    match s4[n]? with
    | some (.ls l) =>
      match place k l.length with
      | some j => .nx env ((s4.set n (.ls (l.set j d))).take st.length)
      | none => .bad
    | _ => .bad
  | _, _, _ => .bad
def forGo (tg : Tg) (body : SemS) (ok : Store → Bool) : List D → SemS
  | [], env, st => if ok st then .nx env st else .bad
  | d :: ds, env, st =>
    if ok st then
      match tg.put d env with
      | none => .bad
      | some env1 =>
        match body env1 st with
        | .nx env2 s2 => forGo tg body ok ds env2 s2
        | .ct env2 s2 => forGo tg body ok ds env2 s2
        | .bk env2 s2 => .nx env2 s2
        | o => o
    else .bad
def sFor (it : SemI) (tg : Tg) (body : SemS) : SemS := fun env st => (it env st).toS env fun src s1 => forGo tg body src.ok src.items env s1
def whGo (c : SemT) (body : SemS) : Nat → SemS
  | 0, _, _ => .bad
  | n + 1, env, st => (c env st).toS env fun b s1 =>
    if b then
      match body env s1 with
      | .nx env2 s2 => whGo c body n env2 s2
      | .ct env2 s2 => whGo c body n env2 s2
      | .bk env2 s2 => .nx env2 s2
      | o => o
    else .nx env s1
def FUEL : Nat := 100000
def sWhile (c : SemT) (body : SemS) : SemS := whGo c body FUEL
def sRaise0 (cls : Nat) : SemS := fun env st => .ex ⟨cls, none⟩ env st
def sRaise1 (cls : Nat) (g : SemE) : SemS := fun env st => (g env st).toS env fun a s1 =>
  match freeze a s1 with
  | some (x, s2) => .ex ⟨cls, some x⟩ env s2
  | none => .bad
/-- what an except clause may do: hand back a value of written data and of the error's own -/
inductive HE where
  | con (d : D) | arg | tup (l : List HE)
mutual
def HE.val : HE → Option D → Option D
  | .con d, _ => some d
  | .arg, a => a
  | .tup l, a => (HE.vals l a).map .tup
def HE.vals : List HE → Option D → Option (List D)
  | [], _ => some []
  | h :: r, a =>
    match HE.val h a, HE.vals r a with
    | some x, some xs => some (x :: xs)
    | _, _ => none
end
structure Hd where
  cls : Nat
  ret : HE
def catch_ (sub : Nat → Nat → Bool) : List Hd → Exn → Env → Store → SO
  | [], e, env, st => .ex e env st
  | h :: r, e, env, st => if sub e.cls h.cls then
      match h.ret.val e.arg with
      | some d => .rt (.d d) st
      | none => .bad
    else catch_ sub r e env st
def sTry (sub : Nat → Nat → Bool) (body : SemS) (hs : List Hd) : SemS := fun env st =>
  match body env st with
  | .ex e env1 s1 => if env1.length = env.length then catch_ sub hs e env1 s1 else .bad
  | o => o
/-- a def's end -/
def finish (L : Nat) (o : SO) : Out A :=
  match o with
  | .nx _ st => .ok (.d .non) (st.take L)
  | .rt a st => settleV L a st
  | .ex e _ st => .exn e (st.take L)
  | _ => .bad
end PD
end

section
set_option Elab.async false
set_option linter.all false
set_option maxRecDepth 100000
set_option maxHeartbeats 2000000
/-! PD1: how data stands in the layer's heap. -/
namespace PD
open PySem PySem.Spec PyProof.Rows L2

abbrev Fr := PySem.W.Frag

/-- a list that nobody may change any more -/
def SqF (H : Hp) (a : Addr) (xs : List V) : Prop := ∃ o, H a = some (.frz o (.lst xs))
theorem SqF.l {H : Hp} {a : Addr} {xs : List V} (h : SqF H a xs) : Rd H a (.lst xs) := .inr h

/-- the signs of a text are signs -/
def goodS (s : List Nat) : Bool := s.all fun c => decide (c < 1114112)
mutual
def RepD (K : Fr) (H : Hp) : D → V → Prop
  | .non, v => v = .non
  | .bl b, v => v = .bl b
  | .int i, v => v = .int i
  | .str s, v => v = .str ⟨s.toArray⟩ ∧ goodS s = true
  | .tup l, v => ∃ a xs, v = .ref a ∧ SqT K H a xs ∧ RepDs K H l xs
  | .lst l, v => ∃ a xs, v = .ref a ∧ SqF H a xs ∧ RepDs K H l xs
def RepDs (K : Fr) (H : Hp) : List D → List V → Prop
  | [], vs => vs = []
  | d :: ds, vs => ∃ v r, vs = v :: r ∧ RepD K H d v ∧ RepDs K H ds r
end

/-- what stands for good goes on to stand -/
structure Ext (H H' : Hp) : Prop where
  tup : ∀ a xs, H a = some (.tup xs) → H' a = some (.tup xs)
  frz : ∀ a o u, H a = some (.frz o u) → H' a = some (.frz o u)
theorem Ext.refl (H : Hp) : Ext H H := ⟨fun _ _ h => h, fun _ _ _ h => h⟩
theorem Ext.trans {H H1 H2 : Hp} (a : Ext H H1) (b : Ext H1 H2) : Ext H H2 := ⟨fun x xs h => b.tup x xs (a.tup x xs h), fun x o u h => b.frz x o u (a.frz x o u h)⟩
theorem Ext.sqT {K : Fr} {H H' : Hp} {a : Addr} {xs : List V} (e : Ext H H') (h : SqT K H a xs) : SqT K H' a xs := by
  rcases h with (h | ⟨o, h⟩) | h
  · exact .inl (.inl (e.tup _ _ h))
  · exact .inl (.inr ⟨o, e.frz _ _ _ h⟩)
  · exact .inr h
theorem Ext.sqF {H H' : Hp} {a : Addr} {xs : List V} (e : Ext H H') (h : SqF H a xs) : SqF H' a xs := by
  obtain ⟨o, h⟩ := h
  exact ⟨o, e.frz _ _ _ h⟩
mutual
theorem RepD.mono {K : Fr} {H H' : Hp} (e : Ext H H') : ∀ (d : D) (v : V), RepD K H d v → RepD K H' d v
  | .non, _, h => h
  | .bl _, _, h => h
  | .int _, _, h => h
  | .str _, _, h => h
  | .tup l, v, h => by
    obtain ⟨a, xs, hv, hs, hr⟩ := h
    exact ⟨a, xs, hv, e.sqT hs, RepDs.mono e l xs hr⟩
  | .lst l, v, h => by
    obtain ⟨a, xs, hv, hs, hr⟩ := h
    exact ⟨a, xs, hv, e.sqF hs, RepDs.mono e l xs hr⟩
theorem RepDs.mono {K : Fr} {H H' : Hp} (e : Ext H H') : ∀ (ds : List D) (vs : List V), RepDs K H ds vs → RepDs K H' ds vs
  | [], _, h => h
  | d :: ds, vs, h => by
    obtain ⟨v, r, hv, h1, h2⟩ := h
    exact ⟨v, r, hv, RepD.mono e d v h1, RepDs.mono e ds r h2⟩
end
section
variable {K : Fr} {H H' : Hp}
theorem RepDs.length : ∀ {ds : List D} {vs : List V}, RepDs K H ds vs → vs.length = ds.length
  | [], _, h => by cases h; rfl
  | d :: ds, _, h => by
    obtain ⟨v, r, rfl, _, h2⟩ := h
    rw [List.length_cons, List.length_cons, RepDs.length h2]
theorem RepDs.get : ∀ {ds : List D} {vs : List V} {i : Nat} {d : D}, RepDs K H ds vs → ds[i]? = some d → ∃ v, vs[i]? = some v ∧ RepD K H d v
  | [], _, _, _, _, e => by simp at e
  | d :: ds, _, 0, d', h, e => by
    obtain ⟨v, r, rfl, h1, _⟩ := h
    simp at e; subst e
    exact ⟨v, rfl, h1⟩
  | d :: ds, _, i + 1, d', h, e => by
    obtain ⟨v, r, rfl, _, h2⟩ := h
    obtain ⟨v', e1, e2⟩ := RepDs.get (i := i) h2 (by simpa using e)
    exact ⟨v', by simpa using e1, e2⟩
theorem RepDs.got : ∀ {ds : List D} {vs : List V} {i : Nat} {v : V}, RepDs K H ds vs → vs[i]? = some v → ∃ d, ds[i]? = some d ∧ RepD K H d v
  | [], _, _, _, h, e => by cases h; simp at e
  | d :: ds, _, 0, v', h, e => by
    obtain ⟨v, r, rfl, h1, _⟩ := h
    simp at e; subst e
    exact ⟨d, rfl, h1⟩
  | d :: ds, _, i + 1, v', h, e => by
    obtain ⟨v, r, rfl, _, h2⟩ := h
    obtain ⟨d', e1, e2⟩ := RepDs.got (i := i) h2 (by simpa using e)
    exact ⟨d', by simpa using e1, e2⟩
theorem RepDs.nil : RepDs K H [] [] := rfl
theorem RepDs.cons {d : D} {v : V} {ds : List D} {vs : List V} (h : RepD K H d v) (t : RepDs K H ds vs) : RepDs K H (d :: ds) (v :: vs) := ⟨v, vs, rfl, h, t⟩
theorem RepDs.append : ∀ {ds es : List D} {vs ws : List V}, RepDs K H ds vs → RepDs K H es ws → RepDs K H (ds ++ es) (vs ++ ws)
  | [], _, _, _, h, t => by cases h; exact t
  | d :: ds, _, _, _, h, t => by
    obtain ⟨v, r, rfl, h1, h2⟩ := h
    exact .cons h1 (RepDs.append h2 t)
theorem RepDs.take : ∀ {ds : List D} {vs : List V} (n : Nat), RepDs K H ds vs → RepDs K H (ds.take n) (vs.take n)
  | _, _, 0, _ => rfl
  | [], _, n + 1, h => by cases h; rfl
  | d :: ds, _, n + 1, h => by
    obtain ⟨v, r, rfl, h1, h2⟩ := h
    exact .cons h1 (RepDs.take n h2)
theorem RepDs.drop : ∀ {ds : List D} {vs : List V} (n : Nat), RepDs K H ds vs → RepDs K H (ds.drop n) (vs.drop n)
  | _, _, 0, h => h
  | [], _, n + 1, h => by cases h; rfl
  | d :: ds, _, n + 1, h => by
    obtain ⟨v, r, rfl, _, h2⟩ := h
    exact RepDs.drop n h2
theorem RepDs.set {d : D} {v : V} (r : RepD K H d v) : ∀ {ds : List D} {vs : List V} (n : Nat), RepDs K H ds vs → RepDs K H (ds.set n d) (vs.set n v)
  | [], _, _, h => by cases h; rfl
  | e :: ds, _, 0, h => by
    obtain ⟨w, r', rfl, _, h2⟩ := h
    exact .cons r h2
  | e :: ds, _, n + 1, h => by
    obtain ⟨w, r', rfl, h1, h2⟩ := h
    exact .cons h1 (RepDs.set r n h2)
theorem RepDs.reverse : ∀ {ds : List D} {vs : List V}, RepDs K H ds vs → RepDs K H ds.reverse vs.reverse
  | [], _, h => by cases h; rfl
  | d :: ds, _, h => by
    obtain ⟨v, r, rfl, h1, h2⟩ := h
    rw [List.reverse_cons, List.reverse_cons]
    exact (RepDs.reverse h2).append (.cons h1 .nil)
theorem RepDs.of_get : ∀ {ds : List D} {vs : List V}, vs.length = ds.length → (∀ (i : Nat) d v, ds[i]? = some d → vs[i]? = some v → RepD K H d v) → RepDs K H ds vs
  | [], [], _, _ => rfl
  | [], _ :: _, h, _ => by simp at h
  | _ :: _, [], h, _ => by simp at h
  | d :: ds, v :: vs, h, k => .cons (k 0 d v rfl rfl) (RepDs.of_get (by simpa using h) fun i d' v' h1 h2 => k (i + 1) d' v' (by simpa using h1) (by simpa using h2))
end

/-- a value -/
def RepA (K : Fr) (fa : Nat → Option Addr) (μ : List Addr) (H : Hp) : A → V → Prop
  | .d x, v => RepD K H x v
  | .obj n, v => ∃ a, v = .ref a ∧ μ[n]? = some a
  | .fn f, v => ∃ a, v = .ref a ∧ fa f = some a
def RepM (K : Fr) (H : Hp) : MO → Addr → Prop
  | .ls l, a => ∃ xs, H a = some (.lst xs) ∧ RepDs K H l xs
  | .fz l, a => ∃ o xs, H a = some (.frz o (.lst xs)) ∧ RepDs K H l xs
/-- the store: its n-th thing stands at the n-th address -/
structure StOk (K : Fr) (H : Hp) (μ : List Addr) (st : Store) : Prop where
  len : μ.length = st.length
  nd : μ.Nodup
  at_ : ∀ (n : Nat) a m, μ[n]? = some a → st[n]? = some m → RepM K H m a

/-- from (μ, H) to (μ', H'): new things behind the old ones, at new addresses; what is not of the store stands as it was -/
structure Go (μ : List Addr) (H : Hp) (μ' : List Addr) (H' : Hp) : Prop where
  pre : ∃ ν, μ' = μ ++ ν ∧ ∀ a ∈ ν, H a = none
  ext : Ext H H'
  keep : ∀ a o, H a = some o → a ∉ μ → H' a = some o
  there : ∀ a o, H a = some o → ∃ o', H' a = some o'
theorem Go.refl (μ : List Addr) (H : Hp) : Go μ H μ H := ⟨⟨[], by simp, by simp⟩, .refl H, fun _ _ h _ => h, fun _ o h => ⟨o, h⟩⟩
theorem Go.trans {μ μ1 μ2 : List Addr} {H H1 H2 : Hp} (a : Go μ H μ1 H1) (b : Go μ1 H1 μ2 H2) : Go μ H μ2 H2 := by
  obtain ⟨ν, e1, n1⟩ := a.pre
  obtain ⟨ν', e2, n2⟩ := b.pre
  subst e1
  have fresh : ∀ x o, H x = some o → x ∉ μ → x ∉ μ ++ ν := fun x o h hx hm => by
    rcases List.mem_append.mp hm with q | q
    · exact hx q
    · rw [n1 x q] at h; cases h
  refine ⟨⟨ν ++ ν', by rw [e2, List.append_assoc], fun x hx => ?_⟩, a.ext.trans b.ext, fun x o h hx => b.keep x o (a.keep x o h hx) (fresh x o h hx), fun x o h => ?_⟩
  · rcases List.mem_append.mp hx with q | q
    · exact n1 x q
    · cases h : H x with
      | none => rfl
      | some o =>
        obtain ⟨o', h'⟩ := a.there x o h
        rw [n2 x q] at h'; cases h'
  · obtain ⟨o', h'⟩ := a.there x o h
    exact b.there x o' h'
theorem Go.get {μ μ' : List Addr} {H H' : Hp} (g : Go μ H μ' H') {n : Nat} {a : Addr} (h : μ[n]? = some a) : μ'[n]? = some a := by
  obtain ⟨ν, e, _⟩ := g.pre
  subst e
  rw [List.getElem?_append_left (List.getElem?_eq_some_iff.mp h).1]
  exact h
theorem Go.le {μ μ' : List Addr} {H H' : Hp} (g : Go μ H μ' H') : μ.length ≤ μ'.length := by
  obtain ⟨ν, e, _⟩ := g.pre
  subst e
  rw [List.length_append]; omega
theorem RepA.mono {K : Fr} {fa : Nat → Option Addr} {μ μ' : List Addr} {H H' : Hp} (g : Go μ H μ' H') {a : A} {v : V} (h : RepA K fa μ H a v) : RepA K fa μ' H' a v := by
  cases a with
  | d x => exact RepD.mono g.ext x v h
  | obj n =>
    obtain ⟨b, e, h⟩ := h
    exact ⟨b, e, g.get h⟩
  | fn f => exact h

/-- the slots -/
structure EnvOk (K : Fr) (fa : Nat → Option Addr) (μ : List Addr) (H : Hp) (env : Env) (σ : L2.St) : Prop where
  len : σ.length = env.length
  at_ : ∀ (i : Nat) a, env[i]? = some (some a) → ∃ v, σ[i]? = some (some v) ∧ RepA K fa μ H a v
section
variable {K : Fr} {fa : Nat → Option Addr} {μ μ' : List Addr} {H H' : Hp} {env : Env} {σ : L2.St} {st : Store}
theorem EnvOk.mono (g : Go μ H μ' H') (h : EnvOk K fa μ H env σ) : EnvOk K fa μ' H' env σ :=
  ⟨h.len, fun i a e => let ⟨v, h1, h2⟩ := h.at_ i a e; ⟨v, h1, h2.mono g⟩⟩
theorem EnvOk.set (h : EnvOk K fa μ H env σ) {i : Nat} {a : A} {v : V} (r : RepA K fa μ H a v) : EnvOk K fa μ H (env.set i (some a)) (σ.set i (some v)) := by
  refine ⟨by simp [h.len], fun j b e => ?_⟩
  by_cases hj : i = j
  · subst hj
    by_cases hi : i < env.length
    · rw [List.getElem?_set_self hi] at e
      cases e
      exact ⟨v, List.getElem?_set_self (by rw [h.len]; exact hi), r⟩
    · rw [List.getElem?_eq_none (by simpa using hi)] at e; cases e
  · rw [List.getElem?_set_ne hj] at e
    rw [List.getElem?_set_ne hj]
    exact h.at_ j b e
theorem EnvOk.wipe1 (h : EnvOk K fa μ H env σ) (i : Nat) : EnvOk K fa μ H (env.set i none) (σ.set i none) := by
  refine ⟨by simp [h.len], fun j b e => ?_⟩
  by_cases hj : i = j
  · subst hj
    by_cases hi : i < env.length
    · rw [List.getElem?_set_self hi] at e; cases e
    · rw [List.getElem?_eq_none (by simpa using hi)] at e; cases e
  · rw [List.getElem?_set_ne hj] at e
    rw [List.getElem?_set_ne hj]
    exact h.at_ j b e
theorem StOk.mem {n : Nat} {a : Addr} (s : StOk K H μ st) (h : μ[n]? = some a) : ∃ m, st[n]? = some m ∧ RepM K H m a := by
  have hn := (List.getElem?_eq_some_iff.mp h).1
  have hs : n < st.length := by rw [← s.len]; exact hn
  exact ⟨st[n], List.getElem?_eq_getElem hs, s.at_ n a _ h (List.getElem?_eq_getElem hs)⟩
theorem StOk.addr {n : Nat} {m : MO} (s : StOk K H μ st) (h : st[n]? = some m) : ∃ a, μ[n]? = some a ∧ RepM K H m a := by
  have hn := (List.getElem?_eq_some_iff.mp h).1
  have hs : n < μ.length := by rw [s.len]; exact hn
  exact ⟨μ[n], List.getElem?_eq_getElem hs, s.at_ n _ _ (List.getElem?_eq_getElem hs) h⟩
/-- what of the store stands at an address: a list, or a list that stands for good -/
theorem StOk.what (s : StOk K H μ st) {a : Addr} (h : a ∈ μ) : (∃ xs, H a = some (.lst xs)) ∨ (∃ o xs, H a = some (.frz o (.lst xs))) := by
  obtain ⟨n, hn, e⟩ := List.getElem_of_mem h
  obtain ⟨m, _, r⟩ := s.mem (n := n) (a := a) (by rw [List.getElem?_eq_getElem hn, e])
  cases m with
  | ls l => obtain ⟨xs, h, _⟩ := r; exact .inl ⟨xs, h⟩
  | fz l => obtain ⟨o, xs, h, _⟩ := r; exact .inr ⟨o, xs, h⟩
theorem StOk.out (s : StOk K H μ st) {a : Addr} (h : H a = none) : a ∉ μ := fun hm => by
  rcases s.what hm with ⟨_, e⟩ | ⟨_, _, e⟩ <;> (rw [h] at e; cases e)
/-- a new thing at p, not of the store -/
theorem Go.new {p : Addr} {o : HO} (hp : H p = none) (hm : p ∉ μ) : Go μ H μ (upd H p o) := by
  refine ⟨⟨[], by simp, by simp⟩, ⟨fun a xs h => ?_, fun a o u h => ?_⟩, fun a o h _ => ?_, fun a o h => ⟨o, ?_⟩⟩
  all_goals (rw [upd_ne (ne_of_none h hp)]; exact h)
theorem StOk.new {p : Addr} {o : HO} (s : StOk K H μ st) (hp : H p = none) : StOk K (upd H p o) μ st := by
  refine ⟨s.len, s.nd, fun n a m h1 h2 => ?_⟩
  have g : Go [] H [] (upd H p o) := Go.new hp (by simp)
  cases m with
  | ls l =>
    obtain ⟨xs, e, r⟩ := s.at_ n a _ h1 h2
    exact ⟨xs, by rw [upd_ne (ne_of_none e hp)]; exact e, r.mono g.ext l xs⟩
  | fz l =>
    obtain ⟨o', xs, e, r⟩ := s.at_ n a _ h1 h2
    exact ⟨o', xs, g.ext.frz _ _ _ e, r.mono g.ext l xs⟩
end

/-! ### growing, forgetting -/
/-- everything tracked stands as it was -/
def Grow (H H' : Hp) : Prop := ∀ a o, H a = some o → H' a = some o
theorem Grow.refl (H : Hp) : Grow H H := fun _ _ h => h
theorem Grow.trans {H H1 H2 : Hp} (a : Grow H H1) (b : Grow H1 H2) : Grow H H2 := fun x o h => b x o (a x o h)
theorem Grow.new {H : Hp} {p : Addr} {o : HO} (hp : H p = none) : Grow H (upd H p o) := fun a u h => by
  rw [upd_ne (ne_of_none h hp)]; exact h
section
variable {K : Fr} {fa : Nat → Option Addr} {μ μ' : List Addr} {H H' : Hp} {env : Env} {σ : L2.St} {st st' : Store}
theorem Grow.ext (g : Grow H H') : Ext H H' := ⟨fun a _ h => g a _ h, fun a _ _ h => g a _ h⟩
theorem Grow.go (g : Grow H H') (μ : List Addr) : Go μ H μ H' := ⟨⟨[], by simp, by simp⟩, g.ext, fun a o h _ => g a o h, fun a o h => ⟨o, g a o h⟩⟩
theorem RepM.grow (g : Grow H H') {m : MO} {a : Addr} (h : RepM K H m a) : RepM K H' m a := by
  cases m with
  | ls l => obtain ⟨xs, e, r⟩ := h; exact ⟨xs, g _ _ e, r.mono g.ext l xs⟩
  | fz l => obtain ⟨o, xs, e, r⟩ := h; exact ⟨o, xs, g _ _ e, r.mono g.ext l xs⟩
theorem StOk.grow (s : StOk K H μ st) (g : Grow H H') : StOk K H' μ st := ⟨s.len, s.nd, fun n a m h1 h2 => (s.at_ n a m h1 h2).grow g⟩
/-- a new thing of the store -/
theorem Go.more {p : Addr} (g : Grow H H') (hp : H p = none) : Go μ H (μ ++ [p]) H' :=
  ⟨⟨[p], rfl, fun a ha => by rw [List.mem_singleton.mp ha]; exact hp⟩, g.ext, fun a o h _ => g a o h, fun a o h => ⟨o, g a o h⟩⟩
theorem StOk.more (s : StOk K H μ st) (g : Grow H H') {p : Addr} {m : MO} (hp : H p = none) (r : RepM K H' m p) : StOk K H' (μ ++ [p]) (st ++ [m]) := by
  refine ⟨by simp [s.len], List.nodup_append.mpr ⟨s.nd, by simp, fun a ha b hb => ?_⟩, fun n a m' h1 h2 => ?_⟩
  · rw [List.mem_singleton.mp hb]
    rintro rfl
    exact s.out hp ha
  · by_cases hn : n < μ.length
    · rw [List.getElem?_append_left hn] at h1
      rw [List.getElem?_append_left (by rw [← s.len]; exact hn)] at h2
      exact (s.at_ n a m' h1 h2).grow g
    · have e1 : n = μ.length := by
        have := (List.getElem?_eq_some_iff.mp h1).1
        simp at this; omega
      subst e1
      rw [List.getElem?_append_right (Nat.le_refl _), Nat.sub_self] at h1
      rw [s.len, List.getElem?_append_right (Nat.le_refl _), Nat.sub_self] at h2
      simp at h1 h2
      subst h1; subst h2
      exact r
theorem StOk.take (s : StOk K H μ st) (n : Nat) : StOk K H (μ.take n) (st.take n) := by
  refine ⟨by simp [s.len], s.nd.sublist (List.take_sublist _ _), fun i a m h1 h2 => ?_⟩
  rw [List.getElem?_take] at h1 h2
  split at h1
  · rename_i hi
    rw [if_pos hi] at h2
    exact s.at_ i a m h1 h2
  · cases h1
theorem Go.forget (g : Go μ H μ' H') : Go μ H μ H' := ⟨⟨[], by simp, by simp⟩, g.ext, g.keep, g.there⟩
theorem Go.takeEq (g : Go μ H μ' H') : μ'.take μ.length = μ := by
  obtain ⟨ν, e, _⟩ := g.pre
  subst e
  exact List.take_left
/-- what is new is forgotten, but the value -/
theorem settle_ok {a a' : A} {v : V} (g : Go μ H μ' H') (s : StOk K H' μ' st) (r : RepA K fa μ' H' a v) {st1 : Store} (h : settleV μ.length a st = .ok a' st1) :
    ∃ μ1, Go μ H μ1 H' ∧ StOk K H' μ1 st1 ∧ RepA K fa μ1 H' a' v := by
  have t := s.take μ.length
  rw [g.takeEq] at t
  unfold settleV at h
  cases a with
  | d x => cases h; exact ⟨μ, g.forget, t, r⟩
  | fn f => cases h; exact ⟨μ, g.forget, t, r⟩
  | obj n =>
    obtain ⟨p, ev, hp⟩ := r
    dsimp only at h
    by_cases hn : n < μ.length
    · rw [if_pos hn] at h
      cases h
      refine ⟨μ, g.forget, t, p, ev, ?_⟩
      obtain ⟨ν, e, _⟩ := g.pre
      subst e
      rw [List.getElem?_append_left hn] at hp
      exact hp
    · rw [if_neg hn] at h
      obtain ⟨m, hm, rm⟩ := s.mem hp
      rw [hm] at h
      cases h
      obtain ⟨ν, e, nw⟩ := g.pre
      subst e
      rw [List.getElem?_append_right (by omega)] at hp
      have hpν : p ∈ ν := List.mem_of_getElem? hp
      have hpμ : p ∉ μ := fun z => (List.nodup_append.mp s.nd).2.2 p z p hpν rfl
      refine ⟨μ ++ [p], ⟨⟨[p], rfl, fun b hb => by rw [List.mem_singleton.mp hb]; exact nw p hpν⟩, g.ext, g.keep, g.there⟩, ?_, p, ev, by rw [List.getElem?_append_right (Nat.le_refl _), Nat.sub_self]; rfl⟩
      refine ⟨by rw [List.length_append, List.length_append, ← t.len] <;> rfl, List.nodup_append.mpr ⟨t.nd, by simp, fun b hb c hc => ?_⟩, fun i b m' h1 h2 => ?_⟩
      · rw [List.mem_singleton.mp hc]
        rintro rfl
        exact hpμ hb
      · by_cases hi : i < μ.length
        · rw [List.getElem?_append_left hi] at h1
          rw [List.getElem?_append_left (by rw [← t.len]; exact hi)] at h2
          exact t.at_ i b m' h1 h2
        · have e1 : i = μ.length := by
            have := (List.getElem?_eq_some_iff.mp h1).1
            simp at this; omega
          subst e1
          rw [List.getElem?_append_right (Nat.le_refl _), Nat.sub_self] at h1
          have e2 : μ.length = (st.take μ.length).length := t.len
          rw [List.getElem?_append_right (by omega), show μ.length - (st.take μ.length).length = 0 by omega] at h2
          simp at h1 h2
          subst h1; subst h2
          exact rm
theorem settle_is {a : A} {v : V} (g : Go μ H μ' H') (s : StOk K H' μ' st) (r : RepA K fa μ' H' a v) : ∃ a' st1, settleV μ.length a st = .ok a' st1 := by
  unfold settleV
  cases a with
  | d x => exact ⟨_, _, rfl⟩
  | fn f => exact ⟨_, _, rfl⟩
  | obj n =>
    dsimp only
    split
    · exact ⟨_, _, rfl⟩
    · obtain ⟨p, _, hp⟩ := r
      obtain ⟨m, hm, _⟩ := s.mem hp
      rw [hm]
      exact ⟨_, _, rfl⟩
end

/-! ### the readings -/
/-- what the text's defs and error classes are -/
structure Gb where
  K : Fr
  fa : Nat → Option Addr
  xa : Nat → Option Addr
  xf : Nat → Str
def ExnOk (G : Gb) (H : Hp) (e : Exn) (cls : Value) (d : Option Addr) : Prop :=
  ∃ C, G.xa e.cls = some C ∧ cls = .ref C ∧
    match e.arg with
    | none => d = none
    | some x => ∃ dd v, d = some dd ∧ H dd = some (.xd [(G.xf e.cls, v)]) ∧ RepD G.K H x v
abbrev RP (α β : Type) := List Addr → Hp → α → β → Prop
/-- what an outcome wants of what follows -/
def Pst (G : Gb) (W : WX) (σ : L2.St) (μ : List Addr) (H : Hp) {α β : Type} (R : RP α β) (o : Out α) (Q : β → Hp → Prop) : Prop :=
  match o with
  | .ok a st => ∀ v H' μ', Go μ H μ' H' → StOk G.K H' μ' st → R μ' H' a v → Q v H'
  | .exn e st => ∀ cls d H' μ', Go μ H μ' H' → StOk G.K H' μ' st → ExnOk G H' e cls d → W cls d σ H'
  | .bad => False
section
variable {G : Gb} {W : WX} {σ : L2.St} {μ μ1 : List Addr} {H H1 : Hp} {α β γ δ : Type} {R : RP α β} {R2 : RP γ δ}
theorem Pst.mono {o : Out α} {Q Q' : β → Hp → Prop} (h : Pst G W σ μ H R o Q) (k : ∀ v H', Q v H' → Q' v H') : Pst G W σ μ H R o Q' := by
  cases o with
  | ok a st => exact fun v H' μ' g s r => k v H' (h v H' μ' g s r)
  | exn e st => exact h
  | bad => exact h
theorem Pst.go {o : Out α} {Q : β → Hp → Prop} (h : Pst G W σ μ H R o Q) (g0 : Go μ H μ1 H1) : Pst G W σ μ1 H1 R o Q := by
  cases o with
  | ok a st => exact fun v H' μ' g s r => h v H' μ' (g0.trans g) s r
  | exn e st => exact fun c d H' μ' g s r => h c d H' μ' (g0.trans g) s r
  | bad => exact h
theorem Pst.bind {o : Out α} {f : α → Store → Out γ} {Q : δ → Hp → Prop} (h : Pst G W σ μ H R2 (o.bind f) Q) :
    Pst G W σ μ H R o (fun v H1 => ∃ a μ1 st1, Go μ H μ1 H1 ∧ StOk G.K H1 μ1 st1 ∧ R μ1 H1 a v ∧ Pst G W σ μ1 H1 R2 (f a st1) Q) := by
  cases o with
  | ok a st => exact fun v H' μ' g s r => ⟨a, μ', st, g, s, r, Pst.go h g⟩
  | exn e st => exact h
  | bad => exact h
end
def RA (G : Gb) : RP A V := fun μ H a v => RepA G.K G.fa μ H a v
def RAs (G : Gb) : RP (List A) (List V) := fun μ H as vs => Paired (fun a v => RepA G.K G.fa μ H a v) as vs
def RB : RP Bool Bool := fun _ _ b c => c = b
theorem Pst.settled {G : Gb} {W : WX} {σ : L2.St} {μ : List Addr} {H : Hp} {o : Out A} {Q : V → Hp → Prop} {L : Nat} (hL : μ.length = L) (h : Pst G W σ μ H (RA G) (settle L o) Q) : Pst G W σ μ H (RA G) o Q := by
  subst hL
  cases o with
  | ok a st =>
    intro v H' μ' g s r
    obtain ⟨a', st1, e⟩ := settle_is g s r
    obtain ⟨μ1, g1, s1, r1⟩ := settle_ok g s r e
    have h' : Pst G W σ μ H (RA G) (settleV μ.length a st) Q := h
    rw [e] at h'
    exact h' v H' μ1 g1 s1 r1
  | exn e st =>
    intro c d H' μ' g s x
    have t := s.take μ.length
    rw [g.takeEq] at t
    exact h c d H' μ g.forget t x
  | bad => exact h

def rdE (G : Gb) (W : WX) (g : SemE) : TE := fun σ H Q => ∃ env μ st, EnvOk G.K G.fa μ H env σ ∧ StOk G.K H μ st ∧ Pst G W σ μ H (RA G) (g env st) Q
def rdT (G : Gb) (W : WX) (g : SemT) : TT := fun σ H Q => ∃ env μ st, EnvOk G.K G.fa μ H env σ ∧ StOk G.K H μ st ∧ Pst G W σ μ H RB (g env st) Q
def rdAs (G : Gb) (W : WX) (g : SemAs) : TA := fun σ H Q => ∃ env μ st, EnvOk G.K G.fa μ H env σ ∧ StOk G.K H μ st ∧ Pst G W σ μ H (RAs G) (g env st) Q
abbrev DE (G : Gb) (X : Cx) (W : WX) (e : Expr) (g : SemE) : Prop := PE X e (rdE G W g)
abbrev DT (G : Gb) (X : Cx) (W : WX) (e : Expr) (g : SemT) : Prop := PT X e (rdT G W g)
abbrev DW (G : Gb) (X : Cx) (W : WX) (e : Expr) (g : SemT) : Prop := PW X e (rdT G W g)
abbrev DAs (G : Gb) (X : Cx) (W : WX) (es : List Expr) (g : SemAs) : Prop := PA X es (rdAs G W g)
theorem PE.weak {X : Cx} {e : Expr} {t t' : TE} (h : PE X e t) (k : ∀ σ H Q, t' σ H Q → t σ H Q) : PE X e t' := ⟨fun pins s σ H Q I q => h.run pins s σ H Q I (k σ H Q q)⟩
theorem PT.weak {X : Cx} {e : Expr} {t t' : TT} (h : PT X e t) (k : ∀ σ H Q, t' σ H Q → t σ H Q) : PT X e t' := ⟨fun pins s σ H Q I q => h.run pins s σ H Q I (k σ H Q q)⟩
theorem PW.weak {X : Cx} {e : Expr} {t t' : TT} (h : PW X e t) (k : ∀ σ H Q, t' σ H Q → t σ H Q) : PW X e t' := ⟨fun w pins s σ H Q I q => h.run w pins s σ H Q I (k σ H Q q)⟩
theorem PA.weak {X : Cx} {es : List Expr} {t t' : TA} (h : PA X es t) (k : ∀ σ H Q, t' σ H Q → t σ H Q) : PA X es t' := ⟨fun p pins s σ H Q I q => h.run p pins s σ H Q I (k σ H Q q)⟩
end PD
end

section
set_option Elab.async false
set_option linter.all false
set_option maxRecDepth 100000
set_option maxHeartbeats 2000000
/-! PD2: the rules for expressions. -/
namespace PD
open PySem PySem.Spec PyProof.Rows L2

/-! ### freezing -/
theorem Inv.freeze {X : Cx} {pins : List (Addr × Obj)} {σ : L2.St} {H : Hp} {s : Shared} {a : Addr} {xs : List V} (I : Inv X pins σ H s) (ha : H a = some (.lst xs)) :
    ∃ o, Inv X pins σ (upd H a (.frz o (.lst xs))) s := by
  obtain ⟨hz, its, n, rv, ho⟩ := (show ObjOk X.prog X.w H s.heap a (.lst xs) from I.hok a _ ha)
  refine ⟨{ cls := .type "list", data := .seq its.toArray n }, ?_⟩
  have ne : ∀ b, H b = none → b ≠ a := fun b h z => by rw [z, ha] at h; cases h
  have hok : HOk X.prog X.w (upd H a (.frz { cls := .type "list", data := .seq its.toArray n } (.lst xs))) s.heap := fun b u e => by
    by_cases hb : b = a
    · subst hb
      rw [upd_same] at e; cases e
      exact ⟨ho, hz, its, n, rv, ho⟩
    · rw [upd_ne hb] at e
      refine (I.hok b u e).stay (fun c v _ q => q) (fun c q => ?_) fun c ys q => ?_
      · rw [upd_ne (fun z => by subst z; rw [ha] at q; cases q)]; exact q
      · rw [upd_ne (fun z => by subst z; rw [ha] at q; cases q)]; exact q
  have un : Un X.fs [] H (upd H a (.frz { cls := .type "list", data := .seq its.toArray n } (.lst xs))) s.heap s.heap := by
    refine ⟨fun b o e n _ _ => e, fun b o e n _ _ => ⟨o.slots, e⟩, fun b o e n _ => by rw [upd_ne (ne b n)]; exact n, fun b o e _ => ⟨o, e⟩, fun b ys e => ?_, fun b o u e => ?_, fun b ps e => ⟨#[], ?_⟩⟩
    · rw [upd_ne (fun z => by subst z; rw [ha] at e; cases e)]; exact e
    · rw [upd_ne (fun z => by subst z; rw [ha] at e; cases e)]; exact e
    · rw [upd_ne (fun z => by subst z; rw [ha] at e; cases e), e]; simp
  have J := I.un (t' := s.toks) un hok
  exact J
inductive FzG (k : Hp → Prop) : Hp → Prop
  | done {H : Hp} : k H → FzG k H
  | step {H : Hp} {a : Addr} {xs : List V} : H a = some (.lst xs) → (∀ o, FzG k (upd H a (.frz o (.lst xs)))) → FzG k H
theorem FzG.run {X : Cx} {pins : List (Addr × Obj)} {σ : L2.St} {s : Shared} {k : Hp → Prop} {H : Hp} (h : FzG k H) : Inv X pins σ H s → ∃ H', Inv X pins σ H' s ∧ k H' := by
  induction h with
  | done h => exact fun I => ⟨_, I, h⟩
  | step ha _ ih =>
    intro I
    obtain ⟨o, J⟩ := Inv.freeze I ha
    exact ih o J
theorem FzG.bind {k k' : Hp → Prop} {H : Hp} (h : FzG k H) (f : ∀ H', k H' → FzG k' H') : FzG k' H := by
  induction h with
  | done h => exact f _ h
  | step ha _ ih => exact .step ha ih
theorem FzG.mono {k k' : Hp → Prop} {H : Hp} (h : FzG k H) (f : ∀ H', k H' → k' H') : FzG k' H := h.bind fun H' q => .done (f H' q)
section
variable {G : Gb} {μ : List Addr} {H : Hp} {st st' : Store}
theorem freeze_goal {a : A} {v : V} {x : D} (s : StOk G.K H μ st) (r : RepA G.K G.fa μ H a v) (h : freeze a st = some (x, st')) :
    FzG (fun H' => StOk G.K H' μ st' ∧ RepD G.K H' x v ∧ Go μ H μ H') H := by
  unfold freeze at h
  cases a with
  | d y => cases h; exact .done ⟨s, r, Go.refl μ H⟩
  | fn f => cases h
  | obj n =>
    obtain ⟨p, ev, hp⟩ := r
    obtain ⟨m, hm, rm⟩ := s.mem hp
    dsimp only at h
    rw [hm] at h
    cases m with
    | fz l =>
      cases h
      obtain ⟨o, xs, e, r⟩ := rm
      exact .done ⟨s, ⟨p, xs, ev, ⟨o, e⟩, r⟩, Go.refl μ H⟩
    | ls l =>
      cases h
      obtain ⟨xs, e, r⟩ := rm
      refine .step e fun o => .done ?_
      have ext : Ext H (upd H p (.frz o (.lst xs))) := by
        refine ⟨fun b ys q => ?_, fun b o' u q => ?_⟩
        all_goals (rw [upd_ne (fun z => by subst z; rw [e] at q; cases q)]; exact q)
      refine ⟨?_, ⟨p, xs, ev, ⟨o, upd_same⟩, r.mono ext l xs⟩, ⟨⟨[], by simp, by simp⟩, ext, fun b u q hb => ?_, fun b u q => ?_⟩⟩
      · refine ⟨by rw [List.length_set]; exact s.len, s.nd, fun i b m' h1 h2 => ?_⟩
        by_cases hi : i = n
        · subst hi
          rw [hp] at h1; cases h1
          have hl : i < st.length := (List.getElem?_eq_some_iff.mp hm).1
          rw [List.getElem?_set_self hl] at h2; cases h2
          exact ⟨o, xs, upd_same, r.mono ext l xs⟩
        · rw [List.getElem?_set_ne (Ne.symm hi)] at h2
          have hne : b ≠ p := fun z => hi (by
            subst z
            have k1 := (List.getElem?_eq_some_iff.mp h1)
            have k2 := (List.getElem?_eq_some_iff.mp hp)
            exact (List.getElem_inj s.nd).mp (k1.2.trans k2.2.symm))
          have q := s.at_ i b m' h1 h2
          cases m' with
          | ls l' => obtain ⟨ys, e1, r1⟩ := q; exact ⟨ys, by rw [upd_ne hne]; exact e1, r1.mono ext l' ys⟩
          | fz l' => obtain ⟨o', ys, e1, r1⟩ := q; exact ⟨o', ys, by rw [upd_ne hne]; exact e1, r1.mono ext l' ys⟩
      · rw [upd_ne (fun z => hb (by rw [z]; exact List.mem_of_getElem? hp))]; exact q
      · by_cases hb : b = p
        · subst hb; exact ⟨_, upd_same⟩
        · exact ⟨u, by rw [upd_ne hb]; exact q⟩
theorem freezeAll_goal : ∀ {as : List A} {vs : List V} {ds : List D} {st st' : Store} {H : Hp}, StOk G.K H μ st → RAs G μ H as vs → freezeAll as st = some (ds, st') →
    FzG (fun H' => StOk G.K H' μ st' ∧ RepDs G.K H' ds vs ∧ Go μ H μ H') H
  | [], _, _, _, _, H, s, .nil, h => by cases h; exact .done ⟨s, rfl, Go.refl μ H⟩
  | a :: as, _, _, st, _, H, s, .cons (b := v) r t, h => by
    unfold freezeAll at h
    split at h
    · cases h
    · rename_i x st1 h1
      split at h
      · cases h
      · rename_i xs st2 h2
        cases h
        refine (freeze_goal s r h1).bind fun H1 ⟨s1, r1, g1⟩ => ?_
        refine (freezeAll_goal s1 (Paired.mapP t fun a v q => q.mono g1) h2).mono fun H' ⟨a1, a2, a3⟩ => ⟨a1, .cons (r1.mono a3.ext x v) a2, g1.trans a3⟩
end
/-- the arguments, then their lists are frozen -/
def tFzA (t : TA) : TA := fun σ H Q => t σ H fun vs H1 => FzG (Q vs) H1
theorem PA.fz {X : Cx} {es : List Expr} {t : TA} (h : PA X es t) : PA X es (tFzA t) := ⟨fun pos pins s σ H Q I q =>
  thn (h.run pos pins s σ H _ I q) fun us s1 ⟨vs, H1, I1, r1, q1⟩ => let ⟨H2, I2, q2⟩ := q1.run I1; ⟨vs, H2, I2, r1, q2⟩⟩
def tFzE (t : TE) : TE := fun σ H Q => t σ H fun v H1 => FzG (Q v) H1
theorem PE.fz {X : Cx} {e : Expr} {t : TE} (h : PE X e t) : PE X e (tFzE t) := ⟨fun pins s σ H Q I q =>
  thn (h.run pins s σ H _ I q) fun u s1 ⟨v, H1, I1, r1, q1⟩ => let ⟨H2, I2, q2⟩ := q1.run I1; ⟨v, H2, I2, r1, q2⟩⟩

/-! ### what is known of a value now -/
def RepN (K : Fr) (H : Hp) : D → V → Prop
  | .lst l, v => ∃ a xs, v = .ref a ∧ Rd H a (.lst xs) ∧ RepDs K H l xs
  | d, v => RepD K H d v
def RepNs (K : Fr) (H : Hp) : List D → List V → Prop := Paired (RepN K H)
theorem RepD.n {K : Fr} {H : Hp} {d : D} {v : V} (h : RepD K H d v) : RepN K H d v := by
  cases d with
  | lst l => obtain ⟨a, xs, e, f, r⟩ := h; exact ⟨a, xs, e, f.l, r⟩
  | _ => exact h
section
variable {G : Gb} {μ : List Addr} {H H' : Hp} {st st' : Store}
theorem now_rep {a : A} {v : V} {x : D} (s : StOk G.K H μ st) (r : RepA G.K G.fa μ H a v) (h : now a st = some x) : RepN G.K H x v := by
  unfold now at h
  cases a with
  | d y => cases h; exact RepD.n r
  | fn f => cases h
  | obj n =>
    obtain ⟨p, ev, hp⟩ := r
    obtain ⟨m, hm, rm⟩ := s.mem hp
    dsimp only at h
    rw [hm] at h
    cases m with
    | fz l => cases h; obtain ⟨o, xs, e, r⟩ := rm; exact ⟨p, xs, ev, .inr ⟨o, e⟩, r⟩
    | ls l => cases h; obtain ⟨xs, e, r⟩ := rm; exact ⟨p, xs, ev, .inl e, r⟩
theorem nowAll_rep : ∀ {as : List A} {vs : List V} {ds : List D}, StOk G.K H μ st → RAs G μ H as vs → nowAll as st = some ds → RepNs G.K H ds vs
  | [], _, _, _, .nil, h => by cases h; exact .nil
  | a :: as, _, _, s, .cons r t, h => by
    unfold nowAll at h
    split at h
    · rename_i x xs h1 h2
      cases h
      exact .cons (now_rep s r h1) (nowAll_rep s t h2)
    · cases h
end
/-- a built-in thing by values -/
def RepR (K : Fr) (H H' : Hp) : Res → V → Prop
  | .v d, v => RepD K H' d v
  | .l xs, v => ∃ a ys, v = .ref a ∧ H a = none ∧ H' a = some (.lst ys) ∧ RepDs K H' xs ys
def PrimV (K : Fr) (p : Prim) (vs : List V) (H : Hp) (Q : VK) : Prop := ∃ ds r, RepNs K H ds vs ∧ p ds = some r ∧ ∀ v H', Grow H H' → RepR K H H' r v → Q v H'
abbrev rP2 (K : Fr) (p : Prim) : R2 := fun x y H Q => PrimV K p [x, y] H Q
theorem PrimV.of {G : Gb} {W : WX} {σ : L2.St} {μ : List Addr} {H : Hp} {st : Store} {p : Prim} {xs : List A} {vs : List V} {Q : VK} (s : StOk G.K H μ st) (r : RAs G μ H xs vs) (h : Pst G W σ μ H (RA G) (opOn p xs st) Q) : PrimV G.K p vs H Q := by
  unfold opOn at h
  split at h
  · exact h.elim
  · rename_i ds h1
    split at h
    · exact h.elim
    · rename_i res h2
      refine ⟨ds, res, nowAll_rep s r h1, h2, fun v H' g rr => ?_⟩
      cases res with
      | v d => exact h v H' μ (g.go μ) (s.grow g) rr
      | l xs =>
        obtain ⟨a, ys, ev, hn, ha, rd⟩ := rr
        refine h v H' (μ ++ [a]) (Go.more g hn) (s.more g hn ⟨ys, ha, rd⟩) ⟨a, ev, ?_⟩
        rw [← s.len, List.getElem?_append_right (Nat.le_refl _), Nat.sub_self]; rfl

/-! ### names, constants -/
section
variable {G : Gb} {X : Cx} {W : WX}
theorem de_var {i : Nat} {x : Str} {pos : Pos} (hN : X.N[i]? = some x) (hv : Vis X.env.scope x) (hd : (x == ("__debug__" : Str)) = false) (hcd : (x == ("__classdict__" : Str)) = false) : DE G X W (.Name x pos) (gVar i) :=
  PE.weak (pe_var (i := i) hN hv hd hcd) fun σ H Q ⟨env, μ, st, he, hs, h⟩ => by
    unfold gVar at h
    split at h
    · rename_i a e
      obtain ⟨v, e1, r⟩ := he.at_ i a e
      exact ⟨v, e1, h v H μ (Go.refl μ H) hs r⟩
    · exact h.elim
theorem con_ok {d : D} {v : V} (hr : ∀ H, RepD G.K H d v) {σ : L2.St} {H : Hp} {Q : VK} (h : rdE G W (gCon d) σ H Q) : tC v σ H Q := by
  obtain ⟨env, μ, st, he, hs, h⟩ := h
  exact h v H μ (Go.refl μ H) hs (hr H)
theorem de_int {i : Int} {j pos} : DE G X W (.Constant (.int i) j pos) (gCon (.int i)) := PE.weak pe_int fun _ _ _ h => con_ok (d := .int i) (fun _ => (rfl : V.int i = V.int i)) h
theorem de_bl {b : Bool} {j pos} : DE G X W (.Constant (.bool b) j pos) (gCon (.bl b)) := PE.weak pe_bl fun _ _ _ h => con_ok (d := .bl b) (fun _ => (rfl : V.bl b = V.bl b)) h
theorem de_non {j pos} : DE G X W (.Constant .none j pos) (gCon .non) := PE.weak pe_non fun _ _ _ h => con_ok (d := .non) (fun _ => (rfl : V.non = V.non)) h
theorem de_str {x : Str} {j pos} (hx : goodS x.cps.toList = true) : DE G X W (.Constant (.str x) j pos) (gCon (.str x.cps.toList)) := PE.weak pe_str fun _ _ _ h => con_ok (d := .str x.cps.toList) (v := .str x) (fun _ => ⟨by show V.str x = V.str ⟨x.cps.toList.toArray⟩; simp, hx⟩) h
/-- a constant of the module -/
structure GlOk (G : Gb) (mg : Str → Option Value) (x : Str) (d : D) : Prop where
  ex : ∃ v u, mg x = some u ∧ RelV v u ∧ ∀ H, RepD G.K H d v
theorem de_glob {x : Str} {d : D} {pos : Pos} (hg : Gl X x) (c : GlOk G X.mg x d) (hd : (x == ("__debug__" : Str)) = false) : DE G X W (.Name x pos) (gCon d) := by
  obtain ⟨v, u, hm, r, hr⟩ := c.ex
  exact PE.weak (pe_glob hg hm r hd) fun _ _ _ h => con_ok hr h
theorem de_fn {x : Str} {f : Nat} {a : Addr} {pos : Pos} (hg : Gl X x) (hm : X.mg x = some (.ref a)) (hf : G.fa f = some a) (hd : (x == ("__debug__" : Str)) = false) : DE G X W (.Name x pos) (gFn f) :=
  PE.weak (pe_glob (v := .ref a) hg hm rfl hd) fun σ H Q ⟨env, μ, st, he, hs, h⟩ => h (.ref a) H μ (Go.refl μ H) hs ⟨a, rfl, hf⟩
/-! ### arguments -/
theorem das_nil : DAs G X W [] gNil := PA.weak pa_nil fun σ H Q ⟨env, μ, st, he, hs, h⟩ => h [] H μ (Go.refl μ H) hs .nil
theorem das_cons {e : Expr} {es : List Expr} {g : SemE} {gs : SemAs} (ha : DE G X W e g) (hr : DAs G X W es gs) (hs : starEach (e :: es) X.env = (false, eval e X.env) :: starEach es X.env) : DAs G X W (e :: es) (gCons g gs) := by
  refine PA.weak (pa_cons ha hr hs) fun σ H Q ⟨env, μ, st, he, hst, h⟩ => ?_
  refine ⟨env, μ, st, he, hst, (Pst.bind (R := RA G) h).mono fun v H1 ⟨a, μ1, st1, g1, s1, r1, p1⟩ => ?_⟩
  refine ⟨env, μ1, st1, he.mono g1, s1, (Pst.bind (R := RAs G) p1).mono fun vs H2 ⟨as, μ2, st2, g2, s2, r2, p2⟩ => ?_⟩
  exact p2 (v :: vs) H2 μ2 (Go.refl _ _) s2 (.cons (r1.mono g2) r2)
end
end PD
end

section
set_option Elab.async false
set_option linter.all false
set_option maxRecDepth 100000
set_option maxHeartbeats 4000000
/-! PD3: what built-in things make of data, held against the layer. -/
namespace PD
open PySem PySem.Spec PyProof.Rows L2

section
variable {K : Fr} {H : Hp}
theorem RepNs.two {ds : List D} {x y : V} (h : RepNs K H ds [x, y]) : ∃ a b, ds = [a, b] ∧ RepN K H a x ∧ RepN K H b y := by
  cases h with
  | cons r t =>
    cases t with
    | cons r2 t2 => cases t2; exact ⟨_, _, rfl, r, r2⟩
theorem RepNs.one {ds : List D} {x : V} (h : RepNs K H ds [x]) : ∃ a, ds = [a] ∧ RepN K H a x := by
  cases h with
  | cons r t => cases t; exact ⟨_, rfl, r⟩
theorem RepNs.of1 {a : D} {vs : List V} (h : RepNs K H [a] vs) : ∃ x, vs = [x] ∧ RepN K H a x := by
  cases h with
  | cons r t => cases t; exact ⟨_, rfl, r⟩
theorem RepNs.of2 {a b : D} {vs : List V} (h : RepNs K H [a, b] vs) : ∃ x y, vs = [x, y] ∧ RepN K H a x ∧ RepN K H b y := by
  cases h with
  | cons r t =>
    cases t with
    | cons r2 t2 => cases t2; exact ⟨_, _, rfl, r, r2⟩
end
theorem goodS_app {a b : List Nat} (h : goodS a = true) (k : goodS b = true) : goodS (a ++ b) = true := by
  unfold goodS at *
  rw [List.all_append, h, k]; rfl
theorem goodS_rep {a : List Nat} (h : goodS a = true) : ∀ n : Nat, goodS (List.replicate n a).flatten = true
  | 0 => rfl
  | n + 1 => by rw [List.replicate_succ, List.flatten_cons]; exact goodS_app h (goodS_rep h n)
theorem goodS_sub {a b : List Nat} (h : goodS a = true) (k : ∀ c ∈ b, c ∈ a) : goodS b = true := by
  unfold goodS at *
  rw [List.all_eq_true] at *
  exact fun c hc => h c (k c hc)
theorem lid : LID = sizeLine := by rw [sizeLine_eq]; rfl
theorem slen (a : List Nat) : Str.length ⟨a.toArray⟩ = a.length := by show a.toArray.size = _; simp
theorem sapp (a b : List Nat) : (⟨a.toArray⟩ : Str) ++ ⟨b.toArray⟩ = ⟨(a ++ b).toArray⟩ := by
  show (⟨a.toArray ++ b.toArray⟩ : Str) = _
  simp
theorem place_ix (i : Int) (n : Nat) : place i n = ixN n i := by
  unfold place ixN
  by_cases h : 0 ≤ i
  · rw [if_pos h, if_pos h]
  · rw [if_neg h, if_neg h]
    by_cases h2 : 0 ≤ i + n
    · rw [if_pos h2, if_pos (by omega)]
    · rw [if_neg h2, if_neg (by omega)]
theorem clip_lo (lo : Option Int) (n : Nat) : (match lo with | none => 0 | some i => clip i n) = HT.sIx n 0 lo := by
  cases lo with
  | none => rfl
  | some i =>
    show clip i n = (if i < 0 then (i + (n : Int)).toNat else min i.toNat n)
    unfold clip
    by_cases h : 0 ≤ i
    · rw [if_pos h, if_neg (by omega)]
    · rw [if_neg h, if_pos (by omega)]
theorem clip_hi (hi : Option Int) (n : Nat) : (match hi with | none => n | some i => clip i n) = HT.sIx n n hi := by
  cases hi with
  | none => rfl
  | some i => exact clip_lo (some i) n
theorem cutL_eq {α : Type} (l : List α) (lo hi : Option Int) : cutL l lo hi = (l.drop (HT.sIx l.length 0 lo)).take (HT.sIx l.length l.length hi - HT.sIx l.length 0 lo) := by
  unfold cutL
  have hl : ∀ i : Int, clip i l.length = HT.sIx l.length 0 (some i) := fun i => clip_lo (some i) l.length
  have hh : ∀ i : Int, clip i l.length = HT.sIx l.length l.length (some i) := fun i => clip_hi (some i) l.length
  cases lo with
  | none =>
    cases hi with
    | none => rfl
    | some j => dsimp only; rw [hh j]; rfl
  | some i =>
    cases hi with
    | none => dsimp only; rw [hl i]; rfl
    | some j => dsimp only; rw [← hl i, ← hh j]
theorem RepDs.cut {K : Fr} {H : Hp} {ds : List D} {vs : List V} (h : RepDs K H ds vs) (lo hi : Option Int) : RepDs K H (cutL ds lo hi) (cutV vs lo hi) := by
  rw [cutL_eq]
  unfold cutV
  rw [h.length]
  exact (h.drop _).take _
theorem smallI_of {i : Int} (h : smallI i = true) : -(2 ^ 64) < i ∧ i < 2 ^ 64 := by
  unfold smallI at h
  simp only [Bool.and_eq_true, decide_eq_true_eq] at h
  exact ⟨by have := h.1; omega, by have := h.2; omega⟩

theorem rd_isL {X : Cx} {pins : List (Addr × Obj)} {σ : L2.St} {H : Hp} {s : Shared} {a : Addr} {xs : List V} (I : Inv X pins σ H s) (h : Rd H a (.lst xs)) :
    ∃ (its : List Value) (n : Nat), Vals xs its ∧ xs.length = its.length ∧ xs.length ≤ sizeLine ∧ s.heap.get? a = some { cls := .type "list", data := .seq its.toArray n } := by
  obtain ⟨z, its, n, r, e⟩ := h.ok I.hok
  exact ⟨its, n, r, r.length, z, e⟩
section
variable {X : Cx}
/-! ### two-place operations -/
/-- a list and a list, wherever they stand -/
def rCatL : R2 := fun x y H Q => ∃ l b xs zs, x = .ref l ∧ y = .ref b ∧ Rd H l (.lst xs) ∧ Rd H b (.lst zs) ∧ xs.length + zs.length ≤ sizeLine ∧ ∀ p, H p = none → Q (.ref p) (upd H p (.lst (xs ++ zs)))
theorem op_catL : OpR X (binaryOp .Add) rCatL := by
  intro pins s σ H x y v u Q I rx ry h
  obtain ⟨l, b, xs, zs, rfl, rfl, hH, hB, hz, q⟩ := h
  cases rx
  cases ry
  obtain ⟨its, n, r, hl, z, e⟩ := rd_isL I hH
  obtain ⟨its2, n2, r2, hl2, z2, e2⟩ := rd_isL I hB
  refine PySem.P.add_list e e2 ?_ (by rw [List.size_toArray, List.size_toArray]; omega)
  have ea : its.toArray ++ its2.toArray = (its ++ its2).toArray := by simp
  rw [ea]
  exact ⟨.ref _, _, I.lnew (t' := s.toks) (r.append r2) (by rw [List.length_append]; omega), rfl, q _ I.fresh⟩
/-- a prim from its cases -/
theorem op_by {f : Value → Value → Sem Value} {p : Prim} {r : R2} (ho : OpR X f r) (k : ∀ a b res (x y : V) (H : Hp) (Q : VK), RepN X.K H a x → RepN X.K H b y → p [a, b] = some res → (∀ v H', Grow H H' → RepR X.K H H' res v → Q v H') → r x y H Q) : OpR X f (rP2 X.K p) := by
  intro pins s σ H x y v u Q I rx ry ⟨ds, res, hr, hp, q⟩
  obtain ⟨a, b, rfl, ra, rb⟩ := hr.two
  exact ho pins s σ H x y v u Q I rx ry (k a b res x y H Q ra rb hp q)
theorem op_pAdd : OpR X (binaryOp .Add) (rP2 X.K pAdd) := by
  refine op_by (op_add.or (op_add_str.or (op_catA.or op_catL))) fun a b res x y H Q ra rb hp q => ?_
  unfold pAdd at hp
  split at hp
  · rename_i i j e
    cases e; cases hp
    exact .inl ⟨i, j, ra, rb, q _ H (Grow.refl H) rfl⟩
  · rename_i s t e
    cases e
    split at hp
    · rename_i hz
      cases hp
      refine .inr (.inl ⟨_, _, ra.1, rb.1, ?_, ?_⟩)
      · rw [slen, slen, ← lid]; exact hz
      · exact q _ H (Grow.refl H) ⟨by rw [sapp], goodS_app ra.2 rb.2⟩
    · cases hp
  · rename_i s t e
    cases e
    split at hp
    · rename_i hz
      cases hp
      obtain ⟨c, xs, rfl, hs, hr⟩ := ra
      obtain ⟨c2, ys, rfl, hs2, hr2⟩ := rb
      refine .inr (.inr (.inl ⟨c, c2, xs, ys, rfl, rfl, hs, hs2, ?_, fun h0 => ?_, fun _ h0 => ?_, fun _ _ p hp => ?_⟩))
      · rw [hr.length, hr2.length, ← lid]; exact hz
      · subst h0
        have e0 : s = [] := List.length_eq_zero_iff.mp (by rw [← hr.length]; rfl)
        subst e0
        exact q _ H (Grow.refl H) ⟨c2, ys, rfl, hs2, hr2⟩
      · subst h0
        have e0 : t = [] := List.length_eq_zero_iff.mp (by rw [← hr2.length]; rfl)
        subst e0
        exact q _ H (Grow.refl H) ⟨c, xs, rfl, hs, by rw [List.append_nil]; exact hr⟩
      · exact q _ _ (Grow.new hp) ⟨p, xs ++ ys, rfl, SqT.of upd_same, (hr.append hr2).mono (Grow.new hp).ext _ _⟩
    · cases hp
  · rename_i s t e
    cases e
    split at hp
    · rename_i hz
      cases hp
      obtain ⟨c, xs, rfl, hs, hr⟩ := ra
      obtain ⟨c2, ys, rfl, hs2, hr2⟩ := rb
      refine .inr (.inr (.inr ⟨c, c2, xs, ys, rfl, rfl, hs, hs2, ?_, fun p hp => ?_⟩))
      · rw [hr.length, hr2.length, ← lid]; exact hz
      · exact q _ _ (Grow.new hp) ⟨p, xs ++ ys, rfl, hp, upd_same, (hr.append hr2).mono (Grow.new hp).ext _ _⟩
    · cases hp
  · cases hp
theorem op_pSub : OpR X (binaryOp .Sub) (rP2 X.K pSub) := by
  refine op_by op_sub fun a b res x y H Q ra rb hp q => ?_
  unfold pSub at hp
  split at hp
  · rename_i i j e
    cases e; cases hp
    exact ⟨i, j, ra, rb, q _ H (Grow.refl H) rfl⟩
  · cases hp
theorem op_pFdiv : OpR X (binaryOp .FloorDiv) (rP2 X.K pFdiv) := by
  refine op_by op_fdiv fun a b res x y H Q ra rb hp q => ?_
  unfold pFdiv at hp
  split at hp
  · rename_i i j e
    cases e
    split at hp
    · rename_i hz
      cases hp
      exact ⟨i, j, ra, rb, hz, q _ H (Grow.refl H) rfl⟩
    · cases hp
  · cases hp
theorem op_pMod : OpR X (binaryOp .Mod) (rP2 X.K pMod) := by
  refine op_by op_mod fun a b res x y H Q ra rb hp q => ?_
  unfold pMod at hp
  split at hp
  · rename_i i j e
    cases e
    split at hp
    · rename_i hz
      cases hp
      exact ⟨i, j, ra, rb, hz, q _ H (Grow.refl H) rfl⟩
    · cases hp
  · cases hp
theorem op_pPow : OpR X (binaryOp .Pow) (rP2 X.K pPow) := by
  refine op_by op_pow fun a b res x y H Q ra rb hp q => ?_
  unfold pPow at hp
  split at hp
  · rename_i i j e
    cases e
    split at hp
    · rename_i hz
      cases hp
      exact ⟨i, j, ra, rb, ⟨hz.1, by have := hz.2.1; omega, by have := hz.2.2; omega⟩, q _ H (Grow.refl H) rfl⟩
    · cases hp
  · cases hp
/-- a text times a number -/
def rMulS : R2 := fun x y H Q => ∃ (z : List Nat) (n : Int), x = .str ⟨z.toArray⟩ ∧ y = .int n ∧ z.length * n.toNat ≤ 1000000 ∧ z.length ≤ 1000000 ∧ -1000000 ≤ n ∧ n ≤ 1000000 ∧ Q (.str ⟨((List.replicate n.toNat z).flatten).toArray⟩) H
theorem fold_rep (z : List Nat) : ∀ (n : Nat) (acc : Array Nat), ((List.replicate n z.toArray).foldl (· ++ ·) acc) = acc ++ ((List.replicate n z).flatten).toArray
  | 0, acc => by simp
  | n + 1, acc => by
    rw [List.replicate_succ, List.foldl_cons, fold_rep z n, List.replicate_succ, List.flatten_cons]
    simp
theorem op_mulS : OpR X (binaryOp .Mult) rMulS := by
  intro pins s σ H x y v u Q I rx ry h
  obtain ⟨z, n, rfl, rfl, h1, h2, h3, h4, q⟩ := h
  obtain ⟨t, rfl⟩ := rx
  obtain ⟨t', rfl⟩ := ry
  have e : Txt.mul ⟨z.toArray⟩ n = ⟨((List.replicate n.toNat z).flatten).toArray⟩ := by
    unfold Txt.mul
    by_cases hn : n < 1
    · rw [if_pos hn, show n.toNat = 0 by omega]; rfl
    · rw [if_neg hn]
      split
      · rename_i hc
        rw [Bool.or_eq_true, beq_iff_eq, beq_iff_eq] at hc
        rcases hc with hc | hc
        · subst hc
          show _ = Str.mk ((List.replicate 1 z).flatten).toArray
          simp
        · rw [slen] at hc
          have z0 : z = [] := List.length_eq_zero_iff.mp hc
          subst z0
          simp
      · rw [fold_rep]; simp
  refine SB.mul ⟨?_, fun hn _ => ?_, fun hn _ => ?_⟩ fun t' k => ⟨.str _, H, I.tok k, ⟨t', ?_⟩, q⟩
  · simp only [Bool.or_eq_false_iff, decide_eq_false_iff_not]; constructor <;> omega
  · rw [slen]
    intro hc
    have h5 : ((z.length : Nat) : Int) * n ≤ 2 ^ 63 - 1 := by
      have e1 : n = ((n.toNat : Nat) : Int) := by omega
      rw [e1, ← Int.natCast_mul]
      omega
    have h6 := Int.le_ediv_of_mul_le (by omega) h5
    omega
  · rw [slen]
    exact decide_eq_false (by rw [sizeLine_eq]; omega)
  · rw [e]
theorem op_pMul : OpR X (binaryOp .Mult) (rP2 X.K pMul) := by
  refine op_by (op_mul.or op_mulS) fun a b res x y H Q ra rb hp q => ?_
  unfold pMul at hp
  split at hp
  · rename_i i j e
    cases e
    split at hp
    · rename_i hz
      cases hp
      rw [Bool.or_eq_true] at hz
      exact .inl ⟨i, j, ra, rb, hz.elim (fun z => .inl (smallI_of z)) (fun z => .inr (smallI_of z)), q _ H (Grow.refl H) rfl⟩
    · cases hp
  · rename_i z j e
    cases e
    split at hp
    · rename_i hz
      cases hp
      simp only [Bool.and_eq_true, decide_eq_true_eq] at hz
      exact .inr ⟨z, j, ra.1, rb, hz.1.1.1, hz.1.1.2, hz.1.2, hz.2, q _ H (Grow.refl H) ⟨rfl, goodS_rep ra.2 _⟩⟩
    · cases hp
  · cases hp
end
end PD
end

section
set_option Elab.async false
set_option linter.all false
set_option maxRecDepth 100000
set_option maxHeartbeats 4000000
/-! PD4: comparisons, calls of built-ins, subscripts. -/
namespace PD
open PySem PySem.Spec PyProof.Rows L2

/-! ### data as the library's data -/
mutual
def D.py : D → PyData
  | .non => .none
  | .bl b => .bool b
  | .int i => .int i
  | .str s => .str ⟨s.toArray⟩
  | .tup l => .tuple (D.pys l)
  | .lst l => .list (D.pys l)
def D.pys : List D → List PyData
  | [] => []
  | x :: xs => D.py x :: D.pys xs
end
theorem strOk_of {s : List Nat} (h : goodS s = true) : PySem.PyData.strOk ⟨s.toArray⟩ = true := by
  unfold PySem.PyData.strOk
  rw [← Array.all_toList]
  exact h
mutual
theorem RepD.can {K : Fr} {H : Hp} : ∀ (d : D) (v : V), RepD K H d v → d.py.canLay0 = true
  | .non, _, _ => rfl
  | .bl _, _, _ => rfl
  | .int _, _, _ => rfl
  | .str _, _, h => strOk_of h.2
  | .tup l, _, h => by
    obtain ⟨a, xs, rfl, hs, hr⟩ := h
    simp only [D.py, PyData.canLay0]; exact RepDs.can l xs hr
  | .lst l, _, h => by
    obtain ⟨a, xs, rfl, hs, hr⟩ := h
    simp only [D.py, PyData.canLay0]; exact RepDs.can l xs hr
theorem RepDs.can {K : Fr} {H : Hp} : ∀ (l : List D) (vs : List V), RepDs K H l vs → PyData.canLayAll0 (D.pys l) = true
  | [], _, _ => rfl
  | x :: xs, _, h => by
    obtain ⟨v, r, rfl, h1, h2⟩ := h
    simp only [D.pys, PyData.canLayAll0, RepD.can x v h1, RepDs.can xs r h2, Bool.and_self]
end
theorem RepN.can {K : Fr} {H : Hp} {d : D} {v : V} (h : RepN K H d v) : d.py.canLay0 = true := by
  cases d with
  | lst l =>
    obtain ⟨a, xs, rfl, hs, hr⟩ := h
    simp only [D.py, PyData.canLay0]; exact RepDs.can l xs hr
  | _ => exact RepD.can (K := K) (H := H) _ _ h
mutual
theorem D.py_depth : ∀ d : D, d.py.depth = d.deep
  | .non => rfl
  | .bl _ => rfl
  | .int _ => rfl
  | .str _ => rfl
  | .tup l => by simp only [D.py, PyData.depth, D.deep, D.pys_depth l]
  | .lst l => by simp only [D.py, PyData.depth, D.deep, D.pys_depth l]
theorem D.pys_depth : ∀ l : List D, PyData.depthAll (D.pys l) = D.deeps l
  | [] => rfl
  | x :: xs => by simp only [D.pys, PyData.depthAll, D.deeps, D.py_depth x, D.pys_depth xs]
end
theorem str_beq (a b : List Nat) : ((⟨a.toArray⟩ : Str) == ⟨b.toArray⟩) = (a == b) := by
  rw [Bool.eq_iff_iff, beq_iff_eq, beq_iff_eq]
  constructor
  · intro h; injection h with h; injection h
  · intro h; rw [h]
mutual
theorem D.py_eqv : ∀ a b : D, PyData.eqv a.py b.py = a.eqv b
  | .non, b => by cases b <;> rfl
  | .bl x, b => by cases b <;> rfl
  | .int i, b => by cases b <;> rfl
  | .str s, b => by
    cases b with
    | str t => exact str_beq s t
    | _ => rfl
  | .tup l, b => by
    cases b with
    | tup m => simp only [D.py, PyData.eqv, D.eqv]; exact D.pys_eqv l m
    | _ => rfl
  | .lst l, b => by
    cases b with
    | lst m => simp only [D.py, PyData.eqv, D.eqv]; exact D.pys_eqv l m
    | _ => rfl
theorem D.pys_eqv : ∀ a b : List D, PyData.eqvAll (D.pys a) (D.pys b) = D.eqvs a b
  | [], [] => rfl
  | [], _ :: _ => rfl
  | _ :: _, [] => rfl
  | x :: xs, y :: ys => by simp only [D.pys, PyData.eqvAll, D.eqvs, D.py_eqv x y, D.pys_eqv xs ys]
end
mutual
theorem RepD.dp {K : Fr} {H : Hp} : ∀ (d : D) (v : V), RepD K H d v → Dp K H v d.py
  | .non, _, h => by cases (show _ = V.non from h); exact .non
  | .bl b, _, h => by cases (show _ = V.bl b from h); exact .bl b
  | .int i, _, h => by cases (show _ = V.int i from h); exact .int i
  | .str s, _, h => by cases h.1; exact .str _
  | .tup l, _, h => by
    obtain ⟨a, xs, rfl, hs, hr⟩ := h
    exact .tup hs (RepDs.dp l xs hr)
  | .lst l, _, h => by
    obtain ⟨a, xs, rfl, hs, hr⟩ := h
    exact .lst (.inl hs.l) (RepDs.dp l xs hr)
theorem RepDs.dp {K : Fr} {H : Hp} : ∀ (l : List D) (vs : List V), RepDs K H l vs → DpAll K H vs (D.pys l)
  | [], _, h => by cases h; exact .nil
  | d :: ds, _, h => by
    obtain ⟨v, r, rfl, h1, h2⟩ := h
    exact .cons (RepD.dp d v h1) (RepDs.dp ds r h2)
end
theorem RepN.dp {K : Fr} {H : Hp} {d : D} {v : V} (h : RepN K H d v) : Dp K H v d.py := by
  cases d with
  | lst l =>
    obtain ⟨a, xs, rfl, hs, hr⟩ := h
    exact .lst (.inl hs) (RepDs.dp l xs hr)
  | _ => exact RepD.dp _ _ h
theorem shaped_of {K : Fr} {H : Hp} {d : D} {v : V} (r : RepN K H d v) (h : d.deep ≤ 60) : SeqAt.shaped d.py = true := by
  unfold SeqAt.shaped
  rw [r.can, D.py_depth]
  simp only [Bool.true_and, decide_eq_true_eq]
  omega
theorem okDeep_of {a b : D} (h : okDeep a b = true) : a.deep ≤ 60 ∧ b.deep ≤ 60 := by
  unfold okDeep at h
  simpa using h
theorem flat_deep {d : D} (h : flatD d = true) : d.deep ≤ 0 := by
  cases d <;> first | exact Nat.le_refl _ | exact nomatch h
theorem flats_deep : ∀ {l : List D}, l.all flatD = true → D.deeps l ≤ 0
  | [], _ => Nat.le_refl _
  | x :: xs, h => by
    rw [List.all_cons, Bool.and_eq_true] at h
    have h1 := flat_deep h.1
    have h2 := flats_deep h.2
    show max x.deep (D.deeps xs) ≤ 0
    omega
theorem any_py (x : D) : ∀ l : List D, (D.pys l).any (fun z => PyData.eqv z x.py) = isIn x l
  | [] => rfl
  | y :: ys => by
    show ((PyData.eqv y.py x.py) || (D.pys ys).any _) = (y.eqv x || ys.any _)
    rw [any_py x ys, D.py_eqv]
    rfl
section
variable {X : Cx}
theorem op_pEq (hu : X.A.units + 64 < cLine) : OpR X (compareOp .Eq) (rP2 X.K pEq) := by
  refine op_by (op_eqD hu) fun a b res x y H Q ra rb hp q => ?_
  have hp' : (if okDeep a b = true then some (Res.v (.bl (a.eqv b))) else none) = some res := hp
  split at hp'
  · rename_i hz
    cases hp'
    obtain ⟨h1, h2⟩ := okDeep_of hz
    exact ⟨_, _, ra.dp, rb.dp, shaped_of ra h1, shaped_of rb h2, by rw [D.py_eqv]; exact q _ H (Grow.refl H) rfl⟩
  · cases hp'
theorem op_pNe (hu : X.A.units + 64 < cLine) : OpR X (compareOp .NotEq) (rP2 X.K pNe) := by
  refine op_by (op_neD hu) fun a b res x y H Q ra rb hp q => ?_
  have hp' : (if okDeep a b = true then some (Res.v (.bl (!a.eqv b))) else none) = some res := hp
  split at hp'
  · rename_i hz
    cases hp'
    obtain ⟨h1, h2⟩ := okDeep_of hz
    exact ⟨_, _, ra.dp, rb.dp, shaped_of ra h1, shaped_of rb h2, by rw [D.py_eqv]; exact q _ H (Grow.refl H) rfl⟩
  · cases hp'
theorem op_pLt : OpR X (compareOp .Lt) (rP2 X.K pLt) := by
  refine op_by (op_lt.or op_lt_str) fun a b res x y H Q ra rb hp q => ?_
  unfold pLt at hp
  split at hp
  · rename_i i j e
    cases e; cases hp
    exact .inl ⟨i, j, ra, rb, q _ H (Grow.refl H) rfl⟩
  · rename_i i j e
    cases e; cases hp
    exact .inr ⟨_, _, ra.1, rb.1, q _ H (Grow.refl H) rfl⟩
  · cases hp
theorem op_pLe : OpR X (compareOp .LtE) (rP2 X.K pLe) := by
  refine op_by (op_le.or op_le_str) fun a b res x y H Q ra rb hp q => ?_
  unfold pLe at hp
  split at hp
  · rename_i i j e
    cases e; cases hp
    exact .inl ⟨i, j, ra, rb, q _ H (Grow.refl H) rfl⟩
  · rename_i i j e
    cases e; cases hp
    exact .inr ⟨_, _, ra.1, rb.1, q _ H (Grow.refl H) rfl⟩
  · cases hp
theorem op_pGt : OpR X (compareOp .Gt) (rP2 X.K pGt) := by
  refine op_by (op_gt.or op_gt_str) fun a b res x y H Q ra rb hp q => ?_
  unfold pGt at hp
  split at hp
  · rename_i i j e
    cases e; cases hp
    exact .inl ⟨i, j, ra, rb, q _ H (Grow.refl H) rfl⟩
  · rename_i i j e
    cases e; cases hp
    exact .inr ⟨_, _, ra.1, rb.1, q _ H (Grow.refl H) rfl⟩
  · cases hp
theorem op_pGe : OpR X (compareOp .GtE) (rP2 X.K pGe) := by
  refine op_by (op_ge.or op_ge_str) fun a b res x y H Q ra rb hp q => ?_
  unfold pGe at hp
  split at hp
  · rename_i i j e
    cases e; cases hp
    exact .inl ⟨i, j, ra, rb, q _ H (Grow.refl H) rfl⟩
  · rename_i i j e
    cases e; cases hp
    exact .inr ⟨_, _, ra.1, rb.1, q _ H (Grow.refl H) rfl⟩
  · cases hp
/-- x in a tuple of data -/
theorem flatV_of {K : Fr} {H : Hp} {d : D} {v : V} (f : flatD d = true) (h : RepD K H d v) : flatV v = true ∧ ∀ (e : D) (w : V), flatD e = true → RepD K H e w → eqV w v = e.eqv d := by
  have key : ∀ (e : D) (w : V), flatD e = true → RepD K H e w → (w = .non ∧ e = .non) ∨ (∃ b, w = .bl b ∧ e = .bl b) ∨ (∃ i, w = .int i ∧ e = .int i) ∨ (∃ s, w = .str ⟨s.toArray⟩ ∧ e = .str s) := fun e w fe r => by
    cases e with
    | non => exact .inl ⟨r, rfl⟩
    | bl b => exact .inr (.inl ⟨b, r, rfl⟩)
    | int i => exact .inr (.inr (.inl ⟨i, r, rfl⟩))
    | str s => exact .inr (.inr (.inr ⟨s, r.1, rfl⟩))
    | _ => exact nomatch fe
  refine ⟨?_, fun e w fe r => ?_⟩
  · rcases key d v f h with ⟨rfl, _⟩ | ⟨_, rfl, _⟩ | ⟨_, rfl, _⟩ | ⟨_, rfl, _⟩ <;> rfl
  · rcases key d v f h with ⟨rfl, rfl⟩ | ⟨_, rfl, rfl⟩ | ⟨_, rfl, rfl⟩ | ⟨_, rfl, rfl⟩ <;>
    rcases key e w fe r with ⟨rfl, rfl⟩ | ⟨_, rfl, rfl⟩ | ⟨_, rfl, rfl⟩ | ⟨_, rfl, rfl⟩ <;> first | rfl | exact str_beq _ _
theorem inV_of {K : Fr} {H : Hp} {d : D} {v : V} (f : flatD d = true) (h : RepD K H d v) : ∀ {l : List D} {vs : List V}, l.all flatD = true → RepDs K H l vs → inV v vs = isIn d l ∧ vs.all flatV = true
  | [], _, _, r => by cases r; exact ⟨rfl, rfl⟩
  | e :: es, _, fl, r => by
    obtain ⟨w, ws, rfl, r1, r2⟩ := r
    rw [List.all_cons, Bool.and_eq_true] at fl
    obtain ⟨i1, i2⟩ := inV_of f h fl.2 r2
    refine ⟨?_, by rw [List.all_cons, (flatV_of fl.1 r1).1, i2]; rfl⟩
    show (eqV w v || inV v ws) = (e.eqv d || isIn d es)
    rw [i1, (flatV_of f h).2 e w fl.1 r1]
theorem flat_repD {K : Fr} {H : Hp} {d : D} {v : V} (f : flatD d = true) (h : RepN K H d v) : RepD K H d v := by
  cases d <;> first | exact h | exact nomatch f
theorem op_pIn : OpR X (compareOp .In) (rP2 X.K pIn) := by
  refine op_by (op_in_sign.or op_in_seq) fun a b res x y H Q ra rb hp q => ?_
  unfold pIn at hp
  split at hp
  · rename_i c s e
    cases e; cases hp
    exact .inl ⟨c, _, ra.1, rb.1, q _ H (Grow.refl H) (by show V.bl _ = V.bl _; simp)⟩
  · rename_i x' l _ e
    cases e
    split at hp
    · rename_i hz
      cases hp
      rw [Bool.and_eq_true] at hz
      obtain ⟨c, xs, rfl, hs, hr⟩ := rb
      have r1 := flat_repD hz.1 ra
      obtain ⟨e1, e2⟩ := inV_of hz.1 r1 hz.2 hr
      exact .inr ⟨c, xs, rfl, .inr hs, (flatV_of hz.1 r1).1, e2, by rw [if_neg (by decide), e1]; exact q _ H (Grow.refl H) rfl⟩
    · cases hp
  · rename_i x' l _ e
    cases e
    split at hp
    · rename_i hz
      cases hp
      rw [Bool.and_eq_true] at hz
      obtain ⟨c, xs, rfl, hs, hr⟩ := rb
      have r1 := flat_repD hz.1 ra
      obtain ⟨e1, e2⟩ := inV_of hz.1 r1 hz.2 hr
      exact .inr ⟨c, xs, rfl, .inl (.inl hs), (flatV_of hz.1 r1).1, e2, by rw [if_neg (by decide), e1]; exact q _ H (Grow.refl H) rfl⟩
    · cases hp
  · cases hp
theorem op_pNotIn : OpR X (compareOp .NotIn) (rP2 X.K pNotIn) := by
  refine op_by (op_notIn_sign.or op_notIn_seq) fun a b res x y H Q ra rb hp q => ?_
  unfold pNotIn at hp
  split at hp
  · rename_i c s e
    cases e; cases hp
    exact .inl ⟨c, _, ra.1, rb.1, q _ H (Grow.refl H) (by show V.bl _ = V.bl _; simp)⟩
  · rename_i x' l _ e
    cases e
    split at hp
    · rename_i hz
      cases hp
      rw [Bool.and_eq_true] at hz
      obtain ⟨c, xs, rfl, hs, hr⟩ := rb
      have r1 := flat_repD hz.1 ra
      obtain ⟨e1, e2⟩ := inV_of hz.1 r1 hz.2 hr
      exact .inr ⟨c, xs, rfl, .inr hs, (flatV_of hz.1 r1).1, e2, by rw [if_pos rfl, e1]; exact q _ H (Grow.refl H) rfl⟩
    · cases hp
  · rename_i x' l _ e
    cases e
    split at hp
    · rename_i hz
      cases hp
      rw [Bool.and_eq_true] at hz
      obtain ⟨c, xs, rfl, hs, hr⟩ := rb
      have r1 := flat_repD hz.1 ra
      obtain ⟨e1, e2⟩ := inV_of hz.1 r1 hz.2 hr
      exact .inr ⟨c, xs, rfl, .inl (.inl hs), (flatV_of hz.1 r1).1, e2, by rw [if_pos rfl, e1]; exact q _ H (Grow.refl H) rfl⟩
    · cases hp
  · cases hp
theorem isNon_of {K : Fr} {H : Hp} {d : D} {v : V} (h : RepN K H d v) : decide (v = .non) = d.isNon := by
  cases d with
  | non => cases (show v = V.non from h); rfl
  | bl b => cases (show v = V.bl b from h); rfl
  | int b => cases (show v = V.int b from h); rfl
  | str b => cases (show v = V.str ⟨b.toArray⟩ from h.1); rfl
  | tup l => obtain ⟨a, xs, rfl, _⟩ := h; rfl
  | lst l => obtain ⟨a, xs, rfl, _⟩ := h; rfl
theorem op_pIs : OpR X (compareOp .Is) (rP2 X.K pIs) := by
  refine op_by (op_is_bl.or op_isN) fun a b res x y H Q ra rb hp q => ?_
  unfold pIs at hp
  split at hp
  · rename_i i j e
    cases e; cases hp
    exact .inl ⟨i, j, ra, rb, q _ H (Grow.refl H) (by show V.bl _ = V.bl _; rw [Bool.beq_eq_decide_eq])⟩
  · rename_i a' _ e
    cases e; cases hp
    exact .inr ⟨rb, q _ H (Grow.refl H) (by show V.bl _ = V.bl _; rw [isNon_of ra])⟩
  · cases hp
theorem op_pIsNot : OpR X (compareOp .IsNot) (rP2 X.K pIsNot) := by
  refine op_by (op_isnot_bl.or op_notN) fun a b res x y H Q ra rb hp q => ?_
  unfold pIsNot at hp
  split at hp
  · rename_i i j e
    cases e; cases hp
    exact .inl ⟨i, j, ra, rb, q _ H (Grow.refl H) (by show V.bl _ = V.bl _; rw [Bool.beq_eq_decide_eq])⟩
  · rename_i a' _ e
    cases e; cases hp
    exact .inr ⟨rb, q _ H (Grow.refl H) (by show V.bl _ = V.bl _; rw [isNon_of ra])⟩
  · cases hp
theorem un_pNeg : UnR X (unaryOp .USub) (fun x H Q => PrimV X.K pNeg [x] H Q) := by
  intro pins s σ H x v Q I rx ⟨ds, res, hr, hp, q⟩
  obtain ⟨a, rfl, ra⟩ := hr.one
  unfold pNeg at hp
  split at hp
  · rename_i i e
    cases e; cases hp
    exact un_neg pins s σ H x v Q I rx ⟨i, ra, q _ H (Grow.refl H) rfl⟩
  · cases hp
end
end PD
end

section
set_option Elab.async false
set_option linter.all false
set_option maxRecDepth 100000
set_option maxHeartbeats 4000000
/-! PD5: calls of built-ins, subscripts, slices. -/
namespace PD
open PySem PySem.Spec PyProof.Rows L2

section
variable {X : Cx}
/-- a call from its cases: one argument -/
theorem cr_by1 {f : Value} {p : Prim} {r : List V → Hp → VK → Prop} (hc : CallR X f r) (k : ∀ a res (x : V) (H : Hp) (Q : VK), RepN X.K H a x → p [a] = some res → (∀ v H', Grow H H' → RepR X.K H H' res v → Q v H') → r [x] H Q)
    (h1 : ∀ ds res, p ds = some res → ds.length = 1) : CallR X f (PrimV X.K p) := by
  intro pins s σ H xs us Q I r ⟨ds, res, hr, hp, q⟩
  have hl := h1 ds res hp
  match ds, hl with
  | [a], _ =>
    obtain ⟨x, rfl, ra⟩ := RepNs.of1 hr
    exact hc pins s σ H [x] us Q I r (k a res x H Q ra hp q)
theorem cr_by2 {f : Value} {p : Prim} {r : List V → Hp → VK → Prop} (hc : CallR X f r) (k : ∀ a b res (x y : V) (H : Hp) (Q : VK), RepN X.K H a x → RepN X.K H b y → p [a, b] = some res → (∀ v H', Grow H H' → RepR X.K H H' res v → Q v H') → r [x, y] H Q)
    (h1 : ∀ ds res, p ds = some res → ds.length = 2) : CallR X f (PrimV X.K p) := by
  intro pins s σ H xs us Q I r ⟨ds, res, hr, hp, q⟩
  have hl := h1 ds res hp
  match ds, hl with
  | [a, b], _ =>
    obtain ⟨x, y, rfl, ra, rb⟩ := RepNs.of2 hr
    exact hc pins s σ H [x, y] us Q I r (k a b res x y H Q ra rb hp q)
theorem bools_rep {K : Fr} {H : Hp} : ∀ {l : List D} {bs : List Bool} {vs : List V}, boolsOf l = some bs → RepDs K H l vs → vs = bs.map V.bl
  | [], _, _, h, r => by cases h; cases r; rfl
  | .bl b :: l, _, _, h, r => by
    obtain ⟨v, ws, rfl, r1, r2⟩ := r
    unfold boolsOf at h
    obtain ⟨bs, e, rfl⟩ := Option.map_eq_some_iff.mp h
    rw [bools_rep e r2, (show v = V.bl b from r1)]; rfl
  | .non :: _, _, _, h, _ => nomatch h
  | .int _ :: _, _, _, h, _ => nomatch h
  | .str _ :: _, _, _, h, _ => nomatch h
  | .tup _ :: _, _, _, h, _ => nomatch h
  | .lst _ :: _, _, _, h, _ => nomatch h
theorem ints_rep {K : Fr} {H : Hp} : ∀ {l : List D} {bs : List Int} {vs : List V}, intsOf l = some bs → RepDs K H l vs → vs = bs.map V.int
  | [], _, _, h, r => by cases h; cases r; rfl
  | .int b :: l, _, _, h, r => by
    obtain ⟨v, ws, rfl, r1, r2⟩ := r
    unfold intsOf at h
    obtain ⟨bs, e, rfl⟩ := Option.map_eq_some_iff.mp h
    rw [ints_rep e r2, (show v = V.int b from r1)]; rfl
  | .non :: _, _, _, h, _ => nomatch h
  | .bl _ :: _, _, _, h, _ => nomatch h
  | .str _ :: _, _, _, h, _ => nomatch h
  | .tup _ :: _, _, _, h, _ => nomatch h
  | .lst _ :: _, _, _, h, _ => nomatch h
def mkS (s : List Nat) : Str := ⟨s.toArray⟩
theorem texts_rep {K : Fr} {H : Hp} : ∀ {l : List D} {bs : List (List Nat)} {vs : List V}, textsOf l = some bs → RepDs K H l vs → vs = (bs.map mkS).map V.str ∧ ∀ b ∈ bs, goodS b = true
  | [], _, _, h, r => by cases h; cases r; exact ⟨rfl, fun _ z => nomatch z⟩
  | .str b :: l, _, _, h, r => by
    obtain ⟨v, ws, rfl, r1, r2⟩ := r
    unfold textsOf at h
    obtain ⟨bs, e, rfl⟩ := Option.map_eq_some_iff.mp h
    obtain ⟨e1, e2⟩ := texts_rep e r2
    refine ⟨by rw [e1, r1.1]; rfl, fun c hc => ?_⟩
    rcases List.mem_cons.mp hc with rfl | hc
    · exact r1.2
    · exact e2 c hc
  | .non :: _, _, _, h, _ => nomatch h
  | .bl _ :: _, _, _, h, _ => nomatch h
  | .int _ :: _, _, _, h, _ => nomatch h
  | .tup _ :: _, _, _, h, _ => nomatch h
  | .lst _ :: _, _, _, h, _ => nomatch h

theorem c_len : CallR X (.builtin "len") (PrimV X.K pLen) := by
  refine cr_by1 call_len (fun a res x H Q ra hp q => ?_) fun ds res h => ?_
  · unfold pLen at hp
    split at hp
    · rename_i z e
      cases e
      split at hp
      · rename_i hz
        cases hp
        rw [ra.1]
        refine ⟨_, z.length, rfl, ⟨by rw [slen, ← lid]; exact hz, by rw [slen]⟩, q _ H (Grow.refl H) rfl⟩
      · cases hp
    · rename_i l e
      cases e; cases hp
      obtain ⟨c, xs, rfl, hs, hr⟩ := ra
      exact ⟨_, l.length, rfl, .inr ⟨xs, hs, hr.length.symm⟩, q _ H (Grow.refl H) rfl⟩
    · rename_i l e
      cases e; cases hp
      obtain ⟨c, xs, rfl, hs, hr⟩ := ra
      exact ⟨_, l.length, rfl, .inl ⟨xs, .inl hs, hr.length.symm⟩, q _ H (Grow.refl H) rfl⟩
    · cases hp
  · unfold pLen at h
    split at h <;> first | rfl | cases h
theorem c_all (hc : X.calm = true) : CallR X (.builtin "all") (PrimV X.K pAll) := by
  refine cr_by1 (cr_all hc) (fun a res x H Q ra hp q => ?_) fun ds res h => ?_
  · unfold pAll at hp
    split at hp
    · rename_i l e
      cases e
      obtain ⟨bs, e, rfl⟩ := Option.map_eq_some_iff.mp hp
      obtain ⟨c, xs, rfl, hs, hr⟩ := ra
      have e1 := bools_rep e hr
      subst e1
      exact ⟨c, bs, rfl, .inl hs, q _ H (Grow.refl H) rfl⟩
    · cases hp
  · unfold pAll at h
    split at h <;> first | rfl | cases h
theorem c_any (hc : X.calm = true) : CallR X (.builtin "any") (PrimV X.K pAny) := by
  refine cr_by1 (cr_any hc) (fun a res x H Q ra hp q => ?_) fun ds res h => ?_
  · unfold pAny at hp
    split at hp
    · rename_i l e
      cases e
      obtain ⟨bs, e, rfl⟩ := Option.map_eq_some_iff.mp hp
      obtain ⟨c, xs, rfl, hs, hr⟩ := ra
      have e1 := bools_rep e hr
      subst e1
      exact ⟨c, bs, rfl, .inl hs, q _ H (Grow.refl H) rfl⟩
    · cases hp
  · unfold pAny at h
    split at h <;> first | rfl | cases h
theorem c_sum (hc : X.calm = true) : CallR X (.builtin "sum") (PrimV X.K pSum) := by
  refine cr_by1 (cr_sum hc) (fun a res x H Q ra hp q => ?_) fun ds res h => ?_
  · unfold pSum at hp
    split at hp
    · rename_i l e
      cases e
      obtain ⟨bs, e, rfl⟩ := Option.map_eq_some_iff.mp hp
      obtain ⟨c, xs, rfl, hs, hr⟩ := ra
      have e1 := ints_rep e hr
      subst e1
      exact ⟨c, bs, rfl, .inl hs, q _ H (Grow.refl H) rfl⟩
    · cases hp
  · unfold pSum at h
    split at h <;> first | rfl | cases h
theorem maxL_mem : ∀ (r : List Int) (m : Int), maxL m r ∈ m :: r ∧ ∀ y ∈ m :: r, y ≤ maxL m r
  | [], m => ⟨by simp [maxL], fun y hy => by simp at hy; subst hy; exact Int.le_refl _⟩
  | x :: r, m => by
    obtain ⟨h1, h2⟩ := maxL_mem r (if x > m then x else m)
    refine ⟨?_, fun y hy => ?_⟩
    · show maxL (if x > m then x else m) r ∈ _
      rcases List.mem_cons.mp h1 with e | e
      · rw [e]
        by_cases hx : x > m
        · rw [if_pos hx]; simp
        · rw [if_neg hx]; simp
      · exact List.mem_cons_of_mem _ (List.mem_cons_of_mem _ e)
    · show y ≤ maxL (if x > m then x else m) r
      have h0 := h2 _ List.mem_cons_self
      rcases List.mem_cons.mp hy with e | hy
      · subst e
        by_cases hx : x > y
        · rw [if_pos hx] at h0 ⊢; omega
        · rw [if_neg hx] at h0 ⊢; omega
      · rcases List.mem_cons.mp hy with e | hy
        · subst e
          by_cases hx : y > m
          · rw [if_pos hx] at h0 ⊢; omega
          · rw [if_neg hx] at h0 ⊢; omega
        · exact h2 y (List.mem_cons_of_mem _ hy)
theorem minL_mem : ∀ (r : List Int) (m : Int), minL m r ∈ m :: r ∧ ∀ y ∈ m :: r, minL m r ≤ y
  | [], m => ⟨by simp [minL], fun y hy => by simp at hy; subst hy; exact Int.le_refl _⟩
  | x :: r, m => by
    obtain ⟨h1, h2⟩ := minL_mem r (if x < m then x else m)
    refine ⟨?_, fun y hy => ?_⟩
    · show minL (if x < m then x else m) r ∈ _
      rcases List.mem_cons.mp h1 with e | e
      · rw [e]
        by_cases hx : x < m
        · rw [if_pos hx]; simp
        · rw [if_neg hx]; simp
      · exact List.mem_cons_of_mem _ (List.mem_cons_of_mem _ e)
    · show minL (if x < m then x else m) r ≤ y
      have h0 := h2 _ List.mem_cons_self
      rcases List.mem_cons.mp hy with e | hy
      · subst e
        by_cases hx : x < y
        · rw [if_pos hx] at h0 ⊢; omega
        · rw [if_neg hx] at h0 ⊢; omega
      · rcases List.mem_cons.mp hy with e | hy
        · subst e
          by_cases hx : y < m
          · rw [if_pos hx] at h0 ⊢; omega
          · rw [if_neg hx] at h0 ⊢; omega
        · exact h2 y (List.mem_cons_of_mem _ hy)
theorem c_maxL (hc : X.calm = true) : CallR X (.builtin "max") (PrimV X.K pMaxL) := by
  refine cr_by1 (cr_max hc) (fun a res x H Q ra hp q => ?_) fun ds res h => ?_
  · unfold pMaxL at hp
    split at hp
    · rename_i l e
      cases e
      split at hp
      · rename_i m r e
        cases hp
        obtain ⟨c, xs, rfl, hs, hr⟩ := ra
        have e1 := ints_rep e hr
        subst e1
        refine ⟨c, m :: r, rfl, .inl hs, by simp, fun z hz hle => ?_⟩
        obtain ⟨m1, m2⟩ := maxL_mem r m
        have ez : z = maxL m r := Int.le_antisymm (m2 z hz) (hle _ m1)
        rw [ez]
        exact q _ H (Grow.refl H) rfl
      · cases hp
    · cases hp
  · unfold pMaxL at h
    split at h <;> first | rfl | cases h
theorem c_minL (hc : X.calm = true) : CallR X (.builtin "min") (PrimV X.K pMinL) := by
  refine cr_by1 (cr_min hc) (fun a res x H Q ra hp q => ?_) fun ds res h => ?_
  · unfold pMinL at hp
    split at hp
    · rename_i l e
      cases e
      split at hp
      · rename_i m r e
        cases hp
        obtain ⟨c, xs, rfl, hs, hr⟩ := ra
        have e1 := ints_rep e hr
        subst e1
        refine ⟨c, m :: r, rfl, .inl hs, by simp, fun z hz hle => ?_⟩
        obtain ⟨m1, m2⟩ := minL_mem r m
        have ez : z = minL m r := Int.le_antisymm (hle _ m1) (m2 z hz)
        rw [ez]
        exact q _ H (Grow.refl H) rfl
      · cases hp
    · cases hp
  · unfold pMinL at h
    split at h <;> first | rfl | cases h
theorem c_max2 (hc : X.calm = true) : CallR X (.builtin "max") (PrimV X.K pMax2) := by
  refine cr_by2 (call_max2 hc) (fun a b res x y H Q ra rb hp q => ?_) fun ds res h => ?_
  · unfold pMax2 at hp
    split at hp
    · rename_i i j e
      cases e; cases hp
      rw [(show x = V.int i from ra), (show y = V.int j from rb)]
      exact ⟨i, j, rfl, q _ H (Grow.refl H) rfl⟩
    · cases hp
  · unfold pMax2 at h
    split at h <;> first | rfl | cases h
theorem c_min2 (hc : X.calm = true) : CallR X (.builtin "min") (PrimV X.K pMin2) := by
  refine cr_by2 (call_min2 hc) (fun a b res x y H Q ra rb hp q => ?_) fun ds res h => ?_
  · unfold pMin2 at hp
    split at hp
    · rename_i i j e
      cases e; cases hp
      rw [(show x = V.int i from ra), (show y = V.int j from rb)]
      exact ⟨i, j, rfl, q _ H (Grow.refl H) rfl⟩
    · cases hp
  · unfold pMin2 at h
    split at h <;> first | rfl | cases h
theorem c_tuple : CallR X (.type "tuple") (PrimV X.K pTuple) := by
  refine cr_by1 call_tuple_of (fun a res x H Q ra hp q => ?_) fun ds res h => ?_
  · unfold pTuple at hp
    split at hp
    · rename_i l e
      cases e; cases hp
      obtain ⟨c, xs, rfl, hs, hr⟩ := ra
      exact ⟨c, xs, rfl, .inl ⟨.inl hs, fun p hp => q _ _ (Grow.new hp) ⟨p, xs, rfl, SqT.of upd_same, hr.mono (Grow.new hp).ext _ _⟩⟩⟩
    · rename_i l e
      cases e; cases hp
      obtain ⟨c, xs, rfl, hs, hr⟩ := ra
      exact ⟨c, xs, rfl, .inr ⟨hs, q _ H (Grow.refl H) ⟨c, xs, rfl, hs, hr⟩⟩⟩
    · cases hp
  · unfold pTuple at h
    split at h <;> first | rfl | cases h
theorem c_list : CallR X (.type "list") (PrimV X.K pList) := by
  refine cr_by1 call_list_of (fun a res x H Q ra hp q => ?_) fun ds res h => ?_
  · unfold pList at hp
    split at hp
    · rename_i l e
      cases e; cases hp
      obtain ⟨c, xs, rfl, hs, hr⟩ := ra
      exact ⟨c, xs, rfl, .inl (.inl hs), fun p hp => q _ _ (Grow.new hp) ⟨p, xs, rfl, hp, upd_same, hr.mono (Grow.new hp).ext _ _⟩⟩
    · rename_i l e
      cases e; cases hp
      obtain ⟨c, xs, rfl, hs, hr⟩ := ra
      exact ⟨c, xs, rfl, .inr hs, fun p hp => q _ _ (Grow.new hp) ⟨p, xs, rfl, hp, upd_same, hr.mono (Grow.new hp).ext _ _⟩⟩
    · cases hp
  · unfold pList at h
    split at h <;> first | rfl | cases h
theorem c_int : CallR X (.type "int") (PrimV X.K pInt) := by
  refine cr_by1 call_int1 (fun a res x H Q ra hp q => ?_) fun ds res h => ?_
  · unfold pInt at hp
    split at hp
    · rename_i i e
      cases e; cases hp
      rw [(show x = V.int i from ra)]
      exact .inl ⟨i, rfl, q _ H (Grow.refl H) rfl⟩
    · rename_i b e
      cases e; cases hp
      rw [(show x = V.bl b from ra)]
      exact .inr ⟨b, rfl, q _ H (Grow.refl H) rfl⟩
    · cases hp
  · unfold pInt at h
    split at h <;> first | rfl | cases h
/-! ### isinstance -/
def Ty.nm : Ty → String
  | .int => "int" | .str => "str" | .bool => "bool" | .tuple => "tuple" | .list => "list"
def D.tyNm : D → String
  | .non => "NoneType" | .bl _ => "bool" | .int _ => "int" | .str _ => "str" | .tup _ => "tuple" | .lst _ => "list"
theorem kit_tab : ∀ (a : D) (t : Ty), kitB a.tyNm t.nm = some (a.isTy t)
  | .non, .int => by decide +kernel
  | .non, .str => by decide +kernel
  | .non, .bool => by decide +kernel
  | .non, .tuple => by decide +kernel
  | .non, .list => by decide +kernel
  | .bl _, .int => by show kitB "bool" "int" = some true; decide +kernel
  | .bl _, .str => by show kitB "bool" "str" = some false; decide +kernel
  | .bl _, .bool => by show kitB "bool" "bool" = some true; decide +kernel
  | .bl _, .tuple => by show kitB "bool" "tuple" = some false; decide +kernel
  | .bl _, .list => by show kitB "bool" "list" = some false; decide +kernel
  | .int _, .int => by show kitB "int" "int" = some true; decide +kernel
  | .int _, .str => by show kitB "int" "str" = some false; decide +kernel
  | .int _, .bool => by show kitB "int" "bool" = some false; decide +kernel
  | .int _, .tuple => by show kitB "int" "tuple" = some false; decide +kernel
  | .int _, .list => by show kitB "int" "list" = some false; decide +kernel
  | .str _, .int => by show kitB "str" "int" = some false; decide +kernel
  | .str _, .str => by show kitB "str" "str" = some true; decide +kernel
  | .str _, .bool => by show kitB "str" "bool" = some false; decide +kernel
  | .str _, .tuple => by show kitB "str" "tuple" = some false; decide +kernel
  | .str _, .list => by show kitB "str" "list" = some false; decide +kernel
  | .tup _, .int => by show kitB "tuple" "int" = some false; decide +kernel
  | .tup _, .str => by show kitB "tuple" "str" = some false; decide +kernel
  | .tup _, .bool => by show kitB "tuple" "bool" = some false; decide +kernel
  | .tup _, .tuple => by show kitB "tuple" "tuple" = some true; decide +kernel
  | .tup _, .list => by show kitB "tuple" "list" = some false; decide +kernel
  | .lst _, .int => by show kitB "list" "int" = some false; decide +kernel
  | .lst _, .str => by show kitB "list" "str" = some false; decide +kernel
  | .lst _, .bool => by show kitB "list" "bool" = some false; decide +kernel
  | .lst _, .tuple => by show kitB "list" "tuple" = some false; decide +kernel
  | .lst _, .list => by show kitB "list" "list" = some true; decide +kernel
theorem tyx_of {K : Fr} {H : Hp} {d : D} {v : V} (h : RepN K H d v) : TyX K H v (.type d.tyNm) := by
  cases d with
  | non => cases (show v = V.non from h); exact .base .non
  | bl b => cases (show v = V.bl b from h); exact .base (.bl b)
  | int b => cases (show v = V.int b from h); exact .base (.int b)
  | str b => cases (show v = V.str ⟨b.toArray⟩ from h.1); exact .base (.str _)
  | tup l =>
    obtain ⟨a, xs, rfl, (hs | ⟨o, hs⟩) | ⟨o, its, n, hk, hc, _⟩, _⟩ := h
    · exact .base (.tup hs)
    · exact .fTuple hs
    · exact .kTuple hk hc
  | lst l =>
    obtain ⟨a, xs, rfl, hs | ⟨o, hs⟩, _⟩ := h
    · exact .base (.lst hs)
    · exact .base (.frz hs)
theorem isi_ok {t : Ty} {H : Hp} {Q : VK} {v : V} (h : PrimV X.K (pIsi t) [v] H Q) : rIsi X.K [v, .ty t.nm] H Q := by
  obtain ⟨ds, res, hr, hp, q⟩ := h
  obtain ⟨a, rfl, ra⟩ := hr.one
  cases hp
  exact ⟨v, .ty t.nm, .type a.tyNm, .type t.nm, a.isTy t, rfl, .ty _, tyx_of ra, kit_ty (kit_tab a t), q _ H (Grow.refl H) rfl⟩
end
end PD
end

section
set_option Elab.async false
set_option linter.all false
set_option maxRecDepth 100000
set_option maxHeartbeats 4000000
/-! PD6: the rules for expressions, as the text has them. -/
namespace PD
open PySem PySem.Spec PyProof.Rows L2

section
variable {X : Cx}
theorem ix_pIx : IxR X (rP2 X.K pIx) := by
  intro value slice pins s σ H x y v u Q I rx ry ⟨ds, res, hr, hp, q⟩ hs
  obtain ⟨a, b, rfl, ra, rb⟩ := hr.two
  unfold pIx at hp
  split at hp
  · rename_i z i e
    cases e
    split at hp
    · rename_i hz
      obtain ⟨c, hc, e⟩ := Option.map_eq_some_iff.mp hp
      cases e
      refine ix_str value slice pins s σ H x y v u Q I rx ry ⟨_, i, c, ra.1, rb, by rw [slen, ← lid]; exact hz, ?_, q _ H (Grow.refl H) ⟨rfl, ?_⟩⟩ hs
      · unfold atI
        rw [place_ix] at hc
        simpa using hc
      · refine goodS_sub ra.2 fun d hd => ?_
        obtain ⟨j, hj, hj2⟩ := Option.bind_eq_some_iff.mp hc
        rw [List.mem_singleton.mp hd]
        exact List.mem_of_getElem? hj2
    · cases hp
  · rename_i l i e
    cases e
    obtain ⟨d, hc, e⟩ := Option.map_eq_some_iff.mp hp
    cases e
    obtain ⟨p, xs, rfl, hq, hrr⟩ := ra
    obtain ⟨j, hj, hj2⟩ := Option.bind_eq_some_iff.mp hc
    obtain ⟨w, hw, rw'⟩ := hrr.get hj2
    refine ix_tup value slice pins s σ H _ y v u Q I rx ry ⟨p, xs, i, w, rfl, rb, hq, ?_, q _ H (Grow.refl H) rw'⟩ hs
    unfold atI
    rw [hrr.length, ← place_ix, hj]; exact hw
  · rename_i l i e
    cases e
    obtain ⟨d, hc, e⟩ := Option.map_eq_some_iff.mp hp
    cases e
    obtain ⟨p, xs, rfl, hq, hrr⟩ := ra
    obtain ⟨j, hj, hj2⟩ := Option.bind_eq_some_iff.mp hc
    obtain ⟨w, hw, rw'⟩ := hrr.get hj2
    refine ix_list value slice pins s σ H _ y v u Q I rx ry ⟨p, xs, i, w, rfl, rb, .inl hq, ?_, q _ H (Grow.refl H) rw'⟩ hs
    unfold atI
    rw [hrr.length, ← place_ix, hj]; exact hw
  · cases hp
/-- a slice by values: what its parts tell -/
def rSlP (K : Fr) : V → Option Int → Option Int → Hp → VK → Prop := fun x lo hi H Q => ∃ a lo' hi' res, RepN K H a x ∧ part lo' = some lo ∧ part hi' = some hi ∧ pSl [a, lo', hi'] = some res ∧ ∀ v H', Grow H H' → RepR K H H' res v → Q v H'
theorem sl_pSl : SlR X (rSlP X.K) := by
  intro pins s σ H x v vl vu lo hi sl Q I rx hs pl pu ⟨a, lo', hi', res, ra, hl, hh, hp, q⟩
  unfold pSl at hp
  split at hp
  · rename_i z l' h' e
    cases e
    rw [hl, hh] at hp
    dsimp only at hp
    split at hp
    · rename_i hz
      cases hp
      refine sl_str pins s σ H x v vl vu lo hi sl Q I rx hs pl pu ⟨_, ra.1, by rw [slen, ← lid]; exact hz, ?_⟩
      have ec : cutS ⟨z.toArray⟩ lo hi = ⟨(cutL z lo hi).toArray⟩ := by
        unfold cutS
        rw [cutL_eq, slen]
      rw [ec]
      refine q _ H (Grow.refl H) ⟨rfl, goodS_sub ra.2 fun c hc => ?_⟩
      rw [cutL_eq] at hc
      exact List.mem_of_mem_drop (List.mem_of_mem_take hc)
    · cases hp
  · rename_i l l' h' e
    cases e
    rw [hl, hh] at hp
    cases hp
    obtain ⟨p, xs, rfl, hq, hrr⟩ := ra
    refine sl_tupA pins s σ H _ v vl vu lo hi sl Q I rx hs pl pu ⟨p, xs, rfl, hq, fun hw => ?_, fun _ b hb => ?_⟩
    · refine q _ H (Grow.refl H) ⟨p, xs, rfl, hq, ?_⟩
      have e1 : cutL l lo hi = l := by
        rw [cutL_eq, ← hrr.length, hw.1, hw.2, hrr.length]
        simp
      rw [e1]; exact hrr
    · exact q _ _ (Grow.new hb) ⟨b, cutV xs lo hi, rfl, SqT.of upd_same, (hrr.cut lo hi).mono (Grow.new hb).ext _ _⟩
  · rename_i l l' h' e
    cases e
    rw [hl, hh] at hp
    cases hp
    obtain ⟨p, xs, rfl, hq, hrr⟩ := ra
    exact sl_list pins s σ H _ v vl vu lo hi sl Q I rx hs pl pu ⟨p, xs, rfl, .inl hq, fun b hb => q _ _ (Grow.new hb) ⟨b, cutV xs lo hi, rfl, hb, upd_same, (hrr.cut lo hi).mono (Grow.new hb).ext _ _⟩⟩
  · cases hp
end

/-! ### the readings of arguments, taken apart -/
section
variable {G : Gb} {X : Cx} {W : WX}
theorem rdAs_nil {σ : L2.St} {H : Hp} {Q : List V → Hp → Prop} (h : rdAs G W gNil σ H Q) : Q [] H := by
  obtain ⟨env, μ, st, he, hs, h⟩ := h
  exact h [] H μ (Go.refl μ H) hs .nil
theorem rdAs_cons {g : SemE} {gs : SemAs} {σ : L2.St} {H : Hp} {Q : List V → Hp → Prop} (h : rdAs G W (gCons g gs) σ H Q) : rdE G W g σ H fun v H1 => rdAs G W gs σ H1 fun vs H2 => Q (v :: vs) H2 := by
  obtain ⟨env, μ, st, he, hst, h⟩ := h
  refine ⟨env, μ, st, he, hst, (Pst.bind (R := RA G) h).mono fun v H1 ⟨a, μ1, st1, g1, s1, r1, p1⟩ => ?_⟩
  refine ⟨env, μ1, st1, he.mono g1, s1, (Pst.bind (R := RAs G) p1).mono fun vs H2 ⟨as, μ2, st2, g2, s2, r2, p2⟩ => ?_⟩
  exact p2 (v :: vs) H2 μ2 (Go.refl _ _) s2 (.cons (r1.mono g2) r2)
theorem rdE.mono {g : SemE} {σ : L2.St} {H : Hp} {Q Q' : VK} (h : rdE G W g σ H Q) (k : ∀ v H', Q v H' → Q' v H') : rdE G W g σ H Q' := by
  obtain ⟨env, μ, st, he, hst, h⟩ := h
  exact ⟨env, μ, st, he, hst, h.mono k⟩
theorem rdAs_two {g1 g2 : SemE} {σ : L2.St} {H : Hp} {Q : List V → Hp → Prop} (h : rdAs G W (gCons g1 (gCons g2 gNil)) σ H Q) : rdE G W g1 σ H fun x H1 => rdE G W g2 σ H1 fun y H2 => Q [x, y] H2 :=
  (rdAs_cons h).mono fun _ _ h1 => (rdAs_cons h1).mono fun _ _ h2 => rdAs_nil h2
theorem rdAs_one {g1 : SemE} {σ : L2.St} {H : Hp} {Q : List V → Hp → Prop} (h : rdAs G W (gCons g1 gNil) σ H Q) : rdE G W g1 σ H fun x H1 => Q [x] H1 :=
  (rdAs_cons h).mono fun _ _ h1 => rdAs_nil h1
theorem rdOp {p : Prim} {gs : SemAs} {σ : L2.St} {H : Hp} {Q : VK} (h : rdE G W (gOp p gs) σ H Q) : rdAs G W gs σ H fun vs H1 => PrimV G.K p vs H1 Q := by
  obtain ⟨env, μ, st, he, hs, h⟩ := h
  exact ⟨env, μ, st, he, hs, (Pst.bind (R := RAs G) (Pst.settled hs.len h)).mono fun vs H1 ⟨as, μ1, st1, g1, s1, r1, p1⟩ => PrimV.of s1 r1 p1⟩

/-! ### operators -/
variable {a b c e : Expr} {es : List Expr} {ga gb gc g : SemE} {gs : SemAs} {pos p p2 apos : Pos} {x : Str}
theorem de_bin {op : Operator} {pr : Prim} (ho : OpR X (binaryOp op) (rP2 G.K pr)) (ha : DE G X W a ga) (hb : DE G X W b gb) : DE G X W (.BinOp a op b pos) (gOp pr (gCons ga (gCons gb gNil))) :=
  PE.weak (pe_op ho ha hb) fun _ _ _ h => rdAs_two (rdOp h)
theorem de_cmp {op : CmpOp} {pr : Prim} (ho : OpR X (compareOp op) (rP2 G.K pr)) (ha : DE G X W a ga) (hb : DE G X W b gb) (hm : behindInMarks op b = false) : DE G X W (.Compare a [op] [b] pos) (gOp pr (gCons ga (gCons gb gNil))) :=
  PE.weak (pe_cmpR ho ha hb hm) fun _ _ _ h => rdAs_two (rdOp h)
theorem de_neg (hK : G.K = X.K) (ha : DE G X W a ga) : DE G X W (.UnaryOp .USub a pos) (gOp pNeg (gCons ga gNil)) :=
  PE.weak (pe_un un_pNeg ha) fun _ _ _ h => by rw [← hK]; exact rdAs_one (rdOp h)
theorem de_callB {id : String} {pr : Prim} (hc : CallR X (.builtin id) (PrimV G.K pr)) (hg : Gl X x) (hm : X.mg x = none) (hv : bootBuiltins x = some (.builtin id)) (ha : DAs G X W (e :: es) gs) (hn : x ≠ "__name__") (hdb : (x == ("__debug__" : Str)) = false)
    (he : starEach (e :: es) X.env = (false, eval e X.env) :: starEach es X.env) (hpl : (backTo pos (starEach es X.env)).any (·.1) = false) : DE G X W (.Call (.Name x p) (e :: es) [] pos) (gOp pr gs) :=
  PE.weak (pe_callB hc hg hm hv ha hn hdb he hpl) fun _ _ _ h => rdOp h
theorem de_callTy {T : String} {pr : Prim} (hc : CallR X (.type T) (PrimV G.K pr)) (hg : Gl X x) (hm : X.mg x = none) (hv : bootBuiltins x = some (.type T)) (ha : DAs G X W (e :: es) gs) (hn : x ≠ "__name__") (hdb : (x == ("__debug__" : Str)) = false)
    (he : starEach (e :: es) X.env = (false, eval e X.env) :: starEach es X.env) (hpl : (backTo pos (starEach es X.env)).any (·.1) = false) : DE G X W (.Call (.Name x p) (e :: es) [] pos) (gOp pr gs) :=
  PE.weak (pe_callTy hc hg hm hv ha hn hdb he hpl) fun _ _ _ h => rdOp h
theorem de_isi {t : Ty} {y : Str} (hK : G.K = X.K) (hg : Gl X "isinstance") (hm : X.mg "isinstance" = none) (hgy : Gl X y) (hmy : X.mg y = none) (hvy : bootBuiltins y = some (.type t.nm)) (ha : DE G X W a ga)
    (hny : y ≠ "__name__") (hdy : (y == ("__debug__" : Str)) = false) (he : starEach (a :: [.Name y p2]) X.env = (false, eval a X.env) :: starEach [.Name y p2] X.env) :
    DE G X W (.Call (.Name "isinstance" p) [a, .Name y p2] [] pos) (gOp (pIsi t) (gCons ga gNil)) :=
  PE.weak (pe_callB call_isi hg hm (by decide +kernel) (pa_cons ha (pa_cons (pe_bltn (v := .ty t.nm) hgy hmy hvy rfl hny hdy) pa_nil) he) (by decide) (by decide) he rfl) fun σ H Q h =>
    (rdAs_one (rdOp h)).mono fun v H1 h1 => isi_ok (by rw [← hK]; exact h1)
theorem de_ix (hK : G.K = X.K) (ha : DE G X W a ga) (hb : DE G X W b gb) (hs : PlainIx b) : DE G X W (.Subscript a b pos) (gOp pIx (gCons ga (gCons gb gNil))) :=
  PE.weak (pe_ix ix_pIx ha hb hs) fun _ _ _ h => by rw [← hK]; exact rdAs_two (rdOp h)
/-- a slice's part -/
def vOf : Option Int → V
  | none => .non
  | some i => .int i
structure DPart (G : Gb) (X : Cx) (W : WX) (o : Option Expr) (g : SemE) (t : TO) : Prop where
  po : PO X o t
  rd : ∀ (σ : L2.St) (H : Hp) (Q : Option Int → Hp → Prop), rdE G W g σ H (fun v H1 => ∀ i, vOf i = v → Q i H1) → t σ H Q
theorem dpart_no : DPart G X W none (gCon .non) tNoPart := ⟨po_none, fun σ H Q h => by
  obtain ⟨env, μ, st, he, hs, h⟩ := h
  exact h .non H μ (Go.refl μ H) hs rfl none rfl⟩
theorem rdInt {σ : L2.St} {H : Hp} {Q : VK} (h : rdE G W (gInt g) σ H Q) : rdE G W g σ H fun v H1 => ∃ i, v = .int i ∧ Q v H1 := by
  obtain ⟨env, μ, st, he, hs, h⟩ := h
  refine ⟨env, μ, st, he, hs, (Pst.bind (R := RA G) h).mono fun v H1 ⟨a, μ1, st1, g1, s1, r1, p1⟩ => ?_⟩
  split at p1
  · rename_i i
    exact ⟨i, r1, p1 v H1 μ1 (Go.refl _ _) s1 r1⟩
  · exact p1.elim
theorem dpart_some (h : DE G X W e g) : DPart G X W (some e) (gInt g) (tPart (rdE G W g)) := ⟨po_some h, fun σ H Q q => (rdInt q).mono fun v H1 ⟨i, ev, k⟩ => ⟨i, ev, k (some i) (by rw [ev]; rfl)⟩⟩
theorem part_of {K : Fr} {H : Hp} {d : D} {i : Option Int} (h : RepN K H d (vOf i)) : part d = some i := by
  cases i with
  | none =>
    cases d with
    | non => rfl
    | bl b => exact nomatch (show V.non = V.bl b from h)
    | int b => exact nomatch (show V.non = V.int b from h)
    | str b => exact nomatch (show V.non = V.str ⟨b.toArray⟩ from h.1)
    | tup l => obtain ⟨a, xs, e, _⟩ := h; exact nomatch e
    | lst l => obtain ⟨a, xs, e, _⟩ := h; exact nomatch e
  | some j =>
    cases d with
    | non => exact nomatch (show V.int j = V.non from h)
    | bl b => exact nomatch (show V.int j = V.bl b from h)
    | int b => cases (show V.int j = V.int b from h); rfl
    | str b => exact nomatch (show V.int j = V.str ⟨b.toArray⟩ from h.1)
    | tup l => obtain ⟨a, xs, e, _⟩ := h; exact nomatch e
    | lst l => obtain ⟨a, xs, e, _⟩ := h; exact nomatch e
theorem de_sl {lo hi : Option Expr} {gl gh : SemE} {tl th : TO} (hK : G.K = X.K) (ha : DE G X W a ga) (hl : DPart G X W lo gl tl) (hh : DPart G X W hi gh th) :
    DE G X W (.Subscript a (.Slice lo hi none p2) pos) (gOp pSl (gCons ga (gCons gl (gCons gh gNil)))) :=
  PE.weak (pe_slice sl_pSl ha hl.po hh.po) fun σ H Q h => by
    refine (rdAs_cons (rdOp h)).mono fun x H1 h1 => ?_
    refine hl.rd σ H1 _ ((rdAs_cons h1).mono fun l H2 h2 i ei => ?_)
    refine hh.rd σ H2 _ ((rdAs_one h2).mono fun u H3 h3 j ej => ?_)
    subst ei ej
    obtain ⟨ds, res, hr, hp, q⟩ := h3
    cases hr with
    | cons r1 t1 =>
      cases t1 with
      | cons r2 t2 =>
        cases t2 with
        | cons r3 t3 =>
          cases t3
          exact ⟨_, _, _, res, by rw [← hK]; exact r1, part_of r2, part_of r3, hp, fun v H' gw rr => q v H' gw (by rw [hK]; exact rr)⟩
end
end PD
end

section
set_option Elab.async false
set_option linter.all false
set_option maxRecDepth 100000
set_option maxHeartbeats 4000000
/-! PD7: rules for expressions, further: reversed slices, join, displays, tests, bools, calls. -/
namespace PD
open PySem PySem.Spec PyProof.Rows L2

/-! ### t[::-1] -/
theorem fm_congr {α β : Type} {f g : α → Option β} : ∀ {l : List α}, (∀ k ∈ l, f k = g k) → l.filterMap f = l.filterMap g
  | [], _ => rfl
  | x :: l, h => by rw [List.filterMap_cons, List.filterMap_cons, h x List.mem_cons_self, fm_congr fun k hk => h k (List.mem_cons_of_mem _ hk)]
theorem rev_run (xs : Array Value) : (List.range xs.size).filterMap (fun (k : Nat) => xs[(((xs.size : Nat) : Int) - 1 + (k : Int) * (-1)).toNat]?) = xs.toList.reverse := by
  have key : ∀ (l : List Value), (List.range l.length).filterMap (fun (k : Nat) => l[l.length - 1 - k]?) = l.reverse := by
    intro l
    have e : (List.range l.length).filterMap (fun (k : Nat) => l[l.length - 1 - k]?) = (List.range l.length).map (fun k => l.reverse.getD k default) := by
      rw [← List.filterMap_eq_map]
      apply fm_congr
      intro k hk
      have hk' := List.mem_range.mp hk
      have h1 : l.length - 1 - k < l.length := by omega
      have h2 : k < l.reverse.length := by rw [List.length_reverse]; exact hk'
      rw [List.getElem?_eq_getElem h1]
      simp only [Function.comp, List.getD_eq_getElem?_getD, List.getElem?_eq_getElem h2, Option.getD_some]
      rw [List.getElem_reverse]
    rw [e]
    apply List.ext_getElem
    · simp
    · intro i h1 h2
      simp only [List.getElem_map, List.getElem_range, List.getD_eq_getElem?_getD, List.getElem?_eq_getElem h2, Option.getD_some]
  have h := key xs.toList
  rw [← h]
  rw [Array.length_toList]
  apply fm_congr
  intro k hk
  have hk' := List.mem_range.mp hk
  have e : (((xs.size : Nat) : Int) - 1 + (k : Int) * (-1)).toNat = xs.size - 1 - k := by omega
  rw [e]
  simp
section
variable {prog : Program} {w : World} {A : Around} {E : Value → Shared → Prop} {s : Shared}
theorem sliceApplied_rev {sl : Addr} {vk : Value} {n : Nat} {Q : Int × Int × Nat → Shared → Prop} (hs : s.heap.IsSliceOf sl .none .none vk) (pk : IsPart vk (some (-1)))
    (h : Q ((n : Int) - 1, -1, n) s) : wpAny (model prog w) A (Builtin.Slice.sliceApplied (.ref sl) (pure (n : Int))) Q E s := by
  obtain ⟨os, hos, hcs, hds⟩ := id hs
  unfold Builtin.Slice.sliceApplied Builtin.Slice.sliceFields
  refine wpAny_bind (wpAny_bind (wpAny_field hos hds (x := .none) rfl (wpAny_bind (wpAny_field hos hds (x := .none) rfl (wpAny_bind (wpAny_field hos hds (x := vk) rfl (wpAny_pure ?_)))))))
  refine wpAny_bind (HT.slicePart_ pk ?_)
  show wpAny _ _ (if ((-1 : Int) == 0) = true then _ else _) _ _ s
  rw [if_neg (by decide)]
  refine wpAny_bind (HT.slicePart_ .none (wpAny_bind (HT.slicePart_ .none (wpAny_bind (wpAny_pure ?_)))))
  show wpAny _ _ (match Builtin.Slice.sliceAdjust none none (-1) (n : Int) with | (lo, hi) => pure (lo, (-1 : Int), Builtin.Slice.slicePlaces lo hi (-1))) _ _ s
  have e1 : Builtin.Slice.sliceAdjust none none (-1) (n : Int) = ((n : Int) - 1, -1) := rfl
  have e2 : Builtin.Slice.slicePlaces ((n : Int) - 1) (-1) (-1) = n := by
    unfold Builtin.Slice.slicePlaces
    rw [if_neg (by omega)]
    by_cases hn : n = 0
    · subst hn; rfl
    · rw [if_pos (by omega)]
      show (((n : Int) - 1 - -1 - 1) / 1 + 1).toNat = n
      rw [Int.ediv_one]; omega
  rw [e1]
  dsimp only
  rw [e2]
  exact wpAny_pure h
theorem getItem_tuple_rev {t sl : Addr} {items : Array Value} {vk : Value} {Q : Value → Shared → Prop} (ht : IsTup s.heap t items) (hs : s.heap.IsSliceOf sl .none .none vk) (pk : IsPart vk (some (-1)))
    (h : Q (.ref s.heap.objs.size) { s with heap := s.heap.push { cls := .type "tuple", data := .seq items.toList.reverse.toArray } })
    (hsz : items.size ≤ sizeLine) : wpAny (model prog w) A (getItem (.ref t) (.ref sl)) Q E s := by
  have htake : sizeOk (.seq items.toList.reverse.toArray) := by
    show (items.toList.reverse.toArray).size ≤ sizeLine
    simpa using hsz
  obtain ⟨os, hos, hcs, hds⟩ := id hs
  have hTs : s.TypeIs (.ref sl) "slice" := ⟨os, hos, hcs⟩
  unfold getItem
  try with_reducible refine wpAny_holding ?_
  first | refine wpAny_bind (wpAny_pure ?_) | skip
  refine wpAny_bind (wpAny_sequenceKey ht.typeIs (by decide) ?_)
  refine wpAny_bind (wpAny_callSpecial?_slot (name := Str.ofString "__getitem__") ht.typeIs PyProof.Rows.slot_tuple_getitem
    (wpAny_call_entry PyProof.Rows.slot_tuple_getitem ht.typeIs entry_tuple_getitem ?_ (args_tuple_getitem _ _)))
  show wpAny _ _ (Builtin.Tuple.tupleItemsOf (.ref t) >>= _) _ _ s
  refine wpAny_bind (tupleItemsOf_ ht ?_)
  refine wpAny_bind (wpAny_typeOf hTs ?_)
  rw [if_pos (by decide)]
  refine wpAny_bind (sliceApplied_rev hs pk ?_)
  have hno : ¬ ((((items.size : Nat) : Int) - 1 == 0 && (-1 : Int) == 1 && items.size == items.size) = true) := by
    intro q
    rw [Bool.and_eq_true, Bool.and_eq_true] at q
    exact absurd (eq_of_beq q.1.2) (by decide)
  show wpAny _ _ (if (((items.size : Nat) : Int) - 1 == 0 && (-1 : Int) == 1 && items.size == items.size) = true then _ else _) _ _ s
  rw [if_neg hno, rev_run]
  first
    | exact wpAny_bind (m := Builtin.Tuple.tupleExact _) (wpAny_newObj_type (wpAny_pure ⟨_, rfl, wpAny_pure h⟩) htake)
    | exact wpAny_bind (m := Builtin.Tuple.tupleExact _) (wpAny_newObj_type (wpAny_bind (wpAny_pure (wpAny_pure ⟨_, rfl, wpAny_pure h⟩))) htake)
    | exact wpAny_bind (wpAny_bind (m := Builtin.Tuple.tupleExact _) (wpAny_newObj_type (wpAny_pure (wpAny_pure ⟨_, rfl, wpAny_pure h⟩)) htake))
end
section
variable {X : Cx}
def tRev (K : Fr) (te : TE) : TE := fun σ H Q => te σ H fun x H1 => ∃ a xs, x = .ref a ∧
  ((Rd H1 a (.lst xs) ∧ ∀ p, H1 p = none → Q (.ref p) (upd H1 p (.lst xs.reverse))) ∨ (SqT K H1 a xs ∧ ∀ p, H1 p = none → Q (.ref p) (upd H1 p (.tup xs.reverse))))
theorem pe_rev {e : Expr} {te : TE} {k : Nat} {p1 p2 p3 pos : Pos} (he : PE X e te) : PE X (.Subscript e (.Slice none none (some (.UnaryOp .USub (.Constant (.int 1) k p1) p2)) p3) pos) (tRev X.K te) := by
  refine ⟨fun pins s σ H Q I h => ?_⟩
  refine Subscript_ (thn (he.run pins s σ H _ I h) fun v s1 ⟨x, H1, I1, r1, q1⟩ => ?_)
  obtain ⟨a, xs, ex, q⟩ := q1
  subst ex
  cases r1
  have hst : PO X (some (.UnaryOp .USub (.Constant (.int 1) k p1) p2)) (tPart (tUn (rU fun i => .int (-i)) (tC (.int 1)))) := po_some (pe_un un_neg pe_int)
  refine wpAny_Slice (thn (po_none.run pins s1 σ H1 (fun o H2 => o = none ∧ H2 = H1) I1 ⟨rfl, rfl⟩) fun vl s2 ⟨l, H2, I2, pl, el, e2⟩ => ?_)
  subst el e2
  refine thn (po_none.run pins s2 σ H2 (fun o H3 => o = none ∧ H3 = H2) I2 ⟨rfl, rfl⟩) fun vu s3 ⟨u, H3, I3, pu, eu, e3⟩ => ?_
  subst eu e3
  refine thn (hst.run pins s3 σ H3 (fun o H4 => o = some (-1) ∧ H4 = H3) I3 ⟨1, rfl, -1, rfl, rfl, rfl⟩) fun vs s4 ⟨o, H4, I4, ps, eo, e4⟩ => ?_
  subst eo e4
  have I5 : Inv X pins σ H4 { s4 with heap := s4.heap.push { cls := .type "slice", data := .fields #[vl, vu, vs] } } := I4.kept (t' := s4.toks) fun b ob q => Heap.get?_push_of_some _ q
  show wpAny (model X.prog X.w) X.A (subscriptTail e (.Slice none none (some (.UnaryOp .USub (.Constant (.int 1) k p1) p2)) p3) (.ref a) (.ref s4.heap.objs.size)) (EP X pins σ Q) X.xe { s4 with heap := s4.heap.push { cls := .type "slice", data := .fields #[vl, vu, vs] } }
  rcases q with ⟨hx, q⟩ | ⟨hx, q⟩
  · obtain ⟨its, r, ht, hz⟩ := I5.list (.inl hx)
    have hlen := r.length
    refine tail_any (ops := [.ref a, .ref s4.heap.objs.size]) ht.isList.typeIs (PySem.slot_list_getitem.lookup) ?_ (by with_unfolding_all rfl)
    refine wpAny_getItem_list_slice ht.isList (Heap.IsSliceOf.new _ vl vu vs) pl pu ps (by decide) ?_ (by rw [List.size_toArray]; omega)
    rw [PySem.W.krv_pick]
    refine ⟨.ref _, _, I5.laid (t' := s4.toks) (o := .lst xs.reverse) (fun b ob q => Heap.get?_push_of_some _ q) (Nat.le_refl _) ?_, rfl, q _ (I5.hok.fresh (Nat.le_refl _))⟩
    exact ⟨by rw [List.length_reverse]; exact hz, _, 0, r.reverse, Heap.get?_push_size _ rfl⟩
  · obtain ⟨its, r, ht, hz⟩ := I5.tuple hx
    have hlen := r.length
    cases pl
    cases pu
    refine tail_any (ops := [.ref a, .ref s4.heap.objs.size]) ht.typeIs (PyProof.Rows.slot_tuple_getitem.lookup) ?_ (by with_unfolding_all rfl)
    refine getItem_tuple_rev ht (Heap.IsSliceOf.new _ .none .none vs) ps ?_ (by rw [List.size_toArray]; omega)
    refine ⟨.ref _, _, I5.laid (t' := s4.toks) (o := .tup xs.reverse) (fun b ob q => Heap.get?_push_of_some _ q) (Nat.le_refl _) ?_, rfl, q _ (I5.hok.fresh (Nat.le_refl _))⟩
    refine ⟨by rw [List.length_reverse]; exact hz, its.reverse, r.reverse, ?_⟩
    exact ⟨_, Heap.get?_push_size _ rfl, rfl, _, rfl⟩
end
section
variable {G : Gb} {X : Cx} {W : WX} {a b c e : Expr} {es : List Expr} {ga gb gc g : SemE} {gs : SemAs} {pos p p2 p3 apos : Pos} {x : Str}
theorem de_rev {k : Nat} (hK : G.K = X.K) (ha : DE G X W a ga) : DE G X W (.Subscript a (.Slice none none (some (.UnaryOp .USub (.Constant (.int 1) k p) p2)) p3) pos) (gOp pRev (gCons ga gNil)) :=
  PE.weak (pe_rev ha) fun σ H Q h => (rdAs_one (rdOp h)).mono fun v H1 ⟨ds, res, hr, hp, q⟩ => by
    obtain ⟨d, rfl, ra⟩ := hr.one
    unfold pRev at hp
    split at hp
    · rename_i l e
      cases e; cases hp
      obtain ⟨c, xs, rfl, hs, hrr⟩ := ra
      exact ⟨c, xs, rfl, .inr ⟨by rw [← hK]; exact hs, fun b hb => q _ _ (Grow.new hb) ⟨b, xs.reverse, rfl, SqT.of upd_same, hrr.reverse.mono (Grow.new hb).ext _ _⟩⟩⟩
    · rename_i l e
      cases e; cases hp
      obtain ⟨c, xs, rfl, hs, hrr⟩ := ra
      exact ⟨c, xs, rfl, .inl ⟨hs, fun b hb => q _ _ (Grow.new hb) ⟨b, xs.reverse, rfl, hb, upd_same, hrr.reverse.mono (Grow.new hb).ext _ _⟩⟩⟩
    · cases hp

/-! ### join -/
theorem sjoin_eq (sep : List Nat) : ∀ ts : List (List Nat), Str.join (mkS sep) (ts.map mkS) = mkS (joined sep ts)
  | [] => rfl
  | [x] => rfl
  | x :: y :: r => by
    have ih := sjoin_eq sep (y :: r)
    show mkS x ++ mkS sep ++ Str.join (mkS sep) ((y :: r).map mkS) = mkS (x ++ sep ++ joined sep (y :: r))
    rw [ih]
    unfold mkS
    rw [sapp, sapp]
theorem join_eq (sep : List Nat) (ts : List (List Nat)) : Txt.join (mkS sep) (ts.map mkS) = mkS (joined sep ts) := by
  rw [show Txt.join (mkS sep) (ts.map mkS) = Str.join (mkS sep) (ts.map mkS) from PySem.StrLaws.glued_eq_join _ _, sjoin_eq]
theorem joined_good {sep : List Nat} (hs : goodS sep = true) : ∀ {ts : List (List Nat)}, (∀ b ∈ ts, goodS b = true) → goodS (joined sep ts) = true
  | [], _ => rfl
  | [x], h => h x List.mem_cons_self
  | x :: y :: r, h => goodS_app (goodS_app (h x List.mem_cons_self) hs) (joined_good hs fun b hb => h b (List.mem_cons_of_mem _ hb))
theorem lens_eq (sep : List Nat) : ∀ ts : List (List Nat), ((ts.map mkS).map (·.length)).sum + (ts.map mkS).length * (mkS sep).length = lensOf sep ts
  | [] => by simp [lensOf]
  | x :: r => by
    have ih := lens_eq sep r
    simp only [List.map_cons, List.sum_cons, List.length_cons, List.length_map, lensOf] at ih ⊢
    have e1 : (mkS x).length = x.length := slen x
    have e2 : (mkS sep).length = sep.length := slen sep
    rw [e1, ← ih, Nat.succ_mul, e2]
    omega
theorem rdStr {σ : L2.St} {H : Hp} {Q : VK} (h : rdE G W (gStr g) σ H Q) : rdE G W g σ H fun v H1 => ∃ s : List Nat, v = .str ⟨s.toArray⟩ ∧ Q v H1 := by
  obtain ⟨env, μ, st, he, hs, h⟩ := h
  refine ⟨env, μ, st, he, hs, (Pst.bind (R := RA G) h).mono fun v H1 ⟨a, μ1, st1, g1, s1, r1, p1⟩ => ?_⟩
  split at p1
  · rename_i i
    exact ⟨i, (show RepD G.K H1 (.str i) v from r1).1, p1 v H1 μ1 (Go.refl _ _) s1 r1⟩
  · exact p1.elim
theorem de_join (hK : G.K = X.K) (ho : DE G X W a ga) (ha : DE G X W e g) (hs : starEach [e] X.env = [(false, eval e X.env)]) (hbase : attributeBase a "join" X.env (eval a X.env) = eval a X.env) (hline : (apos.endLine == pos.line) = true) :
    DE G X W (.Call (.Attribute a "join" apos) [e] [] pos) (gOp pJoin (gCons (gStr ga) (gCons g gNil))) :=
  PE.weak (pe_join ho ha hs hbase hline) fun σ H Q h => by
    refine (rdStr (rdAs_cons (rdOp h))).mono fun x H1 ⟨s, ex, h1⟩ => ⟨⟨_, ex⟩, (rdAs_one h1).mono fun y H2 h2 => ?_⟩
    obtain ⟨ds, res, hr, hp, q⟩ := h2
    obtain ⟨d1, d2, rfl, r1, r2⟩ := hr.two
    unfold pJoin at hp
    split at hp
    · rename_i sep l e
      cases e
      split at hp
      · rename_i ts et
        split at hp
        · rename_i hz
          cases hp
          obtain ⟨c, xs, rfl, hsq, hrr⟩ := r2
          obtain ⟨e1, e2⟩ := texts_rep et hrr
          subst e1
          refine ⟨mkS sep, c, ts.map mkS, r1.1, rfl, .inl (.inl hsq), ?_, ?_⟩
          · rw [lens_eq]; exact hz
          · rw [join_eq]; exact q _ H2 (Grow.refl H2) ⟨rfl, joined_good r1.2 e2⟩
        · cases hp
      · cases hp
    · rename_i sep l e
      cases e
      split at hp
      · rename_i ts et
        split at hp
        · rename_i hz
          cases hp
          obtain ⟨c, xs, rfl, hsq, hrr⟩ := r2
          obtain ⟨e1, e2⟩ := texts_rep et hrr
          subst e1
          refine ⟨mkS sep, c, ts.map mkS, r1.1, rfl, .inr (by rw [← hK]; exact hsq), ?_, ?_⟩
          · rw [lens_eq]; exact hz
          · rw [join_eq]; exact q _ H2 (Grow.refl H2) ⟨rfl, joined_good r1.2 e2⟩
        · cases hp
      · cases hp
    · cases hp

/-! ### displays -/
theorem de_tup {k : Nat} (h : DAs G X W es gs) : DE G X W (.Tuple es k pos) (gTup gs) :=
  PE.weak (pe_tup (PA.fz h)) fun σ H Q ⟨env, μ, st, he, hs, q⟩ => by
    refine ⟨env, μ, st, he, hs, (Pst.bind (R := RAs G) (Pst.settled hs.len q)).mono fun vs H1 ⟨as, μ1, st1, g1, s1, r1, p1⟩ => ?_⟩
    split at p1
    · exact p1.elim
    · rename_i ds s2 ef
      split at p1
      · rename_i hz
        refine (freezeAll_goal s1 r1 ef).mono fun H2 ⟨t2, rd, g2⟩ => ⟨by rw [rd.length, ← lid]; exact hz, fun b hb => ?_⟩
        exact p1 _ _ μ1 (g2.trans ((Grow.new hb).go μ1)) (t2.grow (Grow.new hb)) ⟨b, vs, rfl, SqT.of upd_same, rd.mono (Grow.new hb).ext _ _⟩
      · exact p1.elim
theorem de_lst (h : DAs G X W es gs) : DE G X W (.List es pos) (gLst gs) :=
  PE.weak (pe_lst (PA.fz h)) fun σ H Q ⟨env, μ, st, he, hs, q⟩ => by
    refine ⟨env, μ, st, he, hs, (Pst.bind (R := RAs G) (Pst.settled hs.len q)).mono fun vs H1 ⟨as, μ1, st1, g1, s1, r1, p1⟩ => ?_⟩
    split at p1
    · exact p1.elim
    · rename_i ds s2 ef
      split at p1
      · rename_i hz
        refine (freezeAll_goal s1 r1 ef).mono fun H2 ⟨t2, rd, g2⟩ => ⟨by rw [rd.length, ← lid]; exact hz, fun b hb => ?_⟩
        refine p1 _ _ (μ1 ++ [b]) (g2.trans (Go.more (Grow.new hb) hb)) (t2.more (Grow.new hb) hb ⟨vs, upd_same, rd.mono (Grow.new hb).ext _ _⟩) ⟨b, rfl, ?_⟩
        rw [← t2.len, List.getElem?_append_right (Nat.le_refl _), Nat.sub_self]; rfl
      · exact p1.elim

/-! ### tests -/
/-- as Pst.bind, the base kept -/
theorem Pst.bindB {σ : L2.St} {μ : List Addr} {H : Hp} {α β γ δ : Type} {R : RP α β} {R2 : RP γ δ} {o : Out α} {f : α → Store → Out γ} {Q : δ → Hp → Prop} (h : Pst G W σ μ H R2 (o.bind f) Q) :
    Pst G W σ μ H R o (fun v H1 => ∃ a μ1 st1, Go μ H μ1 H1 ∧ StOk G.K H1 μ1 st1 ∧ R μ1 H1 a v ∧ Pst G W σ μ H R2 (f a st1) Q) := by
  cases o with
  | ok a st => exact fun v H' μ' g s r => ⟨a, μ', st, g, s, r, h⟩
  | exn e st => exact h
  | bad => exact h
theorem tru_of {K : Fr} {H : Hp} {d : D} {v : V} (h : RepN K H d v) (hl : okLen d = true) : TruV K v H d.truth := by
  cases d with
  | non => cases (show v = V.non from h); rfl
  | bl b => cases (show v = V.bl b from h); rfl
  | int i => cases (show v = V.int i from h); rfl
  | str s =>
    cases (show v = V.str ⟨s.toArray⟩ from h.1)
    have hz : s.length ≤ LID := of_decide_eq_true hl
    refine ⟨by rw [slen, ← lid]; exact hz, ?_⟩
    rw [slen]
    cases s with
    | nil => rfl
    | cons c r =>
      show true = _
      simp
      omega
  | tup l =>
    obtain ⟨a, xs, rfl, hs, hr⟩ := h
    refine .inr (.inl ⟨xs, hs, ?_⟩)
    cases l with
    | nil => cases hr; rfl
    | cons d r => obtain ⟨v, w, rfl, _⟩ := hr; rfl
  | lst l =>
    obtain ⟨a, xs, rfl, hs, hr⟩ := h
    refine .inl ⟨xs, .inl hs, ?_⟩
    cases l with
    | nil => cases hr; rfl
    | cons d r => obtain ⟨v, w, rfl, _⟩ := hr; rfl
theorem rdTru {σ : L2.St} {H : Hp} {Q : Bool → Hp → Prop} (h : rdT G W (tVal g) σ H Q) : rdE G W g σ H fun v H1 => ∃ k, TruV G.K v H1 k ∧ Q k H1 := by
  obtain ⟨env, μ, st, he, hs, h⟩ := h
  refine ⟨env, μ, st, he, hs, (Pst.bindB (R := RA G) h).mono fun v H1 ⟨a, μ1, st1, g1, s1, r1, p1⟩ => ?_⟩
  split at p1
  · rename_i d ed
    split at p1
    · rename_i hl
      have t := s1.take μ.length
      rw [g1.takeEq] at t
      exact ⟨d.truth, tru_of (now_rep s1 r1 ed) hl, p1 _ H1 μ g1.forget (by rw [← hs.len]; exact t) rfl⟩
    · exact p1.elim
  · exact p1.elim
theorem dt_val (hK : G.K = X.K) (ha : DE G X W a ga) (he : ∀ whole, isTrue a X.env whole = (do let v ← whole; standAt a.pos; holding [v] (truthy v))) : DT G X W a (tVal ga) :=
  PT.weak (pt_truth ha he) fun σ H Q h => by rw [← hK]; exact rdTru h
/-- a comparison gives a truth value -/
theorem dt_cmp {op : CmpOp} {pr : Prim} (hb0 : ∀ ds r, pr ds = some r → ∃ k, r = .v (.bl k)) (ho : OpR X (compareOp op) (rP2 G.K pr)) (ha : DE G X W a ga) (hb : DE G X W b gb) (hm : behindInMarks op b = false) :
    DT G X W (.Compare a [op] [b] pos) (tVal (gOp pr (gCons ga (gCons gb gNil)))) :=
  PT.weak (pt_cmpR ho ha hb hm) fun σ H Q h => by
    refine (rdAs_two (rdOp (rdTru h))).mono fun x H1 h1 => h1.mono fun y H2 h2 => ?_
    obtain ⟨ds, res, hr, hp, q⟩ := h2
    obtain ⟨k, rfl⟩ := hb0 _ _ hp
    refine ⟨ds, _, hr, hp, fun v H' gw rr => ?_⟩
    obtain ⟨k', t, qk⟩ := q v H' gw rr
    have ev : v = V.bl k := rr
    subst ev
    exact ⟨k, rfl, by rw [← (show k' = k from t)]; exact qk⟩
theorem dw_and1 (ha : DT G X W a ta) : DW G X W (.BoolOp .And [a] pos) ta := pw_and1 ha
theorem dw_or1 (ha : DT G X W a ta) : DW G X W (.BoolOp .Or [a] pos) ta := pw_or1 ha
theorem rdT.mono {t : SemT} {σ : L2.St} {H : Hp} {Q Q' : Bool → Hp → Prop} (h : rdT G W t σ H Q) (k : ∀ v H', Q v H' → Q' v H') : rdT G W t σ H Q' := by
  obtain ⟨env, μ, st, he, hst, h⟩ := h
  exact ⟨env, μ, st, he, hst, h.mono k⟩
theorem dw_and {t u : SemT} (ha : DT G X W a t) (hb : DW G X W (.BoolOp .And (b :: es) pos) u) : DW G X W (.BoolOp .And (a :: b :: es) pos) (tAnd t u) :=
  PW.weak (pw_and ha hb) fun σ H Q ⟨env, μ, st, he, hs, h⟩ => by
    refine ⟨env, μ, st, he, hs, (Pst.bind (R := RB) h).mono fun v H1 ⟨x, μ1, st1, g1, s1, r1, p1⟩ => ?_⟩
    cases (show v = x from r1)
    cases v with
    | true => exact ⟨env, μ1, st1, he.mono g1, s1, p1⟩
    | false => exact p1 false H1 μ1 (Go.refl _ _) s1 rfl
theorem dw_or {t u : SemT} (ha : DT G X W a t) (hb : DW G X W (.BoolOp .Or (b :: es) pos) u) : DW G X W (.BoolOp .Or (a :: b :: es) pos) (tOr t u) :=
  PW.weak (pw_or ha hb) fun σ H Q ⟨env, μ, st, he, hs, h⟩ => by
    refine ⟨env, μ, st, he, hs, (Pst.bind (R := RB) h).mono fun v H1 ⟨x, μ1, st1, g1, s1, r1, p1⟩ => ?_⟩
    cases (show v = x from r1)
    cases v with
    | true => exact p1 true H1 μ1 (Go.refl _ _) s1 rfl
    | false => exact ⟨env, μ1, st1, he.mono g1, s1, p1⟩
theorem dt_not {t : SemT} (ha : DT G X W a t) : DT G X W (.UnaryOp .Not a pos) (tNot t) :=
  PT.weak (pt_not ha) fun σ H Q ⟨env, μ, st, he, hs, h⟩ => by
    refine ⟨env, μ, st, he, hs, (Pst.bind (R := RB) h).mono fun v H1 ⟨x, μ1, st1, g1, s1, r1, p1⟩ => ?_⟩
    cases (show v = x from r1)
    exact p1 _ H1 μ1 (Go.refl _ _) s1 rfl
/-! ### and, or, not as values -/
theorem de_one {op : BoolOp} (ha : DE G X W a ga) : DE G X W (.BoolOp op [a] pos) ga := pe_one ha
theorem de_and (ha : DE G X W a ga) (hb : DE G X W (.BoolOp .And (b :: es) pos) gb) : DE G X W (.BoolOp .And (a :: b :: es) pos) (gAnd ga gb) :=
  PE.weak (pe_and ha hb) fun σ H Q ⟨env, μ, st, he, hs, h⟩ => by
    refine ⟨env, μ, st, he, hs, (Pst.bind (R := RA G) h).mono fun v H1 ⟨x, μ1, st1, g1, s1, r1, p1⟩ => ?_⟩
    split at p1
    · exact ⟨true, r1, ⟨env, μ1, st1, he.mono g1, s1, p1⟩⟩
    · exact ⟨false, r1, p1 _ H1 μ1 (Go.refl _ _) s1 rfl⟩
    · exact p1.elim
theorem de_or (ha : DE G X W a ga) (hb : DE G X W (.BoolOp .Or (b :: es) pos) gb) : DE G X W (.BoolOp .Or (a :: b :: es) pos) (gOr ga gb) :=
  PE.weak (pe_or ha hb) fun σ H Q ⟨env, μ, st, he, hs, h⟩ => by
    refine ⟨env, μ, st, he, hs, (Pst.bind (R := RA G) h).mono fun v H1 ⟨x, μ1, st1, g1, s1, r1, p1⟩ => ?_⟩
    split at p1
    · exact ⟨true, r1, p1 _ H1 μ1 (Go.refl _ _) s1 rfl⟩
    · exact ⟨false, r1, ⟨env, μ1, st1, he.mono g1, s1, p1⟩⟩
    · exact p1.elim
theorem de_not (ha : DE G X W a ga) : DE G X W (.UnaryOp .Not a pos) (gNot ga) :=
  PE.weak (pe_not ha) fun σ H Q ⟨env, μ, st, he, hs, h⟩ => by
    refine ⟨env, μ, st, he, hs, (Pst.bind (R := RA G) h).mono fun v H1 ⟨x, μ1, st1, g1, s1, r1, p1⟩ => ?_⟩
    split at p1
    · rename_i k
      exact ⟨k, r1, p1 _ H1 μ1 (Go.refl _ _) s1 rfl⟩
    · exact p1.elim
theorem de_if {t : SemT} (hc : DT G X W c t) (ha : DE G X W a ga) (hb : DE G X W b gb) : DE G X W (.IfExp c a b pos) (gIf t ga gb) :=
  PE.weak (pe_ifExp hc ha hb) fun σ H Q ⟨env, μ, st, he, hs, h⟩ => by
    refine ⟨env, μ, st, he, hs, (Pst.bind (R := RB) h).mono fun v H1 ⟨x, μ1, st1, g1, s1, r1, p1⟩ => ?_⟩
    cases (show v = x from r1)
    cases v with
    | true => exact ⟨env, μ1, st1, he.mono g1, s1, p1⟩
    | false => exact ⟨env, μ1, st1, he.mono g1, s1, p1⟩
/-! ### chains -/
theorem PrimV.ofB {σ : L2.St} {μ : List Addr} {H : Hp} {st : Store} {pr : Prim} (hb0 : ∀ ds r, pr ds = some r → ∃ k, r = .v (.bl k)) {xs : List A} {vs : List V} (s : StOk G.K H μ st) (r : RAs G μ H xs vs) {f : A → Store → Out A} {Q : VK}
    (h : Pst G W σ μ H (RA G) ((opOn pr xs st).bind f) Q) : PrimV G.K pr vs H fun z H' => ∃ k, z = .bl k ∧ ∃ μ', Go μ H μ' H' ∧ StOk G.K H' μ' st ∧ Pst G W σ μ' H' (RA G) (f (.d (.bl k)) st) Q := by
  unfold opOn at h
  split at h
  · exact h.elim
  · rename_i ds h1
    split at h
    · exact h.elim
    · rename_i res h2
      obtain ⟨k, rfl⟩ := hb0 _ _ h2
      refine ⟨ds, _, nowAll_rep s r h1, h2, fun v H' g rr => ⟨k, rr, μ, g.go μ, s.grow g, ?_⟩⟩
      have h' : Pst G W σ μ H (RA G) (f (.d (.bl k)) st) Q := h
      exact h'.go (g.go μ)
theorem de_chain {op op' : CmpOp} {pr pr' : Prim} (hb0 : ∀ ds r, pr ds = some r → ∃ k, r = .v (.bl k)) (ho : OpR X (compareOp op) (rP2 G.K pr)) (ho' : OpR X (compareOp op') (rP2 G.K pr'))
    (ha : DE G X W a ga) (hb : DE G X W b gb) (hc : DE G X W c gc) (hm : lastMarks [op, op'] [b, c] = false) : DE G X W (.Compare a [op, op'] [b, c] pos) (gChain pr pr' ga gb gc) :=
  PE.weak (pe_chain ho ho' ha hb hc hm) fun σ H Q ⟨env, μ, st, he, hs, h⟩ => by
    refine ⟨env, μ, st, he, hs, (Pst.bind (R := RA G) (Pst.settled hs.len h)).mono fun x H1 ⟨xa, μ1, st1, g1, s1, r1, p1⟩ => ?_⟩
    refine ⟨env, μ1, st1, he.mono g1, s1, (Pst.bind (R := RA G) p1).mono fun y H2 ⟨ya, μ2, st2, g2, s2, r2, p2⟩ => ?_⟩
    obtain ⟨ds, res, hr, hp, q⟩ := PrimV.ofB hb0 s2 (.cons (r1.mono g2) (.cons r2 .nil)) p2
    refine ⟨ds, res, hr, hp, fun z H3 gw rr => ?_⟩
    obtain ⟨k, ez, μ3, g3, s3, p3⟩ := q z H3 gw rr
    refine ⟨k, ez, ?_⟩
    cases k with
    | true =>
      refine ⟨env, μ3, st2, ((he.mono g1).mono g2).mono g3, s3, (Pst.bind (R := RA G) p3).mono fun w H4 ⟨wa, μ4, st4, g4, s4, r4, p4⟩ => ?_⟩
      exact PrimV.of s4 (.cons ((RepA.mono g3 r2).mono g4) (.cons r4 .nil)) p4
    | false => exact p3 _ H3 μ3 (Go.refl _ _) s3 rfl
end
end PD
end

section
set_option Elab.async false
set_option linter.all false
set_option maxRecDepth 100000
set_option maxHeartbeats 4000000
/-! PD8: calls of the text's defs; statements. -/
namespace PD
open PySem PySem.Spec PyProof.Rows L2

section
variable {G : Gb} {X : Cx} {W : WX} {a b c e : Expr} {es : List Expr} {ga gb gc g : SemE} {gs : SemAs} {pos p p2 p3 apos : Pos} {x : Str}
/-! ### calls of defs -/
/-- what a def promises: its meaning f, of n arguments -/
def spF (G : Gb) (f : List A → Store → Out A) (n : Nat) : Sp := fun vs H Q E => ∃ μ st as, as.length = n ∧ StOk G.K H μ st ∧ RAs G μ H as vs ∧ Pst G (fun cls d _ H' => E cls d H') [] μ H (RA G) (f as st) Q
theorem spF_len {f : List A → Store → Out A} {n : Nat} {vs : List V} {H : Hp} {Q : VK} {E : XK} (h : spF G f n vs H Q E) : vs.length = n := by
  obtain ⟨μ, st, as, hl, _, r, _⟩ := h
  rw [← hl]
  exact (Paired.length r).symm
/-- the def numbered f keeps its promise, at level k -/
structure DefOk (G : Gb) (P : Program) (w : World) (K : Fr) (mg : Str → Option Value) (base : Heap) (k : Nat) (f : Nat) (F : List A → Store → Out A) : Prop where
  ex : ∃ (ad : Addr) (fd : FuncData) (ps : List Str), G.fa f = some ad ∧ PySem.W.keepIn K (.ref ad) = true ∧ Binds K fd ps [] ∧ FnOk P w K mg base (L2.CX P w) k ad fd ps (spF G F ps.length) ∧ ∀ as st, as.length ≠ ps.length → F as st = .bad
theorem Pst.rew {σ : L2.St} {μ : List Addr} {H : Hp} {α β : Type} {R : RP α β} {o : Out α} {Q : β → Hp → Prop} (h : Pst G W σ μ H R o Q) : Pst G (fun cls d _ H' => W cls d σ H') [] μ H R o Q := by
  cases o <;> exact h
theorem call_goes {F : List A → Store → Out A} {n : Nat} (hn : ∀ as st, as.length ≠ n → F as st = .bad) {σ : L2.St} {μ : List Addr} {H : Hp} {st : Store} {as : List A} {vs : List V} {Q : VK}
    (s : StOk G.K H μ st) (r : RAs G μ H as vs) (h : Pst G W σ μ H (RA G) (F as st) Q) : spF G F n vs H Q (WE W σ) := by
  refine ⟨μ, st, as, ?_, s, r, h.rew⟩
  by_cases e : as.length = n
  · exact e
  · rw [hn as st e] at h
    exact h.elim
theorem de_call {k f : Nat} {ad : Addr} {F : SemF} (d : DefOk G X.prog X.w X.K X.mg X.base k f (F f)) (hr : Room k X.A) (hg : Gl X x) (had : G.fa f = some ad) (hm : X.mg x = some (.ref ad)) (tk : Takes X W) (ha : DAs G X W (e :: es) gs)
    (hdb : (x == ("__debug__" : Str)) = false) (he : starEach (e :: es) X.env = (false, eval e X.env) :: starEach es X.env) (hpl : (backTo pos (starEach es X.env)).any (·.1) = false) : DE G X W (.Call (.Name x p) (e :: es) [] pos) (gCall F f gs) := by
  obtain ⟨ad', fd, ps, h1, hk, hb, hF, hn⟩ := d.ex
  rw [had] at h1; cases h1
  refine PE.weak (pe_callS hF hr hg hm hk hb (fun σ => passAt tk σ) ha hdb he hpl) fun σ H Q ⟨env, μ, st, hen, hs, h⟩ => ?_
  exact ⟨env, μ, st, hen, hs, (Pst.bind (R := RAs G) (Pst.settled hs.len h)).mono fun vs H1 ⟨as, μ1, st1, g1, s1, r1, p1⟩ => call_goes hn s1 r1 p1⟩
theorem pe_callS0 {CX : CXT} {k : Nat} {f : Addr} {fd : FuncData} {ps : List Str} {sp : Sp} {E : L2.St → XK} (F : FnOk X.prog X.w X.K X.mg X.base CX k f fd ps sp) (hr : Room k X.A) (hg : Gl X x) (hm : X.mg x = some (.ref f)) (hk : PySem.W.keepIn X.K (.ref f) = true) (hb : Binds X.K fd ps []) (hx : ∀ σ, PassesAt CX X σ (E σ))
    (hdb : (x == ("__debug__" : Str)) = false) : PE X (.Call (.Name x p) [] [] pos) (fun σ H Q => sp [] H Q (E σ)) := by
  refine ⟨fun pins s σ H Q I h => ?_⟩
  refine wpAny_Call_Name_kw (ld_glob I hg hm ?_ hdb)
  exact PySem.W.callWith_K0 I.kIn hk (run_fnS (us := []) F hr hb (hx σ) I .nil h)
theorem de_call0 {k f : Nat} {ad : Addr} {F : SemF} (d : DefOk G X.prog X.w X.K X.mg X.base k f (F f)) (hr : Room k X.A) (hg : Gl X x) (had : G.fa f = some ad) (hm : X.mg x = some (.ref ad)) (tk : Takes X W)
    (hdb : (x == ("__debug__" : Str)) = false) : DE G X W (.Call (.Name x p) [] [] pos) (gCall F f gNil) := by
  obtain ⟨ad', fd, ps, h1, hk, hb, hF, hn⟩ := d.ex
  rw [had] at h1; cases h1
  refine PE.weak (pe_callS0 hF hr hg hm hk hb (fun σ => passAt tk σ) hdb) fun σ H Q ⟨env, μ, st, hen, hs, h⟩ => ?_
  exact call_goes hn hs .nil (Pst.settled hs.len h)
/-- a call of a local name that holds a def -/
theorem pe_callLS {CX : CXT} {k i : Nat} {E : L2.St → XK} {t : TA} (hr : Room k X.A) (hN : X.N[i]? = some x) (hv : Vis X.env.scope x) (hx : ∀ σ, PassesAt CX X σ (E σ)) (ha : PA X (e :: es) t)
    (hdb : (x == ("__debug__" : Str)) = false) (hcd : (x == ("__classdict__" : Str)) = false)
    (he : starEach (e :: es) X.env = (false, eval e X.env) :: starEach es X.env) (hpl : (backTo pos (starEach es X.env)).any (·.1) = false) :
    PE X (.Call (.Name x p) (e :: es) [] pos) (fun σ H Q => ∃ f fd ps sp, σ[i]? = some (some (.ref f)) ∧ FnOk X.prog X.w X.K X.mg X.base CX k f fd ps sp ∧ PySem.W.keepIn X.K (.ref f) = true ∧ Binds X.K fd ps [] ∧ t σ H fun vs H1 => sp vs H1 Q (E σ)) := by
  refine ⟨fun pins s σ H Q I h => ?_⟩
  obtain ⟨f, fd, ps, sp, hs, hF, hk, hb, ht⟩ := h
  refine wpAny_Call_Name_kw (thn ((pe_var (pos := p) hN hv hdb hcd).run pins s σ H (fun v H1 => v = .ref f ∧ H1 = H) I ⟨.ref f, hs, rfl, rfl⟩) fun u s1 ⟨v, H1, I1, r1, q1⟩ => ?_)
  obtain ⟨rfl, rfl⟩ := q1
  cases r1
  refine PySem.W.callWith_K (h₀ := X.base) I.ok.mod.kin hk (thn (ha.run pos pins s1 σ _ _ I1 ht) fun us s2 ⟨vs, H2, I2, r, q⟩ => ⟨I2.kIn, ?_⟩) he hpl
  exact run_fnS hF hr hb (hx σ) I2 r q
theorem de_callV {k i : Nat} {F : SemF} (d : ∀ f ad, G.fa f = some ad → DefOk G X.prog X.w X.K X.mg X.base k f (F f)) (hr : Room k X.A) (hN : X.N[i]? = some x) (hv : Vis X.env.scope x) (tk : Takes X W) (ha : DAs G X W (e :: es) gs)
    (hdb : (x == ("__debug__" : Str)) = false) (hcd : (x == ("__classdict__" : Str)) = false)
    (he : starEach (e :: es) X.env = (false, eval e X.env) :: starEach es X.env) (hpl : (backTo pos (starEach es X.env)).any (·.1) = false) : DE G X W (.Call (.Name x p) (e :: es) [] pos) (gCallV F i gs) := by
  refine PE.weak (pe_callLS (CX := L2.CX X.prog X.w) (k := k) (i := i) (E := WE W) hr hN hv (fun σ => passAt tk σ) ha hdb hcd he hpl) fun σ H Q ⟨env, μ, st, hen, hs, h⟩ => ?_
  unfold gCallV at h
  split at h
  · rename_i f ef
    obtain ⟨v, ev, ad, rfl, had⟩ := hen.at_ i _ ef
    obtain ⟨ad', fd, ps, h1, hk, hb, hF, hn⟩ := (d f ad had).ex
    rw [had] at h1; cases h1
    exact ⟨ad, fd, ps, _, ev, hF, hk, hb, env, μ, st, hen, hs, (Pst.bind (R := RAs G) (Pst.settled hs.len h)).mono fun vs H1 ⟨as, μ1, st1, g1, s1, r1, p1⟩ => call_goes hn s1 r1 p1⟩
  · exact h.elim

/-! ### statements -/
def PstS (G : Gb) (W : WX) (D : Ends) (μ : List Addr) (H : Hp) (o : SO) : Prop :=
  match o with
  | .nx env st => ∀ σ H' μ', Go μ H μ' H' → StOk G.K H' μ' st → EnvOk G.K G.fa μ' H' env σ → D.nx σ H'
  | .rt a st => ∀ v H' μ', Go μ H μ' H' → StOk G.K H' μ' st → RepA G.K G.fa μ' H' a v → D.rt v H'
  | .bk env st => ∀ σ H' μ', Go μ H μ' H' → StOk G.K H' μ' st → EnvOk G.K G.fa μ' H' env σ → D.bk σ H'
  | .ct env st => ∀ σ H' μ', Go μ H μ' H' → StOk G.K H' μ' st → EnvOk G.K G.fa μ' H' env σ → D.ct σ H'
  | .ex e env st => ∀ cls d σ H' μ', Go μ H μ' H' → StOk G.K H' μ' st → EnvOk G.K G.fa μ' H' env σ → ExnOk G H' e cls d → W cls d σ H'
  | .bad => False
def rdS (G : Gb) (W : WX) (g : SemS) : TS := fun D σ H => ∃ env μ st, EnvOk G.K G.fa μ H env σ ∧ StOk G.K H μ st ∧ PstS G W D μ H (g env st)
abbrev DS (G : Gb) (X : Cx) (W : WX) (s : Stmt) (g : SemS) : Prop := PS X s (rdS G W g)
abbrev DSs (G : Gb) (X : Cx) (W : WX) (s : List Stmt) (g : SemS) : Prop := PSs X s (rdS G W g)
theorem PS.weak {s : Stmt} {t t' : TS} (h : PS X s t) (k : ∀ D σ H, t' D σ H → t D σ H) : PS X s t' := ⟨fun pins sh σ H D I q => h.run pins sh σ H D I (k D σ H q)⟩
theorem PSs.weak {s : List Stmt} {t t' : TS} (h : PSs X s t) (k : ∀ D σ H, t' D σ H → t D σ H) : PSs X s t' := ⟨fun pins sh σ H D I q => h.run pins sh σ H D I (k D σ H q)⟩
theorem PstS.go {D : Ends} {μ μ1 : List Addr} {H H1 : Hp} {o : SO} (h : PstS G W D μ H o) (g0 : Go μ H μ1 H1) : PstS G W D μ1 H1 o := by
  cases o with
  | nx env st => exact fun σ H' μ' g s r => h σ H' μ' (g0.trans g) s r
  | rt a st => exact fun σ H' μ' g s r => h σ H' μ' (g0.trans g) s r
  | bk env st => exact fun σ H' μ' g s r => h σ H' μ' (g0.trans g) s r
  | ct env st => exact fun σ H' μ' g s r => h σ H' μ' (g0.trans g) s r
  | ex e env st => exact fun c d σ H' μ' g s r x => h c d σ H' μ' (g0.trans g) s r x
  | bad => exact h
/-- an expression ahead of the rest: the base is kept -/
theorem PstS.expr {D : Ends} {σ : L2.St} {μ : List Addr} {H : Hp} {α β : Type} {R : RP α β} {env : Env} {o : Out α} {f : α → Store → SO} (he : EnvOk G.K G.fa μ H env σ) (h : PstS G W D μ H (o.toS env f)) :
    Pst G W σ μ H R o (fun v H1 => ∃ a μ1 st1, Go μ H μ1 H1 ∧ StOk G.K H1 μ1 st1 ∧ R μ1 H1 a v ∧ EnvOk G.K G.fa μ1 H1 env σ ∧ PstS G W D μ H (f a st1)) := by
  cases o with
  | ok a st => exact fun v H' μ' g s r => ⟨a, μ', st, g, s, r, he.mono g, h⟩
  | exn e st => exact fun c d H' μ' g s x => h c d σ H' μ' g s (he.mono g) x
  | bad => exact h
theorem ds_pass : DS G X W (.Pass pos) sNext := PS.weak ps_pass fun D σ H ⟨env, μ, st, he, hs, h⟩ => h σ H μ (Go.refl _ _) hs he
theorem ds_break : DS G X W (.Break pos) sBreak := PS.weak ps_break fun D σ H ⟨env, μ, st, he, hs, h⟩ => h σ H μ (Go.refl _ _) hs he
theorem ds_cont : DS G X W (.Continue pos) sCont := PS.weak ps_continue fun D σ H ⟨env, μ, st, he, hs, h⟩ => h σ H μ (Go.refl _ _) hs he
theorem ds_doc {z : Str} {j pos'} : DS G X W (.Expr (.Constant (.str z) j pos) pos') sNext := PS.weak ps_doc fun D σ H ⟨env, μ, st, he, hs, h⟩ => h σ H μ (Go.refl _ _) hs he
theorem dss_nil : DSs G X W [] sNext := PSs.weak pss_nil fun D σ H ⟨env, μ, st, he, hs, h⟩ => h σ H μ (Go.refl _ _) hs he
theorem dss_cons {s : Stmt} {r : List Stmt} {f g : SemS} (h1 : DS G X W s f) (h2 : DSs G X W r g) : DSs G X W (s :: r) (sSeq f g) :=
  PSs.weak (pss_cons h1 h2) fun D σ H ⟨env, μ, st, he, hs, h⟩ => by
    refine ⟨env, μ, st, he, hs, ?_⟩
    unfold sSeq at h
    split at h
    · rename_i env1 st1 e1
      rw [e1]
      exact fun σ' H' μ' gg s1 r1 => ⟨env1, μ', st1, r1, s1, h.go gg⟩
    · rename_i hne
      cases eo : f env st with
      | nx env1 st1 => exact absurd eo (hne _ _)
      | rt a st1 => rw [eo] at h; exact h
      | bk env1 st1 => rw [eo] at h; exact h
      | ct env1 st1 => rw [eo] at h; exact h
      | ex ee env1 st1 => rw [eo] at h; exact h
      | bad => rw [eo] at h; exact h
theorem ds_set {i : Nat} {x : Str} {pos' : Pos} (hN : X.N.Nodup) (hi : X.N[i]? = some x) (hx : Loc X.env.scope x) (ha : DE G X W e g) (hs : swapsWith e (some (.Name x pos')) pos.line X.env = pure false) (hf : X.fn x = true ∨ X.env.scope.names.lookup x = some .local) :
    DS G X W (.Assign [.Name x pos'] e pos) (sSet i g) :=
  PS.weak (ps_set hN hi hx ha hs hf) fun D σ H ⟨env, μ, st, he, hst, h⟩ => by
    refine ⟨env, μ, st, he, hst, (PstS.expr (R := RA G) he h).mono fun v H1 ⟨a, μ1, st1, g1, s1, r1, e1, p1⟩ => ?_⟩
    exact p1 _ H1 μ1 g1 s1 (e1.set r1)
theorem ds_expr (ha : DE G X W e g) (hs : swapsWith e none pos.line X.env = pure false) : DS G X W (.Expr e pos) (sExpr g) :=
  PS.weak (ps_expr ha hs) fun D σ H ⟨env, μ, st, he, hst, h⟩ => by
    refine ⟨env, μ, st, he, hst, (PstS.expr (R := RA G) he h).mono fun v H1 ⟨a, μ1, st1, g1, s1, r1, e1, p1⟩ => ?_⟩
    have t := s1.take μ.length
    rw [g1.takeEq] at t
    exact p1 σ H1 μ g1.forget (by rw [← hst.len]; exact t) (he.mono g1.forget)
theorem ds_ret (ha : DE G X W e g) : DS G X W (.Return (some e) pos) (sRet g) :=
  PS.weak (ps_ret ha) fun D σ H ⟨env, μ, st, he, hst, h⟩ => by
    refine ⟨env, μ, st, he, hst, (PstS.expr (R := RA G) he h).mono fun v H1 ⟨a, μ1, st1, g1, s1, r1, e1, p1⟩ => ?_⟩
    exact p1 v H1 μ1 g1 s1 r1
theorem ds_retN : DS G X W (.Return none pos) sRetN := PS.weak ps_retN fun D σ H ⟨env, μ, st, he, hs, h⟩ => h .non H μ (Go.refl _ _) hs rfl
theorem ds_if {t : SemT} {f h : SemS} {as bs : List Stmt} (hc : DT G X W c t) (ha : DSs G X W as f) (hb : DSs G X W bs h) : DS G X W (.If c as bs pos) (sIf t f h) :=
  PS.weak (ps_if hc ha hb) fun D σ H ⟨env, μ, st, he, hst, q⟩ => by
    refine ⟨env, μ, st, he, hst, (PstS.expr (R := RB) he q).mono fun v H1 ⟨x, μ1, st1, g1, s1, r1, e1, p1⟩ => ?_⟩
    cases (show v = x from r1)
    cases v with
    | true => exact ⟨env, μ1, st1, e1, s1, PstS.go p1 g1⟩
    | false => exact ⟨env, μ1, st1, e1, s1, PstS.go p1 g1⟩
/-! ### several names at once -/
theorem setAll_ok {μ : List Addr} {H : Hp} : ∀ {is : List Nat} {ds : List D} {env env' : Env} {vs : List V} {σ : L2.St}, setAll is ds env = some env' → RepDs G.K H ds vs → EnvOk G.K G.fa μ H env σ →
    vs.length = is.length ∧ EnvOk G.K G.fa μ H env' ((is.zip vs).foldl (fun σ iv => σ.set iv.1 (some iv.2)) σ)
  | [], [], _, _, _, _, h, r, he => by cases h; cases r; exact ⟨rfl, he⟩
  | i :: is, d :: ds, env, env', _, σ, h, r, he => by
    obtain ⟨v, w, rfl, r1, r2⟩ := r
    obtain ⟨l, e⟩ := setAll_ok (env := env.set i (some (.d d))) (σ := σ.set i (some v)) h r2 (he.set (a := .d d) r1)
    exact ⟨by rw [List.length_cons, List.length_cons, l], e⟩
  | [], _ :: _, _, _, _, _, h, _, _ => nomatch h
  | _ :: _, [], _, _, _, _, h, _, _ => nomatch h
/-- the targets of an unpacking: local names -/
inductive NamesAt (X : Cx) : List Expr → List Nat → Prop
  | nil : NamesAt X [] []
  | cons {x : Str} {p : Pos} {i : Nat} {es : List Expr} {is : List Nat} : X.N[i]? = some x → Loc X.env.scope x → (X.fn x = true ∨ X.env.scope.names.lookup x = some .local) → NamesAt X es is → NamesAt X (.Name x p :: es) (i :: is)
def gNames : List Nat → TGs
  | [] => gNil_
  | i :: is => gCons_ (gName i) (gNames is)
where
  gNil_ : TGs := L2.gNil
  gCons_ : TG → TGs → TGs := L2.gCons
theorem pgs_names (hN : X.N.Nodup) : ∀ {es : List Expr} {is : List Nat}, NamesAt X es is → PGs X es (gNames is) ∧ (assignEach es X.env).length = is.length ∧ (assignEach es X.env).findIdx? (·.1) = none
  | _, _, .nil => ⟨pgs_nil, rfl, rfl⟩
  | _, _, .cons (x := x) (p := p) h1 h2 h3 t => by
    obtain ⟨a1, a2, a3⟩ := pgs_names hN t
    refine ⟨pgs_cons (pg_name hN h1 h2 h3) a1 rfl, ?_, ?_⟩
    · show (assignEach _ X.env).length + 1 = _
      rw [a2]; rfl
    · show List.findIdx? _ ((false, _) :: assignEach _ X.env) = none
      rw [List.findIdx?_cons, a3]; rfl
theorem gNames_run : ∀ {is : List Nat} {vs : List V} {σ : L2.St} {H : Hp} {Q : L2.St → Hp → Prop}, vs.length = is.length → Q ((is.zip vs).foldl (fun σ iv => σ.set iv.1 (some iv.2)) σ) H → gNames is vs σ H Q
  | [], [], _, _, _, _, q => ⟨rfl, q⟩
  | i :: is, v :: vs, _, _, _, h, q => ⟨v, vs, rfl, gNames_run (by simpa using h) q⟩
  | [], _ :: _, _, _, _, h, _ => nomatch h
  | _ :: _, [], _, _, _, h, _ => nomatch h
/-- a, b, .. = a tuple or a list -/
def gSeq (K : Fr) (n : Nat) (t : TGs) : TG := fun v σ H Q => ∃ a xs, v = .ref a ∧ (SqT K H a xs ∨ SqL K H a xs) ∧ xs.length = n ∧ t xs σ H Q
theorem pg_seq {ts : List Expr} {k : Nat} {t : TGs} {n : Nat} (hc : X.calm = true) (h : PGs X ts t) (hn : (assignEach ts X.env).length = n) (hst : (assignEach ts X.env).findIdx? (·.1) = none) : PG X (.Tuple ts k pos) (gSeq X.K n t) := by
  refine ⟨fun pins s σ H v u Q I r hw => ?_⟩
  obtain ⟨a, xs, e1, hq, hl, hw⟩ := hw
  rcases hq with hq | hq
  · exact (pg_tup (n := n) hc h hn hst).run pins s σ H v u Q I r ⟨a, xs, e1, hq, hl, hw⟩
  · exact (pg_lst (n := n) hc h hn hst).run pins s σ H v u Q I r ⟨a, xs, e1, hq, hl, hw⟩
theorem ds_unpack {ts : List Expr} {is : List Nat} {k : Nat} (hK : G.K = X.K) (hc : X.calm = true) (hN : X.N.Nodup) (hns : NamesAt X ts is) (ha : DE G X W e g)
    (hs : swapsWithSole [.Tuple ts k p] e pos.line X.env = pure false) (hw : swappedStores [.Tuple ts k p] e X.env = pure none) : DS G X W (.Assign [.Tuple ts k p] e pos) (sUnpack is g) := by
  obtain ⟨a1, a2, a3⟩ := pgs_names hN hns
  refine PS.weak (ps_asg ha (pg_seq (n := is.length) hc a1 a2 a3) hs hw rfl) fun D σ H ⟨env, μ, st, he, hst, h⟩ => ?_
  refine ⟨env, μ, st, he, hst, (PstS.expr (R := RA G) he h).mono fun v H1 ⟨a, μ1, st1, g1, s1, r1, e1, p1⟩ => ?_⟩
  have t := s1.take μ.length
  rw [g1.takeEq] at t
  have e0 := he.mono g1.forget
  split at p1
  · rename_i l en
    split at p1
    · rename_i env1 es
      obtain ⟨b, xs, rfl, hq, hr⟩ := now_rep s1 r1 en
      obtain ⟨l1, l2⟩ := setAll_ok es hr e0
      exact ⟨b, xs, rfl, .inl (by rw [← hK]; exact hq), l1, gNames_run l1 (p1 _ H1 μ g1.forget (by rw [← hst.len]; exact t) l2)⟩
    · exact p1.elim
  · rename_i l en
    split at p1
    · rename_i env1 es
      obtain ⟨b, xs, rfl, hq, hr⟩ := now_rep s1 r1 en
      obtain ⟨l1, l2⟩ := setAll_ok es hr e0
      exact ⟨b, xs, rfl, .inr (.inl hq), l1, gNames_run l1 (p1 _ H1 μ g1.forget (by rw [← hst.len]; exact t) l2)⟩
    · exact p1.elim
  · exact p1.elim
end
end PD
end

section
set_option Elab.async false
set_option linter.all false
set_option maxRecDepth 100000
set_option maxHeartbeats 4000000
/-! PD9: what is walked. -/
namespace PD
open PySem PySem.Spec PyProof.Rows L2

mutual
theorem same_eq : ∀ (x y : D), D.same x y = true → x = y
  | .non, y, h => by cases y <;> first | rfl | (simp [D.same] at h)
  | .bl a, y, h => by cases y <;> simp [D.same] at h; rw [h]
  | .int a, y, h => by cases y <;> simp [D.same] at h; rw [h]
  | .str a, y, h => by cases y <;> simp [D.same] at h; rw [h]
  | .tup a, y, h => by
    cases y with
    | tup b => rw [sames_eq a b (by simpa [D.same] using h)]
    | _ => simp [D.same] at h
  | .lst a, y, h => by
    cases y with
    | lst b => rw [sames_eq a b (by simpa [D.same] using h)]
    | _ => simp [D.same] at h
theorem sames_eq : ∀ (x y : List D), D.sames x y = true → x = y
  | [], y, h => by cases y <;> first | rfl | (simp [D.sames] at h)
  | a :: x, y, h => by
    cases y with
    | nil => simp [D.sames] at h
    | cons b y =>
      simp only [D.sames, Bool.and_eq_true] at h
      rw [same_eq a b h.1, sames_eq x y h.2]
end

/-! ### enumerate(text), enumerate(tuple) -/
def Ites (z : Str) : It :=
  ⟨fun i _ => i < z.cps.size, fun i H v H' => ∃ T c, v = .ref T ∧ H T = none ∧ H' = upd H T (.tup [.int (i : Nat), .str ⟨#[c]⟩]) ∧ z.cps[i]? = some c, fun i _ => i = z.cps.size⟩
theorem turn_enumS {P : Program} {w : World} {K : PySem.W.Frag} {elts : List Expr} {kk : Nat} {tpos : Pos} (e it : Addr) (z : Str) (t : Tok) :
    Turn P w K (.Tuple elts kk tpos) (Ites z) [e, it] e (fun i h => (∃ old, IsEnum h e it ((i : Nat) : Int) old) ∧ h.IsStrIter it (strIterType z) z t i ∧ e ≠ it) where
  mem := by simp
  obj := fun i h st b hb => by
    obtain ⟨⟨old, he⟩, ⟨o, ho, hc, hd⟩, _⟩ := st
    have e' : b = e ∨ b = it := by simpa using hb
    rcases e' with z | z
    · rw [z]; exact ⟨_, he, fun v q => nomatch q⟩
    · rw [z]; exact ⟨o, ho, fun v q => by rw [hd] at q; cases q⟩
  keep := fun i h h' st k => let ⟨⟨old, he⟩, hi, hne⟩ := st; ⟨⟨old, k e (by simp) _ he⟩, let ⟨o, ho, r⟩ := hi; ⟨o, k it (by simp) o ho, r⟩, hne⟩
  item := by
    intro X hP hw hK hc i pins s σ H E I hf st hg
    subst hP hw hK
    obtain ⟨⟨old, he⟩, hit, hne⟩ := st
    have hel : e < s.heap.objs.size := Heap.lt_size he
    have hil : it < s.heap.objs.size := by obtain ⟨_, q, _⟩ := hit; exact Heap.lt_size q
    have D := Draws.text (prog := X.prog) (w := X.w) (A := X.A.in1) (I.ok.hd hc) it z t
    refine wpAny_pyNext_enum_itemD D he hit hg hne (by simpa using hne) fun u h' tk hu ho hit' hT hsz hk => ?_
    obtain ⟨c, uu, hcx, rfl⟩ := hu
    refine ⟨_, rfl, wpAny_letOwnedTupleGo_enum (s := { s with heap := h', toks := tk + 1 }) ho fun h'' he' sb => ?_⟩
    have hT2 : h''.get? s.heap.objs.size = some { cls := .type "tuple", data := .seq #[.int i tk, .str ⟨#[c]⟩ uu] } := (sb.2 _ (Nat.ne_of_gt hel)).trans hT
    have new : ObjOk X.prog X.w (upd H s.heap.objs.size (.tup [.int (i : Nat), .str ⟨#[c]⟩])) h'' s.heap.objs.size (.tup [.int (i : Nat), .str ⟨#[c]⟩]) :=
      ⟨by show 2 ≤ sizeLine; decide, [.int i tk, .str ⟨#[c]⟩ uu], .cons ⟨_, rfl⟩ (.cons ⟨_, rfl⟩ .nil), ⟨_, hT2, rfl, _, rfl⟩⟩
    have I1 : Inv X pins σ (upd H s.heap.objs.size (.tup [.int (i : Nat), .str ⟨#[c]⟩])) { s with heap := h'', toks := tk + 1 } :=
      I.turnedNew (ch := [e, it]) (fun b ob hb q => (sb.2 b (fun z => hb (by simp [z]))).trans (hk b ob (fun z => hb (by simp [z])) (fun z => hb (by simp [z])) q)) hf (Nat.le_refl _) new
    refine ⟨.ref s.heap.objs.size, _, I1, rfl, ⟨_, c, rfl, I.hok.fresh (Nat.le_refl _), rfl, hcx⟩, ⟨⟨.str ⟨#[c]⟩ uu, ?_⟩, ?_, hne⟩, fun b hb => ?_⟩
    · have e1 : ((i + 1 : Nat) : Int) = (i : Int) + 1 := by omega
      rw [e1]; exact he'
    · obtain ⟨o, ho2, r⟩ := hit'
      exact ⟨o, (sb.2 it (Ne.symm hne)).trans ho2, r⟩
    · have hb' : b < s.heap.objs.size := by
        have e' : b = e ∨ b = it := by simpa using hb
        rcases e' with z | z
        · rw [z]; exact hel
        · rw [z]; exact hil
      rw [upd_ne (Nat.ne_of_lt hb')]
      exact (hf b hb).1
  done := by
    intro X hP hw hK hc i pins s σ H E I hf st hg
    subst hP hw hK
    obtain ⟨⟨old, he⟩, hit, hne⟩ := st
    have D := Draws.text (prog := X.prog) (w := X.w) (A := X.A.in1) (I.ok.hd hc) it z t
    obtain ⟨f0, f1, f2, f3, f4, f5⟩ := hf it (by simp)
    have hg' : i = z.cps.size := hg
    subst hg'
    exact wpAny_pyNext_enum_endD D he hit fun h' eb => ⟨rfl, I.turned (t' := s.toks) (fun b o hb q => eb b o hb q) f0 f1 f3 f4 f5⟩
  self := fun A i s Q E st h => let ⟨⟨_, he⟩, _⟩ := st; wpAny_pyIter_enum he h
def iEnumS (ta : TA) : TI := fun σ H R => ta σ H fun vs H1 => ∃ z, vs = [.str z] ∧ R (Ites z) H1
theorem pi_enumS {X : Cx} {e : Expr} {ta : TA} {p pos tpos : Pos} {elts : List Expr} {kk : Nat} (hg : Gl X "enumerate") (hm : X.mg "enumerate" = none) (ha : PA X [e] ta) (hs : starEach [e] X.env = [(false, eval e X.env)]) :
    PI X (.Tuple elts kk tpos) (.Call (.Name "enumerate" p) [e] [] pos) (iEnumS ta) := by
  refine ⟨fun pins s σ H R I h => ?_⟩
  refine Call_ (ld_blt I hg hm boot_enumerate (PyProof.Rows.callWith_type1 (thn (ha.run pos pins s σ H _ I h) fun us s1 ⟨vs, H1, I1, r1, q1⟩ => ?_) hs rfl))
  obtain ⟨z, ex, q⟩ := q1
  subst ex
  cases r1 with
  | cons r rr =>
    cases rr
    obtain ⟨t, rfl⟩ := r
    refine call_enumerate_str fun h' he hit hsz hk => wpAny_pyIter_enum he ?_
    have I2 : Inv X pins σ H1 { s1 with heap := h' } := I1.kept (t' := s1.toks) hk
    refine ⟨s1.heap.objs.size + 1, [s1.heap.objs.size + 1, s1.heap.objs.size], _, _, H1, rfl, I2, turn_enumS (s1.heap.objs.size + 1) s1.heap.objs.size z t, ⟨⟨.none, he⟩, hit, Nat.succ_ne_self _⟩, fun b hb => ?_, q⟩
    have e' : b = s1.heap.objs.size + 1 ∨ b = s1.heap.objs.size := by simpa using hb
    have hle : s1.heap.objs.size ≤ b := by
      rcases e' with z | z
      · rw [z]; exact Nat.le_add_right _ _
      · rw [z]; exact Nat.le_refl _
    exact I1.fpOk hle (I1.hok.fresh hle)
/-- the tuple at a, each item in a new pair -/
def Itet (K : PySem.W.Frag) (a : Addr) : It :=
  ⟨fun i H => ∃ (xs : List V) (x : V), SqT K H a xs ∧ xs[i]? = some x, fun i H v H' => ∃ T x, v = .ref T ∧ H T = none ∧ H' = upd H T (.tup [.int (i : Nat), x]) ∧ ∀ xs, SqT K H a xs → xs[i]? = some x, fun i H => ∃ xs : List V, SqT K H a xs ∧ xs.length = i⟩
theorem turn_enumT {P : Program} {w : World} {K : PySem.W.Frag} {elts : List Expr} {kk : Nat} {tpos : Pos} (a e it : Addr) :
    Turn P w K (.Tuple elts kk tpos) (Itet K a) [e, it] e (fun i h => (∃ old, IsEnum h e it ((i : Nat) : Int) old) ∧ h.IsTupleIter it a i ∧ e ≠ it) where
  mem := by simp
  obj := fun i h st b hb => by
    obtain ⟨⟨old, he⟩, ⟨o, ho, hc, hd⟩, _⟩ := st
    have e' : b = e ∨ b = it := by simpa using hb
    rcases e' with z | z
    · rw [z]; exact ⟨_, he, fun v q => nomatch q⟩
    · rw [z]; exact ⟨o, ho, fun v q => by rw [hd] at q; cases q⟩
  keep := fun i h h' st k => let ⟨⟨old, he⟩, hi, hne⟩ := st; ⟨⟨old, k e (by simp) _ he⟩, hi.at fun o q => k it (by simp) o q, hne⟩
  item := by
    intro X hP hw hK hc i pins s σ H E I hf st hg
    subst hP hw hK
    obtain ⟨⟨old, he⟩, hit, hne⟩ := st
    obtain ⟨xs, x, hq, hx⟩ := hg
    obtain ⟨its, rv, p, hz⟩ := I.tuple hq
    obtain ⟨u, hu, ru⟩ := rv.get hx
    have hel : e < s.heap.objs.size := Heap.lt_size he
    have hil : it < s.heap.objs.size := by obtain ⟨_, q, _⟩ := hit; exact Heap.lt_size q
    have ht : s.heap.IsTuple a its.toArray := p
    have hea : e ≠ a := by
      rintro rfl
      obtain ⟨o, ho, hc', _⟩ := ht
      rw [he] at ho; cases ho; exact absurd (show Value.type "enumerate" = Value.type "tuple" from hc') (by decide)
    have hai : a ≠ it := by
      rintro rfl
      obtain ⟨o, ho, hc', _⟩ := ht
      obtain ⟨o2, ho2, hc2, _⟩ := hit
      rw [ho] at ho2; cases ho2; rw [hc'] at hc2; exact absurd hc2 (by decide)
    have D := Draws.tuple (prog := X.prog) (w := X.w) (A := X.A.in1) (I.ok.hd hc) it a hai its.toArray
    have hlt : i < its.toArray.size := by
      have := (List.getElem?_eq_some_iff.mp hu).1
      simpa using this
    refine wpAny_pyNext_enum_itemD D he ⟨hit, ht⟩ hlt hne (by simp [hne, hea]) fun u2 h' tk hu2 ho hit' hT hsz hk => ?_
    have eu : u2 = u := by
      have : its.toArray[i]? = some u2 := hu2
      rw [show its.toArray[i]? = its[i]? from by simp, hu] at this
      exact (Option.some.inj this).symm
    subst eu
    refine ⟨_, rfl, wpAny_letOwnedTupleGo_enum (s := { s with heap := h', toks := tk + 1 }) ho fun h'' he' sb => ?_⟩
    have hT2 : h''.get? s.heap.objs.size = some { cls := .type "tuple", data := .seq #[.int i tk, u2] } := (sb.2 _ (Nat.ne_of_gt hel)).trans hT
    have new : ObjOk X.prog X.w (upd H s.heap.objs.size (.tup [.int (i : Nat), x])) h'' s.heap.objs.size (.tup [.int (i : Nat), x]) :=
      ⟨by show 2 ≤ sizeLine; decide, [.int i tk, u2], .cons ⟨_, rfl⟩ (.cons ru .nil), ⟨_, hT2, rfl, _, rfl⟩⟩
    have I1 : Inv X pins σ (upd H s.heap.objs.size (.tup [.int (i : Nat), x])) { s with heap := h'', toks := tk + 1 } :=
      I.turnedNew (ch := [e, it]) (fun b ob hb q => (sb.2 b (fun z => hb (by simp [z]))).trans (hk b ob (fun z => hb (by simp [z])) (fun z => hb (by simp [z])) q)) hf (Nat.le_refl _) new
    refine ⟨.ref s.heap.objs.size, _, I1, rfl, ⟨_, x, rfl, I.hok.fresh (Nat.le_refl _), rfl, fun ys hy => by rw [I.tuple_inj hy hq]; exact hx⟩, ⟨⟨u2, ?_⟩, hit'.1.at fun o q => (sb.2 it (Ne.symm hne)).trans q, hne⟩, fun b hb => ?_⟩
    · have e1 : ((i + 1 : Nat) : Int) = (i : Int) + 1 := by omega
      rw [e1]; exact he'
    · have hb' : b < s.heap.objs.size := by
        have e' : b = e ∨ b = it := by simpa using hb
        rcases e' with z | z
        · rw [z]; exact hel
        · rw [z]; exact hil
      rw [upd_ne (Nat.ne_of_lt hb')]
      exact (hf b hb).1
  done := by
    intro X hP hw hK hc i pins s σ H E I hf st hg
    subst hP hw hK
    obtain ⟨⟨old, he⟩, hit, hne⟩ := st
    obtain ⟨xs, hq, hx⟩ := hg
    obtain ⟨its, rv, p, hz⟩ := I.tuple hq
    have ht : s.heap.IsTuple a its.toArray := p
    have hai : a ≠ it := by
      rintro rfl
      obtain ⟨o, ho, hc', _⟩ := ht
      obtain ⟨o2, ho2, hc2, _⟩ := hit
      rw [ho] at ho2; cases ho2; rw [hc'] at hc2; exact absurd hc2 (by decide)
    obtain ⟨f0, f1, f2, f3, f4, f5⟩ := hf it (by simp)
    have hl := rv.length
    have D := Draws.tuple (prog := X.prog) (w := X.w) (A := X.A.in1) (I.ok.hd hc) it a hai its.toArray
    have ei : i = its.toArray.size := by simp; omega
    subst ei
    exact wpAny_pyNext_enum_endD D he ⟨hit, ht⟩ fun h' eb => ⟨rfl, I.turned (t' := s.toks) (fun b o hb q => eb b o hb q) f0 f1 f3 f4 f5⟩
  self := fun A i s Q E st h => let ⟨⟨_, he⟩, _⟩ := st; wpAny_pyIter_enum he h
open AutoSeq1 (wpAny_loadPart') in
set_option maxHeartbeats 1000000 in
theorem meets_enumerate_newT (l : Addr) (items : Array Value) :
    Meets (Builtin.«enumerate.__new__» ⟨[.type "enumerate", .ref l], []⟩) (fun _ R s => s.heap.IsTuple l items ∧
      R (.ok (.ret (.ref (s.heap.push { cls := .type "tuple_iterator", data := .fields #[.ref l, .int 0 0] }).objs.size)))
        { s with heap := (s.heap.push { cls := .type "tuple_iterator", data := .fields #[.ref l, .int 0 0] }).push { cls := .type "enumerate", data := .fields #[.none, .bool false, .ref s.heap.objs.size, rawInt 0, .none, .none] } }) :=
  .of_wp fun prog w A R s h => by
    obtain ⟨hp, g, d, tk, os⟩ := s; obtain ⟨hl, h⟩ := h
    have hsub := sub_enumerate
    have hL : Heap.IsTuple (Shared.heap ⟨hp, g, d, tk, os⟩) l items := hl
    wp_walk using wpAny_pyIter_tuple hL
    refine wpAny_stack_any fun st => wpAny_pure ?_
    split
    · rename_i c _ _ _ _ _
      cases (c == Value.type "enumerate")
      · wp_walk using wpAny_pyIter_tuple hL
        exact ⟨_, rfl, h⟩
      · wp_walk using wpAny_pyIter_tuple hL
        exact ⟨_, rfl, h⟩
    · wp_walk using wpAny_pyIter_tuple hL
      exact ⟨_, rfl, h⟩
section
variable {prog : Program} {w : World} {A : Around} {E : Value → Shared → Prop} {s : Shared}
theorem call_enumerate_tup {l : Addr} {items : Array Value} {Q : Value → Shared → Prop} (hL : s.heap.IsTuple l items)
    (h : ∀ h', IsEnum h' (s.heap.objs.size + 1) s.heap.objs.size 0 .none → h'.IsTupleIter s.heap.objs.size l 0 → h'.objs.size = s.heap.objs.size + 2 →
      (∀ b o, s.heap.get? b = some o → h'.get? b = some o) → Q (.ref (s.heap.objs.size + 1)) { s with heap := h' }) :
    wpAny (model prog w) A (call (.type "enumerate") [.ref l]) Q E s := by
  refine callType_new F.called_enumerate (by decide) (F.typeCall_enumerate_1 _) (F.newCall_enumerate_1 _) (fun obj => F.args_object_init_2 obj _) F.entry_enumerate_new
    (meets_enumerate_newT l items) ⟨hL, ?_⟩
  have hz : (s.heap.push { cls := .type "tuple_iterator", data := .fields #[.ref l, .int 0 0] }).objs.size = s.heap.objs.size + 1 := Heap.size_push ..
  show _ ∧ _
  rw [hz]
  have he : IsEnum ((s.heap.push { cls := .type "tuple_iterator", data := .fields #[.ref l, .int 0 0] }).push
      { cls := .type "enumerate", data := .fields #[.none, .bool false, .ref s.heap.objs.size, rawInt 0, .none, .none] }) (s.heap.objs.size + 1) s.heap.objs.size 0 .none := by
    have := Heap.get?_push_size (s.heap.push { cls := .type "tuple_iterator", data := .fields #[.ref l, .int 0 0] })
      (o := { cls := .type "enumerate", data := .fields #[.none, .bool false, .ref s.heap.objs.size, rawInt 0, .none, .none] }) rfl
    rw [hz] at this; exact this
  refine ⟨⟨_, he, rfl⟩, h _ he ⟨_, Heap.get?_push_of_some _ (Heap.get?_push_size _ rfl), rfl, rfl⟩ (by rw [Heap.size_push, hz]) fun b o x => Heap.get?_push_of_some _ (Heap.get?_push_of_some _ x)⟩
end
def iEnumT (K : PySem.W.Frag) (ta : TA) : TI := fun σ H R => ta σ H fun vs H1 => ∃ a xs, vs = [.ref a] ∧ SqT K H1 a xs ∧ R (Itet K a) H1
theorem pi_enumT {X : Cx} {e : Expr} {ta : TA} {p pos tpos : Pos} {elts : List Expr} {kk : Nat} (hg : Gl X "enumerate") (hm : X.mg "enumerate" = none) (ha : PA X [e] ta) (hs : starEach [e] X.env = [(false, eval e X.env)]) :
    PI X (.Tuple elts kk tpos) (.Call (.Name "enumerate" p) [e] [] pos) (iEnumT X.K ta) := by
  refine ⟨fun pins s σ H R I h => ?_⟩
  refine Call_ (ld_blt I hg hm boot_enumerate (PyProof.Rows.callWith_type1 (thn (ha.run pos pins s σ H _ I h) fun us s1 ⟨vs, H1, I1, r1, q1⟩ => ?_) hs rfl))
  obtain ⟨a, xs, ex, hq, q⟩ := q1
  subst ex
  cases r1 with
  | cons r rr =>
    cases rr
    cases r
    obtain ⟨its, rv, p', hz⟩ := I1.tuple hq
    refine call_enumerate_tup (show s1.heap.IsTuple a its.toArray from p') fun h' he hit hsz hk => wpAny_pyIter_enum he ?_
    have I2 : Inv X pins σ H1 { s1 with heap := h' } := I1.kept (t' := s1.toks) hk
    refine ⟨s1.heap.objs.size + 1, [s1.heap.objs.size + 1, s1.heap.objs.size], _, _, H1, rfl, I2, turn_enumT a (s1.heap.objs.size + 1) s1.heap.objs.size, ⟨⟨.none, he⟩, hit, Nat.succ_ne_self _⟩, fun b hb => ?_, q⟩
    have e' : b = s1.heap.objs.size + 1 ∨ b = s1.heap.objs.size := by simpa using hb
    have hle : s1.heap.objs.size ≤ b := by
      rcases e' with z | z
      · rw [z]; exact Nat.le_add_right _ _
      · rw [z]; exact Nat.le_refl _
    exact I1.fpOk hle (I1.hok.fresh hle)
end PD
end

section
set_option Elab.async false
set_option linter.all false
set_option maxRecDepth 100000
set_option maxHeartbeats 4000000
/-! PD10: rules for what is walked. -/
namespace PD
open PySem PySem.Spec PyProof.Rows L2

/-- the i-th of the items -/
def YD (K : Fr) (items : List D) : Nat → Hp → V → Hp → Prop := fun i H x H' => Grow H H' ∧ ∃ d, items[i]? = some d ∧ RepD K H' d x
def RI (G : Gb) : RP Src It := fun μ H src J => ∃ Gd : Hp → Prop, Walk J src.items.length Gd (YD G.K src.items) ∧ ∀ μ' st' H', Go μ H μ' H' → StOk G.K H' μ' st' → src.ok st' = true → Gd H'
def rdI (G : Gb) (W : WX) (g : SemI) : TI := fun σ H R => ∃ env μ st, EnvOk G.K G.fa μ H env σ ∧ StOk G.K H μ st ∧ Pst G W σ μ H (RI G) (g env st) R
abbrev DI (G : Gb) (X : Cx) (W : WX) (tg it : Expr) (g : SemI) : Prop := PI X tg it (rdI G W g)
theorem PI.weak {X : Cx} {tg it : Expr} {t t' : TI} (h : PI X tg it t) (k : ∀ σ H Q, t' σ H Q → t σ H Q) : PI X tg it t' := ⟨fun pins s σ H Q I q => h.run pins s σ H Q I (k σ H Q q)⟩

/-! ### walks -/
section
variable {K : Fr} {a b : Addr} {l m : List D}
theorem walkD_list : Walk (Itl K a) l.length (fun H => ∃ xs, SqL K H a xs ∧ RepDs K H l xs) (YD K l) := by
  refine ⟨fun i H hi ⟨xs, q, r⟩ => ?_, fun H ⟨xs, q, r⟩ => ⟨xs, q, by rw [r.length]; exact Nat.le_refl _⟩, fun i H x H' hi ⟨xs, q, r⟩ y => ?_⟩
  · have e := r.length
    exact ⟨xs, xs[i]'(by omega), q, List.getElem?_eq_getElem _⟩
  · obtain ⟨rfl, y⟩ := y
    exact ⟨Grow.refl _, r.got (y xs q)⟩
theorem walkD_tup : Walk (Itt K a) l.length (fun H => ∃ xs, SqT K H a xs ∧ RepDs K H l xs) (YD K l) := by
  refine ⟨fun i H hi ⟨xs, q, r⟩ => ?_, fun H ⟨xs, q, r⟩ => ⟨xs, q, by rw [r.length]; exact Nat.le_refl _⟩, fun i H x H' hi ⟨xs, q, r⟩ y => ?_⟩
  · have e := r.length
    exact ⟨xs, xs[i]'(by omega), q, List.getElem?_eq_getElem _⟩
  · obtain ⟨rfl, y⟩ := y
    exact ⟨Grow.refl _, r.got (y xs q)⟩
theorem rangeL_len (lo hi : Int) : (rangeL lo hi).length = (hi - lo).toNat := by simp [rangeL]
theorem rangeL_get {lo hi : Int} {i : Nat} (h : i < (hi - lo).toNat) : (rangeL lo hi)[i]? = some (.int (lo + (i : Nat))) := by
  unfold rangeL
  rw [List.getElem?_map, List.getElem?_range h]; rfl
theorem walkD_range {lo hi : Int} : Walk (Itr lo (hi - lo).toNat) (rangeL lo hi).length (fun _ => True) (YD K (rangeL lo hi)) := by
  rw [rangeL_len]
  refine ⟨fun i H hi _ => hi, fun H _ => Nat.le_refl _, fun i H x H' hi _ y => ?_⟩
  obtain ⟨rfl, rfl⟩ := y
  exact ⟨Grow.refl _, _, rangeL_get hi, rfl⟩
theorem signs_len (s : List Nat) : (signs s).length = s.length := by simp [signs]
theorem goodS_get {s : List Nat} {c i : Nat} (h : goodS s = true) (e : s[i]? = some c) : goodS [c] = true := by
  unfold goodS at h ⊢
  rw [List.all_eq_true] at h
  simpa using h c (List.mem_of_getElem? e)
theorem walkD_str {s : List Nat} (hs : goodS s = true) : Walk (Its ⟨s.toArray⟩) (signs s).length (fun _ => True) (YD K (signs s)) := by
  rw [signs_len]
  refine ⟨fun i H hi _ => ?_, fun H _ => ?_, fun i H x H' hi _ y => ?_⟩
  · show i < s.toArray.size
    simpa using hi
  · show s.toArray.size ≤ s.length
    simp
  · obtain ⟨rfl, c, hc, rfl⟩ := y
    have hc' : s[i]? = some c := by simpa using hc
    refine ⟨Grow.refl _, .str [c], ?_, ⟨rfl, goodS_get hs hc'⟩⟩
    unfold signs
    rw [List.getElem?_map, hc']; rfl
theorem numbered_len : ∀ (k : Nat) (l : List D), (numbered k l).length = l.length
  | _, [] => rfl
  | k, d :: r => by rw [numbered, List.length_cons, List.length_cons, numbered_len (k + 1) r]
theorem numbered_get : ∀ (l : List D) (k i : Nat) (d : D), l[i]? = some d → (numbered k l)[i]? = some (.tup [.int ((k + i : Nat) : Int), d])
  | [], _, _, _, e => by simp at e
  | x :: r, k, 0, d, e => by simp at e; subst e; rfl
  | x :: r, k, i + 1, d, e => by
    rw [numbered, List.getElem?_cons_succ, numbered_get r (k + 1) i d (by simpa using e)]
    rw [show k + 1 + i = k + (i + 1) by omega]
theorem walkD_enum : Walk (Ite K a) (numbered 0 l).length (fun H => ∃ xs, SqL K H a xs ∧ RepDs K H l xs) (YD K (numbered 0 l)) := by
  rw [numbered_len]
  refine ⟨fun i H hi ⟨xs, q, r⟩ => ?_, fun H ⟨xs, q, r⟩ => ⟨xs, q, by rw [r.length]; exact Nat.le_refl _⟩, fun i H x H' hi ⟨xs, q, r⟩ y => ?_⟩
  · have e := r.length
    exact ⟨xs, xs[i]'(by omega), q, List.getElem?_eq_getElem _⟩
  · obtain ⟨T, x, rfl, hT, rfl, y⟩ := y
    obtain ⟨d, hd, rd⟩ := r.got (y xs q)
    have gw : Grow H (upd H T (.tup [.int (i : Nat), x])) := Grow.new hT
    refine ⟨gw, _, numbered_get l 0 i d hd, T, _, rfl, SqT.of upd_same, .cons ?_ (.cons (rd.mono gw.ext d x) .nil)⟩
    show V.int _ = V.int _
    rw [Nat.zero_add]
theorem walkD_enumT : Walk (Itet K a) (numbered 0 l).length (fun H => ∃ xs, SqT K H a xs ∧ RepDs K H l xs) (YD K (numbered 0 l)) := by
  rw [numbered_len]
  refine ⟨fun i H hi ⟨xs, q, r⟩ => ?_, fun H ⟨xs, q, r⟩ => ⟨xs, q, r.length⟩, fun i H x H' hi ⟨xs, q, r⟩ y => ?_⟩
  · have e := r.length
    exact ⟨xs, xs[i]'(by omega), q, List.getElem?_eq_getElem _⟩
  · obtain ⟨T, x, rfl, hT, rfl, y⟩ := y
    obtain ⟨d, hd, rd⟩ := r.got (y xs q)
    have gw : Grow H (upd H T (.tup [.int (i : Nat), x])) := Grow.new hT
    refine ⟨gw, _, numbered_get l 0 i d hd, T, _, rfl, SqT.of upd_same, .cons ?_ (.cons (rd.mono gw.ext d x) .nil)⟩
    show V.int _ = V.int _
    rw [Nat.zero_add]
theorem walkD_enumS {s : List Nat} (hs : goodS s = true) : Walk (Ites ⟨s.toArray⟩) (numbered 0 (signs s)).length (fun _ => True) (YD K (numbered 0 (signs s))) := by
  rw [numbered_len, signs_len]
  refine ⟨fun i H hi _ => ?_, fun H _ => ?_, fun i H x H' hi _ y => ?_⟩
  · show i < s.toArray.size
    simpa using hi
  · show s.length = s.toArray.size
    simp
  · obtain ⟨T, c, rfl, hT, rfl, hc⟩ := y
    have hc' : s[i]? = some c := by simpa using hc
    have gw : Grow H (upd H T (.tup [.int (i : Nat), .str ⟨#[c]⟩])) := Grow.new hT
    have hg : (signs s)[i]? = some (.str [c]) := by
      unfold signs
      rw [List.getElem?_map, hc']; rfl
    refine ⟨gw, _, numbered_get (signs s) 0 i _ hg, T, _, rfl, SqT.of upd_same, .cons ?_ (.cons ⟨rfl, goodS_get hs hc'⟩ .nil)⟩
    show V.int _ = V.int _
    rw [Nat.zero_add]
theorem paired_len : ∀ (l m : List D), (paired l m).length = min l.length m.length
  | [], _ => by simp [paired]
  | _ :: _, [] => by simp [paired]
  | x :: xs, y :: ys => by
    rw [paired, List.length_cons, paired_len xs ys, List.length_cons, List.length_cons]; omega
theorem paired_get : ∀ (l m : List D) (i : Nat) (d e : D), l[i]? = some d → m[i]? = some e → (paired l m)[i]? = some (.tup [d, e])
  | [], _, _, _, _, h, _ => by simp at h
  | _ :: _, [], _, _, _, _, h => by simp at h
  | x :: xs, y :: ys, 0, d, e, h, k => by simp at h k; subst h; subst k; rfl
  | x :: xs, y :: ys, i + 1, d, e, h, k => by
    rw [paired, List.getElem?_cons_succ]
    exact paired_get xs ys i d e (by simpa using h) (by simpa using k)
theorem walkD_zip : Walk (Itz K a b) (paired l m).length (fun H => (∃ xs, SqL K H a xs ∧ RepDs K H l xs) ∧ ∃ xs, SqL K H b xs ∧ RepDs K H m xs) (YD K (paired l m)) := by
  rw [paired_len]
  refine ⟨fun i H hi ⟨⟨xs, q, r⟩, ys, q2, r2⟩ => ?_, fun H ⟨⟨xs, q, r⟩, ys, q2, r2⟩ => ⟨xs, ys, q, q2, by rw [r.length, r2.length]; omega⟩, fun i H x H' hi ⟨⟨xs, q, r⟩, ys, q2, r2⟩ y => ?_⟩
  · have e := r.length
    have e2 := r2.length
    exact ⟨xs, ys, xs[i]'(by omega), ys[i]'(by omega), q, q2, List.getElem?_eq_getElem _, List.getElem?_eq_getElem _⟩
  · obtain ⟨T, x, y, rfl, hT, rfl, y1, y2⟩ := y
    obtain ⟨d, hd, rd⟩ := r.got (y1 xs q)
    obtain ⟨d2, hd2, rd2⟩ := r2.got (y2 ys q2)
    have gw : Grow H (upd H T (.tup [x, y])) := Grow.new hT
    exact ⟨gw, _, paired_get l m i d d2 hd hd2, T, _, rfl, SqT.of upd_same, .cons (rd.mono gw.ext d x) (.cons (rd2.mono gw.ext d2 y) .nil)⟩
theorem walkD_zipT : Walk (RZ.ItzT K a b) (paired l m).length (fun H => (∃ xs, SqT K H a xs ∧ RepDs K H l xs) ∧ ∃ xs, SqT K H b xs ∧ RepDs K H m xs) (YD K (paired l m)) := by
  rw [paired_len]
  refine ⟨fun i H hi ⟨⟨xs, q, r⟩, ys, q2, r2⟩ => ?_, fun H ⟨⟨xs, q, r⟩, ys, q2, r2⟩ => ⟨xs, ys, q, q2, by rw [r.length, r2.length]; omega⟩, fun i H x H' hi ⟨⟨xs, q, r⟩, ys, q2, r2⟩ y => ?_⟩
  · have e := r.length
    have e2 := r2.length
    exact ⟨xs, ys, xs[i]'(by omega), ys[i]'(by omega), q, q2, List.getElem?_eq_getElem _, List.getElem?_eq_getElem _⟩
  · obtain ⟨T, x, y, rfl, hT, rfl, y1, y2⟩ := y
    obtain ⟨d, hd, rd⟩ := r.got (y1 xs q)
    obtain ⟨d2, hd2, rd2⟩ := r2.got (y2 ys q2)
    have gw : Grow H (upd H T (.tup [x, y])) := Grow.new hT
    exact ⟨gw, _, paired_get l m i d d2 hd hd2, T, _, rfl, SqT.of upd_same, .cons (rd.mono gw.ext d x) (.cons (rd2.mono gw.ext d2 y) .nil)⟩
end

/-! ### rows -/
section
variable {G : Gb} {X : Cx} {W : WX} {a b c e : Expr} {es : List Expr} {ga gb gc g : SemE} {gs : SemAs} {pos p p2 p3 apos tpos : Pos} {x : Str} {tg : Expr} {elts : List Expr} {kk : Nat}
theorem held_eq {st : Store} {n : Nat} {l : List D} (h : heldAt st n l = true) : st[n]? = some (.ls l) ∨ st[n]? = some (.fz l) := by
  unfold heldAt at h
  split at h
  · rename_i m e; rw [e, same_of h]; exact .inl rfl
  · rename_i m e; rw [e, same_of h]; exact .inr rfl
  · cases h
where same_of {m l : List D} (h : D.sames m l = true) : m = l := sames_eq m l h
/-- a row's address, and that it stands as long as it is watched -/
theorem row_stands {μ : List Addr} {H : Hp} {st : Store} {xa : A} {v : V} {k : Bool} {l : List D} {w : List (Nat × List D)} (r : RepA G.K G.fa μ H xa v) (s : StOk G.K H μ st) (h : rowOf xa st = some (k, l, w)) :
    ∃ ad, v = .ref ad ∧ ∀ μ' st' H', Go μ H μ' H' → StOk G.K H' μ' st' → (w.all fun w => heldAt st' w.1 w.2) = true →
      (k = true → ∃ xs, SqL G.K H' ad xs ∧ RepDs G.K H' l xs) ∧ (k = false → ∃ xs, SqT G.K H' ad xs ∧ RepDs G.K H' l xs) := by
  unfold rowOf at h
  split at h
  · cases h
    obtain ⟨ad, xs, rfl, q, r⟩ := r
    exact ⟨ad, rfl, fun μ' st' H' g _ _ => ⟨fun z => (nomatch z), fun _ => ⟨xs, g.ext.sqT q, r.mono g.ext l xs⟩⟩⟩
  · cases h
    obtain ⟨ad, xs, rfl, q, r⟩ := r
    exact ⟨ad, rfl, fun μ' st' H' g _ _ => ⟨fun _ => ⟨xs, .inl (g.ext.sqF q).l, r.mono g.ext l xs⟩, fun z => (nomatch z)⟩⟩
  · rename_i n
    obtain ⟨ad, rfl, hm⟩ := r
    refine ⟨ad, rfl, fun μ' st' H' g s' hw => ?_⟩
    have hm' := g.get hm
    split at h
    · cases h
      have hw' : heldAt st' n l = true := by simpa using hw
      refine ⟨fun _ => ?_, fun z => (nomatch z)⟩
      rcases held_eq hw' with e | e
      · obtain ⟨xs, e1, r1⟩ := s'.at_ n ad _ hm' e; exact ⟨xs, .inl (.inl e1), r1⟩
      · obtain ⟨o, xs, e1, r1⟩ := s'.at_ n ad _ hm' e; exact ⟨xs, .inl (.inr ⟨o, e1⟩), r1⟩
    · cases h
      have hw' : heldAt st' n l = true := by simpa using hw
      refine ⟨fun _ => ?_, fun z => (nomatch z)⟩
      rcases held_eq hw' with e | e
      · obtain ⟨xs, e1, r1⟩ := s'.at_ n ad _ hm' e; exact ⟨xs, .inl (.inl e1), r1⟩
      · obtain ⟨o, xs, e1, r1⟩ := s'.at_ n ad _ hm' e; exact ⟨xs, .inl (.inr ⟨o, e1⟩), r1⟩
    · cases h
  · cases h
theorem same_held : ∀ (l : List D), D.sames l l = true := by
  have key : (∀ d : D, D.same d d = true) := fun d => by
    refine D.rec (motive_1 := fun d => D.same d d = true) (motive_2 := fun l => D.sames l l = true) ?_ ?_ ?_ ?_ ?_ ?_ ?_ ?_ d
    all_goals (intros; simp_all [D.same, D.sames])
  intro l
  induction l with
  | nil => rfl
  | cons d r ih => simp [D.sames, key d, ih]
theorem row_watch {xa : A} {st : Store} {k : Bool} {l : List D} {w : List (Nat × List D)} (h : rowOf xa st = some (k, l, w)) : (w.all fun w => heldAt st w.1 w.2) = true := by
  unfold rowOf at h
  split at h
  · cases h; rfl
  · cases h; rfl
  · split at h
    · rename_i e; cases h; simp [heldAt, e, same_held]
    · rename_i e; cases h; simp [heldAt, e, same_held]
    · cases h
  · cases h

/-! ### the rules -/
theorem di_val (hK : G.K = X.K) (ha : DE G X W a g) : DI G X W tg a (iVal g) := by
  refine ⟨fun pins s σ H R I h => ?_⟩
  obtain ⟨env, μ, st, he, hs, h⟩ := h
  unfold iVal at h
  cases eg : g env st with
  | bad => rw [eg] at h; exact h.elim
  | exn ee s1 => exact (pi_tup ha).run pins s σ H R I ⟨env, μ, st, he, hs, by rw [eg] at h ⊢; exact h⟩
  | ok xa s1 =>
    rw [eg] at h
    simp only [bind_ok] at h
    split at h
    · rename_i z
      refine (pi_str ha).run pins s σ H R I ⟨env, μ, st, he, hs, ?_⟩
      rw [eg]
      intro v H' μ' g' s' r
      obtain ⟨rfl, hz⟩ := r
      exact ⟨_, rfl, h _ H' μ' g' s' ⟨_, walkD_str hz, fun _ _ _ _ _ _ => trivial⟩⟩
    · split at h
      · rename_i k l w er
        cases k with
        | true =>
          refine (pi_list ha).run pins s σ H R I ⟨env, μ, st, he, hs, ?_⟩
          rw [eg]
          intro v H' μ' g' s' r
          obtain ⟨ad, rfl, q⟩ := row_stands r s' er
          refine ⟨ad, rfl, ?_, h _ H' μ' g' s' ⟨_, by rw [← hK]; exact walkD_list, fun μ2 st2 H2 g2 s2 w2 => (q μ2 st2 H2 g2 s2 w2).1 rfl⟩⟩
          obtain ⟨xs, q1, _⟩ := (q μ' s1 H' (Go.refl _ _) s' (row_watch er)).1 rfl
          exact ⟨xs, by rw [← hK]; exact q1⟩
        | false =>
          refine (pi_tup ha).run pins s σ H R I ⟨env, μ, st, he, hs, ?_⟩
          rw [eg]
          intro v H' μ' g' s' r
          obtain ⟨ad, rfl, q⟩ := row_stands r s' er
          refine ⟨ad, rfl, ?_, h _ H' μ' g' s' ⟨_, by rw [← hK]; exact walkD_tup, fun μ2 st2 H2 g2 s2 w2 => (q μ2 st2 H2 g2 s2 w2).2 rfl⟩⟩
          obtain ⟨xs, q1, _⟩ := (q μ' s1 H' (Go.refl _ _) s' (row_watch er)).2 rfl
          exact ⟨xs, by rw [← hK]; exact q1⟩
      · exact h.elim
/-- one argument -/
theorem arg_one {env : Env} {σ : L2.St} {μ : List Addr} {H : Hp} {st : Store} {Q : List V → Hp → Prop} (h : Pst G W σ μ H (RA G) (g env st) (fun v H' => Q [v] H')) : Pst G W σ μ H (RAs G) (gCons g gNil env st) Q := by
  unfold gCons
  cases eg : g env st with
  | bad => rw [eg] at h; exact h.elim
  | exn ee s1 => rw [eg] at h; exact h
  | ok xa s1 =>
    rw [eg] at h
    intro vs H' μ' g' s' r
    cases r with
    | cons r rr => cases rr; exact h _ H' μ' g' s' r
theorem das_one (ha : DE G X W a g) (hs : starEach [a] X.env = [(false, eval a X.env)]) : DAs G X W [a] (gCons g gNil) := das_cons ha das_nil hs
theorem di_range1 (ha : DE G X W a g) (hg : Gl X "range") (hm : X.mg "range" = none) (hs : starEach [a] X.env = [(false, eval a X.env)]) : DI G X W tg (.Call (.Name "range" p) [a] [] pos) (iRange1 g) :=
  PI.weak (pi_range1 hg hm (das_one ha hs) hs) fun σ H R ⟨env, μ, st, he, hst, h⟩ => by
    refine ⟨env, μ, st, he, hst, arg_one ?_⟩
    refine (Pst.bindB (R := RA G) h).mono fun v H1 ⟨xa, μ1, st1, g1, s1, r1, p1⟩ => ?_
    split at p1
    · rename_i n
      split at p1
      · rename_i hn
        cases (show v = V.int n from r1)
        refine ⟨n, rfl, ?_, ?_, p1 _ H1 μ1 g1 s1 ⟨_, ?_, fun _ _ _ _ _ _ => trivial⟩⟩
        · have := hn.1; unfold big62 at this; omega
        · have := hn.2; unfold big62 at this; omega
        · have w := walkD_range (K := G.K) (lo := 0) (hi := n)
          rw [Int.sub_zero] at w
          exact w
      · exact p1.elim
    · exact p1.elim
theorem das_two (ha : DE G X W a ga) (hb : DE G X W b gb) (hs : starEach [a, b] X.env = [(false, eval a X.env), (false, eval b X.env)]) (hs2 : starEach [b] X.env = [(false, eval b X.env)]) : DAs G X W [a, b] (gCons ga (gCons gb gNil)) :=
  das_cons ha (das_one hb hs2) (by rw [hs, hs2])
theorem di_range2 (ha : DE G X W a ga) (hb : DE G X W b gb) (hg : Gl X "range") (hm : X.mg "range" = none) (hs : starEach [a, b] X.env = [(false, eval a X.env), (false, eval b X.env)]) (hs2 : starEach [b] X.env = [(false, eval b X.env)]) :
    DI G X W tg (.Call (.Name "range" p) [a, b] [] pos) (iRange2 ga gb) :=
  PI.weak (pi_range2 hg hm (das_two ha hb hs hs2) hs hs2) fun σ H R ⟨env, μ, st, he, hst, h⟩ => by
    refine ⟨env, μ, st, he, hst, ?_⟩
    unfold iRange2 at h
    unfold gCons
    cases ea : ga env st with
    | bad => rw [ea] at h; exact h.elim
    | exn ee s1 => rw [ea] at h; exact h
    | ok xa s1 =>
      rw [ea] at h
      simp only [bind_ok] at h ⊢
      cases eb : gb env s1 with
      | bad => rw [eb] at h; exact h.elim
      | exn ee s2 => simp only [gCons, eb, bind_exn]; rw [eb] at h; exact h
      | ok ya s2 =>
        simp only [gCons, eb, bind_ok, gNil]
        rw [eb] at h
        simp only [bind_ok] at h
        intro vs H' μ' g' s' r
        split at h
        · rename_i i j
          split at h
          · rename_i hn
            cases r with
            | cons r rr =>
              cases rr with
              | cons r2 rr =>
                cases rr
                refine ⟨i, j, ?_, ?_, h _ H' μ' g' s' ⟨_, walkD_range, fun _ _ _ _ _ _ => trivial⟩⟩
                · rw [← (show _ = V.int i from r), ← (show _ = V.int j from r2)]
                · obtain ⟨⟨h1, h2⟩, h3, h4⟩ := hn
                  unfold big62 at h1 h2 h3 h4
                  omega
          · exact h.elim
        · exact h.elim
theorem di_enum (hK : G.K = X.K) (ha : DE G X W a g) (hg : Gl X "enumerate") (hm : X.mg "enumerate" = none) (hs : starEach [a] X.env = [(false, eval a X.env)]) :
    DI G X W (.Tuple elts kk tpos) (.Call (.Name "enumerate" p) [a] [] pos) (iEnum g) := by
  refine ⟨fun pins s σ H R I h => ?_⟩
  obtain ⟨env, μ, st, he, hst, h⟩ := h
  unfold iEnum at h
  cases eg : g env st with
  | bad => rw [eg] at h; exact h.elim
  | exn ee s1 => exact (pi_enumT hg hm (das_one ha hs) hs).run pins s σ H R I ⟨env, μ, st, he, hst, arg_one (by rw [eg] at h ⊢; exact h)⟩
  | ok xa s1 =>
    rw [eg] at h
    simp only [bind_ok] at h
    split at h
    · rename_i z
      refine (pi_enumS hg hm (das_one ha hs) hs).run pins s σ H R I ⟨env, μ, st, he, hst, arg_one ?_⟩
      rw [eg]
      intro v H' μ' g' s' r
      obtain ⟨rfl, hz⟩ := r
      exact ⟨_, rfl, h _ H' μ' g' s' ⟨_, walkD_enumS hz, fun _ _ _ _ _ _ => trivial⟩⟩
    · split at h
      · rename_i l w er
        refine (pi_enum hg hm (das_one ha hs) hs).run pins s σ H R I ⟨env, μ, st, he, hst, arg_one ?_⟩
        rw [eg]
        intro v H' μ' g' s' r
        obtain ⟨ad, rfl, q⟩ := row_stands r s' er
        obtain ⟨xs, q1, _⟩ := (q μ' s1 H' (Go.refl _ _) s' (row_watch er)).1 rfl
        exact ⟨ad, xs, rfl, by rw [← hK]; exact q1, h _ H' μ' g' s' ⟨_, by rw [← hK]; exact walkD_enum, fun μ2 st2 H2 g2 s2 w2 => (q μ2 st2 H2 g2 s2 w2).1 rfl⟩⟩
      · rename_i l w er
        refine (pi_enumT hg hm (das_one ha hs) hs).run pins s σ H R I ⟨env, μ, st, he, hst, arg_one ?_⟩
        rw [eg]
        intro v H' μ' g' s' r
        obtain ⟨ad, rfl, q⟩ := row_stands r s' er
        obtain ⟨xs, q1, _⟩ := (q μ' s1 H' (Go.refl _ _) s' (row_watch er)).2 rfl
        exact ⟨ad, xs, rfl, by rw [← hK]; exact q1, h _ H' μ' g' s' ⟨_, by rw [← hK]; exact walkD_enumT, fun μ2 st2 H2 g2 s2 w2 => (q μ2 st2 H2 g2 s2 w2).2 rfl⟩⟩
      · exact h.elim
theorem di_zip (hK : G.K = X.K) (ha : DE G X W a ga) (hb : DE G X W b gb) (hg : Gl X "zip") (hm : X.mg "zip" = none) (hs : starEach [a, b] X.env = (false, eval a X.env) :: starEach [b] X.env) (hs2 : starEach [b] X.env = [(false, eval b X.env)])
    (hpl : (backTo pos (starEach [b] X.env)).any (·.1) = false) : DI G X W (.Tuple elts kk tpos) (.Call (.Name "zip" p) [a, b] [] pos) (iZip ga gb) :=
  PI.weak (RZ.pi_zipA hg hm (das_cons ha (das_one hb hs2) hs) hs hpl) fun σ H R ⟨env, μ, st, he, hst, h⟩ => by
    refine ⟨env, μ, st, he, hst, ?_⟩
    unfold iZip at h
    unfold gCons
    cases ea : ga env st with
    | bad => rw [ea] at h; exact h.elim
    | exn ee s1 => rw [ea] at h; exact h
    | ok xa s1 =>
      rw [ea] at h
      simp only [bind_ok] at h ⊢
      cases eb : gb env s1 with
      | bad => rw [eb] at h; exact h.elim
      | exn ee s2 => simp only [gCons, eb, bind_exn]; rw [eb] at h; exact h
      | ok ya s2 =>
        simp only [gCons, eb, bind_ok, gNil]
        rw [eb] at h
        simp only [bind_ok] at h
        intro vs H' μ' g' s' r
        split at h
        · rename_i l w m w' e1 e2
          cases r with
          | cons r rr =>
            cases rr with
            | cons r2 rr =>
              cases rr
              obtain ⟨a1, rfl, q1⟩ := row_stands r s' e1
              obtain ⟨a2, rfl, q2⟩ := row_stands r2 s' e2
              obtain ⟨xs, k1, m1⟩ := (q1 μ' s2 H' (Go.refl _ _) s' (row_watch e1)).2 rfl
              obtain ⟨ys, k2, m2⟩ := (q2 μ' s2 H' (Go.refl _ _) s' (row_watch e2)).2 rfl
              refine ⟨a1, a2, xs, ys, rfl, .inr ⟨by rw [← hK]; exact k1, by rw [← hK]; exact k2, h _ H' μ' g' s' ⟨_, by rw [← hK]; exact walkD_zipT, fun μ3 st3 H3 g3 s3 w3 => ?_⟩⟩⟩
              exact ⟨⟨xs, g3.ext.sqT k1, m1.mono g3.ext l xs⟩, ys, g3.ext.sqT k2, m2.mono g3.ext m ys⟩
        · rename_i l w m w' e1 e2
          cases r with
          | cons r rr =>
            cases rr with
            | cons r2 rr =>
              cases rr
              obtain ⟨a1, rfl, q1⟩ := row_stands r s' e1
              obtain ⟨a2, rfl, q2⟩ := row_stands r2 s' e2
              obtain ⟨xs, k1, m1⟩ := (q1 μ' s2 H' (Go.refl _ _) s' (row_watch e1)).1 rfl
              obtain ⟨ys, k2, m2⟩ := (q2 μ' s2 H' (Go.refl _ _) s' (row_watch e2)).1 rfl
              refine ⟨a1, a2, xs, ys, rfl, .inl ⟨by rw [← hK]; exact k1, by rw [← hK]; exact k2, h _ H' μ' g' s' ⟨_, by rw [← hK]; exact walkD_zip, fun μ3 st3 H3 g3 s3 w3 => ?_⟩⟩⟩
              have w3' : ((w ++ w').all fun w => heldAt st3 w.1 w.2) = true := w3
              rw [List.all_append, Bool.and_eq_true] at w3'
              exact ⟨(q1 μ3 st3 H3 g3 s3 w3'.1).1 rfl, (q2 μ3 st3 H3 g3 s3 w3'.2).1 rfl⟩
        · exact h.elim
end
end PD
end

section
set_option Elab.async false
set_option linter.all false
set_option maxRecDepth 100000
set_option maxHeartbeats 4000000
/-! PD11: targets, loops, comprehensions, changes of lists. -/
namespace PD
open PySem PySem.Spec PyProof.Rows L2

/-! ### slots forgotten -/
theorem wipe_get {σ : L2.St} {j : Nat} : ∀ {vs : List Nat}, (wipe σ vs)[j]? = if j ∈ vs ∧ j < σ.length then some none else σ[j]?
  | [] => by simp [wipe]
  | v :: vs => by
    have ih := @wipe_get σ j vs
    have hl := wipe_length σ vs
    unfold wipe
    by_cases hv : v = j
    · subst hv
      by_cases hj : v < σ.length
      · rw [List.getElem?_set_self (by rw [hl]; exact hj), if_pos ⟨List.mem_cons_self, hj⟩]
      · rw [List.getElem?_eq_none (by rw [List.length_set, hl]; omega), if_neg (fun h => hj h.2), List.getElem?_eq_none (by omega)]
    · rw [List.getElem?_set_ne hv, ih]
      by_cases h1 : j ∈ vs ∧ j < σ.length
      · rw [if_pos h1, if_pos ⟨List.mem_cons_of_mem _ h1.1, h1.2⟩]
      · rw [if_neg h1, if_neg (fun h => h1 ⟨(List.mem_cons.mp h.1).resolve_left (Ne.symm hv), h.2⟩)]
theorem wipe_ext {σ τ : L2.St} {vs : List Nat} (hl : σ.length = τ.length) (h : ∀ j, j ∉ vs → σ[j]? = τ[j]?) : wipe σ vs = wipe τ vs := by
  apply List.ext_getElem?
  intro j
  rw [wipe_get, wipe_get, hl]
  by_cases hj : j ∈ vs
  · by_cases h2 : j < τ.length
    · rw [if_pos ⟨hj, h2⟩, if_pos ⟨hj, h2⟩]
    · rw [if_neg (fun q => h2 q.2), if_neg (fun q => h2 q.2), List.getElem?_eq_none (by omega), List.getElem?_eq_none (by omega)]
  · rw [if_neg (fun q => hj q.1), if_neg (fun q => hj q.1)]
    exact h j hj
theorem wipe_set {σ : L2.St} {vs : List Nat} {i : Nat} {o : Option V} (hi : i ∈ vs) : wipe (σ.set i o) vs = wipe σ vs :=
  wipe_ext (by simp) fun j hj => List.getElem?_set_ne (by rintro rfl; exact hj hi)
theorem wipe_wipe {σ : L2.St} {vs : List Nat} : wipe (wipe σ vs) vs = wipe σ vs :=
  wipe_ext (wipe_length σ vs) fun j hj => by rw [wipe_get, if_neg (fun q => hj q.1)]

section
variable {G : Gb} {X : Cx} {W : WX} {a b c e : Expr} {es : List Expr} {ga gb gc g : SemE} {gs : SemAs} {pos p p2 p3 apos tpos : Pos} {x : Str} {tg : Expr} {elts : List Expr} {kk : Nat}
theorem EnvOk.wipe {μ : List Addr} {H : Hp} {env : Env} {σ : L2.St} (h : EnvOk G.K G.fa μ H env σ) : ∀ vs : List Nat, EnvOk G.K G.fa μ H (wipeE env vs) (L2.wipe σ vs)
  | [] => h
  | v :: vs => (EnvOk.wipe h vs).wipe1 v

/-! ### targets -/
mutual
inductive TgAt (X : Cx) : Expr → Tg → Prop
  | name {x : Str} {p : Pos} {i : Nat} : X.N[i]? = some x → Loc X.env.scope x → (X.fn x = true ∨ X.env.scope.names.lookup x = some .local) → TgAt X (.Name x p) (.name i)
  | tup {es : List Expr} {k : Nat} {p : Pos} {ts : List Tg} : TgsAt X es ts → TgAt X (.Tuple es k p) (.tup ts)
inductive TgsAt (X : Cx) : List Expr → List Tg → Prop
  | nil : TgsAt X [] []
  | cons {e : Expr} {t : Tg} {es : List Expr} {ts : List Tg} : TgAt X e t → TgsAt X es ts → TgsAt X (e :: es) (t :: ts)
end
mutual
def tgG (K : Fr) : Tg → TG
  | .name i => gName i
  | .tup ts => L2.gTup K ts.length (tgGs K ts)
def tgGs (K : Fr) : List Tg → TGs
  | [] => L2.gNil
  | t :: ts => L2.gCons (tgG K t) (tgGs K ts)
end
mutual
theorem pg_tg (hc : X.calm = true) (hN : X.N.Nodup) : ∀ {e : Expr} {t : Tg}, TgAt X e t → PG X e (tgG X.K t)
  | _, _, .name h1 h2 h3 => pg_name hN h1 h2 h3
  | _, _, .tup h => by
    obtain ⟨h1, h2, h3⟩ := pgs_tg hc hN h
    exact pg_tup hc h1 h2 h3
theorem pgs_tg (hc : X.calm = true) (hN : X.N.Nodup) : ∀ {es : List Expr} {ts : List Tg}, TgsAt X es ts → PGs X es (tgGs X.K ts) ∧ (assignEach es X.env).length = ts.length ∧ (assignEach es X.env).findIdx? (·.1) = none
  | _, _, .nil => ⟨pgs_nil, rfl, rfl⟩
  | _, _, .cons h t => by
    obtain ⟨a1, a2, a3⟩ := pgs_tg hc hN t
    have a0 := pg_tg hc hN h
    cases h with
    | name h1 h2 h3 =>
      refine ⟨pgs_cons a0 a1 rfl, ?_, ?_⟩
      · show (assignEach _ X.env).length + 1 = _
        rw [a2]; rfl
      · show List.findIdx? _ ((false, _) :: assignEach _ X.env) = none
        rw [List.findIdx?_cons, a3]; rfl
    | tup h1 =>
      refine ⟨pgs_cons a0 a1 rfl, ?_, ?_⟩
      · show (assignEach _ X.env).length + 1 = _
        rw [a2]; rfl
      · show List.findIdx? _ ((false, _) :: assignEach _ X.env) = none
        rw [List.findIdx?_cons, a3]; rfl
end
theorem pg_tgK {K : Fr} (hK : K = X.K) (hc : X.calm = true) (hN : X.N.Nodup) {e : Expr} {t : Tg} (h : TgAt X e t) : PG X e (tgG K t) := by
  rw [hK]; exact pg_tg hc hN h
theorem puts_len : ∀ {ts : List Tg} {l : List D} {env env1 : Env}, Tg.puts ts l env = some env1 → ts.length = l.length
  | [], [], _, _, _ => rfl
  | t :: ts, d :: l, env, env1, h => by
    unfold Tg.puts at h
    split at h
    · rw [List.length_cons, List.length_cons, puts_len h]
    · cases h
  | [], _ :: _, _, _, h => by simp [Tg.puts] at h
  | _ :: _, [], _, _, h => by simp [Tg.puts] at h
mutual
theorem tg_run {μ : List Addr} {H : Hp} : ∀ {t : Tg} {d : D} {v : V} {env env1 : Env} {σ : L2.St} {Q : L2.St → Hp → Prop}, Tg.put t d env = some env1 → RepD G.K H d v → EnvOk G.K G.fa μ H env σ →
    (∀ σ', EnvOk G.K G.fa μ H env1 σ' → (∀ vs : List Nat, (∀ i ∈ t.slots, i ∈ vs) → wipe σ' vs = wipe σ vs) → Q σ' H) → tgG G.K t v σ H Q
  | .name i, d, v, env, env1, σ, Q, h, r, he, k => by
    simp only [Tg.put, Option.some.injEq] at h
    subst h
    exact k _ (he.set (a := .d d) r) fun vs hv => wipe_set (hv i (by simp [Tg.slots]))
  | .tup ts, d, v, env, env1, σ, Q, h, r, he, k => by
    cases d with
    | tup l =>
      simp only [Tg.put] at h
      obtain ⟨a, xs, rfl, hq, hr⟩ := r
      refine ⟨a, xs, rfl, hq, by rw [hr.length, puts_len h], tgs_run h hr he fun σ' e' w' => k σ' e' fun vs hv => w' vs fun i hi => hv i (by simpa [Tg.slots] using hi)⟩
    | _ => simp [Tg.put] at h
theorem tgs_run {μ : List Addr} {H : Hp} : ∀ {ts : List Tg} {l : List D} {vs : List V} {env env1 : Env} {σ : L2.St} {Q : L2.St → Hp → Prop}, Tg.puts ts l env = some env1 → RepDs G.K H l vs → EnvOk G.K G.fa μ H env σ →
    (∀ σ', EnvOk G.K G.fa μ H env1 σ' → (∀ us : List Nat, (∀ i ∈ Tg.slotss ts, i ∈ us) → wipe σ' us = wipe σ us) → Q σ' H) → tgGs G.K ts vs σ H Q
  | [], l, vs, env, env1, σ, Q, h, r, he, k => by
    cases l with
    | nil =>
      simp only [Tg.puts, Option.some.injEq] at h
      subst h
      cases r
      exact ⟨rfl, k σ he fun _ _ => rfl⟩
    | cons d l => simp [Tg.puts] at h
  | t :: ts, l, vs, env, env1, σ, Q, h, r, he, k => by
    cases l with
    | nil => simp [Tg.puts] at h
    | cons d l =>
      obtain ⟨v, w, rfl, r1, r2⟩ := r
      unfold Tg.puts at h
      split at h
      · rename_i env2 h2
        refine ⟨v, w, rfl, tg_run h2 r1 he fun σ' e' w' => tgs_run h r2 e' fun σ'' e'' w'' => k σ'' e'' fun us hu => ?_⟩
        rw [w'' us fun i hi => hu i (by simp [Tg.slotss, hi]), w' us fun i hi => hu i (by simp [Tg.slotss, hi])]
      · cases h
end

/-! ### for -/
theorem forGo_ok {t : Tg} {f : SemS} {ok : Store → Bool} {ds : List D} {env : Env} {st : Store} {D' : Ends} {μ : List Addr} {H : Hp} (h : PstS G W D' μ H (forGo t f ok ds env st)) : ok st = true := by
  cases ds with
  | nil =>
    unfold forGo at h
    split at h
    · assumption
    · exact h.elim
  | cons d ds =>
    unfold forGo at h
    split at h
    · assumption
    · exact h.elim
theorem ds_for {iter : Expr} {body : List Stmt} {gi : SemI} {t : Tg} {f : SemS} (hK : G.K = X.K) (hp : PassesOwn (model X.prog X.w) X.A X.env X.xe) (hc : X.calm = true) (hN : X.N.Nodup) (ht : TgAt X tg t) (hi : DI G X W tg iter gi) (hb : DSs G X W body f)
    (hs : ∀ x, foldedSetIterable iter X.env x = pure x) : DS G X W (.For tg iter body [] pos) (sFor gi t f) :=
  PS.weak (ps_for hp hc hi (pg_tg hc hN ht) hb hs) fun D' σ H ⟨env, μ, st, he, hst, h⟩ => by
    refine ⟨env, μ, st, he, hst, (PstS.expr (R := RI G) he h).mono fun J H1 ⟨src, μ1, st1, g1, s1, ⟨Gd, wk, hgd⟩, e1, p1⟩ => ?_⟩
    refine L2.for_it wk (fun i σ' H' => ∃ env' μ' st', Go μ1 H1 μ' H' ∧ StOk G.K H' μ' st' ∧ EnvOk G.K G.fa μ' H' env' σ' ∧ PstS G W D' μ' H' (forGo t f src.ok (src.items.drop i) env' st'))
      ⟨env, μ1, st1, Go.refl _ _, s1, e1, by rw [List.drop_zero]; exact p1.go g1⟩ (fun i σ' H' _ ⟨env', μ', st', g', s', e', p'⟩ => hgd μ' st' H' g' s' (forGo_ok p')) (fun i x σ' H' H2 hlt ⟨env', μ', st', g', s', e', p'⟩ ⟨gw, d, hd, rd⟩ => ?_) (fun σ' H' ⟨env', μ', st', g', s', e', p'⟩ => ?_)
    · have hdr : src.items.drop i = d :: src.items.drop (i + 1) := by
        rw [List.drop_eq_getElem_cons hlt]
        have := List.getElem?_eq_getElem hlt
        rw [hd] at this
        rw [← Option.some.inj this]
      rw [hdr] at p'
      unfold forGo at p'
      split at p'
      · split at p'
        · exact p'.elim
        · rename_i env1 hput
          rw [← hK]
          have g2 := gw.go μ'
          refine tg_run hput rd (e'.mono g2) fun σ2 e2 _ => ⟨env1, μ', st', e2, s'.grow gw, ?_⟩
          cases eb : f env1 st' with
          | nx env2 s2 =>
            rw [eb] at p'
            exact fun σ3 H3 μ3 g3 s3 e3 => ⟨env2, μ3, s2, (g'.trans g2).trans g3, s3, e3, PstS.go p' (g2.trans g3)⟩
          | ct env2 s2 =>
            rw [eb] at p'
            exact fun σ3 H3 μ3 g3 s3 e3 => ⟨env2, μ3, s2, (g'.trans g2).trans g3, s3, e3, PstS.go p' (g2.trans g3)⟩
          | bk env2 s2 =>
            rw [eb] at p'
            exact fun σ3 H3 μ3 g3 s3 e3 => p' σ3 H3 μ3 (g2.trans g3) s3 e3
          | rt a s2 =>
            rw [eb] at p'
            exact fun v3 H3 μ3 g3 s3 e3 => p' v3 H3 μ3 (g2.trans g3) s3 e3
          | ex ee env2 s2 =>
            rw [eb] at p'
            exact fun c3 d3 σ3 H3 μ3 g3 s3 e3 x3 => p' c3 d3 σ3 H3 μ3 (g2.trans g3) s3 e3 x3
          | bad => rw [eb] at p'; exact p'.elim
      · exact p'.elim
    · rw [List.drop_of_length_le (Nat.le_refl _)] at p'
      unfold forGo at p'
      split at p'
      · exact p' σ' H' μ' (Go.refl _ _) s' e'
      · exact p'.elim

/-! ### while -/
theorem ds_while {t : SemT} {f : SemS} {body : List Stmt} (hp : PassesOwn (model X.prog X.w) X.A X.env X.xe) (hc : DT G X W c t) (hb : DSs G X W body f) : DS G X W (.While c body [] pos) (sWhile t f) :=
  PS.weak (ps_while hp hc hb) fun D' σ H ⟨env, μ, st, he, hst, h⟩ => by
    refine ⟨fun m σ' H' => ∃ env' μ' st', StOk G.K H' μ' st' ∧ EnvOk G.K G.fa μ' H' env' σ' ∧ PstS G W D' μ' H' (whGo t f m env' st'), ⟨FUEL, env, μ, st, hst, he, h⟩, ?_⟩
    rintro m σ1 H1 ⟨env1, μ1, st1, s1, e1, p1⟩
    cases m with
    | zero => exact p1.elim
    | succ m =>
      unfold whGo at p1
      refine ⟨env1, μ1, st1, e1, s1, (PstS.expr (R := RB) e1 p1).mono fun v H2 ⟨x, μ2, st2, g2, s2, r2, e2, p2⟩ => ?_⟩
      cases (show v = x from r2)
      cases v with
      | false =>
        rw [if_neg Bool.false_ne_true]
        exact p2 σ1 H2 μ2 g2 s2 e2
      | true =>
        simp only [if_true] at p2 ⊢
        refine ⟨fun σ' H' => ∃ env' μ' st', StOk G.K H' μ' st' ∧ EnvOk G.K G.fa μ' H' env' σ' ∧ PstS G W D' μ' H' (whGo t f m env' st'), fun σ' H' q => ⟨m, Nat.lt_succ_self m, q⟩, env1, μ2, st2, e2, s2, ?_⟩
        cases eb : f env1 st2 with
        | nx env2 s3 =>
          rw [eb] at p2
          exact fun σ3 H3 μ3 g3 s4 e3 => ⟨env2, μ3, s3, s4, e3, PstS.go p2 (g2.trans g3)⟩
        | ct env2 s3 =>
          rw [eb] at p2
          exact fun σ3 H3 μ3 g3 s4 e3 => ⟨env2, μ3, s3, s4, e3, PstS.go p2 (g2.trans g3)⟩
        | bk env2 s3 =>
          rw [eb] at p2
          exact fun σ3 H3 μ3 g3 s4 e3 => p2 σ3 H3 μ3 (g2.trans g3) s4 e3
        | rt a s3 =>
          rw [eb] at p2
          exact fun v3 H3 μ3 g3 s4 e3 => p2 v3 H3 μ3 (g2.trans g3) s4 e3
        | ex ee env2 s3 =>
          rw [eb] at p2
          exact fun c3 d3 σ3 H3 μ3 g3 s4 e3 x3 => p2 c3 d3 σ3 H3 μ3 (g2.trans g3) s4 e3 x3
        | bad => rw [eb] at p2; exact p2.elim

/-! ### list comprehensions -/
theorem StOk.push {K : Fr} {μ : List Addr} {H : Hp} {st : Store} (s : StOk K H μ st) {p : Addr} {m : MO} (hp : p ∉ μ) (r : RepM K H m p) : StOk K H (μ ++ [p]) (st ++ [m]) := by
  refine ⟨by simp [s.len], List.nodup_append.mpr ⟨s.nd, by simp, fun a ha b hb => ?_⟩, fun n a m' h1 h2 => ?_⟩
  · rw [List.mem_singleton.mp hb]
    rintro rfl
    exact hp ha
  · by_cases hn : n < μ.length
    · rw [List.getElem?_append_left hn] at h1
      rw [List.getElem?_append_left (by rw [← s.len]; exact hn)] at h2
      exact s.at_ n a m' h1 h2
    · have e1 : n = μ.length := by
        have := (List.getElem?_eq_some_iff.mp h1).1
        simp at this; omega
      subst e1
      rw [List.getElem?_append_right (Nat.le_refl _), Nat.sub_self] at h1
      rw [s.len, List.getElem?_append_right (Nat.le_refl _), Nat.sub_self] at h2
      simp at h1 h2
      subst h1; subst h2
      exact r
/-- a list that is not of the store changes -/
theorem StOk.off {K : Fr} {μ : List Addr} {H : Hp} {st : Store} {p : Addr} {xs ys : List V} (s : StOk K H μ st) (hp : p ∉ μ) (h : H p = some (.lst xs)) : StOk K (upd H p (.lst ys)) μ st := by
  have ext : Ext H (upd H p (.lst ys)) := by
    refine ⟨fun b ys q => ?_, fun b o' u q => ?_⟩
    all_goals (rw [upd_ne (fun z => by subst z; rw [h] at q; cases q)]; exact q)
  refine ⟨s.len, s.nd, fun i b m h1 h2 => ?_⟩
  have hne : b ≠ p := fun z => hp (by rw [← z]; exact List.mem_of_getElem? h1)
  have q := s.at_ i b m h1 h2
  cases m with
  | ls l => obtain ⟨xs, e, r⟩ := q; exact ⟨xs, by rw [upd_ne hne]; exact e, r.mono ext l xs⟩
  | fz l => obtain ⟨o, xs, e, r⟩ := q; exact ⟨o, xs, by rw [upd_ne hne]; exact e, r.mono ext l xs⟩
theorem Go.off {μ μ' : List Addr} {H H' : Hp} {p : Addr} {xs ys : List V} (g : Go μ H μ' H') (hn : H p = none) (h : H' p = some (.lst xs)) : Go μ H μ' (upd H' p (.lst ys)) := by
  refine ⟨g.pre, ⟨fun b zs q => ?_, fun b o' u q => ?_⟩, fun b o q hb => ?_, fun b o q => ?_⟩
  · rw [upd_ne (ne_of_none q hn)]; exact g.ext.tup b zs q
  · rw [upd_ne (ne_of_none q hn)]; exact g.ext.frz b o' u q
  · rw [upd_ne (ne_of_none q hn)]; exact g.keep b o q hb
  · obtain ⟨o', e⟩ := g.there b o q
    exact ⟨o', by rw [upd_ne (ne_of_none q hn)]; exact e⟩
theorem lcGo_ok {step : D → Store → Out (Option D)} {ok : Store → Bool} {ds : List D} {st s2 : Store} {xs : List D} (h : lcGo step ok ds st = .ok xs s2) : ok st = true := by
  cases ds with
  | nil =>
    unfold lcGo at h
    split at h
    · assumption
    · cases h
  | cons d ds =>
    unfold lcGo at h
    split at h
    · assumption
    · cases h
abbrev noX : WX := fun _ _ _ _ => False
theorem lc_goal {gi : SemI} {t : Tg} {cnd : SemT} {ge : SemE} {own : List Nat} {σ : L2.St} {H : Hp} {Q : VK} {env : Env} {μ : List Addr} {st : Store} (hsl : ∀ i ∈ t.slots, i ∈ own) (he : EnvOk G.K G.fa μ H env σ) (hst : StOk G.K H μ st)
    (h : Pst G W σ μ H (RA G) (gLc gi t cnd ge own env st) Q) : tLc (rdI G W gi) (tgG G.K t) (rdT G noX cnd) (tFzE (rdE G noX ge)) own σ H Q := by
  refine ⟨env, μ, st, he, hst, (Pst.bind (R := RI G) (Pst.settled hst.len h)).mono fun J H1 ⟨src, μ1, st1, g1, s1, ⟨Gd, wk, hgd⟩, p1⟩ => fun Da hD => ?_⟩
  split at p1
  · rename_i hz
    split at p1
    · rename_i xs s2 elc
      have hDμ : Da ∉ μ1 := s1.out hD
      refine L2.lc_it wk (fun i H' => ∃ st' acc vacc xs', Go μ1 H1 μ1 H' ∧ StOk G.K H' μ1 st' ∧ H' Da = some (.lst vacc) ∧ RepDs G.K H' acc vacc ∧ acc.length ≤ i ∧ lcGo (lcStep t cnd ge (wipeE env own)) src.ok (src.items.drop i) st' = .ok xs' s2 ∧ xs = acc ++ xs')
        ⟨st1, [], [], xs, Go.new hD hDμ, s1.new hD, upd_same, .nil, Nat.le_refl _, by rw [List.drop_zero]; exact elc, rfl⟩
        (fun i H' _ ⟨st', acc, vacc, xs', g', s', _, _, _, e', _⟩ => hgd μ1 st' H' g' s' (lcGo_ok e')) (fun i x H2 H3 hlt ⟨st', acc, vacc, xs', g', s', hDa, hr, hla, e', ex⟩ ⟨gw, d, hd, rd⟩ => ?_) (fun H' ⟨st', acc, vacc, xs', g', s', hDa, hr, hla, e', ex⟩ => ?_)
      · have hdr : src.items.drop i = d :: src.items.drop (i + 1) := by
          rw [List.drop_eq_getElem_cons hlt]
          have := List.getElem?_eq_getElem hlt
          rw [hd] at this
          rw [← Option.some.inj this]
        rw [hdr] at e'
        unfold lcGo at e'
        split at e'
        · split at e'
          · rename_i o s3 estep
            split at e'
            · rename_i ys s4 erest
              cases e'
              unfold lcStep at estep
              split at estep
              · cases estep
              · rename_i env1 hput
                have g2 := gw.go μ1
                have e0 : EnvOk G.K G.fa μ1 H3 (wipeE env own) (L2.wipe σ own) := (((he.mono g1).mono g').mono g2).wipe own
                refine tg_run hput rd e0 fun σ2 e2 w2 => ⟨by rw [w2 own hsl, wipe_wipe], env1, μ1, st', e2, s'.grow gw, ?_⟩
                cases ec : cnd env1 st' with
                | bad => rw [ec] at estep; cases estep
                | exn ee s5 => rw [ec] at estep; cases estep
                | ok bb s5 =>
                  rw [ec] at estep
                  simp only [bind_ok] at estep
                  intro b' H4 μ4 g4 s4' r4
                  rw [show b' = bb from r4]
                  clear r4
                  have gg : Go μ1 H1 μ4 H4 := (g'.trans g2).trans g4
                  have hD4 : H4 Da = some (.lst vacc) := g4.keep Da _ (gw Da _ hDa) hDμ
                  have fgt : ∀ {s6 : Store} {H6 : Hp} {μ6 : List Addr}, Go μ1 H1 μ6 H6 → StOk G.K H6 μ6 s6 → StOk G.K H6 μ1 (s6.take st'.length) := fun {s6 H6 μ6} g6 s6' => by
                    have t6 := s6'.take μ1.length
                    rw [g6.takeEq, s'.len] at t6
                    exact t6
                  have rd' : ∀ {H6 : Hp} {μ6 : List Addr}, Go μ1 H2 μ6 H6 → RepDs G.K H6 acc vacc := fun g6 => hr.mono g6.ext acc vacc
                  cases bb with
                  | false =>
                    rw [if_neg Bool.false_ne_true] at estep ⊢
                    cases estep
                    exact ⟨_, acc, vacc, ys, gg.forget, fgt gg s4', hD4, rd' (g2.trans g4), by omega, erest, ex⟩
                  | true =>
                    simp only [if_true] at estep ⊢
                    cases ee : ge env1 s5 with
                    | bad => rw [ee] at estep; cases estep
                    | exn eee s6 => rw [ee] at estep; cases estep
                    | ok av s6 =>
                      rw [ee] at estep
                      simp only [bind_ok] at estep
                      refine ⟨env1, μ4, s5, e2.mono g4, s4', ?_⟩
                      rw [ee]
                      intro y H5 μ5 g5 s5' r5
                      split at estep
                      · rename_i xd s7 efz
                        cases estep
                        refine (freeze_goal s5' r5 efz).mono fun H6 ⟨t6, rx, g6⟩ => ?_
                        have gall : Go μ1 H1 μ5 H6 := (gg.trans g5).trans g6
                        have g26 : Go μ1 H2 μ5 H6 := ((g2.trans g4).trans g5).trans g6
                        have hD6 : H6 Da = some (.lst vacc) := g26.keep Da _ hDa hDμ
                        have hl := (rd' g26).length
                        refine ⟨vacc, hD6, ?_, ?_⟩
                        · rw [hl]; rw [← lid]; unfold LID at *; omega
                        · have extU : Ext H6 (upd H6 Da (.lst (vacc ++ [y]))) := by
                            refine ⟨fun b zs q => ?_, fun b o' u q => ?_⟩
                            all_goals (rw [upd_ne (fun z => by subst z; rw [hD6] at q; cases q)]; exact q)
                          refine ⟨_, acc ++ [xd], vacc ++ [y], ys, gall.forget.off hD hD6, (fgt gall t6).off hDμ hD6, upd_same, ((rd' g26).mono extU acc vacc).append (.cons (rx.mono extU xd y) .nil), by rw [List.length_append, List.length_singleton]; omega, erest, ?_⟩
                          rw [ex, List.append_assoc]; rfl
                      · cases estep
            · cases e'
          · cases e'
        · cases e'
      · rw [List.drop_of_length_le (Nat.le_refl _)] at e'
        unfold lcGo at e'
        split at e'
        · cases e'
          rw [List.append_nil] at ex
          subst ex
          refine p1 _ H' (μ1 ++ [Da]) ⟨⟨[Da], rfl, fun a ha => by rw [List.mem_singleton.mp ha]; exact hD⟩, g'.ext, g'.keep, g'.there⟩ (s'.push hDμ ⟨vacc, hDa, hr⟩) ⟨Da, rfl, ?_⟩
          rw [← s'.len, List.getElem?_append_right (Nat.le_refl _), Nat.sub_self]; rfl
        · cases e'
    · exact p1.elim
  · exact p1.elim
theorem de_lc {elt iter : Expr} {ifs : List Expr} {scope : Scope} {own : List (Str × Nat)} {gi : SemI} {t : Tg} {cnd : SemT} {ge : SemE} (hK : G.K = X.K) (hc : X.calm = true) (hN : X.N.Nodup) (hi : DI G X W tg iter gi) (ok : BlkOk X.N X.env.scope scope own)
    (hg : ∀ (s : Shared) (H : Hp) (C : Addr) (cl : List (Str × Addr)) (fp : List Addr), TgAt (X.blk s H scope (compEnvC scope cl C X.env) fp) tg t) (ht : ∀ (s : Shared) (H : Hp) (C : Addr) (cl : List (Str × Addr)) (fp : List Addr), PTs (X.blk s H scope (compEnvC scope cl C X.env) fp) ifs (rdT G noX cnd))
    (he : ∀ (s : Shared) (H : Hp) (C : Addr) (cl : List (Str × Addr)) (fp : List Addr), DE G (X.blk s H scope (compEnvC scope cl C X.env) fp) noX elt ge) (hsl : ∀ i ∈ t.slots, i ∈ own.map (·.2)) (hs : ∀ x, foldedSetIterable iter X.env x = pure x) :
    DE G X W (.ListComp elt [⟨tg, iter, ifs, 0⟩] scope pos) (gLc gi t cnd ge (own.map (·.2))) :=
  PE.weak (pe_lc (g := tgG G.K t) hc hN hi ok (fun s H C cl fp => pg_tgK (X := X.blk s H scope (compEnvC scope cl C X.env) fp) hK hc hN (hg s H C cl fp)) ht (fun s H C cl fp => PE.fz (he s H C cl fp)) hs) fun σ H Q ⟨env, μ, st, hen, hst, h⟩ => by
    exact lc_goal hsl hen hst h
theorem ds_setLc {i : Nat} {y : Str} {py spos : Pos} {elt iter : Expr} {ifs : List Expr} {scope : Scope} {own : List (Str × Nat)} {gi : SemI} {t : Tg} {cnd : SemT} {ge : SemE} (hK : G.K = X.K) (hc : X.calm = true) (hN : X.N.Nodup) (hy : X.N[i]? = some y) (hyl : X.env.scope.names.lookup y = some .local)
    (hsw : swapsWith (.ListComp elt [⟨tg, iter, ifs, 0⟩] scope pos) (some (.Name y py)) spos.line X.env = pure true) (hi : DI G X W tg iter gi) (ok : BlkOk X.N X.env.scope scope own)
    (hg : ∀ (s : Shared) (H : Hp) (C : Addr) (cl : List (Str × Addr)) (fp : List Addr), TgAt (X.blk s H scope (compEnvC scope cl C X.env) fp) tg t) (ht : ∀ (s : Shared) (H : Hp) (C : Addr) (cl : List (Str × Addr)) (fp : List Addr), PTs (X.blk s H scope (compEnvC scope cl C X.env) fp) ifs (rdT G noX cnd))
    (he : ∀ (s : Shared) (H : Hp) (C : Addr) (cl : List (Str × Addr)) (fp : List Addr), DE G (X.blk s H scope (compEnvC scope cl C X.env) fp) noX elt ge) (hsl : ∀ i ∈ t.slots, i ∈ own.map (·.2)) (hs : ∀ x, foldedSetIterable iter X.env x = pure x) :
    DS G X W (.Assign [.Name y py] (.ListComp elt [⟨tg, iter, ifs, 0⟩] scope pos) spos) (sSet i (gLc gi t cnd ge (own.map (·.2)))) :=
  PS.weak (ps_setLc (g := tgG G.K t) hc hN hy hyl hsw hi ok (fun s H C cl fp => pg_tgK (X := X.blk s H scope (compEnvC scope cl C X.env) fp) hK hc hN (hg s H C cl fp)) ht (fun s H C cl fp => PE.fz (he s H C cl fp)) hs) fun D' σ H ⟨env, μ, st, hen, hst, h⟩ => by
    have q := lc_goal (Q := fun v H1 => D'.nx (σ.set i (some v)) H1) hsl hen hst ((PstS.expr (R := RA G) hen h).mono fun v H1 ⟨a, μ1, st1, g1, s1, r1, e1, p1⟩ => p1 _ H1 μ1 g1 s1 (e1.set r1))
    exact q
end
end PD
end

section
set_option Elab.async false
set_option linter.all false
set_option maxRecDepth 100000
set_option maxHeartbeats 4000000
/-! PD12: lists that change; a, b = ..; x op= .. -/
namespace PD
open PySem PySem.Spec PyProof.Rows L2

section
variable {G : Gb} {X : Cx} {W : WX} {a b c e o i v : Expr} {es : List Expr} {ga gb gc g go gi gv : SemE} {gs : SemAs} {pos p p2 p3 apos cpos tpos : Pos} {x y : Str} {tg : Expr} {elts : List Expr} {kk : Nat}
theorem nd_inj {μ : List Addr} (h : μ.Nodup) {i j : Nat} {a b : Addr} (h1 : μ[i]? = some a) (h2 : μ[j]? = some b) (hne : i ≠ j) : a ≠ b := fun z => hne (by
  subst z
  have k1 := List.getElem?_eq_some_iff.mp h1
  have k2 := List.getElem?_eq_some_iff.mp h2
  exact (List.getElem_inj h).mp (k1.2.trans k2.2.symm))
theorem StOk.put {K : Fr} {μ : List Addr} {H : Hp} {st : Store} {n : Nat} {p : Addr} {xs ys : List V} {l : List D} (s : StOk K H μ st) (hp : μ[n]? = some p) (h : H p = some (.lst xs)) (r : RepDs K (upd H p (.lst ys)) l ys) : StOk K (upd H p (.lst ys)) μ (st.set n (.ls l)) := by
  have ext : Ext H (upd H p (.lst ys)) := by
    refine ⟨fun b ys q => ?_, fun b o' u q => ?_⟩
    all_goals (rw [upd_ne (fun z => by subst z; rw [h] at q; cases q)]; exact q)
  refine ⟨by rw [List.length_set]; exact s.len, s.nd, fun i b m h1 h2 => ?_⟩
  by_cases hi : i = n
  · subst hi
    rw [hp] at h1; cases h1
    have hl : i < st.length := by rw [← s.len]; exact (List.getElem?_eq_some_iff.mp hp).1
    rw [List.getElem?_set_self hl] at h2; cases h2
    exact ⟨ys, upd_same, r⟩
  · rw [List.getElem?_set_ne (Ne.symm hi)] at h2
    have hne : b ≠ p := nd_inj s.nd h1 hp hi
    have q := s.at_ i b m h1 h2
    cases m with
    | ls l => obtain ⟨xs, e, r⟩ := q; exact ⟨xs, by rw [upd_ne hne]; exact e, r.mono ext l xs⟩
    | fz l => obtain ⟨o, xs, e, r⟩ := q; exact ⟨o, xs, by rw [upd_ne hne]; exact e, r.mono ext l xs⟩
theorem Ext.lst {H : Hp} {p : Addr} {xs ys : List V} (h : H p = some (.lst xs)) : Ext H (upd H p (.lst ys)) := by
  refine ⟨fun b ys q => ?_, fun b o' u q => ?_⟩
  all_goals (rw [upd_ne (fun z => by subst z; rw [h] at q; cases q)]; exact q)
theorem Go.put {μ : List Addr} {H : Hp} {n : Nat} {p : Addr} {xs ys : List V} (hp : μ[n]? = some p) (h : H p = some (.lst xs)) : Go μ H μ (upd H p (.lst ys)) := by
  refine ⟨⟨[], by simp, by simp⟩, Ext.lst h, fun b u q hb => ?_, fun b u q => ?_⟩
  · rw [upd_ne (fun z => hb (by rw [z]; exact List.mem_of_getElem? hp))]; exact q
  · by_cases hb : b = p
    · subst hb; exact ⟨_, upd_same⟩
    · exact ⟨u, by rw [upd_ne hb]; exact q⟩
/-- what is new is forgotten -/
theorem StOk.forget {K : Fr} {μ μ' : List Addr} {H H' : Hp} {st : Store} (s : StOk K H' μ' st) (g : Go μ H μ' H') {L : Nat} (hL : μ.length = L) : StOk K H' μ (st.take L) := by
  have t := s.take μ.length
  rw [g.takeEq, hL] at t
  exact t
/-- an expression further on, the first base kept -/
theorem PstS.exprB {D : Ends} {σ : L2.St} {μ μ1 : List Addr} {H H1 : Hp} {α β : Type} {R : RP α β} {env : Env} {o : Out α} {f : α → Store → SO} (g1 : Go μ H μ1 H1) (he : EnvOk G.K G.fa μ1 H1 env σ) (h : PstS G W D μ H (o.toS env f)) :
    Pst G W σ μ1 H1 R o (fun v H2 => ∃ a μ2 st2, Go μ1 H1 μ2 H2 ∧ StOk G.K H2 μ2 st2 ∧ R μ2 H2 a v ∧ EnvOk G.K G.fa μ2 H2 env σ ∧ PstS G W D μ H (f a st2)) := by
  cases o with
  | ok a st => exact fun v H' μ' g s r => ⟨a, μ', st, g, s, r, he.mono g, h⟩
  | exn e st => exact fun c d H' μ' g s x => h c d σ H' μ' (g1.trans g) s (he.mono g) x
  | bad => exact h
theorem ds_append (hK : G.K = X.K) (ho : DE G X W o go) (hv : DE G X W v gv) (hst : starEach [v] X.env = [(false, eval v X.env)]) (hbase : attributeBase o "append" X.env (eval o X.env) = eval o X.env)
    (hfew : ((backTo cpos (starEach [v] X.env)).all (fun x => !x.1) && (backToKw cpos (keywordEach [] X.env)).all (fun x => x.1.isSome)
      && decide ([v].length + ([] : List Keyword).length + (if ([] : List Keyword).isEmpty then 0 else 1) < 30)) = true)
    (hline : (apos.endLine == cpos.line) = true) (hs : swapsWith (.Call (.Attribute o "append" apos) [v] [] cpos) none pos.line X.env = pure false) :
    DS G X W (.Expr (.Call (.Attribute o "append" apos) [v] [] cpos) pos) (sAppend go gv) :=
  PS.weak (ps_expr (pe_bm F.plainAttrs_list F.slot_list_append F.type_list_append mt_append ho (PA.fz (das_one hv hst)) hbase hfew hline hst rfl) hs) fun D' σ H ⟨env, μ, st, he, hst, h⟩ => by
    refine ⟨env, μ, st, he, hst, (PstS.expr (R := RA G) he h).mono fun x H1 ⟨xa, μ1, st1, g1, s1, r1, e1, p1⟩ => ?_⟩
    split at p1
    · rename_i n
      obtain ⟨ad, rfl, hm⟩ := r1
      have hmem := List.mem_of_getElem? hm
      refine ⟨.inl ⟨rfl, ?_⟩, env, μ1, st1, e1, s1, arg_one ((PstS.exprB (R := RA G) g1 e1 p1).mono fun v H2 ⟨va, μ2, st2, g2, s2, r2, e2, p2⟩ => ?_)⟩
      · rcases s1.what hmem with ⟨xs, q⟩ | ⟨o, xs, q⟩
        · exact ⟨xs, .inl (.inl q)⟩
        · exact ⟨xs, .inl (.inr ⟨o, q⟩)⟩
      · split at p2
        · rename_i d s3 ef
          split at p2
          · rename_i l el
            split at p2
            · rename_i hz
              refine (freeze_goal s2 r2 ef).mono fun H3 ⟨t3, rd, g3⟩ => ?_
              have hm2 := g2.get hm
              obtain ⟨xs, ex, rx⟩ := t3.at_ n ad _ hm2 el
              refine ⟨ad, xs, v, rfl, rfl, ex, by rw [rx.length, ← lid]; exact hz, ?_⟩
              have gp : Go μ2 H3 μ2 (upd H3 ad (.lst (xs ++ [v]))) := Go.put hm2 ex
              have t4 := t3.put hm2 ex ((rx.mono gp.ext l xs).append (.cons (rd.mono gp.ext d v) .nil))
              have gall := ((g1.trans g2).trans g3).trans gp
              exact p2 σ _ μ gall.forget (t4.forget gall hst.len) (he.mono gall.forget)
            · exact p2.elim
          · exact p2.elim
        · exact p2.elim
    · exact p1.elim
theorem ds_setIx (hK : G.K = X.K) (hv : DE G X W v gv) (ho : DE G X W o go) (hi : DE G X W i gi)
    (hasg : ∀ v, assign (.Subscript o i tpos) X.env v = (do
      let ov ← holding [v] (eval o X.env)
      let iv ← holding [v, ov] (eval i X.env)
      standAt tpos
      holding [v, ov, iv] (setItem ov iv v)
      release [v, ov, iv] []))
    (hs : swapsWithSole [.Subscript o i tpos] v pos.line X.env = pure false) (hw : swappedStores [.Subscript o i tpos] v X.env = pure none) :
    DS G X W (.Assign [.Subscript o i tpos] v pos) (sSetIx go gi gv) :=
  PS.weak (ps_asg hv (pg_sub ho (PE.fz hi) set_list hasg) hs hw rfl) fun D' σ H ⟨env, μ, st, he, hst, h⟩ => by
    refine ⟨env, μ, st, he, hst, (PstS.expr (R := RA G) he h).mono fun x H1 ⟨xa, μ1, st1, g1, s1, r1, e1, p1⟩ => ?_⟩
    refine ⟨env, μ1, st1, e1, s1, (PstS.exprB (R := RA G) g1 e1 p1).mono fun ov H2 ⟨oa, μ2, st2, g2, s2, r2, e2, p2⟩ => ?_⟩
    refine ⟨env, μ2, st2, e2, s2, (PstS.exprB (R := RA G) (g1.trans g2) e2 p2).mono fun iv H3 ⟨ia, μ3, st3, g3, s3, r3, e3, p3⟩ => ?_⟩
    split at p3
    · rename_i n k d s4 ef _
      split at p3
      · rename_i l el
        split at p3
        · rename_i j hj
          obtain ⟨ad, rfl, hm⟩ := r2
          cases (show iv = V.int k from r3)
          have hm3 := g3.get hm
          refine (freeze_goal s3 (RepA.mono g3 (RepA.mono g2 r1)) ef).mono fun H4 ⟨t4, rd, g4⟩ => ?_
          obtain ⟨xs, ex, rx⟩ := t4.at_ n ad _ hm3 el
          refine ⟨ad, xs, k, j, rfl, rfl, ex, by rw [rx.length, ← place_ix, hj], ?_⟩
          have gp : Go μ3 H4 μ3 (upd H4 ad (.lst (xs.set j x))) := Go.put hm3 ex
          have t5 := t4.put hm3 ex ((rx.mono gp.ext l xs).set (rd.mono gp.ext d x) j)
          have gall := (((g1.trans g2).trans g3).trans g4).trans gp
          exact p3 σ _ μ gall.forget (t5.forget gall hst.len) (he.mono gall.forget)
        · exact p3.elim
      · exact p3.elim
    · exact p3.elim
theorem ds_par {i j : Nat} {px py pt : Pos} {kt k2 pt2} (hc : X.calm = true) (hN : X.N.Nodup) (hi : X.N[i]? = some x) (hj : X.N[j]? = some y) (hij : i ≠ j)
    (hx : X.env.scope.names.lookup x = some .local) (hy : X.env.scope.names.lookup y = some .local) (ha : DE G X W a ga) (hb : DE G X W b gb) (hsa : starEach [a, b] X.env = (false, eval a X.env) :: starEach [b] X.env) (hsb : starEach [b] X.env = [(false, eval b X.env)])
    (hw : swappedStores [.Tuple [.Name x px, .Name y py] kt pt] (.Tuple [a, b] k2 pt2) X.env = pure (some [x, y]))
    (hs : swapsWithSole [.Tuple [.Name x px, .Name y py] kt pt] (.Tuple [a, b] k2 pt2) pos.line X.env = pure false) :
    DS G X W (.Assign [.Tuple [.Name x px, .Name y py] kt pt] (.Tuple [a, b] k2 pt2) pos) (sPar i j ga gb) :=
  PS.weak (ps_par hc hN hi hj hij hx hy (das_cons ha (das_one hb hsb) hsa) hw hs) fun D' σ H ⟨env, μ, st, he, hst, h⟩ => by
    refine ⟨env, μ, st, he, hst, ?_⟩
    unfold sPar at h
    unfold gCons
    cases ea : ga env st with
    | bad => rw [ea] at h; exact h.elim
    | exn ee s1 => rw [ea] at h; exact fun c d H' μ' g s x => h c d σ H' μ' g s (he.mono g) x
    | ok xa s1 =>
      rw [ea] at h
      simp only [toS_ok, bind_ok] at h ⊢
      cases eb : gb env s1 with
      | bad => rw [eb] at h; exact h.elim
      | exn ee s2 =>
        simp only [gCons, eb, bind_exn]
        rw [eb] at h
        exact fun c d H' μ' g s x => h c d σ H' μ' g s (he.mono g) x
      | ok ya s2 =>
        simp only [gCons, eb, bind_ok, gNil]
        rw [eb] at h
        simp only [toS_ok] at h
        intro vs H' μ' g' s' r
        cases r with
        | cons r rr =>
          cases rr with
          | cons r2 rr =>
            cases rr
            exact ⟨_, _, rfl, h _ H' μ' g' s' (((he.mono g').set r).set r2)⟩
theorem ds_aug {i : Nat} {op : Operator} {pr : Prim} {pos' : Pos} (hN : X.N.Nodup) (hi : X.N[i]? = some x) (hx : Loc X.env.scope x) (ha : DE G X W e g) (ho : PIp X op (rP2 G.K pr)) (hf : X.fn x = true ∨ X.env.scope.names.lookup x = some .local) :
    DS G X W (.AugAssign (.Name x pos') op e pos) (sAug i pr g) :=
  PS.weak (ps_aug hN hi hx ha ho hf) fun D' σ H ⟨env, μ, st, he, hst, h⟩ => by
    unfold sAug at h
    split at h
    · rename_i xd exd
      obtain ⟨xv, hxv, rx⟩ := he.at_ i _ exd
      refine ⟨xv, hxv, env, μ, st, he, hst, (PstS.expr (R := RA G) he h).mono fun y H1 ⟨ya, μ1, st1, g1, s1, r1, e1, p1⟩ => ?_⟩
      split at p1
      · rename_i yd eyd
        split at p1
        · rename_i z ez
          refine ⟨[xd, yd], _, .cons (RepD.n (rx.mono g1)) (.cons (now_rep s1 r1 eyd) .nil), ez, fun v H2 gw rr => ?_⟩
          have g2 := gw.go μ1
          have gall := g1.trans g2
          exact p1 _ H2 μ gall.forget ((s1.grow gw).forget gall hst.len) ((he.mono gall.forget).set (a := .d z) rr)
        · exact p1.elim
      · exact p1.elim
    · exact h.elim
theorem iop_pAdd : PIp X .Add (rP2 X.K pIAdd) := by
  have h := op_by (X := X) (p := pIAdd) (iop_add.or iop_add_str) fun a b res x y H Q ra rb hp q => (by
    unfold pIAdd at hp
    split at hp
    · rename_i i j e
      cases e; cases hp
      exact .inl ⟨i, j, ra, rb, q _ H (Grow.refl H) rfl⟩
    · rename_i s t e
      cases e
      split at hp
      · rename_i hz
        cases hp
        refine .inr ⟨_, _, ra.1, rb.1, ?_, ?_⟩
        · rw [slen, slen, ← lid]; exact hz
        · exact q _ H (Grow.refl H) ⟨by rw [sapp], goodS_app ra.2 rb.2⟩
      · cases hp
    · cases hp)
  exact fun pins s σ H x y v u Q I rx ry hw => h pins s σ H x y v u Q I rx ry hw
theorem iop_pSub : PIp X .Sub (rP2 X.K pSub) := by
  have h := op_by (X := X) (p := pSub) iop_sub fun a b res x y H Q ra rb hp q => (by
    unfold pSub at hp
    split at hp
    · rename_i i j e
      cases e; cases hp
      exact ⟨i, j, ra, rb, q _ H (Grow.refl H) rfl⟩
    · cases hp)
  exact fun pins s σ H x y v u Q I rx ry hw => h pins s σ H x y v u Q I rx ry hw
end
end PD
end

section
set_option Elab.async false
set_option linter.all false
set_option maxRecDepth 100000
set_option maxHeartbeats 4000000
/-! PD13: own exceptions: X(); X(e) whose __init__ says super().__init__(x); self.f = x. -/
namespace PD
open PySem PySem.Spec PyProof.Rows L2

section
variable {X : Cx} {x : Str} {p pos : Pos} {C : Addr}
abbrev exTl : List Value := [.type "Exception", .type "BaseException", .type "object"]
/-- X() -/
theorem pmk_own0 (q : PySem.W.excIn X.K C exTl "Exception.__new__" = true) (gC : X.mg x = some (.ref C)) (kC : PySem.W.keepIn X.K (.ref C) = true) (r : Raises X (.ref C)) (hg : Gl X x)
    (hdb : (x == ("__debug__" : Str)) = false) : PMk X (.Call (.Name x p) [] [] pos) (fun _ H Q => Q (.ref C) none H) := by
  intro pins s σ H Q I h
  refine wpAny_Call_Name_kw (ld_glob I hg gC ?_ hdb)
  refine PySem.W.callWith_K0 I.kIn kC ?_
  obtain ⟨bm, N, nm, qn, bs, hdct, sn, sub, ab, col, dd, k0, k1, k2, k3, k5, mN, hC, hN, hni, T⟩ := exc_obj I.kIn q
  refine wpAny_call_exc_subT F.excBase_Exception T hC hN hni (fun h' e hm => ?_) (by show 0 ≤ sizeLine; omega)
  exact mk_of I hm r h (I.hok.gone hm.new)
end

/-- what the written part says of a class whose __init__ is: super().__init__(x); self.f = x -/
structure SupC (prog : Program) (K : Fr) (C fI : Addr) (f px : Str) : Prop where
  q : PySem.W.excInitIn K C exTl "Exception.__new__" = true
  ov : PySem.W.excOver K C exTl = true
  hi : PySem.W.findIn K (.ref C) "__init__" = some (some (.ref fI))
  hf : PySem.W.isFn K (.ref fI) = true
  kC : PySem.W.keepIn K (.ref C) = true
  sa : PySem.W.findIn K (.ref C) "__setattr__" = some (some (.builtin "object.__setattr__"))
  tk : PySem.W.takerIn K C f = some none
  dc : PySem.W.hasDictIn K C = true
  su : PySem.W.ks_superIn K C C "__init__" = some (some (.builtin "Exception.__init__"))
  sx : PySem.W.subIn K (.ref C) (.type "Exception") = some true
  sb : PySem.W.subIn K (.ref C) (.type "BaseException") = some true
  ty : PySem.W.typeIn K (.ref C) = some (.type "type")
  mr : PySem.W.mroIn K C (.ref C) = some true
  tp : PySem.W.nsIn K cStatics "thirdparty.any" = some none
  sp : PySem.W.nsIn K mainGlobals "super" = some none
  fn : ∃ (cc cda : Addr) (oc : Value) (od : Option Addr) (osl : Array (Option Value)) (name qual : Str) (params : Arguments) (scope : Scope) (dV kV doc pm ct : Value) (an : Option Addr) (body : List Stmt) (p0 p1 p2 p3 p4 p5 p6 p7 p8 p9 : Pos) (ar : Arg)
      (ccl : Value) (cdd : Option Addr) (vs : Array Value) (ccs : Array (Option Value)) (file : Str) (tf : Tok) (cl : Value) (cld : Option Addr) (csl : Array (Option Value)),
    K.lookup fI = some ⟨oc, od, .func (PySem.W.ksFn name qual params body scope dV kV doc pm an (.ref cda) ct cc), osl⟩ ∧
    body = [.Expr (.Call (.Attribute (.Call (.Name "super" p0) [] [] p1) "__init__" p2) [.Name px p3] [] p4) p5, .Assign [.Attribute (.Name "self" p6) f p7] (.Name px p8) p9] ∧
    (params.posonlyargs ++ params.args).head? = some ar ∧ ar.arg = "self" ∧
    scope.kind = .function ∧ scope.isCoroutine = false ∧ scope.isGenerator = false ∧ (∀ x ∈ scope.names, x.2 ≠ .cell) ∧
    scope.names.lookup ("super" : Str) = some .globalImplicit ∧ scope.names.lookup ("__class__" : Str) = some .free ∧ scope.names.lookup ("self" : Str) = some .local ∧ scope.names.lookup px = some .local ∧
    PySem.W.codeIn K (.ref cda) qual = true ∧ K.lookup cda = some ⟨ccl, cdd, .fields vs, ccs⟩ ∧ vs[2]? = some (.str file tf) ∧ ((prog.main.file : Str) == file) = true ∧ (prog.main.scope.names.lookup ("super" : Str)).isSome = false ∧
    K.lookup cc = some ⟨cl, cld, .cell (some (.ref C)), csl⟩ ∧ Binds K (PySem.W.ksFn name qual params body scope dV kV doc pm an (.ref cda) ct cc) ["self", px] [] ∧
    ("self" : Str) ≠ px ∧ (px == ("__debug__" : Str)) = false ∧ (px == ("__classdict__" : Str)) = false ∧
    ∃ pl : Sem Bool, ∀ L : Addr, eval (.Call (.Attribute (.Call (.Name "super" p0) [] [] p1) "__init__" p2) [.Name px p3] [] p4) (PySem.W.ksEnv qual scope L fI (.ref cda) cc) = (do
      let ov ← attributeBase (.Call (.Name "super" p0) [] [] p1) "__init__" (PySem.W.ksEnv qual scope L fI (.ref cda) cc) (eval (.Call (.Name "super" p0) [] [] p1) (PySem.W.ksEnv qual scope L fI (.ref cda) cc))
      standAt p2.atName
      let (f, first) ← holding [ov] (getMethod ov "__init__" pl)
      callWith p4 f first (backTo p4 (starEach [.Name px p3] (PySem.W.ksEnv qual scope L fI (.ref cda) cc))) [])

section
open PySem.W PySem.Calls Builtin Builtin.ObjectAttr
variable {prog : Program} {w : World} {A : Around} {E : Value → Shared → Prop} {R : Result → Shared → Prop} {hp : Heap} {g : Array GenState} {d : Drawn} {t : Nat} {os : OsState}
theorem osa_newT {K : Frag} {name : Str} {tk : Tok} {v : Value} {x C : Addr} {fv : Array Value}
    (X : K.In hp) (hx : hp.get? x = some { cls := .ref C, data := .fields fv }) (ho : excOver K C exTl = true) (hh : hasDictIn K C = true) (ha : takerIn K C name = some none)
    (hq : ∀ h' tk' dx, (∀ b o, b ≠ x → hp.get? b = some o → h'.get? b = some o) → hp.objs.size ≤ dx → dx ≠ x → h'.get? x = some { cls := .ref C, dict := some dx, data := .fields fv } →
      h'.Ns1 dx (fun y => if y = name then some v else none) → R (.ok (.ret .none)) ⟨h', g, d, tk', os⟩) :
    codeAny (model prog w) A (.call (.builtin "object.__setattr__") ⟨[.ref x, .str name tk, v], []⟩) R ⟨hp, g, d, t, os⟩ := by
  have I : W.InstAt hp x { cls := .ref C, data := .fields fv } C none := ⟨hx, rfl, rfl, trivial⟩
  have hxs : x ≠ hp.objs.size := Nat.ne_of_lt (Heap.lt_size hx)
  refine osa_openX (s := ⟨hp, g, d, t, os⟩) F.store_Exception X I ho ha fun b => ?_
  show wpAny _ _ (storeInOwnDict (.ref x) (.ref C) (.str name tk) name v b) _ _ _
  obtain ⟨cd, hcd, hh⟩ := any_some hh
  have hcls : W.Looks (model prog w) hp (classData C) cd := W.looks_clsIn X hcd
  obtain ⟨nm, bs, mro, ns, qn, hd, sn, sb, ab, col, del⟩ := cd
  dsimp only at hh
  subst hh
  unfold storeInOwnDict ownDictForStores
  repeat (first | with_reducible refine HandSPX.store_in_new ?_ ?_ | with_reducible refine wpAny_loadPart_at hx ?_ | with_reducible refine hcls.at ?_ | wp_step)
  · exact ⟨_, #[], _, (Heap.get?_update_ne _ _ _ _ hxs.symm).trans (Heap.get?_push_at rfl rfl), rfl, fun e he => absurd he (by simp), fun _ => rfl⟩
  · intro h' tk' hn' hs
    have hx₁ : (hp.push { cls := .type "dict", data := .dict #[] }).get? x = some { cls := .ref C, data := .fields fv } := Heap.get?_push_of_some _ hx
    refine hq h' tk' hp.objs.size (fun b o hb ho => ?_) (Nat.le_refl _) hxs.symm ?_ hn'
    · exact (hs.2 b (Nat.ne_of_lt (Heap.lt_size ho))).trans ((Heap.get?_update_ne _ _ _ _ hb).trans (Heap.get?_push_of_some _ ho))
    · exact (hs.2 x hxs).trans (Heap.get?_update_self _ hx₁ rfl)
end
section
open PySem.W PySem.Calls
variable {X : Cx} {C fI : Addr} {f px : Str}
theorem exTl_take {K : Frag} {C : Addr} (q : subIn K (.ref C) (.type "BaseException") = some true) (t : typeIn K (.ref C) = some (.type "type")) {X : Cx} (hK : X.K = K) : Raises X (.ref C) := by subst hK; exact raises_own q t
theorem run_sup {pins : List (Addr × Obj)} {σ : L2.St} {H : Hp} {s : Shared} {k : Nat} {u : Value} {Q : Value → Shared → Prop} (I : Inv X pins σ H s) (S : SupC X.prog X.K C fI f px) (hr : Room (k + 1) X.A)
    (h : ∀ h4 tk4 e dx t2, s.heap.objs.size ≤ e → s.heap.objs.size ≤ dx → dx ≠ e → (∀ b o, s.heap.get? b = some o → h4.get? b = some o) →
      h4.get? e = some { cls := .ref C, dict := some dx, data := .fields #[.ref t2, .none, .none, .none, .bool false, .none] } → h4.Ns1 dx (fun y => if y = f then some u else none) → Q (.ref e) { s with heap := h4, toks := tk4 }) :
    wpAny (model X.prog X.w) X.A (call (.ref C) [u]) Q X.xe s := by
  obtain ⟨cc, cda, oc, od, osl, name, qual, params, scope, dV, kV, doc, pm, ct, an, body, p0, p1, p2, p3, p4, p5, p6, p7, p8, p9, ar, ccl, cdd, vs, ccs, file, tf, cl, cld, csl,
    hfI, hbody, har, harg, hsk, hco, hgen, hcell, hsup, hcls, hself, hpx, hcd, hcda, hvs, hfile, htop, hcc, hbind, hne, hdb, hcdn, pl, hev⟩ := S.fn
  subst hbody
  have X₀ := I.ok.mod.kin
  obtain ⟨mb, hmb, hmbb⟩ := I.ok.mod.blt
  have hglob := I.ok.mod.glob
  have KI := I.kIn
  have hbk : ∀ b o, X.base.get? b = some o → s.heap.get? b = some o := I.bk
  have hnl := I.nolimit
  have hbsz : X.base.objs.size ≤ s.heap.objs.size := Nat.le_trans (Nat.le_trans I.ok.bsz I.ok.above) (Nat.le_of_lt I.lt)
  obtain ⟨cdC, hcdC⟩ : ∃ cd, clsIn X.K C = some cd := by
    have := S.su
    unfold ks_superIn at this
    cases q : clsIn X.K C with
    | none => rw [q] at this; cases this
    | some cd => exact ⟨cd, rfl⟩
  have hz1 : ([u] : List Value).length ≤ sizeLine := by show 1 ≤ sizeLine; rw [sizeLine_eq]; omega
  obtain ⟨nmC, N', qnC, bsC, bmC, hdct, sn, sub, ab, col, dd, k0, k1, k2, k3, k5, hC, hT⟩ := excInit_of KI S.q
  obtain ⟨oI, hoI, hcI⟩ : ∃ oI, s.heap.get? fI = some oI ∧ oI.cls = .type "function" := by
    obtain ⟨o, ho, hc⟩ := Option.map_eq_some_iff.mp (show (X.K.lookup fI).map (·.cls) = some (.type "function") from beq_iff_eq.mp S.hf)
    exact ⟨o, KI _ _ ho, hc⟩
  obtain ⟨hp, g, d, tk, os⟩ := s
  have hnone : ∀ b, hp.objs.size ≤ b → hp.get? b = none := fun b hb => Heap.get?_none_of_le hb
  refine wpAny_call (PX.call_own F.excBase_Exception hT hC (looks_findIn KI S.hi) (fun self => exc_bind hoI hcI self) hz1 ?_)
  -- the object and its args are laid
  generalize hh1 : (hp.push (W.kdv_tup [u])).push (PX.excO C hp.objs.size) = h1
  have k1 : ∀ b o, hp.get? b = some o → h1.get? b = some o := fun b o e => by rw [← hh1]; exact Heap.get?_push_of_some _ (Heap.get?_push_of_some _ e)
  have he1 : h1.get? (hp.objs.size + 1) = some (excObj C hp.objs.size none .none) := by
    rw [← hh1]
    have := Heap.get?_push_size (hp.push (W.kdv_tup [u])) (o := PX.excO C hp.objs.size) rfl
    rw [Heap.size_push] at this
    exact this
  have hs1 : h1.objs.size = hp.objs.size + 2 := by rw [← hh1, Heap.size_push, Heap.size_push]
  have K1 : X.K.In h1 := KI.keeps k1
  have hbb : BindsTo (⟨h1, g, d, tk, os⟩ : Shared) _ ⟨[.ref (hp.objs.size + 1), u], []⟩ _ := hbind ⟨h1, g, d, tk, os⟩ [.ref (hp.objs.size + 1), u] K1 rfl
  refine ks_codeAny_call_defAt (s := ⟨h1, g, d, tk, os⟩) (hr.make C [u] []).depth (K1 _ _ hfI) rfl (hnl.keeps k1) (codeRec_of K1 hcd) rfl hbb hcell ?_ (fun h2 hns2 k2 => ?_) hco hgen hsk
  · intro y hy
    rcases List.mem_cons.mp hy with rfl | hy
    · exact hself
    · rcases List.mem_cons.mp hy with rfl | hy
      · exact hpx
      · cases hy
  -- within __init__
  have he2 : h2.get? (hp.objs.size + 1) = some (excObj C hp.objs.size none .none) := k2 _ _ he1
  have hL2 : (⟨h1, g, d, tk, os⟩ : Shared).heap.objs.size = hp.objs.size + 2 := hs1
  rw [hL2] at hns2 ⊢
  have b2 : ∀ b o, X.base.get? b = some o → h2.get? b = some o := fun b o e => k2 b o (k1 b o (hbk b o e))
  have F2 : PyProof.Rows.Fr X.base (hp.objs.size + 2) h2 (fun y => (([("self" : Str), px].zip ([Value.ref (hp.objs.size + 1), u] ++ [])).reverse).lookup y) := ⟨hns2, b2, by have : X.base.objs.size ≤ hp.objs.size := hbsz; omega⟩
  have hbe : X.base.get? (hp.objs.size + 1) = none := Heap.get?_none_of_le (by have : X.base.objs.size ≤ hp.objs.size := hbsz; omega)
  have N2 : PyProof.Rows.News X.base (hp.objs.size + 2) h2 ((hp.objs.size + 1, excObj C hp.objs.size none .none) :: rest X.base h2 (hp.objs.size + 2) (hp.objs.size + 1)) := news_at (Nat.ne_of_lt (Nat.lt_succ_self _)) hbe he2
  have K2 : X.K.In h2 := X₀.keeps b2
  have K3 : ∀ {h3 : Heap}, PyProof.Rows.Fr X.base (hp.objs.size + 2) h3 (fun y => (([("self" : Str), px].zip ([Value.ref (hp.objs.size + 1), u] ++ [])).reverse).lookup y) → X.K.In h3 := fun F => X₀.keeps F.keep
  have mself : (fun y : Str => (([("self" : Str), px].zip ([Value.ref (hp.objs.size + 1), u] ++ [])).reverse).lookup y) "self" = some (Value.ref (hp.objs.size + 1)) := by
    show List.lookup ("self" : Str) [(px, u), (("self" : Str), Value.ref (hp.objs.size + 1))] = _
    have h1 : (("self" : Str) == px) = false := by simpa using hne
    simp [List.lookup, h1]
  have mpx : (fun y : Str => (([("self" : Str), px].zip ([Value.ref (hp.objs.size + 1), u] ++ [])).reverse).lookup y) px = some u := by
    show List.lookup px [(px, u), (("self" : Str), Value.ref (hp.objs.size + 1))] = _
    simp [List.lookup]
  have hint : ∀ L, interactive (ksEnv qual scope L fI (.ref cda) cc) = false := fun L => by unfold interactive; simp [hsk]
  show _root_.PySem.wpAt (model X.prog X.w) (Around.deeper _ (ksEnv qual scope (hp.objs.size + 2) fI (.ref cda) cc)) (.func _ (ksEnv qual scope (hp.objs.size + 2) fI (.ref cda) cc)) (execs _ (ksEnv qual scope (hp.objs.size + 2) fI (.ref cda) cc)) _ _ _
  refine ks_wpAt_execs_cons (ks_wpAt_Expr_any (ks_wpAt_MethodCall ?_ (hev _)) (hint _))
  obtain ⟨oD, hD1, hD2⟩ : ∃ oD, h2.get? C = some oD ∧ oD.data = .cls cdC := by
    unfold clsIn at hcdC
    split at hcdC
    · rename_i c d cd' sl ho
      cases hcdC
      exact ⟨_, K2 _ _ ho, rfl⟩
    · cases hcdC
  have I2 : InstAt h2 (hp.objs.size + 1) (excObj C hp.objs.size none .none) C none := ⟨he2, rfl, rfl, trivial⟩
  refine ks_wpAt_super_base (env := ksEnv qual scope (hp.objs.size + 2) fI (.ref cda) cc) hsup hcls (by decide) rfl (K2 _ _ hfI) rfl har rfl (K2 _ _ hcda) rfl hvs hfile htop ?_
  refine ks_loadName_global hsk hsup (loadGlobal_builtin (env := ksEnv qual scope (hp.objs.size + 2) fI (.ref cda) cc) (hglob.keeps b2) (mg_none_of X₀ hglob S.sp) (hmb.keeps b2) ((hmbb _ (by decide +kernel)).trans (by first | boot_by_name | rfl | kernel_rfl)) ⟨rfl, ?_⟩)
  refine wpAny_loadName_free hsk hcls rfl ⟨_, K2 _ _ hcc, rfl⟩ ?_
  rw [harg]
  refine wpAny_loadName_local hsk hself F2.ns mself ?_
  refine ks_wpAny_isType_cls hD1 hD2 ⟨rfl, ?_⟩
  refine ks_wpAny_call_super hD1 hD2 I2.at_ I2.cls (fun c e => ?_) (looks_mroIn K2 S.mr) (fun h3 e3 k3 => ?_)
  · cases e
  obtain ⟨F3, N3, l3⟩ := ks_newsPush (s := ⟨h2, g, d, tk + 2, os⟩) F2 N2 rfl e3 k3
  have I3 : InstAt h3 (hp.objs.size + 1) (excObj C hp.objs.size none .none) C none := ⟨k3 _ _ he2, rfl, rfl, trivial⟩
  refine kxs_method kxs_Exception F3 X₀ N3 List.mem_cons_self I3 S.tp S.su S.sx (by decide) (fun q h4 F4 N4 l4 => ?_)
  have ldx : ∀ {A' : Around} {E' : Value → Shared → Prop} {Q' : Value → Shared → Prop} {s' : Shared} {pz : Pos}, s'.heap.Ns (hp.objs.size + 2) (fun y => (([("self" : Str), px].zip ([Value.ref (hp.objs.size + 1), u] ++ [])).reverse).lookup y) → Q' u s' →
      wpAny (model X.prog X.w) A' (eval (.Name px pz) (ksEnv qual scope (hp.objs.size + 2) fI (.ref cda) cc)) Q' E' s' := fun hn q => wpAny_Name (wpAny_loadName_local hsk hpx hn mpx q) hdb
  refine kxs_callWith1 (i := "Exception.__init__") (x := hp.objs.size + 1) N4 List.mem_cons_self ?_ rfl rfl
  refine spliced_cons (ldx F4.ns (spliced_nil ⟨kxs_at N4 List.mem_cons_self, ?_⟩))
  have q1 : q ≠ hp.objs.size + 1 := fun z => absurd (l4 (hp.objs.size + 1, excObj C hp.objs.size none .none) (List.mem_cons_of_mem _ List.mem_cons_self)) (by rw [z]; exact Nat.lt_irrefl _)
  have q2 : h2.objs.size ≠ hp.objs.size + 1 := fun z => absurd (l3 (hp.objs.size + 1, excObj C hp.objs.size none .none) List.mem_cons_self) (by show ¬ (hp.objs.size + 1 < h2.objs.size); rw [z]; exact Nat.lt_irrefl _)
  refine kxs_call F4 X₀ N4 F.excBase_Exception S.q List.mem_cons_self (.tail q1 (.tail q2 (.head rest_ne))) hz1 (fun t5 h5 F5 N5 l5 => ?_)
  -- self.f = x
  have he5 : h5.get? (hp.objs.size + 1) = some (excObj C t5 none .none) := (N5 _ (List.mem_cons_of_mem _ (List.mem_cons_of_mem _ (List.mem_cons_of_mem _ List.mem_cons_self)))).1
  have N5r : PyProof.Rows.News X.base (hp.objs.size + 2) h5 (rest X.base h2 (hp.objs.size + 2) (hp.objs.size + 1)) := fun p hp => N5 p (List.mem_cons_of_mem _ (List.mem_cons_of_mem _ (List.mem_cons_of_mem _ (List.mem_cons_of_mem _ hp))))
  have k5 := kept_of_news b2 F5 N5r
  refine ks_wpAt_execs_cons (ks_wpAt_Assign_Attr (wpAt_of_wpAny (ldx F5.ns (wpAny_Name (wpAny_loadName_local hsk hself F5.ns mself ?_) (by decide)))))
  refine set_plain (s := ⟨h5, g, d, _, os⟩) (od := none) (ox := excObj C t5 none .none) (K3 F5) ⟨he5, rfl, rfl, trivial⟩ S.sa (osa_newT (K3 F5) he5 S.ov S.dc S.tk (fun h6 tk6 dx k6 sz6 ne6 he6 ns6 => ?_))
  refine wpAt_of_wpAny (wpAny_execs_nil ⟨rfl, ?_⟩)
  have lt1 : ∀ {b : Addr} {o : Obj}, hp.get? b = some o → b < hp.objs.size := fun e => Heap.lt_size e
  have ltL : hp.objs.size + 2 < h5.objs.size := F5.ns.lt
  have sz6' : h5.objs.size ≤ dx := sz6
  have hle : hp.objs.size ≤ dx := by omega
  refine h h6 tk6 (hp.objs.size + 1) dx t5 (Nat.le_succ _) hle ne6 (fun b o e => ?_) he6 ns6
  have hb : b < hp.objs.size := lt1 e
  have n1 : b ≠ hp.objs.size + 1 := Nat.ne_of_lt (Nat.lt_succ_of_lt hb)
  have n2 : b ≠ hp.objs.size + 2 := Nat.ne_of_lt (Nat.lt_succ_of_lt (Nat.lt_succ_of_lt hb))
  exact k6 b o n1 (k5 b o n2 n1 (k2 b o (k1 b o e)))
/-- X(e) -/
theorem pmk_sup {x : Str} {e : Expr} {te : TE} {p pos : Pos} {k : Nat} (S : SupC X.prog X.K C fI f px) (hr : Room (k + 1) X.A) (gC : X.mg x = some (.ref C)) (hg : Gl X x) (he : PE X e te) (hs : starEach [e] X.env = [(false, eval e X.env)]) (hdb : (x == ("__debug__" : Str)) = false) :
    PMk X (.Call (.Name x p) [e] [] pos) (fun σ H Q => te σ H fun v H1 => ∀ d, H1 d = none → Q (.ref C) (some d) (upd H1 d (.xd [(f, v)]))) := by
  intro pins s σ H Q I h
  refine wpAny_Call_Name_kw (ld_glob I hg gC ?_ hdb)
  refine PySem.W.callWith_K (h₀ := X.base) I.ok.mod.kin S.kC ?_ hs (by rfl)
  rw [hs]
  show wpAny _ _ (spliced ((false, eval e X.env) :: backTo pos [])) _ _ s
  refine Calls.spliced_cons (thn (he.run pins s σ H _ I h) fun u s1 ⟨v, H1, I1, r1, q1⟩ => ?_)
  refine Calls.spliced_nil ⟨I1.kIn, ?_⟩
  show wpAny _ _ (call (.ref C) [u]) _ _ _
  refine run_sup I1 S hr fun h4 tk4 ea dx t2 ha hd hne k4 he4 ns4 => ?_
  obtain ⟨Gh, g1, g2⟩ := restrict h4 fun b => decide (b ≠ ea)
  have gk : ∀ b, b ≠ ea → Gh.get? b = h4.get? b := fun b hb => g1 b (decide_eq_true hb)
  have ge : Gh.get? ea = none := g2 ea (by simp)
  have kG : ∀ b o, s1.heap.get? b = some o → Gh.get? b = some o := fun b o z => by
    rw [gk b (Nat.ne_of_lt (Nat.lt_of_lt_of_le (Heap.lt_size z) ha))]; exact k4 b o z
  have nsG : Gh.Ns1 dx (fun y => if y = f then some u else none) := by
    obtain ⟨o, es, ep, ho, hrr⟩ := ns4
    exact ⟨o, es, ep, (gk dx hne).trans ho, hrr⟩
  have new : ObjOk X.prog X.w (upd H1 dx (.xd [(f, v)])) Gh dx (.xd [(f, v)]) := by
    refine ⟨_, nsG, fun g => ?_⟩
    by_cases hgf : g = f
    · subst hgf
      have e1 : List.lookup g [(g, v)] = some v := by simp [List.lookup]
      rw [e1, if_pos rfl]; exact r1
    · have e1 : List.lookup g [(f, v)] = none := by
        have : (g == f) = false := by simpa using hgf
        simp [List.lookup, this]
      rw [e1, if_neg hgf]; trivial
  have J : Inv X pins σ (upd H1 dx (.xd [(f, v)])) { s1 with heap := Gh, toks := tk4 } := I1.laid (t' := tk4) kG hd new
  refine ⟨ea, _, _, { s1 with heap := Gh, toks := tk4 }, _, .ref C, some dx, rfl, J, fun b o z => ?_, ge, he4, ⟨rfl, rfl⟩, rfl, rfl, ?_, rfl, I1.bare, raises_own S.sb S.ty, q1 dx (I1.hok.fresh hd)⟩
  · have hb : b ≠ ea := fun q => by rw [q, ge] at z; cases z
    exact (gk b hb).symm.trans z
  · rw [upd_ne (Ne.symm hne)]; exact I1.hok.fresh ha
end
end PD
end

section
set_option Elab.async false
set_option linter.all false
set_option maxRecDepth 100000
set_option maxHeartbeats 4000000
/-! PD14: raise, try. -/
namespace PD
open PySem PySem.Spec PyProof.Rows L2

section
variable {G : Gb} {X : Cx} {W : WX} {e : Expr} {g : SemE} {p pos pos' : Pos} {x f px : Str} {C : Addr} {cls : Nat}
theorem ds_raise0 (hK : G.K = X.K) (hc : X.calm = true) (tk : Takes X W) (hC : G.xa cls = some C) (q : PySem.W.excIn X.K C exTl "Exception.__new__" = true) (gC : X.mg x = some (.ref C)) (kC : PySem.W.keepIn X.K (.ref C) = true)
    (sb : PySem.W.subIn X.K (.ref C) (.type "BaseException") = some true) (ty : PySem.W.typeIn X.K (.ref C) = some (.type "type")) (hg : Gl X x) (hdb : (x == ("__debug__" : Str)) = false) :
    DS G X W (.Raise (some (.Call (.Name x p) [] [] pos)) none pos') (sRaise0 cls) :=
  PS.weak (ps_raise hc tk (pmk_own0 q gC kC (raises_own sb ty) hg hdb)) fun D' σ H ⟨env, μ, st, he, hst, h⟩ =>
    h (.ref C) none σ H μ (Go.refl _ _) hst he ⟨C, hC, rfl, rfl⟩
theorem ds_raise1 {k : Nat} {fI : Addr} (hK : G.K = X.K) (hc : X.calm = true) (tk : Takes X W) (hC : G.xa cls = some C) (hf : G.xf cls = f) (S : SupC X.prog X.K C fI f px) (hr : Room (k + 1) X.A) (gC : X.mg x = some (.ref C)) (hg : Gl X x)
    (ha : DE G X W e g) (hs : starEach [e] X.env = [(false, eval e X.env)]) (hdb : (x == ("__debug__" : Str)) = false) :
    DS G X W (.Raise (some (.Call (.Name x p) [e] [] pos)) none pos') (sRaise1 cls g) :=
  PS.weak (ps_raise hc tk (pmk_sup S hr gC hg (PE.fz ha) hs hdb)) fun D' σ H ⟨env, μ, st, he, hst, h⟩ => by
    refine ⟨env, μ, st, he, hst, (PstS.expr (R := RA G) he h).mono fun v H1 ⟨a, μ1, st1, g1, s1, r1, e1, p1⟩ => ?_⟩
    split at p1
    · rename_i d s2 ef
      refine (freeze_goal s1 r1 ef).mono fun H2 ⟨t2, rd, g2⟩ => fun dd hdd => ?_
      have gn : Grow H2 (upd H2 dd (.xd [(f, v)])) := Grow.new hdd
      refine p1 (.ref C) (some dd) σ _ μ1 ((g1.trans g2).trans (gn.go μ1)) (t2.grow gn) ((e1.mono g2).mono (gn.go μ1)) ⟨C, hC, rfl, dd, v, rfl, ?_, rd.mono gn.ext d v⟩
      rw [hf]; exact upd_same
    · exact p1.elim
end

/-! ### try: several clauses, with or without a name -/
/-- what the clauses wish of an exception of the body, one after the other -/
def wMix (K : Fr) (Wout : WX) (D : Ends) : List (Value × Option Nat × (Addr → Value → Option Addr → TS)) → WX
  | [] => Wout
  | (c, none, ts) :: r => fun cls d σ H => ∃ b, PySem.W.exmOne K cls c = some b ∧ (b = true → ∀ a, H a = none → ts a cls d D σ H) ∧ (b = false → wMix K Wout D r cls d σ H)
  | (c, some i, ts) :: r => fun cls d σ H => ∃ b, PySem.W.exmOne K cls c = some b ∧
      (b = true → ∀ a, H a = none → ts a cls d { nx := fun σ' H' => D.nx (σ'.set i none) H', rt := D.rt, bk := fun σ' H' => D.bk (σ'.set i none) H', ct := fun σ' H' => D.ct (σ'.set i none) H' } (σ.set i (some (.ref a))) H) ∧ (b = false → wMix K Wout D r cls d σ H)
inductive HdsMix (X : Cx) : List ExceptHandler → List (Value × Option Nat × (Addr → Value → Option Addr → TS)) → Prop
  | nil : HdsMix X [] []
  | cons {x : Str} {c : Value} {ts : Addr → Value → Option Addr → TS} {b₀ : Stmt} {suite : List Stmt} {np pos' : Pos} {hds : List ExceptHandler} {l : List (Value × Option Nat × (Addr → Value → Option Addr → TS))} (hc : Names X x c)
      (hsu : ∀ (a : Addr) (oe : Obj) (cls : Value) (d : Option Addr) (pn : List (Addr × Obj)), Zc cls d oe → (∃ vs, oe.data = .fields vs) → PSs (X.suite a ((a, oe) :: pn)) (b₀ :: suite) (ts a cls d)) (r : HdsMix X hds l) :
      HdsMix X (.ExceptHandler (some (.Name x np)) none (b₀ :: suite) pos' :: hds) ((c, none, ts) :: l)
  | named {x n : Str} {i : Nat} {c : Value} {ts : Addr → Value → Option Addr → TS} {b₀ : Stmt} {suite : List Stmt} {np pos' : Pos} {hds : List ExceptHandler} {l : List (Value × Option Nat × (Addr → Value → Option Addr → TS))} (hc : Names X x c)
      (hi : X.N[i]? = some n) (hln : X.env.kindOf n = some .local)
      (hsu : ∀ (a : Addr) (oe : Obj) (cls : Value) (d : Option Addr) (pn : List (Addr × Obj)), Zc cls d oe → (∃ vs, oe.data = .fields vs) → PSs (X.suite a ((a, oe) :: pn)) (b₀ :: suite) (ts a cls d)) (r : HdsMix X hds l) :
      HdsMix X (.ExceptHandler (some (.Name x np)) (some n) (b₀ :: suite) pos' :: hds) ((c, some i, ts) :: l)
section
variable {X : Cx} {body : List Stmt} {h₀ : ExceptHandler} {hds : List ExceptHandler} {l : List (Value × Option Nat × (Addr → Value → Option Addr → TS))} {pos : Pos} {tb : WX → TS} {Wout : WX}
theorem ps_try_mix (hs : X.stack = X.env :: X.outer) (hf : X.env.frame = some X.env.locals) (hN : X.N.Nodup) (tk : Takes X Wout)
    (hb : ∀ (W : WX) (pn : List (Addr × Obj)) (xe : Value → Shared → Prop), Takes (X.tr pn xe) W → PassesOwn (model X.prog X.w) X.A X.env xe → PSs (X.tr pn xe) body (tb W))
    (hh : HdsMix X (h₀ :: hds) l) : PS X (.Try body (h₀ :: hds) [] [] pos) (fun D σ H => tb (wMix X.K Wout D l) D σ H) := by
  refine ⟨fun pins s σ H D I h => ?_⟩
  have ok := I.ok
  have hfr : X.A.frames = some (X.env :: X.outer) := by rw [ok.frames, hs]
  refine wpAny_Try_except ?_
  refine wpAny_mono ((hb (wMix X.K Wout D l) (X.pn ++ pins) (fun e s₁ => wpAny (model X.prog X.w) X.A (noteFrame e X.env) (fun _ s₂ => wpAny (model X.prog X.w) X.A (setFlight e none) (fun _ s₃ =>
    wpAny (model X.prog X.w) X.A (handleBy e X.env (h₀ :: hds)) (SP X pins D) X.xe s₃) X.xe s₂) X.xe s₁) (fun u s' xx => ?_) PassesOwn.looking).run [] s σ H D (I.toTry _) h) (fun f s1 hsp => ?_) (fun e s1 he => he)
  · -- the catch
    obtain ⟨a, B, sI, pins', σ', H', cls, d, rfl, J', nb, up, sky, na, os, ag, w⟩ := xx
    have J : Inv X pins σ' H' sI := J'.ofTry ok
    have sky' : Sky B (X.env :: X.outer) a (Zc cls d) X.env.locals s'.heap := by rw [← hs]; exact sky
    show wpAny (model X.prog X.w) X.A (noteFrame (.ref a) X.env) _ _ _
    refine Sky.land Zc.steady hfr hf sky' fun h3 fl3 up3 => ?_
    have J3 : Inv X pins σ' H' { s' with heap := h3 } := J.landed nb fl3.1 (up.trans up3) os ag
    obtain ⟨oe3, vs3, he3, hz3, hd3⟩ := fl3.there
    have notFr : ∀ {h : Heap} {o : Obj} {vs : Array Value}, h.FunFrames B (X.env :: X.outer) → h.get? a = some o → o.data = .fields vs → a ∉ frs (X.env :: X.outer) := fun {h o vs} ff e dd hm => by
      obtain ⟨_, o', e', hnf⟩ := ff.mem hm
      rw [e] at e'; cases e'
      exact hnf _ dd
    have nfr := notFr fl3.2.2.1 he3 hd3
    have nL : a ≠ X.env.locals := fun z => nfr (List.mem_filterMap.mpr ⟨X.env, List.mem_cons_self, by rw [hf, z]⟩)
    have nF : a ∉ X.fs := fun hm => by
      obtain ⟨e, he, q⟩ := List.mem_filterMap.mp hm
      exact nfr (List.mem_filterMap.mpr ⟨e, List.mem_cons_of_mem _ he, q⟩)
    have S3 := J3.suite he3 hd3 na nL nF
    have go : ∀ {hds' : List ExceptHandler} {l' : List (Value × Option Nat × (Addr → Value → Option Addr → TS))}, HdsMix X hds' l' → wMix X.K Wout D l' cls d σ' H' →
        wpAny (model X.prog X.w) X.A (handleBy (.ref a) X.env hds') (SP X pins D) X.xe { s' with heap := h3 } := by
      intro hds' l' hk
      induction hk with
      | nil =>
        intro w
        refine wpAny_handleBy_nil ?_
        obtain ⟨k1, k2, k3, oe, vs, T, oT, ts', he, hz, hd, h1, hr⟩ := id fl3
        unfold PySem.passOn
        refine wpAny_bind (wpAny_field he hd h1 ?_)
        rw [if_neg (show ¬ ((Value.ref T == Value.none) = true) from by simp)]
        have fin : wpAny (model X.prog X.w) X.A (setFlight (.ref a) X.env.frame) (fun _ s4 => wpAny (model X.prog X.w) X.A (throw (.ref a) : Sem Flow) (SP X pins D) X.xe s4) X.xe { s' with heap := h3 } := by
          rw [hf]
          refine HandSPX.setFlight_upZ fl3 fun h4 hh4 up4 => wpAny_throw (tk _ _ ?_)
          exact ⟨a, B, sI, pins, σ', H', cls, d, rfl, J, nb, (up.trans up3).trans up4, .inr (.inr (by rw [hs]; exact hh4)), na, os, ag, w⟩
        first
          | exact wpAny_bind (wpAny_pure (wpAny_bind fin))
          | exact wpAny_bind fin
      | @cons x c ts b₀ suite np pos' hds2 l2 hc hsu r ih =>
        intro w
        obtain ⟨b, hb1, hyes, hno⟩ := w
        refine wpAny_handleBy_cons (codeAny_handlers_test ?_) (by intro q; cases q)
        have LT : PySem.W.Looks (model X.prog X.w) h3 (typeOf (.ref a)) cls := fun A Q E s k q => wpAny_typeOf_ref (k _ _ he3) (by rw [hz3.1]; exact q)
        have LM := PySem.W.exm_one (M := model X.prog X.w) (J3.kIn) LT hb1
        have test : ∀ {Q : Value → Shared → Prop} {E : Value → Shared → Prop}, Q c { s' with heap := h3 } → wpAny (model X.prog X.w) (X.A.mark (some (.ref a))) (eval (.Name x np) X.env) Q E { s' with heap := h3 } := fun {Q E} q => by
          obtain ⟨hg, hdbg, hm | ⟨hm, hv, hnn⟩⟩ := hc
          · exact ld_glob (X := X.suite a ((a, oe3) :: (X.pn ++ pins))) S3 hg hm q hdbg
          · exact ld_blt (X := X.suite a ((a, oe3) :: (X.pn ++ pins))) S3 hg hm hv q hnn hdbg
        refine test (LM.here ?_)
        cases b with
        | true =>
          refine codeAny_handlers_suite ?_
          refine HandSPX.lands_againZ fl3 fun h4 fl4 up4 => ?_
          have J4 : Inv X pins σ' H' { s' with heap := h4 } := J.landed nb fl4.1 ((up.trans up3).trans up4) os ag
          obtain ⟨oe4, vs4, he4, hz4, hd4⟩ := fl4.there
          have S4 := J4.suite he4 hd4 na nL nF
          refine wpAny_mono ((hsu a oe4 cls d (X.pn ++ pins) hz4 ⟨_, hd4⟩).run [] _ _ H' _ S4 (hyes rfl a na)) (fun f s6 hsp => ?_) (fun _ _ z => False.elim z)
          cases f with
          | next =>
            obtain ⟨σ6, H6, S6, q6⟩ := hsp
            exact ⟨_, _, S6.unsuite ok, q6⟩
          | brk =>
            obtain ⟨σ6, H6, S6, q6⟩ := hsp
            exact ⟨_, _, S6.unsuite ok, q6⟩
          | cont =>
            obtain ⟨σ6, H6, S6, q6⟩ := hsp
            exact ⟨_, _, S6.unsuite ok, q6⟩
          | ret u =>
            obtain ⟨v6, σ6, H6, S6, r6, q6⟩ := hsp
            exact ⟨_, _, _, S6.unsuite ok, r6, q6⟩
        | false =>
          show wpAny _ X.A (handleBy (.ref a) X.env hds2) _ _ _
          exact ih (hno rfl)
      | @named x n i c ts b₀ suite np pos' hds2 l2 hc hi hln hsu r ih =>
        intro w
        obtain ⟨b, hb1, hyes, hno⟩ := w
        refine wpAny_handleBy_cons (codeAny_handlers_test ?_) (by intro q; cases q)
        have LT : PySem.W.Looks (model X.prog X.w) h3 (typeOf (.ref a)) cls := fun A Q E s k q => wpAny_typeOf_ref (k _ _ he3) (by rw [hz3.1]; exact q)
        have LM := PySem.W.exm_one (M := model X.prog X.w) (J3.kIn) LT hb1
        have test : ∀ {Q : Value → Shared → Prop} {E : Value → Shared → Prop}, Q c { s' with heap := h3 } → wpAny (model X.prog X.w) (X.A.mark (some (.ref a))) (eval (.Name x np) X.env) Q E { s' with heap := h3 } := fun {Q E} q => by
          obtain ⟨hg, hdbg, hm | ⟨hm, hv, hnn⟩⟩ := hc
          · exact ld_glob (X := X.suite a ((a, oe3) :: (X.pn ++ pins))) S3 hg hm q hdbg
          · exact ld_blt (X := X.suite a ((a, oe3) :: (X.pn ++ pins))) S3 hg hm hv q hnn hdbg
        refine test (LM.here ?_)
        cases b with
        | true =>
          refine codeAny_handlers_suite_as ?_
          refine HandSPX.lands_againZ fl3 fun h4 fl4 up4 => ?_
          have J4 : Inv X pins σ' H' { s' with heap := h4 } := J.landed nb fl4.1 ((up.trans up3).trans up4) os ag
          obtain ⟨oe4, vs4, he4, hz4, hd4⟩ := fl4.there
          have S4 := J4.suite he4 hd4 na nL nF
          refine store_ok (X := X.suite a ((a, oe4) :: (X.pn ++ pins))) (v := .ref a) S4 hN hi (.inl hln) rfl (fun s5 S5 => ?_) (.inr hln)
          refine wpAny_mono ((hsu a oe4 cls d (X.pn ++ pins) hz4 ⟨_, hd4⟩).run [] s5 _ H' _ S5 (hyes rfl a na)) (fun f s6 hsp => ?_) (fun _ _ z => False.elim z)
          have end_ : ∀ {σ6 : L2.St} {H6 : Hp} {Q : Shared → Prop}, Inv (X.suite a ((a, oe4) :: (X.pn ++ pins))) [] σ6 H6 s6 → (∀ s7, Inv X pins (σ6.set i none) H6 s7 → Q s7) →
              wpAny (model X.prog X.w) X.A (do bindName X.env n .none; unbindBehindTheSuite X.env n pos') (fun _ s7 => Q s7) X.xe s6 := fun {σ6 H6 Q} S6 hq => gone_ok (S6.unsuite ok) hN hi hln hq
          cases f with
          | next =>
            obtain ⟨σ6, H6, S6, q6⟩ := hsp
            exact end_ S6 fun s7 J7 => ⟨_, _, J7, q6⟩
          | brk =>
            obtain ⟨σ6, H6, S6, q6⟩ := hsp
            exact end_ S6 fun s7 J7 => ⟨_, _, J7, q6⟩
          | cont =>
            obtain ⟨σ6, H6, S6, q6⟩ := hsp
            exact end_ S6 fun s7 J7 => ⟨_, _, J7, q6⟩
          | ret u =>
            obtain ⟨v6, σ6, H6, S6, r6, q6⟩ := hsp
            exact end_ S6 fun s7 J7 => ⟨_, _, _, J7, r6, q6⟩
        | false =>
          show wpAny _ X.A (handleBy (.ref a) X.env hds2) _ _ _
          exact ih (hno rfl)
    exact go hh w
  · cases f with
    | next =>
      obtain ⟨σ', H', J', q⟩ := hsp
      exact wpAny_execs_nil ⟨σ', H', J'.ofTry ok, q⟩
    | brk =>
      obtain ⟨σ', H', J', q⟩ := hsp
      exact ⟨σ', H', J'.ofTry ok, q⟩
    | cont =>
      obtain ⟨σ', H', J', q⟩ := hsp
      exact ⟨σ', H', J'.ofTry ok, q⟩
    | ret u =>
      obtain ⟨v, σ', H', J', r, q⟩ := hsp
      exact ⟨v, σ', H', J'.ofTry ok, r, q⟩
end
end PD
end

section
set_option Elab.async false
set_option linter.all false
set_option maxRecDepth 100000
set_option maxHeartbeats 400000
/-! PD15: except clauses that hand a value back. -/
namespace PD
open PySem PySem.Spec PyProof.Rows L2

section
variable {G : Gb} {X : Cx} {W : WX}
/-- the caught exception: its place among the slots, its field f -/
def Caught (G : Gb) (a : Addr) (i : Nat) (f : Str) (cls : Value) (d : Option Addr) (arg : Option D) (σ : L2.St) (H : Hp) : Prop :=
  match arg with
  | none => True
  | some x => σ[i]? = some (some (.ref a)) ∧ ∃ C dd v, cls = .ref C ∧ XfC G.K C ∧ PySem.W.findIn G.K (.ref C) f = some none ∧ d = some dd ∧ H dd = some (.xd [(f, v)]) ∧ RepD G.K H x v
def tHE (G : Gb) (a : Addr) (i : Nat) (f : Str) (cls : Value) (d : Option Addr) (h : HE) : TE := fun σ H Q => ∃ arg dv, Caught G a i f cls d arg σ H ∧ h.val arg = some dv ∧ ∀ v H', Grow H H' → RepD G.K H' dv v → Q v H'
def tHEs (G : Gb) (a : Addr) (i : Nat) (f : Str) (cls : Value) (d : Option Addr) (hs : List HE) : TA := fun σ H Q => ∃ arg dvs, Caught G a i f cls d arg σ H ∧ HE.vals hs arg = some dvs ∧ ∀ vs H', Grow H H' → RepDs G.K H' dvs vs → Q vs H'
theorem Caught.grow {a : Addr} {i : Nat} {f : Str} {cls : Value} {d : Option Addr} {arg : Option D} {σ : L2.St} {H H' : Hp} (g : Grow H H') (h : Caught G a i f cls d arg σ H) : Caught G a i f cls d arg σ H' := by
  cases arg with
  | none => trivial
  | some x =>
    obtain ⟨h1, C, dd, v, e1, e2, e3, e4, e5, r⟩ := h
    exact ⟨h1, C, dd, v, e1, e2, e3, e4, g _ _ e5, r.mono g.ext x v⟩
mutual
inductive HEAt (X : Cx) (i : Nat) (n f : Str) : Expr → HE → Prop
  | str {x : Str} {j pos} : goodS x.cps.toList = true → HEAt X i n f (.Constant (.str x) j pos) (.con (.str x.cps.toList))
  | int {x : Int} {j pos} : HEAt X i n f (.Constant (.int x) j pos) (.con (.int x))
  | bl {x : Bool} {j pos} : HEAt X i n f (.Constant (.bool x) j pos) (.con (.bl x))
  | non {j pos} : HEAt X i n f (.Constant .none j pos) (.con .non)
  | arg {p pos : Pos} : X.N[i]? = some n → Vis X.env.scope n → (n == ("__debug__" : Str)) = false → (n == ("__classdict__" : Str)) = false → attributeBase (.Name n p) f X.env (eval (.Name n p) X.env) = eval (.Name n p) X.env → HEAt X i n f (.Attribute (.Name n p) f pos) .arg
  | tup {es : List Expr} {k : Nat} {p : Pos} {hs : List HE} : HEsAt X i n f es hs → HEAt X i n f (.Tuple es k p) (.tup hs)
inductive HEsAt (X : Cx) (i : Nat) (n f : Str) : List Expr → List HE → Prop
  | nil : HEsAt X i n f [] []
  | cons {e : Expr} {h : HE} {es : List Expr} {hs : List HE} : HEAt X i n f e h → HEsAt X i n f es hs → starEach (e :: es) X.env = (false, eval e X.env) :: starEach es X.env → es.length < 1000 → HEsAt X i n f (e :: es) (h :: hs)
end
theorem HEsAt.len {i : Nat} {n f : Str} : ∀ {es : List Expr} {hs : List HE}, HEsAt X i n f es hs → hs.length = es.length ∧ es.length ≤ 1000
  | _, _, .nil => ⟨rfl, Nat.zero_le _⟩
  | _, _, .cons _ t _ hl => ⟨by rw [List.length_cons, List.length_cons, t.len.1], by rw [List.length_cons]; omega⟩
theorem vals_len : ∀ {hs : List HE} {arg : Option D} {dvs : List D}, HE.vals hs arg = some dvs → dvs.length = hs.length
  | [], _, _, h => by simp only [HE.vals, Option.some.injEq] at h; subst h; rfl
  | h0 :: hs, arg, dvs, h => by
    unfold HE.vals at h
    split at h
    · rename_i x xs e1 e2
      cases h
      rw [List.length_cons, List.length_cons, vals_len e2]
    · cases h
mutual
theorem pe_he {i : Nat} {n f : Str} {a : Addr} {oe : Obj} {cls : Value} {d : Option Addr} {pn : List (Addr × Obj)} (hK : G.K = X.K) (hz : Zc cls d oe) (hv : ∃ vs, oe.data = .fields vs) :
    ∀ {e : Expr} {h : HE}, HEAt X i n f e h → PE (X.suite a ((a, oe) :: pn)) e (tHE G a i f cls d h)
  | _, _, .str hg => PE.weak pe_str fun σ H Q ⟨arg, dv, _, hval, q⟩ => by
    simp only [HE.val, Option.some.injEq] at hval
    subst hval
    exact q _ H (Grow.refl H) ⟨by simp, hg⟩
  | _, _, .int => PE.weak pe_int fun σ H Q ⟨arg, dv, _, hval, q⟩ => by
    simp only [HE.val, Option.some.injEq] at hval
    subst hval
    exact q _ H (Grow.refl H) rfl
  | _, _, .bl => PE.weak pe_bl fun σ H Q ⟨arg, dv, _, hval, q⟩ => by
    simp only [HE.val, Option.some.injEq] at hval
    subst hval
    exact q _ H (Grow.refl H) rfl
  | _, _, .non => PE.weak pe_non fun σ H Q ⟨arg, dv, _, hval, q⟩ => by
    simp only [HE.val, Option.some.injEq] at hval
    subst hval
    exact q _ H (Grow.refl H) rfl
  | _, _, .arg (p := p) h1 h2 h3 h4 h5 => by
    refine ⟨fun pins s σ H Q I ⟨arg, dv, hc, hval, q⟩ => ?_⟩
    simp only [HE.val] at hval
    subst hval
    obtain ⟨hs, C, dd, v, rfl, T, hno, rfl, hx, r⟩ := hc
    rw [hK] at T hno
    refine (pe_xf (pn := pn) T hno hz hv (pe_var (X := X.suite a ((a, oe) :: pn)) (pos := p) h1 h2 h3 h4) h5).run pins s σ H Q I ?_
    refine ⟨.ref a, hs, rfl, rfl, dd, _, v, rfl, hx, ?_, q v H (Grow.refl H) r⟩
    simp [List.lookup]
  | _, _, .tup ht => PE.weak (pe_tup (pa_hes hK hz hv ht)) fun σ H Q ⟨arg, dv, hc, hval, q⟩ => by
    simp only [HE.val, Option.map_eq_some_iff] at hval
    obtain ⟨dvs, hvals, rfl⟩ := hval
    refine ⟨arg, dvs, hc, hvals, fun vs H1 g1 r1 => ⟨?_, fun pp hp => ?_⟩⟩
    · have h1 := r1.length
      have h2 := vals_len hvals
      have h3 := ht.len
      rw [sizeLine_eq]; omega
    · have gn : Grow H1 (upd H1 pp (.tup vs)) := Grow.new hp
      exact q _ _ (g1.trans gn) ⟨pp, vs, rfl, SqT.of upd_same, r1.mono gn.ext dvs vs⟩
theorem pa_hes {i : Nat} {n f : Str} {a : Addr} {oe : Obj} {cls : Value} {d : Option Addr} {pn : List (Addr × Obj)} (hK : G.K = X.K) (hz : Zc cls d oe) (hv : ∃ vs, oe.data = .fields vs) :
    ∀ {es : List Expr} {hs : List HE}, HEsAt X i n f es hs → PA (X.suite a ((a, oe) :: pn)) es (tHEs G a i f cls d hs)
  | _, _, .nil => PA.weak pa_nil fun σ H Q ⟨arg, dvs, _, hval, q⟩ => by
    simp only [HE.vals, Option.some.injEq] at hval
    subst hval
    exact q [] H (Grow.refl H) .nil
  | _, _, .cons h t hs _ => PA.weak (pa_cons (pe_he hK hz hv h) (pa_hes hK hz hv t) hs) fun σ H Q ⟨arg, dvs, hc, hval, q⟩ => by
    unfold HE.vals at hval
    split at hval
    · rename_i x xs e1 e2
      cases hval
      refine ⟨arg, x, hc, e1, fun v H1 g1 r1 => ⟨arg, xs, hc.grow g1, e2, fun vs H2 g2 r2 => ?_⟩⟩
      exact q (v :: vs) H2 (g1.trans g2) (.cons (r1.mono g2.ext x v) r2)
    · cases hval
end
end

/-! ### the clauses -/
section
variable {G : Gb} {X : Cx} {W : WX} {pos : Pos}
/-- the table of the classes: who is under whom -/
def SubOk (G : Gb) (sub : Nat → Nat → Bool) : Prop := ∀ (a b : Nat) (A B : Addr), G.xa a = some A → G.xa b = some B → PySem.W.exmOne G.K (.ref A) (.ref B) = some (sub a b)
/-- except X: return ..; except X as n: return .. -/
inductive HdAt (G : Gb) (X : Cx) (sub : Nat → Nat → Bool) : ExceptHandler → Hd → (Value × Option Nat × (Addr → Value → Option Addr → TS)) → Prop
  | plain {x : Str} {C : Addr} {np rp pos' : Pos} {e : Expr} {hd : Hd} : Names X x (.ref C) → G.xa hd.cls = some C → HEAt X X.N.length "" "" e hd.ret →
      HdAt G X sub (.ExceptHandler (some (.Name x np)) none [.Return (some e) rp] pos') hd (.ref C, none, fun a cls d => tRet (tHE G a X.N.length "" cls d hd.ret))
  | named {x n f : Str} {i : Nat} {C : Addr} {np rp pos' : Pos} {e : Expr} {hd : Hd} : Names X x (.ref C) → G.xa hd.cls = some C → HEAt X i n f e hd.ret → X.N[i]? = some n → X.env.kindOf n = some .local →
      (∀ c A, sub c hd.cls = true → G.xa c = some A → G.xf c = f ∧ XfC G.K A ∧ PySem.W.findIn G.K (.ref A) f = some none) →
      HdAt G X sub (.ExceptHandler (some (.Name x np)) (some n) [.Return (some e) rp] pos') hd (.ref C, some i, fun a cls d => tRet (tHE G a i f cls d hd.ret))
inductive HdsAt (G : Gb) (X : Cx) (sub : Nat → Nat → Bool) : List ExceptHandler → List Hd → List (Value × Option Nat × (Addr → Value → Option Addr → TS)) → Prop
  | nil : HdsAt G X sub [] [] []
  | cons {h : ExceptHandler} {hd : Hd} {z : Value × Option Nat × (Addr → Value → Option Addr → TS)} {hs : List ExceptHandler} {hds : List Hd} {l : List (Value × Option Nat × (Addr → Value → Option Addr → TS))} : HdAt G X sub h hd z → HdsAt G X sub hs hds l → HdsAt G X sub (h :: hs) (hd :: hds) (z :: l)
theorem HdsAt.mix {sub : Nat → Nat → Bool} (hK : G.K = X.K) {hs : List ExceptHandler} {hds : List Hd} {l : List (Value × Option Nat × (Addr → Value → Option Addr → TS))} (h : HdsAt G X sub hs hds l) : HdsMix X hs l := by
  induction h with
  | nil => exact .nil
  | cons h1 _ ih =>
    cases h1 with
    | plain h1 _ h2 => exact .cons h1 (fun a oe cls d pn hz hv => pss_one (ps_ret (pe_he hK hz hv h2))) ih
    | named h1 _ h2 h3 h4 _ => exact .named h1 h3 h4 (fun a oe cls d pn hz hv => pss_one (ps_ret (pe_he hK hz hv h2))) ih
theorem val_none : ∀ {h : HE} {f n : Str} {i : Nat} {e : Expr}, HEAt X i n f e h → X.N.length ≤ i → ∀ arg, h.val arg = h.val none := by
  have key : ∀ (h : HE), (∀ {f n : Str} {i : Nat} {e : Expr}, HEAt X i n f e h → X.N.length ≤ i → ∀ arg, h.val arg = h.val none) := fun h => by
    refine HE.rec (motive_1 := fun h => ∀ {f n : Str} {i : Nat} {e : Expr}, HEAt X i n f e h → X.N.length ≤ i → ∀ arg, h.val arg = h.val none)
      (motive_2 := fun hs => ∀ {f n : Str} {i : Nat} {es : List Expr}, HEsAt X i n f es hs → X.N.length ≤ i → ∀ arg, HE.vals hs arg = HE.vals hs none) ?_ ?_ ?_ ?_ ?_ h
    · intro d f n i e hh hi arg; rfl
    · intro f n i e hh hi arg
      cases hh with
      | arg h1 _ _ _ _ => rw [List.getElem?_eq_none hi] at h1; cases h1
    · intro l ih f n i e hh hi arg
      cases hh with
      | tup ht => simp only [HE.val]; rw [ih ht hi arg]
    · intro f n i es hh hi arg; rfl
    · intro h hs ih1 ih2 f n i es hh hi arg
      cases hh with
      | cons a b _ _ => simp only [HE.vals]; rw [ih1 a hi arg, ih2 b hi arg]
  intro h f n i e
  exact key h
theorem catch_ok {sub : Nat → Nat → Bool} (hK : G.K = X.K) (hS : SubOk G sub) {D' : Ends} {μ : List Addr} {H : Hp} {e : Exn} {env : Env} {st : Store} {cls : Value} {d : Option Addr} {σ : L2.St} (hσ : σ.length = X.N.length) (s : StOk G.K H μ st) (he : EnvOk G.K G.fa μ H env σ) (hx : ExnOk G H e cls d) :
    ∀ {hs : List ExceptHandler} {hds : List Hd} {l : List (Value × Option Nat × (Addr → Value → Option Addr → TS))}, HdsAt G X sub hs hds l → PstS G W D' μ H (catch_ sub hds e env st) → wMix X.K W D' l cls d σ H := by
  intro hs hds l hk
  obtain ⟨A, hA, rfl, harg⟩ := hx
  induction hk with
  | nil => exact fun h => h _ d σ H μ (Go.refl _ _) s he ⟨A, hA, rfl, harg⟩
  | @cons h0 hd z hs hds l h1 t ih =>
    intro h
    cases h1 with
    | @plain x C np rp pos' e' _ h1 h2 h3 =>
      refine ⟨sub e.cls hd.cls, by rw [← hK]; exact hS _ _ _ _ hA h2, fun hb a ha => ?_, fun hb => ?_⟩
      · unfold catch_ at h
        rw [if_pos hb] at h
        split at h
        · rename_i dv hval
          exact ⟨none, dv, trivial, by rw [← val_none h3 (Nat.le_refl _) e.arg]; exact hval, fun v H' g r => h v H' μ (g.go μ) (s.grow g) r⟩
        · exact h.elim
      · unfold catch_ at h
        rw [if_neg (by rw [hb]; exact Bool.false_ne_true)] at h
        exact ih h
    | @named x n f i C np rp pos' e' _ h1 h2 h3 h4 h5 h6 =>
      refine ⟨sub e.cls hd.cls, by rw [← hK]; exact hS _ _ _ _ hA h2, fun hb a ha => ?_, fun hb => ?_⟩
      · unfold catch_ at h
        rw [if_pos hb] at h
        split at h
        · rename_i dv hval
          refine ⟨e.arg, dv, ?_, hval, fun v H' g r => h v H' μ (g.go μ) (s.grow g) r⟩
          obtain ⟨f1, f2, f3⟩ := h6 e.cls A hb hA
          cases ea : e.arg with
          | none => trivial
          | some x =>
            rw [ea] at harg
            obtain ⟨dd, v, e1, e2, e3⟩ := harg
            have hi : i < σ.length := by rw [hσ]; exact (List.getElem?_eq_some_iff.mp h4).1
            exact ⟨List.getElem?_set_self hi, A, dd, v, rfl, f2, f3, e1, by rw [← f1]; exact e2, e3⟩
        · exact h.elim
      · unfold catch_ at h
        rw [if_neg (by rw [hb]; exact Bool.false_ne_true)] at h
        exact ih h
theorem ds_try {sub : Nat → Nat → Bool} {body : List Stmt} {h₀ : ExceptHandler} {hs : List ExceptHandler} {hds : List Hd} {l : List (Value × Option Nat × (Addr → Value → Option Addr → TS))} {f : SemS} (hK : G.K = X.K) (hS : SubOk G sub)
    (hst : X.stack = X.env :: X.outer) (hf : X.env.frame = some X.env.locals) (hN : X.N.Nodup) (tk : Takes X W)
    (hb : ∀ (W : WX) (pn : List (Addr × Obj)) (xe : Value → Shared → Prop), Takes (X.tr pn xe) W → PassesOwn (model X.prog X.w) X.A X.env xe → DSs G (X.tr pn xe) W body f) (hh : HdsAt G X sub (h₀ :: hs) hds l) :
    DS G X W (.Try body (h₀ :: hs) [] [] pos) (sTry sub f hds) := by
  refine ⟨fun pins s σ H D' I h => ?_⟩
  have hl : σ.length = X.N.length := I.len
  refine (ps_try_mix (tb := fun W => rdS G W f) hst hf hN tk hb (hh.mix hK)).run pins s σ H D' I ?_
  obtain ⟨env, μ, st, he, hs', h⟩ := h
  refine ⟨env, μ, st, he, hs', ?_⟩
  unfold sTry at h
  cases ef : f env st with
  | ex e env1 s1 =>
    rw [ef] at h
    dsimp only at h
    split at h
    · rename_i hlen
      intro cls d σ1 H1 μ1 g1 s1' e1 x1
      have hl1 : σ1.length = X.N.length := by rw [e1.len, hlen, ← he.len, hl]
      exact catch_ok hK hS hl1 s1' e1 x1 hh (PstS.go h g1)
    · exact h.elim
  | nx env1 s1 => rw [ef] at h; exact h
  | rt a s1 => rw [ef] at h; exact h
  | bk env1 s1 => rw [ef] at h; exact h
  | ct env1 s1 => rw [ef] at h; exact h
  | bad => rw [ef] at h; exact h
end
end PD
end

section
set_option Elab.async false
set_option linter.all false
set_option maxRecDepth 100000
set_option maxHeartbeats 400000
/-! PD16: forms of expressions for which the model's side ways are closed. -/
namespace PD
open PySem PySem.Spec PyProof.Rows L2

def notStar : Expr → Bool
  | .Starred .. => false
  | _ => true
theorem starEach_cons {e : Expr} (es : List Expr) (env : PySem.Env) (h : notStar e = true) : starEach (e :: es) env = (false, eval e env) :: starEach es env := by
  cases e <;> first | rfl | (cases h)
theorem star_any {es : List Expr} {env : PySem.Env} (pos : Pos) (h : es.all notStar = true) : (backTo pos (starEach es env)).any (·.1) = false := by
  induction es with
  | nil => rfl
  | cons e es ih =>
    simp only [List.all_cons, Bool.and_eq_true] at h
    rw [starEach_cons es env h.1]
    show (false || (backTo pos (starEach es env)).any (·.1)) = false
    rw [ih h.2]; rfl
theorem star_one {e : Expr} (env : PySem.Env) (h : notStar e = true) : starEach [e] env = [(false, eval e env)] := starEach_cons [] env h
theorem star_few {e : Expr} {env : PySem.Env} {cpos : Pos} (h : notStar e = true) : ((backTo cpos (starEach [e] env)).all (fun x => !x.1) && (backToKw cpos (keywordEach [] env)).all (fun x => x.1.isSome)
      && decide ([e].length + ([] : List Keyword).length + (if ([] : List Keyword).isEmpty then 0 else 1) < 30)) = true := by
  rw [star_one env h]; rfl
def plainTest : Expr → Bool
  | .Name .. => true | .Call .. => true | .Subscript .. => true | .Constant .. => true | .Attribute .. => true | .BinOp .. => true | .ListComp .. => true | .Tuple .. => true | .List .. => true
  | _ => false
theorem test_plain {e : Expr} (h : plainTest e = true) (env : PySem.Env) : ∀ whole, isTrue e env whole = (do let v ← whole; standAt e.pos; holding [v] (truthy v)) := by
  cases e <;> first | (intro _; rfl) | (cases h)
def plainBase : Expr → Bool
  | .Call _ (_ :: _) _ _ => true
  | .Call .. => false
  | _ => true
theorem base_plain {o : Expr} (h : plainBase o = true) (attr : Str) (env : PySem.Env) : attributeBase o attr env (eval o env) = eval o env := by
  cases o with
  | Call f es kw pos =>
    cases es with
    | nil => cases h
    | cons e es => cases f <;> rfl
  | _ => rfl
def noComp : Expr → Bool
  | .ListComp .. => false | .SetComp .. => false | .DictComp .. => false
  | _ => true
theorem swaps_no {e : Expr} (h : noComp e = true) (t : Option Expr) (l : Nat) (env : PySem.Env) : swapsWith e t l env = pure false := by
  cases e <;> first | rfl | (cases h)
def notTup : Expr → Bool
  | .Tuple .. => false
  | _ => true
theorem stores_no {e : Expr} (h : notTup e = true) (ts : List Expr) (env : PySem.Env) : swappedStores ts e env = pure none := by
  unfold swappedStores
  split
  · rename_i hh
    split at hh <;> first | (cases h; done) | (cases hh)
  · rfl
theorem stores_sub {o i : Expr} {p : Pos} (e : Expr) (env : PySem.Env) : swappedStores [.Subscript o i p] e env = pure none := by
  cases e <;> rfl
def notSet : Expr → Bool
  | .Set .. => false
  | _ => true
theorem folded_no {e : Expr} (h : notSet e = true) (env : PySem.Env) : ∀ x, foldedSetIterable e env x = pure x := by
  cases e <;> first | (intro _; rfl) | (cases h)
def notSlice : Expr → Bool
  | .Slice .. => false
  | _ => true
theorem ix_plain {e : Expr} (h : notSlice e = true) : PlainIx e := by
  cases e <;> first | (intro _ _; rfl) | (cases h)
theorem asg_plain {o i : Expr} {pos : Pos} {env : PySem.Env} (h : notSlice i = true) : ∀ v, assign (.Subscript o i pos) env v = (do
      let ov ← holding [v] (eval o env)
      let iv ← holding [v, ov] (eval i env)
      standAt pos
      holding [v, ov, iv] (setItem ov iv v)
      release [v, ov, iv] []) := by
  cases i <;> first | (intro _; rfl) | (cases h)
end PD
end

section
set_option Elab.async false
set_option linter.all false
set_option maxRecDepth 100000
set_option maxHeartbeats 1000000
/-! PD17: from the text to its meaning: expressions. -/
namespace PD
open PySem PySem.Spec PyProof.Rows L2

/-- what a name of the module is: data, a def, an error class, or a built-in thing's name -/
inductive GK where
  | con (d : D) | fn (f : Nat) | cls (c : Nat) | blt
structure Cc where
  N : List Str
  sc : Scope
  fnc : Str → Bool
  gl : Str → Option GK
  F : SemF
  cls : List (Option Str)
  sub : Nat → Nat → Bool
/-- within a comprehension's block -/
def Cc.blk (c : Cc) (scope : Scope) : Cc := { c with sc := relS scope c.sc, fnc := fun x => scope.names.lookup x == some .cell }
def ixOf (x : Str) : List Str → Nat → Option Nat
  | [], _ => none
  | y :: r, k => if x = y then some k else ixOf x r (k + 1)
theorem ixOf_get {x : Str} : ∀ {l : List Str} {k i : Nat}, ixOf x l k = some i → k ≤ i ∧ l[i - k]? = some x
  | [], _, _, h => nomatch h
  | y :: r, k, i, h => by
    unfold ixOf at h
    split at h
    · rename_i e
      cases h
      exact ⟨Nat.le_refl _, by rw [Nat.sub_self, e]; rfl⟩
    · obtain ⟨h1, h2⟩ := ixOf_get h
      refine ⟨by omega, ?_⟩
      rw [show i - k = (i - (k + 1)) + 1 by omega, List.getElem?_cons_succ]
      exact h2
theorem ixOf_at {x : Str} {l : List Str} {i : Nat} (h : ixOf x l 0 = some i) : l[i]? = some x := (ixOf_get h).2

structure CtxOk (G : Gb) (X : Cx) (W : WX) (c : Cc) (k : Nat) : Prop where
  K : G.K = X.K
  N : X.N = c.N
  nd : X.N.Nodup
  nm : X.env.scope = c.sc
  kind : c.sc.kind = .function
  fn : ∀ x, c.fnc x = true → X.fn x = true
  calm : X.calm = true
  gcon : ∀ x d, c.gl x = some (.con d) → GlOk G X.mg x d
  gfn : ∀ x f, c.gl x = some (.fn f) → ∃ ad, X.mg x = some (.ref ad) ∧ G.fa f = some ad
  gblt : ∀ x, c.gl x = some .blt → X.mg x = none
  defs : ∀ f ad, G.fa f = some ad → DefOk G X.prog X.w X.K X.mg X.base k f (c.F f)
  room : Room (k + 1) X.A
  tk : Takes X W

/-! ### chains as tests -/
section
variable {G : Gb} {X : Cx} {W : WX} {a b c e : Expr} {es : List Expr} {ga gb gc g : SemE} {gs : SemAs} {pos p p2 p3 apos : Pos} {x : Str}
theorem dt_chain {op op' : CmpOp} {pr pr' : Prim} (hb0 : ∀ ds r, pr ds = some r → ∃ k, r = .v (.bl k)) (hb1 : ∀ ds r, pr' ds = some r → ∃ k, r = .v (.bl k)) (ho : OpR X (compareOp op) (rP2 G.K pr)) (ho' : OpR X (compareOp op') (rP2 G.K pr'))
    (ha : DE G X W a ga) (hb : DE G X W b gb) (hc : DE G X W c gc) (hm : lastMarks [op, op'] [b, c] = false) : DT G X W (.Compare a [op, op'] [b, c] pos) (tVal (gChain pr pr' ga gb gc)) :=
  PT.weak (pt_chain ho ho' ha hb hc hm) fun σ H Q h => by
    obtain ⟨env, μ, st, he, hs, h⟩ := rdTru h
    refine ⟨env, μ, st, he, hs, (Pst.bind (R := RA G) (Pst.settled hs.len h)).mono fun x H1 ⟨xa, μ1, st1, g1, s1, r1, p1⟩ => ?_⟩
    refine ⟨env, μ1, st1, he.mono g1, s1, (Pst.bind (R := RA G) p1).mono fun y H2 ⟨ya, μ2, st2, g2, s2, r2, p2⟩ => ?_⟩
    obtain ⟨ds, res, hr, hp, q⟩ := PrimV.ofB hb0 s2 (.cons (r1.mono g2) (.cons r2 .nil)) p2
    refine ⟨ds, res, hr, hp, fun z H3 gw rr => ?_⟩
    obtain ⟨k, ez, μ3, g3, s3, p3⟩ := q z H3 gw rr
    refine ⟨k, ez, ?_⟩
    cases k with
    | true =>
      refine ⟨env, μ3, st2, ((he.mono g1).mono g2).mono g3, s3, (Pst.bind (R := RA G) p3).mono fun w H4 ⟨wa, μ4, st4, g4, s4, r4, p4⟩ => ?_⟩
      obtain ⟨ds', res', hr', hp', q'⟩ := PrimV.of s4 (.cons ((RepA.mono g3 r2).mono g4) (.cons r4 .nil)) p4
      obtain ⟨k', rfl⟩ := hb1 _ _ hp'
      refine ⟨ds', _, hr', hp', fun v H' gw' rr' => ?_⟩
      obtain ⟨k2, t2, q2⟩ := q' v H' gw' rr'
      have ev : v = V.bl k' := rr'
      subst ev
      exact ⟨k', rfl, by rw [← (show k2 = k' from t2)]; exact q2⟩
    | false =>
      obtain ⟨k2, t2, q2⟩ := p3 (.bl false) H3 μ3 (Go.refl _ _) s3 rfl
      exact ⟨false, rfl, by rw [← (show k2 = false from t2)]; exact q2⟩
theorem dt_w {t : SemT} (h : DW G X W e t) : DT G X W e t := ⟨fun pins s σ H Q I q => h.run (eval e X.env) pins s σ H Q I q⟩
end

/-! ### the pieces -/
def hidden (x : Str) : Bool := x == ("__debug__" : Str) || x == ("__classdict__" : Str) || x == ("__name__" : Str)
def ixName (c : Cc) (x : Str) : Option Nat :=
  match c.sc.names.lookup x with
  | some .local => ixOf x c.N 0
  | some .cell => ixOf x c.N 0
  | some .free => ixOf x c.N 0
  | _ => none
def isGl (c : Cc) (x : Str) : Bool := decide (c.sc.names.lookup x = some .globalImplicit)
def cName (c : Cc) (x : Str) : Option SemE :=
  if hidden x then none else
  if isGl c x then
    match c.gl x with
    | some (.con d) => some (gCon d)
    | some (.fn f) => some (gFn f)
    | _ => none
  else (ixName c x).map gVar
def cCon : Const → Option SemE
  | .int i => some (gCon (.int i))
  | .bool b => some (gCon (.bl b))
  | .none => some (gCon .non)
  | .str s => if goodS s.cps.toList then some (gCon (.str s.cps.toList)) else none
  | _ => none
section
variable {G : Gb} {X : Cx} {W : WX} {c : Cc} {k : Nat}
theorem hid {x : Str} (h : ¬ hidden x = true) : (x == ("__debug__" : Str)) = false ∧ (x == ("__classdict__" : Str)) = false ∧ x ≠ "__name__" := by
  unfold hidden at h
  simp only [Bool.or_eq_true, not_or, Bool.not_eq_true] at h
  exact ⟨h.1.1, h.1.2, by simpa using h.2⟩
theorem isGl_gl (C : CtxOk G X W c k) {x : Str} (h : isGl c x = true) : Gl X x := by
  have := of_decide_eq_true h
  rw [← C.nm] at this
  exact this
theorem ixName_vis (C : CtxOk G X W c k) {x : Str} {i : Nat} (h : ixName c x = some i) : X.N[i]? = some x ∧ Vis X.env.scope x := by
  unfold ixName at h
  unfold Vis
  rw [C.nm, C.N]
  split at h
  · rename_i e; exact ⟨ixOf_at h, .inl e⟩
  · rename_i e; exact ⟨ixOf_at h, .inr (.inl e)⟩
  · rename_i e; exact ⟨ixOf_at h, .inr (.inr e)⟩
  · cases h
theorem s_name (C : CtxOk G X W c k) {x : Str} {p : Pos} {g : SemE} (h : cName c x = some g) : DE G X W (.Name x p) g := by
  unfold cName at h
  split at h
  · cases h
  · rename_i hh
    obtain ⟨h1, h2, h3⟩ := hid hh
    split at h
    · rename_i hg
      split at h
      · rename_i d e; cases h; exact de_glob (isGl_gl C hg) (C.gcon x d e) h1
      · rename_i f e
        cases h
        obtain ⟨ad, m1, m2⟩ := C.gfn x f e
        exact de_fn (isGl_gl C hg) m1 m2 h1
      · cases h
    · obtain ⟨i, hi, rfl⟩ := Option.map_eq_some_iff.mp h
      obtain ⟨v1, v2⟩ := ixName_vis C hi
      exact de_var v1 v2 h1 h2
theorem s_con {K : Const} {j : Nat} {p : Pos} {g : SemE} (h : cCon K = some g) : DE G X W (.Constant K j p) g := by
  unfold cCon at h
  split at h
  · cases h; exact de_int
  · cases h; exact de_bl
  · cases h; exact de_non
  · split at h
    · rename_i hs; cases h; exact de_str hs
    · cases h
  · cases h
end
def binP : Operator → Option Prim
  | .Add => some pAdd | .Sub => some pSub | .Mult => some pMul | .FloorDiv => some pFdiv | .Mod => some pMod | .Pow => some pPow
  | _ => none
def cmpP : CmpOp → Option Prim
  | .Eq => some pEq | .NotEq => some pNe | .Lt => some pLt | .LtE => some pLe | .Gt => some pGt | .GtE => some pGe | .In => some pIn | .NotIn => some pNotIn | .Is => some pIs | .IsNot => some pIsNot
theorem cmp_bl {op : CmpOp} {pr : Prim} (h : cmpP op = some pr) : ∀ ds r, pr ds = some r → ∃ k, r = .v (.bl k) := by
  intro ds r hp
  unfold cmpP at h
  split at h <;> cases h
  · unfold pEq at hp; split at hp <;> first | (cases hp; done) | (split at hp <;> first | (cases hp; exact ⟨_, rfl⟩) | (cases hp))
  · unfold pNe at hp; split at hp <;> first | (cases hp; done) | (split at hp <;> first | (cases hp; exact ⟨_, rfl⟩) | (cases hp))
  · unfold pLt at hp; split at hp <;> first | (cases hp; exact ⟨_, rfl⟩) | (cases hp)
  · unfold pLe at hp; split at hp <;> first | (cases hp; exact ⟨_, rfl⟩) | (cases hp)
  · unfold pGt at hp; split at hp <;> first | (cases hp; exact ⟨_, rfl⟩) | (cases hp)
  · unfold pGe at hp; split at hp <;> first | (cases hp; exact ⟨_, rfl⟩) | (cases hp)
  · unfold pIn at hp; split at hp <;> first | (cases hp; exact ⟨_, rfl⟩) | (cases hp; done) | (split at hp <;> first | (cases hp; exact ⟨_, rfl⟩) | (cases hp))
  · unfold pNotIn at hp; split at hp <;> first | (cases hp; exact ⟨_, rfl⟩) | (cases hp; done) | (split at hp <;> first | (cases hp; exact ⟨_, rfl⟩) | (cases hp))
  · unfold pIs at hp; split at hp <;> first | (cases hp; exact ⟨_, rfl⟩) | (cases hp)
  · unfold pIsNot at hp; split at hp <;> first | (cases hp; exact ⟨_, rfl⟩) | (cases hp)
section
variable {G : Gb} {X : Cx} {W : WX} {c : Cc} {k : Nat}
theorem binP_ok (C : CtxOk G X W c k) {op : Operator} {pr : Prim} (h : binP op = some pr) : OpR X (binaryOp op) (rP2 G.K pr) := by
  rw [C.K]
  unfold binP at h
  split at h <;> cases h
  · exact op_pAdd
  · exact op_pSub
  · exact op_pMul
  · exact op_pFdiv
  · exact op_pMod
  · exact op_pPow
theorem cmpP_ok (C : CtxOk G X W c k) {op : CmpOp} {pr : Prim} (h : cmpP op = some pr) : OpR X (compareOp op) (rP2 G.K pr) := by
  rw [C.K]
  unfold cmpP at h
  split at h <;> cases h
  · exact op_pEq C.room.units
  · exact op_pNe C.room.units
  · exact op_pLt
  · exact op_pLe
  · exact op_pGt
  · exact op_pGe
  · exact op_pIn
  · exact op_pNotIn
  · exact op_pIs
  · exact op_pIsNot
end
/-- a row of expressions -/
def listE (fe : Expr → Option SemE) : List Expr → Option SemAs
  | [] => some gNil
  | e :: es => if notStar e then
      match fe e, listE fe es with
      | some g, some gs => some (gCons g gs)
      | _, _ => none
    else none
def boolE (fe : Expr → Option SemE) (op : BoolOp) : List Expr → Option SemE
  | [] => none
  | [a] => fe a
  | a :: b :: es =>
    match fe a, boolE fe op (b :: es) with
    | some g, some h => some (match op with | .And => gAnd g h | .Or => gOr g h)
    | _, _ => none
def boolT (ft : Expr → Option SemT) (op : BoolOp) : List Expr → Option SemT
  | [] => none
  | [a] => ft a
  | a :: b :: es =>
    match ft a, boolT ft op (b :: es) with
    | some g, some h => some (match op with | .And => tAnd g h | .Or => tOr g h)
    | _, _ => none
section
variable {G : Gb} {X : Cx} {W : WX} {c : Cc} {k : Nat} {fe : Expr → Option SemE} {ft : Expr → Option SemT}
theorem s_list (hf : ∀ e g, fe e = some g → DE G X W e g) : ∀ {es : List Expr} {gs : SemAs}, listE fe es = some gs → DAs G X W es gs ∧ es.all notStar = true
  | [], gs, h => by cases h; exact ⟨das_nil, rfl⟩
  | e :: es, gs, h => by
    unfold listE at h
    split at h
    · rename_i hn
      split at h
      · rename_i g gs' e1 e2
        cases h
        obtain ⟨a1, a2⟩ := s_list hf e2
        exact ⟨das_cons (hf e g e1) a1 (starEach_cons es X.env hn), by rw [List.all_cons, hn, a2]; rfl⟩
      · cases h
    · cases h
theorem s_boolE (hf : ∀ e g, fe e = some g → DE G X W e g) {op : BoolOp} {pos : Pos} : ∀ {es : List Expr} {g : SemE}, boolE fe op es = some g → DE G X W (.BoolOp op es pos) g
  | [], _, h => nomatch h
  | [a], g, h => de_one (hf a g h)
  | a :: b :: es, g, h => by
    unfold boolE at h
    split at h
    · rename_i g1 h1 e1 e2
      cases h
      cases op with
      | And => exact de_and (hf a g1 e1) (s_boolE hf e2)
      | Or => exact de_or (hf a g1 e1) (s_boolE hf e2)
    · cases h
theorem s_boolT (hf : ∀ e g, ft e = some g → DT G X W e g) {op : BoolOp} {pos : Pos} : ∀ {es : List Expr} {g : SemT}, boolT ft op es = some g → DW G X W (.BoolOp op es pos) g
  | [], _, h => nomatch h
  | [a], g, h => by
    cases op with
    | And => exact dw_and1 (hf a g h)
    | Or => exact dw_or1 (hf a g h)
  | a :: b :: es, g, h => by
    unfold boolT at h
    split at h
    · rename_i g1 h1 e1 e2
      cases h
      cases op with
      | And => exact dw_and (hf a g1 e1) (s_boolT hf e2)
      | Or => exact dw_or (hf a g1 e1) (s_boolT hf e2)
    · cases h
end
end PD
end

section
set_option Elab.async false
set_option linter.all false
set_option maxRecDepth 100000
set_option maxHeartbeats 1000000
/-! PD18: from the text to its meaning: calls, places, comprehensions; expressions and tests. -/
namespace PD
open PySem PySem.Spec PyProof.Rows L2

/-! ### built-in things -/
inductive Bk where
  | len | all | any | sum | max | min | tuple | list | int
def bkOf (x : Str) : Option Bk :=
  if x = "len" then some .len else if x = "all" then some .all else if x = "any" then some .any else if x = "sum" then some .sum else if x = "max" then some .max else if x = "min" then some .min else
  if x = "tuple" then some .tuple else if x = "list" then some .list else if x = "int" then some .int else none
def Bk.prim : Bk → Nat → Option Prim
  | .len, 1 => some pLen | .all, 1 => some pAll | .any, 1 => some pAny | .sum, 1 => some pSum | .max, 1 => some pMaxL | .max, 2 => some pMax2 | .min, 1 => some pMinL | .min, 2 => some pMin2
  | .tuple, 1 => some pTuple | .list, 1 => some pList | .int, 1 => some pInt
  | _, _ => none
def tyOf (x : Str) : Option Ty :=
  if x = "int" then some .int else if x = "str" then some .str else if x = "bool" then some .bool else if x = "tuple" then some .tuple else if x = "list" then some .list else none
def isBlt (c : Cc) (x : Str) : Bool := isGl c x && (match c.gl x with | some .blt => true | _ => false)
def bltE (c : Cc) (fe : Expr → Option SemE) (x : Str) (es : List Expr) : Option SemE :=
  match es with
  | [a, .Name y _] =>
    if x = "isinstance" then
      if isBlt c y && notStar a then
        match tyOf y, fe a with
        | some t, some g => some (gOp (pIsi t) (gCons g gNil))
        | _, _ => none
      else none
    else
      match bkOf x with
      | some b =>
        match b.prim es.length, listE fe es with
        | some pr, some gs => some (gOp pr gs)
        | _, _ => none
      | none => none
  | _ =>
    match bkOf x with
    | some b =>
      match b.prim es.length, listE fe es with
      | some pr, some gs => some (gOp pr gs)
      | _, _ => none
    | none => none
def callE (c : Cc) (fe : Expr → Option SemE) (f : Expr) (es : List Expr) (pos : Pos) : Option SemE :=
  match f with
  | .Name x _ =>
    if hidden x then none else
    if isGl c x then
      match c.gl x with
      | some (.fn f) =>
        match es with
        | [] => some (gCall c.F f gNil)
        | e :: r => (listE fe (e :: r)).map (gCall c.F f)
      | some .blt => bltE c fe x es
      | _ => none
    else
      match ixName c x, es with
      | some i, e :: r => (listE fe (e :: r)).map (gCallV c.F i)
      | _, _ => none
  | .Attribute o m ap =>
    if m = "join" then
      if plainBase o && (ap.endLine == pos.line) then
        match es with
        | [e] =>
          if notStar e then
            match fe o, fe e with
            | some go, some g => some (gOp pJoin (gCons (gStr go) (gCons g gNil)))
            | _, _ => none
          else none
        | _ => none
      else none
    else none
  | _ => none
section
variable {G : Gb} {X : Cx} {W : WX} {c : Cc} {k : Nat} {fe : Expr → Option SemE} {ft : Expr → Option SemT}
theorem isBlt_mg (C : CtxOk G X W c k) {x : Str} (h : isBlt c x = true) : Gl X x ∧ X.mg x = none := by
  unfold isBlt at h
  rw [Bool.and_eq_true] at h
  refine ⟨isGl_gl C h.1, ?_⟩
  have h2 := h.2
  split at h2
  · rename_i e; exact C.gblt x e
  · cases h2
theorem bk_ok (C : CtxOk G X W c k) {x : Str} {b : Bk} {pr : Prim} {p pos : Pos} {es : List Expr} {gs : SemAs} (hb : isBlt c x = true) (h : bkOf x = some b) (hp : b.prim es.length = some pr) (ha : DAs G X W es gs) (hs : es.all notStar = true) : DE G X W (.Call (.Name x p) es [] pos) (gOp pr gs) := by
  obtain ⟨hg, hm⟩ := isBlt_mg C hb
  cases es with
  | nil => cases b <;> cases hp
  | cons e es =>
    simp only [List.all_cons, Bool.and_eq_true] at hs
    have he := starEach_cons es X.env hs.1
    have hpl := star_any (env := X.env) pos hs.2
    have K := C.K
    unfold bkOf at h
    split at h
    · rename_i ex; subst ex; cases h
      match es, hp with
      | [], hp => cases hp; exact de_callB (by rw [K]; exact c_len) hg hm PySem.boot_len ha (by decide) (by decide) he hpl
    split at h
    · rename_i ex; subst ex; cases h
      match es, hp with
      | [], hp => cases hp; exact de_callB (by rw [K]; exact c_all C.calm) hg hm PyProof.Rows.boot_all ha (by decide) (by decide) he hpl
    split at h
    · rename_i ex; subst ex; cases h
      match es, hp with
      | [], hp => cases hp; exact de_callB (by rw [K]; exact c_any C.calm) hg hm PyProof.Rows.boot_any ha (by decide) (by decide) he hpl
    split at h
    · rename_i ex; subst ex; cases h
      match es, hp with
      | [], hp => cases hp; exact de_callB (by rw [K]; exact c_sum C.calm) hg hm PyProof.Rows.boot_sum ha (by decide) (by decide) he hpl
    split at h
    · rename_i ex; subst ex; cases h
      match es, hp with
      | [], hp => cases hp; exact de_callB (by rw [K]; exact c_maxL C.calm) hg hm PyProof.Rows.boot_max ha (by decide) (by decide) he hpl
      | [_], hp => cases hp; exact de_callB (by rw [K]; exact c_max2 C.calm) hg hm PyProof.Rows.boot_max ha (by decide) (by decide) he hpl
    split at h
    · rename_i ex; subst ex; cases h
      match es, hp with
      | [], hp => cases hp; exact de_callB (by rw [K]; exact c_minL C.calm) hg hm PyProof.Rows.boot_min ha (by decide) (by decide) he hpl
      | [_], hp => cases hp; exact de_callB (by rw [K]; exact c_min2 C.calm) hg hm PyProof.Rows.boot_min ha (by decide) (by decide) he hpl
    split at h
    · rename_i ex; subst ex; cases h
      match es, hp with
      | [], hp => cases hp; exact de_callTy (by rw [K]; exact c_tuple) hg hm PyProof.Rows.boot_tuple ha (by decide) (by decide) he hpl
    split at h
    · rename_i ex; subst ex; cases h
      match es, hp with
      | [], hp => cases hp; exact de_callTy (by rw [K]; exact c_list) hg hm PyProof.Rows.boot_list ha (by decide) (by decide) he hpl
    split at h
    · rename_i ex; subst ex; cases h
      match es, hp with
      | [], hp => cases hp; exact de_callTy (by rw [K]; exact c_int) hg hm PyProof.Rows.boot_int ha (by decide) (by decide) he hpl
    cases h
theorem s_bk (C : CtxOk G X W c k) (hf : ∀ e g, fe e = some g → DE G X W e g) {x : Str} {p pos : Pos} {es : List Expr} {g : SemE} (hb : isBlt c x = true)
    (h : (match bkOf x with
      | some b =>
        match b.prim es.length, listE fe es with
        | some pr, some gs => some (gOp pr gs)
        | _, _ => none
      | none => none) = some g) : DE G X W (.Call (.Name x p) es [] pos) g := by
  split at h
  · rename_i b eb
    split at h
    · rename_i pr gs e1 e2
      cases h
      obtain ⟨a1, a2⟩ := s_list hf e2
      exact bk_ok C hb eb e1 a1 a2
    · cases h
  · cases h
theorem s_blt (C : CtxOk G X W c k) (hf : ∀ e g, fe e = some g → DE G X W e g) {x : Str} {p pos : Pos} {es : List Expr} {g : SemE} (hb : isBlt c x = true) (h : bltE c fe x es = some g) : DE G X W (.Call (.Name x p) es [] pos) g := by
  unfold bltE at h
  split at h
  · rename_i a y p2
    split at h
    · rename_i ex
      subst ex
      split at h
      · rename_i hc
        rw [Bool.and_eq_true] at hc
        split at h
        · rename_i t ga e1 e2
          cases h
          obtain ⟨hg, hm⟩ := isBlt_mg C hb
          obtain ⟨hgy, hmy⟩ := isBlt_mg C hc.1
          have ha := hf a ga e2
          have he := starEach_cons [.Name y p2] X.env hc.2
          have K := C.K
          unfold tyOf at e1
          split at e1
          · rename_i ey; subst ey; cases e1; exact de_isi (t := .int) K hg hm hgy hmy PyProof.Rows.boot_int ha (by decide) (by decide) he
          split at e1
          · rename_i ey; subst ey; cases e1; exact de_isi (t := .str) K hg hm hgy hmy (by decide +kernel) ha (by decide) (by decide) he
          split at e1
          · rename_i ey; subst ey; cases e1; exact de_isi (t := .bool) K hg hm hgy hmy (by decide +kernel) ha (by decide) (by decide) he
          split at e1
          · rename_i ey; subst ey; cases e1; exact de_isi (t := .tuple) K hg hm hgy hmy (by decide +kernel) ha (by decide) (by decide) he
          split at e1
          · rename_i ey; subst ey; cases e1; exact de_isi (t := .list) K hg hm hgy hmy (by decide +kernel) ha (by decide) (by decide) he
          cases e1
        · cases h
      · cases h
    · exact s_bk C hf hb h
  · exact s_bk C hf hb h
theorem s_call (C : CtxOk G X W c k) (hf : ∀ e g, fe e = some g → DE G X W e g) {f : Expr} {es : List Expr} {pos : Pos} {g : SemE} (h : callE c fe f es pos = some g) : DE G X W (.Call f es [] pos) g := by
  have hrm : Room k X.A := C.room.mono (Nat.le_succ k)
  unfold callE at h
  split at h
  · rename_i x p
    split at h
    · cases h
    · rename_i hh
      obtain ⟨h1, h2, h3⟩ := hid hh
      split at h
      · rename_i hg
        split at h
        · rename_i f ef
          obtain ⟨ad, m1, m2⟩ := C.gfn x f ef
          have d := C.defs f ad m2
          split at h
          · cases h
            exact de_call0 d hrm (isGl_gl C hg) m2 m1 C.tk h1
          · rename_i e r
            obtain ⟨gs, hl, rfl⟩ := Option.map_eq_some_iff.mp h
            obtain ⟨a1, a2⟩ := s_list hf hl
            simp only [List.all_cons, Bool.and_eq_true] at a2
            exact de_call d hrm (isGl_gl C hg) m2 m1 C.tk a1 h1 (starEach_cons r X.env a2.1) (star_any pos a2.2)
        · rename_i eb
          exact s_blt C hf (by unfold isBlt; rw [hg, eb]; rfl) h
        · cases h
      · split at h
        · rename_i i e r hi
          obtain ⟨gs, hl, rfl⟩ := Option.map_eq_some_iff.mp h
          obtain ⟨a1, a2⟩ := s_list hf hl
          simp only [List.all_cons, Bool.and_eq_true] at a2
          obtain ⟨v1, v2⟩ := ixName_vis C hi
          exact de_callV (fun f ad hfa => C.defs f ad hfa) hrm v1 v2 C.tk a1 h1 h2 (starEach_cons r X.env a2.1) (star_any pos a2.2)
        · cases h
  · rename_i o m ap
    split at h
    · rename_i em
      subst em
      split at h
      · rename_i hc
        rw [Bool.and_eq_true] at hc
        split at h
        · rename_i e
          split at h
          · rename_i hn
            split at h
            · rename_i go ge e1 e2
              cases h
              exact de_join C.K (hf o go e1) (hf e ge e2) (star_one X.env hn) (base_plain hc.1 _ _) hc.2
            · cases h
          · cases h
        · cases h
      · cases h
    · cases h
  · cases h
end
/-! ### places -/
def partE (fe : Expr → Option SemE) : Option Expr → Option SemE
  | none => some (gCon .non)
  | some e => (fe e).map gInt
def subE (fe : Expr → Option SemE) (a i : Expr) : Option SemE :=
  match i with
  | .Slice none none (some (.UnaryOp .USub (.Constant (.int 1) _ _) _)) _ => (fe a).map fun g => gOp pRev (gCons g gNil)
  | .Slice lo hi none _ =>
    match fe a, partE fe lo, partE fe hi with
    | some ga, some gl, some gh => some (gOp pSl (gCons ga (gCons gl (gCons gh gNil))))
    | _, _, _ => none
  | i => if notSlice i then
      match fe a, fe i with
      | some ga, some gi => some (gOp pIx (gCons ga (gCons gi gNil)))
      | _, _ => none
    else none
section
variable {G : Gb} {X : Cx} {W : WX} {c : Cc} {k : Nat} {fe : Expr → Option SemE} {ft : Expr → Option SemT}
theorem s_part (hf : ∀ e g, fe e = some g → DE G X W e g) {o : Option Expr} {g : SemE} (h : partE fe o = some g) : ∃ t, DPart G X W o g t := by
  cases o with
  | none => cases h; exact ⟨_, dpart_no⟩
  | some e =>
    obtain ⟨g', e1, rfl⟩ := Option.map_eq_some_iff.mp h
    exact ⟨_, dpart_some (hf e g' e1)⟩
theorem s_sub (C : CtxOk G X W c k) (hf : ∀ e g, fe e = some g → DE G X W e g) {a i : Expr} {pos : Pos} {g : SemE} (h : subE fe a i = some g) : DE G X W (.Subscript a i pos) g := by
  unfold subE at h
  split at h
  · obtain ⟨g', e1, rfl⟩ := Option.map_eq_some_iff.mp h
    exact de_rev C.K (hf a g' e1)
  · split at h
    · rename_i ga gl gh e1 e2 e3
      cases h
      obtain ⟨tl, hl⟩ := s_part hf e2
      obtain ⟨th, hh⟩ := s_part hf e3
      exact de_sl C.K (hf a ga e1) hl hh
    · cases h
  · split at h
    · rename_i hn
      split at h
      · rename_i ga gi e1 e2
        cases h
        exact de_ix C.K (hf a ga e1) (hf i gi e2) (ix_plain hn)
      · cases h
    · cases h
end
/-! ### comparisons -/
def cmpE (fe : Expr → Option SemE) (a : Expr) (ops : List CmpOp) (bs : List Expr) : Option SemE :=
  match ops, bs with
  | [op], [b] => if behindInMarks op b then none else
      match cmpP op, fe a, fe b with
      | some p, some ga, some gb => some (gOp p (gCons ga (gCons gb gNil)))
      | _, _, _ => none
  | [op, op'], [b, d] => if lastMarks [op, op'] [b, d] then none else
      match cmpP op, cmpP op', fe a, fe b, fe d with
      | some p, some q, some ga, some gb, some gd => some (gChain p q ga gb gd)
      | _, _, _, _, _ => none
  | _, _ => none
section
variable {G : Gb} {X : Cx} {W : WX} {c : Cc} {k : Nat} {fe : Expr → Option SemE} {ft : Expr → Option SemT}
theorem s_cmp (C : CtxOk G X W c k) (hf : ∀ e g, fe e = some g → DE G X W e g) {a : Expr} {ops : List CmpOp} {bs : List Expr} {pos : Pos} {g : SemE} (h : cmpE fe a ops bs = some g) : DE G X W (.Compare a ops bs pos) g := by
  unfold cmpE at h
  split at h
  · rename_i op b
    split at h
    · cases h
    · rename_i hm
      split at h
      · rename_i p ga gb e1 e2 e3
        cases h
        exact de_cmp (cmpP_ok C e1) (hf a ga e2) (hf b gb e3) (by simpa using hm)
      · cases h
  · rename_i op op' b d
    split at h
    · cases h
    · rename_i hm
      split at h
      · rename_i p q ga gb gd e1 e2 e3 e4 e5
        cases h
        exact de_chain (cmp_bl e1) (cmpP_ok C e1) (cmpP_ok C e2) (hf a ga e3) (hf b gb e4) (hf d gd e5) (by simpa using hm)
      · cases h
  · cases h
theorem s_cmpT (C : CtxOk G X W c k) (hf : ∀ e g, fe e = some g → DE G X W e g) {a : Expr} {ops : List CmpOp} {bs : List Expr} {pos : Pos} {g : SemE} (h : cmpE fe a ops bs = some g) : DT G X W (.Compare a ops bs pos) (tVal g) := by
  unfold cmpE at h
  split at h
  · rename_i op b
    split at h
    · cases h
    · rename_i hm
      split at h
      · rename_i p ga gb e1 e2 e3
        cases h
        exact dt_cmp (cmp_bl e1) (cmpP_ok C e1) (hf a ga e2) (hf b gb e3) (by simpa using hm)
      · cases h
  · rename_i op op' b d
    split at h
    · cases h
    · rename_i hm
      split at h
      · rename_i p q ga gb gd e1 e2 e3 e4 e5
        cases h
        exact dt_chain (cmp_bl e1) (cmp_bl e2) (cmpP_ok C e1) (cmpP_ok C e2) (hf a ga e3) (hf b gb e4) (hf d gd e5) (by simpa using hm)
      · cases h
  · cases h
end
end PD
end

section
set_option Elab.async false
set_option linter.all false
set_option maxRecDepth 100000
set_option maxHeartbeats 1000000
/-! PD19: from the text to its meaning: targets, what is walked, comprehensions; all expressions. -/
namespace PD
open PySem PySem.Spec PyProof.Rows L2

/-! ### targets -/
def locIx (c : Cc) (x : Str) : Option Nat :=
  match c.sc.names.lookup x with
  | some .local => ixOf x c.N 0
  | some .cell => if c.fnc x then ixOf x c.N 0 else none
  | _ => none
def listT (ft : Expr → Option Tg) : List Expr → Option (List Tg)
  | [] => some []
  | e :: es =>
    match ft e, listT ft es with
    | some t, some ts => some (t :: ts)
    | _, _ => none
def cTg (c : Cc) : Nat → Expr → Option Tg
  | 0, _ => none
  | n + 1, e =>
    match e with
    | .Name x _ => (locIx c x).map .name
    | .Tuple es _ _ => (listT (cTg c n) es).map .tup
    | _ => none
section
variable {G : Gb} {X : Cx} {W : WX} {c : Cc} {k : Nat} {fe : Expr → Option SemE} {ft : Expr → Option SemT}
theorem locIx_ok (C : CtxOk G X W c k) {x : Str} {i : Nat} (h : locIx c x = some i) : X.N[i]? = some x ∧ Loc X.env.scope x ∧ (X.fn x = true ∨ X.env.scope.names.lookup x = some .local) := by
  unfold locIx at h
  unfold L2.Loc
  rw [C.nm, C.N]
  split at h
  · rename_i e; exact ⟨ixOf_at h, .inl e, .inr e⟩
  · rename_i e
    split at h
    · rename_i hf; exact ⟨ixOf_at h, .inr e, .inl (C.fn x hf)⟩
    · cases h
  · cases h
theorem s_listT {f : Expr → Option Tg} (hf : ∀ e t, f e = some t → TgAt X e t) : ∀ {es : List Expr} {ts : List Tg}, listT f es = some ts → TgsAt X es ts
  | [], _, h => by cases h; exact .nil
  | e :: es, _, h => by
    unfold listT at h
    split at h
    · rename_i t ts e1 e2
      cases h
      exact .cons (hf e t e1) (s_listT hf e2)
    · cases h
theorem s_tg (C : CtxOk G X W c k) : ∀ {n : Nat} {e : Expr} {t : Tg}, cTg c n e = some t → TgAt X e t
  | 0, _, _, h => nomatch h
  | n + 1, e, t, h => by
    unfold cTg at h
    split at h
    · obtain ⟨i, hi, rfl⟩ := Option.map_eq_some_iff.mp h
      obtain ⟨h1, h2, h3⟩ := locIx_ok C hi
      exact .name h1 h2 h3
    · obtain ⟨ts, hts, rfl⟩ := Option.map_eq_some_iff.mp h
      exact .tup (s_listT (fun e t he => s_tg C he) hts)
    · cases h
end
/-! ### what is walked -/
def isTup : Expr → Bool
  | .Tuple .. => true
  | _ => false
def itE (c : Cc) (fe : Expr → Option SemE) (tg : Expr) (it : Expr) : Option SemI :=
  match it with
  | .Call (.Name x _) es [] pos =>
    if isBlt c x then
      if x = "range" then
        match es with
        | [a] => if notStar a then (fe a).map iRange1 else none
        | [a, b] => if notStar a && notStar b then
            match fe a, fe b with
            | some ga, some gb => some (iRange2 ga gb)
            | _, _ => none
          else none
        | _ => none
      else if x = "enumerate" then
        match es with
        | [a] => if notStar a && isTup tg then (fe a).map iEnum else none
        | _ => none
      else if x = "zip" then
        match es with
        | [a, b] => if notStar a && (notStar b && isTup tg) then
            match fe a, fe b with
            | some ga, some gb => some (iZip ga gb)
            | _, _ => none
          else none
        | _ => none
      else (fe it).map iVal
    else (fe it).map iVal
  | _ => (fe it).map iVal
section
variable {G : Gb} {X : Cx} {W : WX} {c : Cc} {k : Nat} {fe : Expr → Option SemE} {ft : Expr → Option SemT}
theorem s_val (C : CtxOk G X W c k) (hf : ∀ e g, fe e = some g → DE G X W e g) {tg it : Expr} {g : SemI} (h : (fe it).map iVal = some g) : DI G X W tg it g := by
  obtain ⟨g', e1, rfl⟩ := Option.map_eq_some_iff.mp h
  exact di_val C.K (hf it g' e1)
theorem s_it (C : CtxOk G X W c k) (hf : ∀ e g, fe e = some g → DE G X W e g) {tg it : Expr} {g : SemI} (h : itE c fe tg it = some g) : DI G X W tg it g := by
  unfold itE at h
  split at h
  · rename_i x p es pos
    split at h
    · rename_i hb
      obtain ⟨hg, hm⟩ := isBlt_mg C hb
      split at h
      · rename_i ex
        subst ex
        split at h
        · rename_i a
          split at h
          · rename_i hn
            obtain ⟨g', e1, rfl⟩ := Option.map_eq_some_iff.mp h
            exact di_range1 (hf a g' e1) hg hm (star_one X.env hn)
          · cases h
        · rename_i a b
          split at h
          · rename_i hn
            rw [Bool.and_eq_true] at hn
            split at h
            · rename_i ga gb e1 e2
              cases h
              exact di_range2 (hf a ga e1) (hf b gb e2) hg hm (by rw [starEach_cons [b] X.env hn.1, star_one X.env hn.2]) (star_one X.env hn.2)
            · cases h
          · cases h
        · cases h
      split at h
      · rename_i ex
        subst ex
        split at h
        · rename_i a
          split at h
          · rename_i hn
            rw [Bool.and_eq_true] at hn
            obtain ⟨g', e1, rfl⟩ := Option.map_eq_some_iff.mp h
            obtain ⟨hn1, hn2⟩ := hn
            unfold isTup at hn2
            split at hn2
            · exact di_enum C.K (hf a g' e1) hg hm (star_one X.env hn1)
            · cases hn2
          · cases h
        · cases h
      split at h
      · rename_i ex
        subst ex
        split at h
        · rename_i a b
          split at h
          · rename_i hn
            rw [Bool.and_eq_true, Bool.and_eq_true] at hn
            obtain ⟨hn1, hn2, hn3⟩ := hn
            split at h
            · rename_i ga gb e1 e2
              cases h
              unfold isTup at hn3
              split at hn3
              · exact di_zip C.K (hf a ga e1) (hf b gb e2) hg hm (starEach_cons [b] X.env hn1) (star_one X.env hn2) (by rw [star_one X.env hn2]; rfl)
              · cases hn3
            · cases h
          · cases h
        · cases h
      exact s_val C hf h
    · exact s_val C hf h
  · exact s_val C hf h
end
/-! ### comprehensions -/
def ownOf (N : List Str) : List (Str × NameKind) → List (Str × Nat)
  | [] => []
  | (y, .local) :: r => (match ixOf y N 0 with | some i => (y, i) :: ownOf N r | none => ownOf N r)
  | (y, .cell) :: r => (match ixOf y N 0 with | some i => (y, i) :: ownOf N r | none => ownOf N r)
  | _ :: r => ownOf N r
def lcE (c : Cc) (n : Nat) (fe fe' : Expr → Option SemE) (ft' : Expr → Option SemT) (elt : Expr) (gens : List Comprehension) (scope : Scope) : Option SemE :=
  match gens with
  | [⟨tg, iter, ifs, a⟩] =>
    if a = 0 then
      if blkC c.N c.sc scope (ownOf c.N scope.names) && notSet iter then
        match cTg (c.blk scope) n tg, itE c fe tg iter, fe' elt, (match ifs with | [] => some tTrue | [t] => ft' t | _ => none) with
        | some t, some gi, some ge, some cnd => if t.slots.all (fun i => decide (i ∈ (ownOf c.N scope.names).map (·.2))) then some (gLc gi t cnd ge ((ownOf c.N scope.names).map (·.2))) else none
        | _, _, _, _ => none
      else none
    else none
  | _ => none
section
variable {G : Gb} {X : Cx} {W : WX} {c : Cc} {k : Nat} {fe fe' : Expr → Option SemE} {ft' : Expr → Option SemT}
theorem CtxOk.blk (C : CtxOk G X W c k) {scope : Scope} {own : List (Str × Nat)} (b : BlkOk X.N X.env.scope scope own) (s : Shared) (H : Hp) (Ca : Addr) (cl : List (Str × Addr)) (fp : List Addr) :
    CtxOk G (X.blk s H scope (compEnvC scope cl Ca X.env) fp) noX (c.blk scope) k :=
  { K := C.K, N := C.N, nd := C.nd, nm := by show relS scope X.env.scope = relS scope c.sc; rw [C.nm], kind := b.kind, fn := fun x h => h, calm := C.calm, gcon := C.gcon, gfn := C.gfn, gblt := C.gblt, defs := C.defs, room := C.room, tk := takes0 }
structure LcOk (G : Gb) (X : Cx) (W : WX) (tg iter elt : Expr) (ifs : List Expr) (scope : Scope) (own : List (Str × Nat)) (gi : SemI) (t : Tg) (cnd : SemT) (ge : SemE) : Prop where
  hi : DI G X W tg iter gi
  ok : BlkOk X.N X.env.scope scope own
  hg : ∀ (s : Shared) (H : Hp) (C : Addr) (cl : List (Str × Addr)) (fp : List Addr), TgAt (X.blk s H scope (compEnvC scope cl C X.env) fp) tg t
  ht : ∀ (s : Shared) (H : Hp) (C : Addr) (cl : List (Str × Addr)) (fp : List Addr), PTs (X.blk s H scope (compEnvC scope cl C X.env) fp) ifs (rdT G noX cnd)
  he : ∀ (s : Shared) (H : Hp) (C : Addr) (cl : List (Str × Addr)) (fp : List Addr), DE G (X.blk s H scope (compEnvC scope cl C X.env) fp) noX elt ge
  hsl : ∀ i ∈ t.slots, i ∈ own.map (·.2)
  hs : ∀ x, foldedSetIterable iter X.env x = pure x
theorem s_lc {n : Nat} (C : CtxOk G X W c k) (hf : ∀ e g, fe e = some g → DE G X W e g)
    (hf' : ∀ (X' : Cx) (W' : WX), CtxOk G X' W' (c.blk scope) k → ∀ e g, fe' e = some g → DE G X' W' e g) (ht' : ∀ (X' : Cx) (W' : WX), CtxOk G X' W' (c.blk scope) k → ∀ e g, ft' e = some g → DT G X' W' e g)
    {elt : Expr} {gens : List Comprehension} {g : SemE} (h : lcE c n fe fe' ft' elt gens scope = some g) :
    ∃ tg iter ifs own gi t cnd ge, gens = [⟨tg, iter, ifs, 0⟩] ∧ g = gLc gi t cnd ge (own.map (·.2)) ∧ LcOk G X W tg iter elt ifs scope own gi t cnd ge := by
  unfold lcE at h
  split at h
  · rename_i tg iter ifs a
    split at h
    · rename_i ha
      subst ha
      split at h
      · rename_i hc
        rw [Bool.and_eq_true] at hc
        split at h
        · rename_i t gi ge cnd e1 e2 e3 e4
          split at h
          · rename_i hsl
            cases h
            have ok : BlkOk X.N X.env.scope scope (ownOf c.N scope.names) := by rw [C.nm, C.N]; exact blkOk_by hc.1
            refine ⟨tg, iter, ifs, ownOf c.N scope.names, gi, t, cnd, ge, rfl, rfl, s_it C hf e2, ok, fun s H Ca cl fp => s_tg (C.blk ok s H Ca cl fp) e1, fun s H Ca cl fp => ?_, fun s H Ca cl fp => hf' _ _ (C.blk ok s H Ca cl fp) elt ge e3, ?_, folded_no hc.2 X.env⟩
            · split at e4
              · cases e4
                refine ⟨fun pins s σ H Q I hw => pts_nil.run pins s σ H Q I ?_⟩
                obtain ⟨env, μ, st, he, hst, hw⟩ := hw
                exact hw true H μ (Go.refl _ _) hst rfl
              · exact pts_one (ht' _ _ (C.blk ok s H Ca cl fp) _ cnd e4)
              · cases e4
            · intro i hi
              have := List.all_eq_true.mp hsl i hi
              exact of_decide_eq_true this
          · cases h
        · cases h
      · cases h
    · cases h
  · cases h
end
/-! ### all expressions -/
mutual
def cE : Nat → Cc → Expr → Option SemE
  | 0, _, _ => none
  | n + 1, c, e =>
    match e with
    | .Name x _ => cName c x
    | .Constant K _ _ => cCon K
    | .BinOp a op b _ =>
      match binP op, cE n c a, cE n c b with
      | some p, some ga, some gb => some (gOp p (gCons ga (gCons gb gNil)))
      | _, _, _ => none
    | .UnaryOp .USub a _ => (cE n c a).map fun g => gOp pNeg (gCons g gNil)
    | .UnaryOp .Not a _ => (cE n c a).map gNot
    | .BoolOp op es _ => boolE (fun e => cE n c e) op es
    | .Compare a ops bs _ => cmpE (fun e => cE n c e) a ops bs
    | .IfExp t a b _ =>
      match cT n c t, cE n c a, cE n c b with
      | some gt, some ga, some gb => some (gIf gt ga gb)
      | _, _, _ => none
    | .Tuple es _ _ => (listE (fun e => cE n c e) es).map gTup
    | .List es _ => (listE (fun e => cE n c e) es).map gLst
    | .Subscript a i _ => subE (fun e => cE n c e) a i
    | .Call f es [] pos => callE c (fun e => cE n c e) f es pos
    | .ListComp elt gens scope _ => lcE c n (fun e => cE n c e) (fun e => cE n (c.blk scope) e) (fun e => cT n (c.blk scope) e) elt gens scope
    | _ => none
def cT : Nat → Cc → Expr → Option SemT
  | 0, _, _ => none
  | n + 1, c, e =>
    match e with
    | .BoolOp op es _ => boolT (fun e => cT n c e) op es
    | .UnaryOp .Not a _ => (cT n c a).map tNot
    | .Compare a ops bs _ => (cmpE (fun e => cE n c e) a ops bs).map tVal
    | _ => if plainTest e then (cE n c e).map tVal else none
end
theorem s_all {G : Gb} {k : Nat} : ∀ (n : Nat) (c : Cc), (∀ (X : Cx) (W : WX), CtxOk G X W c k → ∀ e g, cE n c e = some g → DE G X W e g) ∧ (∀ (X : Cx) (W : WX), CtxOk G X W c k → ∀ e g, cT n c e = some g → DT G X W e g)
  | 0, _ => ⟨fun _ _ _ _ _ h => (nomatch h), fun _ _ _ _ _ h => (nomatch h)⟩
  | n + 1, c => by
    have ih := fun c => s_all (G := G) (k := k) n c
    refine ⟨fun X W C e g h => ?_, fun X W C e g h => ?_⟩
    · have hE := (ih c).1 X W C
      have hT := (ih c).2 X W C
      unfold cE at h
      split at h
      · exact s_name C h
      · exact s_con h
      · split at h
        · rename_i p ga gb e1 e2 e3
          cases h
          exact de_bin (binP_ok C e1) (hE _ _ e2) (hE _ _ e3)
        · cases h
      · obtain ⟨g', e1, rfl⟩ := Option.map_eq_some_iff.mp h
        exact de_neg C.K (hE _ _ e1)
      · obtain ⟨g', e1, rfl⟩ := Option.map_eq_some_iff.mp h
        exact de_not (hE _ _ e1)
      · exact s_boolE hE h
      · exact s_cmp C hE h
      · split at h
        · rename_i gt ga gb e1 e2 e3
          cases h
          exact de_if (hT _ _ e1) (hE _ _ e2) (hE _ _ e3)
        · cases h
      · obtain ⟨g', e1, rfl⟩ := Option.map_eq_some_iff.mp h
        exact de_tup (s_list hE e1).1
      · obtain ⟨g', e1, rfl⟩ := Option.map_eq_some_iff.mp h
        exact de_lst (s_list hE e1).1
      · exact s_sub C hE h
      · exact s_call C hE h
      · obtain ⟨tg, iter, ifs, own, gi, t, cnd, ge, rfl, rfl, L⟩ := s_lc C hE (fun X' W' C' => (ih _).1 X' W' C') (fun X' W' C' => (ih _).2 X' W' C') h
        exact de_lc C.K C.calm C.nd L.hi L.ok L.hg L.ht L.he L.hsl L.hs
      · cases h
    · have hE := (ih c).1 X W C
      have hT := (ih c).2 X W C
      unfold cT at h
      split at h
      · exact dt_w (s_boolT hT h)
      · obtain ⟨g', e1, rfl⟩ := Option.map_eq_some_iff.mp h
        exact dt_not (hT _ _ e1)
      · obtain ⟨g', e1, rfl⟩ := Option.map_eq_some_iff.mp h
        exact s_cmpT C hE e1
      · split at h
        · rename_i hp
          obtain ⟨g', e1, rfl⟩ := Option.map_eq_some_iff.mp h
          exact dt_val C.K (hE _ _ e1) (test_plain hp X.env)
        · cases h
end PD
end

section
set_option Elab.async false
set_option linter.all false
set_option maxRecDepth 100000
set_option maxHeartbeats 1000000
/-! PD20: from the text to its meaning: statements. -/
namespace PD
open PySem PySem.Spec PyProof.Rows L2

/-- what is known of the error classes: class cn has the field f, or none -/
structure ClsOk (G : Gb) (prog : Program) (K : Fr) (cls : List (Option Str)) : Prop where
  lt : ∀ cn A, G.xa cn = some A → cn < cls.length
  kp : ∀ cn A, G.xa cn = some A → PySem.W.keepIn K (.ref A) = true ∧ PySem.W.subIn K (.ref A) (.type "BaseException") = some true ∧ PySem.W.typeIn K (.ref A) = some (.type "type")
  no : ∀ cn A, G.xa cn = some A → cls[cn]? = some none → PySem.W.excIn K A exTl "Exception.__new__" = true
  arg : ∀ cn A f, G.xa cn = some A → cls[cn]? = some (some f) → G.xf cn = f ∧ XfC K A ∧ PySem.W.findIn K (.ref A) f = some none ∧ ∃ fI px, SupC prog K A fI f px
structure CsOk (G : Gb) (X : Cx) (W : WX) (c : Cc) (k : Nat) : Prop extends CtxOk G X W c k where
  pass : PassesOwn (model X.prog X.w) X.A X.env X.xe
  stk : X.stack = X.env :: X.outer
  frm : X.env.frame = some X.env.locals
  gcls : ∀ x cn, c.gl x = some (.cls cn) → ∃ A, X.mg x = some (.ref A) ∧ G.xa cn = some A
  cok : ClsOk G X.prog X.K c.cls
  tab : SubOk G c.sub
theorem CsOk.tr {G : Gb} {X : Cx} {W W' : WX} {c : Cc} {k : Nat} (C : CsOk G X W c k) {pn : List (Addr × Obj)} {xe : Value → Shared → Prop} (tk : Takes (X.tr pn xe) W') (ps : PassesOwn (model X.prog X.w) X.A X.env xe) : CsOk G (X.tr pn xe) W' c k :=
  { K := C.K, N := C.N, nd := C.nd, nm := C.nm, kind := C.kind, fn := C.fn, calm := C.calm, gcon := C.gcon, gfn := C.gfn, gblt := C.gblt, defs := C.defs, room := C.room, tk := tk, pass := ps, stk := C.stk, frm := C.frm, gcls := C.gcls, cok := C.cok, tab := C.tab }

/-! ### except clauses -/
def heL (f : Expr → Option HE) : List Expr → Option (List HE)
  | [] => some []
  | e :: es =>
    if notStar e && decide (es.length < 1000) then
      match f e, heL f es with
      | some h, some hs => some (h :: hs)
      | _, _ => none
    else none
def heE (c : Cc) (i : Nat) (n f : Str) : Nat → Expr → Option HE
  | 0, _ => none
  | m + 1, e =>
    match e with
    | .Constant (.str x) _ _ => if goodS x.cps.toList then some (.con (.str x.cps.toList)) else none
    | .Constant (.int x) _ _ => some (.con (.int x))
    | .Constant (.bool x) _ _ => some (.con (.bl x))
    | .Constant .none _ _ => some (.con .non)
    | .Attribute (.Name y _) g _ => if y = n ∧ g = f ∧ ixName c n = some i ∧ hidden n = false then some .arg else none
    | .Tuple es _ _ => (heL (heE c i n f m) es).map .tup
    | _ => none
section
variable {G : Gb} {X : Cx} {W : WX} {c : Cc} {k : Nat}
theorem s_heL {i : Nat} {n f : Str} {h : Expr → Option HE} (hf : ∀ e t, h e = some t → HEAt X i n f e t) : ∀ {es : List Expr} {hs : List HE}, heL h es = some hs → HEsAt X i n f es hs
  | [], _, q => by cases q; exact .nil
  | e :: es, _, q => by
    unfold heL at q
    split at q
    · rename_i hc
      rw [Bool.and_eq_true] at hc
      split at q
      · rename_i t ts e1 e2
        cases q
        exact .cons (hf e t e1) (s_heL hf e2) (starEach_cons es X.env hc.1) (of_decide_eq_true hc.2)
      · cases q
    · cases q
theorem s_he (C : CtxOk G X W c k) {i : Nat} {n f : Str} : ∀ {m : Nat} {e : Expr} {h : HE}, heE c i n f m e = some h → HEAt X i n f e h
  | 0, _, _, q => nomatch q
  | m + 1, e, h, q => by
    unfold heE at q
    split at q
    · split at q
      · rename_i hs; cases q; exact .str hs
      · cases q
    · cases q; exact .int
    · cases q; exact .bl
    · cases q; exact .non
    · split at q
      · rename_i hc
        obtain ⟨rfl, rfl, h3, h4⟩ := hc
        cases q
        obtain ⟨v1, v2⟩ := ixName_vis C h3
        obtain ⟨d1, d2, d3⟩ := hid (x := _) (by rw [h4]; exact Bool.false_ne_true)
        exact .arg v1 v2 d1 d2 (base_plain rfl _ _)
      · cases q
    · obtain ⟨hs, e1, rfl⟩ := Option.map_eq_some_iff.mp q
      exact .tup (s_heL (fun e t he => s_he C he) e1)
    · cases q
end
def hdE (c : Cc) (n : Nat) (h : ExceptHandler) : Option Hd :=
  match h with
  | .ExceptHandler (some (.Name x _)) nm [.Return (some e) _] _ =>
    if isGl c x && !hidden x then
      match c.gl x with
      | some (.cls cn) =>
        match nm with
        | none => (heE c c.N.length "" "" n e).map fun r => ⟨cn, r⟩
        | some y =>
          match c.sc.names.lookup y, ixOf y c.N 0, c.cls[cn]? with
          | some .local, some i, some (some f) => if (List.range c.cls.length).all (fun c' => !c.sub c' cn || decide (c.cls[c']? = some (some f))) then (heE c i y f n e).map fun r => ⟨cn, r⟩ else none
          | _, _, _ => none
      | _ => none
    else none
  | _ => none
def hdsE (c : Cc) (n : Nat) : List ExceptHandler → Option (List Hd)
  | [] => some []
  | h :: hs =>
    match hdE c n h, hdsE c n hs with
    | some d, some ds => some (d :: ds)
    | _, _ => none
section
variable {G : Gb} {X : Cx} {W : WX} {c : Cc} {k : Nat}
theorem s_hd (C : CsOk G X W c k) {n : Nat} {h : ExceptHandler} {hd : Hd} (q : hdE c n h = some hd) : ∃ z, HdAt G X c.sub h hd z := by
  unfold hdE at q
  split at q
  · rename_i x np nm e rp pp
    split at q
    · rename_i hc
      rw [Bool.and_eq_true, Bool.not_eq_true'] at hc
      obtain ⟨d1, d2, d3⟩ := hid (x := x) (by rw [hc.2]; exact Bool.false_ne_true)
      split at q
      · rename_i cn ec
        obtain ⟨A, m1, m2⟩ := C.gcls x cn ec
        have nm' : Names X x (.ref A) := ⟨isGl_gl C.toCtxOk hc.1, d1, .inl m1⟩
        split at q
        · obtain ⟨r, e1, rfl⟩ := Option.map_eq_some_iff.mp q
          have e2 := s_he C.toCtxOk e1
          rw [← C.N] at e2
          exact ⟨_, .plain nm' m2 e2⟩
        · rename_i y
          split at q
          · rename_i i f l1 l2 l3
            split at q
            · rename_i hall
              obtain ⟨r, e1, rfl⟩ := Option.map_eq_some_iff.mp q
              refine ⟨_, .named nm' m2 (s_he C.toCtxOk e1) (by rw [C.N]; exact ixOf_at l2) (by show X.env.scope.names.lookup y = _; rw [C.nm]; exact l1) fun c' A' hs hA => ?_⟩
              have hlt := C.cok.lt c' A' hA
              have := List.all_eq_true.mp hall c' (List.mem_range.mpr hlt)
              have hs' : c.sub c' cn = true := hs
              rw [hs', Bool.not_true, Bool.false_or] at this
              obtain ⟨a1, a2, a3, _⟩ := C.cok.arg c' A' f hA (of_decide_eq_true this)
              exact ⟨a1, by rw [C.K]; exact a2, by rw [C.K]; exact a3⟩
            · cases q
          · cases q
      · cases q
    · cases q
  · cases q
theorem s_hds (C : CsOk G X W c k) {n : Nat} : ∀ {hs : List ExceptHandler} {hds : List Hd}, hdsE c n hs = some hds → ∃ l, HdsAt G X c.sub hs hds l
  | [], _, q => by cases q; exact ⟨[], .nil⟩
  | h :: hs, _, q => by
    unfold hdsE at q
    split at q
    · rename_i d ds e1 e2
      cases q
      obtain ⟨z, hz⟩ := s_hd C e1
      obtain ⟨l, hl⟩ := s_hds C e2
      exact ⟨_, .cons hz hl⟩
    · cases q
end

/-! ### assignments -/
theorem sw_is {elt : Expr} {gs : List Comprehension} {scope : Scope} {pos py : Pos} {y : Str} {l : Nat} {env : PySem.Env} (hk : env.scope.kind = .function) :
    swapsWith (.ListComp elt gs scope pos) (some (.Name y py)) l env = pure ((env.scope.names.lookup y == some .local) && (py.line == pos.line) && !(scope.names.any fun (n, k) => n == y && (k == .local || k == .cell))) := by
  have hb : env.blockKind = .function := by unfold Env.blockKind; rw [hk]; rfl
  unfold swapsWith
  simp only [hb, Expr.pos, Env.kindOf]
  rfl
def namesE (c : Cc) : List Expr → Option (List Nat)
  | [] => some []
  | .Name x _ :: es =>
    match locIx c x, namesE c es with
    | some i, some is => some (i :: is)
    | _, _ => none
  | _ => none
theorem s_names {G : Gb} {X : Cx} {W : WX} {c : Cc} {k : Nat} (C : CtxOk G X W c k) : ∀ {es : List Expr} {is : List Nat}, namesE c es = some is → NamesAt X es is
  | [], _, h => by cases h; exact .nil
  | e :: es, _, h => by
    unfold namesE at h
    split at h
    · rename_i q; cases q
    · rename_i x p es' q
      cases q
      split at h
      · rename_i i is e1 e2
        cases h
        obtain ⟨h1, h2, h3⟩ := locIx_ok C e1
        exact .cons h1 h2 h3 (s_names C e2)
      · cases h
    · cases h
/-- name = value -/
def setE (c : Cc) (n : Nat) (fe : Expr → Option SemE) (x : Str) (px : Pos) (v : Expr) : Option SemS :=
  match locIx c x with
  | none => none
  | some i =>
    match v with
    | .ListComp elt gens scope pos => (fe v).map (sSet i)
    | v => if noComp v then (fe v).map (sSet i) else none
def asgE (c : Cc) (n : Nat) (fe : Expr → Option SemE) (t v : Expr) : Option SemS :=
  match t with
  | .Name x px => setE c n fe x px v
  | .Tuple ts _ _ => if notTup v && noComp v then
      match namesE c ts, fe v with
      | some is, some g => some (sUnpack is g)
      | _, _ => none
    else none
  | .Subscript o i _ => if notSlice i && noComp v then
      match fe o, fe i, fe v with
      | some go, some gi, some gv => some (sSetIx go gi gv)
      | _, _, _ => none
    else none
  | _ => none
def exprE (c : Cc) (fe : Expr → Option SemE) (e : Expr) : Option SemS :=
  match e with
  | .Constant (.str _) _ _ => some sNext
  | .Call (.Attribute o m ap) [v] [] cp =>
    if m = "append" then
      if plainBase o && (notStar v && (ap.endLine == cp.line)) then
        match fe o, fe v with
        | some go, some gv => some (sAppend go gv)
        | _, _ => none
      else none
    else (fe e).map sExpr
  | e => if noComp e then (fe e).map sExpr else none
def augP : Operator → Option Prim
  | .Add => some pIAdd
  | .Sub => some pSub
  | _ => none
def raiseE (c : Cc) (fe : Expr → Option SemE) (x : Str) (es : List Expr) : Option SemS :=
  if isGl c x && !hidden x then
    match c.gl x with
    | some (.cls cn) =>
      match es, c.cls[cn]? with
      | [], some none => some (sRaise0 cn)
      | [e], some (some _) => if notStar e then (fe e).map (sRaise1 cn) else none
      | _, _ => none
    | _ => none
  else none
def seqE (f : Stmt → Option SemS) : List Stmt → Option SemS
  | [] => some sNext
  | [s] => f s
  | s :: r =>
    match f s, seqE f r with
    | some a, some b => some (sSeq a b)
    | _, _ => none
def cS : Nat → Cc → Stmt → Option SemS
  | 0, _, _ => none
  | n + 1, c, s =>
    match s with
    | .Pass _ => some sNext
    | .Break _ => some sBreak
    | .Continue _ => some sCont
    | .Return none _ => some sRetN
    | .Return (some e) _ => (cE n c e).map sRet
    | .Expr e _ => exprE c (cE n c) e
    | .Assign [t] v _ => asgE c n (cE n c) t v
    | .AugAssign (.Name x _) op e _ =>
      match locIx c x, augP op, cE n c e with
      | some i, some p, some g => some (sAug i p g)
      | _, _, _ => none
    | .If t as bs _ =>
      match cT n c t, seqE (cS n c) as, seqE (cS n c) bs with
      | some gt, some f, some g => some (sIf gt f g)
      | _, _, _ => none
    | .For tg it body [] _ =>
      if notSet it then
        match cTg c n tg, itE c (cE n c) tg it, seqE (cS n c) body with
        | some t, some gi, some f => some (sFor gi t f)
        | _, _, _ => none
      else none
    | .While t body [] _ =>
      match cT n c t, seqE (cS n c) body with
      | some gt, some f => some (sWhile gt f)
      | _, _ => none
    | .Raise (some (.Call (.Name x _) es [] _)) none _ => raiseE c (cE n c) x es
    | .Try body (h :: hs) [] [] _ =>
      match seqE (cS n c) body, hdsE c n (h :: hs) with
      | some f, some hds => some (sTry c.sub f hds)
      | _, _ => none
    | _ => none
section
variable {G : Gb} {X : Cx} {W : WX} {c : Cc} {k : Nat} {fe : Expr → Option SemE}
theorem s_seq {f : Stmt → Option SemS} (hf : ∀ s g, f s = some g → DS G X W s g) : ∀ {ss : List Stmt} {g : SemS}, seqE f ss = some g → DSs G X W ss g
  | [], _, h => by cases h; exact dss_nil
  | [s], g, h => PSs.weak (pss_one (hf s g h)) fun _ _ _ q => q
  | s :: s2 :: r, g, h => by
    unfold seqE at h
    split at h
    · rename_i a b e1 e2
      cases h
      exact dss_cons (hf s a e1) (s_seq hf e2)
    · cases h
theorem s_set (C : CsOk G X W c k) {n : Nat} {x : Str} {px pos : Pos} {v : Expr} {g : SemS} (h : setE c (n + 1) (cE (n + 1) c) x px v = some g) : DS G X W (.Assign [.Name x px] v pos) g := by
  have hE := (s_all (G := G) (k := k) (n + 1) c).1 X W C.toCtxOk
  unfold setE at h
  split at h
  · cases h
  · rename_i i hi
    obtain ⟨h1, h2, h3⟩ := locIx_ok C.toCtxOk hi
    split at h
    · rename_i elt gens scope lp
      obtain ⟨g', e1, rfl⟩ := Option.map_eq_some_iff.mp h
      have hk : X.env.scope.kind = .function := by rw [C.nm]; exact C.kind
      cases hb : ((X.env.scope.names.lookup x == some .local) && (px.line == lp.line) && !(scope.names.any fun (n, k) => n == x && (k == .local || k == .cell))) with
      | false => exact ds_set C.nd h1 h2 (hE _ _ e1) (by rw [sw_is hk, hb]) h3
      | true =>
        have hsw := sw_is (elt := elt) (gs := gens) (scope := scope) (pos := lp) (py := px) (y := x) (l := pos.line) hk
        rw [hb] at hsw
        simp only [Bool.and_eq_true, beq_iff_eq] at hb
        have e2 : lcE c n (fun e => cE n c e) (fun e => cE n (c.blk scope) e) (fun e => cT n (c.blk scope) e) elt gens scope = some g' := by
          have := e1
          unfold cE at this
          exact this
        obtain ⟨tg, iter, ifs, own, gi, t, cnd, ge, rfl, rfl, L⟩ := s_lc C.toCtxOk (fun e g => (s_all (G := G) (k := k) n c).1 X W C.toCtxOk e g) (fun X' W' C' => (s_all (G := G) (k := k) n _).1 X' W' C') (fun X' W' C' => (s_all (G := G) (k := k) n _).2 X' W' C') e2
        exact ds_setLc C.K C.calm C.nd h1 hb.1.1 hsw L.hi L.ok L.hg L.ht L.he L.hsl L.hs
    · split at h
      · rename_i hn
        obtain ⟨g', e1, rfl⟩ := Option.map_eq_some_iff.mp h
        exact ds_set C.nd h1 h2 (hE _ _ e1) (swaps_no hn _ _ _) h3
      · cases h
theorem s_asg (C : CsOk G X W c k) {n : Nat} {t v : Expr} {pos : Pos} {g : SemS} (h : asgE c (n + 1) (cE (n + 1) c) t v = some g) : DS G X W (.Assign [t] v pos) g := by
  have hE := (s_all (G := G) (k := k) (n + 1) c).1 X W C.toCtxOk
  unfold asgE at h
  split at h
  · exact s_set C h
  · rename_i ts kk tp
    split at h
    · rename_i hc
      rw [Bool.and_eq_true] at hc
      split at h
      · rename_i is g' e1 e2
        cases h
        exact ds_unpack C.K C.calm C.nd (s_names C.toCtxOk e1) (hE _ _ e2) (show swapsWithSole _ _ _ _ = _ from swaps_no hc.2 (some (.Tuple ts kk tp)) pos.line X.env) (stores_no hc.1 _ _)
      · cases h
    · cases h
  · rename_i o i tp
    split at h
    · rename_i hc
      rw [Bool.and_eq_true] at hc
      split at h
      · rename_i go gi gv e1 e2 e3
        cases h
        exact ds_setIx C.K (hE _ _ e3) (hE _ _ e1) (hE _ _ e2) (asg_plain hc.1) (show swapsWithSole _ _ _ _ = _ from swaps_no hc.2 (some (.Subscript o i tp)) pos.line X.env) (stores_sub _ _)
      · cases h
    · cases h
  · cases h
theorem s_expr (C : CsOk G X W c k) (hE : ∀ e g, fe e = some g → DE G X W e g) {e : Expr} {pos : Pos} {g : SemS} (h : exprE c fe e = some g) : DS G X W (.Expr e pos) g := by
  unfold exprE at h
  split at h
  · cases h; exact ds_doc
  · rename_i o m ap v cp
    split at h
    · rename_i em
      subst em
      split at h
      · rename_i hc
        rw [Bool.and_eq_true, Bool.and_eq_true] at hc
        obtain ⟨c1, c2, c3⟩ := hc
        split at h
        · rename_i go gv e1 e2
          cases h
          exact ds_append C.K (hE _ _ e1) (hE _ _ e2) (star_one X.env c2) (base_plain c1 _ _) (star_few c2) c3 (swaps_no rfl _ _ _)
        · cases h
      · cases h
    · obtain ⟨g', e1, rfl⟩ := Option.map_eq_some_iff.mp h
      exact ds_expr (hE _ _ e1) (swaps_no rfl _ _ _)
  · split at h
    · rename_i hn
      obtain ⟨g', e1, rfl⟩ := Option.map_eq_some_iff.mp h
      exact ds_expr (hE _ _ e1) (swaps_no hn _ _ _)
    · cases h
theorem s_raise (C : CsOk G X W c k) (hE : ∀ e g, fe e = some g → DE G X W e g) {x : Str} {es : List Expr} {p pos pos' : Pos} {g : SemS} (h : raiseE c fe x es = some g) : DS G X W (.Raise (some (.Call (.Name x p) es [] pos)) none pos') g := by
  unfold raiseE at h
  split at h
  · rename_i hc
    rw [Bool.and_eq_true, Bool.not_eq_true'] at hc
    obtain ⟨d1, d2, d3⟩ := hid (x := x) (by rw [hc.2]; exact Bool.false_ne_true)
    split at h
    · rename_i cn ec
      obtain ⟨A, m1, m2⟩ := C.gcls x cn ec
      obtain ⟨k1, k2, k3⟩ := C.cok.kp cn A m2
      split at h
      · rename_i e2
        cases h
        exact ds_raise0 C.K C.calm C.tk m2 (C.cok.no cn A m2 e2) m1 k1 k2 k3 (isGl_gl C.toCtxOk hc.1) d1
      · rename_i e f e2
        split at h
        · rename_i hn
          obtain ⟨g', e1, rfl⟩ := Option.map_eq_some_iff.mp h
          obtain ⟨a1, a2, a3, fI, px, S⟩ := C.cok.arg cn A _ m2 e2
          exact ds_raise1 C.K C.calm C.tk m2 a1 S C.room m1 (isGl_gl C.toCtxOk hc.1) (hE _ _ e1) (star_one X.env hn) d1
        · cases h
      · cases h
    · cases h
  · cases h
end
theorem s_stmt {G : Gb} {k : Nat} : ∀ (n : Nat) (c : Cc) (X : Cx) (W : WX), CsOk G X W c k → ∀ s g, cS n c s = some g → DS G X W s g
  | 0, _, _, _, _, _, _, h => nomatch h
  | n + 1, c, X, W, C, s, g, h => by
    have hE := (s_all (G := G) (k := k) n c).1 X W C.toCtxOk
    have hT := (s_all (G := G) (k := k) n c).2 X W C.toCtxOk
    have hS := s_stmt (G := G) (k := k) n c X W C
    unfold cS at h
    split at h
    · cases h; exact ds_pass
    · cases h; exact ds_break
    · cases h; exact ds_cont
    · cases h; exact ds_retN
    · obtain ⟨g', e1, rfl⟩ := Option.map_eq_some_iff.mp h
      exact ds_ret (hE _ _ e1)
    · exact s_expr C hE h
    · cases n with
      | zero =>
        exfalso
        unfold asgE at h
        split at h
        · unfold setE at h
          split at h
          · cases h
          · split at h <;> first | (cases h; done) | (split at h <;> cases h)
        · split at h
          · split at h
            · rename_i e2; cases e2
            · cases h
          · cases h
        · split at h
          · split at h
            · rename_i e2 _ _; cases e2
            · cases h
          · cases h
        · cases h
      | succ n => exact s_asg C h
    · split at h
      · rename_i i p g' e1 e2 e3
        cases h
        obtain ⟨h1, h2, h3⟩ := locIx_ok C.toCtxOk e1
        refine ds_aug C.nd h1 h2 (hE _ _ e3) ?_ h3
        rw [C.K]
        unfold augP at e2
        split at e2 <;> cases e2
        · exact iop_pAdd
        · exact iop_pSub
      · cases h
    · split at h
      · rename_i gt f g' e1 e2 e3
        cases h
        exact ds_if (hT _ _ e1) (s_seq hS e2) (s_seq hS e3)
      · cases h
    · split at h
      · rename_i hn
        split at h
        · rename_i t gi f e1 e2 e3
          cases h
          exact ds_for C.K C.pass C.calm C.nd (s_tg C.toCtxOk e1) (s_it C.toCtxOk hE e2) (s_seq hS e3) (folded_no hn X.env)
        · cases h
      · cases h
    · split at h
      · rename_i gt f e1 e2
        cases h
        exact ds_while C.pass (hT _ _ e1) (s_seq hS e2)
      · cases h
    · exact s_raise C hE h
    · split at h
      · rename_i f hds e1 e2
        cases h
        obtain ⟨l, hl⟩ := s_hds C e2
        exact ds_try C.K C.tab C.stk C.frm C.nd C.tk (fun W' pn xe tk ps => s_seq (s_stmt (G := G) (k := k) n c _ W' (C.tr tk ps)) e1) hl
      · cases h
    · cases h
end PD
end

section
set_option Elab.async false
set_option linter.all false
set_option maxRecDepth 100000
set_option maxHeartbeats 1000000
/-! PD21: defs. -/
namespace PD
open PySem PySem.Spec PyProof.Rows L2

/-- what a def of np parameters and nN slots makes of its arguments -/
def semDef (np nN : Nat) (g : SemS) : List A → Store → Out A := fun as st =>
  if as.length = np then finish st.length (g (as.map some ++ List.replicate (nN - np) none) st) else .bad
section
variable {G : Gb} {P : Program} {w : World} {K : Fr} {mg : Str → Option Value} {base : Heap}
theorem Pst.fin {W : WX} {D : Ends} {Q : VK} {σ : L2.St} {μ : List Addr} {H : Hp} {o : SO} {L : Nat} (hL : μ.length = L) (hn : ∀ σ H', Q .non H' → D.nx σ H') (hr : ∀ v H', Q v H' → D.rt v H')
    (h : Pst G (fun cls d _ H' => W cls d [] H') σ μ H (RA G) (finish L o) Q) : PstS G (fun cls d _ H' => W cls d [] H') D μ H o := by
  subst hL
  cases o with
  | nx env st => exact fun σ' H' μ' g s r => hn σ' H' (h .non H' μ g.forget (s.forget g rfl) rfl)
  | rt a st =>
    intro v H' μ' g s r
    obtain ⟨a', st1, e⟩ := settle_is g s r
    obtain ⟨μ1, g1, s1, r1⟩ := settle_ok g s r e
    have h' : Pst G (fun cls d _ H' => W cls d [] H') σ μ H (RA G) (settleV μ.length a st) Q := h
    rw [e] at h'
    exact hr v H' (h' v H' μ1 g1 s1 r1)
  | ex e env st => exact fun c d σ' H' μ' g s r x => h c d H' μ g.forget (s.forget g rfl) x
  | bk env st => exact h.elim
  | ct env st => exact h.elim
  | bad => exact h.elim
/-- what the module says of the names -/
structure ModOk (G : Gb) (P : Program) (K : Fr) (mg : Str → Option Value) (gl : Str → Option GK) (cls : List (Option Str)) (sub : Nat → Nat → Bool) : Prop where
  eqK : G.K = K
  gcon : ∀ x d, gl x = some (.con d) → GlOk G mg x d
  gfn : ∀ x f, gl x = some (.fn f) → ∃ ad, mg x = some (.ref ad) ∧ G.fa f = some ad
  gblt : ∀ x, gl x = some .blt → mg x = none
  gcls : ∀ x cn, gl x = some (.cls cn) → ∃ A, mg x = some (.ref A) ∧ G.xa cn = some A
  cok : ClsOk G P K cls
  tab : SubOk G sub
theorem env_start {μ : List Addr} {H : Hp} : ∀ {as : List A} {vs : List V}, RAs G μ H as vs → ∀ (m : Nat), EnvOk G.K G.fa μ H (as.map some ++ List.replicate m none) (vs.map some ++ List.replicate m none) := by
  intro as vs r m
  have hl : as.length = vs.length := Paired.length r
  refine ⟨by simp [hl], fun i a e => ?_⟩
  by_cases hi : i < as.length
  · rw [List.getElem?_append_left (by simpa using hi), List.getElem?_map] at e
    cases ea : as[i]? with
    | none => rw [ea] at e; cases e
    | some a' =>
      rw [ea] at e
      have e' : a' = a := by simpa using e
      subst e'
      have key : ∀ {as : List A} {vs : List V} {i : Nat} {a : A}, RAs G μ H as vs → as[i]? = some a → ∃ v, vs[i]? = some v ∧ RepA G.K G.fa μ H a v := by
        intro as vs i a r
        induction r generalizing i with
        | nil => intro e; simp at e
        | cons h t ih =>
          intro e
          cases i with
          | zero => simp at e; subst e; exact ⟨_, rfl, h⟩
          | succ i => obtain ⟨v, e1, e2⟩ := ih (by simpa using e); exact ⟨v, by simpa using e1, e2⟩
      obtain ⟨v, e1, e2⟩ := key r ea
      refine ⟨v, ?_, e2⟩
      rw [List.getElem?_append_left (by rw [List.length_map, ← hl]; exact hi), List.getElem?_map, e1]; rfl
  · rw [List.getElem?_append_right (by simpa using hi)] at e
    rw [List.getElem?_replicate] at e
    split at e <;> cases e
theorem def_fn {gl : Str → Option GK} {cls : List (Option Str)} {sub : Nat → Nat → Bool} (M : ModOk G P K mg gl cls sub) {F : SemF} {k : Nat} (D : ∀ f ad, G.fa f = some ad → DefOk G P w K mg base k f (F f))
    {x qual : Str} {st : Stmt} {ad : Addr} {fd : FuncData} {N ps : List Str} (Fu : Fun K x qual st ad fd) (S : FnScope N ps (defScope st)) {n : Nat} {g : SemS}
    (hg : seqE (cS n { N := N, sc := defScope st, fnc := fun _ => true, gl := gl, F := F, cls := cls, sub := sub }) (defBody st) = some g) : FnOk P w K mg base (L2.CX P w) (k + 2) ad fd ps (spF G (semDef ps.length N.length g) ps.length) := by
  have hlen : ps.length ≤ N.length := by
    have := S.pre
    rw [← this, List.length_take]
    exact Nat.min_le_right _ _
  refine Fu.okX S (fun vs H Q E h => spF_len h) fun cdv A outer s H vs Q E hr hsp => ?_
  obtain ⟨μ, st', as, hl, hs, r, p⟩ := hsp
  have C : CsOk G (cxOf (L2.CX P w) P w K mg base N qual (defScope st) ad cdv A outer s H E) (fun cls d _ H => E cls d H) { N := N, sc := defScope st, fnc := fun _ => true, gl := gl, F := F, cls := cls, sub := sub } k :=
    { K := M.eqK, N := rfl, nd := S.nd, nm := rfl, kind := S.kind, fn := fun _ _ => rfl, calm := rfl, gcon := M.gcon, gfn := M.gfn, gblt := M.gblt, defs := D, room := hr, tk := takes_of rfl rfl rfl rfl, pass := passes_of rfl, stk := rfl, frm := rfl, gcls := M.gcls, cok := M.cok, tab := M.tab }
  refine ⟨_, s_seq (fun s g h => s_stmt n _ _ _ C s g h) hg, as.map some ++ List.replicate (N.length - ps.length) none, μ, st', ?_, hs, ?_⟩
  · have e := env_start r (N.length - ps.length)
    have hv : vs.length = ps.length := by rw [← hl]; exact (Paired.length r).symm
    unfold L2.start
    rw [hv]
    exact e
  · unfold semDef at p
    rw [if_pos hl] at p
    exact Pst.fin (W := fun cls d _ H => E cls d H) hs.len (fun _ _ q => q) (fun _ _ q => q) p
end

/-! ### a module's defs -/
/-- a def of the module: its name, where it stands, its slots, its parameters, its meaning from the meanings of the defs -/
structure DefD where
  x : Str
  st : Stmt
  N : List Str
  ps : List Str
  g : SemF → SemS
structure DefD.Ok (d : DefD) (gl : Str → Option GK) (cls : List (Option Str)) (sub : Nat → Nat → Bool) : Prop where
  sc : FnScope d.N d.ps (defScope d.st)
  bd : ∀ (kV doc pm : Value) (an : Option Addr) (cdv ct : Value) (us : List Value), us.length = d.ps.length → bindArgs (PySem.W.fnOf d.x d.x (defArgs d.st) (defBody d.st) (defScope d.st) .none kV doc pm an cdv ct) ⟨us, []⟩ = pure (d.ps.zip us)
  cp : ∀ F, seqE (cS 60 { N := d.N, sc := defScope d.st, fnc := fun _ => true, gl := gl, F := F, cls := cls, sub := sub }) (defBody d.st) = some (d.g F)
/-- the module's meaning: j calls deep -/
def semT (T : List DefD) : Nat → SemF
  | 0 => fun _ _ _ => .bad
  | j + 1 => fun f as st =>
    match T[f]? with
    | some d => semDef d.ps.length d.N.length (d.g (semT T j)) as st
    | none => .bad
/-- what the written part says of a def -/
structure FnIn (K : Fr) (x : Str) (st : Stmt) (f : Addr) : Prop where
  ns : PySem.W.nsIn K mainGlobals x = some (some (.ref f))
  ex : ∃ (oc : Value) (od : Option Addr) (kV doc pm : Value) (an : Option Addr) (cdv ct : Value) (osl : Array (Option Value)),
    K.lookup f = some ⟨oc, od, .func (PySem.W.fnOf x x (defArgs st) (defBody st) (defScope st) .none kV doc pm an cdv ct), osl⟩ ∧ PySem.W.codeIn K cdv x = true
  kp : PySem.W.keepIn K (.ref f) = true
theorem FnIn.fun {K : Fr} {x : Str} {st : Stmt} {f : Addr} (h : FnIn K x st f) : ∃ fd, Fun K x x st f fd := by
  obtain ⟨oc, od, kV, doc, pm, an, cdv, ct, osl, l, c⟩ := h.ex
  exact ⟨_, fun_mk l c h.kp⟩
theorem DefD.Ok.binds {K : Fr} {d : DefD} {gl : Str → Option GK} {cls : List (Option Str)} {sub : Nat → Nat → Bool} (o : d.Ok gl cls sub) {f : Addr} {fd : FuncData} (F : Fun K d.x d.x d.st f fd) : Binds K fd d.ps [] := F.binds o.bd
section
variable {G : Gb} {P : Program} {w : World} {K : Fr} {mg : Str → Option Value} {base : Heap}
theorem rowP_get {α β : Type} {R : α → β → Prop} {l : List α} {m : List β} (h : Paired R l m) : ∀ {i : Nat} {b : β}, m[i]? = some b → ∃ a, l[i]? = some a ∧ R a b := by
  induction h with
  | nil => intro i b e; simp at e
  | cons h t ih =>
    intro i b e
    cases i with
    | zero => simp at e; subst e; exact ⟨_, rfl, h⟩
    | succ i => obtain ⟨a, e1, e2⟩ := ih (by simpa using e); exact ⟨a, by simpa using e1, e2⟩
theorem all_defs {gl : Str → Option GK} {cls : List (Option Str)} {sub : Nat → Nat → Bool} (M : ModOk G P K mg gl cls sub) {T : List DefD} {fs : List Addr} (hT : ∀ d ∈ T, d.Ok gl cls sub) (hF : Paired (fun d f => FnIn K d.x d.st f) T fs) (hfa : G.fa = fun n => fs[n]?) :
    ∀ (j f : Nat) (ad : Addr), G.fa f = some ad → DefOk G P w K mg base (2 * j) f (semT T j f)
  | 0, f, ad, h => by
    have h' : fs[f]? = some ad := by rw [hfa] at h; exact h
    obtain ⟨d, e1, e2⟩ := rowP_get hF h'
    obtain ⟨fd, Fu⟩ := e2.fun
    have o := hT d (List.mem_of_getElem? e1)
    refine ⟨ad, fd, d.ps, h, Fu.kp, o.binds Fu, ⟨fun vs H Q E q => spF_len q, fun A outer s H args us vs Q E _ _ _ _ q => ?_⟩, fun _ _ _ => rfl⟩
    obtain ⟨μ, st, as, _, _, _, p⟩ := q
    exact p.elim
  | j + 1, f, ad, h => by
    have h' : fs[f]? = some ad := by rw [hfa] at h; exact h
    obtain ⟨d, e1, e2⟩ := rowP_get hF h'
    obtain ⟨fd, Fu⟩ := e2.fun
    have o := hT d (List.mem_of_getElem? e1)
    have q := def_fn (w := w) (base := base) M (all_defs M hT hF hfa j) Fu o.sc (o.cp (semT T j))
    have e : semT T (j + 1) f = semDef d.ps.length d.N.length (d.g (semT T j)) := by
      funext as st
      show (match T[f]? with | some d => semDef d.ps.length d.N.length (d.g (semT T j)) as st | none => Out.bad) = _
      rw [e1]
    rw [e]
    exact ⟨ad, fd, d.ps, h, Fu.kp, o.binds Fu, q, fun as st hl => by unfold semDef; rw [if_neg hl]⟩
/-- the law's promise: true of every script -/
def spLaw (K : Fr) (n : Nat) : Sp := fun vs H Q E => ∃ (a : Addr) (ns : List Int), vs = [.ref a] ∧ ns.length ≤ n ∧ Only H ∧ SqL K H a (ns.map V.int) ∧ ∀ v H', v = V.bl true → Q v H'
def noLists (K : Fr) : Bool := K.all fun p => match p.2.data with | .seq _ _ => !(p.2.cls == .type "list") | _ => true
theorem lookup_in {K : Fr} {a : Addr} {o : Obj} (h : K.lookup a = some o) : (a, o) ∈ K := by
  have key : ∀ (l : List (Addr × Obj)), l.lookup a = some o → (a, o) ∈ l := by
    intro l
    induction l with
    | nil => intro h; cases h
    | cons p l ih =>
      intro h
      rw [List.lookup_cons] at h
      split at h
      · rename_i e; cases h; rw [eq_of_beq e]; exact List.mem_cons_self
      · exact List.mem_cons_of_mem _ (ih h)
  exact key K h
theorem noLists_not {K : Fr} (h : noLists K = true) {a : Addr} {o : Obj} (l : K.lookup a = some o) (hc : o.cls = .type "list") {its : Array Value} {n : Nat} (hd : o.data = .seq its n) : False := by
  unfold noLists at h
  have hm : (a, o) ∈ K := lookup_in l
  have := List.all_eq_true.mp h _ hm
  simp [hd, hc] at this
theorem ints_data {K : Fr} {H : Hp} : ∀ (ns : List Int), RepDs K H (ns.map D.int) (ns.map V.int)
  | [] => rfl
  | n :: ns => .cons rfl (ints_data ns)
theorem law_fn {gl : Str → Option GK} {cls : List (Option Str)} {sub : Nat → Nat → Bool} (M : ModOk G P K mg gl cls sub) {T : List DefD} {fs : List Addr} (hT : ∀ d ∈ T, d.Ok gl cls sub) (hF : Paired (fun d f => FnIn K d.x d.st f) T fs) (hfa : G.fa = fun n => fs[n]?)
    (hK : noLists K = true) {j : Nat} {d : DefD} {ad : Addr} {fd : FuncData} (hd : d ∈ T) (hps : d.ps = [("script" : Str)]) (Fu : Fun K d.x d.x d.st ad fd) {n : Nat} (hlaw : ∀ ns : List Int, ns.length ≤ n → semDef 1 d.N.length (d.g (semT T j)) [.d (.lst (ns.map D.int))] [] = .ok (.d (.bl true)) []) :
    FnOk P w K mg base (L2.CX P w) (2 * j + 2) ad fd ["script"] (spLaw K n) := by
  have o := hT d hd
  have q := def_fn (w := w) (base := base) M (all_defs M hT hF hfa j) Fu o.sc (o.cp (semT T j))
  rw [hps] at q
  refine q.imp fun vs H Q E ⟨a, ns, e, hl, hO, hS, hq⟩ => ?_
  subst e
  refine ⟨[], [], [.d (.lst (ns.map D.int))], rfl, ⟨rfl, List.nodup_nil, fun i b m h _ => by simp at h⟩, .cons ?_ .nil, ?_⟩
  · rcases hS with (h | ⟨ob, h⟩) | ⟨ob, its, m, h1, h2, _, h4, _⟩
    · rcases hO a with z | ⟨_, _, z⟩ <;> (rw [h] at z; cases z)
    · show RepD G.K H (.lst (ns.map D.int)) (.ref a)
      exact ⟨a, ns.map V.int, rfl, ⟨ob, h⟩, ints_data ns⟩
    · exact (noLists_not hK h1 h2 h4).elim
  · show Pst G _ [] [] H (RA G) (semDef 1 d.N.length (d.g (semT T j)) [.d (.lst (ns.map D.int))] []) Q
    rw [hlaw ns hl]
    exact fun v H' μ' g s r => hq v H' r
end
end PD
end

section
set_option Elab.async false
set_option linter.all false
set_option maxRecDepth 100000
set_option maxHeartbeats 1000000
/-! PE0: reckoning with the meanings. -/
namespace PD
@[simp] theorem settle_ok_d (L : Nat) (x : D) (st : Store) : settle L (.ok (.d x) st) = .ok (.d x) (st.take L) := rfl
@[simp] theorem settle_exn (L : Nat) (e : Exn) (st : Store) : settle L (.exn e st) = .exn e (st.take L) := rfl
@[simp] theorem settle_bad (L : Nat) : settle L .bad = .bad := rfl
@[simp] theorem settle_new (m : MO) (st : Store) : settle st.length (.ok (.obj st.length) (st ++ [m])) = .ok (.obj st.length) (st ++ [m]) := by
  simp [settle, settleV]
@[simp] theorem gVar_0 (a : Option A) (r : Env) (st : Store) : gVar 0 (a :: r) st = (match a with | some a => .ok a st | none => .bad) := by
  cases a <;> rfl
@[simp] theorem gVar_s (i : Nat) (a : Option A) (r : Env) (st : Store) : gVar (i + 1) (a :: r) st = gVar i r st := by
  simp [gVar]
@[simp] theorem gCon_ok (d : D) (env : Env) (st : Store) : gCon d env st = .ok (.d d) st := rfl
@[simp] theorem gFn_ok (f : Nat) (env : Env) (st : Store) : gFn f env st = .ok (.fn f) st := rfl
@[simp] theorem gNil_ok (env : Env) (st : Store) : gNil env st = .ok [] st := rfl
@[simp] theorem now_d (x : D) (st : Store) : now (.d x) st = some x := rfl
@[simp] theorem nowAll_nil (st : Store) : nowAll [] st = some [] := rfl
@[simp] theorem nowAll_d (x : D) (r : List A) (st : Store) : nowAll (.d x :: r) st = (nowAll r st).map (x :: ·) := by
  cases h : nowAll r st <;> simp [nowAll, h]
@[simp] theorem give_v (d : D) (st : Store) : give (.v d) st = .ok (.d d) st := rfl
@[simp] theorem freeze_d (x : D) (st : Store) : freeze (.d x) st = some (x, st) := rfl
@[simp] theorem freezeAll_nil (st : Store) : freezeAll [] st = some ([], st) := rfl
@[simp] theorem freezeAll_d (x : D) (r : List A) (st : Store) : freezeAll (.d x :: r) st = (freezeAll r st).map (fun p => (x :: p.1, p.2)) := by
  cases h : freezeAll r st <;> simp [freezeAll, h]
theorem ev_op {p : Prim} {as : SemAs} {env : Env} {st : Store} : gOp p as env st = settle st.length ((as env st).bind fun xs s1 => opOn p xs s1) := rfl
theorem ev_cons {a : SemE} {r : SemAs} {env : Env} {st : Store} : gCons a r env st = (a env st).bind fun x s1 => (r env s1).bind fun xs s2 => .ok (x :: xs) s2 := rfl
theorem take_self {st : Store} : st.take st.length = st := List.take_length
/-! ### comprehensions -/
/-- a step that only tells -/
theorem lc_map {step : D → Store → Out (Option D)} {ok : Store → Bool} {st : Store} (f : D → D) (h0 : ok st = true) : ∀ {ds : List D}, (∀ d ∈ ds, step d st = .ok (some (f d)) st) → lcGo step ok ds st = .ok (ds.map f) st
  | [], _ => by simp [lcGo, h0]
  | d :: ds, h => by
    have ih := lc_map (step := step) (ok := ok) (st := st) f h0 (ds := ds) fun d hd => h d (List.mem_cons_of_mem _ hd)
    simp [lcGo, h0, h d List.mem_cons_self, take_self, ih]
/-- a step that chooses -/
theorem lc_filter {step : D → Store → Out (Option D)} {ok : Store → Bool} {st : Store} (f : D → Option D) (h0 : ok st = true) : ∀ {ds : List D}, (∀ d ∈ ds, step d st = .ok (f d) st) → lcGo step ok ds st = .ok (ds.filterMap f) st
  | [], _ => by simp [lcGo, h0]
  | d :: ds, h => by
    have ih := lc_filter (step := step) (ok := ok) (st := st) f h0 (ds := ds) fun d hd => h d (List.mem_cons_of_mem _ hd)
    simp only [lcGo, h0, if_true, h d List.mem_cons_self, take_self, ih, List.filterMap_cons]
    cases f d <;> rfl
/-- a step that changes the store: what holds goes on to hold -/
theorem lc_inv {step : D → Store → Out (Option D)} {ok : Store → Bool} (P : Store → Prop) (R : D → Prop) (h0 : ∀ st, P st → ok st = true) (hs : ∀ d st, P st → ∃ x st', step d st = .ok (some x) st' ∧ P (st'.take st.length) ∧ R x) :
    ∀ (ds : List D) (st : Store), P st → ∃ xs st', lcGo step ok ds st = .ok xs st' ∧ P st' ∧ xs.length = ds.length ∧ ∀ x ∈ xs, R x
  | [], st, p => ⟨[], st, by simp [lcGo, h0 st p], p, rfl, by simp⟩
  | d :: ds, st, p => by
    obtain ⟨x, s1, e1, p1, r1⟩ := hs d st p
    obtain ⟨xs, s2, e2, p2, l2, r2⟩ := lc_inv P R h0 hs ds _ p1
    refine ⟨x :: xs, s2, by simp [lcGo, h0 st p, e1, e2], p2, by simp [l2], ?_⟩
    intro y hy
    rcases List.mem_cons.mp hy with rfl | hy
    · exact r1
    · exact r2 y hy
theorem bools_map (f : D → Bool) : ∀ l : List D, boolsOf (l.map fun d => .bl (f d)) = some (l.map f)
  | [] => rfl
  | d :: l => by simp [boolsOf, bools_map f l]
@[simp] theorem now_new (m : List D) (st : Store) : now (.obj st.length) (st ++ [.ls m]) = some (.lst m) := by simp [now]
@[simp] theorem nowAll_new (m : List D) (st : Store) : nowAll [.obj st.length] (st ++ [.ls m]) = some [.lst m] := by simp [nowAll, now]
@[simp] theorem freeze_new (m : List D) (st : Store) : freeze (.obj st.length) (st ++ [.ls m]) = some (.lst m, st ++ [.fz m]) := by
  simp [freeze]
theorem gCall_def {F : SemF} {f : Nat} {as : SemAs} {env : Env} {st : Store} : gCall F f as env st = settle st.length ((as env st).bind fun xs s1 => F f xs s1) := rfl
/-! ### statements -/
theorem seq_nx {a b : SemS} {env env1 : Env} {st st1 : Store} (h : a env st = .nx env1 st1) : sSeq a b env st = b env1 st1 := by simp [sSeq, h]
theorem seq_rt {a b : SemS} {env : Env} {st st1 : Store} {v : A} (h : a env st = .rt v st1) : sSeq a b env st = .rt v st1 := by simp [sSeq, h]
theorem seq_ex {a b : SemS} {env env1 : Env} {st st1 : Store} {v : Exn} (h : a env st = .ex v env1 st1) : sSeq a b env st = .ex v env1 st1 := by simp [sSeq, h]
theorem ok_none {items : List D} {st : Store} : (Src.ok ⟨items, []⟩ st) = true := rfl
/-! ### whole comprehensions -/
theorem gLc_map {it : SemI} {tg : Tg} {cnd : SemT} {elt : SemE} {own : List Nat} {env : Env} {st : Store} {src : Src} (f : D → D) (h1 : it env st = .ok src st) (h2 : src.ok st = true) (h3 : src.items.length < LID)
    (h4 : ∀ d ∈ src.items, lcStep tg cnd elt (wipeE env own) d st = .ok (some (f d)) st) : gLc it tg cnd elt own env st = .ok (.obj st.length) (st ++ [.ls (src.items.map f)]) := by
  unfold gLc
  rw [h1]
  simp only [bind_ok]
  rw [if_pos h3, lc_map f h2 h4]
  simp
theorem gLc_filter {it : SemI} {tg : Tg} {cnd : SemT} {elt : SemE} {own : List Nat} {env : Env} {st : Store} {src : Src} (f : D → Option D) (h1 : it env st = .ok src st) (h2 : src.ok st = true) (h3 : src.items.length < LID)
    (h4 : ∀ d ∈ src.items, lcStep tg cnd elt (wipeE env own) d st = .ok (f d) st) : gLc it tg cnd elt own env st = .ok (.obj st.length) (st ++ [.ls (src.items.filterMap f)]) := by
  unfold gLc
  rw [h1]
  simp only [bind_ok]
  rw [if_pos h3, lc_filter f h2 h4]
  simp
/-! ### slices -/
theorem clip_nat (i n : Nat) : clip (i : Int) n = min i n := by simp [clip]
theorem cut_from {α : Type} (l : List α) (i : Nat) : cutL l (some (i : Int)) none = l.drop i := by
  unfold cutL
  simp only [clip_nat]
  by_cases h : i ≤ l.length
  · rw [Nat.min_eq_left h, List.take_of_length_le (by simp)]
  · rw [Nat.min_eq_right (by omega), List.drop_of_length_le (Nat.le_refl _), List.drop_of_length_le (by omega)]; simp
theorem cut_to {α : Type} (l : List α) (i : Nat) : cutL l none (some (i : Int)) = l.take i := by
  unfold cutL
  simp only [clip_nat, List.drop_zero, Nat.sub_zero]
  by_cases h : i ≤ l.length
  · rw [Nat.min_eq_left h]
  · rw [Nat.min_eq_right (by omega), List.take_of_length_le (by omega), List.take_of_length_le (by omega)]
theorem cut_both {α : Type} (l : List α) (i j : Nat) : cutL l (some (i : Int)) (some (j : Int)) = (l.drop i).take (j - i) := by
  unfold cutL
  simp only [clip_nat]
  by_cases h : i ≤ l.length
  · rw [Nat.min_eq_left h]
    by_cases h2 : j ≤ l.length
    · rw [Nat.min_eq_left h2]
    · rw [Nat.min_eq_right (by omega), List.take_of_length_le (by simp), List.take_of_length_le (by simp; omega)]
  · rw [Nat.min_eq_right (a := i) (by omega), List.drop_of_length_le (Nat.le_refl _), List.drop_of_length_le (by omega)]; simp
theorem cut_all {α : Type} (l : List α) : cutL l none none = l := by simp [cutL]
/-! ### a list just made, changed -/
theorem set_last (st : Store) (a b : MO) : (st ++ [a]).set st.length b = st ++ [b] := by simp
theorem take_last (st : Store) (a : MO) : (st ++ [a]).take st.length = st := by simp
@[simp] theorem get_last (st : Store) (a : MO) : (st ++ [a])[st.length]? = some a := by simp
@[simp] theorem take_more (st : Store) (a : MO) : (st ++ [a]).take (st.length + 1) = st ++ [a] := List.take_of_length_le (by simp)
@[simp] theorem take_more2 (st : Store) (a b : MO) : (st ++ [a, b]).take (st.length + 1) = st ++ [a] := by
  rw [show st ++ [a, b] = (st ++ [a]) ++ [b] by simp, List.take_left' (by simp)]
@[simp] theorem take_pre (st l : Store) (n : Nat) : (st ++ l).take (st.length + n) = st ++ l.take n := by
  rw [List.take_append, List.take_of_length_le (by omega)]; simp
@[simp] theorem get_last0 (st : Store) (a b : MO) : (st ++ [a, b])[st.length]? = some a := by simp
@[simp] theorem get_last1 (st : Store) (a b : MO) : (st ++ [a, b])[st.length + 1]? = some b := by simp
@[simp] theorem now_at0 (st r : Store) (m : List D) : now (.obj st.length) (st ++ .ls m :: r) = some (.lst m) := by simp [now]
@[simp] theorem now_at1 (st r : Store) (a : MO) (m : List D) : now (.obj (st.length + 1)) (st ++ a :: .ls m :: r) = some (.lst m) := by simp [now]
theorem joined_nil : ∀ ts : List (List Nat), joined [] ts = ts.flatten
  | [] => rfl
  | [x] => by simp [joined]
  | x :: y :: r => by
    have ih := joined_nil (y :: r)
    show x ++ [] ++ joined [] (y :: r) = _
    rw [ih]; simp
theorem texts_map : ∀ ts : List (List Nat), textsOf (ts.map D.str) = some ts
  | [] => rfl
  | x :: r => by simp [textsOf, texts_map r]
theorem lens_nil : ∀ ts : List (List Nat), lensOf [] ts = (ts.map List.length).sum
  | [] => rfl
  | x :: r => by simp [lensOf, lens_nil r]
end PD
end

section
set_option Elab.async false
set_option linter.all false
set_option maxRecDepth 100000
set_option maxHeartbeats 1000000
/-! PE1: rules of reckoning, one per form. -/
namespace PD
theorem take_len {st st1 : Store} (h : st1.length = st.length) : st1.take st.length = st1 := List.take_of_length_le (by omega)
theorem op1 {p : Prim} {g1 : SemE} {env : Env} {st st1 : Store} {x z : D} (h1 : g1 env st = .ok (.d x) st1) (hp : p [x] = some (.v z)) (hl : st1.length = st.length) : gOp p (gCons g1 gNil) env st = .ok (.d z) st1 := by
  simp only [ev_op, ev_cons, h1, bind_ok, gNil_ok, opOn, nowAll_d, nowAll_nil, Option.map, hp, give_v, settle_ok_d, take_len hl]
theorem op2 {p : Prim} {g1 g2 : SemE} {env : Env} {st st1 st2 : Store} {x y z : D} (h1 : g1 env st = .ok (.d x) st1) (h2 : g2 env st1 = .ok (.d y) st2) (hp : p [x, y] = some (.v z)) (hl : st2.length = st.length) : gOp p (gCons g1 (gCons g2 gNil)) env st = .ok (.d z) st2 := by
  simp only [ev_op, ev_cons, h1, h2, bind_ok, gNil_ok, opOn, nowAll_d, nowAll_nil, Option.map, hp, give_v, settle_ok_d, take_len hl]
theorem op3 {p : Prim} {g1 g2 g3 : SemE} {env : Env} {st st1 st2 st3 : Store} {x y w z : D} (h1 : g1 env st = .ok (.d x) st1) (h2 : g2 env st1 = .ok (.d y) st2) (h3 : g3 env st2 = .ok (.d w) st3) (hp : p [x, y, w] = some (.v z)) (hl : st3.length = st.length) : gOp p (gCons g1 (gCons g2 (gCons g3 gNil))) env st = .ok (.d z) st3 := by
  simp only [ev_op, ev_cons, h1, h2, h3, bind_ok, gNil_ok, opOn, nowAll_d, nowAll_nil, Option.map, hp, give_v, settle_ok_d, take_len hl]
theorem call_ok {F : SemF} {f : Nat} {as : SemAs} {env : Env} {st st1 st2 : Store} {xs : List A} {d : D} (h : as env st = .ok xs st1) (hf : F f xs st1 = .ok (.d d) st2) (hl : st2.length = st.length) : gCall F f as env st = .ok (.d d) st2 := by
  simp only [gCall_def, h, bind_ok, hf, settle_ok_d, take_len hl]
theorem call_ex {F : SemF} {f : Nat} {as : SemAs} {env : Env} {st st1 st2 : Store} {xs : List A} {e : Exn} (h : as env st = .ok xs st1) (hf : F f xs st1 = .exn e st2) (hl : st2.length = st.length) : gCall F f as env st = .exn e st2 := by
  simp only [gCall_def, h, bind_ok, hf, settle_exn, take_len hl]
theorem call_new {F : SemF} {f : Nat} {as : SemAs} {env : Env} {st st1 st2 : Store} {xs : List A} {m : MO} (h : as env st = .ok xs st1) (hf : F f xs st1 = .ok (.obj st.length) (st2 ++ [m])) (hl : st2.length = st.length) : gCall F f as env st = .ok (.obj st.length) (st2 ++ [m]) := by
  simp only [gCall_def, h, bind_ok, hf]
  rw [← hl, settle_new]
theorem set_nx {g : SemE} {env : Env} {st st1 : Store} {a : A} {i : Nat} (h : g env st = .ok a st1) : sSet i g env st = .nx (env.set i (some a)) st1 := by
  simp only [sSet, h, toS_ok]
theorem ret_rt {g : SemE} {env : Env} {st st1 : Store} {a : A} (h : g env st = .ok a st1) : sRet g env st = .rt a st1 := by
  simp only [sRet, h, toS_ok]
theorem tv {g : SemE} {env : Env} {st st1 : Store} {b : Bool} (h : g env st = .ok (.d (.bl b)) st1) (hl : st1.length = st.length) : tVal g env st = .ok b st1 := by
  simp only [tVal, h, bind_ok, now_d, okLen, if_true, D.truth, take_len hl]
theorem t_not {a : SemT} {env : Env} {st st1 : Store} {b : Bool} (h : a env st = .ok b st1) : tNot a env st = .ok (!b) st1 := by
  simp only [tNot, h, bind_ok]
theorem t_or_f {a b : SemT} {env : Env} {st st1 : Store} {o : Out Bool} (h : a env st = .ok false st1) (h2 : b env st1 = o) : tOr a b env st = o := by
  simp only [tOr, h, bind_ok, Bool.false_eq_true, if_false, h2]
theorem t_or_t {a b : SemT} {env : Env} {st st1 : Store} (h : a env st = .ok true st1) : tOr a b env st = .ok true st1 := by
  simp only [tOr, h, bind_ok, if_true]
theorem t_and_f {a b : SemT} {env : Env} {st st1 : Store} (h : a env st = .ok false st1) : tAnd a b env st = .ok false st1 := by
  simp only [tAnd, h, bind_ok, Bool.false_eq_true, if_false]
theorem t_and_t {a b : SemT} {env : Env} {st st1 : Store} {o : Out Bool} (h : a env st = .ok true st1) (h2 : b env st1 = o) : tAnd a b env st = o := by
  simp only [tAnd, h, bind_ok, if_true, h2]
theorem t_or {a b : SemT} {env : Env} {st : Store} {x y : Bool} (h : a env st = .ok x st) (h2 : b env st = .ok y st) : tOr a b env st = .ok (x || y) st := by
  cases x <;> simp [tOr, h, h2]
theorem t_and {a b : SemT} {env : Env} {st : Store} {x y : Bool} (h : a env st = .ok x st) (h2 : b env st = .ok y st) : tAnd a b env st = .ok (x && y) st := by
  cases x <;> simp [tAnd, h, h2]
theorem if_t {c : SemT} {a b : SemS} {env : Env} {st st1 : Store} (h : c env st = .ok true st1) : sIf c a b env st = a env st1 := by
  simp only [sIf, h, toS_ok, if_true]
theorem if_f {c : SemT} {a b : SemS} {env : Env} {st st1 : Store} (h : c env st = .ok false st1) : sIf c a b env st = b env st1 := by
  simp only [sIf, h, toS_ok, Bool.false_eq_true, if_false]
theorem gif_t {c : SemT} {a b : SemE} {env : Env} {st st1 : Store} (h : c env st = .ok true st1) : gIf c a b env st = a env st1 := by
  simp only [gIf, h, bind_ok, if_true]
theorem gif_f {c : SemT} {a b : SemE} {env : Env} {st st1 : Store} (h : c env st = .ok false st1) : gIf c a b env st = b env st1 := by
  simp only [gIf, h, bind_ok, Bool.false_eq_true, if_false]
theorem and_t {a b : SemE} {env : Env} {st st1 : Store} {o : Out A} (h : a env st = .ok (.d (.bl true)) st1) (h2 : b env st1 = o) : gAnd a b env st = o := by
  simp only [gAnd, h, bind_ok, h2]
theorem cons_ok {a : SemE} {r : SemAs} {env : Env} {st st1 st2 : Store} {x : A} {xs : List A} (h : a env st = .ok x st1) (h2 : r env st1 = .ok xs st2) : gCons a r env st = .ok (x :: xs) st2 := by
  simp only [ev_cons, h, h2, bind_ok]
theorem le_nat (a b : Nat) : pLe [.int a, .int b] = some (.v (.bl (decide (a ≤ b)))) := by
  by_cases h : a ≤ b
  · have : (a : Int) ≤ b := by omega
    simp [pLe, h]
  · have : ¬ (a : Int) ≤ b := by omega
    simp [pLe, h]
theorem gt_nat (a b : Nat) : pGt [.int a, .int b] = some (.v (.bl (decide (b < a)))) := by
  by_cases h : b < a
  · have : (b : Int) < a := by omega
    simp [pGt, h]
  · have : ¬ (b : Int) < a := by omega
    simp [pGt, h]
theorem ne_str (t u : List Nat) : pNe [.str t, .str u] = some (.v (.bl (!decide (t = u)))) := by
  by_cases h : t = u
  · subst h; simp [pNe, okDeep, D.deep, D.eqv]
  · simp [pNe, okDeep, D.deep, D.eqv, h]
theorem ne_bl (t u : Bool) : pNe [.bl t, .bl u] = some (.v (.bl (!decide (t = u)))) := by
  cases t <;> cases u <;> rfl
theorem add_nat (a b : Nat) : pAdd [.int a, .int b] = some (.v (.int ((a + b : Nat) : Int))) := rfl
theorem freezeAll_ds : ∀ (ds : List D) (st : Store), freezeAll (ds.map A.d) st = some (ds, st)
  | [], _ => rfl
  | d :: ds, st => by simp [freezeAll_ds ds st]
theorem tup_ok {as : SemAs} {env : Env} {st st1 : Store} {ds : List D} (h : as env st = .ok (ds.map A.d) st1) (hn : ds.length ≤ LID) (hl : st1.length = st.length) : gTup as env st = .ok (.d (.tup ds)) st1 := by
  simp only [gTup, h, bind_ok, freezeAll_ds, hn, if_true, settle_ok_d, take_len hl]
theorem lst_ok {as : SemAs} {env : Env} {st st1 : Store} {ds : List D} (h : as env st = .ok (ds.map A.d) st1) (hn : ds.length ≤ LID) (hl : st1.length = st.length) : gLst as env st = .ok (.obj st.length) (st1 ++ [.ls ds]) := by
  simp only [gLst, h, bind_ok, freezeAll_ds, hn, if_true]
  rw [← hl, settle_new]
end PD
end

section
set_option Elab.async false
set_option linter.all false
set_option maxRecDepth 100000
set_option maxHeartbeats 1000000
/-! PF0: the end of a law: what the written part says, gathered. -/
namespace PD
open PySem PySem.Spec PyProof.Rows L2
section
variable {K : Fr} {h : Heap} {mg : Str → Option Value} {goal : Prop}
theorem with_fn (x : Str) (st : Stmt) (KX : K.In h) {f : Addr} {oc : Value} {od : Option Addr} {kV doc pm : Value} {an : Option Addr} {cdv ct : Value} {osl : Array (Option Value)}
    (a : PySem.W.nsIn K mainGlobals x = some (some (.ref f)))
    (l : K.lookup f = some ⟨oc, od, .func (PySem.W.fnOf x x (defArgs st) (defBody st) (defScope st) .none kV doc pm an cdv ct), osl⟩)
    (c : PySem.W.codeIn K cdv x = true) (k : PySem.W.keepIn K (.ref f) = true) (g : FnIn K x st f → goal) : goal :=
  g ⟨a, ⟨oc, od, kV, doc, pm, an, cdv, ct, osl, l, c⟩, k⟩
theorem with_none (x : Str) (KX : K.In h) (G : h.Ns mainGlobals mg) (a : PySem.W.nsIn K mainGlobals x = some none) (g : mg x = none → goal) : goal := g (PySem.W.mg_none_of KX G a)
theorem with_int (x : Str) (KX : K.In h) (G : h.Ns mainGlobals mg) {n : Int} {t : Tok} (a : PySem.W.nsIn K mainGlobals x = some (some (.int n t))) (g : mg x = some (.int n t) → goal) : goal := g (PySem.W.mg_of KX G a)
theorem with_str (x : Str) (KX : K.In h) (G : h.Ns mainGlobals mg) {s : Str} {t : Tok} (a : PySem.W.nsIn K mainGlobals x = some (some (.str s t))) (g : mg x = some (.str s t) → goal) : goal := g (PySem.W.mg_of KX G a)
theorem with_bool (x : Str) (KX : K.In h) (G : h.Ns mainGlobals mg) {b : Bool} (a : PySem.W.nsIn K mainGlobals x = some (some (.bool b))) (g : mg x = some (.bool b) → goal) : goal := g (PySem.W.mg_of KX G a)
end
/-- what the written part says of an error class with the field o, or with none -/
structure ClsIn (P : Program) (K : Fr) (o : Option Str) (A : Addr) : Prop where
  kp : PySem.W.keepIn K (.ref A) = true
  sb : PySem.W.subIn K (.ref A) (.type "BaseException") = some true
  ty : PySem.W.typeIn K (.ref A) = some (.type "type")
  no : o = none → PySem.W.excIn K A exTl "Exception.__new__" = true
  arg : ∀ f, o = some f → XfC K A ∧ PySem.W.findIn K (.ref A) f = some none ∧ ∃ fI px, SupC P K A fI f px
section
variable {P : Program} {K : Fr} {h : Heap} {mg : Str → Option Value} {goal : Prop}
theorem with_cls (x : Str) (KX : K.In h) (G : h.Ns mainGlobals mg) {A : Addr} (a : PySem.W.nsIn K mainGlobals x = some (some (.ref A))) (kp : PySem.W.keepIn K (.ref A) = true) (sb : PySem.W.subIn K (.ref A) (.type "BaseException") = some true)
    (ty : PySem.W.typeIn K (.ref A) = some (.type "type")) (ex : PySem.W.excIn K A exTl "Exception.__new__" = true) (g : mg x = some (.ref A) → ClsIn P K none A → goal) : goal :=
  g (PySem.W.mg_of KX G a) ⟨kp, sb, ty, fun _ => ex, fun f e => by cases e⟩
theorem with_sup (x f px : Str) (KX : K.In h) (G : h.Ns mainGlobals mg) {C fI cc cda : Addr} {oc : Value} {od : Option Addr} {osl : Array (Option Value)} {name qual : Str} {params : Arguments} {scope : Scope} {dV kV doc pm ct : Value} {an : Option Addr} {body : List Stmt} {p0 p1 p2 p3 p4 p5 p6 p7 p8 p9 : Pos} {ar : Arg}
    {ccl : Value} {cdd : Option Addr} {vs : Array Value} {ccs : Array (Option Value)} {file : Str} {tf : Tok} {cl : Value} {cld : Option Addr} {csl : Array (Option Value)}
    (a : PySem.W.nsIn K mainGlobals x = some (some (.ref C)))
    (hi : PySem.W.findIn K (.ref C) "__init__" = some (some (.ref fI)))
    (l : K.lookup fI = some ⟨oc, od, .func (PySem.W.ksFn name qual params body scope dV kV doc pm an (.ref cda) ct cc), osl⟩)
    (lc : K.lookup cda = some ⟨ccl, cdd, .fields vs, ccs⟩)
    (ll : K.lookup cc = some ⟨cl, cld, .cell (some (.ref C)), csl⟩)
    (hb : body = [.Expr (.Call (.Attribute (.Call (.Name "super" p0) [] [] p1) "__init__" p2) [.Name px p3] [] p4) p5, .Assign [.Attribute (.Name "self" p6) f p7] (.Name px p8) p9])
    (ha : (params.posonlyargs ++ params.args).head? = some ar) (han : ar.arg = "self")
    (hv : vs[2]? = some (.str file tf))
    (q : PySem.W.excInitIn K C exTl "Exception.__new__" = true) (ov : PySem.W.excOver K C exTl = true) (hf : PySem.W.isFn K (.ref fI) = true) (kC : PySem.W.keepIn K (.ref C) = true)
    (sa : PySem.W.findIn K (.ref C) "__setattr__" = some (some (.builtin "object.__setattr__"))) (tk : PySem.W.takerIn K C f = some none) (dc : PySem.W.hasDictIn K C = true)
    (su : PySem.W.ks_superIn K C C "__init__" = some (some (.builtin "Exception.__init__"))) (sx : PySem.W.subIn K (.ref C) (.type "Exception") = some true) (sb : PySem.W.subIn K (.ref C) (.type "BaseException") = some true)
    (ty : PySem.W.typeIn K (.ref C) = some (.type "type")) (mr : PySem.W.mroIn K C (.ref C) = some true) (tp : PySem.W.nsIn K cStatics "thirdparty.any" = some none) (sp : PySem.W.nsIn K mainGlobals "super" = some none)
    (s1 : scope.kind = .function) (s2 : scope.isCoroutine = false) (s3 : scope.isGenerator = false) (s4 : ∀ x ∈ scope.names, x.2 ≠ .cell)
    (s5 : scope.names.lookup ("super" : Str) = some .globalImplicit) (s6 : scope.names.lookup ("__class__" : Str) = some .free) (s7 : scope.names.lookup ("self" : Str) = some .local) (s8 : scope.names.lookup px = some .local)
    (cd : PySem.W.codeIn K (.ref cda) qual = true) (m1 : ((P.main.file : Str) == file) = true) (m2 : (P.main.scope.names.lookup ("super" : Str)).isSome = false)
    (bi : Binds K (PySem.W.ksFn name qual params body scope dV kV doc pm an (.ref cda) ct cc) ["self", px] []) (x1 : ("self" : Str) ≠ px) (x2 : (px == ("__debug__" : Str)) = false) (x3 : (px == ("__classdict__" : Str)) = false)
    (pl : ∃ pl : Sem Bool, ∀ L : Addr, eval (.Call (.Attribute (.Call (.Name "super" p0) [] [] p1) "__init__" p2) [.Name px p3] [] p4) (PySem.W.ksEnv qual scope L fI (.ref cda) cc) = (do
      let ov ← attributeBase (.Call (.Name "super" p0) [] [] p1) "__init__" (PySem.W.ksEnv qual scope L fI (.ref cda) cc) (eval (.Call (.Name "super" p0) [] [] p1) (PySem.W.ksEnv qual scope L fI (.ref cda) cc))
      standAt p2.atName
      let (f, first) ← holding [ov] (getMethod ov "__init__" pl)
      callWith p4 f first (backTo p4 (starEach [.Name px p3] (PySem.W.ksEnv qual scope L fI (.ref cda) cc))) []))
    (xf : xfB K C = true) (fd : PySem.W.findIn K (.ref C) f = some none)
    (g : mg x = some (.ref C) → ClsIn P K (some f) C → goal) : goal :=
  g (PySem.W.mg_of KX G a) ⟨kC, sb, ty, fun e => (nomatch e), fun f' e => by
    cases e
    exact ⟨xfB_ok xf, fd, fI, px, ⟨q, ov, hi, hf, kC, sa, tk, dc, su, sx, sb, ty, mr, tp, sp, cc, cda, oc, od, osl, name, qual, params, scope, dV, kV, doc, pm, ct, an, body, p0, p1, p2, p3, p4, p5, p6, p7, p8, p9, ar, ccl, cdd, vs, ccs, file, tf, cl, cld, csl,
      l, hb, ha, han, s1, s2, s3, s4, s5, s6, s7, s8, cd, lc, hv, m1, m2, ll, bi, x1, x2, x3, pl⟩⟩⟩
end
/-- what a name of the module is -/
def NmOk (K : Fr) (mg : Str → Option Value) (fs xs : List Addr) : Str × GK → Prop
  | (x, .con d) => ∃ v u, mg x = some u ∧ RelV v u ∧ ∀ H, RepD K H d v
  | (x, .fn f) => ∃ ad, mg x = some (.ref ad) ∧ fs[f]? = some ad
  | (x, .blt) => mg x = none
  | (x, .cls cn) => ∃ A, mg x = some (.ref A) ∧ xs[cn]? = some A
def AllNm (K : Fr) (mg : Str → Option Value) (fs xs : List Addr) : List (Str × GK) → Prop
  | [] => True
  | p :: r => NmOk K mg fs xs p ∧ AllNm K mg fs xs r
theorem AllNm.get {K : Fr} {mg : Str → Option Value} {fs xs : List Addr} : ∀ {l : List (Str × GK)} {x : Str} {k : GK}, AllNm K mg fs xs l → l.lookup x = some k → NmOk K mg fs xs (x, k)
  | [], _, _, _, e => by cases e
  | (y, j) :: r, x, k, h, e => by
    rw [List.lookup_cons] at e
    split at e
    · rename_i q
      cases e
      have := eq_of_beq q
      subst this
      exact h.1
    · exact AllNm.get h.2 e
theorem nm_int {K : Fr} {mg : Str → Option Value} {fs xs : List Addr} {x : Str} {n : Int} {t : Tok} (h : mg x = some (.int n t)) : NmOk K mg fs xs (x, .con (.int n)) := ⟨.int n, _, h, ⟨t, rfl⟩, fun _ => rfl⟩
theorem nm_str {K : Fr} {mg : Str → Option Value} {fs xs : List Addr} {x : Str} {s : Str} {l : List Nat} {t : Tok} (h : mg x = some (.str s t)) (e : s = ⟨l.toArray⟩) (gd : goodS l = true) : NmOk K mg fs xs (x, .con (.str l)) := ⟨.str s, _, h, ⟨t, rfl⟩, fun _ => ⟨by rw [e], gd⟩⟩
theorem nm_bool {K : Fr} {mg : Str → Option Value} {fs xs : List Addr} {x : Str} {b : Bool} (h : mg x = some (.bool b)) : NmOk K mg fs xs (x, .con (.bl b)) := ⟨.bl b, _, h, rfl, fun _ => rfl⟩
theorem nm_fn {K : Fr} {h : Heap} {mg : Str → Option Value} (KX : K.In h) (G : h.Ns mainGlobals mg) {fs xs : List Addr} {x : Str} {st : Stmt} {f : Nat} {ad : Addr} (i : FnIn K x st ad) (e : fs[f]? = some ad) : NmOk K mg fs xs (x, .fn f) := ⟨ad, PySem.W.mg_of KX G i.ns, e⟩
theorem nm_cls {K : Fr} {mg : Str → Option Value} {fs xs : List Addr} {x : Str} {cn : Nat} {A : Addr} (i : mg x = some (.ref A)) (e : xs[cn]? = some A) : NmOk K mg fs xs (x, .cls cn) := ⟨A, i, e⟩
/-- the tests of except clauses -/
def subChk (K : Fr) (xs : List Addr) (sub : Nat → Nat → Bool) : Bool :=
  (List.range xs.length).all fun a => (List.range xs.length).all fun b => match xs[a]?, xs[b]? with
    | some A, some B => decide (PySem.W.exmOne K (.ref A) (.ref B) = some (sub a b))
    | _, _ => false
theorem subChk_ok {K : Fr} {xs : List Addr} {sub : Nat → Nat → Bool} (h : subChk K xs sub = true) : ∀ (a b : Nat) (A B : Addr), xs[a]? = some A → xs[b]? = some B → PySem.W.exmOne K (.ref A) (.ref B) = some (sub a b) := fun a b A B ha hb => by
  have la := (List.getElem?_eq_some_iff.mp ha).1
  have lb := (List.getElem?_eq_some_iff.mp hb).1
  have h1 := List.all_eq_true.mp (List.all_eq_true.mp h a (List.mem_range.mpr la)) b (List.mem_range.mpr lb)
  rw [ha, hb] at h1
  exact of_decide_eq_true h1
def xfOf (cls : List (Option Str)) (n : Nat) : Str := match cls[n]? with | some (some f) => f | _ => ""
theorem mod_mk {P : Program} {K : Fr} {mg : Str → Option Value} {glL : List (Str × GK)} {cls : List (Option Str)} {sub : Nat → Nat → Bool} {fs xs : List Addr} (hn : AllNm K mg fs xs glL) (hc : Paired (ClsIn P K) cls xs) (hs : subChk K xs sub = true) :
    ModOk ⟨K, fun n => fs[n]?, fun n => xs[n]?, xfOf cls⟩ P K mg (fun x => glL.lookup x) cls sub where
  eqK := rfl
  gcon := fun x d e => ⟨hn.get e⟩
  gfn := fun x f e => hn.get e
  gblt := fun x e => hn.get e
  gcls := fun x cn e => hn.get e
  cok :=
    { lt := fun cn A e => by
        have h1 := (List.getElem?_eq_some_iff.mp e).1
        rw [Paired.length hc]; exact h1
      kp := fun cn A e => by
        obtain ⟨o, _, i⟩ := rowP_get hc e
        exact ⟨i.kp, i.sb, i.ty⟩
      no := fun cn A e e2 => by
        obtain ⟨o, e1, i⟩ := rowP_get hc e
        rw [e2] at e1
        cases e1
        exact i.no rfl
      arg := fun cn A f e e2 => by
        obtain ⟨o, e1, i⟩ := rowP_get hc e
        rw [e2] at e1
        cases e1
        exact ⟨by show xfOf cls cn = f; unfold xfOf; rw [e2], i.arg f rfl⟩ }
  tab := subChk_ok hs
/-- the law's end -/
theorem law_end {l : PySem.W.OpenLaw} {w : World} {K : Fr} {mg : Str → Option Value} {fa : Addr} {h : Heap} {G : Gb} {gl : Str → Option GK} {cls : List (Option Str)} {sub : Nat → Nat → Bool} (KX : K.In h) (GN : h.Ns mainGlobals mg) (hmg : mg "law" = some (.ref fa))
    (M : ModOk G l.prog K mg gl cls sub) {T : List DefD} {fs : List Addr} (hT : ∀ d ∈ T, d.Ok gl cls sub) (hF : Paired (fun d f => FnIn K d.x d.st f) T fs) (hfa : G.fa = fun n => fs[n]?)
    (hK : noLists K = true) {j n : Nat} {d : DefD} {ad : Addr} (hd : d ∈ T) (hx : d.x = "law") (hps : d.ps = [("script" : Str)]) (hI : FnIn K d.x d.st ad)
    (hlaw : ∀ ns : List Int, ns.length ≤ n → semDef 1 d.N.length (d.g (semT T j)) [.d (.lst (ns.map D.int))] [] = .ok (.d (.bl true)) []) :
    ∃ fd : FuncData, (∀ (s : Shared) (u : Value), BindsTo s fd ⟨[u], []⟩ [("script", u)]) ∧ ∀ base : Heap, K.In base → base.Ns mainGlobals mg → FnOk l.prog w K mg base (L2.CX l.prog w) (2 * j + 2) fa fd ["script"] (spLaw K n) := by
  have e2 : mg d.x = some (.ref ad) := PySem.W.mg_of KX GN hI.ns
  rw [hx] at e2
  have e := Option.some.inj (hmg.symm.trans e2)
  cases e
  obtain ⟨oc, od, kV, doc, pm, an, cdv, ct, osl, lk, c⟩ := hI.ex
  have o := hT d hd
  refine ⟨PySem.W.fnOf d.x d.x (defArgs d.st) (defBody d.st) (defScope d.st) .none kV doc pm an cdv ct, fun s v => .of_eq ?_, fun base _ _ => law_fn M hT hF hfa hK hd hps (fun_mk lk c hI.kp) hlaw⟩
  have b := o.bd kV doc pm an cdv ct [v] (by rw [hps]; rfl)
  rw [hps] at b
  exact b
theorem law_end2 {l : PySem.W.OpenLaw} {w : World} {K : Fr} {mg : Str → Option Value} {fa : Addr} {h : Heap} {glL : List (Str × GK)} {cls : List (Option Str)} {sub : Nat → Nat → Bool} (KX : K.In h) (GN : h.Ns mainGlobals mg) (hmg : mg "law" = some (.ref fa))
    {T : List DefD} {fs xs : List Addr} (hF : Paired (fun d f => FnIn K d.x d.st f) T fs) (hc : Paired (ClsIn l.prog K) cls xs) (hn : AllNm K mg fs xs glL) (hs : subChk K xs sub = true) (hT : ∀ d ∈ T, d.Ok (fun x => glL.lookup x) cls sub)
    (hK : noLists K = true) {j n : Nat} {d : DefD} {ad : Addr} (hI : FnIn K d.x d.st ad) (hd : d ∈ T) (hx : d.x = "law") (hps : d.ps = [("script" : Str)])
    (hlaw : ∀ ns : List Int, ns.length ≤ n → semDef 1 d.N.length (d.g (semT T j)) [.d (.lst (ns.map D.int))] [] = .ok (.d (.bl true)) []) :
    ∃ fd : FuncData, (∀ (s : Shared) (u : Value), BindsTo s fd ⟨[u], []⟩ [("script", u)]) ∧ ∀ base : Heap, K.In base → base.Ns mainGlobals mg → FnOk l.prog w K mg base (L2.CX l.prog w) (2 * j + 2) fa fd ["script"] (spLaw K n) :=
  law_end KX GN hmg (mod_mk hn hc hs) hT hF rfl hK hd hx hps hI hlaw
theorem walk_law {l : PySem.W.OpenLaw} {n k : Nat} {q : Program} {loose : List Str} {XP : (Str → Option Value) → Heap → Prop} {YP : World → Heap → Prop} {d : DefRec} {K : Params → Fr}
    (hn : l.most = some n) (hn2 : n ≤ sizeLine) (hdf : d.params.defaults = []) (hr : Room k callerA)
    (hY : ∀ (w : World) (h : Heap), YP w h → (K w.params).In h)
    (F : ∀ (w : World) (mg : Str → Option Value) (fa : Addr) (h : Heap), (K w.params).In h → h.Ns mainGlobals mg → mg d.name = some (.ref fa) →
      ∃ fd : FuncData, (∀ (s : Shared) (u : Value), BindsTo s fd ⟨[u], []⟩ [("script", u)]) ∧
        ∀ base : Heap, (K w.params).In base → base.Ns mainGlobals mg → FnOk l.prog w (K w.params) mg base (L2.CX l.prog w) k fa fd ["script"] (spLaw (K w.params) n)) :
    PySem.W.WalkO q loose XP YP l.row.toRowW d [] (fun f vs => PySem.call f vs) :=
  L2.walk_of (CX := fun w => L2.CX l.prog w) (sp := fun w => spLaw (K w.params) n) hn hn2 hdf hr hY F (fun w H a ns hl hO hS => ⟨a, ns, rfl, hl, hO, hS, fun v H' e => e⟩) fun w H s e s' ⟨a, B, H', cls, d, _, _, _, _, _, _, _, z⟩ => z
end PD
end

section
set_option Elab.async false
set_option linter.all false
set_option maxRecDepth 100000
set_option maxHeartbeats 1000000
/-! the meaning of the text of floorsagree_k03_spans (printed by tools/gen.py) -/
namespace K03
open PD PySem
def topS (i : Nat) : Stmt := PySem.Challenge.pw_floorsagree_k03_spans.main.body.getD i (.Pass ⟨0, 0, 0, 0⟩)
def c_MOST_TEXT : D := (.int 4000)
def c_SIGNS : D := (.str [97, 98, 99, 100, 101, 102, 103, 104, 105, 106, 107, 108, 109, 110, 111, 112, 113, 114, 115, 116, 117, 118, 119, 120, 121, 122, 48, 49, 50, 51, 52, 53, 54, 55, 56, 57, 32, 10, 44, 59, 58, 61, 45, 46, 40, 41, 35, 95, 124])
def c_MOST_SPANS : D := (.int 400)
def cls : List (Option Str) := [none, some "place", none, none]
def subL : List (List Nat) := [[0], [0, 1], [0, 2], [0, 3]]
def sub (a b : Nat) : Bool := (subL.getD a []).elem b
def glL : List (Str × GK) := [(Str.ofString "FloorError", GK.cls 0), (Str.ofString "BadText", GK.cls 1), (Str.ofString "BadSteps", GK.cls 2), (Str.ofString "TooFar", GK.cls 3), (Str.ofString "MOST_TEXT", GK.con c_MOST_TEXT), (Str.ofString "SIGNS", GK.con c_SIGNS), (Str.ofString "is_integer", GK.fn 0), (Str.ofString "is_text", GK.fn 1), (Str.ofString "check_text", GK.fn 2), (Str.ofString "MOST_SPANS", GK.con c_MOST_SPANS), (Str.ofString "is_span", GK.fn 3), (Str.ofString "are_spans", GK.fn 4), (Str.ofString "put_spans", GK.fn 5), (Str.ofString "fit_spans", GK.fn 6), (Str.ofString "spanned", GK.fn 7), (Str.ofString "undone_spans", GK.fn 8), (Str.ofString "back_spans", GK.fn 9), (Str.ofString "least_span", GK.fn 10), (Str.ofString "between", GK.fn 11), (Str.ofString "_law_bag", GK.fn 12), (Str.ofString "_law_draw", GK.fn 13), (Str.ofString "_law_one", GK.fn 14), (Str.ofString "_law_spoilt", GK.fn 15), (Str.ofString "_law_same", GK.fn 16), (Str.ofString "_law_told", GK.fn 17), (Str.ofString "_law_is_text", GK.fn 18), (Str.ofString "_law_whole", GK.fn 19), (Str.ofString "_law_are", GK.fn 20), (Str.ofString "_law_put", GK.fn 21), (Str.ofString "_law_back", GK.fn 22), (Str.ofString "_law_between", GK.fn 23), (Str.ofString "_law_some", GK.fn 24), (Str.ofString "law", GK.fn 25), (Str.ofString "all", GK.blt), (Str.ofString "bool", GK.blt), (Str.ofString "enumerate", GK.blt), (Str.ofString "int", GK.blt), (Str.ofString "isinstance", GK.blt), (Str.ofString "len", GK.blt), (Str.ofString "list", GK.blt), (Str.ofString "max", GK.blt), (Str.ofString "min", GK.blt), (Str.ofString "range", GK.blt), (Str.ofString "str", GK.blt), (Str.ofString "tuple", GK.blt), (Str.ofString "zip", GK.blt)]
def gl (x : Str) : Option GK := glL.lookup x
def g_is_integer (F : SemF) : SemS :=
  (sRet (gAnd (gOp (pIsi .int) (gCons (gVar 0) gNil)) (gAnd (gNot (gOp (pIsi .bool) (gCons (gVar 0) gNil))) (gChain pLe pLe (gVar 1) (gVar 0) (gVar 2)))))
def g_is_text (F : SemF) : SemS :=
  (sRet (gAnd (gOp (pIsi .str) (gCons (gVar 0) gNil)) (gAnd (gOp pLe (gCons (gOp pLen (gCons (gVar 0) gNil)) (gCons (gCon c_MOST_TEXT) gNil))) (gOp pAll (gCons (gLc (iVal (gVar 0)) (.name 1) tTrue (gOp pIn (gCons (gVar 1) (gCons (gCon c_SIGNS) gNil))) [1]) gNil)))))
def b_check_text_1 (F : SemF) : SemS :=
  (sIf (tVal (gOp pNotIn (gCons (gVar 2) (gCons (gCon c_SIGNS) gNil)))) (sRaise1 1 (gVar 1)) sNext)
def g_check_text (F : SemF) : SemS :=
  (sSeq (sIf (tNot (tVal (gOp (pIsi .str) (gCons (gVar 0) gNil)))) (sRaise1 1 (gOp pNeg (gCons (gCon (.int 1)) gNil))) sNext)
    (sSeq (sFor (iEnum (gVar 0)) (.tup [(.name 1), (.name 2)]) (b_check_text_1 F))
    (sIf (tVal (gOp pGt (gCons (gOp pLen (gCons (gVar 0) gNil)) (gCons (gCon c_MOST_TEXT) gNil)))) (sRaise0 3) sNext)))
def g_is_span (F : SemF) : SemS :=
  (sSeq (sIf (tOr (tNot (tVal (gOp (pIsi .tuple) (gCons (gVar 0) gNil)))) (tOr (tVal (gOp pNe (gCons (gOp pLen (gCons (gVar 0) gNil)) (gCons (gCon (.int 3)) gNil)))) (tNot (tVal (gCall F 1 (gCons (gOp pIx (gCons (gVar 0) (gCons (gCon (.int 2)) gNil))) gNil)))))) (sRet (gCon (.bl false))) sNext)
    (sSeq (sIf (tOr (tNot (tVal (gCall F 0 (gCons (gOp pIx (gCons (gVar 0) (gCons (gCon (.int 0)) gNil))) (gCons (gCon (.int 0)) (gCons (gCon c_MOST_TEXT) gNil)))))) (tNot (tVal (gCall F 0 (gCons (gOp pIx (gCons (gVar 0) (gCons (gCon (.int 1)) gNil))) (gCons (gCon (.int 0)) (gCons (gCon c_MOST_TEXT) gNil))))))) (sRet (gCon (.bl false))) sNext)
    (sRet (gOr (gOp pLt (gCons (gOp pIx (gCons (gVar 0) (gCons (gCon (.int 0)) gNil))) (gCons (gOp pIx (gCons (gVar 0) (gCons (gCon (.int 1)) gNil))) gNil))) (gAnd (gOp pEq (gCons (gOp pIx (gCons (gVar 0) (gCons (gCon (.int 0)) gNil))) (gCons (gOp pIx (gCons (gVar 0) (gCons (gCon (.int 1)) gNil))) gNil))) (gOp pNe (gCons (gOp pIx (gCons (gVar 0) (gCons (gCon (.int 2)) gNil))) (gCons (gCon (.str [])) gNil))))))))
def g_are_spans (F : SemF) : SemS :=
  (sSeq (sIf (tOr (tNot (tVal (gOp (pIsi .tuple) (gCons (gVar 0) gNil)))) (tOr (tVal (gOp pGt (gCons (gOp pLen (gCons (gVar 0) gNil)) (gCons (gCon c_MOST_SPANS) gNil)))) (tNot (tVal (gOp pAll (gCons (gLc (iVal (gVar 0)) (.name 1) tTrue (gCall F 3 (gCons (gVar 1) gNil)) [1]) gNil)))))) (sRet (gCon (.bl false))) sNext)
    (sRet (gOp pAll (gCons (gLc (iZip (gVar 0) (gOp pSl (gCons (gVar 0) (gCons (gInt (gCon (.int 1))) (gCons (gCon .non) gNil))))) (.tup [(.name 1), (.name 2)]) tTrue (gOp pLt (gCons (gOp pIx (gCons (gVar 1) (gCons (gCon (.int 1)) gNil))) (gCons (gOp pIx (gCons (gVar 2) (gCons (gCon (.int 0)) gNil))) gNil))) [1, 2]) gNil))))
def b_put_spans_1 (F : SemF) : SemS :=
  (sSeq (sAppend (gVar 2) (gOp pSl (gCons (gVar 0) (gCons (gInt (gVar 3)) (gCons (gInt (gVar 4)) gNil)))))
    (sSeq (sAppend (gVar 2) (gVar 6))
    (sSet 3 (gVar 5))))
def g_put_spans (F : SemF) : SemS :=
  (sSeq (sSet 2 (gLst gNil))
    (sSeq (sSet 3 (gCon (.int 0)))
    (sSeq (sFor (iVal (gVar 1)) (.tup [(.name 4), (.name 5), (.name 6)]) (b_put_spans_1 F))
    (sRet (gOp pJoin (gCons (gStr (gCon (.str []))) (gCons (gOp pAdd (gCons (gVar 2) (gCons (gLst (gCons (gOp pSl (gCons (gVar 0) (gCons (gInt (gVar 3)) (gCons (gCon .non) gNil)))) gNil)) gNil))) gNil)))))))
def g_fit_spans (F : SemF) : SemS :=
  (sRet (gOr (gOp pEq (gCons (gVar 1) (gCons (gTup gNil) gNil))) (gOp pLe (gCons (gOp pIx (gCons (gOp pIx (gCons (gVar 1) (gCons (gOp pNeg (gCons (gCon (.int 1)) gNil)) gNil))) (gCons (gCon (.int 1)) gNil))) (gCons (gOp pLen (gCons (gVar 0) gNil)) gNil)))))
def g_spanned (F : SemF) : SemS :=
  (sSeq (sExpr (gCall F 2 (gCons (gVar 0) gNil)))
    (sSeq (sIf (tOr (tNot (tVal (gCall F 4 (gCons (gVar 1) gNil)))) (tNot (tVal (gCall F 6 (gCons (gVar 0) (gCons (gVar 1) gNil)))))) (sRaise0 2) sNext)
    (sSeq (sSet 2 (gCall F 5 (gCons (gVar 0) (gCons (gVar 1) gNil))))
    (sSeq (sIf (tVal (gOp pGt (gCons (gOp pLen (gCons (gVar 2) gNil)) (gCons (gCon c_MOST_TEXT) gNil)))) (sRaise0 3) sNext)
    (sRet (gVar 2))))))
def b_undone_spans_1 (F : SemF) : SemS :=
  (sSeq (sAppend (gVar 2) (gTup (gCons (gOp pAdd (gCons (gVar 4) (gCons (gVar 3) gNil))) (gCons (gOp pAdd (gCons (gOp pAdd (gCons (gVar 4) (gCons (gVar 3) gNil))) (gCons (gOp pLen (gCons (gVar 6) gNil)) gNil))) (gCons (gOp pSl (gCons (gVar 0) (gCons (gInt (gVar 4)) (gCons (gInt (gVar 5)) gNil)))) gNil)))))
    (sAug 3 pIAdd (gOp pSub (gCons (gOp pLen (gCons (gVar 6) gNil)) (gCons (gOp pSub (gCons (gVar 5) (gCons (gVar 4) gNil))) gNil)))))
def g_undone_spans (F : SemF) : SemS :=
  (sSeq (sSet 2 (gLst gNil))
    (sSeq (sSet 3 (gCon (.int 0)))
    (sSeq (sFor (iVal (gVar 1)) (.tup [(.name 4), (.name 5), (.name 6)]) (b_undone_spans_1 F))
    (sRet (gOp pTuple (gCons (gVar 2) gNil))))))
def g_back_spans (F : SemF) : SemS :=
  (sSeq (sExpr (gCall F 7 (gCons (gVar 0) (gCons (gVar 1) gNil))))
    (sRet (gCall F 8 (gCons (gVar 0) (gCons (gVar 1) gNil)))))
def b_least_span_1 (F : SemF) : SemS :=
  (sAug 4 pIAdd (gCon (.int 1)))
def b_least_span_2 (F : SemF) : SemS :=
  (sAug 3 pIAdd (gCon (.int 1)))
def g_least_span (F : SemF) : SemS :=
  (sSeq (sIf (tVal (gOp pEq (gCons (gVar 0) (gCons (gVar 1) gNil)))) (sRet (gTup gNil)) sNext)
    (sSeq (sSet 2 (gOp pMin2 (gCons (gOp pLen (gCons (gVar 0) gNil)) (gCons (gOp pLen (gCons (gVar 1) gNil)) gNil))))
    (sSeq (sSet 3 (gCon (.int 0)))
    (sSeq (sWhile (tAnd (tVal (gOp pLt (gCons (gVar 3) (gCons (gVar 2) gNil)))) (tVal (gOp pEq (gCons (gOp pIx (gCons (gVar 0) (gCons (gVar 3) gNil))) (gCons (gOp pIx (gCons (gVar 1) (gCons (gVar 3) gNil))) gNil))))) (b_least_span_2 F))
    (sSeq (sSet 4 (gCon (.int 0)))
    (sSeq (sWhile (tAnd (tVal (gOp pLt (gCons (gVar 4) (gCons (gOp pSub (gCons (gVar 2) (gCons (gVar 3) gNil))) gNil)))) (tVal (gOp pEq (gCons (gOp pIx (gCons (gVar 0) (gCons (gOp pSub (gCons (gOp pNeg (gCons (gCon (.int 1)) gNil)) (gCons (gVar 4) gNil))) gNil))) (gCons (gOp pIx (gCons (gVar 1) (gCons (gOp pSub (gCons (gOp pNeg (gCons (gCon (.int 1)) gNil)) (gCons (gVar 4) gNil))) gNil))) gNil))))) (b_least_span_1 F))
    (sRet (gTup (gCons (gTup (gCons (gVar 3) (gCons (gOp pSub (gCons (gOp pLen (gCons (gVar 0) gNil)) (gCons (gVar 4) gNil))) (gCons (gOp pSl (gCons (gVar 1) (gCons (gInt (gVar 3)) (gCons (gInt (gOp pSub (gCons (gOp pLen (gCons (gVar 1) gNil)) (gCons (gVar 4) gNil)))) gNil)))) gNil)))) gNil)))))))))
def g_between (F : SemF) : SemS :=
  (sSeq (sExpr (gCall F 2 (gCons (gVar 0) gNil)))
    (sSeq (sExpr (gCall F 2 (gCons (gVar 1) gNil)))
    (sRet (gCall F 10 (gCons (gVar 0) (gCons (gVar 1) gNil))))))
def g_law_bag (F : SemF) : SemS :=
  (sSeq (sSet 2 (gCon (.int 0)))
    (sSeq (sIf (tVal (gOp pLt (gCons (gVar 1) (gCons (gOp pLen (gCons (gVar 0) gNil)) gNil)))) (sSet 2 (gOp pInt (gCons (gOp pIx (gCons (gVar 0) (gCons (gVar 1) gNil))) gNil))) sNext)
    (sRet (gLst (gCons (gCon (.int 0)) (gCons (gOp pAdd (gCons (gCon (.int 9007)) (gCons (gOp pMul (gCons (gCon (.int 48611)) (gCons (gVar 1) gNil))) gNil))) (gCons (gCon (.int 0)) (gCons (gVar 2) gNil))))))))
def g_law_draw (F : SemF) : SemS :=
  (sSeq (sIf (tVal (gOp pLt (gCons (gVar 1) (gCons (gCon (.int 1)) gNil)))) (sRet (gCon (.int 0))) sNext)
    (sSeq (sIf (tVal (gOp pEq (gCons (gOp pIx (gCons (gVar 0) (gCons (gCon (.int 0)) gNil))) (gCons (gCon (.int 0)) gNil)))) (sSeq (sSetIx (gVar 0) (gCon (.int 2)) (gOp pAdd (gCons (gOp pIx (gCons (gVar 0) (gCons (gCon (.int 2)) gNil))) (gCons (gCon (.int 1)) gNil))))
    (sSeq (sSet 2 (gOp pMod (gCons (gOp pInt (gCons (gOp pAdd (gCons (gOp pAdd (gCons (gOp pAdd (gCons (gOp pMul (gCons (gOp pIx (gCons (gVar 0) (gCons (gCon (.int 1)) gNil))) (gCons (gCon (.int 48271)) gNil))) (gCons (gOp pMul (gCons (gOp pIx (gCons (gVar 0) (gCons (gCon (.int 3)) gNil))) (gCons (gCon (.int 69621)) gNil))) gNil))) (gCons (gOp pMul (gCons (gOp pIx (gCons (gVar 0) (gCons (gCon (.int 2)) gNil))) (gCons (gCon (.int 16807)) gNil))) gNil))) (gCons (gCon (.int 11)) gNil))) gNil)) (gCons (gCon (.int 2147483647)) gNil))))
    (sSeq (sSetIx (gVar 0) (gCon (.int 0)) (gOp pAdd (gCons (gOp pMul (gCons (gVar 2) (gCons (gCon (.int 2147483629)) gNil))) (gCons (gOp pMod (gCons (gOp pInt (gCons (gOp pAdd (gCons (gOp pMul (gCons (gVar 2) (gCons (gVar 2) gNil))) (gCons (gOp pIx (gCons (gVar 0) (gCons (gCon (.int 3)) gNil))) gNil))) gNil)) (gCons (gCon (.int 2147483629)) gNil))) gNil))))
    (sSeq (sIf (tAnd (tVal (gOp pEq (gCons (gOp pIx (gCons (gVar 0) (gCons (gCon (.int 2)) gNil))) (gCons (gCon (.int 1)) gNil)))) (tVal (gOp pGe (gCons (gOp pIx (gCons (gVar 0) (gCons (gCon (.int 3)) gNil))) (gCons (gOp pPow (gCons (gCon (.int 10)) (gCons (gCon (.int 18)) gNil))) gNil))))) (sSetIx (gVar 0) (gCon (.int 0)) (gOp pIx (gCons (gVar 0) (gCons (gCon (.int 3)) gNil)))) sNext)
    (sSetIx (gVar 0) (gCon (.int 1)) (gVar 2)))))) sNext)
    (sSeq (sSet 3 (gOp pIx (gCons (gVar 0) (gCons (gCon (.int 0)) gNil))))
    (sSeq (sSetIx (gVar 0) (gCon (.int 0)) (gOp pFdiv (gCons (gVar 3) (gCons (gVar 1) gNil))))
    (sRet (gOp pMod (gCons (gOp pInt (gCons (gVar 3) gNil)) (gCons (gVar 1) gNil))))))))
def g_law_one (F : SemF) : SemS :=
  (sRet (gOp pIx (gCons (gVar 1) (gCons (gCall F 13 (gCons (gVar 0) (gCons (gOp pLen (gCons (gVar 1) gNil)) gNil))) gNil))))
def g_law_spoilt (F : SemF) : SemS :=
  (sSeq (sIf (tOr (tVal (gOp pEq (gCons (gVar 3) (gCons (gCon (.int 0)) gNil)))) (tOr (tNot (tVal (gOp (pIsi .tuple) (gCons (gVar 1) gNil)))) (tOr (tVal (gOp pEq (gCons (gOp pLen (gCons (gVar 1) gNil)) (gCons (gCon (.int 0)) gNil)))) (tVal (gOp pEq (gCons (gCall F 13 (gCons (gVar 0) (gCons (gCon (.int 4)) gNil))) (gCons (gCon (.int 0)) gNil))))))) (sRet (gVar 2)) sNext)
    (sSeq (sSet 4 (gCall F 13 (gCons (gVar 0) (gCons (gOp pLen (gCons (gVar 1) gNil)) gNil))))
    (sSeq (sSet 5 (gCall F 13 (gCons (gVar 0) (gCons (gCon (.int 9)) gNil))))
    (sSeq (sIf (tVal (gOp pEq (gCons (gVar 5) (gCons (gCon (.int 0)) gNil)))) (sRet (gOp pAdd (gCons (gOp pSl (gCons (gVar 1) (gCons (gCon .non) (gCons (gInt (gVar 4)) gNil)))) (gCons (gOp pSl (gCons (gVar 1) (gCons (gInt (gOp pAdd (gCons (gVar 4) (gCons (gCon (.int 1)) gNil)))) (gCons (gCon .non) gNil)))) gNil)))) sNext)
    (sSeq (sIf (tVal (gOp pEq (gCons (gVar 5) (gCons (gCon (.int 1)) gNil)))) (sRet (gOp pAdd (gCons (gOp pAdd (gCons (gOp pSl (gCons (gVar 1) (gCons (gCon .non) (gCons (gInt (gVar 4)) gNil)))) (gCons (gTup (gCons (gVar 2) gNil)) gNil))) (gCons (gOp pSl (gCons (gVar 1) (gCons (gInt (gVar 4)) (gCons (gCon .non) gNil)))) gNil)))) sNext)
    (sSeq (sIf (tVal (gOp pEq (gCons (gVar 5) (gCons (gCon (.int 2)) gNil)))) (sRet (gOp pAdd (gCons (gOp pSl (gCons (gVar 1) (gCons (gCon .non) (gCons (gInt (gOp pAdd (gCons (gVar 4) (gCons (gCon (.int 1)) gNil)))) gNil)))) (gCons (gOp pSl (gCons (gVar 1) (gCons (gInt (gVar 4)) (gCons (gCon .non) gNil)))) gNil)))) sNext)
    (sSeq (sIf (tVal (gOp pEq (gCons (gVar 5) (gCons (gCon (.int 3)) gNil)))) (sRet (gOp pAdd (gCons (gOp pAdd (gCons (gOp pAdd (gCons (gOp pSl (gCons (gVar 1) (gCons (gCon .non) (gCons (gInt (gVar 4)) gNil)))) (gCons (gOp pSl (gCons (gVar 1) (gCons (gInt (gOp pAdd (gCons (gVar 4) (gCons (gCon (.int 1)) gNil)))) (gCons (gInt (gOp pAdd (gCons (gVar 4) (gCons (gCon (.int 2)) gNil)))) gNil)))) gNil))) (gCons (gOp pSl (gCons (gVar 1) (gCons (gInt (gVar 4)) (gCons (gInt (gOp pAdd (gCons (gVar 4) (gCons (gCon (.int 1)) gNil)))) gNil)))) gNil))) (gCons (gOp pSl (gCons (gVar 1) (gCons (gInt (gOp pAdd (gCons (gVar 4) (gCons (gCon (.int 2)) gNil)))) (gCons (gCon .non) gNil)))) gNil)))) sNext)
    (sSeq (sIf (tVal (gOp pEq (gCons (gVar 5) (gCons (gCon (.int 4)) gNil)))) (sRet (gOp pList (gCons (gVar 1) gNil))) sNext)
    (sRet (gOp pAdd (gCons (gOp pAdd (gCons (gOp pSl (gCons (gVar 1) (gCons (gCon .non) (gCons (gInt (gVar 4)) gNil)))) (gCons (gTup (gCons (gCall F 15 (gCons (gVar 0) (gCons (gOp pIx (gCons (gVar 1) (gCons (gVar 4) gNil))) (gCons (gVar 2) (gCons (gOp pSub (gCons (gVar 3) (gCons (gCon (.int 1)) gNil))) gNil))))) gNil)) gNil))) (gCons (gOp pSl (gCons (gVar 1) (gCons (gInt (gOp pAdd (gCons (gVar 4) (gCons (gCon (.int 1)) gNil)))) (gCons (gCon .non) gNil)))) gNil))))))))))))
def g_law_same (F : SemF) : SemS :=
  (sSeq (sIf (tVal (gOp (pIsi .tuple) (gCons (gVar 0) gNil))) (sRet (gAnd (gOp (pIsi .tuple) (gCons (gVar 1) gNil)) (gAnd (gOp pEq (gCons (gOp pLen (gCons (gVar 0) gNil)) (gCons (gOp pLen (gCons (gVar 1) gNil)) gNil))) (gOp pNotIn (gCons (gCon (.bl false)) (gCons (gLc (iRange1 (gOp pLen (gCons (gVar 0) gNil))) (.name 2) tTrue (gCall F 16 (gCons (gOp pIx (gCons (gVar 0) (gCons (gVar 2) gNil))) (gCons (gOp pIx (gCons (gVar 1) (gCons (gVar 2) gNil))) gNil))) [2]) gNil)))))) sNext)
    (sSeq (sIf (tVal (gOp pIs (gCons (gVar 0) (gCons (gCon .non) gNil)))) (sRet (gOp pIs (gCons (gVar 1) (gCons (gCon .non) gNil)))) sNext)
    (sSeq (sIf (tVal (gOp (pIsi .str) (gCons (gVar 0) gNil))) (sRet (gAnd (gOp (pIsi .str) (gCons (gVar 1) gNil)) (gOp pEq (gCons (gVar 0) (gCons (gVar 1) gNil))))) sNext)
    (sRet (gAnd (gOp (pIsi .int) (gCons (gVar 1) gNil)) (gAnd (gNot (gOp (pIsi .bool) (gCons (gVar 1) gNil))) (gOp pEq (gCons (gVar 0) (gCons (gVar 1) gNil)))))))))
def g_law_told (F : SemF) : SemS :=
  (sTry sub (sRet (gCallV F 0 (gCons (gOp pIx (gCons (gVar 1) (gCons (gCon (.int 0)) gNil))) (gCons (gOp pIx (gCons (gVar 1) (gCons (gCon (.int 1)) gNil))) gNil)))) [⟨1, (.tup [(.con (.str [112, 108, 97, 99, 101])), .arg])⟩, ⟨2, (.con (.str [115, 116, 101, 112, 115]))⟩, ⟨3, (.con (.str [102, 97, 114]))⟩])
def g_law_is_text (F : SemF) : SemS :=
  (sSeq (sSet 1 (gCon (.str [97, 98, 99, 100, 101, 102, 103, 104, 105, 106, 107, 108, 109, 110, 111, 112, 113, 114, 115, 116, 117, 118, 119, 120, 121, 122, 48, 49, 50, 51, 52, 53, 54, 55, 56, 57, 32, 10, 44, 59, 58, 61, 45, 46, 40, 41, 35, 95, 124])))
    (sRet (gAnd (gOp (pIsi .str) (gCons (gVar 0) gNil)) (gAnd (gOp pLe (gCons (gOp pLen (gCons (gVar 0) gNil)) (gCons (gCon (.int 4000)) gNil))) (gOp pEq (gCons (gLc (iVal (gVar 0)) (.name 2) (tVal (gOp pNotIn (gCons (gVar 2) (gCons (gVar 1) gNil)))) (gVar 2) [2]) (gCons (gLst gNil) gNil)))))))
def g_law_whole (F : SemF) : SemS :=
  (sRet (gAnd (gOp (pIsi .int) (gCons (gVar 0) gNil)) (gAnd (gNot (gOp (pIsi .bool) (gCons (gVar 0) gNil))) (gAnd (gOp pGe (gCons (gVar 0) (gCons (gCon (.int 0)) gNil))) (gOp pLe (gCons (gVar 0) (gCons (gCon (.int 4000)) gNil)))))))
def b_law_are_1 (F : SemF) : SemS :=
  (sSeq (sIf (tOr (tNot (tVal (gOp (pIsi .tuple) (gCons (gVar 2) gNil)))) (tOr (tVal (gOp pNe (gCons (gOp pLen (gCons (gVar 2) gNil)) (gCons (gCon (.int 3)) gNil)))) (tOr (tNot (tVal (gCall F 19 (gCons (gOp pIx (gCons (gVar 2) (gCons (gCon (.int 0)) gNil))) gNil)))) (tOr (tNot (tVal (gCall F 19 (gCons (gOp pIx (gCons (gVar 2) (gCons (gCon (.int 1)) gNil))) gNil)))) (tNot (tVal (gCall F 18 (gCons (gOp pIx (gCons (gVar 2) (gCons (gCon (.int 2)) gNil))) gNil)))))))) (sRet (gCon (.bl false))) sNext)
    (sSeq (sIf (tOr (tVal (gOp pLe (gCons (gOp pIx (gCons (gVar 2) (gCons (gCon (.int 0)) gNil))) (gCons (gVar 1) gNil)))) (tOr (tVal (gOp pGt (gCons (gOp pIx (gCons (gVar 2) (gCons (gCon (.int 0)) gNil))) (gCons (gOp pIx (gCons (gVar 2) (gCons (gCon (.int 1)) gNil))) gNil)))) (tAnd (tVal (gOp pEq (gCons (gOp pIx (gCons (gVar 2) (gCons (gCon (.int 0)) gNil))) (gCons (gOp pIx (gCons (gVar 2) (gCons (gCon (.int 1)) gNil))) gNil)))) (tVal (gOp pEq (gCons (gOp pIx (gCons (gVar 2) (gCons (gCon (.int 2)) gNil))) (gCons (gCon (.str [])) gNil))))))) (sRet (gCon (.bl false))) sNext)
    (sSet 1 (gOp pIx (gCons (gVar 2) (gCons (gCon (.int 1)) gNil))))))
def g_law_are (F : SemF) : SemS :=
  (sSeq (sIf (tOr (tNot (tVal (gOp (pIsi .tuple) (gCons (gVar 0) gNil)))) (tVal (gOp pGt (gCons (gOp pLen (gCons (gVar 0) gNil)) (gCons (gCon (.int 400)) gNil))))) (sRet (gCon (.bl false))) sNext)
    (sSeq (sSet 1 (gOp pNeg (gCons (gCon (.int 1)) gNil)))
    (sSeq (sFor (iVal (gVar 0)) (.name 2) (b_law_are_1 F))
    (sRet (gCon (.bl true))))))
def b_law_put_1 (F : SemF) : SemS :=
  (sSet 0 (gOp pAdd (gCons (gOp pAdd (gCons (gOp pSl (gCons (gVar 0) (gCons (gCon .non) (gCons (gInt (gVar 2)) gNil)))) (gCons (gVar 4) gNil))) (gCons (gOp pSl (gCons (gVar 0) (gCons (gInt (gVar 3)) (gCons (gCon .non) gNil)))) gNil))))
def g_law_put (F : SemF) : SemS :=
  (sSeq (sFor (iVal (gOp pRev (gCons (gVar 1) gNil))) (.tup [(.name 2), (.name 3), (.name 4)]) (b_law_put_1 F))
    (sRet (gVar 0)))
def b_law_back_1 (F : SemF) : SemS :=
  (sSeq (sSet 2 (gOp pAdd (gCons (gVar 2) (gCons (gTup (gCons (gTup (gCons (gOp pAdd (gCons (gVar 4) (gCons (gVar 3) gNil))) (gCons (gOp pAdd (gCons (gOp pAdd (gCons (gVar 4) (gCons (gVar 3) gNil))) (gCons (gOp pLen (gCons (gVar 6) gNil)) gNil))) (gCons (gOp pSl (gCons (gVar 0) (gCons (gInt (gVar 4)) (gCons (gInt (gVar 5)) gNil)))) gNil)))) gNil)) gNil))))
    (sSet 3 (gOp pSub (gCons (gOp pAdd (gCons (gVar 3) (gCons (gOp pLen (gCons (gVar 6) gNil)) gNil))) (gCons (gOp pSub (gCons (gVar 5) (gCons (gVar 4) gNil))) gNil)))))
def g_law_back (F : SemF) : SemS :=
  (sSeq (sSet 2 (gTup gNil))
    (sSeq (sSet 3 (gCon (.int 0)))
    (sSeq (sFor (iVal (gVar 1)) (.tup [(.name 4), (.name 5), (.name 6)]) (b_law_back_1 F))
    (sRet (gVar 2)))))
def g_law_between (F : SemF) : SemS :=
  (sSeq (sIf (tVal (gOp pEq (gCons (gVar 0) (gCons (gVar 1) gNil)))) (sRet (gTup gNil)) sNext)
    (sSeq (sSet 2 (gOp pMaxL (gCons (gLc (iRange1 (gOp pAdd (gCons (gOp pMin2 (gCons (gOp pLen (gCons (gVar 0) gNil)) (gCons (gOp pLen (gCons (gVar 1) gNil)) gNil))) (gCons (gCon (.int 1)) gNil)))) (.name 5) (tVal (gOp pEq (gCons (gOp pSl (gCons (gVar 0) (gCons (gCon .non) (gCons (gInt (gVar 5)) gNil)))) (gCons (gOp pSl (gCons (gVar 1) (gCons (gCon .non) (gCons (gInt (gVar 5)) gNil)))) gNil)))) (gVar 5) [5]) gNil)))
    (sSeq (sSet 3 (gOp pSub (gCons (gOp pMin2 (gCons (gOp pLen (gCons (gVar 0) gNil)) (gCons (gOp pLen (gCons (gVar 1) gNil)) gNil))) (gCons (gVar 2) gNil))))
    (sSeq (sSet 4 (gOp pMaxL (gCons (gLc (iRange1 (gOp pAdd (gCons (gVar 3) (gCons (gCon (.int 1)) gNil)))) (.name 5) (tVal (gOp pEq (gCons (gOp pSl (gCons (gVar 0) (gCons (gInt (gOp pSub (gCons (gOp pLen (gCons (gVar 0) gNil)) (gCons (gVar 5) gNil)))) (gCons (gCon .non) gNil)))) (gCons (gOp pSl (gCons (gVar 1) (gCons (gInt (gOp pSub (gCons (gOp pLen (gCons (gVar 1) gNil)) (gCons (gVar 5) gNil)))) (gCons (gCon .non) gNil)))) gNil)))) (gVar 5) [5]) gNil)))
    (sRet (gTup (gCons (gTup (gCons (gVar 2) (gCons (gOp pSub (gCons (gOp pLen (gCons (gVar 0) gNil)) (gCons (gVar 4) gNil))) (gCons (gOp pSl (gCons (gVar 1) (gCons (gInt (gVar 2)) (gCons (gInt (gOp pSub (gCons (gOp pLen (gCons (gVar 1) gNil)) (gCons (gVar 4) gNil)))) gNil)))) gNil)))) gNil)))))))
def g_law_some (F : SemF) : SemS :=
  (sRet (gOp pJoin (gCons (gStr (gCon (.str []))) (gCons (gLc (iRange1 (gCall F 13 (gCons (gVar 0) (gCons (gVar 1) gNil)))) (.name 2) tTrue (gCall F 14 (gCons (gVar 0) (gCons (gLst (gCons (gCon (.str [97])) (gCons (gCon (.str [98])) (gCons (gCon (.str [32])) (gCons (gCon (.str [10])) (gCons (gCon (.str [49])) (gCons (gCon (.str [97])) (gCons (gCon (.str [98])) gNil)))))))) gNil))) [2]) gNil))))
def b_law_1 (F : SemF) : SemS :=
  (sSeq (sSet 12 (gCall F 15 (gCons (gVar 3) (gCons (gVar 5) (gCons (gCall F 14 (gCons (gVar 3) (gCons (gVar 1) gNil))) (gCons (gCon (.int 3)) gNil))))))
    (sSeq (sSet 13 (gCall F 20 (gCons (gVar 12) gNil)))
    (sSeq (sIf (tVal (gOp pNe (gCons (gCall F 4 (gCons (gVar 12) gNil)) (gCons (gVar 13) gNil)))) (sRet (gCon (.bl false))) sNext)
    (sSeq (sSet 14 (gIf (tOr (tNot (tVal (gVar 13))) (tAnd (tVal (gOp pNe (gCons (gVar 12) (gCons (gTup gNil) gNil)))) (tVal (gOp pGt (gCons (gOp pIx (gCons (gOp pIx (gCons (gVar 12) (gCons (gOp pNeg (gCons (gCon (.int 1)) gNil)) gNil))) (gCons (gCon (.int 1)) gNil))) (gCons (gOp pLen (gCons (gVar 4) gNil)) gNil)))))) (gCon (.str [115, 116, 101, 112, 115])) (gCall F 21 (gCons (gVar 4) (gCons (gVar 12) gNil)))))
    (sSeq (sIf (tVal (gOp pGt (gCons (gOp pLen (gCons (gVar 14) gNil)) (gCons (gCon (.int 4000)) gNil)))) (sSet 14 (gCon (.str [102, 97, 114]))) sNext)
    (sIf (tVal (gOp pNe (gCons (gCall F 17 (gCons (gFn 7) (gCons (gTup (gCons (gVar 4) (gCons (gVar 12) gNil))) gNil))) (gCons (gVar 14) gNil)))) (sRet (gCon (.bl false))) sNext))))))
def b_law_2 (F : SemF) : SemS :=
  (sSeq (sSet 8 (gOp pAdd (gCons (gVar 6) (gCons (gCall F 13 (gCons (gVar 3) (gCons (gCon (.int 4)) gNil))) gNil))))
    (sSeq (sSet 9 (gOp pAdd (gCons (gVar 8) (gCons (gCall F 13 (gCons (gVar 3) (gCons (gCon (.int 4)) gNil))) gNil))))
    (sSeq (sSet 10 (gCall F 24 (gCons (gVar 3) (gCons (gCon (.int 4)) gNil))))
    (sIf (tAnd (tVal (gOp pLe (gCons (gVar 9) (gCons (gOp pLen (gCons (gVar 4) gNil)) gNil)))) (tOr (tVal (gOp pLt (gCons (gVar 8) (gCons (gVar 9) gNil)))) (tVal (gOp pNe (gCons (gVar 10) (gCons (gCon (.str [])) gNil)))))) (sSeq (sSet 5 (gOp pAdd (gCons (gVar 5) (gCons (gTup (gCons (gTup (gCons (gVar 8) (gCons (gVar 9) (gCons (gVar 10) gNil)))) gNil)) gNil))))
    (sSet 6 (gOp pAdd (gCons (gVar 9) (gCons (gCon (.int 1)) gNil))))) sNext))))
def b_law_3 (F : SemF) : SemS :=
  (sSeq (sSet 3 (gCall F 12 (gCons (gVar 0) (gCons (gVar 2) gNil))))
    (sSeq (sSet 4 (gCall F 24 (gCons (gVar 3) (gCons (gCon (.int 20)) gNil))))
    (sSeq (sSet 5 (gTup gNil))
    (sSeq (sSet 6 (gCon (.int 0)))
    (sSeq (sFor (iRange1 (gCall F 13 (gCons (gVar 3) (gCons (gCon (.int 4)) gNil)))) (.name 7) (b_law_2 F))
    (sSeq (sIf (tOr (tVal (gOp pIsNot (gCons (gCall F 4 (gCons (gVar 5) gNil)) (gCons (gCon (.bl true)) gNil)))) (tOr (tNot (tVal (gCall F 16 (gCons (gCall F 21 (gCons (gVar 4) (gCons (gVar 5) gNil))) (gCons (gCall F 7 (gCons (gVar 4) (gCons (gVar 5) gNil))) gNil))))) (tNot (tVal (gCall F 16 (gCons (gCall F 22 (gCons (gVar 4) (gCons (gVar 5) gNil))) (gCons (gCall F 9 (gCons (gVar 4) (gCons (gVar 5) gNil))) gNil))))))) (sRet (gCon (.bl false))) sNext)
    (sSeq (sSet 11 (gIf (tVal (gOp pEq (gCons (gCall F 13 (gCons (gVar 3) (gCons (gCon (.int 2)) gNil))) (gCons (gCon (.int 0)) gNil)))) (gCall F 24 (gCons (gVar 3) (gCons (gCon (.int 20)) gNil))) (gCall F 21 (gCons (gVar 4) (gCons (gVar 5) gNil)))))
    (sSeq (sIf (tOr (tNot (tVal (gCall F 16 (gCons (gCall F 23 (gCons (gVar 4) (gCons (gVar 11) gNil))) (gCons (gCall F 11 (gCons (gVar 4) (gCons (gVar 11) gNil))) gNil))))) (tVal (gOp pNe (gCons (gCall F 7 (gCons (gVar 4) (gCons (gCall F 11 (gCons (gVar 4) (gCons (gVar 11) gNil))) gNil))) (gCons (gVar 11) gNil))))) (sRet (gCon (.bl false))) sNext)
    (sSeq (sFor (iRange1 (gCon (.int 4))) (.name 7) (b_law_1 F))
    (sIf (tOr (tVal (gOp pNe (gCons (gCall F 17 (gCons (gFn 7) (gCons (gTup (gCons (gCon (.str [65])) (gCons (gCon .non) gNil))) gNil))) (gCons (gTup (gCons (gCon (.str [112, 108, 97, 99, 101])) (gCons (gCon (.int 0)) gNil))) gNil)))) (tOr (tVal (gOp pNe (gCons (gCall F 17 (gCons (gFn 11) (gCons (gTup (gCons (gCon (.str [97])) (gCons (gCon .non) gNil))) gNil))) (gCons (gTup (gCons (gCon (.str [112, 108, 97, 99, 101])) (gCons (gOp pNeg (gCons (gCon (.int 1)) gNil)) gNil))) gNil)))) (tVal (gOp pNe (gCons (gCall F 17 (gCons (gFn 9) (gCons (gTup (gCons (gVar 4) (gCons (gCon .non) gNil))) gNil))) (gCons (gCon (.str [115, 116, 101, 112, 115])) gNil)))))) (sRet (gCon (.bl false))) sNext))))))))))
def g_law (F : SemF) : SemS :=
  (sSeq (sSet 1 (gLst (gCons (gCon (.int 0)) (gCons (gCon (.int 1)) (gCons (gOp pNeg (gCons (gCon (.int 1)) gNil)) (gCons (gCon (.int 4000)) (gCons (gCon (.int 4001)) (gCons (gCon (.bl true)) (gCons (gCon .non) (gCons (gCon (.str [])) (gCons (gCon (.str [97])) (gCons (gCon (.str [65])) (gCons (gTup gNil) (gCons (gTup (gCons (gCon (.int 0)) (gCons (gCon (.int 0)) (gCons (gCon (.str [97])) gNil)))) gNil))))))))))))))
    (sSeq (sFor (iRange1 (gOp pMax2 (gCons (gCon (.int 1)) (gCons (gOp pMin2 (gCons (gCon (.int 6)) (gCons (gOp pLen (gCons (gVar 0) gNil)) gNil))) gNil)))) (.name 2) (b_law_3 F))
    (sSeq (sSet 15 (gOp pTuple (gCons (gLc (iRange1 (gCon (.int 401))) (.name 16) tTrue (gTup (gCons (gOp pMul (gCons (gCon (.int 2)) (gCons (gVar 16) gNil))) (gCons (gOp pMul (gCons (gCon (.int 2)) (gCons (gVar 16) gNil))) (gCons (gCon (.str [97])) gNil)))) [16]) gNil)))
    (sSeq (sIf (tOr (tVal (gOp pNe (gCons (gLst (gCons (gCall F 4 (gCons (gOp pSl (gCons (gVar 15) (gCons (gCon .non) (gCons (gInt (gCon (.int 400))) gNil)))) gNil)) (gCons (gCall F 4 (gCons (gVar 15) gNil)) gNil))) (gCons (gLst (gCons (gCon (.bl true)) (gCons (gCon (.bl false)) gNil))) gNil)))) (tVal (gOp pNe (gCons (gCall F 17 (gCons (gFn 7) (gCons (gTup (gCons (gOp pMul (gCons (gCon (.str [97])) (gCons (gCon (.int 4000)) gNil))) (gCons (gTup (gCons (gTup (gCons (gCon (.int 0)) (gCons (gCon (.int 0)) (gCons (gCon (.str [98])) gNil)))) gNil)) gNil))) gNil))) (gCons (gCon (.str [102, 97, 114])) gNil))))) (sRet (gCon (.bl false))) sNext)
    (sRet (gAnd (gOp pEq (gCons (gCall F 11 (gCons (gCon (.str [97, 97, 97])) (gCons (gCon (.str [97, 97])) gNil))) (gCons (gTup (gCons (gTup (gCons (gCon (.int 2)) (gCons (gCon (.int 3)) (gCons (gCon (.str [])) gNil)))) gNil)) gNil))) (gAnd (gOp pEq (gCons (gCall F 11 (gCons (gCon (.str [97, 98])) (gCons (gCon (.str [97, 97, 98])) gNil))) (gCons (gTup (gCons (gTup (gCons (gCon (.int 1)) (gCons (gCon (.int 1)) (gCons (gCon (.str [97])) gNil)))) gNil)) gNil))) (gOp pEq (gCons (gCall F 7 (gCons (gCon (.str [97, 98, 99])) (gCons (gTup (gCons (gTup (gCons (gCon (.int 0)) (gCons (gCon (.int 1)) (gCons (gCon (.str [120])) gNil)))) (gCons (gTup (gCons (gCon (.int 2)) (gCons (gCon (.int 3)) (gCons (gCon (.str [])) gNil)))) gNil))) gNil))) (gCons (gCon (.str [120, 98])) gNil))))))))))
def T : List DefD := [DefD.mk "is_integer" (topS 10) [Str.ofString "value", Str.ofString "low", Str.ofString "high"] [Str.ofString "value", Str.ofString "low", Str.ofString "high"] g_is_integer,
  DefD.mk "is_text" (topS 11) [Str.ofString "value", Str.ofString "sign"] [Str.ofString "value"] g_is_text,
  DefD.mk "check_text" (topS 12) [Str.ofString "value", Str.ofString "place", Str.ofString "sign"] [Str.ofString "value"] g_check_text,
  DefD.mk "is_span" (topS 15) [Str.ofString "value"] [Str.ofString "value"] g_is_span,
  DefD.mk "are_spans" (topS 16) [Str.ofString "value", Str.ofString "one", Str.ofString "other"] [Str.ofString "value"] g_are_spans,
  DefD.mk "put_spans" (topS 17) [Str.ofString "text", Str.ofString "spans", Str.ofString "found", Str.ofString "place", Str.ofString "begin", Str.ofString "end", Str.ofString "new"] [Str.ofString "text", Str.ofString "spans"] g_put_spans,
  DefD.mk "fit_spans" (topS 18) [Str.ofString "text", Str.ofString "spans"] [Str.ofString "text", Str.ofString "spans"] g_fit_spans,
  DefD.mk "spanned" (topS 19) [Str.ofString "text", Str.ofString "spans", Str.ofString "found"] [Str.ofString "text", Str.ofString "spans"] g_spanned,
  DefD.mk "undone_spans" (topS 20) [Str.ofString "text", Str.ofString "spans", Str.ofString "found", Str.ofString "by", Str.ofString "begin", Str.ofString "end", Str.ofString "new"] [Str.ofString "text", Str.ofString "spans"] g_undone_spans,
  DefD.mk "back_spans" (topS 21) [Str.ofString "text", Str.ofString "spans"] [Str.ofString "text", Str.ofString "spans"] g_back_spans,
  DefD.mk "least_span" (topS 22) [Str.ofString "text", Str.ofString "other", Str.ofString "most", Str.ofString "begin", Str.ofString "behind"] [Str.ofString "text", Str.ofString "other"] g_least_span,
  DefD.mk "between" (topS 23) [Str.ofString "text", Str.ofString "other"] [Str.ofString "text", Str.ofString "other"] g_between,
  DefD.mk "_law_bag" (topS 25) [Str.ofString "script", Str.ofString "k", Str.ofString "cell"] [Str.ofString "script", Str.ofString "k"] g_law_bag,
  DefD.mk "_law_draw" (topS 26) [Str.ofString "bag", Str.ofString "many", Str.ofString "seed", Str.ofString "rest"] [Str.ofString "bag", Str.ofString "many"] g_law_draw,
  DefD.mk "_law_one" (topS 27) [Str.ofString "bag", Str.ofString "row"] [Str.ofString "bag", Str.ofString "row"] g_law_one,
  DefD.mk "_law_spoilt" (topS 28) [Str.ofString "bag", Str.ofString "value", Str.ofString "odd", Str.ofString "down", Str.ofString "at", Str.ofString "pick"] [Str.ofString "bag", Str.ofString "value", Str.ofString "odd", Str.ofString "down"] g_law_spoilt,
  DefD.mk "_law_same" (topS 29) [Str.ofString "one", Str.ofString "other", Str.ofString "k"] [Str.ofString "one", Str.ofString "other"] g_law_same,
  DefD.mk "_law_told" (topS 30) [Str.ofString "call", Str.ofString "values", Str.ofString "e"] [Str.ofString "call", Str.ofString "values"] g_law_told,
  DefD.mk "_law_is_text" (topS 31) [Str.ofString "value", Str.ofString "signs", Str.ofString "sign"] [Str.ofString "value"] g_law_is_text,
  DefD.mk "_law_whole" (topS 32) [Str.ofString "value"] [Str.ofString "value"] g_law_whole,
  DefD.mk "_law_are" (topS 33) [Str.ofString "value", Str.ofString "last", Str.ofString "one"] [Str.ofString "value"] g_law_are,
  DefD.mk "_law_put" (topS 34) [Str.ofString "text", Str.ofString "spans", Str.ofString "begin", Str.ofString "end", Str.ofString "new"] [Str.ofString "text", Str.ofString "spans"] g_law_put,
  DefD.mk "_law_back" (topS 35) [Str.ofString "text", Str.ofString "spans", Str.ofString "found", Str.ofString "by", Str.ofString "begin", Str.ofString "end", Str.ofString "new"] [Str.ofString "text", Str.ofString "spans"] g_law_back,
  DefD.mk "_law_between" (topS 36) [Str.ofString "one", Str.ofString "other", Str.ofString "ahead", Str.ofString "most", Str.ofString "behind", Str.ofString "j"] [Str.ofString "one", Str.ofString "other"] g_law_between,
  DefD.mk "_law_some" (topS 37) [Str.ofString "bag", Str.ofString "most", Str.ofString "j"] [Str.ofString "bag", Str.ofString "most"] g_law_some,
  DefD.mk "law" (topS 38) [Str.ofString "script", Str.ofString "odd", Str.ofString "k", Str.ofString "bag", Str.ofString "text", Str.ofString "spans", Str.ofString "at", Str.ofString "turn", Str.ofString "begin", Str.ofString "end", Str.ofString "new", Str.ofString "other", Str.ofString "near", Str.ofString "good", Str.ofString "due", Str.ofString "many", Str.ofString "j"] [Str.ofString "script"] g_law]
theorem ok_is_integer : DefD.Ok ⟨"is_integer", topS 10, [Str.ofString "value", Str.ofString "low", Str.ofString "high"], [Str.ofString "value", Str.ofString "low", Str.ofString "high"], g_is_integer⟩ gl cls sub :=
  ⟨⟨rfl, rfl, rfl, by decide +kernel, rfl, by decide +kernel, by decide +kernel⟩, fun _ _ _ _ _ _ us hl => match us, hl with | [_, _, _], _ => rfl, fun _ => by kernel_rfl⟩
theorem ok_is_text : DefD.Ok ⟨"is_text", topS 11, [Str.ofString "value", Str.ofString "sign"], [Str.ofString "value"], g_is_text⟩ gl cls sub :=
  ⟨⟨rfl, rfl, rfl, by decide +kernel, rfl, by decide +kernel, by decide +kernel⟩, fun _ _ _ _ _ _ us hl => match us, hl with | [_], _ => rfl, fun _ => by kernel_rfl⟩
theorem ok_check_text : DefD.Ok ⟨"check_text", topS 12, [Str.ofString "value", Str.ofString "place", Str.ofString "sign"], [Str.ofString "value"], g_check_text⟩ gl cls sub :=
  ⟨⟨rfl, rfl, rfl, by decide +kernel, rfl, by decide +kernel, by decide +kernel⟩, fun _ _ _ _ _ _ us hl => match us, hl with | [_], _ => rfl, fun _ => by kernel_rfl⟩
theorem ok_is_span : DefD.Ok ⟨"is_span", topS 15, [Str.ofString "value"], [Str.ofString "value"], g_is_span⟩ gl cls sub :=
  ⟨⟨rfl, rfl, rfl, by decide +kernel, rfl, by decide +kernel, by decide +kernel⟩, fun _ _ _ _ _ _ us hl => match us, hl with | [_], _ => rfl, fun _ => by kernel_rfl⟩
theorem ok_are_spans : DefD.Ok ⟨"are_spans", topS 16, [Str.ofString "value", Str.ofString "one", Str.ofString "other"], [Str.ofString "value"], g_are_spans⟩ gl cls sub :=
  ⟨⟨rfl, rfl, rfl, by decide +kernel, rfl, by decide +kernel, by decide +kernel⟩, fun _ _ _ _ _ _ us hl => match us, hl with | [_], _ => rfl, fun _ => by kernel_rfl⟩
theorem ok_put_spans : DefD.Ok ⟨"put_spans", topS 17, [Str.ofString "text", Str.ofString "spans", Str.ofString "found", Str.ofString "place", Str.ofString "begin", Str.ofString "end", Str.ofString "new"], [Str.ofString "text", Str.ofString "spans"], g_put_spans⟩ gl cls sub :=
  ⟨⟨rfl, rfl, rfl, by decide +kernel, rfl, by decide +kernel, by decide +kernel⟩, fun _ _ _ _ _ _ us hl => match us, hl with | [_, _], _ => rfl, fun _ => by kernel_rfl⟩
theorem ok_fit_spans : DefD.Ok ⟨"fit_spans", topS 18, [Str.ofString "text", Str.ofString "spans"], [Str.ofString "text", Str.ofString "spans"], g_fit_spans⟩ gl cls sub :=
  ⟨⟨rfl, rfl, rfl, by decide +kernel, rfl, by decide +kernel, by decide +kernel⟩, fun _ _ _ _ _ _ us hl => match us, hl with | [_, _], _ => rfl, fun _ => by kernel_rfl⟩
theorem ok_spanned : DefD.Ok ⟨"spanned", topS 19, [Str.ofString "text", Str.ofString "spans", Str.ofString "found"], [Str.ofString "text", Str.ofString "spans"], g_spanned⟩ gl cls sub :=
  ⟨⟨rfl, rfl, rfl, by decide +kernel, rfl, by decide +kernel, by decide +kernel⟩, fun _ _ _ _ _ _ us hl => match us, hl with | [_, _], _ => rfl, fun _ => by kernel_rfl⟩
theorem ok_undone_spans : DefD.Ok ⟨"undone_spans", topS 20, [Str.ofString "text", Str.ofString "spans", Str.ofString "found", Str.ofString "by", Str.ofString "begin", Str.ofString "end", Str.ofString "new"], [Str.ofString "text", Str.ofString "spans"], g_undone_spans⟩ gl cls sub :=
  ⟨⟨rfl, rfl, rfl, by decide +kernel, rfl, by decide +kernel, by decide +kernel⟩, fun _ _ _ _ _ _ us hl => match us, hl with | [_, _], _ => rfl, fun _ => by kernel_rfl⟩
theorem ok_back_spans : DefD.Ok ⟨"back_spans", topS 21, [Str.ofString "text", Str.ofString "spans"], [Str.ofString "text", Str.ofString "spans"], g_back_spans⟩ gl cls sub :=
  ⟨⟨rfl, rfl, rfl, by decide +kernel, rfl, by decide +kernel, by decide +kernel⟩, fun _ _ _ _ _ _ us hl => match us, hl with | [_, _], _ => rfl, fun _ => by kernel_rfl⟩
theorem ok_least_span : DefD.Ok ⟨"least_span", topS 22, [Str.ofString "text", Str.ofString "other", Str.ofString "most", Str.ofString "begin", Str.ofString "behind"], [Str.ofString "text", Str.ofString "other"], g_least_span⟩ gl cls sub :=
  ⟨⟨rfl, rfl, rfl, by decide +kernel, rfl, by decide +kernel, by decide +kernel⟩, fun _ _ _ _ _ _ us hl => match us, hl with | [_, _], _ => rfl, fun _ => by kernel_rfl⟩
theorem ok_between : DefD.Ok ⟨"between", topS 23, [Str.ofString "text", Str.ofString "other"], [Str.ofString "text", Str.ofString "other"], g_between⟩ gl cls sub :=
  ⟨⟨rfl, rfl, rfl, by decide +kernel, rfl, by decide +kernel, by decide +kernel⟩, fun _ _ _ _ _ _ us hl => match us, hl with | [_, _], _ => rfl, fun _ => by kernel_rfl⟩
theorem ok_law_bag : DefD.Ok ⟨"_law_bag", topS 25, [Str.ofString "script", Str.ofString "k", Str.ofString "cell"], [Str.ofString "script", Str.ofString "k"], g_law_bag⟩ gl cls sub :=
  ⟨⟨rfl, rfl, rfl, by decide +kernel, rfl, by decide +kernel, by decide +kernel⟩, fun _ _ _ _ _ _ us hl => match us, hl with | [_, _], _ => rfl, fun _ => by kernel_rfl⟩
theorem ok_law_draw : DefD.Ok ⟨"_law_draw", topS 26, [Str.ofString "bag", Str.ofString "many", Str.ofString "seed", Str.ofString "rest"], [Str.ofString "bag", Str.ofString "many"], g_law_draw⟩ gl cls sub :=
  ⟨⟨rfl, rfl, rfl, by decide +kernel, rfl, by decide +kernel, by decide +kernel⟩, fun _ _ _ _ _ _ us hl => match us, hl with | [_, _], _ => rfl, fun _ => by kernel_rfl⟩
theorem ok_law_one : DefD.Ok ⟨"_law_one", topS 27, [Str.ofString "bag", Str.ofString "row"], [Str.ofString "bag", Str.ofString "row"], g_law_one⟩ gl cls sub :=
  ⟨⟨rfl, rfl, rfl, by decide +kernel, rfl, by decide +kernel, by decide +kernel⟩, fun _ _ _ _ _ _ us hl => match us, hl with | [_, _], _ => rfl, fun _ => by kernel_rfl⟩
theorem ok_law_spoilt : DefD.Ok ⟨"_law_spoilt", topS 28, [Str.ofString "bag", Str.ofString "value", Str.ofString "odd", Str.ofString "down", Str.ofString "at", Str.ofString "pick"], [Str.ofString "bag", Str.ofString "value", Str.ofString "odd", Str.ofString "down"], g_law_spoilt⟩ gl cls sub :=
  ⟨⟨rfl, rfl, rfl, by decide +kernel, rfl, by decide +kernel, by decide +kernel⟩, fun _ _ _ _ _ _ us hl => match us, hl with | [_, _, _, _], _ => rfl, fun _ => by kernel_rfl⟩
theorem ok_law_same : DefD.Ok ⟨"_law_same", topS 29, [Str.ofString "one", Str.ofString "other", Str.ofString "k"], [Str.ofString "one", Str.ofString "other"], g_law_same⟩ gl cls sub :=
  ⟨⟨rfl, rfl, rfl, by decide +kernel, rfl, by decide +kernel, by decide +kernel⟩, fun _ _ _ _ _ _ us hl => match us, hl with | [_, _], _ => rfl, fun _ => by kernel_rfl⟩
theorem ok_law_told : DefD.Ok ⟨"_law_told", topS 30, [Str.ofString "call", Str.ofString "values", Str.ofString "e"], [Str.ofString "call", Str.ofString "values"], g_law_told⟩ gl cls sub :=
  ⟨⟨rfl, rfl, rfl, by decide +kernel, rfl, by decide +kernel, by decide +kernel⟩, fun _ _ _ _ _ _ us hl => match us, hl with | [_, _], _ => rfl, fun _ => by kernel_rfl⟩
theorem ok_law_is_text : DefD.Ok ⟨"_law_is_text", topS 31, [Str.ofString "value", Str.ofString "signs", Str.ofString "sign"], [Str.ofString "value"], g_law_is_text⟩ gl cls sub :=
  ⟨⟨rfl, rfl, rfl, by decide +kernel, rfl, by decide +kernel, by decide +kernel⟩, fun _ _ _ _ _ _ us hl => match us, hl with | [_], _ => rfl, fun _ => by kernel_rfl⟩
theorem ok_law_whole : DefD.Ok ⟨"_law_whole", topS 32, [Str.ofString "value"], [Str.ofString "value"], g_law_whole⟩ gl cls sub :=
  ⟨⟨rfl, rfl, rfl, by decide +kernel, rfl, by decide +kernel, by decide +kernel⟩, fun _ _ _ _ _ _ us hl => match us, hl with | [_], _ => rfl, fun _ => by kernel_rfl⟩
theorem ok_law_are : DefD.Ok ⟨"_law_are", topS 33, [Str.ofString "value", Str.ofString "last", Str.ofString "one"], [Str.ofString "value"], g_law_are⟩ gl cls sub :=
  ⟨⟨rfl, rfl, rfl, by decide +kernel, rfl, by decide +kernel, by decide +kernel⟩, fun _ _ _ _ _ _ us hl => match us, hl with | [_], _ => rfl, fun _ => by kernel_rfl⟩
theorem ok_law_put : DefD.Ok ⟨"_law_put", topS 34, [Str.ofString "text", Str.ofString "spans", Str.ofString "begin", Str.ofString "end", Str.ofString "new"], [Str.ofString "text", Str.ofString "spans"], g_law_put⟩ gl cls sub :=
  ⟨⟨rfl, rfl, rfl, by decide +kernel, rfl, by decide +kernel, by decide +kernel⟩, fun _ _ _ _ _ _ us hl => match us, hl with | [_, _], _ => rfl, fun _ => by kernel_rfl⟩
theorem ok_law_back : DefD.Ok ⟨"_law_back", topS 35, [Str.ofString "text", Str.ofString "spans", Str.ofString "found", Str.ofString "by", Str.ofString "begin", Str.ofString "end", Str.ofString "new"], [Str.ofString "text", Str.ofString "spans"], g_law_back⟩ gl cls sub :=
  ⟨⟨rfl, rfl, rfl, by decide +kernel, rfl, by decide +kernel, by decide +kernel⟩, fun _ _ _ _ _ _ us hl => match us, hl with | [_, _], _ => rfl, fun _ => by kernel_rfl⟩
theorem ok_law_between : DefD.Ok ⟨"_law_between", topS 36, [Str.ofString "one", Str.ofString "other", Str.ofString "ahead", Str.ofString "most", Str.ofString "behind", Str.ofString "j"], [Str.ofString "one", Str.ofString "other"], g_law_between⟩ gl cls sub :=
  ⟨⟨rfl, rfl, rfl, by decide +kernel, rfl, by decide +kernel, by decide +kernel⟩, fun _ _ _ _ _ _ us hl => match us, hl with | [_, _], _ => rfl, fun _ => by kernel_rfl⟩
theorem ok_law_some : DefD.Ok ⟨"_law_some", topS 37, [Str.ofString "bag", Str.ofString "most", Str.ofString "j"], [Str.ofString "bag", Str.ofString "most"], g_law_some⟩ gl cls sub :=
  ⟨⟨rfl, rfl, rfl, by decide +kernel, rfl, by decide +kernel, by decide +kernel⟩, fun _ _ _ _ _ _ us hl => match us, hl with | [_, _], _ => rfl, fun _ => by kernel_rfl⟩
theorem ok_law : DefD.Ok ⟨"law", topS 38, [Str.ofString "script", Str.ofString "odd", Str.ofString "k", Str.ofString "bag", Str.ofString "text", Str.ofString "spans", Str.ofString "at", Str.ofString "turn", Str.ofString "begin", Str.ofString "end", Str.ofString "new", Str.ofString "other", Str.ofString "near", Str.ofString "good", Str.ofString "due", Str.ofString "many", Str.ofString "j"], [Str.ofString "script"], g_law⟩ gl cls sub :=
  ⟨⟨rfl, rfl, rfl, by decide +kernel, rfl, by decide +kernel, by decide +kernel⟩, fun _ _ _ _ _ _ us hl => match us, hl with | [_], _ => rfl, fun _ => by kernel_rfl⟩
theorem T_ok : ∀ d ∈ T, d.Ok gl cls sub := by
  intro d hd
  unfold T at hd
  simp only [List.mem_cons, List.not_mem_nil, or_false] at hd
  rcases hd with rfl | rfl | rfl | rfl | rfl | rfl | rfl | rfl | rfl | rfl | rfl | rfl | rfl | rfl | rfl | rfl | rfl | rfl | rfl | rfl | rfl | rfl | rfl | rfl | rfl | rfl
  · exact ok_is_integer
  · exact ok_is_text
  · exact ok_check_text
  · exact ok_is_span
  · exact ok_are_spans
  · exact ok_put_spans
  · exact ok_fit_spans
  · exact ok_spanned
  · exact ok_undone_spans
  · exact ok_back_spans
  · exact ok_least_span
  · exact ok_between
  · exact ok_law_bag
  · exact ok_law_draw
  · exact ok_law_one
  · exact ok_law_spoilt
  · exact ok_law_same
  · exact ok_law_told
  · exact ok_law_is_text
  · exact ok_law_whole
  · exact ok_law_are
  · exact ok_law_put
  · exact ok_law_back
  · exact ok_law_between
  · exact ok_law_some
  · exact ok_law
end K03
end

section
set_option Elab.async false
set_option linter.all false
set_option maxRecDepth 100000
set_option maxHeartbeats 1000000
/-! K03B: what the defs of k03 answer: the tests. -/
namespace K03
open PD
def sgn : List Nat := [97, 98, 99, 100, 101, 102, 103, 104, 105, 106, 107, 108, 109, 110, 111, 112, 113, 114, 115, 116, 117, 118, 119, 120, 121, 122, 48, 49, 50, 51, 52, 53, 54, 55, 56, 57, 32, 10, 44, 59, 58, 61, 45, 46, 40, 41, 35, 95, 124]
/-- texts are not beyond all bounds -/
def okS : D → Bool
  | .str s => decide (s.length ≤ LID)
  | _ => true
def isInt (v : D) (lo hi : Int) : Bool := match v with | .int i => decide (lo ≤ i) && decide (i ≤ hi) | _ => false
def isText (v : D) : Bool := match v with | .str s => decide (s.length ≤ 4000) && s.all (fun c => decide (c ∈ sgn)) | _ => false
theorem e_is_integer (j : Nat) (v : D) (lo hi : Int) (st : Store) : semT T (j + 1) 0 [.d v, .d (.int lo), .d (.int hi)] st = .ok (.d (.bl (isInt v lo hi))) st := by
  show semDef 3 3 (g_is_integer (semT T j)) _ _ = _
  cases v <;> simp [semDef, finish, g_is_integer, sRet, gAnd, gNot, gChain, ev_op, ev_cons, opOn, pIsi, D.isTy, settleV, isInt, pLe]
  rename_i i
  by_cases h : lo ≤ i <;> simp [h]
theorem len_le {s : List Nat} : decide ((s.length : Int) ≤ 4000) = decide (s.length ≤ 4000) := by
  by_cases h : s.length ≤ 4000
  · rw [decide_eq_true h, decide_eq_true (by omega)]
  · rw [decide_eq_false h, decide_eq_false (by omega)]
theorem signs_bools (l : List Nat) (f : Nat → Bool) : boolsOf ((signs l).map fun d => .bl (match d with | .str [c] => f c | _ => false)) = some (l.map f) := by
  rw [bools_map]
  unfold signs
  rw [List.map_map]; rfl
theorem all_signs (s : List Nat) (env : Env) (st : Store) (i : Nat) (h0 : env[i]? = some (some (.d (.str s)))) (k : Nat) (own : List Nat) (hk : (wipeE env own).length > k) :
    gLc (iVal (gVar i)) (.name k) tTrue (gOp pIn (gCons (gVar k) (gCons (gCon (.str sgn)) gNil))) own env st = (if s.length < LID then .ok (.obj st.length) (st ++ [.ls (s.map fun c => .bl (decide (c ∈ sgn)))]) else .bad) := by
  have hv : gVar i env st = .ok (.d (.str s)) st := by simp [gVar, h0]
  unfold gLc iVal
  rw [hv]
  simp only [bind_ok]
  have hl : (signs s).length = s.length := by simp [signs]
  have e : lcGo (lcStep (.name k) tTrue (gOp pIn (gCons (gVar k) (gCons (gCon (.str sgn)) gNil))) (wipeE env own)) (Src.ok ⟨signs s, []⟩) (signs s) st = .ok ((signs s).map fun d => .bl (match d with | .str [c] => decide (c ∈ sgn) | _ => false)) st := by
    refine lc_map _ ok_none fun d hd => ?_
    unfold signs at hd
    obtain ⟨c, hc, rfl⟩ := List.mem_map.mp hd
    have hg : ((wipeE env own).set k (some (.d (.str [c]))))[k]? = some (some (.d (.str [c]))) := List.getElem?_set_self hk
    simp [lcStep, Tg.put, tTrue, ev_op, ev_cons, gVar, hg, opOn, pIn]
  by_cases hs : s.length < LID
  · rw [if_pos (by rw [hl]; exact hs), if_pos hs, e]
    simp [signs, List.map_map, Function.comp_def]
  · rw [if_neg (by rw [hl]; exact hs), if_neg hs]; rfl
theorem bools_signs (s : List Nat) (f : Nat → Bool) : boolsOf (s.map fun c => D.bl (f c)) = some (s.map f) := by
  induction s with
  | nil => rfl
  | cons c s ih => simp [boolsOf, ih]
theorem e_is_text (j : Nat) (v : D) (hv : okS v = true) (st : Store) : semT T (j + 1) 1 [.d v] st = .ok (.d (.bl (isText v))) st := by
  show semDef 1 2 (g_is_text (semT T j)) _ _ = _
  cases v with
  | str s =>
    have hs : s.length ≤ LID := of_decide_eq_true hv
    by_cases h : s.length ≤ 4000
    · have h2 : s.length < LID := by unfold LID; omega
      have e := all_signs s [some (.d (.str s)), none] st 0 rfl 1 [1] (by simp [wipeE])
      rw [if_pos h2] at e
      have hc : c_SIGNS = .str sgn := rfl
      simp only [semDef, finish, g_is_text, sRet, gAnd, List.map, List.length, if_true, List.replicate, List.append]
      simp [ev_op, ev_cons, opOn, pIsi, D.isTy, pLen, hs, pLe, c_MOST_TEXT, len_le, h, hc, e, pAll, bools_signs, settleV, isText]
    · simp only [semDef, finish, g_is_text, sRet, gAnd, List.map, List.length, if_true, List.replicate, List.append]
      simp [ev_op, ev_cons, opOn, pIsi, D.isTy, pLen, hs, pLe, c_MOST_TEXT, len_le, h, settleV, isText]
  | _ => simp [semDef, finish, g_is_text, sRet, gAnd, ev_op, ev_cons, opOn, pIsi, D.isTy, settleV, isText]
end K03
end

section
set_option Elab.async false
set_option linter.all false
set_option maxRecDepth 100000
set_option maxHeartbeats 1000000
/-! K03C: what the defs of k03 answer: spans. -/
namespace K03
open PD
def okT : D → Bool
  | .tup l => l.all okS
  | _ => true
def okTT : D → Bool
  | .tup l => l.all okT
  | _ => true
/-! ### check_text -/
theorem check_loop (F : SemF) (s : List Nat) (st : Store) : ∀ (l : List Nat) (k : Nat) (x y : Option A), (∀ c ∈ l, c ∈ sgn) →
    ∃ x' y', forGo (.tup [.name 1, .name 2]) (b_check_text_1 F) (Src.ok ⟨numbered 0 (signs s), []⟩) (numbered k (signs l)) [some (.d (.str s)), x, y] st = .nx [some (.d (.str s)), x', y'] st
  | [], k, x, y, _ => ⟨x, y, by simp [signs, numbered, forGo, ok_none]⟩
  | c :: l, k, x, y, h => by
    obtain ⟨x', y', ih⟩ := check_loop F s st l (k + 1) (some (.d (.int (k : Nat)))) (some (.d (.str [c]))) fun d hd => h d (List.mem_cons_of_mem _ hd)
    refine ⟨x', y', ?_⟩
    have hc : c ∈ sgn := h c List.mem_cons_self
    have e : numbered k (signs (c :: l)) = .tup [.int (k : Nat), .str [c]] :: numbered (k + 1) (signs l) := rfl
    rw [e, forGo, ok_none, if_pos rfl]
    have eS : c_SIGNS = .str sgn := rfl
    simp [b_check_text_1, Tg.put, Tg.puts, sIf, tVal, ev_op, ev_cons, opOn, pNotIn, eS, hc, okLen, D.truth, sNext, take_self]
    exact ih
theorem isText_str {s : List Nat} (h : isText (.str s) = true) : s.length ≤ 4000 ∧ ∀ c ∈ s, c ∈ sgn := by
  unfold isText at h
  rw [Bool.and_eq_true, List.all_eq_true] at h
  exact ⟨of_decide_eq_true h.1, fun c hc => of_decide_eq_true (h.2 c hc)⟩
theorem e_check_good (j : Nat) (s : List Nat) (h : isText (.str s) = true) (st : Store) : semT T (j + 1) 2 [.d (.str s)] st = .ok (.d .non) st := by
  obtain ⟨h1, h2⟩ := isText_str h
  show semDef 1 3 (g_check_text (semT T j)) _ _ = _
  obtain ⟨x', y', e⟩ := check_loop (semT T j) s st s 0 none none h2
  have h3 : s.length ≤ LID := by unfold LID; omega
  have h4 : ¬ ((4000 : Int) < s.length) := by omega
  have e1 : sFor (iEnum (gVar 0)) (.tup [.name 1, .name 2]) (b_check_text_1 (semT T j)) [some (.d (.str s)), none, none] st = .nx [some (.d (.str s)), x', y'] st := by
    rw [← e]; simp [sFor, iEnum]
  have e0 : sIf (tNot (tVal (gOp (pIsi .str) (gCons (gVar 0) gNil)))) (sRaise1 1 (gOp pNeg (gCons (gCon (.int 1)) gNil))) sNext [some (.d (.str s)), none, none] st = .nx [some (.d (.str s)), none, none] st := by
    simp [sIf, tNot, tVal, ev_op, ev_cons, opOn, pIsi, D.isTy, okLen, D.truth, sNext, take_self]
  simp only [semDef, finish, g_check_text, List.map, List.length, if_true, List.replicate, List.append, List.cons_append, List.nil_append]
  rw [seq_nx e0, seq_nx e1]
  simp [sIf, tVal, ev_op, ev_cons, opOn, pLen, h3, pGt, c_MOST_TEXT, h4, okLen, D.truth, sNext, take_self]
theorem e_check_non (j : Nat) (st : Store) : semT T (j + 1) 2 [.d .non] st = .exn ⟨1, some (.int (-1))⟩ st := by
  show semDef 1 3 (g_check_text (semT T j)) _ _ = _
  simp [semDef, finish, g_check_text, sSeq, sIf, tNot, tVal, ev_op, ev_cons, opOn, pIsi, D.isTy, okLen, D.truth, sRaise1, pNeg, take_self]
theorem e_check_A (j : Nat) (st : Store) : semT T (j + 1) 2 [.d (.str [65])] st = .exn ⟨1, some (.int 0)⟩ st := by
  show semDef 1 3 (g_check_text (semT T j)) _ _ = _
  have eS : c_SIGNS = .str sgn := rfl
  have h65 : ¬ 65 ∈ sgn := by decide
  simp [semDef, finish, g_check_text, sSeq, sIf, tNot, tVal, ev_op, ev_cons, opOn, pIsi, D.isTy, okLen, D.truth, sRaise1, take_self, sNext, sFor, iEnum, signs, numbered, forGo, Src.ok, Tg.put, Tg.puts, b_check_text_1, pNotIn, eS, h65]
theorem isInt_int {a : D} {lo hi : Int} (h : isInt a lo hi = true) : ∃ x, a = .int x ∧ lo ≤ x ∧ x ≤ hi := by
  unfold isInt at h
  split at h
  · rename_i i
    rw [Bool.and_eq_true] at h
    exact ⟨i, rfl, of_decide_eq_true h.1, of_decide_eq_true h.2⟩
  · cases h
theorem isText_is {c : D} (h : isText c = true) : ∃ s, c = .str s := by
  unfold isText at h
  split at h
  · exact ⟨_, rfl⟩
  · cases h
/-! ### is_span -/
def isSpan (v : D) : Bool := match v with
  | .tup [a, b, c] => isText c && isInt a 0 4000 && isInt b 0 4000 && (match a, b with | .int x, .int y => decide (x < y) || (x == y && !(c.eqv (.str []))) | _, _ => false)
  | _ => false
theorem gCall1 {F : SemF} {f : Nat} {as : SemAs} {env : Env} {st : Store} {xs : List A} {d : D} (h : as env st = .ok xs st) (hf : F f xs st = .ok (.d d) st) : gCall F f as env st = .ok (.d d) st := by
  simp [gCall_def, h, hf, take_self]
@[simp] theorem ix0 (a b c : D) : pIx [.tup [a, b, c], .int 0] = some (.v a) := rfl
@[simp] theorem ix1 (a b c : D) : pIx [.tup [a, b, c], .int 1] = some (.v b) := rfl
@[simp] theorem ix2 (a b c : D) : pIx [.tup [a, b, c], .int 2] = some (.v c) := rfl
theorem e_is_span (j : Nat) (v : D) (hv : okT v = true) (st : Store) : semT T (j + 2) 3 [.d v] st = .ok (.d (.bl (isSpan v))) st := by
  show semDef 1 1 (g_is_span (semT T (j + 1))) _ _ = _
  cases v with
  | tup l =>
    by_cases hl : l.length = 3
    · obtain ⟨a, b, c, rfl⟩ : ∃ a b c, l = [a, b, c] := by
        match l, hl with
        | [a, b, c], _ => exact ⟨a, b, c, rfl⟩
      have hc : okS c = true := by simp [okT] at hv; exact hv.2.2
      have t1 : ∀ st, semT T (j + 1) 1 [.d c] st = .ok (.d (.bl (isText c))) st := fun st => e_is_text j c hc st
      have t2 : ∀ x st, semT T (j + 1) 0 [.d x, .d (.int 0), .d (.int 4000)] st = .ok (.d (.bl (isInt x 0 4000))) st := fun x st => e_is_integer j x 0 4000 st
      by_cases h1 : isText c = true
      · by_cases h2 : isInt a 0 4000 = true
        · by_cases h3 : isInt b 0 4000 = true
          · obtain ⟨x, rfl, _⟩ := isInt_int h2
            obtain ⟨y, rfl, _⟩ := isInt_int h3
            obtain ⟨s, rfl⟩ := isText_is h1
            by_cases h4 : x < y
            · simp [semDef, finish, g_is_span, sSeq, sIf, tNot, tOr, tVal, ev_op, ev_cons, opOn, pIsi, D.isTy, okLen, D.truth, take_self, sNext, pLen, pNe, okDeep, D.deep, D.eqv, gCall_def, t1, t2, h1, h2, h3, c_MOST_TEXT, sRet, gOr, gAnd, pLt, h4, settleV, isSpan]
            · simp [semDef, finish, g_is_span, sSeq, sIf, tNot, tOr, tVal, ev_op, ev_cons, opOn, pIsi, D.isTy, okLen, D.truth, take_self, sNext, pLen, pNe, pEq, okDeep, D.deep, D.eqv, gCall_def, t1, t2, h1, h2, h3, c_MOST_TEXT, sRet, gOr, gAnd, pLt, h4, settleV, isSpan]
              generalize (x == y) = bb
              cases bb <;> simp
          · simp [semDef, finish, g_is_span, sSeq, sIf, tNot, tOr, tVal, ev_op, ev_cons, opOn, pIsi, D.isTy, okLen, D.truth, take_self, sNext, pLen, pNe, okDeep, D.deep, D.eqv, gCall_def, t1, t2, h1, h2, h3, c_MOST_TEXT, sRet, settleV, isSpan]
        · simp [semDef, finish, g_is_span, sSeq, sIf, tNot, tOr, tVal, ev_op, ev_cons, opOn, pIsi, D.isTy, okLen, D.truth, take_self, sNext, pLen, pNe, okDeep, D.deep, D.eqv, gCall_def, t1, t2, h1, h2, c_MOST_TEXT, sRet, settleV, isSpan]
      · simp [semDef, finish, g_is_span, sSeq, sIf, tNot, tOr, tVal, ev_op, ev_cons, opOn, pIsi, D.isTy, okLen, D.truth, take_self, sNext, pLen, pNe, okDeep, D.deep, D.eqv, gCall_def, t1, h1, sRet, settleV, isSpan]
    · have hl' : ¬ ((l.length : Int) = 3) := by omega
      have hs : isSpan (.tup l) = false := by
        unfold isSpan
        split
        · rename_i a b c e; cases e; exact absurd rfl hl
        · rfl
      simp [semDef, finish, g_is_span, sSeq, sIf, tNot, tOr, tVal, ev_op, ev_cons, opOn, pIsi, D.isTy, okLen, D.truth, take_self, sNext, pLen, pNe, okDeep, D.deep, D.eqv, hl', sRet, settleV, hs]
  | _ => simp [semDef, finish, g_is_span, sSeq, sIf, tNot, tOr, tVal, ev_op, ev_cons, opOn, pIsi, D.isTy, okLen, D.truth, take_self, sNext, sRet, settleV, isSpan]
end K03
end

section
set_option Elab.async false
set_option linter.all false
set_option maxRecDepth 100000
set_option maxHeartbeats 1000000
/-! K03D: what the defs of k03 answer: rows of spans. -/
namespace K03
open PD
def lt01 (a b : D) : Bool := match a, b with
  | .tup [_, .int e, _], .tup [.int f, _, _] => decide (e < f)
  | _, _ => false
def adj : List D → Bool
  | a :: b :: r => lt01 a b && adj (b :: r)
  | _ => true
def areS (v : D) : Bool := match v with
  | .tup l => decide (l.length ≤ 400) && (l.all isSpan && adj l)
  | _ => false
theorem isSpan_is {v : D} (h : isSpan v = true) : ∃ (b e : Int) (s : List Nat), v = .tup [.int b, .int e, .str s] ∧ isText (.str s) = true ∧ 0 ≤ b ∧ b ≤ 4000 ∧ 0 ≤ e ∧ e ≤ 4000 ∧ (b < e ∨ (b = e ∧ s ≠ [])) := by
  unfold isSpan at h
  split at h
  · rename_i a b c
    simp only [Bool.and_eq_true] at h
    obtain ⟨⟨⟨h1, h2⟩, h3⟩, h4⟩ := h
    obtain ⟨s, rfl⟩ := isText_is h1
    obtain ⟨x, rfl, hx1, hx2⟩ := isInt_int h2
    obtain ⟨y, rfl, hy1, hy2⟩ := isInt_int h3
    refine ⟨x, y, s, rfl, h1, hx1, hx2, hy1, hy2, ?_⟩
    simp [D.eqv] at h4
    exact h4
  · cases h
theorem adj_pairs : ∀ (l : List D), (paired l (l.drop 1)).all (fun p => match p with | .tup [a, b] => lt01 a b | _ => false) = adj l
  | [] => rfl
  | [a] => rfl
  | a :: b :: r => by
    have ih := adj_pairs (b :: r)
    simp only [List.drop_succ_cons, List.drop_zero, paired, List.all_cons, adj] at ih ⊢
    rw [← ih]
theorem pairs_mem : ∀ {l m : List D} {p : D}, p ∈ paired l m → ∃ a b, p = .tup [a, b] ∧ a ∈ l ∧ b ∈ m
  | [], _, p, h => by simp [paired] at h
  | _ :: _, [], p, h => by simp [paired] at h
  | x :: l, y :: m, p, h => by
    rw [paired, List.mem_cons] at h
    rcases h with rfl | h
    · exact ⟨x, y, rfl, List.mem_cons_self, List.mem_cons_self⟩
    · obtain ⟨a, b, e, ha, hb⟩ := pairs_mem h
      exact ⟨a, b, e, List.mem_cons_of_mem _ ha, List.mem_cons_of_mem _ hb⟩
theorem e_are (j : Nat) (v : D) (hv : okTT v = true) (st : Store) : semT T (j + 3) 4 [.d v] st = .ok (.d (.bl (areS v))) st := by
  show semDef 1 3 (g_are_spans (semT T (j + 2))) _ _ = _
  cases v with
  | tup l =>
    by_cases hl : l.length ≤ 400
    · have hl' : ¬ ((400 : Int) < l.length) := by omega
      have hz : l.length < LID := by unfold LID; omega
      have e1 : ∀ st, gLc (iVal (gVar 0)) (.name 1) tTrue (gCall (semT T (j + 2)) 3 (gCons (gVar 1) gNil)) [1] [some (.d (.tup l)), none, none] st = .ok (.obj st.length) (st ++ [.ls (l.map fun d => .bl (isSpan d))]) := fun st => by
        refine gLc_map (src := ⟨l, []⟩) (fun d => .bl (isSpan d)) (by simp [iVal, rowOf]) ok_none hz fun d hd => ?_
        have hd' : okT d = true := by
          simp only [okTT, List.all_eq_true] at hv
          exact hv d hd
        have e := fun st => e_is_span j d hd' st
        simp [lcStep, Tg.put, wipeE, tTrue, gCall_def, ev_cons, e, take_self]
      by_cases ha : l.all isSpan = true
      · have e2 : gLc (iZip (gVar 0) (gOp pSl (gCons (gVar 0) (gCons (gInt (gCon (.int 1))) (gCons (gCon .non) gNil))))) (.tup [.name 1, .name 2]) tTrue (gOp pLt (gCons (gOp pIx (gCons (gVar 1) (gCons (gCon (.int 1)) gNil))) (gCons (gOp pIx (gCons (gVar 2) (gCons (gCon (.int 0)) gNil))) gNil))) [1, 2] [some (.d (.tup l)), none, none] st
            = .ok (.obj st.length) (st ++ [.ls ((paired l (l.drop 1)).map fun p => .bl (match p with | .tup [a, b] => lt01 a b | _ => false))]) := by
          have hc : cutL l (some (1 : Int)) none = l.drop 1 := cut_from l 1
          refine gLc_map (src := ⟨paired l (l.drop 1), []⟩) (fun p => .bl (match p with | .tup [a, b] => lt01 a b | _ => false)) ?_ ok_none ?_ fun d hd => ?_
          · simp [iZip, rowOf, ev_op, ev_cons, gInt, opOn, pSl, part, hc, take_self]
          · rw [show (paired l (l.drop 1)).length = min l.length (l.drop 1).length from by
              have : ∀ (l m : List D), (paired l m).length = min l.length m.length := fun l m => by
                induction l generalizing m with
                | nil => simp [paired]
                | cons x xs ih =>
                  cases m with
                  | nil => simp [paired]
                  | cons y ys => rw [paired, List.length_cons, ih, List.length_cons, List.length_cons]; omega
              exact this _ _]
            omega
          · obtain ⟨a, b, rfl, h1, h2⟩ := pairs_mem hd
            rw [List.all_eq_true] at ha
            obtain ⟨x1, y1, s1, rfl, _⟩ := isSpan_is (ha a h1)
            obtain ⟨x2, y2, s2, rfl, _⟩ := isSpan_is (ha b (List.mem_of_mem_drop h2))
            simp [lcStep, Tg.put, Tg.puts, wipeE, tTrue, ev_op, ev_cons, opOn, pLt, take_self, lt01]
        have e3 : boolsOf ((paired l (l.drop 1)).map fun p => D.bl (match p with | .tup [a, b] => lt01 a b | _ => false)) = some ((paired l (l.drop 1)).map fun p => match p with | .tup [a, b] => lt01 a b | _ => false) := bools_map _ _
        have e4 : ((paired l (l.drop 1)).map fun p => match p with | .tup [a, b] => lt01 a b | _ => false).all id = adj l := by
          rw [List.all_map]; exact adj_pairs l
        simp [semDef, finish, g_are_spans, sSeq, sIf, tOr, tNot, tVal, ev_op, ev_cons, opOn, pIsi, D.isTy, okLen, D.truth, take_self, sNext, pLen, pGt, c_MOST_SPANS, hl, hl', e1, pAll, bools_map, ha, sRet, e2, e3, settleV, areS]
        have e5 := adj_pairs l
        rw [List.drop_one] at e5
        exact e5
      · have ha' : ∃ x, x ∈ l ∧ isSpan x = false := by simpa using ha
        have ha2 : (l.all isSpan) = false := by simpa using ha
        simp [semDef, finish, g_are_spans, sSeq, sIf, tOr, tNot, tVal, ev_op, ev_cons, opOn, pIsi, D.isTy, okLen, D.truth, take_self, sNext, pLen, pGt, c_MOST_SPANS, hl, hl', e1, pAll, bools_map, sRet, settleV, areS, ha2]
    · have hl' : ((400 : Int) < l.length) := by omega
      simp [semDef, finish, g_are_spans, sSeq, sIf, tOr, tNot, tVal, ev_op, ev_cons, opOn, pIsi, D.isTy, okLen, D.truth, take_self, sNext, pLen, pGt, c_MOST_SPANS, hl, hl', sRet, settleV, areS]
  | _ => simp [semDef, finish, g_are_spans, sSeq, sIf, tOr, tNot, tVal, ev_op, ev_cons, opOn, pIsi, D.isTy, okLen, D.truth, take_self, sNext, sRet, settleV, areS]
end K03
end

section
set_option Elab.async false
set_option linter.all false
set_option maxRecDepth 100000
set_option maxHeartbeats 1000000
/-! K03E: what the law's own defs answer: rows of spans. -/
namespace K03
open PD
theorem e_are_obj (j n : Nat) (l : List D) (st : Store) (h : st[n]? = some (.ls l)) : semT T (j + 3) 4 [.obj n] st = .ok (.d (.bl false)) st := by
  show semDef 1 3 (g_are_spans (semT T (j + 2))) _ _ = _
  simp [semDef, finish, g_are_spans, sSeq, sIf, tOr, tNot, tVal, ev_op, ev_cons, opOn, nowAll, now, h, pIsi, D.isTy, okLen, D.truth, take_self, sNext, sRet, settleV]
theorem e_law_are_obj (j n : Nat) (l : List D) (st : Store) (h : st[n]? = some (.ls l)) : semT T (j + 3) 20 [.obj n] st = .ok (.d (.bl false)) st := by
  show semDef 1 3 (g_law_are (semT T (j + 2))) _ _ = _
  simp [semDef, finish, g_law_are, sSeq, sIf, tOr, tNot, tVal, ev_op, ev_cons, opOn, nowAll, now, h, pIsi, D.isTy, okLen, D.truth, take_self, sNext, sRet, settleV]
theorem e_law_whole (j : Nat) (v : D) (st : Store) : semT T (j + 1) 19 [.d v] st = .ok (.d (.bl (isInt v 0 4000))) st := by
  show semDef 1 1 (g_law_whole (semT T j)) _ _ = _
  cases v <;> simp [semDef, finish, g_law_whole, sRet, gAnd, gNot, ev_op, ev_cons, opOn, pIsi, D.isTy, settleV, isInt, pGe, pLe]
  rename_i i
  by_cases h : (0 : Int) ≤ i <;> simp [h]
def badS : D → Option D
  | .str [c] => if c ∈ sgn then none else some (.str [c])
  | _ => none
theorem deeps_str : ∀ (s : List Nat), D.deeps ((signs s).filterMap badS) = 0
  | [] => rfl
  | c :: s => by
    have ih := deeps_str s
    have e : signs (c :: s) = .str [c] :: signs s := rfl
    rw [e, List.filterMap_cons]
    by_cases h : c ∈ sgn <;> simp [badS, h, D.deeps, D.deep] <;> exact ih
theorem empty_filter : ∀ (s : List Nat), ((signs s).filterMap badS).isEmpty = s.all fun c => decide (c ∈ sgn)
  | [] => rfl
  | c :: s => by
    have ih := empty_filter s
    have e : signs (c :: s) = .str [c] :: signs s := rfl
    rw [e, List.filterMap_cons, List.all_cons]
    by_cases h : c ∈ sgn
    · simp only [badS, h, if_true, decide_true, Bool.true_and]; exact ih
    · simp [badS, h]
theorem eqvs_nil (l : List D) : D.eqvs l [] = l.isEmpty := by cases l <;> rfl
theorem e_law_is_text (j : Nat) (v : D) (hv : okS v = true) (st : Store) : semT T (j + 1) 18 [.d v] st = .ok (.d (.bl (isText v))) st := by
  show semDef 1 3 (g_law_is_text (semT T j)) _ _ = _
  have hc : D.str [97, 98, 99, 100, 101, 102, 103, 104, 105, 106, 107, 108, 109, 110, 111, 112, 113, 114, 115, 116, 117, 118, 119, 120, 121, 122, 48, 49, 50, 51, 52, 53, 54, 55, 56, 57, 32, 10, 44, 59, 58, 61, 45, 46, 40, 41, 35, 95, 124] = .str sgn := rfl
  cases v with
  | str s =>
    have hs : s.length ≤ LID := of_decide_eq_true hv
    by_cases h : s.length ≤ 4000
    · have h2 : (signs s).length < LID := by unfold LID; simp [signs]; omega
      have e : ∀ st, gLc (iVal (gVar 0)) (.name 2) (tVal (gOp pNotIn (gCons (gVar 2) (gCons (gVar 1) gNil)))) (gVar 2) [2] [some (.d (.str s)), some (.d (.str sgn)), none] st = .ok (.obj st.length) (st ++ [.ls ((signs s).filterMap badS)]) := fun st => by
        refine gLc_filter (src := ⟨signs s, []⟩) badS (by simp [iVal]) ok_none h2 fun d hd => ?_
        unfold signs at hd
        obtain ⟨c, _, rfl⟩ := List.mem_map.mp hd
        by_cases hm : c ∈ sgn <;> simp [badS, lcStep, Tg.put, wipeE, tVal, ev_op, ev_cons, opOn, pNotIn, hm, okLen, D.truth, take_self]
      have e2 := empty_filter s
      have e3 := deeps_str s
      simp only [semDef, finish, g_law_is_text, hc, sSeq, sSet, sRet, gAnd, List.map, List.length, if_true, List.replicate, List.append]
      generalize (signs s).filterMap badS = FF at e e2 e3
      simp [ev_op, ev_cons, opOn, pIsi, D.isTy, pLen, hs, pLe, len_le, h, e, gLst, nowAll, now, pEq, okDeep, D.deep, D.deeps, e3, D.eqv, eqvs_nil, e2, settleV, settle, isText]
    · simp [semDef, finish, g_law_is_text, sSeq, sSet, sRet, gAnd, ev_op, ev_cons, opOn, pIsi, D.isTy, pLen, hs, pLe, len_le, h, settleV, isText]
  | _ => simp [semDef, finish, g_law_is_text, sSeq, sSet, sRet, gAnd, ev_op, ev_cons, opOn, pIsi, D.isTy, settleV, isText]
end K03
end

section
set_option Elab.async false
set_option linter.all false
set_option maxRecDepth 100000
set_option maxHeartbeats 1000000
/-! K03F: the law's walk over a row of spans. -/
namespace K03
open PD
def lawGo : Int → List D → Bool
  | _, [] => true
  | last, d :: r => isSpan d && (match d with | .tup [.int b, .int e, _] => decide (last < b) && lawGo e r | _ => false)
theorem lawGo_adj : ∀ (r : List D) (b e : Int) (c : D) (last : Int), isSpan (.tup [.int b, .int e, c]) = true → lawGo last (.tup [.int b, .int e, c] :: r) = (decide (last < b) && (r.all isSpan && adj (.tup [.int b, .int e, c] :: r)))
  | [], b, e, c, last, h => by simp [lawGo, h, adj]
  | d :: r, b, e, c, last, h => by
    simp only [lawGo, h, Bool.true_and, List.all_cons, adj]
    by_cases hd : isSpan d = true
    · obtain ⟨b', e', s, rfl, _⟩ := isSpan_is hd
      have ih := lawGo_adj r b' e' (.str s) e hd
      simp only [lawGo, hd, Bool.true_and] at ih
      simp only [hd, Bool.true_and, ih, lt01]
      cases decide (e < b') <;> simp
    · have hd' : isSpan d = false := by simpa using hd
      simp [hd']
theorem lawGo_are (l : List D) : lawGo (-1) l = (l.all isSpan && adj l) := by
  cases l with
  | nil => rfl
  | cons d r =>
    by_cases hd : isSpan d = true
    · obtain ⟨b, e, s, rfl, _, hb, _⟩ := isSpan_is hd
      rw [lawGo_adj r b e (.str s) (-1) hd, List.all_cons, hd, decide_eq_true (by omega)]
      simp
    · have hd' : isSpan d = false := by simpa using hd
      simp [lawGo, hd']
theorem law_are_step (j : Nat) (v : D) (last : Int) (x : Option A) (d : D) (hd : okT d = true) (st : Store) :
    (isSpan d = true ∧ (∃ b e s, d = .tup [.int b, .int e, .str s] ∧ last < b) ∧ ∃ b e s, d = .tup [.int b, .int e, .str s] ∧ b_law_are_1 (semT T (j + 2)) [some (.d v), some (.d (.int last)), some (.d d)] st = .nx [some (.d v), some (.d (.int e)), some (.d d)] st) ∨
    ((isSpan d && (match d with | .tup [.int b, .int e, _] => decide (last < b) | _ => false)) = false ∧ b_law_are_1 (semT T (j + 2)) [some (.d v), some (.d (.int last)), some (.d d)] st = .rt (.d (.bl false)) st) := by
  cases d with
  | tup l =>
    by_cases hl : l.length = 3
    · obtain ⟨a, b, c, rfl⟩ : ∃ a b c, l = [a, b, c] := by
        match l, hl with
        | [a, b, c], _ => exact ⟨a, b, c, rfl⟩
      have hc : okS c = true := by simp [okT] at hd; exact hd.2.2
      have t1 : ∀ st, semT T (j + 2) 18 [.d c] st = .ok (.d (.bl (isText c))) st := fun st => e_law_is_text (j + 1) c hc st
      have t2 : ∀ x st, semT T (j + 2) 19 [.d x] st = .ok (.d (.bl (isInt x 0 4000))) st := fun x st => e_law_whole (j + 1) x st
      by_cases h2 : isInt a 0 4000 = true
      · by_cases h3 : isInt b 0 4000 = true
        · by_cases h1 : isText c = true
          · obtain ⟨x, rfl, _⟩ := isInt_int h2
            obtain ⟨y, rfl, _⟩ := isInt_int h3
            obtain ⟨s, rfl⟩ := isText_is h1
            by_cases h4 : x ≤ last
            · refine .inr ⟨by simp; intro _; omega, ?_⟩
              simp [b_law_are_1, sSeq, sIf, tNot, tOr, tAnd, tVal, ev_op, ev_cons, opOn, pIsi, D.isTy, okLen, D.truth, take_self, sNext, pLen, pNe, pEq, pLe, pGt, okDeep, D.deep, D.eqv, gCall_def, t1, t2, h1, h2, h3, sRet, h4, sSet]
            · by_cases h5 : y < x
              · refine .inr ⟨?_, ?_⟩
                · have : isSpan (.tup [.int x, .int y, .str s]) = false := by simp [isSpan, D.eqv]; intros; omega
                  simp [this]
                · simp [b_law_are_1, sSeq, sIf, tNot, tOr, tAnd, tVal, ev_op, ev_cons, opOn, pIsi, D.isTy, okLen, D.truth, take_self, sNext, pLen, pNe, pEq, pLe, pGt, okDeep, D.deep, D.eqv, gCall_def, t1, t2, h1, h2, h3, sRet, h4, h5, sSet]
              · by_cases h6 : x = y ∧ s = []
                · obtain ⟨rfl, rfl⟩ := h6
                  refine .inr ⟨by simp [isSpan, D.eqv, D.eqv], ?_⟩
                  simp [b_law_are_1, sSeq, sIf, tNot, tOr, tAnd, tVal, ev_op, ev_cons, opOn, pIsi, D.isTy, okLen, D.truth, take_self, sNext, pLen, pNe, pEq, pLe, pGt, okDeep, D.deep, D.eqv, gCall_def, t1, t2, h1, h2, h3, sRet, h4, h5, sSet]
                · refine .inl ⟨?_, ⟨x, y, s, rfl, by omega⟩, x, y, s, rfl, ?_⟩
                  · simp [isSpan, D.eqv, h1, h2, h3]
                    by_cases h7 : x = y
                    · right; exact ⟨h7, fun e => h6 ⟨h7, e⟩⟩
                    · left; omega
                  · by_cases h7 : x = y
                    · have h8 : s.isEmpty = false := by simpa using (fun e => h6 ⟨h7, e⟩ : s ≠ [])
                      subst h7
                      simp [b_law_are_1, sSeq, sIf, tNot, tOr, tAnd, tVal, ev_op, ev_cons, opOn, pIsi, D.isTy, okLen, D.truth, take_self, sNext, pLen, pNe, pEq, pLe, pGt, okDeep, D.deep, D.eqv, gCall_def, t1, t2, h1, h2, h3, sRet, h4, h5, h8, sSet]
                    · simp [b_law_are_1, sSeq, sIf, tNot, tOr, tAnd, tVal, ev_op, ev_cons, opOn, pIsi, D.isTy, okLen, D.truth, take_self, sNext, pLen, pNe, pEq, pLe, pGt, okDeep, D.deep, D.eqv, gCall_def, t1, t2, h1, h2, h3, sRet, h4, h5, h7, sSet]
          · have h1' : isText c = false := by simpa using h1
            refine .inr ⟨by simp [isSpan, h1'], ?_⟩
            simp [b_law_are_1, sSeq, sIf, tNot, tOr, tAnd, tVal, ev_op, ev_cons, opOn, pIsi, D.isTy, okLen, D.truth, take_self, sNext, pLen, pNe, okDeep, D.deep, D.eqv, gCall_def, t1, t2, h1', h2, h3, sRet]
        · have h3' : isInt b 0 4000 = false := by simpa using h3
          refine .inr ⟨by simp [isSpan, h3'], ?_⟩
          simp [b_law_are_1, sSeq, sIf, tNot, tOr, tAnd, tVal, ev_op, ev_cons, opOn, pIsi, D.isTy, okLen, D.truth, take_self, sNext, pLen, pNe, okDeep, D.deep, D.eqv, gCall_def, t1, t2, h2, h3', sRet]
      · have h2' : isInt a 0 4000 = false := by simpa using h2
        refine .inr ⟨by simp [isSpan, h2'], ?_⟩
        simp [b_law_are_1, sSeq, sIf, tNot, tOr, tAnd, tVal, ev_op, ev_cons, opOn, pIsi, D.isTy, okLen, D.truth, take_self, sNext, pLen, pNe, okDeep, D.deep, D.eqv, gCall_def, t1, t2, h2', sRet]
    · have hl' : ¬ ((l.length : Int) = 3) := by omega
      have hs : isSpan (.tup l) = false := by
        unfold isSpan
        split
        · rename_i a b c e; cases e; exact absurd rfl hl
        · rfl
      refine .inr ⟨by simp [hs], ?_⟩
      simp [b_law_are_1, sSeq, sIf, tNot, tOr, tAnd, tVal, ev_op, ev_cons, opOn, pIsi, D.isTy, okLen, D.truth, take_self, sNext, pLen, pNe, okDeep, D.deep, D.eqv, hl', sRet]
  | _ =>
    refine .inr ⟨by simp [isSpan], ?_⟩
    simp [b_law_are_1, sSeq, sIf, tNot, tOr, tAnd, tVal, ev_op, ev_cons, opOn, pIsi, D.isTy, okLen, D.truth, take_self, sNext, sRet]
theorem law_are_loop (j : Nat) (v : D) (st : Store) : ∀ (l : List D) (last : Int) (x : Option A), (∀ d ∈ l, okT d = true) →
    (lawGo last l = true → ∃ last' x', forGo (.name 2) (b_law_are_1 (semT T (j + 2))) (fun _ => true) l [some (.d v), some (.d (.int last)), x] st = .nx [some (.d v), some (.d (.int last')), x'] st) ∧
    (lawGo last l = false → forGo (.name 2) (b_law_are_1 (semT T (j + 2))) (fun _ => true) l [some (.d v), some (.d (.int last)), x] st = .rt (.d (.bl false)) st)
  | [], last, x, _ => ⟨fun _ => ⟨last, x, by simp [forGo]⟩, fun h => by simp [lawGo] at h⟩
  | d :: r, last, x, h => by
    have hr := fun d hd => h d (List.mem_cons_of_mem _ hd)
    rcases law_are_step j v last x d (h d List.mem_cons_self) st with ⟨h1, ⟨b, e, s, hd, hlt⟩, b', e', s', hd', hb⟩ | ⟨h1, hb⟩
    · rw [hd] at hd'
      cases hd'
      obtain ⟨i1, i2⟩ := law_are_loop j v st r e (some (.d d)) hr
      have hg : lawGo last (d :: r) = lawGo e r := by
        simp only [lawGo, h1, Bool.true_and]
        rw [hd]
        simp [hlt]
      have hf : forGo (.name 2) (b_law_are_1 (semT T (j + 2))) (fun _ => true) (d :: r) [some (.d v), some (.d (.int last)), x] st = forGo (.name 2) (b_law_are_1 (semT T (j + 2))) (fun _ => true) r [some (.d v), some (.d (.int e)), some (.d d)] st := by
        simp [forGo, Tg.put, hb]
      rw [hg, hf]
      exact ⟨i1, i2⟩
    · have hg : lawGo last (d :: r) = false := by
        simp only [lawGo]
        cases hs : isSpan d with
        | false => rfl
        | true =>
          obtain ⟨b, e, s, rfl, _⟩ := isSpan_is hs
          rw [hs] at h1
          simp only [Bool.true_and] at h1 ⊢
          rw [h1]; rfl
      refine ⟨fun q => (by rw [hg] at q; cases q), fun _ => ?_⟩
      simp [forGo, Tg.put, hb]
theorem e_law_are (j : Nat) (v : D) (hv : okTT v = true) (st : Store) : semT T (j + 3) 20 [.d v] st = .ok (.d (.bl (areS v))) st := by
  show semDef 1 3 (g_law_are (semT T (j + 2))) _ _ = _
  cases v with
  | tup l =>
    by_cases hl : l.length ≤ 400
    · have hl' : ¬ ((400 : Int) < l.length) := by omega
      have hl2 := law_are_loop j (.tup l) st l (-1) none (by simpa [okTT] using hv)
      have hg := lawGo_are l
      cases hb : lawGo (-1) l with
      | true =>
        obtain ⟨last', x', e⟩ := hl2.1 hb
        rw [hb] at hg
        have e1 : sFor (iVal (gVar 0)) (.name 2) (b_law_are_1 (semT T (j + 2))) [some (.d (.tup l)), some (.d (.int (-1))), none] st = .nx [some (.d (.tup l)), some (.d (.int last')), x'] st := by
          rw [← e]; simp [sFor, iVal, rowOf]; rfl
        simp [semDef, finish, g_law_are, sSeq, sIf, tOr, tNot, tVal, ev_op, ev_cons, opOn, pIsi, D.isTy, okLen, D.truth, take_self, sNext, pLen, pGt, hl', sSet, pNeg, e1, sRet, settleV, areS, hl, ← hg]
      | false =>
        have e := hl2.2 hb
        rw [hb] at hg
        have e1 : sFor (iVal (gVar 0)) (.name 2) (b_law_are_1 (semT T (j + 2))) [some (.d (.tup l)), some (.d (.int (-1))), none] st = .rt (.d (.bl false)) st := by
          rw [← e]; simp [sFor, iVal, rowOf]; rfl
        simp [semDef, finish, g_law_are, sSeq, sIf, tOr, tNot, tVal, ev_op, ev_cons, opOn, pIsi, D.isTy, okLen, D.truth, take_self, sNext, pLen, pGt, hl', sSet, pNeg, e1, sRet, settleV, areS, hl, ← hg]
    · have hl' : ((400 : Int) < l.length) := by omega
      simp [semDef, finish, g_law_are, sSeq, sIf, tOr, tNot, tVal, ev_op, ev_cons, opOn, pIsi, D.isTy, okLen, D.truth, take_self, sNext, pLen, pGt, hl, hl', sRet, settleV, areS]
  | _ => simp [semDef, finish, g_law_are, sSeq, sIf, tOr, tNot, tVal, ev_op, ev_cons, opOn, pIsi, D.isTy, okLen, D.truth, take_self, sNext, sRet, settleV, areS]
end K03
end

section
set_option Elab.async false
set_option linter.all false
set_option maxRecDepth 100000
set_option maxHeartbeats 1000000
/-! K03G: spans put into a text. -/
namespace K03
open PD
structure Sp where
  b : Nat
  e : Nat
  s : List Nat
def spD (x : Sp) : D := .tup [.int x.b, .int x.e, .str x.s]
/-- one behind the other -/
def Chain : Nat → List Sp → Prop
  | _, [] => True
  | p, x :: r => p ≤ x.b ∧ x.b ≤ x.e ∧ Chain x.e r
def sumS (L : List Sp) : Nat := (L.map fun x => x.s.length).sum
/-! ### forward -/
def pieces (t : List Nat) : Nat → List Sp → List (List Nat)
  | p, [] => [t.drop p]
  | p, x :: r => (t.drop p).take (x.b - p) :: x.s :: pieces t x.e r
def heads (t : List Nat) : Nat → List Sp → List (List Nat)
  | _, [] => []
  | p, x :: r => (t.drop p).take (x.b - p) :: x.s :: heads t x.e r
def lastE : Nat → List Sp → Nat
  | p, [] => p
  | _, x :: r => lastE x.e r
theorem pieces_heads (t : List Nat) : ∀ (L : List Sp) (p : Nat), pieces t p L = heads t p L ++ [t.drop (lastE p L)]
  | [], p => rfl
  | x :: r, p => by simp [pieces, heads, lastE, pieces_heads t r x.e]
theorem heads_len (t : List Nat) : ∀ (L : List Sp) (p : Nat), (heads t p L).length = 2 * L.length
  | [], _ => rfl
  | x :: r, p => by simp [heads, heads_len t r x.e]; omega
theorem pieces_lens (t : List Nat) : ∀ (L : List Sp) (p : Nat), ((pieces t p L).map List.length).sum ≤ (L.length + 1) * t.length + sumS L
  | [], p => by simp [pieces, sumS]
  | x :: r, p => by
    have ih := pieces_lens t r x.e
    have h1 : (min (x.b - p) (t.length - p)) ≤ t.length := by omega
    simp only [pieces, List.map_cons, List.sum_cons, List.length_take, List.length_drop, sumS, List.length_cons] at ih ⊢
    have e : (r.length + 1 + 1) * t.length = (r.length + 1) * t.length + t.length := by rw [Nat.add_mul (r.length + 1) 1]; simp
    rw [e]
    omega
theorem put_loop (F : SemF) (t : List Nat) (v : A) (st : Store) : ∀ (L : List Sp) (p : Nat) (acc : List D) (x4 x5 x6 : Option A), acc.length + 2 * L.length < LID → t.length ≤ LID →
    ∃ y4 y5 y6, forGo (.tup [.name 4, .name 5, .name 6]) (b_put_spans_1 F) (fun _ => true) (L.map spD) [some (.d (.str t)), some v, some (.obj st.length), some (.d (.int p)), x4, x5, x6] (st ++ [.ls acc])
      = .nx [some (.d (.str t)), some v, some (.obj st.length), some (.d (.int (lastE p L))), y4, y5, y6] (st ++ [.ls (acc ++ (heads t p L).map D.str)])
  | [], p, acc, x4, x5, x6, _, _ => ⟨x4, x5, x6, by simp [forGo, lastE, heads]⟩
  | x :: r, p, acc, x4, x5, x6, hz, ht => by
    obtain ⟨y4, y5, y6, ih⟩ := put_loop F t v st r x.e (acc ++ [.str ((t.drop p).take (x.b - p))] ++ [.str x.s]) (some (.d (.int x.b))) (some (.d (.int x.e))) (some (.d (.str x.s))) (by simp at hz ⊢; omega) ht
    refine ⟨y4, y5, y6, ?_⟩
    have hc : cutL t (some (p : Int)) (some (x.b : Int)) = (t.drop p).take (x.b - p) := cut_both t p x.b
    have hz1 : acc.length < LID := by simp at hz; omega
    have hz2 : acc.length + 1 < LID := by simp at hz; omega
    rw [List.map_cons, forGo, if_pos rfl]
    have e1 : b_put_spans_1 F [some (.d (.str t)), some v, some (.obj st.length), some (.d (.int p)), some (.d (.int x.b)), some (.d (.int x.e)), some (.d (.str x.s))] (st ++ [.ls acc])
        = .nx [some (.d (.str t)), some v, some (.obj st.length), some (.d (.int x.e)), some (.d (.int x.b)), some (.d (.int x.e)), some (.d (.str x.s))] (st ++ [.ls (acc ++ [.str ((t.drop p).take (x.b - p))] ++ [.str x.s])]) := by
      have f1 : sAppend (gVar 2) (gOp pSl (gCons (gVar 0) (gCons (gInt (gVar 3)) (gCons (gInt (gVar 4)) gNil)))) [some (.d (.str t)), some v, some (.obj st.length), some (.d (.int p)), some (.d (.int x.b)), some (.d (.int x.e)), some (.d (.str x.s))] (st ++ [.ls acc])
          = .nx [some (.d (.str t)), some v, some (.obj st.length), some (.d (.int p)), some (.d (.int x.b)), some (.d (.int x.e)), some (.d (.str x.s))] (st ++ [.ls (acc ++ [.str ((t.drop p).take (x.b - p))])]) := by
        simp [sAppend, ev_op, ev_cons, gInt, opOn, pSl, part, ht, hc, hz1]
      have f2 : sAppend (gVar 2) (gVar 6) [some (.d (.str t)), some v, some (.obj st.length), some (.d (.int p)), some (.d (.int x.b)), some (.d (.int x.e)), some (.d (.str x.s))] (st ++ [.ls (acc ++ [.str ((t.drop p).take (x.b - p))])])
          = .nx [some (.d (.str t)), some v, some (.obj st.length), some (.d (.int p)), some (.d (.int x.b)), some (.d (.int x.e)), some (.d (.str x.s))] (st ++ [.ls (acc ++ [.str ((t.drop p).take (x.b - p))] ++ [.str x.s])]) := by
        simp [sAppend, hz2]
      unfold b_put_spans_1
      rw [seq_nx f1, seq_nx f2]
      simp [sSet]
    have e0 : Tg.put (.tup [.name 4, .name 5, .name 6]) (spD x) [some (.d (.str t)), some v, some (.obj st.length), some (.d (.int p)), x4, x5, x6] = some [some (.d (.str t)), some v, some (.obj st.length), some (.d (.int p)), some (.d (.int x.b)), some (.d (.int x.e)), some (.d (.str x.s))] := by simp [Tg.put, Tg.puts, spD]
    simp only [List.append_assoc, List.cons_append, List.nil_append] at ih e1
    simp only [e0, e1, ih, lastE, heads, List.map_cons, List.append_assoc, List.cons_append, List.nil_append]
def put (t : List Nat) (L : List Sp) : List Nat := (pieces t 0 L).flatten
theorem e_put (j : Nat) (t : List Nat) (L : List Sp) (st : Store) (ht : t.length ≤ 4000) (hL : L.length ≤ 400) (hs : sumS L ≤ 1600000) : semT T (j + 1) 5 [.d (.str t), .d (.tup (L.map spD))] st = .ok (.d (.str (put t L))) st := by
  show semDef 2 7 (g_put_spans (semT T j)) _ _ = _
  have hz : ([] : List D).length + 2 * L.length < LID := by unfold LID; simp; omega
  have ht2 : t.length ≤ LID := by unfold LID; omega
  obtain ⟨y4, y5, y6, e⟩ := put_loop (semT T j) t (.d (.tup (L.map spD))) st L 0 [] none none none hz ht2
  have e1 : sFor (iVal (gVar 1)) (.tup [.name 4, .name 5, .name 6]) (b_put_spans_1 (semT T j)) [some (.d (.str t)), some (.d (.tup (L.map spD))), some (.obj st.length), some (.d (.int 0)), none, none, none] (st ++ [.ls []]) = .nx [some (.d (.str t)), some (.d (.tup (L.map spD))), some (.obj st.length), some (.d (.int (lastE 0 L))), y4, y5, y6] (st ++ [.ls ((heads t 0 L).map D.str)]) := by
    have e' := e
    simp only [List.nil_append] at e'
    rw [← e']; simp [sFor, iVal, rowOf]; rfl
  have hc : cutL t (some ((lastE 0 L : Nat) : Int)) none = t.drop (lastE 0 L) := cut_from t _
  have hb : (heads t 0 L).length + 1 ≤ LID := by rw [heads_len]; unfold LID; omega
  have hl : lensOf [] (heads t 0 L ++ [t.drop (lastE 0 L)]) ≤ LID := by
    rw [← pieces_heads, lens_nil]
    have := pieces_lens t L 0
    have h2 : (L.length + 1) * t.length ≤ 401 * 4000 := Nat.mul_le_mul (by omega) ht
    unfold LID; omega
  have hx : textsOf ((heads t 0 L).map D.str ++ [.str (t.drop (lastE 0 L))]) = some (heads t 0 L ++ [t.drop (lastE 0 L)]) := by
    rw [← texts_map, List.map_append]; rfl
  have h1 : 1 ≤ LID := by decide
  have hadd : gOp pAdd (gCons (gVar 2) (gCons (gLst (gCons (gOp pSl (gCons (gVar 0) (gCons (gInt (gVar 3)) (gCons (gCon .non) gNil)))) gNil)) gNil)) [some (.d (.str t)), some (.d (.tup (L.map spD))), some (.obj st.length), some (.d (.int (lastE 0 L))), y4, y5, y6] (st ++ [.ls ((heads t 0 L).map D.str)])
      = .ok (.obj (st.length + 1)) (st ++ [.ls ((heads t 0 L).map D.str)] ++ [.ls ((heads t 0 L).map D.str ++ [.str (t.drop (lastE 0 L))])]) := by
    simp [ev_op, ev_cons, gInt, gLst, opOn, pSl, part, ht2, hc, settle, settleV, nowAll, pAdd, hb, h1, give]
  have i0 : sSet 2 (gLst gNil) [some (.d (.str t)), some (.d (.tup (L.map spD))), none, none, none, none, none] st = .nx [some (.d (.str t)), some (.d (.tup (L.map spD))), some (.obj st.length), none, none, none, none] (st ++ [.ls []]) := by
    have h0 : 0 ≤ LID := Nat.zero_le _
    simp [sSet, gLst, h0]
  have i1 : sSet 3 (gCon (.int 0)) [some (.d (.str t)), some (.d (.tup (L.map spD))), some (.obj st.length), none, none, none, none] (st ++ [.ls []]) = .nx [some (.d (.str t)), some (.d (.tup (L.map spD))), some (.obj st.length), some (.d (.int 0)), none, none, none] (st ++ [.ls []]) := by simp [sSet]
  show (if 2 = 2 then finish st.length (g_put_spans (semT T j) [some (.d (.str t)), some (.d (.tup (L.map spD))), none, none, none, none, none] st) else .bad) = _
  rw [if_pos rfl]
  unfold g_put_spans
  rw [seq_nx i0, seq_nx i1, seq_nx e1]
  simp [sRet, ev_op (p := pJoin), ev_cons, gStr, hadd, opOn, nowAll, pJoin, hx, hl, joined_nil, finish, settleV, put, pieces_heads]
end K03
end

section
set_option Elab.async false
set_option linter.all false
set_option maxRecDepth 100000
set_option maxHeartbeats 1000000
/-! K03H: the law's put; fits; spanned. -/
namespace K03
open PD
def step (t : List Nat) (x : Sp) : List Nat := t.take x.b ++ x.s ++ t.drop x.e
def lput (t : List Nat) (L : List Sp) : List Nat := L.foldr (fun x t => step t x) t
theorem chain_mono {p q : Nat} (h : p ≤ q) : ∀ {L : List Sp}, Chain q L → Chain p L
  | [], _ => trivial
  | x :: r, c => ⟨Nat.le_trans h c.1, c.2.1, c.2.2⟩
theorem lastE_le : ∀ {L : List Sp} {p : Nat}, Chain p L → p ≤ lastE p L
  | [], p, _ => Nat.le_refl _
  | x :: r, p, c => Nat.le_trans (Nat.le_trans c.1 c.2.1) (lastE_le c.2.2)
theorem lput_put (t : List Nat) : ∀ (L : List Sp) (p : Nat), Chain p L → lastE p L ≤ t.length → lput t L = t.take p ++ (pieces t p L).flatten
  | [], p, _, _ => by simp [lput, pieces]
  | x :: r, p, c, h => by
    have ih := lput_put t r x.e c.2.2 h
    have he : x.e ≤ t.length := Nat.le_trans (lastE_le c.2.2) h
    have e : lput t (x :: r) = step (lput t r) x := rfl
    have hb : x.b ≤ (t.take x.e).length := by rw [List.length_take]; have := c.2.1; omega
    have hd : (t.take x.e).length = x.e := by rw [List.length_take]; omega
    have h1 : (t.take x.e ++ (pieces t x.e r).flatten).take x.b = t.take x.b := by
      rw [List.take_append_of_le_length hb, List.take_take, Nat.min_eq_left c.2.1]
    have h2 : (t.take x.e ++ (pieces t x.e r).flatten).drop x.e = (pieces t x.e r).flatten := by
      rw [List.drop_append_of_le_length (by omega), List.drop_of_length_le (by omega)]; rfl
    have h3 : t.take p ++ (t.drop p).take (x.b - p) = t.take x.b := by
      have hs : x.b = p + (x.b - p) := by have := c.1; omega
      conv => rhs; rw [hs]
      rw [List.take_add]
    rw [e, ih]
    unfold step
    rw [h1, h2, pieces, List.flatten_cons, List.flatten_cons, ← List.append_assoc, h3, List.append_assoc]
theorem lput_is (t : List Nat) (L : List Sp) (c : Chain 0 L) (h : lastE 0 L ≤ t.length) : lput t L = put t L := by
  rw [lput_put t L 0 c h]; simp [put]
theorem lput_len (t : List Nat) : ∀ L : List Sp, (lput t L).length ≤ 2 * t.length + 2 * sumS L ∨ True
  | _ => .inr trivial
/-- the law's loop, from behind -/
theorem lput_loop (F : SemF) (v : A) (st : Store) (B : Nat) (hB : B ≤ LID) : ∀ (M : List Sp) (t : List Nat) (x2 x3 x4 : Option A), (∀ M1 M2, M = M1 ++ M2 → (M1.foldl step t).length ≤ 8000000) → (∀ x ∈ M, x.s.length ≤ 4000) →
    ∃ y2 y3 y4, forGo (.tup [.name 2, .name 3, .name 4]) (b_law_put_1 F) (fun _ => true) (M.map spD) [some (.d (.str t)), some v, x2, x3, x4] st = .nx [some (.d (.str (M.foldl step t))), some v, y2, y3, y4] st
  | [], t, x2, x3, x4, _, _ => ⟨x2, x3, x4, by simp [forGo]⟩
  | x :: M, t, x2, x3, x4, hM, hs => by
    obtain ⟨y2, y3, y4, ih⟩ := lput_loop F v st B hB M (step t x) (some (.d (.int x.b))) (some (.d (.int x.e))) (some (.d (.str x.s))) (fun M1 M2 e => hM (x :: M1) M2 (by rw [e]; rfl)) fun y hy => hs y (List.mem_cons_of_mem _ hy)
    refine ⟨y2, y3, y4, ?_⟩
    have h0 : t.length ≤ 8000000 := hM [] (x :: M) rfl
    have h1 := hs x List.mem_cons_self
    have hL : t.length ≤ LID := by unfold LID; omega
    have c1 : cutL t none (some (x.b : Int)) = t.take x.b := cut_to t x.b
    have c2 : cutL t (some (x.e : Int)) none = t.drop x.e := cut_from t x.e
    have l1 : min x.b t.length + x.s.length ≤ LID := by unfold LID; omega
    have l2 : min x.b t.length + x.s.length + (t.length - x.e) ≤ LID := by unfold LID; omega
    have e0 : Tg.put (.tup [.name 2, .name 3, .name 4]) (spD x) [some (.d (.str t)), some v, x2, x3, x4] = some [some (.d (.str t)), some v, some (.d (.int x.b)), some (.d (.int x.e)), some (.d (.str x.s))] := by simp [Tg.put, Tg.puts, spD]
    have e1 : b_law_put_1 F [some (.d (.str t)), some v, some (.d (.int x.b)), some (.d (.int x.e)), some (.d (.str x.s))] st = .nx [some (.d (.str (step t x))), some v, some (.d (.int x.b)), some (.d (.int x.e)), some (.d (.str x.s))] st := by
      simp [b_law_put_1, sSet, ev_op, ev_cons, gInt, opOn, pSl, part, hL, c1, c2, pAdd, l1, l2, take_self, step]
    rw [List.map_cons, forGo, if_pos rfl]
    simp only [e0, e1, ih, List.foldl_cons]
theorem lput_rev (t : List Nat) (L : List Sp) : L.reverse.foldl step t = lput t L := by
  rw [List.foldl_reverse]; rfl
theorem lputs_len {t : List Nat} {L : List Sp} (h : ∀ M1 M2, L = M1 ++ M2 → (lput t M2).length ≤ 8000000) : ∀ M1 M2, L.reverse = M1 ++ M2 → (M1.foldl step t).length ≤ 8000000 := fun M1 M2 e => by
  have e' : L = M2.reverse ++ M1.reverse := by rw [← List.reverse_append, ← e, List.reverse_reverse]
  have := h _ _ e'
  rw [← lput_rev, List.reverse_reverse] at this
  exact this
theorem e_law_put (j : Nat) (t : List Nat) (L : List Sp) (st : Store) (h : ∀ M1 M2, L = M1 ++ M2 → (lput t M2).length ≤ 8000000) (hs : ∀ x ∈ L, x.s.length ≤ 4000) : semT T (j + 1) 21 [.d (.str t), .d (.tup (L.map spD))] st = .ok (.d (.str (lput t L))) st := by
  show (if 2 = 2 then finish st.length (g_law_put (semT T j) [some (.d (.str t)), some (.d (.tup (L.map spD))), none, none, none] st) else .bad) = _
  rw [if_pos rfl]
  obtain ⟨y2, y3, y4, e⟩ := lput_loop (semT T j) (.d (.tup (L.map spD))) st 0 (Nat.zero_le _) L.reverse t none none none (lputs_len h) fun x hx => hs x (List.mem_reverse.mp hx)
  have e1 : sFor (iVal (gOp pRev (gCons (gVar 1) gNil))) (.tup [.name 2, .name 3, .name 4]) (b_law_put_1 (semT T j)) [some (.d (.str t)), some (.d (.tup (L.map spD))), none, none, none] st = .nx [some (.d (.str (lput t L))), some (.d (.tup (L.map spD))), y2, y3, y4] st := by
    rw [lput_rev] at e
    rw [← e, List.map_reverse]
    simp [sFor, iVal, rowOf, ev_op, ev_cons, opOn, pRev, take_self]; rfl
  unfold g_law_put
  rw [seq_nx e1]
  simp [sRet, finish, settleV]
/-! ### fits -/
def fitB (t : List Nat) (L : List Sp) : Bool := match L.getLast? with | none => true | some x => decide (x.e ≤ t.length)
theorem deeps_sp (L : List Sp) : D.deeps (L.map spD) ≤ 1 := by
  induction L with
  | nil => simp [D.deeps]
  | cons x L ih => simp only [List.map_cons, D.deeps, spD, D.deep]; omega
theorem ix_last {l : List D} {d : D} (h : l.getLast? = some d) : pIx [.tup l, .int (-1)] = some (.v d) := by
  have hl : l ≠ [] := fun e => by rw [e] at h; cases h
  have hn : 0 < l.length := List.length_pos_iff.mpr hl
  have hp : place (-1) l.length = some (l.length - 1) := by
    unfold place
    rw [if_neg (by omega), if_pos (by omega)]
    congr 1; omega
  rw [List.getLast?_eq_getElem?] at h
  simp [pIx, hp, h]
theorem last_map (L : List Sp) (x : Sp) (h : L.getLast? = some x) : (L.map spD).getLast? = some (spD x) := by simp [h]
theorem e_fit (j : Nat) (t : List Nat) (L : List Sp) (st : Store) (ht : t.length ≤ 4000) : semT T (j + 1) 6 [.d (.str t), .d (.tup (L.map spD))] st = .ok (.d (.bl (fitB t L))) st := by
  show semDef 2 2 (g_fit_spans (semT T j)) _ _ = _
  have hd := deeps_sp L
  have hd2 : (D.tup (L.map spD)).deep ≤ 60 := by simp only [D.deep]; omega
  have h0 : (D.tup []).deep ≤ 60 := by simp [D.deep, D.deeps]
  have ht2 : t.length ≤ LID := by unfold LID; omega
  cases hL : L.getLast? with
  | none =>
    have hnil : L = [] := by simpa using hL
    subst hnil
    simp [semDef, finish, g_fit_spans, sRet, gOr, ev_op, ev_cons, gTup, opOn, pEq, okDeep, D.deep, D.deeps, D.eqv, D.eqvs, settleV, fitB]
  | some x =>
    have e := ix_last (last_map L x hL)
    have hne : (L.map spD).isEmpty = false := by
      cases L with
      | nil => cases hL
      | cons y L => rfl
    have hx : decide ((x.e : Int) ≤ t.length) = decide (x.e ≤ t.length) := by
      by_cases h : x.e ≤ t.length
      · rw [decide_eq_true h, decide_eq_true (by omega)]
      · rw [decide_eq_false h, decide_eq_false (by omega)]
    simp [semDef, finish, g_fit_spans, sRet, gOr, ev_op, ev_cons, gTup, opOn, pEq, okDeep, hd2, h0, D.eqv, eqvs_nil, hne, pNeg, e, spD, ht2, pLen, pLe, settleV, fitB, hL, hx]
end K03
end

section
set_option Elab.async false
set_option linter.all false
set_option maxRecDepth 100000
set_option maxHeartbeats 1000000
/-! K03I: spanned, back_spans, told, same. -/
namespace K03
open PD
theorem areS_is {v : D} (h : areS v = true) : ∃ L : List Sp, v = .tup (L.map spD) ∧ Chain 0 L ∧ L.length ≤ 400 ∧ sumS L ≤ 4000 * L.length ∧ ∀ x ∈ L, isText (.str x.s) = true := by
  cases v with
  | tup l =>
    simp only [areS, Bool.and_eq_true, decide_eq_true_eq] at h
    obtain ⟨h1, h2, h3⟩ := h
    have key : ∀ (l : List D) (p : Nat), l.all isSpan = true → adj l = true → (∀ b e s r, l = .tup [.int b, .int e, .str s] :: r → (p : Int) ≤ b) → ∃ L : List Sp, l = L.map spD ∧ Chain p L ∧ sumS L ≤ 4000 * L.length ∧ ∀ x ∈ L, isText (.str x.s) = true := by
      intro l
      induction l with
      | nil => exact fun p _ _ _ => ⟨[], rfl, trivial, by simp [sumS], by simp⟩
      | cons d r ih =>
        intro p ha hj hp
        rw [List.all_cons, Bool.and_eq_true] at ha
        obtain ⟨b, e, s, rfl, ht, hb0, hb1, he0, he1, hlt⟩ := isSpan_is ha.1
        have hpb := hp b e s r rfl
        have hj2 : adj r = true ∧ ∀ b' e' s' r', r = .tup [.int b', .int e', .str s'] :: r' → e < b' := by
          cases r with
          | nil => exact ⟨rfl, fun _ _ _ _ q => nomatch q⟩
          | cons d2 r2 =>
            simp only [adj, Bool.and_eq_true] at hj
            refine ⟨hj.2, fun b' e' s' r' q => ?_⟩
            cases q
            simpa [lt01] using hj.1
        obtain ⟨L, rfl, c, hs, hall⟩ := ih e.toNat ha.2 hj2.1 fun b' e' s' r' q => by have := hj2.2 b' e' s' r' q; omega
        refine ⟨⟨b.toNat, e.toNat, s⟩ :: L, ?_, ⟨by show p ≤ b.toNat; omega, by show b.toNat ≤ e.toNat; omega, c⟩, ?_, ?_⟩
        · simp [spD, Int.toNat_of_nonneg hb0, Int.toNat_of_nonneg he0]
        · have := (isText_str ht).1
          simp only [sumS, List.map_cons, List.sum_cons, List.length_cons] at hs ⊢
          omega
        · intro x hx
          rcases List.mem_cons.mp hx with rfl | hx
          · exact ht
          · exact hall x hx
    obtain ⟨L, e, c, hs, ht⟩ := key l 0 h2 h3 fun b e s r q => by
      subst q
      rw [List.all_cons, Bool.and_eq_true] at h2
      obtain ⟨b', e', s', q, _, hb, _⟩ := isSpan_is h2.1
      cases q
      simpa using hb
    subst e
    exact ⟨L, rfl, c, by simpa using h1, hs, ht⟩
  | _ => simp [areS] at h
theorem lastE_fit {t : List Nat} : ∀ {L : List Sp} {p : Nat}, p ≤ t.length → (fitB t L = true ↔ lastE p L ≤ t.length)
  | [], p, h => by simp [fitB, lastE, h]
  | [x], p, h => by simp [fitB, lastE]
  | x :: y :: r, p, h => by
    have e : fitB t (x :: y :: r) = fitB t (y :: r) := by simp [fitB]
    rw [e]
    show _ ↔ lastE y.e r ≤ t.length
    cases r with
    | nil => simp [fitB, lastE]
    | cons z r =>
      have e2 : fitB t (y :: z :: r) = fitB t (z :: r) := by simp [fitB]
      rw [e2]
      have := lastE_fit (t := t) (L := z :: r) (p := 0) (Nat.zero_le _)
      exact this
section
variable (j : Nat) (t : List Nat) (st : Store) (ht : isText (.str t) = true)
include ht
theorem e_span_bad (v : D) (hv : okTT v = true) (h : areS v = false) : semT T (j + 4) 7 [.d (.str t), .d v] st = .exn ⟨2, none⟩ st := by
  show (if 2 = 2 then finish st.length (g_spanned (semT T (j + 3)) [some (.d (.str t)), some (.d v), none] st) else .bad) = _
  have c1 := e_check_good (j + 2) t ht st
  have c2 := e_are j v hv st
  simp [g_spanned, sSeq, sExpr, gCall_def, ev_cons, c1, c2, sIf, tOr, tNot, tVal, okLen, D.truth, h, sRaise0, finish, take_self]
theorem e_span_unfit (L : List Sp) (hv : okTT (.tup (L.map spD)) = true) (h : areS (.tup (L.map spD)) = true) (hf : fitB t L = false) : semT T (j + 4) 7 [.d (.str t), .d (.tup (L.map spD))] st = .exn ⟨2, none⟩ st := by
  show (if 2 = 2 then finish st.length (g_spanned (semT T (j + 3)) [some (.d (.str t)), some (.d (.tup (L.map spD))), none] st) else .bad) = _
  have c1 := e_check_good (j + 2) t ht st
  have c2 := e_are j _ hv st
  have c3 := e_fit (j + 2) t L st (isText_str ht).1
  simp [g_spanned, sSeq, sExpr, gCall_def, ev_cons, c1, c2, c3, sIf, tOr, tNot, tVal, okLen, D.truth, h, hf, sRaise0, finish, take_self]
theorem e_span_fit (L : List Sp) (hv : okTT (.tup (L.map spD)) = true) (h : areS (.tup (L.map spD)) = true) (hf : fitB t L = true) (hL : L.length ≤ 400) (hs : sumS L ≤ 1600000) :
    semT T (j + 4) 7 [.d (.str t), .d (.tup (L.map spD))] st = if (put t L).length ≤ 4000 then .ok (.d (.str (put t L))) st else .exn ⟨3, none⟩ st := by
  show (if 2 = 2 then finish st.length (g_spanned (semT T (j + 3)) [some (.d (.str t)), some (.d (.tup (L.map spD))), none] st) else .bad) = _
  have c1 := e_check_good (j + 2) t ht st
  have c2 := e_are j _ hv st
  have c3 := e_fit (j + 2) t L st (isText_str ht).1
  have c4 := e_put (j + 2) t L st (isText_str ht).1 hL hs
  have hz : (put t L).length ≤ LID := by
    unfold put
    rw [List.length_flatten]
    have := pieces_lens t L 0
    have h2 : (L.length + 1) * t.length ≤ 401 * 4000 := Nat.mul_le_mul (by omega) (isText_str ht).1
    unfold LID; omega
  by_cases hp : (put t L).length ≤ 4000
  · have hp' : ¬ ((4000 : Int) < (put t L).length) := by omega
    simp [g_spanned, sSeq, sExpr, gCall_def, ev_cons, c1, c2, c3, c4, sIf, tOr, tNot, tVal, okLen, D.truth, h, hf, sNext, take_self, sSet, ev_op, opOn, pLen, hz, pGt, c_MOST_TEXT, hp, hp', sRet, finish, settleV]
  · have hp' : ((4000 : Int) < (put t L).length) := by omega
    simp [g_spanned, sSeq, sExpr, gCall_def, ev_cons, c1, c2, c3, c4, sIf, tOr, tNot, tVal, okLen, D.truth, h, hf, sNext, take_self, sSet, ev_op, opOn, pLen, hz, pGt, c_MOST_TEXT, hp, hp', sRaise0, finish]
end
theorem e_span_non (j : Nat) (st : Store) (v : D) : semT T (j + 4) 7 [.d (.str [65]), .d v] st = .exn ⟨1, some (.int 0)⟩ st := by
  show (if 2 = 2 then finish st.length (g_spanned (semT T (j + 3)) [some (.d (.str [65])), some (.d v), none] st) else .bad) = _
  have c1 := e_check_A (j + 2) st
  simp [g_spanned, sSeq, sExpr, gCall_def, ev_cons, c1, finish, take_self]
/-! ### told -/
theorem told_env (F : SemF) (f : Nat) (a b : D) (st : Store) : sRet (gCallV F 0 (gCons (gOp pIx (gCons (gVar 1) (gCons (gCon (.int 0)) gNil))) (gCons (gOp pIx (gCons (gVar 1) (gCons (gCon (.int 1)) gNil))) gNil))) [some (.fn f), some (.d (.tup [a, b])), none] st
    = (settle st.length (F f [.d a, .d b] st)).toS [some (.fn f), some (.d (.tup [a, b])), none] fun a s1 => .rt a s1 := by
  have i0 : pIx [.tup [a, b], .int 0] = some (.v a) := rfl
  have i1 : pIx [.tup [a, b], .int 1] = some (.v b) := rfl
  simp [sRet, gCallV, ev_op, ev_cons, opOn, i0, i1, take_self]
theorem e_told_ok (j f : Nat) (a b x : D) (st : Store) (h : semT T j f [.d a, .d b] st = .ok (.d x) st) : semT T (j + 1) 17 [.fn f, .d (.tup [a, b])] st = .ok (.d x) st := by
  show (if 2 = 2 then finish st.length (g_law_told (semT T j) [some (.fn f), some (.d (.tup [a, b])), none] st) else .bad) = _
  simp [g_law_told, sTry, told_env, h, finish, settleV, take_self]
theorem e_told_1 (j f : Nat) (a b p : D) (st : Store) (h : semT T j f [.d a, .d b] st = .exn ⟨1, some p⟩ st) : semT T (j + 1) 17 [.fn f, .d (.tup [a, b])] st = .ok (.d (.tup [.str [112, 108, 97, 99, 101], p])) st := by
  show (if 2 = 2 then finish st.length (g_law_told (semT T j) [some (.fn f), some (.d (.tup [a, b])), none] st) else .bad) = _
  have s1 : sub 1 1 = true := rfl
  simp [g_law_told, sTry, told_env, h, finish, settleV, take_self, catch_, s1, HE.val, HE.vals]
theorem e_told_2 (j f : Nat) (a b : D) (st : Store) (h : semT T j f [.d a, .d b] st = .exn ⟨2, none⟩ st) : semT T (j + 1) 17 [.fn f, .d (.tup [a, b])] st = .ok (.d (.str [115, 116, 101, 112, 115])) st := by
  show (if 2 = 2 then finish st.length (g_law_told (semT T j) [some (.fn f), some (.d (.tup [a, b])), none] st) else .bad) = _
  have s1 : sub 2 1 = false := rfl
  have s2 : sub 2 2 = true := rfl
  simp [g_law_told, sTry, told_env, h, finish, settleV, take_self, catch_, s1, s2, HE.val, HE.vals]
theorem e_told_3 (j f : Nat) (a b : D) (st : Store) (h : semT T j f [.d a, .d b] st = .exn ⟨3, none⟩ st) : semT T (j + 1) 17 [.fn f, .d (.tup [a, b])] st = .ok (.d (.str [102, 97, 114])) st := by
  show (if 2 = 2 then finish st.length (g_law_told (semT T j) [some (.fn f), some (.d (.tup [a, b])), none] st) else .bad) = _
  have s1 : sub 3 1 = false := rfl
  have s2 : sub 3 2 = false := rfl
  have s3 : sub 3 3 = true := rfl
  simp [g_law_told, sTry, told_env, h, finish, settleV, take_self, catch_, s1, s2, s3, HE.val, HE.vals]
end K03
end

section
set_option Elab.async false
set_option linter.all false
set_option maxRecDepth 100000
set_option maxHeartbeats 1000000
/-! K03J: the spans back. -/
namespace K03
open PD
def backs (t : List Nat) : Int → List Sp → List D
  | _, [] => []
  | by_, x :: r => .tup [.int (x.b + by_), .int (x.b + by_ + x.s.length), .str ((t.drop x.b).take (x.e - x.b))] :: backs t (by_ + (x.s.length - (x.e - x.b : Int))) r
def byE : Int → List Sp → Int
  | by_, [] => by_
  | by_, x :: r => byE (by_ + (x.s.length - (x.e - x.b : Int))) r
theorem backs_len (t : List Nat) : ∀ (L : List Sp) (b : Int), (backs t b L).length = L.length
  | [], _ => rfl
  | x :: r, b => by simp [backs, backs_len t r]
theorem undone_loop (F : SemF) (t : List Nat) (v : A) (st : Store) : ∀ (L : List Sp) (p : Int) (acc : List D) (x4 x5 x6 : Option A), acc.length + L.length < LID → t.length ≤ LID → (∀ x ∈ L, x.s.length ≤ LID) →
    ∃ y4 y5 y6, forGo (.tup [.name 4, .name 5, .name 6]) (b_undone_spans_1 F) (fun _ => true) (L.map spD) [some (.d (.str t)), some v, some (.obj st.length), some (.d (.int p)), x4, x5, x6] (st ++ [.ls acc])
      = .nx [some (.d (.str t)), some v, some (.obj st.length), some (.d (.int (byE p L))), y4, y5, y6] (st ++ [.ls (acc ++ backs t p L)])
  | [], p, acc, x4, x5, x6, _, _, _ => ⟨x4, x5, x6, by simp [forGo, byE, backs]⟩
  | x :: r, p, acc, x4, x5, x6, hz, ht, hs => by
    obtain ⟨y4, y5, y6, ih⟩ := undone_loop F t v st r (p + (x.s.length - (x.e - x.b : Int))) (acc ++ [.tup [.int (x.b + p), .int (x.b + p + x.s.length), .str ((t.drop x.b).take (x.e - x.b))]]) (some (.d (.int x.b))) (some (.d (.int x.e))) (some (.d (.str x.s))) (by simp at hz ⊢; omega) ht fun y hy => hs y (List.mem_cons_of_mem _ hy)
    refine ⟨y4, y5, y6, ?_⟩
    have hc : cutL t (some (x.b : Int)) (some (x.e : Int)) = (t.drop x.b).take (x.e - x.b) := cut_both t x.b x.e
    have hz1 : acc.length < LID := by simp at hz; omega
    have h3 : (3 : Nat) ≤ LID := by decide
    have hxs := hs x List.mem_cons_self
    rw [List.map_cons, forGo, if_pos rfl]
    have e1 : b_undone_spans_1 F [some (.d (.str t)), some v, some (.obj st.length), some (.d (.int p)), some (.d (.int x.b)), some (.d (.int x.e)), some (.d (.str x.s))] (st ++ [.ls acc])
        = .nx [some (.d (.str t)), some v, some (.obj st.length), some (.d (.int (p + (x.s.length - (x.e - x.b : Int))))), some (.d (.int x.b)), some (.d (.int x.e)), some (.d (.str x.s))] (st ++ [.ls (acc ++ [.tup [.int (x.b + p), .int (x.b + p + x.s.length), .str ((t.drop x.b).take (x.e - x.b))]])]) := by
      have f1 : sAppend (gVar 2) (gTup (gCons (gOp pAdd (gCons (gVar 4) (gCons (gVar 3) gNil))) (gCons (gOp pAdd (gCons (gOp pAdd (gCons (gVar 4) (gCons (gVar 3) gNil))) (gCons (gOp pLen (gCons (gVar 6) gNil)) gNil))) (gCons (gOp pSl (gCons (gVar 0) (gCons (gInt (gVar 4)) (gCons (gInt (gVar 5)) gNil)))) gNil)))) [some (.d (.str t)), some v, some (.obj st.length), some (.d (.int p)), some (.d (.int x.b)), some (.d (.int x.e)), some (.d (.str x.s))] (st ++ [.ls acc])
          = .nx [some (.d (.str t)), some v, some (.obj st.length), some (.d (.int p)), some (.d (.int x.b)), some (.d (.int x.e)), some (.d (.str x.s))] (st ++ [.ls (acc ++ [.tup [.int (x.b + p), .int (x.b + p + x.s.length), .str ((t.drop x.b).take (x.e - x.b))]])]) := by
        simp [sAppend, gTup, ev_op, ev_cons, gInt, opOn, pSl, part, ht, hc, hz1, pAdd, pLen, hxs, h3, settle, settleV]
      unfold b_undone_spans_1
      rw [seq_nx f1]
      simp [sAug, ev_op, ev_cons, opOn, pLen, hxs, pSub, pIAdd]
    have e0 : Tg.put (.tup [.name 4, .name 5, .name 6]) (spD x) [some (.d (.str t)), some v, some (.obj st.length), some (.d (.int p)), x4, x5, x6] = some [some (.d (.str t)), some v, some (.obj st.length), some (.d (.int p)), some (.d (.int x.b)), some (.d (.int x.e)), some (.d (.str x.s))] := by simp [Tg.put, Tg.puts, spD]
    simp only [List.append_assoc, List.cons_append, List.nil_append] at ih e1
    simp only [e0, e1, ih, byE, backs]
theorem e_undone (j : Nat) (t : List Nat) (L : List Sp) (st : Store) (ht : t.length ≤ 4000) (hL : L.length ≤ 400) (hs : ∀ x ∈ L, x.s.length ≤ 4000) : semT T (j + 1) 8 [.d (.str t), .d (.tup (L.map spD))] st = .ok (.d (.tup (backs t 0 L))) st := by
  show (if 2 = 2 then finish st.length (g_undone_spans (semT T j) [some (.d (.str t)), some (.d (.tup (L.map spD))), none, none, none, none, none] st) else .bad) = _
  rw [if_pos rfl]
  have hz : ([] : List D).length + L.length < LID := by unfold LID; simp; omega
  have ht2 : t.length ≤ LID := by unfold LID; omega
  have hs2 : ∀ x ∈ L, x.s.length ≤ LID := fun x hx => by have := hs x hx; unfold LID; omega
  obtain ⟨y4, y5, y6, e⟩ := undone_loop (semT T j) t (.d (.tup (L.map spD))) st L 0 [] none none none hz ht2 hs2
  have e1 : sFor (iVal (gVar 1)) (.tup [.name 4, .name 5, .name 6]) (b_undone_spans_1 (semT T j)) [some (.d (.str t)), some (.d (.tup (L.map spD))), some (.obj st.length), some (.d (.int 0)), none, none, none] (st ++ [.ls []]) = .nx [some (.d (.str t)), some (.d (.tup (L.map spD))), some (.obj st.length), some (.d (.int (byE 0 L))), y4, y5, y6] (st ++ [.ls (backs t 0 L)]) := by
    have e' := e
    simp only [List.nil_append] at e'
    rw [← e']; simp [sFor, iVal, rowOf]; rfl
  have i0 : sSet 2 (gLst gNil) [some (.d (.str t)), some (.d (.tup (L.map spD))), none, none, none, none, none] st = .nx [some (.d (.str t)), some (.d (.tup (L.map spD))), some (.obj st.length), none, none, none, none] (st ++ [.ls []]) := by
    have h0 : 0 ≤ LID := Nat.zero_le _
    simp [sSet, gLst, h0]
  have i1 : sSet 3 (gCon (.int 0)) [some (.d (.str t)), some (.d (.tup (L.map spD))), some (.obj st.length), none, none, none, none] (st ++ [.ls []]) = .nx [some (.d (.str t)), some (.d (.tup (L.map spD))), some (.obj st.length), some (.d (.int 0)), none, none, none] (st ++ [.ls []]) := by simp [sSet]
  unfold g_undone_spans
  rw [seq_nx i0, seq_nx i1, seq_nx e1]
  simp [sRet, ev_op, ev_cons, opOn, nowAll, now, pTuple, finish, settleV, settle]
theorem lback_loop (F : SemF) (t : List Nat) (v : A) (st : Store) : ∀ (L : List Sp) (p : Int) (acc : List D) (x4 x5 x6 : Option A), acc.length + L.length < LID → t.length ≤ LID → (∀ x ∈ L, x.s.length ≤ LID) →
    ∃ y4 y5 y6, forGo (.tup [.name 4, .name 5, .name 6]) (b_law_back_1 F) (fun _ => true) (L.map spD) [some (.d (.str t)), some v, some (.d (.tup acc)), some (.d (.int p)), x4, x5, x6] st
      = .nx [some (.d (.str t)), some v, some (.d (.tup (acc ++ backs t p L))), some (.d (.int (byE p L))), y4, y5, y6] st
  | [], p, acc, x4, x5, x6, _, _, _ => ⟨x4, x5, x6, by simp [forGo, byE, backs]⟩
  | x :: r, p, acc, x4, x5, x6, hz, ht, hs => by
    obtain ⟨y4, y5, y6, ih⟩ := lback_loop F t v st r (p + (x.s.length - (x.e - x.b : Int))) (acc ++ [.tup [.int (x.b + p), .int (x.b + p + x.s.length), .str ((t.drop x.b).take (x.e - x.b))]]) (some (.d (.int x.b))) (some (.d (.int x.e))) (some (.d (.str x.s))) (by simp at hz ⊢; omega) ht fun y hy => hs y (List.mem_cons_of_mem _ hy)
    refine ⟨y4, y5, y6, ?_⟩
    have hc : cutL t (some (x.b : Int)) (some (x.e : Int)) = (t.drop x.b).take (x.e - x.b) := cut_both t x.b x.e
    have hz1 : acc.length ≤ LID := by simp at hz; omega
    have hz2 : acc.length + 1 ≤ LID := by simp at hz; omega
    have h3 : (3 : Nat) ≤ LID := by decide
    have h1 : (1 : Nat) ≤ LID := by decide
    have hxs := hs x List.mem_cons_self
    have hp : p + x.s.length - (x.e - x.b : Int) = p + (x.s.length - (x.e - x.b : Int)) := by omega
    rw [List.map_cons, forGo, if_pos rfl]
    have e1 : b_law_back_1 F [some (.d (.str t)), some v, some (.d (.tup acc)), some (.d (.int p)), some (.d (.int x.b)), some (.d (.int x.e)), some (.d (.str x.s))] st
        = .nx [some (.d (.str t)), some v, some (.d (.tup (acc ++ [.tup [.int (x.b + p), .int (x.b + p + x.s.length), .str ((t.drop x.b).take (x.e - x.b))]]))), some (.d (.int (p + (x.s.length - (x.e - x.b : Int))))), some (.d (.int x.b)), some (.d (.int x.e)), some (.d (.str x.s))] st := by
      have f1 : sSet 2 (gOp pAdd (gCons (gVar 2) (gCons (gTup (gCons (gTup (gCons (gOp pAdd (gCons (gVar 4) (gCons (gVar 3) gNil))) (gCons (gOp pAdd (gCons (gOp pAdd (gCons (gVar 4) (gCons (gVar 3) gNil))) (gCons (gOp pLen (gCons (gVar 6) gNil)) gNil))) (gCons (gOp pSl (gCons (gVar 0) (gCons (gInt (gVar 4)) (gCons (gInt (gVar 5)) gNil)))) gNil)))) gNil)) gNil))) [some (.d (.str t)), some v, some (.d (.tup acc)), some (.d (.int p)), some (.d (.int x.b)), some (.d (.int x.e)), some (.d (.str x.s))] st
          = .nx [some (.d (.str t)), some v, some (.d (.tup (acc ++ [.tup [.int (x.b + p), .int (x.b + p + x.s.length), .str ((t.drop x.b).take (x.e - x.b))]]))), some (.d (.int p)), some (.d (.int x.b)), some (.d (.int x.e)), some (.d (.str x.s))] st := by
        simp [sSet, gTup, ev_op, ev_cons, gInt, opOn, pSl, part, ht, hc, hz1, hz2, pAdd, pLen, hxs, h3, h1, settle, settleV, take_self]
      unfold b_law_back_1
      rw [seq_nx f1]
      simp [sSet, ev_op, ev_cons, opOn, pLen, hxs, pSub, pAdd, take_self, hp]
    have e0 : Tg.put (.tup [.name 4, .name 5, .name 6]) (spD x) [some (.d (.str t)), some v, some (.d (.tup acc)), some (.d (.int p)), x4, x5, x6] = some [some (.d (.str t)), some v, some (.d (.tup acc)), some (.d (.int p)), some (.d (.int x.b)), some (.d (.int x.e)), some (.d (.str x.s))] := by simp [Tg.put, Tg.puts, spD]
    simp only [List.append_assoc, List.cons_append, List.nil_append] at ih e1
    simp only [e0, e1, ih, byE, backs]
theorem e_law_back (j : Nat) (t : List Nat) (L : List Sp) (st : Store) (ht : t.length ≤ 4000) (hL : L.length ≤ 400) (hs : ∀ x ∈ L, x.s.length ≤ 4000) : semT T (j + 1) 22 [.d (.str t), .d (.tup (L.map spD))] st = .ok (.d (.tup (backs t 0 L))) st := by
  show (if 2 = 2 then finish st.length (g_law_back (semT T j) [some (.d (.str t)), some (.d (.tup (L.map spD))), none, none, none, none, none] st) else .bad) = _
  rw [if_pos rfl]
  have hz : ([] : List D).length + L.length < LID := by unfold LID; simp; omega
  have ht2 : t.length ≤ LID := by unfold LID; omega
  have hs2 : ∀ x ∈ L, x.s.length ≤ LID := fun x hx => by have := hs x hx; unfold LID; omega
  obtain ⟨y4, y5, y6, e⟩ := lback_loop (semT T j) t (.d (.tup (L.map spD))) st L 0 [] none none none hz ht2 hs2
  have e1 : sFor (iVal (gVar 1)) (.tup [.name 4, .name 5, .name 6]) (b_law_back_1 (semT T j)) [some (.d (.str t)), some (.d (.tup (L.map spD))), some (.d (.tup [])), some (.d (.int 0)), none, none, none] st = .nx [some (.d (.str t)), some (.d (.tup (L.map spD))), some (.d (.tup (backs t 0 L))), some (.d (.int (byE 0 L))), y4, y5, y6] st := by
    have e' := e
    simp only [List.nil_append] at e'
    rw [← e']; simp [sFor, iVal, rowOf]; rfl
  have i0 : sSet 2 (gTup gNil) [some (.d (.str t)), some (.d (.tup (L.map spD))), none, none, none, none, none] st = .nx [some (.d (.str t)), some (.d (.tup (L.map spD))), some (.d (.tup [])), none, none, none, none] st := by
    have h0 : 0 ≤ LID := Nat.zero_le _
    simp [sSet, gTup, h0, take_self]
  have i1 : sSet 3 (gCon (.int 0)) [some (.d (.str t)), some (.d (.tup (L.map spD))), some (.d (.tup [])), none, none, none, none] st = .nx [some (.d (.str t)), some (.d (.tup (L.map spD))), some (.d (.tup [])), some (.d (.int 0)), none, none, none] st := by simp [sSet, take_self]
  unfold g_law_back
  rw [seq_nx i0, seq_nx i1, seq_nx e1]
  simp [sRet, finish, settleV, settle, take_self]
theorem e_back (j : Nat) (t : List Nat) (L : List Sp) (st : Store) (ht : t.length ≤ 4000) (hL : L.length ≤ 400) (hs : ∀ x ∈ L, x.s.length ≤ 4000) (x : D) (h : semT T (j + 1) 7 [.d (.str t), .d (.tup (L.map spD))] st = .ok (.d x) st) :
    semT T (j + 2) 9 [.d (.str t), .d (.tup (L.map spD))] st = .ok (.d (.tup (backs t 0 L))) st := by
  show (if 2 = 2 then finish st.length (g_back_spans (semT T (j + 1)) [some (.d (.str t)), some (.d (.tup (L.map spD)))] st) else .bad) = _
  have c2 := e_undone j t L st ht hL hs
  simp [g_back_spans, sSeq, sExpr, gCall_def, ev_cons, h, c2, sRet, finish, settleV, take_self]
theorem e_back_ex (j : Nat) (t : List Nat) (v : D) (st : Store) (x : Exn) (h : semT T (j + 1) 7 [.d (.str t), .d v] st = .exn x st) :
    semT T (j + 2) 9 [.d (.str t), .d v] st = .exn x st := by
  show (if 2 = 2 then finish st.length (g_back_spans (semT T (j + 1)) [some (.d (.str t)), some (.d v)] st) else .bad) = _
  simp [g_back_spans, sSeq, sExpr, gCall_def, ev_cons, h, finish, take_self]
end K03
end

section
set_option Elab.async false
set_option linter.all false
set_option maxRecDepth 100000
set_option maxHeartbeats 1000000
/-! K03K: the same. -/
namespace K03
open PD
theorem e_same_str (j : Nat) (s : List Nat) (st : Store) : semT T (j + 1) 16 [.d (.str s), .d (.str s)] st = .ok (.d (.bl true)) st := by
  show (if 2 = 2 then finish st.length (g_law_same (semT T j) [some (.d (.str s)), some (.d (.str s)), none] st) else .bad) = _
  have h0 : (D.str s).deep ≤ 60 := by simp [D.deep]
  simp [g_law_same, sSeq, sIf, tVal, okLen, D.truth, ev_op, ev_cons, opOn, pIsi, D.isTy, take_self, sNext, pIs, D.isNon, sRet, gAnd, pEq, okDeep, h0, D.eqv, finish, settleV]
theorem e_same_int (j : Nat) (s : Int) (st : Store) : semT T (j + 1) 16 [.d (.int s), .d (.int s)] st = .ok (.d (.bl true)) st := by
  show (if 2 = 2 then finish st.length (g_law_same (semT T j) [some (.d (.int s)), some (.d (.int s)), none] st) else .bad) = _
  have h0 : (D.int s).deep ≤ 60 := by simp [D.deep]
  simp [g_law_same, sSeq, sIf, tVal, okLen, D.truth, ev_op, ev_cons, opOn, pIsi, D.isTy, take_self, sNext, pIs, D.isNon, sRet, gAnd, gNot, pEq, okDeep, h0, D.eqv, finish, settleV]
theorem ix_nat (l : List D) (k : Nat) (h : k < l.length) : pIx [.tup l, .int k] = some (.v l[k]) := by
  have hp : place (k : Int) l.length = some k := by
    unfold place
    rw [if_pos (by omega), if_pos (by omega)]; simp
  simp [pIx, hp, h]
theorem isIn_trues (n : Nat) : isIn (.bl false) ((rangeL 0 n).map fun _ => .bl true) = false := by
  generalize rangeL 0 n = l
  induction l with
  | nil => rfl
  | cons a l ih => simpa [isIn, D.eqv] using ih
theorem flat_trues (n : Nat) : (((rangeL 0 n).map fun _ => D.bl true).all flatD) = true := by
  simp [flatD]
theorem nat_big {n : Nat} (hl : n < LID) : -big62 ≤ (n : Int) ∧ (n : Int) < big62 := by
  have h := hl
  unfold LID at h
  exact ⟨by unfold big62; omega, by unfold big62; omega⟩
theorem range_int (a : SemE) (i : Int) (env : Env) (st : Store) (hi : -big62 ≤ i ∧ i < big62) (h : a env st = .ok (.d (.int i)) st) : iRange1 a env st = .ok ⟨rangeL 0 i, []⟩ st := by
  unfold iRange1
  rw [h]
  show (if -big62 ≤ i ∧ i < big62 then Out.ok (⟨rangeL 0 i, []⟩ : Src) st else .bad) = _
  rw [if_pos hi]
theorem range_nat (a : SemE) (n : Nat) (env : Env) (st : Store) (hl : n < LID) (h : a env st = .ok (.d (.int n)) st) : iRange1 a env st = .ok ⟨rangeL 0 n, []⟩ st := range_int a n env st (nat_big hl) h
theorem range_len (n : Nat) : (rangeL 0 (n : Int)).length = n := by simp [rangeL]
theorem range_mem {n : Nat} {d : D} (h : d ∈ rangeL 0 (n : Int)) : ∃ k : Nat, k < n ∧ d = .int k := by
  simp only [rangeL, List.mem_map, List.mem_range] at h
  obtain ⟨k, hk, rfl⟩ := h
  exact ⟨k, by omega, by simp⟩
theorem same_lc (j : Nat) (l : List D) (st : Store) (hl : l.length < LID) (h : ∀ d ∈ l, semT T j 16 [.d d, .d d] st = .ok (.d (.bl true)) st) :
    gLc (iRange1 (gOp pLen (gCons (gVar 0) gNil))) (.name 2) tTrue (gCall (semT T j) 16 (gCons (gOp pIx (gCons (gVar 0) (gCons (gVar 2) gNil))) (gCons (gOp pIx (gCons (gVar 1) (gCons (gVar 2) gNil))) gNil))) [2] [some (.d (.tup l)), some (.d (.tup l)), none] st
      = .ok (.obj st.length) (st ++ [.ls ((rangeL 0 l.length).map fun _ => .bl true)]) := by
  refine gLc_map (src := ⟨rangeL 0 l.length, []⟩) (fun _ => .bl true) (range_nat _ l.length _ _ hl ?_) rfl ?_ ?_
  · simp [ev_op, ev_cons, opOn, pLen, take_self]
  · rw [range_len]; exact hl
  · intro d hd
    obtain ⟨k, hk, rfl⟩ := range_mem hd
    have hx := ix_nat l k hk
    have hm := h _ (List.getElem_mem hk)
    simp [lcStep, wipeE, Tg.put, tTrue, gCall_def, ev_op, ev_cons, opOn, hx, hm, take_self]
theorem same_len (l : List D) (st : Store) : gOp pEq (gCons (gOp pLen (gCons (gVar 0) gNil)) (gCons (gOp pLen (gCons (gVar 1) gNil)) gNil)) [some (.d (.tup l)), some (.d (.tup l)), none] st = .ok (.d (.bl true)) st := by
  have h0 : (D.int l.length).deep ≤ 60 := Nat.zero_le _
  have e1 : pEq [.int l.length, .int l.length] = some (.v (.bl true)) := by
    generalize (l.length : Int) = n at h0
    simp [pEq, okDeep, h0, D.eqv]
  have e0 : pLen [.tup l] = some (.v (.int l.length)) := rfl
  simp only [ev_op, ev_cons, opOn, gVar_0, gVar_s, gNil_ok, bind_ok, nowAll_d, nowAll_nil, Option.map, e0, e1, give_v, settle_ok_d, take_self]
theorem same_in (n : Nat) : pNotIn [.bl false, .lst ((rangeL 0 n).map fun _ => .bl true)] = some (.v (.bl true)) := by
  have h1 := isIn_trues n
  have h2 := flat_trues n
  generalize (rangeL 0 (n : Int)).map (fun _ => D.bl true) = m at h1 h2
  simp only [pNotIn, h1, h2]; rfl
theorem same_nin (g : SemE) (m l : List D) (st : Store) (e : g [some (.d (.tup l)), some (.d (.tup l)), none] st = .ok (.obj st.length) (st ++ [.ls m])) (h2 : pNotIn [.bl false, .lst m] = some (.v (.bl true))) :
    gOp pNotIn (gCons (gCon (.bl false)) (gCons g gNil)) [some (.d (.tup l)), some (.d (.tup l)), none] st = .ok (.d (.bl true)) st := by
  rw [ev_op, ev_cons, gCon_ok]
  simp only [bind_ok, ev_cons, e, gNil_ok]
  simp only [opOn, nowAll_d, nowAll_new, Option.map, h2]
  simp [settle, settleV]
theorem same_if (g : SemE) (l : List D) (st : Store) (h1 : gOp pEq (gCons (gOp pLen (gCons (gVar 0) gNil)) (gCons (gOp pLen (gCons (gVar 1) gNil)) gNil)) [some (.d (.tup l)), some (.d (.tup l)), none] st = .ok (.d (.bl true)) st)
   (h3 : g [some (.d (.tup l)), some (.d (.tup l)), none] st = .ok (.d (.bl true)) st) : sIf (tVal (gOp (pIsi .tuple) (gCons (gVar 0) gNil))) (sRet (gAnd (gOp (pIsi .tuple) (gCons (gVar 1) gNil)) (gAnd (gOp pEq (gCons (gOp pLen (gCons (gVar 0) gNil)) (gCons (gOp pLen (gCons (gVar 1) gNil)) gNil))) g))) sNext [some (.d (.tup l)), some (.d (.tup l)), none] st = .rt (.d (.bl true)) st := by
  have hi : ∀ i, i < 2 → gOp (pIsi .tuple) (gCons (gVar i) gNil) [some (.d (.tup l)), some (.d (.tup l)), none] st = .ok (.d (.bl true)) st := fun i hi => by
    match i with
    | 0 => simp [ev_op, ev_cons, opOn, pIsi, D.isTy, take_self]
    | 1 => simp [ev_op, ev_cons, opOn, pIsi, D.isTy, take_self]
    | n + 2 => omega
  simp only [sIf, tVal, hi 0 (by decide), hi 1 (by decide), sRet, gAnd, h1, h3, bind_ok, now_d, okLen, D.truth, take_self, toS_ok, if_true]
theorem same_tup (F : SemF) (l : List D) (st : Store) (e : gLc (iRange1 (gOp pLen (gCons (gVar 0) gNil))) (.name 2) tTrue (gCall F 16 (gCons (gOp pIx (gCons (gVar 0) (gCons (gVar 2) gNil))) (gCons (gOp pIx (gCons (gVar 1) (gCons (gVar 2) gNil))) gNil))) [2] [some (.d (.tup l)), some (.d (.tup l)), none] st = .ok (.obj st.length) (st ++ [.ls ((rangeL 0 l.length).map fun _ => .bl true)])) : finish st.length (g_law_same F [some (.d (.tup l)), some (.d (.tup l)), none] st) = .ok (.d (.bl true)) st := by
  unfold g_law_same
  rw [seq_rt (same_if _ l st (same_len l st) (same_nin _ _ l st e (same_in l.length)))]
  show Out.ok _ _ = _
  rw [take_self]
theorem e_same_tup (j : Nat) (l : List D) (st : Store) (hl : l.length < LID) (h : ∀ d ∈ l, semT T j 16 [.d d, .d d] st = .ok (.d (.bl true)) st) : semT T (j + 1) 16 [.d (.tup l), .d (.tup l)] st = .ok (.d (.bl true)) st :=
  same_tup _ l st (same_lc j l st hl h)
theorem e_same_sp (j : Nat) (a b : Int) (s : List Nat) (st : Store) : semT T (j + 2) 16 [.d (.tup [.int a, .int b, .str s]), .d (.tup [.int a, .int b, .str s])] st = .ok (.d (.bl true)) st := by
  refine e_same_tup _ _ _ (by simp [LID]) fun d hd => ?_
  simp only [List.mem_cons, List.not_mem_nil, or_false] at hd
  rcases hd with rfl | rfl | rfl
  · exact e_same_int j _ st
  · exact e_same_int j _ st
  · exact e_same_str j _ st
theorem backs_mem (t : List Nat) : ∀ (L : List Sp) (p : Int) (d : D), d ∈ backs t p L → ∃ a b s, d = .tup [.int a, .int b, .str s]
  | x :: r, p, d, h => by
    rcases List.mem_cons.mp h with rfl | h
    · exact ⟨_, _, _, rfl⟩
    · exact backs_mem t r _ d h
theorem e_same_backs (j : Nat) (t : List Nat) (L : List Sp) (p : Int) (st : Store) (hL : L.length ≤ 400) : semT T (j + 3) 16 [.d (.tup (backs t p L)), .d (.tup (backs t p L))] st = .ok (.d (.bl true)) st := by
  refine e_same_tup _ _ _ (by rw [backs_len]; unfold LID; omega) fun d hd => ?_
  obtain ⟨a, b, s, rfl⟩ := backs_mem t L p d hd
  exact e_same_sp j a b s st
end K03
end

section
set_option Elab.async false
set_option linter.all false
set_option maxRecDepth 100000
set_option maxHeartbeats 1000000
/-! K03L: the draws. -/
namespace K03
open PD
def IsBag (c : List D) : Prop := ∃ a b x y : Int, c = [.int a, .int b, .int x, .int y]
theorem ix_obj (st : Store) (n : Nat) (a b x y : Int) (h : st[n]? = some (.ls [.int a, .int b, .int x, .int y])) (env : Env) (i : Nat) (h0 : env[i]? = some (some (.obj n))) :
    gOp pIx (gCons (gVar i) (gCons (gCon (.int 0)) gNil)) env st = .ok (.d (.int a)) st ∧ gOp pIx (gCons (gVar i) (gCons (gCon (.int 1)) gNil)) env st = .ok (.d (.int b)) st
    ∧ gOp pIx (gCons (gVar i) (gCons (gCon (.int 2)) gNil)) env st = .ok (.d (.int x)) st ∧ gOp pIx (gCons (gVar i) (gCons (gCon (.int 3)) gNil)) env st = .ok (.d (.int y)) st := by
  have hn : ∀ r : List A, nowAll (.obj n :: r) st = (nowAll r st).map (D.lst [.int a, .int b, .int x, .int y] :: ·) := fun r => by
    cases hr : nowAll r st <;> simp [nowAll, now, h, hr]
  have i0 : pIx [.lst [.int a, .int b, .int x, .int y], .int 0] = some (.v (.int a)) := rfl
  have i1 : pIx [.lst [.int a, .int b, .int x, .int y], .int 1] = some (.v (.int b)) := rfl
  have i2 : pIx [.lst [.int a, .int b, .int x, .int y], .int 2] = some (.v (.int x)) := rfl
  have i3 : pIx [.lst [.int a, .int b, .int x, .int y], .int 3] = some (.v (.int y)) := rfl
  refine ⟨?_, ?_, ?_, ?_⟩ <;> simp [ev_op, ev_cons, gVar, h0, opOn, hn, i0, i1, i2, i3, take_self]
theorem set_ix (env : Env) (st : Store) (n i m : Nat) (k : Int) (l : List D) (g : SemE) (v : D) (h0 : env[i]? = some (some (.obj n))) (hg : g env st = .ok (.d v) st) (h : st[n]? = some (.ls l)) (hp : place k l.length = some m) :
    sSetIx (gVar i) (gCon (.int k)) g env st = .nx env (st.set n (.ls (l.set m v))) := by
  have ht : (st.set n (.ls (l.set m v))).take st.length = st.set n (.ls (l.set m v)) := List.take_of_length_le (by simp)
  simp [sSetIx, hg, gVar, h0, h, hp, ht]
theorem get_set {st : Store} {n : Nat} {x : MO} (y : MO) (h : st[n]? = some x) : (st.set n y)[n]? = some y := by
  have : n < st.length := by
    rcases Nat.lt_or_ge n st.length with h1 | h1
    · exact h1
    · rw [List.getElem?_eq_none h1] at h; cases h
  simp [this]
theorem small_mod (i : Int) : smallI (i % 2147483647) = true := by
  have h1 := Int.emod_nonneg i (show (2147483647 : Int) ≠ 0 by decide)
  have h2 := Int.emod_lt_of_pos i (show (0 : Int) < 2147483647 by decide)
  unfold smallI
  rw [Bool.and_eq_true, decide_eq_true_eq, decide_eq_true_eq]
  omega
/-- the part of a draw that makes new numbers -/
def drawIf : SemS :=
  (sIf (tVal (gOp pEq (gCons (gOp pIx (gCons (gVar 0) (gCons (gCon (.int 0)) gNil))) (gCons (gCon (.int 0)) gNil)))) (sSeq (sSetIx (gVar 0) (gCon (.int 2)) (gOp pAdd (gCons (gOp pIx (gCons (gVar 0) (gCons (gCon (.int 2)) gNil))) (gCons (gCon (.int 1)) gNil))))
    (sSeq (sSet 2 (gOp pMod (gCons (gOp pInt (gCons (gOp pAdd (gCons (gOp pAdd (gCons (gOp pAdd (gCons (gOp pMul (gCons (gOp pIx (gCons (gVar 0) (gCons (gCon (.int 1)) gNil))) (gCons (gCon (.int 48271)) gNil))) (gCons (gOp pMul (gCons (gOp pIx (gCons (gVar 0) (gCons (gCon (.int 3)) gNil))) (gCons (gCon (.int 69621)) gNil))) gNil))) (gCons (gOp pMul (gCons (gOp pIx (gCons (gVar 0) (gCons (gCon (.int 2)) gNil))) (gCons (gCon (.int 16807)) gNil))) gNil))) (gCons (gCon (.int 11)) gNil))) gNil)) (gCons (gCon (.int 2147483647)) gNil))))
    (sSeq (sSetIx (gVar 0) (gCon (.int 0)) (gOp pAdd (gCons (gOp pMul (gCons (gVar 2) (gCons (gCon (.int 2147483629)) gNil))) (gCons (gOp pMod (gCons (gOp pInt (gCons (gOp pAdd (gCons (gOp pMul (gCons (gVar 2) (gCons (gVar 2) gNil))) (gCons (gOp pIx (gCons (gVar 0) (gCons (gCon (.int 3)) gNil))) gNil))) gNil)) (gCons (gCon (.int 2147483629)) gNil))) gNil))))
    (sSeq (sIf (tAnd (tVal (gOp pEq (gCons (gOp pIx (gCons (gVar 0) (gCons (gCon (.int 2)) gNil))) (gCons (gCon (.int 1)) gNil)))) (tVal (gOp pGe (gCons (gOp pIx (gCons (gVar 0) (gCons (gCon (.int 3)) gNil))) (gCons (gOp pPow (gCons (gCon (.int 10)) (gCons (gCon (.int 18)) gNil))) gNil))))) (sSetIx (gVar 0) (gCon (.int 0)) (gOp pIx (gCons (gVar 0) (gCons (gCon (.int 3)) gNil)))) sNext)
    (sSetIx (gVar 0) (gCon (.int 1)) (gVar 2)))))) sNext)
theorem set_same {st : Store} {n : Nat} {x : MO} (h : st[n]? = some x) : st.set n x = st := by
  apply List.ext_getElem?
  intro i
  by_cases hi : n = i
  · subst hi; rw [get_set x h, h]
  · rw [List.getElem?_set_ne hi]
theorem d0 (i j : Int) : okDeep (.int i) (.int j) = true := rfl
theorem pq (i j : Int) : pEq [.int i, .int j] = some (.v (.bl (i == j))) := by simp [pEq, d0, D.eqv]
theorem sm1 : smallI 48271 = true := rfl
theorem sm2 : smallI 69621 = true := rfl
theorem sm3 : smallI 16807 = true := rfl
theorem sm4 : smallI 2147483629 = true := rfl
section
variable (n : Nat) (st : Store) (m o v : Option A) (a b x y : Int) (h : st[n]? = some (.ls [.int a, .int b, .int x, .int y]))
include h
theorem draw_A : sSetIx (gVar 0) (gCon (.int 2)) (gOp pAdd (gCons (gOp pIx (gCons (gVar 0) (gCons (gCon (.int 2)) gNil))) (gCons (gCon (.int 1)) gNil))) [some (.obj n), m, o, v] st = .nx [some (.obj n), m, o, v] (st.set n (.ls [.int a, .int b, .int (x + 1), .int y])) := by
  have s0 := ix_obj st n a b x y h [some (.obj n), m, o, v] 0 rfl
  refine set_ix _ st n 0 2 2 _ _ _ rfl ?_ h rfl
  rw [ev_op, ev_cons, s0.2.2.1]
  simp [ev_cons, opOn, pAdd, take_self]
theorem draw_B : ∃ X : Int, smallI X = true ∧ sSet 2 (gOp pMod (gCons (gOp pInt (gCons (gOp pAdd (gCons (gOp pAdd (gCons (gOp pAdd (gCons (gOp pMul (gCons (gOp pIx (gCons (gVar 0) (gCons (gCon (.int 1)) gNil))) (gCons (gCon (.int 48271)) gNil))) (gCons (gOp pMul (gCons (gOp pIx (gCons (gVar 0) (gCons (gCon (.int 3)) gNil))) (gCons (gCon (.int 69621)) gNil))) gNil))) (gCons (gOp pMul (gCons (gOp pIx (gCons (gVar 0) (gCons (gCon (.int 2)) gNil))) (gCons (gCon (.int 16807)) gNil))) gNil))) (gCons (gCon (.int 11)) gNil))) gNil)) (gCons (gCon (.int 2147483647)) gNil))) [some (.obj n), m, o, v] st = .nx [some (.obj n), m, some (.d (.int X)), v] st := by
  obtain ⟨s0, s1, s2, s3⟩ := ix_obj st n a b x y h [some (.obj n), m, o, v] 0 rfl
  refine ⟨(b * 48271 + y * 69621 + x * 16807 + 11) % 2147483647, small_mod _, ?_⟩
  have hp : (0 : Int) < 2147483647 := by decide
  simp only [sSet, ev_op (p := pMod), ev_op (p := pInt), ev_op (p := pAdd), ev_op (p := pMul), ev_cons, s1, s2, s3, bind_ok, gCon_ok, gNil_ok, opOn, nowAll_d, nowAll_nil, Option.map, pMul, sm1, sm2, sm3, Bool.or_true, if_true, pAdd, pInt, pMod, hp, give_v, settle_ok_d, take_self, toS_ok, List.set]
theorem draw_C (X : Int) (hX : smallI X = true) : ∃ A' : Int, sSetIx (gVar 0) (gCon (.int 0)) (gOp pAdd (gCons (gOp pMul (gCons (gVar 2) (gCons (gCon (.int 2147483629)) gNil))) (gCons (gOp pMod (gCons (gOp pInt (gCons (gOp pAdd (gCons (gOp pMul (gCons (gVar 2) (gCons (gVar 2) gNil))) (gCons (gOp pIx (gCons (gVar 0) (gCons (gCon (.int 3)) gNil))) gNil))) gNil)) (gCons (gCon (.int 2147483629)) gNil))) gNil))) [some (.obj n), m, some (.d (.int X)), v] st = .nx [some (.obj n), m, some (.d (.int X)), v] (st.set n (.ls [.int A', .int b, .int x, .int y])) := by
  obtain ⟨s0, s1, s2, s3⟩ := ix_obj st n a b x y h [some (.obj n), m, some (.d (.int X)), v] 0 rfl
  have hp : (0 : Int) < 2147483629 := by decide
  have g2 : gVar 2 [some (.obj n), m, some (.d (.int X)), v] st = .ok (.d (.int X)) st := rfl
  refine ⟨X * 2147483629 + (X * X + y) % 2147483629, set_ix _ st n 0 0 0 _ _ _ rfl ?_ h rfl⟩
  simp only [ev_op (p := pMod), ev_op (p := pInt), ev_op (p := pAdd), ev_op (p := pMul), ev_cons, s3, g2, bind_ok, gCon_ok, gNil_ok, opOn, nowAll_d, nowAll_nil, Option.map, pMul, sm4, hX, Bool.or_true, if_true, pAdd, pInt, pMod, hp, give_v, settle_ok_d, take_self]
theorem draw_D (X : Int) : ∃ A' : Int, sIf (tAnd (tVal (gOp pEq (gCons (gOp pIx (gCons (gVar 0) (gCons (gCon (.int 2)) gNil))) (gCons (gCon (.int 1)) gNil)))) (tVal (gOp pGe (gCons (gOp pIx (gCons (gVar 0) (gCons (gCon (.int 3)) gNil))) (gCons (gOp pPow (gCons (gCon (.int 10)) (gCons (gCon (.int 18)) gNil))) gNil))))) (sSetIx (gVar 0) (gCon (.int 0)) (gOp pIx (gCons (gVar 0) (gCons (gCon (.int 3)) gNil)))) sNext [some (.obj n), m, some (.d (.int X)), v] st = .nx [some (.obj n), m, some (.d (.int X)), v] (st.set n (.ls [.int A', .int b, .int x, .int y])) := by
  obtain ⟨s0, s1, s2, s3⟩ := ix_obj st n a b x y h [some (.obj n), m, some (.d (.int X)), v] 0 rfl
  have hw : pPow [.int 10, .int 18] = some (.v (.int 1000000000000000000)) := rfl
  have e1 : gOp pEq (gCons (gOp pIx (gCons (gVar 0) (gCons (gCon (.int 2)) gNil))) (gCons (gCon (.int 1)) gNil)) [some (.obj n), m, some (.d (.int X)), v] st = .ok (.d (.bl (x == 1))) st := by
    simp only [ev_op (p := pEq), ev_cons, s2, bind_ok, gCon_ok, gNil_ok, opOn, nowAll_d, nowAll_nil, Option.map, pq, give_v, settle_ok_d, take_self]
  have e2 : gOp pGe (gCons (gOp pIx (gCons (gVar 0) (gCons (gCon (.int 3)) gNil))) (gCons (gOp pPow (gCons (gCon (.int 10)) (gCons (gCon (.int 18)) gNil))) gNil)) [some (.obj n), m, some (.d (.int X)), v] st = .ok (.d (.bl (decide (1000000000000000000 ≤ y)))) st := by
    simp only [ev_op (p := pGe), ev_op (p := pPow), ev_cons, s3, bind_ok, gCon_ok, gNil_ok, opOn, nowAll_d, nowAll_nil, Option.map, hw, pGe, give_v, settle_ok_d, take_self]
  have t := set_ix [some (.obj n), m, some (.d (.int X)), v] st n 0 0 0 _ _ _ rfl s3 h rfl
  simp only [sIf, tAnd, tVal, e1, e2, bind_ok, now_d, okLen, D.truth, if_true, take_self]
  by_cases h1 : (x == 1) = true
  · by_cases h2 : decide (1000000000000000000 ≤ y) = true
    · refine ⟨y, ?_⟩
      simp only [h1, h2, if_true, toS_ok, t]; rfl
    · refine ⟨a, ?_⟩
      simp only [h1, h2, if_true, toS_ok, sNext, set_same h]; rfl
  · refine ⟨a, ?_⟩
    simp only [h1, toS_ok, sNext, set_same h]; rfl
theorem draw_E (X : Int) : sSetIx (gVar 0) (gCon (.int 1)) (gVar 2) [some (.obj n), m, some (.d (.int X)), v] st = .nx [some (.obj n), m, some (.d (.int X)), v] (st.set n (.ls [.int a, .int X, .int x, .int y])) :=
  set_ix _ st n 0 1 1 _ _ _ rfl rfl h rfl
theorem draw_if : ∃ a' b' x' o', drawIf [some (.obj n), m, o, v] st = .nx [some (.obj n), m, o', v] (st.set n (.ls [.int a', .int b', .int x', .int y])) := by
  obtain ⟨s0, s1, s2, s3⟩ := ix_obj st n a b x y h [some (.obj n), m, o, v] 0 rfl
  have e1 : gOp pEq (gCons (gOp pIx (gCons (gVar 0) (gCons (gCon (.int 0)) gNil))) (gCons (gCon (.int 0)) gNil)) [some (.obj n), m, o, v] st = .ok (.d (.bl (a == 0))) st := by
    simp only [ev_op (p := pEq), ev_cons, s0, bind_ok, gCon_ok, gNil_ok, opOn, nowAll_d, nowAll_nil, Option.map, pq, give_v, settle_ok_d, take_self]
  by_cases h1 : (a == 0) = true
  · have hA := draw_A n st m o v a b x y h
    have h2 := get_set (.ls [.int a, .int b, .int (x + 1), .int y]) h
    obtain ⟨X, hX, hB⟩ := draw_B n _ m o v a b (x + 1) y h2
    obtain ⟨a1, hC⟩ := draw_C n _ m v a b (x + 1) y h2 X hX
    have h3 := get_set (.ls [.int a1, .int b, .int (x + 1), .int y]) h2
    obtain ⟨a2, hD⟩ := draw_D n _ m v a1 b (x + 1) y h3 X
    have h4 := get_set (.ls [.int a2, .int b, .int (x + 1), .int y]) h3
    have hE := draw_E n _ m v a2 b (x + 1) y h4 X
    refine ⟨a2, X, x + 1, some (.d (.int X)), ?_⟩
    unfold drawIf
    simp only [sIf, tVal, e1, bind_ok, now_d, okLen, D.truth, if_true, take_self, h1, toS_ok]
    rw [seq_nx hA, seq_nx hB, seq_nx hC, seq_nx hD, hE]
    simp only [List.set_set]
  · refine ⟨a, b, x, o, ?_⟩
    unfold drawIf
    simp only [sIf, tVal, e1, bind_ok, now_d, okLen, D.truth, if_true, take_self, h1, toS_ok, sNext, set_same h]; rfl
end
theorem e_draw (j n : Nat) (st : Store) (c : List D) (hc : IsBag c) (h : st[n]? = some (.ls c)) (m : Int) (hm : m < 1073741824) : ∃ (v : Int) (c' : List D), semT T (j + 1) 13 [.obj n, .d (.int m)] st = .ok (.d (.int v)) (st.set n (.ls c')) ∧ IsBag c' ∧ 0 ≤ v ∧ (1 ≤ m → v < m) ∧ (m < 1 → v = 0) := by
  obtain ⟨a, b, x, y, rfl⟩ := hc
  by_cases h1 : m < 1
  · refine ⟨0, _, ?_, ⟨a, b, x, y, rfl⟩, Int.le_refl _, fun h2 => by omega, fun _ => rfl⟩
    rw [set_same h]
    show (if 2 = 2 then finish st.length (g_law_draw (semT T j) [some (.obj n), some (.d (.int m)), none, none] st) else .bad) = _
    rw [if_pos rfl]
    have e : sIf (tVal (gOp pLt (gCons (gVar 1) (gCons (gCon (.int 1)) gNil)))) (sRet (gCon (.int 0))) sNext [some (.obj n), some (.d (.int m)), none, none] st = .rt (.d (.int 0)) st := by
      simp [sIf, tVal, okLen, D.truth, ev_op, ev_cons, opOn, pLt, h1, take_self, sRet]
    unfold g_law_draw
    rw [seq_rt e]
    simp [finish, settleV, settle, take_self]
  · have e : sIf (tVal (gOp pLt (gCons (gVar 1) (gCons (gCon (.int 1)) gNil)))) (sRet (gCon (.int 0))) sNext [some (.obj n), some (.d (.int m)), none, none] st = .nx [some (.obj n), some (.d (.int m)), none, none] st := by
      simp [sIf, tVal, okLen, D.truth, ev_op, ev_cons, opOn, pLt, h1, take_self, sRet, sNext]
    obtain ⟨a1, b1, x1, o1, e1⟩ := draw_if n st (some (.d (.int m))) none none a b x y h
    have h2 := get_set (.ls [.int a1, .int b1, .int x1, .int y]) h
    obtain ⟨s0, -⟩ := ix_obj _ n a1 b1 x1 y h2 [some (.obj n), some (.d (.int m)), o1, none] 0 rfl
    have e2 : sSet 3 (gOp pIx (gCons (gVar 0) (gCons (gCon (.int 0)) gNil))) [some (.obj n), some (.d (.int m)), o1, none] (st.set n (.ls [.int a1, .int b1, .int x1, .int y])) = .nx [some (.obj n), some (.d (.int m)), o1, some (.d (.int a1))] (st.set n (.ls [.int a1, .int b1, .int x1, .int y])) := by
      simp only [sSet, s0, toS_ok, List.set]
    have hm2 : 0 < m ∧ m < 1073741824 := ⟨by omega, hm⟩
    have e3 : sSetIx (gVar 0) (gCon (.int 0)) (gOp pFdiv (gCons (gVar 3) (gCons (gVar 1) gNil))) [some (.obj n), some (.d (.int m)), o1, some (.d (.int a1))] (st.set n (.ls [.int a1, .int b1, .int x1, .int y])) = .nx [some (.obj n), some (.d (.int m)), o1, some (.d (.int a1))] ((st.set n (.ls [.int a1, .int b1, .int x1, .int y])).set n (.ls [.int (a1 / m), .int b1, .int x1, .int y])) := by
      refine set_ix _ _ n 0 0 0 _ _ (.int (a1 / m)) rfl ?_ h2 rfl
      generalize st.set n (.ls [.int a1, .int b1, .int x1, .int y]) = st2
      simp [ev_op, ev_cons, opOn, pFdiv, hm2, take_self]
    refine ⟨a1 % m, [.int (a1 / m), .int b1, .int x1, .int y], ?_, ⟨_, _, _, _, rfl⟩, Int.emod_nonneg _ (by omega), fun _ => Int.emod_lt_of_pos _ (by omega), fun h3 => by omega⟩
    show (if 2 = 2 then finish st.length (g_law_draw (semT T j) [some (.obj n), some (.d (.int m)), none, none] st) else .bad) = _
    rw [if_pos rfl]
    unfold drawIf at e1
    unfold g_law_draw
    rw [seq_nx e, seq_nx e1, seq_nx e2, seq_nx e3, List.set_set]
    have hl : (st.set n (.ls [.int (a1 / m), .int b1, .int x1, .int y])).take st.length = st.set n (.ls [.int (a1 / m), .int b1, .int x1, .int y]) := List.take_of_length_le (by simp)
    generalize hq : st.set n (.ls [.int (a1 / m), .int b1, .int x1, .int y]) = st2 at hl ⊢
    have hm3 : 0 < m := hm2.1
    simp [sRet, ev_op, ev_cons, opOn, pInt, pMod, hm3, finish, settleV, settle, take_self, hl]
end K03
end

section
set_option Elab.async false
set_option linter.all false
set_option maxRecDepth 100000
set_option maxHeartbeats 1000000
/-! K03M: bags, one of a row, some text. -/
namespace K03
open PD
theorem take_set (st : Store) (n : Nat) (x : MO) : (st.set n x).take st.length = st.set n x := List.take_of_length_le (by simp)
theorem e_bag (j k : Nat) (ns : List Int) (st : Store) (hk : k < 1000) (hn : ns.length ≤ 63) : ∃ c, semT T (j + 1) 12 [.d (.lst (ns.map D.int)), .d (.int k)] st = .ok (.obj st.length) (st ++ [.ls c]) ∧ IsBag c := by
  have h4 : (4 : Nat) ≤ LID := by decide
  have hs : smallI 48611 = true := rfl
  have hl : pLen [.lst (ns.map D.int)] = some (.v (.int ns.length)) := by simp [pLen]
  have hr : ∀ cell : Int, sRet (gLst (gCons (gCon (.int 0)) (gCons (gOp pAdd (gCons (gCon (.int 9007)) (gCons (gOp pMul (gCons (gCon (.int 48611)) (gCons (gVar 1) gNil))) gNil))) (gCons (gCon (.int 0)) (gCons (gVar 2) gNil))))) [some (.d (.lst (ns.map D.int))), some (.d (.int k)), some (.d (.int cell))] st
      = .rt (.obj st.length) (st ++ [.ls [.int 0, .int (9007 + 48611 * k), .int 0, .int cell]]) := fun cell => by
    simp [sRet, gLst, ev_op, ev_cons, opOn, pMul, hs, pAdd, take_self, h4]
  by_cases h : k < ns.length
  · have hp : place (k : Int) (ns.map D.int).length = some k := by
      unfold place
      rw [if_pos (by omega), if_pos (by simp; omega)]; simp
    rw [List.length_map] at hp
    have hx : pIx [.lst (ns.map D.int), .int k] = some (.v (.int ns[k])) := by simp [pIx, hp, h]
    refine ⟨[.int 0, .int (9007 + 48611 * k), .int 0, .int ns[k]], ?_, ⟨_, _, _, _, rfl⟩⟩
    show (if 2 = 2 then finish st.length (g_law_bag (semT T j) [some (.d (.lst (ns.map D.int))), some (.d (.int k)), none] st) else .bad) = _
    rw [if_pos rfl]
    have e1 : sSet 2 (gCon (.int 0)) [some (.d (.lst (ns.map D.int))), some (.d (.int k)), none] st = .nx [some (.d (.lst (ns.map D.int))), some (.d (.int k)), some (.d (.int 0))] st := rfl
    have e2 : sIf (tVal (gOp pLt (gCons (gVar 1) (gCons (gOp pLen (gCons (gVar 0) gNil)) gNil)))) (sSet 2 (gOp pInt (gCons (gOp pIx (gCons (gVar 0) (gCons (gVar 1) gNil))) gNil))) sNext [some (.d (.lst (ns.map D.int))), some (.d (.int k)), some (.d (.int 0))] st
        = .nx [some (.d (.lst (ns.map D.int))), some (.d (.int k)), some (.d (.int ns[k]))] st := by
      simp [sIf, tVal, okLen, D.truth, ev_op, ev_cons, opOn, hl, pLt, h, take_self, hx, pInt, sSet]
    unfold g_law_bag
    rw [seq_nx e1, seq_nx e2, hr]
    simp [finish, settleV]
  · refine ⟨[.int 0, .int (9007 + 48611 * k), .int 0, .int 0], ?_, ⟨_, _, _, _, rfl⟩⟩
    show (if 2 = 2 then finish st.length (g_law_bag (semT T j) [some (.d (.lst (ns.map D.int))), some (.d (.int k)), none] st) else .bad) = _
    rw [if_pos rfl]
    have e1 : sSet 2 (gCon (.int 0)) [some (.d (.lst (ns.map D.int))), some (.d (.int k)), none] st = .nx [some (.d (.lst (ns.map D.int))), some (.d (.int k)), some (.d (.int 0))] st := rfl
    have e2 : sIf (tVal (gOp pLt (gCons (gVar 1) (gCons (gOp pLen (gCons (gVar 0) gNil)) gNil)))) (sSet 2 (gOp pInt (gCons (gOp pIx (gCons (gVar 0) (gCons (gVar 1) gNil))) gNil))) sNext [some (.d (.lst (ns.map D.int))), some (.d (.int k)), some (.d (.int 0))] st
        = .nx [some (.d (.lst (ns.map D.int))), some (.d (.int k)), some (.d (.int 0))] st := by
      simp [sIf, tVal, okLen, D.truth, ev_op, ev_cons, opOn, hl, pLt, h, take_self, sNext]
    unfold g_law_bag
    rw [seq_nx e1, seq_nx e2, hr]
    simp [finish, settleV]
theorem e_one (j n p : Nat) (st : Store) (c row : List D) (hc : IsBag c) (h : st[n]? = some (.ls c)) (hp : st[p]? = some (.ls row)) (hnp : n ≠ p) (h1 : 1 ≤ row.length) (h2 : row.length < 1000) :
    ∃ (v : Nat) (c' : List D) (d : D), semT T (j + 2) 14 [.obj n, .obj p] st = .ok (.d d) (st.set n (.ls c')) ∧ IsBag c' ∧ row[v]? = some d := by
  obtain ⟨v, c', e, hc', hv0, hv1, -⟩ := e_draw j n st c hc h row.length (by omega)
  have hv := hv1 (by omega)
  have hvn : v.toNat < row.length := by omega
  refine ⟨v.toNat, c', row[v.toNat], ?_, hc', List.getElem?_eq_getElem hvn⟩
  show (if 2 = 2 then finish st.length (g_law_one (semT T (j + 1)) [some (.obj n), some (.obj p)] st) else .bad) = _
  rw [if_pos rfl]
  have hl : gOp pLen (gCons (gVar 1) gNil) [some (.obj n), some (.obj p)] st = .ok (.d (.int row.length)) st := by
    simp [ev_op, ev_cons, opOn, nowAll, now, hp, pLen, take_self]
  have hp2 : (st.set n (.ls c'))[p]? = some (.ls row) := by rw [List.getElem?_set_ne hnp]; exact hp
  have hpl : place v row.length = some v.toNat := by
    unfold place
    rw [if_pos hv0, if_pos hv]
  have hx : pIx [.lst row, .int v] = some (.v row[v.toNat]) := by simp [pIx, hpl, hvn]
  have ht := take_set st n (.ls c')
  have hcl : gCall (semT T (j + 1)) 13 (gCons (gVar 0) (gCons (gOp pLen (gCons (gVar 1) gNil)) gNil)) [some (.obj n), some (.obj p)] st = .ok (.d (.int v)) (st.set n (.ls c')) := by
    simp only [gCall_def, ev_cons, gVar_0, bind_ok, hl, gNil_ok, e, settle_ok_d, ht]
  generalize st.set n (.ls c') = st2 at hp2 ht hcl ⊢
  have ho : gOp pIx (gCons (gVar 1) (gCons (gCall (semT T (j + 1)) 13 (gCons (gVar 0) (gCons (gOp pLen (gCons (gVar 1) gNil)) gNil))) gNil)) [some (.obj n), some (.obj p)] st = .ok (.d row[v.toNat]) st2 := by
    rw [ev_op]
    simp [ev_cons, hcl, opOn, nowAll, now, hp2, hx, settle]
    show Out.ok _ (List.take _ _) = _
    rw [ht]
  unfold g_law_one
  simp only [sRet, ho, toS_ok, finish]
  show Out.ok _ (List.take _ _) = _
  rw [ht]
end K03
end

section
set_option Elab.async false
set_option linter.all false
set_option maxRecDepth 100000
set_option maxHeartbeats 1000000
/-! K03N: some text. -/
namespace K03
open PD
theorem get_lt {st : Store} {n : Nat} {x : MO} (h : st[n]? = some x) : n < st.length := by
  rcases Nat.lt_or_ge n st.length with h1 | h1
  · exact h1
  · rw [List.getElem?_eq_none h1] at h; cases h
/-- a comprehension that draws -/
theorem gLc_inv {it : SemI} {tg : Tg} {cnd : SemT} {elt : SemE} {own : List Nat} {env : Env} {st st1 : Store} {src : Src} (P : Store → Prop) (R : D → Prop) (h1 : it env st = .ok src st1) (hp : P st1) (hL : ∀ s, P s → s.length = st.length)
    (h2 : ∀ s, P s → src.ok s = true) (h3 : src.items.length < LID)
    (h4 : ∀ d s, P s → ∃ x s', lcStep tg cnd elt (wipeE env own) d s = .ok (some x) s' ∧ P (s'.take s.length) ∧ R x) : ∃ xs s', gLc it tg cnd elt own env st = .ok (.obj st.length) (s' ++ [.ls xs]) ∧ P s' ∧ xs.length = src.items.length ∧ ∀ x ∈ xs, R x := by
  obtain ⟨xs, s', e, p, l, r⟩ := lc_inv P R h2 h4 src.items st1 hp
  refine ⟨xs, s', ?_, p, l, r⟩
  unfold gLc
  rw [h1]
  simp only [bind_ok]
  rw [if_pos h3, e]
  have := hL s' p
  rw [← this]
  simp
def rowAb : List D := [.str [97], .str [98], .str [32], .str [10], .str [49], .str [97], .str [98]]
def isCh (d : D) : Prop := ∃ c, d = .str [c] ∧ c ∈ [97, 98, 32, 10, 49]
theorem rowAb_ch {v : Nat} {d : D} (h : rowAb[v]? = some d) : isCh d := by
  have hm : d ∈ rowAb := List.mem_of_getElem? h
  simp only [rowAb, List.mem_cons, List.not_mem_nil, or_false] at hm
  rcases hm with rfl | rfl | rfl | rfl | rfl | rfl | rfl
  all_goals exact ⟨_, rfl, by decide⟩
theorem chs (xs : List D) (h : ∀ x ∈ xs, isCh x) : ∃ s : List Nat, textsOf xs = some (s.map fun c => [c]) ∧ s.length = xs.length ∧ ∀ c ∈ s, c ∈ [97, 98, 32, 10, 49] := by
  induction xs with
  | nil => exact ⟨[], rfl, rfl, by simp⟩
  | cons x xs ih =>
    obtain ⟨s, e, l, m⟩ := ih fun y hy => h y (List.mem_cons_of_mem _ hy)
    obtain ⟨c, rfl, hc⟩ := h x List.mem_cons_self
    refine ⟨c :: s, by simp [textsOf, e], by simp [l], fun y hy => ?_⟩
    rcases List.mem_cons.mp hy with rfl | hy
    · exact hc
    · exact m y hy
theorem flat_ones (s : List Nat) : (s.map fun c => [c]).flatten = s := by
  induction s with
  | nil => rfl
  | cons c s ih => simp [ih]
theorem lens_ones (s : List Nat) : ((s.map fun c => [c]).map List.length).sum = s.length := by
  induction s with
  | nil => rfl
  | cons c s ih => simp at ih ⊢; omega
/-- the step of the comprehension -/
theorem some_step (j n : Nat) (m d : D) (s : Store) (c : List D) (hc : IsBag c) (h : s[n]? = some (.ls c)) :
    ∃ x c', lcStep (.name 2) tTrue (gCall (semT T (j + 2)) 14 (gCons (gVar 0) (gCons (gLst (gCons (gCon (.str [97])) (gCons (gCon (.str [98])) (gCons (gCon (.str [32])) (gCons (gCon (.str [10])) (gCons (gCon (.str [49])) (gCons (gCon (.str [97])) (gCons (gCon (.str [98])) gNil)))))))) gNil))) [some (.obj n), some (.d m), none] d s
      = .ok (some x) (s.set n (.ls c')) ∧ IsBag c' ∧ isCh x := by
  have hn := get_lt h
  have h7 : (7 : Nat) ≤ LID := by decide
  have hl : ∀ env : Env, gLst (gCons (gCon (.str [97])) (gCons (gCon (.str [98])) (gCons (gCon (.str [32])) (gCons (gCon (.str [10])) (gCons (gCon (.str [49])) (gCons (gCon (.str [97])) (gCons (gCon (.str [98])) gNil))))))) env s = .ok (.obj s.length) (s ++ [.ls rowAb]) := fun env => by
    simp [gLst, ev_cons, h7, rowAb]
  have h1 : (s ++ [.ls rowAb])[n]? = some (.ls c) := by rw [List.getElem?_append_left hn]; exact h
  have h2 : (s ++ [.ls rowAb])[s.length]? = some (.ls rowAb) := by simp
  obtain ⟨v, c', x, e, hc', hx⟩ := e_one j n s.length _ c rowAb hc h1 h2 (by omega) (by decide) (by decide)
  refine ⟨x, c', ?_, hc', rowAb_ch hx⟩
  have hs : (s ++ [MO.ls rowAb]).set n (.ls c') = s.set n (.ls c') ++ [MO.ls rowAb] := by
    rw [List.set_append_left _ _ hn]
  rw [hs] at e
  have ht : (s.set n (.ls c') ++ [MO.ls rowAb]).take s.length = s.set n (.ls c') := List.take_left' (by simp)
  simp only [lcStep, Tg.put, List.length_cons, List.length_nil, tTrue, bind_ok, if_true, gCall_def, ev_cons, List.set, gVar_0, hl, gNil_ok, e, settle_ok_d, ht, freeze_d]
theorem e_some (j n : Nat) (st : Store) (c : List D) (hc : IsBag c) (h : st[n]? = some (.ls c)) (m : Nat) (hm1 : 1 ≤ m) (hm : m < 1000) :
    ∃ (s : List Nat) (c' : List D), semT T (j + 3) 24 [.obj n, .d (.int m)] st = .ok (.d (.str s)) (st.set n (.ls c')) ∧ IsBag c' ∧ s.length < m ∧ ∀ x ∈ s, x ∈ [97, 98, 32, 10, 49] := by
  obtain ⟨v, c1, e, hc1, hv0, hv1, -⟩ := e_draw (j + 1) n st c hc h m (by omega)
  have hv := hv1 (by omega)
  have hn := get_lt h
  have ht1 := take_set st n (.ls c1)
  have hi : iRange1 (gCall (semT T (j + 2)) 13 (gCons (gVar 0) (gCons (gVar 1) gNil))) [some (.obj n), some (.d (.int m)), none] st = .ok ⟨rangeL 0 v, []⟩ (st.set n (.ls c1)) := by
    have hg : gCall (semT T (j + 2)) 13 (gCons (gVar 0) (gCons (gVar 1) gNil)) [some (.obj n), some (.d (.int m)), none] st = .ok (.d (.int v)) (st.set n (.ls c1)) := by
      simp only [gCall_def, ev_cons, gVar_0, gVar_s, bind_ok, gNil_ok, e, settle_ok_d, ht1]
    unfold iRange1
    rw [hg]
    show (if -big62 ≤ v ∧ v < big62 then Out.ok (⟨rangeL 0 v, []⟩ : Src) (st.set n (.ls c1)) else .bad) = _
    rw [if_pos ⟨by unfold big62; omega, by unfold big62; omega⟩]
  have hlen : (rangeL 0 v).length = v.toNat := by simp [rangeL]
  obtain ⟨xs, s', el, ⟨c', hc', hs'⟩, hxl, hR⟩ := gLc_inv (tg := .name 2) (cnd := tTrue) (own := [2]) (elt := gCall (semT T (j + 2)) 14 (gCons (gVar 0) (gCons (gLst (gCons (gCon (.str [97])) (gCons (gCon (.str [98])) (gCons (gCon (.str [32])) (gCons (gCon (.str [10])) (gCons (gCon (.str [49])) (gCons (gCon (.str [97])) (gCons (gCon (.str [98])) gNil)))))))) gNil)))
    (fun s => ∃ c', IsBag c' ∧ s = st.set n (.ls c')) isCh hi ⟨c1, hc1, rfl⟩ (fun s ⟨c', _, hs⟩ => by rw [hs]; simp) (fun _ _ => rfl) (by rw [hlen]; unfold LID; omega)
    (fun d s ⟨c2, hc2, hs⟩ => by
      have hb : s[n]? = some (.ls c2) := by rw [hs]; exact get_set _ h
      obtain ⟨x, c3, e3, hc3, hx⟩ := some_step j n (.int m) d s c2 hc2 hb
      refine ⟨x, s.set n (.ls c3), e3, ⟨c3, hc3, ?_⟩, hx⟩
      rw [take_set, hs, List.set_set])
  obtain ⟨s, es, hsl, hsm⟩ := chs xs hR
  have hsz : s.length = v.toNat := by rw [hsl, hxl]; exact hlen
  refine ⟨s, c', ?_, hc', by omega, hsm⟩
  show (if 2 = 2 then finish st.length (g_law_some (semT T (j + 2)) [some (.obj n), some (.d (.int m)), none] st) else .bad) = _
  rw [if_pos rfl]
  have hj : pJoin [.str [], .lst xs] = some (.v (.str s)) := by
    have h1 : lensOf [] (s.map fun c => [c]) ≤ LID := by rw [lens_nil, lens_ones]; unfold LID; omega
    simp only [pJoin, es]
    rw [if_pos h1, joined_nil, flat_ones]
  have hlen' : s'.length = st.length := by rw [hs']; simp
  have ht' : (s' ++ [MO.ls xs]).take st.length = s' := List.take_left' hlen'
  have ht2 : s'.take st.length = s' := List.take_of_length_le (by omega)
  have hg : ∀ g : SemE, g [some (.obj n), some (.d (.int m)), none] st = .ok (.obj st.length) (s' ++ [.ls xs]) → gOp pJoin (gCons (gStr (gCon (.str []))) (gCons g gNil)) [some (.obj n), some (.d (.int m)), none] st = .ok (.d (.str s)) s' := fun g hg => by
    have hnow : (s' ++ [MO.ls xs])[st.length]? = some (.ls xs) := by rw [← hlen']; simp
    simp only [ev_op, ev_cons, gStr, gCon_ok, bind_ok, hg, gNil_ok, opOn, nowAll, now, hnow, hj, give_v, settle_ok_d, ht']
  unfold g_law_some
  simp only [sRet, hg _ el, toS_ok, finish]
  show Out.ok _ (List.take _ _) = _
  rw [ht2, hs']
end K03
end

section
set_option Elab.async false
set_option linter.all false
set_option maxRecDepth 100000
set_option maxHeartbeats 1000000
/-! K03O: the least span. -/
namespace K03
open PD
theorem wh_count {c : SemT} {body : SemS} {st : Store} (E : Nat → Env) (B : Nat) (hc : ∀ i, i < B → c (E i) st = .ok true st) (hB : c (E B) st = .ok false st) (hb : ∀ i, i < B → body (E i) st = .nx (E (i + 1)) st) :
    ∀ (k i : Nat), i ≤ B → B - i < k → whGo c body k (E i) st = .nx (E B) st
  | 0, i, _, h => by omega
  | k + 1, i, hi, hk => by
    by_cases h : i < B
    · have ih := wh_count E B hc hB hb k (i + 1) h (by omega)
      simp [whGo, hc i h, hb i h, ih]
    · have : i = B := by omega
      subst this
      simp [whGo, hB]
def pre : List Nat → List Nat → Nat
  | a :: x, b :: y => if a = b then pre x y + 1 else 0
  | _, _ => 0
theorem pre_le : ∀ t u : List Nat, pre t u ≤ min t.length u.length
  | a :: x, b :: y => by
    have := pre_le x y
    simp only [pre]
    split <;> simp <;> omega
  | [], _ => by simp [pre]
  | _ :: _, [] => by simp [pre]
theorem pre_eq : ∀ (t u : List Nat) (i : Nat), i < pre t u → t[i]? = u[i]?
  | a :: x, b :: y, i, h => by
    simp only [pre] at h
    split at h
    · next e =>
      subst e
      cases i with
      | zero => rfl
      | succ i => simpa using pre_eq x y i (by omega)
    · omega
  | [], _, i, h => by simp [pre] at h
  | _ :: _, [], i, h => by simp [pre] at h
theorem pre_ne : ∀ (t u : List Nat), pre t u < min t.length u.length → t[pre t u]? ≠ u[pre t u]?
  | a :: x, b :: y, h => by
    simp only [pre] at h ⊢
    by_cases e : a = b
    · rw [if_pos e] at h ⊢
      have := pre_ne x y (by simp at h; omega)
      simpa using this
    · rw [if_neg e]
      simpa using e
  | [], _, h => by simp at h
  | _ :: _, [], h => by simp at h
theorem pre_take : ∀ (t u : List Nat) (k : Nat), k ≤ min t.length u.length → (t.take k = u.take k ↔ k ≤ pre t u)
  | _, _, 0, _ => by simp
  | a :: x, b :: y, k + 1, h => by
    have ih := pre_take x y k (by simp at h; omega)
    simp only [List.take_succ_cons, List.cons.injEq, pre]
    by_cases e : a = b
    · rw [if_pos e]; simp [e, ih]
    · rw [if_neg e]; simp [e]
  | [], _, k + 1, h => by simp at h
  | _ :: _, [], k + 1, h => by simp at h
def far (t u : List Nat) : Nat := min t.length u.length - pre t u
def beh (t u : List Nat) : Nat := min (pre t.reverse u.reverse) (far t u)
theorem beh_le (t u : List Nat) : pre t u + beh t u ≤ min t.length u.length := by
  have := pre_le t u
  unfold beh far
  omega
theorem drop_rev (t u : List Nat) (k : Nat) (h : k ≤ min t.length u.length) : (t.drop (t.length - k) = u.drop (u.length - k) ↔ k ≤ pre t.reverse u.reverse) := by
  rw [← pre_take t.reverse u.reverse k (by simpa using h), List.take_reverse, List.take_reverse]
  exact ⟨fun e => by rw [e], fun e => List.reverse_inj.mp e⟩
/-- what lies between -/
def mid (t u : List Nat) : List Nat := (u.drop (pre t u)).take (u.length - beh t u - pre t u)
def leastSp (t u : List Nat) : Sp := ⟨pre t u, t.length - beh t u, mid t u⟩
def least (t u : List Nat) : D := if t = u then .tup [] else .tup [spD (leastSp t u)]
theorem put_least (t u : List Nat) : put t [leastSp t u] = u := by
  have h1 := pre_le t u
  have h2 := beh_le t u
  have e1 : t.take (pre t u) = u.take (pre t u) := (pre_take t u _ h1).mpr (Nat.le_refl _)
  have e2 : t.drop (t.length - beh t u) = u.drop (u.length - beh t u) := (drop_rev t u _ (by omega)).mpr (Nat.min_le_left _ _)
  simp only [put, pieces, leastSp, List.flatten_cons, List.flatten_nil, List.drop_zero, Nat.sub_zero, List.append_nil, mid]
  rw [e1, e2, ← List.append_assoc]
  have e3 : u.take (pre t u) ++ (u.drop (pre t u)).take (u.length - beh t u - pre t u) = u.take (u.length - beh t u) := by
    have hs : u.length - beh t u = pre t u + (u.length - beh t u - pre t u) := by omega
    conv => rhs; rw [hs]
    rw [List.take_add]
  rw [e3, List.take_append_drop]
end K03
end

section
set_option Elab.async false
set_option linter.all false
set_option maxRecDepth 100000
set_option maxHeartbeats 1000000
/-! K03P: the program's least span. -/
namespace K03
open PD
theorem ix_str (t : List Nat) (i : Int) (k : Nat) (ht : t.length ≤ 4000) (hp : place i t.length = some k) (hk : k < t.length) : pIx [.str t, .int i] = some (.v (.str [t[k]])) := by
  have h : t.length ≤ LID := by unfold LID; omega
  simp [pIx, h, hp, hk]
theorem place_pos {i n : Nat} (h : i < n) : place (i : Int) n = some i := by
  unfold place
  rw [if_pos (by omega), if_pos (by omega)]; simp
theorem place_neg {i n : Nat} (h : i < n) : place (-1 - (i : Int)) n = some (n - 1 - i) := by
  unfold place
  rw [if_neg (by omega), if_pos (by omega)]
  congr 1; omega
theorem eq_ch (a b : Nat) : pEq [.str [a], .str [b]] = some (.v (.bl (decide (a = b)))) := by
  have : okDeep (.str [a]) (.str [b]) = true := rfl
  by_cases h : a = b
  · subst h; simp [pEq, this, D.eqv]
  · simp [pEq, this, D.eqv, h]
theorem lt_nat (a b : Nat) : pLt [.int a, .int b] = some (.v (.bl (decide (a < b)))) := by
  by_cases h : a < b
  · have : (a : Int) < b := by omega
    simp [pLt, h]
  · simp [pLt, h]
section
variable (t u : List Nat) (st : Store) (ht : t.length ≤ 4000) (hu : u.length ≤ 4000)
include ht hu
theorem cond1 (x4 : Option A) (i : Nat) (hi : i ≤ min t.length u.length) : (tAnd (tVal (gOp pLt (gCons (gVar 3) (gCons (gVar 2) gNil)))) (tVal (gOp pEq (gCons (gOp pIx (gCons (gVar 0) (gCons (gVar 3) gNil))) (gCons (gOp pIx (gCons (gVar 1) (gCons (gVar 3) gNil))) gNil)))))
    [some (.d (.str t)), some (.d (.str u)), some (.d (.int ((min t.length u.length : Nat) : Int))), some (.d (.int i)), x4] st = .ok (decide (i < min t.length u.length ∧ t[i]? = u[i]?)) st := by
  generalize hm : min t.length u.length = m at hi ⊢
  have e1 : gOp pLt (gCons (gVar 3) (gCons (gVar 2) gNil)) [some (.d (.str t)), some (.d (.str u)), some (.d (.int (m : Int))), some (.d (.int i)), x4] st = .ok (.d (.bl (decide (i < m)))) st := by
    simp only [ev_op, ev_cons, gVar_0, gVar_s, bind_ok, gNil_ok, opOn, nowAll_d, nowAll_nil, Option.map, lt_nat, give_v, settle_ok_d, take_self]
  by_cases h : i < m
  · have h1 : i < t.length := by omega
    have h2 : i < u.length := by omega
    have i1 := ix_str t i i ht (place_pos h1) h1
    have i2 := ix_str u i i hu (place_pos h2) h2
    have e2 : gOp pEq (gCons (gOp pIx (gCons (gVar 0) (gCons (gVar 3) gNil))) (gCons (gOp pIx (gCons (gVar 1) (gCons (gVar 3) gNil))) gNil)) [some (.d (.str t)), some (.d (.str u)), some (.d (.int (m : Int))), some (.d (.int i)), x4] st = .ok (.d (.bl (decide (t[i] = u[i])))) st := by
      simp only [ev_op, ev_cons, gVar_0, gVar_s, bind_ok, gNil_ok, opOn, nowAll_d, nowAll_nil, Option.map, i1, i2, eq_ch, give_v, settle_ok_d, take_self]
    simp [tAnd, tVal, e1, e2, okLen, D.truth, h, take_self, List.getElem?_eq_getElem h1, List.getElem?_eq_getElem h2]
  · simp [tAnd, tVal, e1, okLen, D.truth, h, take_self]
theorem cond2 (a i : Nat) (ha : a ≤ min t.length u.length) (hi : i ≤ min t.length u.length - a) : (tAnd (tVal (gOp pLt (gCons (gVar 4) (gCons (gOp pSub (gCons (gVar 2) (gCons (gVar 3) gNil))) gNil)))) (tVal (gOp pEq (gCons (gOp pIx (gCons (gVar 0) (gCons (gOp pSub (gCons (gOp pNeg (gCons (gCon (.int 1)) gNil)) (gCons (gVar 4) gNil))) gNil))) (gCons (gOp pIx (gCons (gVar 1) (gCons (gOp pSub (gCons (gOp pNeg (gCons (gCon (.int 1)) gNil)) (gCons (gVar 4) gNil))) gNil))) gNil)))))
    [some (.d (.str t)), some (.d (.str u)), some (.d (.int ((min t.length u.length : Nat) : Int))), some (.d (.int a)), some (.d (.int i))] st = .ok (decide (i < min t.length u.length - a ∧ t.reverse[i]? = u.reverse[i]?)) st := by
  generalize hm : min t.length u.length = m at ha hi ⊢
  have hs : ((m : Int) - a) = ((m - a : Nat) : Int) := by omega
  have e1 : gOp pLt (gCons (gVar 4) (gCons (gOp pSub (gCons (gVar 2) (gCons (gVar 3) gNil))) gNil)) [some (.d (.str t)), some (.d (.str u)), some (.d (.int (m : Int))), some (.d (.int a)), some (.d (.int i))] st = .ok (.d (.bl (decide (i < m - a)))) st := by
    simp only [ev_op, ev_cons, gVar_0, gVar_s, bind_ok, gNil_ok, opOn, nowAll_d, nowAll_nil, Option.map, pSub, hs, lt_nat, give_v, settle_ok_d, take_self]
  by_cases h : i < m - a
  · have h1 : i < t.length := by omega
    have h2 : i < u.length := by omega
    have i1 := ix_str t _ _ ht (place_neg h1) (by omega)
    have i2 := ix_str u _ _ hu (place_neg h2) (by omega)
    have e2 : gOp pEq (gCons (gOp pIx (gCons (gVar 0) (gCons (gOp pSub (gCons (gOp pNeg (gCons (gCon (.int 1)) gNil)) (gCons (gVar 4) gNil))) gNil))) (gCons (gOp pIx (gCons (gVar 1) (gCons (gOp pSub (gCons (gOp pNeg (gCons (gCon (.int 1)) gNil)) (gCons (gVar 4) gNil))) gNil))) gNil)) [some (.d (.str t)), some (.d (.str u)), some (.d (.int (m : Int))), some (.d (.int a)), some (.d (.int i))] st = .ok (.d (.bl (decide (t[t.length - 1 - i] = u[u.length - 1 - i])))) st := by
      simp only [ev_op, ev_cons, gVar_0, gVar_s, bind_ok, gCon_ok, gNil_ok, opOn, nowAll_d, nowAll_nil, Option.map, pNeg, pSub, i1, i2, eq_ch, give_v, settle_ok_d, take_self]
    simp [tAnd, tVal, e1, e2, okLen, D.truth, h, take_self, List.getElem?_reverse h1, List.getElem?_reverse h2, List.getElem?_eq_getElem (show t.length - 1 - i < t.length by omega), List.getElem?_eq_getElem (show u.length - 1 - i < u.length by omega)]
  · simp [tAnd, tVal, e1, okLen, D.truth, h, take_self]
theorem loop1 (F : SemF) (x4 : Option A) : sWhile (tAnd (tVal (gOp pLt (gCons (gVar 3) (gCons (gVar 2) gNil)))) (tVal (gOp pEq (gCons (gOp pIx (gCons (gVar 0) (gCons (gVar 3) gNil))) (gCons (gOp pIx (gCons (gVar 1) (gCons (gVar 3) gNil))) gNil))))) (b_least_span_2 F)
    [some (.d (.str t)), some (.d (.str u)), some (.d (.int ((min t.length u.length : Nat) : Int))), some (.d (.int (0 : Nat))), x4] st
    = .nx [some (.d (.str t)), some (.d (.str u)), some (.d (.int ((min t.length u.length : Nat) : Int))), some (.d (.int (pre t u : Nat))), x4] st := by
  have hp := pre_le t u
  refine wh_count (fun i => [some (.d (.str t)), some (.d (.str u)), some (.d (.int ((min t.length u.length : Nat) : Int))), some (.d (.int (i : Nat))), x4]) (pre t u) ?_ ?_ ?_ FUEL 0 (Nat.zero_le _) (by unfold FUEL; omega)
  · intro i hi
    rw [cond1 t u st ht hu x4 i (by omega), decide_eq_true]
    exact ⟨by omega, pre_eq t u i hi⟩
  · rw [cond1 t u st ht hu x4 _ hp, decide_eq_false]
    exact fun h => pre_ne t u h.1 h.2
  · intro i hi
    simp [b_least_span_2, sAug, pIAdd, take_self]
theorem loop2 (F : SemF) : sWhile (tAnd (tVal (gOp pLt (gCons (gVar 4) (gCons (gOp pSub (gCons (gVar 2) (gCons (gVar 3) gNil))) gNil)))) (tVal (gOp pEq (gCons (gOp pIx (gCons (gVar 0) (gCons (gOp pSub (gCons (gOp pNeg (gCons (gCon (.int 1)) gNil)) (gCons (gVar 4) gNil))) gNil))) (gCons (gOp pIx (gCons (gVar 1) (gCons (gOp pSub (gCons (gOp pNeg (gCons (gCon (.int 1)) gNil)) (gCons (gVar 4) gNil))) gNil))) gNil))))) (b_least_span_1 F)
    [some (.d (.str t)), some (.d (.str u)), some (.d (.int ((min t.length u.length : Nat) : Int))), some (.d (.int (pre t u : Nat))), some (.d (.int (0 : Nat)))] st
    = .nx [some (.d (.str t)), some (.d (.str u)), some (.d (.int ((min t.length u.length : Nat) : Int))), some (.d (.int (pre t u : Nat))), some (.d (.int (beh t u : Nat)))] st := by
  have hp := pre_le t u
  have hb := beh_le t u
  refine wh_count (fun i => [some (.d (.str t)), some (.d (.str u)), some (.d (.int ((min t.length u.length : Nat) : Int))), some (.d (.int (pre t u : Nat))), some (.d (.int (i : Nat)))]) (beh t u) ?_ ?_ ?_ FUEL 0 (Nat.zero_le _) (by unfold FUEL; omega)
  · intro i hi
    rw [cond2 t u st ht hu _ i hp (by omega), decide_eq_true]
    exact ⟨by omega, pre_eq _ _ i (by unfold beh at hi; omega)⟩
  · rw [cond2 t u st ht hu _ _ hp (by omega), decide_eq_false]
    intro h
    have hq : pre t.reverse u.reverse < far t u → beh t u = pre t.reverse u.reverse := fun hq => by unfold beh; omega
    have hlt : pre t.reverse u.reverse < far t u := by
      have h1 := h.1
      unfold beh at h1
      unfold far at h1 ⊢
      omega
    have e := hq hlt
    rw [e] at h
    exact pre_ne t.reverse u.reverse (by simp; unfold far at hlt; omega) h.2
  · intro i hi
    simp [b_least_span_1, sAug, pIAdd, take_self]
end
end K03
end

section
set_option Elab.async false
set_option linter.all false
set_option maxRecDepth 100000
set_option maxHeartbeats 1000000
/-! K03Q: least_span whole. -/
namespace K03
open PD
theorem eq_str (t u : List Nat) : pEq [.str t, .str u] = some (.v (.bl (decide (t = u)))) := by
  have : okDeep (.str t) (.str u) = true := rfl
  by_cases h : t = u
  · subst h; simp [pEq, this, D.eqv]
  · simp [pEq, this, D.eqv, h]
theorem min_nat (a b : Nat) : pMin2 [.int a, .int b] = some (.v (.int ((min a b : Nat) : Int))) := by
  by_cases h : b < a
  · rw [Nat.min_eq_right (by omega)]; simp [pMin2, h]
  · rw [Nat.min_eq_left (by omega)]; simp [pMin2, h]
theorem len_str (t : List Nat) (ht : t.length ≤ 4000) : pLen [.str t] = some (.v (.int t.length)) := by
  have h : t.length ≤ LID := by unfold LID; omega
  simp [pLen, h]
theorem sub_nat (a b : Nat) (h : b ≤ a) : pSub [.int a, .int b] = some (.v (.int ((a - b : Nat) : Int))) := by
  have : ((a : Int) - b) = ((a - b : Nat) : Int) := by omega
  simp [pSub, this]
theorem cut_str (u : List Nat) (a b : Nat) (hu : u.length ≤ 4000) : pSl [.str u, .int a, .int b] = some (.v (.str ((u.drop a).take (b - a)))) := by
  have h : u.length ≤ LID := by unfold LID; omega
  simp [pSl, part, h, cut_both]
/-- the tuple both give -/
theorem ret_least (t u : List Nat) (ht : t.length ≤ 4000) (hu : u.length ≤ 4000) (st : Store) (env : Env) (ia ib : Nat) (h0 : gVar 0 env st = .ok (.d (.str t)) st) (h1 : gVar 1 env st = .ok (.d (.str u)) st) (h3 : gVar ia env st = .ok (.d (.int (pre t u : Nat))) st) (h4 : gVar ib env st = .ok (.d (.int (beh t u : Nat))) st) :
    sRet (gTup (gCons (gTup (gCons (gVar ia) (gCons (gOp pSub (gCons (gOp pLen (gCons (gVar 0) gNil)) (gCons (gVar ib) gNil))) (gCons (gOp pSl (gCons (gVar 1) (gCons (gInt (gVar ia)) (gCons (gInt (gOp pSub (gCons (gOp pLen (gCons (gVar 1) gNil)) (gCons (gVar ib) gNil)))) gNil)))) gNil)))) gNil)) env st = .rt (.d (.tup [spD (leastSp t u)])) st := by
  have hb := beh_le t u
  have l3 : (3 : Nat) ≤ LID := by decide
  have l1 : (1 : Nat) ≤ LID := by decide
  have s1 := sub_nat t.length (beh t u) (by omega)
  have s2 := sub_nat u.length (beh t u) (by omega)
  have c := cut_str u (pre t u) (u.length - beh t u) hu
  simp only [sRet, gTup, ev_op, ev_cons, gInt, h0, h1, h3, h4, bind_ok, gNil_ok, opOn, nowAll_d, nowAll_nil, Option.map, len_str t ht, len_str u hu, give_v, settle_ok_d, take_self, s1, s2, c, freezeAll_d, freezeAll_nil, List.length_cons, List.length_nil]
  simp only [show (0 + 1 + 1 + 1 : Nat) ≤ LID from by decide, show (0 + 1 : Nat) ≤ LID from by decide, if_true, bind_ok, settle_ok_d, take_self, freezeAll_d, freezeAll_nil, Option.map, List.length_cons, List.length_nil, toS_ok]
  rfl
theorem e_least (j : Nat) (t u : List Nat) (st : Store) (ht : t.length ≤ 4000) (hu : u.length ≤ 4000) : semT T (j + 1) 10 [.d (.str t), .d (.str u)] st = .ok (.d (least t u)) st := by
  show (if 2 = 2 then finish st.length (g_least_span (semT T j) [some (.d (.str t)), some (.d (.str u)), none, none, none] st) else .bad) = _
  rw [if_pos rfl]
  have e0 : gOp pEq (gCons (gVar 0) (gCons (gVar 1) gNil)) [some (.d (.str t)), some (.d (.str u)), none, none, none] st = .ok (.d (.bl (decide (t = u)))) st := by
    simp only [ev_op, ev_cons, gVar_0, gVar_s, bind_ok, gNil_ok, opOn, nowAll_d, nowAll_nil, Option.map, eq_str, give_v, settle_ok_d, take_self]
  unfold g_least_span
  by_cases h : t = u
  · have i0 : sIf (tVal (gOp pEq (gCons (gVar 0) (gCons (gVar 1) gNil)))) (sRet (gTup gNil)) sNext [some (.d (.str t)), some (.d (.str u)), none, none, none] st = .rt (.d (.tup [])) st := by
      have h0 : 0 ≤ LID := Nat.zero_le _
      simp only [sIf, tVal, e0, bind_ok, now_d, okLen, D.truth, if_true, take_self, toS_ok, decide_eq_true h]
      simp [sRet, gTup, h0, take_self]
    rw [seq_rt i0]
    simp [finish, settleV, settle, take_self, least, h]
  · have i0 : sIf (tVal (gOp pEq (gCons (gVar 0) (gCons (gVar 1) gNil)))) (sRet (gTup gNil)) sNext [some (.d (.str t)), some (.d (.str u)), none, none, none] st = .nx [some (.d (.str t)), some (.d (.str u)), none, none, none] st := by
      simp only [sIf, tVal, e0, bind_ok, now_d, okLen, D.truth, if_true, take_self, toS_ok, decide_eq_false h]
      rfl
    have i1 : sSet 2 (gOp pMin2 (gCons (gOp pLen (gCons (gVar 0) gNil)) (gCons (gOp pLen (gCons (gVar 1) gNil)) gNil))) [some (.d (.str t)), some (.d (.str u)), none, none, none] st = .nx [some (.d (.str t)), some (.d (.str u)), some (.d (.int ((min t.length u.length : Nat) : Int))), none, none] st := by
      simp only [sSet, ev_op, ev_cons, gVar_0, gVar_s, bind_ok, gNil_ok, opOn, nowAll_d, nowAll_nil, Option.map, len_str t ht, len_str u hu, min_nat, give_v, settle_ok_d, take_self, toS_ok, List.set]
    have i2 : sSet 3 (gCon (.int 0)) [some (.d (.str t)), some (.d (.str u)), some (.d (.int ((min t.length u.length : Nat) : Int))), none, none] st = .nx [some (.d (.str t)), some (.d (.str u)), some (.d (.int ((min t.length u.length : Nat) : Int))), some (.d (.int (0 : Nat))), none] st := rfl
    have i3 := loop1 t u st ht hu (semT T j) none
    have i4 : sSet 4 (gCon (.int 0)) [some (.d (.str t)), some (.d (.str u)), some (.d (.int ((min t.length u.length : Nat) : Int))), some (.d (.int (pre t u : Nat))), none] st = .nx [some (.d (.str t)), some (.d (.str u)), some (.d (.int ((min t.length u.length : Nat) : Int))), some (.d (.int (pre t u : Nat))), some (.d (.int (0 : Nat)))] st := rfl
    have i5 := loop2 t u st ht hu (semT T j)
    rw [seq_nx i0, seq_nx i1, seq_nx i2, seq_nx i3, seq_nx i4, seq_nx i5, ret_least t u ht hu st _ 3 4 rfl rfl rfl rfl]
    show Out.ok _ (List.take _ _) = _
    rw [take_self, least, if_neg h]
theorem e_between (j : Nat) (t u : List Nat) (st : Store) (ht : isText (.str t) = true) (hu : isText (.str u) = true) : semT T (j + 2) 11 [.d (.str t), .d (.str u)] st = .ok (.d (least t u)) st := by
  show (if 2 = 2 then finish st.length (g_between (semT T (j + 1)) [some (.d (.str t)), some (.d (.str u))] st) else .bad) = _
  rw [if_pos rfl]
  have c1 := e_check_good j t ht st
  have c2 := e_check_good j u hu st
  have c3 := e_least j t u st (isText_str ht).1 (isText_str hu).1
  simp only [g_between, sSeq, sExpr, gCall_def, ev_cons, gVar_0, gVar_s, bind_ok, gNil_ok, c1, c2, c3, settle_ok_d, take_self, toS_ok, sRet, finish]
  show Out.ok _ (List.take _ _) = _
  rw [take_self]
theorem e_between_non (j : Nat) (t : List Nat) (st : Store) (ht : isText (.str t) = true) : semT T (j + 2) 11 [.d (.str t), .d .non] st = .exn ⟨1, some (.int (-1))⟩ st := by
  show (if 2 = 2 then finish st.length (g_between (semT T (j + 1)) [some (.d (.str t)), some (.d .non)] st) else .bad) = _
  rw [if_pos rfl]
  have c1 := e_check_good j t ht st
  have c2 := e_check_non j st
  simp [g_between, sSeq, sExpr, gCall_def, ev_cons, c1, c2, sRet, finish, take_self]
end K03
end

section
set_option Elab.async false
set_option linter.all false
set_option maxRecDepth 100000
set_option maxHeartbeats 1000000
/-! K03R: the law's between. -/
namespace K03
open PD
def upTo (n : Nat) : List D := (List.range n).map fun (k : Nat) => D.int (k : Int)
theorem range_up (n : Nat) : rangeL 0 (n : Int) = upTo n := by
  simp [rangeL, upTo]
theorem filter_up (f : D → Option D) (m a : Nat) (ha : a ≤ m) (h1 : ∀ k : Nat, k ≤ a → f (.int k) = some (.int k)) (h2 : ∀ k : Nat, a < k → k ≤ m → f (.int k) = none) : (upTo (m + 1)).filterMap f = upTo (a + 1) := by
  have hs : m + 1 = (a + 1) + (m - a) := by omega
  have e : upTo (m + 1) = upTo (a + 1) ++ (List.range (m - a)).map fun (k : Nat) => D.int ((a + 1 + k : Nat) : Int) := by
    rw [hs]; simp [upTo, List.range_add]
  rw [e, List.filterMap_append]
  have f1 : (upTo (a + 1)).filterMap f = upTo (a + 1) := by
    have : ∀ l : List Nat, (∀ k ∈ l, k ≤ a) → (l.map fun (k : Nat) => D.int (k : Int)).filterMap f = l.map fun (k : Nat) => D.int (k : Int) := by
      intro l
      induction l with
      | nil => intro _; rfl
      | cons k l ih =>
        intro hk
        rw [List.map_cons, List.filterMap_cons, h1 k (hk k List.mem_cons_self), ih fun x hx => hk x (List.mem_cons_of_mem _ hx)]
    exact this _ fun k hk => by have := List.mem_range.mp hk; omega
  have f2 : ((List.range (m - a)).map fun (k : Nat) => D.int ((a + 1 + k : Nat) : Int)).filterMap f = [] := by
    rw [List.filterMap_eq_nil_iff]
    intro d hd
    obtain ⟨k, hk, rfl⟩ := List.mem_map.mp hd
    have := List.mem_range.mp hk
    exact h2 _ (by omega) (by omega)
  rw [f1, f2, List.append_nil]
theorem ints_up : ∀ l : List Nat, intsOf (l.map fun (k : Nat) => D.int (k : Int)) = some (l.map fun (k : Nat) => (k : Int))
  | [] => rfl
  | k :: l => by simp [intsOf, ints_up l]
theorem maxL_spec : ∀ (l : List Int) (m : Int), m ≤ maxL m l ∧ (∀ x ∈ l, x ≤ maxL m l) ∧ (maxL m l = m ∨ maxL m l ∈ l)
  | [], m => ⟨Int.le_refl _, by simp, .inl rfl⟩
  | x :: r, m => by
    obtain ⟨h1, h2, h3⟩ := maxL_spec r (if x > m then x else m)
    have e : maxL m (x :: r) = maxL (if x > m then x else m) r := rfl
    rw [e]
    generalize hq : maxL (if x > m then x else m) r = q at h1 h2 h3
    by_cases h : x > m
    · rw [if_pos h] at h1 h3
      refine ⟨by omega, fun y hy => ?_, ?_⟩
      · rcases List.mem_cons.mp hy with rfl | hy
        · exact h1
        · exact h2 y hy
      · rcases h3 with h3 | h3
        · exact .inr (by rw [h3]; exact List.mem_cons_self)
        · exact .inr (List.mem_cons_of_mem _ h3)
    · rw [if_neg h] at h1 h3
      refine ⟨h1, fun y hy => ?_, ?_⟩
      · rcases List.mem_cons.mp hy with rfl | hy
        · omega
        · exact h2 y hy
      · rcases h3 with h3 | h3
        · exact .inl h3
        · exact .inr (List.mem_cons_of_mem _ h3)
theorem max_up (a : Nat) : pMaxL [.lst (upTo (a + 1))] = some (.v (.int (a : Int))) := by
  have hi := ints_up (List.range (a + 1))
  have hmem : ∀ x : Int, x ∈ (List.range (a + 1)).map (fun (k : Nat) => (k : Int)) ↔ ∃ k : Nat, k ≤ a ∧ x = k := fun x => by
    rw [List.mem_map]
    exact ⟨fun ⟨k, hk, e⟩ => ⟨k, by have := List.mem_range.mp hk; omega, e.symm⟩, fun ⟨k, hk, e⟩ => ⟨k, List.mem_range.mpr (by omega), e.symm⟩⟩
  generalize hl : (List.range (a + 1)).map (fun (k : Nat) => (k : Int)) = l at hi hmem
  cases l with
  | nil => exact absurd ((hmem 0).mpr ⟨0, Nat.zero_le _, rfl⟩) (by simp)
  | cons m r =>
    obtain ⟨h1, h2, h3⟩ := maxL_spec r m
    have hin : maxL m r ∈ m :: r := by
      rcases h3 with h3 | h3
      · rw [h3]; exact List.mem_cons_self
      · exact List.mem_cons_of_mem _ h3
    obtain ⟨k, hk, ek⟩ := (hmem _).mp hin
    have ha : (a : Int) ≤ maxL m r := by
      rcases List.mem_cons.mp ((hmem a).mpr ⟨a, Nat.le_refl _, rfl⟩) with h | h
      · rw [h]; exact h1
      · exact h2 _ h
    have e : maxL m r = a := by omega
    simp only [pMaxL, upTo, hi, e]
theorem add1 (a : Nat) : pAdd [.int a, .int 1] = some (.v (.int ((a + 1 : Nat) : Int))) := rfl
theorem lcut_to (u : List Nat) (k : Nat) (hu : u.length ≤ 4000) : pSl [.str u, .non, .int k] = some (.v (.str (u.take k))) := by
  have h : u.length ≤ LID := by unfold LID; omega
  simp [pSl, part, h, cut_to]
theorem lcut_from (u : List Nat) (k : Nat) (hu : u.length ≤ 4000) : pSl [.str u, .int k, .non] = some (.v (.str (u.drop k))) := by
  have h : u.length ≤ LID := by unfold LID; omega
  simp [pSl, part, h, cut_from]
section
variable (t u : List Nat) (st : Store) (ht : t.length ≤ 4000) (hu : u.length ≤ 4000)
include ht hu
theorem lc1 (x2 x3 x4 : Option A) : gLc (iRange1 (gOp pAdd (gCons (gOp pMin2 (gCons (gOp pLen (gCons (gVar 0) gNil)) (gCons (gOp pLen (gCons (gVar 1) gNil)) gNil))) (gCons (gCon (.int 1)) gNil)))) (.name 5) (tVal (gOp pEq (gCons (gOp pSl (gCons (gVar 0) (gCons (gCon .non) (gCons (gInt (gVar 5)) gNil)))) (gCons (gOp pSl (gCons (gVar 1) (gCons (gCon .non) (gCons (gInt (gVar 5)) gNil)))) gNil)))) (gVar 5) [5]
    [some (.d (.str t)), some (.d (.str u)), x2, x3, x4, none] st = .ok (.obj st.length) (st ++ [.ls (upTo (pre t u + 1))]) := by
  have hp := pre_le t u
  have hr := range_nat (gOp pAdd (gCons (gOp pMin2 (gCons (gOp pLen (gCons (gVar 0) gNil)) (gCons (gOp pLen (gCons (gVar 1) gNil)) gNil))) (gCons (gCon (.int 1)) gNil))) (min t.length u.length + 1) [some (.d (.str t)), some (.d (.str u)), x2, x3, x4, none] st (by unfold LID; omega) (by
    simp only [ev_op, ev_cons, gVar_0, gVar_s, bind_ok, gCon_ok, gNil_ok, opOn, nowAll_d, nowAll_nil, Option.map, len_str t ht, len_str u hu, min_nat, add1, give_v, settle_ok_d, take_self])
  rw [range_up] at hr
  let f : D → Option D := fun d => match d with | .int i => if t.take i.toNat = u.take i.toNat then some d else none | _ => none
  have hf : (upTo (min t.length u.length + 1)).filterMap f = upTo (pre t u + 1) := by
    refine filter_up f _ _ hp ?_ ?_
    · intro k hk
      have := (pre_take t u k (by omega)).mpr hk
      simp [f, this]
    · intro k hk hk2
      have : ¬ t.take k = u.take k := fun e => by have := (pre_take t u k hk2).mp e; omega
      simp [f, this]
  rw [← hf]
  refine gLc_filter (src := ⟨upTo (min t.length u.length + 1), []⟩) f hr rfl (by simp [upTo]; unfold LID; omega) ?_
  intro d hd
  obtain ⟨k, hk, rfl⟩ := List.mem_map.mp hd
  have e2 : gOp pEq (gCons (gOp pSl (gCons (gVar 0) (gCons (gCon .non) (gCons (gInt (gVar 5)) gNil)))) (gCons (gOp pSl (gCons (gVar 1) (gCons (gCon .non) (gCons (gInt (gVar 5)) gNil)))) gNil)) [some (.d (.str t)), some (.d (.str u)), x2, x3, x4, some (.d (.int (k : Int)))] st = .ok (.d (.bl (decide (t.take k = u.take k)))) st := by
    simp only [ev_op, ev_cons, gInt, gVar_0, gVar_s, bind_ok, gCon_ok, gNil_ok, opOn, nowAll_d, nowAll_nil, Option.map, lcut_to t k ht, lcut_to u k hu, eq_str, give_v, settle_ok_d, take_self]
  by_cases h : t.take k = u.take k
  · simp [lcStep, wipeE, Tg.put, tVal, e2, okLen, D.truth, take_self, f, h]
  · simp [lcStep, wipeE, Tg.put, tVal, e2, okLen, D.truth, take_self, f, h]
theorem lc2 (x2 x4 : Option A) : gLc (iRange1 (gOp pAdd (gCons (gVar 3) (gCons (gCon (.int 1)) gNil)))) (.name 5) (tVal (gOp pEq (gCons (gOp pSl (gCons (gVar 0) (gCons (gInt (gOp pSub (gCons (gOp pLen (gCons (gVar 0) gNil)) (gCons (gVar 5) gNil)))) (gCons (gCon .non) gNil)))) (gCons (gOp pSl (gCons (gVar 1) (gCons (gInt (gOp pSub (gCons (gOp pLen (gCons (gVar 1) gNil)) (gCons (gVar 5) gNil)))) (gCons (gCon .non) gNil)))) gNil)))) (gVar 5) [5]
    [some (.d (.str t)), some (.d (.str u)), x2, some (.d (.int (far t u : Nat))), x4, none] st = .ok (.obj st.length) (st ++ [.ls (upTo (beh t u + 1))]) := by
  have hp := pre_le t u
  have hb : beh t u ≤ far t u := Nat.min_le_right _ _
  have hfar : far t u ≤ min t.length u.length := Nat.sub_le _ _
  have hr := range_nat (gOp pAdd (gCons (gVar 3) (gCons (gCon (.int 1)) gNil))) (far t u + 1) [some (.d (.str t)), some (.d (.str u)), x2, some (.d (.int (far t u : Nat))), x4, none] st (by unfold LID; omega) (by
    simp only [ev_op, ev_cons, gVar_0, gVar_s, bind_ok, gCon_ok, gNil_ok, opOn, nowAll_d, nowAll_nil, Option.map, add1, give_v, settle_ok_d, take_self])
  rw [range_up] at hr
  let f : D → Option D := fun d => match d with | .int i => if t.drop (t.length - i.toNat) = u.drop (u.length - i.toNat) then some d else none | _ => none
  have hf : (upTo (far t u + 1)).filterMap f = upTo (beh t u + 1) := by
    refine filter_up f _ _ hb ?_ ?_
    · intro k hk
      have := (drop_rev t u k (by omega)).mpr (by unfold beh at hk; omega)
      simp [f, this]
    · intro k hk hk2
      have : ¬ t.drop (t.length - k) = u.drop (u.length - k) := fun e => by have := (drop_rev t u k (by omega)).mp e; unfold beh at hk; omega
      simp [f, this]
  rw [← hf]
  refine gLc_filter (src := ⟨upTo (far t u + 1), []⟩) f hr rfl (by simp [upTo]; unfold LID; omega) ?_
  intro d hd
  obtain ⟨k, hk, rfl⟩ := List.mem_map.mp hd
  have hk := List.mem_range.mp hk
  have s1 := sub_nat t.length k (by omega)
  have s2 := sub_nat u.length k (by omega)
  have e2 : gOp pEq (gCons (gOp pSl (gCons (gVar 0) (gCons (gInt (gOp pSub (gCons (gOp pLen (gCons (gVar 0) gNil)) (gCons (gVar 5) gNil)))) (gCons (gCon .non) gNil)))) (gCons (gOp pSl (gCons (gVar 1) (gCons (gInt (gOp pSub (gCons (gOp pLen (gCons (gVar 1) gNil)) (gCons (gVar 5) gNil)))) (gCons (gCon .non) gNil)))) gNil)) [some (.d (.str t)), some (.d (.str u)), x2, some (.d (.int (far t u : Nat))), x4, some (.d (.int (k : Int)))] st = .ok (.d (.bl (decide (t.drop (t.length - k) = u.drop (u.length - k))))) st := by
    simp only [ev_op, ev_cons, gInt, gVar_0, gVar_s, bind_ok, gCon_ok, gNil_ok, opOn, nowAll_d, nowAll_nil, Option.map, len_str t ht, len_str u hu, s1, s2, lcut_from t _ ht, lcut_from u _ hu, eq_str, give_v, settle_ok_d, take_self]
  by_cases h : t.drop (t.length - k) = u.drop (u.length - k)
  · simp [lcStep, wipeE, Tg.put, tVal, e2, okLen, D.truth, take_self, f, h]
  · simp [lcStep, wipeE, Tg.put, tVal, e2, okLen, D.truth, take_self, f, h]
end
end K03
end

section
set_option Elab.async false
set_option linter.all false
set_option maxRecDepth 100000
set_option maxHeartbeats 1000000
/-! K03S: the law's between whole; the least span is a span. -/
namespace K03
open PD
theorem max_op (g : SemE) (a : Nat) (env : Env) (st : Store) (e : g env st = .ok (.obj st.length) (st ++ [.ls (upTo (a + 1))])) : gOp pMaxL (gCons g gNil) env st = .ok (.d (.int (a : Nat))) st := by
  have hm := max_up a
  generalize upTo (a + 1) = m at e hm
  simp only [ev_op, ev_cons, e, bind_ok, gNil_ok, opOn, nowAll_new, hm, give_v, settle_ok_d]
  rw [List.take_left' rfl]
theorem e_law_between (j : Nat) (t u : List Nat) (st : Store) (ht : t.length ≤ 4000) (hu : u.length ≤ 4000) : semT T (j + 1) 23 [.d (.str t), .d (.str u)] st = .ok (.d (least t u)) st := by
  show (if 2 = 2 then finish st.length (g_law_between (semT T j) [some (.d (.str t)), some (.d (.str u)), none, none, none, none] st) else .bad) = _
  rw [if_pos rfl]
  have hp := pre_le t u
  have e0 : gOp pEq (gCons (gVar 0) (gCons (gVar 1) gNil)) [some (.d (.str t)), some (.d (.str u)), none, none, none, none] st = .ok (.d (.bl (decide (t = u)))) st := by
    simp only [ev_op, ev_cons, gVar_0, gVar_s, bind_ok, gNil_ok, opOn, nowAll_d, nowAll_nil, Option.map, eq_str, give_v, settle_ok_d, take_self]
  unfold g_law_between
  by_cases h : t = u
  · have i0 : sIf (tVal (gOp pEq (gCons (gVar 0) (gCons (gVar 1) gNil)))) (sRet (gTup gNil)) sNext [some (.d (.str t)), some (.d (.str u)), none, none, none, none] st = .rt (.d (.tup [])) st := by
      have h0 : 0 ≤ LID := Nat.zero_le _
      simp only [sIf, tVal, e0, bind_ok, now_d, okLen, D.truth, if_true, take_self, toS_ok, decide_eq_true h]
      simp [sRet, gTup, h0, take_self]
    rw [seq_rt i0]
    simp [finish, settleV, settle, take_self, least, h]
  · have i0 : sIf (tVal (gOp pEq (gCons (gVar 0) (gCons (gVar 1) gNil)))) (sRet (gTup gNil)) sNext [some (.d (.str t)), some (.d (.str u)), none, none, none, none] st = .nx [some (.d (.str t)), some (.d (.str u)), none, none, none, none] st := by
      simp only [sIf, tVal, e0, bind_ok, now_d, okLen, D.truth, if_true, take_self, toS_ok, decide_eq_false h]
      rfl
    have m1 := max_op _ _ _ _ (lc1 t u st ht hu none none none)
    have i1 : ∀ g : SemE, g [some (.d (.str t)), some (.d (.str u)), none, none, none, none] st = .ok (.d (.int (pre t u : Nat))) st → sSet 2 g [some (.d (.str t)), some (.d (.str u)), none, none, none, none] st = .nx [some (.d (.str t)), some (.d (.str u)), some (.d (.int (pre t u : Nat))), none, none, none] st := fun g hg => by
      simp only [sSet, hg, toS_ok, List.set]
    have hfar := sub_nat (min t.length u.length) (pre t u) hp
    have i2 : sSet 3 (gOp pSub (gCons (gOp pMin2 (gCons (gOp pLen (gCons (gVar 0) gNil)) (gCons (gOp pLen (gCons (gVar 1) gNil)) gNil))) (gCons (gVar 2) gNil))) [some (.d (.str t)), some (.d (.str u)), some (.d (.int (pre t u : Nat))), none, none, none] st = .nx [some (.d (.str t)), some (.d (.str u)), some (.d (.int (pre t u : Nat))), some (.d (.int (far t u : Nat))), none, none] st := by
      simp only [sSet, ev_op, ev_cons, gVar_0, gVar_s, bind_ok, gNil_ok, opOn, nowAll_d, nowAll_nil, Option.map, len_str t ht, len_str u hu, min_nat, hfar, give_v, settle_ok_d, take_self, toS_ok, List.set]
      rfl
    have m2 := max_op _ _ _ _ (lc2 t u st ht hu (some (.d (.int (pre t u : Nat)))) none)
    have i3 : ∀ g : SemE, g [some (.d (.str t)), some (.d (.str u)), some (.d (.int (pre t u : Nat))), some (.d (.int (far t u : Nat))), none, none] st = .ok (.d (.int (beh t u : Nat))) st → sSet 4 g [some (.d (.str t)), some (.d (.str u)), some (.d (.int (pre t u : Nat))), some (.d (.int (far t u : Nat))), none, none] st = .nx [some (.d (.str t)), some (.d (.str u)), some (.d (.int (pre t u : Nat))), some (.d (.int (far t u : Nat))), some (.d (.int (beh t u : Nat))), none] st := fun g hg => by
      simp only [sSet, hg, toS_ok, List.set]
    rw [seq_nx i0, seq_nx (i1 _ m1), seq_nx i2, seq_nx (i3 _ m2), ret_least t u ht hu st _ 2 4 rfl rfl rfl rfl]
    show Out.ok _ (List.take _ _) = _
    rw [take_self, least, if_neg h]
end K03
end

section
set_option Elab.async false
set_option linter.all false
set_option maxRecDepth 100000
set_option maxHeartbeats 1000000
/-! K03T: good spans; the least span put gives the other text. -/
namespace K03
open PD
theorem span_good {x : Sp} (hs : isText (.str x.s) = true) (he : x.e ≤ 4000) (h : x.b < x.e ∨ (x.b = x.e ∧ x.s ≠ [])) : isSpan (spD x) = true := by
  have h1 : isInt (.int x.b) 0 4000 = true := by
    unfold isInt
    rw [Bool.and_eq_true, decide_eq_true_eq, decide_eq_true_eq]; omega
  have h2 : isInt (.int x.e) 0 4000 = true := by
    unfold isInt
    rw [Bool.and_eq_true, decide_eq_true_eq, decide_eq_true_eq]; omega
  simp only [isSpan, spD, hs, h1, h2, Bool.true_and]
  rcases h with h | ⟨h, hn⟩
  · have : decide ((x.b : Int) < x.e) = true := decide_eq_true (by omega)
    rw [this]; rfl
  · have : ((x.b : Int) == x.e) = true := by rw [h]; simp
    rw [this]
    cases hq : x.s with
    | nil => exact absurd hq hn
    | cons a r => simp [D.eqv]
theorem span_okT {x : Sp} (hs : isText (.str x.s) = true) : okT (spD x) = true := by
  have h1 := (isText_str hs).1
  have h2 : x.s.length ≤ LID := by unfold LID; omega
  simp [okT, spD, okS, h2]
theorem text_part {t : List Nat} (ht : isText (.str t) = true) (a b : Nat) : isText (.str ((t.drop a).take b)) = true := by
  obtain ⟨h1, h2⟩ := isText_str ht
  simp only [isText, Bool.and_eq_true, decide_eq_true_eq, List.all_eq_true]
  refine ⟨by rw [List.length_take, List.length_drop]; omega, fun c hc => h2 c (List.mem_of_mem_drop (List.mem_of_mem_take hc))⟩
theorem least_good {t u : List Nat} (ht : isText (.str t) = true) (hu : isText (.str u) = true) (h : t ≠ u) : isSpan (spD (leastSp t u)) = true := by
  have hb := beh_le t u
  have h4 := (isText_str ht).1
  refine span_good (text_part hu _ _) (by show t.length - beh t u ≤ 4000; omega) ?_
  show pre t u < t.length - beh t u ∨ (pre t u = t.length - beh t u ∧ mid t u ≠ [])
  by_cases hlt : pre t u < t.length - beh t u
  · exact .inl hlt
  · refine .inr ⟨by omega, fun hm => h ?_⟩
    have hp := put_least t u
    have e : t.length - beh t u = pre t u := by omega
    simp only [put, pieces, leastSp, hm, e, List.flatten_cons, List.flatten_nil, List.drop_zero, Nat.sub_zero, List.append_nil, List.nil_append, List.take_append_drop] at hp
    exact hp
theorem least_are {t u : List Nat} (ht : isText (.str t) = true) (hu : isText (.str u) = true) (h : t ≠ u) : areS (.tup [spD (leastSp t u)]) = true := by
  simp [areS, adj, least_good ht hu h]
theorem e_span_least (j : Nat) (t u : List Nat) (st : Store) (ht : isText (.str t) = true) (hu : isText (.str u) = true) : semT T (j + 4) 7 [.d (.str t), .d (least t u)] st = .ok (.d (.str u)) st := by
  have h4 := (isText_str ht).1
  have hu4 := (isText_str hu).1
  by_cases h : t = u
  · subst h
    have e := e_span_fit j t st ht [] rfl rfl rfl (by simp) (by simp [sumS])
    have hp : put t [] = t := by simp [put, pieces]
    rw [hp, if_pos h4] at e
    rw [least, if_pos rfl]
    exact e
  · have hs : sumS [leastSp t u] ≤ 1600000 := by
      have := (isText_str (text_part hu (pre t u) (u.length - beh t u - pre t u))).1
      simp only [sumS, leastSp, mid, List.map_cons, List.map_nil, List.sum_cons, List.sum_nil]
      omega
    have hok : okT (spD (leastSp t u)) = true := span_okT (x := leastSp t u) (text_part hu (pre t u) (u.length - beh t u - pre t u))
    have hf : fitB t [leastSp t u] = true := by
      have : t.length - beh t u ≤ t.length := Nat.sub_le _ _
      simp [fitB, leastSp]
    have e := e_span_fit j t st ht [leastSp t u] (by simp [okTT, hok]) (least_are ht hu h) hf (by simp) hs
    rw [put_least, if_pos hu4] at e
    rw [least, if_neg h]
    exact e
end K03
end

section
set_option Elab.async false
set_option linter.all false
set_option maxRecDepth 100000
set_option maxHeartbeats 1000000
/-! K03U: helpers for _law_spoilt. -/
namespace K03
open PD
def okG : Nat → D → Prop
  | 0, _ => True
  | 1, d => okS d = true
  | i + 2, d => match d with | .tup l => ∀ e ∈ l, okG (i + 1) e | _ => True
def small : Nat → D → Prop
  | 0, _ => True
  | k + 1, d => match d with | .tup l => l.length < 1000 ∧ ∀ e ∈ l, small k e | _ => True
theorem okG_okT {d : D} (h : okG 2 d) : okT d = true := by
  cases d with
  | tup l => exact List.all_eq_true.mpr h
  | _ => rfl
theorem okG_okTT {d : D} (h : okG 3 d) : okTT d = true := by
  cases d with
  | tup l => exact List.all_eq_true.mpr fun e he => okG_okT (h e he)
  | _ => rfl
theorem okG_tup {i : Nat} {l : List D} (h : ∀ e ∈ l, okG (i - 1) e) : okG i (.tup l) := by
  match i with
  | 0 => trivial
  | 1 => rfl
  | i + 2 => exact h
theorem okG_of {i : Nat} {l : List D} (h : okG i (.tup l)) : ∀ e ∈ l, okG (i - 1) e := by
  match i with
  | 0 => exact fun _ _ => trivial
  | 1 => exact fun _ _ => trivial
  | i + 2 => exact h
theorem okG_lst (i : Nat) (l : List D) : okG i (.lst l) := by
  match i with
  | 0 => trivial
  | 1 => rfl
  | i + 2 => trivial
theorem cut_mem {α : Type} {l : List α} {a b : Option Int} {x : α} (h : x ∈ cutL l a b) : x ∈ l :=
  List.mem_of_mem_drop (List.mem_of_mem_take h)
theorem cut_len {α : Type} (l : List α) (a b : Option Int) : (cutL l a b).length ≤ l.length := by
  unfold cutL
  rw [List.length_take, List.length_drop]; omega
theorem sl_tup (l : List D) (a b : D) (x y : Option Int) (ha : part a = some x) (hb : part b = some y) : pSl [.tup l, a, b] = some (.v (.tup (cutL l x y))) := by
  simp [pSl, ha, hb]
/-- a draw as an expression -/
theorem draw_op (j n : Nat) (st : Store) (c : List D) (hc : IsBag c) (h : st[n]? = some (.ls c)) (env : Env) (g : SemE) (m : Int) (hm : m < 1073741824) (hg : g env st = .ok (.d (.int m)) st) (h0 : gVar 0 env st = .ok (.obj n) st) :
    ∃ (v : Int) (c' : List D), gCall (semT T (j + 1)) 13 (gCons (gVar 0) (gCons g gNil)) env st = .ok (.d (.int v)) (st.set n (.ls c')) ∧ IsBag c' ∧ 0 ≤ v ∧ (1 ≤ m → v < m) := by
  obtain ⟨v, c', e, hc', h1, h2, -⟩ := e_draw j n st c hc h m hm
  refine ⟨v, c', ?_, hc', h1, h2⟩
  simp only [gCall_def, ev_cons, h0, hg, bind_ok, gNil_ok, e, settle_ok_d, take_set]
end K03
end

section
set_option Elab.async false
set_option linter.all false
set_option maxRecDepth 100000
set_option maxHeartbeats 1000000
/-! K03V: _law_spoilt's gate. -/
namespace K03
open PD
/-- the gate of _law_spoilt -/
def gate (F : SemF) : SemS := sIf (tOr (tVal (gOp pEq (gCons (gVar 3) (gCons (gCon (.int 0)) gNil)))) (tOr (tNot (tVal (gOp (pIsi .tuple) (gCons (gVar 1) gNil)))) (tOr (tVal (gOp pEq (gCons (gOp pLen (gCons (gVar 1) gNil)) (gCons (gCon (.int 0)) gNil)))) (tVal (gOp pEq (gCons (gCall F 13 (gCons (gVar 0) (gCons (gCon (.int 4)) gNil))) (gCons (gCon (.int 0)) gNil))))))) (sRet (gVar 2)) sNext
def spEnv (n : Nat) (v x : D) (k : Int) : Env := [some (.obj n), some (.d v), some (.d x), some (.d (.int k)), none, none]
theorem gate_out (j n : Nat) (st : Store) (c : List D) (hc : IsBag c) (h : st[n]? = some (.ls c)) (v x : D) (k : Int) :
    (∃ c', gate (semT T (j + 1)) (spEnv n v x k) st = .rt (.d x) (st.set n (.ls c')) ∧ IsBag c') ∨
    (∃ c' l, gate (semT T (j + 1)) (spEnv n v x k) st = .nx (spEnv n v x k) (st.set n (.ls c')) ∧ IsBag c' ∧ v = .tup l ∧ l ≠ [] ∧ k ≠ 0) := by
  have e0 : gOp pEq (gCons (gVar 3) (gCons (gCon (.int 0)) gNil)) (spEnv n v x k) st = .ok (.d (.bl (k == 0))) st := by
    simp only [spEnv, ev_op, ev_cons, gVar_0, gVar_s, bind_ok, gCon_ok, gNil_ok, opOn, nowAll_d, nowAll_nil, Option.map, pq, give_v, settle_ok_d, take_self]
  have e1 : gOp (pIsi .tuple) (gCons (gVar 1) gNil) (spEnv n v x k) st = .ok (.d (.bl (v.isTy .tuple))) st := by
    simp only [spEnv, ev_op, ev_cons, gVar_0, gVar_s, bind_ok, gCon_ok, gNil_ok, opOn, nowAll_d, nowAll_nil, Option.map, pIsi, give_v, settle_ok_d, take_self]
  have v2 : gVar 2 (spEnv n v x k) st = .ok (.d x) st := rfl
  by_cases hk : (k == 0) = true
  · refine .inl ⟨c, ?_, hc⟩
    rw [set_same h]
    simp only [gate, sIf, tOr, tVal, e0, bind_ok, now_d, okLen, D.truth, if_true, take_self, hk, toS_ok, sRet, v2]
  · by_cases hv : v.isTy .tuple = true
    · cases v with
      | tup l =>
        have e2 : gOp pEq (gCons (gOp pLen (gCons (gVar 1) gNil)) (gCons (gCon (.int 0)) gNil)) (spEnv n (.tup l) x k) st = .ok (.d (.bl ((l.length : Int) == 0))) st := by
          have hl : pLen [.tup l] = some (.v (.int l.length)) := rfl
          simp only [spEnv, ev_op, ev_cons, gVar_0, gVar_s, bind_ok, gCon_ok, gNil_ok, opOn, nowAll_d, nowAll_nil, Option.map, hl, pq, give_v, settle_ok_d, take_self]
        by_cases hl : ((l.length : Int) == 0) = true
        · refine .inl ⟨c, ?_, hc⟩
          rw [set_same h]
          simp only [gate, sIf, tOr, tNot, tVal, e0, e1, e2, bind_ok, now_d, okLen, D.truth, if_true, take_self, hk, hv, hl, toS_ok, sRet, v2, Bool.not_true]
          rfl
        · obtain ⟨w, c', ed, hc', -, -⟩ := draw_op j n st c hc h (spEnv n (.tup l) x k) (gCon (.int 4)) 4 (by decide) rfl rfl
          have v2' : gVar 2 (spEnv n (.tup l) x k) (st.set n (.ls c')) = .ok (.d x) (st.set n (.ls c')) := rfl
          have e3 : gOp pEq (gCons (gCall (semT T (j + 1)) 13 (gCons (gVar 0) (gCons (gCon (.int 4)) gNil))) (gCons (gCon (.int 0)) gNil)) (spEnv n (.tup l) x k) st = .ok (.d (.bl (w == 0))) (st.set n (.ls c')) := by
            rw [ev_op]
            simp only [ev_cons, ed, bind_ok, gCon_ok, gNil_ok, opOn, nowAll_d, nowAll_nil, Option.map, pq, give_v, settle_ok_d, take_set]
          have hne : l ≠ [] := fun hq => by rw [hq] at hl; exact hl rfl
          by_cases hw : (w == 0) = true
          · refine .inl ⟨c', ?_, hc'⟩
            simp only [gate, sIf, tOr, tNot, tVal, e0, e1, e2, e3, bind_ok, now_d, okLen, D.truth, if_true, take_self, take_set, hk, hv, hl, hw, toS_ok, sRet, Bool.not_true, Bool.false_eq_true, if_false, v2']
          · refine .inr ⟨c', l, ?_, hc', rfl, hne, fun hq => hk (by rw [hq]; rfl)⟩
            simp only [gate, sIf, tOr, tNot, tVal, e0, e1, e2, e3, bind_ok, now_d, okLen, D.truth, if_true, take_self, take_set, hk, hv, hl, hw, toS_ok, sNext, Bool.not_true, Bool.false_eq_true, if_false]
      | _ => simp [D.isTy] at hv
    · refine .inl ⟨c, ?_, hc⟩
      rw [set_same h]
      simp only [gate, sIf, tOr, tNot, tVal, e0, e1, bind_ok, now_d, okLen, D.truth, if_true, take_self, hk, hv, toS_ok, sRet, v2, Bool.not_false, Bool.false_eq_true, if_false]
end K03
end

section
set_option Elab.async false
set_option linter.all false
set_option maxRecDepth 100000
set_option maxHeartbeats 1000000
/-! K03W: the picks of _law_spoilt. -/
namespace K03
open PD
def spEnv2 (n : Nat) (v x : D) (k a w : Int) : Env := [some (.obj n), some (.d v), some (.d x), some (.d (.int k)), some (.d (.int a)), some (.d (.int w))]
theorem add_tup (a b : List D) (ha : a.length ≤ 4000) (hb : b.length ≤ 4000) : pAdd [.tup a, .tup b] = some (.v (.tup (a ++ b))) := by
  have h1 : a.length ≤ LID := by unfold LID; omega
  have h2 : b.length ≤ LID := by unfold LID; omega
  have h3 : a.length + b.length ≤ LID := by unfold LID; omega
  simp [pAdd, h1, h2, h3]
section
variable (n : Nat) (l : List D) (x : D) (k a w : Int) (st : Store) (hl : l.length < 1000)
include hl
theorem pick0 : gOp pAdd (gCons (gOp pSl (gCons (gVar 1) (gCons (gCon .non) (gCons (gInt (gVar 4)) gNil)))) (gCons (gOp pSl (gCons (gVar 1) (gCons (gInt (gOp pAdd (gCons (gVar 4) (gCons (gCon (.int 1)) gNil)))) (gCons (gCon .non) gNil)))) gNil)) (spEnv2 n (.tup l) x k a w) st
    = .ok (.d (.tup (cutL l none (some a) ++ cutL l (some (a + 1)) none))) st := by
  have c1 := cut_len l none (some a)
  have c2 := cut_len l (some (a + 1)) none
  have e1 := sl_tup l .non (.int a) none (some a) rfl rfl
  have e2 := sl_tup l (.int (a + 1)) .non (some (a + 1)) none rfl rfl
  have p1 : pAdd [.int a, .int 1] = some (.v (.int (a + 1))) := rfl
  have p2 := add_tup (cutL l none (some a)) (cutL l (some (a + 1)) none) (by omega) (by omega)
  simp only [spEnv2, ev_op, ev_cons, gInt, gVar_0, gVar_s, bind_ok, gCon_ok, gNil_ok, opOn, nowAll_d, nowAll_nil, Option.map, p1, e1, e2, p2, give_v, settle_ok_d, take_self]
theorem pick2 : gOp pAdd (gCons (gOp pSl (gCons (gVar 1) (gCons (gCon .non) (gCons (gInt (gOp pAdd (gCons (gVar 4) (gCons (gCon (.int 1)) gNil)))) gNil)))) (gCons (gOp pSl (gCons (gVar 1) (gCons (gInt (gVar 4)) (gCons (gCon .non) gNil)))) gNil)) (spEnv2 n (.tup l) x k a w) st
    = .ok (.d (.tup (cutL l none (some (a + 1)) ++ cutL l (some a) none))) st := by
  have c1 := cut_len l none (some (a + 1))
  have c2 := cut_len l (some a) none
  have e1 := sl_tup l .non (.int (a + 1)) none (some (a + 1)) rfl rfl
  have e2 := sl_tup l (.int a) .non (some a) none rfl rfl
  have p1 : pAdd [.int a, .int 1] = some (.v (.int (a + 1))) := rfl
  have p2 := add_tup (cutL l none (some (a + 1))) (cutL l (some a) none) (by omega) (by omega)
  simp only [spEnv2, ev_op, ev_cons, gInt, gVar_0, gVar_s, bind_ok, gCon_ok, gNil_ok, opOn, nowAll_d, nowAll_nil, Option.map, p1, e1, e2, p2, give_v, settle_ok_d, take_self]
theorem pick1 : gOp pAdd (gCons (gOp pAdd (gCons (gOp pSl (gCons (gVar 1) (gCons (gCon .non) (gCons (gInt (gVar 4)) gNil)))) (gCons (gTup (gCons (gVar 2) gNil)) gNil))) (gCons (gOp pSl (gCons (gVar 1) (gCons (gInt (gVar 4)) (gCons (gCon .non) gNil)))) gNil)) (spEnv2 n (.tup l) x k a w) st
    = .ok (.d (.tup (cutL l none (some a) ++ [x] ++ cutL l (some a) none))) st := by
  have c1 := cut_len l none (some a)
  have c2 := cut_len l (some a) none
  have e1 := sl_tup l .non (.int a) none (some a) rfl rfl
  have e2 := sl_tup l (.int a) .non (some a) none rfl rfl
  have p1 := add_tup (cutL l none (some a)) [x] (by omega) (by simp)
  have p2 := add_tup (cutL l none (some a) ++ [x]) (cutL l (some a) none) (by simp; omega) (by omega)
  have h1 : (0 + 1 : Nat) ≤ LID := by decide
  simp only [spEnv2, ev_op, ev_cons, gInt, gTup, gVar_0, gVar_s, bind_ok, gCon_ok, gNil_ok, opOn, nowAll_d, nowAll_nil, freezeAll_d, freezeAll_nil, Option.map, List.length_cons, List.length_nil, h1, if_true, p1, e1, e2, p2, give_v, settle_ok_d, take_self]
theorem pick3 : gOp pAdd (gCons (gOp pAdd (gCons (gOp pAdd (gCons (gOp pSl (gCons (gVar 1) (gCons (gCon .non) (gCons (gInt (gVar 4)) gNil)))) (gCons (gOp pSl (gCons (gVar 1) (gCons (gInt (gOp pAdd (gCons (gVar 4) (gCons (gCon (.int 1)) gNil)))) (gCons (gInt (gOp pAdd (gCons (gVar 4) (gCons (gCon (.int 2)) gNil)))) gNil)))) gNil))) (gCons (gOp pSl (gCons (gVar 1) (gCons (gInt (gVar 4)) (gCons (gInt (gOp pAdd (gCons (gVar 4) (gCons (gCon (.int 1)) gNil)))) gNil)))) gNil))) (gCons (gOp pSl (gCons (gVar 1) (gCons (gInt (gOp pAdd (gCons (gVar 4) (gCons (gCon (.int 2)) gNil)))) (gCons (gCon .non) gNil)))) gNil)) (spEnv2 n (.tup l) x k a w) st
    = .ok (.d (.tup (cutL l none (some a) ++ cutL l (some (a + 1)) (some (a + 2)) ++ cutL l (some a) (some (a + 1)) ++ cutL l (some (a + 2)) none))) st := by
  have c1 := cut_len l none (some a)
  have c2 := cut_len l (some (a + 1)) (some (a + 2))
  have c3 := cut_len l (some a) (some (a + 1))
  have c4 := cut_len l (some (a + 2)) none
  have e1 := sl_tup l .non (.int a) none (some a) rfl rfl
  have e2 := sl_tup l (.int (a + 1)) (.int (a + 2)) (some (a + 1)) (some (a + 2)) rfl rfl
  have e3 := sl_tup l (.int a) (.int (a + 1)) (some a) (some (a + 1)) rfl rfl
  have e4 := sl_tup l (.int (a + 2)) .non (some (a + 2)) none rfl rfl
  have q1 : pAdd [.int a, .int 1] = some (.v (.int (a + 1))) := rfl
  have q2 : pAdd [.int a, .int 2] = some (.v (.int (a + 2))) := rfl
  have p1 := add_tup (cutL l none (some a)) (cutL l (some (a + 1)) (some (a + 2))) (by omega) (by omega)
  have p2 := add_tup (cutL l none (some a) ++ cutL l (some (a + 1)) (some (a + 2))) (cutL l (some a) (some (a + 1))) (by rw [List.length_append]; omega) (by omega)
  have p3 := add_tup (cutL l none (some a) ++ cutL l (some (a + 1)) (some (a + 2)) ++ cutL l (some a) (some (a + 1))) (cutL l (some (a + 2)) none) (by rw [List.length_append, List.length_append]; omega) (by omega)
  simp only [spEnv2, ev_op, ev_cons, gInt, gVar_0, gVar_s, bind_ok, gCon_ok, gNil_ok, opOn, nowAll_d, nowAll_nil, Option.map, q1, q2, e1, e2, e3, e4, p1, p2, p3, give_v, settle_ok_d, take_self]
theorem pick4 : gOp pList (gCons (gVar 1) gNil) (spEnv2 n (.tup l) x k a w) st = .ok (.obj st.length) (st ++ [.ls l]) := by
  have h : l.length ≤ LID := by unfold LID; omega
  simp [spEnv2, ev_op, ev_cons, opOn, pList, give, h]
theorem how_if (q : Int) (e : SemE) (v : D) : sIf (tVal (gOp pEq (gCons (gVar 5) (gCons (gCon (.int q)) gNil)))) (sRet e) sNext (spEnv2 n v x k a w) st = if w = q then sRet e (spEnv2 n v x k a w) st else .nx (spEnv2 n v x k a w) st := by
  have e0 : gOp pEq (gCons (gVar 5) (gCons (gCon (.int q)) gNil)) (spEnv2 n v x k a w) st = .ok (.d (.bl (w == q))) st := by
    simp only [spEnv2, ev_op, ev_cons, gVar_0, gVar_s, bind_ok, gCon_ok, gNil_ok, opOn, nowAll_d, nowAll_nil, Option.map, pq, give_v, settle_ok_d, take_self]
  by_cases h : w = q
  · have hb : (w == q) = true := by simp [h]
    rw [if_pos h]
    simp only [sIf, tVal, e0, bind_ok, now_d, okLen, D.truth, if_true, take_self, hb, toS_ok]
  · have hb : (w == q) = false := by simp [h]
    rw [if_neg h]
    simp only [sIf, tVal, e0, bind_ok, now_d, okLen, D.truth, if_true, take_self, hb, toS_ok]
    rfl
end
end K03
end

section
set_option Elab.async false
set_option linter.all false
set_option maxRecDepth 100000
set_option maxHeartbeats 1000000
/-! K03X: _law_spoilt's last branch. -/
namespace K03
open PD
theorem ix_tup (l : List D) (a : Int) (h0 : 0 ≤ a) (h1 : a < l.length) : ∃ e, pIx [.tup l, .int a] = some (.v e) ∧ e ∈ l := by
  have hk : a.toNat < l.length := by omega
  have hp : place a l.length = some a.toNat := by
    unfold place
    rw [if_pos h0, if_pos h1]
  exact ⟨l[a.toNat], by simp [pIx, hp, hk], List.getElem_mem hk⟩
/-- the recursive call, put into a tuple -/
theorem rec_tup (F : SemF) (n : Nat) (l : List D) (x e : D) (k a w : Int) (st st' : Store) (r : A) (hx : pIx [.tup l, .int a] = some (.v e)) (hF : F 15 [.obj n, .d e, .d x, .d (.int (k - 1))] st = .ok r st') (st2 : Store) (hlen : st2.length = st.length)
    (hr : (∃ y, r = .d y ∧ st' = st2) ∨ (∃ m, r = .obj st.length ∧ st' = st2 ++ [.ls m])) :
    ∃ y, gTup (gCons (gCall F 15 (gCons (gVar 0) (gCons (gOp pIx (gCons (gVar 1) (gCons (gVar 4) gNil))) (gCons (gVar 2) (gCons (gOp pSub (gCons (gVar 3) (gCons (gCon (.int 1)) gNil))) gNil))))) gNil) (spEnv2 n (.tup l) x k a w) st = .ok (.d (.tup [y])) st2 ∧ (r = .d y ∨ ∃ m, y = .lst m) := by
  have h1 : (1 : Nat) ≤ LID := by decide
  have hc : gCall F 15 (gCons (gVar 0) (gCons (gOp pIx (gCons (gVar 1) (gCons (gVar 4) gNil))) (gCons (gVar 2) (gCons (gOp pSub (gCons (gVar 3) (gCons (gCon (.int 1)) gNil))) gNil)))) (spEnv2 n (.tup l) x k a w) st = settle st.length (.ok r st') := by
    have hs : pSub [.int k, .int 1] = some (.v (.int (k - 1))) := rfl
    simp only [gCall_def, spEnv2, ev_op, ev_cons, gVar_0, gVar_s, bind_ok, gCon_ok, gNil_ok, opOn, nowAll_d, nowAll_nil, Option.map, hx, hs, give_v, settle_ok_d, take_self, hF]
  have t2 : st2.take st.length = st2 := List.take_of_length_le (by omega)
  rcases hr with ⟨y, rfl, rfl⟩ | ⟨m, rfl, rfl⟩
  · refine ⟨y, ?_, .inl rfl⟩
    simp [gTup, ev_cons, hc, t2, h1]
  · refine ⟨.lst m, ?_, .inr ⟨m, rfl⟩⟩
    have hg : settle st.length (.ok (.obj st.length) (st2 ++ [.ls m])) = .ok (.obj st.length) (st2 ++ [.ls m]) := by
      rw [← hlen]; simp [settle, settleV]
    have hz : freezeAll [.obj st.length] (st2 ++ [.ls m]) = some ([.lst m], st2 ++ [.fz m]) := by
      rw [← hlen]; simp [freezeAll]
    have t3 : (st2 ++ [MO.fz m]).take st.length = st2 := List.take_left' hlen
    rw [hg] at hc
    simp only [gTup, ev_cons, hc, bind_ok, gNil_ok, hz]
    rw [if_pos (show [D.lst m].length ≤ LID from h1), settle_ok_d, t3]
end K03
end

section
set_option Elab.async false
set_option linter.all false
set_option maxRecDepth 100000
set_option maxHeartbeats 1000000
/-! K03Y: _law_spoilt whole. -/
namespace K03
open PD
theorem rt_d (L : Nat) (d : D) (st2 : Store) (h : st2.length = L) : finish L (.rt (.d d) st2) = .ok (.d d) st2 := by
  show Out.ok _ (List.take _ _) = _
  rw [List.take_of_length_le (by omega)]
theorem rt_obj (L : Nat) (m : MO) (st2 : Store) (h : st2.length = L) : finish L (.rt (.obj L) (st2 ++ [m])) = .ok (.obj L) (st2 ++ [m]) := by
  subst h; simp [finish, settleV]
theorem ok_app {i : Nat} {l : List D} (h : okG i (.tup l)) {m : List D} {x : D} (hx : okG (i - 1) x) (hm : ∀ e ∈ m, e ∈ l ∨ e = x) : okG i (.tup m) := okG_tup fun e he => by
  rcases hm e he with q | q
  · exact okG_of h e q
  · rw [q]; exact hx
theorem env_at (n : Nat) (v x : D) (k a : Int) (st st2 : Store) (g : SemE) (hg : g (spEnv n v x k) st = .ok (.d (.int a)) st2) : sSet 4 g (spEnv n v x k) st = .nx [some (.obj n), some (.d v), some (.d x), some (.d (.int k)), some (.d (.int a)), none] st2 := by
  simp only [sSet, hg, toS_ok]; rfl
theorem env_how (n : Nat) (v x : D) (k a w : Int) (st st2 : Store) (g : SemE) (hg : g [some (.obj n), some (.d v), some (.d x), some (.d (.int k)), some (.d (.int a)), none] st = .ok (.d (.int w)) st2) : sSet 5 g [some (.obj n), some (.d v), some (.d x), some (.d (.int k)), some (.d (.int a)), none] st = .nx (spEnv2 n v x k a w) st2 := by
  simp only [sSet, hg, toS_ok]; rfl
end K03
end

section
set_option Elab.async false
set_option linter.all false
set_option maxRecDepth 100000
set_option maxHeartbeats 1000000
/-! K03Z: _law_spoilt whole. -/
namespace K03
open PD
def SpOut (n i : Nat) (st : Store) (r : A) (st' : Store) : Prop := ∃ c', IsBag c' ∧ ((∃ y, r = .d y ∧ okG i y ∧ st' = st.set n (.ls c')) ∨ (∃ l, r = .obj st.length ∧ st' = st.set n (.ls c') ++ [.ls l]))
theorem pick5 (n : Nat) (l : List D) (x y : D) (k a w : Int) (st st2 : Store) (hl : l.length < 1000) (hlen : st2.length = st.length) (g : SemE) (hg : g (spEnv2 n (.tup l) x k a w) st = .ok (.d (.tup [y])) st2) :
    gOp pAdd (gCons (gOp pAdd (gCons (gOp pSl (gCons (gVar 1) (gCons (gCon .non) (gCons (gInt (gVar 4)) gNil)))) (gCons g gNil))) (gCons (gOp pSl (gCons (gVar 1) (gCons (gInt (gOp pAdd (gCons (gVar 4) (gCons (gCon (.int 1)) gNil)))) (gCons (gCon .non) gNil)))) gNil)) (spEnv2 n (.tup l) x k a w) st
      = .ok (.d (.tup (cutL l none (some a) ++ [y] ++ cutL l (some (a + 1)) none))) st2 := by
  have c1 := cut_len l none (some a)
  have c2 := cut_len l (some (a + 1)) none
  have e1 := sl_tup l .non (.int a) none (some a) rfl rfl
  have e2 := sl_tup l (.int (a + 1)) .non (some (a + 1)) none rfl rfl
  have q1 : pAdd [.int a, .int 1] = some (.v (.int (a + 1))) := rfl
  have p1 := add_tup (cutL l none (some a)) [y] (by omega) (by simp)
  have p2 := add_tup (cutL l none (some a) ++ [y]) (cutL l (some (a + 1)) none) (by simp; omega) (by omega)
  have t2 : st2.take st.length = st2 := List.take_of_length_le (by omega)
  have v1 : ∀ s : Store, gVar 1 (spEnv2 n (.tup l) x k a w) s = .ok (.d (.tup l)) s := fun _ => rfl
  have v4 : ∀ s : Store, gVar 4 (spEnv2 n (.tup l) x k a w) s = .ok (.d (.int a)) s := fun _ => rfl
  simp only [ev_op, ev_cons, gInt, v1, v4, hg, bind_ok, gCon_ok, gNil_ok, opOn, nowAll_d, nowAll_nil, Option.map, q1, e1, e2, p1, p2, give_v, settle_ok_d, take_self, t2]
theorem e_spoilt (j n : Nat) (x : D) (hx : ∀ i, okG i x) : ∀ (k i : Nat) (v : D) (st : Store) (c : List D), IsBag c → st[n]? = some (.ls c) → small k v → okG i v →
    ∃ r st', semT T (j + k + 2) 15 [.obj n, .d v, .d x, .d (.int k)] st = .ok r st' ∧ SpOut n i st r st' := by
  intro k
  induction k with
  | zero =>
    intro i v st c hc h _ hv
    rcases gate_out j n st c hc h v x ((0 : Nat) : Int) with ⟨c', e, hc'⟩ | ⟨c', l, e, hc', hl, hne, hk⟩
    · refine ⟨_, _, ?_, c', hc', .inl ⟨x, rfl, hx i, rfl⟩⟩
      show (if 4 = 4 then finish st.length (g_law_spoilt (semT T (j + 1)) (spEnv n v x ((0 : Nat) : Int)) st) else .bad) = _
      rw [if_pos rfl]
      unfold gate at e
      unfold g_law_spoilt
      rw [seq_rt e, rt_d _ _ _ (by simp)]
    · exact absurd rfl hk
  | succ k ih =>
    intro i v st c hc h hs hv
    have key : ∀ (st1 : Store) (r : A) (st' : Store), True := fun _ _ _ => trivial
    rcases gate_out (j + k + 1) n st c hc h v x ((k + 1 : Nat) : Int) with ⟨c', e, hc'⟩ | ⟨c1, l, e, hc1, rfl, hne, hk⟩
    · refine ⟨_, _, ?_, c', hc', .inl ⟨x, rfl, hx i, rfl⟩⟩
      show (if 4 = 4 then finish st.length (g_law_spoilt (semT T (j + k + 1 + 1)) (spEnv n v x ((k + 1 : Nat) : Int)) st) else .bad) = _
      rw [if_pos rfl]
      unfold gate at e
      unfold g_law_spoilt
      rw [seq_rt e, rt_d _ _ _ (by simp)]
    · have hl : l.length < 1000 := hs.1
      have hl1 : 1 ≤ l.length := List.length_pos_iff.mpr hne
      have g1 := get_set (.ls c1) h
      have hlen : gOp pLen (gCons (gVar 1) gNil) (spEnv n (.tup l) x ((k + 1 : Nat) : Int)) (st.set n (.ls c1)) = .ok (.d (.int l.length)) (st.set n (.ls c1)) := by
        generalize st.set n (.ls c1) = s9
        have hq : pLen [.tup l] = some (.v (.int l.length)) := rfl
        simp only [spEnv, ev_op, ev_cons, gVar_0, gVar_s, bind_ok, gNil_ok, opOn, nowAll_d, nowAll_nil, Option.map, hq, give_v, settle_ok_d, take_self]
      obtain ⟨a, c2, ea, hc2, ha0, ha1⟩ := draw_op (j + k + 1) n _ c1 hc1 g1 (spEnv n (.tup l) x ((k + 1 : Nat) : Int)) _ l.length (by omega) hlen rfl
      have ha1 := ha1 (by omega)
      rw [List.set_set] at ea
      have g2 := get_set (.ls c2) h
      have s1 := env_at n (.tup l) x _ a _ _ _ ea
      obtain ⟨w, c3, ew, hc3, -, -⟩ := draw_op (j + k + 1) n _ c2 hc2 g2 [some (.obj n), some (.d (.tup l)), some (.d x), some (.d (.int ((k + 1 : Nat) : Int))), some (.d (.int a)), none] (gCon (.int 9)) 9 (by decide) rfl rfl
      rw [List.set_set] at ew
      have g3 := get_set (.ls c3) h
      have s2 := env_how n (.tup l) x _ a w _ _ _ ew
      have hfin : (st.set n (.ls c3)).length = st.length := by simp
      unfold gate at e
      have start : ∀ r st', finish st.length (g_law_spoilt (semT T (j + k + 1 + 1)) (spEnv n (.tup l) x ((k + 1 : Nat) : Int)) st) = .ok r st' → semT T (j + (k + 1) + 2) 15 [.obj n, .d (.tup l), .d x, .d (.int ((k + 1 : Nat) : Int))] st = .ok r st' := fun r st' q => by
        show (if 4 = 4 then finish st.length (g_law_spoilt (semT T (j + k + 1 + 1)) (spEnv n (.tup l) x ((k + 1 : Nat) : Int)) st) else .bad) = _
        rw [if_pos rfl]; exact q
      unfold g_law_spoilt at start
      rw [seq_nx e, seq_nx s1, seq_nx s2] at start
      have cm : ∀ {p q : Option Int} {y : D}, y ∈ cutL l p q → y ∈ l ∨ y = x := fun hy => .inl (cut_mem hy)
      have done : ∀ (m : List D), (∀ y ∈ m, y ∈ l ∨ y = x) → SpOut n i st (.d (.tup m)) (st.set n (.ls c3)) := fun m hm => ⟨c3, hc3, .inl ⟨_, rfl, ok_app hv (hx _) hm, rfl⟩⟩
      have sret : ∀ (g : SemE) (d : D), g (spEnv2 n (.tup l) x ((k + 1 : Nat) : Int) a w) (st.set n (.ls c3)) = .ok (.d d) (st.set n (.ls c3)) → sRet g (spEnv2 n (.tup l) x ((k + 1 : Nat) : Int) a w) (st.set n (.ls c3)) = .rt (.d d) (st.set n (.ls c3)) := fun g d hg => by
        simp only [sRet, hg, toS_ok]
      by_cases h0 : w = 0
      · rw [seq_rt (by rw [how_if n l x _ a w _ hl 0, if_pos h0]; exact sret _ _ (pick0 n l x _ a w _ hl)), rt_d _ _ _ hfin] at start
        exact ⟨_, _, start _ _ rfl, done _ fun y hy => by
          rcases List.mem_append.mp hy with q | q
          · exact cm q
          · exact cm q⟩
      rw [seq_nx (by rw [how_if n l x _ a w _ hl 0, if_neg h0])] at start
      by_cases h1 : w = 1
      · rw [seq_rt (by rw [how_if n l x _ a w _ hl 1, if_pos h1]; exact sret _ _ (pick1 n l x _ a w _ hl)), rt_d _ _ _ hfin] at start
        exact ⟨_, _, start _ _ rfl, done _ fun y hy => by
          rcases List.mem_append.mp hy with q | q
          · rcases List.mem_append.mp q with q | q
            · exact cm q
            · exact .inr (List.mem_singleton.mp q)
          · exact cm q⟩
      rw [seq_nx (by rw [how_if n l x _ a w _ hl 1, if_neg h1])] at start
      by_cases h2 : w = 2
      · rw [seq_rt (by rw [how_if n l x _ a w _ hl 2, if_pos h2]; exact sret _ _ (pick2 n l x _ a w _ hl)), rt_d _ _ _ hfin] at start
        exact ⟨_, _, start _ _ rfl, done _ fun y hy => by
          rcases List.mem_append.mp hy with q | q
          · exact cm q
          · exact cm q⟩
      rw [seq_nx (by rw [how_if n l x _ a w _ hl 2, if_neg h2])] at start
      by_cases h3 : w = 3
      · rw [seq_rt (by rw [how_if n l x _ a w _ hl 3, if_pos h3]; exact sret _ _ (pick3 n l x _ a w _ hl)), rt_d _ _ _ hfin] at start
        exact ⟨_, _, start _ _ rfl, done _ fun y hy => by
          rcases List.mem_append.mp hy with q | q
          · rcases List.mem_append.mp q with q | q
            · rcases List.mem_append.mp q with q | q
              · exact cm q
              · exact cm q
            · exact cm q
          · exact cm q⟩
      rw [seq_nx (by rw [how_if n l x _ a w _ hl 3, if_neg h3])] at start
      by_cases h4 : w = 4
      · have hp := pick4 n l x ((k + 1 : Nat) : Int) a w (st.set n (.ls c3)) hl
        rw [hfin] at hp
        rw [seq_rt (v := .obj st.length) (st1 := st.set n (.ls c3) ++ [.ls l]) (by rw [how_if n l x _ a w _ hl 4, if_pos h4]; simp only [sRet, hp, toS_ok]), rt_obj _ _ _ hfin] at start
        exact ⟨_, _, start _ _ rfl, c3, hc3, .inr ⟨l, rfl, rfl⟩⟩
      rw [seq_nx (by rw [how_if n l x _ a w _ hl 4, if_neg h4])] at start
      obtain ⟨e0, hix, hmem⟩ := ix_tup l a ha0 ha1
      obtain ⟨r, st', hF, c4, hc4, hr⟩ := ih (i - 1) e0 _ c3 hc3 g3 (hs.2 e0 hmem) (okG_of hv e0 hmem)
      rw [List.set_set] at hr
      have hk1 : (((k + 1 : Nat) : Int) - 1) = (k : Int) := by omega
      have hlen4 : (st.set n (.ls c4)).length = (st.set n (.ls c3)).length := by simp
      obtain ⟨y, hy, hyr⟩ := rec_tup (semT T (j + k + 1 + 1)) n l x e0 ((k + 1 : Nat) : Int) a w (st.set n (.ls c3)) st' r hix (by rw [hk1]; exact hF) (st.set n (.ls c4)) hlen4 (by
        rcases hr with ⟨y, q1, _, q3⟩ | ⟨m, q1, q2⟩
        · exact .inl ⟨y, q1, q3⟩
        · exact .inr ⟨m, q1, q2⟩)
      have hyok : okG (i - 1) y := by
        rcases hyr with q | ⟨m, q⟩
        · rcases hr with ⟨y', q1, q2, _⟩ | ⟨m, q1, _⟩
          · rw [q1] at q; cases q; exact q2
          · rw [q1] at q; cases q
        · rw [q]; exact okG_lst _ _
      have hfin4 : (st.set n (.ls c4)).length = st.length := by simp
      have p5 := pick5 n l x y ((k + 1 : Nat) : Int) a w (st.set n (.ls c3)) (st.set n (.ls c4)) hl hlen4 _ hy
      have r5 : ∀ g : SemE, g (spEnv2 n (.tup l) x ((k + 1 : Nat) : Int) a w) (st.set n (.ls c3)) = .ok (.d (.tup (cutL l none (some a) ++ [y] ++ cutL l (some (a + 1)) none))) (st.set n (.ls c4)) → sRet g (spEnv2 n (.tup l) x ((k + 1 : Nat) : Int) a w) (st.set n (.ls c3)) = .rt (.d (.tup (cutL l none (some a) ++ [y] ++ cutL l (some (a + 1)) none))) (st.set n (.ls c4)) := fun g hg => by
        simp only [sRet, hg, toS_ok]
      rw [r5 _ p5, rt_d _ _ _ hfin4] at start
      refine ⟨_, _, start _ _ rfl, c4, hc4, .inl ⟨_, rfl, okG_tup fun q hq => ?_, rfl⟩⟩
      rcases List.mem_append.mp hq with q1 | q1
      · rcases List.mem_append.mp q1 with q1 | q1
        · exact okG_of hv q (cut_mem q1)
        · rw [List.mem_singleton.mp q1]; exact hyok
      · exact okG_of hv q (cut_mem q1)
end K03
end

section
set_option Elab.async false
set_option linter.all false
set_option maxRecDepth 100000
set_option maxHeartbeats 1000000
/-! K03AA: the spans that are drawn. -/
namespace K03
open PD
theorem lput_bound (t : List Nat) : ∀ L : List Sp, (∀ x ∈ L, x.b ≤ x.e) → (lput t L).length ≤ t.length + sumS L
  | [], _ => by simp [lput]
  | x :: L, h => by
    have ih := lput_bound t L fun y hy => h y (List.mem_cons_of_mem _ hy)
    have hx := h x List.mem_cons_self
    have e : lput t (x :: L) = step (lput t L) x := rfl
    rw [e]
    have hs : sumS (x :: L) = x.s.length + sumS L := by simp [sumS]
    rw [hs]
    simp only [step, List.length_append, List.length_take, List.length_drop]
    omega
theorem sumS_app (L M : List Sp) : sumS (L ++ M) = sumS L + sumS M := by simp [sumS]
theorem lput_parts {t : List Nat} {L : List Sp} (ht : t.length ≤ 4000) (h : ∀ x ∈ L, x.b ≤ x.e) (hs : sumS L ≤ 1600000) : ∀ M1 M2, L = M1 ++ M2 → (lput t M2).length ≤ 8000000 := fun M1 M2 e => by
  have h1 := lput_bound t M2 fun x hx => h x (by rw [e]; exact List.mem_append_right _ hx)
  have h2 : sumS L = sumS M1 + sumS M2 := by rw [e, sumS_app]
  omega
theorem chain_le : ∀ {L : List Sp} {p : Nat}, Chain p L → ∀ x ∈ L, x.b ≤ x.e
  | [], _, _, x, hx => by cases hx
  | y :: L, p, c, x, hx => by
    rcases List.mem_cons.mp hx with rfl | hx
    · exact c.2.1
    · exact chain_le c.2.2 x hx
theorem chain_app : ∀ {L : List Sp} {p : Nat} {x : Sp}, Chain p L → lastE p L ≤ x.b → x.b ≤ x.e → Chain p (L ++ [x])
  | [], _, _, _, h1, h2 => ⟨h1, h2, trivial⟩
  | y :: L, p, x, c, h1, h2 => ⟨c.1, c.2.1, chain_app c.2.2 h1 h2⟩
theorem lastE_app : ∀ (L : List Sp) (p : Nat) (x : Sp), lastE p (L ++ [x]) = x.e
  | [], _, _ => rfl
  | y :: L, p, x => lastE_app L y.e x
theorem adj_app : ∀ (l : List D) (d : D), adj l = true → (∀ y ∈ l, lt01 y d = true) → adj (l ++ [d]) = true
  | [], _, _, _ => rfl
  | [a], d, _, h => by simp [adj, h a List.mem_cons_self]
  | a :: b :: r, d, h, hd => by
    have ih := adj_app (b :: r) d (by simp [adj] at h; exact h.2) fun y hy => hd y (List.mem_cons_of_mem _ hy)
    have h1 : lt01 a b = true := by simp [adj] at h; exact h.1
    show (lt01 a b && adj (b :: (r ++ [d]))) = true
    rw [h1]; exact ih
structure SpInv (t : List Nat) (L : List Sp) (at_ : Nat) : Prop where
  ch : Chain 0 L
  la : lastE 0 L ≤ t.length
  lt : lastE 0 L ≤ at_
  sp : ∀ x ∈ L, isSpan (spD x) = true ∧ isText (.str x.s) = true ∧ x.e < at_ ∧ x.s.length ≤ 3
  ad : adj (L.map spD) = true
theorem inv_nil (t : List Nat) : SpInv t [] 0 := ⟨trivial, Nat.zero_le _, Nat.le_refl _, by simp, rfl⟩
theorem inv_app {t : List Nat} {L : List Sp} {a : Nat} (h : SpInv t L a) {x : Sp} (ht : t.length ≤ 4000) (h1 : a ≤ x.b) (h2 : x.b ≤ x.e) (h3 : x.e ≤ t.length) (h4 : x.b < x.e ∨ x.s ≠ []) (h5 : isText (.str x.s) = true) (h6 : x.s.length ≤ 3) : SpInv t (L ++ [x]) (x.e + 1) where
  ch := chain_app h.ch (Nat.le_trans h.lt h1) h2
  la := by rw [lastE_app]; exact h3
  lt := by rw [lastE_app]; exact Nat.le_succ _
  sp := fun y hy => by
    rcases List.mem_append.mp hy with hy | hy
    · obtain ⟨q1, q2, q3, q4⟩ := h.sp y hy
      exact ⟨q1, q2, by omega, q4⟩
    · rw [List.mem_singleton.mp hy]
      refine ⟨span_good h5 (by omega) ?_, h5, Nat.lt_succ_self _, h6⟩
      by_cases q : x.b < x.e
      · exact .inl q
      · exact .inr ⟨by omega, h4.resolve_left q⟩
  ad := by
    rw [List.map_append]
    refine adj_app _ _ h.ad fun y hy => ?_
    obtain ⟨z, hz, rfl⟩ := List.mem_map.mp hy
    have q := (h.sp z hz).2.2.1
    show decide ((z.e : Int) < (x.b : Int)) = true
    exact decide_eq_true (by omega)
theorem inv_are {t : List Nat} {L : List Sp} {a : Nat} (h : SpInv t L a) (hl : L.length ≤ 400) : areS (.tup (L.map spD)) = true := by
  have h1 : (L.map spD).all isSpan = true := List.all_eq_true.mpr fun d hd => by
    obtain ⟨x, hx, rfl⟩ := List.mem_map.mp hd
    exact (h.sp x hx).1
  simp [areS, h1, h.ad, hl]
theorem inv_sum {t : List Nat} : ∀ {L : List Sp}, (∀ x ∈ L, x.s.length ≤ 3) → sumS L ≤ 3 * L.length
  | [], _ => by simp [sumS]
  | x :: L, h => by
    have ih := inv_sum (t := t) (L := L) fun y hy => h y (List.mem_cons_of_mem _ hy)
    have hx := h x List.mem_cons_self
    have hs : sumS (x :: L) = x.s.length + sumS L := by simp [sumS]
    rw [hs, List.length_cons]; omega
theorem inv_okTT {L : List Sp} (h : ∀ x ∈ L, isText (.str x.s) = true) : okTT (.tup (L.map spD)) = true := List.all_eq_true.mpr fun d hd => by
  obtain ⟨x, hx, rfl⟩ := List.mem_map.mp hd
  exact span_okT (h x hx)
theorem inv_okG {L : List Sp} (h : ∀ x ∈ L, isText (.str x.s) = true) : okG 3 (.tup (L.map spD)) := fun d hd => by
  obtain ⟨x, hx, rfl⟩ := List.mem_map.mp hd
  intro e he
  have := List.all_eq_true.mp (span_okT (h x hx)) e he
  exact this
theorem inv_small {L : List Sp} (h : L.length < 1000) : small 3 (.tup (L.map spD)) := by
  refine ⟨by simpa using h, fun d hd => ?_⟩
  obtain ⟨x, hx, rfl⟩ := List.mem_map.mp hd
  refine ⟨by simp, fun e he => ?_⟩
  rcases List.mem_cons.mp he with rfl | he
  · trivial
  rcases List.mem_cons.mp he with rfl | he
  · trivial
  rw [List.mem_singleton.mp he]; trivial
/-- the texts that are drawn -/
theorem some_text {s : List Nat} (hl : s.length ≤ 4000) (h : ∀ x ∈ s, x ∈ [97, 98, 32, 10, 49]) : isText (.str s) = true := by
  simp only [isText, Bool.and_eq_true, decide_eq_true_eq, List.all_eq_true]
  refine ⟨hl, fun c hc => ?_⟩
  have := h c hc
  simp only [List.mem_cons, List.not_mem_nil, or_false] at this
  rcases this with rfl | rfl | rfl | rfl | rfl <;> decide
end K03
end

section
set_option Elab.async false
set_option linter.all false
set_option maxRecDepth 100000
set_option maxHeartbeats 1000000
/-! K03AB: the loop that draws spans. -/
namespace K03
open PD
theorem draw_at (j n : Nat) (st : Store) (c : List D) (hc : IsBag c) (h : st[n]? = some (.ls c)) (env : Env) (i : Nat) (m : Int) (hm : m < 1073741824) (h0 : gVar i env st = .ok (.obj n) st) :
    ∃ (v : Nat) (c' : List D), gCall (semT T (j + 1)) 13 (gCons (gVar i) (gCons (gCon (.int m)) gNil)) env st = .ok (.d (.int v)) (st.set n (.ls c')) ∧ IsBag c' ∧ (1 ≤ m → (v : Int) < m) := by
  obtain ⟨v, c', e, hc', h1, h2, -⟩ := e_draw j n st c hc h m hm
  obtain ⟨b, rfl⟩ := Int.eq_ofNat_of_zero_le h1
  exact ⟨b, c', call_ok (cons_ok h0 (cons_ok rfl rfl)) e (by simp), hc', h2⟩
def lawEnv (a0 a1 a2 : Option A) (n : Nat) (t : List Nat) (L : List Sp) (p : Nat) (r : Env) : Env :=
  a0 :: a1 :: a2 :: some (.obj n) :: some (.d (.str t)) :: some (.d (.tup (L.map spD))) :: some (.d (.int p)) :: r
theorem turn_2 (j n : Nat) (a0 a1 a2 a7 a8 a9 a10 : Option A) (q : Env) (t : List Nat) (L : List Sp) (p : Nat) (st : Store) (c : List D) (hc : IsBag c) (h : st[n]? = some (.ls c)) (ht : t.length ≤ 4000) (hi : SpInv t L p) (hL : L.length ≤ 2) :
    ∃ (L' : List Sp) (p' : Nat) (b8 b9 b10 : Option A) (c' : List D), b_law_2 (semT T (j + 3)) (lawEnv a0 a1 a2 n t L p (a7 :: a8 :: a9 :: a10 :: q)) st = .nx (lawEnv a0 a1 a2 n t L' p' (a7 :: b8 :: b9 :: b10 :: q)) (st.set n (.ls c')) ∧ IsBag c' ∧ SpInv t L' p' ∧ L'.length ≤ L.length + 1 := by
  obtain ⟨v1, c1, e1, hc1, -⟩ := draw_at (j + 2) n st c hc h (lawEnv a0 a1 a2 n t L p (a7 :: a8 :: a9 :: a10 :: q)) 3 4 (by decide) rfl
  have g1 := get_set (.ls c1) h
  have s1 : sSet 8 (gOp pAdd (gCons (gVar 6) (gCons (gCall (semT T (j + 3)) 13 (gCons (gVar 3) (gCons (gCon (.int 4)) gNil))) gNil))) (lawEnv a0 a1 a2 n t L p (a7 :: a8 :: a9 :: a10 :: q)) st
      = .nx (lawEnv a0 a1 a2 n t L p (a7 :: some (.d (.int (p + v1 : Nat))) :: a9 :: a10 :: q)) (st.set n (.ls c1)) :=
    set_nx (op2 (x := .int p) rfl e1 (add_nat p v1) (by simp))
  obtain ⟨v2, c2, e2, hc2, -⟩ := draw_at (j + 2) n _ c1 hc1 g1 (lawEnv a0 a1 a2 n t L p (a7 :: some (.d (.int (p + v1 : Nat))) :: a9 :: a10 :: q)) 3 4 (by decide) rfl
  rw [List.set_set] at e2
  have g2 := get_set (.ls c2) h
  have s2 : sSet 9 (gOp pAdd (gCons (gVar 8) (gCons (gCall (semT T (j + 3)) 13 (gCons (gVar 3) (gCons (gCon (.int 4)) gNil))) gNil))) (lawEnv a0 a1 a2 n t L p (a7 :: some (.d (.int (p + v1 : Nat))) :: a9 :: a10 :: q)) (st.set n (.ls c1))
      = .nx (lawEnv a0 a1 a2 n t L p (a7 :: some (.d (.int (p + v1 : Nat))) :: some (.d (.int (p + v1 + v2 : Nat))) :: a10 :: q)) (st.set n (.ls c2)) :=
    set_nx (op2 (x := .int (p + v1 : Nat)) rfl e2 (add_nat (p + v1) v2) (by simp))
  obtain ⟨s, c3, e3, hc3, hs4, hs⟩ := e_some j n _ c2 hc2 g2 4 (by decide) (by decide)
  rw [List.set_set] at e3
  have g3 := get_set (.ls c3) h
  have s3 : sSet 10 (gCall (semT T (j + 3)) 24 (gCons (gVar 3) (gCons (gCon (.int 4)) gNil))) (lawEnv a0 a1 a2 n t L p (a7 :: some (.d (.int (p + v1 : Nat))) :: some (.d (.int (p + v1 + v2 : Nat))) :: a10 :: q)) (st.set n (.ls c2))
      = .nx (lawEnv a0 a1 a2 n t L p (a7 :: some (.d (.int (p + v1 : Nat))) :: some (.d (.int (p + v1 + v2 : Nat))) :: some (.d (.str s)) :: q)) (st.set n (.ls c3)) :=
    set_nx (call_ok (xs := [.obj n, .d (.int 4)]) rfl e3 (by simp))
  generalize hb : p + v1 = b at s1 s2 s3
  generalize he : b + v2 = e at s2 s3
  unfold b_law_2
  rw [seq_nx s1, seq_nx s2, seq_nx s3]
  have hlen : ∀ (E : Env) (s0 : Store), gVar 4 E s0 = .ok (.d (.str t)) s0 → gOp pLen (gCons (gVar 4) gNil) E s0 = .ok (.d (.int t.length)) s0 := fun E s0 hE => op1 hE (len_str t ht) rfl
  have hcond : ∀ st3 : Store, tAnd (tVal (gOp pLe (gCons (gVar 9) (gCons (gOp pLen (gCons (gVar 4) gNil)) gNil)))) (tOr (tVal (gOp pLt (gCons (gVar 8) (gCons (gVar 9) gNil)))) (tVal (gOp pNe (gCons (gVar 10) (gCons (gCon (.str [])) gNil)))))
      (lawEnv a0 a1 a2 n t L p (a7 :: some (.d (.int b)) :: some (.d (.int e)) :: some (.d (.str s)) :: q)) st3 = .ok (decide (e ≤ t.length) && (decide (b < e) || !decide (s = []))) st3 := fun st3 =>
    t_and (tv (op2 (x := .int e) rfl (hlen _ _ rfl) (le_nat e t.length) rfl) rfl) (t_or (tv (op2 (x := .int b) (y := .int e) rfl rfl (lt_nat b e) rfl) rfl) (tv (op2 (x := .str s) (y := .str []) rfl rfl (ne_str s []) rfl) rfl))
  cases hk : (decide (e ≤ t.length) && (decide (b < e) || !decide (s = [])))
  · rw [hk] at hcond
    exact ⟨L, p, some (.d (.int b)), some (.d (.int e)), some (.d (.str s)), c3, if_f (hcond _), hc3, hi, by omega⟩
  · rw [hk] at hcond
    rw [Bool.and_eq_true, Bool.or_eq_true, decide_eq_true_eq, decide_eq_true_eq, Bool.not_eq_true', decide_eq_false_iff_not] at hk
    refine ⟨L ++ [⟨b, e, s⟩], e + 1, some (.d (.int b)), some (.d (.int e)), some (.d (.str s)), c3, ?_, hc3, inv_app (x := ⟨b, e, s⟩) hi ht (by show p ≤ b; omega) (by show b ≤ e; omega) hk.1 hk.2 (show isText (.str s) = true from some_text (s := s) (show s.length ≤ 4000 by omega) hs) (Nat.le_of_lt_succ hs4), by simp⟩
    rw [if_t (hcond _)]
    have hp : pAdd [.tup (L.map spD), .tup [spD ⟨b, e, s⟩]] = some (.v (.tup ((L ++ [(⟨b, e, s⟩ : Sp)]).map spD))) := by
      have : (L.map spD).length + [spD (⟨b, e, s⟩ : Sp)].length ≤ LID := by simp [LID]; omega
      simp only [pAdd]
      rw [if_pos this, List.map_append]; rfl
    have s5 : ∀ st3 : Store, sSet 5 (gOp pAdd (gCons (gVar 5) (gCons (gTup (gCons (gTup (gCons (gVar 8) (gCons (gVar 9) (gCons (gVar 10) gNil)))) gNil)) gNil))) (lawEnv a0 a1 a2 n t L p (a7 :: some (.d (.int b)) :: some (.d (.int e)) :: some (.d (.str s)) :: q)) st3
        = .nx (lawEnv a0 a1 a2 n t (L ++ [⟨b, e, s⟩]) p (a7 :: some (.d (.int b)) :: some (.d (.int e)) :: some (.d (.str s)) :: q)) st3 := fun st3 =>
      set_nx (op2 (x := .tup (L.map spD)) rfl (tup_ok (ds := [spD ⟨b, e, s⟩]) (cons_ok (tup_ok (ds := [.int b, .int e, .str s]) (cons_ok rfl (cons_ok rfl (cons_ok rfl rfl))) (Nat.le_of_ble_eq_true rfl) rfl) rfl) (Nat.le_of_ble_eq_true rfl) rfl) hp rfl)
    rw [seq_nx (s5 _)]
    exact set_nx (op2 (x := .int e) rfl rfl (add_nat e 1) rfl)
theorem loop_2 (j n : Nat) (a0 a1 a2 : Option A) (q : Env) (t : List Nat) (ht : t.length ≤ 4000) (l0 : List D) : ∀ (ds : List D) (L : List Sp) (p : Nat) (a7 a8 a9 a10 : Option A) (st : Store) (c : List D), IsBag c → st[n]? = some (.ls c) → SpInv t L p → L.length + ds.length ≤ 3 →
    ∃ (L' : List Sp) (p' : Nat) (b7 b8 b9 b10 : Option A) (c' : List D), forGo (.name 7) (b_law_2 (semT T (j + 3))) (Src.ok ⟨l0, []⟩) ds (lawEnv a0 a1 a2 n t L p (a7 :: a8 :: a9 :: a10 :: q)) st = .nx (lawEnv a0 a1 a2 n t L' p' (b7 :: b8 :: b9 :: b10 :: q)) (st.set n (.ls c')) ∧ IsBag c' ∧ SpInv t L' p' ∧ L'.length ≤ 3
  | [], L, p, a7, a8, a9, a10, st, c, hc, h, hi, hl => ⟨L, p, a7, a8, a9, a10, c, by rw [forGo, ok_none, if_pos rfl, set_same h], hc, hi, by simpa using hl⟩
  | d :: ds, L, p, a7, a8, a9, a10, st, c, hc, h, hi, hl => by
    rw [List.length_cons] at hl
    obtain ⟨L1, p1, b8, b9, b10, c1, e1, hc1, hi1, hl1⟩ := turn_2 j n a0 a1 a2 (some (.d d)) a8 a9 a10 q t L p st c hc h ht hi (by omega)
    obtain ⟨L2, p2, d7, d8, d9, d10, c2, e2, hc2, hi2, hl2⟩ := loop_2 j n a0 a1 a2 q t ht l0 ds L1 p1 (some (.d d)) b8 b9 b10 (st.set n (.ls c1)) c1 hc1 (get_set _ h) hi1 (by omega)
    refine ⟨L2, p2, d7, d8, d9, d10, c2, ?_, hc2, hi2, hl2⟩
    rw [List.set_set] at e2
    have e0 : Tg.put (.name 7) d (lawEnv a0 a1 a2 n t L p (a7 :: a8 :: a9 :: a10 :: q)) = some (lawEnv a0 a1 a2 n t L p (some (.d d) :: a8 :: a9 :: a10 :: q)) := rfl
    rw [forGo, ok_none, if_pos rfl]
    simp only [e0, e1]
    exact e2
end K03
end

section
set_option Elab.async false
set_option linter.all false
set_option maxRecDepth 100000
set_option maxHeartbeats 1000000
/-! K03AC: one spoilt value. -/
namespace K03
open PD
def rest_1 (F : SemF) : SemS :=
  (sSeq (sSet 13 (gCall F 20 (gCons (gVar 12) gNil)))
    (sSeq (sIf (tVal (gOp pNe (gCons (gCall F 4 (gCons (gVar 12) gNil)) (gCons (gVar 13) gNil)))) (sRet (gCon (.bl false))) sNext)
    (sSeq (sSet 14 (gIf (tOr (tNot (tVal (gVar 13))) (tAnd (tVal (gOp pNe (gCons (gVar 12) (gCons (gTup gNil) gNil)))) (tVal (gOp pGt (gCons (gOp pIx (gCons (gOp pIx (gCons (gVar 12) (gCons (gOp pNeg (gCons (gCon (.int 1)) gNil)) gNil))) (gCons (gCon (.int 1)) gNil))) (gCons (gOp pLen (gCons (gVar 4) gNil)) gNil)))))) (gCon (.str [115, 116, 101, 112, 115])) (gCall F 21 (gCons (gVar 4) (gCons (gVar 12) gNil)))))
    (sSeq (sIf (tVal (gOp pGt (gCons (gOp pLen (gCons (gVar 14) gNil)) (gCons (gCon (.int 4000)) gNil)))) (sSet 14 (gCon (.str [102, 97, 114]))) sNext)
    (sIf (tVal (gOp pNe (gCons (gCall F 17 (gCons (gFn 7) (gCons (gTup (gCons (gVar 4) (gCons (gVar 12) gNil))) gNil))) (gCons (gVar 14) gNil)))) (sRet (gCon (.bl false))) sNext)))))
def steps : List Nat := [115, 116, 101, 112, 115]
def farW : List Nat := [102, 97, 114]
def fin (u : List Nat) : List Nat := if u.length ≤ 4000 then u else farW
theorem ne_same (b : Bool) : pNe [.bl b, .bl b] = some (.v (.bl false)) := by cases b <;> rfl
theorem ne_same_s (u : List Nat) : pNe [.str u, .str u] = some (.v (.bl false)) := by rw [ne_str]; simp
theorem deep_sp (L : List Sp) : okDeep (.tup (L.map spD)) (.tup []) = true := by
  have h := deeps_sp L
  have h1 : (D.tup (L.map spD)).deep ≤ 60 := by
    show D.deeps (L.map spD) + 1 ≤ 60
    omega
  have h2 : (D.tup []).deep ≤ 60 := by simp [D.deep, D.deeps]
  simp only [okDeep, decide_eq_true h1, decide_eq_true h2, Bool.and_self]
/-- what stands behind the last span -/
theorem over (j n : Nat) (a0 a1 a2 a7 a8 a9 a10 a11 x14 : Option A) (q : Env) (t : List Nat) (L L' : List Sp) (p : Nat) (st : Store) (ht : t.length ≤ 4000) :
    (tOr (tNot (tVal (gVar 13))) (tAnd (tVal (gOp pNe (gCons (gVar 12) (gCons (gTup gNil) gNil)))) (tVal (gOp pGt (gCons (gOp pIx (gCons (gOp pIx (gCons (gVar 12) (gCons (gOp pNeg (gCons (gCon (.int 1)) gNil)) gNil))) (gCons (gCon (.int 1)) gNil))) (gCons (gOp pLen (gCons (gVar 4) gNil)) gNil))))))
      (lawEnv a0 a1 a2 n t L p (a7 :: a8 :: a9 :: a10 :: a11 :: some (.d (.tup (L'.map spD))) :: some (.d (.bl true)) :: x14 :: q)) st = .ok (!fitB t L') st := by
  refine t_or_f (t_not (b := true) (tv rfl rfl)) ?_
  cases hg : L'.getLast? with
  | none =>
    have : L' = [] := List.getLast?_eq_none_iff.mp hg
    subst this
    exact t_and_f (tv (op2 (x := .tup []) rfl (tup_ok (ds := []) rfl (Nat.le_of_ble_eq_true rfl) rfl) rfl rfl) rfl)
  | some x =>
    have hne : (L'.map spD).isEmpty = false := by
      cases L' with
      | nil => cases hg
      | cons a r => rfl
    have h1 : pNe [.tup (L'.map spD), .tup []] = some (.v (.bl true)) := by
      simp only [pNe, deep_sp, if_true, D.eqv, eqvs_nil, hne]; rfl
    have h2 : (L'.map spD).getLast? = some (spD x) := by rw [List.getLast?_map, hg]; rfl
    have hf : fitB t L' = decide (x.e ≤ t.length) := by simp only [fitB, hg]
    have h3 : (!fitB t L') = decide (t.length < x.e) := by
      rw [hf]
      by_cases q : x.e ≤ t.length
      · rw [decide_eq_true q, decide_eq_false (by omega)]; rfl
      · rw [decide_eq_false q, decide_eq_true (by omega)]; rfl
    rw [h3]
    refine t_and_t (tv (op2 (x := .tup (L'.map spD)) rfl (tup_ok (ds := []) rfl (Nat.le_of_ble_eq_true rfl) rfl) h1 rfl) rfl) ?_
    exact tv (op2 (op2 (op2 (x := .tup (L'.map spD)) rfl (op1 (x := .int 1) (z := .int (-1)) rfl rfl rfl) (ix_last h2) rfl) rfl (ix1 _ _ _) rfl) (op1 rfl (len_str t ht) rfl) (gt_nat x.e t.length) rfl) rfl
section
variable (j n : Nat) (a0 a1 a2 a7 a8 a9 a10 a11 : Option A) (q : Env) (t : List Nat) (L : List Sp) (p : Nat)
def tEnv (x12 x13 x14 : Option A) : Env := lawEnv a0 a1 a2 n t L p (a7 :: a8 :: a9 :: a10 :: a11 :: x12 :: x13 :: x14 :: q)
theorem tail (F : SemF) (near : A) (b : Bool) (u : List Nat) (hu : u.length ≤ LID) (st st2 : Store) (hl : st2.length = st.length)
    (hA : F 20 [near] st = .ok (.d (.bl b)) st) (hB : F 4 [near] st = .ok (.d (.bl b)) st)
    (hC : ∀ x14, (gIf (tOr (tNot (tVal (gVar 13))) (tAnd (tVal (gOp pNe (gCons (gVar 12) (gCons (gTup gNil) gNil)))) (tVal (gOp pGt (gCons (gOp pIx (gCons (gOp pIx (gCons (gVar 12) (gCons (gOp pNeg (gCons (gCon (.int 1)) gNil)) gNil))) (gCons (gCon (.int 1)) gNil))) (gCons (gOp pLen (gCons (gVar 4) gNil)) gNil)))))) (gCon (.str [115, 116, 101, 112, 115])) (gCall F 21 (gCons (gVar 4) (gCons (gVar 12) gNil)))) (tEnv n a0 a1 a2 a7 a8 a9 a10 a11 q t L p (some near) (some (.d (.bl b))) x14) st = .ok (.d (.str u)) st)
    (hD : ∀ x14, (gCall F 17 (gCons (gFn 7) (gCons (gTup (gCons (gVar 4) (gCons (gVar 12) gNil))) gNil))) (tEnv n a0 a1 a2 a7 a8 a9 a10 a11 q t L p (some near) (some (.d (.bl b))) x14) st = .ok (.d (.str (fin u))) st2) (x13 x14 : Option A) :
    rest_1 F (tEnv n a0 a1 a2 a7 a8 a9 a10 a11 q t L p (some near) x13 x14) st = .nx (tEnv n a0 a1 a2 a7 a8 a9 a10 a11 q t L p (some near) (some (.d (.bl b))) (some (.d (.str (fin u))))) st2 := by
  have s2 : sSet 13 (gCall F 20 (gCons (gVar 12) gNil)) (tEnv n a0 a1 a2 a7 a8 a9 a10 a11 q t L p (some near) x13 x14) st = .nx (tEnv n a0 a1 a2 a7 a8 a9 a10 a11 q t L p (some near) (some (.d (.bl b))) x14) st :=
    set_nx (call_ok (xs := [near]) rfl hA rfl)
  have s3 : sIf (tVal (gOp pNe (gCons (gCall F 4 (gCons (gVar 12) gNil)) (gCons (gVar 13) gNil)))) (sRet (gCon (.bl false))) sNext (tEnv n a0 a1 a2 a7 a8 a9 a10 a11 q t L p (some near) (some (.d (.bl b))) x14) st = .nx (tEnv n a0 a1 a2 a7 a8 a9 a10 a11 q t L p (some near) (some (.d (.bl b))) x14) st :=
    if_f (tv (op2 (call_ok (xs := [near]) rfl hB rfl) rfl (ne_same b) rfl) rfl)
  have s4 := set_nx (i := 14) (hC x14)
  have s5 : sIf (tVal (gOp pGt (gCons (gOp pLen (gCons (gVar 14) gNil)) (gCons (gCon (.int 4000)) gNil)))) (sSet 14 (gCon (.str [102, 97, 114]))) sNext (tEnv n a0 a1 a2 a7 a8 a9 a10 a11 q t L p (some near) (some (.d (.bl b))) (some (.d (.str u)))) st = .nx (tEnv n a0 a1 a2 a7 a8 a9 a10 a11 q t L p (some near) (some (.d (.bl b))) (some (.d (.str (fin u))))) st := by
    have hq : pLen [.str u] = some (.v (.int u.length)) := by simp [pLen, hu]
    have hc : tVal (gOp pGt (gCons (gOp pLen (gCons (gVar 14) gNil)) (gCons (gCon (.int 4000)) gNil))) (tEnv n a0 a1 a2 a7 a8 a9 a10 a11 q t L p (some near) (some (.d (.bl b))) (some (.d (.str u)))) st = .ok (decide (4000 < u.length)) st :=
      tv (op2 (op1 (x := .str u) rfl hq rfl) (y := .int (4000 : Nat)) rfl (gt_nat u.length 4000) rfl) rfl
    by_cases h : u.length ≤ 4000
    · rw [decide_eq_false (by omega)] at hc
      rw [if_f hc, fin, if_pos h]; rfl
    · rw [decide_eq_true (by omega)] at hc
      rw [if_t hc, fin, if_neg h]; rfl
  have s6 : sIf (tVal (gOp pNe (gCons (gCall F 17 (gCons (gFn 7) (gCons (gTup (gCons (gVar 4) (gCons (gVar 12) gNil))) gNil))) (gCons (gVar 14) gNil)))) (sRet (gCon (.bl false))) sNext (tEnv n a0 a1 a2 a7 a8 a9 a10 a11 q t L p (some near) (some (.d (.bl b))) (some (.d (.str (fin u))))) st = .nx (tEnv n a0 a1 a2 a7 a8 a9 a10 a11 q t L p (some near) (some (.d (.bl b))) (some (.d (.str (fin u))))) st2 :=
    if_f (tv (op2 (hD _) (y := .str (fin u)) rfl (ne_same_s _) hl) hl)
  unfold rest_1
  rw [seq_nx s2, seq_nx s3, seq_nx s4]
  exact (seq_nx s5).trans s6
/-- data -/
theorem tail_d (ht : isText (.str t) = true) (y : D) (hy : okTT y = true) (st : Store) (x13 x14 : Option A) :
    ∃ y13 y14, rest_1 (semT T (j + 6)) (tEnv n a0 a1 a2 a7 a8 a9 a10 a11 q t L p (some (.d y)) x13 x14) st = .nx (tEnv n a0 a1 a2 a7 a8 a9 a10 a11 q t L p (some (.d y)) y13 y14) st := by
  have h4 := (isText_str ht).1
  have hA : semT T (j + 6) 20 [.d y] st = .ok (.d (.bl (areS y))) st := e_law_are (j + 3) y hy st
  have hB : semT T (j + 6) 4 [.d y] st = .ok (.d (.bl (areS y))) st := e_are (j + 3) y hy st
  have hT : ∀ (x13 x14 : Option A) (w : List Nat), semT T (j + 6) 17 [.fn 7, .d (.tup [.str t, y])] st = .ok (.d (.str w)) st → (gCall (semT T (j + 6)) 17 (gCons (gFn 7) (gCons (gTup (gCons (gVar 4) (gCons (gVar 12) gNil))) gNil))) (tEnv n a0 a1 a2 a7 a8 a9 a10 a11 q t L p (some (.d y)) x13 x14) st = .ok (.d (.str w)) st := fun x13 x14 w hw =>
    call_ok (cons_ok rfl (cons_ok (tup_ok (ds := [.str t, y]) (cons_ok rfl (cons_ok rfl rfl)) (Nat.le_of_ble_eq_true rfl) rfl) rfl)) hw rfl
  have h5 : (steps).length ≤ LID := by decide
  by_cases hS : areS y = true
  · rw [hS] at hA hB
    obtain ⟨M, rfl, hch, hlen, hsum, htx⟩ := areS_is hS
    have hc := over j n a0 a1 a2 a7 a8 a9 a10 a11
    cases hf : fitB t M with
    | false =>
      refine ⟨_, _, tail n a0 a1 a2 a7 a8 a9 a10 a11 q t L p (semT T (j + 6)) (.d (.tup (M.map spD))) true steps h5 st st rfl hA hB (fun x => ?_) (fun x => ?_) x13 x14⟩
      · have := hc x q t L M p st h4
        rw [hf] at this
        exact gif_t this
      · refine hT _ _ _ ?_
        have := e_told_2 (j + 5) 7 (.str t) (.tup (M.map spD)) st (e_span_unfit (j + 1) t st ht M hy hS hf)
        exact this
    | true =>
      have hle : sumS M ≤ 1600000 := Nat.le_trans hsum (by omega)
      have hpart := lput_parts (t := t) (L := M) h4 (chain_le hch) hle
      have hput : semT T (j + 6) 21 [.d (.str t), .d (.tup (M.map spD))] st = .ok (.d (.str (lput t M))) st := e_law_put (j + 5) t M st hpart fun x hx => (isText_str (htx x hx)).1
      have hu : (lput t M).length ≤ LID := Nat.le_trans (hpart [] M rfl) (by decide)
      have hlp : lput t M = put t M := lput_is t M hch ((lastE_fit (Nat.zero_le _)).mp hf)
      refine ⟨_, _, tail n a0 a1 a2 a7 a8 a9 a10 a11 q t L p (semT T (j + 6)) (.d (.tup (M.map spD))) true (lput t M) hu st st rfl hA hB (fun x => ?_) (fun x => ?_) x13 x14⟩
      · have := hc x q t L M p st h4
        rw [hf] at this
        exact (gif_f this).trans (call_ok (xs := [.d (.str t), .d (.tup (M.map spD))]) rfl hput rfl)
      · refine hT _ _ _ ?_
        have hs := e_span_fit (j + 1) t st ht M hy hS hf hlen hle
        rw [fin, hlp]
        by_cases hp : (put t M).length ≤ 4000
        · rw [if_pos hp] at hs ⊢
          exact e_told_ok (j + 5) 7 (.str t) (.tup (M.map spD)) _ st hs
        · rw [if_neg hp] at hs ⊢
          exact e_told_3 (j + 5) 7 (.str t) (.tup (M.map spD)) st hs
  · have hS : areS y = false := by simpa using hS
    rw [hS] at hA hB
    refine ⟨_, _, tail n a0 a1 a2 a7 a8 a9 a10 a11 q t L p (semT T (j + 6)) (.d y) false steps h5 st st rfl hA hB (fun x => ?_) (fun x => ?_) x13 x14⟩
    · exact gif_t (t_or_t (t_not (b := false) (tv rfl rfl)))
    · exact hT _ _ _ (e_told_2 (j + 5) 7 (.str t) y st (e_span_bad (j + 1) t st ht y hy hS))
/-- a list -/
theorem tail_o (ht : isText (.str t) = true) (m : Nat) (l : List D) (st : Store) (hm : st[m]? = some (.ls l)) (x13 x14 : Option A) :
    ∃ y13 y14, rest_1 (semT T (j + 6)) (tEnv n a0 a1 a2 a7 a8 a9 a10 a11 q t L p (some (.obj m)) x13 x14) st = .nx (tEnv n a0 a1 a2 a7 a8 a9 a10 a11 q t L p (some (.obj m)) y13 y14) (st.set m (.fz l)) := by
  have h4 := (isText_str ht).1
  have hA : semT T (j + 6) 20 [.obj m] st = .ok (.d (.bl false)) st := e_law_are_obj (j + 3) m l st hm
  have hB : semT T (j + 6) 4 [.obj m] st = .ok (.d (.bl false)) st := e_are_obj (j + 3) m l st hm
  have h5 : (steps).length ≤ LID := by decide
  have hlen : (st.set m (.fz l)).length = st.length := by simp
  refine ⟨_, _, tail n a0 a1 a2 a7 a8 a9 a10 a11 q t L p (semT T (j + 6)) (.obj m) false steps h5 st _ hlen hA hB (fun x => ?_) (fun x => ?_) x13 x14⟩
  · exact gif_t (t_or_t (t_not (b := false) (tv rfl rfl)))
  · have h2 : (2 : Nat) ≤ LID := by decide
    have v4 : gVar 4 (tEnv n a0 a1 a2 a7 a8 a9 a10 a11 q t L p (some (.obj m)) (some (.d (.bl false))) x) st = .ok (.d (.str t)) st := rfl
    have v12 : gVar 12 (tEnv n a0 a1 a2 a7 a8 a9 a10 a11 q t L p (some (.obj m)) (some (.d (.bl false))) x) st = .ok (.obj m) st := rfl
    have hg : gTup (gCons (gVar 4) (gCons (gVar 12) gNil)) (tEnv n a0 a1 a2 a7 a8 a9 a10 a11 q t L p (some (.obj m)) (some (.d (.bl false))) x) st = .ok (.d (.tup [.str t, .lst l])) (st.set m (.fz l)) := by
      have hfz : freezeAll [.d (.str t), .obj m] st = some ([.str t, .lst l], st.set m (.fz l)) := by simp [freezeAll, freeze, hm]
      simp only [gTup, ev_cons, v4, v12, gNil_ok, bind_ok, hfz, List.length_cons, List.length_nil, h2, if_true, settle_ok_d, take_len hlen]
    refine call_ok (cons_ok rfl (cons_ok hg rfl)) ?_ hlen
    exact e_told_2 (j + 5) 7 (.str t) (.lst l) _ (e_span_bad (j + 1) t _ ht (.lst l) rfl rfl)
end
end K03
end

section
set_option Elab.async false
set_option linter.all false
set_option maxRecDepth 100000
set_option maxHeartbeats 1000000
/-! K03AD: four spoilt values. -/
namespace K03
open PD
def oddL : List D := [.int 0, .int 1, .int (-1), .int 4000, .int 4001, .bl true, .non, .str [], .str [97], .str [65], .tup [], .tup [.int 0, .int 0, .str [97]]]
theorem flat_ok {v : D} (h : flatD v = true) (h2 : okS v = true) : ∀ i, okG i v
  | 0 => trivial
  | 1 => h2
  | i + 2 => by
    cases v with
    | tup l => cases h
    | _ => trivial
theorem odd_ok {x : D} (h : x ∈ oddL) : ∀ i, okG i x := by
  simp only [oddL, List.mem_cons, List.not_mem_nil, or_false] at h
  rcases h with rfl | rfl | rfl | rfl | rfl | rfl | rfl | rfl | rfl | rfl | rfl | rfl
  case inr.inr.inr.inr.inr.inr.inr.inr.inr.inr.inl => exact fun i => okG_tup (by simp)
  case inr.inr.inr.inr.inr.inr.inr.inr.inr.inr.inr => 
    refine fun i => okG_tup fun e he => ?_
    simp only [List.mem_cons, List.not_mem_nil, or_false] at he
    rcases he with rfl | rfl | rfl <;> exact flat_ok rfl (by decide) _
  all_goals exact flat_ok rfl (by decide)
section
variable (j n : Nat) (a0 a2 : Option A) (q : Env) (t : List Nat) (L : List Sp) (p : Nat)
theorem turn_1 (ht : isText (.str t) = true) (hL : L.length ≤ 3) (hi : SpInv t L p) (hn : n ≠ 0) (a7 a8 a9 a10 a11 a12 a13 a14 : Option A) (st : Store) (c : List D) (hc : IsBag c) (h : st[n]? = some (.ls c)) (ho : st[0]? = some (.ls oddL)) :
    ∃ b12 b13 b14 c' st', b_law_1 (semT T (j + 6)) (tEnv n a0 (some (.obj 0)) a2 a7 a8 a9 a10 a11 q t L p a12 a13 a14) st = .nx (tEnv n a0 (some (.obj 0)) a2 a7 a8 a9 a10 a11 q t L p b12 b13 b14) st' ∧ IsBag c' ∧ st'[n]? = some (.ls c') ∧ st'[0]? = some (.ls oddL) := by
  obtain ⟨v, c1, x, e1, hc1, hx⟩ := e_one (j + 4) n 0 st c oddL hc h ho hn (by decide) (by decide)
  have hxok := odd_ok (List.mem_of_getElem? hx)
  have g1 := get_set (.ls c1) h
  have htx : ∀ x ∈ L, isText (.str x.s) = true := fun x hx => (hi.sp x hx).2.1
  obtain ⟨r, st2, e2, c2, hc2, hr⟩ := e_spoilt (j + 1) n x hxok 3 3 (.tup (L.map spD)) (st.set n (.ls c1)) c1 hc1 g1 (inv_small (by omega)) (inv_okG htx)
  have e2 : semT T (j + 6) 15 [.obj n, .d (.tup (L.map spD)), .d x, .d (.int 3)] (st.set n (.ls c1)) = .ok r st2 := e2
  rw [List.set_set, List.length_set] at hr
  have ha : gCons (gVar 3) (gCons (gVar 5) (gCons (gCall (semT T (j + 6)) 14 (gCons (gVar 3) (gCons (gVar 1) gNil))) (gCons (gCon (.int 3)) gNil))) (tEnv n a0 (some (.obj 0)) a2 a7 a8 a9 a10 a11 q t L p a12 a13 a14) st = .ok [.obj n, .d (.tup (L.map spD)), .d x, .d (.int 3)] (st.set n (.ls c1)) :=
    cons_ok rfl (cons_ok rfl (cons_ok (call_ok (xs := [.obj n, .obj 0]) rfl e1 (by simp)) (cons_ok rfl rfl)))
  have h2 : (st.set n (.ls c2)).length = st.length := by simp
  have hlt := get_lt h
  have ho2 : (st.set n (.ls c2))[0]? = some (.ls oddL) := by rw [List.getElem?_set_ne hn]; exact ho
  rcases hr with ⟨y, rfl, hy, rfl⟩ | ⟨l, rfl, rfl⟩
  · have s1 : sSet 12 (gCall (semT T (j + 6)) 15 (gCons (gVar 3) (gCons (gVar 5) (gCons (gCall (semT T (j + 6)) 14 (gCons (gVar 3) (gCons (gVar 1) gNil))) (gCons (gCon (.int 3)) gNil))))) (tEnv n a0 (some (.obj 0)) a2 a7 a8 a9 a10 a11 q t L p a12 a13 a14) st
        = .nx (tEnv n a0 (some (.obj 0)) a2 a7 a8 a9 a10 a11 q t L p (some (.d y)) a13 a14) (st.set n (.ls c2)) := set_nx (call_ok ha e2 h2)
    obtain ⟨y13, y14, e3⟩ := tail_d j n a0 (some (.obj 0)) a2 a7 a8 a9 a10 a11 q t L p ht y (okG_okTT hy) (st.set n (.ls c2)) a13 a14
    exact ⟨_, _, _, c2, _, (seq_nx s1).trans e3, hc2, get_set _ h, ho2⟩
  · have s1 : sSet 12 (gCall (semT T (j + 6)) 15 (gCons (gVar 3) (gCons (gVar 5) (gCons (gCall (semT T (j + 6)) 14 (gCons (gVar 3) (gCons (gVar 1) gNil))) (gCons (gCon (.int 3)) gNil))))) (tEnv n a0 (some (.obj 0)) a2 a7 a8 a9 a10 a11 q t L p a12 a13 a14) st
        = .nx (tEnv n a0 (some (.obj 0)) a2 a7 a8 a9 a10 a11 q t L p (some (.obj st.length)) a13 a14) (st.set n (.ls c2) ++ [.ls l]) := set_nx (call_new ha e2 h2)
    have hm : (st.set n (.ls c2) ++ [MO.ls l])[st.length]? = some (.ls l) := by rw [← h2]; simp
    obtain ⟨y13, y14, e3⟩ := tail_o j n a0 (some (.obj 0)) a2 a7 a8 a9 a10 a11 q t L p ht st.length l _ hm a13 a14
    have hs : (st.set n (.ls c2) ++ [MO.ls l]).set st.length (.fz l) = st.set n (.ls c2) ++ [MO.fz l] := by rw [← h2, set_last]
    rw [hs] at e3
    refine ⟨_, _, _, c2, _, (seq_nx s1).trans e3, hc2, ?_, ?_⟩
    · rw [List.getElem?_append_left (by rw [h2]; exact hlt)]; exact get_set _ h
    · rw [List.getElem?_append_left (by rw [h2]; omega)]; exact ho2
theorem loop_1 (ht : isText (.str t) = true) (hL : L.length ≤ 3) (hi : SpInv t L p) (hn : n ≠ 0) (l0 : List D) (a8 a9 a10 a11 : Option A) : ∀ (ds : List D) (a7 a12 a13 a14 : Option A) (st : Store) (c : List D), IsBag c → st[n]? = some (.ls c) → st[0]? = some (.ls oddL) →
    ∃ b7 b12 b13 b14 st', forGo (.name 7) (b_law_1 (semT T (j + 6))) (Src.ok ⟨l0, []⟩) ds (tEnv n a0 (some (.obj 0)) a2 a7 a8 a9 a10 a11 q t L p a12 a13 a14) st = .nx (tEnv n a0 (some (.obj 0)) a2 b7 a8 a9 a10 a11 q t L p b12 b13 b14) st' ∧ st'[0]? = some (.ls oddL)
  | [], a7, a12, a13, a14, st, c, hc, h, ho => ⟨a7, a12, a13, a14, st, by rw [forGo, ok_none, if_pos rfl], ho⟩
  | d :: ds, a7, a12, a13, a14, st, c, hc, h, ho => by
    obtain ⟨b12, b13, b14, c1, st1, e1, hc1, h1, ho1⟩ := turn_1 j n a0 a2 q t L p ht hL hi hn (some (.d d)) a8 a9 a10 a11 a12 a13 a14 st c hc h ho
    obtain ⟨d7, d12, d13, d14, st2, e2, ho2⟩ := loop_1 ht hL hi hn l0 a8 a9 a10 a11 ds (some (.d d)) b12 b13 b14 st1 c1 hc1 h1 ho1
    refine ⟨d7, d12, d13, d14, st2, ?_, ho2⟩
    have e0 : Tg.put (.name 7) d (tEnv n a0 (some (.obj 0)) a2 a7 a8 a9 a10 a11 q t L p a12 a13 a14) = some (tEnv n a0 (some (.obj 0)) a2 (some (.d d)) a8 a9 a10 a11 q t L p a12 a13 a14) := rfl
    rw [forGo, ok_none, if_pos rfl]
    simp only [e0, e1]
    exact e2
end
end K03
end

section
set_option Elab.async false
set_option linter.all false
set_option maxRecDepth 100000
set_option maxHeartbeats 1000000
/-! K03AE: one cell of the law. -/
namespace K03
open PD
theorem range_st {a : SemE} {i : Int} {env : Env} {st st1 : Store} (hi : -big62 ≤ i ∧ i < big62) (h : a env st = .ok (.d (.int i)) st1) : iRange1 a env st = .ok ⟨rangeL 0 i, []⟩ st1 := by
  unfold iRange1
  rw [h]
  show (if -big62 ≤ i ∧ i < big62 then Out.ok (⟨rangeL 0 i, []⟩ : Src) st1 else .bad) = _
  rw [if_pos hi]
theorem for_ok {it : SemI} {tg : Tg} {body : SemS} {env : Env} {st st1 : Store} {src : Src} (h : it env st = .ok src st1) : sFor it tg body env st = forGo tg body src.ok src.items env st1 := by
  simp only [sFor, h, toS_ok]
theorem lput_mem {t : List Nat} {P : Nat → Prop} (ht : ∀ c ∈ t, P c) : ∀ {L : List Sp}, (∀ x ∈ L, ∀ c ∈ x.s, P c) → ∀ c ∈ lput t L, P c
  | [], _, c, hc => ht c hc
  | x :: L, h, c, hc => by
    have ih := lput_mem ht (L := L) fun y hy => h y (List.mem_cons_of_mem _ hy)
    have e : lput t (x :: L) = step (lput t L) x := rfl
    rw [e] at hc
    unfold step at hc
    rcases List.mem_append.mp hc with hc | hc
    · rcases List.mem_append.mp hc with hc | hc
      · exact ih c (List.mem_of_mem_take hc)
      · exact h x List.mem_cons_self c hc
    · exact ih c (List.mem_of_mem_drop hc)
theorem e_same_least (j : Nat) (t u : List Nat) (st : Store) : semT T (j + 3) 16 [.d (least t u), .d (least t u)] st = .ok (.d (.bl true)) st := by
  unfold least
  by_cases h : t = u
  · rw [if_pos h]
    exact e_same_tup (j + 2) [] st (by decide) (by simp)
  · rw [if_neg h]
    refine e_same_tup (j + 2) _ st (by simp [LID]) fun d hd => ?_
    rw [List.mem_singleton.mp hd]
    exact e_same_sp j _ _ _ st
section
variable (j n : Nat) (a0 a2 : Option A) (q : Env) (t : List Nat) (L : List Sp) (p : Nat) (st : Store)
/-- the three looks at the drawn spans -/
theorem looks (ht : isText (.str t) = true) (hl19 : t.length ≤ 19) (hL : L.length ≤ 3) (hi : SpInv t L p) (env : Env) (h4 : gVar 4 env st = .ok (.d (.str t)) st) (h5 : gVar 5 env st = .ok (.d (.tup (L.map spD))) st) :
    sIf (tOr (tVal (gOp pIsNot (gCons (gCall (semT T (j + 6)) 4 (gCons (gVar 5) gNil)) (gCons (gCon (.bl true)) gNil)))) (tOr (tNot (tVal (gCall (semT T (j + 6)) 16 (gCons (gCall (semT T (j + 6)) 21 (gCons (gVar 4) (gCons (gVar 5) gNil))) (gCons (gCall (semT T (j + 6)) 7 (gCons (gVar 4) (gCons (gVar 5) gNil))) gNil))))) (tNot (tVal (gCall (semT T (j + 6)) 16 (gCons (gCall (semT T (j + 6)) 22 (gCons (gVar 4) (gCons (gVar 5) gNil))) (gCons (gCall (semT T (j + 6)) 9 (gCons (gVar 4) (gCons (gVar 5) gNil))) gNil))))))) (sRet (gCon (.bl false))) sNext env st = .nx env st := by
  have htx : ∀ x ∈ L, isText (.str x.s) = true := fun x hx => (hi.sp x hx).2.1
  have h3 : ∀ x ∈ L, x.s.length ≤ 4000 := fun x hx => (isText_str (htx x hx)).1
  have hok := inv_okTT htx
  have hare := inv_are hi (by omega)
  have hsum := inv_sum (t := t) (L := L) fun x hx => (hi.sp x hx).2.2.2
  have hfit : fitB t L = true := (lastE_fit (Nat.zero_le _)).mpr hi.la
  have hlp : lput t L = put t L := lput_is t L hi.ch hi.la
  have hlen : (put t L).length ≤ 4000 := by
    have := lput_bound t L (chain_le hi.ch)
    rw [hlp] at this; omega
  have c4 : semT T (j + 6) 4 [.d (.tup (L.map spD))] st = .ok (.d (.bl true)) st := by rw [← hare]; exact e_are (j + 3) _ hok st
  have c21 : semT T (j + 6) 21 [.d (.str t), .d (.tup (L.map spD))] st = .ok (.d (.str (lput t L))) st := e_law_put (j + 5) t L st (lput_parts (by omega) (chain_le hi.ch) (by omega)) h3
  have c7 : ∀ j', semT T (j' + 4) 7 [.d (.str t), .d (.tup (L.map spD))] st = .ok (.d (.str (put t L))) st := fun j' => by
    have := e_span_fit j' t st ht L hok hare hfit (by omega) (by omega)
    rw [if_pos hlen] at this; exact this
  rw [hlp] at c21
  have c22 : semT T (j + 6) 22 [.d (.str t), .d (.tup (L.map spD))] st = .ok (.d (.tup (backs t 0 L))) st := e_law_back (j + 5) t L st (by omega) (by omega) h3
  have c9 : semT T (j + 6) 9 [.d (.str t), .d (.tup (L.map spD))] st = .ok (.d (.tup (backs t 0 L))) st := e_back (j + 4) t L st (by omega) (by omega) h3 _ (c7 (j + 1))
  have as2 : gCons (gVar 4) (gCons (gVar 5) gNil) env st = .ok [.d (.str t), .d (.tup (L.map spD))] st := cons_ok h4 (cons_ok h5 rfl)
  have same : ∀ (d : D) (f g : Nat), semT T (j + 6) f [.d (.str t), .d (.tup (L.map spD))] st = .ok (.d d) st → semT T (j + 6) g [.d (.str t), .d (.tup (L.map spD))] st = .ok (.d d) st → semT T (j + 6) 16 [.d d, .d d] st = .ok (.d (.bl true)) st →
      (tNot (tVal (gCall (semT T (j + 6)) 16 (gCons (gCall (semT T (j + 6)) f (gCons (gVar 4) (gCons (gVar 5) gNil))) (gCons (gCall (semT T (j + 6)) g (gCons (gVar 4) (gCons (gVar 5) gNil))) gNil))))) env st = .ok false st := fun d f g hf hg hs =>
    t_not (b := true) (tv (call_ok (cons_ok (call_ok as2 hf rfl) (cons_ok (call_ok as2 hg rfl) rfl)) hs rfl) rfl)
  refine if_f (t_or_f (tv (op2 (call_ok (cons_ok h5 rfl) c4 rfl) rfl (z := .bl false) rfl rfl) rfl) (t_or_f (same _ 21 7 c21 (c7 (j + 2)) (e_same_str (j + 5) _ st)) (same _ 22 9 c22 c9 ?_)))
  exact e_same_backs (j + 3) t L 0 st (by omega)
/-- the other text -/
theorem other (c : List D) (hc : IsBag c) (h : st[n]? = some (.ls c)) (ht : isText (.str t) = true) (hl19 : t.length ≤ 19) (hL : L.length ≤ 3) (hi : SpInv t L p) (env : Env) (h3 : ∀ s : Store, gVar 3 env s = .ok (.obj n) s) (h4 : ∀ s : Store, gVar 4 env s = .ok (.d (.str t)) s) (h5 : ∀ s : Store, gVar 5 env s = .ok (.d (.tup (L.map spD))) s) :
    ∃ (u : List Nat) (c' : List D), (gIf (tVal (gOp pEq (gCons (gCall (semT T (j + 6)) 13 (gCons (gVar 3) (gCons (gCon (.int 2)) gNil))) (gCons (gCon (.int 0)) gNil)))) (gCall (semT T (j + 6)) 24 (gCons (gVar 3) (gCons (gCon (.int 20)) gNil))) (gCall (semT T (j + 6)) 21 (gCons (gVar 4) (gCons (gVar 5) gNil)))) env st = .ok (.d (.str u)) (st.set n (.ls c')) ∧ IsBag c' ∧ isText (.str u) = true := by
  obtain ⟨v, c1, e1, hc1, -⟩ := draw_at (j + 5) n st c hc h env 3 2 (by decide) (h3 st)
  have htx : ∀ x ∈ L, isText (.str x.s) = true := fun x hx => (hi.sp x hx).2.1
  have hsum := inv_sum (t := t) (L := L) fun x hx => (hi.sp x hx).2.2.2
  have hq : pEq [.int (v : Nat), .int 0] = some (.v (.bl (decide (v = 0)))) := by
    have : ((v : Int) == 0) = decide (v = 0) := by
      by_cases h : v = 0
      · subst h; rfl
      · rw [decide_eq_false h]; exact beq_false_of_ne (by omega)
    simp [pEq, okDeep, D.deep, D.eqv, this]
  have hcond : tVal (gOp pEq (gCons (gCall (semT T (j + 6)) 13 (gCons (gVar 3) (gCons (gCon (.int 2)) gNil))) (gCons (gCon (.int 0)) gNil))) env st = .ok (decide (v = 0)) (st.set n (.ls c1)) := tv (op2 e1 rfl hq (by simp)) (by simp)
  by_cases hv : v = 0
  · rw [decide_eq_true hv] at hcond
    obtain ⟨s, c2, e2, hc2, hs, hm⟩ := e_some (j + 3) n _ c1 hc1 (get_set _ h) 20 (by decide) (by decide)
    rw [List.set_set] at e2
    exact ⟨s, c2, (gif_t hcond).trans (call_ok (xs := [.obj n, .d (.int 20)]) (cons_ok (h3 _) (cons_ok rfl rfl)) e2 (by simp)), hc2, some_text (by omega) hm⟩
  · rw [decide_eq_false hv] at hcond
    refine ⟨lput t L, c1, (gif_f hcond).trans (call_ok (xs := [.d (.str t), .d (.tup (L.map spD))]) (cons_ok (h4 _) (cons_ok (h5 _) rfl)) (e_law_put (j + 5) t L _ (lput_parts (by omega) (chain_le hi.ch) (by omega)) fun x hx => (isText_str (htx x hx)).1) (by simp)), hc1, ?_⟩
    have hb := lput_bound t L (chain_le hi.ch)
    simp only [isText, Bool.and_eq_true, decide_eq_true_eq, List.all_eq_true]
    exact ⟨by omega, lput_mem (isText_str ht).2 fun x hx => (isText_str (htx x hx)).2⟩
/-- what lies between both -/
theorem betw (u : List Nat) (ht : isText (.str t) = true) (hu : isText (.str u) = true) (env : Env) (h4 : gVar 4 env st = .ok (.d (.str t)) st) (h11 : gVar 11 env st = .ok (.d (.str u)) st) :
    sIf (tOr (tNot (tVal (gCall (semT T (j + 6)) 16 (gCons (gCall (semT T (j + 6)) 23 (gCons (gVar 4) (gCons (gVar 11) gNil))) (gCons (gCall (semT T (j + 6)) 11 (gCons (gVar 4) (gCons (gVar 11) gNil))) gNil))))) (tVal (gOp pNe (gCons (gCall (semT T (j + 6)) 7 (gCons (gVar 4) (gCons (gCall (semT T (j + 6)) 11 (gCons (gVar 4) (gCons (gVar 11) gNil))) gNil))) (gCons (gVar 11) gNil))))) (sRet (gCon (.bl false))) sNext env st = .nx env st := by
  have as2 : gCons (gVar 4) (gCons (gVar 11) gNil) env st = .ok [.d (.str t), .d (.str u)] st := cons_ok h4 (cons_ok h11 rfl)
  have c23 : semT T (j + 6) 23 [.d (.str t), .d (.str u)] st = .ok (.d (least t u)) st := e_law_between (j + 5) t u st (isText_str ht).1 (isText_str hu).1
  have c11 : semT T (j + 6) 11 [.d (.str t), .d (.str u)] st = .ok (.d (least t u)) st := e_between (j + 4) t u st ht hu
  have c7 : semT T (j + 6) 7 [.d (.str t), .d (least t u)] st = .ok (.d (.str u)) st := e_span_least (j + 2) t u st ht hu
  refine if_f (t_or_f (t_not (b := true) (tv (call_ok (cons_ok (call_ok as2 c23 rfl) (cons_ok (call_ok as2 c11 rfl) rfl)) (e_same_least (j + 3) t u st) rfl) rfl)) ?_)
  exact tv (op2 (call_ok (cons_ok h4 (cons_ok (call_ok as2 c11 rfl) rfl)) c7 rfl) h11 (ne_same_s u) rfl) rfl
/-- the told errors -/
theorem tolds (ht : isText (.str t) = true) (env : Env) (h4 : gVar 4 env st = .ok (.d (.str t)) st) :
    (sIf (tOr (tVal (gOp pNe (gCons (gCall (semT T (j + 6)) 17 (gCons (gFn 7) (gCons (gTup (gCons (gCon (.str [65])) (gCons (gCon .non) gNil))) gNil))) (gCons (gTup (gCons (gCon (.str [112, 108, 97, 99, 101])) (gCons (gCon (.int 0)) gNil))) gNil)))) (tOr (tVal (gOp pNe (gCons (gCall (semT T (j + 6)) 17 (gCons (gFn 11) (gCons (gTup (gCons (gCon (.str [97])) (gCons (gCon .non) gNil))) gNil))) (gCons (gTup (gCons (gCon (.str [112, 108, 97, 99, 101])) (gCons (gOp pNeg (gCons (gCon (.int 1)) gNil)) gNil))) gNil)))) (tVal (gOp pNe (gCons (gCall (semT T (j + 6)) 17 (gCons (gFn 9) (gCons (gTup (gCons (gVar 4) (gCons (gCon .non) gNil))) gNil))) (gCons (gCon (.str [115, 116, 101, 112, 115])) gNil)))))) (sRet (gCon (.bl false))) sNext) env st = .nx env st := by
  have k1 : semT T (j + 6) 17 [.fn 7, .d (.tup [.str [65], .non])] st = .ok (.d (.tup [.str [112, 108, 97, 99, 101], .int 0])) st := e_told_1 (j + 5) 7 _ _ _ st (e_span_non (j + 1) st .non)
  have k2 : semT T (j + 6) 17 [.fn 11, .d (.tup [.str [97], .non])] st = .ok (.d (.tup [.str [112, 108, 97, 99, 101], .int (-1)])) st := e_told_1 (j + 5) 11 _ _ _ st (e_between_non (j + 3) [97] st (by decide))
  have k3 : semT T (j + 6) 17 [.fn 9, .d (.tup [.str t, .non])] st = .ok (.d (.str [115, 116, 101, 112, 115])) st := e_told_2 (j + 5) 9 _ _ st (e_back_ex (j + 3) t .non st _ (e_span_bad j t st ht .non rfl rfl))
  have n1 : ∀ i : Int, pNe [.tup [.str [112, 108, 97, 99, 101], .int i], .tup [.str [112, 108, 97, 99, 101], .int i]] = some (.v (.bl false)) := fun i => by simp [pNe, okDeep, D.deep, D.deeps, D.eqv, D.eqvs]
  have tt : ∀ (a : SemE) (f : Nat) (x : D) (r : D), a env st = .ok (.d x) st → semT T (j + 6) 17 [.fn f, .d (.tup [x, .non])] st = .ok (.d r) st → gCall (semT T (j + 6)) 17 (gCons (gFn f) (gCons (gTup (gCons a (gCons (gCon .non) gNil))) gNil)) env st = .ok (.d r) st := fun a f x r ha hr =>
    call_ok (cons_ok rfl (cons_ok (tup_ok (ds := [x, .non]) (cons_ok ha (cons_ok rfl rfl)) (Nat.le_of_ble_eq_true rfl) rfl) rfl)) hr rfl
  refine if_f (t_or_f (tv (op2 (tt _ 7 _ _ rfl k1) (tup_ok (ds := [.str [112, 108, 97, 99, 101], .int 0]) (cons_ok rfl (cons_ok rfl rfl)) (Nat.le_of_ble_eq_true rfl) rfl) (n1 0) rfl) rfl) (t_or_f (tv (op2 (tt _ 11 _ _ rfl k2) (tup_ok (ds := [.str [112, 108, 97, 99, 101], .int (-1)]) (cons_ok rfl (cons_ok (op1 (x := .int 1) rfl rfl rfl) rfl)) (Nat.le_of_ble_eq_true rfl) rfl) (n1 (-1)) rfl) rfl) ?_))
  exact tv (op2 (tt _ 9 _ _ h4 k3) rfl (ne_same_s _) rfl) rfl
end
end K03
end

section
set_option Elab.async false
set_option linter.all false
set_option maxRecDepth 100000
set_option maxHeartbeats 1000000
/-! K03AF: one cell, all cells. -/
namespace K03
open PD
theorem cell_3 (j k : Nat) (hk : k < 1000) (ns : List Int) (hn : ns.length ≤ 63) (a3 a4 a5 a6 a7 a8 a9 a10 a11 a12 a13 a14 : Option A) (q : Env) (st : Store) (ho : st[0]? = some (.ls oddL)) :
    ∃ b3 b4 b5 b6 b7 b8 b9 b10 b11 b12 b13 b14 st', b_law_3 (semT T (j + 6)) (some (.d (.lst (ns.map D.int))) :: some (.obj 0) :: some (.d (.int k)) :: a3 :: a4 :: a5 :: a6 :: a7 :: a8 :: a9 :: a10 :: a11 :: a12 :: a13 :: a14 :: q) st
      = .nx (some (.d (.lst (ns.map D.int))) :: some (.obj 0) :: some (.d (.int k)) :: b3 :: b4 :: b5 :: b6 :: b7 :: b8 :: b9 :: b10 :: b11 :: b12 :: b13 :: b14 :: q) st' ∧ st'[0]? = some (.ls oddL) := by
  obtain ⟨c0, e0, hc0⟩ := e_bag (j + 5) k ns st hk hn
  have hlt := get_lt ho
  have hn0 : st.length ≠ 0 := by omega
  have s1 : sSet 3 (gCall (semT T (j + 6)) 12 (gCons (gVar 0) (gCons (gVar 2) gNil))) (some (.d (.lst (ns.map D.int))) :: some (.obj 0) :: some (.d (.int k)) :: a3 :: a4 :: a5 :: a6 :: a7 :: a8 :: a9 :: a10 :: a11 :: a12 :: a13 :: a14 :: q) st
      = .nx (some (.d (.lst (ns.map D.int))) :: some (.obj 0) :: some (.d (.int k)) :: some (.obj st.length) :: a4 :: a5 :: a6 :: a7 :: a8 :: a9 :: a10 :: a11 :: a12 :: a13 :: a14 :: q) (st ++ [.ls c0]) :=
    set_nx (call_new (xs := [.d (.lst (ns.map D.int)), .d (.int k)]) rfl e0 rfl)
  have h0 : (st ++ [MO.ls c0])[st.length]? = some (.ls c0) := get_last _ _
  have ho0 : (st ++ [MO.ls c0])[0]? = some (.ls oddL) := by rw [List.getElem?_append_left hlt]; exact ho
  generalize hnn : st.length = n at s1 h0 hn0
  generalize st ++ [MO.ls c0] = st0 at s1 h0 ho0
  unfold b_law_3
  rw [seq_nx s1]
  obtain ⟨t, c1, e1, hc1, ht20, htm⟩ := e_some (j + 3) n st0 c0 hc0 h0 20 (by decide) (by decide)
  have ht : isText (.str t) = true := some_text (by omega) htm
  have h1 := get_set (.ls c1) h0
  have s2 : sSet 4 (gCall (semT T (j + 6)) 24 (gCons (gVar 3) (gCons (gCon (.int 20)) gNil))) (some (.d (.lst (ns.map D.int))) :: some (.obj 0) :: some (.d (.int k)) :: some (.obj n) :: a4 :: a5 :: a6 :: a7 :: a8 :: a9 :: a10 :: a11 :: a12 :: a13 :: a14 :: q) st0
      = .nx (some (.d (.lst (ns.map D.int))) :: some (.obj 0) :: some (.d (.int k)) :: some (.obj n) :: some (.d (.str t)) :: a5 :: a6 :: a7 :: a8 :: a9 :: a10 :: a11 :: a12 :: a13 :: a14 :: q) (st0.set n (.ls c1)) :=
    set_nx (call_ok (xs := [.obj n, .d (.int 20)]) rfl e1 (by simp))
  rw [seq_nx s2]
  have s3 : ∀ s : Store, sSet 5 (gTup gNil) (some (.d (.lst (ns.map D.int))) :: some (.obj 0) :: some (.d (.int k)) :: some (.obj n) :: some (.d (.str t)) :: a5 :: a6 :: a7 :: a8 :: a9 :: a10 :: a11 :: a12 :: a13 :: a14 :: q) s
      = .nx (some (.d (.lst (ns.map D.int))) :: some (.obj 0) :: some (.d (.int k)) :: some (.obj n) :: some (.d (.str t)) :: some (.d (.tup [])) :: a6 :: a7 :: a8 :: a9 :: a10 :: a11 :: a12 :: a13 :: a14 :: q) s := fun s =>
    set_nx (tup_ok (ds := []) rfl (Nat.le_of_ble_eq_true rfl) rfl)
  rw [seq_nx (s3 _)]
  have s4 : ∀ s : Store, sSet 6 (gCon (.int 0)) (some (.d (.lst (ns.map D.int))) :: some (.obj 0) :: some (.d (.int k)) :: some (.obj n) :: some (.d (.str t)) :: some (.d (.tup [])) :: a6 :: a7 :: a8 :: a9 :: a10 :: a11 :: a12 :: a13 :: a14 :: q) s
      = .nx (lawEnv (some (.d (.lst (ns.map D.int)))) (some (.obj 0)) (some (.d (.int k))) n t [] 0 (a7 :: a8 :: a9 :: a10 :: (a11 :: a12 :: a13 :: a14 :: q))) s := fun s => rfl
  rw [seq_nx (s4 _)]
  obtain ⟨v, c2, e2, hc2, hv⟩ := draw_at (j + 5) n _ c1 hc1 h1 (lawEnv (some (.d (.lst (ns.map D.int)))) (some (.obj 0)) (some (.d (.int k))) n t [] 0 (a7 :: a8 :: a9 :: a10 :: (a11 :: a12 :: a13 :: a14 :: q))) 3 4 (by decide) rfl
  have hv := hv (by omega)
  rw [List.set_set] at e2
  have h2 := get_set (.ls c2) h0
  have hit := range_st (i := (v : Int)) ⟨by unfold big62; omega, by unfold big62; omega⟩ e2
  have hrl : (rangeL 0 (v : Int)).length ≤ 3 := by simp [rangeL]; omega
  obtain ⟨L, p, b7, b8, b9, b10, c3, e3, hc3, hi, hL⟩ := loop_2 (j + 3) n (some (.d (.lst (ns.map D.int)))) (some (.obj 0)) (some (.d (.int k))) (a11 :: a12 :: a13 :: a14 :: q) t (by omega) (rangeL 0 (v : Int)) (rangeL 0 (v : Int)) [] 0 a7 a8 a9 a10 _ c2 hc2 h2 (inv_nil t) (by simpa using hrl)
  rw [List.set_set] at e3
  have s5 := (for_ok (tg := .name 7) (body := b_law_2 (semT T (j + 6))) hit).trans e3
  rw [seq_nx s5]
  have h3 := get_set (.ls c3) h0
  have ho3 : (st0.set n (.ls c3))[0]? = some (.ls oddL) := by rw [List.getElem?_set_ne hn0]; exact ho0
  generalize st0.set n (.ls c3) = st3 at h3 ho3
  rw [seq_nx (looks j t L p st3 ht (by omega) hL hi (lawEnv (some (.d (.lst (ns.map D.int)))) (some (.obj 0)) (some (.d (.int k))) n t L p (b7 :: b8 :: b9 :: b10 :: (a11 :: a12 :: a13 :: a14 :: q))) rfl rfl)]
  obtain ⟨u, c4, e4, hc4, hu⟩ := other j n t L p st3 c3 hc3 h3 ht (by omega) hL hi (lawEnv (some (.d (.lst (ns.map D.int)))) (some (.obj 0)) (some (.d (.int k))) n t L p (b7 :: b8 :: b9 :: b10 :: (a11 :: a12 :: a13 :: a14 :: q))) (fun _ => rfl) (fun _ => rfl) (fun _ => rfl)
  rw [seq_nx (set_nx (i := 11) e4)]
  have h4 := get_set (.ls c4) h3
  have ho4 : (st3.set n (.ls c4))[0]? = some (.ls oddL) := by rw [List.getElem?_set_ne hn0]; exact ho3
  generalize st3.set n (.ls c4) = st4 at h4 ho4
  rw [seq_nx (betw j t st4 u ht hu _ rfl rfl)]
  obtain ⟨d7, d12, d13, d14, st5, e5, ho5⟩ := loop_1 j n (some (.d (.lst (ns.map D.int)))) (some (.d (.int k))) q t L p ht hL hi hn0 (rangeL 0 4) b8 b9 b10 (some (.d (.str u))) (rangeL 0 4) b7 a12 a13 a14 st4 c4 hc4 h4 ho4
  have hit4 : ∀ (env : Env) (s : Store), iRange1 (gCon (.int 4)) env s = .ok ⟨rangeL 0 4, []⟩ s := fun env s => range_st ⟨by decide, by decide⟩ rfl
  have s9 := (for_ok (tg := .name 7) (body := b_law_1 (semT T (j + 6))) (hit4 (tEnv n (some (.d (.lst (ns.map D.int)))) (some (.obj 0)) (some (.d (.int k))) b7 b8 b9 b10 (some (.d (.str u))) q t L p a12 a13 a14) st4)).trans e5
  have s9' : ∀ (X : SemS) r, X (tEnv n (some (.d (.lst (ns.map D.int)))) (some (.obj 0)) (some (.d (.int k))) d7 b8 b9 b10 (some (.d (.str u))) q t L p d12 d13 d14) st5 = r → sSeq (sFor (iRange1 (gCon (.int 4))) (.name 7) (b_law_1 (semT T (j + 6)))) X (tEnv n (some (.d (.lst (ns.map D.int)))) (some (.obj 0)) (some (.d (.int k))) b7 b8 b9 b10 (some (.d (.str u))) q t L p a12 a13 a14) st4 = r := fun X r hX => by
    rw [seq_nx s9]; exact hX
  exact ⟨_, _, _, _, _, _, _, _, _, _, _, _, st5, s9' _ _ (tolds j t st5 ht _ rfl), ho5⟩
theorem cells (j : Nat) (ns : List Int) (hn : ns.length ≤ 63) (q : Env) (l0 : List D) : ∀ (ds : List D) (a2 a3 a4 a5 a6 a7 a8 a9 a10 a11 a12 a13 a14 : Option A) (st : Store), (∀ d ∈ ds, ∃ k : Nat, k < 1000 ∧ d = .int k) → st[0]? = some (.ls oddL) →
    ∃ b2 b3 b4 b5 b6 b7 b8 b9 b10 b11 b12 b13 b14 st', forGo (.name 2) (b_law_3 (semT T (j + 6))) (Src.ok ⟨l0, []⟩) ds (some (.d (.lst (ns.map D.int))) :: some (.obj 0) :: a2 :: a3 :: a4 :: a5 :: a6 :: a7 :: a8 :: a9 :: a10 :: a11 :: a12 :: a13 :: a14 :: q) st
      = .nx (some (.d (.lst (ns.map D.int))) :: some (.obj 0) :: b2 :: b3 :: b4 :: b5 :: b6 :: b7 :: b8 :: b9 :: b10 :: b11 :: b12 :: b13 :: b14 :: q) st'
  | [], a2, a3, a4, a5, a6, a7, a8, a9, a10, a11, a12, a13, a14, st, _, ho => ⟨a2, a3, a4, a5, a6, a7, a8, a9, a10, a11, a12, a13, a14, st, by rw [forGo, ok_none, if_pos rfl]⟩
  | d :: ds, a2, a3, a4, a5, a6, a7, a8, a9, a10, a11, a12, a13, a14, st, hd, ho => by
    obtain ⟨k, hk, rfl⟩ := hd d List.mem_cons_self
    obtain ⟨b3, b4, b5, b6, b7, b8, b9, b10, b11, b12, b13, b14, st1, e1, ho1⟩ := cell_3 j k hk ns hn a3 a4 a5 a6 a7 a8 a9 a10 a11 a12 a13 a14 q st ho
    obtain ⟨d2, d3, d4, d5, d6, d7, d8, d9, d10, d11, d12, d13, d14, st2, e2⟩ := cells j ns hn q l0 ds (some (.d (.int k))) b3 b4 b5 b6 b7 b8 b9 b10 b11 b12 b13 b14 st1 (fun x hx => hd x (List.mem_cons_of_mem _ hx)) ho1
    refine ⟨d2, d3, d4, d5, d6, d7, d8, d9, d10, d11, d12, d13, d14, st2, ?_⟩
    have e0 : Tg.put (.name 2) (.int k) (some (.d (.lst (ns.map D.int))) :: some (.obj 0) :: a2 :: a3 :: a4 :: a5 :: a6 :: a7 :: a8 :: a9 :: a10 :: a11 :: a12 :: a13 :: a14 :: q) = some (some (.d (.lst (ns.map D.int))) :: some (.obj 0) :: some (.d (.int k)) :: a3 :: a4 :: a5 :: a6 :: a7 :: a8 :: a9 :: a10 :: a11 :: a12 :: a13 :: a14 :: q) := rfl
    rw [forGo, ok_none, if_pos rfl]
    simp only [e0, e1]
    exact e2
end K03
end

section
set_option Elab.async false
set_option linter.all false
set_option maxRecDepth 100000
set_option maxHeartbeats 1000000
/-! K03AG: the law whole. -/
namespace K03
open PD
theorem op1_new {p : Prim} {g1 : SemE} {env : Env} {st : Store} {xs : List D} {z : D} (h1 : g1 env st = .ok (.obj st.length) (st ++ [.ls xs])) (hp : p [.lst xs] = some (.v z)) : gOp p (gCons g1 gNil) env st = .ok (.d z) st := by
  simp only [ev_op, ev_cons, h1, bind_ok, gNil_ok, opOn, nowAll_new, hp, give_v, settle_ok_d, take_last]
theorem op2_new {p : Prim} {g1 g2 : SemE} {env : Env} {st : Store} {xs ys : List D} {z : D} (h1 : g1 env st = .ok (.obj st.length) (st ++ [.ls xs])) (h2 : ∀ s : Store, g2 env s = .ok (.obj s.length) (s ++ [.ls ys])) (hp : p [.lst xs, .lst ys] = some (.v z)) : gOp p (gCons g1 (gCons g2 gNil)) env st = .ok (.d z) st := by
  have hn : nowAll [.obj st.length, .obj (st ++ [MO.ls xs]).length] (st ++ [.ls xs] ++ [.ls ys]) = some [.lst xs, .lst ys] := by
    simp [nowAll, now]
  have ht : (st ++ [MO.ls xs] ++ [MO.ls ys]).take st.length = st := by rw [List.append_assoc]; exact List.take_left' rfl
  simp only [ev_op, ev_cons, h1, h2, bind_ok, gNil_ok, opOn, hn, hp, give_v, settle_ok_d, ht]
def Msp (n : Nat) : List Sp := (List.range n).map fun k => ⟨2 * k, 2 * k, [97]⟩
def mf (d : D) : D := match d with | .int i => .tup [.int (2 * i), .int (2 * i), .str [97]] | _ => .non
theorem many_map (n : Nat) : (rangeL 0 (n : Int)).map mf = (Msp n).map spD := by
  rw [range_up]
  unfold upTo Msp
  rw [List.map_map, List.map_map]
  apply List.map_congr_left
  intro k _
  show D.tup [.int (2 * (k : Int)), .int (2 * (k : Int)), .str [97]] = D.tup [.int ((2 * k : Nat) : Int), .int ((2 * k : Nat) : Int), .str [97]]
  rw [show ((2 * k : Nat) : Int) = 2 * (k : Int) by omega]
theorem many_text : ∀ (n : Nat), ∀ x ∈ Msp n, isText (.str x.s) = true := fun n x hx => by
  obtain ⟨k, _, rfl⟩ := List.mem_map.mp hx
  show isText (.str [97]) = true
  decide
theorem adj_ev : ∀ (n s : Nat), adj ((List.range' s n).map fun k => spD ⟨2 * k, 2 * k, [97]⟩) = true
  | 0, _ => rfl
  | 1, _ => rfl
  | n + 2, s => by
    have ih := adj_ev (n + 1) (s + 1)
    have h1 : lt01 (spD ⟨2 * s, 2 * s, [97]⟩) (spD ⟨2 * (s + 1), 2 * (s + 1), [97]⟩) = true := by
      show decide (((2 * s : Nat) : Int) < ((2 * (s + 1) : Nat) : Int)) = true
      exact decide_eq_true (by omega)
    simp only [List.range'_succ, List.map_cons] at ih ⊢
    show (lt01 _ _ && adj _) = true
    rw [h1]; exact ih
theorem many_are : areS (.tup ((Msp 400).map spD)) = true := by
  have h1 : ((Msp 400).map spD).all isSpan = true := List.all_eq_true.mpr fun d hd => by
    obtain ⟨x, hx, rfl⟩ := List.mem_map.mp hd
    obtain ⟨k, hk, rfl⟩ := List.mem_map.mp hx
    have := List.mem_range.mp hk
    exact span_good (x := ⟨2 * k, 2 * k, [97]⟩) (show isText (.str [97]) = true by decide) (by show 2 * k ≤ 4000; omega) (.inr ⟨rfl, by simp⟩)
  have h2 : adj ((Msp 400).map spD) = true := by
    unfold Msp
    rw [List.map_map, List.range_eq_range']
    exact adj_ev 400 0
  have h3 : ((Msp 400).map spD).length ≤ 400 := by simp [Msp]
  simp only [areS, h1, h2, decide_eq_true h3]; rfl
theorem many_not : areS (.tup ((Msp 401).map spD)) = false := by
  have h3 : ¬ ((Msp 401).map spD).length ≤ 400 := by simp [Msp]
  simp only [areS, decide_eq_false h3, Bool.false_and]
theorem many_cut : pSl [.tup ((Msp 401).map spD), .non, .int 400] = some (.v (.tup ((Msp 400).map spD))) := by
  rw [sl_tup _ .non (.int 400) none (some 400) rfl rfl]
  have h : cutL ((Msp 401).map spD) none (some ((400 : Nat) : Int)) = (Msp 400).map spD := by
    rw [cut_to]
    unfold Msp
    rw [List.map_map, List.map_map, ← List.map_take, List.take_range]; rfl
  exact congrArg (fun l => some (Res.v (.tup l))) h
theorem big_text (n : Nat) (h : n ≤ 4000) : isText (.str (List.replicate n 97)) = true := by
  simp only [isText, Bool.and_eq_true, decide_eq_true_eq, List.all_eq_true]
  refine ⟨by simpa using h, fun c hc => ?_⟩
  rw [List.eq_of_mem_replicate hc]; decide
theorem big_far (j n : Nat) (h : n = 4000) (st : Store) : semT T (j + 4) 7 [.d (.str (List.replicate n 97)), .d (.tup [.tup [.int 0, .int 0, .str [98]]])] st = .exn ⟨3, none⟩ st := by
  have ht := big_text n (by omega)
  have hp : (put (List.replicate n 97) [⟨0, 0, [98]⟩]).length = n + 1 := by simp [put, pieces]
  have hs : ∀ x ∈ [(⟨0, 0, [98]⟩ : Sp)], isText (.str x.s) = true := fun x hx => by rw [List.mem_singleton.mp hx]; decide
  have ha : areS (.tup ([(⟨0, 0, [98]⟩ : Sp)].map spD)) = true := by
    have := span_good (x := ⟨0, 0, [98]⟩) (by decide) (by decide) (.inr ⟨rfl, by simp⟩)
    simp [areS, adj, this]
  have e := e_span_fit j (List.replicate n 97) st ht [⟨0, 0, [98]⟩] (inv_okTT hs) ha (by simp [fitB]) (by decide) (by decide)
  rw [hp, if_neg (by omega)] at e
  exact e
theorem max_nat (a b : Nat) : pMax2 [.int a, .int b] = some (.v (.int ((max a b : Nat) : Int))) := by
  simp only [pMax2]
  by_cases h : a < b
  · rw [if_pos (by omega), Nat.max_eq_right (by omega)]
  · rw [if_neg (by omega), Nat.max_eq_left (by omega)]
theorem odd_made (env : Env) (st : Store) : sSet 1 (gLst (gCons (gCon (.int 0)) (gCons (gCon (.int 1)) (gCons (gOp pNeg (gCons (gCon (.int 1)) gNil)) (gCons (gCon (.int 4000)) (gCons (gCon (.int 4001)) (gCons (gCon (.bl true)) (gCons (gCon .non) (gCons (gCon (.str [])) (gCons (gCon (.str [97])) (gCons (gCon (.str [65])) (gCons (gTup gNil) (gCons (gTup (gCons (gCon (.int 0)) (gCons (gCon (.int 0)) (gCons (gCon (.str [97])) gNil)))) gNil))))))))))))) env st
    = .nx (env.set 1 (some (.obj st.length))) (st ++ [.ls oddL]) :=
  set_nx (lst_ok (ds := oddL) (cons_ok rfl (cons_ok rfl (cons_ok (op1 (x := .int 1) rfl rfl rfl) (cons_ok rfl (cons_ok rfl (cons_ok rfl (cons_ok rfl (cons_ok rfl (cons_ok rfl (cons_ok rfl (cons_ok (tup_ok (ds := []) rfl (Nat.le_of_ble_eq_true rfl) rfl) (cons_ok (tup_ok (ds := [.int 0, .int 0, .str [97]]) (cons_ok rfl (cons_ok rfl (cons_ok rfl rfl))) (Nat.le_of_ble_eq_true rfl) rfl) rfl)))))))))))) (Nat.le_of_ble_eq_true rfl) rfl)
theorem law_end (j : Nat) (env : Env) (st : Store) (h15 : ∀ s : Store, gVar 15 env s = .ok (.d (.tup ((Msp 401).map spD))) s) :
    (sSeq (sIf (tOr (tVal (gOp pNe (gCons (gLst (gCons (gCall (semT T (j + 6)) 4 (gCons (gOp pSl (gCons (gVar 15) (gCons (gCon .non) (gCons (gInt (gCon (.int 400))) gNil)))) gNil)) (gCons (gCall (semT T (j + 6)) 4 (gCons (gVar 15) gNil)) gNil))) (gCons (gLst (gCons (gCon (.bl true)) (gCons (gCon (.bl false)) gNil))) gNil)))) (tVal (gOp pNe (gCons (gCall (semT T (j + 6)) 17 (gCons (gFn 7) (gCons (gTup (gCons (gOp pMul (gCons (gCon (.str [97])) (gCons (gCon (.int 4000)) gNil))) (gCons (gTup (gCons (gTup (gCons (gCon (.int 0)) (gCons (gCon (.int 0)) (gCons (gCon (.str [98])) gNil)))) gNil)) gNil))) gNil))) (gCons (gCon (.str [102, 97, 114])) gNil))))) (sRet (gCon (.bl false))) sNext)
    (sRet (gAnd (gOp pEq (gCons (gCall (semT T (j + 6)) 11 (gCons (gCon (.str [97, 97, 97])) (gCons (gCon (.str [97, 97])) gNil))) (gCons (gTup (gCons (gTup (gCons (gCon (.int 2)) (gCons (gCon (.int 3)) (gCons (gCon (.str [])) gNil)))) gNil)) gNil))) (gAnd (gOp pEq (gCons (gCall (semT T (j + 6)) 11 (gCons (gCon (.str [97, 98])) (gCons (gCon (.str [97, 97, 98])) gNil))) (gCons (gTup (gCons (gTup (gCons (gCon (.int 1)) (gCons (gCon (.int 1)) (gCons (gCon (.str [97])) gNil)))) gNil)) gNil))) (gOp pEq (gCons (gCall (semT T (j + 6)) 7 (gCons (gCon (.str [97, 98, 99])) (gCons (gTup (gCons (gTup (gCons (gCon (.int 0)) (gCons (gCon (.int 1)) (gCons (gCon (.str [120])) gNil)))) (gCons (gTup (gCons (gCon (.int 2)) (gCons (gCon (.int 3)) (gCons (gCon (.str [])) gNil)))) gNil))) gNil))) (gCons (gCon (.str [120, 98])) gNil))))))) env st = .rt (.d (.bl true)) st := by
  have hmt : ∀ n, okTT (.tup ((Msp n).map spD)) = true := fun n => inv_okTT (many_text n)
  have c1 : ∀ s, semT T (j + 6) 4 [.d (.tup ((Msp 400).map spD))] s = .ok (.d (.bl true)) s := fun s => by rw [← many_are]; exact e_are (j + 3) _ (hmt 400) s
  have c2 : ∀ s, semT T (j + 6) 4 [.d (.tup ((Msp 401).map spD))] s = .ok (.d (.bl false)) s := fun s => by rw [← many_not]; exact e_are (j + 3) _ (hmt 401) s
  have l1 : gLst (gCons (gCall (semT T (j + 6)) 4 (gCons (gOp pSl (gCons (gVar 15) (gCons (gCon .non) (gCons (gInt (gCon (.int 400))) gNil)))) gNil)) (gCons (gCall (semT T (j + 6)) 4 (gCons (gVar 15) gNil)) gNil)) env st = .ok (.obj st.length) (st ++ [.ls [.bl true, .bl false]]) :=
    lst_ok (ds := [.bl true, .bl false]) (cons_ok (call_ok (cons_ok (op3 (h15 _) rfl rfl many_cut rfl) rfl) (c1 _) rfl) (cons_ok (call_ok (cons_ok (h15 _) rfl) (c2 _) rfl) rfl)) (Nat.le_of_ble_eq_true rfl) rfl
  have l2 : ∀ s : Store, gLst (gCons (gCon (.bl true)) (gCons (gCon (.bl false)) gNil)) env s = .ok (.obj s.length) (s ++ [.ls [.bl true, .bl false]]) := fun s =>
    lst_ok (ds := [.bl true, .bl false]) (cons_ok rfl (cons_ok rfl rfl)) (Nat.le_of_ble_eq_true rfl) rfl
  have n1 : pNe [.lst [.bl true, .bl false], .lst [.bl true, .bl false]] = some (.v (.bl false)) := by simp [pNe, okDeep, D.deep, D.deeps, D.eqv, D.eqvs]
  have hm : pMul [.str [97], .int 4000] = some (.v (.str (List.replicate 4000 97))) := by
    have e : (List.replicate (4000 : Int).toNat [97]).flatten = List.replicate 4000 97 := by
      show (List.replicate 4000 [97]).flatten = _
      generalize 4000 = n
      exact List.flatten_replicate_singleton
    rw [← e]
    unfold pMul
    exact if_pos (by decide)
  generalize hbig : List.replicate 4000 97 = big at hm
  have k17 : semT T (j + 6) 17 [.fn 7, .d (.tup [.str big, .tup [.tup [.int 0, .int 0, .str [98]]]])] st = .ok (.d (.str [102, 97, 114])) st :=
    e_told_3 (j + 5) 7 _ _ st (by rw [← hbig]; exact big_far (j + 1) 4000 rfl st)
  have i1 := op2_new (p := pNe) l1 l2 n1
  have i2 : gCall (semT T (j + 6)) 17 (gCons (gFn 7) (gCons (gTup (gCons (gOp pMul (gCons (gCon (.str [97])) (gCons (gCon (.int 4000)) gNil))) (gCons (gTup (gCons (gTup (gCons (gCon (.int 0)) (gCons (gCon (.int 0)) (gCons (gCon (.str [98])) gNil)))) gNil)) gNil))) gNil)) env st = .ok (.d (.str [102, 97, 114])) st :=
    call_ok (cons_ok rfl (cons_ok (tup_ok (ds := [.str big, .tup [.tup [.int 0, .int 0, .str [98]]]]) (cons_ok (op2 (x := .str [97]) (y := .int 4000) rfl rfl hm rfl) (cons_ok (tup_ok (ds := [.tup [.int 0, .int 0, .str [98]]]) (cons_ok (tup_ok (ds := [.int 0, .int 0, .str [98]]) (cons_ok rfl (cons_ok rfl (cons_ok rfl rfl))) (Nat.le_of_ble_eq_true rfl) rfl) rfl) (Nat.le_of_ble_eq_true rfl) rfl) rfl)) (Nat.le_of_ble_eq_true rfl) rfl) rfl)) k17 rfl
  have i3 := if_f (a := sRet (gCon (.bl false))) (b := sNext) (t_or_f (tv i1 rfl) (tv (op2 (g2 := gCon (.str [102, 97, 114])) i2 rfl (ne_same_s [102, 97, 114]) rfl) rfl))
  have eqt : ∀ (a b : Int) (s : List Nat), pEq [.tup [.tup [.int a, .int b, .str s]], .tup [.tup [.int a, .int b, .str s]]] = some (.v (.bl true)) := fun a b s => by simp [pEq, okDeep, D.deep, D.deeps, D.eqv, D.eqvs]
  have b1 : semT T (j + 6) 11 [.d (.str [97, 97, 97]), .d (.str [97, 97])] st = .ok (.d (.tup [.tup [.int 2, .int 3, .str []]])) st := e_between (j + 4) [97, 97, 97] [97, 97] st (by decide) (by decide)
  have b2 : semT T (j + 6) 11 [.d (.str [97, 98]), .d (.str [97, 97, 98])] st = .ok (.d (.tup [.tup [.int 1, .int 1, .str [97]]])) st := e_between (j + 4) [97, 98] [97, 97, 98] st (by decide) (by decide)
  have b3 : semT T (j + 6) 7 [.d (.str [97, 98, 99]), .d (.tup [.tup [.int 0, .int 1, .str [120]], .tup [.int 2, .int 3, .str []]])] st = .ok (.d (.str [120, 98])) st := by
    have hs : ∀ x ∈ [(⟨0, 1, [120]⟩ : Sp), ⟨2, 3, []⟩], isText (.str x.s) = true := fun x hx => by
      rcases List.mem_cons.mp hx with rfl | hx
      · decide
      · rw [List.mem_singleton.mp hx]; decide
    have ha : areS (.tup ([(⟨0, 1, [120]⟩ : Sp), ⟨2, 3, []⟩].map spD)) = true := by
      have q1 := span_good (x := ⟨0, 1, [120]⟩) (by decide) (by decide) (.inl (by decide))
      have q2 := span_good (x := ⟨2, 3, []⟩) (by decide) (by decide) (.inl (by decide))
      simp [areS, adj, q1, q2]; rfl
    have e := e_span_fit (j + 2) [97, 98, 99] st (by decide) [⟨0, 1, [120]⟩, ⟨2, 3, []⟩] (inv_okTT hs) ha (by decide) (by decide) (by decide)
    exact e
  rw [seq_nx i3]
  refine ret_rt (and_t (op2 (call_ok (cons_ok rfl (cons_ok rfl rfl)) b1 rfl) (tup_ok (ds := [.tup [.int 2, .int 3, .str []]]) (cons_ok (tup_ok (ds := [.int 2, .int 3, .str []]) (cons_ok rfl (cons_ok rfl (cons_ok rfl rfl))) (Nat.le_of_ble_eq_true rfl) rfl) rfl) (Nat.le_of_ble_eq_true rfl) rfl) (eqt 2 3 []) rfl) (and_t (op2 (call_ok (cons_ok rfl (cons_ok rfl rfl)) b2 rfl) (tup_ok (ds := [.tup [.int 1, .int 1, .str [97]]]) (cons_ok (tup_ok (ds := [.int 1, .int 1, .str [97]]) (cons_ok rfl (cons_ok rfl (cons_ok rfl rfl))) (Nat.le_of_ble_eq_true rfl) rfl) rfl) (Nat.le_of_ble_eq_true rfl) rfl) (eqt 1 1 [97]) rfl) ?_))
  have eqs : pEq [.str [120, 98], .str [120, 98]] = some (.v (.bl true)) := by rw [eq_str]; simp
  refine op2 (call_ok (cons_ok rfl (cons_ok (tup_ok (ds := [.tup [.int 0, .int 1, .str [120]], .tup [.int 2, .int 3, .str []]]) (cons_ok (tup_ok (ds := [.int 0, .int 1, .str [120]]) (cons_ok rfl (cons_ok rfl (cons_ok rfl rfl))) (Nat.le_of_ble_eq_true rfl) rfl) (cons_ok (tup_ok (ds := [.int 2, .int 3, .str []]) (cons_ok rfl (cons_ok rfl (cons_ok rfl rfl))) (Nat.le_of_ble_eq_true rfl) rfl) rfl)) (Nat.le_of_ble_eq_true rfl) rfl) rfl)) b3 rfl) rfl eqs rfl
theorem e_law (j : Nat) (ns : List Int) (hn : ns.length ≤ 63) : semDef 1 17 (g_law (semT T (j + 6))) [.d (.lst (ns.map D.int))] [] = .ok (.d (.bl true)) [] := by
  show (if 1 = 1 then finish 0 (g_law (semT T (j + 6)) [some (.d (.lst (ns.map D.int))), none, none, none, none, none, none, none, none, none, none, none, none, none, none, none, none] []) else .bad) = _
  rw [if_pos rfl]
  unfold g_law
  rw [seq_nx (odd_made _ _)]
  have hl : pLen [.lst (ns.map D.int)] = some (.v (.int ns.length)) := by simp [pLen]
  have hr : ∀ (env : Env) (s : Store), gVar 0 env s = .ok (.d (.lst (ns.map D.int))) s → iRange1 (gOp pMax2 (gCons (gCon (.int 1)) (gCons (gOp pMin2 (gCons (gCon (.int 6)) (gCons (gOp pLen (gCons (gVar 0) gNil)) gNil))) gNil))) env s = .ok ⟨rangeL 0 ((max 1 (min 6 ns.length) : Nat) : Int), []⟩ s := fun env s h =>
    range_st ⟨by unfold big62; omega, by unfold big62; omega⟩ (op2 (x := .int (1 : Nat)) rfl (op2 (x := .int (6 : Nat)) rfl (op1 h hl rfl) (min_nat 6 ns.length) rfl) (max_nat 1 (min 6 ns.length)) rfl)
  generalize hM : max 1 (min 6 ns.length) = M at hr
  have hM6 : M ≤ 6 := by omega
  obtain ⟨b2, b3, b4, b5, b6, b7, b8, b9, b10, b11, b12, b13, b14, st1, e1⟩ := cells j ns hn [none, none] (rangeL 0 (M : Int)) (rangeL 0 (M : Int)) none none none none none none none none none none none none none [.ls oddL] (fun d hd => by
    obtain ⟨k, hk, rfl⟩ := range_mem hd
    exact ⟨k, by omega, rfl⟩) rfl
  have s2 := (for_ok (tg := .name 2) (body := b_law_3 (semT T (j + 6))) (hr ([some (.d (.lst (ns.map D.int))), some (.obj 0), none, none, none, none, none, none, none, none, none, none, none, none, none, none, none] : Env) [.ls oddL] rfl)).trans e1
  have s2' : ∀ (X : SemS) r, X (some (.d (.lst (ns.map D.int))) :: some (.obj 0) :: b2 :: b3 :: b4 :: b5 :: b6 :: b7 :: b8 :: b9 :: b10 :: b11 :: b12 :: b13 :: b14 :: [none, none]) st1 = r → sSeq (sFor (iRange1 (gOp pMax2 (gCons (gCon (.int 1)) (gCons (gOp pMin2 (gCons (gCon (.int 6)) (gCons (gOp pLen (gCons (gVar 0) gNil)) gNil))) gNil)))) (.name 2) (b_law_3 (semT T (j + 6)))) X ([some (.d (.lst (ns.map D.int))), some (.obj 0), none, none, none, none, none, none, none, none, none, none, none, none, none, none, none] : Env) [.ls oddL] = r := fun X r hX => by
    rw [seq_nx s2]; exact hX
  have hmany : ∀ g : SemE, g (some (.d (.lst (ns.map D.int))) :: some (.obj 0) :: b2 :: b3 :: b4 :: b5 :: b6 :: b7 :: b8 :: b9 :: b10 :: b11 :: b12 :: b13 :: b14 :: [none, none]) st1 = .ok (.obj st1.length) (st1 ++ [.ls ((Msp 401).map spD)]) → sSet 15 (gOp pTuple (gCons g gNil)) (some (.d (.lst (ns.map D.int))) :: some (.obj 0) :: b2 :: b3 :: b4 :: b5 :: b6 :: b7 :: b8 :: b9 :: b10 :: b11 :: b12 :: b13 :: b14 :: [none, none]) st1
      = .nx (some (.d (.lst (ns.map D.int))) :: some (.obj 0) :: b2 :: b3 :: b4 :: b5 :: b6 :: b7 :: b8 :: b9 :: b10 :: b11 :: b12 :: b13 :: b14 :: [some (.d (.tup ((Msp 401).map spD))), none]) st1 := fun g hg =>
    set_nx (op1_new hg rfl)
  have hlc : gLc (iRange1 (gCon (.int 401))) (.name 16) tTrue (gTup (gCons (gOp pMul (gCons (gCon (.int 2)) (gCons (gVar 16) gNil))) (gCons (gOp pMul (gCons (gCon (.int 2)) (gCons (gVar 16) gNil))) (gCons (gCon (.str [97])) gNil)))) [16] (some (.d (.lst (ns.map D.int))) :: some (.obj 0) :: b2 :: b3 :: b4 :: b5 :: b6 :: b7 :: b8 :: b9 :: b10 :: b11 :: b12 :: b13 :: b14 :: [none, none]) st1 = .ok (.obj st1.length) (st1 ++ [.ls ((Msp 401).map spD)]) := by
    have hi : ∀ env s, iRange1 (gCon (.int 401)) env s = .ok ⟨rangeL 0 ((401 : Nat) : Int), []⟩ s := fun env s => range_st (i := ((401 : Nat) : Int)) ⟨by decide, by decide⟩ rfl
    rw [← many_map]
    refine gLc_map mf (hi _ _) rfl (by simp [rangeL, LID]) fun d hd => ?_
    obtain ⟨k, hk, rfl⟩ := range_mem hd
    have hp : pMul [.int 2, .int k] = some (.v (.int (2 * (k : Int)))) := rfl
    have he : ∀ (env : Env) (s : Store), gVar 16 env s = .ok (.d (.int k)) s → gTup (gCons (gOp pMul (gCons (gCon (.int 2)) (gCons (gVar 16) gNil))) (gCons (gOp pMul (gCons (gCon (.int 2)) (gCons (gVar 16) gNil))) (gCons (gCon (.str [97])) gNil))) env s = .ok (.d (mf (.int k))) s := fun env s h =>
      tup_ok (ds := [.int (2 * (k : Int)), .int (2 * (k : Int)), .str [97]]) (cons_ok (op2 (x := .int 2) rfl h hp rfl) (cons_ok (op2 (x := .int 2) rfl h hp rfl) (cons_ok rfl rfl))) (Nat.le_of_ble_eq_true rfl) rfl
    have hput : Tg.put (.name 16) (.int k) (wipeE (some (.d (.lst (ns.map D.int))) :: some (.obj 0) :: b2 :: b3 :: b4 :: b5 :: b6 :: b7 :: b8 :: b9 :: b10 :: b11 :: b12 :: b13 :: b14 :: [none, none]) [16]) = some (some (.d (.lst (ns.map D.int))) :: some (.obj 0) :: b2 :: b3 :: b4 :: b5 :: b6 :: b7 :: b8 :: b9 :: b10 :: b11 :: b12 :: b13 :: b14 :: [none, some (.d (.int k))]) := rfl
    simp only [lcStep, hput, tTrue, bind_ok, if_true]
    rw [he _ st1 rfl]
    rfl
  exact (congrArg (finish 0) (s2' _ _ ((seq_nx (hmany _ hlc)).trans (law_end j _ st1 (fun _ => rfl))))).trans rfl
end K03
end

section
set_option Elab.async false
set_option linter.all false
set_option maxRecDepth 100000
set_option maxHeartbeats 0
open PySem PySem.W PyProof.Rows
theorem PySem.Challenge.cw_floorsagree_k03_spans_holds : PySem.Challenge.rw_floorsagree_k03_spans.Holds := by
  w_on; o_law; k_head; (case hw => w_witness2)
  k_fill
  refine PD.walk_law (l := PySem.Challenge.rw_floorsagree_k03_spans) (n := 63) (k := 2 * 6 + 2) rfl (by decide) rfl ⟨rfl, by decide, by decide⟩ (fun w h Y => PySem.W.kIn_of Y) ?F
  case F =>
    intro w mg fa h KX G hmg
    refine' PD.with_cls (P := PySem.Challenge.rw_floorsagree_k03_spans.prog) "FloorError" KX G ?a ?kp ?sb ?ty ?ex ?_
    (case a => k_is); (case kp => k_is); (case sb => k_is); (case ty => k_is); (case ex => k_exc)
    intro m0 c0
    refine' PD.with_sup (P := PySem.Challenge.rw_floorsagree_k03_spans.prog) "BadText" "place" "place" KX G ?za ?zhi ?zl ?zlc ?zll ?zhb ?zha ?zhan ?zhv ?zq ?zov ?zhf ?zkC ?zsa ?ztk ?zdc ?zsu ?zsx ?zsb ?zty ?zmr ?ztp ?zsp ?zs1 ?zs2 ?zs3 ?zs4 ?zs5 ?zs6 ?zs7 ?zs8 ?zcd ?zm1 ?zm2 ?zbi ?zx1 ?zx2 ?zx3 ?zpl ?zxf ?zfd ?_
    (case za => k_is); (case zhi => k_is); (case zl => k_is); (case zlc => k_is); (case zll => k_is); (case zhb => rfl); (case zha => rfl); (case zhan => rfl); (case zhv => rfl)
    (case zq => kernel_rfl); (case zov => kernel_rfl); (case zhf => k_is); (case zkC => k_is); (case zsa => k_is); (case ztk => k_is); (case zdc => k_is)
    (case zsu => kernel_rfl); (case zsx => k_is); (case zsb => k_is); (case zty => k_is); (case zmr => k_is); (case ztp => k_is); (case zsp => k_is)
    (case zs1 => rfl); (case zs2 => rfl); (case zs3 => rfl); (case zs4 => decide); (case zs5 => rfl); (case zs6 => rfl); (case zs7 => rfl); (case zs8 => rfl)
    (case zcd => k_is); (case zm1 => kernel_rfl); (case zm2 => kernel_rfl); (case zbi => exact L2.Binds.all fun us hl => match us, hl with | [_, _], _ => rfl)
    (case zx1 => decide); (case zx2 => decide); (case zx3 => decide); (case zpl => exact ⟨_, fun _ => rfl⟩); (case zxf => kernel_rfl); (case zfd => k_is)
    intro m1 c1
    refine' PD.with_cls (P := PySem.Challenge.rw_floorsagree_k03_spans.prog) "BadSteps" KX G ?a ?kp ?sb ?ty ?ex ?_
    (case a => k_is); (case kp => k_is); (case sb => k_is); (case ty => k_is); (case ex => k_exc)
    intro m2 c2
    refine' PD.with_cls (P := PySem.Challenge.rw_floorsagree_k03_spans.prog) "TooFar" KX G ?a ?kp ?sb ?ty ?ex ?_
    (case a => k_is); (case kp => k_is); (case sb => k_is); (case ty => k_is); (case ex => k_exc)
    intro m3 c3
    refine' PD.with_int "MOST_TEXT" KX G ?a ?_
    (case a => k_is)
    intro n_MOST_TEXT
    refine' PD.with_str "SIGNS" KX G ?a ?_
    (case a => k_is)
    intro n_SIGNS
    refine' PD.with_int "MOST_SPANS" KX G ?a ?_
    (case a => k_is)
    intro n_MOST_SPANS
    refine' PD.with_none "all" KX G ?a ?_
    (case a => k_is)
    intro b_all
    refine' PD.with_none "bool" KX G ?a ?_
    (case a => k_is)
    intro b_bool
    refine' PD.with_none "enumerate" KX G ?a ?_
    (case a => k_is)
    intro b_enumerate
    refine' PD.with_none "int" KX G ?a ?_
    (case a => k_is)
    intro b_int
    refine' PD.with_none "isinstance" KX G ?a ?_
    (case a => k_is)
    intro b_isinstance
    refine' PD.with_none "len" KX G ?a ?_
    (case a => k_is)
    intro b_len
    refine' PD.with_none "list" KX G ?a ?_
    (case a => k_is)
    intro b_list
    refine' PD.with_none "max" KX G ?a ?_
    (case a => k_is)
    intro b_max
    refine' PD.with_none "min" KX G ?a ?_
    (case a => k_is)
    intro b_min
    refine' PD.with_none "range" KX G ?a ?_
    (case a => k_is)
    intro b_range
    refine' PD.with_none "str" KX G ?a ?_
    (case a => k_is)
    intro b_str
    refine' PD.with_none "tuple" KX G ?a ?_
    (case a => k_is)
    intro b_tuple
    refine' PD.with_none "zip" KX G ?a ?_
    (case a => k_is)
    intro b_zip
    refine' PD.with_fn "is_integer" (K03.topS 10) KX ?a ?l ?c ?k ?_
    (case a => k_is); (case l => k_is); (case c => k_is); (case k => k_is)
    intro h0
    refine' PD.with_fn "is_text" (K03.topS 11) KX ?a ?l ?c ?k ?_
    (case a => k_is); (case l => k_is); (case c => k_is); (case k => k_is)
    intro h1
    refine' PD.with_fn "check_text" (K03.topS 12) KX ?a ?l ?c ?k ?_
    (case a => k_is); (case l => k_is); (case c => k_is); (case k => k_is)
    intro h2
    refine' PD.with_fn "is_span" (K03.topS 15) KX ?a ?l ?c ?k ?_
    (case a => k_is); (case l => k_is); (case c => k_is); (case k => k_is)
    intro h3
    refine' PD.with_fn "are_spans" (K03.topS 16) KX ?a ?l ?c ?k ?_
    (case a => k_is); (case l => k_is); (case c => k_is); (case k => k_is)
    intro h4
    refine' PD.with_fn "put_spans" (K03.topS 17) KX ?a ?l ?c ?k ?_
    (case a => k_is); (case l => k_is); (case c => k_is); (case k => k_is)
    intro h5
    refine' PD.with_fn "fit_spans" (K03.topS 18) KX ?a ?l ?c ?k ?_
    (case a => k_is); (case l => k_is); (case c => k_is); (case k => k_is)
    intro h6
    refine' PD.with_fn "spanned" (K03.topS 19) KX ?a ?l ?c ?k ?_
    (case a => k_is); (case l => k_is); (case c => k_is); (case k => k_is)
    intro h7
    refine' PD.with_fn "undone_spans" (K03.topS 20) KX ?a ?l ?c ?k ?_
    (case a => k_is); (case l => k_is); (case c => k_is); (case k => k_is)
    intro h8
    refine' PD.with_fn "back_spans" (K03.topS 21) KX ?a ?l ?c ?k ?_
    (case a => k_is); (case l => k_is); (case c => k_is); (case k => k_is)
    intro h9
    refine' PD.with_fn "least_span" (K03.topS 22) KX ?a ?l ?c ?k ?_
    (case a => k_is); (case l => k_is); (case c => k_is); (case k => k_is)
    intro h10
    refine' PD.with_fn "between" (K03.topS 23) KX ?a ?l ?c ?k ?_
    (case a => k_is); (case l => k_is); (case c => k_is); (case k => k_is)
    intro h11
    refine' PD.with_fn "_law_bag" (K03.topS 25) KX ?a ?l ?c ?k ?_
    (case a => k_is); (case l => k_is); (case c => k_is); (case k => k_is)
    intro h12
    refine' PD.with_fn "_law_draw" (K03.topS 26) KX ?a ?l ?c ?k ?_
    (case a => k_is); (case l => k_is); (case c => k_is); (case k => k_is)
    intro h13
    refine' PD.with_fn "_law_one" (K03.topS 27) KX ?a ?l ?c ?k ?_
    (case a => k_is); (case l => k_is); (case c => k_is); (case k => k_is)
    intro h14
    refine' PD.with_fn "_law_spoilt" (K03.topS 28) KX ?a ?l ?c ?k ?_
    (case a => k_is); (case l => k_is); (case c => k_is); (case k => k_is)
    intro h15
    refine' PD.with_fn "_law_same" (K03.topS 29) KX ?a ?l ?c ?k ?_
    (case a => k_is); (case l => k_is); (case c => k_is); (case k => k_is)
    intro h16
    refine' PD.with_fn "_law_told" (K03.topS 30) KX ?a ?l ?c ?k ?_
    (case a => k_is); (case l => k_is); (case c => k_is); (case k => k_is)
    intro h17
    refine' PD.with_fn "_law_is_text" (K03.topS 31) KX ?a ?l ?c ?k ?_
    (case a => k_is); (case l => k_is); (case c => k_is); (case k => k_is)
    intro h18
    refine' PD.with_fn "_law_whole" (K03.topS 32) KX ?a ?l ?c ?k ?_
    (case a => k_is); (case l => k_is); (case c => k_is); (case k => k_is)
    intro h19
    refine' PD.with_fn "_law_are" (K03.topS 33) KX ?a ?l ?c ?k ?_
    (case a => k_is); (case l => k_is); (case c => k_is); (case k => k_is)
    intro h20
    refine' PD.with_fn "_law_put" (K03.topS 34) KX ?a ?l ?c ?k ?_
    (case a => k_is); (case l => k_is); (case c => k_is); (case k => k_is)
    intro h21
    refine' PD.with_fn "_law_back" (K03.topS 35) KX ?a ?l ?c ?k ?_
    (case a => k_is); (case l => k_is); (case c => k_is); (case k => k_is)
    intro h22
    refine' PD.with_fn "_law_between" (K03.topS 36) KX ?a ?l ?c ?k ?_
    (case a => k_is); (case l => k_is); (case c => k_is); (case k => k_is)
    intro h23
    refine' PD.with_fn "_law_some" (K03.topS 37) KX ?a ?l ?c ?k ?_
    (case a => k_is); (case l => k_is); (case c => k_is); (case k => k_is)
    intro h24
    refine' PD.with_fn "law" (K03.topS 38) KX ?a ?l ?c ?k ?_
    (case a => k_is); (case l => k_is); (case c => k_is); (case k => k_is)
    intro h25
    refine PD.law_end2 KX G hmg (.cons h0 (.cons h1 (.cons h2 (.cons h3 (.cons h4 (.cons h5 (.cons h6 (.cons h7 (.cons h8 (.cons h9 (.cons h10 (.cons h11 (.cons h12 (.cons h13 (.cons h14 (.cons h15 (.cons h16 (.cons h17 (.cons h18 (.cons h19 (.cons h20 (.cons h21 (.cons h22 (.cons h23 (.cons h24 (.cons h25 .nil)))))))))))))))))))))))))) (.cons c0 (.cons c1 (.cons c2 (.cons c3 .nil)))) (glL := K03.glL) (T := K03.T) (cls := K03.cls) (sub := K03.sub) ?hn (by kernel_rfl) K03.T_ok (by kernel_rfl) (j := 6) (d := K03.T.getD 25 ⟨"", K03.topS 0, [], [], fun _ => PD.sNext⟩) h25 (by simp [K03.T]) rfl rfl (fun ns hl => K03.e_law 0 ns hl)
    case hn => exact ⟨PD.nm_cls m0 rfl, PD.nm_cls m1 rfl, PD.nm_cls m2 rfl, PD.nm_cls m3 rfl, PD.nm_int n_MOST_TEXT, PD.nm_str n_SIGNS (by first | rfl | decide +kernel) (by decide +kernel), PD.nm_fn KX G h0 rfl, PD.nm_fn KX G h1 rfl, PD.nm_fn KX G h2 rfl, PD.nm_int n_MOST_SPANS, PD.nm_fn KX G h3 rfl, PD.nm_fn KX G h4 rfl, PD.nm_fn KX G h5 rfl, PD.nm_fn KX G h6 rfl, PD.nm_fn KX G h7 rfl, PD.nm_fn KX G h8 rfl, PD.nm_fn KX G h9 rfl, PD.nm_fn KX G h10 rfl, PD.nm_fn KX G h11 rfl, PD.nm_fn KX G h12 rfl, PD.nm_fn KX G h13 rfl, PD.nm_fn KX G h14 rfl, PD.nm_fn KX G h15 rfl, PD.nm_fn KX G h16 rfl, PD.nm_fn KX G h17 rfl, PD.nm_fn KX G h18 rfl, PD.nm_fn KX G h19 rfl, PD.nm_fn KX G h20 rfl, PD.nm_fn KX G h21 rfl, PD.nm_fn KX G h22 rfl, PD.nm_fn KX G h23 rfl, PD.nm_fn KX G h24 rfl, PD.nm_fn KX G h25 rfl, b_all, b_bool, b_enumerate, b_int, b_isinstance, b_len, b_list, b_max, b_min, b_range, b_str, b_tuple, b_zip, trivial⟩
end
