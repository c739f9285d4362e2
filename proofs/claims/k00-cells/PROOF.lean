import PyProof.Rows.All
import PySem.Syntax
import Wide.All
import OpenK.AllK
import Wide.FinOn
import HandS.ForMost
import HandS.ForExc
import HandS.TryMany
import HandS.IsInst
import HandS.Zip
import HandS.Walk
import HandS.CallLocal
import HandS.TupAny
import HandS.Style
import HandS.ExcSuper
import HandS.RaiseMore
import HandS.Small
import HandS.Conv
import HandS.Deep
import HandS.TupLe
import KE.GoesMore
import KE.GoesEnum
import KE.KExcSuper
import HandS.ExcField
import HandS.StrMore
import HandS.Text
import KE.IntTextLaws
import HandS.DictTup
import HandS.More
import HandS.Dict
import HandS.ExcIs
import KE.KExcIs
import HandS.ExcValue
import PySem.Challenge.RW_floorsagree_k00_errors_cells_and_limits
section
set_option Elab.async false
set_option linter.all false
/-! PD0: immutable data, a store of lists, outcomes, a small AST and its pure meaning. No program, no model in sight. -/
namespace PD
open PySem (CmpOp Operator)

/-- immutable data; a list that nobody changes any more is data, too -/
inductive D where
  | non | bl (b : Bool) | int (i : Int) | str (s : List Nat) | tup (l : List D) | lst (l : List D)
  deriving Inhabited
/-- a value: data, the n-th thing of the store, the f-th def -/
inductive A where
  | d (x : D) | obj (n : Nat) | fn (f : Nat)
  deriving Inhabited
/-- what stands in the store: a list, a list that is frozen -/
inductive MO where
  | ls (l : List D) | fz (l : List D)
  deriving Inhabited
abbrev Store := List MO
abbrev Env := List (Option A)
structure Exn where
  cls : Nat
  arg : Option D
  deriving Inhabited
inductive Out (α : Type) where
  | ok (a : α) (st : Store)
  | exn (e : Exn) (st : Store)
  | bad
/-- a statement's outcome -/
inductive SO where
  | nx (env : Env) (st : Store)
  | rt (a : A) (st : Store)
  | bk (env : Env) (st : Store)
  | ct (env : Env) (st : Store)
  | ex (e : Exn) (env : Env) (st : Store)
  | bad

def Out.bind {α β : Type} (o : Out α) (f : α → Store → Out β) : Out β :=
  match o with
  | .ok a st => f a st
  | .exn e st => .exn e st
  | .bad => .bad
def Out.toS {α : Type} (o : Out α) (env : Env) (f : α → Store → SO) : SO :=
  match o with
  | .ok a st => f a st
  | .exn e st => .ex e env st
  | .bad => .bad
@[simp] theorem bind_ok {α β : Type} {a : α} {st : Store} {f : α → Store → Out β} : (Out.ok a st).bind f = f a st := rfl
@[simp] theorem bind_exn {α β : Type} {e : Exn} {st : Store} {f : α → Store → Out β} : (Out.exn e st : Out α).bind f = .exn e st := rfl
@[simp] theorem bind_bad {α β : Type} {f : α → Store → Out β} : (Out.bad : Out α).bind f = .bad := rfl
@[simp] theorem toS_ok {α : Type} {a : α} {st : Store} {env : Env} {f : α → Store → SO} : (Out.ok a st).toS env f = f a st := rfl
@[simp] theorem toS_exn {α : Type} {e : Exn} {st : Store} {env : Env} {f : α → Store → SO} : (Out.exn e st : Out α).toS env f = .ex e env st := rfl
@[simp] theorem toS_bad {α : Type} {env : Env} {f : α → Store → SO} : (Out.bad : Out α).toS env f = .bad := rfl

/-- what is new in the store is dropped, but the value itself -/
def settleV (L : Nat) (a : A) (st : Store) : Out A :=
  match a with
  | .d x => .ok (.d x) (st.take L)
  | .fn f => .ok (.fn f) (st.take L)
  | .obj n => if n < L then .ok (.obj n) (st.take L) else
      match st[n]? with
      | some m => .ok (.obj L) (st.take L ++ [m])
      | none => .bad
def settle (L : Nat) (o : Out A) : Out A :=
  match o with
  | .ok a st => settleV L a st
  | .exn e st => .exn e (st.take L)
  | .bad => .bad

/-- a value as data that stays: a list of the store is frozen -/
def freeze (a : A) (st : Store) : Option (D × Store) :=
  match a with
  | .d x => some (x, st)
  | .fn _ => none
  | .obj n =>
    match st[n]? with
    | some (.ls l) => some (.lst l, st.set n (.fz l))
    | some (.fz l) => some (.lst l, st)
    | none => none
def freezeAll : List A → Store → Option (List D × Store)
  | [], st => some ([], st)
  | a :: r, st =>
    match freeze a st with
    | none => none
    | some (x, st1) =>
      match freezeAll r st1 with
      | none => none
      | some (xs, st2) => some (x :: xs, st2)
/-- a value as data, as it is now -/
def now (a : A) (st : Store) : Option D :=
  match a with
  | .d x => some x
  | .fn _ => none
  | .obj n =>
    match st[n]? with
    | some (.ls l) => some (.lst l)
    | some (.fz l) => some (.lst l)
    | none => none
def nowAll : List A → Store → Option (List D)
  | [], _ => some []
  | a :: r, st =>
    match now a st, nowAll r st with
    | some x, some xs => some (x :: xs)
    | _, _ => none

/-- the lids of the model: most items, most signs -/
def LID : Nat := 16777216

/-! ### equality and places -/
mutual
def D.eqv : D → D → Bool
  | .non, .non => true
  | .bl a, .bl b => a == b
  | .bl a, .int j => (if a then (1 : Int) else 0) == j
  | .int i, .bl b => i == (if b then (1 : Int) else 0)
  | .int i, .int j => i == j
  | .str a, .str b => a == b
  | .tup a, .tup b => D.eqvs a b
  | .lst a, .lst b => D.eqvs a b
  | _, _ => false
def D.eqvs : List D → List D → Bool
  | [], [] => true
  | x :: xs, y :: ys => D.eqv x y && D.eqvs xs ys
  | _, _ => false
end
mutual
/-- how deep data is nested -/
def D.deep : D → Nat
  | .tup l => D.deeps l + 1
  | .lst l => D.deeps l + 1
  | _ => 0
def D.deeps : List D → Nat
  | [] => 0
  | x :: xs => max (D.deep x) (D.deeps xs)
end
/-- where an index stands in a row of n, if it does -/
def place (i : Int) (n : Nat) : Option Nat :=
  if 0 ≤ i then (if i < n then some i.toNat else none) else if 0 ≤ i + n then some (i + n).toNat else none
/-- where a slice's end stands in a row of n -/
def clip (i : Int) (n : Nat) : Nat := if 0 ≤ i then min i.toNat n else (i + n).toNat
def cutL {α : Type} (l : List α) (lo hi : Option Int) : List α :=
  let a := match lo with | none => 0 | some i => clip i l.length
  let b := match hi with | none => l.length | some i => clip i l.length
  (l.drop a).take (b - a)

/-! ### what built-in things make of data -/
inductive Res where
  | v (d : D) | l (xs : List D)
def give (r : Res) (st : Store) : Out A :=
  match r with
  | .v d => .ok (.d d) st
  | .l xs => .ok (.obj st.length) (st ++ [.ls xs])
abbrev Prim := List D → Option Res

def pAdd : Prim
  | [.int i, .int j] => some (.v (.int (i + j)))
  | [.str a, .str b] => if a.length + b.length ≤ LID then some (.v (.str (a ++ b))) else none
  | [.tup a, .tup b] => if a.length + b.length ≤ LID then some (.v (.tup (a ++ b))) else none
  | [.lst a, .lst b] => if a.length + b.length ≤ LID then some (.l (a ++ b)) else none
  | _ => none
def pSub : Prim
  | [.int i, .int j] => some (.v (.int (i - j)))
  | _ => none
def smallI (i : Int) : Bool := decide (-18446744073709551616 < i) && decide (i < 18446744073709551616)
def pMul : Prim
  | [.int i, .int j] => if smallI i || smallI j then some (.v (.int (i * j))) else none
  | [.str a, .int j] => if a.length * j.toNat ≤ 1000000 && decide (a.length ≤ 1000000) && decide (-1000000 ≤ j) && decide (j ≤ 1000000) then some (.v (.str ((List.replicate j.toNat a).flatten))) else none
  | _ => none
def pFdiv : Prim
  | [.int i, .int j] => if 0 < j ∧ j < 1073741824 then some (.v (.int (i / j))) else none
  | _ => none
def pMod : Prim
  | [.int i, .int j] => if 0 < j then some (.v (.int (i % j))) else none
  | _ => none
def pPow : Prim
  | [.int i, .int j] => if 0 ≤ j ∧ j ≤ 1000 ∧ i.natAbs < 18446744073709551616 then some (.v (.int (i ^ j.toNat))) else none
  | _ => none
def pNeg : Prim
  | [.int i] => some (.v (.int (-i)))
  | _ => none
def okDeep (a b : D) : Bool := decide (a.deep ≤ 60) && decide (b.deep ≤ 60)
def pEq : Prim
  | [a, b] => if okDeep a b then some (.v (.bl (a.eqv b))) else none
  | _ => none
def pNe : Prim
  | [a, b] => if okDeep a b then some (.v (.bl (!a.eqv b))) else none
  | _ => none
def pLt : Prim
  | [.int i, .int j] => some (.v (.bl (decide (i < j))))
  | [.str a, .str b] => some (.v (.bl (decide (a < b))))
  | _ => none
def pLe : Prim
  | [.int i, .int j] => some (.v (.bl (decide (i ≤ j))))
  | [.str a, .str b] => some (.v (.bl (!decide (b < a))))
  | _ => none
def pGt : Prim
  | [.int i, .int j] => some (.v (.bl (decide (j < i))))
  | [.str a, .str b] => some (.v (.bl (decide (b < a))))
  | _ => none
def pGe : Prim
  | [.int i, .int j] => some (.v (.bl (decide (j ≤ i))))
  | [.str a, .str b] => some (.v (.bl (!decide (a < b))))
  | _ => none
def flatD : D → Bool
  | .non => true | .bl _ => true | .int _ => true | .str _ => true | _ => false
def isIn (x : D) (l : List D) : Bool := l.any fun y => y.eqv x
def pIn : Prim
  | [.str [c], .str s] => some (.v (.bl (decide (c ∈ s))))
  | [x, .tup l] => if flatD x && l.all flatD then some (.v (.bl (isIn x l))) else none
  | [x, .lst l] => if flatD x && l.all flatD then some (.v (.bl (isIn x l))) else none
  | _ => none
def pNotIn : Prim
  | [.str [c], .str s] => some (.v (.bl (!decide (c ∈ s))))
  | [x, .tup l] => if flatD x && l.all flatD then some (.v (.bl (!isIn x l))) else none
  | [x, .lst l] => if flatD x && l.all flatD then some (.v (.bl (!isIn x l))) else none
  | _ => none
def D.isNon : D → Bool
  | .non => true
  | _ => false
def pIsN : Prim
  | [a, .non] => some (.v (.bl a.isNon))
  | _ => none
def pNotN : Prim
  | [a, .non] => some (.v (.bl (!a.isNon)))
  | _ => none
def pIsB : Prim
  | [.bl a, .bl b] => some (.v (.bl (a == b)))
  | _ => none
def pNotB : Prim
  | [.bl a, .bl b] => some (.v (.bl (!(a == b))))
  | _ => none
def pIs : Prim
  | [.bl a, .bl b] => some (.v (.bl (a == b)))
  | [a, .non] => some (.v (.bl a.isNon))
  | _ => none
def pIsNot : Prim
  | [.bl a, .bl b] => some (.v (.bl (!(a == b))))
  | [a, .non] => some (.v (.bl (!a.isNon)))
  | _ => none
def pLen : Prim
  | [.str s] => if s.length ≤ LID then some (.v (.int s.length)) else none
  | [.tup l] => some (.v (.int l.length))
  | [.lst l] => some (.v (.int l.length))
  | _ => none
/-- the types that isinstance is asked for -/
inductive Ty where
  | int | str | bool | tuple | list
def D.isTy : D → Ty → Bool
  | .bl _, .int => true
  | .bl _, .bool => true
  | .int _, .int => true
  | .str _, .str => true
  | .tup _, .tuple => true
  | .lst _, .list => true
  | _, _ => false
def pIsi (t : Ty) : Prim
  | [x] => some (.v (.bl (x.isTy t)))
  | _ => none
def boolsOf : List D → Option (List Bool)
  | [] => some []
  | .bl b :: r => (boolsOf r).map (b :: ·)
  | _ => none
def intsOf : List D → Option (List Int)
  | [] => some []
  | .int b :: r => (intsOf r).map (b :: ·)
  | _ => none
def textsOf : List D → Option (List (List Nat))
  | [] => some []
  | .str b :: r => (textsOf r).map (b :: ·)
  | _ => none
def pAll : Prim
  | [.lst l] => (boolsOf l).map fun bs => .v (.bl (bs.all id))
  | _ => none
def pAny : Prim
  | [.lst l] => (boolsOf l).map fun bs => .v (.bl (bs.any id))
  | _ => none
def pSum : Prim
  | [.lst l] => (intsOf l).map fun bs => .v (.int bs.sum)
  | _ => none
def maxL : Int → List Int → Int
  | m, [] => m
  | m, x :: r => maxL (if x > m then x else m) r
def minL : Int → List Int → Int
  | m, [] => m
  | m, x :: r => minL (if x < m then x else m) r
def pMaxL : Prim
  | [.lst l] => match intsOf l with
    | some (m :: r) => some (.v (.int (maxL m r)))
    | _ => none
  | _ => none
def pMinL : Prim
  | [.lst l] => match intsOf l with
    | some (m :: r) => some (.v (.int (minL m r)))
    | _ => none
  | _ => none
def pMax2 : Prim
  | [.int i, .int j] => some (.v (.int (if j > i then j else i)))
  | _ => none
def pMin2 : Prim
  | [.int i, .int j] => some (.v (.int (if j < i then j else i)))
  | _ => none
def pTuple : Prim
  | [.lst l] => some (.v (.tup l))
  | [.tup l] => some (.v (.tup l))
  | _ => none
def pList : Prim
  | [.lst l] => some (.l l)
  | [.tup l] => some (.l l)
  | _ => none
def pInt : Prim
  | [.int i] => some (.v (.int i))
  | [.bl b] => some (.v (.int (if b then 1 else 0)))
  | _ => none
def joined (sep : List Nat) : List (List Nat) → List Nat
  | [] => []
  | [x] => x
  | x :: r => x ++ sep ++ joined sep r
def lensOf (sep : List Nat) : List (List Nat) → Nat
  | [] => 0
  | x :: r => x.length + sep.length + lensOf sep r
def pJoin : Prim
  | [.str sep, .lst l] => match textsOf l with
    | some ts => if lensOf sep ts ≤ LID then some (.v (.str (joined sep ts))) else none
    | none => none
  | [.str sep, .tup l] => match textsOf l with
    | some ts => if lensOf sep ts ≤ LID then some (.v (.str (joined sep ts))) else none
    | none => none
  | _ => none
def pIx : Prim
  | [.str s, .int i] => if s.length ≤ LID then ((place i s.length).bind fun j => s[j]?).map fun c => .v (.str [c]) else none
  | [.tup l, .int i] => ((place i l.length).bind fun j => l[j]?).map .v
  | [.lst l, .int i] => ((place i l.length).bind fun j => l[j]?).map .v
  | _ => none
def part : D → Option (Option Int)
  | .non => some none
  | .int i => some (some i)
  | _ => none
def pSl : Prim
  | [.str s, lo, hi] => match part lo, part hi with
    | some a, some b => if s.length ≤ LID then some (.v (.str (cutL s a b))) else none
    | _, _ => none
  | [.tup l, lo, hi] => match part lo, part hi with
    | some a, some b => some (.v (.tup (cutL l a b)))
    | _, _ => none
  | [.lst l, lo, hi] => match part lo, part hi with
    | some a, some b => some (.l (cutL l a b))
    | _, _ => none
  | _ => none
def pRev : Prim
  | [.tup l] => some (.v (.tup l.reverse))
  | [.lst l] => some (.l l.reverse)
  | _ => none

def pIAdd : Prim
  | [.int i, .int j] => some (.v (.int (i + j)))
  | [.str a, .str b] => if a.length + b.length ≤ LID then some (.v (.str (a ++ b))) else none
  | _ => none
/-! ### expressions -/
abbrev SemE := Env → Store → Out A
abbrev SemT := Env → Store → Out Bool
abbrev SemAs := Env → Store → Out (List A)
abbrev SemF := Nat → List A → Store → Out A
abbrev SemS := Env → Store → SO

def gVar (i : Nat) : SemE := fun env st =>
  match env[i]? with
  | some (some a) => .ok a st
  | _ => .bad
def gCon (d : D) : SemE := fun _ st => .ok (.d d) st
def gFn (f : Nat) : SemE := fun _ st => .ok (.fn f) st
def gNil : SemAs := fun _ st => .ok [] st
def gCons (a : SemE) (r : SemAs) : SemAs := fun env st => (a env st).bind fun x s1 => (r env s1).bind fun xs s2 => .ok (x :: xs) s2
def opOn (p : Prim) (xs : List A) (st : Store) : Out A :=
  match nowAll xs st with
  | none => .bad
  | some ds =>
    match p ds with
    | none => .bad
    | some r => give r st
def gOp (p : Prim) (as : SemAs) : SemE := fun env st => settle st.length ((as env st).bind fun xs s1 => opOn p xs s1)
def gTup (as : SemAs) : SemE := fun env st => settle st.length ((as env st).bind fun xs s1 =>
  match freezeAll xs s1 with
  | none => .bad
  | some (ds, s2) => if ds.length ≤ LID then .ok (.d (.tup ds)) s2 else .bad)
def gLst (as : SemAs) : SemE := fun env st => settle st.length ((as env st).bind fun xs s1 =>
  match freezeAll xs s1 with
  | none => .bad
  | some (ds, s2) => if ds.length ≤ LID then .ok (.obj s2.length) (s2 ++ [.ls ds]) else .bad)
/-- the truth of data -/
def D.truth : D → Bool
  | .non => false
  | .bl b => b
  | .int i => i != 0
  | .str s => !s.isEmpty
  | .tup l => !l.isEmpty
  | .lst l => !l.isEmpty
def okLen : D → Bool
  | .str s => decide (s.length ≤ LID)
  | _ => true
def tVal (g : SemE) : SemT := fun env st => (g env st).bind fun a s1 =>
  match now a s1 with
  | some d => if okLen d then .ok d.truth (s1.take st.length) else .bad
  | none => .bad
def tAnd (a b : SemT) : SemT := fun env st => (a env st).bind fun x s1 => if x then b env s1 else .ok false s1
def tOr (a b : SemT) : SemT := fun env st => (a env st).bind fun x s1 => if x then .ok true s1 else b env s1
def tNot (a : SemT) : SemT := fun env st => (a env st).bind fun x s1 => .ok (!x) s1
def gAnd (a b : SemE) : SemE := fun env st => (a env st).bind fun x s1 =>
  match x with
  | .d (.bl true) => b env s1
  | .d (.bl false) => .ok (.d (.bl false)) s1
  | _ => .bad
def gOr (a b : SemE) : SemE := fun env st => (a env st).bind fun x s1 =>
  match x with
  | .d (.bl true) => .ok (.d (.bl true)) s1
  | .d (.bl false) => b env s1
  | _ => .bad
def gNot (a : SemE) : SemE := fun env st => (a env st).bind fun x s1 =>
  match x with
  | .d (.bl b) => .ok (.d (.bl (!b))) s1
  | _ => .bad
def gIf (c : SemT) (a b : SemE) : SemE := fun env st => (c env st).bind fun x s1 => if x then a env s1 else b env s1
def gChain (p q : Prim) (a b c : SemE) : SemE := fun env st => settle st.length ((a env st).bind fun x s1 => (b env s1).bind fun y s2 => (opOn p [x, y] s2).bind fun z s3 =>
  match z with
  | .d (.bl true) => (c env s3).bind fun w s4 => opOn q [y, w] s4
  | .d (.bl false) => .ok (.d (.bl false)) s3
  | _ => .bad)
/-- a value that is not of the store -/
def A.free : A → Bool
  | .obj _ => false
  | _ => true
/-- what a call gives that knew of no store -/
def lift (st : Store) : Out A → Out A
  | .ok (.d y) _ => .ok (.d y) st
  | .ok (.fn f) _ => .ok (.fn f) st
  | .ok (.obj n) st' =>
    match st'[n]? with
    | some m => .ok (.obj st.length) (st ++ [m])
    | none => .bad
  | .exn e _ => .exn e st
  | .bad => .bad
/-- a call: where no argument is of the store, the def runs with an empty one -/
def callIn (F : List A → Store → Out A) (xs : List A) (st : Store) : Out A := if xs.all A.free then lift st (F xs []) else F xs st
def gCall (F : SemF) (f : Nat) (as : SemAs) : SemE := fun env st => settle st.length ((as env st).bind fun xs s1 => callIn (F f) xs s1)
def gCallV (F : SemF) (i : Nat) (as : SemAs) : SemE := fun env st =>
  match env[i]? with
  | some (some (.fn f)) => settle st.length ((as env st).bind fun xs s1 => callIn (F f) xs s1)
  | _ => .bad

/-- a slice's part: an int -/
def gInt (g : SemE) : SemE := fun env st => (g env st).bind fun x s1 =>
  match x with
  | .d (.int i) => .ok (.d (.int i)) s1
  | _ => .bad

/-- a method's owner: a text -/
def gStr (g : SemE) : SemE := fun env st => (g env st).bind fun x s1 =>
  match x with
  | .d (.str i) => .ok (.d (.str i)) s1
  | _ => .bad

/-! ### what is walked -/
mutual
def D.same : D → D → Bool
  | .non, .non => true
  | .bl a, .bl b => a == b
  | .int i, .int j => i == j
  | .str a, .str b => a == b
  | .tup a, .tup b => D.sames a b
  | .lst a, .lst b => D.sames a b
  | _, _ => false
def D.sames : List D → List D → Bool
  | [], [] => true
  | x :: xs, y :: ys => D.same x y && D.sames xs ys
  | _, _ => false
end
/-- the items, and the lists of the store that must stay as they are -/
structure Src where
  items : List D
  watch : List (Nat × List D)
def heldAt (st : Store) (n : Nat) (l : List D) : Bool :=
  match st[n]? with
  | some (.ls m) => D.sames m l
  | some (.fz m) => D.sames m l
  | none => false
def Src.ok (s : Src) (st : Store) : Bool := s.watch.all fun w => heldAt st w.1 w.2
abbrev SemI := Env → Store → Out Src
def signs (s : List Nat) : List D := s.map fun c => .str [c]
/-- a row: a list or a tuple, its items, what is to be watched -/
def rowOf (a : A) (st : Store) : Option (Bool × List D × List (Nat × List D)) :=
  match a with
  | .d (.tup l) => some (false, l, [])
  | .d (.lst l) => some (true, l, [])
  | .obj n =>
    match st[n]? with
    | some (.ls l) => some (true, l, [(n, l)])
    | some (.fz l) => some (true, l, [(n, l)])
    | none => none
  | _ => none
def iVal (g : SemE) : SemI := fun env st => (g env st).bind fun a s1 =>
  match a with
  | .d (.str s) => .ok ⟨signs s, []⟩ s1
  | _ =>
    match rowOf a s1 with
    | some (_, l, w) => .ok ⟨l, w⟩ s1
    | none => .bad
def rangeL (lo hi : Int) : List D := (List.range (hi - lo).toNat).map fun k => .int (lo + (k : Nat))
def big62 : Int := 4611686018427387904
def iRange1 (a : SemE) : SemI := fun env st => (a env st).bind fun x s1 =>
  match x with
  | .d (.int n) => if -big62 ≤ n ∧ n < big62 then .ok ⟨rangeL 0 n, []⟩ s1 else .bad
  | _ => .bad
def iRange2 (a b : SemE) : SemI := fun env st => (a env st).bind fun x s1 => (b env s1).bind fun y s2 =>
  match x, y with
  | .d (.int i), .d (.int j) => if (-big62 ≤ i ∧ i < big62) ∧ -big62 ≤ j ∧ j < big62 then .ok ⟨rangeL i j, []⟩ s2 else .bad
  | _, _ => .bad
def numbered : Nat → List D → List D
  | _, [] => []
  | k, d :: r => .tup [.int (k : Nat), d] :: numbered (k + 1) r
/-- enumerate: of texts, of lists -/
def iEnum (a : SemE) : SemI := fun env st => (a env st).bind fun x s1 =>
  match x with
  | .d (.str s) => .ok ⟨numbered 0 (signs s), []⟩ s1
  | _ =>
    match rowOf x s1 with
    | some (true, l, w) => .ok ⟨numbered 0 l, w⟩ s1
    | some (false, l, w) => .ok ⟨numbered 0 l, w⟩ s1
    | none => .bad
def paired : List D → List D → List D
  | x :: xs, y :: ys => .tup [x, y] :: paired xs ys
  | _, _ => []
def iZip (a b : SemE) : SemI := fun env st => (a env st).bind fun x s1 => (b env s1).bind fun y s2 =>
  match rowOf x s2, rowOf y s2 with
  | some (false, l, _), some (false, m, _) => .ok ⟨paired l m, []⟩ s2
  | some (true, l, v), some (true, m, w) => .ok ⟨paired l m, v ++ w⟩ s2
  | _, _ => .bad

/-! ### targets -/
inductive Tg where
  | name (i : Nat) | tup (ts : List Tg)
def setAll : List Nat → List D → Env → Option Env
  | [], [], env => some env
  | i :: is, d :: ds, env => setAll is ds (env.set i (some (.d d)))
  | _, _, _ => none
mutual
def Tg.put : Tg → D → Env → Option Env
  | .name i, d, env => some (env.set i (some (.d d)))
  | .tup ts, .tup l, env => Tg.puts ts l env
  | _, _, _ => none
def Tg.puts : List Tg → List D → Env → Option Env
  | [], [], env => some env
  | t :: ts, d :: ds, env =>
    match Tg.put t d env with
    | some env1 => Tg.puts ts ds env1
    | none => none
  | _, _, _ => none
end
mutual
def Tg.slots : Tg → List Nat
  | .name i => [i]
  | .tup ts => Tg.slotss ts
def Tg.slotss : List Tg → List Nat
  | [] => []
  | t :: ts => Tg.slots t ++ Tg.slotss ts
end
def wipeE (env : Env) : List Nat → Env
  | [] => env
  | v :: vs => (wipeE env vs).set v none

/-! ### list comprehensions -/
def lcGo (step : D → Store → Out (Option D)) (ok : Store → Bool) : List D → Store → Out (List D)
  | [], st => if ok st then .ok [] st else .bad
  | d :: ds, st =>
    if ok st then
      match step d st with
      | .ok o s1 =>
        match lcGo step ok ds (s1.take st.length) with
        | .ok xs s2 => .ok (match o with | some x => x :: xs | none => xs) s2
        | _ => .bad
      | _ => .bad
    else .bad
def lcStep (tg : Tg) (cond : SemT) (elt : SemE) (env : Env) (d : D) (st : Store) : Out (Option D) :=
  match tg.put d env with
  | none => .bad
  | some env1 => (cond env1 st).bind fun b s1 =>
    if b then (elt env1 s1).bind fun a s2 =>
      match freeze a s2 with
      | some (x, s3) => .ok (some x) s3
      | none => .bad
    else .ok none s1
def gLc (it : SemI) (tg : Tg) (cond : SemT) (elt : SemE) (own : List Nat) : SemE := fun env st =>
  settle st.length ((it env st).bind fun src s1 =>
    if src.items.length < LID then
      match lcGo (lcStep tg cond elt (wipeE env own)) src.ok src.items s1 with
      | .ok xs s2 => .ok (.obj s2.length) (s2 ++ [.ls xs])
      | _ => .bad
    else .bad)
def tTrue : SemT := fun _ st => .ok true st

/-! ### statements -/
def sNext : SemS := fun env st => .nx env st
def sSeq (a b : SemS) : SemS := fun env st =>
  match a env st with
  | .nx env1 s1 => b env1 s1
  | o => o
def sBreak : SemS := fun env st => .bk env st
def sCont : SemS := fun env st => .ct env st
def sSet (i : Nat) (g : SemE) : SemS := fun env st => (g env st).toS env fun a s1 => .nx (env.set i (some a)) s1
def sExpr (g : SemE) : SemS := fun env st => (g env st).toS env fun _ s1 => .nx env (s1.take st.length)
def sRet (g : SemE) : SemS := fun env st => (g env st).toS env fun a s1 => .rt a s1
def sRetN : SemS := fun _ st => .rt (.d .non) st
def sIf (c : SemT) (a b : SemS) : SemS := fun env st => (c env st).toS env fun x s1 => if x then a env s1 else b env s1
def sUnpack (is : List Nat) (g : SemE) : SemS := fun env st => (g env st).toS env fun a s1 =>
  match now a s1 with
  | some (.tup l) =>
    match setAll is l env with
    | some env1 => .nx env1 (s1.take st.length)
    | none => .bad
  | some (.lst l) =>
    match setAll is l env with
    | some env1 => .nx env1 (s1.take st.length)
    | none => .bad
  | _ => .bad
def sPar (i j : Nat) (a b : SemE) : SemS := fun env st => (a env st).toS env fun x s1 => (b env s1).toS env fun y s2 => .nx ((env.set i (some x)).set j (some y)) s2
def sAug (i : Nat) (p : Prim) (g : SemE) : SemS := fun env st =>
  match env[i]? with
  | some (some (.d x)) => (g env st).toS env fun a s1 =>
    match now a s1 with
    | some y =>
      match p [x, y] with
      | some (.v z) => .nx (env.set i (some (.d z))) (s1.take st.length)
      | _ => .bad
    | none => .bad
  | _ => .bad
/-- o.append(v) -/
def sAppend (o v : SemE) : SemS := fun env st => (o env st).toS env fun x s1 =>
  match x with
  | .obj n => (v env s1).toS env fun a s2 =>
    match freeze a s2 with
    | some (d, s3) =>
      match s3[n]? with
      | some (.ls l) => if l.length < LID then .nx env ((s3.set n (.ls (l ++ [d]))).take st.length) else .bad
      | _ => .bad
    | none => .bad
  | _ => .bad
/-- o[i] = v -/
def sSetIx (o i v : SemE) : SemS := fun env st => (v env st).toS env fun a s1 => (o env s1).toS env fun x s2 => (i env s2).toS env fun y s3 =>
  match x, y, freeze a s3 with
  | .obj n, .d (.int k), some (d, s4) =>
    match s4[n]? with
    | some (.ls l) =>
      match place k l.length with
      | some j => .nx env ((s4.set n (.ls (l.set j d))).take st.length)
      | none => .bad
    | _ => .bad
  | _, _, _ => .bad
def forGo (tg : Tg) (body : SemS) (ok : Store → Bool) : List D → SemS
  | [], env, st => if ok st then .nx env st else .bad
  | d :: ds, env, st =>
    if ok st then
      match tg.put d env with
      | none => .bad
      | some env1 =>
        match body env1 st with
        | .nx env2 s2 => forGo tg body ok ds env2 s2
        | .ct env2 s2 => forGo tg body ok ds env2 s2
        | .bk env2 s2 => .nx env2 s2
        | o => o
    else .bad
def sFor (it : SemI) (tg : Tg) (body : SemS) : SemS := fun env st => (it env st).toS env fun src s1 => forGo tg body src.ok src.items env s1
def whGo (c : SemT) (body : SemS) : Nat → SemS
  | 0, _, _ => .bad
  | n + 1, env, st => (c env st).toS env fun b s1 =>
    if b then
      match body env s1 with
      | .nx env2 s2 => whGo c body n env2 s2
      | .ct env2 s2 => whGo c body n env2 s2
      | .bk env2 s2 => .nx env2 s2
      | o => o
    else .nx env s1
def FUEL : Nat := 100000
def sWhile (c : SemT) (body : SemS) : SemS := whGo c body FUEL
def sRaise0 (cls : Nat) : SemS := fun env st => .ex ⟨cls, none⟩ env st
def sRaise1 (cls : Nat) (g : SemE) : SemS := fun env st => (g env st).toS env fun a s1 =>
  match freeze a s1 with
  | some (x, s2) => .ex ⟨cls, some x⟩ env s2
  | none => .bad
/-- what an except clause may do: hand back a value of written data and of the error's own -/
inductive HE where
  | con (d : D) | arg | tup (l : List HE)
mutual
def HE.val : HE → Option D → Option D
  | .con d, _ => some d
  | .arg, a => a
  | .tup l, a => (HE.vals l a).map .tup
def HE.vals : List HE → Option D → Option (List D)
  | [], _ => some []
  | h :: r, a =>
    match HE.val h a, HE.vals r a with
    | some x, some xs => some (x :: xs)
    | _, _ => none
end
structure Hd where
  cls : Nat
  ret : HE
def catch_ (sub : Nat → Nat → Bool) : List Hd → Exn → Env → Store → SO
  | [], e, env, st => .ex e env st
  | h :: r, e, env, st => if sub e.cls h.cls then
      match h.ret.val e.arg with
      | some d => .rt (.d d) st
      | none => .bad
    else catch_ sub r e env st
def sTry (sub : Nat → Nat → Bool) (body : SemS) (hs : List Hd) : SemS := fun env st =>
  match body env st with
  | .ex e env1 s1 => if env1.length = env.length then catch_ sub hs e env1 s1 else .bad
  | o => o
/-- a def's end -/
def finish (L : Nat) (o : SO) : Out A :=
  match o with
  | .nx _ st => .ok (.d .non) (st.take L)
  | .rt a st => settleV L a st
  | .ex e _ st => .exn e (st.take L)
  | _ => .bad
end PD
end

section
set_option Elab.async false
set_option linter.all false
set_option maxRecDepth 100000
set_option maxHeartbeats 2000000
/-! PD1: how data stands in the layer's heap. -/
namespace PD
open PySem PySem.Spec PyProof.Rows L2

abbrev Fr := PySem.W.Frag

/-- a list that nobody may change any more -/
def SqF (H : Hp) (a : Addr) (xs : List V) : Prop := ∃ o, H a = some (.frz o (.lst xs))
theorem SqF.l {H : Hp} {a : Addr} {xs : List V} (h : SqF H a xs) : Rd H a (.lst xs) := .inr h

/-- the signs of a text are signs -/
def goodS (s : List Nat) : Bool := s.all fun c => decide (c < 1114112)
mutual
def RepD (K : Fr) (H : Hp) : D → V → Prop
  | .non, v => v = .non
  | .bl b, v => v = .bl b
  | .int i, v => v = .int i
  | .str s, v => v = .str ⟨s.toArray⟩ ∧ goodS s = true
  | .tup l, v => ∃ a xs, v = .ref a ∧ SqT K H a xs ∧ RepDs K H l xs
  | .lst l, v => ∃ a xs, v = .ref a ∧ SqF H a xs ∧ RepDs K H l xs
def RepDs (K : Fr) (H : Hp) : List D → List V → Prop
  | [], vs => vs = []
  | d :: ds, vs => ∃ v r, vs = v :: r ∧ RepD K H d v ∧ RepDs K H ds r
end

/-- what stands for good goes on to stand -/
structure Ext (H H' : Hp) : Prop where
  tup : ∀ a xs, H a = some (.tup xs) → H' a = some (.tup xs)
  frz : ∀ a o u, H a = some (.frz o u) → H' a = some (.frz o u)
theorem Ext.refl (H : Hp) : Ext H H := ⟨fun _ _ h => h, fun _ _ _ h => h⟩
theorem Ext.trans {H H1 H2 : Hp} (a : Ext H H1) (b : Ext H1 H2) : Ext H H2 := ⟨fun x xs h => b.tup x xs (a.tup x xs h), fun x o u h => b.frz x o u (a.frz x o u h)⟩
theorem Ext.sqT {K : Fr} {H H' : Hp} {a : Addr} {xs : List V} (e : Ext H H') (h : SqT K H a xs) : SqT K H' a xs := by
  rcases h with (h | ⟨o, h⟩) | h
  · exact .inl (.inl (e.tup _ _ h))
  · exact .inl (.inr ⟨o, e.frz _ _ _ h⟩)
  · exact .inr h
theorem Ext.sqF {H H' : Hp} {a : Addr} {xs : List V} (e : Ext H H') (h : SqF H a xs) : SqF H' a xs := by
  obtain ⟨o, h⟩ := h
  exact ⟨o, e.frz _ _ _ h⟩
mutual
theorem RepD.mono {K : Fr} {H H' : Hp} (e : Ext H H') : ∀ (d : D) (v : V), RepD K H d v → RepD K H' d v
  | .non, _, h => h
  | .bl _, _, h => h
  | .int _, _, h => h
  | .str _, _, h => h
  | .tup l, v, h => by
    obtain ⟨a, xs, hv, hs, hr⟩ := h
    exact ⟨a, xs, hv, e.sqT hs, RepDs.mono e l xs hr⟩
  | .lst l, v, h => by
    obtain ⟨a, xs, hv, hs, hr⟩ := h
    exact ⟨a, xs, hv, e.sqF hs, RepDs.mono e l xs hr⟩
theorem RepDs.mono {K : Fr} {H H' : Hp} (e : Ext H H') : ∀ (ds : List D) (vs : List V), RepDs K H ds vs → RepDs K H' ds vs
  | [], _, h => h
  | d :: ds, vs, h => by
    obtain ⟨v, r, hv, h1, h2⟩ := h
    exact ⟨v, r, hv, RepD.mono e d v h1, RepDs.mono e ds r h2⟩
end
section
variable {K : Fr} {H H' : Hp}
theorem RepDs.length : ∀ {ds : List D} {vs : List V}, RepDs K H ds vs → vs.length = ds.length
  | [], _, h => by cases h; rfl
  | d :: ds, _, h => by
    obtain ⟨v, r, rfl, _, h2⟩ := h
    rw [List.length_cons, List.length_cons, RepDs.length h2]
theorem RepDs.get : ∀ {ds : List D} {vs : List V} {i : Nat} {d : D}, RepDs K H ds vs → ds[i]? = some d → ∃ v, vs[i]? = some v ∧ RepD K H d v
  | [], _, _, _, _, e => by simp at e
  | d :: ds, _, 0, d', h, e => by
    obtain ⟨v, r, rfl, h1, _⟩ := h
    simp at e; subst e
    exact ⟨v, rfl, h1⟩
  | d :: ds, _, i + 1, d', h, e => by
    obtain ⟨v, r, rfl, _, h2⟩ := h
    obtain ⟨v', e1, e2⟩ := RepDs.get (i := i) h2 (by simpa using e)
    exact ⟨v', by simpa using e1, e2⟩
theorem RepDs.got : ∀ {ds : List D} {vs : List V} {i : Nat} {v : V}, RepDs K H ds vs → vs[i]? = some v → ∃ d, ds[i]? = some d ∧ RepD K H d v
  | [], _, _, _, h, e => by cases h; simp at e
  | d :: ds, _, 0, v', h, e => by
    obtain ⟨v, r, rfl, h1, _⟩ := h
    simp at e; subst e
    exact ⟨d, rfl, h1⟩
  | d :: ds, _, i + 1, v', h, e => by
    obtain ⟨v, r, rfl, _, h2⟩ := h
    obtain ⟨d', e1, e2⟩ := RepDs.got (i := i) h2 (by simpa using e)
    exact ⟨d', by simpa using e1, e2⟩
theorem RepDs.nil : RepDs K H [] [] := rfl
theorem RepDs.cons {d : D} {v : V} {ds : List D} {vs : List V} (h : RepD K H d v) (t : RepDs K H ds vs) : RepDs K H (d :: ds) (v :: vs) := ⟨v, vs, rfl, h, t⟩
theorem RepDs.append : ∀ {ds es : List D} {vs ws : List V}, RepDs K H ds vs → RepDs K H es ws → RepDs K H (ds ++ es) (vs ++ ws)
  | [], _, _, _, h, t => by cases h; exact t
  | d :: ds, _, _, _, h, t => by
    obtain ⟨v, r, rfl, h1, h2⟩ := h
    exact .cons h1 (RepDs.append h2 t)
theorem RepDs.take : ∀ {ds : List D} {vs : List V} (n : Nat), RepDs K H ds vs → RepDs K H (ds.take n) (vs.take n)
  | _, _, 0, _ => rfl
  | [], _, n + 1, h => by cases h; rfl
  | d :: ds, _, n + 1, h => by
    obtain ⟨v, r, rfl, h1, h2⟩ := h
    exact .cons h1 (RepDs.take n h2)
theorem RepDs.drop : ∀ {ds : List D} {vs : List V} (n : Nat), RepDs K H ds vs → RepDs K H (ds.drop n) (vs.drop n)
  | _, _, 0, h => h
  | [], _, n + 1, h => by cases h; rfl
  | d :: ds, _, n + 1, h => by
    obtain ⟨v, r, rfl, _, h2⟩ := h
    exact RepDs.drop n h2
theorem RepDs.set {d : D} {v : V} (r : RepD K H d v) : ∀ {ds : List D} {vs : List V} (n : Nat), RepDs K H ds vs → RepDs K H (ds.set n d) (vs.set n v)
  | [], _, _, h => by cases h; rfl
  | e :: ds, _, 0, h => by
    obtain ⟨w, r', rfl, _, h2⟩ := h
    exact .cons r h2
  | e :: ds, _, n + 1, h => by
    obtain ⟨w, r', rfl, h1, h2⟩ := h
    exact .cons h1 (RepDs.set r n h2)
theorem RepDs.reverse : ∀ {ds : List D} {vs : List V}, RepDs K H ds vs → RepDs K H ds.reverse vs.reverse
  | [], _, h => by cases h; rfl
  | d :: ds, _, h => by
    obtain ⟨v, r, rfl, h1, h2⟩ := h
    rw [List.reverse_cons, List.reverse_cons]
    exact (RepDs.reverse h2).append (.cons h1 .nil)
theorem RepDs.of_get : ∀ {ds : List D} {vs : List V}, vs.length = ds.length → (∀ (i : Nat) d v, ds[i]? = some d → vs[i]? = some v → RepD K H d v) → RepDs K H ds vs
  | [], [], _, _ => rfl
  | [], _ :: _, h, _ => by simp at h
  | _ :: _, [], h, _ => by simp at h
  | d :: ds, v :: vs, h, k => .cons (k 0 d v rfl rfl) (RepDs.of_get (by simpa using h) fun i d' v' h1 h2 => k (i + 1) d' v' (by simpa using h1) (by simpa using h2))
end

/-- a value -/
def RepA (K : Fr) (fa : Nat → Option Addr) (μ : List Addr) (H : Hp) : A → V → Prop
  | .d x, v => RepD K H x v
  | .obj n, v => ∃ a, v = .ref a ∧ μ[n]? = some a
  | .fn f, v => ∃ a, v = .ref a ∧ fa f = some a
def RepM (K : Fr) (H : Hp) : MO → Addr → Prop
  | .ls l, a => ∃ xs, H a = some (.lst xs) ∧ RepDs K H l xs
  | .fz l, a => ∃ o xs, H a = some (.frz o (.lst xs)) ∧ RepDs K H l xs
/-- the store: its n-th thing stands at the n-th address -/
structure StOk (K : Fr) (H : Hp) (μ : List Addr) (st : Store) : Prop where
  len : μ.length = st.length
  nd : μ.Nodup
  at_ : ∀ (n : Nat) a m, μ[n]? = some a → st[n]? = some m → RepM K H m a

/-- from (μ, H) to (μ', H'): new things behind the old ones, at new addresses; what is not of the store stands as it was -/
structure Go (μ : List Addr) (H : Hp) (μ' : List Addr) (H' : Hp) : Prop where
  pre : ∃ ν, μ' = μ ++ ν ∧ ∀ a ∈ ν, H a = none
  ext : Ext H H'
  keep : ∀ a o, H a = some o → a ∉ μ → H' a = some o
  there : ∀ a o, H a = some o → ∃ o', H' a = some o'
theorem Go.refl (μ : List Addr) (H : Hp) : Go μ H μ H := ⟨⟨[], by simp, by simp⟩, .refl H, fun _ _ h _ => h, fun _ o h => ⟨o, h⟩⟩
theorem Go.trans {μ μ1 μ2 : List Addr} {H H1 H2 : Hp} (a : Go μ H μ1 H1) (b : Go μ1 H1 μ2 H2) : Go μ H μ2 H2 := by
  obtain ⟨ν, e1, n1⟩ := a.pre
  obtain ⟨ν', e2, n2⟩ := b.pre
  subst e1
  have fresh : ∀ x o, H x = some o → x ∉ μ → x ∉ μ ++ ν := fun x o h hx hm => by
    rcases List.mem_append.mp hm with q | q
    · exact hx q
    · rw [n1 x q] at h; cases h
  refine ⟨⟨ν ++ ν', by rw [e2, List.append_assoc], fun x hx => ?_⟩, a.ext.trans b.ext, fun x o h hx => b.keep x o (a.keep x o h hx) (fresh x o h hx), fun x o h => ?_⟩
  · rcases List.mem_append.mp hx with q | q
    · exact n1 x q
    · cases h : H x with
      | none => rfl
      | some o =>
        obtain ⟨o', h'⟩ := a.there x o h
        rw [n2 x q] at h'; cases h'
  · obtain ⟨o', h'⟩ := a.there x o h
    exact b.there x o' h'
theorem Go.get {μ μ' : List Addr} {H H' : Hp} (g : Go μ H μ' H') {n : Nat} {a : Addr} (h : μ[n]? = some a) : μ'[n]? = some a := by
  obtain ⟨ν, e, _⟩ := g.pre
  subst e
  rw [List.getElem?_append_left (List.getElem?_eq_some_iff.mp h).1]
  exact h
theorem Go.le {μ μ' : List Addr} {H H' : Hp} (g : Go μ H μ' H') : μ.length ≤ μ'.length := by
  obtain ⟨ν, e, _⟩ := g.pre
  subst e
  rw [List.length_append]; omega
theorem RepA.mono {K : Fr} {fa : Nat → Option Addr} {μ μ' : List Addr} {H H' : Hp} (g : Go μ H μ' H') {a : A} {v : V} (h : RepA K fa μ H a v) : RepA K fa μ' H' a v := by
  cases a with
  | d x => exact RepD.mono g.ext x v h
  | obj n =>
    obtain ⟨b, e, h⟩ := h
    exact ⟨b, e, g.get h⟩
  | fn f => exact h

/-- the slots -/
structure EnvOk (K : Fr) (fa : Nat → Option Addr) (μ : List Addr) (H : Hp) (env : Env) (σ : L2.St) : Prop where
  len : σ.length = env.length
  at_ : ∀ (i : Nat) a, env[i]? = some (some a) → ∃ v, σ[i]? = some (some v) ∧ RepA K fa μ H a v
section
variable {K : Fr} {fa : Nat → Option Addr} {μ μ' : List Addr} {H H' : Hp} {env : Env} {σ : L2.St} {st : Store}
theorem EnvOk.mono (g : Go μ H μ' H') (h : EnvOk K fa μ H env σ) : EnvOk K fa μ' H' env σ :=
  ⟨h.len, fun i a e => let ⟨v, h1, h2⟩ := h.at_ i a e; ⟨v, h1, h2.mono g⟩⟩
theorem EnvOk.set (h : EnvOk K fa μ H env σ) {i : Nat} {a : A} {v : V} (r : RepA K fa μ H a v) : EnvOk K fa μ H (env.set i (some a)) (σ.set i (some v)) := by
  refine ⟨by simp [h.len], fun j b e => ?_⟩
  by_cases hj : i = j
  · subst hj
    by_cases hi : i < env.length
    · rw [List.getElem?_set_self hi] at e
      cases e
      exact ⟨v, List.getElem?_set_self (by rw [h.len]; exact hi), r⟩
    · rw [List.getElem?_eq_none (by simpa using hi)] at e; cases e
  · rw [List.getElem?_set_ne hj] at e
    rw [List.getElem?_set_ne hj]
    exact h.at_ j b e
theorem EnvOk.wipe1 (h : EnvOk K fa μ H env σ) (i : Nat) : EnvOk K fa μ H (env.set i none) (σ.set i none) := by
  refine ⟨by simp [h.len], fun j b e => ?_⟩
  by_cases hj : i = j
  · subst hj
    by_cases hi : i < env.length
    · rw [List.getElem?_set_self hi] at e; cases e
    · rw [List.getElem?_eq_none (by simpa using hi)] at e; cases e
  · rw [List.getElem?_set_ne hj] at e
    rw [List.getElem?_set_ne hj]
    exact h.at_ j b e
theorem StOk.mem {n : Nat} {a : Addr} (s : StOk K H μ st) (h : μ[n]? = some a) : ∃ m, st[n]? = some m ∧ RepM K H m a := by
  have hn := (List.getElem?_eq_some_iff.mp h).1
  have hs : n < st.length := by rw [← s.len]; exact hn
  exact ⟨st[n], List.getElem?_eq_getElem hs, s.at_ n a _ h (List.getElem?_eq_getElem hs)⟩
theorem StOk.addr {n : Nat} {m : MO} (s : StOk K H μ st) (h : st[n]? = some m) : ∃ a, μ[n]? = some a ∧ RepM K H m a := by
  have hn := (List.getElem?_eq_some_iff.mp h).1
  have hs : n < μ.length := by rw [s.len]; exact hn
  exact ⟨μ[n], List.getElem?_eq_getElem hs, s.at_ n _ _ (List.getElem?_eq_getElem hs) h⟩
/-- what of the store stands at an address: a list, or a list that stands for good -/
theorem StOk.what (s : StOk K H μ st) {a : Addr} (h : a ∈ μ) : (∃ xs, H a = some (.lst xs)) ∨ (∃ o xs, H a = some (.frz o (.lst xs))) := by
  obtain ⟨n, hn, e⟩ := List.getElem_of_mem h
  obtain ⟨m, _, r⟩ := s.mem (n := n) (a := a) (by rw [List.getElem?_eq_getElem hn, e])
  cases m with
  | ls l => obtain ⟨xs, h, _⟩ := r; exact .inl ⟨xs, h⟩
  | fz l => obtain ⟨o, xs, h, _⟩ := r; exact .inr ⟨o, xs, h⟩
theorem StOk.out (s : StOk K H μ st) {a : Addr} (h : H a = none) : a ∉ μ := fun hm => by
  rcases s.what hm with ⟨_, e⟩ | ⟨_, _, e⟩ <;> (rw [h] at e; cases e)
/-- a new thing at p, not of the store -/
theorem Go.new {p : Addr} {o : HO} (hp : H p = none) (hm : p ∉ μ) : Go μ H μ (upd H p o) := by
  refine ⟨⟨[], by simp, by simp⟩, ⟨fun a xs h => ?_, fun a o u h => ?_⟩, fun a o h _ => ?_, fun a o h => ⟨o, ?_⟩⟩
  all_goals (rw [upd_ne (ne_of_none h hp)]; exact h)
theorem StOk.new {p : Addr} {o : HO} (s : StOk K H μ st) (hp : H p = none) : StOk K (upd H p o) μ st := by
  refine ⟨s.len, s.nd, fun n a m h1 h2 => ?_⟩
  have g : Go [] H [] (upd H p o) := Go.new hp (by simp)
  cases m with
  | ls l =>
    obtain ⟨xs, e, r⟩ := s.at_ n a _ h1 h2
    exact ⟨xs, by rw [upd_ne (ne_of_none e hp)]; exact e, r.mono g.ext l xs⟩
  | fz l =>
    obtain ⟨o', xs, e, r⟩ := s.at_ n a _ h1 h2
    exact ⟨o', xs, g.ext.frz _ _ _ e, r.mono g.ext l xs⟩
end

/-! ### growing, forgetting -/
/-- everything tracked stands as it was -/
def Grow (H H' : Hp) : Prop := ∀ a o, H a = some o → H' a = some o
theorem Grow.refl (H : Hp) : Grow H H := fun _ _ h => h
theorem Grow.trans {H H1 H2 : Hp} (a : Grow H H1) (b : Grow H1 H2) : Grow H H2 := fun x o h => b x o (a x o h)
theorem Grow.new {H : Hp} {p : Addr} {o : HO} (hp : H p = none) : Grow H (upd H p o) := fun a u h => by
  rw [upd_ne (ne_of_none h hp)]; exact h
section
variable {K : Fr} {fa : Nat → Option Addr} {μ μ' : List Addr} {H H' : Hp} {env : Env} {σ : L2.St} {st st' : Store}
theorem Grow.ext (g : Grow H H') : Ext H H' := ⟨fun a _ h => g a _ h, fun a _ _ h => g a _ h⟩
theorem Grow.go (g : Grow H H') (μ : List Addr) : Go μ H μ H' := ⟨⟨[], by simp, by simp⟩, g.ext, fun a o h _ => g a o h, fun a o h => ⟨o, g a o h⟩⟩
theorem RepM.grow (g : Grow H H') {m : MO} {a : Addr} (h : RepM K H m a) : RepM K H' m a := by
  cases m with
  | ls l => obtain ⟨xs, e, r⟩ := h; exact ⟨xs, g _ _ e, r.mono g.ext l xs⟩
  | fz l => obtain ⟨o, xs, e, r⟩ := h; exact ⟨o, xs, g _ _ e, r.mono g.ext l xs⟩
theorem StOk.grow (s : StOk K H μ st) (g : Grow H H') : StOk K H' μ st := ⟨s.len, s.nd, fun n a m h1 h2 => (s.at_ n a m h1 h2).grow g⟩
/-- a new thing of the store -/
theorem Go.more {p : Addr} (g : Grow H H') (hp : H p = none) : Go μ H (μ ++ [p]) H' :=
  ⟨⟨[p], rfl, fun a ha => by rw [List.mem_singleton.mp ha]; exact hp⟩, g.ext, fun a o h _ => g a o h, fun a o h => ⟨o, g a o h⟩⟩
theorem StOk.more (s : StOk K H μ st) (g : Grow H H') {p : Addr} {m : MO} (hp : H p = none) (r : RepM K H' m p) : StOk K H' (μ ++ [p]) (st ++ [m]) := by
  refine ⟨by simp [s.len], List.nodup_append.mpr ⟨s.nd, by simp, fun a ha b hb => ?_⟩, fun n a m' h1 h2 => ?_⟩
  · rw [List.mem_singleton.mp hb]
    rintro rfl
    exact s.out hp ha
  · by_cases hn : n < μ.length
    · rw [List.getElem?_append_left hn] at h1
      rw [List.getElem?_append_left (by rw [← s.len]; exact hn)] at h2
      exact (s.at_ n a m' h1 h2).grow g
    · have e1 : n = μ.length := by
        have := (List.getElem?_eq_some_iff.mp h1).1
        simp at this; omega
      subst e1
      rw [List.getElem?_append_right (Nat.le_refl _), Nat.sub_self] at h1
      rw [s.len, List.getElem?_append_right (Nat.le_refl _), Nat.sub_self] at h2
      simp at h1 h2
      subst h1; subst h2
      exact r
theorem StOk.take (s : StOk K H μ st) (n : Nat) : StOk K H (μ.take n) (st.take n) := by
  refine ⟨by simp [s.len], s.nd.sublist (List.take_sublist _ _), fun i a m h1 h2 => ?_⟩
  rw [List.getElem?_take] at h1 h2
  split at h1
  · rename_i hi
    rw [if_pos hi] at h2
    exact s.at_ i a m h1 h2
  · cases h1
theorem Go.forget (g : Go μ H μ' H') : Go μ H μ H' := ⟨⟨[], by simp, by simp⟩, g.ext, g.keep, g.there⟩
theorem Go.takeEq (g : Go μ H μ' H') : μ'.take μ.length = μ := by
  obtain ⟨ν, e, _⟩ := g.pre
  subst e
  exact List.take_left
/-- what is new is forgotten, but the value -/
theorem settle_ok {a a' : A} {v : V} (g : Go μ H μ' H') (s : StOk K H' μ' st) (r : RepA K fa μ' H' a v) {st1 : Store} (h : settleV μ.length a st = .ok a' st1) :
    ∃ μ1, Go μ H μ1 H' ∧ StOk K H' μ1 st1 ∧ RepA K fa μ1 H' a' v := by
  have t := s.take μ.length
  rw [g.takeEq] at t
  unfold settleV at h
  cases a with
  | d x => cases h; exact ⟨μ, g.forget, t, r⟩
  | fn f => cases h; exact ⟨μ, g.forget, t, r⟩
  | obj n =>
    obtain ⟨p, ev, hp⟩ := r
    dsimp only at h
    by_cases hn : n < μ.length
    · rw [if_pos hn] at h
      cases h
      refine ⟨μ, g.forget, t, p, ev, ?_⟩
      obtain ⟨ν, e, _⟩ := g.pre
      subst e
      rw [List.getElem?_append_left hn] at hp
      exact hp
    · rw [if_neg hn] at h
      obtain ⟨m, hm, rm⟩ := s.mem hp
      rw [hm] at h
      cases h
      obtain ⟨ν, e, nw⟩ := g.pre
      subst e
      rw [List.getElem?_append_right (by omega)] at hp
      have hpν : p ∈ ν := List.mem_of_getElem? hp
      have hpμ : p ∉ μ := fun z => (List.nodup_append.mp s.nd).2.2 p z p hpν rfl
      refine ⟨μ ++ [p], ⟨⟨[p], rfl, fun b hb => by rw [List.mem_singleton.mp hb]; exact nw p hpν⟩, g.ext, g.keep, g.there⟩, ?_, p, ev, by rw [List.getElem?_append_right (Nat.le_refl _), Nat.sub_self]; rfl⟩
      refine ⟨by rw [List.length_append, List.length_append, ← t.len] <;> rfl, List.nodup_append.mpr ⟨t.nd, by simp, fun b hb c hc => ?_⟩, fun i b m' h1 h2 => ?_⟩
      · rw [List.mem_singleton.mp hc]
        rintro rfl
        exact hpμ hb
      · by_cases hi : i < μ.length
        · rw [List.getElem?_append_left hi] at h1
          rw [List.getElem?_append_left (by rw [← t.len]; exact hi)] at h2
          exact t.at_ i b m' h1 h2
        · have e1 : i = μ.length := by
            have := (List.getElem?_eq_some_iff.mp h1).1
            simp at this; omega
          subst e1
          rw [List.getElem?_append_right (Nat.le_refl _), Nat.sub_self] at h1
          have e2 : μ.length = (st.take μ.length).length := t.len
          rw [List.getElem?_append_right (by omega), show μ.length - (st.take μ.length).length = 0 by omega] at h2
          simp at h1 h2
          subst h1; subst h2
          exact rm
theorem settle_is {a : A} {v : V} (g : Go μ H μ' H') (s : StOk K H' μ' st) (r : RepA K fa μ' H' a v) : ∃ a' st1, settleV μ.length a st = .ok a' st1 := by
  unfold settleV
  cases a with
  | d x => exact ⟨_, _, rfl⟩
  | fn f => exact ⟨_, _, rfl⟩
  | obj n =>
    dsimp only
    split
    · exact ⟨_, _, rfl⟩
    · obtain ⟨p, _, hp⟩ := r
      obtain ⟨m, hm, _⟩ := s.mem hp
      rw [hm]
      exact ⟨_, _, rfl⟩
end

/-! ### the readings -/
/-- what the text's defs and error classes are -/
structure Gb where
  K : Fr
  fa : Nat → Option Addr
  xa : Nat → Option Addr
  xf : Nat → Str
def ExnOk (G : Gb) (H : Hp) (e : Exn) (cls : Value) (d : Option Addr) : Prop :=
  ∃ C, G.xa e.cls = some C ∧ cls = .ref C ∧
    match e.arg with
    | none => d = none
    | some x => ∃ dd v, d = some dd ∧ H dd = some (.xd [(G.xf e.cls, v)]) ∧ RepD G.K H x v
abbrev RP (α β : Type) := List Addr → Hp → α → β → Prop
/-- what an outcome wants of what follows -/
def Pst (G : Gb) (W : WX) (σ : L2.St) (μ : List Addr) (H : Hp) {α β : Type} (R : RP α β) (o : Out α) (Q : β → Hp → Prop) : Prop :=
  match o with
  | .ok a st => ∀ v H' μ', Go μ H μ' H' → StOk G.K H' μ' st → R μ' H' a v → Q v H'
  | .exn e st => ∀ cls d H' μ', Go μ H μ' H' → StOk G.K H' μ' st → ExnOk G H' e cls d → W cls d σ H'
  | .bad => False
section
variable {G : Gb} {W : WX} {σ : L2.St} {μ μ1 : List Addr} {H H1 : Hp} {α β γ δ : Type} {R : RP α β} {R2 : RP γ δ}
theorem Pst.mono {o : Out α} {Q Q' : β → Hp → Prop} (h : Pst G W σ μ H R o Q) (k : ∀ v H', Q v H' → Q' v H') : Pst G W σ μ H R o Q' := by
  cases o with
  | ok a st => exact fun v H' μ' g s r => k v H' (h v H' μ' g s r)
  | exn e st => exact h
  | bad => exact h
theorem Pst.go {o : Out α} {Q : β → Hp → Prop} (h : Pst G W σ μ H R o Q) (g0 : Go μ H μ1 H1) : Pst G W σ μ1 H1 R o Q := by
  cases o with
  | ok a st => exact fun v H' μ' g s r => h v H' μ' (g0.trans g) s r
  | exn e st => exact fun c d H' μ' g s r => h c d H' μ' (g0.trans g) s r
  | bad => exact h
theorem Pst.bind {o : Out α} {f : α → Store → Out γ} {Q : δ → Hp → Prop} (h : Pst G W σ μ H R2 (o.bind f) Q) :
    Pst G W σ μ H R o (fun v H1 => ∃ a μ1 st1, Go μ H μ1 H1 ∧ StOk G.K H1 μ1 st1 ∧ R μ1 H1 a v ∧ Pst G W σ μ1 H1 R2 (f a st1) Q) := by
  cases o with
  | ok a st => exact fun v H' μ' g s r => ⟨a, μ', st, g, s, r, Pst.go h g⟩
  | exn e st => exact h
  | bad => exact h
end
def RA (G : Gb) : RP A V := fun μ H a v => RepA G.K G.fa μ H a v
def RAs (G : Gb) : RP (List A) (List V) := fun μ H as vs => Paired (fun a v => RepA G.K G.fa μ H a v) as vs
def RB : RP Bool Bool := fun _ _ b c => c = b
theorem Pst.settled {G : Gb} {W : WX} {σ : L2.St} {μ : List Addr} {H : Hp} {o : Out A} {Q : V → Hp → Prop} {L : Nat} (hL : μ.length = L) (h : Pst G W σ μ H (RA G) (settle L o) Q) : Pst G W σ μ H (RA G) o Q := by
  subst hL
  cases o with
  | ok a st =>
    intro v H' μ' g s r
    obtain ⟨a', st1, e⟩ := settle_is g s r
    obtain ⟨μ1, g1, s1, r1⟩ := settle_ok g s r e
    have h' : Pst G W σ μ H (RA G) (settleV μ.length a st) Q := h
    rw [e] at h'
    exact h' v H' μ1 g1 s1 r1
  | exn e st =>
    intro c d H' μ' g s x
    have t := s.take μ.length
    rw [g.takeEq] at t
    exact h c d H' μ g.forget t x
  | bad => exact h

def rdE (G : Gb) (W : WX) (g : SemE) : TE := fun σ H Q => ∃ env μ st, EnvOk G.K G.fa μ H env σ ∧ StOk G.K H μ st ∧ Pst G W σ μ H (RA G) (g env st) Q
def rdT (G : Gb) (W : WX) (g : SemT) : TT := fun σ H Q => ∃ env μ st, EnvOk G.K G.fa μ H env σ ∧ StOk G.K H μ st ∧ Pst G W σ μ H RB (g env st) Q
def rdAs (G : Gb) (W : WX) (g : SemAs) : TA := fun σ H Q => ∃ env μ st, EnvOk G.K G.fa μ H env σ ∧ StOk G.K H μ st ∧ Pst G W σ μ H (RAs G) (g env st) Q
abbrev DE (G : Gb) (X : Cx) (W : WX) (e : Expr) (g : SemE) : Prop := PE X e (rdE G W g)
abbrev DT (G : Gb) (X : Cx) (W : WX) (e : Expr) (g : SemT) : Prop := PT X e (rdT G W g)
abbrev DW (G : Gb) (X : Cx) (W : WX) (e : Expr) (g : SemT) : Prop := PW X e (rdT G W g)
abbrev DAs (G : Gb) (X : Cx) (W : WX) (es : List Expr) (g : SemAs) : Prop := PA X es (rdAs G W g)
theorem PE.weak {X : Cx} {e : Expr} {t t' : TE} (h : PE X e t) (k : ∀ σ H Q, t' σ H Q → t σ H Q) : PE X e t' := ⟨fun pins s σ H Q I q => h.run pins s σ H Q I (k σ H Q q)⟩
theorem PT.weak {X : Cx} {e : Expr} {t t' : TT} (h : PT X e t) (k : ∀ σ H Q, t' σ H Q → t σ H Q) : PT X e t' := ⟨fun pins s σ H Q I q => h.run pins s σ H Q I (k σ H Q q)⟩
theorem PW.weak {X : Cx} {e : Expr} {t t' : TT} (h : PW X e t) (k : ∀ σ H Q, t' σ H Q → t σ H Q) : PW X e t' := ⟨fun w pins s σ H Q I q => h.run w pins s σ H Q I (k σ H Q q)⟩
theorem PA.weak {X : Cx} {es : List Expr} {t t' : TA} (h : PA X es t) (k : ∀ σ H Q, t' σ H Q → t σ H Q) : PA X es t' := ⟨fun p pins s σ H Q I q => h.run p pins s σ H Q I (k σ H Q q)⟩
end PD
end

section
set_option Elab.async false
set_option linter.all false
set_option maxRecDepth 100000
set_option maxHeartbeats 2000000
/-! PD2: the rules for expressions. -/
namespace PD
open PySem PySem.Spec PyProof.Rows L2

/-! ### freezing -/
theorem Inv.freeze {X : Cx} {pins : List (Addr × Obj)} {σ : L2.St} {H : Hp} {s : Shared} {a : Addr} {xs : List V} (I : Inv X pins σ H s) (ha : H a = some (.lst xs)) :
    ∃ o, Inv X pins σ (upd H a (.frz o (.lst xs))) s := by
  obtain ⟨hz, its, n, rv, ho⟩ := (show ObjOk X.prog X.w H s.heap a (.lst xs) from I.hok a _ ha)
  refine ⟨{ cls := .type "list", data := .seq its.toArray n }, ?_⟩
  have ne : ∀ b, H b = none → b ≠ a := fun b h z => by rw [z, ha] at h; cases h
  have hok : HOk X.prog X.w (upd H a (.frz { cls := .type "list", data := .seq its.toArray n } (.lst xs))) s.heap := fun b u e => by
    by_cases hb : b = a
    · subst hb
      rw [upd_same] at e; cases e
      exact ⟨ho, hz, its, n, rv, ho⟩
    · rw [upd_ne hb] at e
      refine (I.hok b u e).stay (fun c v _ q => q) (fun c q => ?_) fun c ys q => ?_
      · rw [upd_ne (fun z => by subst z; rw [ha] at q; cases q)]; exact q
      · rw [upd_ne (fun z => by subst z; rw [ha] at q; cases q)]; exact q
  have un : Un X.fs [] H (upd H a (.frz { cls := .type "list", data := .seq its.toArray n } (.lst xs))) s.heap s.heap := by
    refine ⟨fun b o e n _ _ => e, fun b o e n _ _ => ⟨o.slots, e⟩, fun b o e n _ => by rw [upd_ne (ne b n)]; exact n, fun b o e _ => ⟨o, e⟩, fun b ys e => ?_, fun b o u e => ?_, fun b ps e => ⟨#[], ?_⟩⟩
    · rw [upd_ne (fun z => by subst z; rw [ha] at e; cases e)]; exact e
    · rw [upd_ne (fun z => by subst z; rw [ha] at e; cases e)]; exact e
    · rw [upd_ne (fun z => by subst z; rw [ha] at e; cases e), e]; simp
  have J := I.un (t' := s.toks) un hok
  exact J
inductive FzG (k : Hp → Prop) : Hp → Prop
  | done {H : Hp} : k H → FzG k H
  | step {H : Hp} {a : Addr} {xs : List V} : H a = some (.lst xs) → (∀ o, FzG k (upd H a (.frz o (.lst xs)))) → FzG k H
theorem FzG.run {X : Cx} {pins : List (Addr × Obj)} {σ : L2.St} {s : Shared} {k : Hp → Prop} {H : Hp} (h : FzG k H) : Inv X pins σ H s → ∃ H', Inv X pins σ H' s ∧ k H' := by
  induction h with
  | done h => exact fun I => ⟨_, I, h⟩
  | step ha _ ih =>
    intro I
    obtain ⟨o, J⟩ := Inv.freeze I ha
    exact ih o J
theorem FzG.bind {k k' : Hp → Prop} {H : Hp} (h : FzG k H) (f : ∀ H', k H' → FzG k' H') : FzG k' H := by
  induction h with
  | done h => exact f _ h
  | step ha _ ih => exact .step ha ih
theorem FzG.mono {k k' : Hp → Prop} {H : Hp} (h : FzG k H) (f : ∀ H', k H' → k' H') : FzG k' H := h.bind fun H' q => .done (f H' q)
section
variable {G : Gb} {μ : List Addr} {H : Hp} {st st' : Store}
theorem freeze_goal {a : A} {v : V} {x : D} (s : StOk G.K H μ st) (r : RepA G.K G.fa μ H a v) (h : freeze a st = some (x, st')) :
    FzG (fun H' => StOk G.K H' μ st' ∧ RepD G.K H' x v ∧ Go μ H μ H') H := by
  unfold freeze at h
  cases a with
  | d y => cases h; exact .done ⟨s, r, Go.refl μ H⟩
  | fn f => cases h
  | obj n =>
    obtain ⟨p, ev, hp⟩ := r
    obtain ⟨m, hm, rm⟩ := s.mem hp
    dsimp only at h
    rw [hm] at h
    cases m with
    | fz l =>
      cases h
      obtain ⟨o, xs, e, r⟩ := rm
      exact .done ⟨s, ⟨p, xs, ev, ⟨o, e⟩, r⟩, Go.refl μ H⟩
    | ls l =>
      cases h
      obtain ⟨xs, e, r⟩ := rm
      refine .step e fun o => .done ?_
      have ext : Ext H (upd H p (.frz o (.lst xs))) := by
        refine ⟨fun b ys q => ?_, fun b o' u q => ?_⟩
        all_goals (rw [upd_ne (fun z => by subst z; rw [e] at q; cases q)]; exact q)
      refine ⟨?_, ⟨p, xs, ev, ⟨o, upd_same⟩, r.mono ext l xs⟩, ⟨⟨[], by simp, by simp⟩, ext, fun b u q hb => ?_, fun b u q => ?_⟩⟩
      · refine ⟨by rw [List.length_set]; exact s.len, s.nd, fun i b m' h1 h2 => ?_⟩
        by_cases hi : i = n
        · subst hi
          rw [hp] at h1; cases h1
          have hl : i < st.length := (List.getElem?_eq_some_iff.mp hm).1
          rw [List.getElem?_set_self hl] at h2; cases h2
          exact ⟨o, xs, upd_same, r.mono ext l xs⟩
        · rw [List.getElem?_set_ne (Ne.symm hi)] at h2
          have hne : b ≠ p := fun z => hi (by
            subst z
            have k1 := (List.getElem?_eq_some_iff.mp h1)
            have k2 := (List.getElem?_eq_some_iff.mp hp)
            exact (List.getElem_inj s.nd).mp (k1.2.trans k2.2.symm))
          have q := s.at_ i b m' h1 h2
          cases m' with
          | ls l' => obtain ⟨ys, e1, r1⟩ := q; exact ⟨ys, by rw [upd_ne hne]; exact e1, r1.mono ext l' ys⟩
          | fz l' => obtain ⟨o', ys, e1, r1⟩ := q; exact ⟨o', ys, by rw [upd_ne hne]; exact e1, r1.mono ext l' ys⟩
      · rw [upd_ne (fun z => hb (by rw [z]; exact List.mem_of_getElem? hp))]; exact q
      · by_cases hb : b = p
        · subst hb; exact ⟨_, upd_same⟩
        · exact ⟨u, by rw [upd_ne hb]; exact q⟩
theorem freezeAll_goal : ∀ {as : List A} {vs : List V} {ds : List D} {st st' : Store} {H : Hp}, StOk G.K H μ st → RAs G μ H as vs → freezeAll as st = some (ds, st') →
    FzG (fun H' => StOk G.K H' μ st' ∧ RepDs G.K H' ds vs ∧ Go μ H μ H') H
  | [], _, _, _, _, H, s, .nil, h => by cases h; exact .done ⟨s, rfl, Go.refl μ H⟩
  | a :: as, _, _, st, _, H, s, .cons (b := v) r t, h => by
    unfold freezeAll at h
    split at h
    · cases h
    · rename_i x st1 h1
      split at h
      · cases h
      · rename_i xs st2 h2
        cases h
        refine (freeze_goal s r h1).bind fun H1 ⟨s1, r1, g1⟩ => ?_
        refine (freezeAll_goal s1 (Paired.mapP t fun a v q => q.mono g1) h2).mono fun H' ⟨a1, a2, a3⟩ => ⟨a1, .cons (r1.mono a3.ext x v) a2, g1.trans a3⟩
end
/-- the arguments, then their lists are frozen -/
def tFzA (t : TA) : TA := fun σ H Q => t σ H fun vs H1 => FzG (Q vs) H1
theorem PA.fz {X : Cx} {es : List Expr} {t : TA} (h : PA X es t) : PA X es (tFzA t) := ⟨fun pos pins s σ H Q I q =>
  thn (h.run pos pins s σ H _ I q) fun us s1 ⟨vs, H1, I1, r1, q1⟩ => let ⟨H2, I2, q2⟩ := q1.run I1; ⟨vs, H2, I2, r1, q2⟩⟩
def tFzE (t : TE) : TE := fun σ H Q => t σ H fun v H1 => FzG (Q v) H1
theorem PE.fz {X : Cx} {e : Expr} {t : TE} (h : PE X e t) : PE X e (tFzE t) := ⟨fun pins s σ H Q I q =>
  thn (h.run pins s σ H _ I q) fun u s1 ⟨v, H1, I1, r1, q1⟩ => let ⟨H2, I2, q2⟩ := q1.run I1; ⟨v, H2, I2, r1, q2⟩⟩

/-! ### what is known of a value now -/
def RepN (K : Fr) (H : Hp) : D → V → Prop
  | .lst l, v => ∃ a xs, v = .ref a ∧ Rd H a (.lst xs) ∧ RepDs K H l xs
  | d, v => RepD K H d v
def RepNs (K : Fr) (H : Hp) : List D → List V → Prop := Paired (RepN K H)
theorem RepD.n {K : Fr} {H : Hp} {d : D} {v : V} (h : RepD K H d v) : RepN K H d v := by
  cases d with
  | lst l => obtain ⟨a, xs, e, f, r⟩ := h; exact ⟨a, xs, e, f.l, r⟩
  | _ => exact h
section
variable {G : Gb} {μ : List Addr} {H H' : Hp} {st st' : Store}
theorem now_rep {a : A} {v : V} {x : D} (s : StOk G.K H μ st) (r : RepA G.K G.fa μ H a v) (h : now a st = some x) : RepN G.K H x v := by
  unfold now at h
  cases a with
  | d y => cases h; exact RepD.n r
  | fn f => cases h
  | obj n =>
    obtain ⟨p, ev, hp⟩ := r
    obtain ⟨m, hm, rm⟩ := s.mem hp
    dsimp only at h
    rw [hm] at h
    cases m with
    | fz l => cases h; obtain ⟨o, xs, e, r⟩ := rm; exact ⟨p, xs, ev, .inr ⟨o, e⟩, r⟩
    | ls l => cases h; obtain ⟨xs, e, r⟩ := rm; exact ⟨p, xs, ev, .inl e, r⟩
theorem nowAll_rep : ∀ {as : List A} {vs : List V} {ds : List D}, StOk G.K H μ st → RAs G μ H as vs → nowAll as st = some ds → RepNs G.K H ds vs
  | [], _, _, _, .nil, h => by cases h; exact .nil
  | a :: as, _, _, s, .cons r t, h => by
    unfold nowAll at h
    split at h
    · rename_i x xs h1 h2
      cases h
      exact .cons (now_rep s r h1) (nowAll_rep s t h2)
    · cases h
end
/-- a built-in thing by values -/
def RepR (K : Fr) (H H' : Hp) : Res → V → Prop
  | .v d, v => RepD K H' d v
  | .l xs, v => ∃ a ys, v = .ref a ∧ H a = none ∧ H' a = some (.lst ys) ∧ RepDs K H' xs ys
def PrimV (K : Fr) (p : Prim) (vs : List V) (H : Hp) (Q : VK) : Prop := ∃ ds r, RepNs K H ds vs ∧ p ds = some r ∧ ∀ v H', Grow H H' → RepR K H H' r v → Q v H'
abbrev rP2 (K : Fr) (p : Prim) : R2 := fun x y H Q => PrimV K p [x, y] H Q
theorem PrimV.of {G : Gb} {W : WX} {σ : L2.St} {μ : List Addr} {H : Hp} {st : Store} {p : Prim} {xs : List A} {vs : List V} {Q : VK} (s : StOk G.K H μ st) (r : RAs G μ H xs vs) (h : Pst G W σ μ H (RA G) (opOn p xs st) Q) : PrimV G.K p vs H Q := by
  unfold opOn at h
  split at h
  · exact h.elim
  · rename_i ds h1
    split at h
    · exact h.elim
    · rename_i res h2
      refine ⟨ds, res, nowAll_rep s r h1, h2, fun v H' g rr => ?_⟩
      cases res with
      | v d => exact h v H' μ (g.go μ) (s.grow g) rr
      | l xs =>
        obtain ⟨a, ys, ev, hn, ha, rd⟩ := rr
        refine h v H' (μ ++ [a]) (Go.more g hn) (s.more g hn ⟨ys, ha, rd⟩) ⟨a, ev, ?_⟩
        rw [← s.len, List.getElem?_append_right (Nat.le_refl _), Nat.sub_self]; rfl

/-! ### names, constants -/
section
variable {G : Gb} {X : Cx} {W : WX}
theorem de_var {i : Nat} {x : Str} {pos : Pos} (hN : X.N[i]? = some x) (hv : Vis X.env.scope x) (hd : (x == ("__debug__" : Str)) = false) (hcd : (x == ("__classdict__" : Str)) = false) : DE G X W (.Name x pos) (gVar i) :=
  PE.weak (pe_var (i := i) hN hv hd hcd) fun σ H Q ⟨env, μ, st, he, hs, h⟩ => by
    unfold gVar at h
    split at h
    · rename_i a e
      obtain ⟨v, e1, r⟩ := he.at_ i a e
      exact ⟨v, e1, h v H μ (Go.refl μ H) hs r⟩
    · exact h.elim
theorem con_ok {d : D} {v : V} (hr : ∀ H, RepD G.K H d v) {σ : L2.St} {H : Hp} {Q : VK} (h : rdE G W (gCon d) σ H Q) : tC v σ H Q := by
  obtain ⟨env, μ, st, he, hs, h⟩ := h
  exact h v H μ (Go.refl μ H) hs (hr H)
theorem de_int {i : Int} {j pos} : DE G X W (.Constant (.int i) j pos) (gCon (.int i)) := PE.weak pe_int fun _ _ _ h => con_ok (d := .int i) (fun _ => (rfl : V.int i = V.int i)) h
theorem de_bl {b : Bool} {j pos} : DE G X W (.Constant (.bool b) j pos) (gCon (.bl b)) := PE.weak pe_bl fun _ _ _ h => con_ok (d := .bl b) (fun _ => (rfl : V.bl b = V.bl b)) h
theorem de_non {j pos} : DE G X W (.Constant .none j pos) (gCon .non) := PE.weak pe_non fun _ _ _ h => con_ok (d := .non) (fun _ => (rfl : V.non = V.non)) h
theorem de_str {x : Str} {j pos} (hx : goodS x.cps.toList = true) : DE G X W (.Constant (.str x) j pos) (gCon (.str x.cps.toList)) := PE.weak pe_str fun _ _ _ h => con_ok (d := .str x.cps.toList) (v := .str x) (fun _ => ⟨by show V.str x = V.str ⟨x.cps.toList.toArray⟩; simp, hx⟩) h
/-- a constant of the module -/
structure GlOk (G : Gb) (mg : Str → Option Value) (x : Str) (d : D) : Prop where
  ex : ∃ v u, mg x = some u ∧ RelV v u ∧ ∀ H, RepD G.K H d v
theorem de_glob {x : Str} {d : D} {pos : Pos} (hg : Gl X x) (c : GlOk G X.mg x d) (hd : (x == ("__debug__" : Str)) = false) : DE G X W (.Name x pos) (gCon d) := by
  obtain ⟨v, u, hm, r, hr⟩ := c.ex
  exact PE.weak (pe_glob hg hm r hd) fun _ _ _ h => con_ok hr h
theorem de_fn {x : Str} {f : Nat} {a : Addr} {pos : Pos} (hg : Gl X x) (hm : X.mg x = some (.ref a)) (hf : G.fa f = some a) (hd : (x == ("__debug__" : Str)) = false) : DE G X W (.Name x pos) (gFn f) :=
  PE.weak (pe_glob (v := .ref a) hg hm rfl hd) fun σ H Q ⟨env, μ, st, he, hs, h⟩ => h (.ref a) H μ (Go.refl μ H) hs ⟨a, rfl, hf⟩
/-! ### arguments -/
theorem das_nil : DAs G X W [] gNil := PA.weak pa_nil fun σ H Q ⟨env, μ, st, he, hs, h⟩ => h [] H μ (Go.refl μ H) hs .nil
theorem das_cons {e : Expr} {es : List Expr} {g : SemE} {gs : SemAs} (ha : DE G X W e g) (hr : DAs G X W es gs) (hs : starEach (e :: es) X.env = (false, eval e X.env) :: starEach es X.env) : DAs G X W (e :: es) (gCons g gs) := by
  refine PA.weak (pa_cons ha hr hs) fun σ H Q ⟨env, μ, st, he, hst, h⟩ => ?_
  refine ⟨env, μ, st, he, hst, (Pst.bind (R := RA G) h).mono fun v H1 ⟨a, μ1, st1, g1, s1, r1, p1⟩ => ?_⟩
  refine ⟨env, μ1, st1, he.mono g1, s1, (Pst.bind (R := RAs G) p1).mono fun vs H2 ⟨as, μ2, st2, g2, s2, r2, p2⟩ => ?_⟩
  exact p2 (v :: vs) H2 μ2 (Go.refl _ _) s2 (.cons (r1.mono g2) r2)
end
end PD
end

section
set_option Elab.async false
set_option linter.all false
set_option maxRecDepth 100000
set_option maxHeartbeats 4000000
/-! PD3: what built-in things make of data, held against the layer. -/
namespace PD
open PySem PySem.Spec PyProof.Rows L2

section
variable {K : Fr} {H : Hp}
theorem RepNs.two {ds : List D} {x y : V} (h : RepNs K H ds [x, y]) : ∃ a b, ds = [a, b] ∧ RepN K H a x ∧ RepN K H b y := by
  cases h with
  | cons r t =>
    cases t with
    | cons r2 t2 => cases t2; exact ⟨_, _, rfl, r, r2⟩
theorem RepNs.one {ds : List D} {x : V} (h : RepNs K H ds [x]) : ∃ a, ds = [a] ∧ RepN K H a x := by
  cases h with
  | cons r t => cases t; exact ⟨_, rfl, r⟩
theorem RepNs.of1 {a : D} {vs : List V} (h : RepNs K H [a] vs) : ∃ x, vs = [x] ∧ RepN K H a x := by
  cases h with
  | cons r t => cases t; exact ⟨_, rfl, r⟩
theorem RepNs.of2 {a b : D} {vs : List V} (h : RepNs K H [a, b] vs) : ∃ x y, vs = [x, y] ∧ RepN K H a x ∧ RepN K H b y := by
  cases h with
  | cons r t =>
    cases t with
    | cons r2 t2 => cases t2; exact ⟨_, _, rfl, r, r2⟩
end
theorem goodS_app {a b : List Nat} (h : goodS a = true) (k : goodS b = true) : goodS (a ++ b) = true := by
  unfold goodS at *
  rw [List.all_append, h, k]; rfl
theorem goodS_rep {a : List Nat} (h : goodS a = true) : ∀ n : Nat, goodS (List.replicate n a).flatten = true
  | 0 => rfl
  | n + 1 => by rw [List.replicate_succ, List.flatten_cons]; exact goodS_app h (goodS_rep h n)
theorem goodS_sub {a b : List Nat} (h : goodS a = true) (k : ∀ c ∈ b, c ∈ a) : goodS b = true := by
  unfold goodS at *
  rw [List.all_eq_true] at *
  exact fun c hc => h c (k c hc)
theorem lid : LID = sizeLine := by rw [sizeLine_eq]; rfl
theorem slen (a : List Nat) : Str.length ⟨a.toArray⟩ = a.length := by show a.toArray.size = _; simp
theorem sapp (a b : List Nat) : (⟨a.toArray⟩ : Str) ++ ⟨b.toArray⟩ = ⟨(a ++ b).toArray⟩ := by
  show (⟨a.toArray ++ b.toArray⟩ : Str) = _
  simp
theorem place_ix (i : Int) (n : Nat) : place i n = ixN n i := by
  unfold place ixN
  by_cases h : 0 ≤ i
  · rw [if_pos h, if_pos h]
  · rw [if_neg h, if_neg h]
    by_cases h2 : 0 ≤ i + n
    · rw [if_pos h2, if_pos (by omega)]
    · rw [if_neg h2, if_neg (by omega)]
theorem clip_lo (lo : Option Int) (n : Nat) : (match lo with | none => 0 | some i => clip i n) = HT.sIx n 0 lo := by
  cases lo with
  | none => rfl
  | some i =>
    show clip i n = (if i < 0 then (i + (n : Int)).toNat else min i.toNat n)
    unfold clip
    by_cases h : 0 ≤ i
    · rw [if_pos h, if_neg (by omega)]
    · rw [if_neg h, if_pos (by omega)]
theorem clip_hi (hi : Option Int) (n : Nat) : (match hi with | none => n | some i => clip i n) = HT.sIx n n hi := by
  cases hi with
  | none => rfl
  | some i => exact clip_lo (some i) n
theorem cutL_eq {α : Type} (l : List α) (lo hi : Option Int) : cutL l lo hi = (l.drop (HT.sIx l.length 0 lo)).take (HT.sIx l.length l.length hi - HT.sIx l.length 0 lo) := by
  unfold cutL
  have hl : ∀ i : Int, clip i l.length = HT.sIx l.length 0 (some i) := fun i => clip_lo (some i) l.length
  have hh : ∀ i : Int, clip i l.length = HT.sIx l.length l.length (some i) := fun i => clip_hi (some i) l.length
  cases lo with
  | none =>
    cases hi with
    | none => rfl
    | some j => dsimp only; rw [hh j]; rfl
  | some i =>
    cases hi with
    | none => dsimp only; rw [hl i]; rfl
    | some j => dsimp only; rw [← hl i, ← hh j]
theorem RepDs.cut {K : Fr} {H : Hp} {ds : List D} {vs : List V} (h : RepDs K H ds vs) (lo hi : Option Int) : RepDs K H (cutL ds lo hi) (cutV vs lo hi) := by
  rw [cutL_eq]
  unfold cutV
  rw [h.length]
  exact (h.drop _).take _
theorem smallI_of {i : Int} (h : smallI i = true) : -(2 ^ 64) < i ∧ i < 2 ^ 64 := by
  unfold smallI at h
  simp only [Bool.and_eq_true, decide_eq_true_eq] at h
  exact ⟨by have := h.1; omega, by have := h.2; omega⟩

theorem rd_isL {X : Cx} {pins : List (Addr × Obj)} {σ : L2.St} {H : Hp} {s : Shared} {a : Addr} {xs : List V} (I : Inv X pins σ H s) (h : Rd H a (.lst xs)) :
    ∃ (its : List Value) (n : Nat), Vals xs its ∧ xs.length = its.length ∧ xs.length ≤ sizeLine ∧ s.heap.get? a = some { cls := .type "list", data := .seq its.toArray n } := by
  obtain ⟨z, its, n, r, e⟩ := h.ok I.hok
  exact ⟨its, n, r, r.length, z, e⟩
section
variable {X : Cx}
/-! ### two-place operations -/
/-- a list and a list, wherever they stand -/
def rCatL : R2 := fun x y H Q => ∃ l b xs zs, x = .ref l ∧ y = .ref b ∧ Rd H l (.lst xs) ∧ Rd H b (.lst zs) ∧ xs.length + zs.length ≤ sizeLine ∧ ∀ p, H p = none → Q (.ref p) (upd H p (.lst (xs ++ zs)))
theorem op_catL : OpR X (binaryOp .Add) rCatL := by
  intro pins s σ H x y v u Q I rx ry h
  obtain ⟨l, b, xs, zs, rfl, rfl, hH, hB, hz, q⟩ := h
  cases rx
  cases ry
  obtain ⟨its, n, r, hl, z, e⟩ := rd_isL I hH
  obtain ⟨its2, n2, r2, hl2, z2, e2⟩ := rd_isL I hB
  refine PySem.P.add_list e e2 ?_ (by rw [List.size_toArray, List.size_toArray]; omega)
  have ea : its.toArray ++ its2.toArray = (its ++ its2).toArray := by simp
  rw [ea]
  exact ⟨.ref _, _, I.lnew (t' := s.toks) (r.append r2) (by rw [List.length_append]; omega), rfl, q _ I.fresh⟩
/-- a prim from its cases -/
theorem op_by {f : Value → Value → Sem Value} {p : Prim} {r : R2} (ho : OpR X f r) (k : ∀ a b res (x y : V) (H : Hp) (Q : VK), RepN X.K H a x → RepN X.K H b y → p [a, b] = some res → (∀ v H', Grow H H' → RepR X.K H H' res v → Q v H') → r x y H Q) : OpR X f (rP2 X.K p) := by
  intro pins s σ H x y v u Q I rx ry ⟨ds, res, hr, hp, q⟩
  obtain ⟨a, b, rfl, ra, rb⟩ := hr.two
  exact ho pins s σ H x y v u Q I rx ry (k a b res x y H Q ra rb hp q)
theorem op_pAdd : OpR X (binaryOp .Add) (rP2 X.K pAdd) := by
  refine op_by (op_add.or (op_add_str.or (op_catA.or op_catL))) fun a b res x y H Q ra rb hp q => ?_
  unfold pAdd at hp
  split at hp
  · rename_i i j e
    cases e; cases hp
    exact .inl ⟨i, j, ra, rb, q _ H (Grow.refl H) rfl⟩
  · rename_i s t e
    cases e
    split at hp
    · rename_i hz
      cases hp
      refine .inr (.inl ⟨_, _, ra.1, rb.1, ?_, ?_⟩)
      · rw [slen, slen, ← lid]; exact hz
      · exact q _ H (Grow.refl H) ⟨by rw [sapp], goodS_app ra.2 rb.2⟩
    · cases hp
  · rename_i s t e
    cases e
    split at hp
    · rename_i hz
      cases hp
      obtain ⟨c, xs, rfl, hs, hr⟩ := ra
      obtain ⟨c2, ys, rfl, hs2, hr2⟩ := rb
      refine .inr (.inr (.inl ⟨c, c2, xs, ys, rfl, rfl, hs, hs2, ?_, fun h0 => ?_, fun _ h0 => ?_, fun _ _ p hp => ?_⟩))
      · rw [hr.length, hr2.length, ← lid]; exact hz
      · subst h0
        have e0 : s = [] := List.length_eq_zero_iff.mp (by rw [← hr.length]; rfl)
        subst e0
        exact q _ H (Grow.refl H) ⟨c2, ys, rfl, hs2, hr2⟩
      · subst h0
        have e0 : t = [] := List.length_eq_zero_iff.mp (by rw [← hr2.length]; rfl)
        subst e0
        exact q _ H (Grow.refl H) ⟨c, xs, rfl, hs, by rw [List.append_nil]; exact hr⟩
      · exact q _ _ (Grow.new hp) ⟨p, xs ++ ys, rfl, SqT.of upd_same, (hr.append hr2).mono (Grow.new hp).ext _ _⟩
    · cases hp
  · rename_i s t e
    cases e
    split at hp
    · rename_i hz
      cases hp
      obtain ⟨c, xs, rfl, hs, hr⟩ := ra
      obtain ⟨c2, ys, rfl, hs2, hr2⟩ := rb
      refine .inr (.inr (.inr ⟨c, c2, xs, ys, rfl, rfl, hs, hs2, ?_, fun p hp => ?_⟩))
      · rw [hr.length, hr2.length, ← lid]; exact hz
      · exact q _ _ (Grow.new hp) ⟨p, xs ++ ys, rfl, hp, upd_same, (hr.append hr2).mono (Grow.new hp).ext _ _⟩
    · cases hp
  · cases hp
theorem op_pSub : OpR X (binaryOp .Sub) (rP2 X.K pSub) := by
  refine op_by op_sub fun a b res x y H Q ra rb hp q => ?_
  unfold pSub at hp
  split at hp
  · rename_i i j e
    cases e; cases hp
    exact ⟨i, j, ra, rb, q _ H (Grow.refl H) rfl⟩
  · cases hp
theorem op_pFdiv : OpR X (binaryOp .FloorDiv) (rP2 X.K pFdiv) := by
  refine op_by op_fdiv fun a b res x y H Q ra rb hp q => ?_
  unfold pFdiv at hp
  split at hp
  · rename_i i j e
    cases e
    split at hp
    · rename_i hz
      cases hp
      exact ⟨i, j, ra, rb, hz, q _ H (Grow.refl H) rfl⟩
    · cases hp
  · cases hp
theorem op_pMod : OpR X (binaryOp .Mod) (rP2 X.K pMod) := by
  refine op_by op_mod fun a b res x y H Q ra rb hp q => ?_
  unfold pMod at hp
  split at hp
  · rename_i i j e
    cases e
    split at hp
    · rename_i hz
      cases hp
      exact ⟨i, j, ra, rb, hz, q _ H (Grow.refl H) rfl⟩
    · cases hp
  · cases hp
theorem op_pPow : OpR X (binaryOp .Pow) (rP2 X.K pPow) := by
  refine op_by op_pow fun a b res x y H Q ra rb hp q => ?_
  unfold pPow at hp
  split at hp
  · rename_i i j e
    cases e
    split at hp
    · rename_i hz
      cases hp
      exact ⟨i, j, ra, rb, ⟨hz.1, by have := hz.2.1; omega, by have := hz.2.2; omega⟩, q _ H (Grow.refl H) rfl⟩
    · cases hp
  · cases hp
/-- a text times a number -/
def rMulS : R2 := fun x y H Q => ∃ (z : List Nat) (n : Int), x = .str ⟨z.toArray⟩ ∧ y = .int n ∧ z.length * n.toNat ≤ 1000000 ∧ z.length ≤ 1000000 ∧ -1000000 ≤ n ∧ n ≤ 1000000 ∧ Q (.str ⟨((List.replicate n.toNat z).flatten).toArray⟩) H
theorem fold_rep (z : List Nat) : ∀ (n : Nat) (acc : Array Nat), ((List.replicate n z.toArray).foldl (· ++ ·) acc) = acc ++ ((List.replicate n z).flatten).toArray
  | 0, acc => by simp
  | n + 1, acc => by
    rw [List.replicate_succ, List.foldl_cons, fold_rep z n, List.replicate_succ, List.flatten_cons]
    simp
theorem op_mulS : OpR X (binaryOp .Mult) rMulS := by
  intro pins s σ H x y v u Q I rx ry h
  obtain ⟨z, n, rfl, rfl, h1, h2, h3, h4, q⟩ := h
  obtain ⟨t, rfl⟩ := rx
  obtain ⟨t', rfl⟩ := ry
  have e : Txt.mul ⟨z.toArray⟩ n = ⟨((List.replicate n.toNat z).flatten).toArray⟩ := by
    unfold Txt.mul
    by_cases hn : n < 1
    · rw [if_pos hn, show n.toNat = 0 by omega]; rfl
    · rw [if_neg hn]
      split
      · rename_i hc
        rw [Bool.or_eq_true, beq_iff_eq, beq_iff_eq] at hc
        rcases hc with hc | hc
        · subst hc
          show _ = Str.mk ((List.replicate 1 z).flatten).toArray
          simp
        · rw [slen] at hc
          have z0 : z = [] := List.length_eq_zero_iff.mp hc
          subst z0
          simp
      · rw [fold_rep]; simp
  refine SB.mul ⟨?_, fun hn _ => ?_, fun hn _ => ?_⟩ fun t' k => ⟨.str _, H, I.tok k, ⟨t', ?_⟩, q⟩
  · simp only [Bool.or_eq_false_iff, decide_eq_false_iff_not]; constructor <;> omega
  · rw [slen]
    intro hc
    have h5 : ((z.length : Nat) : Int) * n ≤ 2 ^ 63 - 1 := by
      have e1 : n = ((n.toNat : Nat) : Int) := by omega
      rw [e1, ← Int.natCast_mul]
      omega
    have h6 := Int.le_ediv_of_mul_le (by omega) h5
    omega
  · rw [slen]
    exact decide_eq_false (by rw [sizeLine_eq]; omega)
  · rw [e]
theorem op_pMul : OpR X (binaryOp .Mult) (rP2 X.K pMul) := by
  refine op_by (op_mul.or op_mulS) fun a b res x y H Q ra rb hp q => ?_
  unfold pMul at hp
  split at hp
  · rename_i i j e
    cases e
    split at hp
    · rename_i hz
      cases hp
      rw [Bool.or_eq_true] at hz
      exact .inl ⟨i, j, ra, rb, hz.elim (fun z => .inl (smallI_of z)) (fun z => .inr (smallI_of z)), q _ H (Grow.refl H) rfl⟩
    · cases hp
  · rename_i z j e
    cases e
    split at hp
    · rename_i hz
      cases hp
      simp only [Bool.and_eq_true, decide_eq_true_eq] at hz
      exact .inr ⟨z, j, ra.1, rb, hz.1.1.1, hz.1.1.2, hz.1.2, hz.2, q _ H (Grow.refl H) ⟨rfl, goodS_rep ra.2 _⟩⟩
    · cases hp
  · cases hp
end
end PD
end

section
set_option Elab.async false
set_option linter.all false
set_option maxRecDepth 100000
set_option maxHeartbeats 4000000
/-! PD4: comparisons, calls of built-ins, subscripts. -/
namespace PD
open PySem PySem.Spec PyProof.Rows L2

/-! ### data as the library's data -/
mutual
def D.py : D → PyData
  | .non => .none
  | .bl b => .bool b
  | .int i => .int i
  | .str s => .str ⟨s.toArray⟩
  | .tup l => .tuple (D.pys l)
  | .lst l => .list (D.pys l)
def D.pys : List D → List PyData
  | [] => []
  | x :: xs => D.py x :: D.pys xs
end
theorem strOk_of {s : List Nat} (h : goodS s = true) : PySem.PyData.strOk ⟨s.toArray⟩ = true := by
  unfold PySem.PyData.strOk
  rw [← Array.all_toList]
  exact h
mutual
theorem RepD.can {K : Fr} {H : Hp} : ∀ (d : D) (v : V), RepD K H d v → d.py.canLay0 = true
  | .non, _, _ => rfl
  | .bl _, _, _ => rfl
  | .int _, _, _ => rfl
  | .str _, _, h => strOk_of h.2
  | .tup l, _, h => by
    obtain ⟨a, xs, rfl, hs, hr⟩ := h
    simp only [D.py, PyData.canLay0]; exact RepDs.can l xs hr
  | .lst l, _, h => by
    obtain ⟨a, xs, rfl, hs, hr⟩ := h
    simp only [D.py, PyData.canLay0]; exact RepDs.can l xs hr
theorem RepDs.can {K : Fr} {H : Hp} : ∀ (l : List D) (vs : List V), RepDs K H l vs → PyData.canLayAll0 (D.pys l) = true
  | [], _, _ => rfl
  | x :: xs, _, h => by
    obtain ⟨v, r, rfl, h1, h2⟩ := h
    simp only [D.pys, PyData.canLayAll0, RepD.can x v h1, RepDs.can xs r h2, Bool.and_self]
end
theorem RepN.can {K : Fr} {H : Hp} {d : D} {v : V} (h : RepN K H d v) : d.py.canLay0 = true := by
  cases d with
  | lst l =>
    obtain ⟨a, xs, rfl, hs, hr⟩ := h
    simp only [D.py, PyData.canLay0]; exact RepDs.can l xs hr
  | _ => exact RepD.can (K := K) (H := H) _ _ h
mutual
theorem D.py_depth : ∀ d : D, d.py.depth = d.deep
  | .non => rfl
  | .bl _ => rfl
  | .int _ => rfl
  | .str _ => rfl
  | .tup l => by simp only [D.py, PyData.depth, D.deep, D.pys_depth l]
  | .lst l => by simp only [D.py, PyData.depth, D.deep, D.pys_depth l]
theorem D.pys_depth : ∀ l : List D, PyData.depthAll (D.pys l) = D.deeps l
  | [] => rfl
  | x :: xs => by simp only [D.pys, PyData.depthAll, D.deeps, D.py_depth x, D.pys_depth xs]
end
theorem str_beq (a b : List Nat) : ((⟨a.toArray⟩ : Str) == ⟨b.toArray⟩) = (a == b) := by
  rw [Bool.eq_iff_iff, beq_iff_eq, beq_iff_eq]
  constructor
  · intro h; injection h with h; injection h
  · intro h; rw [h]
mutual
theorem D.py_eqv : ∀ a b : D, PyData.eqv a.py b.py = a.eqv b
  | .non, b => by cases b <;> rfl
  | .bl x, b => by cases b <;> rfl
  | .int i, b => by cases b <;> rfl
  | .str s, b => by
    cases b with
    | str t => exact str_beq s t
    | _ => rfl
  | .tup l, b => by
    cases b with
    | tup m => simp only [D.py, PyData.eqv, D.eqv]; exact D.pys_eqv l m
    | _ => rfl
  | .lst l, b => by
    cases b with
    | lst m => simp only [D.py, PyData.eqv, D.eqv]; exact D.pys_eqv l m
    | _ => rfl
theorem D.pys_eqv : ∀ a b : List D, PyData.eqvAll (D.pys a) (D.pys b) = D.eqvs a b
  | [], [] => rfl
  | [], _ :: _ => rfl
  | _ :: _, [] => rfl
  | x :: xs, y :: ys => by simp only [D.pys, PyData.eqvAll, D.eqvs, D.py_eqv x y, D.pys_eqv xs ys]
end
mutual
theorem RepD.dp {K : Fr} {H : Hp} : ∀ (d : D) (v : V), RepD K H d v → Dp K H v d.py
  | .non, _, h => by cases (show _ = V.non from h); exact .non
  | .bl b, _, h => by cases (show _ = V.bl b from h); exact .bl b
  | .int i, _, h => by cases (show _ = V.int i from h); exact .int i
  | .str s, _, h => by cases h.1; exact .str _
  | .tup l, _, h => by
    obtain ⟨a, xs, rfl, hs, hr⟩ := h
    exact .tup hs (RepDs.dp l xs hr)
  | .lst l, _, h => by
    obtain ⟨a, xs, rfl, hs, hr⟩ := h
    exact .lst (.inl hs.l) (RepDs.dp l xs hr)
theorem RepDs.dp {K : Fr} {H : Hp} : ∀ (l : List D) (vs : List V), RepDs K H l vs → DpAll K H vs (D.pys l)
  | [], _, h => by cases h; exact .nil
  | d :: ds, _, h => by
    obtain ⟨v, r, rfl, h1, h2⟩ := h
    exact .cons (RepD.dp d v h1) (RepDs.dp ds r h2)
end
theorem RepN.dp {K : Fr} {H : Hp} {d : D} {v : V} (h : RepN K H d v) : Dp K H v d.py := by
  cases d with
  | lst l =>
    obtain ⟨a, xs, rfl, hs, hr⟩ := h
    exact .lst (.inl hs) (RepDs.dp l xs hr)
  | _ => exact RepD.dp _ _ h
theorem shaped_of {K : Fr} {H : Hp} {d : D} {v : V} (r : RepN K H d v) (h : d.deep ≤ 60) : SeqAt.shaped d.py = true := by
  unfold SeqAt.shaped
  rw [r.can, D.py_depth]
  simp only [Bool.true_and, decide_eq_true_eq]
  omega
theorem okDeep_of {a b : D} (h : okDeep a b = true) : a.deep ≤ 60 ∧ b.deep ≤ 60 := by
  unfold okDeep at h
  simpa using h
theorem flat_deep {d : D} (h : flatD d = true) : d.deep ≤ 0 := by
  cases d <;> first | exact Nat.le_refl _ | exact nomatch h
theorem flats_deep : ∀ {l : List D}, l.all flatD = true → D.deeps l ≤ 0
  | [], _ => Nat.le_refl _
  | x :: xs, h => by
    rw [List.all_cons, Bool.and_eq_true] at h
    have h1 := flat_deep h.1
    have h2 := flats_deep h.2
    show max x.deep (D.deeps xs) ≤ 0
    omega
theorem any_py (x : D) : ∀ l : List D, (D.pys l).any (fun z => PyData.eqv z x.py) = isIn x l
  | [] => rfl
  | y :: ys => by
    show ((PyData.eqv y.py x.py) || (D.pys ys).any _) = (y.eqv x || ys.any _)
    rw [any_py x ys, D.py_eqv]
    rfl
section
variable {X : Cx}
theorem op_pEq (hu : X.A.units + 64 < cLine) : OpR X (compareOp .Eq) (rP2 X.K pEq) := by
  refine op_by (op_eqD hu) fun a b res x y H Q ra rb hp q => ?_
  have hp' : (if okDeep a b = true then some (Res.v (.bl (a.eqv b))) else none) = some res := hp
  split at hp'
  · rename_i hz
    cases hp'
    obtain ⟨h1, h2⟩ := okDeep_of hz
    exact ⟨_, _, ra.dp, rb.dp, shaped_of ra h1, shaped_of rb h2, by rw [D.py_eqv]; exact q _ H (Grow.refl H) rfl⟩
  · cases hp'
theorem op_pNe (hu : X.A.units + 64 < cLine) : OpR X (compareOp .NotEq) (rP2 X.K pNe) := by
  refine op_by (op_neD hu) fun a b res x y H Q ra rb hp q => ?_
  have hp' : (if okDeep a b = true then some (Res.v (.bl (!a.eqv b))) else none) = some res := hp
  split at hp'
  · rename_i hz
    cases hp'
    obtain ⟨h1, h2⟩ := okDeep_of hz
    exact ⟨_, _, ra.dp, rb.dp, shaped_of ra h1, shaped_of rb h2, by rw [D.py_eqv]; exact q _ H (Grow.refl H) rfl⟩
  · cases hp'
theorem op_pLt : OpR X (compareOp .Lt) (rP2 X.K pLt) := by
  refine op_by (op_lt.or op_lt_str) fun a b res x y H Q ra rb hp q => ?_
  unfold pLt at hp
  split at hp
  · rename_i i j e
    cases e; cases hp
    exact .inl ⟨i, j, ra, rb, q _ H (Grow.refl H) rfl⟩
  · rename_i i j e
    cases e; cases hp
    exact .inr ⟨_, _, ra.1, rb.1, q _ H (Grow.refl H) rfl⟩
  · cases hp
theorem op_pLe : OpR X (compareOp .LtE) (rP2 X.K pLe) := by
  refine op_by (op_le.or op_le_str) fun a b res x y H Q ra rb hp q => ?_
  unfold pLe at hp
  split at hp
  · rename_i i j e
    cases e; cases hp
    exact .inl ⟨i, j, ra, rb, q _ H (Grow.refl H) rfl⟩
  · rename_i i j e
    cases e; cases hp
    exact .inr ⟨_, _, ra.1, rb.1, q _ H (Grow.refl H) rfl⟩
  · cases hp
theorem op_pGt : OpR X (compareOp .Gt) (rP2 X.K pGt) := by
  refine op_by (op_gt.or op_gt_str) fun a b res x y H Q ra rb hp q => ?_
  unfold pGt at hp
  split at hp
  · rename_i i j e
    cases e; cases hp
    exact .inl ⟨i, j, ra, rb, q _ H (Grow.refl H) rfl⟩
  · rename_i i j e
    cases e; cases hp
    exact .inr ⟨_, _, ra.1, rb.1, q _ H (Grow.refl H) rfl⟩
  · cases hp
theorem op_pGe : OpR X (compareOp .GtE) (rP2 X.K pGe) := by
  refine op_by (op_ge.or op_ge_str) fun a b res x y H Q ra rb hp q => ?_
  unfold pGe at hp
  split at hp
  · rename_i i j e
    cases e; cases hp
    exact .inl ⟨i, j, ra, rb, q _ H (Grow.refl H) rfl⟩
  · rename_i i j e
    cases e; cases hp
    exact .inr ⟨_, _, ra.1, rb.1, q _ H (Grow.refl H) rfl⟩
  · cases hp
/-- x in a tuple of data -/
theorem flatV_of {K : Fr} {H : Hp} {d : D} {v : V} (f : flatD d = true) (h : RepD K H d v) : flatV v = true ∧ ∀ (e : D) (w : V), flatD e = true → RepD K H e w → eqV w v = e.eqv d := by
  have key : ∀ (e : D) (w : V), flatD e = true → RepD K H e w → (w = .non ∧ e = .non) ∨ (∃ b, w = .bl b ∧ e = .bl b) ∨ (∃ i, w = .int i ∧ e = .int i) ∨ (∃ s, w = .str ⟨s.toArray⟩ ∧ e = .str s) := fun e w fe r => by
    cases e with
    | non => exact .inl ⟨r, rfl⟩
    | bl b => exact .inr (.inl ⟨b, r, rfl⟩)
    | int i => exact .inr (.inr (.inl ⟨i, r, rfl⟩))
    | str s => exact .inr (.inr (.inr ⟨s, r.1, rfl⟩))
    | _ => exact nomatch fe
  refine ⟨?_, fun e w fe r => ?_⟩
  · rcases key d v f h with ⟨rfl, _⟩ | ⟨_, rfl, _⟩ | ⟨_, rfl, _⟩ | ⟨_, rfl, _⟩ <;> rfl
  · rcases key d v f h with ⟨rfl, rfl⟩ | ⟨_, rfl, rfl⟩ | ⟨_, rfl, rfl⟩ | ⟨_, rfl, rfl⟩ <;>
    rcases key e w fe r with ⟨rfl, rfl⟩ | ⟨_, rfl, rfl⟩ | ⟨_, rfl, rfl⟩ | ⟨_, rfl, rfl⟩ <;> first | rfl | exact str_beq _ _
theorem inV_of {K : Fr} {H : Hp} {d : D} {v : V} (f : flatD d = true) (h : RepD K H d v) : ∀ {l : List D} {vs : List V}, l.all flatD = true → RepDs K H l vs → inV v vs = isIn d l ∧ vs.all flatV = true
  | [], _, _, r => by cases r; exact ⟨rfl, rfl⟩
  | e :: es, _, fl, r => by
    obtain ⟨w, ws, rfl, r1, r2⟩ := r
    rw [List.all_cons, Bool.and_eq_true] at fl
    obtain ⟨i1, i2⟩ := inV_of f h fl.2 r2
    refine ⟨?_, by rw [List.all_cons, (flatV_of fl.1 r1).1, i2]; rfl⟩
    show (eqV w v || inV v ws) = (e.eqv d || isIn d es)
    rw [i1, (flatV_of f h).2 e w fl.1 r1]
theorem flat_repD {K : Fr} {H : Hp} {d : D} {v : V} (f : flatD d = true) (h : RepN K H d v) : RepD K H d v := by
  cases d <;> first | exact h | exact nomatch f
theorem op_pIn : OpR X (compareOp .In) (rP2 X.K pIn) := by
  refine op_by (op_in_sign.or op_in_seq) fun a b res x y H Q ra rb hp q => ?_
  unfold pIn at hp
  split at hp
  · rename_i c s e
    cases e; cases hp
    exact .inl ⟨c, _, ra.1, rb.1, q _ H (Grow.refl H) (by show V.bl _ = V.bl _; simp)⟩
  · rename_i x' l _ e
    cases e
    split at hp
    · rename_i hz
      cases hp
      rw [Bool.and_eq_true] at hz
      obtain ⟨c, xs, rfl, hs, hr⟩ := rb
      have r1 := flat_repD hz.1 ra
      obtain ⟨e1, e2⟩ := inV_of hz.1 r1 hz.2 hr
      exact .inr ⟨c, xs, rfl, .inr hs, (flatV_of hz.1 r1).1, e2, by rw [if_neg (by decide), e1]; exact q _ H (Grow.refl H) rfl⟩
    · cases hp
  · rename_i x' l _ e
    cases e
    split at hp
    · rename_i hz
      cases hp
      rw [Bool.and_eq_true] at hz
      obtain ⟨c, xs, rfl, hs, hr⟩ := rb
      have r1 := flat_repD hz.1 ra
      obtain ⟨e1, e2⟩ := inV_of hz.1 r1 hz.2 hr
      exact .inr ⟨c, xs, rfl, .inl (.inl hs), (flatV_of hz.1 r1).1, e2, by rw [if_neg (by decide), e1]; exact q _ H (Grow.refl H) rfl⟩
    · cases hp
  · cases hp
theorem op_pNotIn : OpR X (compareOp .NotIn) (rP2 X.K pNotIn) := by
  refine op_by (op_notIn_sign.or op_notIn_seq) fun a b res x y H Q ra rb hp q => ?_
  unfold pNotIn at hp
  split at hp
  · rename_i c s e
    cases e; cases hp
    exact .inl ⟨c, _, ra.1, rb.1, q _ H (Grow.refl H) (by show V.bl _ = V.bl _; simp)⟩
  · rename_i x' l _ e
    cases e
    split at hp
    · rename_i hz
      cases hp
      rw [Bool.and_eq_true] at hz
      obtain ⟨c, xs, rfl, hs, hr⟩ := rb
      have r1 := flat_repD hz.1 ra
      obtain ⟨e1, e2⟩ := inV_of hz.1 r1 hz.2 hr
      exact .inr ⟨c, xs, rfl, .inr hs, (flatV_of hz.1 r1).1, e2, by rw [if_pos rfl, e1]; exact q _ H (Grow.refl H) rfl⟩
    · cases hp
  · rename_i x' l _ e
    cases e
    split at hp
    · rename_i hz
      cases hp
      rw [Bool.and_eq_true] at hz
      obtain ⟨c, xs, rfl, hs, hr⟩ := rb
      have r1 := flat_repD hz.1 ra
      obtain ⟨e1, e2⟩ := inV_of hz.1 r1 hz.2 hr
      exact .inr ⟨c, xs, rfl, .inl (.inl hs), (flatV_of hz.1 r1).1, e2, by rw [if_pos rfl, e1]; exact q _ H (Grow.refl H) rfl⟩
    · cases hp
  · cases hp
theorem isNon_of {K : Fr} {H : Hp} {d : D} {v : V} (h : RepN K H d v) : decide (v = .non) = d.isNon := by
  cases d with
  | non => cases (show v = V.non from h); rfl
  | bl b => cases (show v = V.bl b from h); rfl
  | int b => cases (show v = V.int b from h); rfl
  | str b => cases (show v = V.str ⟨b.toArray⟩ from h.1); rfl
  | tup l => obtain ⟨a, xs, rfl, _⟩ := h; rfl
  | lst l => obtain ⟨a, xs, rfl, _⟩ := h; rfl
theorem op_pIs : OpR X (compareOp .Is) (rP2 X.K pIs) := by
  refine op_by (op_is_bl.or op_isN) fun a b res x y H Q ra rb hp q => ?_
  unfold pIs at hp
  split at hp
  · rename_i i j e
    cases e; cases hp
    exact .inl ⟨i, j, ra, rb, q _ H (Grow.refl H) (by show V.bl _ = V.bl _; rw [Bool.beq_eq_decide_eq])⟩
  · rename_i a' _ e
    cases e; cases hp
    exact .inr ⟨rb, q _ H (Grow.refl H) (by show V.bl _ = V.bl _; rw [isNon_of ra])⟩
  · cases hp
theorem op_pIsNot : OpR X (compareOp .IsNot) (rP2 X.K pIsNot) := by
  refine op_by (op_isnot_bl.or op_notN) fun a b res x y H Q ra rb hp q => ?_
  unfold pIsNot at hp
  split at hp
  · rename_i i j e
    cases e; cases hp
    exact .inl ⟨i, j, ra, rb, q _ H (Grow.refl H) (by show V.bl _ = V.bl _; rw [Bool.beq_eq_decide_eq])⟩
  · rename_i a' _ e
    cases e; cases hp
    exact .inr ⟨rb, q _ H (Grow.refl H) (by show V.bl _ = V.bl _; rw [isNon_of ra])⟩
  · cases hp
theorem un_pNeg : UnR X (unaryOp .USub) (fun x H Q => PrimV X.K pNeg [x] H Q) := by
  intro pins s σ H x v Q I rx ⟨ds, res, hr, hp, q⟩
  obtain ⟨a, rfl, ra⟩ := hr.one
  unfold pNeg at hp
  split at hp
  · rename_i i e
    cases e; cases hp
    exact un_neg pins s σ H x v Q I rx ⟨i, ra, q _ H (Grow.refl H) rfl⟩
  · cases hp
end
end PD
end

section
set_option Elab.async false
set_option linter.all false
set_option maxRecDepth 100000
set_option maxHeartbeats 4000000
/-! PD5: calls of built-ins, subscripts, slices. -/
namespace PD
open PySem PySem.Spec PyProof.Rows L2

section
variable {X : Cx}
/-- a call from its cases: one argument -/
theorem cr_by1 {f : Value} {p : Prim} {r : List V → Hp → VK → Prop} (hc : CallR X f r) (k : ∀ a res (x : V) (H : Hp) (Q : VK), RepN X.K H a x → p [a] = some res → (∀ v H', Grow H H' → RepR X.K H H' res v → Q v H') → r [x] H Q)
    (h1 : ∀ ds res, p ds = some res → ds.length = 1) : CallR X f (PrimV X.K p) := by
  intro pins s σ H xs us Q I r ⟨ds, res, hr, hp, q⟩
  have hl := h1 ds res hp
  match ds, hl with
  | [a], _ =>
    obtain ⟨x, rfl, ra⟩ := RepNs.of1 hr
    exact hc pins s σ H [x] us Q I r (k a res x H Q ra hp q)
theorem cr_by2 {f : Value} {p : Prim} {r : List V → Hp → VK → Prop} (hc : CallR X f r) (k : ∀ a b res (x y : V) (H : Hp) (Q : VK), RepN X.K H a x → RepN X.K H b y → p [a, b] = some res → (∀ v H', Grow H H' → RepR X.K H H' res v → Q v H') → r [x, y] H Q)
    (h1 : ∀ ds res, p ds = some res → ds.length = 2) : CallR X f (PrimV X.K p) := by
  intro pins s σ H xs us Q I r ⟨ds, res, hr, hp, q⟩
  have hl := h1 ds res hp
  match ds, hl with
  | [a, b], _ =>
    obtain ⟨x, y, rfl, ra, rb⟩ := RepNs.of2 hr
    exact hc pins s σ H [x, y] us Q I r (k a b res x y H Q ra rb hp q)
theorem bools_rep {K : Fr} {H : Hp} : ∀ {l : List D} {bs : List Bool} {vs : List V}, boolsOf l = some bs → RepDs K H l vs → vs = bs.map V.bl
  | [], _, _, h, r => by cases h; cases r; rfl
  | .bl b :: l, _, _, h, r => by
    obtain ⟨v, ws, rfl, r1, r2⟩ := r
    unfold boolsOf at h
    obtain ⟨bs, e, rfl⟩ := Option.map_eq_some_iff.mp h
    rw [bools_rep e r2, (show v = V.bl b from r1)]; rfl
  | .non :: _, _, _, h, _ => nomatch h
  | .int _ :: _, _, _, h, _ => nomatch h
  | .str _ :: _, _, _, h, _ => nomatch h
  | .tup _ :: _, _, _, h, _ => nomatch h
  | .lst _ :: _, _, _, h, _ => nomatch h
theorem ints_rep {K : Fr} {H : Hp} : ∀ {l : List D} {bs : List Int} {vs : List V}, intsOf l = some bs → RepDs K H l vs → vs = bs.map V.int
  | [], _, _, h, r => by cases h; cases r; rfl
  | .int b :: l, _, _, h, r => by
    obtain ⟨v, ws, rfl, r1, r2⟩ := r
    unfold intsOf at h
    obtain ⟨bs, e, rfl⟩ := Option.map_eq_some_iff.mp h
    rw [ints_rep e r2, (show v = V.int b from r1)]; rfl
  | .non :: _, _, _, h, _ => nomatch h
  | .bl _ :: _, _, _, h, _ => nomatch h
  | .str _ :: _, _, _, h, _ => nomatch h
  | .tup _ :: _, _, _, h, _ => nomatch h
  | .lst _ :: _, _, _, h, _ => nomatch h
def mkS (s : List Nat) : Str := ⟨s.toArray⟩
theorem texts_rep {K : Fr} {H : Hp} : ∀ {l : List D} {bs : List (List Nat)} {vs : List V}, textsOf l = some bs → RepDs K H l vs → vs = (bs.map mkS).map V.str ∧ ∀ b ∈ bs, goodS b = true
  | [], _, _, h, r => by cases h; cases r; exact ⟨rfl, fun _ z => nomatch z⟩
  | .str b :: l, _, _, h, r => by
    obtain ⟨v, ws, rfl, r1, r2⟩ := r
    unfold textsOf at h
    obtain ⟨bs, e, rfl⟩ := Option.map_eq_some_iff.mp h
    obtain ⟨e1, e2⟩ := texts_rep e r2
    refine ⟨by rw [e1, r1.1]; rfl, fun c hc => ?_⟩
    rcases List.mem_cons.mp hc with rfl | hc
    · exact r1.2
    · exact e2 c hc
  | .non :: _, _, _, h, _ => nomatch h
  | .bl _ :: _, _, _, h, _ => nomatch h
  | .int _ :: _, _, _, h, _ => nomatch h
  | .tup _ :: _, _, _, h, _ => nomatch h
  | .lst _ :: _, _, _, h, _ => nomatch h

theorem c_len : CallR X (.builtin "len") (PrimV X.K pLen) := by
  refine cr_by1 call_len (fun a res x H Q ra hp q => ?_) fun ds res h => ?_
  · unfold pLen at hp
    split at hp
    · rename_i z e
      cases e
      split at hp
      · rename_i hz
        cases hp
        rw [ra.1]
        refine ⟨_, z.length, rfl, ⟨by rw [slen, ← lid]; exact hz, by rw [slen]⟩, q _ H (Grow.refl H) rfl⟩
      · cases hp
    · rename_i l e
      cases e; cases hp
      obtain ⟨c, xs, rfl, hs, hr⟩ := ra
      exact ⟨_, l.length, rfl, .inr ⟨xs, hs, hr.length.symm⟩, q _ H (Grow.refl H) rfl⟩
    · rename_i l e
      cases e; cases hp
      obtain ⟨c, xs, rfl, hs, hr⟩ := ra
      exact ⟨_, l.length, rfl, .inl ⟨xs, .inl hs, hr.length.symm⟩, q _ H (Grow.refl H) rfl⟩
    · cases hp
  · unfold pLen at h
    split at h <;> first | rfl | cases h
theorem c_all (hc : X.calm = true) : CallR X (.builtin "all") (PrimV X.K pAll) := by
  refine cr_by1 (cr_all hc) (fun a res x H Q ra hp q => ?_) fun ds res h => ?_
  · unfold pAll at hp
    split at hp
    · rename_i l e
      cases e
      obtain ⟨bs, e, rfl⟩ := Option.map_eq_some_iff.mp hp
      obtain ⟨c, xs, rfl, hs, hr⟩ := ra
      have e1 := bools_rep e hr
      subst e1
      exact ⟨c, bs, rfl, .inl hs, q _ H (Grow.refl H) rfl⟩
    · cases hp
  · unfold pAll at h
    split at h <;> first | rfl | cases h
theorem c_any (hc : X.calm = true) : CallR X (.builtin "any") (PrimV X.K pAny) := by
  refine cr_by1 (cr_any hc) (fun a res x H Q ra hp q => ?_) fun ds res h => ?_
  · unfold pAny at hp
    split at hp
    · rename_i l e
      cases e
      obtain ⟨bs, e, rfl⟩ := Option.map_eq_some_iff.mp hp
      obtain ⟨c, xs, rfl, hs, hr⟩ := ra
      have e1 := bools_rep e hr
      subst e1
      exact ⟨c, bs, rfl, .inl hs, q _ H (Grow.refl H) rfl⟩
    · cases hp
  · unfold pAny at h
    split at h <;> first | rfl | cases h
theorem c_sum (hc : X.calm = true) : CallR X (.builtin "sum") (PrimV X.K pSum) := by
  refine cr_by1 (cr_sum hc) (fun a res x H Q ra hp q => ?_) fun ds res h => ?_
  · unfold pSum at hp
    split at hp
    · rename_i l e
      cases e
      obtain ⟨bs, e, rfl⟩ := Option.map_eq_some_iff.mp hp
      obtain ⟨c, xs, rfl, hs, hr⟩ := ra
      have e1 := ints_rep e hr
      subst e1
      exact ⟨c, bs, rfl, .inl hs, q _ H (Grow.refl H) rfl⟩
    · cases hp
  · unfold pSum at h
    split at h <;> first | rfl | cases h
theorem maxL_mem : ∀ (r : List Int) (m : Int), maxL m r ∈ m :: r ∧ ∀ y ∈ m :: r, y ≤ maxL m r
  | [], m => ⟨by simp [maxL], fun y hy => by simp at hy; subst hy; exact Int.le_refl _⟩
  | x :: r, m => by
    obtain ⟨h1, h2⟩ := maxL_mem r (if x > m then x else m)
    refine ⟨?_, fun y hy => ?_⟩
    · show maxL (if x > m then x else m) r ∈ _
      rcases List.mem_cons.mp h1 with e | e
      · rw [e]
        by_cases hx : x > m
        · rw [if_pos hx]; simp
        · rw [if_neg hx]; simp
      · exact List.mem_cons_of_mem _ (List.mem_cons_of_mem _ e)
    · show y ≤ maxL (if x > m then x else m) r
      have h0 := h2 _ List.mem_cons_self
      rcases List.mem_cons.mp hy with e | hy
      · subst e
        by_cases hx : x > y
        · rw [if_pos hx] at h0 ⊢; omega
        · rw [if_neg hx] at h0 ⊢; omega
      · rcases List.mem_cons.mp hy with e | hy
        · subst e
          by_cases hx : y > m
          · rw [if_pos hx] at h0 ⊢; omega
          · rw [if_neg hx] at h0 ⊢; omega
        · exact h2 y (List.mem_cons_of_mem _ hy)
theorem minL_mem : ∀ (r : List Int) (m : Int), minL m r ∈ m :: r ∧ ∀ y ∈ m :: r, minL m r ≤ y
  | [], m => ⟨by simp [minL], fun y hy => by simp at hy; subst hy; exact Int.le_refl _⟩
  | x :: r, m => by
    obtain ⟨h1, h2⟩ := minL_mem r (if x < m then x else m)
    refine ⟨?_, fun y hy => ?_⟩
    · show minL (if x < m then x else m) r ∈ _
      rcases List.mem_cons.mp h1 with e | e
      · rw [e]
        by_cases hx : x < m
        · rw [if_pos hx]; simp
        · rw [if_neg hx]; simp
      · exact List.mem_cons_of_mem _ (List.mem_cons_of_mem _ e)
    · show minL (if x < m then x else m) r ≤ y
      have h0 := h2 _ List.mem_cons_self
      rcases List.mem_cons.mp hy with e | hy
      · subst e
        by_cases hx : x < y
        · rw [if_pos hx] at h0 ⊢; omega
        · rw [if_neg hx] at h0 ⊢; omega
      · rcases List.mem_cons.mp hy with e | hy
        · subst e
          by_cases hx : y < m
          · rw [if_pos hx] at h0 ⊢; omega
          · rw [if_neg hx] at h0 ⊢; omega
        · exact h2 y (List.mem_cons_of_mem _ hy)
theorem c_maxL (hc : X.calm = true) : CallR X (.builtin "max") (PrimV X.K pMaxL) := by
  refine cr_by1 (cr_max hc) (fun a res x H Q ra hp q => ?_) fun ds res h => ?_
  · unfold pMaxL at hp
    split at hp
    · rename_i l e
      cases e
      split at hp
      · rename_i m r e
        cases hp
        obtain ⟨c, xs, rfl, hs, hr⟩ := ra
        have e1 := ints_rep e hr
        subst e1
        refine ⟨c, m :: r, rfl, .inl hs, by simp, fun z hz hle => ?_⟩
        obtain ⟨m1, m2⟩ := maxL_mem r m
        have ez : z = maxL m r := Int.le_antisymm (m2 z hz) (hle _ m1)
        rw [ez]
        exact q _ H (Grow.refl H) rfl
      · cases hp
    · cases hp
  · unfold pMaxL at h
    split at h <;> first | rfl | cases h
theorem c_minL (hc : X.calm = true) : CallR X (.builtin "min") (PrimV X.K pMinL) := by
  refine cr_by1 (cr_min hc) (fun a res x H Q ra hp q => ?_) fun ds res h => ?_
  · unfold pMinL at hp
    split at hp
    · rename_i l e
      cases e
      split at hp
      · rename_i m r e
        cases hp
        obtain ⟨c, xs, rfl, hs, hr⟩ := ra
        have e1 := ints_rep e hr
        subst e1
        refine ⟨c, m :: r, rfl, .inl hs, by simp, fun z hz hle => ?_⟩
        obtain ⟨m1, m2⟩ := minL_mem r m
        have ez : z = minL m r := Int.le_antisymm (hle _ m1) (m2 z hz)
        rw [ez]
        exact q _ H (Grow.refl H) rfl
      · cases hp
    · cases hp
  · unfold pMinL at h
    split at h <;> first | rfl | cases h
theorem c_max2 (hc : X.calm = true) : CallR X (.builtin "max") (PrimV X.K pMax2) := by
  refine cr_by2 (call_max2 hc) (fun a b res x y H Q ra rb hp q => ?_) fun ds res h => ?_
  · unfold pMax2 at hp
    split at hp
    · rename_i i j e
      cases e; cases hp
      rw [(show x = V.int i from ra), (show y = V.int j from rb)]
      exact ⟨i, j, rfl, q _ H (Grow.refl H) rfl⟩
    · cases hp
  · unfold pMax2 at h
    split at h <;> first | rfl | cases h
theorem c_min2 (hc : X.calm = true) : CallR X (.builtin "min") (PrimV X.K pMin2) := by
  refine cr_by2 (call_min2 hc) (fun a b res x y H Q ra rb hp q => ?_) fun ds res h => ?_
  · unfold pMin2 at hp
    split at hp
    · rename_i i j e
      cases e; cases hp
      rw [(show x = V.int i from ra), (show y = V.int j from rb)]
      exact ⟨i, j, rfl, q _ H (Grow.refl H) rfl⟩
    · cases hp
  · unfold pMin2 at h
    split at h <;> first | rfl | cases h
theorem c_tuple : CallR X (.type "tuple") (PrimV X.K pTuple) := by
  refine cr_by1 call_tuple_of (fun a res x H Q ra hp q => ?_) fun ds res h => ?_
  · unfold pTuple at hp
    split at hp
    · rename_i l e
      cases e; cases hp
      obtain ⟨c, xs, rfl, hs, hr⟩ := ra
      exact ⟨c, xs, rfl, .inl ⟨.inl hs, fun p hp => q _ _ (Grow.new hp) ⟨p, xs, rfl, SqT.of upd_same, hr.mono (Grow.new hp).ext _ _⟩⟩⟩
    · rename_i l e
      cases e; cases hp
      obtain ⟨c, xs, rfl, hs, hr⟩ := ra
      exact ⟨c, xs, rfl, .inr ⟨hs, q _ H (Grow.refl H) ⟨c, xs, rfl, hs, hr⟩⟩⟩
    · cases hp
  · unfold pTuple at h
    split at h <;> first | rfl | cases h
theorem c_list : CallR X (.type "list") (PrimV X.K pList) := by
  refine cr_by1 call_list_of (fun a res x H Q ra hp q => ?_) fun ds res h => ?_
  · unfold pList at hp
    split at hp
    · rename_i l e
      cases e; cases hp
      obtain ⟨c, xs, rfl, hs, hr⟩ := ra
      exact ⟨c, xs, rfl, .inl (.inl hs), fun p hp => q _ _ (Grow.new hp) ⟨p, xs, rfl, hp, upd_same, hr.mono (Grow.new hp).ext _ _⟩⟩
    · rename_i l e
      cases e; cases hp
      obtain ⟨c, xs, rfl, hs, hr⟩ := ra
      exact ⟨c, xs, rfl, .inr hs, fun p hp => q _ _ (Grow.new hp) ⟨p, xs, rfl, hp, upd_same, hr.mono (Grow.new hp).ext _ _⟩⟩
    · cases hp
  · unfold pList at h
    split at h <;> first | rfl | cases h
theorem c_int : CallR X (.type "int") (PrimV X.K pInt) := by
  refine cr_by1 call_int1 (fun a res x H Q ra hp q => ?_) fun ds res h => ?_
  · unfold pInt at hp
    split at hp
    · rename_i i e
      cases e; cases hp
      rw [(show x = V.int i from ra)]
      exact .inl ⟨i, rfl, q _ H (Grow.refl H) rfl⟩
    · rename_i b e
      cases e; cases hp
      rw [(show x = V.bl b from ra)]
      exact .inr ⟨b, rfl, q _ H (Grow.refl H) rfl⟩
    · cases hp
  · unfold pInt at h
    split at h <;> first | rfl | cases h
/-! ### isinstance -/
def Ty.nm : Ty → String
  | .int => "int" | .str => "str" | .bool => "bool" | .tuple => "tuple" | .list => "list"
def D.tyNm : D → String
  | .non => "NoneType" | .bl _ => "bool" | .int _ => "int" | .str _ => "str" | .tup _ => "tuple" | .lst _ => "list"
theorem kit_tab : ∀ (a : D) (t : Ty), kitB a.tyNm t.nm = some (a.isTy t)
  | .non, .int => by decide +kernel
  | .non, .str => by decide +kernel
  | .non, .bool => by decide +kernel
  | .non, .tuple => by decide +kernel
  | .non, .list => by decide +kernel
  | .bl _, .int => by show kitB "bool" "int" = some true; decide +kernel
  | .bl _, .str => by show kitB "bool" "str" = some false; decide +kernel
  | .bl _, .bool => by show kitB "bool" "bool" = some true; decide +kernel
  | .bl _, .tuple => by show kitB "bool" "tuple" = some false; decide +kernel
  | .bl _, .list => by show kitB "bool" "list" = some false; decide +kernel
  | .int _, .int => by show kitB "int" "int" = some true; decide +kernel
  | .int _, .str => by show kitB "int" "str" = some false; decide +kernel
  | .int _, .bool => by show kitB "int" "bool" = some false; decide +kernel
  | .int _, .tuple => by show kitB "int" "tuple" = some false; decide +kernel
  | .int _, .list => by show kitB "int" "list" = some false; decide +kernel
  | .str _, .int => by show kitB "str" "int" = some false; decide +kernel
  | .str _, .str => by show kitB "str" "str" = some true; decide +kernel
  | .str _, .bool => by show kitB "str" "bool" = some false; decide +kernel
  | .str _, .tuple => by show kitB "str" "tuple" = some false; decide +kernel
  | .str _, .list => by show kitB "str" "list" = some false; decide +kernel
  | .tup _, .int => by show kitB "tuple" "int" = some false; decide +kernel
  | .tup _, .str => by show kitB "tuple" "str" = some false; decide +kernel
  | .tup _, .bool => by show kitB "tuple" "bool" = some false; decide +kernel
  | .tup _, .tuple => by show kitB "tuple" "tuple" = some true; decide +kernel
  | .tup _, .list => by show kitB "tuple" "list" = some false; decide +kernel
  | .lst _, .int => by show kitB "list" "int" = some false; decide +kernel
  | .lst _, .str => by show kitB "list" "str" = some false; decide +kernel
  | .lst _, .bool => by show kitB "list" "bool" = some false; decide +kernel
  | .lst _, .tuple => by show kitB "list" "tuple" = some false; decide +kernel
  | .lst _, .list => by show kitB "list" "list" = some true; decide +kernel
theorem tyx_of {K : Fr} {H : Hp} {d : D} {v : V} (h : RepN K H d v) : TyX K H v (.type d.tyNm) := by
  cases d with
  | non => cases (show v = V.non from h); exact .base .non
  | bl b => cases (show v = V.bl b from h); exact .base (.bl b)
  | int b => cases (show v = V.int b from h); exact .base (.int b)
  | str b => cases (show v = V.str ⟨b.toArray⟩ from h.1); exact .base (.str _)
  | tup l =>
    obtain ⟨a, xs, rfl, (hs | ⟨o, hs⟩) | ⟨o, its, n, hk, hc, _⟩, _⟩ := h
    · exact .base (.tup hs)
    · exact .fTuple hs
    · exact .kTuple hk hc
  | lst l =>
    obtain ⟨a, xs, rfl, hs | ⟨o, hs⟩, _⟩ := h
    · exact .base (.lst hs)
    · exact .base (.frz hs)
theorem isi_ok {t : Ty} {H : Hp} {Q : VK} {v : V} (h : PrimV X.K (pIsi t) [v] H Q) : rIsi X.K [v, .ty t.nm] H Q := by
  obtain ⟨ds, res, hr, hp, q⟩ := h
  obtain ⟨a, rfl, ra⟩ := hr.one
  cases hp
  exact ⟨v, .ty t.nm, .type a.tyNm, .type t.nm, a.isTy t, rfl, .ty _, tyx_of ra, kit_ty (kit_tab a t), q _ H (Grow.refl H) rfl⟩
end
end PD
end

section
set_option Elab.async false
set_option linter.all false
set_option maxRecDepth 100000
set_option maxHeartbeats 4000000
/-! PD6: the rules for expressions, as the text has them. -/
namespace PD
open PySem PySem.Spec PyProof.Rows L2

section
variable {X : Cx}
theorem ix_pIx : IxR X (rP2 X.K pIx) := by
  intro value slice pins s σ H x y v u Q I rx ry ⟨ds, res, hr, hp, q⟩ hs
  obtain ⟨a, b, rfl, ra, rb⟩ := hr.two
  unfold pIx at hp
  split at hp
  · rename_i z i e
    cases e
    split at hp
    · rename_i hz
      obtain ⟨c, hc, e⟩ := Option.map_eq_some_iff.mp hp
      cases e
      refine ix_str value slice pins s σ H x y v u Q I rx ry ⟨_, i, c, ra.1, rb, by rw [slen, ← lid]; exact hz, ?_, q _ H (Grow.refl H) ⟨rfl, ?_⟩⟩ hs
      · unfold atI
        rw [place_ix] at hc
        simpa using hc
      · refine goodS_sub ra.2 fun d hd => ?_
        obtain ⟨j, hj, hj2⟩ := Option.bind_eq_some_iff.mp hc
        rw [List.mem_singleton.mp hd]
        exact List.mem_of_getElem? hj2
    · cases hp
  · rename_i l i e
    cases e
    obtain ⟨d, hc, e⟩ := Option.map_eq_some_iff.mp hp
    cases e
    obtain ⟨p, xs, rfl, hq, hrr⟩ := ra
    obtain ⟨j, hj, hj2⟩ := Option.bind_eq_some_iff.mp hc
    obtain ⟨w, hw, rw'⟩ := hrr.get hj2
    refine ix_tup value slice pins s σ H _ y v u Q I rx ry ⟨p, xs, i, w, rfl, rb, hq, ?_, q _ H (Grow.refl H) rw'⟩ hs
    unfold atI
    rw [hrr.length, ← place_ix, hj]; exact hw
  · rename_i l i e
    cases e
    obtain ⟨d, hc, e⟩ := Option.map_eq_some_iff.mp hp
    cases e
    obtain ⟨p, xs, rfl, hq, hrr⟩ := ra
    obtain ⟨j, hj, hj2⟩ := Option.bind_eq_some_iff.mp hc
    obtain ⟨w, hw, rw'⟩ := hrr.get hj2
    refine ix_list value slice pins s σ H _ y v u Q I rx ry ⟨p, xs, i, w, rfl, rb, .inl hq, ?_, q _ H (Grow.refl H) rw'⟩ hs
    unfold atI
    rw [hrr.length, ← place_ix, hj]; exact hw
  · cases hp
/-- a slice by values: what its parts tell -/
def rSlP (K : Fr) : V → Option Int → Option Int → Hp → VK → Prop := fun x lo hi H Q => ∃ a lo' hi' res, RepN K H a x ∧ part lo' = some lo ∧ part hi' = some hi ∧ pSl [a, lo', hi'] = some res ∧ ∀ v H', Grow H H' → RepR K H H' res v → Q v H'
theorem sl_pSl : SlR X (rSlP X.K) := by
  intro pins s σ H x v vl vu lo hi sl Q I rx hs pl pu ⟨a, lo', hi', res, ra, hl, hh, hp, q⟩
  unfold pSl at hp
  split at hp
  · rename_i z l' h' e
    cases e
    rw [hl, hh] at hp
    dsimp only at hp
    split at hp
    · rename_i hz
      cases hp
      refine sl_str pins s σ H x v vl vu lo hi sl Q I rx hs pl pu ⟨_, ra.1, by rw [slen, ← lid]; exact hz, ?_⟩
      have ec : cutS ⟨z.toArray⟩ lo hi = ⟨(cutL z lo hi).toArray⟩ := by
        unfold cutS
        rw [cutL_eq, slen]
      rw [ec]
      refine q _ H (Grow.refl H) ⟨rfl, goodS_sub ra.2 fun c hc => ?_⟩
      rw [cutL_eq] at hc
      exact List.mem_of_mem_drop (List.mem_of_mem_take hc)
    · cases hp
  · rename_i l l' h' e
    cases e
    rw [hl, hh] at hp
    cases hp
    obtain ⟨p, xs, rfl, hq, hrr⟩ := ra
    refine sl_tupA pins s σ H _ v vl vu lo hi sl Q I rx hs pl pu ⟨p, xs, rfl, hq, fun hw => ?_, fun _ b hb => ?_⟩
    · refine q _ H (Grow.refl H) ⟨p, xs, rfl, hq, ?_⟩
      have e1 : cutL l lo hi = l := by
        rw [cutL_eq, ← hrr.length, hw.1, hw.2, hrr.length]
        simp
      rw [e1]; exact hrr
    · exact q _ _ (Grow.new hb) ⟨b, cutV xs lo hi, rfl, SqT.of upd_same, (hrr.cut lo hi).mono (Grow.new hb).ext _ _⟩
  · rename_i l l' h' e
    cases e
    rw [hl, hh] at hp
    cases hp
    obtain ⟨p, xs, rfl, hq, hrr⟩ := ra
    exact sl_list pins s σ H _ v vl vu lo hi sl Q I rx hs pl pu ⟨p, xs, rfl, .inl hq, fun b hb => q _ _ (Grow.new hb) ⟨b, cutV xs lo hi, rfl, hb, upd_same, (hrr.cut lo hi).mono (Grow.new hb).ext _ _⟩⟩
  · cases hp
end

/-! ### the readings of arguments, taken apart -/
section
variable {G : Gb} {X : Cx} {W : WX}
theorem rdAs_nil {σ : L2.St} {H : Hp} {Q : List V → Hp → Prop} (h : rdAs G W gNil σ H Q) : Q [] H := by
  obtain ⟨env, μ, st, he, hs, h⟩ := h
  exact h [] H μ (Go.refl μ H) hs .nil
theorem rdAs_cons {g : SemE} {gs : SemAs} {σ : L2.St} {H : Hp} {Q : List V → Hp → Prop} (h : rdAs G W (gCons g gs) σ H Q) : rdE G W g σ H fun v H1 => rdAs G W gs σ H1 fun vs H2 => Q (v :: vs) H2 := by
  obtain ⟨env, μ, st, he, hst, h⟩ := h
  refine ⟨env, μ, st, he, hst, (Pst.bind (R := RA G) h).mono fun v H1 ⟨a, μ1, st1, g1, s1, r1, p1⟩ => ?_⟩
  refine ⟨env, μ1, st1, he.mono g1, s1, (Pst.bind (R := RAs G) p1).mono fun vs H2 ⟨as, μ2, st2, g2, s2, r2, p2⟩ => ?_⟩
  exact p2 (v :: vs) H2 μ2 (Go.refl _ _) s2 (.cons (r1.mono g2) r2)
theorem rdE.mono {g : SemE} {σ : L2.St} {H : Hp} {Q Q' : VK} (h : rdE G W g σ H Q) (k : ∀ v H', Q v H' → Q' v H') : rdE G W g σ H Q' := by
  obtain ⟨env, μ, st, he, hst, h⟩ := h
  exact ⟨env, μ, st, he, hst, h.mono k⟩
theorem rdAs_two {g1 g2 : SemE} {σ : L2.St} {H : Hp} {Q : List V → Hp → Prop} (h : rdAs G W (gCons g1 (gCons g2 gNil)) σ H Q) : rdE G W g1 σ H fun x H1 => rdE G W g2 σ H1 fun y H2 => Q [x, y] H2 :=
  (rdAs_cons h).mono fun _ _ h1 => (rdAs_cons h1).mono fun _ _ h2 => rdAs_nil h2
theorem rdAs_one {g1 : SemE} {σ : L2.St} {H : Hp} {Q : List V → Hp → Prop} (h : rdAs G W (gCons g1 gNil) σ H Q) : rdE G W g1 σ H fun x H1 => Q [x] H1 :=
  (rdAs_cons h).mono fun _ _ h1 => rdAs_nil h1
theorem rdOp {p : Prim} {gs : SemAs} {σ : L2.St} {H : Hp} {Q : VK} (h : rdE G W (gOp p gs) σ H Q) : rdAs G W gs σ H fun vs H1 => PrimV G.K p vs H1 Q := by
  obtain ⟨env, μ, st, he, hs, h⟩ := h
  exact ⟨env, μ, st, he, hs, (Pst.bind (R := RAs G) (Pst.settled hs.len h)).mono fun vs H1 ⟨as, μ1, st1, g1, s1, r1, p1⟩ => PrimV.of s1 r1 p1⟩

/-! ### operators -/
variable {a b c e : Expr} {es : List Expr} {ga gb gc g : SemE} {gs : SemAs} {pos p p2 apos : Pos} {x : Str}
theorem de_bin {op : Operator} {pr : Prim} (ho : OpR X (binaryOp op) (rP2 G.K pr)) (ha : DE G X W a ga) (hb : DE G X W b gb) : DE G X W (.BinOp a op b pos) (gOp pr (gCons ga (gCons gb gNil))) :=
  PE.weak (pe_op ho ha hb) fun _ _ _ h => rdAs_two (rdOp h)
theorem de_cmp {op : CmpOp} {pr : Prim} (ho : OpR X (compareOp op) (rP2 G.K pr)) (ha : DE G X W a ga) (hb : DE G X W b gb) (hm : behindInMarks op b = false) : DE G X W (.Compare a [op] [b] pos) (gOp pr (gCons ga (gCons gb gNil))) :=
  PE.weak (pe_cmpR ho ha hb hm) fun _ _ _ h => rdAs_two (rdOp h)
theorem de_neg (hK : G.K = X.K) (ha : DE G X W a ga) : DE G X W (.UnaryOp .USub a pos) (gOp pNeg (gCons ga gNil)) :=
  PE.weak (pe_un un_pNeg ha) fun _ _ _ h => by rw [← hK]; exact rdAs_one (rdOp h)
theorem de_callB {id : String} {pr : Prim} (hc : CallR X (.builtin id) (PrimV G.K pr)) (hg : Gl X x) (hm : X.mg x = none) (hv : bootBuiltins x = some (.builtin id)) (ha : DAs G X W (e :: es) gs) (hn : x ≠ "__name__") (hdb : (x == ("__debug__" : Str)) = false)
    (he : starEach (e :: es) X.env = (false, eval e X.env) :: starEach es X.env) (hpl : (backTo pos (starEach es X.env)).any (·.1) = false) : DE G X W (.Call (.Name x p) (e :: es) [] pos) (gOp pr gs) :=
  PE.weak (pe_callB hc hg hm hv ha hn hdb he hpl) fun _ _ _ h => rdOp h
theorem de_callTy {T : String} {pr : Prim} (hc : CallR X (.type T) (PrimV G.K pr)) (hg : Gl X x) (hm : X.mg x = none) (hv : bootBuiltins x = some (.type T)) (ha : DAs G X W (e :: es) gs) (hn : x ≠ "__name__") (hdb : (x == ("__debug__" : Str)) = false)
    (he : starEach (e :: es) X.env = (false, eval e X.env) :: starEach es X.env) (hpl : (backTo pos (starEach es X.env)).any (·.1) = false) : DE G X W (.Call (.Name x p) (e :: es) [] pos) (gOp pr gs) :=
  PE.weak (pe_callTy hc hg hm hv ha hn hdb he hpl) fun _ _ _ h => rdOp h
theorem de_isi {t : Ty} {y : Str} (hK : G.K = X.K) (hg : Gl X "isinstance") (hm : X.mg "isinstance" = none) (hgy : Gl X y) (hmy : X.mg y = none) (hvy : bootBuiltins y = some (.type t.nm)) (ha : DE G X W a ga)
    (hny : y ≠ "__name__") (hdy : (y == ("__debug__" : Str)) = false) (he : starEach (a :: [.Name y p2]) X.env = (false, eval a X.env) :: starEach [.Name y p2] X.env) :
    DE G X W (.Call (.Name "isinstance" p) [a, .Name y p2] [] pos) (gOp (pIsi t) (gCons ga gNil)) :=
  PE.weak (pe_callB call_isi hg hm (by decide +kernel) (pa_cons ha (pa_cons (pe_bltn (v := .ty t.nm) hgy hmy hvy rfl hny hdy) pa_nil) he) (by decide) (by decide) he rfl) fun σ H Q h =>
    (rdAs_one (rdOp h)).mono fun v H1 h1 => isi_ok (by rw [← hK]; exact h1)
theorem de_ix (hK : G.K = X.K) (ha : DE G X W a ga) (hb : DE G X W b gb) (hs : PlainIx b) : DE G X W (.Subscript a b pos) (gOp pIx (gCons ga (gCons gb gNil))) :=
  PE.weak (pe_ix ix_pIx ha hb hs) fun _ _ _ h => by rw [← hK]; exact rdAs_two (rdOp h)
/-- a slice's part -/
def vOf : Option Int → V
  | none => .non
  | some i => .int i
structure DPart (G : Gb) (X : Cx) (W : WX) (o : Option Expr) (g : SemE) (t : TO) : Prop where
  po : PO X o t
  rd : ∀ (σ : L2.St) (H : Hp) (Q : Option Int → Hp → Prop), rdE G W g σ H (fun v H1 => ∀ i, vOf i = v → Q i H1) → t σ H Q
theorem dpart_no : DPart G X W none (gCon .non) tNoPart := ⟨po_none, fun σ H Q h => by
  obtain ⟨env, μ, st, he, hs, h⟩ := h
  exact h .non H μ (Go.refl μ H) hs rfl none rfl⟩
theorem rdInt {σ : L2.St} {H : Hp} {Q : VK} (h : rdE G W (gInt g) σ H Q) : rdE G W g σ H fun v H1 => ∃ i, v = .int i ∧ Q v H1 := by
  obtain ⟨env, μ, st, he, hs, h⟩ := h
  refine ⟨env, μ, st, he, hs, (Pst.bind (R := RA G) h).mono fun v H1 ⟨a, μ1, st1, g1, s1, r1, p1⟩ => ?_⟩
  split at p1
  · rename_i i
    exact ⟨i, r1, p1 v H1 μ1 (Go.refl _ _) s1 r1⟩
  · exact p1.elim
theorem dpart_some (h : DE G X W e g) : DPart G X W (some e) (gInt g) (tPart (rdE G W g)) := ⟨po_some h, fun σ H Q q => (rdInt q).mono fun v H1 ⟨i, ev, k⟩ => ⟨i, ev, k (some i) (by rw [ev]; rfl)⟩⟩
theorem part_of {K : Fr} {H : Hp} {d : D} {i : Option Int} (h : RepN K H d (vOf i)) : part d = some i := by
  cases i with
  | none =>
    cases d with
    | non => rfl
    | bl b => exact nomatch (show V.non = V.bl b from h)
    | int b => exact nomatch (show V.non = V.int b from h)
    | str b => exact nomatch (show V.non = V.str ⟨b.toArray⟩ from h.1)
    | tup l => obtain ⟨a, xs, e, _⟩ := h; exact nomatch e
    | lst l => obtain ⟨a, xs, e, _⟩ := h; exact nomatch e
  | some j =>
    cases d with
    | non => exact nomatch (show V.int j = V.non from h)
    | bl b => exact nomatch (show V.int j = V.bl b from h)
    | int b => cases (show V.int j = V.int b from h); rfl
    | str b => exact nomatch (show V.int j = V.str ⟨b.toArray⟩ from h.1)
    | tup l => obtain ⟨a, xs, e, _⟩ := h; exact nomatch e
    | lst l => obtain ⟨a, xs, e, _⟩ := h; exact nomatch e
theorem de_sl {lo hi : Option Expr} {gl gh : SemE} {tl th : TO} (hK : G.K = X.K) (ha : DE G X W a ga) (hl : DPart G X W lo gl tl) (hh : DPart G X W hi gh th) :
    DE G X W (.Subscript a (.Slice lo hi none p2) pos) (gOp pSl (gCons ga (gCons gl (gCons gh gNil)))) :=
  PE.weak (pe_slice sl_pSl ha hl.po hh.po) fun σ H Q h => by
    refine (rdAs_cons (rdOp h)).mono fun x H1 h1 => ?_
    refine hl.rd σ H1 _ ((rdAs_cons h1).mono fun l H2 h2 i ei => ?_)
    refine hh.rd σ H2 _ ((rdAs_one h2).mono fun u H3 h3 j ej => ?_)
    subst ei ej
    obtain ⟨ds, res, hr, hp, q⟩ := h3
    cases hr with
    | cons r1 t1 =>
      cases t1 with
      | cons r2 t2 =>
        cases t2 with
        | cons r3 t3 =>
          cases t3
          exact ⟨_, _, _, res, by rw [← hK]; exact r1, part_of r2, part_of r3, hp, fun v H' gw rr => q v H' gw (by rw [hK]; exact rr)⟩
end
end PD
end

section
set_option Elab.async false
set_option linter.all false
set_option maxRecDepth 100000
set_option maxHeartbeats 4000000
/-! PD7: rules for expressions, further: reversed slices, join, displays, tests, bools, calls. -/
namespace PD
open PySem PySem.Spec PyProof.Rows L2

/-! ### t[::-1] -/
theorem fm_congr {α β : Type} {f g : α → Option β} : ∀ {l : List α}, (∀ k ∈ l, f k = g k) → l.filterMap f = l.filterMap g
  | [], _ => rfl
  | x :: l, h => by rw [List.filterMap_cons, List.filterMap_cons, h x List.mem_cons_self, fm_congr fun k hk => h k (List.mem_cons_of_mem _ hk)]
theorem rev_run (xs : Array Value) : (List.range xs.size).filterMap (fun (k : Nat) => xs[(((xs.size : Nat) : Int) - 1 + (k : Int) * (-1)).toNat]?) = xs.toList.reverse := by
  have key : ∀ (l : List Value), (List.range l.length).filterMap (fun (k : Nat) => l[l.length - 1 - k]?) = l.reverse := by
    intro l
    have e : (List.range l.length).filterMap (fun (k : Nat) => l[l.length - 1 - k]?) = (List.range l.length).map (fun k => l.reverse.getD k default) := by
      rw [← List.filterMap_eq_map]
      apply fm_congr
      intro k hk
      have hk' := List.mem_range.mp hk
      have h1 : l.length - 1 - k < l.length := by omega
      have h2 : k < l.reverse.length := by rw [List.length_reverse]; exact hk'
      rw [List.getElem?_eq_getElem h1]
      simp only [Function.comp, List.getD_eq_getElem?_getD, List.getElem?_eq_getElem h2, Option.getD_some]
      rw [List.getElem_reverse]
    rw [e]
    apply List.ext_getElem
    · simp
    · intro i h1 h2
      simp only [List.getElem_map, List.getElem_range, List.getD_eq_getElem?_getD, List.getElem?_eq_getElem h2, Option.getD_some]
  have h := key xs.toList
  rw [← h]
  rw [Array.length_toList]
  apply fm_congr
  intro k hk
  have hk' := List.mem_range.mp hk
  have e : (((xs.size : Nat) : Int) - 1 + (k : Int) * (-1)).toNat = xs.size - 1 - k := by omega
  rw [e]
  simp
section
variable {prog : Program} {w : World} {A : Around} {E : Value → Shared → Prop} {s : Shared}
theorem sliceApplied_rev {sl : Addr} {vk : Value} {n : Nat} {Q : Int × Int × Nat → Shared → Prop} (hs : s.heap.IsSliceOf sl .none .none vk) (pk : IsPart vk (some (-1)))
    (h : Q ((n : Int) - 1, -1, n) s) : wpAny (model prog w) A (Builtin.Slice.sliceApplied (.ref sl) (pure (n : Int))) Q E s := by
  obtain ⟨os, hos, hcs, hds⟩ := id hs
  unfold Builtin.Slice.sliceApplied Builtin.Slice.sliceFields
  refine wpAny_bind (wpAny_bind (wpAny_field hos hds (x := .none) rfl (wpAny_bind (wpAny_field hos hds (x := .none) rfl (wpAny_bind (wpAny_field hos hds (x := vk) rfl (wpAny_pure ?_)))))))
  refine wpAny_bind (HT.slicePart_ pk ?_)
  show wpAny _ _ (if ((-1 : Int) == 0) = true then _ else _) _ _ s
  rw [if_neg (by decide)]
  refine wpAny_bind (HT.slicePart_ .none (wpAny_bind (HT.slicePart_ .none (wpAny_bind (wpAny_pure ?_)))))
  show wpAny _ _ (match Builtin.Slice.sliceAdjust none none (-1) (n : Int) with | (lo, hi) => pure (lo, (-1 : Int), Builtin.Slice.slicePlaces lo hi (-1))) _ _ s
  have e1 : Builtin.Slice.sliceAdjust none none (-1) (n : Int) = ((n : Int) - 1, -1) := rfl
  have e2 : Builtin.Slice.slicePlaces ((n : Int) - 1) (-1) (-1) = n := by
    unfold Builtin.Slice.slicePlaces
    rw [if_neg (by omega)]
    by_cases hn : n = 0
    · subst hn; rfl
    · rw [if_pos (by omega)]
      show (((n : Int) - 1 - -1 - 1) / 1 + 1).toNat = n
      rw [Int.ediv_one]; omega
  rw [e1]
  dsimp only
  rw [e2]
  exact wpAny_pure h
theorem getItem_tuple_rev {t sl : Addr} {items : Array Value} {vk : Value} {Q : Value → Shared → Prop} (ht : IsTup s.heap t items) (hs : s.heap.IsSliceOf sl .none .none vk) (pk : IsPart vk (some (-1)))
    (h : Q (.ref s.heap.objs.size) { s with heap := s.heap.push { cls := .type "tuple", data := .seq items.toList.reverse.toArray } })
    (hsz : items.size ≤ sizeLine) : wpAny (model prog w) A (getItem (.ref t) (.ref sl)) Q E s := by
  have htake : sizeOk (.seq items.toList.reverse.toArray) := by
    show (items.toList.reverse.toArray).size ≤ sizeLine
    simpa using hsz
  obtain ⟨os, hos, hcs, hds⟩ := id hs
  have hTs : s.TypeIs (.ref sl) "slice" := ⟨os, hos, hcs⟩
  unfold getItem
  try with_reducible refine wpAny_holding ?_
  first | refine wpAny_bind (wpAny_pure ?_) | skip
  refine wpAny_bind (wpAny_sequenceKey ht.typeIs (by decide) ?_)
  refine wpAny_bind (wpAny_callSpecial?_slot (name := Str.ofString "__getitem__") ht.typeIs PyProof.Rows.slot_tuple_getitem
    (wpAny_call_entry PyProof.Rows.slot_tuple_getitem ht.typeIs entry_tuple_getitem ?_ (args_tuple_getitem _ _)))
  show wpAny _ _ (Builtin.Tuple.tupleItemsOf (.ref t) >>= _) _ _ s
  refine wpAny_bind (tupleItemsOf_ ht ?_)
  refine wpAny_bind (wpAny_typeOf hTs ?_)
  rw [if_pos (by decide)]
  refine wpAny_bind (sliceApplied_rev hs pk ?_)
  have hno : ¬ ((((items.size : Nat) : Int) - 1 == 0 && (-1 : Int) == 1 && items.size == items.size) = true) := by
    intro q
    rw [Bool.and_eq_true, Bool.and_eq_true] at q
    exact absurd (eq_of_beq q.1.2) (by decide)
  show wpAny _ _ (if (((items.size : Nat) : Int) - 1 == 0 && (-1 : Int) == 1 && items.size == items.size) = true then _ else _) _ _ s
  rw [if_neg hno, rev_run]
  first
    | exact wpAny_bind (m := Builtin.Tuple.tupleExact _) (wpAny_newObj_type (wpAny_pure ⟨_, rfl, wpAny_pure h⟩) htake)
    | exact wpAny_bind (m := Builtin.Tuple.tupleExact _) (wpAny_newObj_type (wpAny_bind (wpAny_pure (wpAny_pure ⟨_, rfl, wpAny_pure h⟩))) htake)
    | exact wpAny_bind (wpAny_bind (m := Builtin.Tuple.tupleExact _) (wpAny_newObj_type (wpAny_pure (wpAny_pure ⟨_, rfl, wpAny_pure h⟩)) htake))
end
section
variable {X : Cx}
def tRev (K : Fr) (te : TE) : TE := fun σ H Q => te σ H fun x H1 => ∃ a xs, x = .ref a ∧
  ((Rd H1 a (.lst xs) ∧ ∀ p, H1 p = none → Q (.ref p) (upd H1 p (.lst xs.reverse))) ∨ (SqT K H1 a xs ∧ ∀ p, H1 p = none → Q (.ref p) (upd H1 p (.tup xs.reverse))))
theorem pe_rev {e : Expr} {te : TE} {k : Nat} {p1 p2 p3 pos : Pos} (he : PE X e te) : PE X (.Subscript e (.Slice none none (some (.UnaryOp .USub (.Constant (.int 1) k p1) p2)) p3) pos) (tRev X.K te) := by
  refine ⟨fun pins s σ H Q I h => ?_⟩
  refine Subscript_ (thn (he.run pins s σ H _ I h) fun v s1 ⟨x, H1, I1, r1, q1⟩ => ?_)
  obtain ⟨a, xs, ex, q⟩ := q1
  subst ex
  cases r1
  have hst : PO X (some (.UnaryOp .USub (.Constant (.int 1) k p1) p2)) (tPart (tUn (rU fun i => .int (-i)) (tC (.int 1)))) := po_some (pe_un un_neg pe_int)
  refine wpAny_Slice (thn (po_none.run pins s1 σ H1 (fun o H2 => o = none ∧ H2 = H1) I1 ⟨rfl, rfl⟩) fun vl s2 ⟨l, H2, I2, pl, el, e2⟩ => ?_)
  subst el e2
  refine thn (po_none.run pins s2 σ H2 (fun o H3 => o = none ∧ H3 = H2) I2 ⟨rfl, rfl⟩) fun vu s3 ⟨u, H3, I3, pu, eu, e3⟩ => ?_
  subst eu e3
  refine thn (hst.run pins s3 σ H3 (fun o H4 => o = some (-1) ∧ H4 = H3) I3 ⟨1, rfl, -1, rfl, rfl, rfl⟩) fun vs s4 ⟨o, H4, I4, ps, eo, e4⟩ => ?_
  subst eo e4
  have I5 : Inv X pins σ H4 { s4 with heap := s4.heap.push { cls := .type "slice", data := .fields #[vl, vu, vs] } } := I4.kept (t' := s4.toks) fun b ob q => Heap.get?_push_of_some _ q
  show wpAny (model X.prog X.w) X.A (subscriptTail e (.Slice none none (some (.UnaryOp .USub (.Constant (.int 1) k p1) p2)) p3) (.ref a) (.ref s4.heap.objs.size)) (EP X pins σ Q) X.xe { s4 with heap := s4.heap.push { cls := .type "slice", data := .fields #[vl, vu, vs] } }
  rcases q with ⟨hx, q⟩ | ⟨hx, q⟩
  · obtain ⟨its, r, ht, hz⟩ := I5.list (.inl hx)
    have hlen := r.length
    refine tail_any (ops := [.ref a, .ref s4.heap.objs.size]) ht.isList.typeIs (PySem.slot_list_getitem.lookup) ?_ (by with_unfolding_all rfl)
    refine wpAny_getItem_list_slice ht.isList (Heap.IsSliceOf.new _ vl vu vs) pl pu ps (by decide) ?_ (by rw [List.size_toArray]; omega)
    rw [PySem.W.krv_pick]
    refine ⟨.ref _, _, I5.laid (t' := s4.toks) (o := .lst xs.reverse) (fun b ob q => Heap.get?_push_of_some _ q) (Nat.le_refl _) ?_, rfl, q _ (I5.hok.fresh (Nat.le_refl _))⟩
    exact ⟨by rw [List.length_reverse]; exact hz, _, 0, r.reverse, Heap.get?_push_size _ rfl⟩
  · obtain ⟨its, r, ht, hz⟩ := I5.tuple hx
    have hlen := r.length
    cases pl
    cases pu
    refine tail_any (ops := [.ref a, .ref s4.heap.objs.size]) ht.typeIs (PyProof.Rows.slot_tuple_getitem.lookup) ?_ (by with_unfolding_all rfl)
    refine getItem_tuple_rev ht (Heap.IsSliceOf.new _ .none .none vs) ps ?_ (by rw [List.size_toArray]; omega)
    refine ⟨.ref _, _, I5.laid (t' := s4.toks) (o := .tup xs.reverse) (fun b ob q => Heap.get?_push_of_some _ q) (Nat.le_refl _) ?_, rfl, q _ (I5.hok.fresh (Nat.le_refl _))⟩
    refine ⟨by rw [List.length_reverse]; exact hz, its.reverse, r.reverse, ?_⟩
    exact ⟨_, Heap.get?_push_size _ rfl, rfl, _, rfl⟩
end
section
variable {G : Gb} {X : Cx} {W : WX} {a b c e : Expr} {es : List Expr} {ga gb gc g : SemE} {gs : SemAs} {pos p p2 p3 apos : Pos} {x : Str}
theorem de_rev {k : Nat} (hK : G.K = X.K) (ha : DE G X W a ga) : DE G X W (.Subscript a (.Slice none none (some (.UnaryOp .USub (.Constant (.int 1) k p) p2)) p3) pos) (gOp pRev (gCons ga gNil)) :=
  PE.weak (pe_rev ha) fun σ H Q h => (rdAs_one (rdOp h)).mono fun v H1 ⟨ds, res, hr, hp, q⟩ => by
    obtain ⟨d, rfl, ra⟩ := hr.one
    unfold pRev at hp
    split at hp
    · rename_i l e
      cases e; cases hp
      obtain ⟨c, xs, rfl, hs, hrr⟩ := ra
      exact ⟨c, xs, rfl, .inr ⟨by rw [← hK]; exact hs, fun b hb => q _ _ (Grow.new hb) ⟨b, xs.reverse, rfl, SqT.of upd_same, hrr.reverse.mono (Grow.new hb).ext _ _⟩⟩⟩
    · rename_i l e
      cases e; cases hp
      obtain ⟨c, xs, rfl, hs, hrr⟩ := ra
      exact ⟨c, xs, rfl, .inl ⟨hs, fun b hb => q _ _ (Grow.new hb) ⟨b, xs.reverse, rfl, hb, upd_same, hrr.reverse.mono (Grow.new hb).ext _ _⟩⟩⟩
    · cases hp

/-! ### join -/
theorem sjoin_eq (sep : List Nat) : ∀ ts : List (List Nat), Str.join (mkS sep) (ts.map mkS) = mkS (joined sep ts)
  | [] => rfl
  | [x] => rfl
  | x :: y :: r => by
    have ih := sjoin_eq sep (y :: r)
    show mkS x ++ mkS sep ++ Str.join (mkS sep) ((y :: r).map mkS) = mkS (x ++ sep ++ joined sep (y :: r))
    rw [ih]
    unfold mkS
    rw [sapp, sapp]
theorem join_eq (sep : List Nat) (ts : List (List Nat)) : Txt.join (mkS sep) (ts.map mkS) = mkS (joined sep ts) := by
  rw [show Txt.join (mkS sep) (ts.map mkS) = Str.join (mkS sep) (ts.map mkS) from PySem.StrLaws.glued_eq_join _ _, sjoin_eq]
theorem joined_good {sep : List Nat} (hs : goodS sep = true) : ∀ {ts : List (List Nat)}, (∀ b ∈ ts, goodS b = true) → goodS (joined sep ts) = true
  | [], _ => rfl
  | [x], h => h x List.mem_cons_self
  | x :: y :: r, h => goodS_app (goodS_app (h x List.mem_cons_self) hs) (joined_good hs fun b hb => h b (List.mem_cons_of_mem _ hb))
theorem lens_eq (sep : List Nat) : ∀ ts : List (List Nat), ((ts.map mkS).map (·.length)).sum + (ts.map mkS).length * (mkS sep).length = lensOf sep ts
  | [] => by simp [lensOf]
  | x :: r => by
    have ih := lens_eq sep r
    simp only [List.map_cons, List.sum_cons, List.length_cons, List.length_map, lensOf] at ih ⊢
    have e1 : (mkS x).length = x.length := slen x
    have e2 : (mkS sep).length = sep.length := slen sep
    rw [e1, ← ih, Nat.succ_mul, e2]
    omega
theorem rdStr {σ : L2.St} {H : Hp} {Q : VK} (h : rdE G W (gStr g) σ H Q) : rdE G W g σ H fun v H1 => ∃ s : List Nat, v = .str ⟨s.toArray⟩ ∧ Q v H1 := by
  obtain ⟨env, μ, st, he, hs, h⟩ := h
  refine ⟨env, μ, st, he, hs, (Pst.bind (R := RA G) h).mono fun v H1 ⟨a, μ1, st1, g1, s1, r1, p1⟩ => ?_⟩
  split at p1
  · rename_i i
    exact ⟨i, (show RepD G.K H1 (.str i) v from r1).1, p1 v H1 μ1 (Go.refl _ _) s1 r1⟩
  · exact p1.elim
theorem de_join (hK : G.K = X.K) (ho : DE G X W a ga) (ha : DE G X W e g) (hs : starEach [e] X.env = [(false, eval e X.env)]) (hbase : attributeBase a "join" X.env (eval a X.env) = eval a X.env) (hline : (apos.endLine == pos.line) = true) :
    DE G X W (.Call (.Attribute a "join" apos) [e] [] pos) (gOp pJoin (gCons (gStr ga) (gCons g gNil))) :=
  PE.weak (pe_join ho ha hs hbase hline) fun σ H Q h => by
    refine (rdStr (rdAs_cons (rdOp h))).mono fun x H1 ⟨s, ex, h1⟩ => ⟨⟨_, ex⟩, (rdAs_one h1).mono fun y H2 h2 => ?_⟩
    obtain ⟨ds, res, hr, hp, q⟩ := h2
    obtain ⟨d1, d2, rfl, r1, r2⟩ := hr.two
    unfold pJoin at hp
    split at hp
    · rename_i sep l e
      cases e
      split at hp
      · rename_i ts et
        split at hp
        · rename_i hz
          cases hp
          obtain ⟨c, xs, rfl, hsq, hrr⟩ := r2
          obtain ⟨e1, e2⟩ := texts_rep et hrr
          subst e1
          refine ⟨mkS sep, c, ts.map mkS, r1.1, rfl, .inl (.inl hsq), ?_, ?_⟩
          · rw [lens_eq]; exact hz
          · rw [join_eq]; exact q _ H2 (Grow.refl H2) ⟨rfl, joined_good r1.2 e2⟩
        · cases hp
      · cases hp
    · rename_i sep l e
      cases e
      split at hp
      · rename_i ts et
        split at hp
        · rename_i hz
          cases hp
          obtain ⟨c, xs, rfl, hsq, hrr⟩ := r2
          obtain ⟨e1, e2⟩ := texts_rep et hrr
          subst e1
          refine ⟨mkS sep, c, ts.map mkS, r1.1, rfl, .inr (by rw [← hK]; exact hsq), ?_, ?_⟩
          · rw [lens_eq]; exact hz
          · rw [join_eq]; exact q _ H2 (Grow.refl H2) ⟨rfl, joined_good r1.2 e2⟩
        · cases hp
      · cases hp
    · cases hp

/-! ### displays -/
theorem de_tup {k : Nat} (h : DAs G X W es gs) : DE G X W (.Tuple es k pos) (gTup gs) :=
  PE.weak (pe_tup (PA.fz h)) fun σ H Q ⟨env, μ, st, he, hs, q⟩ => by
    refine ⟨env, μ, st, he, hs, (Pst.bind (R := RAs G) (Pst.settled hs.len q)).mono fun vs H1 ⟨as, μ1, st1, g1, s1, r1, p1⟩ => ?_⟩
    split at p1
    · exact p1.elim
    · rename_i ds s2 ef
      split at p1
      · rename_i hz
        refine (freezeAll_goal s1 r1 ef).mono fun H2 ⟨t2, rd, g2⟩ => ⟨by rw [rd.length, ← lid]; exact hz, fun b hb => ?_⟩
        exact p1 _ _ μ1 (g2.trans ((Grow.new hb).go μ1)) (t2.grow (Grow.new hb)) ⟨b, vs, rfl, SqT.of upd_same, rd.mono (Grow.new hb).ext _ _⟩
      · exact p1.elim
theorem de_lst (h : DAs G X W es gs) : DE G X W (.List es pos) (gLst gs) :=
  PE.weak (pe_lst (PA.fz h)) fun σ H Q ⟨env, μ, st, he, hs, q⟩ => by
    refine ⟨env, μ, st, he, hs, (Pst.bind (R := RAs G) (Pst.settled hs.len q)).mono fun vs H1 ⟨as, μ1, st1, g1, s1, r1, p1⟩ => ?_⟩
    split at p1
    · exact p1.elim
    · rename_i ds s2 ef
      split at p1
      · rename_i hz
        refine (freezeAll_goal s1 r1 ef).mono fun H2 ⟨t2, rd, g2⟩ => ⟨by rw [rd.length, ← lid]; exact hz, fun b hb => ?_⟩
        refine p1 _ _ (μ1 ++ [b]) (g2.trans (Go.more (Grow.new hb) hb)) (t2.more (Grow.new hb) hb ⟨vs, upd_same, rd.mono (Grow.new hb).ext _ _⟩) ⟨b, rfl, ?_⟩
        rw [← t2.len, List.getElem?_append_right (Nat.le_refl _), Nat.sub_self]; rfl
      · exact p1.elim

/-! ### tests -/
/-- as Pst.bind, the base kept -/
theorem Pst.bindB {σ : L2.St} {μ : List Addr} {H : Hp} {α β γ δ : Type} {R : RP α β} {R2 : RP γ δ} {o : Out α} {f : α → Store → Out γ} {Q : δ → Hp → Prop} (h : Pst G W σ μ H R2 (o.bind f) Q) :
    Pst G W σ μ H R o (fun v H1 => ∃ a μ1 st1, Go μ H μ1 H1 ∧ StOk G.K H1 μ1 st1 ∧ R μ1 H1 a v ∧ Pst G W σ μ H R2 (f a st1) Q) := by
  cases o with
  | ok a st => exact fun v H' μ' g s r => ⟨a, μ', st, g, s, r, h⟩
  | exn e st => exact h
  | bad => exact h
theorem tru_of {K : Fr} {H : Hp} {d : D} {v : V} (h : RepN K H d v) (hl : okLen d = true) : TruV K v H d.truth := by
  cases d with
  | non => cases (show v = V.non from h); rfl
  | bl b => cases (show v = V.bl b from h); rfl
  | int i => cases (show v = V.int i from h); rfl
  | str s =>
    cases (show v = V.str ⟨s.toArray⟩ from h.1)
    have hz : s.length ≤ LID := of_decide_eq_true hl
    refine ⟨by rw [slen, ← lid]; exact hz, ?_⟩
    rw [slen]
    cases s with
    | nil => rfl
    | cons c r =>
      show true = _
      simp
      omega
  | tup l =>
    obtain ⟨a, xs, rfl, hs, hr⟩ := h
    refine .inr (.inl ⟨xs, hs, ?_⟩)
    cases l with
    | nil => cases hr; rfl
    | cons d r => obtain ⟨v, w, rfl, _⟩ := hr; rfl
  | lst l =>
    obtain ⟨a, xs, rfl, hs, hr⟩ := h
    refine .inl ⟨xs, .inl hs, ?_⟩
    cases l with
    | nil => cases hr; rfl
    | cons d r => obtain ⟨v, w, rfl, _⟩ := hr; rfl
theorem rdTru {σ : L2.St} {H : Hp} {Q : Bool → Hp → Prop} (h : rdT G W (tVal g) σ H Q) : rdE G W g σ H fun v H1 => ∃ k, TruV G.K v H1 k ∧ Q k H1 := by
  obtain ⟨env, μ, st, he, hs, h⟩ := h
  refine ⟨env, μ, st, he, hs, (Pst.bindB (R := RA G) h).mono fun v H1 ⟨a, μ1, st1, g1, s1, r1, p1⟩ => ?_⟩
  split at p1
  · rename_i d ed
    split at p1
    · rename_i hl
      have t := s1.take μ.length
      rw [g1.takeEq] at t
      exact ⟨d.truth, tru_of (now_rep s1 r1 ed) hl, p1 _ H1 μ g1.forget (by rw [← hs.len]; exact t) rfl⟩
    · exact p1.elim
  · exact p1.elim
theorem dt_val (hK : G.K = X.K) (ha : DE G X W a ga) (he : ∀ whole, isTrue a X.env whole = (do let v ← whole; standAt a.pos; holding [v] (truthy v))) : DT G X W a (tVal ga) :=
  PT.weak (pt_truth ha he) fun σ H Q h => by rw [← hK]; exact rdTru h
/-- a comparison gives a truth value -/
theorem dt_cmp {op : CmpOp} {pr : Prim} (hb0 : ∀ ds r, pr ds = some r → ∃ k, r = .v (.bl k)) (ho : OpR X (compareOp op) (rP2 G.K pr)) (ha : DE G X W a ga) (hb : DE G X W b gb) (hm : behindInMarks op b = false) :
    DT G X W (.Compare a [op] [b] pos) (tVal (gOp pr (gCons ga (gCons gb gNil)))) :=
  PT.weak (pt_cmpR ho ha hb hm) fun σ H Q h => by
    refine (rdAs_two (rdOp (rdTru h))).mono fun x H1 h1 => h1.mono fun y H2 h2 => ?_
    obtain ⟨ds, res, hr, hp, q⟩ := h2
    obtain ⟨k, rfl⟩ := hb0 _ _ hp
    refine ⟨ds, _, hr, hp, fun v H' gw rr => ?_⟩
    obtain ⟨k', t, qk⟩ := q v H' gw rr
    have ev : v = V.bl k := rr
    subst ev
    exact ⟨k, rfl, by rw [← (show k' = k from t)]; exact qk⟩
theorem dw_and1 (ha : DT G X W a ta) : DW G X W (.BoolOp .And [a] pos) ta := pw_and1 ha
theorem dw_or1 (ha : DT G X W a ta) : DW G X W (.BoolOp .Or [a] pos) ta := pw_or1 ha
theorem rdT.mono {t : SemT} {σ : L2.St} {H : Hp} {Q Q' : Bool → Hp → Prop} (h : rdT G W t σ H Q) (k : ∀ v H', Q v H' → Q' v H') : rdT G W t σ H Q' := by
  obtain ⟨env, μ, st, he, hst, h⟩ := h
  exact ⟨env, μ, st, he, hst, h.mono k⟩
theorem dw_and {t u : SemT} (ha : DT G X W a t) (hb : DW G X W (.BoolOp .And (b :: es) pos) u) : DW G X W (.BoolOp .And (a :: b :: es) pos) (tAnd t u) :=
  PW.weak (pw_and ha hb) fun σ H Q ⟨env, μ, st, he, hs, h⟩ => by
    refine ⟨env, μ, st, he, hs, (Pst.bind (R := RB) h).mono fun v H1 ⟨x, μ1, st1, g1, s1, r1, p1⟩ => ?_⟩
    cases (show v = x from r1)
    cases v with
    | true => exact ⟨env, μ1, st1, he.mono g1, s1, p1⟩
    | false => exact p1 false H1 μ1 (Go.refl _ _) s1 rfl
theorem dw_or {t u : SemT} (ha : DT G X W a t) (hb : DW G X W (.BoolOp .Or (b :: es) pos) u) : DW G X W (.BoolOp .Or (a :: b :: es) pos) (tOr t u) :=
  PW.weak (pw_or ha hb) fun σ H Q ⟨env, μ, st, he, hs, h⟩ => by
    refine ⟨env, μ, st, he, hs, (Pst.bind (R := RB) h).mono fun v H1 ⟨x, μ1, st1, g1, s1, r1, p1⟩ => ?_⟩
    cases (show v = x from r1)
    cases v with
    | true => exact p1 true H1 μ1 (Go.refl _ _) s1 rfl
    | false => exact ⟨env, μ1, st1, he.mono g1, s1, p1⟩
theorem dt_not {t : SemT} (ha : DT G X W a t) : DT G X W (.UnaryOp .Not a pos) (tNot t) :=
  PT.weak (pt_not ha) fun σ H Q ⟨env, μ, st, he, hs, h⟩ => by
    refine ⟨env, μ, st, he, hs, (Pst.bind (R := RB) h).mono fun v H1 ⟨x, μ1, st1, g1, s1, r1, p1⟩ => ?_⟩
    cases (show v = x from r1)
    exact p1 _ H1 μ1 (Go.refl _ _) s1 rfl
/-! ### and, or, not as values -/
theorem de_one {op : BoolOp} (ha : DE G X W a ga) : DE G X W (.BoolOp op [a] pos) ga := pe_one ha
theorem de_and (ha : DE G X W a ga) (hb : DE G X W (.BoolOp .And (b :: es) pos) gb) : DE G X W (.BoolOp .And (a :: b :: es) pos) (gAnd ga gb) :=
  PE.weak (pe_and ha hb) fun σ H Q ⟨env, μ, st, he, hs, h⟩ => by
    refine ⟨env, μ, st, he, hs, (Pst.bind (R := RA G) h).mono fun v H1 ⟨x, μ1, st1, g1, s1, r1, p1⟩ => ?_⟩
    split at p1
    · exact ⟨true, r1, ⟨env, μ1, st1, he.mono g1, s1, p1⟩⟩
    · exact ⟨false, r1, p1 _ H1 μ1 (Go.refl _ _) s1 rfl⟩
    · exact p1.elim
theorem de_or (ha : DE G X W a ga) (hb : DE G X W (.BoolOp .Or (b :: es) pos) gb) : DE G X W (.BoolOp .Or (a :: b :: es) pos) (gOr ga gb) :=
  PE.weak (pe_or ha hb) fun σ H Q ⟨env, μ, st, he, hs, h⟩ => by
    refine ⟨env, μ, st, he, hs, (Pst.bind (R := RA G) h).mono fun v H1 ⟨x, μ1, st1, g1, s1, r1, p1⟩ => ?_⟩
    split at p1
    · exact ⟨true, r1, p1 _ H1 μ1 (Go.refl _ _) s1 rfl⟩
    · exact ⟨false, r1, ⟨env, μ1, st1, he.mono g1, s1, p1⟩⟩
    · exact p1.elim
theorem de_not (ha : DE G X W a ga) : DE G X W (.UnaryOp .Not a pos) (gNot ga) :=
  PE.weak (pe_not ha) fun σ H Q ⟨env, μ, st, he, hs, h⟩ => by
    refine ⟨env, μ, st, he, hs, (Pst.bind (R := RA G) h).mono fun v H1 ⟨x, μ1, st1, g1, s1, r1, p1⟩ => ?_⟩
    split at p1
    · rename_i k
      exact ⟨k, r1, p1 _ H1 μ1 (Go.refl _ _) s1 rfl⟩
    · exact p1.elim
theorem de_if {t : SemT} (hc : DT G X W c t) (ha : DE G X W a ga) (hb : DE G X W b gb) : DE G X W (.IfExp c a b pos) (gIf t ga gb) :=
  PE.weak (pe_ifExp hc ha hb) fun σ H Q ⟨env, μ, st, he, hs, h⟩ => by
    refine ⟨env, μ, st, he, hs, (Pst.bind (R := RB) h).mono fun v H1 ⟨x, μ1, st1, g1, s1, r1, p1⟩ => ?_⟩
    cases (show v = x from r1)
    cases v with
    | true => exact ⟨env, μ1, st1, he.mono g1, s1, p1⟩
    | false => exact ⟨env, μ1, st1, he.mono g1, s1, p1⟩
/-! ### chains -/
theorem PrimV.ofB {σ : L2.St} {μ : List Addr} {H : Hp} {st : Store} {pr : Prim} (hb0 : ∀ ds r, pr ds = some r → ∃ k, r = .v (.bl k)) {xs : List A} {vs : List V} (s : StOk G.K H μ st) (r : RAs G μ H xs vs) {f : A → Store → Out A} {Q : VK}
    (h : Pst G W σ μ H (RA G) ((opOn pr xs st).bind f) Q) : PrimV G.K pr vs H fun z H' => ∃ k, z = .bl k ∧ ∃ μ', Go μ H μ' H' ∧ StOk G.K H' μ' st ∧ Pst G W σ μ' H' (RA G) (f (.d (.bl k)) st) Q := by
  unfold opOn at h
  split at h
  · exact h.elim
  · rename_i ds h1
    split at h
    · exact h.elim
    · rename_i res h2
      obtain ⟨k, rfl⟩ := hb0 _ _ h2
      refine ⟨ds, _, nowAll_rep s r h1, h2, fun v H' g rr => ⟨k, rr, μ, g.go μ, s.grow g, ?_⟩⟩
      have h' : Pst G W σ μ H (RA G) (f (.d (.bl k)) st) Q := h
      exact h'.go (g.go μ)
theorem de_chain {op op' : CmpOp} {pr pr' : Prim} (hb0 : ∀ ds r, pr ds = some r → ∃ k, r = .v (.bl k)) (ho : OpR X (compareOp op) (rP2 G.K pr)) (ho' : OpR X (compareOp op') (rP2 G.K pr'))
    (ha : DE G X W a ga) (hb : DE G X W b gb) (hc : DE G X W c gc) (hm : lastMarks [op, op'] [b, c] = false) : DE G X W (.Compare a [op, op'] [b, c] pos) (gChain pr pr' ga gb gc) :=
  PE.weak (pe_chain ho ho' ha hb hc hm) fun σ H Q ⟨env, μ, st, he, hs, h⟩ => by
    refine ⟨env, μ, st, he, hs, (Pst.bind (R := RA G) (Pst.settled hs.len h)).mono fun x H1 ⟨xa, μ1, st1, g1, s1, r1, p1⟩ => ?_⟩
    refine ⟨env, μ1, st1, he.mono g1, s1, (Pst.bind (R := RA G) p1).mono fun y H2 ⟨ya, μ2, st2, g2, s2, r2, p2⟩ => ?_⟩
    obtain ⟨ds, res, hr, hp, q⟩ := PrimV.ofB hb0 s2 (.cons (r1.mono g2) (.cons r2 .nil)) p2
    refine ⟨ds, res, hr, hp, fun z H3 gw rr => ?_⟩
    obtain ⟨k, ez, μ3, g3, s3, p3⟩ := q z H3 gw rr
    refine ⟨k, ez, ?_⟩
    cases k with
    | true =>
      refine ⟨env, μ3, st2, ((he.mono g1).mono g2).mono g3, s3, (Pst.bind (R := RA G) p3).mono fun w H4 ⟨wa, μ4, st4, g4, s4, r4, p4⟩ => ?_⟩
      exact PrimV.of s4 (.cons ((RepA.mono g3 r2).mono g4) (.cons r4 .nil)) p4
    | false => exact p3 _ H3 μ3 (Go.refl _ _) s3 rfl
end
end PD
end

section
set_option Elab.async false
set_option linter.all false
set_option maxRecDepth 100000
set_option maxHeartbeats 4000000
/-! PD8: calls of the text's defs; statements. -/
namespace PD
open PySem PySem.Spec PyProof.Rows L2

section
variable {G : Gb} {X : Cx} {W : WX} {a b c e : Expr} {es : List Expr} {ga gb gc g : SemE} {gs : SemAs} {pos p p2 p3 apos : Pos} {x : Str}
/-! ### calls of defs -/
/-- what a def promises: its meaning f, of n arguments -/
def spF (G : Gb) (f : List A → Store → Out A) (n : Nat) : Sp := fun vs H Q E => ∃ μ st as, as.length = n ∧ StOk G.K H μ st ∧ RAs G μ H as vs ∧ Pst G (fun cls d _ H' => E cls d H') [] μ H (RA G) (f as st) Q
theorem spF_len {f : List A → Store → Out A} {n : Nat} {vs : List V} {H : Hp} {Q : VK} {E : XK} (h : spF G f n vs H Q E) : vs.length = n := by
  obtain ⟨μ, st, as, hl, _, r, _⟩ := h
  rw [← hl]
  exact (Paired.length r).symm
/-- the def numbered f keeps its promise, at level k -/
structure DefOk (G : Gb) (P : Program) (w : World) (K : Fr) (mg : Str → Option Value) (base : Heap) (k : Nat) (f : Nat) (F : List A → Store → Out A) : Prop where
  ex : ∃ (ad : Addr) (fd : FuncData) (ps : List Str), G.fa f = some ad ∧ PySem.W.keepIn K (.ref ad) = true ∧ Binds K fd ps [] ∧ FnOk P w K mg base (L2.CX P w) k ad fd ps (spF G F ps.length) ∧ ∀ as st, as.length ≠ ps.length → F as st = .bad
theorem Pst.rew {σ : L2.St} {μ : List Addr} {H : Hp} {α β : Type} {R : RP α β} {o : Out α} {Q : β → Hp → Prop} (h : Pst G W σ μ H R o Q) : Pst G (fun cls d _ H' => W cls d σ H') [] μ H R o Q := by
  cases o <;> exact h
theorem free_rep {μ : List Addr} {H : Hp} : ∀ {as : List A} {vs : List V}, as.all A.free = true → RAs G μ H as vs → RAs G [] H as vs := by
  intro as vs hf r
  induction r with
  | nil => exact .nil
  | @cons a v as vs h t ih =>
    rw [List.all_cons, Bool.and_eq_true] at hf
    refine .cons ?_ (ih hf.2)
    cases a with
    | obj n => exact absurd hf.1 Bool.false_ne_true
    | d x => exact h
    | fn f => exact h
theorem go_grow {H H' : Hp} {μ : List Addr} (g : Go [] H μ H') : Grow H H' := fun a o e => g.keep a o e (by simp)
theorem call_goes {F : List A → Store → Out A} {n : Nat} (hn : ∀ as st, as.length ≠ n → F as st = .bad) {σ : L2.St} {μ : List Addr} {H : Hp} {st : Store} {as : List A} {vs : List V} {Q : VK}
    (s : StOk G.K H μ st) (r : RAs G μ H as vs) (h : Pst G W σ μ H (RA G) (callIn F as st) Q) : spF G F n vs H Q (WE W σ) := by
  unfold callIn at h
  split at h
  · rename_i hf
    refine ⟨[], [], as, ?_, ⟨rfl, List.nodup_nil, fun i b m h _ => by simp at h⟩, free_rep hf r, ?_⟩
    · by_cases e : as.length = n
      · exact e
      · rw [hn as [] e] at h
        exact h.elim
    · cases hF : F as [] with
      | bad => rw [hF] at h; exact h
      | exn e st' =>
        rw [hF] at h
        exact fun cls d H' μ' g s' x => h cls d H' μ ((go_grow g).go μ) (s.grow (go_grow g)) x
      | ok a st' =>
        rw [hF] at h
        cases a with
        | d y => exact fun v H' μ' g s' x => h v H' μ ((go_grow g).go μ) (s.grow (go_grow g)) x
        | fn f => exact fun v H' μ' g s' x => h v H' μ ((go_grow g).go μ) (s.grow (go_grow g)) x
        | obj m =>
          intro v H' μ' g s' x
          obtain ⟨ad, rfl, hm⟩ := x
          obtain ⟨mo, e1, rm⟩ := s'.mem hm
          have h2 : Pst G W σ μ H (RA G) (match st'[m]? with | some m => Out.ok (A.obj st.length) (st ++ [m]) | none => .bad) Q := h
          rw [e1] at h2
          obtain ⟨ν, e2, nw⟩ := g.pre
          have hnone : H ad = none := nw ad (by rw [e2, List.nil_append] at hm; exact List.mem_of_getElem? hm)
          refine h2 (.ref ad) H' (μ ++ [ad]) (Go.more (go_grow g) hnone) (s.more (go_grow g) hnone rm) ⟨ad, rfl, ?_⟩
          rw [← s.len]; simp
  · refine ⟨μ, st, as, ?_, s, r, h.rew⟩
    by_cases e : as.length = n
    · exact e
    · rw [hn as st e] at h
      exact h.elim
theorem de_call {k f : Nat} {ad : Addr} {F : SemF} (d : DefOk G X.prog X.w X.K X.mg X.base k f (F f)) (hr : Room k X.A) (hg : Gl X x) (had : G.fa f = some ad) (hm : X.mg x = some (.ref ad)) (tk : Takes X W) (ha : DAs G X W (e :: es) gs)
    (hdb : (x == ("__debug__" : Str)) = false) (he : starEach (e :: es) X.env = (false, eval e X.env) :: starEach es X.env) (hpl : (backTo pos (starEach es X.env)).any (·.1) = false) : DE G X W (.Call (.Name x p) (e :: es) [] pos) (gCall F f gs) := by
  obtain ⟨ad', fd, ps, h1, hk, hb, hF, hn⟩ := d.ex
  rw [had] at h1; cases h1
  refine PE.weak (pe_callS hF hr hg hm hk hb (fun σ => passAt tk σ) ha hdb he hpl) fun σ H Q ⟨env, μ, st, hen, hs, h⟩ => ?_
  exact ⟨env, μ, st, hen, hs, (Pst.bind (R := RAs G) (Pst.settled hs.len h)).mono fun vs H1 ⟨as, μ1, st1, g1, s1, r1, p1⟩ => call_goes hn s1 r1 p1⟩
theorem pe_callS0 {CX : CXT} {k : Nat} {f : Addr} {fd : FuncData} {ps : List Str} {sp : Sp} {E : L2.St → XK} (F : FnOk X.prog X.w X.K X.mg X.base CX k f fd ps sp) (hr : Room k X.A) (hg : Gl X x) (hm : X.mg x = some (.ref f)) (hk : PySem.W.keepIn X.K (.ref f) = true) (hb : Binds X.K fd ps []) (hx : ∀ σ, PassesAt CX X σ (E σ))
    (hdb : (x == ("__debug__" : Str)) = false) : PE X (.Call (.Name x p) [] [] pos) (fun σ H Q => sp [] H Q (E σ)) := by
  refine ⟨fun pins s σ H Q I h => ?_⟩
  refine wpAny_Call_Name_kw (ld_glob I hg hm ?_ hdb)
  exact PySem.W.callWith_K0 I.kIn hk (run_fnS (us := []) F hr hb (hx σ) I .nil h)
theorem de_call0 {k f : Nat} {ad : Addr} {F : SemF} (d : DefOk G X.prog X.w X.K X.mg X.base k f (F f)) (hr : Room k X.A) (hg : Gl X x) (had : G.fa f = some ad) (hm : X.mg x = some (.ref ad)) (tk : Takes X W)
    (hdb : (x == ("__debug__" : Str)) = false) : DE G X W (.Call (.Name x p) [] [] pos) (gCall F f gNil) := by
  obtain ⟨ad', fd, ps, h1, hk, hb, hF, hn⟩ := d.ex
  rw [had] at h1; cases h1
  refine PE.weak (pe_callS0 hF hr hg hm hk hb (fun σ => passAt tk σ) hdb) fun σ H Q ⟨env, μ, st, hen, hs, h⟩ => ?_
  exact call_goes hn hs .nil (Pst.settled hs.len h)
/-- a call of a local name that holds a def -/
theorem pe_callLS {CX : CXT} {k i : Nat} {E : L2.St → XK} {t : TA} (hr : Room k X.A) (hN : X.N[i]? = some x) (hv : Vis X.env.scope x) (hx : ∀ σ, PassesAt CX X σ (E σ)) (ha : PA X (e :: es) t)
    (hdb : (x == ("__debug__" : Str)) = false) (hcd : (x == ("__classdict__" : Str)) = false)
    (he : starEach (e :: es) X.env = (false, eval e X.env) :: starEach es X.env) (hpl : (backTo pos (starEach es X.env)).any (·.1) = false) :
    PE X (.Call (.Name x p) (e :: es) [] pos) (fun σ H Q => ∃ f fd ps sp, σ[i]? = some (some (.ref f)) ∧ FnOk X.prog X.w X.K X.mg X.base CX k f fd ps sp ∧ PySem.W.keepIn X.K (.ref f) = true ∧ Binds X.K fd ps [] ∧ t σ H fun vs H1 => sp vs H1 Q (E σ)) := by
  refine ⟨fun pins s σ H Q I h => ?_⟩
  obtain ⟨f, fd, ps, sp, hs, hF, hk, hb, ht⟩ := h
  refine wpAny_Call_Name_kw (thn ((pe_var (pos := p) hN hv hdb hcd).run pins s σ H (fun v H1 => v = .ref f ∧ H1 = H) I ⟨.ref f, hs, rfl, rfl⟩) fun u s1 ⟨v, H1, I1, r1, q1⟩ => ?_)
  obtain ⟨rfl, rfl⟩ := q1
  cases r1
  refine PySem.W.callWith_K (h₀ := X.base) I.ok.mod.kin hk (thn (ha.run pos pins s1 σ _ _ I1 ht) fun us s2 ⟨vs, H2, I2, r, q⟩ => ⟨I2.kIn, ?_⟩) he hpl
  exact run_fnS hF hr hb (hx σ) I2 r q
theorem de_callV {k i : Nat} {F : SemF} (d : ∀ f ad, G.fa f = some ad → DefOk G X.prog X.w X.K X.mg X.base k f (F f)) (hr : Room k X.A) (hN : X.N[i]? = some x) (hv : Vis X.env.scope x) (tk : Takes X W) (ha : DAs G X W (e :: es) gs)
    (hdb : (x == ("__debug__" : Str)) = false) (hcd : (x == ("__classdict__" : Str)) = false)
    (he : starEach (e :: es) X.env = (false, eval e X.env) :: starEach es X.env) (hpl : (backTo pos (starEach es X.env)).any (·.1) = false) : DE G X W (.Call (.Name x p) (e :: es) [] pos) (gCallV F i gs) := by
  refine PE.weak (pe_callLS (CX := L2.CX X.prog X.w) (k := k) (i := i) (E := WE W) hr hN hv (fun σ => passAt tk σ) ha hdb hcd he hpl) fun σ H Q ⟨env, μ, st, hen, hs, h⟩ => ?_
  unfold gCallV at h
  split at h
  · rename_i f ef
    obtain ⟨v, ev, ad, rfl, had⟩ := hen.at_ i _ ef
    obtain ⟨ad', fd, ps, h1, hk, hb, hF, hn⟩ := (d f ad had).ex
    rw [had] at h1; cases h1
    exact ⟨ad, fd, ps, _, ev, hF, hk, hb, env, μ, st, hen, hs, (Pst.bind (R := RAs G) (Pst.settled hs.len h)).mono fun vs H1 ⟨as, μ1, st1, g1, s1, r1, p1⟩ => call_goes hn s1 r1 p1⟩
  · exact h.elim

/-! ### statements -/
def PstS (G : Gb) (W : WX) (D : Ends) (μ : List Addr) (H : Hp) (o : SO) : Prop :=
  match o with
  | .nx env st => ∀ σ H' μ', Go μ H μ' H' → StOk G.K H' μ' st → EnvOk G.K G.fa μ' H' env σ → D.nx σ H'
  | .rt a st => ∀ v H' μ', Go μ H μ' H' → StOk G.K H' μ' st → RepA G.K G.fa μ' H' a v → D.rt v H'
  | .bk env st => ∀ σ H' μ', Go μ H μ' H' → StOk G.K H' μ' st → EnvOk G.K G.fa μ' H' env σ → D.bk σ H'
  | .ct env st => ∀ σ H' μ', Go μ H μ' H' → StOk G.K H' μ' st → EnvOk G.K G.fa μ' H' env σ → D.ct σ H'
  | .ex e env st => ∀ cls d σ H' μ', Go μ H μ' H' → StOk G.K H' μ' st → EnvOk G.K G.fa μ' H' env σ → ExnOk G H' e cls d → W cls d σ H'
  | .bad => False
def rdS (G : Gb) (W : WX) (g : SemS) : TS := fun D σ H => ∃ env μ st, EnvOk G.K G.fa μ H env σ ∧ StOk G.K H μ st ∧ PstS G W D μ H (g env st)
abbrev DS (G : Gb) (X : Cx) (W : WX) (s : Stmt) (g : SemS) : Prop := PS X s (rdS G W g)
abbrev DSs (G : Gb) (X : Cx) (W : WX) (s : List Stmt) (g : SemS) : Prop := PSs X s (rdS G W g)
theorem PS.weak {s : Stmt} {t t' : TS} (h : PS X s t) (k : ∀ D σ H, t' D σ H → t D σ H) : PS X s t' := ⟨fun pins sh σ H D I q => h.run pins sh σ H D I (k D σ H q)⟩
theorem PSs.weak {s : List Stmt} {t t' : TS} (h : PSs X s t) (k : ∀ D σ H, t' D σ H → t D σ H) : PSs X s t' := ⟨fun pins sh σ H D I q => h.run pins sh σ H D I (k D σ H q)⟩
theorem PstS.go {D : Ends} {μ μ1 : List Addr} {H H1 : Hp} {o : SO} (h : PstS G W D μ H o) (g0 : Go μ H μ1 H1) : PstS G W D μ1 H1 o := by
  cases o with
  | nx env st => exact fun σ H' μ' g s r => h σ H' μ' (g0.trans g) s r
  | rt a st => exact fun σ H' μ' g s r => h σ H' μ' (g0.trans g) s r
  | bk env st => exact fun σ H' μ' g s r => h σ H' μ' (g0.trans g) s r
  | ct env st => exact fun σ H' μ' g s r => h σ H' μ' (g0.trans g) s r
  | ex e env st => exact fun c d σ H' μ' g s r x => h c d σ H' μ' (g0.trans g) s r x
  | bad => exact h
/-- an expression ahead of the rest: the base is kept -/
theorem PstS.expr {D : Ends} {σ : L2.St} {μ : List Addr} {H : Hp} {α β : Type} {R : RP α β} {env : Env} {o : Out α} {f : α → Store → SO} (he : EnvOk G.K G.fa μ H env σ) (h : PstS G W D μ H (o.toS env f)) :
    Pst G W σ μ H R o (fun v H1 => ∃ a μ1 st1, Go μ H μ1 H1 ∧ StOk G.K H1 μ1 st1 ∧ R μ1 H1 a v ∧ EnvOk G.K G.fa μ1 H1 env σ ∧ PstS G W D μ H (f a st1)) := by
  cases o with
  | ok a st => exact fun v H' μ' g s r => ⟨a, μ', st, g, s, r, he.mono g, h⟩
  | exn e st => exact fun c d H' μ' g s x => h c d σ H' μ' g s (he.mono g) x
  | bad => exact h
theorem ds_pass : DS G X W (.Pass pos) sNext := PS.weak ps_pass fun D σ H ⟨env, μ, st, he, hs, h⟩ => h σ H μ (Go.refl _ _) hs he
theorem ds_break : DS G X W (.Break pos) sBreak := PS.weak ps_break fun D σ H ⟨env, μ, st, he, hs, h⟩ => h σ H μ (Go.refl _ _) hs he
theorem ds_cont : DS G X W (.Continue pos) sCont := PS.weak ps_continue fun D σ H ⟨env, μ, st, he, hs, h⟩ => h σ H μ (Go.refl _ _) hs he
theorem ds_doc {z : Str} {j pos'} : DS G X W (.Expr (.Constant (.str z) j pos) pos') sNext := PS.weak ps_doc fun D σ H ⟨env, μ, st, he, hs, h⟩ => h σ H μ (Go.refl _ _) hs he
theorem dss_nil : DSs G X W [] sNext := PSs.weak pss_nil fun D σ H ⟨env, μ, st, he, hs, h⟩ => h σ H μ (Go.refl _ _) hs he
theorem dss_cons {s : Stmt} {r : List Stmt} {f g : SemS} (h1 : DS G X W s f) (h2 : DSs G X W r g) : DSs G X W (s :: r) (sSeq f g) :=
  PSs.weak (pss_cons h1 h2) fun D σ H ⟨env, μ, st, he, hs, h⟩ => by
    refine ⟨env, μ, st, he, hs, ?_⟩
    unfold sSeq at h
    split at h
    · rename_i env1 st1 e1
      rw [e1]
      exact fun σ' H' μ' gg s1 r1 => ⟨env1, μ', st1, r1, s1, h.go gg⟩
    · rename_i hne
      cases eo : f env st with
      | nx env1 st1 => exact absurd eo (hne _ _)
      | rt a st1 => rw [eo] at h; exact h
      | bk env1 st1 => rw [eo] at h; exact h
      | ct env1 st1 => rw [eo] at h; exact h
      | ex ee env1 st1 => rw [eo] at h; exact h
      | bad => rw [eo] at h; exact h
theorem ds_set {i : Nat} {x : Str} {pos' : Pos} (hN : X.N.Nodup) (hi : X.N[i]? = some x) (hx : Loc X.env.scope x) (ha : DE G X W e g) (hs : swapsWith e (some (.Name x pos')) pos.line X.env = pure false) (hf : X.fn x = true ∨ X.env.scope.names.lookup x = some .local) :
    DS G X W (.Assign [.Name x pos'] e pos) (sSet i g) :=
  PS.weak (ps_set hN hi hx ha hs hf) fun D σ H ⟨env, μ, st, he, hst, h⟩ => by
    refine ⟨env, μ, st, he, hst, (PstS.expr (R := RA G) he h).mono fun v H1 ⟨a, μ1, st1, g1, s1, r1, e1, p1⟩ => ?_⟩
    exact p1 _ H1 μ1 g1 s1 (e1.set r1)
theorem ds_expr (ha : DE G X W e g) (hs : swapsWith e none pos.line X.env = pure false) : DS G X W (.Expr e pos) (sExpr g) :=
  PS.weak (ps_expr ha hs) fun D σ H ⟨env, μ, st, he, hst, h⟩ => by
    refine ⟨env, μ, st, he, hst, (PstS.expr (R := RA G) he h).mono fun v H1 ⟨a, μ1, st1, g1, s1, r1, e1, p1⟩ => ?_⟩
    have t := s1.take μ.length
    rw [g1.takeEq] at t
    exact p1 σ H1 μ g1.forget (by rw [← hst.len]; exact t) (he.mono g1.forget)
theorem ds_ret (ha : DE G X W e g) : DS G X W (.Return (some e) pos) (sRet g) :=
  PS.weak (ps_ret ha) fun D σ H ⟨env, μ, st, he, hst, h⟩ => by
    refine ⟨env, μ, st, he, hst, (PstS.expr (R := RA G) he h).mono fun v H1 ⟨a, μ1, st1, g1, s1, r1, e1, p1⟩ => ?_⟩
    exact p1 v H1 μ1 g1 s1 r1
theorem ds_retN : DS G X W (.Return none pos) sRetN := PS.weak ps_retN fun D σ H ⟨env, μ, st, he, hs, h⟩ => h .non H μ (Go.refl _ _) hs rfl
theorem ds_if {t : SemT} {f h : SemS} {as bs : List Stmt} (hc : DT G X W c t) (ha : DSs G X W as f) (hb : DSs G X W bs h) : DS G X W (.If c as bs pos) (sIf t f h) :=
  PS.weak (ps_if hc ha hb) fun D σ H ⟨env, μ, st, he, hst, q⟩ => by
    refine ⟨env, μ, st, he, hst, (PstS.expr (R := RB) he q).mono fun v H1 ⟨x, μ1, st1, g1, s1, r1, e1, p1⟩ => ?_⟩
    cases (show v = x from r1)
    cases v with
    | true => exact ⟨env, μ1, st1, e1, s1, PstS.go p1 g1⟩
    | false => exact ⟨env, μ1, st1, e1, s1, PstS.go p1 g1⟩
/-! ### several names at once -/
theorem setAll_ok {μ : List Addr} {H : Hp} : ∀ {is : List Nat} {ds : List D} {env env' : Env} {vs : List V} {σ : L2.St}, setAll is ds env = some env' → RepDs G.K H ds vs → EnvOk G.K G.fa μ H env σ →
    vs.length = is.length ∧ EnvOk G.K G.fa μ H env' ((is.zip vs).foldl (fun σ iv => σ.set iv.1 (some iv.2)) σ)
  | [], [], _, _, _, _, h, r, he => by cases h; cases r; exact ⟨rfl, he⟩
  | i :: is, d :: ds, env, env', _, σ, h, r, he => by
    obtain ⟨v, w, rfl, r1, r2⟩ := r
    obtain ⟨l, e⟩ := setAll_ok (env := env.set i (some (.d d))) (σ := σ.set i (some v)) h r2 (he.set (a := .d d) r1)
    exact ⟨by rw [List.length_cons, List.length_cons, l], e⟩
  | [], _ :: _, _, _, _, _, h, _, _ => nomatch h
  | _ :: _, [], _, _, _, _, h, _, _ => nomatch h
/-- the targets of an unpacking: local names -/
inductive NamesAt (X : Cx) : List Expr → List Nat → Prop
  | nil : NamesAt X [] []
  | cons {x : Str} {p : Pos} {i : Nat} {es : List Expr} {is : List Nat} : X.N[i]? = some x → Loc X.env.scope x → (X.fn x = true ∨ X.env.scope.names.lookup x = some .local) → NamesAt X es is → NamesAt X (.Name x p :: es) (i :: is)
def gNames : List Nat → TGs
  | [] => gNil_
  | i :: is => gCons_ (gName i) (gNames is)
where
  gNil_ : TGs := L2.gNil
  gCons_ : TG → TGs → TGs := L2.gCons
theorem pgs_names (hN : X.N.Nodup) : ∀ {es : List Expr} {is : List Nat}, NamesAt X es is → PGs X es (gNames is) ∧ (assignEach es X.env).length = is.length ∧ (assignEach es X.env).findIdx? (·.1) = none
  | _, _, .nil => ⟨pgs_nil, rfl, rfl⟩
  | _, _, .cons (x := x) (p := p) h1 h2 h3 t => by
    obtain ⟨a1, a2, a3⟩ := pgs_names hN t
    refine ⟨pgs_cons (pg_name hN h1 h2 h3) a1 rfl, ?_, ?_⟩
    · show (assignEach _ X.env).length + 1 = _
      rw [a2]; rfl
    · show List.findIdx? _ ((false, _) :: assignEach _ X.env) = none
      rw [List.findIdx?_cons, a3]; rfl
theorem gNames_run : ∀ {is : List Nat} {vs : List V} {σ : L2.St} {H : Hp} {Q : L2.St → Hp → Prop}, vs.length = is.length → Q ((is.zip vs).foldl (fun σ iv => σ.set iv.1 (some iv.2)) σ) H → gNames is vs σ H Q
  | [], [], _, _, _, _, q => ⟨rfl, q⟩
  | i :: is, v :: vs, _, _, _, h, q => ⟨v, vs, rfl, gNames_run (by simpa using h) q⟩
  | [], _ :: _, _, _, _, h, _ => nomatch h
  | _ :: _, [], _, _, _, h, _ => nomatch h
/-- a, b, .. = a tuple or a list -/
def gSeq (K : Fr) (n : Nat) (t : TGs) : TG := fun v σ H Q => ∃ a xs, v = .ref a ∧ (SqT K H a xs ∨ SqL K H a xs) ∧ xs.length = n ∧ t xs σ H Q
theorem pg_seq {ts : List Expr} {k : Nat} {t : TGs} {n : Nat} (hc : X.calm = true) (h : PGs X ts t) (hn : (assignEach ts X.env).length = n) (hst : (assignEach ts X.env).findIdx? (·.1) = none) : PG X (.Tuple ts k pos) (gSeq X.K n t) := by
  refine ⟨fun pins s σ H v u Q I r hw => ?_⟩
  obtain ⟨a, xs, e1, hq, hl, hw⟩ := hw
  rcases hq with hq | hq
  · exact (pg_tup (n := n) hc h hn hst).run pins s σ H v u Q I r ⟨a, xs, e1, hq, hl, hw⟩
  · exact (pg_lst (n := n) hc h hn hst).run pins s σ H v u Q I r ⟨a, xs, e1, hq, hl, hw⟩
theorem ds_unpack {ts : List Expr} {is : List Nat} {k : Nat} (hK : G.K = X.K) (hc : X.calm = true) (hN : X.N.Nodup) (hns : NamesAt X ts is) (ha : DE G X W e g)
    (hs : swapsWithSole [.Tuple ts k p] e pos.line X.env = pure false) (hw : swappedStores [.Tuple ts k p] e X.env = pure none) : DS G X W (.Assign [.Tuple ts k p] e pos) (sUnpack is g) := by
  obtain ⟨a1, a2, a3⟩ := pgs_names hN hns
  refine PS.weak (ps_asg ha (pg_seq (n := is.length) hc a1 a2 a3) hs hw rfl) fun D σ H ⟨env, μ, st, he, hst, h⟩ => ?_
  refine ⟨env, μ, st, he, hst, (PstS.expr (R := RA G) he h).mono fun v H1 ⟨a, μ1, st1, g1, s1, r1, e1, p1⟩ => ?_⟩
  have t := s1.take μ.length
  rw [g1.takeEq] at t
  have e0 := he.mono g1.forget
  split at p1
  · rename_i l en
    split at p1
    · rename_i env1 es
      obtain ⟨b, xs, rfl, hq, hr⟩ := now_rep s1 r1 en
      obtain ⟨l1, l2⟩ := setAll_ok es hr e0
      exact ⟨b, xs, rfl, .inl (by rw [← hK]; exact hq), l1, gNames_run l1 (p1 _ H1 μ g1.forget (by rw [← hst.len]; exact t) l2)⟩
    · exact p1.elim
  · rename_i l en
    split at p1
    · rename_i env1 es
      obtain ⟨b, xs, rfl, hq, hr⟩ := now_rep s1 r1 en
      obtain ⟨l1, l2⟩ := setAll_ok es hr e0
      exact ⟨b, xs, rfl, .inr (.inl hq), l1, gNames_run l1 (p1 _ H1 μ g1.forget (by rw [← hst.len]; exact t) l2)⟩
    · exact p1.elim
  · exact p1.elim
end
end PD
end

section
set_option Elab.async false
set_option linter.all false
set_option maxRecDepth 100000
set_option maxHeartbeats 4000000
/-! PD9: what is walked. -/
namespace PD
open PySem PySem.Spec PyProof.Rows L2

mutual
theorem same_eq : ∀ (x y : D), D.same x y = true → x = y
  | .non, y, h => by cases y <;> first | rfl | (simp [D.same] at h)
  | .bl a, y, h => by cases y <;> simp [D.same] at h; rw [h]
  | .int a, y, h => by cases y <;> simp [D.same] at h; rw [h]
  | .str a, y, h => by cases y <;> simp [D.same] at h; rw [h]
  | .tup a, y, h => by
    cases y with
    | tup b => rw [sames_eq a b (by simpa [D.same] using h)]
    | _ => simp [D.same] at h
  | .lst a, y, h => by
    cases y with
    | lst b => rw [sames_eq a b (by simpa [D.same] using h)]
    | _ => simp [D.same] at h
theorem sames_eq : ∀ (x y : List D), D.sames x y = true → x = y
  | [], y, h => by cases y <;> first | rfl | (simp [D.sames] at h)
  | a :: x, y, h => by
    cases y with
    | nil => simp [D.sames] at h
    | cons b y =>
      simp only [D.sames, Bool.and_eq_true] at h
      rw [same_eq a b h.1, sames_eq x y h.2]
end

/-! ### enumerate(text), enumerate(tuple) -/
def Ites (z : Str) : It :=
  ⟨fun i _ => i < z.cps.size, fun i H v H' => ∃ T c, v = .ref T ∧ H T = none ∧ H' = upd H T (.tup [.int (i : Nat), .str ⟨#[c]⟩]) ∧ z.cps[i]? = some c, fun i _ => i = z.cps.size⟩
theorem turn_enumS {P : Program} {w : World} {K : PySem.W.Frag} {elts : List Expr} {kk : Nat} {tpos : Pos} (e it : Addr) (z : Str) (t : Tok) :
    Turn P w K (.Tuple elts kk tpos) (Ites z) [e, it] e (fun i h => (∃ old, IsEnum h e it ((i : Nat) : Int) old) ∧ h.IsStrIter it (strIterType z) z t i ∧ e ≠ it) where
  mem := by simp
  obj := fun i h st b hb => by
    obtain ⟨⟨old, he⟩, ⟨o, ho, hc, hd⟩, _⟩ := st
    have e' : b = e ∨ b = it := by simpa using hb
    rcases e' with z | z
    · rw [z]; exact ⟨_, he, fun v q => nomatch q⟩
    · rw [z]; exact ⟨o, ho, fun v q => by rw [hd] at q; cases q⟩
  keep := fun i h h' st k => let ⟨⟨old, he⟩, hi, hne⟩ := st; ⟨⟨old, k e (by simp) _ he⟩, let ⟨o, ho, r⟩ := hi; ⟨o, k it (by simp) o ho, r⟩, hne⟩
  item := by
    intro X hP hw hK hc i pins s σ H E I hf st hg
    subst hP hw hK
    obtain ⟨⟨old, he⟩, hit, hne⟩ := st
    have hel : e < s.heap.objs.size := Heap.lt_size he
    have hil : it < s.heap.objs.size := by obtain ⟨_, q, _⟩ := hit; exact Heap.lt_size q
    have D := Draws.text (prog := X.prog) (w := X.w) (A := X.A.in1) (I.ok.hd hc) it z t
    refine wpAny_pyNext_enum_itemD D he hit hg hne (by simpa using hne) fun u h' tk hu ho hit' hT hsz hk => ?_
    obtain ⟨c, uu, hcx, rfl⟩ := hu
    refine ⟨_, rfl, wpAny_letOwnedTupleGo_enum (s := { s with heap := h', toks := tk + 1 }) ho fun h'' he' sb => ?_⟩
    have hT2 : h''.get? s.heap.objs.size = some { cls := .type "tuple", data := .seq #[.int i tk, .str ⟨#[c]⟩ uu] } := (sb.2 _ (Nat.ne_of_gt hel)).trans hT
    have new : ObjOk X.prog X.w (upd H s.heap.objs.size (.tup [.int (i : Nat), .str ⟨#[c]⟩])) h'' s.heap.objs.size (.tup [.int (i : Nat), .str ⟨#[c]⟩]) :=
      ⟨by show 2 ≤ sizeLine; decide, [.int i tk, .str ⟨#[c]⟩ uu], .cons ⟨_, rfl⟩ (.cons ⟨_, rfl⟩ .nil), ⟨_, hT2, rfl, _, rfl⟩⟩
    have I1 : Inv X pins σ (upd H s.heap.objs.size (.tup [.int (i : Nat), .str ⟨#[c]⟩])) { s with heap := h'', toks := tk + 1 } :=
      I.turnedNew (ch := [e, it]) (fun b ob hb q => (sb.2 b (fun z => hb (by simp [z]))).trans (hk b ob (fun z => hb (by simp [z])) (fun z => hb (by simp [z])) q)) hf (Nat.le_refl _) new
    refine ⟨.ref s.heap.objs.size, _, I1, rfl, ⟨_, c, rfl, I.hok.fresh (Nat.le_refl _), rfl, hcx⟩, ⟨⟨.str ⟨#[c]⟩ uu, ?_⟩, ?_, hne⟩, fun b hb => ?_⟩
    · have e1 : ((i + 1 : Nat) : Int) = (i : Int) + 1 := by omega
      rw [e1]; exact he'
    · obtain ⟨o, ho2, r⟩ := hit'
      exact ⟨o, (sb.2 it (Ne.symm hne)).trans ho2, r⟩
    · have hb' : b < s.heap.objs.size := by
        have e' : b = e ∨ b = it := by simpa using hb
        rcases e' with z | z
        · rw [z]; exact hel
        · rw [z]; exact hil
      rw [upd_ne (Nat.ne_of_lt hb')]
      exact (hf b hb).1
  done := by
    intro X hP hw hK hc i pins s σ H E I hf st hg
    subst hP hw hK
    obtain ⟨⟨old, he⟩, hit, hne⟩ := st
    have D := Draws.text (prog := X.prog) (w := X.w) (A := X.A.in1) (I.ok.hd hc) it z t
    obtain ⟨f0, f1, f2, f3, f4, f5⟩ := hf it (by simp)
    have hg' : i = z.cps.size := hg
    subst hg'
    exact wpAny_pyNext_enum_endD D he hit fun h' eb => ⟨rfl, I.turned (t' := s.toks) (fun b o hb q => eb b o hb q) f0 f1 f3 f4 f5⟩
  self := fun A i s Q E st h => let ⟨⟨_, he⟩, _⟩ := st; wpAny_pyIter_enum he h
def iEnumS (ta : TA) : TI := fun σ H R => ta σ H fun vs H1 => ∃ z, vs = [.str z] ∧ R (Ites z) H1
theorem pi_enumS {X : Cx} {e : Expr} {ta : TA} {p pos tpos : Pos} {elts : List Expr} {kk : Nat} (hg : Gl X "enumerate") (hm : X.mg "enumerate" = none) (ha : PA X [e] ta) (hs : starEach [e] X.env = [(false, eval e X.env)]) :
    PI X (.Tuple elts kk tpos) (.Call (.Name "enumerate" p) [e] [] pos) (iEnumS ta) := by
  refine ⟨fun pins s σ H R I h => ?_⟩
  refine Call_ (ld_blt I hg hm boot_enumerate (PyProof.Rows.callWith_type1 (thn (ha.run pos pins s σ H _ I h) fun us s1 ⟨vs, H1, I1, r1, q1⟩ => ?_) hs rfl))
  obtain ⟨z, ex, q⟩ := q1
  subst ex
  cases r1 with
  | cons r rr =>
    cases rr
    obtain ⟨t, rfl⟩ := r
    refine call_enumerate_str fun h' he hit hsz hk => wpAny_pyIter_enum he ?_
    have I2 : Inv X pins σ H1 { s1 with heap := h' } := I1.kept (t' := s1.toks) hk
    refine ⟨s1.heap.objs.size + 1, [s1.heap.objs.size + 1, s1.heap.objs.size], _, _, H1, rfl, I2, turn_enumS (s1.heap.objs.size + 1) s1.heap.objs.size z t, ⟨⟨.none, he⟩, hit, Nat.succ_ne_self _⟩, fun b hb => ?_, q⟩
    have e' : b = s1.heap.objs.size + 1 ∨ b = s1.heap.objs.size := by simpa using hb
    have hle : s1.heap.objs.size ≤ b := by
      rcases e' with z | z
      · rw [z]; exact Nat.le_add_right _ _
      · rw [z]; exact Nat.le_refl _
    exact I1.fpOk hle (I1.hok.fresh hle)
/-- the tuple at a, each item in a new pair -/
def Itet (K : PySem.W.Frag) (a : Addr) : It :=
  ⟨fun i H => ∃ (xs : List V) (x : V), SqT K H a xs ∧ xs[i]? = some x, fun i H v H' => ∃ T x, v = .ref T ∧ H T = none ∧ H' = upd H T (.tup [.int (i : Nat), x]) ∧ ∀ xs, SqT K H a xs → xs[i]? = some x, fun i H => ∃ xs : List V, SqT K H a xs ∧ xs.length = i⟩
theorem turn_enumT {P : Program} {w : World} {K : PySem.W.Frag} {elts : List Expr} {kk : Nat} {tpos : Pos} (a e it : Addr) :
    Turn P w K (.Tuple elts kk tpos) (Itet K a) [e, it] e (fun i h => (∃ old, IsEnum h e it ((i : Nat) : Int) old) ∧ h.IsTupleIter it a i ∧ e ≠ it) where
  mem := by simp
  obj := fun i h st b hb => by
    obtain ⟨⟨old, he⟩, ⟨o, ho, hc, hd⟩, _⟩ := st
    have e' : b = e ∨ b = it := by simpa using hb
    rcases e' with z | z
    · rw [z]; exact ⟨_, he, fun v q => nomatch q⟩
    · rw [z]; exact ⟨o, ho, fun v q => by rw [hd] at q; cases q⟩
  keep := fun i h h' st k => let ⟨⟨old, he⟩, hi, hne⟩ := st; ⟨⟨old, k e (by simp) _ he⟩, hi.at fun o q => k it (by simp) o q, hne⟩
  item := by
    intro X hP hw hK hc i pins s σ H E I hf st hg
    subst hP hw hK
    obtain ⟨⟨old, he⟩, hit, hne⟩ := st
    obtain ⟨xs, x, hq, hx⟩ := hg
    obtain ⟨its, rv, p, hz⟩ := I.tuple hq
    obtain ⟨u, hu, ru⟩ := rv.get hx
    have hel : e < s.heap.objs.size := Heap.lt_size he
    have hil : it < s.heap.objs.size := by obtain ⟨_, q, _⟩ := hit; exact Heap.lt_size q
    have ht : s.heap.IsTuple a its.toArray := p
    have hea : e ≠ a := by
      rintro rfl
      obtain ⟨o, ho, hc', _⟩ := ht
      rw [he] at ho; cases ho; exact absurd (show Value.type "enumerate" = Value.type "tuple" from hc') (by decide)
    have hai : a ≠ it := by
      rintro rfl
      obtain ⟨o, ho, hc', _⟩ := ht
      obtain ⟨o2, ho2, hc2, _⟩ := hit
      rw [ho] at ho2; cases ho2; rw [hc'] at hc2; exact absurd hc2 (by decide)
    have D := Draws.tuple (prog := X.prog) (w := X.w) (A := X.A.in1) (I.ok.hd hc) it a hai its.toArray
    have hlt : i < its.toArray.size := by
      have := (List.getElem?_eq_some_iff.mp hu).1
      simpa using this
    refine wpAny_pyNext_enum_itemD D he ⟨hit, ht⟩ hlt hne (by simp [hne, hea]) fun u2 h' tk hu2 ho hit' hT hsz hk => ?_
    have eu : u2 = u := by
      have : its.toArray[i]? = some u2 := hu2
      rw [show its.toArray[i]? = its[i]? from by simp, hu] at this
      exact (Option.some.inj this).symm
    subst eu
    refine ⟨_, rfl, wpAny_letOwnedTupleGo_enum (s := { s with heap := h', toks := tk + 1 }) ho fun h'' he' sb => ?_⟩
    have hT2 : h''.get? s.heap.objs.size = some { cls := .type "tuple", data := .seq #[.int i tk, u2] } := (sb.2 _ (Nat.ne_of_gt hel)).trans hT
    have new : ObjOk X.prog X.w (upd H s.heap.objs.size (.tup [.int (i : Nat), x])) h'' s.heap.objs.size (.tup [.int (i : Nat), x]) :=
      ⟨by show 2 ≤ sizeLine; decide, [.int i tk, u2], .cons ⟨_, rfl⟩ (.cons ru .nil), ⟨_, hT2, rfl, _, rfl⟩⟩
    have I1 : Inv X pins σ (upd H s.heap.objs.size (.tup [.int (i : Nat), x])) { s with heap := h'', toks := tk + 1 } :=
      I.turnedNew (ch := [e, it]) (fun b ob hb q => (sb.2 b (fun z => hb (by simp [z]))).trans (hk b ob (fun z => hb (by simp [z])) (fun z => hb (by simp [z])) q)) hf (Nat.le_refl _) new
    refine ⟨.ref s.heap.objs.size, _, I1, rfl, ⟨_, x, rfl, I.hok.fresh (Nat.le_refl _), rfl, fun ys hy => by rw [I.tuple_inj hy hq]; exact hx⟩, ⟨⟨u2, ?_⟩, hit'.1.at fun o q => (sb.2 it (Ne.symm hne)).trans q, hne⟩, fun b hb => ?_⟩
    · have e1 : ((i + 1 : Nat) : Int) = (i : Int) + 1 := by omega
      rw [e1]; exact he'
    · have hb' : b < s.heap.objs.size := by
        have e' : b = e ∨ b = it := by simpa using hb
        rcases e' with z | z
        · rw [z]; exact hel
        · rw [z]; exact hil
      rw [upd_ne (Nat.ne_of_lt hb')]
      exact (hf b hb).1
  done := by
    intro X hP hw hK hc i pins s σ H E I hf st hg
    subst hP hw hK
    obtain ⟨⟨old, he⟩, hit, hne⟩ := st
    obtain ⟨xs, hq, hx⟩ := hg
    obtain ⟨its, rv, p, hz⟩ := I.tuple hq
    have ht : s.heap.IsTuple a its.toArray := p
    have hai : a ≠ it := by
      rintro rfl
      obtain ⟨o, ho, hc', _⟩ := ht
      obtain ⟨o2, ho2, hc2, _⟩ := hit
      rw [ho] at ho2; cases ho2; rw [hc'] at hc2; exact absurd hc2 (by decide)
    obtain ⟨f0, f1, f2, f3, f4, f5⟩ := hf it (by simp)
    have hl := rv.length
    have D := Draws.tuple (prog := X.prog) (w := X.w) (A := X.A.in1) (I.ok.hd hc) it a hai its.toArray
    have ei : i = its.toArray.size := by simp; omega
    subst ei
    exact wpAny_pyNext_enum_endD D he ⟨hit, ht⟩ fun h' eb => ⟨rfl, I.turned (t' := s.toks) (fun b o hb q => eb b o hb q) f0 f1 f3 f4 f5⟩
  self := fun A i s Q E st h => let ⟨⟨_, he⟩, _⟩ := st; wpAny_pyIter_enum he h
open AutoSeq1 (wpAny_loadPart') in
set_option maxHeartbeats 1000000 in
theorem meets_enumerate_newT (l : Addr) (items : Array Value) :
    Meets (Builtin.«enumerate.__new__» ⟨[.type "enumerate", .ref l], []⟩) (fun _ R s => s.heap.IsTuple l items ∧
      R (.ok (.ret (.ref (s.heap.push { cls := .type "tuple_iterator", data := .fields #[.ref l, .int 0 0] }).objs.size)))
        { s with heap := (s.heap.push { cls := .type "tuple_iterator", data := .fields #[.ref l, .int 0 0] }).push { cls := .type "enumerate", data := .fields #[.none, .bool false, .ref s.heap.objs.size, rawInt 0, .none, .none] } }) :=
  .of_wp fun prog w A R s h => by
    obtain ⟨hp, g, d, tk, os⟩ := s; obtain ⟨hl, h⟩ := h
    have hsub := sub_enumerate
    have hL : Heap.IsTuple (Shared.heap ⟨hp, g, d, tk, os⟩) l items := hl
    wp_walk using wpAny_pyIter_tuple hL
    refine wpAny_stack_any fun st => wpAny_pure ?_
    split
    · rename_i c _ _ _ _ _
      cases (c == Value.type "enumerate")
      · wp_walk using wpAny_pyIter_tuple hL
        exact ⟨_, rfl, h⟩
      · wp_walk using wpAny_pyIter_tuple hL
        exact ⟨_, rfl, h⟩
    · wp_walk using wpAny_pyIter_tuple hL
      exact ⟨_, rfl, h⟩
section
variable {prog : Program} {w : World} {A : Around} {E : Value → Shared → Prop} {s : Shared}
theorem call_enumerate_tup {l : Addr} {items : Array Value} {Q : Value → Shared → Prop} (hL : s.heap.IsTuple l items)
    (h : ∀ h', IsEnum h' (s.heap.objs.size + 1) s.heap.objs.size 0 .none → h'.IsTupleIter s.heap.objs.size l 0 → h'.objs.size = s.heap.objs.size + 2 →
      (∀ b o, s.heap.get? b = some o → h'.get? b = some o) → Q (.ref (s.heap.objs.size + 1)) { s with heap := h' }) :
    wpAny (model prog w) A (call (.type "enumerate") [.ref l]) Q E s := by
  refine callType_new F.called_enumerate (by decide) (F.typeCall_enumerate_1 _) (F.newCall_enumerate_1 _) (fun obj => F.args_object_init_2 obj _) F.entry_enumerate_new
    (meets_enumerate_newT l items) ⟨hL, ?_⟩
  have hz : (s.heap.push { cls := .type "tuple_iterator", data := .fields #[.ref l, .int 0 0] }).objs.size = s.heap.objs.size + 1 := Heap.size_push ..
  show _ ∧ _
  rw [hz]
  have he : IsEnum ((s.heap.push { cls := .type "tuple_iterator", data := .fields #[.ref l, .int 0 0] }).push
      { cls := .type "enumerate", data := .fields #[.none, .bool false, .ref s.heap.objs.size, rawInt 0, .none, .none] }) (s.heap.objs.size + 1) s.heap.objs.size 0 .none := by
    have := Heap.get?_push_size (s.heap.push { cls := .type "tuple_iterator", data := .fields #[.ref l, .int 0 0] })
      (o := { cls := .type "enumerate", data := .fields #[.none, .bool false, .ref s.heap.objs.size, rawInt 0, .none, .none] }) rfl
    rw [hz] at this; exact this
  refine ⟨⟨_, he, rfl⟩, h _ he ⟨_, Heap.get?_push_of_some _ (Heap.get?_push_size _ rfl), rfl, rfl⟩ (by rw [Heap.size_push, hz]) fun b o x => Heap.get?_push_of_some _ (Heap.get?_push_of_some _ x)⟩
end
def iEnumT (K : PySem.W.Frag) (ta : TA) : TI := fun σ H R => ta σ H fun vs H1 => ∃ a xs, vs = [.ref a] ∧ SqT K H1 a xs ∧ R (Itet K a) H1
theorem pi_enumT {X : Cx} {e : Expr} {ta : TA} {p pos tpos : Pos} {elts : List Expr} {kk : Nat} (hg : Gl X "enumerate") (hm : X.mg "enumerate" = none) (ha : PA X [e] ta) (hs : starEach [e] X.env = [(false, eval e X.env)]) :
    PI X (.Tuple elts kk tpos) (.Call (.Name "enumerate" p) [e] [] pos) (iEnumT X.K ta) := by
  refine ⟨fun pins s σ H R I h => ?_⟩
  refine Call_ (ld_blt I hg hm boot_enumerate (PyProof.Rows.callWith_type1 (thn (ha.run pos pins s σ H _ I h) fun us s1 ⟨vs, H1, I1, r1, q1⟩ => ?_) hs rfl))
  obtain ⟨a, xs, ex, hq, q⟩ := q1
  subst ex
  cases r1 with
  | cons r rr =>
    cases rr
    cases r
    obtain ⟨its, rv, p', hz⟩ := I1.tuple hq
    refine call_enumerate_tup (show s1.heap.IsTuple a its.toArray from p') fun h' he hit hsz hk => wpAny_pyIter_enum he ?_
    have I2 : Inv X pins σ H1 { s1 with heap := h' } := I1.kept (t' := s1.toks) hk
    refine ⟨s1.heap.objs.size + 1, [s1.heap.objs.size + 1, s1.heap.objs.size], _, _, H1, rfl, I2, turn_enumT a (s1.heap.objs.size + 1) s1.heap.objs.size, ⟨⟨.none, he⟩, hit, Nat.succ_ne_self _⟩, fun b hb => ?_, q⟩
    have e' : b = s1.heap.objs.size + 1 ∨ b = s1.heap.objs.size := by simpa using hb
    have hle : s1.heap.objs.size ≤ b := by
      rcases e' with z | z
      · rw [z]; exact Nat.le_add_right _ _
      · rw [z]; exact Nat.le_refl _
    exact I1.fpOk hle (I1.hok.fresh hle)
end PD
end

section
set_option Elab.async false
set_option linter.all false
set_option maxRecDepth 100000
set_option maxHeartbeats 4000000
/-! PD10: rules for what is walked. -/
namespace PD
open PySem PySem.Spec PyProof.Rows L2

/-- the i-th of the items -/
def YD (K : Fr) (items : List D) : Nat → Hp → V → Hp → Prop := fun i H x H' => Grow H H' ∧ ∃ d, items[i]? = some d ∧ RepD K H' d x
def RI (G : Gb) : RP Src It := fun μ H src J => ∃ Gd : Hp → Prop, Walk J src.items.length Gd (YD G.K src.items) ∧ ∀ μ' st' H', Go μ H μ' H' → StOk G.K H' μ' st' → src.ok st' = true → Gd H'
def rdI (G : Gb) (W : WX) (g : SemI) : TI := fun σ H R => ∃ env μ st, EnvOk G.K G.fa μ H env σ ∧ StOk G.K H μ st ∧ Pst G W σ μ H (RI G) (g env st) R
abbrev DI (G : Gb) (X : Cx) (W : WX) (tg it : Expr) (g : SemI) : Prop := PI X tg it (rdI G W g)
theorem PI.weak {X : Cx} {tg it : Expr} {t t' : TI} (h : PI X tg it t) (k : ∀ σ H Q, t' σ H Q → t σ H Q) : PI X tg it t' := ⟨fun pins s σ H Q I q => h.run pins s σ H Q I (k σ H Q q)⟩

/-! ### walks -/
section
variable {K : Fr} {a b : Addr} {l m : List D}
theorem walkD_list : Walk (Itl K a) l.length (fun H => ∃ xs, SqL K H a xs ∧ RepDs K H l xs) (YD K l) := by
  refine ⟨fun i H hi ⟨xs, q, r⟩ => ?_, fun H ⟨xs, q, r⟩ => ⟨xs, q, by rw [r.length]; exact Nat.le_refl _⟩, fun i H x H' hi ⟨xs, q, r⟩ y => ?_⟩
  · have e := r.length
    exact ⟨xs, xs[i]'(by omega), q, List.getElem?_eq_getElem _⟩
  · obtain ⟨rfl, y⟩ := y
    exact ⟨Grow.refl _, r.got (y xs q)⟩
theorem walkD_tup : Walk (Itt K a) l.length (fun H => ∃ xs, SqT K H a xs ∧ RepDs K H l xs) (YD K l) := by
  refine ⟨fun i H hi ⟨xs, q, r⟩ => ?_, fun H ⟨xs, q, r⟩ => ⟨xs, q, by rw [r.length]; exact Nat.le_refl _⟩, fun i H x H' hi ⟨xs, q, r⟩ y => ?_⟩
  · have e := r.length
    exact ⟨xs, xs[i]'(by omega), q, List.getElem?_eq_getElem _⟩
  · obtain ⟨rfl, y⟩ := y
    exact ⟨Grow.refl _, r.got (y xs q)⟩
theorem rangeL_len (lo hi : Int) : (rangeL lo hi).length = (hi - lo).toNat := by simp [rangeL]
theorem rangeL_get {lo hi : Int} {i : Nat} (h : i < (hi - lo).toNat) : (rangeL lo hi)[i]? = some (.int (lo + (i : Nat))) := by
  unfold rangeL
  rw [List.getElem?_map, List.getElem?_range h]; rfl
theorem walkD_range {lo hi : Int} : Walk (Itr lo (hi - lo).toNat) (rangeL lo hi).length (fun _ => True) (YD K (rangeL lo hi)) := by
  rw [rangeL_len]
  refine ⟨fun i H hi _ => hi, fun H _ => Nat.le_refl _, fun i H x H' hi _ y => ?_⟩
  obtain ⟨rfl, rfl⟩ := y
  exact ⟨Grow.refl _, _, rangeL_get hi, rfl⟩
theorem signs_len (s : List Nat) : (signs s).length = s.length := by simp [signs]
theorem goodS_get {s : List Nat} {c i : Nat} (h : goodS s = true) (e : s[i]? = some c) : goodS [c] = true := by
  unfold goodS at h ⊢
  rw [List.all_eq_true] at h
  simpa using h c (List.mem_of_getElem? e)
theorem walkD_str {s : List Nat} (hs : goodS s = true) : Walk (Its ⟨s.toArray⟩) (signs s).length (fun _ => True) (YD K (signs s)) := by
  rw [signs_len]
  refine ⟨fun i H hi _ => ?_, fun H _ => ?_, fun i H x H' hi _ y => ?_⟩
  · show i < s.toArray.size
    simpa using hi
  · show s.toArray.size ≤ s.length
    simp
  · obtain ⟨rfl, c, hc, rfl⟩ := y
    have hc' : s[i]? = some c := by simpa using hc
    refine ⟨Grow.refl _, .str [c], ?_, ⟨rfl, goodS_get hs hc'⟩⟩
    unfold signs
    rw [List.getElem?_map, hc']; rfl
theorem numbered_len : ∀ (k : Nat) (l : List D), (numbered k l).length = l.length
  | _, [] => rfl
  | k, d :: r => by rw [numbered, List.length_cons, List.length_cons, numbered_len (k + 1) r]
theorem numbered_get : ∀ (l : List D) (k i : Nat) (d : D), l[i]? = some d → (numbered k l)[i]? = some (.tup [.int ((k + i : Nat) : Int), d])
  | [], _, _, _, e => by simp at e
  | x :: r, k, 0, d, e => by simp at e; subst e; rfl
  | x :: r, k, i + 1, d, e => by
    rw [numbered, List.getElem?_cons_succ, numbered_get r (k + 1) i d (by simpa using e)]
    rw [show k + 1 + i = k + (i + 1) by omega]
theorem walkD_enum : Walk (Ite K a) (numbered 0 l).length (fun H => ∃ xs, SqL K H a xs ∧ RepDs K H l xs) (YD K (numbered 0 l)) := by
  rw [numbered_len]
  refine ⟨fun i H hi ⟨xs, q, r⟩ => ?_, fun H ⟨xs, q, r⟩ => ⟨xs, q, by rw [r.length]; exact Nat.le_refl _⟩, fun i H x H' hi ⟨xs, q, r⟩ y => ?_⟩
  · have e := r.length
    exact ⟨xs, xs[i]'(by omega), q, List.getElem?_eq_getElem _⟩
  · obtain ⟨T, x, rfl, hT, rfl, y⟩ := y
    obtain ⟨d, hd, rd⟩ := r.got (y xs q)
    have gw : Grow H (upd H T (.tup [.int (i : Nat), x])) := Grow.new hT
    refine ⟨gw, _, numbered_get l 0 i d hd, T, _, rfl, SqT.of upd_same, .cons ?_ (.cons (rd.mono gw.ext d x) .nil)⟩
    show V.int _ = V.int _
    rw [Nat.zero_add]
theorem walkD_enumT : Walk (Itet K a) (numbered 0 l).length (fun H => ∃ xs, SqT K H a xs ∧ RepDs K H l xs) (YD K (numbered 0 l)) := by
  rw [numbered_len]
  refine ⟨fun i H hi ⟨xs, q, r⟩ => ?_, fun H ⟨xs, q, r⟩ => ⟨xs, q, r.length⟩, fun i H x H' hi ⟨xs, q, r⟩ y => ?_⟩
  · have e := r.length
    exact ⟨xs, xs[i]'(by omega), q, List.getElem?_eq_getElem _⟩
  · obtain ⟨T, x, rfl, hT, rfl, y⟩ := y
    obtain ⟨d, hd, rd⟩ := r.got (y xs q)
    have gw : Grow H (upd H T (.tup [.int (i : Nat), x])) := Grow.new hT
    refine ⟨gw, _, numbered_get l 0 i d hd, T, _, rfl, SqT.of upd_same, .cons ?_ (.cons (rd.mono gw.ext d x) .nil)⟩
    show V.int _ = V.int _
    rw [Nat.zero_add]
theorem walkD_enumS {s : List Nat} (hs : goodS s = true) : Walk (Ites ⟨s.toArray⟩) (numbered 0 (signs s)).length (fun _ => True) (YD K (numbered 0 (signs s))) := by
  rw [numbered_len, signs_len]
  refine ⟨fun i H hi _ => ?_, fun H _ => ?_, fun i H x H' hi _ y => ?_⟩
  · show i < s.toArray.size
    simpa using hi
  · show s.length = s.toArray.size
    simp
  · obtain ⟨T, c, rfl, hT, rfl, hc⟩ := y
    have hc' : s[i]? = some c := by simpa using hc
    have gw : Grow H (upd H T (.tup [.int (i : Nat), .str ⟨#[c]⟩])) := Grow.new hT
    have hg : (signs s)[i]? = some (.str [c]) := by
      unfold signs
      rw [List.getElem?_map, hc']; rfl
    refine ⟨gw, _, numbered_get (signs s) 0 i _ hg, T, _, rfl, SqT.of upd_same, .cons ?_ (.cons ⟨rfl, goodS_get hs hc'⟩ .nil)⟩
    show V.int _ = V.int _
    rw [Nat.zero_add]
theorem paired_len : ∀ (l m : List D), (paired l m).length = min l.length m.length
  | [], _ => by simp [paired]
  | _ :: _, [] => by simp [paired]
  | x :: xs, y :: ys => by
    rw [paired, List.length_cons, paired_len xs ys, List.length_cons, List.length_cons]; omega
theorem paired_get : ∀ (l m : List D) (i : Nat) (d e : D), l[i]? = some d → m[i]? = some e → (paired l m)[i]? = some (.tup [d, e])
  | [], _, _, _, _, h, _ => by simp at h
  | _ :: _, [], _, _, _, _, h => by simp at h
  | x :: xs, y :: ys, 0, d, e, h, k => by simp at h k; subst h; subst k; rfl
  | x :: xs, y :: ys, i + 1, d, e, h, k => by
    rw [paired, List.getElem?_cons_succ]
    exact paired_get xs ys i d e (by simpa using h) (by simpa using k)
theorem walkD_zip : Walk (Itz K a b) (paired l m).length (fun H => (∃ xs, SqL K H a xs ∧ RepDs K H l xs) ∧ ∃ xs, SqL K H b xs ∧ RepDs K H m xs) (YD K (paired l m)) := by
  rw [paired_len]
  refine ⟨fun i H hi ⟨⟨xs, q, r⟩, ys, q2, r2⟩ => ?_, fun H ⟨⟨xs, q, r⟩, ys, q2, r2⟩ => ⟨xs, ys, q, q2, by rw [r.length, r2.length]; omega⟩, fun i H x H' hi ⟨⟨xs, q, r⟩, ys, q2, r2⟩ y => ?_⟩
  · have e := r.length
    have e2 := r2.length
    exact ⟨xs, ys, xs[i]'(by omega), ys[i]'(by omega), q, q2, List.getElem?_eq_getElem _, List.getElem?_eq_getElem _⟩
  · obtain ⟨T, x, y, rfl, hT, rfl, y1, y2⟩ := y
    obtain ⟨d, hd, rd⟩ := r.got (y1 xs q)
    obtain ⟨d2, hd2, rd2⟩ := r2.got (y2 ys q2)
    have gw : Grow H (upd H T (.tup [x, y])) := Grow.new hT
    exact ⟨gw, _, paired_get l m i d d2 hd hd2, T, _, rfl, SqT.of upd_same, .cons (rd.mono gw.ext d x) (.cons (rd2.mono gw.ext d2 y) .nil)⟩
theorem walkD_zipT : Walk (RZ.ItzT K a b) (paired l m).length (fun H => (∃ xs, SqT K H a xs ∧ RepDs K H l xs) ∧ ∃ xs, SqT K H b xs ∧ RepDs K H m xs) (YD K (paired l m)) := by
  rw [paired_len]
  refine ⟨fun i H hi ⟨⟨xs, q, r⟩, ys, q2, r2⟩ => ?_, fun H ⟨⟨xs, q, r⟩, ys, q2, r2⟩ => ⟨xs, ys, q, q2, by rw [r.length, r2.length]; omega⟩, fun i H x H' hi ⟨⟨xs, q, r⟩, ys, q2, r2⟩ y => ?_⟩
  · have e := r.length
    have e2 := r2.length
    exact ⟨xs, ys, xs[i]'(by omega), ys[i]'(by omega), q, q2, List.getElem?_eq_getElem _, List.getElem?_eq_getElem _⟩
  · obtain ⟨T, x, y, rfl, hT, rfl, y1, y2⟩ := y
    obtain ⟨d, hd, rd⟩ := r.got (y1 xs q)
    obtain ⟨d2, hd2, rd2⟩ := r2.got (y2 ys q2)
    have gw : Grow H (upd H T (.tup [x, y])) := Grow.new hT
    exact ⟨gw, _, paired_get l m i d d2 hd hd2, T, _, rfl, SqT.of upd_same, .cons (rd.mono gw.ext d x) (.cons (rd2.mono gw.ext d2 y) .nil)⟩
end

/-! ### rows -/
section
variable {G : Gb} {X : Cx} {W : WX} {a b c e : Expr} {es : List Expr} {ga gb gc g : SemE} {gs : SemAs} {pos p p2 p3 apos tpos : Pos} {x : Str} {tg : Expr} {elts : List Expr} {kk : Nat}
theorem held_eq {st : Store} {n : Nat} {l : List D} (h : heldAt st n l = true) : st[n]? = some (.ls l) ∨ st[n]? = some (.fz l) := by
  unfold heldAt at h
  split at h
  · rename_i m e; rw [e, same_of h]; exact .inl rfl
  · rename_i m e; rw [e, same_of h]; exact .inr rfl
  · cases h
where same_of {m l : List D} (h : D.sames m l = true) : m = l := sames_eq m l h
/-- a row's address, and that it stands as long as it is watched -/
theorem row_stands {μ : List Addr} {H : Hp} {st : Store} {xa : A} {v : V} {k : Bool} {l : List D} {w : List (Nat × List D)} (r : RepA G.K G.fa μ H xa v) (s : StOk G.K H μ st) (h : rowOf xa st = some (k, l, w)) :
    ∃ ad, v = .ref ad ∧ ∀ μ' st' H', Go μ H μ' H' → StOk G.K H' μ' st' → (w.all fun w => heldAt st' w.1 w.2) = true →
      (k = true → ∃ xs, SqL G.K H' ad xs ∧ RepDs G.K H' l xs) ∧ (k = false → ∃ xs, SqT G.K H' ad xs ∧ RepDs G.K H' l xs) := by
  unfold rowOf at h
  split at h
  · cases h
    obtain ⟨ad, xs, rfl, q, r⟩ := r
    exact ⟨ad, rfl, fun μ' st' H' g _ _ => ⟨fun z => (nomatch z), fun _ => ⟨xs, g.ext.sqT q, r.mono g.ext l xs⟩⟩⟩
  · cases h
    obtain ⟨ad, xs, rfl, q, r⟩ := r
    exact ⟨ad, rfl, fun μ' st' H' g _ _ => ⟨fun _ => ⟨xs, .inl (g.ext.sqF q).l, r.mono g.ext l xs⟩, fun z => (nomatch z)⟩⟩
  · rename_i n
    obtain ⟨ad, rfl, hm⟩ := r
    refine ⟨ad, rfl, fun μ' st' H' g s' hw => ?_⟩
    have hm' := g.get hm
    split at h
    · cases h
      have hw' : heldAt st' n l = true := by simpa using hw
      refine ⟨fun _ => ?_, fun z => (nomatch z)⟩
      rcases held_eq hw' with e | e
      · obtain ⟨xs, e1, r1⟩ := s'.at_ n ad _ hm' e; exact ⟨xs, .inl (.inl e1), r1⟩
      · obtain ⟨o, xs, e1, r1⟩ := s'.at_ n ad _ hm' e; exact ⟨xs, .inl (.inr ⟨o, e1⟩), r1⟩
    · cases h
      have hw' : heldAt st' n l = true := by simpa using hw
      refine ⟨fun _ => ?_, fun z => (nomatch z)⟩
      rcases held_eq hw' with e | e
      · obtain ⟨xs, e1, r1⟩ := s'.at_ n ad _ hm' e; exact ⟨xs, .inl (.inl e1), r1⟩
      · obtain ⟨o, xs, e1, r1⟩ := s'.at_ n ad _ hm' e; exact ⟨xs, .inl (.inr ⟨o, e1⟩), r1⟩
    · cases h
  · cases h
theorem same_held : ∀ (l : List D), D.sames l l = true := by
  have key : (∀ d : D, D.same d d = true) := fun d => by
    refine D.rec (motive_1 := fun d => D.same d d = true) (motive_2 := fun l => D.sames l l = true) ?_ ?_ ?_ ?_ ?_ ?_ ?_ ?_ d
    all_goals (intros; simp_all [D.same, D.sames])
  intro l
  induction l with
  | nil => rfl
  | cons d r ih => simp [D.sames, key d, ih]
theorem row_watch {xa : A} {st : Store} {k : Bool} {l : List D} {w : List (Nat × List D)} (h : rowOf xa st = some (k, l, w)) : (w.all fun w => heldAt st w.1 w.2) = true := by
  unfold rowOf at h
  split at h
  · cases h; rfl
  · cases h; rfl
  · split at h
    · rename_i e; cases h; simp [heldAt, e, same_held]
    · rename_i e; cases h; simp [heldAt, e, same_held]
    · cases h
  · cases h

/-! ### the rules -/
theorem di_val (hK : G.K = X.K) (ha : DE G X W a g) : DI G X W tg a (iVal g) := by
  refine ⟨fun pins s σ H R I h => ?_⟩
  obtain ⟨env, μ, st, he, hs, h⟩ := h
  unfold iVal at h
  cases eg : g env st with
  | bad => rw [eg] at h; exact h.elim
  | exn ee s1 => exact (pi_tup ha).run pins s σ H R I ⟨env, μ, st, he, hs, by rw [eg] at h ⊢; exact h⟩
  | ok xa s1 =>
    rw [eg] at h
    simp only [bind_ok] at h
    split at h
    · rename_i z
      refine (pi_str ha).run pins s σ H R I ⟨env, μ, st, he, hs, ?_⟩
      rw [eg]
      intro v H' μ' g' s' r
      obtain ⟨rfl, hz⟩ := r
      exact ⟨_, rfl, h _ H' μ' g' s' ⟨_, walkD_str hz, fun _ _ _ _ _ _ => trivial⟩⟩
    · split at h
      · rename_i k l w er
        cases k with
        | true =>
          refine (pi_list ha).run pins s σ H R I ⟨env, μ, st, he, hs, ?_⟩
          rw [eg]
          intro v H' μ' g' s' r
          obtain ⟨ad, rfl, q⟩ := row_stands r s' er
          refine ⟨ad, rfl, ?_, h _ H' μ' g' s' ⟨_, by rw [← hK]; exact walkD_list, fun μ2 st2 H2 g2 s2 w2 => (q μ2 st2 H2 g2 s2 w2).1 rfl⟩⟩
          obtain ⟨xs, q1, _⟩ := (q μ' s1 H' (Go.refl _ _) s' (row_watch er)).1 rfl
          exact ⟨xs, by rw [← hK]; exact q1⟩
        | false =>
          refine (pi_tup ha).run pins s σ H R I ⟨env, μ, st, he, hs, ?_⟩
          rw [eg]
          intro v H' μ' g' s' r
          obtain ⟨ad, rfl, q⟩ := row_stands r s' er
          refine ⟨ad, rfl, ?_, h _ H' μ' g' s' ⟨_, by rw [← hK]; exact walkD_tup, fun μ2 st2 H2 g2 s2 w2 => (q μ2 st2 H2 g2 s2 w2).2 rfl⟩⟩
          obtain ⟨xs, q1, _⟩ := (q μ' s1 H' (Go.refl _ _) s' (row_watch er)).2 rfl
          exact ⟨xs, by rw [← hK]; exact q1⟩
      · exact h.elim
/-- one argument -/
theorem arg_one {env : Env} {σ : L2.St} {μ : List Addr} {H : Hp} {st : Store} {Q : List V → Hp → Prop} (h : Pst G W σ μ H (RA G) (g env st) (fun v H' => Q [v] H')) : Pst G W σ μ H (RAs G) (gCons g gNil env st) Q := by
  unfold gCons
  cases eg : g env st with
  | bad => rw [eg] at h; exact h.elim
  | exn ee s1 => rw [eg] at h; exact h
  | ok xa s1 =>
    rw [eg] at h
    intro vs H' μ' g' s' r
    cases r with
    | cons r rr => cases rr; exact h _ H' μ' g' s' r
theorem das_one (ha : DE G X W a g) (hs : starEach [a] X.env = [(false, eval a X.env)]) : DAs G X W [a] (gCons g gNil) := das_cons ha das_nil hs
theorem di_range1 (ha : DE G X W a g) (hg : Gl X "range") (hm : X.mg "range" = none) (hs : starEach [a] X.env = [(false, eval a X.env)]) : DI G X W tg (.Call (.Name "range" p) [a] [] pos) (iRange1 g) :=
  PI.weak (pi_range1 hg hm (das_one ha hs) hs) fun σ H R ⟨env, μ, st, he, hst, h⟩ => by
    refine ⟨env, μ, st, he, hst, arg_one ?_⟩
    refine (Pst.bindB (R := RA G) h).mono fun v H1 ⟨xa, μ1, st1, g1, s1, r1, p1⟩ => ?_
    split at p1
    · rename_i n
      split at p1
      · rename_i hn
        cases (show v = V.int n from r1)
        refine ⟨n, rfl, ?_, ?_, p1 _ H1 μ1 g1 s1 ⟨_, ?_, fun _ _ _ _ _ _ => trivial⟩⟩
        · have := hn.1; unfold big62 at this; omega
        · have := hn.2; unfold big62 at this; omega
        · have w := walkD_range (K := G.K) (lo := 0) (hi := n)
          rw [Int.sub_zero] at w
          exact w
      · exact p1.elim
    · exact p1.elim
theorem das_two (ha : DE G X W a ga) (hb : DE G X W b gb) (hs : starEach [a, b] X.env = [(false, eval a X.env), (false, eval b X.env)]) (hs2 : starEach [b] X.env = [(false, eval b X.env)]) : DAs G X W [a, b] (gCons ga (gCons gb gNil)) :=
  das_cons ha (das_one hb hs2) (by rw [hs, hs2])
theorem di_range2 (ha : DE G X W a ga) (hb : DE G X W b gb) (hg : Gl X "range") (hm : X.mg "range" = none) (hs : starEach [a, b] X.env = [(false, eval a X.env), (false, eval b X.env)]) (hs2 : starEach [b] X.env = [(false, eval b X.env)]) :
    DI G X W tg (.Call (.Name "range" p) [a, b] [] pos) (iRange2 ga gb) :=
  PI.weak (pi_range2 hg hm (das_two ha hb hs hs2) hs hs2) fun σ H R ⟨env, μ, st, he, hst, h⟩ => by
    refine ⟨env, μ, st, he, hst, ?_⟩
    unfold iRange2 at h
    unfold gCons
    cases ea : ga env st with
    | bad => rw [ea] at h; exact h.elim
    | exn ee s1 => rw [ea] at h; exact h
    | ok xa s1 =>
      rw [ea] at h
      simp only [bind_ok] at h ⊢
      cases eb : gb env s1 with
      | bad => rw [eb] at h; exact h.elim
      | exn ee s2 => simp only [gCons, eb, bind_exn]; rw [eb] at h; exact h
      | ok ya s2 =>
        simp only [gCons, eb, bind_ok, gNil]
        rw [eb] at h
        simp only [bind_ok] at h
        intro vs H' μ' g' s' r
        split at h
        · rename_i i j
          split at h
          · rename_i hn
            cases r with
            | cons r rr =>
              cases rr with
              | cons r2 rr =>
                cases rr
                refine ⟨i, j, ?_, ?_, h _ H' μ' g' s' ⟨_, walkD_range, fun _ _ _ _ _ _ => trivial⟩⟩
                · rw [← (show _ = V.int i from r), ← (show _ = V.int j from r2)]
                · obtain ⟨⟨h1, h2⟩, h3, h4⟩ := hn
                  unfold big62 at h1 h2 h3 h4
                  omega
          · exact h.elim
        · exact h.elim
theorem di_enum (hK : G.K = X.K) (ha : DE G X W a g) (hg : Gl X "enumerate") (hm : X.mg "enumerate" = none) (hs : starEach [a] X.env = [(false, eval a X.env)]) :
    DI G X W (.Tuple elts kk tpos) (.Call (.Name "enumerate" p) [a] [] pos) (iEnum g) := by
  refine ⟨fun pins s σ H R I h => ?_⟩
  obtain ⟨env, μ, st, he, hst, h⟩ := h
  unfold iEnum at h
  cases eg : g env st with
  | bad => rw [eg] at h; exact h.elim
  | exn ee s1 => exact (pi_enumT hg hm (das_one ha hs) hs).run pins s σ H R I ⟨env, μ, st, he, hst, arg_one (by rw [eg] at h ⊢; exact h)⟩
  | ok xa s1 =>
    rw [eg] at h
    simp only [bind_ok] at h
    split at h
    · rename_i z
      refine (pi_enumS hg hm (das_one ha hs) hs).run pins s σ H R I ⟨env, μ, st, he, hst, arg_one ?_⟩
      rw [eg]
      intro v H' μ' g' s' r
      obtain ⟨rfl, hz⟩ := r
      exact ⟨_, rfl, h _ H' μ' g' s' ⟨_, walkD_enumS hz, fun _ _ _ _ _ _ => trivial⟩⟩
    · split at h
      · rename_i l w er
        refine (pi_enum hg hm (das_one ha hs) hs).run pins s σ H R I ⟨env, μ, st, he, hst, arg_one ?_⟩
        rw [eg]
        intro v H' μ' g' s' r
        obtain ⟨ad, rfl, q⟩ := row_stands r s' er
        obtain ⟨xs, q1, _⟩ := (q μ' s1 H' (Go.refl _ _) s' (row_watch er)).1 rfl
        exact ⟨ad, xs, rfl, by rw [← hK]; exact q1, h _ H' μ' g' s' ⟨_, by rw [← hK]; exact walkD_enum, fun μ2 st2 H2 g2 s2 w2 => (q μ2 st2 H2 g2 s2 w2).1 rfl⟩⟩
      · rename_i l w er
        refine (pi_enumT hg hm (das_one ha hs) hs).run pins s σ H R I ⟨env, μ, st, he, hst, arg_one ?_⟩
        rw [eg]
        intro v H' μ' g' s' r
        obtain ⟨ad, rfl, q⟩ := row_stands r s' er
        obtain ⟨xs, q1, _⟩ := (q μ' s1 H' (Go.refl _ _) s' (row_watch er)).2 rfl
        exact ⟨ad, xs, rfl, by rw [← hK]; exact q1, h _ H' μ' g' s' ⟨_, by rw [← hK]; exact walkD_enumT, fun μ2 st2 H2 g2 s2 w2 => (q μ2 st2 H2 g2 s2 w2).2 rfl⟩⟩
      · exact h.elim
theorem di_zip (hK : G.K = X.K) (ha : DE G X W a ga) (hb : DE G X W b gb) (hg : Gl X "zip") (hm : X.mg "zip" = none) (hs : starEach [a, b] X.env = (false, eval a X.env) :: starEach [b] X.env) (hs2 : starEach [b] X.env = [(false, eval b X.env)])
    (hpl : (backTo pos (starEach [b] X.env)).any (·.1) = false) : DI G X W (.Tuple elts kk tpos) (.Call (.Name "zip" p) [a, b] [] pos) (iZip ga gb) :=
  PI.weak (RZ.pi_zipA hg hm (das_cons ha (das_one hb hs2) hs) hs hpl) fun σ H R ⟨env, μ, st, he, hst, h⟩ => by
    refine ⟨env, μ, st, he, hst, ?_⟩
    unfold iZip at h
    unfold gCons
    cases ea : ga env st with
    | bad => rw [ea] at h; exact h.elim
    | exn ee s1 => rw [ea] at h; exact h
    | ok xa s1 =>
      rw [ea] at h
      simp only [bind_ok] at h ⊢
      cases eb : gb env s1 with
      | bad => rw [eb] at h; exact h.elim
      | exn ee s2 => simp only [gCons, eb, bind_exn]; rw [eb] at h; exact h
      | ok ya s2 =>
        simp only [gCons, eb, bind_ok, gNil]
        rw [eb] at h
        simp only [bind_ok] at h
        intro vs H' μ' g' s' r
        split at h
        · rename_i l w m w' e1 e2
          cases r with
          | cons r rr =>
            cases rr with
            | cons r2 rr =>
              cases rr
              obtain ⟨a1, rfl, q1⟩ := row_stands r s' e1
              obtain ⟨a2, rfl, q2⟩ := row_stands r2 s' e2
              obtain ⟨xs, k1, m1⟩ := (q1 μ' s2 H' (Go.refl _ _) s' (row_watch e1)).2 rfl
              obtain ⟨ys, k2, m2⟩ := (q2 μ' s2 H' (Go.refl _ _) s' (row_watch e2)).2 rfl
              refine ⟨a1, a2, xs, ys, rfl, .inr ⟨by rw [← hK]; exact k1, by rw [← hK]; exact k2, h _ H' μ' g' s' ⟨_, by rw [← hK]; exact walkD_zipT, fun μ3 st3 H3 g3 s3 w3 => ?_⟩⟩⟩
              exact ⟨⟨xs, g3.ext.sqT k1, m1.mono g3.ext l xs⟩, ys, g3.ext.sqT k2, m2.mono g3.ext m ys⟩
        · rename_i l w m w' e1 e2
          cases r with
          | cons r rr =>
            cases rr with
            | cons r2 rr =>
              cases rr
              obtain ⟨a1, rfl, q1⟩ := row_stands r s' e1
              obtain ⟨a2, rfl, q2⟩ := row_stands r2 s' e2
              obtain ⟨xs, k1, m1⟩ := (q1 μ' s2 H' (Go.refl _ _) s' (row_watch e1)).1 rfl
              obtain ⟨ys, k2, m2⟩ := (q2 μ' s2 H' (Go.refl _ _) s' (row_watch e2)).1 rfl
              refine ⟨a1, a2, xs, ys, rfl, .inl ⟨by rw [← hK]; exact k1, by rw [← hK]; exact k2, h _ H' μ' g' s' ⟨_, by rw [← hK]; exact walkD_zip, fun μ3 st3 H3 g3 s3 w3 => ?_⟩⟩⟩
              have w3' : ((w ++ w').all fun w => heldAt st3 w.1 w.2) = true := w3
              rw [List.all_append, Bool.and_eq_true] at w3'
              exact ⟨(q1 μ3 st3 H3 g3 s3 w3'.1).1 rfl, (q2 μ3 st3 H3 g3 s3 w3'.2).1 rfl⟩
        · exact h.elim
end
end PD
end

section
set_option Elab.async false
set_option linter.all false
set_option maxRecDepth 100000
set_option maxHeartbeats 4000000
/-! PD11: targets, loops, comprehensions, changes of lists. -/
namespace PD
open PySem PySem.Spec PyProof.Rows L2

/-! ### slots forgotten -/
theorem wipe_get {σ : L2.St} {j : Nat} : ∀ {vs : List Nat}, (wipe σ vs)[j]? = if j ∈ vs ∧ j < σ.length then some none else σ[j]?
  | [] => by simp [wipe]
  | v :: vs => by
    have ih := @wipe_get σ j vs
    have hl := wipe_length σ vs
    unfold wipe
    by_cases hv : v = j
    · subst hv
      by_cases hj : v < σ.length
      · rw [List.getElem?_set_self (by rw [hl]; exact hj), if_pos ⟨List.mem_cons_self, hj⟩]
      · rw [List.getElem?_eq_none (by rw [List.length_set, hl]; omega), if_neg (fun h => hj h.2), List.getElem?_eq_none (by omega)]
    · rw [List.getElem?_set_ne hv, ih]
      by_cases h1 : j ∈ vs ∧ j < σ.length
      · rw [if_pos h1, if_pos ⟨List.mem_cons_of_mem _ h1.1, h1.2⟩]
      · rw [if_neg h1, if_neg (fun h => h1 ⟨(List.mem_cons.mp h.1).resolve_left (Ne.symm hv), h.2⟩)]
theorem wipe_ext {σ τ : L2.St} {vs : List Nat} (hl : σ.length = τ.length) (h : ∀ j, j ∉ vs → σ[j]? = τ[j]?) : wipe σ vs = wipe τ vs := by
  apply List.ext_getElem?
  intro j
  rw [wipe_get, wipe_get, hl]
  by_cases hj : j ∈ vs
  · by_cases h2 : j < τ.length
    · rw [if_pos ⟨hj, h2⟩, if_pos ⟨hj, h2⟩]
    · rw [if_neg (fun q => h2 q.2), if_neg (fun q => h2 q.2), List.getElem?_eq_none (by omega), List.getElem?_eq_none (by omega)]
  · rw [if_neg (fun q => hj q.1), if_neg (fun q => hj q.1)]
    exact h j hj
theorem wipe_set {σ : L2.St} {vs : List Nat} {i : Nat} {o : Option V} (hi : i ∈ vs) : wipe (σ.set i o) vs = wipe σ vs :=
  wipe_ext (by simp) fun j hj => List.getElem?_set_ne (by rintro rfl; exact hj hi)
theorem wipe_wipe {σ : L2.St} {vs : List Nat} : wipe (wipe σ vs) vs = wipe σ vs :=
  wipe_ext (wipe_length σ vs) fun j hj => by rw [wipe_get, if_neg (fun q => hj q.1)]

section
variable {G : Gb} {X : Cx} {W : WX} {a b c e : Expr} {es : List Expr} {ga gb gc g : SemE} {gs : SemAs} {pos p p2 p3 apos tpos : Pos} {x : Str} {tg : Expr} {elts : List Expr} {kk : Nat}
theorem EnvOk.wipe {μ : List Addr} {H : Hp} {env : Env} {σ : L2.St} (h : EnvOk G.K G.fa μ H env σ) : ∀ vs : List Nat, EnvOk G.K G.fa μ H (wipeE env vs) (L2.wipe σ vs)
  | [] => h
  | v :: vs => (EnvOk.wipe h vs).wipe1 v

/-! ### targets -/
mutual
inductive TgAt (X : Cx) : Expr → Tg → Prop
  | name {x : Str} {p : Pos} {i : Nat} : X.N[i]? = some x → Loc X.env.scope x → (X.fn x = true ∨ X.env.scope.names.lookup x = some .local) → TgAt X (.Name x p) (.name i)
  | tup {es : List Expr} {k : Nat} {p : Pos} {ts : List Tg} : TgsAt X es ts → TgAt X (.Tuple es k p) (.tup ts)
inductive TgsAt (X : Cx) : List Expr → List Tg → Prop
  | nil : TgsAt X [] []
  | cons {e : Expr} {t : Tg} {es : List Expr} {ts : List Tg} : TgAt X e t → TgsAt X es ts → TgsAt X (e :: es) (t :: ts)
end
mutual
def tgG (K : Fr) : Tg → TG
  | .name i => gName i
  | .tup ts => L2.gTup K ts.length (tgGs K ts)
def tgGs (K : Fr) : List Tg → TGs
  | [] => L2.gNil
  | t :: ts => L2.gCons (tgG K t) (tgGs K ts)
end
mutual
theorem pg_tg (hc : X.calm = true) (hN : X.N.Nodup) : ∀ {e : Expr} {t : Tg}, TgAt X e t → PG X e (tgG X.K t)
  | _, _, .name h1 h2 h3 => pg_name hN h1 h2 h3
  | _, _, .tup h => by
    obtain ⟨h1, h2, h3⟩ := pgs_tg hc hN h
    exact pg_tup hc h1 h2 h3
theorem pgs_tg (hc : X.calm = true) (hN : X.N.Nodup) : ∀ {es : List Expr} {ts : List Tg}, TgsAt X es ts → PGs X es (tgGs X.K ts) ∧ (assignEach es X.env).length = ts.length ∧ (assignEach es X.env).findIdx? (·.1) = none
  | _, _, .nil => ⟨pgs_nil, rfl, rfl⟩
  | _, _, .cons h t => by
    obtain ⟨a1, a2, a3⟩ := pgs_tg hc hN t
    have a0 := pg_tg hc hN h
    cases h with
    | name h1 h2 h3 =>
      refine ⟨pgs_cons a0 a1 rfl, ?_, ?_⟩
      · show (assignEach _ X.env).length + 1 = _
        rw [a2]; rfl
      · show List.findIdx? _ ((false, _) :: assignEach _ X.env) = none
        rw [List.findIdx?_cons, a3]; rfl
    | tup h1 =>
      refine ⟨pgs_cons a0 a1 rfl, ?_, ?_⟩
      · show (assignEach _ X.env).length + 1 = _
        rw [a2]; rfl
      · show List.findIdx? _ ((false, _) :: assignEach _ X.env) = none
        rw [List.findIdx?_cons, a3]; rfl
end
theorem pg_tgK {K : Fr} (hK : K = X.K) (hc : X.calm = true) (hN : X.N.Nodup) {e : Expr} {t : Tg} (h : TgAt X e t) : PG X e (tgG K t) := by
  rw [hK]; exact pg_tg hc hN h
theorem puts_len : ∀ {ts : List Tg} {l : List D} {env env1 : Env}, Tg.puts ts l env = some env1 → ts.length = l.length
  | [], [], _, _, _ => rfl
  | t :: ts, d :: l, env, env1, h => by
    unfold Tg.puts at h
    split at h
    · rw [List.length_cons, List.length_cons, puts_len h]
    · cases h
  | [], _ :: _, _, _, h => by simp [Tg.puts] at h
  | _ :: _, [], _, _, h => by simp [Tg.puts] at h
mutual
theorem tg_run {μ : List Addr} {H : Hp} : ∀ {t : Tg} {d : D} {v : V} {env env1 : Env} {σ : L2.St} {Q : L2.St → Hp → Prop}, Tg.put t d env = some env1 → RepD G.K H d v → EnvOk G.K G.fa μ H env σ →
    (∀ σ', EnvOk G.K G.fa μ H env1 σ' → (∀ vs : List Nat, (∀ i ∈ t.slots, i ∈ vs) → wipe σ' vs = wipe σ vs) → Q σ' H) → tgG G.K t v σ H Q
  | .name i, d, v, env, env1, σ, Q, h, r, he, k => by
    simp only [Tg.put, Option.some.injEq] at h
    subst h
    exact k _ (he.set (a := .d d) r) fun vs hv => wipe_set (hv i (by simp [Tg.slots]))
  | .tup ts, d, v, env, env1, σ, Q, h, r, he, k => by
    cases d with
    | tup l =>
      simp only [Tg.put] at h
      obtain ⟨a, xs, rfl, hq, hr⟩ := r
      refine ⟨a, xs, rfl, hq, by rw [hr.length, puts_len h], tgs_run h hr he fun σ' e' w' => k σ' e' fun vs hv => w' vs fun i hi => hv i (by simpa [Tg.slots] using hi)⟩
    | _ => simp [Tg.put] at h
theorem tgs_run {μ : List Addr} {H : Hp} : ∀ {ts : List Tg} {l : List D} {vs : List V} {env env1 : Env} {σ : L2.St} {Q : L2.St → Hp → Prop}, Tg.puts ts l env = some env1 → RepDs G.K H l vs → EnvOk G.K G.fa μ H env σ →
    (∀ σ', EnvOk G.K G.fa μ H env1 σ' → (∀ us : List Nat, (∀ i ∈ Tg.slotss ts, i ∈ us) → wipe σ' us = wipe σ us) → Q σ' H) → tgGs G.K ts vs σ H Q
  | [], l, vs, env, env1, σ, Q, h, r, he, k => by
    cases l with
    | nil =>
      simp only [Tg.puts, Option.some.injEq] at h
      subst h
      cases r
      exact ⟨rfl, k σ he fun _ _ => rfl⟩
    | cons d l => simp [Tg.puts] at h
  | t :: ts, l, vs, env, env1, σ, Q, h, r, he, k => by
    cases l with
    | nil => simp [Tg.puts] at h
    | cons d l =>
      obtain ⟨v, w, rfl, r1, r2⟩ := r
      unfold Tg.puts at h
      split at h
      · rename_i env2 h2
        refine ⟨v, w, rfl, tg_run h2 r1 he fun σ' e' w' => tgs_run h r2 e' fun σ'' e'' w'' => k σ'' e'' fun us hu => ?_⟩
        rw [w'' us fun i hi => hu i (by simp [Tg.slotss, hi]), w' us fun i hi => hu i (by simp [Tg.slotss, hi])]
      · cases h
end

/-! ### for -/
theorem forGo_ok {t : Tg} {f : SemS} {ok : Store → Bool} {ds : List D} {env : Env} {st : Store} {D' : Ends} {μ : List Addr} {H : Hp} (h : PstS G W D' μ H (forGo t f ok ds env st)) : ok st = true := by
  cases ds with
  | nil =>
    unfold forGo at h
    split at h
    · assumption
    · exact h.elim
  | cons d ds =>
    unfold forGo at h
    split at h
    · assumption
    · exact h.elim
theorem ds_for {iter : Expr} {body : List Stmt} {gi : SemI} {t : Tg} {f : SemS} (hK : G.K = X.K) (hp : PassesOwn (model X.prog X.w) X.A X.env X.xe) (hc : X.calm = true) (hN : X.N.Nodup) (ht : TgAt X tg t) (hi : DI G X W tg iter gi) (hb : DSs G X W body f)
    (hs : ∀ x, foldedSetIterable iter X.env x = pure x) : DS G X W (.For tg iter body [] pos) (sFor gi t f) :=
  PS.weak (ps_for hp hc hi (pg_tg hc hN ht) hb hs) fun D' σ H ⟨env, μ, st, he, hst, h⟩ => by
    refine ⟨env, μ, st, he, hst, (PstS.expr (R := RI G) he h).mono fun J H1 ⟨src, μ1, st1, g1, s1, ⟨Gd, wk, hgd⟩, e1, p1⟩ => ?_⟩
    refine L2.for_it wk (fun i σ' H' => ∃ env' μ' st', Go μ1 H1 μ' H' ∧ StOk G.K H' μ' st' ∧ EnvOk G.K G.fa μ' H' env' σ' ∧ PstS G W D' μ' H' (forGo t f src.ok (src.items.drop i) env' st'))
      ⟨env, μ1, st1, Go.refl _ _, s1, e1, by rw [List.drop_zero]; exact p1.go g1⟩ (fun i σ' H' _ ⟨env', μ', st', g', s', e', p'⟩ => hgd μ' st' H' g' s' (forGo_ok p')) (fun i x σ' H' H2 hlt ⟨env', μ', st', g', s', e', p'⟩ ⟨gw, d, hd, rd⟩ => ?_) (fun σ' H' ⟨env', μ', st', g', s', e', p'⟩ => ?_)
    · have hdr : src.items.drop i = d :: src.items.drop (i + 1) := by
        rw [List.drop_eq_getElem_cons hlt]
        have := List.getElem?_eq_getElem hlt
        rw [hd] at this
        rw [← Option.some.inj this]
      rw [hdr] at p'
      unfold forGo at p'
      split at p'
      · split at p'
        · exact p'.elim
        · rename_i env1 hput
          rw [← hK]
          have g2 := gw.go μ'
          refine tg_run hput rd (e'.mono g2) fun σ2 e2 _ => ⟨env1, μ', st', e2, s'.grow gw, ?_⟩
          cases eb : f env1 st' with
          | nx env2 s2 =>
            rw [eb] at p'
            exact fun σ3 H3 μ3 g3 s3 e3 => ⟨env2, μ3, s2, (g'.trans g2).trans g3, s3, e3, PstS.go p' (g2.trans g3)⟩
          | ct env2 s2 =>
            rw [eb] at p'
            exact fun σ3 H3 μ3 g3 s3 e3 => ⟨env2, μ3, s2, (g'.trans g2).trans g3, s3, e3, PstS.go p' (g2.trans g3)⟩
          | bk env2 s2 =>
            rw [eb] at p'
            exact fun σ3 H3 μ3 g3 s3 e3 => p' σ3 H3 μ3 (g2.trans g3) s3 e3
          | rt a s2 =>
            rw [eb] at p'
            exact fun v3 H3 μ3 g3 s3 e3 => p' v3 H3 μ3 (g2.trans g3) s3 e3
          | ex ee env2 s2 =>
            rw [eb] at p'
            exact fun c3 d3 σ3 H3 μ3 g3 s3 e3 x3 => p' c3 d3 σ3 H3 μ3 (g2.trans g3) s3 e3 x3
          | bad => rw [eb] at p'; exact p'.elim
      · exact p'.elim
    · rw [List.drop_of_length_le (Nat.le_refl _)] at p'
      unfold forGo at p'
      split at p'
      · exact p' σ' H' μ' (Go.refl _ _) s' e'
      · exact p'.elim

/-! ### while -/
theorem ds_while {t : SemT} {f : SemS} {body : List Stmt} (hp : PassesOwn (model X.prog X.w) X.A X.env X.xe) (hc : DT G X W c t) (hb : DSs G X W body f) : DS G X W (.While c body [] pos) (sWhile t f) :=
  PS.weak (ps_while hp hc hb) fun D' σ H ⟨env, μ, st, he, hst, h⟩ => by
    refine ⟨fun m σ' H' => ∃ env' μ' st', StOk G.K H' μ' st' ∧ EnvOk G.K G.fa μ' H' env' σ' ∧ PstS G W D' μ' H' (whGo t f m env' st'), ⟨FUEL, env, μ, st, hst, he, h⟩, ?_⟩
    rintro m σ1 H1 ⟨env1, μ1, st1, s1, e1, p1⟩
    cases m with
    | zero => exact p1.elim
    | succ m =>
      unfold whGo at p1
      refine ⟨env1, μ1, st1, e1, s1, (PstS.expr (R := RB) e1 p1).mono fun v H2 ⟨x, μ2, st2, g2, s2, r2, e2, p2⟩ => ?_⟩
      cases (show v = x from r2)
      cases v with
      | false =>
        rw [if_neg Bool.false_ne_true]
        exact p2 σ1 H2 μ2 g2 s2 e2
      | true =>
        simp only [if_true] at p2 ⊢
        refine ⟨fun σ' H' => ∃ env' μ' st', StOk G.K H' μ' st' ∧ EnvOk G.K G.fa μ' H' env' σ' ∧ PstS G W D' μ' H' (whGo t f m env' st'), fun σ' H' q => ⟨m, Nat.lt_succ_self m, q⟩, env1, μ2, st2, e2, s2, ?_⟩
        cases eb : f env1 st2 with
        | nx env2 s3 =>
          rw [eb] at p2
          exact fun σ3 H3 μ3 g3 s4 e3 => ⟨env2, μ3, s3, s4, e3, PstS.go p2 (g2.trans g3)⟩
        | ct env2 s3 =>
          rw [eb] at p2
          exact fun σ3 H3 μ3 g3 s4 e3 => ⟨env2, μ3, s3, s4, e3, PstS.go p2 (g2.trans g3)⟩
        | bk env2 s3 =>
          rw [eb] at p2
          exact fun σ3 H3 μ3 g3 s4 e3 => p2 σ3 H3 μ3 (g2.trans g3) s4 e3
        | rt a s3 =>
          rw [eb] at p2
          exact fun v3 H3 μ3 g3 s4 e3 => p2 v3 H3 μ3 (g2.trans g3) s4 e3
        | ex ee env2 s3 =>
          rw [eb] at p2
          exact fun c3 d3 σ3 H3 μ3 g3 s4 e3 x3 => p2 c3 d3 σ3 H3 μ3 (g2.trans g3) s4 e3 x3
        | bad => rw [eb] at p2; exact p2.elim

/-! ### list comprehensions -/
theorem StOk.push {K : Fr} {μ : List Addr} {H : Hp} {st : Store} (s : StOk K H μ st) {p : Addr} {m : MO} (hp : p ∉ μ) (r : RepM K H m p) : StOk K H (μ ++ [p]) (st ++ [m]) := by
  refine ⟨by simp [s.len], List.nodup_append.mpr ⟨s.nd, by simp, fun a ha b hb => ?_⟩, fun n a m' h1 h2 => ?_⟩
  · rw [List.mem_singleton.mp hb]
    rintro rfl
    exact hp ha
  · by_cases hn : n < μ.length
    · rw [List.getElem?_append_left hn] at h1
      rw [List.getElem?_append_left (by rw [← s.len]; exact hn)] at h2
      exact s.at_ n a m' h1 h2
    · have e1 : n = μ.length := by
        have := (List.getElem?_eq_some_iff.mp h1).1
        simp at this; omega
      subst e1
      rw [List.getElem?_append_right (Nat.le_refl _), Nat.sub_self] at h1
      rw [s.len, List.getElem?_append_right (Nat.le_refl _), Nat.sub_self] at h2
      simp at h1 h2
      subst h1; subst h2
      exact r
/-- a list that is not of the store changes -/
theorem StOk.off {K : Fr} {μ : List Addr} {H : Hp} {st : Store} {p : Addr} {xs ys : List V} (s : StOk K H μ st) (hp : p ∉ μ) (h : H p = some (.lst xs)) : StOk K (upd H p (.lst ys)) μ st := by
  have ext : Ext H (upd H p (.lst ys)) := by
    refine ⟨fun b ys q => ?_, fun b o' u q => ?_⟩
    all_goals (rw [upd_ne (fun z => by subst z; rw [h] at q; cases q)]; exact q)
  refine ⟨s.len, s.nd, fun i b m h1 h2 => ?_⟩
  have hne : b ≠ p := fun z => hp (by rw [← z]; exact List.mem_of_getElem? h1)
  have q := s.at_ i b m h1 h2
  cases m with
  | ls l => obtain ⟨xs, e, r⟩ := q; exact ⟨xs, by rw [upd_ne hne]; exact e, r.mono ext l xs⟩
  | fz l => obtain ⟨o, xs, e, r⟩ := q; exact ⟨o, xs, by rw [upd_ne hne]; exact e, r.mono ext l xs⟩
theorem Go.off {μ μ' : List Addr} {H H' : Hp} {p : Addr} {xs ys : List V} (g : Go μ H μ' H') (hn : H p = none) (h : H' p = some (.lst xs)) : Go μ H μ' (upd H' p (.lst ys)) := by
  refine ⟨g.pre, ⟨fun b zs q => ?_, fun b o' u q => ?_⟩, fun b o q hb => ?_, fun b o q => ?_⟩
  · rw [upd_ne (ne_of_none q hn)]; exact g.ext.tup b zs q
  · rw [upd_ne (ne_of_none q hn)]; exact g.ext.frz b o' u q
  · rw [upd_ne (ne_of_none q hn)]; exact g.keep b o q hb
  · obtain ⟨o', e⟩ := g.there b o q
    exact ⟨o', by rw [upd_ne (ne_of_none q hn)]; exact e⟩
theorem lcGo_ok {step : D → Store → Out (Option D)} {ok : Store → Bool} {ds : List D} {st s2 : Store} {xs : List D} (h : lcGo step ok ds st = .ok xs s2) : ok st = true := by
  cases ds with
  | nil =>
    unfold lcGo at h
    split at h
    · assumption
    · cases h
  | cons d ds =>
    unfold lcGo at h
    split at h
    · assumption
    · cases h
abbrev noX : WX := fun _ _ _ _ => False
theorem lc_goal {gi : SemI} {t : Tg} {cnd : SemT} {ge : SemE} {own : List Nat} {σ : L2.St} {H : Hp} {Q : VK} {env : Env} {μ : List Addr} {st : Store} (hsl : ∀ i ∈ t.slots, i ∈ own) (he : EnvOk G.K G.fa μ H env σ) (hst : StOk G.K H μ st)
    (h : Pst G W σ μ H (RA G) (gLc gi t cnd ge own env st) Q) : tLc (rdI G W gi) (tgG G.K t) (rdT G noX cnd) (tFzE (rdE G noX ge)) own σ H Q := by
  refine ⟨env, μ, st, he, hst, (Pst.bind (R := RI G) (Pst.settled hst.len h)).mono fun J H1 ⟨src, μ1, st1, g1, s1, ⟨Gd, wk, hgd⟩, p1⟩ => fun Da hD => ?_⟩
  split at p1
  · rename_i hz
    split at p1
    · rename_i xs s2 elc
      have hDμ : Da ∉ μ1 := s1.out hD
      refine L2.lc_it wk (fun i H' => ∃ st' acc vacc xs', Go μ1 H1 μ1 H' ∧ StOk G.K H' μ1 st' ∧ H' Da = some (.lst vacc) ∧ RepDs G.K H' acc vacc ∧ acc.length ≤ i ∧ lcGo (lcStep t cnd ge (wipeE env own)) src.ok (src.items.drop i) st' = .ok xs' s2 ∧ xs = acc ++ xs')
        ⟨st1, [], [], xs, Go.new hD hDμ, s1.new hD, upd_same, .nil, Nat.le_refl _, by rw [List.drop_zero]; exact elc, rfl⟩
        (fun i H' _ ⟨st', acc, vacc, xs', g', s', _, _, _, e', _⟩ => hgd μ1 st' H' g' s' (lcGo_ok e')) (fun i x H2 H3 hlt ⟨st', acc, vacc, xs', g', s', hDa, hr, hla, e', ex⟩ ⟨gw, d, hd, rd⟩ => ?_) (fun H' ⟨st', acc, vacc, xs', g', s', hDa, hr, hla, e', ex⟩ => ?_)
      · have hdr : src.items.drop i = d :: src.items.drop (i + 1) := by
          rw [List.drop_eq_getElem_cons hlt]
          have := List.getElem?_eq_getElem hlt
          rw [hd] at this
          rw [← Option.some.inj this]
        rw [hdr] at e'
        unfold lcGo at e'
        split at e'
        · split at e'
          · rename_i o s3 estep
            split at e'
            · rename_i ys s4 erest
              cases e'
              unfold lcStep at estep
              split at estep
              · cases estep
              · rename_i env1 hput
                have g2 := gw.go μ1
                have e0 : EnvOk G.K G.fa μ1 H3 (wipeE env own) (L2.wipe σ own) := (((he.mono g1).mono g').mono g2).wipe own
                refine tg_run hput rd e0 fun σ2 e2 w2 => ⟨by rw [w2 own hsl, wipe_wipe], env1, μ1, st', e2, s'.grow gw, ?_⟩
                cases ec : cnd env1 st' with
                | bad => rw [ec] at estep; cases estep
                | exn ee s5 => rw [ec] at estep; cases estep
                | ok bb s5 =>
                  rw [ec] at estep
                  simp only [bind_ok] at estep
                  intro b' H4 μ4 g4 s4' r4
                  rw [show b' = bb from r4]
                  clear r4
                  have gg : Go μ1 H1 μ4 H4 := (g'.trans g2).trans g4
                  have hD4 : H4 Da = some (.lst vacc) := g4.keep Da _ (gw Da _ hDa) hDμ
                  have fgt : ∀ {s6 : Store} {H6 : Hp} {μ6 : List Addr}, Go μ1 H1 μ6 H6 → StOk G.K H6 μ6 s6 → StOk G.K H6 μ1 (s6.take st'.length) := fun {s6 H6 μ6} g6 s6' => by
                    have t6 := s6'.take μ1.length
                    rw [g6.takeEq, s'.len] at t6
                    exact t6
                  have rd' : ∀ {H6 : Hp} {μ6 : List Addr}, Go μ1 H2 μ6 H6 → RepDs G.K H6 acc vacc := fun g6 => hr.mono g6.ext acc vacc
                  cases bb with
                  | false =>
                    rw [if_neg Bool.false_ne_true] at estep ⊢
                    cases estep
                    exact ⟨_, acc, vacc, ys, gg.forget, fgt gg s4', hD4, rd' (g2.trans g4), by omega, erest, ex⟩
                  | true =>
                    simp only [if_true] at estep ⊢
                    cases ee : ge env1 s5 with
                    | bad => rw [ee] at estep; cases estep
                    | exn eee s6 => rw [ee] at estep; cases estep
                    | ok av s6 =>
                      rw [ee] at estep
                      simp only [bind_ok] at estep
                      refine ⟨env1, μ4, s5, e2.mono g4, s4', ?_⟩
                      rw [ee]
                      intro y H5 μ5 g5 s5' r5
                      split at estep
                      · rename_i xd s7 efz
                        cases estep
                        refine (freeze_goal s5' r5 efz).mono fun H6 ⟨t6, rx, g6⟩ => ?_
                        have gall : Go μ1 H1 μ5 H6 := (gg.trans g5).trans g6
                        have g26 : Go μ1 H2 μ5 H6 := ((g2.trans g4).trans g5).trans g6
                        have hD6 : H6 Da = some (.lst vacc) := g26.keep Da _ hDa hDμ
                        have hl := (rd' g26).length
                        refine ⟨vacc, hD6, ?_, ?_⟩
                        · rw [hl]; rw [← lid]; unfold LID at *; omega
                        · have extU : Ext H6 (upd H6 Da (.lst (vacc ++ [y]))) := by
                            refine ⟨fun b zs q => ?_, fun b o' u q => ?_⟩
                            all_goals (rw [upd_ne (fun z => by subst z; rw [hD6] at q; cases q)]; exact q)
                          refine ⟨_, acc ++ [xd], vacc ++ [y], ys, gall.forget.off hD hD6, (fgt gall t6).off hDμ hD6, upd_same, ((rd' g26).mono extU acc vacc).append (.cons (rx.mono extU xd y) .nil), by rw [List.length_append, List.length_singleton]; omega, erest, ?_⟩
                          rw [ex, List.append_assoc]; rfl
                      · cases estep
            · cases e'
          · cases e'
        · cases e'
      · rw [List.drop_of_length_le (Nat.le_refl _)] at e'
        unfold lcGo at e'
        split at e'
        · cases e'
          rw [List.append_nil] at ex
          subst ex
          refine p1 _ H' (μ1 ++ [Da]) ⟨⟨[Da], rfl, fun a ha => by rw [List.mem_singleton.mp ha]; exact hD⟩, g'.ext, g'.keep, g'.there⟩ (s'.push hDμ ⟨vacc, hDa, hr⟩) ⟨Da, rfl, ?_⟩
          rw [← s'.len, List.getElem?_append_right (Nat.le_refl _), Nat.sub_self]; rfl
        · cases e'
    · exact p1.elim
  · exact p1.elim
theorem de_lc {elt iter : Expr} {ifs : List Expr} {scope : Scope} {own : List (Str × Nat)} {gi : SemI} {t : Tg} {cnd : SemT} {ge : SemE} (hK : G.K = X.K) (hc : X.calm = true) (hN : X.N.Nodup) (hi : DI G X W tg iter gi) (ok : BlkOk X.N X.env.scope scope own)
    (hg : ∀ (s : Shared) (H : Hp) (C : Addr) (cl : List (Str × Addr)) (fp : List Addr), TgAt (X.blk s H scope (compEnvC scope cl C X.env) fp) tg t) (ht : ∀ (s : Shared) (H : Hp) (C : Addr) (cl : List (Str × Addr)) (fp : List Addr), PTs (X.blk s H scope (compEnvC scope cl C X.env) fp) ifs (rdT G noX cnd))
    (he : ∀ (s : Shared) (H : Hp) (C : Addr) (cl : List (Str × Addr)) (fp : List Addr), DE G (X.blk s H scope (compEnvC scope cl C X.env) fp) noX elt ge) (hsl : ∀ i ∈ t.slots, i ∈ own.map (·.2)) (hs : ∀ x, foldedSetIterable iter X.env x = pure x) :
    DE G X W (.ListComp elt [⟨tg, iter, ifs, 0⟩] scope pos) (gLc gi t cnd ge (own.map (·.2))) :=
  PE.weak (pe_lc (g := tgG G.K t) hc hN hi ok (fun s H C cl fp => pg_tgK (X := X.blk s H scope (compEnvC scope cl C X.env) fp) hK hc hN (hg s H C cl fp)) ht (fun s H C cl fp => PE.fz (he s H C cl fp)) hs) fun σ H Q ⟨env, μ, st, hen, hst, h⟩ => by
    exact lc_goal hsl hen hst h
theorem ds_setLc {i : Nat} {y : Str} {py spos : Pos} {elt iter : Expr} {ifs : List Expr} {scope : Scope} {own : List (Str × Nat)} {gi : SemI} {t : Tg} {cnd : SemT} {ge : SemE} (hK : G.K = X.K) (hc : X.calm = true) (hN : X.N.Nodup) (hy : X.N[i]? = some y) (hyl : X.env.scope.names.lookup y = some .local)
    (hsw : swapsWith (.ListComp elt [⟨tg, iter, ifs, 0⟩] scope pos) (some (.Name y py)) spos.line X.env = pure true) (hi : DI G X W tg iter gi) (ok : BlkOk X.N X.env.scope scope own)
    (hg : ∀ (s : Shared) (H : Hp) (C : Addr) (cl : List (Str × Addr)) (fp : List Addr), TgAt (X.blk s H scope (compEnvC scope cl C X.env) fp) tg t) (ht : ∀ (s : Shared) (H : Hp) (C : Addr) (cl : List (Str × Addr)) (fp : List Addr), PTs (X.blk s H scope (compEnvC scope cl C X.env) fp) ifs (rdT G noX cnd))
    (he : ∀ (s : Shared) (H : Hp) (C : Addr) (cl : List (Str × Addr)) (fp : List Addr), DE G (X.blk s H scope (compEnvC scope cl C X.env) fp) noX elt ge) (hsl : ∀ i ∈ t.slots, i ∈ own.map (·.2)) (hs : ∀ x, foldedSetIterable iter X.env x = pure x) :
    DS G X W (.Assign [.Name y py] (.ListComp elt [⟨tg, iter, ifs, 0⟩] scope pos) spos) (sSet i (gLc gi t cnd ge (own.map (·.2)))) :=
  PS.weak (ps_setLc (g := tgG G.K t) hc hN hy hyl hsw hi ok (fun s H C cl fp => pg_tgK (X := X.blk s H scope (compEnvC scope cl C X.env) fp) hK hc hN (hg s H C cl fp)) ht (fun s H C cl fp => PE.fz (he s H C cl fp)) hs) fun D' σ H ⟨env, μ, st, hen, hst, h⟩ => by
    have q := lc_goal (Q := fun v H1 => D'.nx (σ.set i (some v)) H1) hsl hen hst ((PstS.expr (R := RA G) hen h).mono fun v H1 ⟨a, μ1, st1, g1, s1, r1, e1, p1⟩ => p1 _ H1 μ1 g1 s1 (e1.set r1))
    exact q
end
end PD
end

section
set_option Elab.async false
set_option linter.all false
set_option maxRecDepth 100000
set_option maxHeartbeats 4000000
/-! PD12: lists that change; a, b = ..; x op= .. -/
namespace PD
open PySem PySem.Spec PyProof.Rows L2

section
variable {G : Gb} {X : Cx} {W : WX} {a b c e o i v : Expr} {es : List Expr} {ga gb gc g go gi gv : SemE} {gs : SemAs} {pos p p2 p3 apos cpos tpos : Pos} {x y : Str} {tg : Expr} {elts : List Expr} {kk : Nat}
theorem nd_inj {μ : List Addr} (h : μ.Nodup) {i j : Nat} {a b : Addr} (h1 : μ[i]? = some a) (h2 : μ[j]? = some b) (hne : i ≠ j) : a ≠ b := fun z => hne (by
  subst z
  have k1 := List.getElem?_eq_some_iff.mp h1
  have k2 := List.getElem?_eq_some_iff.mp h2
  exact (List.getElem_inj h).mp (k1.2.trans k2.2.symm))
theorem StOk.put {K : Fr} {μ : List Addr} {H : Hp} {st : Store} {n : Nat} {p : Addr} {xs ys : List V} {l : List D} (s : StOk K H μ st) (hp : μ[n]? = some p) (h : H p = some (.lst xs)) (r : RepDs K (upd H p (.lst ys)) l ys) : StOk K (upd H p (.lst ys)) μ (st.set n (.ls l)) := by
  have ext : Ext H (upd H p (.lst ys)) := by
    refine ⟨fun b ys q => ?_, fun b o' u q => ?_⟩
    all_goals (rw [upd_ne (fun z => by subst z; rw [h] at q; cases q)]; exact q)
  refine ⟨by rw [List.length_set]; exact s.len, s.nd, fun i b m h1 h2 => ?_⟩
  by_cases hi : i = n
  · subst hi
    rw [hp] at h1; cases h1
    have hl : i < st.length := by rw [← s.len]; exact (List.getElem?_eq_some_iff.mp hp).1
    rw [List.getElem?_set_self hl] at h2; cases h2
    exact ⟨ys, upd_same, r⟩
  · rw [List.getElem?_set_ne (Ne.symm hi)] at h2
    have hne : b ≠ p := nd_inj s.nd h1 hp hi
    have q := s.at_ i b m h1 h2
    cases m with
    | ls l => obtain ⟨xs, e, r⟩ := q; exact ⟨xs, by rw [upd_ne hne]; exact e, r.mono ext l xs⟩
    | fz l => obtain ⟨o, xs, e, r⟩ := q; exact ⟨o, xs, by rw [upd_ne hne]; exact e, r.mono ext l xs⟩
theorem Ext.lst {H : Hp} {p : Addr} {xs ys : List V} (h : H p = some (.lst xs)) : Ext H (upd H p (.lst ys)) := by
  refine ⟨fun b ys q => ?_, fun b o' u q => ?_⟩
  all_goals (rw [upd_ne (fun z => by subst z; rw [h] at q; cases q)]; exact q)
theorem Go.put {μ : List Addr} {H : Hp} {n : Nat} {p : Addr} {xs ys : List V} (hp : μ[n]? = some p) (h : H p = some (.lst xs)) : Go μ H μ (upd H p (.lst ys)) := by
  refine ⟨⟨[], by simp, by simp⟩, Ext.lst h, fun b u q hb => ?_, fun b u q => ?_⟩
  · rw [upd_ne (fun z => hb (by rw [z]; exact List.mem_of_getElem? hp))]; exact q
  · by_cases hb : b = p
    · subst hb; exact ⟨_, upd_same⟩
    · exact ⟨u, by rw [upd_ne hb]; exact q⟩
/-- what is new is forgotten -/
theorem StOk.forget {K : Fr} {μ μ' : List Addr} {H H' : Hp} {st : Store} (s : StOk K H' μ' st) (g : Go μ H μ' H') {L : Nat} (hL : μ.length = L) : StOk K H' μ (st.take L) := by
  have t := s.take μ.length
  rw [g.takeEq, hL] at t
  exact t
/-- an expression further on, the first base kept -/
theorem PstS.exprB {D : Ends} {σ : L2.St} {μ μ1 : List Addr} {H H1 : Hp} {α β : Type} {R : RP α β} {env : Env} {o : Out α} {f : α → Store → SO} (g1 : Go μ H μ1 H1) (he : EnvOk G.K G.fa μ1 H1 env σ) (h : PstS G W D μ H (o.toS env f)) :
    Pst G W σ μ1 H1 R o (fun v H2 => ∃ a μ2 st2, Go μ1 H1 μ2 H2 ∧ StOk G.K H2 μ2 st2 ∧ R μ2 H2 a v ∧ EnvOk G.K G.fa μ2 H2 env σ ∧ PstS G W D μ H (f a st2)) := by
  cases o with
  | ok a st => exact fun v H' μ' g s r => ⟨a, μ', st, g, s, r, he.mono g, h⟩
  | exn e st => exact fun c d H' μ' g s x => h c d σ H' μ' (g1.trans g) s (he.mono g) x
  | bad => exact h
theorem ds_append (hK : G.K = X.K) (ho : DE G X W o go) (hv : DE G X W v gv) (hst : starEach [v] X.env = [(false, eval v X.env)]) (hbase : attributeBase o "append" X.env (eval o X.env) = eval o X.env)
    (hfew : ((backTo cpos (starEach [v] X.env)).all (fun x => !x.1) && (backToKw cpos (keywordEach [] X.env)).all (fun x => x.1.isSome)
      && decide ([v].length + ([] : List Keyword).length + (if ([] : List Keyword).isEmpty then 0 else 1) < 30)) = true)
    (hline : (apos.endLine == cpos.line) = true) (hs : swapsWith (.Call (.Attribute o "append" apos) [v] [] cpos) none pos.line X.env = pure false) :
    DS G X W (.Expr (.Call (.Attribute o "append" apos) [v] [] cpos) pos) (sAppend go gv) :=
  PS.weak (ps_expr (pe_bm F.plainAttrs_list F.slot_list_append F.type_list_append mt_append ho (PA.fz (das_one hv hst)) hbase hfew hline hst rfl) hs) fun D' σ H ⟨env, μ, st, he, hst, h⟩ => by
    refine ⟨env, μ, st, he, hst, (PstS.expr (R := RA G) he h).mono fun x H1 ⟨xa, μ1, st1, g1, s1, r1, e1, p1⟩ => ?_⟩
    split at p1
    · rename_i n
      obtain ⟨ad, rfl, hm⟩ := r1
      have hmem := List.mem_of_getElem? hm
      refine ⟨.inl ⟨rfl, ?_⟩, env, μ1, st1, e1, s1, arg_one ((PstS.exprB (R := RA G) g1 e1 p1).mono fun v H2 ⟨va, μ2, st2, g2, s2, r2, e2, p2⟩ => ?_)⟩
      · rcases s1.what hmem with ⟨xs, q⟩ | ⟨o, xs, q⟩
        · exact ⟨xs, .inl (.inl q)⟩
        · exact ⟨xs, .inl (.inr ⟨o, q⟩)⟩
      · split at p2
        · rename_i d s3 ef
          split at p2
          · rename_i l el
            split at p2
            · rename_i hz
              refine (freeze_goal s2 r2 ef).mono fun H3 ⟨t3, rd, g3⟩ => ?_
              have hm2 := g2.get hm
              obtain ⟨xs, ex, rx⟩ := t3.at_ n ad _ hm2 el
              refine ⟨ad, xs, v, rfl, rfl, ex, by rw [rx.length, ← lid]; exact hz, ?_⟩
              have gp : Go μ2 H3 μ2 (upd H3 ad (.lst (xs ++ [v]))) := Go.put hm2 ex
              have t4 := t3.put hm2 ex ((rx.mono gp.ext l xs).append (.cons (rd.mono gp.ext d v) .nil))
              have gall := ((g1.trans g2).trans g3).trans gp
              exact p2 σ _ μ gall.forget (t4.forget gall hst.len) (he.mono gall.forget)
            · exact p2.elim
          · exact p2.elim
        · exact p2.elim
    · exact p1.elim
theorem ds_setIx (hK : G.K = X.K) (hv : DE G X W v gv) (ho : DE G X W o go) (hi : DE G X W i gi)
    (hasg : ∀ v, assign (.Subscript o i tpos) X.env v = (do
      let ov ← holding [v] (eval o X.env)
      let iv ← holding [v, ov] (eval i X.env)
      standAt tpos
      holding [v, ov, iv] (setItem ov iv v)
      release [v, ov, iv] []))
    (hs : swapsWithSole [.Subscript o i tpos] v pos.line X.env = pure false) (hw : swappedStores [.Subscript o i tpos] v X.env = pure none) :
    DS G X W (.Assign [.Subscript o i tpos] v pos) (sSetIx go gi gv) :=
  PS.weak (ps_asg hv (pg_sub ho (PE.fz hi) set_list hasg) hs hw rfl) fun D' σ H ⟨env, μ, st, he, hst, h⟩ => by
    refine ⟨env, μ, st, he, hst, (PstS.expr (R := RA G) he h).mono fun x H1 ⟨xa, μ1, st1, g1, s1, r1, e1, p1⟩ => ?_⟩
    refine ⟨env, μ1, st1, e1, s1, (PstS.exprB (R := RA G) g1 e1 p1).mono fun ov H2 ⟨oa, μ2, st2, g2, s2, r2, e2, p2⟩ => ?_⟩
    refine ⟨env, μ2, st2, e2, s2, (PstS.exprB (R := RA G) (g1.trans g2) e2 p2).mono fun iv H3 ⟨ia, μ3, st3, g3, s3, r3, e3, p3⟩ => ?_⟩
    split at p3
    · rename_i n k d s4 ef _
      split at p3
      · rename_i l el
        split at p3
        · rename_i j hj
          obtain ⟨ad, rfl, hm⟩ := r2
          cases (show iv = V.int k from r3)
          have hm3 := g3.get hm
          refine (freeze_goal s3 (RepA.mono g3 (RepA.mono g2 r1)) ef).mono fun H4 ⟨t4, rd, g4⟩ => ?_
          obtain ⟨xs, ex, rx⟩ := t4.at_ n ad _ hm3 el
          refine ⟨ad, xs, k, j, rfl, rfl, ex, by rw [rx.length, ← place_ix, hj], ?_⟩
          have gp : Go μ3 H4 μ3 (upd H4 ad (.lst (xs.set j x))) := Go.put hm3 ex
          have t5 := t4.put hm3 ex ((rx.mono gp.ext l xs).set (rd.mono gp.ext d x) j)
          have gall := (((g1.trans g2).trans g3).trans g4).trans gp
          exact p3 σ _ μ gall.forget (t5.forget gall hst.len) (he.mono gall.forget)
        · exact p3.elim
      · exact p3.elim
    · exact p3.elim
theorem ds_par {i j : Nat} {px py pt : Pos} {kt k2 pt2} (hc : X.calm = true) (hN : X.N.Nodup) (hi : X.N[i]? = some x) (hj : X.N[j]? = some y) (hij : i ≠ j)
    (hx : X.env.scope.names.lookup x = some .local) (hy : X.env.scope.names.lookup y = some .local) (ha : DE G X W a ga) (hb : DE G X W b gb) (hsa : starEach [a, b] X.env = (false, eval a X.env) :: starEach [b] X.env) (hsb : starEach [b] X.env = [(false, eval b X.env)])
    (hw : swappedStores [.Tuple [.Name x px, .Name y py] kt pt] (.Tuple [a, b] k2 pt2) X.env = pure (some [x, y]))
    (hs : swapsWithSole [.Tuple [.Name x px, .Name y py] kt pt] (.Tuple [a, b] k2 pt2) pos.line X.env = pure false) :
    DS G X W (.Assign [.Tuple [.Name x px, .Name y py] kt pt] (.Tuple [a, b] k2 pt2) pos) (sPar i j ga gb) :=
  PS.weak (ps_par hc hN hi hj hij hx hy (das_cons ha (das_one hb hsb) hsa) hw hs) fun D' σ H ⟨env, μ, st, he, hst, h⟩ => by
    refine ⟨env, μ, st, he, hst, ?_⟩
    unfold sPar at h
    unfold gCons
    cases ea : ga env st with
    | bad => rw [ea] at h; exact h.elim
    | exn ee s1 => rw [ea] at h; exact fun c d H' μ' g s x => h c d σ H' μ' g s (he.mono g) x
    | ok xa s1 =>
      rw [ea] at h
      simp only [toS_ok, bind_ok] at h ⊢
      cases eb : gb env s1 with
      | bad => rw [eb] at h; exact h.elim
      | exn ee s2 =>
        simp only [gCons, eb, bind_exn]
        rw [eb] at h
        exact fun c d H' μ' g s x => h c d σ H' μ' g s (he.mono g) x
      | ok ya s2 =>
        simp only [gCons, eb, bind_ok, gNil]
        rw [eb] at h
        simp only [toS_ok] at h
        intro vs H' μ' g' s' r
        cases r with
        | cons r rr =>
          cases rr with
          | cons r2 rr =>
            cases rr
            exact ⟨_, _, rfl, h _ H' μ' g' s' (((he.mono g').set r).set r2)⟩
theorem ds_aug {i : Nat} {op : Operator} {pr : Prim} {pos' : Pos} (hN : X.N.Nodup) (hi : X.N[i]? = some x) (hx : Loc X.env.scope x) (ha : DE G X W e g) (ho : PIp X op (rP2 G.K pr)) (hf : X.fn x = true ∨ X.env.scope.names.lookup x = some .local) :
    DS G X W (.AugAssign (.Name x pos') op e pos) (sAug i pr g) :=
  PS.weak (ps_aug hN hi hx ha ho hf) fun D' σ H ⟨env, μ, st, he, hst, h⟩ => by
    unfold sAug at h
    split at h
    · rename_i xd exd
      obtain ⟨xv, hxv, rx⟩ := he.at_ i _ exd
      refine ⟨xv, hxv, env, μ, st, he, hst, (PstS.expr (R := RA G) he h).mono fun y H1 ⟨ya, μ1, st1, g1, s1, r1, e1, p1⟩ => ?_⟩
      split at p1
      · rename_i yd eyd
        split at p1
        · rename_i z ez
          refine ⟨[xd, yd], _, .cons (RepD.n (rx.mono g1)) (.cons (now_rep s1 r1 eyd) .nil), ez, fun v H2 gw rr => ?_⟩
          have g2 := gw.go μ1
          have gall := g1.trans g2
          exact p1 _ H2 μ gall.forget ((s1.grow gw).forget gall hst.len) ((he.mono gall.forget).set (a := .d z) rr)
        · exact p1.elim
      · exact p1.elim
    · exact h.elim
theorem iop_pAdd : PIp X .Add (rP2 X.K pIAdd) := by
  have h := op_by (X := X) (p := pIAdd) (iop_add.or iop_add_str) fun a b res x y H Q ra rb hp q => (by
    unfold pIAdd at hp
    split at hp
    · rename_i i j e
      cases e; cases hp
      exact .inl ⟨i, j, ra, rb, q _ H (Grow.refl H) rfl⟩
    · rename_i s t e
      cases e
      split at hp
      · rename_i hz
        cases hp
        refine .inr ⟨_, _, ra.1, rb.1, ?_, ?_⟩
        · rw [slen, slen, ← lid]; exact hz
        · exact q _ H (Grow.refl H) ⟨by rw [sapp], goodS_app ra.2 rb.2⟩
      · cases hp
    · cases hp)
  exact fun pins s σ H x y v u Q I rx ry hw => h pins s σ H x y v u Q I rx ry hw
theorem iop_pSub : PIp X .Sub (rP2 X.K pSub) := by
  have h := op_by (X := X) (p := pSub) iop_sub fun a b res x y H Q ra rb hp q => (by
    unfold pSub at hp
    split at hp
    · rename_i i j e
      cases e; cases hp
      exact ⟨i, j, ra, rb, q _ H (Grow.refl H) rfl⟩
    · cases hp)
  exact fun pins s σ H x y v u Q I rx ry hw => h pins s σ H x y v u Q I rx ry hw
end
end PD
end

section
set_option Elab.async false
set_option linter.all false
set_option maxRecDepth 100000
set_option maxHeartbeats 4000000
/-! PD13: own exceptions: X(); X(e) whose __init__ says super().__init__(x); self.f = x. -/
namespace PD
open PySem PySem.Spec PyProof.Rows L2

section
variable {X : Cx} {x : Str} {p pos : Pos} {C : Addr}
abbrev exTl : List Value := [.type "Exception", .type "BaseException", .type "object"]
/-- X() -/
theorem pmk_own0 (q : PySem.W.excIn X.K C exTl "Exception.__new__" = true) (gC : X.mg x = some (.ref C)) (kC : PySem.W.keepIn X.K (.ref C) = true) (r : Raises X (.ref C)) (hg : Gl X x)
    (hdb : (x == ("__debug__" : Str)) = false) : PMk X (.Call (.Name x p) [] [] pos) (fun _ H Q => Q (.ref C) none H) := by
  intro pins s σ H Q I h
  refine wpAny_Call_Name_kw (ld_glob I hg gC ?_ hdb)
  refine PySem.W.callWith_K0 I.kIn kC ?_
  obtain ⟨bm, N, nm, qn, bs, hdct, sn, sub, ab, col, dd, k0, k1, k2, k3, k5, mN, hC, hN, hni, T⟩ := exc_obj I.kIn q
  refine wpAny_call_exc_subT F.excBase_Exception T hC hN hni (fun h' e hm => ?_) (by show 0 ≤ sizeLine; omega)
  exact mk_of I hm r h (I.hok.gone hm.new)
end

/-- what the written part says of a class whose __init__ is: super().__init__(x); self.f = x -/
structure SupC (prog : Program) (K : Fr) (C fI : Addr) (f px : Str) : Prop where
  q : PySem.W.excInitIn K C exTl "Exception.__new__" = true
  ov : PySem.W.excOver K C exTl = true
  hi : PySem.W.findIn K (.ref C) "__init__" = some (some (.ref fI))
  hf : PySem.W.isFn K (.ref fI) = true
  kC : PySem.W.keepIn K (.ref C) = true
  sa : PySem.W.findIn K (.ref C) "__setattr__" = some (some (.builtin "object.__setattr__"))
  tk : PySem.W.takerIn K C f = some none
  dc : PySem.W.hasDictIn K C = true
  su : PySem.W.ks_superIn K C C "__init__" = some (some (.builtin "Exception.__init__"))
  sx : PySem.W.subIn K (.ref C) (.type "Exception") = some true
  sb : PySem.W.subIn K (.ref C) (.type "BaseException") = some true
  ty : PySem.W.typeIn K (.ref C) = some (.type "type")
  mr : PySem.W.mroIn K C (.ref C) = some true
  tp : PySem.W.nsIn K cStatics "thirdparty.any" = some none
  sp : PySem.W.nsIn K mainGlobals "super" = some none
  fn : ∃ (cc cda : Addr) (oc : Value) (od : Option Addr) (osl : Array (Option Value)) (name qual : Str) (params : Arguments) (scope : Scope) (dV kV doc pm ct : Value) (an : Option Addr) (body : List Stmt) (p0 p1 p2 p3 p4 p5 p6 p7 p8 p9 : Pos) (ar : Arg)
      (ccl : Value) (cdd : Option Addr) (vs : Array Value) (ccs : Array (Option Value)) (file : Str) (tf : Tok) (cl : Value) (cld : Option Addr) (csl : Array (Option Value)),
    K.lookup fI = some ⟨oc, od, .func (PySem.W.ksFn name qual params body scope dV kV doc pm an (.ref cda) ct cc), osl⟩ ∧
    body = [.Expr (.Call (.Attribute (.Call (.Name "super" p0) [] [] p1) "__init__" p2) [.Name px p3] [] p4) p5, .Assign [.Attribute (.Name "self" p6) f p7] (.Name px p8) p9] ∧
    (params.posonlyargs ++ params.args).head? = some ar ∧ ar.arg = "self" ∧
    scope.kind = .function ∧ scope.isCoroutine = false ∧ scope.isGenerator = false ∧ (∀ x ∈ scope.names, x.2 ≠ .cell) ∧
    scope.names.lookup ("super" : Str) = some .globalImplicit ∧ scope.names.lookup ("__class__" : Str) = some .free ∧ scope.names.lookup ("self" : Str) = some .local ∧ scope.names.lookup px = some .local ∧
    PySem.W.codeIn K (.ref cda) qual = true ∧ K.lookup cda = some ⟨ccl, cdd, .fields vs, ccs⟩ ∧ vs[2]? = some (.str file tf) ∧ ((prog.main.file : Str) == file) = true ∧ (prog.main.scope.names.lookup ("super" : Str)).isSome = false ∧
    K.lookup cc = some ⟨cl, cld, .cell (some (.ref C)), csl⟩ ∧ Binds K (PySem.W.ksFn name qual params body scope dV kV doc pm an (.ref cda) ct cc) ["self", px] [] ∧
    ("self" : Str) ≠ px ∧ (px == ("__debug__" : Str)) = false ∧ (px == ("__classdict__" : Str)) = false ∧
    ∃ pl : Sem Bool, ∀ L : Addr, eval (.Call (.Attribute (.Call (.Name "super" p0) [] [] p1) "__init__" p2) [.Name px p3] [] p4) (PySem.W.ksEnv qual scope L fI (.ref cda) cc) = (do
      let ov ← attributeBase (.Call (.Name "super" p0) [] [] p1) "__init__" (PySem.W.ksEnv qual scope L fI (.ref cda) cc) (eval (.Call (.Name "super" p0) [] [] p1) (PySem.W.ksEnv qual scope L fI (.ref cda) cc))
      standAt p2.atName
      let (f, first) ← holding [ov] (getMethod ov "__init__" pl)
      callWith p4 f first (backTo p4 (starEach [.Name px p3] (PySem.W.ksEnv qual scope L fI (.ref cda) cc))) [])

section
open PySem.W PySem.Calls Builtin Builtin.ObjectAttr
variable {prog : Program} {w : World} {A : Around} {E : Value → Shared → Prop} {R : Result → Shared → Prop} {hp : Heap} {g : Array GenState} {d : Drawn} {t : Nat} {os : OsState}
theorem osa_newT {K : Frag} {name : Str} {tk : Tok} {v : Value} {x C : Addr} {fv : Array Value}
    (X : K.In hp) (hx : hp.get? x = some { cls := .ref C, data := .fields fv }) (ho : excOver K C exTl = true) (hh : hasDictIn K C = true) (ha : takerIn K C name = some none)
    (hq : ∀ h' tk' dx, (∀ b o, b ≠ x → hp.get? b = some o → h'.get? b = some o) → hp.objs.size ≤ dx → dx ≠ x → h'.get? x = some { cls := .ref C, dict := some dx, data := .fields fv } →
      h'.Ns1 dx (fun y => if y = name then some v else none) → R (.ok (.ret .none)) ⟨h', g, d, tk', os⟩) :
    codeAny (model prog w) A (.call (.builtin "object.__setattr__") ⟨[.ref x, .str name tk, v], []⟩) R ⟨hp, g, d, t, os⟩ := by
  have I : W.InstAt hp x { cls := .ref C, data := .fields fv } C none := ⟨hx, rfl, rfl, trivial⟩
  have hxs : x ≠ hp.objs.size := Nat.ne_of_lt (Heap.lt_size hx)
  refine osa_openX (s := ⟨hp, g, d, t, os⟩) F.store_Exception X I ho ha fun b => ?_
  show wpAny _ _ (storeInOwnDict (.ref x) (.ref C) (.str name tk) name v b) _ _ _
  obtain ⟨cd, hcd, hh⟩ := any_some hh
  have hcls : W.Looks (model prog w) hp (classData C) cd := W.looks_clsIn X hcd
  obtain ⟨nm, bs, mro, ns, qn, hd, sn, sb, ab, col, del⟩ := cd
  dsimp only at hh
  subst hh
  unfold storeInOwnDict ownDictForStores
  repeat (first | with_reducible refine HandSPX.store_in_new ?_ ?_ | with_reducible refine wpAny_loadPart_at hx ?_ | with_reducible refine hcls.at ?_ | wp_step)
  · exact ⟨_, #[], _, (Heap.get?_update_ne _ _ _ _ hxs.symm).trans (Heap.get?_push_at rfl rfl), rfl, fun e he => absurd he (by simp), fun _ => rfl⟩
  · intro h' tk' hn' hs
    have hx₁ : (hp.push { cls := .type "dict", data := .dict #[] }).get? x = some { cls := .ref C, data := .fields fv } := Heap.get?_push_of_some _ hx
    refine hq h' tk' hp.objs.size (fun b o hb ho => ?_) (Nat.le_refl _) hxs.symm ?_ hn'
    · exact (hs.2 b (Nat.ne_of_lt (Heap.lt_size ho))).trans ((Heap.get?_update_ne _ _ _ _ hb).trans (Heap.get?_push_of_some _ ho))
    · exact (hs.2 x hxs).trans (Heap.get?_update_self _ hx₁ rfl)
end
section
open PySem.W PySem.Calls
variable {X : Cx} {C fI : Addr} {f px : Str}
theorem exTl_take {K : Frag} {C : Addr} (q : subIn K (.ref C) (.type "BaseException") = some true) (t : typeIn K (.ref C) = some (.type "type")) {X : Cx} (hK : X.K = K) : Raises X (.ref C) := by subst hK; exact raises_own q t
theorem run_sup {pins : List (Addr × Obj)} {σ : L2.St} {H : Hp} {s : Shared} {k : Nat} {u : Value} {Q : Value → Shared → Prop} (I : Inv X pins σ H s) (S : SupC X.prog X.K C fI f px) (hr : Room (k + 1) X.A)
    (h : ∀ h4 tk4 e dx t2, s.heap.objs.size ≤ e → s.heap.objs.size ≤ dx → dx ≠ e → (∀ b o, s.heap.get? b = some o → h4.get? b = some o) →
      h4.get? e = some { cls := .ref C, dict := some dx, data := .fields #[.ref t2, .none, .none, .none, .bool false, .none] } → h4.Ns1 dx (fun y => if y = f then some u else none) → Q (.ref e) { s with heap := h4, toks := tk4 }) :
    wpAny (model X.prog X.w) X.A (call (.ref C) [u]) Q X.xe s := by
  obtain ⟨cc, cda, oc, od, osl, name, qual, params, scope, dV, kV, doc, pm, ct, an, body, p0, p1, p2, p3, p4, p5, p6, p7, p8, p9, ar, ccl, cdd, vs, ccs, file, tf, cl, cld, csl,
    hfI, hbody, har, harg, hsk, hco, hgen, hcell, hsup, hcls, hself, hpx, hcd, hcda, hvs, hfile, htop, hcc, hbind, hne, hdb, hcdn, pl, hev⟩ := S.fn
  subst hbody
  have X₀ := I.ok.mod.kin
  obtain ⟨mb, hmb, hmbb⟩ := I.ok.mod.blt
  have hglob := I.ok.mod.glob
  have KI := I.kIn
  have hbk : ∀ b o, X.base.get? b = some o → s.heap.get? b = some o := I.bk
  have hnl := I.nolimit
  have hbsz : X.base.objs.size ≤ s.heap.objs.size := Nat.le_trans (Nat.le_trans I.ok.bsz I.ok.above) (Nat.le_of_lt I.lt)
  obtain ⟨cdC, hcdC⟩ : ∃ cd, clsIn X.K C = some cd := by
    have := S.su
    unfold ks_superIn at this
    cases q : clsIn X.K C with
    | none => rw [q] at this; cases this
    | some cd => exact ⟨cd, rfl⟩
  have hz1 : ([u] : List Value).length ≤ sizeLine := by show 1 ≤ sizeLine; rw [sizeLine_eq]; omega
  obtain ⟨nmC, N', qnC, bsC, bmC, hdct, sn, sub, ab, col, dd, k0, k1, k2, k3, k5, hC, hT⟩ := excInit_of KI S.q
  obtain ⟨oI, hoI, hcI⟩ : ∃ oI, s.heap.get? fI = some oI ∧ oI.cls = .type "function" := by
    obtain ⟨o, ho, hc⟩ := Option.map_eq_some_iff.mp (show (X.K.lookup fI).map (·.cls) = some (.type "function") from beq_iff_eq.mp S.hf)
    exact ⟨o, KI _ _ ho, hc⟩
  obtain ⟨hp, g, d, tk, os⟩ := s
  have hnone : ∀ b, hp.objs.size ≤ b → hp.get? b = none := fun b hb => Heap.get?_none_of_le hb
  refine wpAny_call (PX.call_own F.excBase_Exception hT hC (looks_findIn KI S.hi) (fun self => exc_bind hoI hcI self) hz1 ?_)
  -- the object and its args are laid
  generalize hh1 : (hp.push (W.kdv_tup [u])).push (PX.excO C hp.objs.size) = h1
  have k1 : ∀ b o, hp.get? b = some o → h1.get? b = some o := fun b o e => by rw [← hh1]; exact Heap.get?_push_of_some _ (Heap.get?_push_of_some _ e)
  have he1 : h1.get? (hp.objs.size + 1) = some (excObj C hp.objs.size none .none) := by
    rw [← hh1]
    have := Heap.get?_push_size (hp.push (W.kdv_tup [u])) (o := PX.excO C hp.objs.size) rfl
    rw [Heap.size_push] at this
    exact this
  have hs1 : h1.objs.size = hp.objs.size + 2 := by rw [← hh1, Heap.size_push, Heap.size_push]
  have K1 : X.K.In h1 := KI.keeps k1
  have hbb : BindsTo (⟨h1, g, d, tk, os⟩ : Shared) _ ⟨[.ref (hp.objs.size + 1), u], []⟩ _ := hbind ⟨h1, g, d, tk, os⟩ [.ref (hp.objs.size + 1), u] K1 rfl
  refine ks_codeAny_call_defAt (s := ⟨h1, g, d, tk, os⟩) (hr.make C [u] []).depth (K1 _ _ hfI) rfl (hnl.keeps k1) (codeRec_of K1 hcd) rfl hbb hcell ?_ (fun h2 hns2 k2 => ?_) hco hgen hsk
  · intro y hy
    rcases List.mem_cons.mp hy with rfl | hy
    · exact hself
    · rcases List.mem_cons.mp hy with rfl | hy
      · exact hpx
      · cases hy
  -- within __init__
  have he2 : h2.get? (hp.objs.size + 1) = some (excObj C hp.objs.size none .none) := k2 _ _ he1
  have hL2 : (⟨h1, g, d, tk, os⟩ : Shared).heap.objs.size = hp.objs.size + 2 := hs1
  rw [hL2] at hns2 ⊢
  have b2 : ∀ b o, X.base.get? b = some o → h2.get? b = some o := fun b o e => k2 b o (k1 b o (hbk b o e))
  have F2 : PyProof.Rows.Fr X.base (hp.objs.size + 2) h2 (fun y => (([("self" : Str), px].zip ([Value.ref (hp.objs.size + 1), u] ++ [])).reverse).lookup y) := ⟨hns2, b2, by have : X.base.objs.size ≤ hp.objs.size := hbsz; omega⟩
  have hbe : X.base.get? (hp.objs.size + 1) = none := Heap.get?_none_of_le (by have : X.base.objs.size ≤ hp.objs.size := hbsz; omega)
  have N2 : PyProof.Rows.News X.base (hp.objs.size + 2) h2 ((hp.objs.size + 1, excObj C hp.objs.size none .none) :: rest X.base h2 (hp.objs.size + 2) (hp.objs.size + 1)) := news_at (Nat.ne_of_lt (Nat.lt_succ_self _)) hbe he2
  have K2 : X.K.In h2 := X₀.keeps b2
  have K3 : ∀ {h3 : Heap}, PyProof.Rows.Fr X.base (hp.objs.size + 2) h3 (fun y => (([("self" : Str), px].zip ([Value.ref (hp.objs.size + 1), u] ++ [])).reverse).lookup y) → X.K.In h3 := fun F => X₀.keeps F.keep
  have mself : (fun y : Str => (([("self" : Str), px].zip ([Value.ref (hp.objs.size + 1), u] ++ [])).reverse).lookup y) "self" = some (Value.ref (hp.objs.size + 1)) := by
    show List.lookup ("self" : Str) [(px, u), (("self" : Str), Value.ref (hp.objs.size + 1))] = _
    have h1 : (("self" : Str) == px) = false := by simpa using hne
    simp [List.lookup, h1]
  have mpx : (fun y : Str => (([("self" : Str), px].zip ([Value.ref (hp.objs.size + 1), u] ++ [])).reverse).lookup y) px = some u := by
    show List.lookup px [(px, u), (("self" : Str), Value.ref (hp.objs.size + 1))] = _
    simp [List.lookup]
  have hint : ∀ L, interactive (ksEnv qual scope L fI (.ref cda) cc) = false := fun L => by unfold interactive; simp [hsk]
  show _root_.PySem.wpAt (model X.prog X.w) (Around.deeper _ (ksEnv qual scope (hp.objs.size + 2) fI (.ref cda) cc)) (.func _ (ksEnv qual scope (hp.objs.size + 2) fI (.ref cda) cc)) (execs _ (ksEnv qual scope (hp.objs.size + 2) fI (.ref cda) cc)) _ _ _
  refine ks_wpAt_execs_cons (ks_wpAt_Expr_any (ks_wpAt_MethodCall ?_ (hev _)) (hint _))
  obtain ⟨oD, hD1, hD2⟩ : ∃ oD, h2.get? C = some oD ∧ oD.data = .cls cdC := by
    unfold clsIn at hcdC
    split at hcdC
    · rename_i c d cd' sl ho
      cases hcdC
      exact ⟨_, K2 _ _ ho, rfl⟩
    · cases hcdC
  have I2 : InstAt h2 (hp.objs.size + 1) (excObj C hp.objs.size none .none) C none := ⟨he2, rfl, rfl, trivial⟩
  refine ks_wpAt_super_base (env := ksEnv qual scope (hp.objs.size + 2) fI (.ref cda) cc) hsup hcls (by decide) rfl (K2 _ _ hfI) rfl har rfl (K2 _ _ hcda) rfl hvs hfile htop ?_
  refine ks_loadName_global hsk hsup (loadGlobal_builtin (env := ksEnv qual scope (hp.objs.size + 2) fI (.ref cda) cc) (hglob.keeps b2) (mg_none_of X₀ hglob S.sp) (hmb.keeps b2) ((hmbb _ (by decide +kernel)).trans (by first | boot_by_name | rfl | kernel_rfl)) ⟨rfl, ?_⟩)
  refine wpAny_loadName_free hsk hcls rfl ⟨_, K2 _ _ hcc, rfl⟩ ?_
  rw [harg]
  refine wpAny_loadName_local hsk hself F2.ns mself ?_
  refine ks_wpAny_isType_cls hD1 hD2 ⟨rfl, ?_⟩
  refine ks_wpAny_call_super hD1 hD2 I2.at_ I2.cls (fun c e => ?_) (looks_mroIn K2 S.mr) (fun h3 e3 k3 => ?_)
  · cases e
  obtain ⟨F3, N3, l3⟩ := ks_newsPush (s := ⟨h2, g, d, tk + 2, os⟩) F2 N2 rfl e3 k3
  have I3 : InstAt h3 (hp.objs.size + 1) (excObj C hp.objs.size none .none) C none := ⟨k3 _ _ he2, rfl, rfl, trivial⟩
  refine kxs_method kxs_Exception F3 X₀ N3 List.mem_cons_self I3 S.tp S.su S.sx (by decide) (fun q h4 F4 N4 l4 => ?_)
  have ldx : ∀ {A' : Around} {E' : Value → Shared → Prop} {Q' : Value → Shared → Prop} {s' : Shared} {pz : Pos}, s'.heap.Ns (hp.objs.size + 2) (fun y => (([("self" : Str), px].zip ([Value.ref (hp.objs.size + 1), u] ++ [])).reverse).lookup y) → Q' u s' →
      wpAny (model X.prog X.w) A' (eval (.Name px pz) (ksEnv qual scope (hp.objs.size + 2) fI (.ref cda) cc)) Q' E' s' := fun hn q => wpAny_Name (wpAny_loadName_local hsk hpx hn mpx q) hdb
  refine kxs_callWith1 (i := "Exception.__init__") (x := hp.objs.size + 1) N4 List.mem_cons_self ?_ rfl rfl
  refine spliced_cons (ldx F4.ns (spliced_nil ⟨kxs_at N4 List.mem_cons_self, ?_⟩))
  have q1 : q ≠ hp.objs.size + 1 := fun z => absurd (l4 (hp.objs.size + 1, excObj C hp.objs.size none .none) (List.mem_cons_of_mem _ List.mem_cons_self)) (by rw [z]; exact Nat.lt_irrefl _)
  have q2 : h2.objs.size ≠ hp.objs.size + 1 := fun z => absurd (l3 (hp.objs.size + 1, excObj C hp.objs.size none .none) List.mem_cons_self) (by show ¬ (hp.objs.size + 1 < h2.objs.size); rw [z]; exact Nat.lt_irrefl _)
  refine kxs_call F4 X₀ N4 F.excBase_Exception S.q List.mem_cons_self (.tail q1 (.tail q2 (.head rest_ne))) hz1 (fun t5 h5 F5 N5 l5 => ?_)
  -- self.f = x
  have he5 : h5.get? (hp.objs.size + 1) = some (excObj C t5 none .none) := (N5 _ (List.mem_cons_of_mem _ (List.mem_cons_of_mem _ (List.mem_cons_of_mem _ List.mem_cons_self)))).1
  have N5r : PyProof.Rows.News X.base (hp.objs.size + 2) h5 (rest X.base h2 (hp.objs.size + 2) (hp.objs.size + 1)) := fun p hp => N5 p (List.mem_cons_of_mem _ (List.mem_cons_of_mem _ (List.mem_cons_of_mem _ (List.mem_cons_of_mem _ hp))))
  have k5 := kept_of_news b2 F5 N5r
  refine ks_wpAt_execs_cons (ks_wpAt_Assign_Attr (wpAt_of_wpAny (ldx F5.ns (wpAny_Name (wpAny_loadName_local hsk hself F5.ns mself ?_) (by decide)))))
  refine set_plain (s := ⟨h5, g, d, _, os⟩) (od := none) (ox := excObj C t5 none .none) (K3 F5) ⟨he5, rfl, rfl, trivial⟩ S.sa (osa_newT (K3 F5) he5 S.ov S.dc S.tk (fun h6 tk6 dx k6 sz6 ne6 he6 ns6 => ?_))
  refine wpAt_of_wpAny (wpAny_execs_nil ⟨rfl, ?_⟩)
  have lt1 : ∀ {b : Addr} {o : Obj}, hp.get? b = some o → b < hp.objs.size := fun e => Heap.lt_size e
  have ltL : hp.objs.size + 2 < h5.objs.size := F5.ns.lt
  have sz6' : h5.objs.size ≤ dx := sz6
  have hle : hp.objs.size ≤ dx := by omega
  refine h h6 tk6 (hp.objs.size + 1) dx t5 (Nat.le_succ _) hle ne6 (fun b o e => ?_) he6 ns6
  have hb : b < hp.objs.size := lt1 e
  have n1 : b ≠ hp.objs.size + 1 := Nat.ne_of_lt (Nat.lt_succ_of_lt hb)
  have n2 : b ≠ hp.objs.size + 2 := Nat.ne_of_lt (Nat.lt_succ_of_lt (Nat.lt_succ_of_lt hb))
  exact k6 b o n1 (k5 b o n2 n1 (k2 b o (k1 b o e)))
/-- X(e) -/
theorem pmk_sup {x : Str} {e : Expr} {te : TE} {p pos : Pos} {k : Nat} (S : SupC X.prog X.K C fI f px) (hr : Room (k + 1) X.A) (gC : X.mg x = some (.ref C)) (hg : Gl X x) (he : PE X e te) (hs : starEach [e] X.env = [(false, eval e X.env)]) (hdb : (x == ("__debug__" : Str)) = false) :
    PMk X (.Call (.Name x p) [e] [] pos) (fun σ H Q => te σ H fun v H1 => ∀ d, H1 d = none → Q (.ref C) (some d) (upd H1 d (.xd [(f, v)]))) := by
  intro pins s σ H Q I h
  refine wpAny_Call_Name_kw (ld_glob I hg gC ?_ hdb)
  refine PySem.W.callWith_K (h₀ := X.base) I.ok.mod.kin S.kC ?_ hs (by rfl)
  rw [hs]
  show wpAny _ _ (spliced ((false, eval e X.env) :: backTo pos [])) _ _ s
  refine Calls.spliced_cons (thn (he.run pins s σ H _ I h) fun u s1 ⟨v, H1, I1, r1, q1⟩ => ?_)
  refine Calls.spliced_nil ⟨I1.kIn, ?_⟩
  show wpAny _ _ (call (.ref C) [u]) _ _ _
  refine run_sup I1 S hr fun h4 tk4 ea dx t2 ha hd hne k4 he4 ns4 => ?_
  obtain ⟨Gh, g1, g2⟩ := restrict h4 fun b => decide (b ≠ ea)
  have gk : ∀ b, b ≠ ea → Gh.get? b = h4.get? b := fun b hb => g1 b (decide_eq_true hb)
  have ge : Gh.get? ea = none := g2 ea (by simp)
  have kG : ∀ b o, s1.heap.get? b = some o → Gh.get? b = some o := fun b o z => by
    rw [gk b (Nat.ne_of_lt (Nat.lt_of_lt_of_le (Heap.lt_size z) ha))]; exact k4 b o z
  have nsG : Gh.Ns1 dx (fun y => if y = f then some u else none) := by
    obtain ⟨o, es, ep, ho, hrr⟩ := ns4
    exact ⟨o, es, ep, (gk dx hne).trans ho, hrr⟩
  have new : ObjOk X.prog X.w (upd H1 dx (.xd [(f, v)])) Gh dx (.xd [(f, v)]) := by
    refine ⟨_, nsG, fun g => ?_⟩
    by_cases hgf : g = f
    · subst hgf
      have e1 : List.lookup g [(g, v)] = some v := by simp [List.lookup]
      rw [e1, if_pos rfl]; exact r1
    · have e1 : List.lookup g [(f, v)] = none := by
        have : (g == f) = false := by simpa using hgf
        simp [List.lookup, this]
      rw [e1, if_neg hgf]; trivial
  have J : Inv X pins σ (upd H1 dx (.xd [(f, v)])) { s1 with heap := Gh, toks := tk4 } := I1.laid (t' := tk4) kG hd new
  refine ⟨ea, _, _, { s1 with heap := Gh, toks := tk4 }, _, .ref C, some dx, rfl, J, fun b o z => ?_, ge, he4, ⟨rfl, rfl⟩, rfl, rfl, ?_, rfl, I1.bare, raises_own S.sb S.ty, q1 dx (I1.hok.fresh hd)⟩
  · have hb : b ≠ ea := fun q => by rw [q, ge] at z; cases z
    exact (gk b hb).symm.trans z
  · rw [upd_ne (Ne.symm hne)]; exact I1.hok.fresh ha
end
end PD
end

section
set_option Elab.async false
set_option linter.all false
set_option maxRecDepth 100000
set_option maxHeartbeats 4000000
/-! PD14: raise, try. -/
namespace PD
open PySem PySem.Spec PyProof.Rows L2

section
variable {G : Gb} {X : Cx} {W : WX} {e : Expr} {g : SemE} {p pos pos' : Pos} {x f px : Str} {C : Addr} {cls : Nat}
theorem ds_raise0 (hK : G.K = X.K) (hc : X.calm = true) (tk : Takes X W) (hC : G.xa cls = some C) (q : PySem.W.excIn X.K C exTl "Exception.__new__" = true) (gC : X.mg x = some (.ref C)) (kC : PySem.W.keepIn X.K (.ref C) = true)
    (sb : PySem.W.subIn X.K (.ref C) (.type "BaseException") = some true) (ty : PySem.W.typeIn X.K (.ref C) = some (.type "type")) (hg : Gl X x) (hdb : (x == ("__debug__" : Str)) = false) :
    DS G X W (.Raise (some (.Call (.Name x p) [] [] pos)) none pos') (sRaise0 cls) :=
  PS.weak (ps_raise hc tk (pmk_own0 q gC kC (raises_own sb ty) hg hdb)) fun D' σ H ⟨env, μ, st, he, hst, h⟩ =>
    h (.ref C) none σ H μ (Go.refl _ _) hst he ⟨C, hC, rfl, rfl⟩
theorem ds_raise1 {k : Nat} {fI : Addr} (hK : G.K = X.K) (hc : X.calm = true) (tk : Takes X W) (hC : G.xa cls = some C) (hf : G.xf cls = f) (S : SupC X.prog X.K C fI f px) (hr : Room (k + 1) X.A) (gC : X.mg x = some (.ref C)) (hg : Gl X x)
    (ha : DE G X W e g) (hs : starEach [e] X.env = [(false, eval e X.env)]) (hdb : (x == ("__debug__" : Str)) = false) :
    DS G X W (.Raise (some (.Call (.Name x p) [e] [] pos)) none pos') (sRaise1 cls g) :=
  PS.weak (ps_raise hc tk (pmk_sup S hr gC hg (PE.fz ha) hs hdb)) fun D' σ H ⟨env, μ, st, he, hst, h⟩ => by
    refine ⟨env, μ, st, he, hst, (PstS.expr (R := RA G) he h).mono fun v H1 ⟨a, μ1, st1, g1, s1, r1, e1, p1⟩ => ?_⟩
    split at p1
    · rename_i d s2 ef
      refine (freeze_goal s1 r1 ef).mono fun H2 ⟨t2, rd, g2⟩ => fun dd hdd => ?_
      have gn : Grow H2 (upd H2 dd (.xd [(f, v)])) := Grow.new hdd
      refine p1 (.ref C) (some dd) σ _ μ1 ((g1.trans g2).trans (gn.go μ1)) (t2.grow gn) ((e1.mono g2).mono (gn.go μ1)) ⟨C, hC, rfl, dd, v, rfl, ?_, rd.mono gn.ext d v⟩
      rw [hf]; exact upd_same
    · exact p1.elim
end

/-! ### try: several clauses, with or without a name -/
/-- what the clauses wish of an exception of the body, one after the other -/
def wMix (K : Fr) (Wout : WX) (D : Ends) : List (Value × Option Nat × (Addr → Value → Option Addr → TS)) → WX
  | [] => Wout
  | (c, none, ts) :: r => fun cls d σ H => ∃ b, PySem.W.exmOne K cls c = some b ∧ (b = true → ∀ a, H a = none → ts a cls d D σ H) ∧ (b = false → wMix K Wout D r cls d σ H)
  | (c, some i, ts) :: r => fun cls d σ H => ∃ b, PySem.W.exmOne K cls c = some b ∧
      (b = true → ∀ a, H a = none → ts a cls d { nx := fun σ' H' => D.nx (σ'.set i none) H', rt := D.rt, bk := fun σ' H' => D.bk (σ'.set i none) H', ct := fun σ' H' => D.ct (σ'.set i none) H' } (σ.set i (some (.ref a))) H) ∧ (b = false → wMix K Wout D r cls d σ H)
inductive HdsMix (X : Cx) : List ExceptHandler → List (Value × Option Nat × (Addr → Value → Option Addr → TS)) → Prop
  | nil : HdsMix X [] []
  | cons {x : Str} {c : Value} {ts : Addr → Value → Option Addr → TS} {b₀ : Stmt} {suite : List Stmt} {np pos' : Pos} {hds : List ExceptHandler} {l : List (Value × Option Nat × (Addr → Value → Option Addr → TS))} (hc : Names X x c)
      (hsu : ∀ (a : Addr) (oe : Obj) (cls : Value) (d : Option Addr) (pn : List (Addr × Obj)), Zc cls d oe → (∃ vs, oe.data = .fields vs) → PSs (X.suite a ((a, oe) :: pn)) (b₀ :: suite) (ts a cls d)) (r : HdsMix X hds l) :
      HdsMix X (.ExceptHandler (some (.Name x np)) none (b₀ :: suite) pos' :: hds) ((c, none, ts) :: l)
  | named {x n : Str} {i : Nat} {c : Value} {ts : Addr → Value → Option Addr → TS} {b₀ : Stmt} {suite : List Stmt} {np pos' : Pos} {hds : List ExceptHandler} {l : List (Value × Option Nat × (Addr → Value → Option Addr → TS))} (hc : Names X x c)
      (hi : X.N[i]? = some n) (hln : X.env.kindOf n = some .local)
      (hsu : ∀ (a : Addr) (oe : Obj) (cls : Value) (d : Option Addr) (pn : List (Addr × Obj)), Zc cls d oe → (∃ vs, oe.data = .fields vs) → PSs (X.suite a ((a, oe) :: pn)) (b₀ :: suite) (ts a cls d)) (r : HdsMix X hds l) :
      HdsMix X (.ExceptHandler (some (.Name x np)) (some n) (b₀ :: suite) pos' :: hds) ((c, some i, ts) :: l)
section
variable {X : Cx} {body : List Stmt} {h₀ : ExceptHandler} {hds : List ExceptHandler} {l : List (Value × Option Nat × (Addr → Value → Option Addr → TS))} {pos : Pos} {tb : WX → TS} {Wout : WX}
theorem ps_try_mix (hs : X.stack = X.env :: X.outer) (hf : X.env.frame = some X.env.locals) (hN : X.N.Nodup) (tk : Takes X Wout)
    (hb : ∀ (W : WX) (pn : List (Addr × Obj)) (xe : Value → Shared → Prop), Takes (X.tr pn xe) W → PassesOwn (model X.prog X.w) X.A X.env xe → PSs (X.tr pn xe) body (tb W))
    (hh : HdsMix X (h₀ :: hds) l) : PS X (.Try body (h₀ :: hds) [] [] pos) (fun D σ H => tb (wMix X.K Wout D l) D σ H) := by
  refine ⟨fun pins s σ H D I h => ?_⟩
  have ok := I.ok
  have hfr : X.A.frames = some (X.env :: X.outer) := by rw [ok.frames, hs]
  refine wpAny_Try_except ?_
  refine wpAny_mono ((hb (wMix X.K Wout D l) (X.pn ++ pins) (fun e s₁ => wpAny (model X.prog X.w) X.A (noteFrame e X.env) (fun _ s₂ => wpAny (model X.prog X.w) X.A (setFlight e none) (fun _ s₃ =>
    wpAny (model X.prog X.w) X.A (handleBy e X.env (h₀ :: hds)) (SP X pins D) X.xe s₃) X.xe s₂) X.xe s₁) (fun u s' xx => ?_) PassesOwn.looking).run [] s σ H D (I.toTry _) h) (fun f s1 hsp => ?_) (fun e s1 he => he)
  · -- the catch
    obtain ⟨a, B, sI, pins', σ', H', cls, d, rfl, J', nb, up, sky, na, os, ag, w⟩ := xx
    have J : Inv X pins σ' H' sI := J'.ofTry ok
    have sky' : Sky B (X.env :: X.outer) a (Zc cls d) X.env.locals s'.heap := by rw [← hs]; exact sky
    show wpAny (model X.prog X.w) X.A (noteFrame (.ref a) X.env) _ _ _
    refine Sky.land Zc.steady hfr hf sky' fun h3 fl3 up3 => ?_
    have J3 : Inv X pins σ' H' { s' with heap := h3 } := J.landed nb fl3.1 (up.trans up3) os ag
    obtain ⟨oe3, vs3, he3, hz3, hd3⟩ := fl3.there
    have notFr : ∀ {h : Heap} {o : Obj} {vs : Array Value}, h.FunFrames B (X.env :: X.outer) → h.get? a = some o → o.data = .fields vs → a ∉ frs (X.env :: X.outer) := fun {h o vs} ff e dd hm => by
      obtain ⟨_, o', e', hnf⟩ := ff.mem hm
      rw [e] at e'; cases e'
      exact hnf _ dd
    have nfr := notFr fl3.2.2.1 he3 hd3
    have nL : a ≠ X.env.locals := fun z => nfr (List.mem_filterMap.mpr ⟨X.env, List.mem_cons_self, by rw [hf, z]⟩)
    have nF : a ∉ X.fs := fun hm => by
      obtain ⟨e, he, q⟩ := List.mem_filterMap.mp hm
      exact nfr (List.mem_filterMap.mpr ⟨e, List.mem_cons_of_mem _ he, q⟩)
    have S3 := J3.suite he3 hd3 na nL nF
    have go : ∀ {hds' : List ExceptHandler} {l' : List (Value × Option Nat × (Addr → Value → Option Addr → TS))}, HdsMix X hds' l' → wMix X.K Wout D l' cls d σ' H' →
        wpAny (model X.prog X.w) X.A (handleBy (.ref a) X.env hds') (SP X pins D) X.xe { s' with heap := h3 } := by
      intro hds' l' hk
      induction hk with
      | nil =>
        intro w
        refine wpAny_handleBy_nil ?_
        obtain ⟨k1, k2, k3, oe, vs, T, oT, ts', he, hz, hd, h1, hr⟩ := id fl3
        unfold PySem.passOn
        refine wpAny_bind (wpAny_field he hd h1 ?_)
        rw [if_neg (show ¬ ((Value.ref T == Value.none) = true) from by simp)]
        have fin : wpAny (model X.prog X.w) X.A (setFlight (.ref a) X.env.frame) (fun _ s4 => wpAny (model X.prog X.w) X.A (throw (.ref a) : Sem Flow) (SP X pins D) X.xe s4) X.xe { s' with heap := h3 } := by
          rw [hf]
          refine HandSPX.setFlight_upZ fl3 fun h4 hh4 up4 => wpAny_throw (tk _ _ ?_)
          exact ⟨a, B, sI, pins, σ', H', cls, d, rfl, J, nb, (up.trans up3).trans up4, .inr (.inr (by rw [hs]; exact hh4)), na, os, ag, w⟩
        first
          | exact wpAny_bind (wpAny_pure (wpAny_bind fin))
          | exact wpAny_bind fin
      | @cons x c ts b₀ suite np pos' hds2 l2 hc hsu r ih =>
        intro w
        obtain ⟨b, hb1, hyes, hno⟩ := w
        refine wpAny_handleBy_cons (codeAny_handlers_test ?_) (by intro q; cases q)
        have LT : PySem.W.Looks (model X.prog X.w) h3 (typeOf (.ref a)) cls := fun A Q E s k q => wpAny_typeOf_ref (k _ _ he3) (by rw [hz3.1]; exact q)
        have LM := PySem.W.exm_one (M := model X.prog X.w) (J3.kIn) LT hb1
        have test : ∀ {Q : Value → Shared → Prop} {E : Value → Shared → Prop}, Q c { s' with heap := h3 } → wpAny (model X.prog X.w) (X.A.mark (some (.ref a))) (eval (.Name x np) X.env) Q E { s' with heap := h3 } := fun {Q E} q => by
          obtain ⟨hg, hdbg, hm | ⟨hm, hv, hnn⟩⟩ := hc
          · exact ld_glob (X := X.suite a ((a, oe3) :: (X.pn ++ pins))) S3 hg hm q hdbg
          · exact ld_blt (X := X.suite a ((a, oe3) :: (X.pn ++ pins))) S3 hg hm hv q hnn hdbg
        refine test (LM.here ?_)
        cases b with
        | true =>
          refine codeAny_handlers_suite ?_
          refine HandSPX.lands_againZ fl3 fun h4 fl4 up4 => ?_
          have J4 : Inv X pins σ' H' { s' with heap := h4 } := J.landed nb fl4.1 ((up.trans up3).trans up4) os ag
          obtain ⟨oe4, vs4, he4, hz4, hd4⟩ := fl4.there
          have S4 := J4.suite he4 hd4 na nL nF
          refine wpAny_mono ((hsu a oe4 cls d (X.pn ++ pins) hz4 ⟨_, hd4⟩).run [] _ _ H' _ S4 (hyes rfl a na)) (fun f s6 hsp => ?_) (fun _ _ z => False.elim z)
          cases f with
          | next =>
            obtain ⟨σ6, H6, S6, q6⟩ := hsp
            exact ⟨_, _, S6.unsuite ok, q6⟩
          | brk =>
            obtain ⟨σ6, H6, S6, q6⟩ := hsp
            exact ⟨_, _, S6.unsuite ok, q6⟩
          | cont =>
            obtain ⟨σ6, H6, S6, q6⟩ := hsp
            exact ⟨_, _, S6.unsuite ok, q6⟩
          | ret u =>
            obtain ⟨v6, σ6, H6, S6, r6, q6⟩ := hsp
            exact ⟨_, _, _, S6.unsuite ok, r6, q6⟩
        | false =>
          show wpAny _ X.A (handleBy (.ref a) X.env hds2) _ _ _
          exact ih (hno rfl)
      | @named x n i c ts b₀ suite np pos' hds2 l2 hc hi hln hsu r ih =>
        intro w
        obtain ⟨b, hb1, hyes, hno⟩ := w
        refine wpAny_handleBy_cons (codeAny_handlers_test ?_) (by intro q; cases q)
        have LT : PySem.W.Looks (model X.prog X.w) h3 (typeOf (.ref a)) cls := fun A Q E s k q => wpAny_typeOf_ref (k _ _ he3) (by rw [hz3.1]; exact q)
        have LM := PySem.W.exm_one (M := model X.prog X.w) (J3.kIn) LT hb1
        have test : ∀ {Q : Value → Shared → Prop} {E : Value → Shared → Prop}, Q c { s' with heap := h3 } → wpAny (model X.prog X.w) (X.A.mark (some (.ref a))) (eval (.Name x np) X.env) Q E { s' with heap := h3 } := fun {Q E} q => by
          obtain ⟨hg, hdbg, hm | ⟨hm, hv, hnn⟩⟩ := hc
          · exact ld_glob (X := X.suite a ((a, oe3) :: (X.pn ++ pins))) S3 hg hm q hdbg
          · exact ld_blt (X := X.suite a ((a, oe3) :: (X.pn ++ pins))) S3 hg hm hv q hnn hdbg
        refine test (LM.here ?_)
        cases b with
        | true =>
          refine codeAny_handlers_suite_as ?_
          refine HandSPX.lands_againZ fl3 fun h4 fl4 up4 => ?_
          have J4 : Inv X pins σ' H' { s' with heap := h4 } := J.landed nb fl4.1 ((up.trans up3).trans up4) os ag
          obtain ⟨oe4, vs4, he4, hz4, hd4⟩ := fl4.there
          have S4 := J4.suite he4 hd4 na nL nF
          refine store_ok (X := X.suite a ((a, oe4) :: (X.pn ++ pins))) (v := .ref a) S4 hN hi (.inl hln) rfl (fun s5 S5 => ?_) (.inr hln)
          refine wpAny_mono ((hsu a oe4 cls d (X.pn ++ pins) hz4 ⟨_, hd4⟩).run [] s5 _ H' _ S5 (hyes rfl a na)) (fun f s6 hsp => ?_) (fun _ _ z => False.elim z)
          have end_ : ∀ {σ6 : L2.St} {H6 : Hp} {Q : Shared → Prop}, Inv (X.suite a ((a, oe4) :: (X.pn ++ pins))) [] σ6 H6 s6 → (∀ s7, Inv X pins (σ6.set i none) H6 s7 → Q s7) →
              wpAny (model X.prog X.w) X.A (do bindName X.env n .none; unbindBehindTheSuite X.env n pos') (fun _ s7 => Q s7) X.xe s6 := fun {σ6 H6 Q} S6 hq => gone_ok (S6.unsuite ok) hN hi hln hq
          cases f with
          | next =>
            obtain ⟨σ6, H6, S6, q6⟩ := hsp
            exact end_ S6 fun s7 J7 => ⟨_, _, J7, q6⟩
          | brk =>
            obtain ⟨σ6, H6, S6, q6⟩ := hsp
            exact end_ S6 fun s7 J7 => ⟨_, _, J7, q6⟩
          | cont =>
            obtain ⟨σ6, H6, S6, q6⟩ := hsp
            exact end_ S6 fun s7 J7 => ⟨_, _, J7, q6⟩
          | ret u =>
            obtain ⟨v6, σ6, H6, S6, r6, q6⟩ := hsp
            exact end_ S6 fun s7 J7 => ⟨_, _, _, J7, r6, q6⟩
        | false =>
          show wpAny _ X.A (handleBy (.ref a) X.env hds2) _ _ _
          exact ih (hno rfl)
    exact go hh w
  · cases f with
    | next =>
      obtain ⟨σ', H', J', q⟩ := hsp
      exact wpAny_execs_nil ⟨σ', H', J'.ofTry ok, q⟩
    | brk =>
      obtain ⟨σ', H', J', q⟩ := hsp
      exact ⟨σ', H', J'.ofTry ok, q⟩
    | cont =>
      obtain ⟨σ', H', J', q⟩ := hsp
      exact ⟨σ', H', J'.ofTry ok, q⟩
    | ret u =>
      obtain ⟨v, σ', H', J', r, q⟩ := hsp
      exact ⟨v, σ', H', J'.ofTry ok, r, q⟩
end
end PD
end

section
set_option Elab.async false
set_option linter.all false
set_option maxRecDepth 100000
set_option maxHeartbeats 400000
/-! PD15: except clauses that hand a value back. -/
namespace PD
open PySem PySem.Spec PyProof.Rows L2

section
variable {G : Gb} {X : Cx} {W : WX}
/-- the caught exception: its place among the slots, its field f -/
def Caught (G : Gb) (a : Addr) (i : Nat) (f : Str) (cls : Value) (d : Option Addr) (arg : Option D) (σ : L2.St) (H : Hp) : Prop :=
  match arg with
  | none => True
  | some x => σ[i]? = some (some (.ref a)) ∧ ∃ C dd v, cls = .ref C ∧ XfC G.K C ∧ PySem.W.findIn G.K (.ref C) f = some none ∧ d = some dd ∧ H dd = some (.xd [(f, v)]) ∧ RepD G.K H x v
def tHE (G : Gb) (a : Addr) (i : Nat) (f : Str) (cls : Value) (d : Option Addr) (h : HE) : TE := fun σ H Q => ∃ arg dv, Caught G a i f cls d arg σ H ∧ h.val arg = some dv ∧ ∀ v H', Grow H H' → RepD G.K H' dv v → Q v H'
def tHEs (G : Gb) (a : Addr) (i : Nat) (f : Str) (cls : Value) (d : Option Addr) (hs : List HE) : TA := fun σ H Q => ∃ arg dvs, Caught G a i f cls d arg σ H ∧ HE.vals hs arg = some dvs ∧ ∀ vs H', Grow H H' → RepDs G.K H' dvs vs → Q vs H'
theorem Caught.grow {a : Addr} {i : Nat} {f : Str} {cls : Value} {d : Option Addr} {arg : Option D} {σ : L2.St} {H H' : Hp} (g : Grow H H') (h : Caught G a i f cls d arg σ H) : Caught G a i f cls d arg σ H' := by
  cases arg with
  | none => trivial
  | some x =>
    obtain ⟨h1, C, dd, v, e1, e2, e3, e4, e5, r⟩ := h
    exact ⟨h1, C, dd, v, e1, e2, e3, e4, g _ _ e5, r.mono g.ext x v⟩
mutual
inductive HEAt (X : Cx) (i : Nat) (n f : Str) : Expr → HE → Prop
  | str {x : Str} {j pos} : goodS x.cps.toList = true → HEAt X i n f (.Constant (.str x) j pos) (.con (.str x.cps.toList))
  | int {x : Int} {j pos} : HEAt X i n f (.Constant (.int x) j pos) (.con (.int x))
  | bl {x : Bool} {j pos} : HEAt X i n f (.Constant (.bool x) j pos) (.con (.bl x))
  | non {j pos} : HEAt X i n f (.Constant .none j pos) (.con .non)
  | arg {p pos : Pos} : X.N[i]? = some n → Vis X.env.scope n → (n == ("__debug__" : Str)) = false → (n == ("__classdict__" : Str)) = false → attributeBase (.Name n p) f X.env (eval (.Name n p) X.env) = eval (.Name n p) X.env → HEAt X i n f (.Attribute (.Name n p) f pos) .arg
  | tup {es : List Expr} {k : Nat} {p : Pos} {hs : List HE} : HEsAt X i n f es hs → HEAt X i n f (.Tuple es k p) (.tup hs)
inductive HEsAt (X : Cx) (i : Nat) (n f : Str) : List Expr → List HE → Prop
  | nil : HEsAt X i n f [] []
  | cons {e : Expr} {h : HE} {es : List Expr} {hs : List HE} : HEAt X i n f e h → HEsAt X i n f es hs → starEach (e :: es) X.env = (false, eval e X.env) :: starEach es X.env → es.length < 1000 → HEsAt X i n f (e :: es) (h :: hs)
end
theorem HEsAt.len {i : Nat} {n f : Str} : ∀ {es : List Expr} {hs : List HE}, HEsAt X i n f es hs → hs.length = es.length ∧ es.length ≤ 1000
  | _, _, .nil => ⟨rfl, Nat.zero_le _⟩
  | _, _, .cons _ t _ hl => ⟨by rw [List.length_cons, List.length_cons, t.len.1], by rw [List.length_cons]; omega⟩
theorem vals_len : ∀ {hs : List HE} {arg : Option D} {dvs : List D}, HE.vals hs arg = some dvs → dvs.length = hs.length
  | [], _, _, h => by simp only [HE.vals, Option.some.injEq] at h; subst h; rfl
  | h0 :: hs, arg, dvs, h => by
    unfold HE.vals at h
    split at h
    · rename_i x xs e1 e2
      cases h
      rw [List.length_cons, List.length_cons, vals_len e2]
    · cases h
mutual
theorem pe_he {i : Nat} {n f : Str} {a : Addr} {oe : Obj} {cls : Value} {d : Option Addr} {pn : List (Addr × Obj)} (hK : G.K = X.K) (hz : Zc cls d oe) (hv : ∃ vs, oe.data = .fields vs) :
    ∀ {e : Expr} {h : HE}, HEAt X i n f e h → PE (X.suite a ((a, oe) :: pn)) e (tHE G a i f cls d h)
  | _, _, .str hg => PE.weak pe_str fun σ H Q ⟨arg, dv, _, hval, q⟩ => by
    simp only [HE.val, Option.some.injEq] at hval
    subst hval
    exact q _ H (Grow.refl H) ⟨by simp, hg⟩
  | _, _, .int => PE.weak pe_int fun σ H Q ⟨arg, dv, _, hval, q⟩ => by
    simp only [HE.val, Option.some.injEq] at hval
    subst hval
    exact q _ H (Grow.refl H) rfl
  | _, _, .bl => PE.weak pe_bl fun σ H Q ⟨arg, dv, _, hval, q⟩ => by
    simp only [HE.val, Option.some.injEq] at hval
    subst hval
    exact q _ H (Grow.refl H) rfl
  | _, _, .non => PE.weak pe_non fun σ H Q ⟨arg, dv, _, hval, q⟩ => by
    simp only [HE.val, Option.some.injEq] at hval
    subst hval
    exact q _ H (Grow.refl H) rfl
  | _, _, .arg (p := p) h1 h2 h3 h4 h5 => by
    refine ⟨fun pins s σ H Q I ⟨arg, dv, hc, hval, q⟩ => ?_⟩
    simp only [HE.val] at hval
    subst hval
    obtain ⟨hs, C, dd, v, rfl, T, hno, rfl, hx, r⟩ := hc
    rw [hK] at T hno
    refine (pe_xf (pn := pn) T hno hz hv (pe_var (X := X.suite a ((a, oe) :: pn)) (pos := p) h1 h2 h3 h4) h5).run pins s σ H Q I ?_
    refine ⟨.ref a, hs, rfl, rfl, dd, _, v, rfl, hx, ?_, q v H (Grow.refl H) r⟩
    simp [List.lookup]
  | _, _, .tup ht => PE.weak (pe_tup (pa_hes hK hz hv ht)) fun σ H Q ⟨arg, dv, hc, hval, q⟩ => by
    simp only [HE.val, Option.map_eq_some_iff] at hval
    obtain ⟨dvs, hvals, rfl⟩ := hval
    refine ⟨arg, dvs, hc, hvals, fun vs H1 g1 r1 => ⟨?_, fun pp hp => ?_⟩⟩
    · have h1 := r1.length
      have h2 := vals_len hvals
      have h3 := ht.len
      rw [sizeLine_eq]; omega
    · have gn : Grow H1 (upd H1 pp (.tup vs)) := Grow.new hp
      exact q _ _ (g1.trans gn) ⟨pp, vs, rfl, SqT.of upd_same, r1.mono gn.ext dvs vs⟩
theorem pa_hes {i : Nat} {n f : Str} {a : Addr} {oe : Obj} {cls : Value} {d : Option Addr} {pn : List (Addr × Obj)} (hK : G.K = X.K) (hz : Zc cls d oe) (hv : ∃ vs, oe.data = .fields vs) :
    ∀ {es : List Expr} {hs : List HE}, HEsAt X i n f es hs → PA (X.suite a ((a, oe) :: pn)) es (tHEs G a i f cls d hs)
  | _, _, .nil => PA.weak pa_nil fun σ H Q ⟨arg, dvs, _, hval, q⟩ => by
    simp only [HE.vals, Option.some.injEq] at hval
    subst hval
    exact q [] H (Grow.refl H) .nil
  | _, _, .cons h t hs _ => PA.weak (pa_cons (pe_he hK hz hv h) (pa_hes hK hz hv t) hs) fun σ H Q ⟨arg, dvs, hc, hval, q⟩ => by
    unfold HE.vals at hval
    split at hval
    · rename_i x xs e1 e2
      cases hval
      refine ⟨arg, x, hc, e1, fun v H1 g1 r1 => ⟨arg, xs, hc.grow g1, e2, fun vs H2 g2 r2 => ?_⟩⟩
      exact q (v :: vs) H2 (g1.trans g2) (.cons (r1.mono g2.ext x v) r2)
    · cases hval
end
end

/-! ### the clauses -/
section
variable {G : Gb} {X : Cx} {W : WX} {pos : Pos}
/-- the table of the classes: who is under whom -/
def SubOk (G : Gb) (sub : Nat → Nat → Bool) : Prop := ∀ (a b : Nat) (A B : Addr), G.xa a = some A → G.xa b = some B → PySem.W.exmOne G.K (.ref A) (.ref B) = some (sub a b)
/-- except X: return ..; except X as n: return .. -/
inductive HdAt (G : Gb) (X : Cx) (sub : Nat → Nat → Bool) : ExceptHandler → Hd → (Value × Option Nat × (Addr → Value → Option Addr → TS)) → Prop
  | plain {x : Str} {C : Addr} {np rp pos' : Pos} {e : Expr} {hd : Hd} : Names X x (.ref C) → G.xa hd.cls = some C → HEAt X X.N.length "" "" e hd.ret →
      HdAt G X sub (.ExceptHandler (some (.Name x np)) none [.Return (some e) rp] pos') hd (.ref C, none, fun a cls d => tRet (tHE G a X.N.length "" cls d hd.ret))
  | named {x n f : Str} {i : Nat} {C : Addr} {np rp pos' : Pos} {e : Expr} {hd : Hd} : Names X x (.ref C) → G.xa hd.cls = some C → HEAt X i n f e hd.ret → X.N[i]? = some n → X.env.kindOf n = some .local →
      (∀ c A, sub c hd.cls = true → G.xa c = some A → G.xf c = f ∧ XfC G.K A ∧ PySem.W.findIn G.K (.ref A) f = some none) →
      HdAt G X sub (.ExceptHandler (some (.Name x np)) (some n) [.Return (some e) rp] pos') hd (.ref C, some i, fun a cls d => tRet (tHE G a i f cls d hd.ret))
inductive HdsAt (G : Gb) (X : Cx) (sub : Nat → Nat → Bool) : List ExceptHandler → List Hd → List (Value × Option Nat × (Addr → Value → Option Addr → TS)) → Prop
  | nil : HdsAt G X sub [] [] []
  | cons {h : ExceptHandler} {hd : Hd} {z : Value × Option Nat × (Addr → Value → Option Addr → TS)} {hs : List ExceptHandler} {hds : List Hd} {l : List (Value × Option Nat × (Addr → Value → Option Addr → TS))} : HdAt G X sub h hd z → HdsAt G X sub hs hds l → HdsAt G X sub (h :: hs) (hd :: hds) (z :: l)
theorem HdsAt.mix {sub : Nat → Nat → Bool} (hK : G.K = X.K) {hs : List ExceptHandler} {hds : List Hd} {l : List (Value × Option Nat × (Addr → Value → Option Addr → TS))} (h : HdsAt G X sub hs hds l) : HdsMix X hs l := by
  induction h with
  | nil => exact .nil
  | cons h1 _ ih =>
    cases h1 with
    | plain h1 _ h2 => exact .cons h1 (fun a oe cls d pn hz hv => pss_one (ps_ret (pe_he hK hz hv h2))) ih
    | named h1 _ h2 h3 h4 _ => exact .named h1 h3 h4 (fun a oe cls d pn hz hv => pss_one (ps_ret (pe_he hK hz hv h2))) ih
theorem val_none : ∀ {h : HE} {f n : Str} {i : Nat} {e : Expr}, HEAt X i n f e h → X.N.length ≤ i → ∀ arg, h.val arg = h.val none := by
  have key : ∀ (h : HE), (∀ {f n : Str} {i : Nat} {e : Expr}, HEAt X i n f e h → X.N.length ≤ i → ∀ arg, h.val arg = h.val none) := fun h => by
    refine HE.rec (motive_1 := fun h => ∀ {f n : Str} {i : Nat} {e : Expr}, HEAt X i n f e h → X.N.length ≤ i → ∀ arg, h.val arg = h.val none)
      (motive_2 := fun hs => ∀ {f n : Str} {i : Nat} {es : List Expr}, HEsAt X i n f es hs → X.N.length ≤ i → ∀ arg, HE.vals hs arg = HE.vals hs none) ?_ ?_ ?_ ?_ ?_ h
    · intro d f n i e hh hi arg; rfl
    · intro f n i e hh hi arg
      cases hh with
      | arg h1 _ _ _ _ => rw [List.getElem?_eq_none hi] at h1; cases h1
    · intro l ih f n i e hh hi arg
      cases hh with
      | tup ht => simp only [HE.val]; rw [ih ht hi arg]
    · intro f n i es hh hi arg; rfl
    · intro h hs ih1 ih2 f n i es hh hi arg
      cases hh with
      | cons a b _ _ => simp only [HE.vals]; rw [ih1 a hi arg, ih2 b hi arg]
  intro h f n i e
  exact key h
theorem catch_ok {sub : Nat → Nat → Bool} (hK : G.K = X.K) (hS : SubOk G sub) {D' : Ends} {μ : List Addr} {H : Hp} {e : Exn} {env : Env} {st : Store} {cls : Value} {d : Option Addr} {σ : L2.St} (hσ : σ.length = X.N.length) (s : StOk G.K H μ st) (he : EnvOk G.K G.fa μ H env σ) (hx : ExnOk G H e cls d) :
    ∀ {hs : List ExceptHandler} {hds : List Hd} {l : List (Value × Option Nat × (Addr → Value → Option Addr → TS))}, HdsAt G X sub hs hds l → PstS G W D' μ H (catch_ sub hds e env st) → wMix X.K W D' l cls d σ H := by
  intro hs hds l hk
  obtain ⟨A, hA, rfl, harg⟩ := hx
  induction hk with
  | nil => exact fun h => h _ d σ H μ (Go.refl _ _) s he ⟨A, hA, rfl, harg⟩
  | @cons h0 hd z hs hds l h1 t ih =>
    intro h
    cases h1 with
    | @plain x C np rp pos' e' _ h1 h2 h3 =>
      refine ⟨sub e.cls hd.cls, by rw [← hK]; exact hS _ _ _ _ hA h2, fun hb a ha => ?_, fun hb => ?_⟩
      · unfold catch_ at h
        rw [if_pos hb] at h
        split at h
        · rename_i dv hval
          exact ⟨none, dv, trivial, by rw [← val_none h3 (Nat.le_refl _) e.arg]; exact hval, fun v H' g r => h v H' μ (g.go μ) (s.grow g) r⟩
        · exact h.elim
      · unfold catch_ at h
        rw [if_neg (by rw [hb]; exact Bool.false_ne_true)] at h
        exact ih h
    | @named x n f i C np rp pos' e' _ h1 h2 h3 h4 h5 h6 =>
      refine ⟨sub e.cls hd.cls, by rw [← hK]; exact hS _ _ _ _ hA h2, fun hb a ha => ?_, fun hb => ?_⟩
      · unfold catch_ at h
        rw [if_pos hb] at h
        split at h
        · rename_i dv hval
          refine ⟨e.arg, dv, ?_, hval, fun v H' g r => h v H' μ (g.go μ) (s.grow g) r⟩
          obtain ⟨f1, f2, f3⟩ := h6 e.cls A hb hA
          cases ea : e.arg with
          | none => trivial
          | some x =>
            rw [ea] at harg
            obtain ⟨dd, v, e1, e2, e3⟩ := harg
            have hi : i < σ.length := by rw [hσ]; exact (List.getElem?_eq_some_iff.mp h4).1
            exact ⟨List.getElem?_set_self hi, A, dd, v, rfl, f2, f3, e1, by rw [← f1]; exact e2, e3⟩
        · exact h.elim
      · unfold catch_ at h
        rw [if_neg (by rw [hb]; exact Bool.false_ne_true)] at h
        exact ih h
theorem ds_try {sub : Nat → Nat → Bool} {body : List Stmt} {h₀ : ExceptHandler} {hs : List ExceptHandler} {hds : List Hd} {l : List (Value × Option Nat × (Addr → Value → Option Addr → TS))} {f : SemS} (hK : G.K = X.K) (hS : SubOk G sub)
    (hst : X.stack = X.env :: X.outer) (hf : X.env.frame = some X.env.locals) (hN : X.N.Nodup) (tk : Takes X W)
    (hb : ∀ (W : WX) (pn : List (Addr × Obj)) (xe : Value → Shared → Prop), Takes (X.tr pn xe) W → PassesOwn (model X.prog X.w) X.A X.env xe → DSs G (X.tr pn xe) W body f) (hh : HdsAt G X sub (h₀ :: hs) hds l) :
    DS G X W (.Try body (h₀ :: hs) [] [] pos) (sTry sub f hds) := by
  refine ⟨fun pins s σ H D' I h => ?_⟩
  have hl : σ.length = X.N.length := I.len
  refine (ps_try_mix (tb := fun W => rdS G W f) hst hf hN tk hb (hh.mix hK)).run pins s σ H D' I ?_
  obtain ⟨env, μ, st, he, hs', h⟩ := h
  refine ⟨env, μ, st, he, hs', ?_⟩
  unfold sTry at h
  cases ef : f env st with
  | ex e env1 s1 =>
    rw [ef] at h
    dsimp only at h
    split at h
    · rename_i hlen
      intro cls d σ1 H1 μ1 g1 s1' e1 x1
      have hl1 : σ1.length = X.N.length := by rw [e1.len, hlen, ← he.len, hl]
      exact catch_ok hK hS hl1 s1' e1 x1 hh (PstS.go h g1)
    · exact h.elim
  | nx env1 s1 => rw [ef] at h; exact h
  | rt a s1 => rw [ef] at h; exact h
  | bk env1 s1 => rw [ef] at h; exact h
  | ct env1 s1 => rw [ef] at h; exact h
  | bad => rw [ef] at h; exact h
end
end PD
end

section
set_option Elab.async false
set_option linter.all false
set_option maxRecDepth 100000
set_option maxHeartbeats 400000
/-! PD16: forms of expressions for which the model's side ways are closed. -/
namespace PD
open PySem PySem.Spec PyProof.Rows L2

def notStar : Expr → Bool
  | .Starred .. => false
  | _ => true
theorem starEach_cons {e : Expr} (es : List Expr) (env : PySem.Env) (h : notStar e = true) : starEach (e :: es) env = (false, eval e env) :: starEach es env := by
  cases e <;> first | rfl | (cases h)
theorem star_any {es : List Expr} {env : PySem.Env} (pos : Pos) (h : es.all notStar = true) : (backTo pos (starEach es env)).any (·.1) = false := by
  induction es with
  | nil => rfl
  | cons e es ih =>
    simp only [List.all_cons, Bool.and_eq_true] at h
    rw [starEach_cons es env h.1]
    show (false || (backTo pos (starEach es env)).any (·.1)) = false
    rw [ih h.2]; rfl
theorem star_one {e : Expr} (env : PySem.Env) (h : notStar e = true) : starEach [e] env = [(false, eval e env)] := starEach_cons [] env h
theorem star_few {e : Expr} {env : PySem.Env} {cpos : Pos} (h : notStar e = true) : ((backTo cpos (starEach [e] env)).all (fun x => !x.1) && (backToKw cpos (keywordEach [] env)).all (fun x => x.1.isSome)
      && decide ([e].length + ([] : List Keyword).length + (if ([] : List Keyword).isEmpty then 0 else 1) < 30)) = true := by
  rw [star_one env h]; rfl
def plainTest : Expr → Bool
  | .Name .. => true | .Call .. => true | .Subscript .. => true | .Constant .. => true | .Attribute .. => true | .BinOp .. => true | .ListComp .. => true | .Tuple .. => true | .List .. => true
  | _ => false
theorem test_plain {e : Expr} (h : plainTest e = true) (env : PySem.Env) : ∀ whole, isTrue e env whole = (do let v ← whole; standAt e.pos; holding [v] (truthy v)) := by
  cases e <;> first | (intro _; rfl) | (cases h)
def plainBase : Expr → Bool
  | .Call _ (_ :: _) _ _ => true
  | .Call .. => false
  | _ => true
theorem base_plain {o : Expr} (h : plainBase o = true) (attr : Str) (env : PySem.Env) : attributeBase o attr env (eval o env) = eval o env := by
  cases o with
  | Call f es kw pos =>
    cases es with
    | nil => cases h
    | cons e es => cases f <;> rfl
  | _ => rfl
def noComp : Expr → Bool
  | .ListComp .. => false | .SetComp .. => false | .DictComp .. => false
  | _ => true
theorem swaps_no {e : Expr} (h : noComp e = true) (t : Option Expr) (l : Nat) (env : PySem.Env) : swapsWith e t l env = pure false := by
  cases e <;> first | rfl | (cases h)
def notTup : Expr → Bool
  | .Tuple .. => false
  | _ => true
theorem stores_no {e : Expr} (h : notTup e = true) (ts : List Expr) (env : PySem.Env) : swappedStores ts e env = pure none := by
  unfold swappedStores
  split
  · rename_i hh
    split at hh <;> first | (cases h; done) | (cases hh)
  · rfl
theorem stores_sub {o i : Expr} {p : Pos} (e : Expr) (env : PySem.Env) : swappedStores [.Subscript o i p] e env = pure none := by
  cases e <;> rfl
def notSet : Expr → Bool
  | .Set .. => false
  | _ => true
theorem folded_no {e : Expr} (h : notSet e = true) (env : PySem.Env) : ∀ x, foldedSetIterable e env x = pure x := by
  cases e <;> first | (intro _; rfl) | (cases h)
def notSlice : Expr → Bool
  | .Slice .. => false
  | _ => true
theorem ix_plain {e : Expr} (h : notSlice e = true) : PlainIx e := by
  cases e <;> first | (intro _ _; rfl) | (cases h)
theorem asg_plain {o i : Expr} {pos : Pos} {env : PySem.Env} (h : notSlice i = true) : ∀ v, assign (.Subscript o i pos) env v = (do
      let ov ← holding [v] (eval o env)
      let iv ← holding [v, ov] (eval i env)
      standAt pos
      holding [v, ov, iv] (setItem ov iv v)
      release [v, ov, iv] []) := by
  cases i <;> first | (intro _; rfl) | (cases h)
end PD
end

section
set_option Elab.async false
set_option linter.all false
set_option maxRecDepth 100000
set_option maxHeartbeats 1000000
/-! PG0: str, repr, int of a text, lstrip, isinstance of several types. -/
namespace PD
open PySem PySem.Spec PyProof.Rows L2

/-! ### the prims -/
def intL (i : Int) : List Nat := (Str.ofString (toString i)).cps.toList
def plainC : List Nat := [97, 98, 99, 100, 101, 102, 103, 104, 105, 106, 107, 108, 109, 110, 111, 112, 113, 114, 115, 116, 117, 118, 119, 120, 121, 122, 48, 49, 50, 51, 52, 53, 54, 55, 56, 57, 95, 45]
def okInt (i : Int) : Bool := decide (i.natAbs.log2 < 1920) && goodS (intL i)
def pStr : Prim
  | [.int i] => if okInt i then some (.v (.str (intL i))) else none
  | [.str s] => some (.v (.str s))
  | _ => none
def pRepr : Prim
  | [.non] => some (.v (.str [78, 111, 110, 101]))
  | [.int i] => if okInt i then some (.v (.str (intL i))) else none
  | [.str s] => if s.all (fun c => decide (c ∈ plainC)) && decide (s.length ≤ 1000) then some (.v (.str (39 :: (s ++ [39])))) else none
  | _ => none
def isDig (l : List Nat) : Bool := !l.isEmpty && (l.all (fun c => decide (48 ≤ c) && decide (c ≤ 57)) && decide (l.length ≤ 600))
def digV (l : List Nat) : Nat := l.foldl (fun n c => n * 10 + (c - 48)) 0
def pInt2 : Prim
  | [.str (45 :: r)] => if isDig r then some (.v (.int (-(digV r : Int)))) else none
  | [.str s] => if isDig s then some (.v (.int (digV s : Int))) else none
  | l => pInt l
def pLstrip : Prim
  | [.str a, .str b] => if a.length ≤ LID then some (.v (.str (a.dropWhile fun c => b.contains c))) else none
  | _ => none
def pIsis (ts : List Ty) : Prim
  | [x] => some (.v (.bl (ts.any fun t => x.isTy t)))
  | _ => none

/-! ### they are what the calls make -/
section
variable {X : Cx}
theorem cr_or {f : Value} {r1 r2 : List V → Hp → VK → Prop} (h1 : CallR X f r1) (h2 : CallR X f r2) : CallR X f (fun xs H Q => r1 xs H Q ∨ r2 xs H Q) := by
  intro pins s σ H xs us Q I r h
  rcases h with h | h
  · exact h1 pins s σ H xs us Q I r h
  · exact h2 pins s σ H xs us Q I r h
theorem str_back (s : Str) : (⟨s.cps.toList.toArray⟩ : Str) = s := by cases s; simp
theorem c_str : CallR X (.type "str") (PrimV X.K pStr) := by
  refine cr_by1 (cr_or call_str_int SkE.call_str_str) (fun a res x H Q ra hp q => ?_) fun ds res h => ?_
  · unfold pStr at hp
    split at hp
    · rename_i i e
      cases e
      split at hp
      · rename_i ho
        cases hp
        unfold okInt at ho
        rw [Bool.and_eq_true, decide_eq_true_eq] at ho
        rw [(show x = V.int i from ra)]
        refine .inl ⟨i, rfl, ho.1, q _ H (Grow.refl H) ⟨?_, ho.2⟩⟩
        show V.str _ = V.str _
        rw [intL, str_back]
      · cases hp
    · rename_i s e
      cases e; cases hp
      obtain ⟨rfl, hg⟩ := (show RepD X.K H (.str s) x from ra)
      exact .inr ⟨_, rfl, q _ H (Grow.refl H) ⟨rfl, hg⟩⟩
    · cases hp
  · unfold pStr at h
    split at h <;> first | rfl | cases h
theorem call_repr_none : CallR X (.builtin "repr") (fun xs H Q => xs = [.non] ∧ Q (.str "None") H) := by
  intro pins s σ H xs us Q I r h
  obtain ⟨rfl, q⟩ := h
  obtain ⟨u, rfl, r1⟩ := vals1 r
  cases (show u = Value.none from r1)
  exact PySem.P.repr_of_none ⟨.str _, H, I.tok _, ⟨_, rfl⟩, q⟩
theorem call_repr_str : CallR X (.builtin "repr") (fun xs H Q => ∃ y, xs = [.str y] ∧ (reprText y).length ≤ sizeLine ∧ Q (.str (reprText y)) H) := by
  intro pins s σ H xs us Q I r h
  obtain ⟨y, rfl, hz, q⟩ := h
  obtain ⟨u, rfl, t, rfl⟩ := vals1 r
  exact PySem.P.repr_of_str ⟨.str _, H, I.tok _, ⟨_, rfl⟩, q⟩ hz
theorem plain_ch : ∀ c ∈ plainC, PySem.Builtin.Str.reprChar 39 c = [c] := by decide +kernel
theorem plain_39 : ¬ 39 ∈ plainC := by decide
theorem repr_fold (s : List Nat) (h : ∀ c ∈ s, c ∈ plainC) : ∀ acc : Array Nat, s.foldl (fun out c => out ++ (PySem.Builtin.Str.reprChar 39 c).toArray) acc = acc ++ s.toArray := by
  induction s with
  | nil => intro acc; simp
  | cons c s ih =>
    intro acc
    rw [List.foldl_cons, plain_ch c (h c List.mem_cons_self), ih fun d hd => h d (List.mem_cons_of_mem _ hd)]
    apply Array.ext'
    simp
theorem repr_plain (s : List Nat) (h : ∀ c ∈ s, c ∈ plainC) : reprText ⟨s.toArray⟩ = ⟨(39 :: (s ++ [39])).toArray⟩ := by
  have hc : s.toArray.contains 39 = false := by
    cases hq : s.toArray.contains 39 with
    | false => rfl
    | true =>
      have : 39 ∈ s := by simpa using hq
      exact absurd (h 39 this) plain_39
  have hq : reprQuote ⟨s.toArray⟩ = 39 := by
    unfold reprQuote
    show (if s.toArray.contains 39 && _ then 34 else 39) = 39
    rw [hc]; rfl
  unfold reprText
  rw [hq]
  show (⟨(s.toArray.foldl (fun out c => out ++ (PySem.Builtin.Str.reprChar 39 c).toArray) #[39]).push 39⟩ : Str) = _
  rw [show s.toArray.foldl (fun out c => out ++ (PySem.Builtin.Str.reprChar 39 c).toArray) #[39] = s.foldl (fun out c => out ++ (PySem.Builtin.Str.reprChar 39 c).toArray) #[39] by simp, repr_fold s h]
  congr 1
  apply Array.ext'
  simp
theorem plain_good {s : List Nat} (h : ∀ c ∈ s, c ∈ plainC) : goodS s = true := by
  refine List.all_eq_true.mpr fun c hc => ?_
  have : ∀ c ∈ plainC, decide (c < 1114112) = true := by decide
  exact this c (h c hc)
theorem c_repr : CallR X (.builtin "repr") (PrimV X.K pRepr) := by
  refine cr_by1 (cr_or call_repr_none (cr_or SkE.call_repr_int call_repr_str)) (fun a res x H Q ra hp q => ?_) fun ds res h => ?_
  · unfold pRepr at hp
    split at hp
    · rename_i e
      cases e; cases hp
      rw [(show x = V.non from ra)]
      exact .inl ⟨rfl, q _ H (Grow.refl H) ⟨rfl, by decide⟩⟩
    · rename_i i e
      cases e
      split at hp
      · rename_i ho
        cases hp
        unfold okInt at ho
        rw [Bool.and_eq_true, decide_eq_true_eq] at ho
        rw [(show x = V.int i from ra)]
        refine .inr (.inl ⟨i, rfl, ho.1, q _ H (Grow.refl H) ⟨?_, ho.2⟩⟩)
        show V.str _ = V.str _
        rw [intL, str_back]
      · cases hp
    · rename_i s e
      cases e
      split at hp
      · rename_i ho
        cases hp
        rw [Bool.and_eq_true, decide_eq_true_eq, List.all_eq_true] at ho
        have hpl : ∀ c ∈ s, c ∈ plainC := fun c hc => of_decide_eq_true (ho.1 c hc)
        obtain ⟨rfl, hg⟩ := (show RepD X.K H (.str s) x from ra)
        refine .inr (.inr ⟨_, rfl, ?_, q _ H (Grow.refl H) ⟨by rw [repr_plain s hpl], ?_⟩⟩)
        · rw [repr_plain s hpl, slen, ← lid]
          simp only [List.length_cons, List.length_append, List.length_nil]
          have := ho.2
          unfold LID; omega
        · have hg' := plain_good hpl
          unfold goodS at hg' ⊢
          simp only [List.all_cons, List.all_append, List.all_nil, hg']
          decide
      · cases hp
    · cases hp
  · unfold pRepr at h
    split at h <;> first | rfl | cases h
/-! ### int of a text -/
theorem isDig_is {l : List Nat} (h : isDig l = true) : l ≠ [] ∧ (∀ c ∈ l, 48 ≤ c ∧ c ≤ 57) ∧ l.length ≤ 600 := by
  unfold isDig at h
  rw [Bool.and_eq_true, Bool.and_eq_true, decide_eq_true_eq, List.all_eq_true] at h
  refine ⟨fun e => by rw [e] at h; simp at h, fun c hc => ?_, h.2.2⟩
  have := h.2.1 c hc
  rw [Bool.and_eq_true, decide_eq_true_eq, decide_eq_true_eq] at this
  exact this
theorem c_int2 : CallR X (.type "int") (PrimV X.K pInt2) := by
  refine cr_by1 (cr_or call_int1 call_int_str) (fun a res x H Q ra hp q => ?_) fun ds res h => ?_
  · unfold pInt2 at hp
    split at hp
    · rename_i r e
      cases e
      split at hp
      · rename_i hd
        cases hp
        obtain ⟨h1, h2, h3⟩ := isDig_is hd
        obtain ⟨rfl, hg⟩ := (show RepD X.K H (.str (45 :: r)) x from ra)
        exact .inr ⟨_, _, rfl, PySem.intText_neg (cs := r) (by simp) h2 h1 (by rw [slen, List.length_cons]; omega), by rw [slen, List.length_cons]; omega, q _ H (Grow.refl H) rfl⟩
      · cases hp
    · rename_i s hn e
      cases e
      split at hp
      · rename_i hd
        cases hp
        obtain ⟨h1, h2, h3⟩ := isDig_is hd
        obtain ⟨rfl, hg⟩ := (show RepD X.K H (.str s) x from ra)
        have e : (⟨s.toArray⟩ : Str).cps.toList = s := by simp
        have hi := PySem.intText_digits (x := ⟨s.toArray⟩) (by rw [e]; exact h2) (by rw [e]; exact h1) (by rw [slen]; omega)
        rw [e] at hi
        exact .inr ⟨_, _, rfl, hi, by rw [slen]; omega, q _ H (Grow.refl H) rfl⟩
      · cases hp
    · unfold pInt at hp
      split at hp
      · rename_i i e
        cases e; cases hp
        rw [(show x = V.int i from ra)]
        exact .inl (.inl ⟨i, rfl, q _ H (Grow.refl H) rfl⟩)
      · rename_i b e
        cases e; cases hp
        rw [(show x = V.bl b from ra)]
        exact .inl (.inr ⟨b, rfl, q _ H (Grow.refl H) rfl⟩)
      · cases hp
  · unfold pInt2 at h
    split at h
    · rfl
    · rfl
    · unfold pInt at h
      split at h <;> first | rfl | cases h
end
end PD
end

section
set_option Elab.async false
set_option linter.all false
set_option maxRecDepth 100000
set_option maxHeartbeats 1000000
/-! PG1: lstrip; isinstance of several types; < of tuples. -/
namespace PD
open PySem PySem.Spec PyProof.Rows L2

/-! ### lstrip -/
theorem drop_while (p : Nat → Bool) : ∀ l : List Nat, l.drop (l.takeWhile p).length = l.dropWhile p
  | [] => rfl
  | c :: l => by
    rw [List.takeWhile_cons, List.dropWhile_cons]
    split
    · rw [List.length_cons, List.drop_succ_cons]; exact drop_while p l
    · rfl
theorem strip_left (p : Nat → Bool) (a : List Nat) : Txt.stripBy p true false ⟨a.toArray⟩ = ⟨(a.dropWhile p).toArray⟩ := by
  have hl : PySem.stripLo p true ⟨a.toArray⟩ = (a.takeWhile p).length := by simp [PySem.stripLo]
  have hh : PySem.stripHi p false ⟨a.toArray⟩ (PySem.stripLo p true ⟨a.toArray⟩) = a.length := slen a
  have hs : PySem.stripped p true false ⟨a.toArray⟩ = ⟨(a.dropWhile p).toArray⟩ := by
    unfold PySem.stripped PySem.Builtin.Str.strSub
    rw [hh, hl]
    show (⟨a.toArray.extract _ _⟩ : Str) = _
    rw [List.extract_toArray, List.extract_eq_drop_take, List.take_of_length_le (by simp), drop_while]
  unfold Txt.stripBy
  split
  · rename_i q
    unfold PySem.stripSame at q
    rw [Bool.and_eq_true, hl] at q
    have q1 : (a.takeWhile p).length = 0 := eq_of_beq q.1
    rw [← drop_while, q1]; rfl
  · exact hs
theorem lstrip_eq (a b : List Nat) : Txt.lstripChars ⟨a.toArray⟩ ⟨b.toArray⟩ = ⟨(a.dropWhile fun c => b.contains c).toArray⟩ := by
  have hc : (b.toArray.contains : Nat → Bool) = fun c => b.contains c := by funext c; simp
  show Txt.stripBy b.toArray.contains true false _ = _
  rw [hc]
  exact strip_left _ _
section
variable {G : Gb} {X : Cx} {W : WX} {a e : Expr} {ga g : SemE} {pos apos : Pos}
theorem de_lstrip (ho : DE G X W a ga) (ha : DE G X W e g) (hs : starEach [e] X.env = [(false, eval e X.env)]) (hbase : attributeBase a "lstrip" X.env (eval a X.env) = eval a X.env) (hline : (apos.endLine == pos.line) = true) :
    DE G X W (.Call (.Attribute a "lstrip" apos) [e] [] pos) (gOp pLstrip (gCons (gStr ga) (gCons g gNil))) :=
  PE.weak (pe_m1 F.slot_str_lstrip F.type_str_lstrip mt_lstripChars ho ha hs hbase hline) fun σ H Q h => by
    refine (rdStr (rdAs_cons (rdOp h))).mono fun x H1 ⟨s, ex, h1⟩ => ⟨⟨_, ex⟩, (rdAs_one h1).mono fun y H2 h2 => ?_⟩
    obtain ⟨ds, res, hr, hp, q⟩ := h2
    obtain ⟨d1, d2, rfl, r1, r2⟩ := hr.two
    unfold pLstrip at hp
    split at hp
    · rename_i s1 s2 e1
      cases e1
      split at hp
      · rename_i hz
        cases hp
        obtain ⟨e2, g2⟩ := (show RepD G.K H2 (.str s1) x from r1)
        obtain ⟨e3, g3⟩ := (show RepD G.K H2 (.str s2) y from r2)
        subst e2; subst e3
        refine ⟨_, _, rfl, rfl, by rw [slen, ← lid]; exact hz, ?_⟩
        rw [lstrip_eq]
        refine q _ H2 (Grow.refl H2) ⟨rfl, ?_⟩
        unfold goodS at g2 ⊢
        rw [List.all_eq_true] at g2 ⊢
        exact fun c hc => g2 c ((List.dropWhile_sublist _).subset hc)
      · cases hp
    · cases hp
/-! ### isinstance(x, (A, B)) -/
inductive TysAt (X : Cx) : List Expr → List Ty → Prop where
  | nil : TysAt X [] []
  | cons {y : Str} {p : Pos} {t : Ty} {es : List Expr} {ts : List Ty} : Gl X y → X.mg y = none → bootBuiltins y = some (.type t.nm) → y ≠ "__name__" → (y == ("__debug__" : Str)) = false → TysAt X es ts → TysAt X (.Name y p :: es) (t :: ts)
theorem tys_pa : ∀ {es : List Expr} {ts : List Ty}, TysAt X es ts → PA X es (fun _ H Q => Q (ts.map fun t => V.ty t.nm) H)
  | _, _, .nil => PA.weak pa_nil fun _ _ _ h => h
  | _, _, .cons (y := y) (p := p) (es := es) h1 h2 h3 h4 h5 t => PA.weak (pa_cons (pe_bltn h1 h2 h3 (v := .ty _) rfl h4 h5) (tys_pa t) (starEach_cons es X.env rfl)) fun _ _ _ h => h
theorem kit_any {K : Fr} {s : String} (f : Ty → Bool) (h : ∀ t : Ty, PySem.W.kitOne K (.type s) (.type t.nm) = some (f t)) : ∀ ts : List Ty, PySem.W.kitAny K (.type s) (ts.map fun (t : Ty) => Value.type t.nm) = some (ts.any f)
  | [] => rfl
  | t :: ts => by
    have ih := kit_any f h ts
    show (match PySem.W.kitOne K (.type s) (.type t.nm) with
      | some true => some true
      | some false => PySem.W.kitAny K (.type s) (ts.map fun (t : Ty) => Value.type t.nm)
      | none => none) = _
    rw [h t, List.any_cons]
    cases f t
    · exact ih
    · rfl
theorem RepN.grow {K : Fr} {H H' : Hp} (g : Grow H H') {d : D} {v : V} (h : RepN K H d v) : RepN K H' d v := by
  cases d with
  | lst l =>
    obtain ⟨a, xs, e, hs, hr⟩ := h
    refine ⟨a, xs, e, ?_, RepDs.mono g.ext l xs hr⟩
    rcases hs with hs | ⟨o, hs⟩
    · exact .inl (g _ _ hs)
    · exact .inr ⟨o, g _ _ hs⟩
  | _ => exact RepD.mono g.ext _ v h
theorem pair_tys : ∀ ts : List Ty, Paired ClsV (ts.map fun (t : Ty) => V.ty t.nm) (ts.map fun (t : Ty) => Value.type t.nm)
  | [] => .nil
  | t :: ts => .cons (.ty _) (pair_tys ts)
theorem de_isis {es : List Expr} {ts : List Ty} {k1 : Nat} {p p2 : Pos} (hK : G.K = X.K) (hg : Gl X "isinstance") (hm : X.mg "isinstance" = none) (ha : DE G X W a ga) (hn : notStar a = true) (hz : ts.length ≤ 100) (ht : TysAt X es ts) :
    DE G X W (.Call (.Name "isinstance" p) [a, .Tuple es k1 p2] [] pos) (gOp (pIsis ts) (gCons ga gNil)) :=
  PE.weak (pe_callB call_isiT hg hm (by decide +kernel) (pa_cons ha (pa_cons (pe_tup (tys_pa ht)) pa_nil (star_one X.env rfl)) (starEach_cons _ X.env hn)) (by decide) (by decide) (starEach_cons _ X.env hn) (by rw [star_one X.env rfl]; rfl)) fun σ H Q h =>
    (rdAs_one (rdOp h)).mono fun v H1 h1 => by
      obtain ⟨ds, res, hr, hp, q⟩ := h1
      obtain ⟨d, rfl, ra⟩ := hr.one
      cases hp
      refine ⟨by rw [List.length_map, ← lid]; unfold LID; omega, fun t hn' => ?_⟩
      rw [hK] at ra q
      have gw : Grow H1 (upd H1 t (.tup (ts.map fun t => V.ty t.nm))) := Grow.new hn'
      have pc : Paired ClsV (ts.map fun t => V.ty t.nm) (ts.map fun (t : Ty) => Value.type t.nm) := by
        exact pair_tys ts
      exact ⟨v, t, _, .type d.tyNm, _, _, rfl, upd_same, pc, tyx_of (RepN.grow gw ra), kit_any _ (fun t => kit_ty (kit_tab d t)) ts, q _ _ gw rfl⟩
end
/-! ### < of tuples -/
def cmpD : D → D → Bool
  | .int _, .int _ => true
  | .str _, .str _ => true
  | _, _ => false
def eqD : D → D → Bool
  | .int i, .int j => i == j
  | .str a, .str b => a == b
  | _, _ => false
def ltD : D → D → Bool
  | .int i, .int j => decide (i < j)
  | .str a, .str b => decide (a < b)
  | _, _ => false
def cmpAll : List D → List D → Bool
  | x :: xs, y :: ys => cmpD x y && cmpAll xs ys
  | _, _ => true
def lexD : List D → List D → Bool
  | x :: xs, y :: ys => if eqD x y then lexD xs ys else ltD x y
  | [], _ :: _ => true
  | _, _ => false
def pLt2 : Prim
  | [.tup a, .tup b] => if cmpAll a b then some (.v (.bl (lexD a b))) else none
  | l => pLt l
theorem lex_shift (e r : Nat → Bool) (z : Bool) : ∀ (k i : Nat), Ob.lexAt (fun j => e (j + 1)) (fun j => r (j + 1)) z i k = Ob.lexAt e r z (i + 1) k
  | 0, _ => rfl
  | k + 1, i => by rw [Ob.lexAt_succ, Ob.lexAt_succ, lex_shift e r z k (i + 1)]
theorem lex_is : ∀ (l m : List D), Ob.lexAt (fun j => eqD (l.getD j .non) (m.getD j .non)) (fun j => ltD (l.getD j .non) (m.getD j .non)) (decide (l.length < m.length)) 0 (min l.length m.length) = lexD l m
  | [], [] => rfl
  | [], y :: m => by simp [Ob.lexAt_zero, lexD]
  | x :: l, [] => by simp [Ob.lexAt_zero, lexD]
  | x :: l, y :: m => by
    have ih := lex_is l m
    have h1 : min (x :: l).length (y :: m).length = min l.length m.length + 1 := by simp only [List.length_cons]; omega
    have h2 : decide ((x :: l).length < (y :: m).length) = decide (l.length < m.length) := by simp
    rw [h1, h2, Ob.lexAt_succ, ← lex_shift]
    show (if eqD x y = true then _ else ltD x y) = lexD (x :: l) (y :: m)
    simp only [List.getD_cons_succ]
    rw [ih]; rfl
theorem cmp_at : ∀ {l m : List D} {j : Nat} {x y : D}, cmpAll l m = true → l[j]? = some x → m[j]? = some y → cmpD x y = true
  | a :: l, b :: m, 0, x, y, h, h1, h2 => by
    simp only [List.getElem?_cons_zero, Option.some.injEq] at h1 h2
    subst h1; subst h2
    simp only [cmpAll, Bool.and_eq_true] at h
    exact h.1
  | a :: l, b :: m, j + 1, x, y, h, h1, h2 => by
    simp only [cmpAll, Bool.and_eq_true] at h
    exact cmp_at (j := j) h.2 (by simpa using h1) (by simpa using h2)
  | [], _, _, _, _, _, h1, _ => by simp at h1
  | _ :: _, [], _, _, _, _, _, h2 => by simp at h2
theorem item_of {K : Fr} {H : Hp} {l : List D} {xs : List V} {its : List Value} (r : RepDs K H l xs) (v : Vals xs its) {j : Nat} (hj : j < its.length) : ∃ d x, l[j]? = some d ∧ RepD K H d x ∧ RelV x its[j] := by
  have hl : xs.length = its.length := Vals.length v
  have hx : j < xs.length := by omega
  obtain ⟨d, e1, e2⟩ := RepDs.got r (List.getElem?_eq_getElem hx)
  obtain ⟨u, e3, e4⟩ := Vals.get v (List.getElem?_eq_getElem hx)
  rw [List.getElem?_eq_getElem hj] at e3
  cases e3
  exact ⟨d, _, e1, e2, e4⟩
section
variable {X : Cx}
def rLtD (K : Fr) : R2 := fun x y H Q => ∃ a b xs ys l m, x = .ref a ∧ y = .ref b ∧ SqT K H a xs ∧ SqT K H b ys ∧ RepDs K H l xs ∧ RepDs K H m ys ∧ cmpAll l m = true ∧ Q (.bl (lexD l m)) H
theorem op_ltD (hu : X.A.units < cLine) : OpR X (compareOp .Lt) (rLtD X.K) := by
  intro pins s σ H x y v u Q I rx ry h
  obtain ⟨a, b, xs, ys, l, m, rfl, rfl, ha, hb, ra, rb, hc, q⟩ := h
  cases rx
  cases ry
  obtain ⟨its, r1, p1, _⟩ := I.tuple ha
  obtain ⟨its2, r2, p2, _⟩ := I.tuple hb
  have l1 : its.length = l.length := by rw [← Vals.length r1, RepDs.length ra]
  have l2 : its2.length = m.length := by rw [← Vals.length r2, RepDs.length rb]
  have hp : ∀ j (h1 : j < its.toArray.size) (h2 : j < its2.toArray.size),
      (∃ (i k : Int) (t t' : Tok), l.getD j .non = .int i ∧ m.getD j .non = .int k ∧ its.toArray[j] = .int i t ∧ its2.toArray[j] = .int k t') ∨
      (∃ (i k : List Nat) (t t' : Tok), l.getD j .non = .str i ∧ m.getD j .non = .str k ∧ its.toArray[j] = .str ⟨i.toArray⟩ t ∧ its2.toArray[j] = .str ⟨k.toArray⟩ t') := fun j h1 h2 => by
    rw [List.size_toArray] at h1 h2
    obtain ⟨d, x, e1, e2, e3⟩ := item_of ra r1 h1
    obtain ⟨d', x', e1', e2', e3'⟩ := item_of rb r2 h2
    have hcd := cmp_at hc e1 e1'
    have g1 : l.getD j .non = d := by rw [List.getD_eq_getElem?_getD, e1]; rfl
    have g2 : m.getD j .non = d' := by rw [List.getD_eq_getElem?_getD, e1']; rfl
    rw [g1, g2, List.getElem_toArray, List.getElem_toArray]
    unfold cmpD at hcd
    split at hcd
    · rename_i i k
      rw [(show x = V.int i from e2)] at e3
      rw [(show x' = V.int k from e2')] at e3'
      obtain ⟨t, e3⟩ := e3
      obtain ⟨t', e3'⟩ := e3'
      exact .inl ⟨i, k, t, t', rfl, rfl, e3, e3'⟩
    · rename_i i k
      rw [(show RepD X.K H (.str i) x from e2).1] at e3
      rw [(show RepD X.K H (.str k) x' from e2').1] at e3'
      obtain ⟨t, e3⟩ := e3
      obtain ⟨t', e3'⟩ := e3'
      exact .inr ⟨i, k, t, t', rfl, rfl, e3, e3'⟩
    · cases hcd
  have key := Ob.RcOp.tuples_lt (A := X.A) (e := fun j => eqD (l.getD j .non) (m.getD j .non)) (r := fun j => ltD (l.getD j .non) (m.getD j .non)) p1 p2 hu (fun j h1 h2 => ?_) (fun j h1 h2 he => ?_)
  · have hz : Ob.lexAt (fun j => eqD (l.getD j .non) (m.getD j .non)) (fun j => ltD (l.getD j .non) (m.getD j .non)) (decide (its.toArray.size < its2.toArray.size)) 0 (min its.toArray.size its2.toArray.size) = lexD l m := by
      rw [← lex_is l m, List.size_toArray, List.size_toArray, l1, l2]
    rw [hz] at key
    exact key X.prog X.w _ _ ⟨.bl (lexD l m), H, I, rfl, q⟩
  · rcases hp j h1 h2 with ⟨i, k, t, t', g1, g2, e1, e2⟩ | ⟨i, k, t, t', g1, g2, e1, e2⟩
    · rw [e1, e2]
      show SeqAt.EqAt _ _ _ _ (eqD (l.getD j .non) (m.getD j .non))
      rw [g1, g2]
      exact SeqAt.EqAt.int_int i t k t'
    · rw [e1, e2]
      show SeqAt.EqAt _ _ _ _ (eqD (l.getD j .non) (m.getD j .non))
      rw [g1, g2]
      have := SeqAt.EqAt.str_str (A := X.A.in1) (s := s) ⟨i.toArray⟩ t ⟨k.toArray⟩ t'
      rw [str_beq] at this
      exact this
  · rcases hp j h1 h2 with ⟨i, k, t, t', g1, g2, e1, e2⟩ | ⟨i, k, t, t', g1, g2, e1, e2⟩
    · rw [e1, e2]
      show Ob.RcOp .Lt _ _ _ _ (ltD (l.getD j .non) (m.getD j .non))
      rw [g1, g2]
      exact Ob.RcOp.lt_int i k t t'
    · rw [e1, e2]
      show Ob.RcOp .Lt _ _ _ _ (ltD (l.getD j .non) (m.getD j .non))
      rw [g1, g2]
      exact fun prog w E Q h => DT.rcLt_str _ _ ⟨i.toArray⟩ t ⟨k.toArray⟩ t' prog w E Q h
theorem op_pLt2 (hu : X.A.units < cLine) : OpR X (compareOp .Lt) (rP2 X.K pLt2) := by
  intro pins s σ H x y v u Q I rx ry ⟨ds, res, hr, hp, q⟩
  unfold pLt2 at hp
  split at hp
  · rename_i l m
    split at hp
    · rename_i hc
      cases hp
      obtain ⟨d1, d2, e, r1, r2⟩ := hr.two
      cases e
      obtain ⟨a, xs, rfl, ha, hra⟩ := r1
      obtain ⟨b, ys, rfl, hb, hrb⟩ := r2
      exact op_ltD hu pins s σ H _ _ v u Q I rx ry ⟨a, b, xs, ys, l, m, rfl, rfl, ha, hb, hra, hrb, hc, q _ H (Grow.refl H) rfl⟩
    · cases hp
  · exact op_pLt pins s σ H x y v u Q I rx ry ⟨ds, res, hr, hp, q⟩
end
end PD
end

section
set_option Elab.async false
set_option linter.all false
set_option maxRecDepth 100000
set_option maxHeartbeats 1000000
/-! PG2: a table of defs: TABLE[key](..), key in TABLE. -/
namespace PD
open PySem PySem.Spec PyProof.Rows L2

abbrev Tab := List (List Nat × Nat)
def gCallT (F : SemF) (tab : Tab) (key : SemE) (as : SemAs) : SemE := fun env st => settle st.length ((key env st).bind fun a s1 =>
  match a with
  | .d (.str s) =>
    match tab.lookup s with
    | some f => (as env s1).bind fun xs s2 => callIn (F f) xs s2
    | none => .bad
  | _ => .bad)
def pInTab (tab : Tab) : Prim
  | [.str s] => if (tab.lookup s).isSome then some (.v (.bl true)) else none
  | _ => none
def pNotInTab (tab : Tab) : Prim
  | [.str s] => if (tab.lookup s).isSome then some (.v (.bl false)) else none
  | _ => none
/-- what is known of the table at ad -/
structure TabOk (G : Gb) (K : Fr) (w : World) (ad : Addr) (tab : Tab) : Prop where
  dk : ∃ es n, KDict K w ad es n
  at_ : ∀ s f, tab.lookup s = some f → ∃ fa, G.fa f = some fa ∧ PySem.W.nsIn K ad ⟨s.toArray⟩ = some (some (.ref fa))
section
variable {G : Gb} {X : Cx} {W : WX} {a e i : Expr} {es : List Expr} {ga g gi : SemE} {gs : SemAs} {pos p p2 : Pos} {x : Str} {ad : Addr} {tab : Tab}
theorem pe_tabcall {CX : CXT} {k : Nat} {E : L2.St → XK} {t : TA} {ti : TE} {des : Array DictEntry} {n : Nat} (D : KDict X.K X.w ad des n) (hr : Room k X.A) (hg : Gl X x) (hm : X.mg x = some (.ref ad)) (hdb : (x == ("__debug__" : Str)) = false)
    (hi : PE X i ti) (hs : NoSl i) (hx : ∀ σ, PassesAt CX X σ (E σ)) (ha : PA X (e :: es) t)
    (ht : eval (.Call (.Subscript (.Name x p) i p2) (e :: es) [] pos) X.env = (do callWith pos (← eval (.Subscript (.Name x p) i p2) X.env) [] (backTo pos (starEach (e :: es) X.env)) (backToKw pos (keywordEach [] X.env))))
    (he : starEach (e :: es) X.env = (false, eval e X.env) :: starEach es X.env) (hpl : (backTo pos (starEach es X.env)).any (·.1) = false) :
    PE X (.Call (.Subscript (.Name x p) i p2) (e :: es) [] pos) (fun σ H Q => ti σ H fun y H1 => ∃ z f fd ps sp, y = .str z ∧ PySem.W.nsIn X.K ad z = some (some (.ref f)) ∧ FnOk X.prog X.w X.K X.mg X.base CX k f fd ps sp ∧ PySem.W.keepIn X.K (.ref f) = true ∧ Binds X.K fd ps [] ∧ t σ H1 fun vs H2 => sp vs H2 Q (E σ)) := by
  refine ⟨fun pins s σ H Q I h => ?_⟩
  refine Call_ ?_ ht
  refine subD_of PySem.F.slot_dict_getitem.lookup hs (ld_glob I hg hm ?_ hdb)
  refine thn (hi.run pins s σ H _ I h) fun iv s2 ⟨y, H1, I1, ry, z, f, fd, ps, sp, ey, en, hF, hk, hb, q⟩ => ?_
  subst ey
  obtain ⟨tk, rfl⟩ := ry
  refine ⟨kd_type D I1, wpAny_getItem_of (PySem.strKind_is X.prog X.w z tk) (PySem.W.mapOf_K (prog := X.prog) I1.kIn D.at_ D.lit) (PySem.W.find_K D.at_ en) ?_⟩
  exact PySem.W.callWith_K (h₀ := X.base) I1.ok.mod.kin hk (thn (ha.run pos pins _ σ _ _ (I1.tok _) q) fun us s3 ⟨vs, H2, I2, r, q2⟩ => ⟨I2.kIn, run_fnS hF hr hb (hx σ) I2 r q2⟩) he hpl
theorem de_tabcall {k : Nat} {F : SemF} (T : TabOk G X.K X.w ad tab) (d : ∀ f ad, G.fa f = some ad → DefOk G X.prog X.w X.K X.mg X.base k f (F f)) (hr : Room k X.A) (hg : Gl X x) (hm : X.mg x = some (.ref ad)) (hdb : (x == ("__debug__" : Str)) = false) (tk : Takes X W)
    (hi : DE G X W i gi) (hs : NoSl i) (ha : DAs G X W (e :: es) gs)
    (ht : eval (.Call (.Subscript (.Name x p) i p2) (e :: es) [] pos) X.env = (do callWith pos (← eval (.Subscript (.Name x p) i p2) X.env) [] (backTo pos (starEach (e :: es) X.env)) (backToKw pos (keywordEach [] X.env))))
    (he : starEach (e :: es) X.env = (false, eval e X.env) :: starEach es X.env) (hpl : (backTo pos (starEach es X.env)).any (·.1) = false) :
    DE G X W (.Call (.Subscript (.Name x p) i p2) (e :: es) [] pos) (gCallT F tab gi gs) := by
  obtain ⟨des, n, D⟩ := T.dk
  refine PE.weak (pe_tabcall (CX := L2.CX X.prog X.w) (k := k) (E := WE W) D hr hg hm hdb hi hs (fun σ => passAt tk σ) ha ht he hpl) fun σ H Q ⟨env, μ, st, hen, hst, h⟩ => ?_
  refine ⟨env, μ, st, hen, hst, (Pst.bind (R := RA G) (Pst.settled hst.len h)).mono fun y H1 ⟨ya, μ1, st1, g1, s1, r1, p1⟩ => ?_⟩
  split at p1
  · rename_i s
    split at p1
    · rename_i f ef
      obtain ⟨fa, h1, h2⟩ := T.at_ s f ef
      obtain ⟨ad', fd, ps, h3, hk, hb, hF, hn⟩ := (d f fa h1).ex
      rw [h1] at h3; cases h3
      exact ⟨⟨s.toArray⟩, fa, fd, ps, _, (show RepD G.K H1 (.str s) y from r1).1, h2, hF, hk, hb, env, μ1, st1, hen.mono g1, s1, (Pst.bind (R := RAs G) p1).mono fun vs H2 ⟨as, μ2, st2, g2, s2, r2, p2⟩ => call_goes hn s2 r2 p2⟩
    · exact p1.elim
  · exact p1.elim
theorem de_intab (hK : G.K = X.K) (T : TabOk G X.K X.w ad tab) (hg : Gl X x) (hm : X.mg x = some (.ref ad)) (hdb : (x == ("__debug__" : Str)) = false) (ha : DE G X W a ga) (hmk : behindInMarks .In (.Name x p) = false) :
    DE G X W (.Compare a [.In] [.Name x p] pos) (gOp (pInTab tab) (gCons ga gNil)) := by
  obtain ⟨des, n, D⟩ := T.dk
  refine PE.weak (pe_cmpR (op_in_kd D) ha (pe_glob (v := .ref ad) hg hm rfl hdb) hmk) fun σ H Q h => (rdAs_one (rdOp h)).mono fun v H1 h1 => ?_
  obtain ⟨ds, res, hr, hp, q⟩ := h1
  obtain ⟨d, rfl, ra⟩ := hr.one
  unfold pInTab at hp
  split at hp
  · rename_i s e
    cases e
    split at hp
    · rename_i hsome
      cases hp
      obtain ⟨f, ef⟩ := Option.isSome_iff_exists.mp hsome
      obtain ⟨fa, h1, h2⟩ := T.at_ s f ef
      exact ⟨⟨s.toArray⟩, some (.ref fa), (show RepD G.K H1 (.str s) v from ra).1, rfl, h2, q _ H1 (Grow.refl H1) rfl⟩
    · cases hp
  · cases hp
theorem de_notintab (hK : G.K = X.K) (T : TabOk G X.K X.w ad tab) (hg : Gl X x) (hm : X.mg x = some (.ref ad)) (hdb : (x == ("__debug__" : Str)) = false) (ha : DE G X W a ga) (hmk : behindInMarks .NotIn (.Name x p) = false) :
    DE G X W (.Compare a [.NotIn] [.Name x p] pos) (gOp (pNotInTab tab) (gCons ga gNil)) := by
  obtain ⟨des, n, D⟩ := T.dk
  refine PE.weak (pe_cmpR (op_notIn_kd D) ha (pe_glob (v := .ref ad) hg hm rfl hdb) hmk) fun σ H Q h => (rdAs_one (rdOp h)).mono fun v H1 h1 => ?_
  obtain ⟨ds, res, hr, hp, q⟩ := h1
  obtain ⟨d, rfl, ra⟩ := hr.one
  unfold pNotInTab at hp
  split at hp
  · rename_i s e
    cases e
    split at hp
    · rename_i hsome
      cases hp
      obtain ⟨f, ef⟩ := Option.isSome_iff_exists.mp hsome
      obtain ⟨fa, h1, h2⟩ := T.at_ s f ef
      exact ⟨⟨s.toArray⟩, some (.ref fa), (show RepD G.K H1 (.str s) v from ra).1, rfl, h2, q _ H1 (Grow.refl H1) rfl⟩
    · cases hp
  · cases hp
theorem dt_intab (hK : G.K = X.K) (T : TabOk G X.K X.w ad tab) (hg : Gl X x) (hm : X.mg x = some (.ref ad)) (hdb : (x == ("__debug__" : Str)) = false) (ha : DE G X W a ga) (hmk : behindInMarks .In (.Name x p) = false) :
    DT G X W (.Compare a [.In] [.Name x p] pos) (tVal (gOp (pInTab tab) (gCons ga gNil))) := by
  obtain ⟨des, n, D⟩ := T.dk
  refine PT.weak (pt_cmpR (op_in_kd D) ha (pe_glob (v := .ref ad) hg hm rfl hdb) hmk) fun σ H Q h => (rdAs_one (rdOp (rdTru h))).mono fun v H1 h1 => ?_
  obtain ⟨ds, res, hr, hp, q⟩ := h1
  obtain ⟨d, rfl, ra⟩ := hr.one
  unfold pInTab at hp
  split at hp
  · rename_i s e
    cases e
    split at hp
    · rename_i hsome
      cases hp
      obtain ⟨f, ef⟩ := Option.isSome_iff_exists.mp hsome
      obtain ⟨fa, h1, h2⟩ := T.at_ s f ef
      obtain ⟨k', t, qk⟩ := q _ H1 (Grow.refl H1) rfl
      exact ⟨⟨s.toArray⟩, some (.ref fa), (show RepD G.K H1 (.str s) v from ra).1, rfl, h2, true, rfl, by rw [← (show k' = true from t)]; exact qk⟩
    · cases hp
  · cases hp
theorem dt_notintab (hK : G.K = X.K) (T : TabOk G X.K X.w ad tab) (hg : Gl X x) (hm : X.mg x = some (.ref ad)) (hdb : (x == ("__debug__" : Str)) = false) (ha : DE G X W a ga) (hmk : behindInMarks .NotIn (.Name x p) = false) :
    DT G X W (.Compare a [.NotIn] [.Name x p] pos) (tVal (gOp (pNotInTab tab) (gCons ga gNil))) := by
  obtain ⟨des, n, D⟩ := T.dk
  refine PT.weak (pt_cmpR (op_notIn_kd D) ha (pe_glob (v := .ref ad) hg hm rfl hdb) hmk) fun σ H Q h => (rdAs_one (rdOp (rdTru h))).mono fun v H1 h1 => ?_
  obtain ⟨ds, res, hr, hp, q⟩ := h1
  obtain ⟨d, rfl, ra⟩ := hr.one
  unfold pNotInTab at hp
  split at hp
  · rename_i s e
    cases e
    split at hp
    · rename_i hsome
      cases hp
      obtain ⟨f, ef⟩ := Option.isSome_iff_exists.mp hsome
      obtain ⟨fa, h1, h2⟩ := T.at_ s f ef
      obtain ⟨k', t, qk⟩ := q _ H1 (Grow.refl H1) rfl
      exact ⟨⟨s.toArray⟩, some (.ref fa), (show RepD G.K H1 (.str s) v from ra).1, rfl, h2, false, rfl, by rw [← (show k' = false from t)]; exact qk⟩
    · cases hp
  · cases hp
end
end PD
end

section
set_option Elab.async false
set_option linter.all false
set_option maxRecDepth 100000
set_option maxHeartbeats 1000000
/-! PD17: from the text to its meaning: expressions. -/
namespace PD
open PySem PySem.Spec PyProof.Rows L2

/-- what a name of the module is: data, a def, an error class, or a built-in thing's name -/
inductive GK where
  | con (d : D) | fn (f : Nat) | cls (c : Nat) | blt | tab (l : Tab)
structure Cc where
  N : List Str
  sc : Scope
  fnc : Str → Bool
  gl : Str → Option GK
  F : SemF
  cls : List (Option Str)
  sub : Nat → Nat → Bool
/-- within a comprehension's block -/
def Cc.blk (c : Cc) (scope : Scope) : Cc := { c with sc := relS scope c.sc, fnc := fun x => scope.names.lookup x == some .cell }
def ixOf (x : Str) : List Str → Nat → Option Nat
  | [], _ => none
  | y :: r, k => if x = y then some k else ixOf x r (k + 1)
theorem ixOf_get {x : Str} : ∀ {l : List Str} {k i : Nat}, ixOf x l k = some i → k ≤ i ∧ l[i - k]? = some x
  | [], _, _, h => nomatch h
  | y :: r, k, i, h => by
    unfold ixOf at h
    split at h
    · rename_i e
      cases h
      exact ⟨Nat.le_refl _, by rw [Nat.sub_self, e]; rfl⟩
    · obtain ⟨h1, h2⟩ := ixOf_get h
      refine ⟨by omega, ?_⟩
      rw [show i - k = (i - (k + 1)) + 1 by omega, List.getElem?_cons_succ]
      exact h2
theorem ixOf_at {x : Str} {l : List Str} {i : Nat} (h : ixOf x l 0 = some i) : l[i]? = some x := (ixOf_get h).2

structure CtxOk (G : Gb) (X : Cx) (W : WX) (c : Cc) (k : Nat) : Prop where
  K : G.K = X.K
  N : X.N = c.N
  nd : X.N.Nodup
  nm : X.env.scope = c.sc
  kind : c.sc.kind = .function
  fn : ∀ x, c.fnc x = true → X.fn x = true
  calm : X.calm = true
  gcon : ∀ x d, c.gl x = some (.con d) → GlOk G X.mg x d
  gfn : ∀ x f, c.gl x = some (.fn f) → ∃ ad, X.mg x = some (.ref ad) ∧ G.fa f = some ad
  gblt : ∀ x, c.gl x = some .blt → X.mg x = none
  gtab : ∀ x l, c.gl x = some (.tab l) → ∃ ad, X.mg x = some (.ref ad) ∧ TabOk G X.K X.w ad l
  defs : ∀ f ad, G.fa f = some ad → DefOk G X.prog X.w X.K X.mg X.base k f (c.F f)
  room : Room (k + 1) X.A
  tk : Takes X W

/-! ### chains as tests -/
section
variable {G : Gb} {X : Cx} {W : WX} {a b c e : Expr} {es : List Expr} {ga gb gc g : SemE} {gs : SemAs} {pos p p2 p3 apos : Pos} {x : Str}
theorem dt_chain {op op' : CmpOp} {pr pr' : Prim} (hb0 : ∀ ds r, pr ds = some r → ∃ k, r = .v (.bl k)) (hb1 : ∀ ds r, pr' ds = some r → ∃ k, r = .v (.bl k)) (ho : OpR X (compareOp op) (rP2 G.K pr)) (ho' : OpR X (compareOp op') (rP2 G.K pr'))
    (ha : DE G X W a ga) (hb : DE G X W b gb) (hc : DE G X W c gc) (hm : lastMarks [op, op'] [b, c] = false) : DT G X W (.Compare a [op, op'] [b, c] pos) (tVal (gChain pr pr' ga gb gc)) :=
  PT.weak (pt_chain ho ho' ha hb hc hm) fun σ H Q h => by
    obtain ⟨env, μ, st, he, hs, h⟩ := rdTru h
    refine ⟨env, μ, st, he, hs, (Pst.bind (R := RA G) (Pst.settled hs.len h)).mono fun x H1 ⟨xa, μ1, st1, g1, s1, r1, p1⟩ => ?_⟩
    refine ⟨env, μ1, st1, he.mono g1, s1, (Pst.bind (R := RA G) p1).mono fun y H2 ⟨ya, μ2, st2, g2, s2, r2, p2⟩ => ?_⟩
    obtain ⟨ds, res, hr, hp, q⟩ := PrimV.ofB hb0 s2 (.cons (r1.mono g2) (.cons r2 .nil)) p2
    refine ⟨ds, res, hr, hp, fun z H3 gw rr => ?_⟩
    obtain ⟨k, ez, μ3, g3, s3, p3⟩ := q z H3 gw rr
    refine ⟨k, ez, ?_⟩
    cases k with
    | true =>
      refine ⟨env, μ3, st2, ((he.mono g1).mono g2).mono g3, s3, (Pst.bind (R := RA G) p3).mono fun w H4 ⟨wa, μ4, st4, g4, s4, r4, p4⟩ => ?_⟩
      obtain ⟨ds', res', hr', hp', q'⟩ := PrimV.of s4 (.cons ((RepA.mono g3 r2).mono g4) (.cons r4 .nil)) p4
      obtain ⟨k', rfl⟩ := hb1 _ _ hp'
      refine ⟨ds', _, hr', hp', fun v H' gw' rr' => ?_⟩
      obtain ⟨k2, t2, q2⟩ := q' v H' gw' rr'
      have ev : v = V.bl k' := rr'
      subst ev
      exact ⟨k', rfl, by rw [← (show k2 = k' from t2)]; exact q2⟩
    | false =>
      obtain ⟨k2, t2, q2⟩ := p3 (.bl false) H3 μ3 (Go.refl _ _) s3 rfl
      exact ⟨false, rfl, by rw [← (show k2 = false from t2)]; exact q2⟩
theorem dt_w {t : SemT} (h : DW G X W e t) : DT G X W e t := ⟨fun pins s σ H Q I q => h.run (eval e X.env) pins s σ H Q I q⟩
end

/-! ### the pieces -/
def hidden (x : Str) : Bool := x == ("__debug__" : Str) || x == ("__classdict__" : Str) || x == ("__name__" : Str)
def ixName (c : Cc) (x : Str) : Option Nat :=
  match c.sc.names.lookup x with
  | some .local => ixOf x c.N 0
  | some .cell => ixOf x c.N 0
  | some .free => ixOf x c.N 0
  | _ => none
def isGl (c : Cc) (x : Str) : Bool := decide (c.sc.names.lookup x = some .globalImplicit)
def cName (c : Cc) (x : Str) : Option SemE :=
  if hidden x then none else
  if isGl c x then
    match c.gl x with
    | some (.con d) => some (gCon d)
    | some (.fn f) => some (gFn f)
    | _ => none
  else (ixName c x).map gVar
def cCon : Const → Option SemE
  | .int i => some (gCon (.int i))
  | .bool b => some (gCon (.bl b))
  | .none => some (gCon .non)
  | .str s => if goodS s.cps.toList then some (gCon (.str s.cps.toList)) else none
  | _ => none
section
variable {G : Gb} {X : Cx} {W : WX} {c : Cc} {k : Nat}
theorem hid {x : Str} (h : ¬ hidden x = true) : (x == ("__debug__" : Str)) = false ∧ (x == ("__classdict__" : Str)) = false ∧ x ≠ "__name__" := by
  unfold hidden at h
  simp only [Bool.or_eq_true, not_or, Bool.not_eq_true] at h
  exact ⟨h.1.1, h.1.2, by simpa using h.2⟩
theorem isGl_gl (C : CtxOk G X W c k) {x : Str} (h : isGl c x = true) : Gl X x := by
  have := of_decide_eq_true h
  rw [← C.nm] at this
  exact this
theorem ixName_vis (C : CtxOk G X W c k) {x : Str} {i : Nat} (h : ixName c x = some i) : X.N[i]? = some x ∧ Vis X.env.scope x := by
  unfold ixName at h
  unfold Vis
  rw [C.nm, C.N]
  split at h
  · rename_i e; exact ⟨ixOf_at h, .inl e⟩
  · rename_i e; exact ⟨ixOf_at h, .inr (.inl e)⟩
  · rename_i e; exact ⟨ixOf_at h, .inr (.inr e)⟩
  · cases h
theorem s_name (C : CtxOk G X W c k) {x : Str} {p : Pos} {g : SemE} (h : cName c x = some g) : DE G X W (.Name x p) g := by
  unfold cName at h
  split at h
  · cases h
  · rename_i hh
    obtain ⟨h1, h2, h3⟩ := hid hh
    split at h
    · rename_i hg
      split at h
      · rename_i d e; cases h; exact de_glob (isGl_gl C hg) (C.gcon x d e) h1
      · rename_i f e
        cases h
        obtain ⟨ad, m1, m2⟩ := C.gfn x f e
        exact de_fn (isGl_gl C hg) m1 m2 h1
      · cases h
    · obtain ⟨i, hi, rfl⟩ := Option.map_eq_some_iff.mp h
      obtain ⟨v1, v2⟩ := ixName_vis C hi
      exact de_var v1 v2 h1 h2
theorem s_con {K : Const} {j : Nat} {p : Pos} {g : SemE} (h : cCon K = some g) : DE G X W (.Constant K j p) g := by
  unfold cCon at h
  split at h
  · cases h; exact de_int
  · cases h; exact de_bl
  · cases h; exact de_non
  · split at h
    · rename_i hs; cases h; exact de_str hs
    · cases h
  · cases h
end
def binP : Operator → Option Prim
  | .Add => some pAdd | .Sub => some pSub | .Mult => some pMul | .FloorDiv => some pFdiv | .Mod => some pMod | .Pow => some pPow
  | _ => none
def cmpP : CmpOp → Option Prim
  | .Eq => some pEq | .NotEq => some pNe | .Lt => some pLt2 | .LtE => some pLe | .Gt => some pGt | .GtE => some pGe | .In => some pIn | .NotIn => some pNotIn | .Is => some pIs | .IsNot => some pIsNot
theorem cmp_bl {op : CmpOp} {pr : Prim} (h : cmpP op = some pr) : ∀ ds r, pr ds = some r → ∃ k, r = .v (.bl k) := by
  intro ds r hp
  unfold cmpP at h
  split at h <;> cases h
  · unfold pEq at hp; split at hp <;> first | (cases hp; done) | (split at hp <;> first | (cases hp; exact ⟨_, rfl⟩) | (cases hp))
  · unfold pNe at hp; split at hp <;> first | (cases hp; done) | (split at hp <;> first | (cases hp; exact ⟨_, rfl⟩) | (cases hp))
  · unfold pLt2 at hp; split at hp <;> first | (split at hp <;> first | (cases hp; exact ⟨_, rfl⟩) | (cases hp; done)) | (unfold pLt at hp; split at hp <;> first | (cases hp; exact ⟨_, rfl⟩) | (cases hp))
  · unfold pLe at hp; split at hp <;> first | (cases hp; exact ⟨_, rfl⟩) | (cases hp)
  · unfold pGt at hp; split at hp <;> first | (cases hp; exact ⟨_, rfl⟩) | (cases hp)
  · unfold pGe at hp; split at hp <;> first | (cases hp; exact ⟨_, rfl⟩) | (cases hp)
  · unfold pIn at hp; split at hp <;> first | (cases hp; exact ⟨_, rfl⟩) | (cases hp; done) | (split at hp <;> first | (cases hp; exact ⟨_, rfl⟩) | (cases hp))
  · unfold pNotIn at hp; split at hp <;> first | (cases hp; exact ⟨_, rfl⟩) | (cases hp; done) | (split at hp <;> first | (cases hp; exact ⟨_, rfl⟩) | (cases hp))
  · unfold pIs at hp; split at hp <;> first | (cases hp; exact ⟨_, rfl⟩) | (cases hp)
  · unfold pIsNot at hp; split at hp <;> first | (cases hp; exact ⟨_, rfl⟩) | (cases hp)
section
variable {G : Gb} {X : Cx} {W : WX} {c : Cc} {k : Nat}
theorem binP_ok (C : CtxOk G X W c k) {op : Operator} {pr : Prim} (h : binP op = some pr) : OpR X (binaryOp op) (rP2 G.K pr) := by
  rw [C.K]
  unfold binP at h
  split at h <;> cases h
  · exact op_pAdd
  · exact op_pSub
  · exact op_pMul
  · exact op_pFdiv
  · exact op_pMod
  · exact op_pPow
theorem cmpP_ok (C : CtxOk G X W c k) {op : CmpOp} {pr : Prim} (h : cmpP op = some pr) : OpR X (compareOp op) (rP2 G.K pr) := by
  rw [C.K]
  unfold cmpP at h
  split at h <;> cases h
  · exact op_pEq C.room.units
  · exact op_pNe C.room.units
  · exact op_pLt2 (Nat.lt_of_le_of_lt (Nat.le_add_right _ _) C.room.units)
  · exact op_pLe
  · exact op_pGt
  · exact op_pGe
  · exact op_pIn
  · exact op_pNotIn
  · exact op_pIs
  · exact op_pIsNot
end
/-- a row of expressions -/
def listE (fe : Expr → Option SemE) : List Expr → Option SemAs
  | [] => some gNil
  | e :: es => if notStar e then
      match fe e, listE fe es with
      | some g, some gs => some (gCons g gs)
      | _, _ => none
    else none
def boolE (fe : Expr → Option SemE) (op : BoolOp) : List Expr → Option SemE
  | [] => none
  | [a] => fe a
  | a :: b :: es =>
    match fe a, boolE fe op (b :: es) with
    | some g, some h => some (match op with | .And => gAnd g h | .Or => gOr g h)
    | _, _ => none
def boolT (ft : Expr → Option SemT) (op : BoolOp) : List Expr → Option SemT
  | [] => none
  | [a] => ft a
  | a :: b :: es =>
    match ft a, boolT ft op (b :: es) with
    | some g, some h => some (match op with | .And => tAnd g h | .Or => tOr g h)
    | _, _ => none
section
variable {G : Gb} {X : Cx} {W : WX} {c : Cc} {k : Nat} {fe : Expr → Option SemE} {ft : Expr → Option SemT}
theorem s_list (hf : ∀ e g, fe e = some g → DE G X W e g) : ∀ {es : List Expr} {gs : SemAs}, listE fe es = some gs → DAs G X W es gs ∧ es.all notStar = true
  | [], gs, h => by cases h; exact ⟨das_nil, rfl⟩
  | e :: es, gs, h => by
    unfold listE at h
    split at h
    · rename_i hn
      split at h
      · rename_i g gs' e1 e2
        cases h
        obtain ⟨a1, a2⟩ := s_list hf e2
        exact ⟨das_cons (hf e g e1) a1 (starEach_cons es X.env hn), by rw [List.all_cons, hn, a2]; rfl⟩
      · cases h
    · cases h
theorem s_boolE (hf : ∀ e g, fe e = some g → DE G X W e g) {op : BoolOp} {pos : Pos} : ∀ {es : List Expr} {g : SemE}, boolE fe op es = some g → DE G X W (.BoolOp op es pos) g
  | [], _, h => nomatch h
  | [a], g, h => de_one (hf a g h)
  | a :: b :: es, g, h => by
    unfold boolE at h
    split at h
    · rename_i g1 h1 e1 e2
      cases h
      cases op with
      | And => exact de_and (hf a g1 e1) (s_boolE hf e2)
      | Or => exact de_or (hf a g1 e1) (s_boolE hf e2)
    · cases h
theorem s_boolT (hf : ∀ e g, ft e = some g → DT G X W e g) {op : BoolOp} {pos : Pos} : ∀ {es : List Expr} {g : SemT}, boolT ft op es = some g → DW G X W (.BoolOp op es pos) g
  | [], _, h => nomatch h
  | [a], g, h => by
    cases op with
    | And => exact dw_and1 (hf a g h)
    | Or => exact dw_or1 (hf a g h)
  | a :: b :: es, g, h => by
    unfold boolT at h
    split at h
    · rename_i g1 h1 e1 e2
      cases h
      cases op with
      | And => exact dw_and (hf a g1 e1) (s_boolT hf e2)
      | Or => exact dw_or (hf a g1 e1) (s_boolT hf e2)
    · cases h
end
end PD
end

section
set_option Elab.async false
set_option linter.all false
set_option maxRecDepth 100000
set_option maxHeartbeats 1000000
/-! PD18: from the text to its meaning: calls, places, comprehensions; expressions and tests. -/
namespace PD
open PySem PySem.Spec PyProof.Rows L2

/-! ### built-in things -/
inductive Bk where
  | len | all | any | sum | max | min | tuple | list | int | str | repr
def bkOf (x : Str) : Option Bk :=
  if x = "len" then some .len else if x = "all" then some .all else if x = "any" then some .any else if x = "sum" then some .sum else if x = "max" then some .max else if x = "min" then some .min else
  if x = "tuple" then some .tuple else if x = "list" then some .list else if x = "int" then some .int else if x = "str" then some .str else if x = "repr" then some .repr else none
def Bk.prim : Bk → Nat → Option Prim
  | .len, 1 => some pLen | .all, 1 => some pAll | .any, 1 => some pAny | .sum, 1 => some pSum | .max, 1 => some pMaxL | .max, 2 => some pMax2 | .min, 1 => some pMinL | .min, 2 => some pMin2
  | .tuple, 1 => some pTuple | .list, 1 => some pList | .int, 1 => some pInt2 | .str, 1 => some pStr | .repr, 1 => some pRepr
  | _, _ => none
def tyOf (x : Str) : Option Ty :=
  if x = "int" then some .int else if x = "str" then some .str else if x = "bool" then some .bool else if x = "tuple" then some .tuple else if x = "list" then some .list else none
def isBlt (c : Cc) (x : Str) : Bool := isGl c x && (match c.gl x with | some .blt => true | _ => false)
def tysE (c : Cc) : List Expr → Option (List Ty)
  | [] => some []
  | .Name y _ :: es =>
    if isBlt c y then
      match tyOf y, tysE c es with
      | some t, some ts => some (t :: ts)
      | _, _ => none
    else none
  | _ => none
def bltE (c : Cc) (fe : Expr → Option SemE) (x : Str) (es : List Expr) : Option SemE :=
  match es with
  | [a, .Name y _] =>
    if x = "isinstance" then
      if isBlt c y && notStar a then
        match tyOf y, fe a with
        | some t, some g => some (gOp (pIsi t) (gCons g gNil))
        | _, _ => none
      else none
    else
      match bkOf x with
      | some b =>
        match b.prim es.length, listE fe es with
        | some pr, some gs => some (gOp pr gs)
        | _, _ => none
      | none => none
  | [a, .Tuple ys _ _] =>
    if x = "isinstance" then
      if notStar a && decide (ys.length ≤ 100) then
        match tysE c ys, fe a with
        | some ts, some g => some (gOp (pIsis ts) (gCons g gNil))
        | _, _ => none
      else none
    else
      match bkOf x with
      | some b =>
        match b.prim es.length, listE fe es with
        | some pr, some gs => some (gOp pr gs)
        | _, _ => none
      | none => none
  | _ =>
    match bkOf x with
    | some b =>
      match b.prim es.length, listE fe es with
      | some pr, some gs => some (gOp pr gs)
      | _, _ => none
    | none => none
def callE (c : Cc) (fe : Expr → Option SemE) (f : Expr) (es : List Expr) (pos : Pos) : Option SemE :=
  match f with
  | .Name x _ =>
    if hidden x then none else
    if isGl c x then
      match c.gl x with
      | some (.fn f) =>
        match es with
        | [] => some (gCall c.F f gNil)
        | e :: r => (listE fe (e :: r)).map (gCall c.F f)
      | some .blt => bltE c fe x es
      | _ => none
    else
      match ixName c x, es with
      | some i, e :: r => (listE fe (e :: r)).map (gCallV c.F i)
      | _, _ => none
  | .Attribute o m ap =>
    if m = "join" then
      if plainBase o && (ap.endLine == pos.line) then
        match es with
        | [e] =>
          if notStar e then
            match fe o, fe e with
            | some go, some g => some (gOp pJoin (gCons (gStr go) (gCons g gNil)))
            | _, _ => none
          else none
        | _ => none
      else none
    else if m = "lstrip" then
      if plainBase o && (ap.endLine == pos.line) then
        match es with
        | [e] =>
          if notStar e then
            match fe o, fe e with
            | some go, some g => some (gOp pLstrip (gCons (gStr go) (gCons g gNil)))
            | _, _ => none
          else none
        | _ => none
      else none
    else none
  | .Subscript (.Name x _) i _ =>
    if hidden x then none else
    if isGl c x then
      match c.gl x with
      | some (.tab l) =>
        match es with
        | [] => none
        | e :: r => if notSlice i then
            match fe i, listE fe (e :: r) with
            | some gi, some gs => some (gCallT c.F l gi gs)
            | _, _ => none
          else none
      | _ => none
    else none
  | _ => none
theorem tysE_len {c : Cc} : ∀ {ys : List Expr} {ts : List Ty}, tysE c ys = some ts → ts.length = ys.length
  | [], _, h => by cases h; rfl
  | e :: ys, _, h => by
    unfold tysE at h
    split at h
    · rename_i q; cases q
    · rename_i y p es q
      cases q
      split at h
      · split at h
        · rename_i t ts e1 e2
          cases h
          rw [List.length_cons, List.length_cons, tysE_len e2]
        · cases h
      · cases h
    · cases h
section
variable {G : Gb} {X : Cx} {W : WX} {c : Cc} {k : Nat} {fe : Expr → Option SemE} {ft : Expr → Option SemT}
theorem isBlt_mg (C : CtxOk G X W c k) {x : Str} (h : isBlt c x = true) : Gl X x ∧ X.mg x = none := by
  unfold isBlt at h
  rw [Bool.and_eq_true] at h
  refine ⟨isGl_gl C h.1, ?_⟩
  have h2 := h.2
  split at h2
  · rename_i e; exact C.gblt x e
  · cases h2
theorem bk_ok (C : CtxOk G X W c k) {x : Str} {b : Bk} {pr : Prim} {p pos : Pos} {es : List Expr} {gs : SemAs} (hb : isBlt c x = true) (h : bkOf x = some b) (hp : b.prim es.length = some pr) (ha : DAs G X W es gs) (hs : es.all notStar = true) : DE G X W (.Call (.Name x p) es [] pos) (gOp pr gs) := by
  obtain ⟨hg, hm⟩ := isBlt_mg C hb
  cases es with
  | nil => cases b <;> cases hp
  | cons e es =>
    simp only [List.all_cons, Bool.and_eq_true] at hs
    have he := starEach_cons es X.env hs.1
    have hpl := star_any (env := X.env) pos hs.2
    have K := C.K
    unfold bkOf at h
    split at h
    · rename_i ex; subst ex; cases h
      match es, hp with
      | [], hp => cases hp; exact de_callB (by rw [K]; exact c_len) hg hm PySem.boot_len ha (by decide) (by decide) he hpl
    split at h
    · rename_i ex; subst ex; cases h
      match es, hp with
      | [], hp => cases hp; exact de_callB (by rw [K]; exact c_all C.calm) hg hm PyProof.Rows.boot_all ha (by decide) (by decide) he hpl
    split at h
    · rename_i ex; subst ex; cases h
      match es, hp with
      | [], hp => cases hp; exact de_callB (by rw [K]; exact c_any C.calm) hg hm PyProof.Rows.boot_any ha (by decide) (by decide) he hpl
    split at h
    · rename_i ex; subst ex; cases h
      match es, hp with
      | [], hp => cases hp; exact de_callB (by rw [K]; exact c_sum C.calm) hg hm PyProof.Rows.boot_sum ha (by decide) (by decide) he hpl
    split at h
    · rename_i ex; subst ex; cases h
      match es, hp with
      | [], hp => cases hp; exact de_callB (by rw [K]; exact c_maxL C.calm) hg hm PyProof.Rows.boot_max ha (by decide) (by decide) he hpl
      | [_], hp => cases hp; exact de_callB (by rw [K]; exact c_max2 C.calm) hg hm PyProof.Rows.boot_max ha (by decide) (by decide) he hpl
    split at h
    · rename_i ex; subst ex; cases h
      match es, hp with
      | [], hp => cases hp; exact de_callB (by rw [K]; exact c_minL C.calm) hg hm PyProof.Rows.boot_min ha (by decide) (by decide) he hpl
      | [_], hp => cases hp; exact de_callB (by rw [K]; exact c_min2 C.calm) hg hm PyProof.Rows.boot_min ha (by decide) (by decide) he hpl
    split at h
    · rename_i ex; subst ex; cases h
      match es, hp with
      | [], hp => cases hp; exact de_callTy (by rw [K]; exact c_tuple) hg hm PyProof.Rows.boot_tuple ha (by decide) (by decide) he hpl
    split at h
    · rename_i ex; subst ex; cases h
      match es, hp with
      | [], hp => cases hp; exact de_callTy (by rw [K]; exact c_list) hg hm PyProof.Rows.boot_list ha (by decide) (by decide) he hpl
    split at h
    · rename_i ex; subst ex; cases h
      match es, hp with
      | [], hp => cases hp; exact de_callTy (by rw [K]; exact c_int2) hg hm PyProof.Rows.boot_int ha (by decide) (by decide) he hpl
    split at h
    · rename_i ex; subst ex; cases h
      match es, hp with
      | [], hp => cases hp; exact de_callTy (by rw [K]; exact c_str) hg hm (by decide +kernel) ha (by decide) (by decide) he hpl
    split at h
    · rename_i ex; subst ex; cases h
      match es, hp with
      | [], hp => cases hp; exact de_callB (by rw [K]; exact c_repr) hg hm (by decide +kernel) ha (by decide) (by decide) he hpl
    cases h
theorem s_bk (C : CtxOk G X W c k) (hf : ∀ e g, fe e = some g → DE G X W e g) {x : Str} {p pos : Pos} {es : List Expr} {g : SemE} (hb : isBlt c x = true)
    (h : (match bkOf x with
      | some b =>
        match b.prim es.length, listE fe es with
        | some pr, some gs => some (gOp pr gs)
        | _, _ => none
      | none => none) = some g) : DE G X W (.Call (.Name x p) es [] pos) g := by
  split at h
  · rename_i b eb
    split at h
    · rename_i pr gs e1 e2
      cases h
      obtain ⟨a1, a2⟩ := s_list hf e2
      exact bk_ok C hb eb e1 a1 a2
    · cases h
  · cases h
theorem ty_boot {y : Str} {t : Ty} (h : tyOf y = some t) : bootBuiltins y = some (.type t.nm) ∧ y ≠ "__name__" ∧ (y == ("__debug__" : Str)) = false := by
  unfold tyOf at h
  split at h
  · rename_i ey; subst ey; cases h; exact ⟨PyProof.Rows.boot_int, by decide, by decide⟩
  split at h
  · rename_i ey; subst ey; cases h; exact ⟨by decide +kernel, by decide, by decide⟩
  split at h
  · rename_i ey; subst ey; cases h; exact ⟨by decide +kernel, by decide, by decide⟩
  split at h
  · rename_i ey; subst ey; cases h; exact ⟨by decide +kernel, by decide, by decide⟩
  split at h
  · rename_i ey; subst ey; cases h; exact ⟨by decide +kernel, by decide, by decide⟩
  cases h
theorem s_tys (C : CtxOk G X W c k) : ∀ {ys : List Expr} {ts : List Ty}, tysE c ys = some ts → TysAt X ys ts
  | [], _, h => by cases h; exact .nil
  | e :: ys, _, h => by
    unfold tysE at h
    split at h
    · rename_i q; cases q
    · rename_i y p es q
      cases q
      split at h
      · rename_i hb
        obtain ⟨hg, hm⟩ := isBlt_mg C hb
        split at h
        · rename_i t ts e1 e2
          cases h
          obtain ⟨b1, b2, b3⟩ := ty_boot e1
          exact .cons hg hm b1 b2 b3 (s_tys C e2)
        · cases h
      · cases h
    · cases h
theorem s_blt (C : CtxOk G X W c k) (hf : ∀ e g, fe e = some g → DE G X W e g) {x : Str} {p pos : Pos} {es : List Expr} {g : SemE} (hb : isBlt c x = true) (h : bltE c fe x es = some g) : DE G X W (.Call (.Name x p) es [] pos) g := by
  unfold bltE at h
  split at h
  · rename_i a y p2
    split at h
    · rename_i ex
      subst ex
      split at h
      · rename_i hc
        rw [Bool.and_eq_true] at hc
        split at h
        · rename_i t ga e1 e2
          cases h
          obtain ⟨hg, hm⟩ := isBlt_mg C hb
          obtain ⟨hgy, hmy⟩ := isBlt_mg C hc.1
          have ha := hf a ga e2
          have he := starEach_cons [.Name y p2] X.env hc.2
          have K := C.K
          unfold tyOf at e1
          split at e1
          · rename_i ey; subst ey; cases e1; exact de_isi (t := .int) K hg hm hgy hmy PyProof.Rows.boot_int ha (by decide) (by decide) he
          split at e1
          · rename_i ey; subst ey; cases e1; exact de_isi (t := .str) K hg hm hgy hmy (by decide +kernel) ha (by decide) (by decide) he
          split at e1
          · rename_i ey; subst ey; cases e1; exact de_isi (t := .bool) K hg hm hgy hmy (by decide +kernel) ha (by decide) (by decide) he
          split at e1
          · rename_i ey; subst ey; cases e1; exact de_isi (t := .tuple) K hg hm hgy hmy (by decide +kernel) ha (by decide) (by decide) he
          split at e1
          · rename_i ey; subst ey; cases e1; exact de_isi (t := .list) K hg hm hgy hmy (by decide +kernel) ha (by decide) (by decide) he
          cases e1
        · cases h
      · cases h
    · exact s_bk C hf hb h
  · rename_i a ys kk tp
    split at h
    · rename_i ex
      subst ex
      split at h
      · rename_i hc
        rw [Bool.and_eq_true, decide_eq_true_eq] at hc
        split at h
        · rename_i ts ga e1 e2
          cases h
          obtain ⟨hg, hm⟩ := isBlt_mg C hb
          exact de_isis C.K hg hm (hf a ga e2) hc.1 (by rw [tysE_len e1]; exact hc.2) (s_tys C e1)
        · cases h
      · cases h
    · exact s_bk C hf hb h
  · exact s_bk C hf hb h
theorem s_call (C : CtxOk G X W c k) (hf : ∀ e g, fe e = some g → DE G X W e g) {f : Expr} {es : List Expr} {pos : Pos} {g : SemE} (h : callE c fe f es pos = some g) : DE G X W (.Call f es [] pos) g := by
  have hrm : Room k X.A := C.room.mono (Nat.le_succ k)
  unfold callE at h
  split at h
  · rename_i x p
    split at h
    · cases h
    · rename_i hh
      obtain ⟨h1, h2, h3⟩ := hid hh
      split at h
      · rename_i hg
        split at h
        · rename_i f ef
          obtain ⟨ad, m1, m2⟩ := C.gfn x f ef
          have d := C.defs f ad m2
          split at h
          · cases h
            exact de_call0 d hrm (isGl_gl C hg) m2 m1 C.tk h1
          · rename_i e r
            obtain ⟨gs, hl, rfl⟩ := Option.map_eq_some_iff.mp h
            obtain ⟨a1, a2⟩ := s_list hf hl
            simp only [List.all_cons, Bool.and_eq_true] at a2
            exact de_call d hrm (isGl_gl C hg) m2 m1 C.tk a1 h1 (starEach_cons r X.env a2.1) (star_any pos a2.2)
        · rename_i eb
          exact s_blt C hf (by unfold isBlt; rw [hg, eb]; rfl) h
        · cases h
      · split at h
        · rename_i i e r hi
          obtain ⟨gs, hl, rfl⟩ := Option.map_eq_some_iff.mp h
          obtain ⟨a1, a2⟩ := s_list hf hl
          simp only [List.all_cons, Bool.and_eq_true] at a2
          obtain ⟨v1, v2⟩ := ixName_vis C hi
          exact de_callV (fun f ad hfa => C.defs f ad hfa) hrm v1 v2 C.tk a1 h1 h2 (starEach_cons r X.env a2.1) (star_any pos a2.2)
        · cases h
  · rename_i o m ap
    split at h
    · rename_i em
      subst em
      split at h
      · rename_i hc
        rw [Bool.and_eq_true] at hc
        split at h
        · rename_i e
          split at h
          · rename_i hn
            split at h
            · rename_i go ge e1 e2
              cases h
              exact de_join C.K (hf o go e1) (hf e ge e2) (star_one X.env hn) (base_plain hc.1 _ _) hc.2
            · cases h
          · cases h
        · cases h
      · cases h
    split at h
    · rename_i em
      subst em
      split at h
      · rename_i hc
        rw [Bool.and_eq_true] at hc
        split at h
        · rename_i e
          split at h
          · rename_i hn
            split at h
            · rename_i go ge e1 e2
              cases h
              exact de_lstrip (hf o go e1) (hf e ge e2) (star_one X.env hn) (base_plain hc.1 _ _) hc.2
            · cases h
          · cases h
        · cases h
      · cases h
    · cases h
  · rename_i x p i p2
    split at h
    · cases h
    · rename_i hh
      obtain ⟨h1, h2, h3⟩ := hid hh
      split at h
      · rename_i hg
        split at h
        · rename_i l el
          obtain ⟨ad, m1, T⟩ := C.gtab x l el
          split at h
          · cases h
          · rename_i e r
            split at h
            · rename_i hn
              split at h
              · rename_i gi gs e1 e2
                cases h
                obtain ⟨a1, a2⟩ := s_list hf e2
                simp only [List.all_cons, Bool.and_eq_true] at a2
                exact de_tabcall T (fun f ad hfa => C.defs f ad hfa) hrm (isGl_gl C hg) m1 h1 C.tk (hf i gi e1) (ix_plain hn) a1 rfl (starEach_cons r X.env a2.1) (star_any pos a2.2)
              · cases h
            · cases h
        · cases h
      · cases h
  · cases h
end
/-! ### places -/
def partE (fe : Expr → Option SemE) : Option Expr → Option SemE
  | none => some (gCon .non)
  | some e => (fe e).map gInt
def subE (fe : Expr → Option SemE) (a i : Expr) : Option SemE :=
  match i with
  | .Slice none none (some (.UnaryOp .USub (.Constant (.int 1) _ _) _)) _ => (fe a).map fun g => gOp pRev (gCons g gNil)
  | .Slice lo hi none _ =>
    match fe a, partE fe lo, partE fe hi with
    | some ga, some gl, some gh => some (gOp pSl (gCons ga (gCons gl (gCons gh gNil))))
    | _, _, _ => none
  | i => if notSlice i then
      match fe a, fe i with
      | some ga, some gi => some (gOp pIx (gCons ga (gCons gi gNil)))
      | _, _ => none
    else none
section
variable {G : Gb} {X : Cx} {W : WX} {c : Cc} {k : Nat} {fe : Expr → Option SemE} {ft : Expr → Option SemT}
theorem s_part (hf : ∀ e g, fe e = some g → DE G X W e g) {o : Option Expr} {g : SemE} (h : partE fe o = some g) : ∃ t, DPart G X W o g t := by
  cases o with
  | none => cases h; exact ⟨_, dpart_no⟩
  | some e =>
    obtain ⟨g', e1, rfl⟩ := Option.map_eq_some_iff.mp h
    exact ⟨_, dpart_some (hf e g' e1)⟩
theorem s_sub (C : CtxOk G X W c k) (hf : ∀ e g, fe e = some g → DE G X W e g) {a i : Expr} {pos : Pos} {g : SemE} (h : subE fe a i = some g) : DE G X W (.Subscript a i pos) g := by
  unfold subE at h
  split at h
  · obtain ⟨g', e1, rfl⟩ := Option.map_eq_some_iff.mp h
    exact de_rev C.K (hf a g' e1)
  · split at h
    · rename_i ga gl gh e1 e2 e3
      cases h
      obtain ⟨tl, hl⟩ := s_part hf e2
      obtain ⟨th, hh⟩ := s_part hf e3
      exact de_sl C.K (hf a ga e1) hl hh
    · cases h
  · split at h
    · rename_i hn
      split at h
      · rename_i ga gi e1 e2
        cases h
        exact de_ix C.K (hf a ga e1) (hf i gi e2) (ix_plain hn)
      · cases h
    · cases h
end
/-! ### comparisons -/
def tabE (c : Cc) (fe : Expr → Option SemE) (a : Expr) (ops : List CmpOp) (bs : List Expr) : Option SemE :=
  match ops, bs with
  | [.In], [.Name x p] => if isGl c x && (!hidden x && !behindInMarks .In (.Name x p)) then
      match c.gl x, fe a with
      | some (.tab l), some g => some (gOp (pInTab l) (gCons g gNil))
      | _, _ => none
    else none
  | [.NotIn], [.Name x p] => if isGl c x && (!hidden x && !behindInMarks .NotIn (.Name x p)) then
      match c.gl x, fe a with
      | some (.tab l), some g => some (gOp (pNotInTab l) (gCons g gNil))
      | _, _ => none
    else none
  | _, _ => none
def cmpE0 (fe : Expr → Option SemE) (a : Expr) (ops : List CmpOp) (bs : List Expr) : Option SemE :=
  match ops, bs with
  | [op], [b] => if behindInMarks op b then none else
      match cmpP op, fe a, fe b with
      | some p, some ga, some gb => some (gOp p (gCons ga (gCons gb gNil)))
      | _, _, _ => none
  | [op, op'], [b, d] => if lastMarks [op, op'] [b, d] then none else
      match cmpP op, cmpP op', fe a, fe b, fe d with
      | some p, some q, some ga, some gb, some gd => some (gChain p q ga gb gd)
      | _, _, _, _, _ => none
  | _, _ => none
section
variable {G : Gb} {X : Cx} {W : WX} {c : Cc} {k : Nat} {fe : Expr → Option SemE} {ft : Expr → Option SemT}
theorem s_cmp0 (C : CtxOk G X W c k) (hf : ∀ e g, fe e = some g → DE G X W e g) {a : Expr} {ops : List CmpOp} {bs : List Expr} {pos : Pos} {g : SemE} (h : cmpE0 fe a ops bs = some g) : DE G X W (.Compare a ops bs pos) g := by
  unfold cmpE0 at h
  split at h
  · rename_i op b
    split at h
    · cases h
    · rename_i hm
      split at h
      · rename_i p ga gb e1 e2 e3
        cases h
        exact de_cmp (cmpP_ok C e1) (hf a ga e2) (hf b gb e3) (by simpa using hm)
      · cases h
  · rename_i op op' b d
    split at h
    · cases h
    · rename_i hm
      split at h
      · rename_i p q ga gb gd e1 e2 e3 e4 e5
        cases h
        exact de_chain (cmp_bl e1) (cmpP_ok C e1) (cmpP_ok C e2) (hf a ga e3) (hf b gb e4) (hf d gd e5) (by simpa using hm)
      · cases h
  · cases h
theorem s_cmpT0 (C : CtxOk G X W c k) (hf : ∀ e g, fe e = some g → DE G X W e g) {a : Expr} {ops : List CmpOp} {bs : List Expr} {pos : Pos} {g : SemE} (h : cmpE0 fe a ops bs = some g) : DT G X W (.Compare a ops bs pos) (tVal g) := by
  unfold cmpE0 at h
  split at h
  · rename_i op b
    split at h
    · cases h
    · rename_i hm
      split at h
      · rename_i p ga gb e1 e2 e3
        cases h
        exact dt_cmp (cmp_bl e1) (cmpP_ok C e1) (hf a ga e2) (hf b gb e3) (by simpa using hm)
      · cases h
  · rename_i op op' b d
    split at h
    · cases h
    · rename_i hm
      split at h
      · rename_i p q ga gb gd e1 e2 e3 e4 e5
        cases h
        exact dt_chain (cmp_bl e1) (cmp_bl e2) (cmpP_ok C e1) (cmpP_ok C e2) (hf a ga e3) (hf b gb e4) (hf d gd e5) (by simpa using hm)
      · cases h
  · cases h
theorem s_tab (C : CtxOk G X W c k) (hf : ∀ e g, fe e = some g → DE G X W e g) {a : Expr} {ops : List CmpOp} {bs : List Expr} {pos : Pos} {g : SemE} (h : tabE c fe a ops bs = some g) : DE G X W (.Compare a ops bs pos) g := by
  unfold tabE at h
  split at h
  · rename_i x p
    split at h
    · rename_i hc
      rw [Bool.and_eq_true, Bool.and_eq_true, Bool.not_eq_true', Bool.not_eq_true'] at hc
      obtain ⟨hg, hh, hm⟩ := hc
      obtain ⟨h1, h2, h3⟩ := hid (x := x) (by rw [hh]; exact Bool.false_ne_true)
      split at h
      · rename_i l ga el ea
        cases h
        obtain ⟨ad, m1, T⟩ := C.gtab x l el
        exact de_intab C.K T (isGl_gl C hg) m1 h1 (hf a ga ea) hm
      · cases h
    · cases h
  · rename_i x p
    split at h
    · rename_i hc
      rw [Bool.and_eq_true, Bool.and_eq_true, Bool.not_eq_true', Bool.not_eq_true'] at hc
      obtain ⟨hg, hh, hm⟩ := hc
      obtain ⟨h1, h2, h3⟩ := hid (x := x) (by rw [hh]; exact Bool.false_ne_true)
      split at h
      · rename_i l ga el ea
        cases h
        obtain ⟨ad, m1, T⟩ := C.gtab x l el
        exact de_notintab C.K T (isGl_gl C hg) m1 h1 (hf a ga ea) hm
      · cases h
    · cases h
  · cases h
theorem s_tabT (C : CtxOk G X W c k) (hf : ∀ e g, fe e = some g → DE G X W e g) {a : Expr} {ops : List CmpOp} {bs : List Expr} {pos : Pos} {g : SemE} (h : tabE c fe a ops bs = some g) : DT G X W (.Compare a ops bs pos) (tVal g) := by
  unfold tabE at h
  split at h
  · rename_i x p
    split at h
    · rename_i hc
      rw [Bool.and_eq_true, Bool.and_eq_true, Bool.not_eq_true', Bool.not_eq_true'] at hc
      obtain ⟨hg, hh, hm⟩ := hc
      obtain ⟨h1, h2, h3⟩ := hid (x := x) (by rw [hh]; exact Bool.false_ne_true)
      split at h
      · rename_i l ga el ea
        cases h
        obtain ⟨ad, m1, T⟩ := C.gtab x l el
        exact dt_intab C.K T (isGl_gl C hg) m1 h1 (hf a ga ea) hm
      · cases h
    · cases h
  · rename_i x p
    split at h
    · rename_i hc
      rw [Bool.and_eq_true, Bool.and_eq_true, Bool.not_eq_true', Bool.not_eq_true'] at hc
      obtain ⟨hg, hh, hm⟩ := hc
      obtain ⟨h1, h2, h3⟩ := hid (x := x) (by rw [hh]; exact Bool.false_ne_true)
      split at h
      · rename_i l ga el ea
        cases h
        obtain ⟨ad, m1, T⟩ := C.gtab x l el
        exact dt_notintab C.K T (isGl_gl C hg) m1 h1 (hf a ga ea) hm
      · cases h
    · cases h
  · cases h
def cmpE (c : Cc) (fe : Expr → Option SemE) (a : Expr) (ops : List CmpOp) (bs : List Expr) : Option SemE :=
  match tabE c fe a ops bs with
  | some g => some g
  | none => cmpE0 fe a ops bs
theorem s_cmp (C : CtxOk G X W c k) (hf : ∀ e g, fe e = some g → DE G X W e g) {a : Expr} {ops : List CmpOp} {bs : List Expr} {pos : Pos} {g : SemE} (h : cmpE c fe a ops bs = some g) : DE G X W (.Compare a ops bs pos) g := by
  unfold cmpE at h
  split at h
  · rename_i g' e; cases h; exact s_tab C hf e
  · exact s_cmp0 C hf h
theorem s_cmpT (C : CtxOk G X W c k) (hf : ∀ e g, fe e = some g → DE G X W e g) {a : Expr} {ops : List CmpOp} {bs : List Expr} {pos : Pos} {g : SemE} (h : cmpE c fe a ops bs = some g) : DT G X W (.Compare a ops bs pos) (tVal g) := by
  unfold cmpE at h
  split at h
  · rename_i g' e; cases h; exact s_tabT C hf e
  · exact s_cmpT0 C hf h
end
end PD
end

section
set_option Elab.async false
set_option linter.all false
set_option maxRecDepth 100000
set_option maxHeartbeats 1000000
/-! PD19: from the text to its meaning: targets, what is walked, comprehensions; all expressions. -/
namespace PD
open PySem PySem.Spec PyProof.Rows L2

/-! ### targets -/
def locIx (c : Cc) (x : Str) : Option Nat :=
  match c.sc.names.lookup x with
  | some .local => ixOf x c.N 0
  | some .cell => if c.fnc x then ixOf x c.N 0 else none
  | _ => none
def listT (ft : Expr → Option Tg) : List Expr → Option (List Tg)
  | [] => some []
  | e :: es =>
    match ft e, listT ft es with
    | some t, some ts => some (t :: ts)
    | _, _ => none
def cTg (c : Cc) : Nat → Expr → Option Tg
  | 0, _ => none
  | n + 1, e =>
    match e with
    | .Name x _ => (locIx c x).map .name
    | .Tuple es _ _ => (listT (cTg c n) es).map .tup
    | _ => none
section
variable {G : Gb} {X : Cx} {W : WX} {c : Cc} {k : Nat} {fe : Expr → Option SemE} {ft : Expr → Option SemT}
theorem locIx_ok (C : CtxOk G X W c k) {x : Str} {i : Nat} (h : locIx c x = some i) : X.N[i]? = some x ∧ Loc X.env.scope x ∧ (X.fn x = true ∨ X.env.scope.names.lookup x = some .local) := by
  unfold locIx at h
  unfold L2.Loc
  rw [C.nm, C.N]
  split at h
  · rename_i e; exact ⟨ixOf_at h, .inl e, .inr e⟩
  · rename_i e
    split at h
    · rename_i hf; exact ⟨ixOf_at h, .inr e, .inl (C.fn x hf)⟩
    · cases h
  · cases h
theorem s_listT {f : Expr → Option Tg} (hf : ∀ e t, f e = some t → TgAt X e t) : ∀ {es : List Expr} {ts : List Tg}, listT f es = some ts → TgsAt X es ts
  | [], _, h => by cases h; exact .nil
  | e :: es, _, h => by
    unfold listT at h
    split at h
    · rename_i t ts e1 e2
      cases h
      exact .cons (hf e t e1) (s_listT hf e2)
    · cases h
theorem s_tg (C : CtxOk G X W c k) : ∀ {n : Nat} {e : Expr} {t : Tg}, cTg c n e = some t → TgAt X e t
  | 0, _, _, h => nomatch h
  | n + 1, e, t, h => by
    unfold cTg at h
    split at h
    · obtain ⟨i, hi, rfl⟩ := Option.map_eq_some_iff.mp h
      obtain ⟨h1, h2, h3⟩ := locIx_ok C hi
      exact .name h1 h2 h3
    · obtain ⟨ts, hts, rfl⟩ := Option.map_eq_some_iff.mp h
      exact .tup (s_listT (fun e t he => s_tg C he) hts)
    · cases h
end
/-! ### what is walked -/
def isTup : Expr → Bool
  | .Tuple .. => true
  | _ => false
def itE (c : Cc) (fe : Expr → Option SemE) (tg : Expr) (it : Expr) : Option SemI :=
  match it with
  | .Call (.Name x _) es [] pos =>
    if isBlt c x then
      if x = "range" then
        match es with
        | [a] => if notStar a then (fe a).map iRange1 else none
        | [a, b] => if notStar a && notStar b then
            match fe a, fe b with
            | some ga, some gb => some (iRange2 ga gb)
            | _, _ => none
          else none
        | _ => none
      else if x = "enumerate" then
        match es with
        | [a] => if notStar a && isTup tg then (fe a).map iEnum else none
        | _ => none
      else if x = "zip" then
        match es with
        | [a, b] => if notStar a && (notStar b && isTup tg) then
            match fe a, fe b with
            | some ga, some gb => some (iZip ga gb)
            | _, _ => none
          else none
        | _ => none
      else (fe it).map iVal
    else (fe it).map iVal
  | _ => (fe it).map iVal
section
variable {G : Gb} {X : Cx} {W : WX} {c : Cc} {k : Nat} {fe : Expr → Option SemE} {ft : Expr → Option SemT}
theorem s_val (C : CtxOk G X W c k) (hf : ∀ e g, fe e = some g → DE G X W e g) {tg it : Expr} {g : SemI} (h : (fe it).map iVal = some g) : DI G X W tg it g := by
  obtain ⟨g', e1, rfl⟩ := Option.map_eq_some_iff.mp h
  exact di_val C.K (hf it g' e1)
theorem s_it (C : CtxOk G X W c k) (hf : ∀ e g, fe e = some g → DE G X W e g) {tg it : Expr} {g : SemI} (h : itE c fe tg it = some g) : DI G X W tg it g := by
  unfold itE at h
  split at h
  · rename_i x p es pos
    split at h
    · rename_i hb
      obtain ⟨hg, hm⟩ := isBlt_mg C hb
      split at h
      · rename_i ex
        subst ex
        split at h
        · rename_i a
          split at h
          · rename_i hn
            obtain ⟨g', e1, rfl⟩ := Option.map_eq_some_iff.mp h
            exact di_range1 (hf a g' e1) hg hm (star_one X.env hn)
          · cases h
        · rename_i a b
          split at h
          · rename_i hn
            rw [Bool.and_eq_true] at hn
            split at h
            · rename_i ga gb e1 e2
              cases h
              exact di_range2 (hf a ga e1) (hf b gb e2) hg hm (by rw [starEach_cons [b] X.env hn.1, star_one X.env hn.2]) (star_one X.env hn.2)
            · cases h
          · cases h
        · cases h
      split at h
      · rename_i ex
        subst ex
        split at h
        · rename_i a
          split at h
          · rename_i hn
            rw [Bool.and_eq_true] at hn
            obtain ⟨g', e1, rfl⟩ := Option.map_eq_some_iff.mp h
            obtain ⟨hn1, hn2⟩ := hn
            unfold isTup at hn2
            split at hn2
            · exact di_enum C.K (hf a g' e1) hg hm (star_one X.env hn1)
            · cases hn2
          · cases h
        · cases h
      split at h
      · rename_i ex
        subst ex
        split at h
        · rename_i a b
          split at h
          · rename_i hn
            rw [Bool.and_eq_true, Bool.and_eq_true] at hn
            obtain ⟨hn1, hn2, hn3⟩ := hn
            split at h
            · rename_i ga gb e1 e2
              cases h
              unfold isTup at hn3
              split at hn3
              · exact di_zip C.K (hf a ga e1) (hf b gb e2) hg hm (starEach_cons [b] X.env hn1) (star_one X.env hn2) (by rw [star_one X.env hn2]; rfl)
              · cases hn3
            · cases h
          · cases h
        · cases h
      exact s_val C hf h
    · exact s_val C hf h
  · exact s_val C hf h
end
/-! ### comprehensions -/
def ownOf (N : List Str) : List (Str × NameKind) → List (Str × Nat)
  | [] => []
  | (y, .local) :: r => (match ixOf y N 0 with | some i => (y, i) :: ownOf N r | none => ownOf N r)
  | (y, .cell) :: r => (match ixOf y N 0 with | some i => (y, i) :: ownOf N r | none => ownOf N r)
  | _ :: r => ownOf N r
def lcE (c : Cc) (n : Nat) (fe fe' : Expr → Option SemE) (ft' : Expr → Option SemT) (elt : Expr) (gens : List Comprehension) (scope : Scope) : Option SemE :=
  match gens with
  | [⟨tg, iter, ifs, a⟩] =>
    if a = 0 then
      if blkC c.N c.sc scope (ownOf c.N scope.names) && notSet iter then
        match cTg (c.blk scope) n tg, itE c fe tg iter, fe' elt, (match ifs with | [] => some tTrue | [t] => ft' t | _ => none) with
        | some t, some gi, some ge, some cnd => if t.slots.all (fun i => decide (i ∈ (ownOf c.N scope.names).map (·.2))) then some (gLc gi t cnd ge ((ownOf c.N scope.names).map (·.2))) else none
        | _, _, _, _ => none
      else none
    else none
  | _ => none
section
variable {G : Gb} {X : Cx} {W : WX} {c : Cc} {k : Nat} {fe fe' : Expr → Option SemE} {ft' : Expr → Option SemT}
theorem CtxOk.blk (C : CtxOk G X W c k) {scope : Scope} {own : List (Str × Nat)} (b : BlkOk X.N X.env.scope scope own) (s : Shared) (H : Hp) (Ca : Addr) (cl : List (Str × Addr)) (fp : List Addr) :
    CtxOk G (X.blk s H scope (compEnvC scope cl Ca X.env) fp) noX (c.blk scope) k :=
  { K := C.K, N := C.N, nd := C.nd, nm := by show relS scope X.env.scope = relS scope c.sc; rw [C.nm], kind := b.kind, fn := fun x h => h, calm := C.calm, gcon := C.gcon, gfn := C.gfn, gblt := C.gblt, gtab := C.gtab, defs := C.defs, room := C.room, tk := takes0 }
structure LcOk (G : Gb) (X : Cx) (W : WX) (tg iter elt : Expr) (ifs : List Expr) (scope : Scope) (own : List (Str × Nat)) (gi : SemI) (t : Tg) (cnd : SemT) (ge : SemE) : Prop where
  hi : DI G X W tg iter gi
  ok : BlkOk X.N X.env.scope scope own
  hg : ∀ (s : Shared) (H : Hp) (C : Addr) (cl : List (Str × Addr)) (fp : List Addr), TgAt (X.blk s H scope (compEnvC scope cl C X.env) fp) tg t
  ht : ∀ (s : Shared) (H : Hp) (C : Addr) (cl : List (Str × Addr)) (fp : List Addr), PTs (X.blk s H scope (compEnvC scope cl C X.env) fp) ifs (rdT G noX cnd)
  he : ∀ (s : Shared) (H : Hp) (C : Addr) (cl : List (Str × Addr)) (fp : List Addr), DE G (X.blk s H scope (compEnvC scope cl C X.env) fp) noX elt ge
  hsl : ∀ i ∈ t.slots, i ∈ own.map (·.2)
  hs : ∀ x, foldedSetIterable iter X.env x = pure x
theorem s_lc {n : Nat} (C : CtxOk G X W c k) (hf : ∀ e g, fe e = some g → DE G X W e g)
    (hf' : ∀ (X' : Cx) (W' : WX), CtxOk G X' W' (c.blk scope) k → ∀ e g, fe' e = some g → DE G X' W' e g) (ht' : ∀ (X' : Cx) (W' : WX), CtxOk G X' W' (c.blk scope) k → ∀ e g, ft' e = some g → DT G X' W' e g)
    {elt : Expr} {gens : List Comprehension} {g : SemE} (h : lcE c n fe fe' ft' elt gens scope = some g) :
    ∃ tg iter ifs own gi t cnd ge, gens = [⟨tg, iter, ifs, 0⟩] ∧ g = gLc gi t cnd ge (own.map (·.2)) ∧ LcOk G X W tg iter elt ifs scope own gi t cnd ge := by
  unfold lcE at h
  split at h
  · rename_i tg iter ifs a
    split at h
    · rename_i ha
      subst ha
      split at h
      · rename_i hc
        rw [Bool.and_eq_true] at hc
        split at h
        · rename_i t gi ge cnd e1 e2 e3 e4
          split at h
          · rename_i hsl
            cases h
            have ok : BlkOk X.N X.env.scope scope (ownOf c.N scope.names) := by rw [C.nm, C.N]; exact blkOk_by hc.1
            refine ⟨tg, iter, ifs, ownOf c.N scope.names, gi, t, cnd, ge, rfl, rfl, s_it C hf e2, ok, fun s H Ca cl fp => s_tg (C.blk ok s H Ca cl fp) e1, fun s H Ca cl fp => ?_, fun s H Ca cl fp => hf' _ _ (C.blk ok s H Ca cl fp) elt ge e3, ?_, folded_no hc.2 X.env⟩
            · split at e4
              · cases e4
                refine ⟨fun pins s σ H Q I hw => pts_nil.run pins s σ H Q I ?_⟩
                obtain ⟨env, μ, st, he, hst, hw⟩ := hw
                exact hw true H μ (Go.refl _ _) hst rfl
              · exact pts_one (ht' _ _ (C.blk ok s H Ca cl fp) _ cnd e4)
              · cases e4
            · intro i hi
              have := List.all_eq_true.mp hsl i hi
              exact of_decide_eq_true this
          · cases h
        · cases h
      · cases h
    · cases h
  · cases h
end
/-! ### all expressions -/
mutual
def cE : Nat → Cc → Expr → Option SemE
  | 0, _, _ => none
  | n + 1, c, e =>
    match e with
    | .Name x _ => cName c x
    | .Constant K _ _ => cCon K
    | .BinOp a op b _ =>
      match binP op, cE n c a, cE n c b with
      | some p, some ga, some gb => some (gOp p (gCons ga (gCons gb gNil)))
      | _, _, _ => none
    | .UnaryOp .USub a _ => (cE n c a).map fun g => gOp pNeg (gCons g gNil)
    | .UnaryOp .Not a _ => (cE n c a).map gNot
    | .BoolOp op es _ => boolE (fun e => cE n c e) op es
    | .Compare a ops bs _ => cmpE c (fun e => cE n c e) a ops bs
    | .IfExp t a b _ =>
      match cT n c t, cE n c a, cE n c b with
      | some gt, some ga, some gb => some (gIf gt ga gb)
      | _, _, _ => none
    | .Tuple es _ _ => (listE (fun e => cE n c e) es).map gTup
    | .List es _ => (listE (fun e => cE n c e) es).map gLst
    | .Subscript a i _ => subE (fun e => cE n c e) a i
    | .Call f es [] pos => callE c (fun e => cE n c e) f es pos
    | .ListComp elt gens scope _ => lcE c n (fun e => cE n c e) (fun e => cE n (c.blk scope) e) (fun e => cT n (c.blk scope) e) elt gens scope
    | _ => none
def cT : Nat → Cc → Expr → Option SemT
  | 0, _, _ => none
  | n + 1, c, e =>
    match e with
    | .BoolOp op es _ => boolT (fun e => cT n c e) op es
    | .UnaryOp .Not a _ => (cT n c a).map tNot
    | .Compare a ops bs _ => (cmpE c (fun e => cE n c e) a ops bs).map tVal
    | _ => if plainTest e then (cE n c e).map tVal else none
end
theorem s_all {G : Gb} {k : Nat} : ∀ (n : Nat) (c : Cc), (∀ (X : Cx) (W : WX), CtxOk G X W c k → ∀ e g, cE n c e = some g → DE G X W e g) ∧ (∀ (X : Cx) (W : WX), CtxOk G X W c k → ∀ e g, cT n c e = some g → DT G X W e g)
  | 0, _ => ⟨fun _ _ _ _ _ h => (nomatch h), fun _ _ _ _ _ h => (nomatch h)⟩
  | n + 1, c => by
    have ih := fun c => s_all (G := G) (k := k) n c
    refine ⟨fun X W C e g h => ?_, fun X W C e g h => ?_⟩
    · have hE := (ih c).1 X W C
      have hT := (ih c).2 X W C
      unfold cE at h
      split at h
      · exact s_name C h
      · exact s_con h
      · split at h
        · rename_i p ga gb e1 e2 e3
          cases h
          exact de_bin (binP_ok C e1) (hE _ _ e2) (hE _ _ e3)
        · cases h
      · obtain ⟨g', e1, rfl⟩ := Option.map_eq_some_iff.mp h
        exact de_neg C.K (hE _ _ e1)
      · obtain ⟨g', e1, rfl⟩ := Option.map_eq_some_iff.mp h
        exact de_not (hE _ _ e1)
      · exact s_boolE hE h
      · exact s_cmp C hE h
      · split at h
        · rename_i gt ga gb e1 e2 e3
          cases h
          exact de_if (hT _ _ e1) (hE _ _ e2) (hE _ _ e3)
        · cases h
      · obtain ⟨g', e1, rfl⟩ := Option.map_eq_some_iff.mp h
        exact de_tup (s_list hE e1).1
      · obtain ⟨g', e1, rfl⟩ := Option.map_eq_some_iff.mp h
        exact de_lst (s_list hE e1).1
      · exact s_sub C hE h
      · exact s_call C hE h
      · obtain ⟨tg, iter, ifs, own, gi, t, cnd, ge, rfl, rfl, L⟩ := s_lc C hE (fun X' W' C' => (ih _).1 X' W' C') (fun X' W' C' => (ih _).2 X' W' C') h
        exact de_lc C.K C.calm C.nd L.hi L.ok L.hg L.ht L.he L.hsl L.hs
      · cases h
    · have hE := (ih c).1 X W C
      have hT := (ih c).2 X W C
      unfold cT at h
      split at h
      · exact dt_w (s_boolT hT h)
      · obtain ⟨g', e1, rfl⟩ := Option.map_eq_some_iff.mp h
        exact dt_not (hT _ _ e1)
      · obtain ⟨g', e1, rfl⟩ := Option.map_eq_some_iff.mp h
        exact s_cmpT C hE e1
      · split at h
        · rename_i hp
          obtain ⟨g', e1, rfl⟩ := Option.map_eq_some_iff.mp h
          exact dt_val C.K (hE _ _ e1) (test_plain hp X.env)
        · cases h
end PD
end

section
set_option Elab.async false
set_option linter.all false
set_option maxRecDepth 100000
set_option maxHeartbeats 1000000
/-! PD20: from the text to its meaning: statements. -/
namespace PD
open PySem PySem.Spec PyProof.Rows L2

/-- what is known of the error classes: class cn has the field f, or none -/
structure ClsOk (G : Gb) (prog : Program) (K : Fr) (cls : List (Option Str)) : Prop where
  lt : ∀ cn A, G.xa cn = some A → cn < cls.length
  kp : ∀ cn A, G.xa cn = some A → PySem.W.keepIn K (.ref A) = true ∧ PySem.W.subIn K (.ref A) (.type "BaseException") = some true ∧ PySem.W.typeIn K (.ref A) = some (.type "type")
  no : ∀ cn A, G.xa cn = some A → cls[cn]? = some none → PySem.W.excIn K A exTl "Exception.__new__" = true
  exc : ∀ cn A, G.xa cn = some A → ExcC K A
  arg : ∀ cn A f, G.xa cn = some A → cls[cn]? = some (some f) → G.xf cn = f ∧ XfC K A ∧ PySem.W.findIn K (.ref A) f = some none ∧ ∃ fI px, SupC prog K A fI f px
structure CsOk (G : Gb) (X : Cx) (W : WX) (c : Cc) (k : Nat) : Prop extends CtxOk G X W c k where
  pass : PassesOwn (model X.prog X.w) X.A X.env X.xe
  stk : X.stack = X.env :: X.outer
  frm : X.env.frame = some X.env.locals
  gcls : ∀ x cn, c.gl x = some (.cls cn) → ∃ A, X.mg x = some (.ref A) ∧ G.xa cn = some A
  cok : ClsOk G X.prog X.K c.cls
  tab : SubOk G c.sub
theorem CsOk.tr {G : Gb} {X : Cx} {W W' : WX} {c : Cc} {k : Nat} (C : CsOk G X W c k) {pn : List (Addr × Obj)} {xe : Value → Shared → Prop} (tk : Takes (X.tr pn xe) W') (ps : PassesOwn (model X.prog X.w) X.A X.env xe) : CsOk G (X.tr pn xe) W' c k :=
  { K := C.K, N := C.N, nd := C.nd, nm := C.nm, kind := C.kind, fn := C.fn, calm := C.calm, gcon := C.gcon, gfn := C.gfn, gblt := C.gblt, gtab := C.gtab, defs := C.defs, room := C.room, tk := tk, pass := ps, stk := C.stk, frm := C.frm, gcls := C.gcls, cok := C.cok, tab := C.tab }

/-! ### except clauses -/
def heL (f : Expr → Option HE) : List Expr → Option (List HE)
  | [] => some []
  | e :: es =>
    if notStar e && decide (es.length < 1000) then
      match f e, heL f es with
      | some h, some hs => some (h :: hs)
      | _, _ => none
    else none
def heE (c : Cc) (i : Nat) (n f : Str) : Nat → Expr → Option HE
  | 0, _ => none
  | m + 1, e =>
    match e with
    | .Constant (.str x) _ _ => if goodS x.cps.toList then some (.con (.str x.cps.toList)) else none
    | .Constant (.int x) _ _ => some (.con (.int x))
    | .Constant (.bool x) _ _ => some (.con (.bl x))
    | .Constant .none _ _ => some (.con .non)
    | .Attribute (.Name y _) g _ => if y = n ∧ g = f ∧ ixName c n = some i ∧ hidden n = false then some .arg else none
    | .Tuple es _ _ => (heL (heE c i n f m) es).map .tup
    | _ => none
section
variable {G : Gb} {X : Cx} {W : WX} {c : Cc} {k : Nat}
theorem s_heL {i : Nat} {n f : Str} {h : Expr → Option HE} (hf : ∀ e t, h e = some t → HEAt X i n f e t) : ∀ {es : List Expr} {hs : List HE}, heL h es = some hs → HEsAt X i n f es hs
  | [], _, q => by cases q; exact .nil
  | e :: es, _, q => by
    unfold heL at q
    split at q
    · rename_i hc
      rw [Bool.and_eq_true] at hc
      split at q
      · rename_i t ts e1 e2
        cases q
        exact .cons (hf e t e1) (s_heL hf e2) (starEach_cons es X.env hc.1) (of_decide_eq_true hc.2)
      · cases q
    · cases q
theorem s_he (C : CtxOk G X W c k) {i : Nat} {n f : Str} : ∀ {m : Nat} {e : Expr} {h : HE}, heE c i n f m e = some h → HEAt X i n f e h
  | 0, _, _, q => nomatch q
  | m + 1, e, h, q => by
    unfold heE at q
    split at q
    · split at q
      · rename_i hs; cases q; exact .str hs
      · cases q
    · cases q; exact .int
    · cases q; exact .bl
    · cases q; exact .non
    · split at q
      · rename_i hc
        obtain ⟨rfl, rfl, h3, h4⟩ := hc
        cases q
        obtain ⟨v1, v2⟩ := ixName_vis C h3
        obtain ⟨d1, d2, d3⟩ := hid (x := _) (by rw [h4]; exact Bool.false_ne_true)
        exact .arg v1 v2 d1 d2 (base_plain rfl _ _)
      · cases q
    · obtain ⟨hs, e1, rfl⟩ := Option.map_eq_some_iff.mp q
      exact .tup (s_heL (fun e t he => s_he C he) e1)
    · cases q
end
def hdE (c : Cc) (n : Nat) (h : ExceptHandler) : Option Hd :=
  match h with
  | .ExceptHandler (some (.Name x _)) nm [.Return (some e) _] _ =>
    if isGl c x && !hidden x then
      match c.gl x with
      | some (.cls cn) =>
        match nm with
        | none => (heE c c.N.length "" "" n e).map fun r => ⟨cn, r⟩
        | some y =>
          match c.sc.names.lookup y, ixOf y c.N 0, c.cls[cn]? with
          | some .local, some i, some (some f) => if (List.range c.cls.length).all (fun c' => !c.sub c' cn || decide (c.cls[c']? = some (some f))) then (heE c i y f n e).map fun r => ⟨cn, r⟩ else none
          | _, _, _ => none
      | _ => none
    else none
  | _ => none
def hdsE (c : Cc) (n : Nat) : List ExceptHandler → Option (List Hd)
  | [] => some []
  | h :: hs =>
    match hdE c n h, hdsE c n hs with
    | some d, some ds => some (d :: ds)
    | _, _ => none
section
variable {G : Gb} {X : Cx} {W : WX} {c : Cc} {k : Nat}
theorem s_hd (C : CsOk G X W c k) {n : Nat} {h : ExceptHandler} {hd : Hd} (q : hdE c n h = some hd) : ∃ z, HdAt G X c.sub h hd z := by
  unfold hdE at q
  split at q
  · rename_i x np nm e rp pp
    split at q
    · rename_i hc
      rw [Bool.and_eq_true, Bool.not_eq_true'] at hc
      obtain ⟨d1, d2, d3⟩ := hid (x := x) (by rw [hc.2]; exact Bool.false_ne_true)
      split at q
      · rename_i cn ec
        obtain ⟨A, m1, m2⟩ := C.gcls x cn ec
        have nm' : Names X x (.ref A) := ⟨isGl_gl C.toCtxOk hc.1, d1, .inl m1⟩
        split at q
        · obtain ⟨r, e1, rfl⟩ := Option.map_eq_some_iff.mp q
          have e2 := s_he C.toCtxOk e1
          rw [← C.N] at e2
          exact ⟨_, .plain nm' m2 e2⟩
        · rename_i y
          split at q
          · rename_i i f l1 l2 l3
            split at q
            · rename_i hall
              obtain ⟨r, e1, rfl⟩ := Option.map_eq_some_iff.mp q
              refine ⟨_, .named nm' m2 (s_he C.toCtxOk e1) (by rw [C.N]; exact ixOf_at l2) (by show X.env.scope.names.lookup y = _; rw [C.nm]; exact l1) fun c' A' hs hA => ?_⟩
              have hlt := C.cok.lt c' A' hA
              have := List.all_eq_true.mp hall c' (List.mem_range.mpr hlt)
              have hs' : c.sub c' cn = true := hs
              rw [hs', Bool.not_true, Bool.false_or] at this
              obtain ⟨a1, a2, a3, _⟩ := C.cok.arg c' A' f hA (of_decide_eq_true this)
              exact ⟨a1, by rw [C.K]; exact a2, by rw [C.K]; exact a3⟩
            · cases q
          · cases q
      · cases q
    · cases q
  · cases q
theorem s_hds (C : CsOk G X W c k) {n : Nat} : ∀ {hs : List ExceptHandler} {hds : List Hd}, hdsE c n hs = some hds → ∃ l, HdsAt G X c.sub hs hds l
  | [], _, q => by cases q; exact ⟨[], .nil⟩
  | h :: hs, _, q => by
    unfold hdsE at q
    split at q
    · rename_i d ds e1 e2
      cases q
      obtain ⟨z, hz⟩ := s_hd C e1
      obtain ⟨l, hl⟩ := s_hds C e2
      exact ⟨_, .cons hz hl⟩
    · cases q
end

/-! ### assignments -/
theorem sw_is {elt : Expr} {gs : List Comprehension} {scope : Scope} {pos py : Pos} {y : Str} {l : Nat} {env : PySem.Env} (hk : env.scope.kind = .function) :
    swapsWith (.ListComp elt gs scope pos) (some (.Name y py)) l env = pure ((env.scope.names.lookup y == some .local) && (py.line == pos.line) && !(scope.names.any fun (n, k) => n == y && (k == .local || k == .cell))) := by
  have hb : env.blockKind = .function := by unfold Env.blockKind; rw [hk]; rfl
  unfold swapsWith
  simp only [hb, Expr.pos, Env.kindOf]
  rfl
def namesE (c : Cc) : List Expr → Option (List Nat)
  | [] => some []
  | .Name x _ :: es =>
    match locIx c x, namesE c es with
    | some i, some is => some (i :: is)
    | _, _ => none
  | _ => none
theorem s_names {G : Gb} {X : Cx} {W : WX} {c : Cc} {k : Nat} (C : CtxOk G X W c k) : ∀ {es : List Expr} {is : List Nat}, namesE c es = some is → NamesAt X es is
  | [], _, h => by cases h; exact .nil
  | e :: es, _, h => by
    unfold namesE at h
    split at h
    · rename_i q; cases q
    · rename_i x p es' q
      cases q
      split at h
      · rename_i i is e1 e2
        cases h
        obtain ⟨h1, h2, h3⟩ := locIx_ok C e1
        exact .cons h1 h2 h3 (s_names C e2)
      · cases h
    · cases h
/-- name = value -/
def setE (c : Cc) (n : Nat) (fe : Expr → Option SemE) (x : Str) (px : Pos) (v : Expr) : Option SemS :=
  match locIx c x with
  | none => none
  | some i =>
    match v with
    | .ListComp elt gens scope pos => (fe v).map (sSet i)
    | v => if noComp v then (fe v).map (sSet i) else none
def asgE (c : Cc) (n : Nat) (fe : Expr → Option SemE) (t v : Expr) : Option SemS :=
  match t with
  | .Name x px => setE c n fe x px v
  | .Tuple ts _ _ => if notTup v && noComp v then
      match namesE c ts, fe v with
      | some is, some g => some (sUnpack is g)
      | _, _ => none
    else none
  | .Subscript o i _ => if notSlice i && noComp v then
      match fe o, fe i, fe v with
      | some go, some gi, some gv => some (sSetIx go gi gv)
      | _, _, _ => none
    else none
  | _ => none
def exprE (c : Cc) (fe : Expr → Option SemE) (e : Expr) : Option SemS :=
  match e with
  | .Constant (.str _) _ _ => some sNext
  | .Call (.Attribute o m ap) [v] [] cp =>
    if m = "append" then
      if plainBase o && (notStar v && (ap.endLine == cp.line)) then
        match fe o, fe v with
        | some go, some gv => some (sAppend go gv)
        | _, _ => none
      else none
    else (fe e).map sExpr
  | e => if noComp e then (fe e).map sExpr else none
def augP : Operator → Option Prim
  | .Add => some pIAdd
  | .Sub => some pSub
  | _ => none
def raiseE (c : Cc) (fe : Expr → Option SemE) (x : Str) (es : List Expr) : Option SemS :=
  if isGl c x && !hidden x then
    match c.gl x with
    | some (.cls cn) =>
      match es, c.cls[cn]? with
      | [], some none => some (sRaise0 cn)
      | [e], some (some _) => if notStar e then (fe e).map (sRaise1 cn) else none
      | _, _ => none
    | _ => none
  else none
/-- what is not served: nothing is promised of it -/
def sBad : SemS := fun _ _ => .bad
def seqE (f : Stmt → Option SemS) : List Stmt → Option SemS
  | [] => some sNext
  | [s] =>
    match f s with
    | some a => some a
    | none => some sBad
  | s :: r =>
    match seqE f r with
    | some b =>
      match f s with
      | some a => some (sSeq a b)
      | none => some (sSeq sBad b)
    | none => none
def cS : Nat → Cc → Stmt → Option SemS
  | 0, _, _ => none
  | n + 1, c, s =>
    match s with
    | .Pass _ => some sNext
    | .Break _ => some sBreak
    | .Continue _ => some sCont
    | .Return none _ => some sRetN
    | .Return (some e) _ => (cE n c e).map sRet
    | .Expr e _ => exprE c (cE n c) e
    | .Assign [t] v _ => asgE c n (cE n c) t v
    | .AugAssign (.Name x _) op e _ =>
      match locIx c x, augP op, cE n c e with
      | some i, some p, some g => some (sAug i p g)
      | _, _, _ => none
    | .If t as bs _ =>
      match cT n c t, seqE (cS n c) as, seqE (cS n c) bs with
      | some gt, some f, some g => some (sIf gt f g)
      | _, _, _ => none
    | .For tg it body [] _ =>
      if notSet it then
        match cTg c n tg, itE c (cE n c) tg it, seqE (cS n c) body with
        | some t, some gi, some f => some (sFor gi t f)
        | _, _, _ => none
      else none
    | .While t body [] _ =>
      match cT n c t, seqE (cS n c) body with
      | some gt, some f => some (sWhile gt f)
      | _, _ => none
    | .Raise (some (.Call (.Name x _) es [] _)) none _ => raiseE c (cE n c) x es
    | .Try body (h :: hs) [] [] _ =>
      match seqE (cS n c) body, hdsE c n (h :: hs) with
      | some f, some hds => some (sTry c.sub f hds)
      | _, _ => none
    | _ => none
section
variable {G : Gb} {X : Cx} {W : WX} {c : Cc} {k : Nat} {fe : Expr → Option SemE}
theorem ds_bad {s : Stmt} : DS G X W s sBad := ⟨fun pins sh σ H D I ⟨_, _, _, _, _, q⟩ => q.elim⟩
theorem s_seq {f : Stmt → Option SemS} (hf : ∀ s g, f s = some g → DS G X W s g) : ∀ {ss : List Stmt} {g : SemS}, seqE f ss = some g → DSs G X W ss g
  | [], _, h => by cases h; exact dss_nil
  | [s], g, h => by
    unfold seqE at h
    split at h
    · rename_i a e; cases h; exact PSs.weak (pss_one (hf s _ e)) fun _ _ _ q => q
    · cases h; exact PSs.weak (pss_one ds_bad) fun _ _ _ q => q
  | s :: s2 :: r, g, h => by
    unfold seqE at h
    split at h
    · rename_i b e2
      split at h
      · rename_i a e1
        cases h
        exact dss_cons (hf s a e1) (s_seq hf e2)
      · cases h
        exact dss_cons ds_bad (s_seq hf e2)
    · cases h
theorem s_set (C : CsOk G X W c k) {n : Nat} {x : Str} {px pos : Pos} {v : Expr} {g : SemS} (h : setE c (n + 1) (cE (n + 1) c) x px v = some g) : DS G X W (.Assign [.Name x px] v pos) g := by
  have hE := (s_all (G := G) (k := k) (n + 1) c).1 X W C.toCtxOk
  unfold setE at h
  split at h
  · cases h
  · rename_i i hi
    obtain ⟨h1, h2, h3⟩ := locIx_ok C.toCtxOk hi
    split at h
    · rename_i elt gens scope lp
      obtain ⟨g', e1, rfl⟩ := Option.map_eq_some_iff.mp h
      have hk : X.env.scope.kind = .function := by rw [C.nm]; exact C.kind
      cases hb : ((X.env.scope.names.lookup x == some .local) && (px.line == lp.line) && !(scope.names.any fun (n, k) => n == x && (k == .local || k == .cell))) with
      | false => exact ds_set C.nd h1 h2 (hE _ _ e1) (by rw [sw_is hk, hb]) h3
      | true =>
        have hsw := sw_is (elt := elt) (gs := gens) (scope := scope) (pos := lp) (py := px) (y := x) (l := pos.line) hk
        rw [hb] at hsw
        simp only [Bool.and_eq_true, beq_iff_eq] at hb
        have e2 : lcE c n (fun e => cE n c e) (fun e => cE n (c.blk scope) e) (fun e => cT n (c.blk scope) e) elt gens scope = some g' := by
          have := e1
          unfold cE at this
          exact this
        obtain ⟨tg, iter, ifs, own, gi, t, cnd, ge, rfl, rfl, L⟩ := s_lc C.toCtxOk (fun e g => (s_all (G := G) (k := k) n c).1 X W C.toCtxOk e g) (fun X' W' C' => (s_all (G := G) (k := k) n _).1 X' W' C') (fun X' W' C' => (s_all (G := G) (k := k) n _).2 X' W' C') e2
        exact ds_setLc C.K C.calm C.nd h1 hb.1.1 hsw L.hi L.ok L.hg L.ht L.he L.hsl L.hs
    · split at h
      · rename_i hn
        obtain ⟨g', e1, rfl⟩ := Option.map_eq_some_iff.mp h
        exact ds_set C.nd h1 h2 (hE _ _ e1) (swaps_no hn _ _ _) h3
      · cases h
theorem s_asg (C : CsOk G X W c k) {n : Nat} {t v : Expr} {pos : Pos} {g : SemS} (h : asgE c (n + 1) (cE (n + 1) c) t v = some g) : DS G X W (.Assign [t] v pos) g := by
  have hE := (s_all (G := G) (k := k) (n + 1) c).1 X W C.toCtxOk
  unfold asgE at h
  split at h
  · exact s_set C h
  · rename_i ts kk tp
    split at h
    · rename_i hc
      rw [Bool.and_eq_true] at hc
      split at h
      · rename_i is g' e1 e2
        cases h
        exact ds_unpack C.K C.calm C.nd (s_names C.toCtxOk e1) (hE _ _ e2) (show swapsWithSole _ _ _ _ = _ from swaps_no hc.2 (some (.Tuple ts kk tp)) pos.line X.env) (stores_no hc.1 _ _)
      · cases h
    · cases h
  · rename_i o i tp
    split at h
    · rename_i hc
      rw [Bool.and_eq_true] at hc
      split at h
      · rename_i go gi gv e1 e2 e3
        cases h
        exact ds_setIx C.K (hE _ _ e3) (hE _ _ e1) (hE _ _ e2) (asg_plain hc.1) (show swapsWithSole _ _ _ _ = _ from swaps_no hc.2 (some (.Subscript o i tp)) pos.line X.env) (stores_sub _ _)
      · cases h
    · cases h
  · cases h
theorem s_expr (C : CsOk G X W c k) (hE : ∀ e g, fe e = some g → DE G X W e g) {e : Expr} {pos : Pos} {g : SemS} (h : exprE c fe e = some g) : DS G X W (.Expr e pos) g := by
  unfold exprE at h
  split at h
  · cases h; exact ds_doc
  · rename_i o m ap v cp
    split at h
    · rename_i em
      subst em
      split at h
      · rename_i hc
        rw [Bool.and_eq_true, Bool.and_eq_true] at hc
        obtain ⟨c1, c2, c3⟩ := hc
        split at h
        · rename_i go gv e1 e2
          cases h
          exact ds_append C.K (hE _ _ e1) (hE _ _ e2) (star_one X.env c2) (base_plain c1 _ _) (star_few c2) c3 (swaps_no rfl _ _ _)
        · cases h
      · cases h
    · obtain ⟨g', e1, rfl⟩ := Option.map_eq_some_iff.mp h
      exact ds_expr (hE _ _ e1) (swaps_no rfl _ _ _)
  · split at h
    · rename_i hn
      obtain ⟨g', e1, rfl⟩ := Option.map_eq_some_iff.mp h
      exact ds_expr (hE _ _ e1) (swaps_no hn _ _ _)
    · cases h
theorem s_raise (C : CsOk G X W c k) (hE : ∀ e g, fe e = some g → DE G X W e g) {x : Str} {es : List Expr} {p pos pos' : Pos} {g : SemS} (h : raiseE c fe x es = some g) : DS G X W (.Raise (some (.Call (.Name x p) es [] pos)) none pos') g := by
  unfold raiseE at h
  split at h
  · rename_i hc
    rw [Bool.and_eq_true, Bool.not_eq_true'] at hc
    obtain ⟨d1, d2, d3⟩ := hid (x := x) (by rw [hc.2]; exact Bool.false_ne_true)
    split at h
    · rename_i cn ec
      obtain ⟨A, m1, m2⟩ := C.gcls x cn ec
      obtain ⟨k1, k2, k3⟩ := C.cok.kp cn A m2
      split at h
      · rename_i e2
        cases h
        exact ds_raise0 C.K C.calm C.tk m2 (C.cok.no cn A m2 e2) m1 k1 k2 k3 (isGl_gl C.toCtxOk hc.1) d1
      · rename_i e f e2
        split at h
        · rename_i hn
          obtain ⟨g', e1, rfl⟩ := Option.map_eq_some_iff.mp h
          obtain ⟨a1, a2, a3, fI, px, S⟩ := C.cok.arg cn A _ m2 e2
          exact ds_raise1 C.K C.calm C.tk m2 a1 S C.room m1 (isGl_gl C.toCtxOk hc.1) (hE _ _ e1) (star_one X.env hn) d1
        · cases h
      · cases h
    · cases h
  · cases h
end
theorem s_stmt {G : Gb} {k : Nat} : ∀ (n : Nat) (c : Cc) (X : Cx) (W : WX), CsOk G X W c k → ∀ s g, cS n c s = some g → DS G X W s g
  | 0, _, _, _, _, _, _, h => nomatch h
  | n + 1, c, X, W, C, s, g, h => by
    have hE := (s_all (G := G) (k := k) n c).1 X W C.toCtxOk
    have hT := (s_all (G := G) (k := k) n c).2 X W C.toCtxOk
    have hS := s_stmt (G := G) (k := k) n c X W C
    unfold cS at h
    split at h
    · cases h; exact ds_pass
    · cases h; exact ds_break
    · cases h; exact ds_cont
    · cases h; exact ds_retN
    · obtain ⟨g', e1, rfl⟩ := Option.map_eq_some_iff.mp h
      exact ds_ret (hE _ _ e1)
    · exact s_expr C hE h
    · cases n with
      | zero =>
        exfalso
        unfold asgE at h
        split at h
        · unfold setE at h
          split at h
          · cases h
          · split at h <;> first | (cases h; done) | (split at h <;> cases h)
        · split at h
          · split at h
            · rename_i e2; cases e2
            · cases h
          · cases h
        · split at h
          · split at h
            · rename_i e2 _ _; cases e2
            · cases h
          · cases h
        · cases h
      | succ n => exact s_asg C h
    · split at h
      · rename_i i p g' e1 e2 e3
        cases h
        obtain ⟨h1, h2, h3⟩ := locIx_ok C.toCtxOk e1
        refine ds_aug C.nd h1 h2 (hE _ _ e3) ?_ h3
        rw [C.K]
        unfold augP at e2
        split at e2 <;> cases e2
        · exact iop_pAdd
        · exact iop_pSub
      · cases h
    · split at h
      · rename_i gt f g' e1 e2 e3
        cases h
        exact ds_if (hT _ _ e1) (s_seq hS e2) (s_seq hS e3)
      · cases h
    · split at h
      · rename_i hn
        split at h
        · rename_i t gi f e1 e2 e3
          cases h
          exact ds_for C.K C.pass C.calm C.nd (s_tg C.toCtxOk e1) (s_it C.toCtxOk hE e2) (s_seq hS e3) (folded_no hn X.env)
        · cases h
      · cases h
    · split at h
      · rename_i gt f e1 e2
        cases h
        exact ds_while C.pass (hT _ _ e1) (s_seq hS e2)
      · cases h
    · exact s_raise C hE h
    · split at h
      · rename_i f hds e1 e2
        cases h
        obtain ⟨l, hl⟩ := s_hds C e2
        exact ds_try C.K C.tab C.stk C.frm C.nd C.tk (fun W' pn xe tk ps => s_seq (s_stmt (G := G) (k := k) n c _ W' (C.tr tk ps)) e1) hl
      · cases h
    · cases h
end PD
end

section
set_option Elab.async false
set_option linter.all false
set_option maxRecDepth 100000
set_option maxHeartbeats 1000000
/-! PH0: errors as values: made, asked for their class, their fields read. -/
namespace PD
open PySem PySem.Spec PyProof.Rows L2

/-- an error object at a, of the class cls, its fields at dx -/
def ExV (cls : Value) (dx : Option Addr) (a : Addr) : HO := .ext fun h => ∃ (oe : Obj) (vs : Array Value), h.get? a = some oe ∧ Zc cls dx oe ∧ oe.data = .fields vs
theorem exV_ok {P : Program} {w : World} {H : Hp} {h : Heap} {a : Addr} {cls : Value} {dx : Option Addr} {oe : Obj} {vs : Array Value} (e : h.get? a = some oe) (z : Zc cls dx oe) (d : oe.data = .fields vs) : ObjOk P w H h a (ExV cls dx a) :=
  ⟨⟨oe, vs, e, z, d⟩, ⟨oe, e⟩, fun _ _ ⟨o, v, q, r⟩ k => ⟨o, v, k o q, r⟩⟩
section
variable {X : Cx} {C fI : Addr} {f px x : Str} {e : Expr} {te : TE} {p pos : Pos} {k : Nat}
theorem pe_err0 (q : PySem.W.excIn X.K C exTl "Exception.__new__" = true) (gC : X.mg x = some (.ref C)) (kC : PySem.W.keepIn X.K (.ref C) = true) (hg : Gl X x) (hdb : (x == ("__debug__" : Str)) = false) :
    PE X (.Call (.Name x p) [] [] pos) (fun σ H Q => ∀ a, H a = none → Q (.ref a) (upd H a (ExV (.ref C) none a))) := by
  refine ⟨fun pins s σ H Q I h => ?_⟩
  refine wpAny_Call_Name_kw (ld_glob I hg gC ?_ hdb)
  refine PySem.W.callWith_K0 I.kIn kC ?_
  show wpAny _ _ (call (.ref C) []) _ _ _
  obtain ⟨bm, N, nm, qn, bs, hdct, sn, sub, ab, col, dd, k0, k1, k2, k3, k5, mN, hC, hN, hni, T⟩ := exc_obj I.kIn q
  refine wpAny_call_exc_subT F.excBase_Exception T hC hN hni (fun h' a hm => ?_) (by show 0 ≤ sizeLine; exact Nat.zero_le _)
  have hn : H a = none := I.hok.gone hm.new
  obtain ⟨t, ht, _, _⟩ := hm.there
  exact ⟨.ref a, upd H a (ExV (.ref C) none a), I.laidN hm.keeps hm.new hn (exV_ok ht ⟨rfl, rfl⟩ rfl), rfl, h a hn⟩
theorem pe_err1 (S : SupC X.prog X.K C fI f px) (hr : Room (k + 1) X.A) (gC : X.mg x = some (.ref C)) (hg : Gl X x) (he : PE X e te) (hs : starEach [e] X.env = [(false, eval e X.env)]) (hdb : (x == ("__debug__" : Str)) = false) :
    PE X (.Call (.Name x p) [e] [] pos) (fun σ H Q => te σ H fun v H1 => ∀ a d, a ≠ d → H1 a = none → H1 d = none → Q (.ref a) (upd (upd H1 d (.xd [(f, v)])) a (ExV (.ref C) (some d) a))) := by
  refine ⟨fun pins s σ H Q I h => ?_⟩
  refine wpAny_Call_Name_kw (ld_glob I hg gC ?_ hdb)
  refine PySem.W.callWith_K (h₀ := X.base) I.ok.mod.kin S.kC ?_ hs (by rfl)
  rw [hs]
  show wpAny _ _ (spliced ((false, eval e X.env) :: backTo pos [])) _ _ s
  refine Calls.spliced_cons (thn (he.run pins s σ H _ I h) fun u s1 ⟨v, H1, I1, r1, q1⟩ => ?_)
  refine Calls.spliced_nil ⟨I1.kIn, ?_⟩
  show wpAny _ _ (call (.ref C) [u]) _ _ _
  refine run_sup I1 S hr fun h4 tk4 ea dx t2 ha hd hne k4 he4 ns4 => ?_
  obtain ⟨Gh, g1, g2⟩ := restrict h4 fun b => decide (b ≠ ea)
  have gk : ∀ b, b ≠ ea → Gh.get? b = h4.get? b := fun b hb => g1 b (decide_eq_true hb)
  have ge : Gh.get? ea = none := g2 ea (by simp)
  have kG : ∀ b o, s1.heap.get? b = some o → Gh.get? b = some o := fun b o z => by
    rw [gk b (Nat.ne_of_lt (Nat.lt_of_lt_of_le (Heap.lt_size z) ha))]; exact k4 b o z
  have nsG : Gh.Ns1 dx (fun y => if y = f then some u else none) := by
    obtain ⟨o, es, ep, ho, hrr⟩ := ns4
    exact ⟨o, es, ep, (gk dx hne).trans ho, hrr⟩
  have new : ObjOk X.prog X.w (upd H1 dx (.xd [(f, v)])) Gh dx (.xd [(f, v)]) := by
    refine ⟨_, nsG, fun g => ?_⟩
    by_cases hgf : g = f
    · subst hgf
      have e1 : List.lookup g [(g, v)] = some v := by simp [List.lookup]
      rw [e1, if_pos rfl]; exact r1
    · have e1 : List.lookup g [(f, v)] = none := by
        have : (g == f) = false := by simpa using hgf
        simp [List.lookup, this]
      rw [e1, if_neg hgf]; trivial
  have J : Inv X pins σ (upd H1 dx (.xd [(f, v)])) { s1 with heap := Gh, toks := tk4 } := I1.laid (t' := tk4) kG hd new
  have hea : upd H1 dx (.xd [(f, v)]) ea = none := by rw [upd_ne (Ne.symm hne)]; exact I1.hok.fresh ha
  have J2 : Inv X pins σ (upd (upd H1 dx (.xd [(f, v)])) ea (ExV (.ref C) (some dx) ea)) { s1 with heap := h4, toks := tk4 } := by
    refine Inv.laidN (s := { s1 with heap := Gh, toks := tk4 }) (t' := tk4) J (fun b o z => ?_) ge hea (exV_ok he4 ⟨rfl, rfl⟩ rfl)
    have hb : b ≠ ea := fun q => by
      have z' : Gh.get? b = some o := z
      rw [q, ge] at z'; cases z'
    exact (gk b hb).symm.trans z
  exact ⟨.ref ea, _, J2, rfl, q1 ea dx (Ne.symm hne) (I1.hok.fresh ha) (I1.hok.fresh hd)⟩
end
/-! ### written data, anew -/
section
variable {G : Gb} {X : Cx} {K : Fr}
def tKon (K : Fr) (d : D) : TE := fun σ H Q => ∀ v H', Grow H H' → RepD K H' d v → Q v H'
def tKons (K : Fr) (ds : List D) : TA := fun σ H Q => ∀ vs H', Grow H H' → RepDs K H' ds vs → Q vs H'
/-- an error: its class, its argument -/
def ErrV (G : Gb) (H : Hp) (p : Nat × Option D) (v : V) : Prop := ∃ (a C : Addr) (dx : Option Addr), v = .ref a ∧ G.xa p.1 = some C ∧ H a = some (ExV (.ref C) dx a) ∧
  match p.2 with
  | none => dx = none
  | some d => ∃ dd x, dx = some dd ∧ H dd = some (.xd [(G.xf p.1, x)]) ∧ RepD G.K H d x
theorem ErrV.mono {H H' : Hp} (g : Grow H H') {p : Nat × Option D} {v : V} (h : ErrV G H p v) : ErrV G H' p v := by
  obtain ⟨a, C, dx, h1, h2, h3, h4⟩ := h
  refine ⟨a, C, dx, h1, h2, g _ _ h3, ?_⟩
  cases hp : p.2 with
  | none => rw [hp] at h4; exact h4
  | some d =>
    rw [hp] at h4
    obtain ⟨dd, x, e1, e2, e3⟩ := h4
    exact ⟨dd, x, e1, g _ _ e2, RepD.mono g.ext d x e3⟩
abbrev ErrVs (G : Gb) (H : Hp) : List (Nat × Option D) → List V → Prop := Paired (ErrV G H)
theorem ErrVs.mono {H H' : Hp} (g : Grow H H') {l : List (Nat × Option D)} {vs : List V} (h : ErrVs G H l vs) : ErrVs G H' l vs := Paired.mapP h fun p v q => q.mono g
def tErr (G : Gb) (p : Nat × Option D) : TE := fun σ H Q => ∀ v H', Grow H H' → ErrV G H' p v → Q v H'
def tErrs (G : Gb) (l : List (Nat × Option D)) : TA := fun σ H Q => ∀ vs H', Grow H H' → ErrVs G H' l vs → Q vs H'
end
/-! ### isinstance of errors -/
def rIsV (K : Fr) : List V → Hp → VK → Prop := fun xs H Q => ∃ (a C B : Addr) (dx : Option Addr) (b : Bool), xs = [.ref a, .ref B] ∧ H a = some (ExV (.ref C) dx a) ∧ (∀ d, dx = some d → ∃ fs, H d = some (.xd fs)) ∧ ExcC K C ∧ PySem.W.kitOne K (.ref C) (.ref B) = some b ∧ Q (.bl b) H
theorem inst_of {X : Cx} {pins : List (Addr × Obj)} {s : Shared} {σ : L2.St} {H : Hp} {a C : Addr} {dx : Option Addr} (I : Inv X pins σ H s) (ha : H a = some (ExV (.ref C) dx a)) (hd : ∀ d, dx = some d → ∃ fs, H d = some (.xd fs)) :
    ∃ ox od, PySem.W.InstAt s.heap a ox C od ∧ (dx = none → od = none) ∧ ∀ d, dx = some d → ∃ o, od = some o ∧ s.heap.get? d = some o := by
  obtain ⟨⟨oe, vs, hget, hz, hv⟩, _, _⟩ := (show ObjOk X.prog X.w H s.heap a (ExV (.ref C) dx a) from I.hok a _ ha)
  obtain ⟨oc, odx, oda, osl⟩ := oe
  obtain ⟨h1, h2⟩ := hz
  dsimp only at h1 h2 hv
  subst h1 h2 hv
  cases odx with
  | none => exact ⟨_, none, ⟨hget, rfl, rfl, trivial⟩, fun _ => rfl, fun d e => by cases e⟩
  | some d =>
    obtain ⟨fs, e⟩ := hd d rfl
    obtain ⟨mA, ⟨o, es, ep, ho, _⟩, _⟩ := (show ObjOk X.prog X.w H s.heap d (.xd fs) from I.hok d _ e)
    exact ⟨_, some o, ⟨hget, rfl, rfl, ho⟩, (fun e => nomatch e), fun d' e' => by cases e'; exact ⟨o, rfl, ho⟩⟩
theorem clsIn_dict {K : Fr} {C : Addr} (h : PySem.W.hasDictIn K C = true) : (PySem.W.clsIn K C).isSome = true := by
  obtain ⟨cd, hc, _⟩ := PySem.W.any_some h
  rw [hc]; rfl
theorem call_isV {X : Cx} : CallR X (.builtin "isinstance") (rIsV X.K) := by
  intro pins s σ H xs us Q I r h
  obtain ⟨a, C, B, dx, b, rfl, ha, hd, E, hk, q⟩ := h
  obtain ⟨u1, u2, rfl, r1, r2⟩ := vals2 r
  cases (show u1 = Value.ref a from r1)
  cases (show u2 = Value.ref B from r2)
  obtain ⟨ox, od, J, _⟩ := inst_of I ha hd
  exact PySem.W.kia_one (PySem.W.kitx_exc (clsIn_dict E.hd) E.hg E.hk E.hs E.ha E.hn E.ht E.hm) I.kIn J hk (fun z => nomatch z) fun tk => ⟨.bl b, H, I.tok tk, rfl, q⟩
theorem kit_exm {K : Fr} {A B : Addr} {b : Bool} (h : PySem.W.exmOne K (.ref A) (.ref B) = some b) (hb : b = true) : PySem.W.kitOne K (.ref A) (.ref B) = some true := by
  unfold PySem.W.exmOne at h
  unfold PySem.W.kitOne
  split
  · rfl
  · split at h
    · rw [h, hb]
    · cases h
/-! ### a field of an error -/
theorem pe_fld {X : Cx} {e : Expr} {te : TE} {pos : Pos} {f : Str} (hb : attributeBase e f X.env (eval e X.env) = eval e X.env) :
    PE X e te → PE X (.Attribute e f pos) (fun σ H Q => te σ H fun v H1 => ∃ (a C dd : Addr) (x : V), v = .ref a ∧ H1 a = some (ExV (.ref C) (some dd) a) ∧ H1 dd = some (.xd [(f, x)]) ∧ XfC X.K C ∧ PySem.W.findIn X.K (.ref C) f = some none ∧ Q x H1) := by
  intro he
  refine ⟨fun pins s σ H Q I h => ?_⟩
  refine attr_of hb (thn (he.run pins s σ H _ I h) fun u s1 hh => ?_)
  obtain ⟨v, H1, I1, rx, a, C, dd, x, ev, ea, ed, T, hno, q⟩ := hh
  subst ev
  obtain rfl : u = Value.ref a := rx
  obtain ⟨ox, od, J, _, jd⟩ := inst_of I1 ea fun d e => by cases e; exact ⟨_, ed⟩
  obtain ⟨o, rfl, hod⟩ := jd dd rfl
  have hx : ObjOk X.prog X.w H1 s1.heap dd (.xd [(f, x)]) := I1.hok dd _ ed
  obtain ⟨mA, hns, hr⟩ := hx
  obtain ⟨o', ho, hl⟩ := lookIn_ns hns
  rw [hod] at ho
  cases ho
  obtain ⟨w, hu, ru⟩ := RelO.some_of (v := x) (o := mA f) (by rw [← show List.lookup f [(f, x)] = some x by simp [List.lookup]]; exact hr f)
  exact HandSPX.exc_get I1.kIn J T.ga T.gg T.exC (PySem.W.findObj_own T.hdC hno rfl (by rw [hl, hu])) (handed_of ru) ⟨x, H1, I1.tok _, ru, q⟩
end PD
end

section
set_option Elab.async false
set_option linter.all false
set_option maxRecDepth 100000
set_option maxHeartbeats 1000000
/-! PG3: a list of errors as values, looked at once. -/
namespace PD
open PySem PySem.Spec PyProof.Rows L2

/-- the errors are made and looked at, and all is as it should: the name stands for something -/
def sErrs (i : Nat) : SemS := fun env st => .nx (env.set i none) st
/-- written data -/
def konL (f : Expr → Option D) : List Expr → Option (List D)
  | [] => some []
  | e :: es =>
    if notStar e then
      match f e, konL f es with
      | some d, some ds => some (d :: ds)
      | _, _ => none
    else none
def konE : Nat → Expr → Option D
  | 0, _ => none
  | n + 1, e =>
    match e with
    | .Constant (.str x) _ _ => if goodS x.cps.toList then some (.str x.cps.toList) else none
    | .Constant (.int x) _ _ => some (.int x)
    | .Tuple es _ _ => if es.length ≤ 100 then (konL (konE n) es).map .tup else none
    | _ => none
/-- one error: its class, its argument -/
def errOne (c : Cc) (bn : Nat) : Expr → Option (Nat × Option D)
  | .Call (.Name x _) es [] _ =>
    if isGl c x && !hidden x then
      match c.gl x with
      | some (.cls cn) => if c.sub cn bn then
          match es, c.cls[cn]? with
          | [], some none => some (cn, none)
          | [e], some (some _) => if notStar e then (konE 5 e).map fun d => (cn, some d) else none
          | _, _ => none
        else none
      | _ => none
    else none
  | _ => none
def errAll (c : Cc) (bn : Nat) : List Expr → Option (List (Nat × Option D))
  | [] => some []
  | e :: es =>
    match errOne c bn e, errAll c bn es with
    | some x, some xs => some (x :: xs)
    | _, _ => none
/-- es[k].f -/
def fldOne (c : Cc) (e : Str) (l : List (Nat × Option D)) : Expr → Option D
  | .Attribute (.Subscript (.Name e2 _) (.Constant (.int k) _ _) _) f _ =>
    if e2 = e ∧ 0 ≤ k then
      match l[k.toNat]? with
      | some (cn, some d) => if c.cls[cn]? = some (some f) then some d else none
      | _ => none
    else none
  | _ => none
def fldAll (c : Cc) (e : Str) (l : List (Nat × Option D)) : List Expr → Option (List D)
  | [] => some []
  | x :: xs =>
    match fldOne c e l x, fldAll c e l xs with
    | some d, some ds => some (d :: ds)
    | _, _ => none
def errE (c : Cc) (s1 s2 : Stmt) : Option SemS :=
  match s1, s2 with
  | .Assign [.Name e _] (.List es _) _, .If (.BoolOp .Or [.Compare (.ListComp (.Name o1 _) [⟨.Name o2 _, .Name e2 _, [.UnaryOp .Not (.Call (.Name isi _) [.Name o3 _, .Name base _] [] _) _], a⟩] scope _) [.NotEq] [.List [] _] _, .Compare (.Tuple as _ _) [.NotEq] [.Tuple cs _ _] _] _) [.Return (some (.Constant (.bool false) _ _)) _] [] _ =>
    if o1 = o2 ∧ o2 = o3 ∧ e2 = e ∧ isi = "isinstance" ∧ a = 0 ∧ isBlt (c.blk scope) isi = true ∧ isGl (c.blk scope) base = true ∧ hidden base = false ∧ hidden e = false ∧ hidden o1 = false ∧ es.length ≤ 100 ∧ cs.length ≤ 100 then
      match c.gl base, locIx c e, locIx (c.blk scope) o1 with
      | some (.cls bn), some i, some j =>
        if blkC c.N c.sc scope [(o1, j)] && decide (ixName c e = some i) && decide (ixName (c.blk scope) o1 = some j) then
          match errAll c bn es with
          | some l =>
            match fldAll c e l as, konL (konE 5) cs with
            | some ds, some ks => if D.sames ds ks && decide ((D.tup ks).deep ≤ 60) then some (sErrs i) else none
            | _, _ => none
          | none => none
        else none
      | _, _, _ => none
    else none
  | _, _ => none
def seqD (c : Cc) (f : Stmt → Option SemS) : List Stmt → Option SemS
  | [] => some sNext
  | [s] =>
    match f s with
    | some a => some a
    | none => some sBad
  | s :: s2 :: r =>
    match errE c s s2 with
    | some g =>
      match seqD c f r with
      | some b => some (sSeq g b)
      | none => none
    | none =>
      match seqD c f (s2 :: r) with
      | some b =>
        match f s with
        | some a => some (sSeq a b)
        | none => some (sSeq sBad b)
      | none => none
section
variable {G : Gb} {X : Cx} {W : WX} {c : Cc} {k : Nat}
/-! ### written data -/
theorem pa_kons {K : Fr} {f : Expr → Option D} (hf : ∀ e d, f e = some d → PE X e (tKon K d)) : ∀ {es : List Expr} {ds : List D}, konL f es = some ds → PA X es (tKons K ds)
  | [], _, h => by
    cases h
    exact PA.weak pa_nil fun σ H Q q => q [] H (Grow.refl H) rfl
  | e :: es, _, h => by
    unfold konL at h
    split at h
    · rename_i hn
      split at h
      · rename_i d ds e1 e2
        cases h
        exact PA.weak (pa_cons (hf e d e1) (pa_kons hf e2) (starEach_cons es X.env hn)) fun σ H Q q v H1 g1 r1 vs H2 g2 r2 => q (v :: vs) H2 (g1.trans g2) (.cons (RepD.mono g2.ext d v r1) r2)
      · cases h
    · cases h
theorem konL_len {f : Expr → Option D} : ∀ {es : List Expr} {ds : List D}, konL f es = some ds → ds.length = es.length
  | [], _, h => by cases h; rfl
  | e :: es, _, h => by
    unfold konL at h
    split at h
    · split at h
      · rename_i d ds e1 e2
        cases h
        rw [List.length_cons, List.length_cons, konL_len e2]
      · cases h
    · cases h
theorem pe_kon {K : Fr} : ∀ {n : Nat} {e : Expr} {d : D}, konE n e = some d → PE X e (tKon K d)
  | 0, _, _, h => nomatch h
  | n + 1, e, d, h => by
    unfold konE at h
    split at h
    · split at h
      · rename_i x _ _ hs
        cases h
        refine PE.weak pe_str fun σ H Q q => q (.str x) H (Grow.refl H) ⟨?_, hs⟩
        obtain ⟨a⟩ := x
        simp
      · cases h
    · cases h
      exact PE.weak pe_int fun σ H Q q => q _ H (Grow.refl H) rfl
    · rename_i es _ _
      split at h
      · rename_i hl
        obtain ⟨ds, e1, rfl⟩ := Option.map_eq_some_iff.mp h
        refine PE.weak (pe_tup (pa_kons (K := K) (fun e d he => pe_kon he) e1)) fun σ H Q q vs H1 g1 r1 => ?_
        refine ⟨?_, fun p hp => q (.ref p) _ (g1.trans (Grow.new hp)) ⟨p, vs, rfl, .inl (.inl upd_same), RepDs.mono (Grow.new hp).ext ds vs r1⟩⟩
        rw [RepDs.length r1, konL_len e1, sizeLine_eq]
        omega
      · cases h
    · cases h
theorem rowP_get' {α β : Type} {R : α → β → Prop} {l : List α} {m : List β} (h : Paired R l m) : ∀ {i : Nat} {a : α}, l[i]? = some a → ∃ b, m[i]? = some b ∧ R a b := by
  induction h with
  | nil => intro i b e; simp at e
  | cons h t ih =>
    intro i b e
    cases i with
    | zero => simp at e; subst e; exact ⟨_, rfl, h⟩
    | succ i => obtain ⟨a, e1, e2⟩ := ih (i := i) (by simpa using e); exact ⟨a, by simpa using e1, e2⟩
theorem pair_get {α β : Type} {R : α → β → Prop} {l : List α} {m : List β} (h : Paired R l m) : ∀ {i : Nat} {b : β}, m[i]? = some b → ∃ a, l[i]? = some a ∧ R a b := by
  induction h with
  | nil => intro i b e; simp at e
  | cons h t ih =>
    intro i b e
    cases i with
    | zero => simp at e; subst e; exact ⟨_, rfl, h⟩
    | succ i => obtain ⟨a, e1, e2⟩ := ih (i := i) (by simpa using e); exact ⟨a, by simpa using e1, e2⟩
theorem locIx_N {c : Cc} {x : Str} {i : Nat} (h : locIx c x = some i) : c.N[i]? = some x := by
  unfold locIx at h
  split at h
  · exact ixOf_at h
  · split at h
    · exact ixOf_at h
    · cases h
  · cases h
/-! ### the errors -/
theorem pe_errOne (C : CsOk G X W c k) {bn : Nat} {e : Expr} {p : Nat × Option D} (h : errOne c bn e = some p) : PE X e (tErr G p) ∧ c.sub p.1 bn = true ∧ notStar e = true := by
  unfold errOne at h
  split at h
  · rename_i x np es pos
    split at h
    · rename_i hc
      rw [Bool.and_eq_true, Bool.not_eq_true'] at hc
      obtain ⟨d1, d2, d3⟩ := hid (x := x) (by rw [hc.2]; exact Bool.false_ne_true)
      have hg := isGl_gl C.toCtxOk hc.1
      split at h
      · rename_i cn ec
        obtain ⟨A, m1, m2⟩ := C.gcls x cn ec
        obtain ⟨k1, k2, k3⟩ := C.cok.kp cn A m2
        split at h
        · rename_i hs
          split at h
          · rename_i e2
            cases h
            refine ⟨PE.weak (pe_err0 (C.cok.no cn A m2 e2) m1 k1 hg d1) fun σ H Q q a ha => q _ _ (Grow.new ha) ⟨a, A, none, rfl, m2, upd_same, rfl⟩, hs, rfl⟩
          · rename_i e f e2
            split at h
            · rename_i hn
              obtain ⟨d, e1, rfl⟩ := Option.map_eq_some_iff.mp h
              obtain ⟨a1, a2, a3, fI, px, S⟩ := C.cok.arg cn A _ m2 e2
              refine ⟨PE.weak (pe_err1 S C.room m1 hg (pe_kon (K := G.K) e1) (star_one X.env hn) d1) fun σ H Q q v H1 g1 r1 a dd hne ha hd => ?_, hs, rfl⟩
              have hd' : upd H1 dd (.xd [(f, v)]) a = none := by rw [upd_ne hne]; exact ha
              have g2 : Grow H1 (upd (upd H1 dd (.xd [(f, v)])) a (ExV (.ref A) (some dd) a)) := (Grow.new hd).trans (Grow.new hd')
              refine q _ _ (g1.trans g2) ⟨a, A, some dd, rfl, m2, upd_same, dd, v, rfl, ?_, RepD.mono g2.ext d v r1⟩
              rw [upd_ne (Ne.symm hne), upd_same, a1]
            · cases h
          · cases h
        · cases h
      · cases h
    · cases h
  · cases h
theorem pa_errs (C : CsOk G X W c k) {bn : Nat} : ∀ {es : List Expr} {l : List (Nat × Option D)}, errAll c bn es = some l → PA X es (tErrs G l) ∧ (∀ p ∈ l, c.sub p.1 bn = true) ∧ l.length = es.length
  | [], _, h => by
    cases h
    exact ⟨PA.weak pa_nil fun σ H Q q => q [] H (Grow.refl H) .nil, (fun p hp => nomatch hp), rfl⟩
  | e :: es, _, h => by
    unfold errAll at h
    split at h
    · rename_i x xs e1 e2
      cases h
      obtain ⟨a1, a2, a3⟩ := pe_errOne C e1
      obtain ⟨b1, b2, b3⟩ := pa_errs C e2
      refine ⟨PA.weak (pa_cons a1 b1 (starEach_cons es X.env a3)) fun σ H Q q v H1 g1 r1 vs H2 g2 r2 => q (v :: vs) H2 (g1.trans g2) (.cons (r1.mono g2) r2), fun p hp => ?_, by rw [List.length_cons, List.length_cons, b3]⟩
      rcases List.mem_cons.mp hp with rfl | hp
      · exact a2
      · exact b2 p hp
    · cases h
/-- the name stands for a list of such errors -/
def ErrAt (G : Gb) (i : Nat) (l : List (Nat × Option D)) : L2.St → Hp → Prop := fun σ H => ∃ p vs, σ[i]? = some (some (.ref p)) ∧ H p = some (.lst vs) ∧ ErrVs G H l vs
theorem ErrAt.mono {i : Nat} {l : List (Nat × Option D)} {σ : L2.St} {H H' : Hp} (g : Grow H H') (h : ErrAt G i l σ H) : ErrAt G i l σ H' := by
  obtain ⟨p, vs, h1, h2, h3⟩ := h
  exact ⟨p, vs, h1, g _ _ h2, h3.mono g⟩
theorem atI_nat {α : Type} {xs : List α} {i : Int} {v : α} (h0 : 0 ≤ i) (h : xs[i.toNat]? = some v) : atI xs i = some v := by
  have h1 := (List.getElem?_eq_some_iff.mp h).1
  unfold atI ixN
  rw [if_pos h0, if_pos (by omega)]
  exact h
theorem pe_fldOne (C : CsOk G X W c k) {e : Str} {i : Nat} {l : List (Nat × Option D)} {a : Expr} {d : D} (hi : ixName c e = some i) (hh : hidden e = false) (h : fldOne c e l a = some d) :
    PE X a (fun σ H Q => ErrAt G i l σ H ∧ ∀ v, RepD G.K H d v → Q v H) ∧ notStar a = true := by
  unfold fldOne at h
  split at h
  · rename_i e2 p1 kk z1 p2 p3 f p4
    split at h
    · rename_i hc
      obtain ⟨rfl, h0⟩ := hc
      split at h
      · rename_i cn d' hl
        split at h
        · rename_i hcl
          cases h
          obtain ⟨d1, d2, d3⟩ := hid (x := e2) (by rw [hh]; exact Bool.false_ne_true)
          obtain ⟨v1, v2⟩ := ixName_vis C.toCtxOk hi
          refine ⟨PE.weak (pe_fld (base_plain rfl _ _) (pe_ix ix_list (pe_var v1 v2 d1 d2) pe_int (ix_plain rfl))) fun σ H Q ⟨⟨p, vs, hs, hp, hv⟩, q⟩ => ?_, rfl⟩
          obtain ⟨v, hv1, a, A, dx, ea, hA, haH, hd⟩ := rowP_get' hv hl
          obtain ⟨dd, x, rfl, hdd, r⟩ := hd
          obtain ⟨a1, a2, a3, _⟩ := C.cok.arg cn A f hA hcl
          rw [a1] at hdd
          refine ⟨.ref p, hs, p, vs, kk, v, rfl, rfl, .inl (.inl hp), atI_nat h0 hv1, a, A, dd, x, ea, haH, hdd, a2, a3, q x r⟩
        · cases h
      · cases h
    · cases h
  · cases h
theorem pa_flds (C : CsOk G X W c k) {e : Str} {i : Nat} {l : List (Nat × Option D)} (hi : ixName c e = some i) (hh : hidden e = false) : ∀ {as : List Expr} {ds : List D}, fldAll c e l as = some ds →
    PA X as (fun σ H Q => ErrAt G i l σ H ∧ ∀ vs, RepDs G.K H ds vs → Q vs H) ∧ ds.length = as.length
  | [], _, h => by
    cases h
    exact ⟨PA.weak pa_nil fun σ H Q q => q.2 [] rfl, rfl⟩
  | a :: as, _, h => by
    unfold fldAll at h
    split at h
    · rename_i d ds e1 e2
      cases h
      obtain ⟨a1, a2⟩ := pe_fldOne C hi hh e1
      obtain ⟨b1, b2⟩ := pa_flds C hi hh e2
      exact ⟨PA.weak (pa_cons a1 b1 (starEach_cons as X.env a2)) fun σ H Q ⟨q1, q⟩ => ⟨q1, fun v r1 => ⟨q1, fun vs r2 => q (v :: vs) (.cons r1 r2)⟩⟩, by rw [List.length_cons, List.length_cons, b2]⟩
    · cases h
/-! ### the test -/
def tIsi (K : Fr) (j : Nat) (B : Addr) : TT := fun σ H Q => ∃ (a C : Addr) (dx : Option Addr), σ[j]? = some (some (.ref a)) ∧ H a = some (ExV (.ref C) dx a) ∧ (∀ d, dx = some d → ∃ fs, H d = some (.xd fs)) ∧ ExcC K C ∧ PySem.W.kitOne K (.ref C) (.ref B) = some true ∧ Q false H
theorem pt_isi {X' : Cx} {W' : WX} {c' : Cc} {K : Fr} (hK : X'.K = K) (C' : CtxOk G X' W' c' k) {o base : Str} {j : Nat} {B : Addr} {p4 p5 p6 p7 p8 : Pos} (hb : isBlt c' "isinstance" = true) (hbs : isGl c' base = true) (b1 : (base == ("__debug__" : Str)) = false) (m1 : X'.mg base = some (.ref B)) (hj2 : ixName c' o = some j) (ho : hidden o = false) :
    PT X' (.UnaryOp .Not (.Call (.Name "isinstance" p4) [.Name o p5, .Name base p6] [] p7) p8) (tIsi K j B) := by
  subst hK
  obtain ⟨o1, o2, o3⟩ := hid (x := o) (by rw [ho]; exact Bool.false_ne_true)
  obtain ⟨h1, h2⟩ := ixName_vis C' hj2
  have ha := pa_cons (pe_var (pos := p5) h1 h2 o1 o2) (pa_cons (pe_glob (v := .ref B) (pos := p6) (isGl_gl C' hbs) m1 rfl b1) pa_nil (starEach_cons [] X'.env rfl)) (starEach_cons [.Name base p6] X'.env rfl)
  have hc := pe_callB (p := p4) (pos := p7) call_isV (isBlt_mg C' hb).1 (isBlt_mg C' hb).2 rfl ha (by decide) (by decide) (starEach_cons [.Name base p6] X'.env rfl) rfl
  refine PT.weak (pt_not (pt_truth hc fun _ => rfl)) fun σ H Q ⟨a, Cx, dx, e1, e2, e3, e4, e5, q⟩ => ?_
  exact ⟨.ref a, e1, a, Cx, B, dx, true, rfl, e2, e3, e4, e5, true, rfl, q⟩
def tNo (φ : L2.St → Hp → Prop) : TT := fun σ H Q => φ σ H ∧ ∀ H', Grow H H' → Q false H'
theorem pt_isAll (C : CsOk G X W c k) {e o base : Str} {i j bn : Nat} {l : List (Nat × Option D)} {scope : Scope} {p1 p2 p3 p4 p5 p6 p7 p8 p9 p10 p11 : Pos}
    (hi : ixName c e = some i) (hh : hidden e = false) (hb : isBlt (c.blk scope) "isinstance" = true) (hbs : isGl (c.blk scope) base = true) (hhb : hidden base = false) (ho : hidden o = false) (hgl : c.gl base = some (.cls bn)) (hj : locIx (c.blk scope) o = some j) (hj2 : ixName (c.blk scope) o = some j)
    (hblk : blkC c.N c.sc scope [(o, j)] = true) (hs : ∀ p ∈ l, c.sub p.1 bn = true) :
    PT X (.Compare (.ListComp (.Name o p1) [⟨.Name o p2, .Name e p3, [.UnaryOp .Not (.Call (.Name "isinstance" p4) [.Name o p5, .Name base p6] [] p7) p8], 0⟩] scope p9) [.NotEq] [.List [] p10] p11) (tNo (ErrAt G i l)) := by
  obtain ⟨B, m1, m2⟩ := C.gcls base bn hgl
  obtain ⟨d1, d2, d3⟩ := hid (x := e) (by rw [hh]; exact Bool.false_ne_true)
  obtain ⟨b1, b2, b3⟩ := hid (x := base) (by rw [hhb]; exact Bool.false_ne_true)
  obtain ⟨o1, o2, o3⟩ := hid (x := o) (by rw [ho]; exact Bool.false_ne_true)
  obtain ⟨v1, v2⟩ := ixName_vis C.toCtxOk hi
  have ok : BlkOk X.N X.env.scope scope [(o, j)] := by rw [C.nm, C.N]; exact blkOk_by hblk
  have C' := fun (s : Shared) (H : Hp) (Ca : Addr) (cl : List (Str × Addr)) (fp : List Addr) => C.toCtxOk.blk ok s H Ca cl fp
  have hjN : X.N[j]? = some o := by rw [C.N]; exact locIx_N (c := c.blk scope) hj
  refine ⟨fun pins s σ H Q I q => ?_⟩
  have hlen : j < σ.length := by rw [I.len]; exact (List.getElem?_eq_some_iff.mp hjN).1
  refine (pt_cmpR (op_pNe C.room.units) (pe_lc (g := gName j) (te := fun _ _ _ => False) C.calm C.nd (pi_list (pe_var v1 v2 d1 d2)) ok (fun s H Ca cl fp => ?hg) (fun s H Ca cl fp => pts_one (pt_isi (X' := X.blk s H scope (compEnvC scope cl Ca X.env) fp) (K := X.K) rfl (C' s H Ca cl fp) hb hbs b1 m1 hj2 ho)) (fun s H Ca cl fp => ⟨fun _ _ _ _ _ _ h => h.elim⟩) (fun _ => rfl)) (pe_lst pa_nil) rfl).run pins s σ H Q I ?_
  case hg =>
    obtain ⟨h1, h2, h3⟩ := locIx_ok (C' s H Ca cl fp) hj
    exact pg_name (C' s H Ca cl fp).nd h1 h2 h3
  obtain ⟨⟨p, vs, hσ, hp, hv⟩, q⟩ := q
  refine ⟨.ref p, hσ, p, rfl, ⟨vs, .inl (.inl hp)⟩, fun D hD => ?_⟩
  refine lc_list (K := X.K) (a := p) (g := gName j) (tt := tIsi X.K j B) (te := fun _ _ _ => False) (vs := [j]) (σ := σ) (H1 := H) (D := D) (Qd := fun H' => tLst tNil σ H' fun y H2 => rP2 X.K pNe (.ref D) y H2 fun x H' => ∃ k, x = V.bl k ∧ Q k H') (xs := vs) (fun _ H' => Grow H H' ∧ H' D = some (.lst [])) ⟨Grow.new hD, upd_same⟩ (fun n H' _ g => .inl (.inl (g.1 p _ hp))) (fun n x H' hx ⟨g, hD'⟩ => ?_) fun H' ⟨g, hD'⟩ => ?_
  · refine ⟨?_, ?_⟩
    · show wipe ((wipe σ [j]).set j (some x)) [j] = wipe σ [j]
      simp [wipe]
    · obtain ⟨pr, hl, a, A, dx, rfl, hA, haH, hd⟩ := pair_get hv hx
      have hsub := C.tab pr.1 bn A B hA m2
      refine ⟨a, A, dx, ?_, g _ _ haH, fun d e => ?_, C.cok.exc pr.1 A hA, ?_, ?_⟩
      · show ((wipe σ [j]).set j (some (.ref a)))[j]? = _
        rw [List.getElem?_set_self (by simp [wipe]; exact hlen)]
      · cases hp2 : pr.2 with
        | none => rw [hp2] at hd; rw [show dx = none from hd] at e; cases e
        | some d' =>
          rw [hp2] at hd
          obtain ⟨dd, y, e1, e2, _⟩ := hd
          rw [e1] at e; cases e
          exact ⟨_, g _ _ e2⟩
      · have hsub' := hsub
        rw [C.K] at hsub'
        exact kit_exm hsub' (hs pr (List.mem_of_getElem? hl))
      · exact ⟨g, hD'⟩
  · refine ⟨by show 0 ≤ sizeLine; exact Nat.zero_le _, fun p' hp' => ?_⟩
    have g2 : Grow H' (upd H' p' (.lst [])) := Grow.new hp'
    refine ⟨[.lst [], .lst []], .v (.bl false), .cons ⟨D, [], rfl, .inl (g2 _ _ hD'), rfl⟩ (.cons ⟨p', [], rfl, .inl upd_same, rfl⟩ .nil), rfl, fun v H2 g3 r => ?_⟩
    exact ⟨false, r, q H2 (g.trans (g2.trans g3))⟩
theorem eqv_refl (d : D) : D.eqv d d = true := by
  refine D.rec (motive_1 := fun d => D.eqv d d = true) (motive_2 := fun l => D.eqvs l l = true) ?_ ?_ ?_ ?_ ?_ ?_ ?_ ?_ d
  all_goals (intros; simp_all [D.eqv, D.eqvs])
theorem pt_kons (C : CsOk G X W c k) {e : Str} {i : Nat} {l : List (Nat × Option D)} {as cs : List Expr} {ds ks : List D} {p1 p2 p3 : Pos} {k1 k2} (hi : ixName c e = some i) (hh : hidden e = false) (ha : fldAll c e l as = some ds) (hc : konL (konE 5) cs = some ks) (hs : D.sames ds ks = true) (hd : (D.tup ks).deep ≤ 60) (hl : cs.length ≤ 100) :
    PT X (.Compare (.Tuple as k1 p1) [.NotEq] [.Tuple cs k2 p2] p3) (tNo (ErrAt G i l)) := by
  obtain ⟨a1, a2⟩ := pa_flds C hi hh ha
  have b1 := pa_kons (X := X) (K := G.K) (fun e d he => pe_kon he) hc
  have b2 := konL_len hc
  have es : ds = ks := sames_eq ds ks hs
  subst es
  refine PT.weak (pt_cmpR (op_pNe C.room.units) (pe_tup a1) (pe_tup b1) rfl) fun σ H Q ⟨q1, q⟩ => ⟨q1, fun vs r1 => ⟨by rw [RepDs.length r1, b2, sizeLine_eq]; omega, fun p hp vs2 H1 g1 r2 => ⟨by rw [RepDs.length r2, b2, sizeLine_eq]; omega, fun p' hp' => ?_⟩⟩⟩
  have g0 : Grow H (upd H p (.tup vs)) := Grow.new hp
  have g2 : Grow H1 (upd H1 p' (.tup vs2)) := Grow.new hp'
  refine ⟨[.tup ds, .tup ds], .v (.bl false), ?_, ?_, fun v H2 g3 r => ⟨false, r, q H2 (g0.trans (g1.trans (g2.trans g3)))⟩⟩
  · rw [← C.K]
    exact .cons ⟨p, vs, rfl, .inl (.inl ((g1.trans g2) _ _ upd_same)), RepDs.mono (g0.trans (g1.trans g2)).ext ds vs r1⟩ (.cons ⟨p', vs2, rfl, .inl (.inl upd_same), RepDs.mono g2.ext ds vs2 r2⟩ .nil)
  · simp [pNe, okDeep, hd, eqv_refl]
theorem EnvOk.hide {K : Fr} {fa : Nat → Option Addr} {μ : List Addr} {H : Hp} {env : Env} {σ : L2.St} (h : EnvOk K fa μ H env σ) (i : Nat) (v : V) : EnvOk K fa μ H (env.set i none) (σ.set i (some v)) := by
  refine ⟨by simp [h.len], fun j b e => ?_⟩
  by_cases hj : i = j
  · subst hj
    by_cases hi : i < env.length
    · rw [List.getElem?_set_self hi] at e; cases e
    · rw [List.getElem?_eq_none (by simpa using hi)] at e; cases e
  · rw [List.getElem?_set_ne hj] at e
    rw [List.getElem?_set_ne hj]
    exact h.at_ j b e
theorem s_err (C : CsOk G X W c k) {s1 s2 : Stmt} {r : List Stmt} {g b : SemS} (h : errE c s1 s2 = some g) (hb : DSs G X W r b) : DSs G X W (s1 :: s2 :: r) (sSeq g b) := by
  unfold errE at h
  split at h
  · split at h
    · rename_i hc
      obtain ⟨rfl, rfl, rfl, rfl, rfl, h1, h2, h3, h4, h5, h6, h7⟩ := hc
      split at h
      · rename_i bn i j e1 e2 e3
        split at h
        · rename_i hk
          simp only [Bool.and_eq_true, decide_eq_true_eq] at hk
          obtain ⟨⟨k1, k2⟩, k3⟩ := hk
          split at h
          · rename_i l e4
            split at h
            · rename_i ds ks e5 e6
              split at h
              · rename_i hz
                cases h
                rw [Bool.and_eq_true, decide_eq_true_eq] at hz
                obtain ⟨a1, a2, a3⟩ := pa_errs C e4
                obtain ⟨n1, n2, n3⟩ := locIx_ok C.toCtxOk e2
                refine ⟨fun pins sh σ H D I ⟨env, μ, st, he, hst, q⟩ => ?_⟩
                refine (pss_cons (ps_set C.nd n1 n2 (pe_lst a1) (swaps_no rfl _ _ _) n3) (pss_cons (ps_if (pw_or (pt_isAll C k2 h4 h1 h2 h3 h5 e1 e3 k3 k1 a2) (pw_or1 (pt_kons C k2 h4 e5 e6 hz.1 hz.2 h7))).pt pss_never pss_nil) hb)).run pins sh σ H D I ?_
                intro vs H1 g1 r1
                refine ⟨by rw [← Paired.length r1, a3, sizeLine_eq]; omega, fun p hp => ?_⟩
                have g2 : Grow H (upd H1 p (.lst vs)) := g1.trans (Grow.new hp)
                have hil : i < σ.length := by
                  rw [I.len, C.N]
                  exact (List.getElem?_eq_some_iff.mp (locIx_N e2)).1
                have ea : ErrAt G i l (σ.set i (some (.ref p))) (upd H1 p (.lst vs)) := ⟨p, vs, List.getElem?_set_self hil, upd_same, r1.mono (Grow.new hp)⟩
                refine ⟨ea, fun H2 g3 => ⟨ea.mono g3, fun H3 g4 => ?_⟩⟩
                have gg : Grow H H3 := g2.trans (g3.trans g4)
                exact ⟨env.set i none, μ, st, (he.mono (gg.go μ)).hide i _, hst.grow gg, PstS.go q (gg.go μ)⟩
              · cases h
            · cases h
          · cases h
        · cases h
      · cases h
    · cases h
  · cases h
theorem s_seqD (C : CsOk G X W c k) {f : Stmt → Option SemS} (hf : ∀ s g, f s = some g → DS G X W s g) : ∀ {ss : List Stmt} {g : SemS}, seqD c f ss = some g → DSs G X W ss g
  | [], _, h => by cases h; exact dss_nil
  | [s], g, h => by
    unfold seqD at h
    split at h
    · rename_i a e; cases h; exact PSs.weak (pss_one (hf s _ e)) fun _ _ _ q => q
    · cases h; exact PSs.weak (pss_one ds_bad) fun _ _ _ q => q
  | s :: s2 :: r, g, h => by
    unfold seqD at h
    split at h
    · rename_i g1 e1
      split at h
      · rename_i b e2
        cases h
        exact s_err C e1 (s_seqD C hf e2)
      · cases h
    · split at h
      · rename_i b e2
        split at h
        · rename_i a e3
          cases h
          exact dss_cons (hf s a e3) (s_seqD C hf e2)
        · cases h
          exact dss_cons ds_bad (s_seqD C hf e2)
      · cases h
end
end PD
end

section
set_option Elab.async false
set_option linter.all false
set_option maxRecDepth 100000
set_option maxHeartbeats 1000000
/-! PD21: defs. -/
namespace PD
open PySem PySem.Spec PyProof.Rows L2

/-- what a def of np parameters and nN slots makes of its arguments -/
def semDef (np nN : Nat) (g : SemS) : List A → Store → Out A := fun as st =>
  if as.length = np then finish st.length (g (as.map some ++ List.replicate (nN - np) none) st) else .bad
section
variable {G : Gb} {P : Program} {w : World} {K : Fr} {mg : Str → Option Value} {base : Heap}
theorem Pst.fin {W : WX} {D : Ends} {Q : VK} {σ : L2.St} {μ : List Addr} {H : Hp} {o : SO} {L : Nat} (hL : μ.length = L) (hn : ∀ σ H', Q .non H' → D.nx σ H') (hr : ∀ v H', Q v H' → D.rt v H')
    (h : Pst G (fun cls d _ H' => W cls d [] H') σ μ H (RA G) (finish L o) Q) : PstS G (fun cls d _ H' => W cls d [] H') D μ H o := by
  subst hL
  cases o with
  | nx env st => exact fun σ' H' μ' g s r => hn σ' H' (h .non H' μ g.forget (s.forget g rfl) rfl)
  | rt a st =>
    intro v H' μ' g s r
    obtain ⟨a', st1, e⟩ := settle_is g s r
    obtain ⟨μ1, g1, s1, r1⟩ := settle_ok g s r e
    have h' : Pst G (fun cls d _ H' => W cls d [] H') σ μ H (RA G) (settleV μ.length a st) Q := h
    rw [e] at h'
    exact hr v H' (h' v H' μ1 g1 s1 r1)
  | ex e env st => exact fun c d σ' H' μ' g s r x => h c d H' μ g.forget (s.forget g rfl) x
  | bk env st => exact h.elim
  | ct env st => exact h.elim
  | bad => exact h.elim
/-- what the module says of the names -/
structure ModOk (G : Gb) (P : Program) (w : World) (K : Fr) (mg : Str → Option Value) (gl : Str → Option GK) (cls : List (Option Str)) (sub : Nat → Nat → Bool) : Prop where
  eqK : G.K = K
  gcon : ∀ x d, gl x = some (.con d) → GlOk G mg x d
  gfn : ∀ x f, gl x = some (.fn f) → ∃ ad, mg x = some (.ref ad) ∧ G.fa f = some ad
  gblt : ∀ x, gl x = some .blt → mg x = none
  gtab : ∀ x l, gl x = some (.tab l) → ∃ ad, mg x = some (.ref ad) ∧ TabOk G K w ad l
  gcls : ∀ x cn, gl x = some (.cls cn) → ∃ A, mg x = some (.ref A) ∧ G.xa cn = some A
  cok : ClsOk G P K cls
  tab : SubOk G sub
theorem env_start {μ : List Addr} {H : Hp} : ∀ {as : List A} {vs : List V}, RAs G μ H as vs → ∀ (m : Nat), EnvOk G.K G.fa μ H (as.map some ++ List.replicate m none) (vs.map some ++ List.replicate m none) := by
  intro as vs r m
  have hl : as.length = vs.length := Paired.length r
  refine ⟨by simp [hl], fun i a e => ?_⟩
  by_cases hi : i < as.length
  · rw [List.getElem?_append_left (by simpa using hi), List.getElem?_map] at e
    cases ea : as[i]? with
    | none => rw [ea] at e; cases e
    | some a' =>
      rw [ea] at e
      have e' : a' = a := by simpa using e
      subst e'
      have key : ∀ {as : List A} {vs : List V} {i : Nat} {a : A}, RAs G μ H as vs → as[i]? = some a → ∃ v, vs[i]? = some v ∧ RepA G.K G.fa μ H a v := by
        intro as vs i a r
        induction r generalizing i with
        | nil => intro e; simp at e
        | cons h t ih =>
          intro e
          cases i with
          | zero => simp at e; subst e; exact ⟨_, rfl, h⟩
          | succ i => obtain ⟨v, e1, e2⟩ := ih (by simpa using e); exact ⟨v, by simpa using e1, e2⟩
      obtain ⟨v, e1, e2⟩ := key r ea
      refine ⟨v, ?_, e2⟩
      rw [List.getElem?_append_left (by rw [List.length_map, ← hl]; exact hi), List.getElem?_map, e1]; rfl
  · rw [List.getElem?_append_right (by simpa using hi)] at e
    rw [List.getElem?_replicate] at e
    split at e <;> cases e
theorem def_fn {gl : Str → Option GK} {cls : List (Option Str)} {sub : Nat → Nat → Bool} (M : ModOk G P w K mg gl cls sub) {F : SemF} {k : Nat} (D : ∀ f ad, G.fa f = some ad → DefOk G P w K mg base k f (F f))
    {x qual : Str} {st : Stmt} {ad : Addr} {fd : FuncData} {N ps : List Str} (Fu : Fun K x qual st ad fd) (S : FnScope N ps (defScope st)) {n : Nat} {g : SemS}
    (hg : seqD { N := N, sc := defScope st, fnc := fun _ => true, gl := gl, F := F, cls := cls, sub := sub } (cS n { N := N, sc := defScope st, fnc := fun _ => true, gl := gl, F := F, cls := cls, sub := sub }) (defBody st) = some g) : FnOk P w K mg base (L2.CX P w) (k + 2) ad fd ps (spF G (semDef ps.length N.length g) ps.length) := by
  have hlen : ps.length ≤ N.length := by
    have := S.pre
    rw [← this, List.length_take]
    exact Nat.min_le_right _ _
  refine Fu.okX S (fun vs H Q E h => spF_len h) fun cdv A outer s H vs Q E hr hsp => ?_
  obtain ⟨μ, st', as, hl, hs, r, p⟩ := hsp
  have C : CsOk G (cxOf (L2.CX P w) P w K mg base N qual (defScope st) ad cdv A outer s H E) (fun cls d _ H => E cls d H) { N := N, sc := defScope st, fnc := fun _ => true, gl := gl, F := F, cls := cls, sub := sub } k :=
    { K := M.eqK, N := rfl, nd := S.nd, nm := rfl, kind := S.kind, fn := fun _ _ => rfl, calm := rfl, gcon := M.gcon, gfn := M.gfn, gblt := M.gblt, gtab := M.gtab, defs := D, room := hr, tk := takes_of rfl rfl rfl rfl, pass := passes_of rfl, stk := rfl, frm := rfl, gcls := M.gcls, cok := M.cok, tab := M.tab }
  refine ⟨_, s_seqD C (fun s g h => s_stmt n _ _ _ C s g h) hg, as.map some ++ List.replicate (N.length - ps.length) none, μ, st', ?_, hs, ?_⟩
  · have e := env_start r (N.length - ps.length)
    have hv : vs.length = ps.length := by rw [← hl]; exact (Paired.length r).symm
    unfold L2.start
    rw [hv]
    exact e
  · unfold semDef at p
    rw [if_pos hl] at p
    exact Pst.fin (W := fun cls d _ H => E cls d H) hs.len (fun _ _ q => q) (fun _ _ q => q) p
end

/-! ### a module's defs -/
/-- a def of the module: its name, where it stands, its slots, its parameters, its meaning from the meanings of the defs -/
structure DefD where
  x : Str
  st : Stmt
  N : List Str
  ps : List Str
  g : SemF → SemS
structure DefD.Ok (d : DefD) (gl : Str → Option GK) (cls : List (Option Str)) (sub : Nat → Nat → Bool) : Prop where
  sc : FnScope d.N d.ps (defScope d.st)
  bd : ∀ (kV doc pm : Value) (an : Option Addr) (cdv ct : Value) (us : List Value), us.length = d.ps.length → bindArgs (PySem.W.fnOf d.x d.x (defArgs d.st) (defBody d.st) (defScope d.st) .none kV doc pm an cdv ct) ⟨us, []⟩ = pure (d.ps.zip us)
  cp : ∀ F, seqD { N := d.N, sc := defScope d.st, fnc := fun _ => true, gl := gl, F := F, cls := cls, sub := sub } (cS 60 { N := d.N, sc := defScope d.st, fnc := fun _ => true, gl := gl, F := F, cls := cls, sub := sub }) (defBody d.st) = some (d.g F)
/-- the module's meaning: j calls deep -/
def semT (T : List DefD) : Nat → SemF
  | 0 => fun _ _ _ => .bad
  | j + 1 => fun f as st =>
    match T[f]? with
    | some d => semDef d.ps.length d.N.length (d.g (semT T j)) as st
    | none => .bad
/-- what the written part says of a def -/
structure FnIn (K : Fr) (x : Str) (st : Stmt) (f : Addr) : Prop where
  ns : PySem.W.nsIn K mainGlobals x = some (some (.ref f))
  ex : ∃ (oc : Value) (od : Option Addr) (kV doc pm : Value) (an : Option Addr) (cdv ct : Value) (osl : Array (Option Value)),
    K.lookup f = some ⟨oc, od, .func (PySem.W.fnOf x x (defArgs st) (defBody st) (defScope st) .none kV doc pm an cdv ct), osl⟩ ∧ PySem.W.codeIn K cdv x = true
  kp : PySem.W.keepIn K (.ref f) = true
theorem FnIn.fun {K : Fr} {x : Str} {st : Stmt} {f : Addr} (h : FnIn K x st f) : ∃ fd, Fun K x x st f fd := by
  obtain ⟨oc, od, kV, doc, pm, an, cdv, ct, osl, l, c⟩ := h.ex
  exact ⟨_, fun_mk l c h.kp⟩
theorem DefD.Ok.binds {K : Fr} {d : DefD} {gl : Str → Option GK} {cls : List (Option Str)} {sub : Nat → Nat → Bool} (o : d.Ok gl cls sub) {f : Addr} {fd : FuncData} (F : Fun K d.x d.x d.st f fd) : Binds K fd d.ps [] := F.binds o.bd
section
variable {G : Gb} {P : Program} {w : World} {K : Fr} {mg : Str → Option Value} {base : Heap}
theorem rowP_get {α β : Type} {R : α → β → Prop} {l : List α} {m : List β} (h : Paired R l m) : ∀ {i : Nat} {b : β}, m[i]? = some b → ∃ a, l[i]? = some a ∧ R a b := by
  induction h with
  | nil => intro i b e; simp at e
  | cons h t ih =>
    intro i b e
    cases i with
    | zero => simp at e; subst e; exact ⟨_, rfl, h⟩
    | succ i => obtain ⟨a, e1, e2⟩ := ih (by simpa using e); exact ⟨a, by simpa using e1, e2⟩
theorem all_defs {gl : Str → Option GK} {cls : List (Option Str)} {sub : Nat → Nat → Bool} (M : ModOk G P w K mg gl cls sub) {T : List DefD} {fs : List Addr} (hT : ∀ d ∈ T, d.Ok gl cls sub) (hF : Paired (fun d f => FnIn K d.x d.st f) T fs) (hfa : G.fa = fun n => fs[n]?) :
    ∀ (j f : Nat) (ad : Addr), G.fa f = some ad → DefOk G P w K mg base (2 * j) f (semT T j f)
  | 0, f, ad, h => by
    have h' : fs[f]? = some ad := by rw [hfa] at h; exact h
    obtain ⟨d, e1, e2⟩ := rowP_get hF h'
    obtain ⟨fd, Fu⟩ := e2.fun
    have o := hT d (List.mem_of_getElem? e1)
    refine ⟨ad, fd, d.ps, h, Fu.kp, o.binds Fu, ⟨fun vs H Q E q => spF_len q, fun A outer s H args us vs Q E _ _ _ _ q => ?_⟩, fun _ _ _ => rfl⟩
    obtain ⟨μ, st, as, _, _, _, p⟩ := q
    exact p.elim
  | j + 1, f, ad, h => by
    have h' : fs[f]? = some ad := by rw [hfa] at h; exact h
    obtain ⟨d, e1, e2⟩ := rowP_get hF h'
    obtain ⟨fd, Fu⟩ := e2.fun
    have o := hT d (List.mem_of_getElem? e1)
    have q := def_fn (w := w) (base := base) M (all_defs M hT hF hfa j) Fu o.sc (o.cp (semT T j))
    have e : semT T (j + 1) f = semDef d.ps.length d.N.length (d.g (semT T j)) := by
      funext as st
      show (match T[f]? with | some d => semDef d.ps.length d.N.length (d.g (semT T j)) as st | none => Out.bad) = _
      rw [e1]
    rw [e]
    exact ⟨ad, fd, d.ps, h, Fu.kp, o.binds Fu, q, fun as st hl => by unfold semDef; rw [if_neg hl]⟩
/-- the law's promise: true of every script -/
def spLaw (K : Fr) (n : Nat) : Sp := fun vs H Q E => ∃ (a : Addr) (ns : List Int), vs = [.ref a] ∧ ns.length ≤ n ∧ Only H ∧ SqL K H a (ns.map V.int) ∧ ∀ v H', v = V.bl true → Q v H'
def noLists (K : Fr) : Bool := K.all fun p => match p.2.data with | .seq _ _ => !(p.2.cls == .type "list") | _ => true
theorem lookup_in {K : Fr} {a : Addr} {o : Obj} (h : K.lookup a = some o) : (a, o) ∈ K := by
  have key : ∀ (l : List (Addr × Obj)), l.lookup a = some o → (a, o) ∈ l := by
    intro l
    induction l with
    | nil => intro h; cases h
    | cons p l ih =>
      intro h
      rw [List.lookup_cons] at h
      split at h
      · rename_i e; cases h; rw [eq_of_beq e]; exact List.mem_cons_self
      · exact List.mem_cons_of_mem _ (ih h)
  exact key K h
theorem noLists_not {K : Fr} (h : noLists K = true) {a : Addr} {o : Obj} (l : K.lookup a = some o) (hc : o.cls = .type "list") {its : Array Value} {n : Nat} (hd : o.data = .seq its n) : False := by
  unfold noLists at h
  have hm : (a, o) ∈ K := lookup_in l
  have := List.all_eq_true.mp h _ hm
  simp [hd, hc] at this
theorem ints_data {K : Fr} {H : Hp} : ∀ (ns : List Int), RepDs K H (ns.map D.int) (ns.map V.int)
  | [] => rfl
  | n :: ns => .cons rfl (ints_data ns)
theorem law_fn {gl : Str → Option GK} {cls : List (Option Str)} {sub : Nat → Nat → Bool} (M : ModOk G P w K mg gl cls sub) {T : List DefD} {fs : List Addr} (hT : ∀ d ∈ T, d.Ok gl cls sub) (hF : Paired (fun d f => FnIn K d.x d.st f) T fs) (hfa : G.fa = fun n => fs[n]?)
    (hK : noLists K = true) {j : Nat} {d : DefD} {ad : Addr} {fd : FuncData} (hd : d ∈ T) (hps : d.ps = [("script" : Str)]) (Fu : Fun K d.x d.x d.st ad fd) {n : Nat} (hlaw : ∀ ns : List Int, ns.length ≤ n → semDef 1 d.N.length (d.g (semT T j)) [.d (.lst (ns.map D.int))] [] = .ok (.d (.bl true)) []) :
    FnOk P w K mg base (L2.CX P w) (2 * j + 2) ad fd ["script"] (spLaw K n) := by
  have o := hT d hd
  have q := def_fn (w := w) (base := base) M (all_defs M hT hF hfa j) Fu o.sc (o.cp (semT T j))
  rw [hps] at q
  refine q.imp fun vs H Q E ⟨a, ns, e, hl, hO, hS, hq⟩ => ?_
  subst e
  refine ⟨[], [], [.d (.lst (ns.map D.int))], rfl, ⟨rfl, List.nodup_nil, fun i b m h _ => by simp at h⟩, .cons ?_ .nil, ?_⟩
  · rcases hS with (h | ⟨ob, h⟩) | ⟨ob, its, m, h1, h2, _, h4, _⟩
    · rcases hO a with z | ⟨_, _, z⟩ <;> (rw [h] at z; cases z)
    · show RepD G.K H (.lst (ns.map D.int)) (.ref a)
      exact ⟨a, ns.map V.int, rfl, ⟨ob, h⟩, ints_data ns⟩
    · exact (noLists_not hK h1 h2 h4).elim
  · show Pst G _ [] [] H (RA G) (semDef 1 d.N.length (d.g (semT T j)) [.d (.lst (ns.map D.int))] []) Q
    rw [hlaw ns hl]
    exact fun v H' μ' g s r => hq v H' r
end
end PD
end

section
set_option Elab.async false
set_option linter.all false
set_option maxRecDepth 100000
set_option maxHeartbeats 1000000
/-! PE0: reckoning with the meanings. -/
namespace PD
@[simp] theorem settle_ok_d (L : Nat) (x : D) (st : Store) : settle L (.ok (.d x) st) = .ok (.d x) (st.take L) := rfl
@[simp] theorem settle_exn (L : Nat) (e : Exn) (st : Store) : settle L (.exn e st) = .exn e (st.take L) := rfl
@[simp] theorem settle_bad (L : Nat) : settle L .bad = .bad := rfl
@[simp] theorem settle_new (m : MO) (st : Store) : settle st.length (.ok (.obj st.length) (st ++ [m])) = .ok (.obj st.length) (st ++ [m]) := by
  simp [settle, settleV]
@[simp] theorem gVar_0 (a : Option A) (r : Env) (st : Store) : gVar 0 (a :: r) st = (match a with | some a => .ok a st | none => .bad) := by
  cases a <;> rfl
@[simp] theorem gVar_s (i : Nat) (a : Option A) (r : Env) (st : Store) : gVar (i + 1) (a :: r) st = gVar i r st := by
  simp [gVar]
@[simp] theorem gCon_ok (d : D) (env : Env) (st : Store) : gCon d env st = .ok (.d d) st := rfl
@[simp] theorem gFn_ok (f : Nat) (env : Env) (st : Store) : gFn f env st = .ok (.fn f) st := rfl
@[simp] theorem gNil_ok (env : Env) (st : Store) : gNil env st = .ok [] st := rfl
@[simp] theorem now_d (x : D) (st : Store) : now (.d x) st = some x := rfl
@[simp] theorem nowAll_nil (st : Store) : nowAll [] st = some [] := rfl
@[simp] theorem nowAll_d (x : D) (r : List A) (st : Store) : nowAll (.d x :: r) st = (nowAll r st).map (x :: ·) := by
  cases h : nowAll r st <;> simp [nowAll, h]
@[simp] theorem give_v (d : D) (st : Store) : give (.v d) st = .ok (.d d) st := rfl
@[simp] theorem freeze_d (x : D) (st : Store) : freeze (.d x) st = some (x, st) := rfl
@[simp] theorem freezeAll_nil (st : Store) : freezeAll [] st = some ([], st) := rfl
@[simp] theorem freezeAll_d (x : D) (r : List A) (st : Store) : freezeAll (.d x :: r) st = (freezeAll r st).map (fun p => (x :: p.1, p.2)) := by
  cases h : freezeAll r st <;> simp [freezeAll, h]
theorem ev_op {p : Prim} {as : SemAs} {env : Env} {st : Store} : gOp p as env st = settle st.length ((as env st).bind fun xs s1 => opOn p xs s1) := rfl
theorem ev_cons {a : SemE} {r : SemAs} {env : Env} {st : Store} : gCons a r env st = (a env st).bind fun x s1 => (r env s1).bind fun xs s2 => .ok (x :: xs) s2 := rfl
theorem take_self {st : Store} : st.take st.length = st := List.take_length
/-! ### comprehensions -/
/-- a step that only tells -/
theorem lc_map {step : D → Store → Out (Option D)} {ok : Store → Bool} {st : Store} (f : D → D) (h0 : ok st = true) : ∀ {ds : List D}, (∀ d ∈ ds, step d st = .ok (some (f d)) st) → lcGo step ok ds st = .ok (ds.map f) st
  | [], _ => by simp [lcGo, h0]
  | d :: ds, h => by
    have ih := lc_map (step := step) (ok := ok) (st := st) f h0 (ds := ds) fun d hd => h d (List.mem_cons_of_mem _ hd)
    simp [lcGo, h0, h d List.mem_cons_self, take_self, ih]
/-- a step that chooses -/
theorem lc_filter {step : D → Store → Out (Option D)} {ok : Store → Bool} {st : Store} (f : D → Option D) (h0 : ok st = true) : ∀ {ds : List D}, (∀ d ∈ ds, step d st = .ok (f d) st) → lcGo step ok ds st = .ok (ds.filterMap f) st
  | [], _ => by simp [lcGo, h0]
  | d :: ds, h => by
    have ih := lc_filter (step := step) (ok := ok) (st := st) f h0 (ds := ds) fun d hd => h d (List.mem_cons_of_mem _ hd)
    simp only [lcGo, h0, if_true, h d List.mem_cons_self, take_self, ih, List.filterMap_cons]
    cases f d <;> rfl
/-- a step that changes the store: what holds goes on to hold -/
theorem lc_inv {step : D → Store → Out (Option D)} {ok : Store → Bool} (P : Store → Prop) (R : D → Prop) (h0 : ∀ st, P st → ok st = true) (hs : ∀ d st, P st → ∃ x st', step d st = .ok (some x) st' ∧ P (st'.take st.length) ∧ R x) :
    ∀ (ds : List D) (st : Store), P st → ∃ xs st', lcGo step ok ds st = .ok xs st' ∧ P st' ∧ xs.length = ds.length ∧ ∀ x ∈ xs, R x
  | [], st, p => ⟨[], st, by simp [lcGo, h0 st p], p, rfl, by simp⟩
  | d :: ds, st, p => by
    obtain ⟨x, s1, e1, p1, r1⟩ := hs d st p
    obtain ⟨xs, s2, e2, p2, l2, r2⟩ := lc_inv P R h0 hs ds _ p1
    refine ⟨x :: xs, s2, by simp [lcGo, h0 st p, e1, e2], p2, by simp [l2], ?_⟩
    intro y hy
    rcases List.mem_cons.mp hy with rfl | hy
    · exact r1
    · exact r2 y hy
theorem bools_map (f : D → Bool) : ∀ l : List D, boolsOf (l.map fun d => .bl (f d)) = some (l.map f)
  | [] => rfl
  | d :: l => by simp [boolsOf, bools_map f l]
@[simp] theorem now_new (m : List D) (st : Store) : now (.obj st.length) (st ++ [.ls m]) = some (.lst m) := by simp [now]
@[simp] theorem nowAll_new (m : List D) (st : Store) : nowAll [.obj st.length] (st ++ [.ls m]) = some [.lst m] := by simp [nowAll, now]
@[simp] theorem freeze_new (m : List D) (st : Store) : freeze (.obj st.length) (st ++ [.ls m]) = some (.lst m, st ++ [.fz m]) := by
  simp [freeze]
theorem gCall_def {F : SemF} {f : Nat} {as : SemAs} {env : Env} {st : Store} : gCall F f as env st = settle st.length ((as env st).bind fun xs s1 => callIn (F f) xs s1) := rfl
/-! ### statements -/
theorem seq_nx {a b : SemS} {env env1 : Env} {st st1 : Store} (h : a env st = .nx env1 st1) : sSeq a b env st = b env1 st1 := by simp [sSeq, h]
theorem seq_rt {a b : SemS} {env : Env} {st st1 : Store} {v : A} (h : a env st = .rt v st1) : sSeq a b env st = .rt v st1 := by simp [sSeq, h]
theorem seq_ex {a b : SemS} {env env1 : Env} {st st1 : Store} {v : Exn} (h : a env st = .ex v env1 st1) : sSeq a b env st = .ex v env1 st1 := by simp [sSeq, h]
theorem ok_none {items : List D} {st : Store} : (Src.ok ⟨items, []⟩ st) = true := rfl
/-! ### whole comprehensions -/
theorem gLc_map {it : SemI} {tg : Tg} {cnd : SemT} {elt : SemE} {own : List Nat} {env : Env} {st : Store} {src : Src} (f : D → D) (h1 : it env st = .ok src st) (h2 : src.ok st = true) (h3 : src.items.length < LID)
    (h4 : ∀ d ∈ src.items, lcStep tg cnd elt (wipeE env own) d st = .ok (some (f d)) st) : gLc it tg cnd elt own env st = .ok (.obj st.length) (st ++ [.ls (src.items.map f)]) := by
  unfold gLc
  rw [h1]
  simp only [bind_ok]
  rw [if_pos h3, lc_map f h2 h4]
  simp
theorem gLc_filter {it : SemI} {tg : Tg} {cnd : SemT} {elt : SemE} {own : List Nat} {env : Env} {st : Store} {src : Src} (f : D → Option D) (h1 : it env st = .ok src st) (h2 : src.ok st = true) (h3 : src.items.length < LID)
    (h4 : ∀ d ∈ src.items, lcStep tg cnd elt (wipeE env own) d st = .ok (f d) st) : gLc it tg cnd elt own env st = .ok (.obj st.length) (st ++ [.ls (src.items.filterMap f)]) := by
  unfold gLc
  rw [h1]
  simp only [bind_ok]
  rw [if_pos h3, lc_filter f h2 h4]
  simp
/-! ### slices -/
theorem clip_nat (i n : Nat) : clip (i : Int) n = min i n := by simp [clip]
theorem cut_from {α : Type} (l : List α) (i : Nat) : cutL l (some (i : Int)) none = l.drop i := by
  unfold cutL
  simp only [clip_nat]
  by_cases h : i ≤ l.length
  · rw [Nat.min_eq_left h, List.take_of_length_le (by simp)]
  · rw [Nat.min_eq_right (by omega), List.drop_of_length_le (Nat.le_refl _), List.drop_of_length_le (by omega)]; simp
theorem cut_to {α : Type} (l : List α) (i : Nat) : cutL l none (some (i : Int)) = l.take i := by
  unfold cutL
  simp only [clip_nat, List.drop_zero, Nat.sub_zero]
  by_cases h : i ≤ l.length
  · rw [Nat.min_eq_left h]
  · rw [Nat.min_eq_right (by omega), List.take_of_length_le (by omega), List.take_of_length_le (by omega)]
theorem cut_both {α : Type} (l : List α) (i j : Nat) : cutL l (some (i : Int)) (some (j : Int)) = (l.drop i).take (j - i) := by
  unfold cutL
  simp only [clip_nat]
  by_cases h : i ≤ l.length
  · rw [Nat.min_eq_left h]
    by_cases h2 : j ≤ l.length
    · rw [Nat.min_eq_left h2]
    · rw [Nat.min_eq_right (by omega), List.take_of_length_le (by simp), List.take_of_length_le (by simp; omega)]
  · rw [Nat.min_eq_right (a := i) (by omega), List.drop_of_length_le (Nat.le_refl _), List.drop_of_length_le (by omega)]; simp
theorem cut_all {α : Type} (l : List α) : cutL l none none = l := by simp [cutL]
/-! ### a list just made, changed -/
theorem set_last (st : Store) (a b : MO) : (st ++ [a]).set st.length b = st ++ [b] := by simp
theorem take_last (st : Store) (a : MO) : (st ++ [a]).take st.length = st := by simp
@[simp] theorem get_last (st : Store) (a : MO) : (st ++ [a])[st.length]? = some a := by simp
@[simp] theorem take_more (st : Store) (a : MO) : (st ++ [a]).take (st.length + 1) = st ++ [a] := List.take_of_length_le (by simp)
@[simp] theorem take_more2 (st : Store) (a b : MO) : (st ++ [a, b]).take (st.length + 1) = st ++ [a] := by
  rw [show st ++ [a, b] = (st ++ [a]) ++ [b] by simp, List.take_left' (by simp)]
@[simp] theorem take_pre (st l : Store) (n : Nat) : (st ++ l).take (st.length + n) = st ++ l.take n := by
  rw [List.take_append, List.take_of_length_le (by omega)]; simp
@[simp] theorem get_last0 (st : Store) (a b : MO) : (st ++ [a, b])[st.length]? = some a := by simp
@[simp] theorem get_last1 (st : Store) (a b : MO) : (st ++ [a, b])[st.length + 1]? = some b := by simp
@[simp] theorem now_at0 (st r : Store) (m : List D) : now (.obj st.length) (st ++ .ls m :: r) = some (.lst m) := by simp [now]
@[simp] theorem now_at1 (st r : Store) (a : MO) (m : List D) : now (.obj (st.length + 1)) (st ++ a :: .ls m :: r) = some (.lst m) := by simp [now]
theorem joined_nil : ∀ ts : List (List Nat), joined [] ts = ts.flatten
  | [] => rfl
  | [x] => by simp [joined]
  | x :: y :: r => by
    have ih := joined_nil (y :: r)
    show x ++ [] ++ joined [] (y :: r) = _
    rw [ih]; simp
theorem texts_map : ∀ ts : List (List Nat), textsOf (ts.map D.str) = some ts
  | [] => rfl
  | x :: r => by simp [textsOf, texts_map r]
theorem lens_nil : ∀ ts : List (List Nat), lensOf [] ts = (ts.map List.length).sum
  | [] => rfl
  | x :: r => by simp [lensOf, lens_nil r]
end PD
end

section
set_option Elab.async false
set_option linter.all false
set_option maxRecDepth 100000
set_option maxHeartbeats 1000000
/-! PE1: rules of reckoning, one per form. -/
namespace PD
theorem take_len {st st1 : Store} (h : st1.length = st.length) : st1.take st.length = st1 := List.take_of_length_le (by omega)
theorem op1 {p : Prim} {g1 : SemE} {env : Env} {st st1 : Store} {x z : D} (h1 : g1 env st = .ok (.d x) st1) (hp : p [x] = some (.v z)) (hl : st1.length = st.length) : gOp p (gCons g1 gNil) env st = .ok (.d z) st1 := by
  simp only [ev_op, ev_cons, h1, bind_ok, gNil_ok, opOn, nowAll_d, nowAll_nil, Option.map, hp, give_v, settle_ok_d, take_len hl]
theorem op2 {p : Prim} {g1 g2 : SemE} {env : Env} {st st1 st2 : Store} {x y z : D} (h1 : g1 env st = .ok (.d x) st1) (h2 : g2 env st1 = .ok (.d y) st2) (hp : p [x, y] = some (.v z)) (hl : st2.length = st.length) : gOp p (gCons g1 (gCons g2 gNil)) env st = .ok (.d z) st2 := by
  simp only [ev_op, ev_cons, h1, h2, bind_ok, gNil_ok, opOn, nowAll_d, nowAll_nil, Option.map, hp, give_v, settle_ok_d, take_len hl]
theorem op3 {p : Prim} {g1 g2 g3 : SemE} {env : Env} {st st1 st2 st3 : Store} {x y w z : D} (h1 : g1 env st = .ok (.d x) st1) (h2 : g2 env st1 = .ok (.d y) st2) (h3 : g3 env st2 = .ok (.d w) st3) (hp : p [x, y, w] = some (.v z)) (hl : st3.length = st.length) : gOp p (gCons g1 (gCons g2 (gCons g3 gNil))) env st = .ok (.d z) st3 := by
  simp only [ev_op, ev_cons, h1, h2, h3, bind_ok, gNil_ok, opOn, nowAll_d, nowAll_nil, Option.map, hp, give_v, settle_ok_d, take_len hl]
theorem call_ok {F : SemF} {f : Nat} {as : SemAs} {env : Env} {st st1 st2 : Store} {xs : List A} {d : D} (h : as env st = .ok xs st1) (hx : xs.all A.free = true) (hf : F f xs [] = .ok (.d d) st2) (hl : st1.length = st.length) : gCall F f as env st = .ok (.d d) st1 := by
  simp only [gCall_def, h, bind_ok, callIn, hx, if_true, hf, lift, settle_ok_d, take_len hl]
theorem call_ex {F : SemF} {f : Nat} {as : SemAs} {env : Env} {st st1 st2 : Store} {xs : List A} {e : Exn} (h : as env st = .ok xs st1) (hx : xs.all A.free = true) (hf : F f xs [] = .exn e st2) (hl : st1.length = st.length) : gCall F f as env st = .exn e st1 := by
  simp only [gCall_def, h, bind_ok, callIn, hx, if_true, hf, lift, settle_exn, take_len hl]
theorem call_lst {F : SemF} {f n : Nat} {as : SemAs} {env : Env} {st st1 st2 : Store} {xs : List A} {m : MO} (h : as env st = .ok xs st1) (hx : xs.all A.free = true) (hf : F f xs [] = .ok (.obj n) st2) (hm : st2[n]? = some m) (hl : st1.length = st.length) : gCall F f as env st = .ok (.obj st.length) (st1 ++ [m]) := by
  simp only [gCall_def, h, bind_ok, callIn, hx, if_true, hf, lift, hm]
  rw [← hl, settle_new]
/-- with a thing of the store among the arguments -/
theorem call_ok' {F : SemF} {f : Nat} {as : SemAs} {env : Env} {st st1 st2 : Store} {xs : List A} {d : D} (h : as env st = .ok xs st1) (hx : xs.all A.free = false) (hf : F f xs st1 = .ok (.d d) st2) (hl : st2.length = st.length) : gCall F f as env st = .ok (.d d) st2 := by
  simp only [gCall_def, h, bind_ok, callIn, hx, Bool.false_eq_true, if_false, hf, settle_ok_d, take_len hl]
theorem call_new' {F : SemF} {f : Nat} {as : SemAs} {env : Env} {st st1 st2 : Store} {xs : List A} {m : MO} (h : as env st = .ok xs st1) (hx : xs.all A.free = false) (hf : F f xs st1 = .ok (.obj st.length) (st2 ++ [m])) (hl : st2.length = st.length) : gCall F f as env st = .ok (.obj st.length) (st2 ++ [m]) := by
  simp only [gCall_def, h, bind_ok, callIn, hx, Bool.false_eq_true, if_false, hf]
  rw [← hl, settle_new]
theorem set_nx {g : SemE} {env : Env} {st st1 : Store} {a : A} {i : Nat} (h : g env st = .ok a st1) : sSet i g env st = .nx (env.set i (some a)) st1 := by
  simp only [sSet, h, toS_ok]
theorem ret_rt {g : SemE} {env : Env} {st st1 : Store} {a : A} (h : g env st = .ok a st1) : sRet g env st = .rt a st1 := by
  simp only [sRet, h, toS_ok]
theorem tv {g : SemE} {env : Env} {st st1 : Store} {b : Bool} (h : g env st = .ok (.d (.bl b)) st1) (hl : st1.length = st.length) : tVal g env st = .ok b st1 := by
  simp only [tVal, h, bind_ok, now_d, okLen, if_true, D.truth, take_len hl]
theorem t_not {a : SemT} {env : Env} {st st1 : Store} {b : Bool} (h : a env st = .ok b st1) : tNot a env st = .ok (!b) st1 := by
  simp only [tNot, h, bind_ok]
theorem t_or_f {a b : SemT} {env : Env} {st st1 : Store} {o : Out Bool} (h : a env st = .ok false st1) (h2 : b env st1 = o) : tOr a b env st = o := by
  simp only [tOr, h, bind_ok, Bool.false_eq_true, if_false, h2]
theorem t_or_t {a b : SemT} {env : Env} {st st1 : Store} (h : a env st = .ok true st1) : tOr a b env st = .ok true st1 := by
  simp only [tOr, h, bind_ok, if_true]
theorem t_and_f {a b : SemT} {env : Env} {st st1 : Store} (h : a env st = .ok false st1) : tAnd a b env st = .ok false st1 := by
  simp only [tAnd, h, bind_ok, Bool.false_eq_true, if_false]
theorem t_and_t {a b : SemT} {env : Env} {st st1 : Store} {o : Out Bool} (h : a env st = .ok true st1) (h2 : b env st1 = o) : tAnd a b env st = o := by
  simp only [tAnd, h, bind_ok, if_true, h2]
theorem t_or {a b : SemT} {env : Env} {st : Store} {x y : Bool} (h : a env st = .ok x st) (h2 : b env st = .ok y st) : tOr a b env st = .ok (x || y) st := by
  cases x <;> simp [tOr, h, h2]
theorem t_and {a b : SemT} {env : Env} {st : Store} {x y : Bool} (h : a env st = .ok x st) (h2 : b env st = .ok y st) : tAnd a b env st = .ok (x && y) st := by
  cases x <;> simp [tAnd, h, h2]
theorem if_t {c : SemT} {a b : SemS} {env : Env} {st st1 : Store} (h : c env st = .ok true st1) : sIf c a b env st = a env st1 := by
  simp only [sIf, h, toS_ok, if_true]
theorem if_f {c : SemT} {a b : SemS} {env : Env} {st st1 : Store} (h : c env st = .ok false st1) : sIf c a b env st = b env st1 := by
  simp only [sIf, h, toS_ok, Bool.false_eq_true, if_false]
theorem gif_t {c : SemT} {a b : SemE} {env : Env} {st st1 : Store} (h : c env st = .ok true st1) : gIf c a b env st = a env st1 := by
  simp only [gIf, h, bind_ok, if_true]
theorem gif_f {c : SemT} {a b : SemE} {env : Env} {st st1 : Store} (h : c env st = .ok false st1) : gIf c a b env st = b env st1 := by
  simp only [gIf, h, bind_ok, Bool.false_eq_true, if_false]
theorem and_t {a b : SemE} {env : Env} {st st1 : Store} {o : Out A} (h : a env st = .ok (.d (.bl true)) st1) (h2 : b env st1 = o) : gAnd a b env st = o := by
  simp only [gAnd, h, bind_ok, h2]
theorem cons_ok {a : SemE} {r : SemAs} {env : Env} {st st1 st2 : Store} {x : A} {xs : List A} (h : a env st = .ok x st1) (h2 : r env st1 = .ok xs st2) : gCons a r env st = .ok (x :: xs) st2 := by
  simp only [ev_cons, h, h2, bind_ok]
theorem le_nat (a b : Nat) : pLe [.int a, .int b] = some (.v (.bl (decide (a ≤ b)))) := by
  by_cases h : a ≤ b
  · have : (a : Int) ≤ b := by omega
    simp [pLe, h]
  · have : ¬ (a : Int) ≤ b := by omega
    simp [pLe, h]
theorem gt_nat (a b : Nat) : pGt [.int a, .int b] = some (.v (.bl (decide (b < a)))) := by
  by_cases h : b < a
  · have : (b : Int) < a := by omega
    simp [pGt, h]
  · have : ¬ (b : Int) < a := by omega
    simp [pGt, h]
theorem ne_str (t u : List Nat) : pNe [.str t, .str u] = some (.v (.bl (!decide (t = u)))) := by
  by_cases h : t = u
  · subst h; simp [pNe, okDeep, D.deep, D.eqv]
  · simp [pNe, okDeep, D.deep, D.eqv, h]
theorem ne_bl (t u : Bool) : pNe [.bl t, .bl u] = some (.v (.bl (!decide (t = u)))) := by
  cases t <;> cases u <;> rfl
theorem add_nat (a b : Nat) : pAdd [.int a, .int b] = some (.v (.int ((a + b : Nat) : Int))) := rfl
theorem freezeAll_ds : ∀ (ds : List D) (st : Store), freezeAll (ds.map A.d) st = some (ds, st)
  | [], _ => rfl
  | d :: ds, st => by simp [freezeAll_ds ds st]
theorem tup_ok {as : SemAs} {env : Env} {st st1 : Store} {ds : List D} (h : as env st = .ok (ds.map A.d) st1) (hn : ds.length ≤ LID) (hl : st1.length = st.length) : gTup as env st = .ok (.d (.tup ds)) st1 := by
  simp only [gTup, h, bind_ok, freezeAll_ds, hn, if_true, settle_ok_d, take_len hl]
theorem lst_ok {as : SemAs} {env : Env} {st st1 : Store} {ds : List D} (h : as env st = .ok (ds.map A.d) st1) (hn : ds.length ≤ LID) (hl : st1.length = st.length) : gLst as env st = .ok (.obj st.length) (st1 ++ [.ls ds]) := by
  simp only [gLst, h, bind_ok, freezeAll_ds, hn, if_true]
  rw [← hl, settle_new]
end PD
end

section
set_option Elab.async false
set_option linter.all false
set_option maxRecDepth 100000
set_option maxHeartbeats 1000000
/-! PF0: the end of a law: what the written part says, gathered. -/
namespace PD
open PySem PySem.Spec PyProof.Rows L2
section
variable {K : Fr} {h : Heap} {mg : Str → Option Value} {goal : Prop}
theorem with_fn (x : Str) (st : Stmt) (KX : K.In h) {f : Addr} {oc : Value} {od : Option Addr} {kV doc pm : Value} {an : Option Addr} {cdv ct : Value} {osl : Array (Option Value)}
    (a : PySem.W.nsIn K mainGlobals x = some (some (.ref f)))
    (l : K.lookup f = some ⟨oc, od, .func (PySem.W.fnOf x x (defArgs st) (defBody st) (defScope st) .none kV doc pm an cdv ct), osl⟩)
    (c : PySem.W.codeIn K cdv x = true) (k : PySem.W.keepIn K (.ref f) = true) (g : FnIn K x st f → goal) : goal :=
  g ⟨a, ⟨oc, od, kV, doc, pm, an, cdv, ct, osl, l, c⟩, k⟩
theorem with_none (x : Str) (KX : K.In h) (G : h.Ns mainGlobals mg) (a : PySem.W.nsIn K mainGlobals x = some none) (g : mg x = none → goal) : goal := g (PySem.W.mg_none_of KX G a)
theorem with_int (x : Str) (KX : K.In h) (G : h.Ns mainGlobals mg) {n : Int} {t : Tok} (a : PySem.W.nsIn K mainGlobals x = some (some (.int n t))) (g : mg x = some (.int n t) → goal) : goal := g (PySem.W.mg_of KX G a)
theorem with_str (x : Str) (KX : K.In h) (G : h.Ns mainGlobals mg) {s : Str} {t : Tok} (a : PySem.W.nsIn K mainGlobals x = some (some (.str s t))) (g : mg x = some (.str s t) → goal) : goal := g (PySem.W.mg_of KX G a)
theorem with_bool (x : Str) (KX : K.In h) (G : h.Ns mainGlobals mg) {b : Bool} (a : PySem.W.nsIn K mainGlobals x = some (some (.bool b))) (g : mg x = some (.bool b) → goal) : goal := g (PySem.W.mg_of KX G a)
end
def excB (K : PySem.W.Frag) (D : Addr) : Bool :=
  decide (PySem.W.findIn K (.ref D) "__getattribute__" = some (some (.builtin "BaseException.__getattribute__"))) && (decide (PySem.W.findIn K (.ref D) "__getattr__" = some none) && (decide (PySem.W.subIn K (.ref D) (.type "BaseException") = some true) && (PySem.W.hasDictIn K D && (decide (PySem.W.findIn K (.ref D) "__class__" = some (some (.builtin "object.__class__"))) &&
  (decide (PySem.W.specialIn K (.builtin "object.__class__") "__get__" = some (some (.builtin "getset_descriptor.__get__"))) && (decide (PySem.W.takesIn K (.builtin "object.__class__") = some true) && decide (PySem.W.mroIn K D (.type "object") = some true)))))))
theorem excB_ok {K : PySem.W.Frag} {D : Addr} (h : excB K D = true) : ExcC K D := by
  unfold excB at h
  simp only [Bool.and_eq_true, decide_eq_true_eq] at h
  obtain ⟨h1, h2, h3, h4, h5, h6, h7, h8⟩ := h
  exact ⟨h1, h2, h3, h4, h5, h6, h7, h8⟩
/-- what the written part says of an error class with the field o, or with none -/
structure ClsIn (P : Program) (K : Fr) (o : Option Str) (A : Addr) : Prop where
  kp : PySem.W.keepIn K (.ref A) = true
  sb : PySem.W.subIn K (.ref A) (.type "BaseException") = some true
  ty : PySem.W.typeIn K (.ref A) = some (.type "type")
  exc : ExcC K A
  no : o = none → PySem.W.excIn K A exTl "Exception.__new__" = true
  arg : ∀ f, o = some f → XfC K A ∧ PySem.W.findIn K (.ref A) f = some none ∧ ∃ fI px, SupC P K A fI f px
section
variable {P : Program} {K : Fr} {h : Heap} {mg : Str → Option Value} {goal : Prop}
theorem with_cls (x : Str) (KX : K.In h) (G : h.Ns mainGlobals mg) {A : Addr} (a : PySem.W.nsIn K mainGlobals x = some (some (.ref A))) (kp : PySem.W.keepIn K (.ref A) = true) (sb : PySem.W.subIn K (.ref A) (.type "BaseException") = some true)
    (ty : PySem.W.typeIn K (.ref A) = some (.type "type")) (ex : PySem.W.excIn K A exTl "Exception.__new__" = true) (xe : excB K A = true) (g : mg x = some (.ref A) → ClsIn P K none A → goal) : goal :=
  g (PySem.W.mg_of KX G a) ⟨kp, sb, ty, excB_ok xe, fun _ => ex, fun f e => by cases e⟩
theorem with_sup (x f px : Str) (KX : K.In h) (G : h.Ns mainGlobals mg) {C fI cc cda : Addr} {oc : Value} {od : Option Addr} {osl : Array (Option Value)} {name qual : Str} {params : Arguments} {scope : Scope} {dV kV doc pm ct : Value} {an : Option Addr} {body : List Stmt} {p0 p1 p2 p3 p4 p5 p6 p7 p8 p9 : Pos} {ar : Arg}
    {ccl : Value} {cdd : Option Addr} {vs : Array Value} {ccs : Array (Option Value)} {file : Str} {tf : Tok} {cl : Value} {cld : Option Addr} {csl : Array (Option Value)}
    (a : PySem.W.nsIn K mainGlobals x = some (some (.ref C)))
    (hi : PySem.W.findIn K (.ref C) "__init__" = some (some (.ref fI)))
    (l : K.lookup fI = some ⟨oc, od, .func (PySem.W.ksFn name qual params body scope dV kV doc pm an (.ref cda) ct cc), osl⟩)
    (lc : K.lookup cda = some ⟨ccl, cdd, .fields vs, ccs⟩)
    (ll : K.lookup cc = some ⟨cl, cld, .cell (some (.ref C)), csl⟩)
    (hb : body = [.Expr (.Call (.Attribute (.Call (.Name "super" p0) [] [] p1) "__init__" p2) [.Name px p3] [] p4) p5, .Assign [.Attribute (.Name "self" p6) f p7] (.Name px p8) p9])
    (ha : (params.posonlyargs ++ params.args).head? = some ar) (han : ar.arg = "self")
    (hv : vs[2]? = some (.str file tf))
    (q : PySem.W.excInitIn K C exTl "Exception.__new__" = true) (ov : PySem.W.excOver K C exTl = true) (hf : PySem.W.isFn K (.ref fI) = true) (kC : PySem.W.keepIn K (.ref C) = true)
    (sa : PySem.W.findIn K (.ref C) "__setattr__" = some (some (.builtin "object.__setattr__"))) (tk : PySem.W.takerIn K C f = some none) (dc : PySem.W.hasDictIn K C = true)
    (su : PySem.W.ks_superIn K C C "__init__" = some (some (.builtin "Exception.__init__"))) (sx : PySem.W.subIn K (.ref C) (.type "Exception") = some true) (sb : PySem.W.subIn K (.ref C) (.type "BaseException") = some true)
    (ty : PySem.W.typeIn K (.ref C) = some (.type "type")) (mr : PySem.W.mroIn K C (.ref C) = some true) (tp : PySem.W.nsIn K cStatics "thirdparty.any" = some none) (sp : PySem.W.nsIn K mainGlobals "super" = some none)
    (s1 : scope.kind = .function) (s2 : scope.isCoroutine = false) (s3 : scope.isGenerator = false) (s4 : ∀ x ∈ scope.names, x.2 ≠ .cell)
    (s5 : scope.names.lookup ("super" : Str) = some .globalImplicit) (s6 : scope.names.lookup ("__class__" : Str) = some .free) (s7 : scope.names.lookup ("self" : Str) = some .local) (s8 : scope.names.lookup px = some .local)
    (cd : PySem.W.codeIn K (.ref cda) qual = true) (m1 : ((P.main.file : Str) == file) = true) (m2 : (P.main.scope.names.lookup ("super" : Str)).isSome = false)
    (bi : Binds K (PySem.W.ksFn name qual params body scope dV kV doc pm an (.ref cda) ct cc) ["self", px] []) (x1 : ("self" : Str) ≠ px) (x2 : (px == ("__debug__" : Str)) = false) (x3 : (px == ("__classdict__" : Str)) = false)
    (pl : ∃ pl : Sem Bool, ∀ L : Addr, eval (.Call (.Attribute (.Call (.Name "super" p0) [] [] p1) "__init__" p2) [.Name px p3] [] p4) (PySem.W.ksEnv qual scope L fI (.ref cda) cc) = (do
      let ov ← attributeBase (.Call (.Name "super" p0) [] [] p1) "__init__" (PySem.W.ksEnv qual scope L fI (.ref cda) cc) (eval (.Call (.Name "super" p0) [] [] p1) (PySem.W.ksEnv qual scope L fI (.ref cda) cc))
      standAt p2.atName
      let (f, first) ← holding [ov] (getMethod ov "__init__" pl)
      callWith p4 f first (backTo p4 (starEach [.Name px p3] (PySem.W.ksEnv qual scope L fI (.ref cda) cc))) []))
    (xf : xfB K C = true) (xe : excB K C = true) (fd : PySem.W.findIn K (.ref C) f = some none)
    (g : mg x = some (.ref C) → ClsIn P K (some f) C → goal) : goal :=
  g (PySem.W.mg_of KX G a) ⟨kC, sb, ty, excB_ok xe, fun e => (nomatch e), fun f' e => by
    cases e
    exact ⟨xfB_ok xf, fd, fI, px, ⟨q, ov, hi, hf, kC, sa, tk, dc, su, sx, sb, ty, mr, tp, sp, cc, cda, oc, od, osl, name, qual, params, scope, dV, kV, doc, pm, ct, an, body, p0, p1, p2, p3, p4, p5, p6, p7, p8, p9, ar, ccl, cdd, vs, ccs, file, tf, cl, cld, csl,
      l, hb, ha, han, s1, s2, s3, s4, s5, s6, s7, s8, cd, lc, hv, m1, m2, ll, bi, x1, x2, x3, pl⟩⟩⟩
end
/-- what a name of the module is -/
def AllTab (K : Fr) (ad : Addr) (fs : List Addr) : Tab → Prop
  | [] => True
  | (s, f) :: r => (∃ fa, fs[f]? = some fa ∧ PySem.W.nsIn K ad ⟨s.toArray⟩ = some (some (.ref fa))) ∧ AllTab K ad fs r
theorem AllTab.get {K : Fr} {ad : Addr} {fs : List Addr} : ∀ {l : Tab} {s : List Nat} {f : Nat}, AllTab K ad fs l → l.lookup s = some f → ∃ fa, fs[f]? = some fa ∧ PySem.W.nsIn K ad ⟨s.toArray⟩ = some (some (.ref fa))
  | [], _, _, _, e => by cases e
  | (y, j) :: r, s, f, h, e => by
    rw [List.lookup_cons] at e
    split at e
    · rename_i q
      cases e
      have := eq_of_beq q
      subst this
      exact h.1
    · exact AllTab.get h.2 e
def NmOk (w : World) (K : Fr) (mg : Str → Option Value) (fs xs : List Addr) : Str × GK → Prop
  | (x, .con d) => ∃ v u, mg x = some u ∧ RelV v u ∧ ∀ H, RepD K H d v
  | (x, .fn f) => ∃ ad, mg x = some (.ref ad) ∧ fs[f]? = some ad
  | (x, .blt) => mg x = none
  | (x, .cls cn) => ∃ A, mg x = some (.ref A) ∧ xs[cn]? = some A
  | (x, .tab l) => ∃ ad, mg x = some (.ref ad) ∧ (∃ es n, KDict K w ad es n) ∧ AllTab K ad fs l
def AllNm (w : World) (K : Fr) (mg : Str → Option Value) (fs xs : List Addr) : List (Str × GK) → Prop
  | [] => True
  | p :: r => NmOk w K mg fs xs p ∧ AllNm w K mg fs xs r
theorem AllNm.get {w : World} {K : Fr} {mg : Str → Option Value} {fs xs : List Addr} : ∀ {l : List (Str × GK)} {x : Str} {k : GK}, AllNm w K mg fs xs l → l.lookup x = some k → NmOk w K mg fs xs (x, k)
  | [], _, _, _, e => by cases e
  | (y, j) :: r, x, k, h, e => by
    rw [List.lookup_cons] at e
    split at e
    · rename_i q
      cases e
      have := eq_of_beq q
      subst this
      exact h.1
    · exact AllNm.get h.2 e
theorem nm_int {w : World} {K : Fr} {mg : Str → Option Value} {fs xs : List Addr} {x : Str} {n : Int} {t : Tok} (h : mg x = some (.int n t)) : NmOk w K mg fs xs (x, .con (.int n)) := ⟨.int n, _, h, ⟨t, rfl⟩, fun _ => rfl⟩
theorem nm_str {w : World} {K : Fr} {mg : Str → Option Value} {fs xs : List Addr} {x : Str} {s : Str} {l : List Nat} {t : Tok} (h : mg x = some (.str s t)) (e : s = ⟨l.toArray⟩) (gd : goodS l = true) : NmOk w K mg fs xs (x, .con (.str l)) := ⟨.str s, _, h, ⟨t, rfl⟩, fun _ => ⟨by rw [e], gd⟩⟩
theorem nm_bool {w : World} {K : Fr} {mg : Str → Option Value} {fs xs : List Addr} {x : Str} {b : Bool} (h : mg x = some (.bool b)) : NmOk w K mg fs xs (x, .con (.bl b)) := ⟨.bl b, _, h, rfl, fun _ => rfl⟩
theorem nm_fn {w : World} {K : Fr} {h : Heap} {mg : Str → Option Value} (KX : K.In h) (G : h.Ns mainGlobals mg) {fs xs : List Addr} {x : Str} {st : Stmt} {f : Nat} {ad : Addr} (i : FnIn K x st ad) (e : fs[f]? = some ad) : NmOk w K mg fs xs (x, .fn f) := ⟨ad, PySem.W.mg_of KX G i.ns, e⟩
theorem nm_cls {w : World} {K : Fr} {mg : Str → Option Value} {fs xs : List Addr} {x : Str} {cn : Nat} {A : Addr} (i : mg x = some (.ref A)) (e : xs[cn]? = some A) : NmOk w K mg fs xs (x, .cls cn) := ⟨A, i, e⟩
theorem nm_tab {w : World} {K : Fr} {mg : Str → Option Value} {fs xs : List Addr} {x : Str} {l : Tab} {ad : Addr} (a : mg x = some (.ref ad)) (D : ∃ es n, KDict K w ad es n) (t : AllTab K ad fs l) : NmOk w K mg fs xs (x, .tab l) := ⟨ad, a, D, t⟩
theorem with_tab {K : Fr} {h : Heap} {mg : Str → Option Value} {goal : Prop} (w : World) (x : Str) (KX : K.In h) (G : h.Ns mainGlobals mg) {ad : Addr} {es : Array DictEntry} {n : Nat} (a : PySem.W.nsIn K mainGlobals x = some (some (.ref ad)))
    (l : K.lookup ad = some ⟨.type "dict", none, .dict es n, #[]⟩) (lit : PySem.W.KeysLit w.params es.toList) (low : (ad == sysModules) = false) (g : mg x = some (.ref ad) → (∃ es n, KDict K w ad es n) → goal) : goal :=
  g (PySem.W.mg_of KX G a) ⟨es, n, l, lit, low⟩
theorem with_tups {K : Fr} {h : Heap} {mg : Str → Option Value} {goal : Prop} (x : Str) (KX : K.In h) (G : h.Ns mainGlobals mg) {ad : Addr} {its : Array Value} {n : Nat} {sl : Array (Option Value)} {ls : List (List Nat)} (a : PySem.W.nsIn K mainGlobals x = some (some (.ref ad)))
    (l : K.lookup ad = some ⟨.type "tuple", none, .seq its n, sl⟩) (z : its.size ≤ 1000) (ss : Paired (fun s u => ∃ t, u = Value.str ⟨s.toArray⟩ t ∧ goodS s = true) ls its.toList)
    (g : (∀ (w : World) (fs xs : List Addr), NmOk w K mg fs xs (x, .con (.tup (ls.map D.str)))) → goal) : goal := by
  refine g fun w fs xs => ⟨.ref ad, .ref ad, PySem.W.mg_of KX G a, rfl, fun H => ⟨ad, ls.map fun s => V.str ⟨s.toArray⟩, rfl, .inr ⟨_, its, n, l, rfl, rfl, by rw [sizeLine_eq]; omega, ?_⟩, ?_⟩⟩
  · generalize its.toList = us at ss
    clear l z a g
    induction ss with
    | nil => exact .nil
    | cons h t ih =>
      obtain ⟨t, e, _⟩ := h
      exact .cons ⟨t, e⟩ ih
  · generalize its.toList = us at ss
    clear l z a g
    induction ss with
    | nil => rfl
    | cons h t ih =>
      obtain ⟨t, e, gd⟩ := h
      exact .cons (d := .str _) ⟨rfl, gd⟩ ih
theorem with_item {K : Fr} {w : World} {goal : Prop} {ad : Addr} (x : Str) (s : List Nat) (e : x = ⟨s.toArray⟩) (D : ∃ es n, KDict K w ad es n) {fa : Addr} (a : PySem.W.nsIn K ad x = some (some (.ref fa))) (g : PySem.W.nsIn K ad ⟨s.toArray⟩ = some (some (.ref fa)) → goal) : goal := by
  subst e
  exact g a
/-- the tests of except clauses -/
def subChk (K : Fr) (xs : List Addr) (sub : Nat → Nat → Bool) : Bool :=
  (List.range xs.length).all fun a => (List.range xs.length).all fun b => match xs[a]?, xs[b]? with
    | some A, some B => decide (PySem.W.exmOne K (.ref A) (.ref B) = some (sub a b))
    | _, _ => false
theorem subChk_ok {K : Fr} {xs : List Addr} {sub : Nat → Nat → Bool} (h : subChk K xs sub = true) : ∀ (a b : Nat) (A B : Addr), xs[a]? = some A → xs[b]? = some B → PySem.W.exmOne K (.ref A) (.ref B) = some (sub a b) := fun a b A B ha hb => by
  have la := (List.getElem?_eq_some_iff.mp ha).1
  have lb := (List.getElem?_eq_some_iff.mp hb).1
  have h1 := List.all_eq_true.mp (List.all_eq_true.mp h a (List.mem_range.mpr la)) b (List.mem_range.mpr lb)
  rw [ha, hb] at h1
  exact of_decide_eq_true h1
def xfOf (cls : List (Option Str)) (n : Nat) : Str := match cls[n]? with | some (some f) => f | _ => ""
theorem mod_mk {P : Program} {K : Fr} {mg : Str → Option Value} {glL : List (Str × GK)} {cls : List (Option Str)} {sub : Nat → Nat → Bool} {fs xs : List Addr} {w : World} (hn : AllNm w K mg fs xs glL) (hc : Paired (ClsIn P K) cls xs) (hs : subChk K xs sub = true) :
    ModOk ⟨K, fun n => fs[n]?, fun n => xs[n]?, xfOf cls⟩ P w K mg (fun x => glL.lookup x) cls sub where
  eqK := rfl
  gcon := fun x d e => ⟨hn.get e⟩
  gfn := fun x f e => hn.get e
  gblt := fun x e => hn.get e
  gtab := fun x l e => by
    obtain ⟨ad, h1, h2, h3⟩ := hn.get e
    exact ⟨ad, h1, h2, fun s f e => AllTab.get h3 e⟩
  gcls := fun x cn e => hn.get e
  cok :=
    { lt := fun cn A e => by
        have h1 := (List.getElem?_eq_some_iff.mp e).1
        rw [Paired.length hc]; exact h1
      kp := fun cn A e => by
        obtain ⟨o, _, i⟩ := rowP_get hc e
        exact ⟨i.kp, i.sb, i.ty⟩
      exc := fun cn A e => by
        obtain ⟨o, _, i⟩ := rowP_get hc e
        exact i.exc
      no := fun cn A e e2 => by
        obtain ⟨o, e1, i⟩ := rowP_get hc e
        rw [e2] at e1
        cases e1
        exact i.no rfl
      arg := fun cn A f e e2 => by
        obtain ⟨o, e1, i⟩ := rowP_get hc e
        rw [e2] at e1
        cases e1
        exact ⟨by show xfOf cls cn = f; unfold xfOf; rw [e2], i.arg f rfl⟩ }
  tab := subChk_ok hs
/-- the law's end -/
theorem law_end {l : PySem.W.OpenLaw} {w : World} {K : Fr} {mg : Str → Option Value} {fa : Addr} {h : Heap} {G : Gb} {gl : Str → Option GK} {cls : List (Option Str)} {sub : Nat → Nat → Bool} (KX : K.In h) (GN : h.Ns mainGlobals mg) (hmg : mg "law" = some (.ref fa))
    (M : ModOk G l.prog w K mg gl cls sub) {T : List DefD} {fs : List Addr} (hT : ∀ d ∈ T, d.Ok gl cls sub) (hF : Paired (fun d f => FnIn K d.x d.st f) T fs) (hfa : G.fa = fun n => fs[n]?)
    (hK : noLists K = true) {j n : Nat} {d : DefD} {ad : Addr} (hd : d ∈ T) (hx : d.x = "law") (hps : d.ps = [("script" : Str)]) (hI : FnIn K d.x d.st ad)
    (hlaw : ∀ ns : List Int, ns.length ≤ n → semDef 1 d.N.length (d.g (semT T j)) [.d (.lst (ns.map D.int))] [] = .ok (.d (.bl true)) []) :
    ∃ fd : FuncData, (∀ (s : Shared) (u : Value), BindsTo s fd ⟨[u], []⟩ [("script", u)]) ∧ ∀ base : Heap, K.In base → base.Ns mainGlobals mg → FnOk l.prog w K mg base (L2.CX l.prog w) (2 * j + 2) fa fd ["script"] (spLaw K n) := by
  have e2 : mg d.x = some (.ref ad) := PySem.W.mg_of KX GN hI.ns
  rw [hx] at e2
  have e := Option.some.inj (hmg.symm.trans e2)
  cases e
  obtain ⟨oc, od, kV, doc, pm, an, cdv, ct, osl, lk, c⟩ := hI.ex
  have o := hT d hd
  refine ⟨PySem.W.fnOf d.x d.x (defArgs d.st) (defBody d.st) (defScope d.st) .none kV doc pm an cdv ct, fun s v => .of_eq ?_, fun base _ _ => law_fn M hT hF hfa hK hd hps (fun_mk lk c hI.kp) hlaw⟩
  have b := o.bd kV doc pm an cdv ct [v] (by rw [hps]; rfl)
  rw [hps] at b
  exact b
theorem law_end2 {l : PySem.W.OpenLaw} {w : World} {K : Fr} {mg : Str → Option Value} {fa : Addr} {h : Heap} {glL : List (Str × GK)} {cls : List (Option Str)} {sub : Nat → Nat → Bool} (KX : K.In h) (GN : h.Ns mainGlobals mg) (hmg : mg "law" = some (.ref fa))
    {T : List DefD} {fs xs : List Addr} (hF : Paired (fun d f => FnIn K d.x d.st f) T fs) (hc : Paired (ClsIn l.prog K) cls xs) (hn : AllNm w K mg fs xs glL) (hs : subChk K xs sub = true) (hT : ∀ d ∈ T, d.Ok (fun x => glL.lookup x) cls sub)
    (hK : noLists K = true) {j n : Nat} {d : DefD} {ad : Addr} (hI : FnIn K d.x d.st ad) (hd : d ∈ T) (hx : d.x = "law") (hps : d.ps = [("script" : Str)])
    (hlaw : ∀ ns : List Int, ns.length ≤ n → semDef 1 d.N.length (d.g (semT T j)) [.d (.lst (ns.map D.int))] [] = .ok (.d (.bl true)) []) :
    ∃ fd : FuncData, (∀ (s : Shared) (u : Value), BindsTo s fd ⟨[u], []⟩ [("script", u)]) ∧ ∀ base : Heap, K.In base → base.Ns mainGlobals mg → FnOk l.prog w K mg base (L2.CX l.prog w) (2 * j + 2) fa fd ["script"] (spLaw K n) :=
  law_end KX GN hmg (mod_mk hn hc hs) hT hF rfl hK hd hx hps hI hlaw
theorem walk_law {l : PySem.W.OpenLaw} {n k : Nat} {q : Program} {loose : List Str} {XP : (Str → Option Value) → Heap → Prop} {YP : World → Heap → Prop} {d : DefRec} {K : Params → Fr}
    (hn : l.most = some n) (hn2 : n ≤ sizeLine) (hdf : d.params.defaults = []) (hr : Room k callerA)
    (hY : ∀ (w : World) (h : Heap), YP w h → (K w.params).In h)
    (F : ∀ (w : World) (mg : Str → Option Value) (fa : Addr) (h : Heap), (K w.params).In h → h.Ns mainGlobals mg → mg d.name = some (.ref fa) →
      ∃ fd : FuncData, (∀ (s : Shared) (u : Value), BindsTo s fd ⟨[u], []⟩ [("script", u)]) ∧
        ∀ base : Heap, (K w.params).In base → base.Ns mainGlobals mg → FnOk l.prog w (K w.params) mg base (L2.CX l.prog w) k fa fd ["script"] (spLaw (K w.params) n)) :
    PySem.W.WalkO q loose XP YP l.row.toRowW d [] (fun f vs => PySem.call f vs) :=
  L2.walk_of (CX := fun w => L2.CX l.prog w) (sp := fun w => spLaw (K w.params) n) hn hn2 hdf hr hY F (fun w H a ns hl hO hS => ⟨a, ns, rfl, hl, hO, hS, fun v H' e => e⟩) fun w H s e s' ⟨a, B, H', cls, d, _, _, _, _, _, _, _, z⟩ => z
end PD
end

section
set_option Elab.async false
set_option linter.all false
set_option maxRecDepth 100000
set_option maxHeartbeats 1000000
/-! PL0: the draws of the laws: bags, draws, one of a row. -/
namespace PD
def gDraw : SemS :=
  (sSeq (sIf (tVal (gOp pLt2 (gCons (gVar 1) (gCons (gCon (.int 1)) gNil)))) (sRet (gCon (.int 0))) sNext)
    (sSeq (sIf (tVal (gOp pEq (gCons (gOp pIx (gCons (gVar 0) (gCons (gCon (.int 0)) gNil))) (gCons (gCon (.int 0)) gNil)))) (sSeq (sSetIx (gVar 0) (gCon (.int 2)) (gOp pAdd (gCons (gOp pIx (gCons (gVar 0) (gCons (gCon (.int 2)) gNil))) (gCons (gCon (.int 1)) gNil))))
    (sSeq (sSet 2 (gOp pMod (gCons (gOp pInt2 (gCons (gOp pAdd (gCons (gOp pAdd (gCons (gOp pAdd (gCons (gOp pMul (gCons (gOp pIx (gCons (gVar 0) (gCons (gCon (.int 1)) gNil))) (gCons (gCon (.int 48271)) gNil))) (gCons (gOp pMul (gCons (gOp pIx (gCons (gVar 0) (gCons (gCon (.int 3)) gNil))) (gCons (gCon (.int 69621)) gNil))) gNil))) (gCons (gOp pMul (gCons (gOp pIx (gCons (gVar 0) (gCons (gCon (.int 2)) gNil))) (gCons (gCon (.int 16807)) gNil))) gNil))) (gCons (gCon (.int 11)) gNil))) gNil)) (gCons (gCon (.int 2147483647)) gNil))))
    (sSeq (sSetIx (gVar 0) (gCon (.int 0)) (gOp pAdd (gCons (gOp pMul (gCons (gVar 2) (gCons (gCon (.int 2147483629)) gNil))) (gCons (gOp pMod (gCons (gOp pInt2 (gCons (gOp pAdd (gCons (gOp pMul (gCons (gVar 2) (gCons (gVar 2) gNil))) (gCons (gOp pIx (gCons (gVar 0) (gCons (gCon (.int 3)) gNil))) gNil))) gNil)) (gCons (gCon (.int 2147483629)) gNil))) gNil))))
    (sSeq (sIf (tAnd (tVal (gOp pEq (gCons (gOp pIx (gCons (gVar 0) (gCons (gCon (.int 2)) gNil))) (gCons (gCon (.int 1)) gNil)))) (tVal (gOp pGe (gCons (gOp pIx (gCons (gVar 0) (gCons (gCon (.int 3)) gNil))) (gCons (gOp pPow (gCons (gCon (.int 10)) (gCons (gCon (.int 18)) gNil))) gNil))))) (sSetIx (gVar 0) (gCon (.int 0)) (gOp pIx (gCons (gVar 0) (gCons (gCon (.int 3)) gNil)))) sNext)
    (sSetIx (gVar 0) (gCon (.int 1)) (gVar 2)))))) sNext)
    (sSeq (sSet 3 (gOp pIx (gCons (gVar 0) (gCons (gCon (.int 0)) gNil))))
    (sSeq (sSetIx (gVar 0) (gCon (.int 0)) (gOp pFdiv (gCons (gVar 3) (gCons (gVar 1) gNil))))
    (sRet (gOp pMod (gCons (gOp pInt2 (gCons (gVar 3) gNil)) (gCons (gVar 1) gNil))))))))
theorem pInt2_int (i : Int) : pInt2 [.int i] = some (.v (.int i)) := rfl
def IsBag (c : List D) : Prop := ∃ a b x y : Int, c = [.int a, .int b, .int x, .int y]
theorem ix_obj (st : Store) (n : Nat) (a b x y : Int) (h : st[n]? = some (.ls [.int a, .int b, .int x, .int y])) (env : Env) (i : Nat) (h0 : env[i]? = some (some (.obj n))) :
    gOp pIx (gCons (gVar i) (gCons (gCon (.int 0)) gNil)) env st = .ok (.d (.int a)) st ∧ gOp pIx (gCons (gVar i) (gCons (gCon (.int 1)) gNil)) env st = .ok (.d (.int b)) st
    ∧ gOp pIx (gCons (gVar i) (gCons (gCon (.int 2)) gNil)) env st = .ok (.d (.int x)) st ∧ gOp pIx (gCons (gVar i) (gCons (gCon (.int 3)) gNil)) env st = .ok (.d (.int y)) st := by
  have hn : ∀ r : List A, nowAll (.obj n :: r) st = (nowAll r st).map (D.lst [.int a, .int b, .int x, .int y] :: ·) := fun r => by
    cases hr : nowAll r st <;> simp [nowAll, now, h, hr]
  have i0 : pIx [.lst [.int a, .int b, .int x, .int y], .int 0] = some (.v (.int a)) := rfl
  have i1 : pIx [.lst [.int a, .int b, .int x, .int y], .int 1] = some (.v (.int b)) := rfl
  have i2 : pIx [.lst [.int a, .int b, .int x, .int y], .int 2] = some (.v (.int x)) := rfl
  have i3 : pIx [.lst [.int a, .int b, .int x, .int y], .int 3] = some (.v (.int y)) := rfl
  refine ⟨?_, ?_, ?_, ?_⟩ <;> simp [ev_op, ev_cons, gVar, h0, opOn, hn, i0, i1, i2, i3, take_self]
theorem set_ix (env : Env) (st : Store) (n i m : Nat) (k : Int) (l : List D) (g : SemE) (v : D) (h0 : env[i]? = some (some (.obj n))) (hg : g env st = .ok (.d v) st) (h : st[n]? = some (.ls l)) (hp : place k l.length = some m) :
    sSetIx (gVar i) (gCon (.int k)) g env st = .nx env (st.set n (.ls (l.set m v))) := by
  have ht : (st.set n (.ls (l.set m v))).take st.length = st.set n (.ls (l.set m v)) := List.take_of_length_le (by simp)
  simp [sSetIx, hg, gVar, h0, h, hp, ht]
theorem get_set {st : Store} {n : Nat} {x : MO} (y : MO) (h : st[n]? = some x) : (st.set n y)[n]? = some y := by
  have : n < st.length := by
    rcases Nat.lt_or_ge n st.length with h1 | h1
    · exact h1
    · rw [List.getElem?_eq_none h1] at h; cases h
  simp [this]
theorem small_mod (i : Int) : smallI (i % 2147483647) = true := by
  have h1 := Int.emod_nonneg i (show (2147483647 : Int) ≠ 0 by decide)
  have h2 := Int.emod_lt_of_pos i (show (0 : Int) < 2147483647 by decide)
  unfold smallI
  rw [Bool.and_eq_true, decide_eq_true_eq, decide_eq_true_eq]
  omega
/-- the part of a draw that makes new numbers -/
def drawIf : SemS :=
  (sIf (tVal (gOp pEq (gCons (gOp pIx (gCons (gVar 0) (gCons (gCon (.int 0)) gNil))) (gCons (gCon (.int 0)) gNil)))) (sSeq (sSetIx (gVar 0) (gCon (.int 2)) (gOp pAdd (gCons (gOp pIx (gCons (gVar 0) (gCons (gCon (.int 2)) gNil))) (gCons (gCon (.int 1)) gNil))))
    (sSeq (sSet 2 (gOp pMod (gCons (gOp pInt2 (gCons (gOp pAdd (gCons (gOp pAdd (gCons (gOp pAdd (gCons (gOp pMul (gCons (gOp pIx (gCons (gVar 0) (gCons (gCon (.int 1)) gNil))) (gCons (gCon (.int 48271)) gNil))) (gCons (gOp pMul (gCons (gOp pIx (gCons (gVar 0) (gCons (gCon (.int 3)) gNil))) (gCons (gCon (.int 69621)) gNil))) gNil))) (gCons (gOp pMul (gCons (gOp pIx (gCons (gVar 0) (gCons (gCon (.int 2)) gNil))) (gCons (gCon (.int 16807)) gNil))) gNil))) (gCons (gCon (.int 11)) gNil))) gNil)) (gCons (gCon (.int 2147483647)) gNil))))
    (sSeq (sSetIx (gVar 0) (gCon (.int 0)) (gOp pAdd (gCons (gOp pMul (gCons (gVar 2) (gCons (gCon (.int 2147483629)) gNil))) (gCons (gOp pMod (gCons (gOp pInt2 (gCons (gOp pAdd (gCons (gOp pMul (gCons (gVar 2) (gCons (gVar 2) gNil))) (gCons (gOp pIx (gCons (gVar 0) (gCons (gCon (.int 3)) gNil))) gNil))) gNil)) (gCons (gCon (.int 2147483629)) gNil))) gNil))))
    (sSeq (sIf (tAnd (tVal (gOp pEq (gCons (gOp pIx (gCons (gVar 0) (gCons (gCon (.int 2)) gNil))) (gCons (gCon (.int 1)) gNil)))) (tVal (gOp pGe (gCons (gOp pIx (gCons (gVar 0) (gCons (gCon (.int 3)) gNil))) (gCons (gOp pPow (gCons (gCon (.int 10)) (gCons (gCon (.int 18)) gNil))) gNil))))) (sSetIx (gVar 0) (gCon (.int 0)) (gOp pIx (gCons (gVar 0) (gCons (gCon (.int 3)) gNil)))) sNext)
    (sSetIx (gVar 0) (gCon (.int 1)) (gVar 2)))))) sNext)
theorem set_same {st : Store} {n : Nat} {x : MO} (h : st[n]? = some x) : st.set n x = st := by
  apply List.ext_getElem?
  intro i
  by_cases hi : n = i
  · subst hi; rw [get_set x h, h]
  · rw [List.getElem?_set_ne hi]
theorem d0 (i j : Int) : okDeep (.int i) (.int j) = true := rfl
theorem pq (i j : Int) : pEq [.int i, .int j] = some (.v (.bl (i == j))) := by simp [pEq, d0, D.eqv]
theorem sm1 : smallI 48271 = true := rfl
theorem sm2 : smallI 69621 = true := rfl
theorem sm3 : smallI 16807 = true := rfl
theorem sm4 : smallI 2147483629 = true := rfl
section
variable (n : Nat) (st : Store) (m o v : Option A) (a b x y : Int) (h : st[n]? = some (.ls [.int a, .int b, .int x, .int y]))
include h
theorem draw_A : sSetIx (gVar 0) (gCon (.int 2)) (gOp pAdd (gCons (gOp pIx (gCons (gVar 0) (gCons (gCon (.int 2)) gNil))) (gCons (gCon (.int 1)) gNil))) [some (.obj n), m, o, v] st = .nx [some (.obj n), m, o, v] (st.set n (.ls [.int a, .int b, .int (x + 1), .int y])) := by
  have s0 := ix_obj st n a b x y h [some (.obj n), m, o, v] 0 rfl
  refine set_ix _ st n 0 2 2 _ _ _ rfl ?_ h rfl
  rw [ev_op, ev_cons, s0.2.2.1]
  simp [ev_cons, opOn, pAdd, take_self]
theorem draw_B : ∃ X : Int, smallI X = true ∧ sSet 2 (gOp pMod (gCons (gOp pInt2 (gCons (gOp pAdd (gCons (gOp pAdd (gCons (gOp pAdd (gCons (gOp pMul (gCons (gOp pIx (gCons (gVar 0) (gCons (gCon (.int 1)) gNil))) (gCons (gCon (.int 48271)) gNil))) (gCons (gOp pMul (gCons (gOp pIx (gCons (gVar 0) (gCons (gCon (.int 3)) gNil))) (gCons (gCon (.int 69621)) gNil))) gNil))) (gCons (gOp pMul (gCons (gOp pIx (gCons (gVar 0) (gCons (gCon (.int 2)) gNil))) (gCons (gCon (.int 16807)) gNil))) gNil))) (gCons (gCon (.int 11)) gNil))) gNil)) (gCons (gCon (.int 2147483647)) gNil))) [some (.obj n), m, o, v] st = .nx [some (.obj n), m, some (.d (.int X)), v] st := by
  obtain ⟨s0, s1, s2, s3⟩ := ix_obj st n a b x y h [some (.obj n), m, o, v] 0 rfl
  refine ⟨(b * 48271 + y * 69621 + x * 16807 + 11) % 2147483647, small_mod _, ?_⟩
  have hp : (0 : Int) < 2147483647 := by decide
  simp only [sSet, ev_op (p := pMod), ev_op (p := pInt2), ev_op (p := pAdd), ev_op (p := pMul), ev_cons, s1, s2, s3, bind_ok, gCon_ok, gNil_ok, opOn, nowAll_d, nowAll_nil, Option.map, pMul, sm1, sm2, sm3, Bool.or_true, if_true, pAdd, pInt2_int, pMod, hp, give_v, settle_ok_d, take_self, toS_ok, List.set]
theorem draw_C (X : Int) (hX : smallI X = true) : ∃ A' : Int, sSetIx (gVar 0) (gCon (.int 0)) (gOp pAdd (gCons (gOp pMul (gCons (gVar 2) (gCons (gCon (.int 2147483629)) gNil))) (gCons (gOp pMod (gCons (gOp pInt2 (gCons (gOp pAdd (gCons (gOp pMul (gCons (gVar 2) (gCons (gVar 2) gNil))) (gCons (gOp pIx (gCons (gVar 0) (gCons (gCon (.int 3)) gNil))) gNil))) gNil)) (gCons (gCon (.int 2147483629)) gNil))) gNil))) [some (.obj n), m, some (.d (.int X)), v] st = .nx [some (.obj n), m, some (.d (.int X)), v] (st.set n (.ls [.int A', .int b, .int x, .int y])) := by
  obtain ⟨s0, s1, s2, s3⟩ := ix_obj st n a b x y h [some (.obj n), m, some (.d (.int X)), v] 0 rfl
  have hp : (0 : Int) < 2147483629 := by decide
  have g2 : gVar 2 [some (.obj n), m, some (.d (.int X)), v] st = .ok (.d (.int X)) st := rfl
  refine ⟨X * 2147483629 + (X * X + y) % 2147483629, set_ix _ st n 0 0 0 _ _ _ rfl ?_ h rfl⟩
  simp only [ev_op (p := pMod), ev_op (p := pInt2), ev_op (p := pAdd), ev_op (p := pMul), ev_cons, s3, g2, bind_ok, gCon_ok, gNil_ok, opOn, nowAll_d, nowAll_nil, Option.map, pMul, sm4, hX, Bool.or_true, if_true, pAdd, pInt2_int, pMod, hp, give_v, settle_ok_d, take_self]
theorem draw_D (X : Int) : ∃ A' : Int, sIf (tAnd (tVal (gOp pEq (gCons (gOp pIx (gCons (gVar 0) (gCons (gCon (.int 2)) gNil))) (gCons (gCon (.int 1)) gNil)))) (tVal (gOp pGe (gCons (gOp pIx (gCons (gVar 0) (gCons (gCon (.int 3)) gNil))) (gCons (gOp pPow (gCons (gCon (.int 10)) (gCons (gCon (.int 18)) gNil))) gNil))))) (sSetIx (gVar 0) (gCon (.int 0)) (gOp pIx (gCons (gVar 0) (gCons (gCon (.int 3)) gNil)))) sNext [some (.obj n), m, some (.d (.int X)), v] st = .nx [some (.obj n), m, some (.d (.int X)), v] (st.set n (.ls [.int A', .int b, .int x, .int y])) := by
  obtain ⟨s0, s1, s2, s3⟩ := ix_obj st n a b x y h [some (.obj n), m, some (.d (.int X)), v] 0 rfl
  have hw : pPow [.int 10, .int 18] = some (.v (.int 1000000000000000000)) := rfl
  have e1 : gOp pEq (gCons (gOp pIx (gCons (gVar 0) (gCons (gCon (.int 2)) gNil))) (gCons (gCon (.int 1)) gNil)) [some (.obj n), m, some (.d (.int X)), v] st = .ok (.d (.bl (x == 1))) st := by
    simp only [ev_op (p := pEq), ev_cons, s2, bind_ok, gCon_ok, gNil_ok, opOn, nowAll_d, nowAll_nil, Option.map, pq, give_v, settle_ok_d, take_self]
  have e2 : gOp pGe (gCons (gOp pIx (gCons (gVar 0) (gCons (gCon (.int 3)) gNil))) (gCons (gOp pPow (gCons (gCon (.int 10)) (gCons (gCon (.int 18)) gNil))) gNil)) [some (.obj n), m, some (.d (.int X)), v] st = .ok (.d (.bl (decide (1000000000000000000 ≤ y)))) st := by
    simp only [ev_op (p := pGe), ev_op (p := pPow), ev_cons, s3, bind_ok, gCon_ok, gNil_ok, opOn, nowAll_d, nowAll_nil, Option.map, hw, pGe, give_v, settle_ok_d, take_self]
  have t := set_ix [some (.obj n), m, some (.d (.int X)), v] st n 0 0 0 _ _ _ rfl s3 h rfl
  simp only [sIf, tAnd, tVal, e1, e2, bind_ok, now_d, okLen, D.truth, if_true, take_self]
  by_cases h1 : (x == 1) = true
  · by_cases h2 : decide (1000000000000000000 ≤ y) = true
    · refine ⟨y, ?_⟩
      simp only [h1, h2, if_true, toS_ok, t]; rfl
    · refine ⟨a, ?_⟩
      simp only [h1, h2, if_true, toS_ok, sNext, set_same h]; rfl
  · refine ⟨a, ?_⟩
    simp only [h1, toS_ok, sNext, set_same h]; rfl
theorem draw_E (X : Int) : sSetIx (gVar 0) (gCon (.int 1)) (gVar 2) [some (.obj n), m, some (.d (.int X)), v] st = .nx [some (.obj n), m, some (.d (.int X)), v] (st.set n (.ls [.int a, .int X, .int x, .int y])) :=
  set_ix _ st n 0 1 1 _ _ _ rfl rfl h rfl
theorem draw_if : ∃ a' b' x' o', drawIf [some (.obj n), m, o, v] st = .nx [some (.obj n), m, o', v] (st.set n (.ls [.int a', .int b', .int x', .int y])) := by
  obtain ⟨s0, s1, s2, s3⟩ := ix_obj st n a b x y h [some (.obj n), m, o, v] 0 rfl
  have e1 : gOp pEq (gCons (gOp pIx (gCons (gVar 0) (gCons (gCon (.int 0)) gNil))) (gCons (gCon (.int 0)) gNil)) [some (.obj n), m, o, v] st = .ok (.d (.bl (a == 0))) st := by
    simp only [ev_op (p := pEq), ev_cons, s0, bind_ok, gCon_ok, gNil_ok, opOn, nowAll_d, nowAll_nil, Option.map, pq, give_v, settle_ok_d, take_self]
  by_cases h1 : (a == 0) = true
  · have hA := draw_A n st m o v a b x y h
    have h2 := get_set (.ls [.int a, .int b, .int (x + 1), .int y]) h
    obtain ⟨X, hX, hB⟩ := draw_B n _ m o v a b (x + 1) y h2
    obtain ⟨a1, hC⟩ := draw_C n _ m v a b (x + 1) y h2 X hX
    have h3 := get_set (.ls [.int a1, .int b, .int (x + 1), .int y]) h2
    obtain ⟨a2, hD⟩ := draw_D n _ m v a1 b (x + 1) y h3 X
    have h4 := get_set (.ls [.int a2, .int b, .int (x + 1), .int y]) h3
    have hE := draw_E n _ m v a2 b (x + 1) y h4 X
    refine ⟨a2, X, x + 1, some (.d (.int X)), ?_⟩
    unfold drawIf
    simp only [sIf, tVal, e1, bind_ok, now_d, okLen, D.truth, if_true, take_self, h1, toS_ok]
    rw [seq_nx hA, seq_nx hB, seq_nx hC, seq_nx hD, hE]
    simp only [List.set_set]
  · refine ⟨a, b, x, o, ?_⟩
    unfold drawIf
    simp only [sIf, tVal, e1, bind_ok, now_d, okLen, D.truth, if_true, take_self, h1, toS_ok, sNext, set_same h]; rfl
end
theorem e_drawS (n : Nat) (st : Store) (c : List D) (hc : IsBag c) (h : st[n]? = some (.ls c)) (m : Int) (hm : m < 1073741824) : ∃ (v : Int) (c' : List D), semDef 2 4 gDraw [.obj n, .d (.int m)] st = .ok (.d (.int v)) (st.set n (.ls c')) ∧ IsBag c' ∧ 0 ≤ v ∧ (1 ≤ m → v < m) ∧ (m < 1 → v = 0) := by
  obtain ⟨a, b, x, y, rfl⟩ := hc
  by_cases h1 : m < 1
  · refine ⟨0, _, ?_, ⟨a, b, x, y, rfl⟩, Int.le_refl _, fun h2 => by omega, fun _ => rfl⟩
    rw [set_same h]
    show (if 2 = 2 then finish st.length (gDraw [some (.obj n), some (.d (.int m)), none, none] st) else .bad) = _
    rw [if_pos rfl]
    have e : sIf (tVal (gOp pLt2 (gCons (gVar 1) (gCons (gCon (.int 1)) gNil)))) (sRet (gCon (.int 0))) sNext [some (.obj n), some (.d (.int m)), none, none] st = .rt (.d (.int 0)) st := by
      simp [sIf, tVal, okLen, D.truth, ev_op, ev_cons, opOn, pLt2, pLt, h1, take_self, sRet]
    unfold gDraw
    rw [seq_rt e]
    simp [finish, settleV, settle, take_self]
  · have e : sIf (tVal (gOp pLt2 (gCons (gVar 1) (gCons (gCon (.int 1)) gNil)))) (sRet (gCon (.int 0))) sNext [some (.obj n), some (.d (.int m)), none, none] st = .nx [some (.obj n), some (.d (.int m)), none, none] st := by
      simp [sIf, tVal, okLen, D.truth, ev_op, ev_cons, opOn, pLt2, pLt, h1, take_self, sRet, sNext]
    obtain ⟨a1, b1, x1, o1, e1⟩ := draw_if n st (some (.d (.int m))) none none a b x y h
    have h2 := get_set (.ls [.int a1, .int b1, .int x1, .int y]) h
    obtain ⟨s0, -⟩ := ix_obj _ n a1 b1 x1 y h2 [some (.obj n), some (.d (.int m)), o1, none] 0 rfl
    have e2 : sSet 3 (gOp pIx (gCons (gVar 0) (gCons (gCon (.int 0)) gNil))) [some (.obj n), some (.d (.int m)), o1, none] (st.set n (.ls [.int a1, .int b1, .int x1, .int y])) = .nx [some (.obj n), some (.d (.int m)), o1, some (.d (.int a1))] (st.set n (.ls [.int a1, .int b1, .int x1, .int y])) := by
      simp only [sSet, s0, toS_ok, List.set]
    have hm2 : 0 < m ∧ m < 1073741824 := ⟨by omega, hm⟩
    have e3 : sSetIx (gVar 0) (gCon (.int 0)) (gOp pFdiv (gCons (gVar 3) (gCons (gVar 1) gNil))) [some (.obj n), some (.d (.int m)), o1, some (.d (.int a1))] (st.set n (.ls [.int a1, .int b1, .int x1, .int y])) = .nx [some (.obj n), some (.d (.int m)), o1, some (.d (.int a1))] ((st.set n (.ls [.int a1, .int b1, .int x1, .int y])).set n (.ls [.int (a1 / m), .int b1, .int x1, .int y])) := by
      refine set_ix _ _ n 0 0 0 _ _ (.int (a1 / m)) rfl ?_ h2 rfl
      generalize st.set n (.ls [.int a1, .int b1, .int x1, .int y]) = st2
      simp [ev_op, ev_cons, opOn, pFdiv, hm2, take_self]
    refine ⟨a1 % m, [.int (a1 / m), .int b1, .int x1, .int y], ?_, ⟨_, _, _, _, rfl⟩, Int.emod_nonneg _ (by omega), fun _ => Int.emod_lt_of_pos _ (by omega), fun h3 => by omega⟩
    show (if 2 = 2 then finish st.length (gDraw [some (.obj n), some (.d (.int m)), none, none] st) else .bad) = _
    rw [if_pos rfl]
    unfold drawIf at e1
    unfold gDraw
    rw [seq_nx e, seq_nx e1, seq_nx e2, seq_nx e3, List.set_set]
    have hl : (st.set n (.ls [.int (a1 / m), .int b1, .int x1, .int y])).take st.length = st.set n (.ls [.int (a1 / m), .int b1, .int x1, .int y]) := List.take_of_length_le (by simp)
    generalize hq : st.set n (.ls [.int (a1 / m), .int b1, .int x1, .int y]) = st2 at hl ⊢
    have hm3 : 0 < m := hm2.1
    simp [sRet, ev_op, ev_cons, opOn, pInt2_int, pMod, hm3, finish, settleV, settle, take_self, hl]
end PD
end

section
set_option Elab.async false
set_option linter.all false
set_option maxRecDepth 100000
set_option maxHeartbeats 1000000
/-! PL1: bags, one of a row, drawn texts. -/
namespace PD
theorem take_set (st : Store) (n : Nat) (x : MO) : (st.set n x).take st.length = st.set n x := List.take_of_length_le (by simp)
theorem get_lt {st : Store} {n : Nat} {x : MO} (h : st[n]? = some x) : n < st.length := by
  rcases Nat.lt_or_ge n st.length with h1 | h1
  · exact h1
  · rw [List.getElem?_eq_none h1] at h; cases h
/-- the bag of the k-th cell -/
def gBag (b : Int) : SemS :=
  (sSeq (sSet 2 (gCon (.int 0)))
    (sSeq (sIf (tVal (gOp pLt2 (gCons (gVar 1) (gCons (gOp pLen (gCons (gVar 0) gNil)) gNil)))) (sSet 2 (gOp pInt2 (gCons (gOp pIx (gCons (gVar 0) (gCons (gVar 1) gNil))) gNil))) sNext)
    (sRet (gLst (gCons (gCon (.int 0)) (gCons (gOp pAdd (gCons (gCon (.int b)) (gCons (gOp pMul (gCons (gCon (.int 48611)) (gCons (gVar 1) gNil))) gNil))) (gCons (gCon (.int 0)) (gCons (gVar 2) gNil))))))))
theorem e_bagS (b : Int) (k : Nat) (ns : List Int) (st : Store) (hk : k < 1000) (hn : ns.length ≤ 63) : ∃ c, semDef 2 3 (gBag b) [.d (.lst (ns.map D.int)), .d (.int k)] st = .ok (.obj st.length) (st ++ [.ls c]) ∧ IsBag c := by
  have h4 : (4 : Nat) ≤ LID := by decide
  have hs : smallI 48611 = true := rfl
  have hl : pLen [.lst (ns.map D.int)] = some (.v (.int ns.length)) := by simp [pLen]
  have hr : ∀ cell : Int, sRet (gLst (gCons (gCon (.int 0)) (gCons (gOp pAdd (gCons (gCon (.int b)) (gCons (gOp pMul (gCons (gCon (.int 48611)) (gCons (gVar 1) gNil))) gNil))) (gCons (gCon (.int 0)) (gCons (gVar 2) gNil))))) [some (.d (.lst (ns.map D.int))), some (.d (.int k)), some (.d (.int cell))] st
      = .rt (.obj st.length) (st ++ [.ls [.int 0, .int (b + 48611 * k), .int 0, .int cell]]) := fun cell => by
    simp [sRet, gLst, ev_op, ev_cons, opOn, pMul, hs, pAdd, take_self, h4]
  have hlt : pLt2 [.int (k : Nat), .int ns.length] = some (.v (.bl (decide (k < ns.length)))) := by
    show some (Res.v (.bl (decide ((k : Int) < ns.length)))) = _
    by_cases h : k < ns.length
    · rw [decide_eq_true h, decide_eq_true (by omega)]
    · rw [decide_eq_false h, decide_eq_false (by omega)]
  have e1 : sSet 2 (gCon (.int 0)) [some (.d (.lst (ns.map D.int))), some (.d (.int k)), none] st = .nx [some (.d (.lst (ns.map D.int))), some (.d (.int k)), some (.d (.int 0))] st := rfl
  have hc : tVal (gOp pLt2 (gCons (gVar 1) (gCons (gOp pLen (gCons (gVar 0) gNil)) gNil))) [some (.d (.lst (ns.map D.int))), some (.d (.int k)), some (.d (.int 0))] st = .ok (decide (k < ns.length)) st :=
    tv (op2 (x := .int k) rfl (op1 (x := .lst (ns.map D.int)) rfl hl rfl) hlt rfl) rfl
  by_cases h : k < ns.length
  · have hp : place (k : Int) (ns.map D.int).length = some k := by
      unfold place
      rw [if_pos (by omega), if_pos (by simp; omega)]; simp
    rw [List.length_map] at hp
    have hx : pIx [.lst (ns.map D.int), .int k] = some (.v (.int ns[k])) := by simp [pIx, hp, h]
    refine ⟨[.int 0, .int (b + 48611 * k), .int 0, .int ns[k]], ?_, ⟨_, _, _, _, rfl⟩⟩
    show (if 2 = 2 then finish st.length (gBag b [some (.d (.lst (ns.map D.int))), some (.d (.int k)), none] st) else .bad) = _
    rw [if_pos rfl]
    rw [decide_eq_true h] at hc
    have e2 : sIf (tVal (gOp pLt2 (gCons (gVar 1) (gCons (gOp pLen (gCons (gVar 0) gNil)) gNil)))) (sSet 2 (gOp pInt2 (gCons (gOp pIx (gCons (gVar 0) (gCons (gVar 1) gNil))) gNil))) sNext [some (.d (.lst (ns.map D.int))), some (.d (.int k)), some (.d (.int 0))] st
        = .nx [some (.d (.lst (ns.map D.int))), some (.d (.int k)), some (.d (.int ns[k]))] st := by
      rw [if_t hc]
      exact set_nx (op1 (op2 (x := .lst (ns.map D.int)) (y := .int k) rfl rfl hx rfl) (pInt2_int _) rfl)
    unfold gBag
    rw [seq_nx e1, seq_nx e2, hr]
    simp [finish, settleV]
  · refine ⟨[.int 0, .int (b + 48611 * k), .int 0, .int 0], ?_, ⟨_, _, _, _, rfl⟩⟩
    show (if 2 = 2 then finish st.length (gBag b [some (.d (.lst (ns.map D.int))), some (.d (.int k)), none] st) else .bad) = _
    rw [if_pos rfl]
    rw [decide_eq_false h] at hc
    have e2 : sIf (tVal (gOp pLt2 (gCons (gVar 1) (gCons (gOp pLen (gCons (gVar 0) gNil)) gNil)))) (sSet 2 (gOp pInt2 (gCons (gOp pIx (gCons (gVar 0) (gCons (gVar 1) gNil))) gNil))) sNext [some (.d (.lst (ns.map D.int))), some (.d (.int k)), some (.d (.int 0))] st
        = .nx [some (.d (.lst (ns.map D.int))), some (.d (.int k)), some (.d (.int 0))] st := by
      rw [if_f hc]; rfl
    unfold gBag
    rw [seq_nx e1, seq_nx e2, hr]
    simp [finish, settleV]
/-- what a def of draws promises -/
def Draws (F : SemF) (d : Nat) : Prop := ∀ (n : Nat) (st : Store) (c : List D), IsBag c → st[n]? = some (.ls c) → ∀ m : Int, m < 1073741824 → ∃ (v : Int) (c' : List D), F d [.obj n, .d (.int m)] st = .ok (.d (.int v)) (st.set n (.ls c')) ∧ IsBag c' ∧ 0 ≤ v ∧ (1 ≤ m → v < m) ∧ (m < 1 → v = 0)
/-- a draw as an expression -/
theorem draw_e {F : SemF} {d : Nat} (hF : Draws F d) {n : Nat} {st : Store} {c : List D} (hc : IsBag c) (h : st[n]? = some (.ls c)) {env : Env} {b g : SemE} {m : Int} (hm : m < 1073741824) (h0 : b env st = .ok (.obj n) st) (hg : g env st = .ok (.d (.int m)) st) :
    ∃ (v : Nat) (c' : List D), gCall F d (gCons b (gCons g gNil)) env st = .ok (.d (.int v)) (st.set n (.ls c')) ∧ IsBag c' ∧ (1 ≤ m → (v : Int) < m) ∧ (m < 1 → v = 0) := by
  obtain ⟨v, c', e, hc', h1, h2, h3⟩ := hF n st c hc h m hm
  obtain ⟨b, rfl⟩ := Int.eq_ofNat_of_zero_le h1
  exact ⟨b, c', call_ok' (cons_ok h0 (cons_ok hg rfl)) rfl e (by simp), hc', h2, fun q => by have := h3 q; omega⟩
/-- one of a row -/
def gOne (F : SemF) (d : Nat) : SemS := (sRet (gOp pIx (gCons (gVar 1) (gCons (gCall F d (gCons (gVar 0) (gCons (gOp pLen (gCons (gVar 1) gNil)) gNil))) gNil))))
theorem e_oneS {F : SemF} {d : Nat} (hF : Draws F d) (n p : Nat) (st : Store) (c row : List D) (hc : IsBag c) (h : st[n]? = some (.ls c)) (hp : st[p]? = some (.ls row)) (hnp : n ≠ p) (h1 : 1 ≤ row.length) (h2 : row.length < 1000) :
    ∃ (c' : List D) (x : D), semDef 2 2 (gOne F d) [.obj n, .obj p] st = .ok (.d x) (st.set n (.ls c')) ∧ IsBag c' ∧ x ∈ row := by
  have hl : gOp pLen (gCons (gVar 1) gNil) [some (.obj n), some (.obj p)] st = .ok (.d (.int row.length)) st := by
    simp [ev_op, ev_cons, opOn, nowAll, now, hp, pLen, take_self]
  obtain ⟨v, c', e, hc', hv, -⟩ := draw_e hF hc h (env := [some (.obj n), some (.obj p)]) (b := gVar 0) (m := row.length) (by omega) rfl hl
  have hv := hv (by omega)
  have hvn : v < row.length := by omega
  refine ⟨c', row[v], ?_, hc', List.getElem_mem hvn⟩
  show (if 2 = 2 then finish st.length (gOne F d [some (.obj n), some (.obj p)] st) else .bad) = _
  rw [if_pos rfl]
  have hp2 : (st.set n (.ls c'))[p]? = some (.ls row) := by rw [List.getElem?_set_ne hnp]; exact hp
  have hpl : place (v : Int) row.length = some v := by
    unfold place
    rw [if_pos (by omega), if_pos hv]; simp
  have hx : pIx [.lst row, .int v] = some (.v row[v]) := by simp [pIx, hpl, hvn]
  have ht := take_set st n (.ls c')
  generalize st.set n (.ls c') = st2 at hp2 ht e ⊢
  have ho : gOp pIx (gCons (gVar 1) (gCons (gCall F d (gCons (gVar 0) (gCons (gOp pLen (gCons (gVar 1) gNil)) gNil))) gNil)) [some (.obj n), some (.obj p)] st = .ok (.d row[v]) st2 := by
    rw [ev_op]
    simp [ev_cons, e, opOn, nowAll, now, hp2, hx, settle]
    show Out.ok _ (List.take _ _) = _
    rw [ht]
  unfold gOne
  simp only [sRet, ho, toS_ok, finish]
  show Out.ok _ (List.take _ _) = _
  rw [ht]
/-- what a def of one of a row promises -/
def Ones (F : SemF) (o : Nat) : Prop := ∀ (n p : Nat) (st : Store) (c row : List D), IsBag c → st[n]? = some (.ls c) → st[p]? = some (.ls row) → n ≠ p → 1 ≤ row.length → row.length < 1000 →
  ∃ (c' : List D) (x : D), F o [.obj n, .obj p] st = .ok (.d x) (st.set n (.ls c')) ∧ IsBag c' ∧ x ∈ row
/-- one of a written row -/
theorem one_e {F : SemF} {o : Nat} (hF : Ones F o) {n : Nat} {st : Store} {c row : List D} (hc : IsBag c) (h : st[n]? = some (.ls c)) {env : Env} {b g : SemE} (h0 : b env st = .ok (.obj n) st) (hg : g env st = .ok (.obj st.length) (st ++ [.ls row])) (h1 : 1 ≤ row.length) (h2 : row.length < 1000) :
    ∃ (c' : List D) (x : D), gCall F o (gCons b (gCons g gNil)) env st = .ok (.d x) (st.set n (.ls c')) ∧ IsBag c' ∧ x ∈ row := by
  have hn := get_lt h
  obtain ⟨c', x, e, hc', hx⟩ := hF n st.length (st ++ [.ls row]) c row hc (by rw [List.getElem?_append_left hn]; exact h) (by simp) (by omega) h1 h2
  refine ⟨c', x, ?_, hc', hx⟩
  have hs : (st ++ [MO.ls row]).set n (.ls c') = st.set n (.ls c') ++ [MO.ls row] := by rw [List.set_append_left _ _ hn]
  rw [hs] at e
  have ht : (st.set n (.ls c') ++ [MO.ls row]).take st.length = st.set n (.ls c') := List.take_left' (by simp)
  simp only [gCall_def, ev_cons, h0, hg, gNil_ok, bind_ok, callIn, List.all_cons, A.free, Bool.false_and, Bool.false_eq_true, if_false, e, settle_ok_d, ht]
/-! ### a row that is drawn piece by piece -/
theorem gLc_inv {it : SemI} {tg : Tg} {cnd : SemT} {elt : SemE} {own : List Nat} {env : Env} {st st1 : Store} {src : Src} (P : Store → Prop) (R : D → Prop) (h1 : it env st = .ok src st1) (hp : P st1) (hL : ∀ s, P s → s.length = st.length)
    (h2 : ∀ s, P s → src.ok s = true) (h3 : src.items.length < LID)
    (h4 : ∀ d s, P s → ∃ x s', lcStep tg cnd elt (wipeE env own) d s = .ok (some x) s' ∧ P (s'.take s.length) ∧ R x) : ∃ xs s', gLc it tg cnd elt own env st = .ok (.obj st.length) (s' ++ [.ls xs]) ∧ P s' ∧ xs.length = src.items.length ∧ ∀ x ∈ xs, R x := by
  obtain ⟨xs, s', e, p, l, r⟩ := lc_inv P R h2 h4 src.items st1 hp
  refine ⟨xs, s', ?_, p, l, r⟩
  unfold gLc
  rw [h1]
  simp only [bind_ok]
  rw [if_pos h3, e]
  have := hL s' p
  rw [← this]
  simp
theorem range_st {a : SemE} {i : Int} {env : Env} {st st1 : Store} (hi : -big62 ≤ i ∧ i < big62) (h : a env st = .ok (.d (.int i)) st1) : iRange1 a env st = .ok ⟨rangeL 0 i, []⟩ st1 := by
  unfold iRange1
  rw [h]
  show (if -big62 ≤ i ∧ i < big62 then Out.ok (⟨rangeL 0 i, []⟩ : Src) st1 else .bad) = _
  rw [if_pos hi]
theorem for_ok {it : SemI} {tg : Tg} {body : SemS} {env : Env} {st st1 : Store} {src : Src} (h : it env st = .ok src st1) : sFor it tg body env st = forGo tg body src.ok src.items env st1 := by
  simp only [sFor, h, toS_ok]
/-- texts of one sign each, joined -/
theorem chs (P : Nat → Prop) (xs : List D) (h : ∀ x ∈ xs, ∃ c, x = .str [c] ∧ P c) : ∃ s : List Nat, textsOf xs = some (s.map fun c => [c]) ∧ s.length = xs.length ∧ ∀ c ∈ s, P c := by
  induction xs with
  | nil => exact ⟨[], rfl, rfl, by simp⟩
  | cons x xs ih =>
    obtain ⟨s, e, l, m⟩ := ih fun y hy => h y (List.mem_cons_of_mem _ hy)
    obtain ⟨c, rfl, hc⟩ := h x List.mem_cons_self
    refine ⟨c :: s, by simp [textsOf, e], by simp [l], fun y hy => ?_⟩
    rcases List.mem_cons.mp hy with rfl | hy
    · exact hc
    · exact m y hy
theorem flat_ones (s : List Nat) : (s.map fun c => [c]).flatten = s := by
  induction s with
  | nil => rfl
  | cons c s ih => simp [ih]
theorem lens_ones (s : List Nat) : ((s.map fun c => [c]).map List.length).sum = s.length := by
  induction s with
  | nil => rfl
  | cons c s ih => simp at ih ⊢; omega
/-- "".join([_law_one(bag, row) for j in range(_law_draw(bag, m))]) -/
theorem text_e {F : SemF} {d o : Nat} (hD : Draws F d) (hO : Ones F o) {n i t : Nat} {own : List Nat} {st : Store} {c row : List D} (hc : IsBag c) (h : st[n]? = some (.ls c)) {env : Env} {L : SemE} {m : Nat} {mi : Int} (hmi : mi = (m : Int)) (hm1 : 1 ≤ m) (hm : m < 1000)
    (h0 : ∀ s : Store, gVar i env s = .ok (.obj n) s) (h0' : ∀ (x : D) (s : Store), gVar i ((wipeE env own).set t (some (.d x))) s = .ok (.obj n) s) (hL : ∀ (E : Env) (s : Store), L E s = .ok (.obj s.length) (s ++ [.ls row])) (h1 : 1 ≤ row.length) (h2 : row.length < 1000)
    {P : Nat → Prop} (hrow : ∀ x ∈ row, ∃ c, x = .str [c] ∧ P c) :
    ∃ (s : List Nat) (c' : List D), gOp pJoin (gCons (gStr (gCon (.str []))) (gCons (gLc (iRange1 (gCall F d (gCons (gVar i) (gCons (gCon (.int mi)) gNil)))) (.name t) tTrue (gCall F o (gCons (gVar i) (gCons L gNil))) own) gNil)) env st = .ok (.d (.str s)) (st.set n (.ls c')) ∧ IsBag c' ∧ s.length < m ∧ ∀ x ∈ s, P x := by
  subst hmi
  obtain ⟨v, c1, e, hc1, hv, -⟩ := draw_e hD hc h (env := env) (b := gVar i) (g := gCon (.int m)) (m := m) (by omega) (h0 st) rfl
  have hv := hv (by omega)
  have hi := range_st (i := (v : Int)) ⟨by unfold big62; omega, by unfold big62; omega⟩ e
  have hlen : (rangeL 0 (v : Int)).length = v := by simp [rangeL]
  obtain ⟨xs, s', el, ⟨c', hc', hs'⟩, hxl, hR⟩ := gLc_inv (tg := .name t) (cnd := tTrue) (own := own) (elt := gCall F o (gCons (gVar i) (gCons L gNil)))
    (fun s => ∃ c', IsBag c' ∧ s = st.set n (.ls c')) (fun x => ∃ c, x = .str [c] ∧ P c) hi ⟨c1, hc1, rfl⟩ (fun s ⟨c', _, hs⟩ => by rw [hs]; simp) (fun _ _ => rfl) (by rw [hlen]; unfold LID; omega)
    (fun dd s ⟨c2, hc2, hs⟩ => by
      have hb : s[n]? = some (.ls c2) := by rw [hs]; exact get_set _ h
      obtain ⟨c3, x, e3, hc3, hx⟩ := one_e hO hc2 hb (env := (wipeE env own).set t (some (.d dd))) (b := gVar i) (g := L) (h0' dd s) (hL _ s) h1 h2
      refine ⟨x, s.set n (.ls c3), ?_, ⟨c3, hc3, ?_⟩, hrow x hx⟩
      · simp only [lcStep, Tg.put, tTrue, bind_ok, if_true, e3, freeze_d]
      · rw [take_set, hs, List.set_set])
  obtain ⟨s, es, hsl, hsm⟩ := chs P xs hR
  have hsz : s.length = v := by rw [hsl, hxl]; exact hlen
  refine ⟨s, c', ?_, hc', by omega, hsm⟩
  have hj : pJoin [.str [], .lst xs] = some (.v (.str s)) := by
    have h1 : lensOf [] (s.map fun c => [c]) ≤ LID := by rw [lens_nil, lens_ones]; unfold LID; omega
    simp only [pJoin, es]
    rw [if_pos h1, joined_nil, flat_ones]
  have hlen' : s'.length = st.length := by rw [hs']; simp
  have ht' : (s' ++ [MO.ls xs]).take st.length = s' := List.take_left' hlen'
  have hnow : (s' ++ [MO.ls xs])[st.length]? = some (.ls xs) := by rw [← hlen']; simp
  rw [← hs']
  generalize gLc (iRange1 (gCall F d (gCons (gVar i) (gCons (gCon (.int m)) gNil)))) (.name t) tTrue (gCall F o (gCons (gVar i) (gCons L gNil))) own = g at el
  simp only [ev_op, ev_cons, gStr, gCon_ok, bind_ok, el, gNil_ok, opOn, nowAll, now, hnow, hj, give_v, settle_ok_d, ht']
end PD
end

section
set_option Elab.async false
set_option linter.all false
set_option maxRecDepth 100000
set_option maxHeartbeats 1000000
/-! PL2: rows of signs. -/
namespace PD
theorem and_ok {a b : SemE} {env : Env} {st : Store} {x y : Bool} (h : a env st = .ok (.d (.bl x)) st) (h2 : x = true → b env st = .ok (.d (.bl y)) st) : gAnd a b env st = .ok (.d (.bl (x && y))) st := by
  cases x with
  | true => simp [gAnd, h, h2 rfl]
  | false => simp [gAnd, h]
theorem or_ok {a b : SemE} {env : Env} {st : Store} {x y : Bool} (h : a env st = .ok (.d (.bl x)) st) (h2 : x = false → b env st = .ok (.d (.bl y)) st) : gOr a b env st = .ok (.d (.bl (x || y))) st := by
  cases x with
  | true => simp [gOr, h]
  | false => simp [gOr, h, h2 rfl]
theorem not_ok {a : SemE} {env : Env} {st : Store} {x : Bool} (h : a env st = .ok (.d (.bl x)) st) : gNot a env st = .ok (.d (.bl (!x))) st := by simp [gNot, h]
theorem tor_ok {a b : SemT} {env : Env} {st : Store} {x y : Bool} (h : a env st = .ok x st) (h2 : x = false → b env st = .ok y st) : tOr a b env st = .ok (x || y) st := by
  cases x with
  | true => simp [tOr, h]
  | false => simp [tOr, h, h2 rfl]
theorem tand_ok {a b : SemT} {env : Env} {st : Store} {x y : Bool} (h : a env st = .ok x st) (h2 : x = true → b env st = .ok y st) : tAnd a b env st = .ok (x && y) st := by
  cases x with
  | true => simp [tAnd, h, h2 rfl]
  | false => simp [tAnd, h]
/-- a def's first lines: if c: return v -/
theorem if_ret {c : SemT} {v : SemE} {r : SemS} {env : Env} {st : Store} {b : Bool} {x : D} (hc : c env st = .ok b st) (hv : b = true → v env st = .ok (.d x) st) : sSeq (sIf c (sRet v) sNext) r env st = if b then .rt (.d x) st else r env st := by
  cases b with
  | true => rw [seq_rt (by rw [if_t hc]; exact ret_rt (hv rfl))]; rfl
  | false => rw [seq_nx (by rw [if_f hc]; rfl)]; rfl
theorem fin_rt (x : D) : finish 0 (.rt (.d x) []) = .ok (.d x) [] := rfl
theorem chain_ok {p q : Prim} {a b c : SemE} {env : Env} {st : Store} {x y z : D} {k l : Bool} (ha : a env st = .ok (.d x) st) (hb : b env st = .ok (.d y) st) (hp : p [x, y] = some (.v (.bl k))) (hc : k = true → c env st = .ok (.d z) st) (hq : k = true → q [y, z] = some (.v (.bl l))) : gChain p q a b c env st = .ok (.d (.bl (k && l))) st := by
  cases k with
  | true => simp [gChain, ha, hb, opOn, hp, hc rfl, hq rfl, take_self]
  | false => simp [gChain, ha, hb, opOn, hp, take_self]
/-- [sign in S for sign in s] -/
theorem lc_all {S s : List Nat} {env : Env} {st : Store} {i k : Nat} {own : List Nat} {g : SemE} (h0 : env[i]? = some (some (.d (.str s)))) (hk : (wipeE env own).length > k) (hg : ∀ (E : Env) (s : Store), g E s = .ok (.d (.str S)) s) (hs : s.length < LID) :
    gLc (iVal (gVar i)) (.name k) tTrue (gOp pIn (gCons (gVar k) (gCons g gNil))) own env st = .ok (.obj st.length) (st ++ [.ls (s.map fun c => .bl (decide (c ∈ S)))]) := by
  have hv : gVar i env st = .ok (.d (.str s)) st := by simp [gVar, h0]
  have hl : (signs s).length = s.length := by simp [signs]
  have e := gLc_map (it := iVal (gVar i)) (tg := .name k) (cnd := tTrue) (elt := gOp pIn (gCons (gVar k) (gCons g gNil))) (own := own) (env := env) (st := st) (src := ⟨signs s, []⟩) (fun d => .bl (match d with | .str [c] => decide (c ∈ S) | _ => false)) (by unfold iVal; rw [hv]; rfl) rfl (by rw [hl]; exact hs) (fun d hd => by
    unfold signs at hd
    obtain ⟨c, hc, rfl⟩ := List.mem_map.mp hd
    have hgk : gVar k ((wipeE env own).set k (some (.d (.str [c])))) st = .ok (.d (.str [c])) st := by simp [gVar, List.getElem?_set_self hk]
    have := op2 (p := pIn) hgk (hg _ st) (z := .bl (decide (c ∈ S))) rfl rfl
    simp only [lcStep, Tg.put, tTrue, bind_ok, if_true, this, freeze_d])
  rw [e]
  simp [signs, List.map_map, Function.comp_def]
theorem all_bl (s : List Nat) (f : Nat → Bool) : pAll [.lst (s.map fun c => .bl (f c))] = some (.v (.bl (s.all f))) := by
  have : boolsOf (s.map fun c => D.bl (f c)) = some (s.map f) := by
    induction s with
    | nil => rfl
    | cons c s ih => simp [boolsOf, ih]
  simp [pAll, this, List.all_map]
theorem op1_new {p : Prim} {g1 : SemE} {env : Env} {st : Store} {xs : List D} {z : D} (h1 : g1 env st = .ok (.obj st.length) (st ++ [.ls xs])) (hp : p [.lst xs] = some (.v z)) : gOp p (gCons g1 gNil) env st = .ok (.d z) st := by
  simp only [ev_op, ev_cons, h1, bind_ok, gNil_ok, opOn, nowAll_new, hp, give_v, settle_ok_d, take_last]
theorem op2_new {p : Prim} {g1 g2 : SemE} {env : Env} {st : Store} {xs ys : List D} {z : D} (h1 : g1 env st = .ok (.obj st.length) (st ++ [.ls xs])) (h2 : ∀ s : Store, g2 env s = .ok (.obj s.length) (s ++ [.ls ys])) (hp : p [.lst xs, .lst ys] = some (.v z)) : gOp p (gCons g1 (gCons g2 gNil)) env st = .ok (.d z) st := by
  have hn : nowAll [.obj st.length, .obj (st ++ [MO.ls xs]).length] (st ++ [.ls xs] ++ [.ls ys]) = some [.lst xs, .lst ys] := by
    simp [nowAll, now]
  have ht : (st ++ [MO.ls xs] ++ [MO.ls ys]).take st.length = st := by rw [List.append_assoc]; exact List.take_left' rfl
  simp only [ev_op, ev_cons, h1, h2, bind_ok, gNil_ok, opOn, hn, hp, give_v, settle_ok_d, ht]
theorem lst_all {as : SemAs} {env : Env} {ds : List D} (h : ∀ st : Store, as env st = .ok (ds.map A.d) st) (hn : ds.length ≤ LID) (st : Store) : gLst as env st = .ok (.obj st.length) (st ++ [.ls ds]) := lst_ok (h st) hn rfl
/-- all signs are there: all([..]) -/
theorem all_e {S s : List Nat} {env : Env} {st : Store} {i k : Nat} {own : List Nat} {g : SemE} (h0 : env[i]? = some (some (.d (.str s)))) (hk : (wipeE env own).length > k) (hg : ∀ (E : Env) (s : Store), g E s = .ok (.d (.str S)) s) (hs : s.length < LID) :
    gOp pAll (gCons (gLc (iVal (gVar i)) (.name k) tTrue (gOp pIn (gCons (gVar k) (gCons g gNil))) own) gNil) env st = .ok (.d (.bl (s.all fun c => decide (c ∈ S)))) st :=
  op1_new (lc_all h0 hk hg hs) (all_bl s _)
def oddC (S s : List Nat) : List D := (s.filter fun c => !decide (c ∈ S)).map fun c => .str [c]
def fOdd (S : List Nat) (d : D) : Option D := match d with | .str [c] => if c ∈ S then none else some (.str [c]) | _ => none
theorem odd_fm (S : List Nat) : ∀ s : List Nat, (signs s).filterMap (fOdd S) = oddC S s
  | [] => rfl
  | c :: s => by
    have ih := odd_fm S s
    have e : signs (c :: s) = .str [c] :: signs s := rfl
    rw [e, List.filterMap_cons]
    unfold oddC at ih ⊢
    by_cases h : c ∈ S
    · simp [fOdd, h] at ih ⊢; exact ih
    · simp [fOdd, h] at ih ⊢; exact ih
/-- [sign for sign in s if sign not in S] -/
theorem lc_odd {S s : List Nat} {env : Env} {st : Store} {i k : Nat} {own : List Nat} {g : SemE} (h0 : env[i]? = some (some (.d (.str s)))) (hk : (wipeE env own).length > k) (hg : ∀ (x : D) (s : Store), g ((wipeE env own).set k (some (.d x))) s = .ok (.d (.str S)) s) (hs : s.length < LID) :
    gLc (iVal (gVar i)) (.name k) (tVal (gOp pNotIn (gCons (gVar k) (gCons g gNil)))) (gVar k) own env st = .ok (.obj st.length) (st ++ [.ls (oddC S s)]) := by
  have hv : gVar i env st = .ok (.d (.str s)) st := by simp [gVar, h0]
  have hl : (signs s).length = s.length := by simp [signs]
  have e := gLc_filter (it := iVal (gVar i)) (tg := .name k) (cnd := tVal (gOp pNotIn (gCons (gVar k) (gCons g gNil)))) (elt := gVar k) (own := own) (env := env) (st := st) (src := ⟨signs s, []⟩) (fun d => match d with | .str [c] => if c ∈ S then none else some (.str [c]) | _ => none) (by unfold iVal; rw [hv]; rfl) rfl (by rw [hl]; exact hs) (fun d hd => by
    unfold signs at hd
    obtain ⟨c, hc, rfl⟩ := List.mem_map.mp hd
    have hgk : gVar k ((wipeE env own).set k (some (.d (.str [c])))) st = .ok (.d (.str [c])) st := by simp [gVar, List.getElem?_set_self hk]
    have := tv (op2 (p := pNotIn) hgk (hg _ st) (z := .bl (!decide (c ∈ S))) rfl rfl) rfl
    simp only [lcStep, Tg.put, this, bind_ok]
    by_cases q : c ∈ S
    · simp [q]
    · simp [q, hgk])
  rw [e]
  have := odd_fm S s
  unfold fOdd at this
  rw [← this]
theorem odd_len (S : List Nat) (s : List Nat) : (oddC S s).isEmpty = s.all fun c => decide (c ∈ S) := by
  unfold oddC
  induction s with
  | nil => rfl
  | cons c s ih =>
    by_cases h : c ∈ S
    · simpa [h] using ih
    · simp [h]
theorem odd_deep (S s : List Nat) : D.deeps (oddC S s) = 0 := by
  unfold oddC
  generalize s.filter _ = l
  induction l with
  | nil => rfl
  | cons c l ih => simp [D.deeps, D.deep, ih]
theorem eqvs_nil (l : List D) : D.eqvs l [] = l.isEmpty := by cases l <;> rfl
theorem odd_eq (S s : List Nat) : pEq [.lst (oddC S s), .lst []] = some (.v (.bl (s.all fun c => decide (c ∈ S)))) := by
  have h1 := odd_deep S s
  have h2 := odd_len S s
  have h3 : okDeep (.lst (oddC S s)) (.lst []) = true := by simp [okDeep, D.deep, D.deeps, h1]
  simp [pEq, h3, D.eqv, eqvs_nil, h2]
theorem odd_ne (S s : List Nat) : pNe [.lst (oddC S s), .lst []] = some (.v (.bl (!s.all fun c => decide (c ∈ S)))) := by
  have h1 := odd_deep S s
  have h2 := odd_len S s
  have h3 : okDeep (.lst (oddC S s)) (.lst []) = true := by simp [okDeep, D.deep, D.deeps, h1]
  simp [pNe, h3, D.eqv, eqvs_nil, h2]
theorem nil_lst (env : Env) (s : Store) : gLst gNil env s = .ok (.obj s.length) (s ++ [.ls []]) := lst_ok (ds := []) rfl (by decide) rfl
end PD
end

section
set_option Elab.async false
set_option linter.all false
set_option maxRecDepth 100000
set_option maxHeartbeats 1000000
/-! the meaning of the text of floorsagree_k00_errors_cells_and_limits (printed by tools/gen.py) -/
namespace K00
open PD PySem
def topS (i : Nat) : Stmt := PySem.Challenge.pw_floorsagree_k00_errors_cells_and_limits.main.body.getD i (.Pass ⟨0, 0, 0, 0⟩)
def c_MOST_TEXT : D := (.int 4000)
def c_MOST_WORD : D := (.int 12)
def c_MOST_RAW : D := (.int 16)
def c_MOST_NUMBER : D := (.int 999999999)
def c_MOST_FIELDS : D := (.int 8)
def c_MOST_ROWS : D := (.int 200)
def c_MOST_TABLES : D := (.int 6)
def c_MOST_COLUMNS : D := (.int 8)
def c_MOST_LINKS : D := (.int 3)
def c_MOST_WORDS : D := (.int 12)
def c_MOST_SOURCES : D := (.int 8)
def c_MOST_RULES : D := (.int 8)
def c_MOST_QUESTIONS : D := (.int 8)
def c_MOST_VIEWS : D := (.int 8)
def c_LETTERS : D := (.str [97, 98, 99, 100, 101, 102, 103, 104, 105, 106, 107, 108, 109, 110, 111, 112, 113, 114, 115, 116, 117, 118, 119, 120, 121, 122])
def c_DIGITS : D := (.str [48, 49, 50, 51, 52, 53, 54, 55, 56, 57])
def c_SIGNS : D := (.str [97, 98, 99, 100, 101, 102, 103, 104, 105, 106, 107, 108, 109, 110, 111, 112, 113, 114, 115, 116, 117, 118, 119, 120, 121, 122, 48, 49, 50, 51, 52, 53, 54, 55, 56, 57, 32, 10, 44, 59, 58, 61, 45, 46, 40, 41, 35, 95, 124])
def c_RAW_SIGNS : D := (.str [97, 98, 99, 100, 101, 102, 103, 104, 105, 106, 107, 108, 109, 110, 111, 112, 113, 114, 115, 116, 117, 118, 119, 120, 121, 122, 48, 49, 50, 51, 52, 53, 54, 55, 56, 57, 95, 45])
def c_WORD_SIGNS : D := (.str [97, 98, 99, 100, 101, 102, 103, 104, 105, 106, 107, 108, 109, 110, 111, 112, 113, 114, 115, 116, 117, 118, 119, 120, 121, 122, 48, 49, 50, 51, 52, 53, 54, 55, 56, 57, 95])
def c_LACKS : D := (.str [46])
def c_SEPARATORS : D := (.tup [(.str [44]), (.str [59]), (.str [124])])
def cls : List (Option Str) := [none, some "place", none, none, none, none, none, none, none, some "word", none, none, some "paper"]
def subL : List (List Nat) := [[0], [0, 1], [0, 2], [0, 3], [0, 4], [0, 5], [0, 6], [0, 7], [0, 8], [0, 9], [0, 10], [0, 11], [0, 12]]
def sub (a b : Nat) : Bool := (subL.getD a []).elem b
def tab_KINDS_OF_FORMS : Tab := [([108, 105, 110, 101, 115], 10), ([99, 97, 114, 100, 115], 11), ([99, 111, 108, 117, 109, 110, 115], 12), ([103, 114, 111, 117, 112, 115], 13), ([108, 105, 115, 116, 115], 14)]
def tab_CUTTERS : Tab := [([108, 105, 110, 101, 115], 29), ([99, 97, 114, 100, 115], 37), ([99, 111, 108, 117, 109, 110, 115], 31), ([103, 114, 111, 117, 112, 115], 40), ([108, 105, 115, 116, 115], 35)]
def glL : List (Str × GK) := [(Str.ofString "FloorError", GK.cls 0), (Str.ofString "BadText", GK.cls 1), (Str.ofString "BadValue", GK.cls 2), (Str.ofString "BadForm", GK.cls 3), (Str.ofString "BadSchema", GK.cls 4), (Str.ofString "BadProject", GK.cls 5), (Str.ofString "BadState", GK.cls 6), (Str.ofString "BadSteps", GK.cls 7), (Str.ofString "BadEdit", GK.cls 8), (Str.ofString "BadPaper", GK.cls 9), (Str.ofString "NoSuch", GK.cls 10), (Str.ofString "TooFar", GK.cls 11), (Str.ofString "Refused", GK.cls 12), (Str.ofString "MOST_TEXT", GK.con c_MOST_TEXT), (Str.ofString "MOST_WORD", GK.con c_MOST_WORD), (Str.ofString "MOST_RAW", GK.con c_MOST_RAW), (Str.ofString "MOST_NUMBER", GK.con c_MOST_NUMBER), (Str.ofString "MOST_FIELDS", GK.con c_MOST_FIELDS), (Str.ofString "MOST_ROWS", GK.con c_MOST_ROWS), (Str.ofString "MOST_TABLES", GK.con c_MOST_TABLES), (Str.ofString "MOST_COLUMNS", GK.con c_MOST_COLUMNS), (Str.ofString "MOST_LINKS", GK.con c_MOST_LINKS), (Str.ofString "MOST_WORDS", GK.con c_MOST_WORDS), (Str.ofString "MOST_SOURCES", GK.con c_MOST_SOURCES), (Str.ofString "MOST_RULES", GK.con c_MOST_RULES), (Str.ofString "MOST_QUESTIONS", GK.con c_MOST_QUESTIONS), (Str.ofString "MOST_VIEWS", GK.con c_MOST_VIEWS), (Str.ofString "LETTERS", GK.con c_LETTERS), (Str.ofString "DIGITS", GK.con c_DIGITS), (Str.ofString "SIGNS", GK.con c_SIGNS), (Str.ofString "RAW_SIGNS", GK.con c_RAW_SIGNS), (Str.ofString "WORD_SIGNS", GK.con c_WORD_SIGNS), (Str.ofString "LACKS", GK.con c_LACKS), (Str.ofString "is_integer", GK.fn 0), (Str.ofString "is_word", GK.fn 1), (Str.ofString "is_cell", GK.fn 2), (Str.ofString "is_raw", GK.fn 3), (Str.ofString "is_text", GK.fn 4), (Str.ofString "check_text", GK.fn 5), (Str.ofString "cell_key", GK.fn 6), (Str.ofString "less_cell", GK.fn 7), (Str.ofString "cell_of", GK.fn 8), (Str.ofString "raw_of", GK.fn 9), (Str.ofString "SEPARATORS", GK.con c_SEPARATORS), (Str.ofString "is_lines", GK.fn 10), (Str.ofString "is_cards", GK.fn 11), (Str.ofString "is_columns", GK.fn 12), (Str.ofString "is_groups", GK.fn 13), (Str.ofString "is_lists", GK.fn 14), (Str.ofString "KINDS_OF_FORMS", GK.tab tab_KINDS_OF_FORMS), (Str.ofString "is_form", GK.fn 15), (Str.ofString "check_form", GK.fn 16), (Str.ofString "offsets_of", GK.fn 17), (Str.ofString "lines_of", GK.fn 18), (Str.ofString "behind_line", GK.fn 19), (Str.ofString "first_in", GK.fn 20), (Str.ofString "is_empty", GK.fn 21), (Str.ofString "is_remark", GK.fn 22), (Str.ofString "is_rest", GK.fn 23), (Str.ofString "raw_end", GK.fn 24), (Str.ofString "field_at", GK.fn 25), (Str.ofString "fields_of", GK.fn 26), (Str.ofString "raw_at", GK.fn 27), (Str.ofString "put_row", GK.fn 28), (Str.ofString "cut_lines", GK.fn 29), (Str.ofString "column_field", GK.fn 30), (Str.ofString "cut_columns", GK.fn 31), (Str.ofString "blank_end", GK.fn 32), (Str.ofString "begins_line", GK.fn 33), (Str.ofString "list_at", GK.fn 34), (Str.ofString "cut_lists", GK.fn 35), (Str.ofString "card_line", GK.fn 36), (Str.ofString "cut_cards", GK.fn 37), (Str.ofString "group_line", GK.fn 38), (Str.ofString "groups_of", GK.fn 39), (Str.ofString "cut_groups", GK.fn 40), (Str.ofString "CUTTERS", GK.tab tab_CUTTERS), (Str.ofString "cut_all", GK.fn 41), (Str.ofString "cut", GK.fn 42), (Str.ofString "raws_of", GK.fn 43), (Str.ofString "raws", GK.fn 44), (Str.ofString "_law_bag", GK.fn 45), (Str.ofString "_law_draw", GK.fn 46), (Str.ofString "_law_one", GK.fn 47), (Str.ofString "_law_letters", GK.fn 48), (Str.ofString "_law_is_word", GK.fn 49), (Str.ofString "_law_is_cell", GK.fn 50), (Str.ofString "_law_is_raw", GK.fn 51), (Str.ofString "_law_cell_of", GK.fn 52), (Str.ofString "_law_key", GK.fn 53), (Str.ofString "_law_place", GK.fn 54), (Str.ofString "_law_told", GK.fn 55), (Str.ofString "law", GK.fn 56), (Str.ofString "all", GK.blt), (Str.ofString "bool", GK.blt), (Str.ofString "enumerate", GK.blt), (Str.ofString "int", GK.blt), (Str.ofString "isinstance", GK.blt), (Str.ofString "len", GK.blt), (Str.ofString "max", GK.blt), (Str.ofString "min", GK.blt), (Str.ofString "range", GK.blt), (Str.ofString "repr", GK.blt), (Str.ofString "set", GK.blt), (Str.ofString "str", GK.blt), (Str.ofString "sum", GK.blt), (Str.ofString "tuple", GK.blt), (Str.ofString "zip", GK.blt)]
def gl (x : Str) : Option GK := glL.lookup x
def g_is_integer (F : SemF) : SemS :=
  (sRet (gAnd (gOp (pIsi .int) (gCons (gVar 0) gNil)) (gAnd (gNot (gOp (pIsi .bool) (gCons (gVar 0) gNil))) (gChain pLe pLe (gVar 1) (gVar 0) (gVar 2)))))
def g_is_word (F : SemF) : SemS :=
  (sSeq (sIf (tOr (tNot (tVal (gOp (pIsi .str) (gCons (gVar 0) gNil)))) (tOr (tNot (tVal (gChain pLe pLe (gCon (.int 1)) (gOp pLen (gCons (gVar 0) gNil)) (gCon c_MOST_WORD)))) (tVal (gOp pNotIn (gCons (gOp pIx (gCons (gVar 0) (gCons (gCon (.int 0)) gNil))) (gCons (gCon c_LETTERS) gNil)))))) (sRet (gCon (.bl false))) sNext)
    (sRet (gOp pAll (gCons (gLc (iVal (gVar 0)) (.name 1) tTrue (gOp pIn (gCons (gVar 1) (gCons (gCon c_WORD_SIGNS) gNil))) [1]) gNil))))
def g_is_cell (F : SemF) : SemS :=
  (sRet (gOr (gOp pIs (gCons (gVar 0) (gCons (gCon .non) gNil))) (gOr (gCall F 1 (gCons (gVar 0) gNil)) (gCall F 0 (gCons (gVar 0) (gCons (gOp pNeg (gCons (gCon c_MOST_NUMBER) gNil)) (gCons (gCon c_MOST_NUMBER) gNil)))))))
def g_is_raw (F : SemF) : SemS :=
  (sSeq (sIf (tOr (tNot (tVal (gOp (pIsi .str) (gCons (gVar 0) gNil)))) (tNot (tVal (gChain pLe pLe (gCon (.int 1)) (gOp pLen (gCons (gVar 0) gNil)) (gCon c_MOST_RAW))))) (sRet (gCon (.bl false))) sNext)
    (sRet (gOp pAll (gCons (gLc (iVal (gVar 0)) (.name 1) tTrue (gOp pIn (gCons (gVar 1) (gCons (gCon c_RAW_SIGNS) gNil))) [1]) gNil))))
def g_is_text (F : SemF) : SemS :=
  (sRet (gAnd (gOp (pIsi .str) (gCons (gVar 0) gNil)) (gAnd (gOp pLe (gCons (gOp pLen (gCons (gVar 0) gNil)) (gCons (gCon c_MOST_TEXT) gNil))) (gOp pAll (gCons (gLc (iVal (gVar 0)) (.name 1) tTrue (gOp pIn (gCons (gVar 1) (gCons (gCon c_SIGNS) gNil))) [1]) gNil)))))
def b_check_text_1 (F : SemF) : SemS :=
  (sIf (tVal (gOp pNotIn (gCons (gVar 2) (gCons (gCon c_SIGNS) gNil)))) (sRaise1 1 (gVar 1)) sNext)
def g_check_text (F : SemF) : SemS :=
  (sSeq (sIf (tNot (tVal (gOp (pIsi .str) (gCons (gVar 0) gNil)))) (sRaise1 1 (gOp pNeg (gCons (gCon (.int 1)) gNil))) sNext)
    (sSeq (sFor (iEnum (gVar 0)) (.tup [(.name 1), (.name 2)]) (b_check_text_1 F))
    (sIf (tVal (gOp pGt (gCons (gOp pLen (gCons (gVar 0) gNil)) (gCons (gCon c_MOST_TEXT) gNil)))) (sRaise0 11) sNext)))
def g_cell_key (F : SemF) : SemS :=
  (sSeq (sIf (tVal (gOp pIs (gCons (gVar 0) (gCons (gCon .non) gNil)))) (sRet (gTup (gCons (gCon (.int 0)) (gCons (gCon (.int 0)) (gCons (gCon (.str [])) gNil))))) sNext)
    (sSeq (sIf (tVal (gOp (pIsi .int) (gCons (gVar 0) gNil))) (sRet (gTup (gCons (gCon (.int 1)) (gCons (gVar 0) (gCons (gCon (.str [])) gNil))))) sNext)
    (sRet (gTup (gCons (gCon (.int 2)) (gCons (gCon (.int 0)) (gCons (gVar 0) gNil)))))))
def g_less_cell (F : SemF) : SemS :=
  (sRet (gOp pLt2 (gCons (gCall F 6 (gCons (gVar 0) gNil)) (gCons (gCall F 6 (gCons (gVar 1) gNil)) gNil))))
def g_cell_of (F : SemF) : SemS :=
  (sSeq (sIf (tVal (gCall F 1 (gCons (gVar 0) gNil))) (sRet (gVar 0)) sNext)
    (sSeq (sSet 1 (gIf (tVal (gOp pEq (gCons (gOp pSl (gCons (gVar 0) (gCons (gCon .non) (gCons (gInt (gCon (.int 1))) gNil)))) (gCons (gCon (.str [45])) gNil)))) (gOp pSl (gCons (gVar 0) (gCons (gInt (gCon (.int 1))) (gCons (gCon .non) gNil)))) (gVar 0)))
    (sSeq (sIf (tOr (tVal (gOp pEq (gCons (gVar 1) (gCons (gCon (.str [])) gNil)))) (tNot (tVal (gOp pAll (gCons (gLc (iVal (gVar 1)) (.name 2) tTrue (gOp pIn (gCons (gVar 2) (gCons (gCon c_DIGITS) gNil))) [2]) gNil))))) (sRet (gCon .non)) sNext)
    (sSeq (sIf (tVal (gOp pGt (gCons (gOp pLen (gCons (gOp pLstrip (gCons (gStr (gVar 1)) (gCons (gCon (.str [48])) gNil))) gNil)) (gCons (gCon (.int 9)) gNil)))) (sRet (gCon .non)) sNext)
    (sRet (gOp pInt2 (gCons (gVar 0) gNil)))))))
def g_raw_of (F : SemF) : SemS :=
  (sSeq (sIf (tVal (gOp pIs (gCons (gVar 0) (gCons (gCon .non) gNil)))) (sRet (gCon .non)) sNext)
    (sRet (gOp pStr (gCons (gVar 0) gNil))))
def g_is_lines (F : SemF) : SemS :=
  (sRet (gAnd (gOp pEq (gCons (gOp pLen (gCons (gVar 0) gNil)) (gCons (gCon (.int 3)) gNil))) (gAnd (gOp pIn (gCons (gOp pIx (gCons (gVar 0) (gCons (gCon (.int 1)) gNil))) (gCons (gCon c_SEPARATORS) gNil))) (gCall F 0 (gCons (gOp pIx (gCons (gVar 0) (gCons (gCon (.int 2)) gNil))) (gCons (gCon (.int 1)) (gCons (gCon c_MOST_FIELDS) gNil)))))))
def g_is_cards (F : SemF) : SemS :=
  (sSeq (sIf (tOr (tVal (gOp pNe (gCons (gOp pLen (gCons (gVar 0) gNil)) (gCons (gCon (.int 2)) gNil)))) (tOr (tNot (tVal (gOp (pIsi .tuple) (gCons (gOp pIx (gCons (gVar 0) (gCons (gCon (.int 1)) gNil))) gNil)))) (tNot (tVal (gChain pLe pLe (gCon (.int 1)) (gOp pLen (gCons (gOp pIx (gCons (gVar 0) (gCons (gCon (.int 1)) gNil))) gNil)) (gCon c_MOST_FIELDS)))))) (sRet (gCon (.bl false))) sNext)
    sBad)
def g_is_columns (F : SemF) : SemS :=
  (sSeq (sIf (tOr (tVal (gOp pNe (gCons (gOp pLen (gCons (gVar 0) gNil)) (gCons (gCon (.int 2)) gNil)))) (tOr (tNot (tVal (gOp (pIsi .tuple) (gCons (gOp pIx (gCons (gVar 0) (gCons (gCon (.int 1)) gNil))) gNil)))) (tNot (tVal (gChain pLe pLe (gCon (.int 1)) (gOp pLen (gCons (gOp pIx (gCons (gVar 0) (gCons (gCon (.int 1)) gNil))) gNil)) (gCon c_MOST_FIELDS)))))) (sRet (gCon (.bl false))) sNext)
    (sRet (gOp pAll (gCons (gLc (iVal (gOp pIx (gCons (gVar 0) (gCons (gCon (.int 1)) gNil)))) (.name 1) tTrue (gCall F 0 (gCons (gVar 1) (gCons (gCon (.int 2)) (gCons (gCon c_MOST_RAW) gNil)))) [1]) gNil))))
def g_is_groups (F : SemF) : SemS :=
  (sSeq (sIf (tOr (tVal (gOp pNe (gCons (gOp pLen (gCons (gVar 0) gNil)) (gCons (gCon (.int 4)) gNil)))) (tOr (tNot (tVal (gCall F 0 (gCons (gOp pIx (gCons (gVar 0) (gCons (gCon (.int 1)) gNil))) (gCons (gCon (.int 1)) (gCons (gCon c_MOST_FIELDS) gNil)))))) (tNot (tVal (gCall F 0 (gCons (gOp pIx (gCons (gVar 0) (gCons (gCon (.int 2)) gNil))) (gCons (gCon (.int 1)) (gCons (gCon c_MOST_FIELDS) gNil)))))))) (sRet (gCon (.bl false))) sNext)
    (sRet (gAnd (gOp pLe (gCons (gOp pAdd (gCons (gOp pIx (gCons (gVar 0) (gCons (gCon (.int 1)) gNil))) (gCons (gOp pIx (gCons (gVar 0) (gCons (gCon (.int 2)) gNil))) gNil))) (gCons (gCon c_MOST_FIELDS) gNil))) (gOp pIn (gCons (gOp pIx (gCons (gVar 0) (gCons (gCon (.int 3)) gNil))) (gCons (gCon c_SEPARATORS) gNil))))))
def g_is_lists (F : SemF) : SemS :=
  (sRet (gAnd (gOp pEq (gCons (gOp pLen (gCons (gVar 0) gNil)) (gCons (gCon (.int 2)) gNil))) (gCall F 0 (gCons (gOp pIx (gCons (gVar 0) (gCons (gCon (.int 1)) gNil))) (gCons (gCon (.int 1)) (gCons (gCon c_MOST_FIELDS) gNil))))))
def g_is_form (F : SemF) : SemS :=
  (sSeq (sIf (tOr (tNot (tVal (gOp (pIsi .tuple) (gCons (gVar 0) gNil)))) (tOr (tVal (gOp pLt2 (gCons (gOp pLen (gCons (gVar 0) gNil)) (gCons (gCon (.int 2)) gNil)))) (tNot (tVal (gOp (pIsi .str) (gCons (gOp pIx (gCons (gVar 0) (gCons (gCon (.int 0)) gNil))) gNil)))))) (sRet (gCon (.bl false))) sNext)
    (sSeq (sIf (tOr (tVal (gOp (pNotInTab tab_KINDS_OF_FORMS) (gCons (gOp pIx (gCons (gVar 0) (gCons (gCon (.int 0)) gNil))) gNil))) (tNot (tVal (gOp pAll (gCons (gLc (iVal (gOp pSl (gCons (gVar 0) (gCons (gInt (gCon (.int 1))) (gCons (gCon .non) gNil))))) (.name 1) tTrue (gOp (pIsis [.int, .str, .tuple]) (gCons (gVar 1) gNil)) [1]) gNil))))) (sRet (gCon (.bl false))) sNext)
    (sRet (gCallT F tab_KINDS_OF_FORMS (gOp pIx (gCons (gVar 0) (gCons (gCon (.int 0)) gNil))) (gCons (gVar 0) gNil)))))
def g_check_form (F : SemF) : SemS :=
  (sIf (tNot (tVal (gCall F 15 (gCons (gVar 0) gNil)))) (sRaise0 3) sNext)
def b_offsets_of_1 (F : SemF) : SemS :=
  (sSeq (sAppend (gVar 1) (gVar 2))
    (sAug 2 pIAdd (gVar 3)))
def g_offsets_of (F : SemF) : SemS :=
  (sSeq (sSet 1 (gLst gNil))
    (sSeq (sSet 2 (gCon (.int 0)))
    (sSeq (sFor (iVal (gOp pIx (gCons (gVar 0) (gCons (gCon (.int 1)) gNil)))) (.name 3) (b_offsets_of_1 F))
    (sRet (gVar 1)))))
def g_lines_of (F : SemF) : SemS :=
  (sSeq (sSet 1 (gLst gNil))
    (sSeq (sSet 2 (gCon (.int 0)))
    (sSeq sBad
    (sRet (gVar 1)))))
def g_behind_line (F : SemF) : SemS :=
  (sRet (gOp pMin2 (gCons (gOp pAdd (gCons (gVar 1) (gCons (gCon (.int 1)) gNil))) (gCons (gOp pLen (gCons (gVar 0) gNil)) gNil))))
def b_first_in_1 (F : SemF) : SemS :=
  (sAug 1 pIAdd (gCon (.int 1)))
def g_first_in (F : SemF) : SemS :=
  (sSeq (sWhile (tAnd (tVal (gOp pLt2 (gCons (gVar 1) (gCons (gVar 2) gNil)))) (tVal (gOp pEq (gCons (gOp pIx (gCons (gVar 0) (gCons (gVar 1) gNil))) (gCons (gCon (.str [32])) gNil))))) (b_first_in_1 F))
    (sRet (gVar 1)))
def g_is_empty (F : SemF) : SemS :=
  (sRet (gOp pEq (gCons (gCall F 20 (gCons (gVar 0) (gCons (gVar 1) (gCons (gVar 2) gNil)))) (gCons (gVar 2) gNil))))
def g_is_remark (F : SemF) : SemS :=
  (sSeq (sSet 3 (gCall F 20 (gCons (gVar 0) (gCons (gVar 1) (gCons (gVar 2) gNil)))))
    (sRet (gAnd (gOp pLt2 (gCons (gVar 3) (gCons (gVar 2) gNil))) (gOp pEq (gCons (gOp pIx (gCons (gVar 0) (gCons (gVar 3) gNil))) (gCons (gCon (.str [35])) gNil))))))
def g_is_rest (F : SemF) : SemS :=
  (sRet (gOr (gCall F 21 (gCons (gVar 0) (gCons (gVar 1) (gCons (gVar 2) gNil)))) (gCall F 22 (gCons (gVar 0) (gCons (gVar 1) (gCons (gVar 2) gNil))))))
def b_raw_end_1 (F : SemF) : SemS :=
  (sSeq (sIf (tVal (gOp pEq (gCons (gOp pSub (gCons (gVar 3) (gCons (gVar 1) gNil))) (gCons (gCon c_MOST_RAW) gNil)))) (sRaise1 1 (gVar 3)) sNext)
    (sAug 3 pIAdd (gCon (.int 1))))
def g_raw_end (F : SemF) : SemS :=
  (sSeq (sSet 3 (gVar 1))
    (sSeq (sWhile (tAnd (tVal (gOp pLt2 (gCons (gVar 3) (gCons (gVar 2) gNil)))) (tVal (gOp pIn (gCons (gOp pIx (gCons (gVar 0) (gCons (gVar 3) gNil))) (gCons (gCon c_RAW_SIGNS) gNil))))) (b_raw_end_1 F))
    (sSeq (sIf (tVal (gOp pEq (gCons (gVar 3) (gCons (gVar 1) gNil)))) (sRaise1 1 (gVar 1)) sNext)
    (sRet (gVar 3)))))
def g_field_at (F : SemF) : SemS :=
  (sSeq (sSet 1 (gCall F 20 (gCons (gVar 0) (gCons (gVar 1) (gCons (gVar 2) gNil)))))
    (sSeq (sIf (tAnd (tVal (gVar 3)) (tAnd (tVal (gOp pLt2 (gCons (gVar 1) (gCons (gVar 2) gNil)))) (tVal (gOp pEq (gCons (gOp pIx (gCons (gVar 0) (gCons (gVar 1) gNil))) (gCons (gCon c_LACKS) gNil)))))) (sRet (gTup (gCons (gVar 1) (gCons (gOp pAdd (gCons (gVar 1) (gCons (gCon (.int 1)) gNil))) gNil)))) sNext)
    (sRet (gTup (gCons (gVar 1) (gCons (gCall F 24 (gCons (gVar 0) (gCons (gVar 1) (gCons (gVar 2) gNil)))) gNil))))))
def b_fields_of_1 (F : SemF) : SemS :=
  (sSeq (sSet 8 (gCall F 25 (gCons (gVar 0) (gCons (gVar 1) (gCons (gVar 2) (gCons (gVar 5) gNil))))))
    (sSeq (sAppend (gVar 6) (gVar 8))
    (sSeq (sSet 1 (gCall F 20 (gCons (gVar 0) (gCons (gOp pIx (gCons (gVar 8) (gCons (gCon (.int 1)) gNil))) (gCons (gVar 2) gNil)))))
    (sIf (tVal (gOp pLt2 (gCons (gOp pAdd (gCons (gVar 7) (gCons (gCon (.int 1)) gNil))) (gCons (gVar 4) gNil)))) (sSeq (sIf (tOr (tVal (gOp pEq (gCons (gVar 1) (gCons (gVar 2) gNil)))) (tVal (gOp pNe (gCons (gOp pIx (gCons (gVar 0) (gCons (gVar 1) gNil))) (gCons (gVar 3) gNil))))) (sRaise1 1 (gVar 1)) sNext)
    (sAug 1 pIAdd (gCon (.int 1)))) sNext))))
def g_fields_of (F : SemF) : SemS :=
  (sSeq (sSet 6 (gLst gNil))
    (sSeq (sFor (iRange1 (gVar 4)) (.name 7) (b_fields_of_1 F))
    (sSeq (sIf (tVal (gOp pLt2 (gCons (gVar 1) (gCons (gVar 2) gNil)))) (sRaise1 1 (gVar 1)) sNext)
    (sRet (gVar 6)))))
def g_raw_at (F : SemF) : SemS :=
  (sSeq (sIf (tOr (tVal (gOp pIs (gCons (gVar 1) (gCons (gCon .non) gNil)))) (tVal (gOp pEq (gCons (gOp pSl (gCons (gVar 0) (gCons (gInt (gOp pIx (gCons (gVar 1) (gCons (gCon (.int 0)) gNil)))) (gCons (gInt (gOp pIx (gCons (gVar 1) (gCons (gCon (.int 1)) gNil)))) gNil)))) (gCons (gCon c_LACKS) gNil))))) (sRet (gCon .non)) sNext)
    (sRet (gOp pSl (gCons (gVar 0) (gCons (gInt (gOp pIx (gCons (gVar 1) (gCons (gCon (.int 0)) gNil)))) (gCons (gInt (gOp pIx (gCons (gVar 1) (gCons (gCon (.int 1)) gNil)))) gNil))))))
def g_put_row (F : SemF) : SemS :=
  (sSeq (sIf (tVal (gOp pEq (gCons (gOp pLen (gCons (gVar 0) gNil)) (gCons (gCon c_MOST_ROWS) gNil)))) (sRaise0 11) sNext)
    (sAppend (gVar 0) (gTup (gCons (gOp pTuple (gCons (gVar 1) gNil)) (gCons (gVar 2) (gCons (gVar 3) gNil))))))
def b_cut_lines_1 (F : SemF) : SemS :=
  (sIf (tNot (tVal (gCall F 23 (gCons (gVar 1) (gCons (gVar 3) (gCons (gVar 4) gNil)))))) (sExpr (gCall F 28 (gCons (gVar 2) (gCons (gCall F 26 (gCons (gVar 1) (gCons (gVar 3) (gCons (gVar 4) (gCons (gOp pIx (gCons (gVar 0) (gCons (gCon (.int 1)) gNil))) (gCons (gOp pIx (gCons (gVar 0) (gCons (gCon (.int 2)) gNil))) (gCons (gCon (.bl true)) gNil))))))) (gCons (gVar 3) (gCons (gCall F 19 (gCons (gVar 1) (gCons (gVar 4) gNil))) gNil)))))) sNext)
def g_cut_lines (F : SemF) : SemS :=
  (sSeq (sSet 2 (gLst gNil))
    (sSeq (sFor (iVal (gCall F 18 (gCons (gVar 1) gNil))) (.tup [(.name 3), (.name 4)]) (b_cut_lines_1 F))
    (sRet (gVar 2))))
def g_column_field (F : SemF) : SemS :=
  (sSeq (sSet 3 (gCall F 20 (gCons (gVar 0) (gCons (gVar 1) (gCons (gVar 2) gNil)))))
    (sSeq (sIf (tVal (gOp pEq (gCons (gVar 3) (gCons (gVar 2) gNil)))) (sRet (gCon .non)) sNext)
    (sSeq (sSet 4 (gCall F 24 (gCons (gVar 0) (gCons (gVar 3) (gCons (gVar 2) gNil)))))
    (sSeq (sSet 5 (gCall F 20 (gCons (gVar 0) (gCons (gVar 4) (gCons (gVar 2) gNil)))))
    (sSeq (sIf (tVal (gOp pLt2 (gCons (gVar 5) (gCons (gVar 2) gNil)))) (sRaise1 1 (gVar 5)) sNext)
    (sRet (gTup (gCons (gVar 3) (gCons (gVar 4) gNil)))))))))
def b_cut_columns_1 (F : SemF) : SemS :=
  (sAppend (gVar 6) (gCall F 30 (gCons (gVar 1) (gCons (gOp pMin2 (gCons (gOp pAdd (gCons (gVar 4) (gCons (gVar 7) gNil))) (gCons (gVar 5) gNil))) (gCons (gOp pMin2 (gCons (gOp pAdd (gCons (gOp pAdd (gCons (gVar 4) (gCons (gVar 7) gNil))) (gCons (gVar 8) gNil))) (gCons (gVar 5) gNil))) gNil)))))
def b_cut_columns_2 (F : SemF) : SemS :=
  (sIf (tNot (tVal (gCall F 23 (gCons (gVar 1) (gCons (gVar 4) (gCons (gVar 5) gNil)))))) (sSeq (sSet 6 (gLst gNil))
    (sSeq (sFor (iZip (gCall F 17 (gCons (gVar 0) gNil)) (gOp pIx (gCons (gVar 0) (gCons (gCon (.int 1)) gNil)))) (.tup [(.name 7), (.name 8)]) (b_cut_columns_1 F))
    (sSeq (sIf (tVal (gOp pGt (gCons (gOp pSub (gCons (gVar 5) (gCons (gVar 4) gNil))) (gCons (gVar 3) gNil)))) (sRaise1 1 (gOp pAdd (gCons (gVar 4) (gCons (gVar 3) gNil)))) sNext)
    (sExpr (gCall F 28 (gCons (gVar 2) (gCons (gVar 6) (gCons (gVar 4) (gCons (gCall F 19 (gCons (gVar 1) (gCons (gVar 5) gNil))) gNil))))))))) sNext)
def g_cut_columns (F : SemF) : SemS :=
  (sSeq (sSet 2 (gLst gNil))
    (sSeq (sSet 3 (gOp pSum (gCons (gOp pIx (gCons (gVar 0) (gCons (gCon (.int 1)) gNil))) gNil)))
    (sSeq (sFor (iVal (gCall F 18 (gCons (gVar 1) gNil))) (.tup [(.name 4), (.name 5)]) (b_cut_columns_2 F))
    (sRet (gVar 2)))))
def b_blank_end_1 (F : SemF) : SemS :=
  (sAug 1 pIAdd (gCon (.int 1)))
def g_blank_end (F : SemF) : SemS :=
  (sSeq (sWhile (tAnd (tVal (gOp pLt2 (gCons (gVar 1) (gCons (gOp pLen (gCons (gVar 0) gNil)) gNil)))) (tVal (gOp pIn (gCons (gOp pIx (gCons (gVar 0) (gCons (gVar 1) gNil))) (gCons (gCon (.str [32, 10])) gNil))))) (b_blank_end_1 F))
    (sRet (gVar 1)))
def b_begins_line_1 (F : SemF) : SemS :=
  (sAug 1 pSub (gCon (.int 1)))
def g_begins_line (F : SemF) : SemS :=
  (sSeq (sWhile (tAnd (tVal (gOp pGt (gCons (gVar 1) (gCons (gCon (.int 0)) gNil)))) (tVal (gOp pEq (gCons (gOp pIx (gCons (gVar 0) (gCons (gOp pSub (gCons (gVar 1) (gCons (gCon (.int 1)) gNil))) gNil))) (gCons (gCon (.str [32])) gNil))))) (b_begins_line_1 F))
    (sRet (gOr (gOp pEq (gCons (gVar 1) (gCons (gCon (.int 0)) gNil))) (gOp pEq (gCons (gOp pIx (gCons (gVar 0) (gCons (gOp pSub (gCons (gVar 1) (gCons (gCon (.int 1)) gNil))) gNil))) (gCons (gCon (.str [10])) gNil))))))
def b_list_at_1 (F : SemF) : SemS :=
  (sSeq (sSet 6 (gCall F 32 (gCons (gVar 0) (gCons (gVar 4) gNil))))
    (sSeq (sIf (tAnd (tVal (gOp pGt (gCons (gVar 5) (gCons (gCon (.int 0)) gNil)))) (tVal (gOp pEq (gCons (gVar 6) (gCons (gVar 4) gNil))))) (sRaise1 1 (gVar 6)) sNext)
    (sSeq (sSet 7 (gCall F 25 (gCons (gVar 0) (gCons (gVar 6) (gCons (gOp pLen (gCons (gVar 0) gNil)) (gCons (gCon (.bl true)) gNil))))))
    (sSeq (sAppend (gVar 3) (gVar 7))
    (sSet 4 (gOp pIx (gCons (gVar 7) (gCons (gCon (.int 1)) gNil))))))))
def g_list_at (F : SemF) : SemS :=
  (sSeq (sSet 3 (gLst gNil))
    (sSeq (sSet 4 (gOp pAdd (gCons (gVar 1) (gCons (gCon (.int 1)) gNil))))
    (sSeq (sFor (iRange1 (gVar 2)) (.name 5) (b_list_at_1 F))
    (sSeq (sSet 8 (gCall F 32 (gCons (gVar 0) (gCons (gVar 4) gNil))))
    (sSeq (sIf (tOr (tVal (gOp pEq (gCons (gVar 8) (gCons (gOp pLen (gCons (gVar 0) gNil)) gNil)))) (tVal (gOp pNe (gCons (gOp pIx (gCons (gVar 0) (gCons (gVar 8) gNil))) (gCons (gCon (.str [41])) gNil))))) (sRaise1 1 (gVar 8)) sNext)
    (sRet (gTup (gCons (gVar 3) (gCons (gOp pAdd (gCons (gVar 8) (gCons (gCon (.int 1)) gNil))) gNil)))))))))
def b_cut_lists_1 (F : SemF) : SemS :=
  (sSeq (sIf (tAnd (tVal (gOp pEq (gCons (gOp pIx (gCons (gVar 1) (gCons (gVar 3) gNil))) (gCons (gCon (.str [35])) gNil)))) (tVal (gCall F 33 (gCons (gVar 1) (gCons (gVar 3) gNil))))) (sSeq sBad
    (sIf (tVal (gOp pLt2 (gCons (gVar 3) (gCons (gCon (.int 0)) gNil)))) (sSet 3 (gOp pLen (gCons (gVar 1) gNil))) sNext)) (sIf (tVal (gOp pEq (gCons (gOp pIx (gCons (gVar 1) (gCons (gVar 3) gNil))) (gCons (gCon (.str [40])) gNil)))) (sSeq (sUnpack [4, 5] (gCall F 34 (gCons (gVar 1) (gCons (gVar 3) (gCons (gOp pIx (gCons (gVar 0) (gCons (gCon (.int 1)) gNil))) gNil)))))
    (sSeq (sExpr (gCall F 28 (gCons (gVar 2) (gCons (gVar 4) (gCons (gVar 3) (gCons (gVar 5) gNil))))))
    (sSet 3 (gVar 5)))) (sRaise1 1 (gVar 3))))
    (sSet 3 (gCall F 32 (gCons (gVar 1) (gCons (gVar 3) gNil)))))
def g_cut_lists (F : SemF) : SemS :=
  (sSeq (sSet 2 (gLst gNil))
    (sSeq (sSet 3 (gCall F 32 (gCons (gVar 1) (gCons (gCon (.int 0)) gNil))))
    (sSeq (sWhile (tVal (gOp pLt2 (gCons (gVar 3) (gCons (gOp pLen (gCons (gVar 1) gNil)) gNil)))) (b_cut_lists_1 F))
    (sRet (gVar 2)))))
def b_card_line_1 (F : SemF) : SemS :=
  (sAug 6 pIAdd (gCon (.int 1)))
def g_card_line (F : SemF) : SemS :=
  (sSeq (sSet 5 (gCall F 20 (gCons (gVar 1) (gCons (gVar 2) (gCons (gVar 3) gNil)))))
    (sSeq (sSet 6 (gVar 5))
    (sSeq (sWhile (tAnd (tVal (gOp pLt2 (gCons (gVar 6) (gCons (gVar 3) gNil)))) (tVal (gOp pIn (gCons (gOp pIx (gCons (gVar 1) (gCons (gVar 6) gNil))) (gCons (gCon c_WORD_SIGNS) gNil))))) (b_card_line_1 F))
    (sSeq (sIf (tOr (tVal (gOp pEq (gCons (gVar 6) (gCons (gVar 5) gNil)))) (tOr (tVal (gOp pNotIn (gCons (gOp pIx (gCons (gVar 1) (gCons (gVar 5) gNil))) (gCons (gCon c_LETTERS) gNil)))) (tVal (gOp pNotIn (gCons (gOp pSl (gCons (gVar 1) (gCons (gInt (gVar 5)) (gCons (gInt (gVar 6)) gNil)))) (gCons (gOp pIx (gCons (gVar 0) (gCons (gCon (.int 1)) gNil))) gNil)))))) (sRaise1 1 (gVar 5)) sNext)
    (sSeq sBad
    (sSeq (sIf (tVal (gOp pIsNot (gCons (gOp pIx (gCons (gVar 4) (gCons (gVar 7) gNil))) (gCons (gCon .non) gNil)))) (sRaise1 1 (gVar 5)) sNext)
    (sSeq (sSet 8 (gCall F 20 (gCons (gVar 1) (gCons (gVar 6) (gCons (gVar 3) gNil)))))
    (sSeq (sIf (tOr (tVal (gOp pEq (gCons (gVar 8) (gCons (gVar 3) gNil)))) (tVal (gOp pNe (gCons (gOp pIx (gCons (gVar 1) (gCons (gVar 8) gNil))) (gCons (gCon (.str [58])) gNil))))) (sRaise1 1 (gVar 8)) sNext)
    (sSeq (sSet 9 (gCall F 25 (gCons (gVar 1) (gCons (gOp pAdd (gCons (gVar 8) (gCons (gCon (.int 1)) gNil))) (gCons (gVar 3) (gCons (gCon (.bl false)) gNil))))))
    (sSeq (sSet 10 (gCall F 20 (gCons (gVar 1) (gCons (gOp pIx (gCons (gVar 9) (gCons (gCon (.int 1)) gNil))) (gCons (gVar 3) gNil)))))
    (sSeq (sIf (tVal (gOp pLt2 (gCons (gVar 10) (gCons (gVar 3) gNil)))) (sRaise1 1 (gVar 10)) sNext)
    (sRet (gTup (gCons (gVar 7) (gCons (gVar 9) gNil)))))))))))))))
def b_cut_cards_1 (F : SemF) : SemS :=
  (sIf (tVal (gCall F 21 (gCons (gVar 1) (gCons (gVar 3) (gCons (gVar 4) gNil))))) sBad (sIf (tNot (tVal (gCall F 22 (gCons (gVar 1) (gCons (gVar 3) (gCons (gVar 4) gNil)))))) sBad sNext))
def g_cut_cards (F : SemF) : SemS :=
  (sSeq sBad
    (sSeq (sFor (iVal (gCall F 18 (gCons (gVar 1) gNil))) (.tup [(.name 3), (.name 4)]) (b_cut_cards_1 F))
    (sSeq sBad
    sBad)))
def g_group_line (F : SemF) : SemS :=
  (sSeq (sSet 5 (gCall F 20 (gCons (gVar 1) (gCons (gVar 2) (gCons (gVar 3) gNil)))))
    (sSeq (sIf (tVal (gOp pEq (gCons (gOp pIx (gCons (gVar 1) (gCons (gVar 5) gNil))) (gCons (gCon (.str [61])) gNil)))) (sRet (gTup (gCons (gCon (.str [61])) (gCons (gCall F 26 (gCons (gVar 1) (gCons (gOp pAdd (gCons (gVar 5) (gCons (gCon (.int 1)) gNil))) (gCons (gVar 3) (gCons (gOp pIx (gCons (gVar 0) (gCons (gCon (.int 3)) gNil))) (gCons (gOp pIx (gCons (gVar 0) (gCons (gCon (.int 1)) gNil))) (gCons (gCon (.bl false)) gNil))))))) gNil)))) sNext)
    (sSeq (sIf (tAnd (tVal (gOp pEq (gCons (gOp pIx (gCons (gVar 1) (gCons (gVar 5) gNil))) (gCons (gCon (.str [45])) gNil)))) (tVal (gVar 4))) (sRet (gTup (gCons (gCon (.str [45])) (gCons (gCall F 26 (gCons (gVar 1) (gCons (gOp pAdd (gCons (gVar 5) (gCons (gCon (.int 1)) gNil))) (gCons (gVar 3) (gCons (gOp pIx (gCons (gVar 0) (gCons (gCon (.int 3)) gNil))) (gCons (gOp pIx (gCons (gVar 0) (gCons (gCon (.int 2)) gNil))) (gCons (gCon (.bl true)) gNil))))))) gNil)))) sNext)
    (sRaise1 1 (gVar 5)))))
def b_groups_of_1 (F : SemF) : SemS :=
  (sIf (tNot (tVal (gCall F 23 (gCons (gVar 1) (gCons (gVar 4) (gCons (gVar 5) gNil)))))) (sSeq (sUnpack [6, 7] (gCall F 38 (gCons (gVar 0) (gCons (gVar 1) (gCons (gVar 4) (gCons (gVar 5) (gCons (gOp pNe (gCons (gVar 2) (gCons (gLst gNil) gNil))) gNil)))))))
    (sIf (tVal (gOp pEq (gCons (gVar 6) (gCons (gCon (.str [61])) gNil)))) (sAppend (gVar 2) (gTup (gCons (gVar 7) (gCons (gCall F 19 (gCons (gVar 1) (gCons (gVar 5) gNil))) (gCons (gLst gNil) gNil))))) (sSeq (sExpr (gCall F 28 (gCons (gVar 3) (gCons (gOp pAdd (gCons (gOp pIx (gCons (gOp pIx (gCons (gVar 2) (gCons (gOp pNeg (gCons (gCon (.int 1)) gNil)) gNil))) (gCons (gCon (.int 0)) gNil))) (gCons (gVar 7) gNil))) (gCons (gVar 4) (gCons (gCall F 19 (gCons (gVar 1) (gCons (gVar 5) gNil))) gNil))))))
    (sAppend (gOp pIx (gCons (gOp pIx (gCons (gVar 2) (gCons (gOp pNeg (gCons (gCon (.int 1)) gNil)) gNil))) (gCons (gCon (.int 2)) gNil))) (gOp pIx (gCons (gVar 3) (gCons (gOp pNeg (gCons (gCon (.int 1)) gNil)) gNil))))))) sNext)
def g_groups_of (F : SemF) : SemS :=
  (sSeq (sSet 2 (gLst gNil))
    (sSeq (sSet 3 (gLst gNil))
    (sSeq (sFor (iVal (gCall F 18 (gCons (gVar 1) gNil))) (.tup [(.name 4), (.name 5)]) (b_groups_of_1 F))
    (sRet (gVar 2)))))
def b_cut_groups_1 (F : SemF) : SemS :=
  sBad
def g_cut_groups (F : SemF) : SemS :=
  (sSeq (sSet 2 (gLst gNil))
    (sSeq (sFor (iVal (gCall F 39 (gCons (gVar 0) (gCons (gVar 1) gNil)))) (.tup [(.name 3), (.name 3), (.name 4)]) (b_cut_groups_1 F))
    (sRet (gVar 2))))
def g_cut_all (F : SemF) : SemS :=
  (sRet (gCallT F tab_CUTTERS (gOp pIx (gCons (gVar 0) (gCons (gCon (.int 0)) gNil))) (gCons (gVar 0) (gCons (gVar 1) gNil))))
def g_cut (F : SemF) : SemS :=
  (sSeq (sExpr (gCall F 16 (gCons (gVar 0) gNil)))
    (sSeq (sExpr (gCall F 5 (gCons (gVar 1) gNil)))
    (sRet (gOp pTuple (gCons (gCall F 41 (gCons (gVar 0) (gCons (gVar 1) gNil))) gNil)))))
def g_raws_of (F : SemF) : SemS :=
  (sRet (gOp pTuple (gCons (gLc (iVal (gVar 1)) (.tup [(.name 2), (.name 3), (.name 3)]) tTrue (gOp pTuple (gCons (gLc (iVal (gVar 2)) (.name 4) tTrue (gCall F 27 (gCons (gVar 0) (gCons (gVar 4) gNil))) [4]) gNil)) [2, 3]) gNil)))
def g_raws (F : SemF) : SemS :=
  (sRet (gCall F 43 (gCons (gVar 1) (gCons (gCall F 42 (gCons (gVar 0) (gCons (gVar 1) gNil))) gNil))))
def g_law_bag (F : SemF) : SemS :=
  (sSeq (sSet 2 (gCon (.int 0)))
    (sSeq (sIf (tVal (gOp pLt2 (gCons (gVar 1) (gCons (gOp pLen (gCons (gVar 0) gNil)) gNil)))) (sSet 2 (gOp pInt2 (gCons (gOp pIx (gCons (gVar 0) (gCons (gVar 1) gNil))) gNil))) sNext)
    (sRet (gLst (gCons (gCon (.int 0)) (gCons (gOp pAdd (gCons (gCon (.int 9001)) (gCons (gOp pMul (gCons (gCon (.int 48611)) (gCons (gVar 1) gNil))) gNil))) (gCons (gCon (.int 0)) (gCons (gVar 2) gNil))))))))
def g_law_draw (F : SemF) : SemS :=
  (sSeq (sIf (tVal (gOp pLt2 (gCons (gVar 1) (gCons (gCon (.int 1)) gNil)))) (sRet (gCon (.int 0))) sNext)
    (sSeq (sIf (tVal (gOp pEq (gCons (gOp pIx (gCons (gVar 0) (gCons (gCon (.int 0)) gNil))) (gCons (gCon (.int 0)) gNil)))) (sSeq (sSetIx (gVar 0) (gCon (.int 2)) (gOp pAdd (gCons (gOp pIx (gCons (gVar 0) (gCons (gCon (.int 2)) gNil))) (gCons (gCon (.int 1)) gNil))))
    (sSeq (sSet 2 (gOp pMod (gCons (gOp pInt2 (gCons (gOp pAdd (gCons (gOp pAdd (gCons (gOp pAdd (gCons (gOp pMul (gCons (gOp pIx (gCons (gVar 0) (gCons (gCon (.int 1)) gNil))) (gCons (gCon (.int 48271)) gNil))) (gCons (gOp pMul (gCons (gOp pIx (gCons (gVar 0) (gCons (gCon (.int 3)) gNil))) (gCons (gCon (.int 69621)) gNil))) gNil))) (gCons (gOp pMul (gCons (gOp pIx (gCons (gVar 0) (gCons (gCon (.int 2)) gNil))) (gCons (gCon (.int 16807)) gNil))) gNil))) (gCons (gCon (.int 11)) gNil))) gNil)) (gCons (gCon (.int 2147483647)) gNil))))
    (sSeq (sSetIx (gVar 0) (gCon (.int 0)) (gOp pAdd (gCons (gOp pMul (gCons (gVar 2) (gCons (gCon (.int 2147483629)) gNil))) (gCons (gOp pMod (gCons (gOp pInt2 (gCons (gOp pAdd (gCons (gOp pMul (gCons (gVar 2) (gCons (gVar 2) gNil))) (gCons (gOp pIx (gCons (gVar 0) (gCons (gCon (.int 3)) gNil))) gNil))) gNil)) (gCons (gCon (.int 2147483629)) gNil))) gNil))))
    (sSeq (sIf (tAnd (tVal (gOp pEq (gCons (gOp pIx (gCons (gVar 0) (gCons (gCon (.int 2)) gNil))) (gCons (gCon (.int 1)) gNil)))) (tVal (gOp pGe (gCons (gOp pIx (gCons (gVar 0) (gCons (gCon (.int 3)) gNil))) (gCons (gOp pPow (gCons (gCon (.int 10)) (gCons (gCon (.int 18)) gNil))) gNil))))) (sSetIx (gVar 0) (gCon (.int 0)) (gOp pIx (gCons (gVar 0) (gCons (gCon (.int 3)) gNil)))) sNext)
    (sSetIx (gVar 0) (gCon (.int 1)) (gVar 2)))))) sNext)
    (sSeq (sSet 3 (gOp pIx (gCons (gVar 0) (gCons (gCon (.int 0)) gNil))))
    (sSeq (sSetIx (gVar 0) (gCon (.int 0)) (gOp pFdiv (gCons (gVar 3) (gCons (gVar 1) gNil))))
    (sRet (gOp pMod (gCons (gOp pInt2 (gCons (gVar 3) gNil)) (gCons (gVar 1) gNil))))))))
def g_law_one (F : SemF) : SemS :=
  (sRet (gOp pIx (gCons (gVar 1) (gCons (gCall F 46 (gCons (gVar 0) (gCons (gOp pLen (gCons (gVar 1) gNil)) gNil))) gNil))))
def g_law_letters (F : SemF) : SemS :=
  (sRet (gCon (.str [97, 98, 99, 100, 101, 102, 103, 104, 105, 106, 107, 108, 109, 110, 111, 112, 113, 114, 115, 116, 117, 118, 119, 120, 121, 122])))
def g_law_is_word (F : SemF) : SemS :=
  (sSeq (sSet 1 (gOp pAdd (gCons (gCall F 48 gNil) (gCons (gCon (.str [48, 49, 50, 51, 52, 53, 54, 55, 56, 57, 95])) gNil))))
    (sRet (gAnd (gOp (pIsi .str) (gCons (gVar 0) gNil)) (gAnd (gOp pLt2 (gCons (gCon (.int 0)) (gCons (gOp pLen (gCons (gVar 0) gNil)) gNil))) (gAnd (gOp pLe (gCons (gOp pLen (gCons (gVar 0) gNil)) (gCons (gCon (.int 12)) gNil))) (gAnd (gOp pIn (gCons (gOp pIx (gCons (gVar 0) (gCons (gCon (.int 0)) gNil))) (gCons (gCall F 48 gNil) gNil))) (gOp pEq (gCons (gLc (iVal (gVar 0)) (.name 2) (tVal (gOp pNotIn (gCons (gVar 2) (gCons (gVar 1) gNil)))) (gVar 2) [2]) (gCons (gLst gNil) gNil)))))))))
def g_law_is_cell (F : SemF) : SemS :=
  (sSeq (sIf (tOr (tVal (gOp pIs (gCons (gVar 0) (gCons (gCon .non) gNil)))) (tVal (gCall F 49 (gCons (gVar 0) gNil)))) (sRet (gCon (.bl true))) sNext)
    (sRet (gAnd (gOp (pIsi .int) (gCons (gVar 0) gNil)) (gAnd (gNot (gOp (pIsi .bool) (gCons (gVar 0) gNil))) (gAnd (gOp pGe (gCons (gVar 0) (gCons (gOp pNeg (gCons (gCon (.int 999999999)) gNil)) gNil))) (gOp pLe (gCons (gVar 0) (gCons (gCon (.int 999999999)) gNil))))))))
def g_law_is_raw (F : SemF) : SemS :=
  (sSeq (sSet 1 (gOp pAdd (gCons (gCall F 48 gNil) (gCons (gCon (.str [48, 49, 50, 51, 52, 53, 54, 55, 56, 57, 95, 45])) gNil))))
    (sRet (gAnd (gOp (pIsi .str) (gCons (gVar 0) gNil)) (gAnd (gOp pLt2 (gCons (gCon (.int 0)) (gCons (gOp pLen (gCons (gVar 0) gNil)) gNil))) (gAnd (gOp pLe (gCons (gOp pLen (gCons (gVar 0) gNil)) (gCons (gCon (.int 16)) gNil))) (gOp pEq (gCons (gLc (iVal (gVar 0)) (.name 2) (tVal (gOp pNotIn (gCons (gVar 2) (gCons (gVar 1) gNil)))) (gVar 2) [2]) (gCons (gLst gNil) gNil))))))))
def g_law_cell_of (F : SemF) : SemS :=
  (sSeq (sIf (tVal (gCall F 49 (gCons (gVar 0) gNil))) (sRet (gVar 0)) sNext)
    (sSeq (sSet 1 (gIf (tVal (gOp pEq (gCons (gOp pIx (gCons (gVar 0) (gCons (gCon (.int 0)) gNil))) (gCons (gCon (.str [45])) gNil)))) (gOp pSl (gCons (gVar 0) (gCons (gInt (gCon (.int 1))) (gCons (gCon .non) gNil)))) (gVar 0)))
    (sSeq (sIf (tOr (tVal (gOp pEq (gCons (gVar 1) (gCons (gCon (.str [])) gNil)))) (tOr (tVal (gOp pNe (gCons (gLc (iVal (gVar 1)) (.name 2) (tVal (gOp pNotIn (gCons (gVar 2) (gCons (gCon (.str [48, 49, 50, 51, 52, 53, 54, 55, 56, 57])) gNil)))) (gVar 2) [2]) (gCons (gLst gNil) gNil)))) (tVal (gOp pGt (gCons (gOp pInt2 (gCons (gVar 1) gNil)) (gCons (gCon (.int 999999999)) gNil)))))) (sRet (gCon .non)) sNext)
    (sRet (gIf (tVal (gOp pEq (gCons (gOp pIx (gCons (gVar 0) (gCons (gCon (.int 0)) gNil))) (gCons (gCon (.str [45])) gNil)))) (gOp pNeg (gCons (gOp pInt2 (gCons (gVar 1) gNil)) gNil)) (gOp pInt2 (gCons (gVar 1) gNil)))))))
def g_law_key (F : SemF) : SemS :=
  (sRet (gIf (tVal (gOp pIs (gCons (gVar 0) (gCons (gCon .non) gNil)))) (gTup (gCons (gCon (.int 0)) (gCons (gCon (.int 0)) (gCons (gCon (.str [])) gNil)))) (gIf (tVal (gOp (pIsi .int) (gCons (gVar 0) gNil))) (gTup (gCons (gCon (.int 1)) (gCons (gVar 0) (gCons (gCon (.str [])) gNil)))) (gTup (gCons (gCon (.int 2)) (gCons (gCon (.int 0)) (gCons (gVar 0) gNil)))))))
def g_law_place (F : SemF) : SemS :=
  (sSeq (sSet 1 (gOp pAdd (gCons (gCall F 48 gNil) (gCons (gCon (.str [48, 49, 50, 51, 52, 53, 54, 55, 56, 57, 32, 10, 44, 59, 58, 61, 45, 46, 40, 41, 35, 95, 124])) gNil))))
    (sSeq (sIf (tNot (tVal (gOp (pIsi .str) (gCons (gVar 0) gNil)))) (sRet (gOp pNeg (gCons (gCon (.int 1)) gNil))) sNext)
    (sSeq (sSet 2 (gLc (iRange1 (gOp pLen (gCons (gVar 0) gNil))) (.name 3) (tVal (gOp pNotIn (gCons (gOp pIx (gCons (gVar 0) (gCons (gVar 3) gNil))) (gCons (gVar 1) gNil)))) (gVar 3) [3]))
    (sSeq (sIf (tVal (gOp pNe (gCons (gVar 2) (gCons (gLst gNil) gNil)))) (sRet (gOp pIx (gCons (gVar 2) (gCons (gCon (.int 0)) gNil)))) sNext)
    (sRet (gIf (tVal (gOp pGt (gCons (gOp pLen (gCons (gVar 0) gNil)) (gCons (gCon (.int 4000)) gNil)))) (gCon (.str [102, 97, 114])) (gCon .non)))))))
def g_law_told (F : SemF) : SemS :=
  (sSeq (sTry sub (sExpr (gCall F 44 (gCons (gTup (gCons (gCon (.str [108, 105, 115, 116, 115])) (gCons (gCon (.int 1)) gNil))) (gCons (gVar 0) gNil)))) [⟨1, .arg⟩, ⟨11, (.con (.str [102, 97, 114]))⟩])
    (sRet (gCon .non)))
def b_law_1 (F : SemF) : SemS :=
  (sSeq (sSet 11 (gCall F 54 (gCons (gVar 10) gNil)))
    (sIf (tOr (tVal (gOp pNe (gCons (gCall F 55 (gCons (gVar 10) gNil)) (gCons (gVar 11) gNil)))) (tVal (gOp pNe (gCons (gCall F 4 (gCons (gVar 10) gNil)) (gCons (gOp pIs (gCons (gVar 11) (gCons (gCon .non) gNil))) gNil))))) (sRet (gCon (.bl false))) sNext))
def b_law_2 (F : SemF) : SemS :=
  (sSeq (sSet 7 (gCall F 45 (gCons (gVar 0) (gCons (gVar 6) gNil))))
    (sSeq (sSet 4 (gOp pJoin (gCons (gStr (gCon (.str []))) (gCons (gLc (iRange1 (gCall F 46 (gCons (gVar 7) (gCons (gCon (.int 18)) gNil)))) (.name 13) tTrue (gCall F 47 (gCons (gVar 7) (gCons (gLst (gCons (gCon (.str [97])) (gCons (gCon (.str [122])) (gCons (gCon (.str [48])) (gCons (gCon (.str [57])) (gCons (gCon (.str [95])) (gCons (gCon (.str [45])) (gCons (gCon (.str [98])) (gCons (gCon (.str [49])) (gCons (gCon (.str [46])) (gCons (gCon (.str [66])) gNil))))))))))) gNil))) [13]) gNil))))
    (sSeq (sIf (tOr (tVal (gOp pNe (gCons (gLst (gCons (gCall F 1 (gCons (gVar 4) gNil)) (gCons (gCall F 3 (gCons (gVar 4) gNil)) gNil))) (gCons (gLst (gCons (gCall F 49 (gCons (gVar 4) gNil)) (gCons (gCall F 51 (gCons (gVar 4) gNil)) gNil))) gNil)))) (tAnd (tVal (gCall F 51 (gCons (gVar 4) gNil))) (tVal (gOp pNe (gCons (gOp pRepr (gCons (gCall F 8 (gCons (gVar 4) gNil)) gNil)) (gCons (gOp pRepr (gCons (gCall F 52 (gCons (gVar 4) gNil)) gNil)) gNil)))))) (sRet (gCon (.bl false))) sNext)
    (sSeq (sSet 8 (gOp pAdd (gCons (gOp pAdd (gCons (gOp pAdd (gCons (gCon (.str [40, 32])) (gCons (gOp pJoin (gCons (gStr (gCon (.str []))) (gCons (gLc (iRange1 (gCall F 46 (gCons (gVar 7) (gCons (gCon (.int 9)) gNil)))) (.name 13) tTrue (gCall F 47 (gCons (gVar 7) (gCons (gLst (gCons (gCon (.str [32])) (gCons (gCon (.str [10])) (gCons (gCon (.str [32])) (gCons (gCon (.str [10])) gNil))))) gNil))) [13]) gNil))) gNil))) (gCons (gCon (.str [97, 32, 41])) gNil))) (gCons (gOp pMul (gCons (gCon (.str [10])) (gCons (gCall F 46 (gCons (gVar 7) (gCons (gCon (.int 9)) gNil))) gNil))) gNil))))
    (sSeq (sSet 9 (gCall F 46 (gCons (gVar 7) (gCons (gOp pLen (gCons (gVar 8) gNil)) gNil))))
    (sFor (iVal (gLst (gCons (gVar 8) (gCons (gOp pAdd (gCons (gOp pAdd (gCons (gOp pSl (gCons (gVar 8) (gCons (gCon .non) (gCons (gInt (gVar 9)) gNil)))) (gCons (gCall F 47 (gCons (gVar 7) (gCons (gLst (gCons (gCon (.str [33])) (gCons (gCon (.str [65])) (gCons (gCon (.str [9])) (gCons (gCon (.str [39])) (gCons (gCon (.str [43])) gNil)))))) gNil))) gNil))) (gCons (gOp pSl (gCons (gVar 8) (gCons (gInt (gVar 9)) (gCons (gCon .non) gNil)))) gNil))) (gCons (gOp pAdd (gCons (gVar 8) (gCons (gOp pMul (gCons (gCon (.str [32])) (gCons (gCon (.int 4000)) gNil))) gNil))) (gCons (gCon .non) (gCons (gCon (.int 7)) (gCons (gOp pAdd (gCons (gCon (.str [33])) (gCons (gOp pMul (gCons (gCon (.str [32])) (gCons (gCon (.int 4000)) gNil))) gNil))) gNil)))))))) (.name 10) (b_law_1 F)))))))
def b_law_3 (F : SemF) : SemS :=
  (sSeq (sIf (tOr (tAnd (tVal (gOp pIsNot (gCons (gVar 2) (gCons (gCon .non) gNil)))) (tVal (gOp pNe (gCons (gCall F 8 (gCons (gCall F 9 (gCons (gVar 2) gNil)) gNil)) (gCons (gVar 2) gNil))))) (tOr (tAnd (tVal (gOp pIs (gCons (gVar 2) (gCons (gCon .non) gNil)))) (tVal (gOp pIsNot (gCons (gCall F 9 (gCons (gVar 2) gNil)) (gCons (gCon .non) gNil))))) (tAnd (tVal (gOp (pIsi .int) (gCons (gVar 2) gNil))) (tVal (gOp pNe (gCons (gCall F 9 (gCons (gVar 2) gNil)) (gCons (gOp pStr (gCons (gVar 2) gNil)) gNil))))))) (sRet (gCon (.bl false))) sNext)
    (sIf (tVal (gOp pNe (gCons (gLc (iVal (gVar 5)) (.name 12) (tVal (gOp pNe (gCons (gCall F 7 (gCons (gVar 2) (gCons (gVar 12) gNil))) (gCons (gOp pLt2 (gCons (gCall F 53 (gCons (gVar 2) gNil)) (gCons (gCall F 53 (gCons (gVar 12) gNil)) gNil))) gNil)))) (gVar 12) [12]) (gCons (gLst gNil) gNil)))) (sRet (gCon (.bl false))) sNext))
def b_law_4 (F : SemF) : SemS :=
  (sSeq (sIf (tVal (gOp pNe (gCons (gLst (gCons (gCall F 1 (gCons (gVar 4) gNil)) (gCons (gCall F 2 (gCons (gVar 4) gNil)) (gCons (gCall F 3 (gCons (gVar 4) gNil)) gNil)))) (gCons (gLst (gCons (gCall F 49 (gCons (gVar 4) gNil)) (gCons (gCall F 50 (gCons (gVar 4) gNil)) (gCons (gCall F 51 (gCons (gVar 4) gNil)) gNil)))) gNil)))) (sRet (gCon (.bl false))) sNext)
    (sIf (tAnd (tVal (gCall F 51 (gCons (gVar 4) gNil))) (tVal (gOp pNe (gCons (gOp pRepr (gCons (gCall F 8 (gCons (gVar 4) gNil)) gNil)) (gCons (gOp pRepr (gCons (gCall F 52 (gCons (gVar 4) gNil)) gNil)) gNil))))) (sRet (gCon (.bl false))) sNext))
def g_law (F : SemF) : SemS :=
  (sSeq (sIf (tVal (gOp pNe (gCons (gLst (gCons (gCon c_MOST_TEXT) (gCons (gCon c_MOST_WORD) (gCons (gCon c_MOST_RAW) (gCons (gCon c_MOST_NUMBER) (gCons (gCon c_MOST_FIELDS) (gCons (gCon c_MOST_ROWS) (gCons (gCon c_MOST_TABLES) (gCons (gCon c_MOST_COLUMNS) gNil))))))))) (gCons (gLst (gCons (gCon (.int 4000)) (gCons (gCon (.int 12)) (gCons (gCon (.int 16)) (gCons (gCon (.int 999999999)) (gCons (gCon (.int 8)) (gCons (gCon (.int 200)) (gCons (gCon (.int 6)) (gCons (gCon (.int 8)) gNil))))))))) gNil)))) (sRet (gCon (.bl false))) sNext)
    (sSeq (sIf (tVal (gOp pNe (gCons (gLst (gCons (gCon c_MOST_LINKS) (gCons (gCon c_MOST_WORDS) (gCons (gCon c_MOST_SOURCES) (gCons (gCon c_MOST_RULES) (gCons (gCon c_MOST_QUESTIONS) (gCons (gCon c_MOST_VIEWS) gNil))))))) (gCons (gLst (gCons (gCon (.int 3)) (gCons (gCon (.int 12)) (gCons (gCon (.int 8)) (gCons (gCon (.int 8)) (gCons (gCon (.int 8)) (gCons (gCon (.int 8)) gNil))))))) gNil)))) (sRet (gCon (.bl false))) sNext)
    (sSeq (sErrs 1)
    (sSeq (sSet 3 (gLst (gCons (gCon .non) (gCons (gCon (.bl true)) (gCons (gCon (.bl false)) (gCons (gCon (.int 0)) (gCons (gCon (.int 999999999)) (gCons (gOp pNeg (gCons (gCon (.int 999999999)) gNil)) (gCons (gCon (.int 1000000000)) (gCons (gCon (.str [])) (gCons (gCon (.str [97])) (gCons (gCon (.str [65])) (gCons (gOp pMul (gCons (gCon (.str [97])) (gCons (gCon (.int 12)) gNil))) (gCons (gOp pMul (gCons (gCon (.str [97])) (gCons (gCon (.int 13)) gNil))) (gCons (gCon (.str [49, 97])) (gCons (gCon (.str [95, 97])) (gCons (gCon (.str [97, 45, 98])) (gCons (gCon (.str [45])) (gCons (gCon (.str [45, 45, 49])) (gCons (gCon (.str [45, 48])) (gCons (gCon (.str [48, 48, 55])) (gCons (gOp pMul (gCons (gCon (.str [48])) (gCons (gCon (.int 16)) gNil))) (gCons (gOp pAdd (gCons (gOp pMul (gCons (gCon (.str [48])) (gCons (gCon (.int 7)) gNil))) (gCons (gOp pMul (gCons (gCon (.str [57])) (gCons (gCon (.int 9)) gNil))) gNil))) (gCons (gOp pMul (gCons (gCon (.str [49])) (gCons (gCon (.int 10)) gNil))) gNil))))))))))))))))))))))))
    (sSeq (sSet 3 (gOp pAdd (gCons (gVar 3) (gCons (gLst (gCons (gCon (.str [97, 32, 98])) (gCons (gTup gNil) (gCons (gTup (gCons (gCon (.int 1)) gNil)) (gCons (gOp pMul (gCons (gCon (.str [57])) (gCons (gCon (.int 16)) gNil))) gNil))))) gNil))))
    (sSeq (sFor (iVal (gVar 3)) (.name 4) (b_law_4 F))
    (sSeq (sSet 5 (gLc (iVal (gVar 3)) (.name 4) (tVal (gCall F 50 (gCons (gVar 4) gNil))) (gVar 4) [4]))
    (sSeq (sFor (iVal (gVar 5)) (.name 2) (b_law_3 F))
    (sSeq (sFor (iRange1 (gOp pMax2 (gCons (gCon (.int 1)) (gCons (gOp pMin2 (gCons (gCon (.int 6)) (gCons (gOp pLen (gCons (gVar 0) gNil)) gNil))) gNil)))) (.name 6) (b_law_2 F))
    (sRet (gCon (.bl true))))))))))))
def T : List DefD := [DefD.mk "is_integer" (topS 35) [Str.ofString "value", Str.ofString "low", Str.ofString "high"] [Str.ofString "value", Str.ofString "low", Str.ofString "high"] g_is_integer,
  DefD.mk "is_word" (topS 36) [Str.ofString "value", Str.ofString "sign"] [Str.ofString "value"] g_is_word,
  DefD.mk "is_cell" (topS 37) [Str.ofString "value"] [Str.ofString "value"] g_is_cell,
  DefD.mk "is_raw" (topS 38) [Str.ofString "value", Str.ofString "sign"] [Str.ofString "value"] g_is_raw,
  DefD.mk "is_text" (topS 39) [Str.ofString "value", Str.ofString "sign"] [Str.ofString "value"] g_is_text,
  DefD.mk "check_text" (topS 40) [Str.ofString "value", Str.ofString "place", Str.ofString "sign"] [Str.ofString "value"] g_check_text,
  DefD.mk "cell_key" (topS 41) [Str.ofString "cell"] [Str.ofString "cell"] g_cell_key,
  DefD.mk "less_cell" (topS 42) [Str.ofString "one", Str.ofString "other"] [Str.ofString "one", Str.ofString "other"] g_less_cell,
  DefD.mk "cell_of" (topS 43) [Str.ofString "raw", Str.ofString "digits", Str.ofString "sign"] [Str.ofString "raw"] g_cell_of,
  DefD.mk "raw_of" (topS 44) [Str.ofString "cell"] [Str.ofString "cell"] g_raw_of,
  DefD.mk "is_lines" (topS 47) [Str.ofString "value"] [Str.ofString "value"] g_is_lines,
  DefD.mk "is_cards" (topS 48) [Str.ofString "value", Str.ofString "name"] [Str.ofString "value"] g_is_cards,
  DefD.mk "is_columns" (topS 49) [Str.ofString "value", Str.ofString "width"] [Str.ofString "value"] g_is_columns,
  DefD.mk "is_groups" (topS 50) [Str.ofString "value"] [Str.ofString "value"] g_is_groups,
  DefD.mk "is_lists" (topS 51) [Str.ofString "value"] [Str.ofString "value"] g_is_lists,
  DefD.mk "is_form" (topS 53) [Str.ofString "value", Str.ofString "part"] [Str.ofString "value"] g_is_form,
  DefD.mk "check_form" (topS 54) [Str.ofString "form"] [Str.ofString "form"] g_check_form,
  DefD.mk "offsets_of" (topS 55) [Str.ofString "form", Str.ofString "found", Str.ofString "begin", Str.ofString "width"] [Str.ofString "form"] g_offsets_of,
  DefD.mk "lines_of" (topS 57) [Str.ofString "text", Str.ofString "found", Str.ofString "begin", Str.ofString "line"] [Str.ofString "text"] g_lines_of,
  DefD.mk "behind_line" (topS 58) [Str.ofString "text", Str.ofString "end"] [Str.ofString "text", Str.ofString "end"] g_behind_line,
  DefD.mk "first_in" (topS 59) [Str.ofString "text", Str.ofString "begin", Str.ofString "end"] [Str.ofString "text", Str.ofString "begin", Str.ofString "end"] g_first_in,
  DefD.mk "is_empty" (topS 60) [Str.ofString "text", Str.ofString "begin", Str.ofString "end"] [Str.ofString "text", Str.ofString "begin", Str.ofString "end"] g_is_empty,
  DefD.mk "is_remark" (topS 61) [Str.ofString "text", Str.ofString "begin", Str.ofString "end", Str.ofString "place"] [Str.ofString "text", Str.ofString "begin", Str.ofString "end"] g_is_remark,
  DefD.mk "is_rest" (topS 62) [Str.ofString "text", Str.ofString "begin", Str.ofString "end"] [Str.ofString "text", Str.ofString "begin", Str.ofString "end"] g_is_rest,
  DefD.mk "raw_end" (topS 63) [Str.ofString "text", Str.ofString "begin", Str.ofString "end", Str.ofString "place"] [Str.ofString "text", Str.ofString "begin", Str.ofString "end"] g_raw_end,
  DefD.mk "field_at" (topS 64) [Str.ofString "text", Str.ofString "begin", Str.ofString "end", Str.ofString "lacks"] [Str.ofString "text", Str.ofString "begin", Str.ofString "end", Str.ofString "lacks"] g_field_at,
  DefD.mk "fields_of" (topS 65) [Str.ofString "text", Str.ofString "begin", Str.ofString "end", Str.ofString "sep", Str.ofString "many", Str.ofString "lacks", Str.ofString "found", Str.ofString "number", Str.ofString "field"] [Str.ofString "text", Str.ofString "begin", Str.ofString "end", Str.ofString "sep", Str.ofString "many", Str.ofString "lacks"] g_fields_of,
  DefD.mk "raw_at" (topS 66) [Str.ofString "text", Str.ofString "field"] [Str.ofString "text", Str.ofString "field"] g_raw_at,
  DefD.mk "put_row" (topS 68) [Str.ofString "found", Str.ofString "fields", Str.ofString "begin", Str.ofString "end"] [Str.ofString "found", Str.ofString "fields", Str.ofString "begin", Str.ofString "end"] g_put_row,
  DefD.mk "cut_lines" (topS 69) [Str.ofString "form", Str.ofString "text", Str.ofString "found", Str.ofString "begin", Str.ofString "end"] [Str.ofString "form", Str.ofString "text"] g_cut_lines,
  DefD.mk "column_field" (topS 70) [Str.ofString "text", Str.ofString "begin", Str.ofString "end", Str.ofString "place", Str.ofString "behind", Str.ofString "rest"] [Str.ofString "text", Str.ofString "begin", Str.ofString "end"] g_column_field,
  DefD.mk "cut_columns" (topS 71) [Str.ofString "form", Str.ofString "text", Str.ofString "found", Str.ofString "whole", Str.ofString "begin", Str.ofString "end", Str.ofString "fields", Str.ofString "offset", Str.ofString "width"] [Str.ofString "form", Str.ofString "text"] g_cut_columns,
  DefD.mk "blank_end" (topS 72) [Str.ofString "text", Str.ofString "place"] [Str.ofString "text", Str.ofString "place"] g_blank_end,
  DefD.mk "begins_line" (topS 73) [Str.ofString "text", Str.ofString "place"] [Str.ofString "text", Str.ofString "place"] g_begins_line,
  DefD.mk "list_at" (topS 74) [Str.ofString "text", Str.ofString "place", Str.ofString "many", Str.ofString "fields", Str.ofString "behind", Str.ofString "number", Str.ofString "begin", Str.ofString "field", Str.ofString "end"] [Str.ofString "text", Str.ofString "place", Str.ofString "many"] g_list_at,
  DefD.mk "cut_lists" (topS 75) [Str.ofString "form", Str.ofString "text", Str.ofString "found", Str.ofString "place", Str.ofString "fields", Str.ofString "behind"] [Str.ofString "form", Str.ofString "text"] g_cut_lists,
  DefD.mk "card_line" (topS 77) [Str.ofString "form", Str.ofString "text", Str.ofString "begin", Str.ofString "end", Str.ofString "known", Str.ofString "start", Str.ofString "place", Str.ofString "number", Str.ofString "colon", Str.ofString "field", Str.ofString "rest"] [Str.ofString "form", Str.ofString "text", Str.ofString "begin", Str.ofString "end", Str.ofString "known"] g_card_line,
  DefD.mk "cut_cards" (topS 79) [Str.ofString "form", Str.ofString "text", Str.ofString "cards", Str.ofString "begin", Str.ofString "end"] [Str.ofString "form", Str.ofString "text"] g_cut_cards,
  DefD.mk "group_line" (topS 80) [Str.ofString "form", Str.ofString "text", Str.ofString "begin", Str.ofString "end", Str.ofString "has_group", Str.ofString "start"] [Str.ofString "form", Str.ofString "text", Str.ofString "begin", Str.ofString "end", Str.ofString "has_group"] g_group_line,
  DefD.mk "groups_of" (topS 81) [Str.ofString "form", Str.ofString "text", Str.ofString "found", Str.ofString "rows", Str.ofString "begin", Str.ofString "end", Str.ofString "mark", Str.ofString "fields"] [Str.ofString "form", Str.ofString "text"] g_groups_of,
  DefD.mk "cut_groups" (topS 82) [Str.ofString "form", Str.ofString "text", Str.ofString "found", Str.ofString "_", Str.ofString "rows"] [Str.ofString "form", Str.ofString "text"] g_cut_groups,
  DefD.mk "cut_all" (topS 85) [Str.ofString "form", Str.ofString "text"] [Str.ofString "form", Str.ofString "text"] g_cut_all,
  DefD.mk "cut" (topS 86) [Str.ofString "form", Str.ofString "text"] [Str.ofString "form", Str.ofString "text"] g_cut,
  DefD.mk "raws_of" (topS 87) [Str.ofString "text", Str.ofString "rows", Str.ofString "fields", Str.ofString "_", Str.ofString "field"] [Str.ofString "text", Str.ofString "rows"] g_raws_of,
  DefD.mk "raws" (topS 88) [Str.ofString "form", Str.ofString "text"] [Str.ofString "form", Str.ofString "text"] g_raws,
  DefD.mk "_law_bag" (topS 90) [Str.ofString "script", Str.ofString "k", Str.ofString "cell"] [Str.ofString "script", Str.ofString "k"] g_law_bag,
  DefD.mk "_law_draw" (topS 91) [Str.ofString "bag", Str.ofString "many", Str.ofString "seed", Str.ofString "rest"] [Str.ofString "bag", Str.ofString "many"] g_law_draw,
  DefD.mk "_law_one" (topS 92) [Str.ofString "bag", Str.ofString "row"] [Str.ofString "bag", Str.ofString "row"] g_law_one,
  DefD.mk "_law_letters" (topS 93) [] [] g_law_letters,
  DefD.mk "_law_is_word" (topS 94) [Str.ofString "value", Str.ofString "signs", Str.ofString "sign"] [Str.ofString "value"] g_law_is_word,
  DefD.mk "_law_is_cell" (topS 95) [Str.ofString "value"] [Str.ofString "value"] g_law_is_cell,
  DefD.mk "_law_is_raw" (topS 96) [Str.ofString "value", Str.ofString "signs", Str.ofString "sign"] [Str.ofString "value"] g_law_is_raw,
  DefD.mk "_law_cell_of" (topS 97) [Str.ofString "raw", Str.ofString "digits", Str.ofString "sign"] [Str.ofString "raw"] g_law_cell_of,
  DefD.mk "_law_key" (topS 98) [Str.ofString "cell"] [Str.ofString "cell"] g_law_key,
  DefD.mk "_law_place" (topS 99) [Str.ofString "text", Str.ofString "signs", Str.ofString "odd", Str.ofString "j"] [Str.ofString "text"] g_law_place,
  DefD.mk "_law_told" (topS 100) [Str.ofString "text", Str.ofString "e"] [Str.ofString "text"] g_law_told,
  DefD.mk "law" (topS 101) [Str.ofString "script", Str.ofString "errors", Str.ofString "one", Str.ofString "odd", Str.ofString "value", Str.ofString "cells", Str.ofString "k", Str.ofString "bag", Str.ofString "text", Str.ofString "at", Str.ofString "near", Str.ofString "due", Str.ofString "other", Str.ofString "j"] [Str.ofString "script"] g_law]
theorem ok_is_integer : DefD.Ok ⟨"is_integer", topS 35, [Str.ofString "value", Str.ofString "low", Str.ofString "high"], [Str.ofString "value", Str.ofString "low", Str.ofString "high"], g_is_integer⟩ gl cls sub :=
  ⟨⟨rfl, rfl, rfl, by decide +kernel, rfl, by decide +kernel, by decide +kernel⟩, fun _ _ _ _ _ _ us hl => match us, hl with | [_, _, _], _ => rfl, fun _ => by kernel_rfl⟩
theorem ok_is_word : DefD.Ok ⟨"is_word", topS 36, [Str.ofString "value", Str.ofString "sign"], [Str.ofString "value"], g_is_word⟩ gl cls sub :=
  ⟨⟨rfl, rfl, rfl, by decide +kernel, rfl, by decide +kernel, by decide +kernel⟩, fun _ _ _ _ _ _ us hl => match us, hl with | [_], _ => rfl, fun _ => by kernel_rfl⟩
theorem ok_is_cell : DefD.Ok ⟨"is_cell", topS 37, [Str.ofString "value"], [Str.ofString "value"], g_is_cell⟩ gl cls sub :=
  ⟨⟨rfl, rfl, rfl, by decide +kernel, rfl, by decide +kernel, by decide +kernel⟩, fun _ _ _ _ _ _ us hl => match us, hl with | [_], _ => rfl, fun _ => by kernel_rfl⟩
theorem ok_is_raw : DefD.Ok ⟨"is_raw", topS 38, [Str.ofString "value", Str.ofString "sign"], [Str.ofString "value"], g_is_raw⟩ gl cls sub :=
  ⟨⟨rfl, rfl, rfl, by decide +kernel, rfl, by decide +kernel, by decide +kernel⟩, fun _ _ _ _ _ _ us hl => match us, hl with | [_], _ => rfl, fun _ => by kernel_rfl⟩
theorem ok_is_text : DefD.Ok ⟨"is_text", topS 39, [Str.ofString "value", Str.ofString "sign"], [Str.ofString "value"], g_is_text⟩ gl cls sub :=
  ⟨⟨rfl, rfl, rfl, by decide +kernel, rfl, by decide +kernel, by decide +kernel⟩, fun _ _ _ _ _ _ us hl => match us, hl with | [_], _ => rfl, fun _ => by kernel_rfl⟩
theorem ok_check_text : DefD.Ok ⟨"check_text", topS 40, [Str.ofString "value", Str.ofString "place", Str.ofString "sign"], [Str.ofString "value"], g_check_text⟩ gl cls sub :=
  ⟨⟨rfl, rfl, rfl, by decide +kernel, rfl, by decide +kernel, by decide +kernel⟩, fun _ _ _ _ _ _ us hl => match us, hl with | [_], _ => rfl, fun _ => by kernel_rfl⟩
theorem ok_cell_key : DefD.Ok ⟨"cell_key", topS 41, [Str.ofString "cell"], [Str.ofString "cell"], g_cell_key⟩ gl cls sub :=
  ⟨⟨rfl, rfl, rfl, by decide +kernel, rfl, by decide +kernel, by decide +kernel⟩, fun _ _ _ _ _ _ us hl => match us, hl with | [_], _ => rfl, fun _ => by kernel_rfl⟩
theorem ok_less_cell : DefD.Ok ⟨"less_cell", topS 42, [Str.ofString "one", Str.ofString "other"], [Str.ofString "one", Str.ofString "other"], g_less_cell⟩ gl cls sub :=
  ⟨⟨rfl, rfl, rfl, by decide +kernel, rfl, by decide +kernel, by decide +kernel⟩, fun _ _ _ _ _ _ us hl => match us, hl with | [_, _], _ => rfl, fun _ => by kernel_rfl⟩
theorem ok_cell_of : DefD.Ok ⟨"cell_of", topS 43, [Str.ofString "raw", Str.ofString "digits", Str.ofString "sign"], [Str.ofString "raw"], g_cell_of⟩ gl cls sub :=
  ⟨⟨rfl, rfl, rfl, by decide +kernel, rfl, by decide +kernel, by decide +kernel⟩, fun _ _ _ _ _ _ us hl => match us, hl with | [_], _ => rfl, fun _ => by kernel_rfl⟩
theorem ok_raw_of : DefD.Ok ⟨"raw_of", topS 44, [Str.ofString "cell"], [Str.ofString "cell"], g_raw_of⟩ gl cls sub :=
  ⟨⟨rfl, rfl, rfl, by decide +kernel, rfl, by decide +kernel, by decide +kernel⟩, fun _ _ _ _ _ _ us hl => match us, hl with | [_], _ => rfl, fun _ => by kernel_rfl⟩
theorem ok_is_lines : DefD.Ok ⟨"is_lines", topS 47, [Str.ofString "value"], [Str.ofString "value"], g_is_lines⟩ gl cls sub :=
  ⟨⟨rfl, rfl, rfl, by decide +kernel, rfl, by decide +kernel, by decide +kernel⟩, fun _ _ _ _ _ _ us hl => match us, hl with | [_], _ => rfl, fun _ => by kernel_rfl⟩
theorem ok_is_cards : DefD.Ok ⟨"is_cards", topS 48, [Str.ofString "value", Str.ofString "name"], [Str.ofString "value"], g_is_cards⟩ gl cls sub :=
  ⟨⟨rfl, rfl, rfl, by decide +kernel, rfl, by decide +kernel, by decide +kernel⟩, fun _ _ _ _ _ _ us hl => match us, hl with | [_], _ => rfl, fun _ => by kernel_rfl⟩
theorem ok_is_columns : DefD.Ok ⟨"is_columns", topS 49, [Str.ofString "value", Str.ofString "width"], [Str.ofString "value"], g_is_columns⟩ gl cls sub :=
  ⟨⟨rfl, rfl, rfl, by decide +kernel, rfl, by decide +kernel, by decide +kernel⟩, fun _ _ _ _ _ _ us hl => match us, hl with | [_], _ => rfl, fun _ => by kernel_rfl⟩
theorem ok_is_groups : DefD.Ok ⟨"is_groups", topS 50, [Str.ofString "value"], [Str.ofString "value"], g_is_groups⟩ gl cls sub :=
  ⟨⟨rfl, rfl, rfl, by decide +kernel, rfl, by decide +kernel, by decide +kernel⟩, fun _ _ _ _ _ _ us hl => match us, hl with | [_], _ => rfl, fun _ => by kernel_rfl⟩
theorem ok_is_lists : DefD.Ok ⟨"is_lists", topS 51, [Str.ofString "value"], [Str.ofString "value"], g_is_lists⟩ gl cls sub :=
  ⟨⟨rfl, rfl, rfl, by decide +kernel, rfl, by decide +kernel, by decide +kernel⟩, fun _ _ _ _ _ _ us hl => match us, hl with | [_], _ => rfl, fun _ => by kernel_rfl⟩
theorem ok_is_form : DefD.Ok ⟨"is_form", topS 53, [Str.ofString "value", Str.ofString "part"], [Str.ofString "value"], g_is_form⟩ gl cls sub :=
  ⟨⟨rfl, rfl, rfl, by decide +kernel, rfl, by decide +kernel, by decide +kernel⟩, fun _ _ _ _ _ _ us hl => match us, hl with | [_], _ => rfl, fun _ => by kernel_rfl⟩
theorem ok_check_form : DefD.Ok ⟨"check_form", topS 54, [Str.ofString "form"], [Str.ofString "form"], g_check_form⟩ gl cls sub :=
  ⟨⟨rfl, rfl, rfl, by decide +kernel, rfl, by decide +kernel, by decide +kernel⟩, fun _ _ _ _ _ _ us hl => match us, hl with | [_], _ => rfl, fun _ => by kernel_rfl⟩
theorem ok_offsets_of : DefD.Ok ⟨"offsets_of", topS 55, [Str.ofString "form", Str.ofString "found", Str.ofString "begin", Str.ofString "width"], [Str.ofString "form"], g_offsets_of⟩ gl cls sub :=
  ⟨⟨rfl, rfl, rfl, by decide +kernel, rfl, by decide +kernel, by decide +kernel⟩, fun _ _ _ _ _ _ us hl => match us, hl with | [_], _ => rfl, fun _ => by kernel_rfl⟩
theorem ok_lines_of : DefD.Ok ⟨"lines_of", topS 57, [Str.ofString "text", Str.ofString "found", Str.ofString "begin", Str.ofString "line"], [Str.ofString "text"], g_lines_of⟩ gl cls sub :=
  ⟨⟨rfl, rfl, rfl, by decide +kernel, rfl, by decide +kernel, by decide +kernel⟩, fun _ _ _ _ _ _ us hl => match us, hl with | [_], _ => rfl, fun _ => by kernel_rfl⟩
theorem ok_behind_line : DefD.Ok ⟨"behind_line", topS 58, [Str.ofString "text", Str.ofString "end"], [Str.ofString "text", Str.ofString "end"], g_behind_line⟩ gl cls sub :=
  ⟨⟨rfl, rfl, rfl, by decide +kernel, rfl, by decide +kernel, by decide +kernel⟩, fun _ _ _ _ _ _ us hl => match us, hl with | [_, _], _ => rfl, fun _ => by kernel_rfl⟩
theorem ok_first_in : DefD.Ok ⟨"first_in", topS 59, [Str.ofString "text", Str.ofString "begin", Str.ofString "end"], [Str.ofString "text", Str.ofString "begin", Str.ofString "end"], g_first_in⟩ gl cls sub :=
  ⟨⟨rfl, rfl, rfl, by decide +kernel, rfl, by decide +kernel, by decide +kernel⟩, fun _ _ _ _ _ _ us hl => match us, hl with | [_, _, _], _ => rfl, fun _ => by kernel_rfl⟩
theorem ok_is_empty : DefD.Ok ⟨"is_empty", topS 60, [Str.ofString "text", Str.ofString "begin", Str.ofString "end"], [Str.ofString "text", Str.ofString "begin", Str.ofString "end"], g_is_empty⟩ gl cls sub :=
  ⟨⟨rfl, rfl, rfl, by decide +kernel, rfl, by decide +kernel, by decide +kernel⟩, fun _ _ _ _ _ _ us hl => match us, hl with | [_, _, _], _ => rfl, fun _ => by kernel_rfl⟩
theorem ok_is_remark : DefD.Ok ⟨"is_remark", topS 61, [Str.ofString "text", Str.ofString "begin", Str.ofString "end", Str.ofString "place"], [Str.ofString "text", Str.ofString "begin", Str.ofString "end"], g_is_remark⟩ gl cls sub :=
  ⟨⟨rfl, rfl, rfl, by decide +kernel, rfl, by decide +kernel, by decide +kernel⟩, fun _ _ _ _ _ _ us hl => match us, hl with | [_, _, _], _ => rfl, fun _ => by kernel_rfl⟩
theorem ok_is_rest : DefD.Ok ⟨"is_rest", topS 62, [Str.ofString "text", Str.ofString "begin", Str.ofString "end"], [Str.ofString "text", Str.ofString "begin", Str.ofString "end"], g_is_rest⟩ gl cls sub :=
  ⟨⟨rfl, rfl, rfl, by decide +kernel, rfl, by decide +kernel, by decide +kernel⟩, fun _ _ _ _ _ _ us hl => match us, hl with | [_, _, _], _ => rfl, fun _ => by kernel_rfl⟩
theorem ok_raw_end : DefD.Ok ⟨"raw_end", topS 63, [Str.ofString "text", Str.ofString "begin", Str.ofString "end", Str.ofString "place"], [Str.ofString "text", Str.ofString "begin", Str.ofString "end"], g_raw_end⟩ gl cls sub :=
  ⟨⟨rfl, rfl, rfl, by decide +kernel, rfl, by decide +kernel, by decide +kernel⟩, fun _ _ _ _ _ _ us hl => match us, hl with | [_, _, _], _ => rfl, fun _ => by kernel_rfl⟩
theorem ok_field_at : DefD.Ok ⟨"field_at", topS 64, [Str.ofString "text", Str.ofString "begin", Str.ofString "end", Str.ofString "lacks"], [Str.ofString "text", Str.ofString "begin", Str.ofString "end", Str.ofString "lacks"], g_field_at⟩ gl cls sub :=
  ⟨⟨rfl, rfl, rfl, by decide +kernel, rfl, by decide +kernel, by decide +kernel⟩, fun _ _ _ _ _ _ us hl => match us, hl with | [_, _, _, _], _ => rfl, fun _ => by kernel_rfl⟩
theorem ok_fields_of : DefD.Ok ⟨"fields_of", topS 65, [Str.ofString "text", Str.ofString "begin", Str.ofString "end", Str.ofString "sep", Str.ofString "many", Str.ofString "lacks", Str.ofString "found", Str.ofString "number", Str.ofString "field"], [Str.ofString "text", Str.ofString "begin", Str.ofString "end", Str.ofString "sep", Str.ofString "many", Str.ofString "lacks"], g_fields_of⟩ gl cls sub :=
  ⟨⟨rfl, rfl, rfl, by decide +kernel, rfl, by decide +kernel, by decide +kernel⟩, fun _ _ _ _ _ _ us hl => match us, hl with | [_, _, _, _, _, _], _ => rfl, fun _ => by kernel_rfl⟩
theorem ok_raw_at : DefD.Ok ⟨"raw_at", topS 66, [Str.ofString "text", Str.ofString "field"], [Str.ofString "text", Str.ofString "field"], g_raw_at⟩ gl cls sub :=
  ⟨⟨rfl, rfl, rfl, by decide +kernel, rfl, by decide +kernel, by decide +kernel⟩, fun _ _ _ _ _ _ us hl => match us, hl with | [_, _], _ => rfl, fun _ => by kernel_rfl⟩
theorem ok_put_row : DefD.Ok ⟨"put_row", topS 68, [Str.ofString "found", Str.ofString "fields", Str.ofString "begin", Str.ofString "end"], [Str.ofString "found", Str.ofString "fields", Str.ofString "begin", Str.ofString "end"], g_put_row⟩ gl cls sub :=
  ⟨⟨rfl, rfl, rfl, by decide +kernel, rfl, by decide +kernel, by decide +kernel⟩, fun _ _ _ _ _ _ us hl => match us, hl with | [_, _, _, _], _ => rfl, fun _ => by kernel_rfl⟩
theorem ok_cut_lines : DefD.Ok ⟨"cut_lines", topS 69, [Str.ofString "form", Str.ofString "text", Str.ofString "found", Str.ofString "begin", Str.ofString "end"], [Str.ofString "form", Str.ofString "text"], g_cut_lines⟩ gl cls sub :=
  ⟨⟨rfl, rfl, rfl, by decide +kernel, rfl, by decide +kernel, by decide +kernel⟩, fun _ _ _ _ _ _ us hl => match us, hl with | [_, _], _ => rfl, fun _ => by kernel_rfl⟩
theorem ok_column_field : DefD.Ok ⟨"column_field", topS 70, [Str.ofString "text", Str.ofString "begin", Str.ofString "end", Str.ofString "place", Str.ofString "behind", Str.ofString "rest"], [Str.ofString "text", Str.ofString "begin", Str.ofString "end"], g_column_field⟩ gl cls sub :=
  ⟨⟨rfl, rfl, rfl, by decide +kernel, rfl, by decide +kernel, by decide +kernel⟩, fun _ _ _ _ _ _ us hl => match us, hl with | [_, _, _], _ => rfl, fun _ => by kernel_rfl⟩
theorem ok_cut_columns : DefD.Ok ⟨"cut_columns", topS 71, [Str.ofString "form", Str.ofString "text", Str.ofString "found", Str.ofString "whole", Str.ofString "begin", Str.ofString "end", Str.ofString "fields", Str.ofString "offset", Str.ofString "width"], [Str.ofString "form", Str.ofString "text"], g_cut_columns⟩ gl cls sub :=
  ⟨⟨rfl, rfl, rfl, by decide +kernel, rfl, by decide +kernel, by decide +kernel⟩, fun _ _ _ _ _ _ us hl => match us, hl with | [_, _], _ => rfl, fun _ => by kernel_rfl⟩
theorem ok_blank_end : DefD.Ok ⟨"blank_end", topS 72, [Str.ofString "text", Str.ofString "place"], [Str.ofString "text", Str.ofString "place"], g_blank_end⟩ gl cls sub :=
  ⟨⟨rfl, rfl, rfl, by decide +kernel, rfl, by decide +kernel, by decide +kernel⟩, fun _ _ _ _ _ _ us hl => match us, hl with | [_, _], _ => rfl, fun _ => by kernel_rfl⟩
theorem ok_begins_line : DefD.Ok ⟨"begins_line", topS 73, [Str.ofString "text", Str.ofString "place"], [Str.ofString "text", Str.ofString "place"], g_begins_line⟩ gl cls sub :=
  ⟨⟨rfl, rfl, rfl, by decide +kernel, rfl, by decide +kernel, by decide +kernel⟩, fun _ _ _ _ _ _ us hl => match us, hl with | [_, _], _ => rfl, fun _ => by kernel_rfl⟩
theorem ok_list_at : DefD.Ok ⟨"list_at", topS 74, [Str.ofString "text", Str.ofString "place", Str.ofString "many", Str.ofString "fields", Str.ofString "behind", Str.ofString "number", Str.ofString "begin", Str.ofString "field", Str.ofString "end"], [Str.ofString "text", Str.ofString "place", Str.ofString "many"], g_list_at⟩ gl cls sub :=
  ⟨⟨rfl, rfl, rfl, by decide +kernel, rfl, by decide +kernel, by decide +kernel⟩, fun _ _ _ _ _ _ us hl => match us, hl with | [_, _, _], _ => rfl, fun _ => by kernel_rfl⟩
theorem ok_cut_lists : DefD.Ok ⟨"cut_lists", topS 75, [Str.ofString "form", Str.ofString "text", Str.ofString "found", Str.ofString "place", Str.ofString "fields", Str.ofString "behind"], [Str.ofString "form", Str.ofString "text"], g_cut_lists⟩ gl cls sub :=
  ⟨⟨rfl, rfl, rfl, by decide +kernel, rfl, by decide +kernel, by decide +kernel⟩, fun _ _ _ _ _ _ us hl => match us, hl with | [_, _], _ => rfl, fun _ => by kernel_rfl⟩
theorem ok_card_line : DefD.Ok ⟨"card_line", topS 77, [Str.ofString "form", Str.ofString "text", Str.ofString "begin", Str.ofString "end", Str.ofString "known", Str.ofString "start", Str.ofString "place", Str.ofString "number", Str.ofString "colon", Str.ofString "field", Str.ofString "rest"], [Str.ofString "form", Str.ofString "text", Str.ofString "begin", Str.ofString "end", Str.ofString "known"], g_card_line⟩ gl cls sub :=
  ⟨⟨rfl, rfl, rfl, by decide +kernel, rfl, by decide +kernel, by decide +kernel⟩, fun _ _ _ _ _ _ us hl => match us, hl with | [_, _, _, _, _], _ => rfl, fun _ => by kernel_rfl⟩
theorem ok_cut_cards : DefD.Ok ⟨"cut_cards", topS 79, [Str.ofString "form", Str.ofString "text", Str.ofString "cards", Str.ofString "begin", Str.ofString "end"], [Str.ofString "form", Str.ofString "text"], g_cut_cards⟩ gl cls sub :=
  ⟨⟨rfl, rfl, rfl, by decide +kernel, rfl, by decide +kernel, by decide +kernel⟩, fun _ _ _ _ _ _ us hl => match us, hl with | [_, _], _ => rfl, fun _ => by kernel_rfl⟩
theorem ok_group_line : DefD.Ok ⟨"group_line", topS 80, [Str.ofString "form", Str.ofString "text", Str.ofString "begin", Str.ofString "end", Str.ofString "has_group", Str.ofString "start"], [Str.ofString "form", Str.ofString "text", Str.ofString "begin", Str.ofString "end", Str.ofString "has_group"], g_group_line⟩ gl cls sub :=
  ⟨⟨rfl, rfl, rfl, by decide +kernel, rfl, by decide +kernel, by decide +kernel⟩, fun _ _ _ _ _ _ us hl => match us, hl with | [_, _, _, _, _], _ => rfl, fun _ => by kernel_rfl⟩
theorem ok_groups_of : DefD.Ok ⟨"groups_of", topS 81, [Str.ofString "form", Str.ofString "text", Str.ofString "found", Str.ofString "rows", Str.ofString "begin", Str.ofString "end", Str.ofString "mark", Str.ofString "fields"], [Str.ofString "form", Str.ofString "text"], g_groups_of⟩ gl cls sub :=
  ⟨⟨rfl, rfl, rfl, by decide +kernel, rfl, by decide +kernel, by decide +kernel⟩, fun _ _ _ _ _ _ us hl => match us, hl with | [_, _], _ => rfl, fun _ => by kernel_rfl⟩
theorem ok_cut_groups : DefD.Ok ⟨"cut_groups", topS 82, [Str.ofString "form", Str.ofString "text", Str.ofString "found", Str.ofString "_", Str.ofString "rows"], [Str.ofString "form", Str.ofString "text"], g_cut_groups⟩ gl cls sub :=
  ⟨⟨rfl, rfl, rfl, by decide +kernel, rfl, by decide +kernel, by decide +kernel⟩, fun _ _ _ _ _ _ us hl => match us, hl with | [_, _], _ => rfl, fun _ => by kernel_rfl⟩
theorem ok_cut_all : DefD.Ok ⟨"cut_all", topS 85, [Str.ofString "form", Str.ofString "text"], [Str.ofString "form", Str.ofString "text"], g_cut_all⟩ gl cls sub :=
  ⟨⟨rfl, rfl, rfl, by decide +kernel, rfl, by decide +kernel, by decide +kernel⟩, fun _ _ _ _ _ _ us hl => match us, hl with | [_, _], _ => rfl, fun _ => by kernel_rfl⟩
theorem ok_cut : DefD.Ok ⟨"cut", topS 86, [Str.ofString "form", Str.ofString "text"], [Str.ofString "form", Str.ofString "text"], g_cut⟩ gl cls sub :=
  ⟨⟨rfl, rfl, rfl, by decide +kernel, rfl, by decide +kernel, by decide +kernel⟩, fun _ _ _ _ _ _ us hl => match us, hl with | [_, _], _ => rfl, fun _ => by kernel_rfl⟩
theorem ok_raws_of : DefD.Ok ⟨"raws_of", topS 87, [Str.ofString "text", Str.ofString "rows", Str.ofString "fields", Str.ofString "_", Str.ofString "field"], [Str.ofString "text", Str.ofString "rows"], g_raws_of⟩ gl cls sub :=
  ⟨⟨rfl, rfl, rfl, by decide +kernel, rfl, by decide +kernel, by decide +kernel⟩, fun _ _ _ _ _ _ us hl => match us, hl with | [_, _], _ => rfl, fun _ => by kernel_rfl⟩
theorem ok_raws : DefD.Ok ⟨"raws", topS 88, [Str.ofString "form", Str.ofString "text"], [Str.ofString "form", Str.ofString "text"], g_raws⟩ gl cls sub :=
  ⟨⟨rfl, rfl, rfl, by decide +kernel, rfl, by decide +kernel, by decide +kernel⟩, fun _ _ _ _ _ _ us hl => match us, hl with | [_, _], _ => rfl, fun _ => by kernel_rfl⟩
theorem ok_law_bag : DefD.Ok ⟨"_law_bag", topS 90, [Str.ofString "script", Str.ofString "k", Str.ofString "cell"], [Str.ofString "script", Str.ofString "k"], g_law_bag⟩ gl cls sub :=
  ⟨⟨rfl, rfl, rfl, by decide +kernel, rfl, by decide +kernel, by decide +kernel⟩, fun _ _ _ _ _ _ us hl => match us, hl with | [_, _], _ => rfl, fun _ => by kernel_rfl⟩
theorem ok_law_draw : DefD.Ok ⟨"_law_draw", topS 91, [Str.ofString "bag", Str.ofString "many", Str.ofString "seed", Str.ofString "rest"], [Str.ofString "bag", Str.ofString "many"], g_law_draw⟩ gl cls sub :=
  ⟨⟨rfl, rfl, rfl, by decide +kernel, rfl, by decide +kernel, by decide +kernel⟩, fun _ _ _ _ _ _ us hl => match us, hl with | [_, _], _ => rfl, fun _ => by kernel_rfl⟩
theorem ok_law_one : DefD.Ok ⟨"_law_one", topS 92, [Str.ofString "bag", Str.ofString "row"], [Str.ofString "bag", Str.ofString "row"], g_law_one⟩ gl cls sub :=
  ⟨⟨rfl, rfl, rfl, by decide +kernel, rfl, by decide +kernel, by decide +kernel⟩, fun _ _ _ _ _ _ us hl => match us, hl with | [_, _], _ => rfl, fun _ => by kernel_rfl⟩
theorem ok_law_letters : DefD.Ok ⟨"_law_letters", topS 93, [], [], g_law_letters⟩ gl cls sub :=
  ⟨⟨rfl, rfl, rfl, by decide +kernel, rfl, by decide +kernel, by decide +kernel⟩, fun _ _ _ _ _ _ us hl => match us, hl with | [], _ => rfl, fun _ => by kernel_rfl⟩
theorem ok_law_is_word : DefD.Ok ⟨"_law_is_word", topS 94, [Str.ofString "value", Str.ofString "signs", Str.ofString "sign"], [Str.ofString "value"], g_law_is_word⟩ gl cls sub :=
  ⟨⟨rfl, rfl, rfl, by decide +kernel, rfl, by decide +kernel, by decide +kernel⟩, fun _ _ _ _ _ _ us hl => match us, hl with | [_], _ => rfl, fun _ => by kernel_rfl⟩
theorem ok_law_is_cell : DefD.Ok ⟨"_law_is_cell", topS 95, [Str.ofString "value"], [Str.ofString "value"], g_law_is_cell⟩ gl cls sub :=
  ⟨⟨rfl, rfl, rfl, by decide +kernel, rfl, by decide +kernel, by decide +kernel⟩, fun _ _ _ _ _ _ us hl => match us, hl with | [_], _ => rfl, fun _ => by kernel_rfl⟩
theorem ok_law_is_raw : DefD.Ok ⟨"_law_is_raw", topS 96, [Str.ofString "value", Str.ofString "signs", Str.ofString "sign"], [Str.ofString "value"], g_law_is_raw⟩ gl cls sub :=
  ⟨⟨rfl, rfl, rfl, by decide +kernel, rfl, by decide +kernel, by decide +kernel⟩, fun _ _ _ _ _ _ us hl => match us, hl with | [_], _ => rfl, fun _ => by kernel_rfl⟩
theorem ok_law_cell_of : DefD.Ok ⟨"_law_cell_of", topS 97, [Str.ofString "raw", Str.ofString "digits", Str.ofString "sign"], [Str.ofString "raw"], g_law_cell_of⟩ gl cls sub :=
  ⟨⟨rfl, rfl, rfl, by decide +kernel, rfl, by decide +kernel, by decide +kernel⟩, fun _ _ _ _ _ _ us hl => match us, hl with | [_], _ => rfl, fun _ => by kernel_rfl⟩
theorem ok_law_key : DefD.Ok ⟨"_law_key", topS 98, [Str.ofString "cell"], [Str.ofString "cell"], g_law_key⟩ gl cls sub :=
  ⟨⟨rfl, rfl, rfl, by decide +kernel, rfl, by decide +kernel, by decide +kernel⟩, fun _ _ _ _ _ _ us hl => match us, hl with | [_], _ => rfl, fun _ => by kernel_rfl⟩
theorem ok_law_place : DefD.Ok ⟨"_law_place", topS 99, [Str.ofString "text", Str.ofString "signs", Str.ofString "odd", Str.ofString "j"], [Str.ofString "text"], g_law_place⟩ gl cls sub :=
  ⟨⟨rfl, rfl, rfl, by decide +kernel, rfl, by decide +kernel, by decide +kernel⟩, fun _ _ _ _ _ _ us hl => match us, hl with | [_], _ => rfl, fun _ => by kernel_rfl⟩
theorem ok_law_told : DefD.Ok ⟨"_law_told", topS 100, [Str.ofString "text", Str.ofString "e"], [Str.ofString "text"], g_law_told⟩ gl cls sub :=
  ⟨⟨rfl, rfl, rfl, by decide +kernel, rfl, by decide +kernel, by decide +kernel⟩, fun _ _ _ _ _ _ us hl => match us, hl with | [_], _ => rfl, fun _ => by kernel_rfl⟩
theorem ok_law : DefD.Ok ⟨"law", topS 101, [Str.ofString "script", Str.ofString "errors", Str.ofString "one", Str.ofString "odd", Str.ofString "value", Str.ofString "cells", Str.ofString "k", Str.ofString "bag", Str.ofString "text", Str.ofString "at", Str.ofString "near", Str.ofString "due", Str.ofString "other", Str.ofString "j"], [Str.ofString "script"], g_law⟩ gl cls sub :=
  ⟨⟨rfl, rfl, rfl, by decide +kernel, rfl, by decide +kernel, by decide +kernel⟩, fun _ _ _ _ _ _ us hl => match us, hl with | [_], _ => rfl, fun _ => by kernel_rfl⟩
theorem T_ok : ∀ d ∈ T, d.Ok gl cls sub := by
  intro d hd
  unfold T at hd
  simp only [List.mem_cons, List.not_mem_nil, or_false] at hd
  rcases hd with rfl | rfl | rfl | rfl | rfl | rfl | rfl | rfl | rfl | rfl | rfl | rfl | rfl | rfl | rfl | rfl | rfl | rfl | rfl | rfl | rfl | rfl | rfl | rfl | rfl | rfl | rfl | rfl | rfl | rfl | rfl | rfl | rfl | rfl | rfl | rfl | rfl | rfl | rfl | rfl | rfl | rfl | rfl | rfl | rfl | rfl | rfl | rfl | rfl | rfl | rfl | rfl | rfl | rfl | rfl | rfl | rfl
  · exact ok_is_integer
  · exact ok_is_word
  · exact ok_is_cell
  · exact ok_is_raw
  · exact ok_is_text
  · exact ok_check_text
  · exact ok_cell_key
  · exact ok_less_cell
  · exact ok_cell_of
  · exact ok_raw_of
  · exact ok_is_lines
  · exact ok_is_cards
  · exact ok_is_columns
  · exact ok_is_groups
  · exact ok_is_lists
  · exact ok_is_form
  · exact ok_check_form
  · exact ok_offsets_of
  · exact ok_lines_of
  · exact ok_behind_line
  · exact ok_first_in
  · exact ok_is_empty
  · exact ok_is_remark
  · exact ok_is_rest
  · exact ok_raw_end
  · exact ok_field_at
  · exact ok_fields_of
  · exact ok_raw_at
  · exact ok_put_row
  · exact ok_cut_lines
  · exact ok_column_field
  · exact ok_cut_columns
  · exact ok_blank_end
  · exact ok_begins_line
  · exact ok_list_at
  · exact ok_cut_lists
  · exact ok_card_line
  · exact ok_cut_cards
  · exact ok_group_line
  · exact ok_groups_of
  · exact ok_cut_groups
  · exact ok_cut_all
  · exact ok_cut
  · exact ok_raws_of
  · exact ok_raws
  · exact ok_law_bag
  · exact ok_law_draw
  · exact ok_law_one
  · exact ok_law_letters
  · exact ok_law_is_word
  · exact ok_law_is_cell
  · exact ok_law_is_raw
  · exact ok_law_cell_of
  · exact ok_law_key
  · exact ok_law_place
  · exact ok_law_told
  · exact ok_law
end K00
end

section
set_option Elab.async false
set_option linter.all false
set_option maxRecDepth 100000
set_option maxHeartbeats 1000000
/-! K00B: the written part of the law, by reckoning. -/
namespace K00
open PD
theorem int0 : okInt 999999999 = true := by decide +kernel
theorem int1 : intL 999999999 = [57, 57, 57, 57, 57, 57, 57, 57, 57] := by decide +kernel
def rep (n c : Nat) : List Nat := List.replicate n c
def odd1 : List D := [.non, .bl true, .bl false, .int 0, .int 999999999, .int (-999999999), .int 1000000000, .str [], .str [97], .str [65], .str (rep 12 97), .str (rep 13 97), .str [49, 97], .str [95, 97], .str [97, 45, 98], .str [45], .str [45, 45, 49], .str [45, 48], .str [48, 48, 55], .str (rep 16 48), .str (rep 7 48 ++ rep 9 57), .str (rep 10 49)]
def odd2 : List D := odd1 ++ [.str [97, 32, 98], .tup [], .tup [.int 1], .str (rep 16 57)]
def cells : List D := [.non, .int 0, .int 999999999, .int (-999999999), .str [97], .str (rep 12 97)]
def lv : Nat := 12
theorem p3 (x : Option A) : sSet 3 (gLst (gCons (gCon .non) (gCons (gCon (.bl true)) (gCons (gCon (.bl false)) (gCons (gCon (.int 0)) (gCons (gCon (.int 999999999)) (gCons (gOp pNeg (gCons (gCon (.int 999999999)) gNil)) (gCons (gCon (.int 1000000000)) (gCons (gCon (.str [])) (gCons (gCon (.str [97])) (gCons (gCon (.str [65])) (gCons (gOp pMul (gCons (gCon (.str [97])) (gCons (gCon (.int 12)) gNil))) (gCons (gOp pMul (gCons (gCon (.str [97])) (gCons (gCon (.int 13)) gNil))) (gCons (gCon (.str [49, 97])) (gCons (gCon (.str [95, 97])) (gCons (gCon (.str [97, 45, 98])) (gCons (gCon (.str [45])) (gCons (gCon (.str [45, 45, 49])) (gCons (gCon (.str [45, 48])) (gCons (gCon (.str [48, 48, 55])) (gCons (gOp pMul (gCons (gCon (.str [48])) (gCons (gCon (.int 16)) gNil))) (gCons (gOp pAdd (gCons (gOp pMul (gCons (gCon (.str [48])) (gCons (gCon (.int 7)) gNil))) (gCons (gOp pMul (gCons (gCon (.str [57])) (gCons (gCon (.int 9)) gNil))) gNil))) (gCons (gOp pMul (gCons (gCon (.str [49])) (gCons (gCon (.int 10)) gNil))) gNil)))))))))))))))))))))))
    [x, none, none, none, none, none, none, none, none, none, none, none, none, none] [] = .nx [x, none, none, some (.obj 0), none, none, none, none, none, none, none, none, none, none] [.ls odd1] := by kernel_rfl
theorem p4 (x : Option A) : sSet 3 (gOp pAdd (gCons (gVar 3) (gCons (gLst (gCons (gCon (.str [97, 32, 98])) (gCons (gTup gNil) (gCons (gTup (gCons (gCon (.int 1)) gNil)) (gCons (gOp pMul (gCons (gCon (.str [57])) (gCons (gCon (.int 16)) gNil))) gNil))))) gNil)))
    [x, none, none, some (.obj 0), none, none, none, none, none, none, none, none, none, none] [.ls odd1] = .nx [x, none, none, some (.obj 1), none, none, none, none, none, none, none, none, none, none] [.ls odd1, .ls odd2] := by kernel_rfl
theorem p5 (x : Option A) : sFor (iVal (gVar 3)) (.name 4) (b_law_4 (semT T lv)) [x, none, none, some (.obj 1), none, none, none, none, none, none, none, none, none, none] [.ls odd1, .ls odd2]
    = .nx [x, none, none, some (.obj 1), some (.d (.str (rep 16 57))), none, none, none, none, none, none, none, none, none] [.ls odd1, .ls odd2] := by kernel_rfl
theorem p6 (x : Option A) : sSet 5 (gLc (iVal (gVar 3)) (.name 4) (tVal (gCall (semT T lv) 50 (gCons (gVar 4) gNil))) (gVar 4) [4]) [x, none, none, some (.obj 1), some (.d (.str (rep 16 57))), none, none, none, none, none, none, none, none, none] [.ls odd1, .ls odd2]
    = .nx [x, none, none, some (.obj 1), some (.d (.str (rep 16 57))), some (.obj 2), none, none, none, none, none, none, none, none] [.ls odd1, .ls odd2, .ls cells] := by kernel_rfl
theorem p7 (x : Option A) : sFor (iVal (gVar 5)) (.name 2) (b_law_3 (semT T lv)) [x, none, none, some (.obj 1), some (.d (.str (rep 16 57))), some (.obj 2), none, none, none, none, none, none, none, none] [.ls odd1, .ls odd2, .ls cells]
    = .nx [x, none, some (.d (.str (rep 12 97))), some (.obj 1), some (.d (.str (rep 16 57))), some (.obj 2), none, none, none, none, none, none, none, none] [.ls odd1, .ls odd2, .ls cells] := by kernel_rfl
end K00
end

section
set_option Elab.async false
set_option linter.all false
set_option maxRecDepth 100000
set_option maxHeartbeats 1000000
/-! K00C: words and raws. -/
namespace K00
open PD
def letters : List Nat := [97, 98, 99, 100, 101, 102, 103, 104, 105, 106, 107, 108, 109, 110, 111, 112, 113, 114, 115, 116, 117, 118, 119, 120, 121, 122]
def digs : List Nat := [48, 49, 50, 51, 52, 53, 54, 55, 56, 57]
def wsg : List Nat := letters ++ [48, 49, 50, 51, 52, 53, 54, 55, 56, 57, 95]
def rsg : List Nat := letters ++ [48, 49, 50, 51, 52, 53, 54, 55, 56, 57, 95, 45]
def hd (s : List Nat) : Nat := match s with | c :: _ => c | [] => 0
def isWordB (s : List Nat) : Bool := decide (1 ≤ s.length) && (decide (s.length ≤ 12) && (decide (hd s ∈ letters) && s.all fun c => decide (c ∈ wsg)))
def isRawB (s : List Nat) : Bool := decide (1 ≤ s.length) && (decide (s.length ≤ 16) && s.all fun c => decide (c ∈ rsg))
theorem len_s {s : List Nat} (h : s.length ≤ 5000) : pLen [.str s] = some (.v (.int s.length)) := by
  have : s.length ≤ LID := by unfold LID; omega
  simp [pLen, this]
theorem ix0_s {c : Nat} {r : List Nat} (h : (c :: r).length ≤ 5000) : pIx [.str (c :: r), .int 0] = some (.v (.str [c])) := by
  have h1 : (c :: r).length ≤ LID := by unfold LID; omega
  simp only [pIx]
  rw [if_pos h1]
  have hp : place 0 (c :: r).length = some 0 := by unfold place; rw [if_pos (by omega), if_pos (by simp)]; rfl
  rw [hp]; rfl
theorem ix_hd {s : List Nat} (h1 : 1 ≤ s.length) (h : s.length ≤ 5000) : pIx [.str s, .int 0] = some (.v (.str [hd s])) := by
  cases s with
  | nil => simp at h1
  | cons c r => exact ix0_s h
theorem lt_nat2 (a b : Nat) : pLt2 [.int a, .int b] = some (.v (.bl (decide (a < b)))) := by
  show some (Res.v (.bl (decide ((a : Int) < b)))) = _
  by_cases h : a < b
  · rw [decide_eq_true h, decide_eq_true (by omega)]
  · rw [decide_eq_false h, decide_eq_false (by omega)]
theorem e_letters (j : Nat) : semT T (j + 1) 48 [] [] = .ok (.d (.str letters)) [] := rfl
section
variable (j : Nat) (s : List Nat) (hs : s.length ≤ 5000)
include hs
theorem e_is_word : semT T (j + 1) 1 [.d (.str s)] [] = .ok (.d (.bl (isWordB s))) [] := by
  show (if 1 = 1 then finish 0 (g_is_word (semT T j) [some (.d (.str s)), none] []) else .bad) = _
  rw [if_pos rfl]
  unfold g_is_word
  have h4 : s.length < LID := by unfold LID; omega
  have hlen := op1 (env := [some (.d (.str s)), none]) (st := []) (g1 := gVar 0) rfl (len_s hs) rfl
  have hch := chain_ok (env := [some (.d (.str s)), none]) (st := []) (x := .int (1 : Nat)) (z := .int (12 : Nat)) (a := gCon (.int 1)) (c := gCon c_MOST_WORD) rfl hlen (le_nat 1 s.length) (fun _ => rfl) (fun _ => le_nat s.length 12)
  have hc := tor_ok (t_not (tv (op1 (p := pIsi .str) (env := [some (.d (.str s)), none]) (st := []) (g1 := gVar 0) rfl (z := .bl true) rfl rfl) rfl)) (fun _ => tor_ok (t_not (tv hch rfl)) (y := !decide (hd s ∈ letters)) fun q => by
    have h1 : 1 ≤ s.length := by
      rw [Bool.not_eq_false', Bool.and_eq_true, decide_eq_true_eq] at q; exact q.1
    exact tv (op2 (p := pNotIn) (op2 (p := pIx) (g1 := gVar 0) (g2 := gCon (.int 0)) (x := .str s) (y := .int 0) rfl rfl (ix_hd h1 hs) rfl) (y := .str letters) (g2 := gCon c_LETTERS) rfl (z := .bl (!decide (hd s ∈ letters))) rfl rfl) rfl)
  rw [if_ret hc (v := gCon (.bl false)) fun _ => rfl]
  have hall := all_e (S := wsg) (env := [some (.d (.str s)), none]) (st := []) (i := 0) (k := 1) (own := [1]) (g := gCon c_WORD_SIGNS) rfl (by simp [wipeE]) (fun _ _ => rfl) h4
  rw [ret_rt hall]
  cases q1 : decide (1 ≤ s.length) <;> cases q2 : decide (s.length ≤ 12) <;> cases q3 : decide (hd s ∈ letters) <;> simp [isWordB, q1, q2, q3] <;> rfl
theorem add_l (t : List Nat) (h : t.length ≤ 100) : pAdd [.str letters, .str t] = some (.v (.str (letters ++ t))) := by
  have : letters.length + t.length ≤ LID := by
    have : letters.length = 26 := rfl
    unfold LID; omega
  simp only [pAdd]
  rw [if_pos this]
theorem e_law_is_word : semT T (j + 2) 49 [.d (.str s)] [] = .ok (.d (.bl (isWordB s))) [] := by
  show (if 1 = 1 then finish 0 (g_law_is_word (semT T (j + 1)) [some (.d (.str s)), none, none] []) else .bad) = _
  rw [if_pos rfl]
  unfold g_law_is_word
  have h4 : s.length < LID := by unfold LID; omega
  have hlet : ∀ env : Env, gCall (semT T (j + 1)) 48 gNil env [] = .ok (.d (.str letters)) [] := fun env => call_ok (xs := []) rfl rfl (e_letters j) rfl
  have s1 : sSet 1 (gOp pAdd (gCons (gCall (semT T (j + 1)) 48 gNil) (gCons (gCon (.str [48, 49, 50, 51, 52, 53, 54, 55, 56, 57, 95])) gNil))) [some (.d (.str s)), none, none] [] = .nx [some (.d (.str s)), some (.d (.str wsg)), none] [] :=
    set_nx (op2 (hlet _) (y := .str [48, 49, 50, 51, 52, 53, 54, 55, 56, 57, 95]) rfl (add_l s hs _ (by decide)) rfl)
  rw [seq_nx s1]
  have hlen := op1 (env := [some (.d (.str s)), some (.d (.str wsg)), none]) (st := []) (g1 := gVar 0) rfl (len_s hs) rfl
  have hr := and_ok (op1 (p := pIsi .str) (env := [some (.d (.str s)), some (.d (.str wsg)), none]) (st := []) (g1 := gVar 0) rfl (z := .bl true) rfl rfl) fun _ => and_ok (op2 (g1 := gCon (.int 0)) (x := .int (0 : Nat)) rfl hlen (lt_nat2 0 s.length) rfl) fun q => and_ok (op2 hlen (g2 := gCon (.int 12)) (y := .int (12 : Nat)) rfl (le_nat s.length 12) rfl) fun _ =>
    and_ok (x := decide (hd s ∈ letters)) (a := gOp pIn (gCons (gOp pIx (gCons (gVar 0) (gCons (gCon (.int 0)) gNil))) (gCons (gCall (semT T (j + 1)) 48 gNil) gNil))) (op2 (p := pIn) (op2 (p := pIx) (g1 := gVar 0) (g2 := gCon (.int 0)) (x := .str s) (y := .int 0) rfl rfl (ix_hd (of_decide_eq_true q) hs) rfl) (hlet _) (z := .bl (decide (hd s ∈ letters))) rfl rfl) fun _ =>
    op2_new (lc_odd (S := wsg) (i := 0) (k := 2) (own := [2]) (g := gVar 1) rfl (by simp [wipeE]) (fun _ _ => rfl) h4) (nil_lst _) (odd_eq wsg s)
  rw [ret_rt hr]
  have e : decide (0 < s.length) = decide (1 ≤ s.length) := rfl
  rw [e]; rfl
theorem e_is_raw : semT T (j + 1) 3 [.d (.str s)] [] = .ok (.d (.bl (isRawB s))) [] := by
  show (if 1 = 1 then finish 0 (g_is_raw (semT T j) [some (.d (.str s)), none] []) else .bad) = _
  rw [if_pos rfl]
  unfold g_is_raw
  have h4 : s.length < LID := by unfold LID; omega
  have hlen := op1 (env := [some (.d (.str s)), none]) (st := []) (g1 := gVar 0) rfl (len_s hs) rfl
  have hch := chain_ok (env := [some (.d (.str s)), none]) (st := []) (x := .int (1 : Nat)) (z := .int (16 : Nat)) (a := gCon (.int 1)) (c := gCon c_MOST_RAW) rfl hlen (le_nat 1 s.length) (fun _ => rfl) (fun _ => le_nat s.length 16)
  have hc := tor_ok (t_not (tv (op1 (p := pIsi .str) (env := [some (.d (.str s)), none]) (st := []) (g1 := gVar 0) rfl (z := .bl true) rfl rfl) rfl)) (fun _ => t_not (tv hch rfl))
  rw [if_ret hc (v := gCon (.bl false)) fun _ => rfl]
  have hall := all_e (S := rsg) (env := [some (.d (.str s)), none]) (st := []) (i := 0) (k := 1) (own := [1]) (g := gCon c_RAW_SIGNS) rfl (by simp [wipeE]) (fun _ _ => rfl) h4
  rw [ret_rt hall]
  cases q1 : decide (1 ≤ s.length) <;> cases q2 : decide (s.length ≤ 16) <;> simp [isRawB, q1, q2] <;> rfl
theorem e_law_is_raw : semT T (j + 2) 51 [.d (.str s)] [] = .ok (.d (.bl (isRawB s))) [] := by
  show (if 1 = 1 then finish 0 (g_law_is_raw (semT T (j + 1)) [some (.d (.str s)), none, none] []) else .bad) = _
  rw [if_pos rfl]
  unfold g_law_is_raw
  have h4 : s.length < LID := by unfold LID; omega
  have hlet : ∀ env : Env, gCall (semT T (j + 1)) 48 gNil env [] = .ok (.d (.str letters)) [] := fun env => call_ok (xs := []) rfl rfl (e_letters j) rfl
  have s1 : sSet 1 (gOp pAdd (gCons (gCall (semT T (j + 1)) 48 gNil) (gCons (gCon (.str [48, 49, 50, 51, 52, 53, 54, 55, 56, 57, 95, 45])) gNil))) [some (.d (.str s)), none, none] [] = .nx [some (.d (.str s)), some (.d (.str rsg)), none] [] :=
    set_nx (op2 (hlet _) (y := .str [48, 49, 50, 51, 52, 53, 54, 55, 56, 57, 95, 45]) rfl (add_l s hs _ (by decide)) rfl)
  rw [seq_nx s1]
  have hlen := op1 (env := [some (.d (.str s)), some (.d (.str rsg)), none]) (st := []) (g1 := gVar 0) rfl (len_s hs) rfl
  have hr := and_ok (op1 (p := pIsi .str) (env := [some (.d (.str s)), some (.d (.str rsg)), none]) (st := []) (g1 := gVar 0) rfl (z := .bl true) rfl rfl) fun _ => and_ok (op2 (g1 := gCon (.int 0)) (x := .int (0 : Nat)) rfl hlen (lt_nat2 0 s.length) rfl) fun q => and_ok (op2 hlen (g2 := gCon (.int 16)) (y := .int (16 : Nat)) rfl (le_nat s.length 16) rfl) fun _ =>
    op2_new (lc_odd (S := rsg) (i := 0) (k := 2) (own := [2]) (g := gVar 1) rfl (by simp [wipeE]) (fun _ _ => rfl) h4) (nil_lst _) (odd_eq rsg s)
  rw [ret_rt hr]
  have e : decide (0 < s.length) = decide (1 ≤ s.length) := rfl
  rw [e]; rfl
end
end K00
end

section
set_option Elab.async false
set_option linter.all false
set_option maxRecDepth 100000
set_option maxHeartbeats 1000000
/-! K00D: the cell of a raw. -/
namespace K00
open PD
/-! ### numbers -/
theorem fold_dig : ∀ (l : List Nat) (n : Nat), l.foldl (fun n c => n * 10 + (c - 48)) n = n * 10 ^ l.length + digV l
  | [], n => by simp [digV]
  | c :: l, n => by
    have h1 := fold_dig l (n * 10 + (c - 48))
    have h2 := fold_dig l (0 * 10 + (c - 48))
    have e : digV (c :: l) = l.foldl (fun n c => n * 10 + (c - 48)) (0 * 10 + (c - 48)) := rfl
    rw [List.foldl_cons, h1, e, h2, List.length_cons, Nat.pow_succ]
    simp only [Nat.zero_mul, Nat.zero_add, Nat.add_mul, Nat.mul_assoc]
    rw [Nat.mul_comm (10 ^ l.length) 10]
    omega
theorem dig_cons (c : Nat) (l : List Nat) : digV (c :: l) = (c - 48) * 10 ^ l.length + digV l := by
  have e : digV (c :: l) = l.foldl (fun n c => n * 10 + (c - 48)) (0 * 10 + (c - 48)) := rfl
  rw [e, fold_dig, Nat.zero_mul, Nat.zero_add]
theorem dig_lt : ∀ {l : List Nat}, (∀ c ∈ l, 48 ≤ c ∧ c ≤ 57) → digV l < 10 ^ l.length
  | [], _ => by simp [digV]
  | c :: l, h => by
    have ih := dig_lt fun d hd => h d (List.mem_cons_of_mem _ hd)
    obtain ⟨h1, h2⟩ := h c List.mem_cons_self
    rw [dig_cons, List.length_cons, Nat.pow_succ]
    have h3 : (c - 48) * 10 ^ l.length ≤ 9 * 10 ^ l.length := Nat.mul_le_mul_right _ (by omega)
    omega
theorem dig_drop : ∀ l : List Nat, digV (l.dropWhile fun c => [48].contains c) = digV l
  | [] => rfl
  | c :: l => by
    rw [List.dropWhile_cons]
    split
    · rename_i h
      have hc : c = 48 := by simpa using h
      rw [dig_drop l, dig_cons, hc]; simp
    · rfl
theorem drop_head : ∀ (l : List Nat) {c : Nat} {r : List Nat}, (l.dropWhile fun c => [48].contains c) = c :: r → c ≠ 48
  | [], _, _, h => by cases h
  | d :: l, c, r, h => by
    rw [List.dropWhile_cons] at h
    split at h
    · exact drop_head l h
    · rename_i hd
      cases h
      intro e
      rw [e] at hd
      exact hd (by simp)
theorem nine (l : List Nat) (h : ∀ c ∈ l, 48 ≤ c ∧ c ≤ 57) : 9 < (l.dropWhile fun c => [48].contains c).length ↔ 999999999 < digV l := by
  have hm : ∀ c ∈ l.dropWhile (fun c => [48].contains c), 48 ≤ c ∧ c ≤ 57 := fun c hc => h c ((List.dropWhile_sublist _).subset hc)
  rw [← dig_drop l]
  generalize hl : (l.dropWhile fun c => [48].contains c) = m at hm ⊢
  constructor
  · intro h9
    cases m with
    | nil => simp at h9
    | cons c r =>
      have hc := drop_head l hl
      obtain ⟨h1, h2⟩ := hm c List.mem_cons_self
      rw [List.length_cons] at h9
      rw [dig_cons]
      have h3 : 10 ^ 9 ≤ 10 ^ r.length := Nat.pow_le_pow_right (by decide) (by omega)
      have h4 : 1 * 10 ^ r.length ≤ (c - 48) * 10 ^ r.length := Nat.mul_le_mul_right _ (by omega)
      have h5 : (10 : Nat) ^ 9 = 1000000000 := by decide
      omega
  · intro h9
    rcases Nat.lt_or_ge 9 m.length with q | q
    · exact q
    · have h3 := dig_lt hm
      have h4 : 10 ^ m.length ≤ 10 ^ 9 := Nat.pow_le_pow_right (by decide) q
      have h5 : (10 : Nat) ^ 9 = 1000000000 := by decide
      omega
/-! ### the cell -/
def neg (s : List Nat) : Bool := decide (s.take 1 = [45])
def dg (s : List Nat) : List Nat := if s.take 1 = [45] then s.drop 1 else s
def okD (l : List Nat) : Bool := !decide (l = []) && l.all fun c => decide (c ∈ digs)
def cellOf (s : List Nat) : D := if isWordB s then .str s else if !okD (dg s) then .non else if decide (9 < ((dg s).dropWhile fun c => [48].contains c).length) then .non else .int (if s.take 1 = [45] then -(digV (dg s) : Int) else digV (dg s))
theorem digs_is {c : Nat} : c ∈ digs ↔ 48 ≤ c ∧ c ≤ 57 := by
  constructor
  · intro h
    simp only [digs, List.mem_cons, List.not_mem_nil, or_false] at h
    omega
  · intro ⟨h1, h2⟩
    have : c = 48 ∨ c = 49 ∨ c = 50 ∨ c = 51 ∨ c = 52 ∨ c = 53 ∨ c = 54 ∨ c = 55 ∨ c = 56 ∨ c = 57 := by omega
    simpa [digs] using this
theorem okD_is {l : List Nat} (h : okD l = true) (hl : l.length ≤ 600) : l ≠ [] ∧ (∀ c ∈ l, 48 ≤ c ∧ c ≤ 57) ∧ isDig l = true := by
  unfold okD at h
  rw [Bool.and_eq_true, Bool.not_eq_true', decide_eq_false_iff_not, List.all_eq_true] at h
  have h2 : ∀ c ∈ l, 48 ≤ c ∧ c ≤ 57 := fun c hc => digs_is.mp (of_decide_eq_true (h.2 c hc))
  refine ⟨h.1, h2, ?_⟩
  unfold isDig
  have h3 : l.isEmpty = false := by cases l with | nil => exact absurd rfl h.1 | cons => rfl
  have h4 : (l.all fun c => decide (48 ≤ c) && decide (c ≤ 57)) = true := List.all_eq_true.mpr fun c hc => by
    rw [Bool.and_eq_true, decide_eq_true_eq, decide_eq_true_eq]; exact h2 c hc
  rw [h3, h4, decide_eq_true hl]; rfl
theorem no_neg {l : List Nat} (h : ∀ c ∈ l, 48 ≤ c ∧ c ≤ 57) : l.take 1 ≠ [45] := fun e => by
  cases l with
  | nil => cases e
  | cons c r =>
    have hc : c = 45 := by simpa using e
    have := h c List.mem_cons_self
    omega
theorem int_of {s : List Nat} (h : isDig (dg s) = true) : pInt2 [.str s] = some (.v (.int (if s.take 1 = [45] then -(digV (dg s) : Int) else digV (dg s)))) := by
  cases s with
  | nil => cases h
  | cons c r =>
    by_cases hc : c = 45
    · subst hc
      have e : (45 :: r).take 1 = [45] := rfl
      have hd : dg (45 :: r) = r := by unfold dg; rw [if_pos e]; rfl
      rw [hd] at h ⊢
      rw [if_pos e]
      simp only [pInt2, h, if_true]
    · have e : ¬ (c :: r).take 1 = [45] := by simpa using hc
      have hd : dg (c :: r) = c :: r := by unfold dg; rw [if_neg e]
      rw [hd] at h ⊢
      rw [if_neg e]
      unfold pInt2
      split
      · rename_i r' e2
        injection e2 with e2 _
        injection e2 with e2
        injection e2 with e2 _
        exact absurd e2 hc
      · rename_i s' _ e2
        injection e2 with e2 _
        injection e2 with e2
        subst e2
        rw [if_pos h]
      · rename_i h2
        exact absurd rfl (h2 _)
theorem cut1 {s : List Nat} (hs : s.length ≤ 5000) : pSl [.str s, .non, .int 1] = some (.v (.str (s.take 1))) := by
  have h : s.length ≤ LID := by unfold LID; omega
  have c : cutL s none (some ((1 : Nat) : Int)) = s.take 1 := cut_to s 1
  simp only [pSl, part]
  rw [if_pos h]
  exact congrArg (fun l => some (Res.v (.str l))) c
theorem cut2 {s : List Nat} (hs : s.length ≤ 5000) : pSl [.str s, .int 1, .non] = some (.v (.str (s.drop 1))) := by
  have h : s.length ≤ LID := by unfold LID; omega
  have c : cutL s (some ((1 : Nat) : Int)) none = s.drop 1 := cut_from s 1
  simp only [pSl, part]
  rw [if_pos h]
  exact congrArg (fun l => some (Res.v (.str l))) c
theorem eq_str (t u : List Nat) : pEq [.str t, .str u] = some (.v (.bl (decide (t = u)))) := by
  by_cases h : t = u
  · subst h; simp [pEq, okDeep, D.deep, D.eqv]
  · simp [pEq, okDeep, D.deep, D.eqv, h]
theorem dg_len (s : List Nat) : (dg s).length ≤ s.length := by
  unfold dg
  split
  · rw [List.length_drop]; omega
  · exact Nat.le_refl _
theorem dgE {c : SemE} {env : Env} {s : List Nat} (hs : s.length ≤ 5000) (h0 : gVar 0 env [] = .ok (.d (.str s)) []) (hc : c env [] = .ok (.d (.bl (decide (s.take 1 = [45])))) []) :
    gIf (tVal c) (gOp pSl (gCons (gVar 0) (gCons (gInt (gCon (.int 1))) (gCons (gCon .non) gNil)))) (gVar 0) env [] = .ok (.d (.str (dg s))) [] := by
  unfold dg
  by_cases h : s.take 1 = [45]
  · rw [decide_eq_true h] at hc
    rw [gif_t (tv hc rfl), if_pos h]
    exact op3 h0 (y := .int 1) rfl (w := .non) rfl (cut2 hs) rfl
  · rw [decide_eq_false h] at hc
    rw [gif_f (tv hc rfl), if_neg h]
    exact h0
section
variable (j : Nat) (s : List Nat) (hs : s.length ≤ 600)
include hs
theorem e_cell_of : semT T (j + 2) 8 [.d (.str s)] [] = .ok (.d (cellOf s)) [] := by
  have h5 : s.length ≤ 5000 := by omega
  have hd := dg_len s
  show (if 1 = 1 then finish 0 (g_cell_of (semT T (j + 1)) [some (.d (.str s)), none, none] []) else .bad) = _
  rw [if_pos rfl]
  unfold g_cell_of
  have hw : ∀ env : Env, gVar 0 env [] = .ok (.d (.str s)) [] → gCall (semT T (j + 1)) 1 (gCons (gVar 0) gNil) env [] = .ok (.d (.bl (isWordB s))) [] := fun env h => call_ok (xs := [.d (.str s)]) (cons_ok h rfl) rfl (e_is_word j s h5) rfl
  rw [if_ret (tv (hw _ rfl) rfl) (v := gVar 0) (x := .str s) fun _ => rfl]
  unfold cellOf
  by_cases q0 : isWordB s = true
  · rw [if_pos q0, if_pos q0]; rfl
  · rw [if_neg q0, if_neg q0]
    have hcut := op3 (p := pSl) (env := [some (.d (.str s)), none, none]) (st := []) (g1 := gVar 0) (g2 := gCon .non) (g3 := gInt (gCon (.int 1))) (x := .str s) (y := .non) (w := .int 1) rfl rfl rfl (cut1 h5) rfl
    have s1 := set_nx (i := 1) (dgE (c := gOp pEq (gCons (gOp pSl (gCons (gVar 0) (gCons (gCon .non) (gCons (gInt (gCon (.int 1))) gNil)))) (gCons (gCon (.str [45])) gNil))) h5 rfl (op2 hcut (y := .str [45]) rfl (eq_str _ _) rfl))
    rw [seq_nx s1]
    show finish 0 (sSeq _ _ [some (.d (.str s)), some (.d (.str (dg s))), none] []) = _
    have hall := all_e (S := digs) (s := dg s) (env := [some (.d (.str s)), some (.d (.str (dg s))), none]) (st := []) (i := 1) (k := 2) (own := [2]) (g := gCon c_DIGITS) rfl (by simp [wipeE]) (fun _ _ => rfl) (by unfold LID; omega)
    have hc := tor_ok (tv (op2 (p := pEq) (env := [some (.d (.str s)), some (.d (.str (dg s))), none]) (st := []) (g1 := gVar 1) (g2 := gCon (.str [])) (x := .str (dg s)) rfl (y := .str []) rfl (eq_str (dg s) []) rfl) rfl) fun _ => t_not (tv hall rfl)
    rw [if_ret hc (v := gCon .non) (x := .non) fun _ => rfl]
    have e1 : (decide (dg s = []) || !((dg s).all fun c => decide (c ∈ digs))) = !okD (dg s) := by
      unfold okD
      cases decide (dg s = []) <;> cases ((dg s).all fun c => decide (c ∈ digs)) <;> rfl
    rw [e1]
    by_cases q1 : okD (dg s) = true
    · rw [q1]
      obtain ⟨k1, k2, k3⟩ := okD_is q1 (by omega)
      have hst := op2 (p := pLstrip) (env := [some (.d (.str s)), some (.d (.str (dg s))), none]) (st := []) (g1 := gStr (gVar 1)) (g2 := gCon (.str [48])) (x := .str (dg s)) rfl (y := .str [48]) rfl (z := .str ((dg s).dropWhile fun c => [48].contains c)) (by
        have : (dg s).length ≤ LID := by unfold LID; omega
        simp only [pLstrip, this, if_true]) rfl
      have hlen : ((dg s).dropWhile fun c => [48].contains c).length ≤ 5000 := Nat.le_trans (List.dropWhile_sublist _).length_le (by omega)
      have hc2 := tv (op2 (p := pGt) (op1 (p := pLen) hst (len_s hlen) rfl) (g2 := gCon (.int 9)) (y := .int (9 : Nat)) rfl (gt_nat _ 9) rfl) rfl
      simp only [Bool.not_true, Bool.false_eq_true, if_false]
      rw [if_ret hc2 (v := gCon .non) (x := .non) fun _ => rfl]
      rw [ret_rt (op1 (p := pInt2) (g1 := gVar 0) (x := .str s) rfl (int_of k3) rfl)]
      by_cases q2 : 9 < ((dg s).dropWhile fun c => [48].contains c).length
      · rw [decide_eq_true q2]; rfl
      · rw [decide_eq_false q2]; rfl
    · have q1 : okD (dg s) = false := by simpa using q1
      rw [q1]; rfl
theorem e_law_cell_of (h1 : 1 ≤ s.length) : semT T (j + 3) 52 [.d (.str s)] [] = .ok (.d (cellOf s)) [] := by
  have h5 : s.length ≤ 5000 := by omega
  have hd' := dg_len s
  show (if 1 = 1 then finish 0 (g_law_cell_of (semT T (j + 2)) [some (.d (.str s)), none, none] []) else .bad) = _
  rw [if_pos rfl]
  unfold g_law_cell_of
  have hw : ∀ env : Env, gVar 0 env [] = .ok (.d (.str s)) [] → gCall (semT T (j + 2)) 49 (gCons (gVar 0) gNil) env [] = .ok (.d (.bl (isWordB s))) [] := fun env h => call_ok (xs := [.d (.str s)]) (cons_ok h rfl) rfl (e_law_is_word j s h5) rfl
  rw [if_ret (tv (hw _ rfl) rfl) (v := gVar 0) (x := .str s) fun _ => rfl]
  unfold cellOf
  have ht : s.take 1 = [hd s] := by
    cases s with
    | nil => simp at h1
    | cons c r => rfl
  have hneg : ∀ env : Env, gVar 0 env [] = .ok (.d (.str s)) [] → gOp pEq (gCons (gOp pIx (gCons (gVar 0) (gCons (gCon (.int 0)) gNil))) (gCons (gCon (.str [45])) gNil)) env [] = .ok (.d (.bl (decide (s.take 1 = [45])))) [] := fun env h => by
    rw [ht]
    exact op2 (op2 (p := pIx) (g2 := gCon (.int 0)) (x := .str s) (y := .int 0) h rfl (ix_hd h1 h5) rfl) (y := .str [45]) rfl (eq_str _ _) rfl
  by_cases q0 : isWordB s = true
  · rw [if_pos q0, if_pos q0]; rfl
  · rw [if_neg q0, if_neg q0]
    have s1 := set_nx (i := 1) (dgE h5 rfl (hneg [some (.d (.str s)), none, none] rfl))
    rw [seq_nx s1]
    show finish 0 (sSeq _ _ [some (.d (.str s)), some (.d (.str (dg s))), none] []) = _
    have hodd : gOp pNe (gCons (gLc (iVal (gVar 1)) (.name 2) (tVal (gOp pNotIn (gCons (gVar 2) (gCons (gCon (.str [48, 49, 50, 51, 52, 53, 54, 55, 56, 57])) gNil)))) (gVar 2) [2]) (gCons (gLst gNil) gNil)) [some (.d (.str s)), some (.d (.str (dg s))), none] [] = .ok (.d (.bl (!(dg s).all fun c => decide (c ∈ digs)))) [] :=
      op2_new (lc_odd (S := digs) (s := dg s) (i := 1) (k := 2) (own := [2]) (g := gCon (.str [48, 49, 50, 51, 52, 53, 54, 55, 56, 57])) rfl (by simp [wipeE]) (fun _ _ => rfl) (by unfold LID; omega)) (nil_lst _) (odd_ne digs (dg s))
    have hnum : okD (dg s) = true → pInt2 [.str (dg s)] = some (.v (.int (digV (dg s)))) := fun q => by
      obtain ⟨k1, k2, k3⟩ := okD_is q (by omega)
      have hn := no_neg k2
      have e : dg (dg s) = dg s := by rw [show dg (dg s) = if (dg s).take 1 = [45] then (dg s).drop 1 else dg s from rfl, if_neg hn]
      have := int_of (s := dg s) (by rw [e]; exact k3)
      rw [if_neg hn, e] at this
      exact this
    have e1 : (decide (dg s = []) || !((dg s).all fun c => decide (c ∈ digs))) = !okD (dg s) := by
      unfold okD
      cases decide (dg s = []) <;> cases ((dg s).all fun c => decide (c ∈ digs)) <;> rfl
    have hc := tor_ok (tv (op2 (p := pEq) (env := [some (.d (.str s)), some (.d (.str (dg s))), none]) (st := []) (g1 := gVar 1) (g2 := gCon (.str [])) (x := .str (dg s)) rfl (y := .str []) rfl (eq_str (dg s) []) rfl) rfl) fun q3 => tor_ok (tv hodd rfl)
      (b := tVal (gOp pGt (gCons (gOp pInt2 (gCons (gVar 1) gNil)) (gCons (gCon (.int 999999999)) gNil)))) (y := decide (999999999 < digV (dg s))) fun q4 => by
        have q5 : okD (dg s) = true := by rw [q3, q4] at e1; simpa using e1
        exact tv (op2 (op1 (p := pInt2) (g1 := gVar 1) (x := .str (dg s)) rfl (hnum q5) rfl) (y := .int (999999999 : Nat)) rfl (gt_nat _ 999999999) rfl) rfl
    rw [if_ret hc (v := gCon .non) (x := .non) fun _ => rfl, ← Bool.or_assoc, e1]
    by_cases q1 : okD (dg s) = true
    · obtain ⟨k1, k2, k3⟩ := okD_is q1 (by omega)
      have h9 := nine (dg s) k2
      rw [q1]
      by_cases q2 : 999999999 < digV (dg s)
      · rw [decide_eq_true q2, decide_eq_true (h9.mpr q2)]; rfl
      · rw [decide_eq_false q2, decide_eq_false (fun q => q2 (h9.mp q))]
        have hret : gIf (tVal (gOp pEq (gCons (gOp pIx (gCons (gVar 0) (gCons (gCon (.int 0)) gNil))) (gCons (gCon (.str [45])) gNil)))) (gOp pNeg (gCons (gOp pInt2 (gCons (gVar 1) gNil)) gNil)) (gOp pInt2 (gCons (gVar 1) gNil)) [some (.d (.str s)), some (.d (.str (dg s))), none] [] = .ok (.d (.int (if s.take 1 = [45] then -(digV (dg s) : Int) else digV (dg s)))) [] := by
          have hn := hneg [some (.d (.str s)), some (.d (.str (dg s))), none] rfl
          have hi := op1 (p := pInt2) (env := [some (.d (.str s)), some (.d (.str (dg s))), none]) (st := []) (g1 := gVar 1) (x := .str (dg s)) rfl (hnum q1) rfl
          by_cases q6 : s.take 1 = [45]
          · rw [decide_eq_true q6] at hn
            rw [gif_t (tv hn rfl), if_pos q6]
            exact op1 hi rfl rfl
          · rw [decide_eq_false q6] at hn
            rw [gif_f (tv hn rfl), if_neg q6]
            exact hi
        simp only [Bool.not_true, Bool.or_self, Bool.false_eq_true, if_false]
        rw [ret_rt hret]; rfl
    · have q1 : okD (dg s) = false := by simpa using q1
      rw [q1]; rfl
end
end K00
end

section
set_option Elab.async false
set_option linter.all false
set_option maxRecDepth 100000
set_option maxHeartbeats 1000000
/-! K00E: texts. -/
namespace K00
open PD
def sgn : List Nat := letters ++ [48, 49, 50, 51, 52, 53, 54, 55, 56, 57, 32, 10, 44, 59, 58, 61, 45, 46, 40, 41, 35, 95, 124]
def firstBad : List Nat → Option Nat
  | [] => none
  | c :: r => if c ∈ sgn then (firstBad r).map (· + 1) else some 0
def badFrom : Nat → List Nat → List Nat
  | _, [] => []
  | k, c :: r => if c ∈ sgn then badFrom (k + 1) r else k :: badFrom (k + 1) r
theorem bad_head : ∀ (t : List Nat) (k : Nat), (badFrom k t).head? = (firstBad t).map (· + k)
  | [], _ => rfl
  | c :: r, k => by
    have ih := bad_head r (k + 1)
    by_cases h : c ∈ sgn
    · simp only [badFrom, firstBad, h, if_true, ih]
      cases firstBad r with
      | none => rfl
      | some p => show some (p + (k + 1)) = some (p + 1 + k); congr 1; omega
    · simp [badFrom, firstBad, h]
theorem bad_none : ∀ {t : List Nat}, (t.all fun c => decide (c ∈ sgn)) = (firstBad t).isNone
  | [] => rfl
  | c :: r => by
    have ih := bad_none (t := r)
    by_cases h : c ∈ sgn
    · simp only [firstBad, h, if_true, List.all_cons, decide_eq_true h, Bool.true_and, ih]
      cases firstBad r <;> rfl
    · simp [firstBad, h]
def place (t : List Nat) : D := match firstBad t with | some p => .int (p : Nat) | none => if 4000 < t.length then .str [102, 97, 114] else .non
def exOf (t : List Nat) : Option Exn := match firstBad t with | some p => some ⟨1, some (.int (p : Nat))⟩ | none => if 4000 < t.length then some ⟨11, none⟩ else none
/-! ### check_text -/
theorem check_loop (F : SemF) (s : List Nat) (l0 : List D) : ∀ (l : List Nat) (k : Nat) (x y : Option A),
    (firstBad l = none → ∃ x' y', forGo (.tup [.name 1, .name 2]) (b_check_text_1 F) (Src.ok ⟨l0, []⟩) (numbered k (signs l)) [some (.d (.str s)), x, y] [] = .nx [some (.d (.str s)), x', y'] []) ∧
    (∀ p, firstBad l = some p → ∃ E, forGo (.tup [.name 1, .name 2]) (b_check_text_1 F) (Src.ok ⟨l0, []⟩) (numbered k (signs l)) [some (.d (.str s)), x, y] [] = .ex ⟨1, some (.int (p + k : Nat))⟩ E [])
  | [], k, x, y => ⟨fun _ => ⟨x, y, by simp [signs, numbered, forGo, ok_none]⟩, fun p h => by cases h⟩
  | c :: l, k, x, y => by
    have ih := check_loop F s l0 l (k + 1) (some (.d (.int (k : Nat)))) (some (.d (.str [c])))
    have e : numbered k (signs (c :: l)) = .tup [.int (k : Nat), .str [c]] :: numbered (k + 1) (signs l) := rfl
    have eP : Tg.put (.tup [.name 1, .name 2]) (.tup [.int (k : Nat), .str [c]]) [some (.d (.str s)), x, y] = some [some (.d (.str s)), some (.d (.int (k : Nat))), some (.d (.str [c]))] := rfl
    have hc : tVal (gOp pNotIn (gCons (gVar 2) (gCons (gCon c_SIGNS) gNil))) [some (.d (.str s)), some (.d (.int (k : Nat))), some (.d (.str [c]))] [] = .ok (!decide (c ∈ sgn)) [] :=
      tv (op2 (p := pNotIn) (g1 := gVar 2) (x := .str [c]) rfl (y := .str sgn) rfl rfl rfl) rfl
    rw [e, forGo, ok_none, if_pos rfl]
    simp only [eP]
    by_cases h : c ∈ sgn
    · rw [decide_eq_true h] at hc
      have e1 : b_check_text_1 F [some (.d (.str s)), some (.d (.int (k : Nat))), some (.d (.str [c]))] [] = .nx [some (.d (.str s)), some (.d (.int (k : Nat))), some (.d (.str [c]))] [] := if_f hc
      have hfb : firstBad (c :: l) = (firstBad l).map (· + 1) := by simp only [firstBad, h, if_true]
      rw [hfb, e1]
      refine ⟨fun hn => ih.1 (by cases q : firstBad l with | none => rfl | some p => rw [q] at hn; cases hn), fun p hp => ?_⟩
      cases q : firstBad l with
      | none => rw [q] at hp; cases hp
      | some p' =>
        rw [q] at hp
        cases hp
        obtain ⟨E, hE⟩ := ih.2 p' q
        exact ⟨E, hE.trans (congrArg (fun z : Nat => SO.ex ⟨1, some (.int (z : Int))⟩ E []) (show p' + (k + 1) = p' + 1 + k by omega))⟩
    · rw [decide_eq_false h] at hc
      have e1 : b_check_text_1 F [some (.d (.str s)), some (.d (.int (k : Nat))), some (.d (.str [c]))] [] = .ex ⟨1, some (.int (k : Nat))⟩ [some (.d (.str s)), some (.d (.int (k : Nat))), some (.d (.str [c]))] [] := by
        unfold b_check_text_1
        rw [if_t hc]; rfl
      have hfb : firstBad (c :: l) = some 0 := by simp only [firstBad, h, if_false]
      rw [hfb, e1]
      refine ⟨fun hn => (nomatch hn), fun p hp => ?_⟩
      cases hp
      exact ⟨_, by rw [Nat.zero_add]⟩
theorem e_check (j : Nat) (t : List Nat) (ht : t.length ≤ 5000) : semT T (j + 1) 5 [.d (.str t)] [] = match exOf t with | some e => .exn e [] | none => .ok (.d .non) [] := by
  show (if 1 = 1 then finish 0 (g_check_text (semT T j) [some (.d (.str t)), none, none] []) else .bad) = _
  rw [if_pos rfl]
  unfold g_check_text
  have h0 : sIf (tNot (tVal (gOp (pIsi .str) (gCons (gVar 0) gNil)))) (sRaise1 1 (gOp pNeg (gCons (gCon (.int 1)) gNil))) sNext [some (.d (.str t)), none, none] [] = .nx [some (.d (.str t)), none, none] [] :=
    if_f (t_not (b := true) (tv (op1 (g1 := gVar 0) (x := .str t) rfl rfl rfl) rfl))
  rw [seq_nx h0]
  have hf : ∀ env s, gVar 0 env s = .ok (.d (.str t)) s → sFor (iEnum (gVar 0)) (.tup [.name 1, .name 2]) (b_check_text_1 (semT T j)) env s = forGo (.tup [.name 1, .name 2]) (b_check_text_1 (semT T j)) (Src.ok ⟨numbered 0 (signs t), []⟩) (numbered 0 (signs t)) env s := fun env s h => by
    simp [sFor, iEnum, h]
  have hl := check_loop (semT T j) t (numbered 0 (signs t)) t 0 none none
  unfold exOf
  cases q : firstBad t with
  | some p =>
    obtain ⟨E, hE⟩ := hl.2 p q
    rw [seq_ex ((hf _ _ rfl).trans hE)]; rfl
  | none =>
    obtain ⟨x', y', hE⟩ := hl.1 q
    rw [seq_nx ((hf _ _ rfl).trans hE)]
    have hc : tVal (gOp pGt (gCons (gOp pLen (gCons (gVar 0) gNil)) (gCons (gCon c_MOST_TEXT) gNil))) [some (.d (.str t)), x', y'] [] = .ok (decide (4000 < t.length)) [] :=
      tv (op2 (p := pGt) (op1 (p := pLen) (g1 := gVar 0) rfl (len_s ht) rfl) (g2 := gCon c_MOST_TEXT) (y := .int (4000 : Nat)) rfl (gt_nat _ 4000) rfl) rfl
    by_cases h : 4000 < t.length
    · rw [decide_eq_true h] at hc
      rw [if_t hc]; simp only [if_pos h]; rfl
    · rw [decide_eq_false h] at hc
      rw [if_f hc]; simp only [if_neg h]; rfl
theorem e_is_text (j : Nat) (t : List Nat) (ht : t.length ≤ 5000) : semT T (j + 1) 4 [.d (.str t)] [] = .ok (.d (.bl (place t).isNon)) [] := by
  show (if 1 = 1 then finish 0 (g_is_text (semT T j) [some (.d (.str t)), none] []) else .bad) = _
  rw [if_pos rfl]
  unfold g_is_text
  have h4 : t.length < LID := by unfold LID; omega
  have hlen := op1 (env := [some (.d (.str t)), none]) (st := []) (g1 := gVar 0) rfl (len_s ht) rfl
  have hr := and_ok (op1 (p := pIsi .str) (env := [some (.d (.str t)), none]) (st := []) (g1 := gVar 0) rfl (z := .bl true) rfl rfl) fun _ => and_ok (op2 hlen (g2 := gCon c_MOST_TEXT) (y := .int (4000 : Nat)) rfl (le_nat t.length 4000) rfl) fun _ =>
    all_e (S := sgn) (i := 0) (k := 1) (own := [1]) (g := gCon c_SIGNS) rfl (by simp [wipeE]) (fun _ _ => rfl) h4
  rw [ret_rt hr, bad_none]
  unfold place
  cases q : firstBad t with
  | some p => simp [D.isNon]; rfl
  | none =>
    by_cases h : 4000 < t.length
    · simp [h, D.isNon, show ¬ t.length ≤ 4000 by omega]; rfl
    · simp [h, D.isNon, show t.length ≤ 4000 by omega]; rfl
/-! ### the law's own look -/
def fJ (t : List Nat) (d : D) : Option D := match d with | .int i => if t.getD i.toNat 0 ∈ sgn then none else some (.int i) | _ => none
theorem bad_list : ∀ (t pre : List Nat), ((List.range' pre.length t.length).map fun j => D.int (j : Nat)).filterMap (fJ (pre ++ t)) = (badFrom pre.length t).map fun j => D.int (j : Nat)
  | [], _ => rfl
  | c :: r, pre => by
    have ih := bad_list r (pre ++ [c])
    rw [List.length_append, List.append_assoc] at ih
    have ih : ((List.range' (pre.length + 1) r.length).map fun j => D.int (j : Nat)).filterMap (fJ (pre ++ c :: r)) = (badFrom (pre.length + 1) r).map fun j => D.int (j : Nat) := ih
    have hg : (pre ++ c :: r).getD (Int.toNat (pre.length : Nat)) 0 = c := by simp [List.getD_eq_getElem?_getD]
    rw [List.length_cons, List.range'_succ, List.map_cons, List.filterMap_cons]
    by_cases h : c ∈ sgn
    · have e : fJ (pre ++ c :: r) (.int (pre.length : Nat)) = none := by simp only [fJ, hg, h, if_true]
      rw [e]
      simp only [badFrom, h, if_true]
      exact ih
    · have e : fJ (pre ++ c :: r) (.int (pre.length : Nat)) = some (.int (pre.length : Nat)) := by simp only [fJ, hg, h, if_false]
      rw [e]
      simp only [badFrom, h, if_false, List.map_cons, ih]
theorem ints_deep (l : List Nat) : D.deeps (l.map fun j => D.int (j : Nat)) = 0 := by
  induction l with
  | nil => rfl
  | cons c l ih => simp [D.deeps, D.deep, ih]
theorem ne_nil (l : List Nat) : pNe [.lst (l.map fun j => D.int (j : Nat)), .lst []] = some (.v (.bl (!l.isEmpty))) := by
  have h1 := ints_deep l
  have h3 : okDeep (.lst (l.map fun j => D.int (j : Nat))) (.lst []) = true := by simp [okDeep, D.deep, D.deeps, h1]
  simp [pNe, h3, D.eqv, eqvs_nil]
theorem ix_s {t : List Nat} {k : Nat} (hk : k < t.length) (ht : t.length ≤ 5000) : pIx [.str t, .int (k : Nat)] = some (.v (.str [t.getD k 0])) := by
  have h1 : t.length ≤ LID := by unfold LID; omega
  simp only [pIx]
  rw [if_pos h1]
  have hp : PD.place (k : Int) t.length = some k := by unfold PD.place; rw [if_pos (by omega), if_pos (by omega)]; simp
  rw [hp]
  show Option.map _ (t[k]?) = _
  rw [List.getElem?_eq_getElem hk]
  simp [List.getD_eq_getElem?_getD, List.getElem?_eq_getElem hk]
theorem e_law_place (j : Nat) (t : List Nat) (ht : t.length ≤ 5000) : semT T (j + 2) 54 [.d (.str t)] [] = .ok (.d (place t)) [] := by
  show (if 1 = 1 then finish 0 (g_law_place (semT T (j + 1)) [some (.d (.str t)), none, none, none] []) else .bad) = _
  rw [if_pos rfl]
  unfold g_law_place
  have s1 : sSet 1 (gOp pAdd (gCons (gCall (semT T (j + 1)) 48 gNil) (gCons (gCon (.str [48, 49, 50, 51, 52, 53, 54, 55, 56, 57, 32, 10, 44, 59, 58, 61, 45, 46, 40, 41, 35, 95, 124])) gNil))) [some (.d (.str t)), none, none, none] [] = .nx [some (.d (.str t)), some (.d (.str sgn)), none, none] [] :=
    set_nx (op2 (call_ok (xs := []) rfl rfl (e_letters j) rfl) (y := .str [48, 49, 50, 51, 52, 53, 54, 55, 56, 57, 32, 10, 44, 59, 58, 61, 45, 46, 40, 41, 35, 95, 124]) rfl (add_l [] (by decide) _ (by decide)) rfl)
  rw [seq_nx s1, if_ret (t_not (b := true) (tv (op1 (p := pIsi .str) (g1 := gVar 0) (x := .str t) rfl rfl rfl) rfl)) (x := .int (-1)) fun q => by cases q]
  have hlen : ∀ env : Env, gVar 0 env [] = .ok (.d (.str t)) [] → gOp pLen (gCons (gVar 0) gNil) env [] = .ok (.d (.int t.length)) [] := fun env h => op1 h (len_s ht) rfl
  have hL : gLc (iRange1 (gOp pLen (gCons (gVar 0) gNil))) (.name 3) (tVal (gOp pNotIn (gCons (gOp pIx (gCons (gVar 0) (gCons (gVar 3) gNil))) (gCons (gVar 1) gNil)))) (gVar 3) [3] [some (.d (.str t)), some (.d (.str sgn)), none, none] [] = .ok (.obj 0) [.ls ((badFrom 0 t).map fun j => D.int (j : Nat))] := by
    have hr := range_st (i := ((t.length : Nat) : Int)) ⟨by unfold big62; omega, by unfold big62; omega⟩ (hlen [some (.d (.str t)), some (.d (.str sgn)), none, none] rfl)
    have hrl : rangeL 0 (t.length : Int) = (List.range' 0 t.length).map fun j => D.int (j : Nat) := by
      unfold rangeL
      rw [← List.range_eq_range']
      simp
    have e := gLc_filter (tg := .name 3) (cnd := tVal (gOp pNotIn (gCons (gOp pIx (gCons (gVar 0) (gCons (gVar 3) gNil))) (gCons (gVar 1) gNil)))) (elt := gVar 3) (own := [3]) (fJ t) hr rfl (by simp [rangeL]; unfold LID; omega) (fun d hd => by
      rw [hrl] at hd
      obtain ⟨k, hk, rfl⟩ := List.mem_map.mp hd
      have hk : k < t.length := by simpa using hk
      have hput : Tg.put (.name 3) (.int (k : Nat)) (wipeE [some (.d (.str t)), some (.d (.str sgn)), none, none] [3]) = some [some (.d (.str t)), some (.d (.str sgn)), none, some (.d (.int (k : Nat)))] := rfl
      have hc := tv (op2 (p := pNotIn) (env := [some (.d (.str t)), some (.d (.str sgn)), none, some (.d (.int (k : Nat)))]) (st := []) (op2 (p := pIx) (g1 := gVar 0) (g2 := gVar 3) (x := .str t) (y := .int (k : Nat)) rfl rfl (ix_s hk ht) rfl) (g2 := gVar 1) (y := .str sgn) rfl (z := .bl (!decide (t.getD k 0 ∈ sgn))) rfl rfl) rfl
      simp only [lcStep, hput, hc, bind_ok]
      have hfj : fJ t (.int (k : Nat)) = if t.getD k 0 ∈ sgn then none else some (.int (k : Nat)) := rfl
      rw [hfj]
      by_cases q : t.getD k 0 ∈ sgn
      · rw [if_pos q, decide_eq_true q]; rfl
      · rw [if_neg q, decide_eq_false q]; rfl)
    rw [e]
    have := bad_list t []
    simp only [List.length_nil, List.nil_append] at this
    rw [hrl, this]; rfl
  have s2 := set_nx (i := 2) hL
  rw [seq_nx s2]
  show finish 0 (sSeq _ _ [some (.d (.str t)), some (.d (.str sgn)), some (.obj 0), none] [.ls ((badFrom 0 t).map fun j => D.int (j : Nat))]) = _
  have hne : tVal (gOp pNe (gCons (gVar 2) (gCons (gLst gNil) gNil))) [some (.d (.str t)), some (.d (.str sgn)), some (.obj 0), none] [.ls ((badFrom 0 t).map fun j => D.int (j : Nat))] = .ok (!(badFrom 0 t).isEmpty) [.ls ((badFrom 0 t).map fun j => D.int (j : Nat))] := by
    refine tv ?_ rfl
    have hn : nowAll [.obj 0, .obj 1] [.ls ((badFrom 0 t).map fun j => D.int (j : Nat)), .ls []] = some [.lst ((badFrom 0 t).map fun j => D.int (j : Nat)), .lst []] := rfl
    have hl : gLst gNil [some (.d (.str t)), some (.d (.str sgn)), some (.obj 0), none] [.ls ((badFrom 0 t).map fun j => D.int (j : Nat))] = .ok (.obj 1) [.ls ((badFrom 0 t).map fun j => D.int (j : Nat)), .ls []] := rfl
    have hv : gVar 2 [some (.d (.str t)), some (.d (.str sgn)), some (.obj 0), none] [.ls ((badFrom 0 t).map fun j => D.int (j : Nat))] = .ok (.obj 0) [.ls ((badFrom 0 t).map fun j => D.int (j : Nat))] := rfl
    simp only [ev_op, ev_cons, hv, hl, bind_ok, gNil_ok, opOn, hn, ne_nil, give_v, settle_ok_d]; rfl
  have hh := bad_head t 0
  unfold place
  cases q : firstBad t with
  | some p =>
    rw [q] at hh
    cases hb : badFrom 0 t with
    | nil => rw [hb] at hh; cases hh
    | cons a r =>
      rw [hb] at hh hne
      have ha : a = p := by simpa using hh
      subst ha
      rw [seq_rt (v := .d (.int (a : Nat))) (st1 := [.ls ((a :: r).map fun j => D.int (j : Nat))]) (by rw [if_t hne]; exact ret_rt (by
        have hn : nowAll [.obj 0, .d (.int 0)] [.ls ((a :: r).map fun j => D.int (j : Nat))] = some [.lst ((a :: r).map fun j => D.int (j : Nat)), .int 0] := rfl
        have hv : gVar 2 [some (.d (.str t)), some (.d (.str sgn)), some (.obj 0), none] [.ls ((a :: r).map fun j => D.int (j : Nat))] = .ok (.obj 0) [.ls ((a :: r).map fun j => D.int (j : Nat))] := rfl
        have hx : pIx [.lst ((a :: r).map fun j => D.int (j : Nat)), .int 0] = some (.v (.int (a : Nat))) := by
          have hp : PD.place 0 ((a :: r).map fun j => D.int (j : Nat)).length = some 0 := by unfold PD.place; rw [if_pos (by omega), if_pos (by simp)]; rfl
          simp only [pIx]
          rw [hp]; rfl
        simp only [ev_op, ev_cons, hv, bind_ok, gCon_ok, gNil_ok, opOn, hn, hx, give_v, settle_ok_d]; rfl))]
      rfl
  | none =>
    rw [q] at hh
    cases hb : badFrom 0 t with
    | cons a r => rw [hb] at hh; cases hh
    | nil =>
      rw [hb] at hne
      rw [seq_nx (if_f (b := sNext) hne)]
      have hc : tVal (gOp pGt (gCons (gOp pLen (gCons (gVar 0) gNil)) (gCons (gCon (.int 4000)) gNil))) [some (.d (.str t)), some (.d (.str sgn)), some (.obj 0), none] [.ls []] = .ok (decide (4000 < t.length)) [.ls []] :=
        tv (op2 (p := pGt) (op1 (p := pLen) (g1 := gVar 0) rfl (len_s ht) rfl) (g2 := gCon (.int 4000)) (y := .int (4000 : Nat)) rfl (gt_nat _ 4000) rfl) rfl
      by_cases h : 4000 < t.length
      · rw [decide_eq_true h] at hc
        show finish 0 (sRet _ _ [.ls []]) = _
        rw [ret_rt ((gif_t hc).trans (gCon_ok _ _ _)), if_pos h]; rfl
      · rw [decide_eq_false h] at hc
        show finish 0 (sRet _ _ [.ls []]) = _
        rw [ret_rt ((gif_f hc).trans (gCon_ok _ _ _)), if_neg h]; rfl
end K00
end

section
set_option Elab.async false
set_option linter.all false
set_option maxRecDepth 100000
set_option maxHeartbeats 1000000
/-! K00F: what is told; good texts by reckoning. -/
namespace K00
open PD
theorem form_ok : semT T 9 16 [.d (.tup [.str [108, 105, 115, 116, 115], .int 1])] [] = .ok (.d .non) [] := by kernel_rfl
theorem e_told_ex (x : D) (e : Exn) (d : D) (hc : semT T 9 5 [.d x] [] = .exn e []) (hd : (e.cls = 1 ∧ e.arg = some d) ∨ (e.cls = 11 ∧ d = .str [102, 97, 114])) : semT T 12 55 [.d x] [] = .ok (.d d) [] := by
  have h1 : semT T 10 42 [.d (.tup [.str [108, 105, 115, 116, 115], .int 1]), .d x] [] = .exn e [] := by
    show (if 2 = 2 then finish 0 (g_cut (semT T 9) [some (.d (.tup [.str [108, 105, 115, 116, 115], .int 1])), some (.d x)] []) else .bad) = _
    rw [if_pos rfl]
    unfold g_cut
    have c1 : sExpr (gCall (semT T 9) 16 (gCons (gVar 0) gNil)) [some (.d (.tup [.str [108, 105, 115, 116, 115], .int 1])), some (.d x)] [] = .nx [some (.d (.tup [.str [108, 105, 115, 116, 115], .int 1])), some (.d x)] [] := by
      have := call_ok (env := [some (.d (.tup [.str [108, 105, 115, 116, 115], .int 1])), some (.d x)]) (st := []) (as := gCons (gVar 0) gNil) (xs := [.d (.tup [.str [108, 105, 115, 116, 115], .int 1])]) rfl rfl form_ok rfl
      simp only [sExpr, this, toS_ok]; rfl
    have c2 : sExpr (gCall (semT T 9) 5 (gCons (gVar 1) gNil)) [some (.d (.tup [.str [108, 105, 115, 116, 115], .int 1])), some (.d x)] [] = .ex e [some (.d (.tup [.str [108, 105, 115, 116, 115], .int 1])), some (.d x)] [] := by
      have := call_ex (env := [some (.d (.tup [.str [108, 105, 115, 116, 115], .int 1])), some (.d x)]) (st := []) (as := gCons (gVar 1) gNil) (xs := [.d x]) rfl rfl hc rfl
      simp only [sExpr, this, toS_exn]
    rw [seq_nx c1, seq_ex c2]; rfl
  have h2 : semT T 11 44 [.d (.tup [.str [108, 105, 115, 116, 115], .int 1]), .d x] [] = .exn e [] := by
    show (if 2 = 2 then finish 0 (g_raws (semT T 10) [some (.d (.tup [.str [108, 105, 115, 116, 115], .int 1])), some (.d x)] []) else .bad) = _
    rw [if_pos rfl]
    unfold g_raws
    have c1 := call_ex (F := semT T 10) (f := 42) (env := [some (.d (.tup [.str [108, 105, 115, 116, 115], .int 1])), some (.d x)]) (st := []) (as := gCons (gVar 0) (gCons (gVar 1) gNil)) (xs := [.d (.tup [.str [108, 105, 115, 116, 115], .int 1]), .d x]) rfl rfl h1 rfl
    have v1 : gVar 1 [some (.d (.tup [.str [108, 105, 115, 116, 115], .int 1])), some (.d x)] [] = .ok (.d x) [] := rfl
    simp only [sRet, gCall_def (f := 43), ev_cons, v1, c1, bind_ok, bind_exn, settle_exn, toS_exn]; rfl
  show (if 1 = 1 then finish 0 (g_law_told (semT T 11) [some (.d x), none] []) else .bad) = _
  rw [if_pos rfl]
  unfold g_law_told
  have c3 : sExpr (gCall (semT T 11) 44 (gCons (gTup (gCons (gCon (.str [108, 105, 115, 116, 115])) (gCons (gCon (.int 1)) gNil))) (gCons (gVar 0) gNil))) [some (.d x), none] [] = .ex e [some (.d x), none] [] := by
    have := call_ex (F := semT T 11) (f := 44) (env := [some (.d x), none]) (st := []) (as := gCons (gTup (gCons (gCon (.str [108, 105, 115, 116, 115])) (gCons (gCon (.int 1)) gNil))) (gCons (gVar 0) gNil)) (xs := [.d (.tup [.str [108, 105, 115, 116, 115], .int 1]), .d x]) (cons_ok (tup_ok (ds := [.str [108, 105, 115, 116, 115], .int 1]) rfl (by decide) rfl) rfl) rfl h2 rfl
    simp only [sExpr, this, toS_exn]
  obtain ⟨cl, ar⟩ := e
  have c4 : sTry sub (sExpr (gCall (semT T 11) 44 (gCons (gTup (gCons (gCon (.str [108, 105, 115, 116, 115])) (gCons (gCon (.int 1)) gNil))) (gCons (gVar 0) gNil)))) [⟨1, .arg⟩, ⟨11, (.con (.str [102, 97, 114]))⟩] [some (.d x), none] [] = .rt (.d d) [] := by
    simp only [sTry, c3]
    rcases hd with ⟨h3, h4⟩ | ⟨h3, h4⟩
    · simp only at h3 h4; subst h3; subst h4; rfl
    · simp only at h3; subst h3; subst h4; rfl
  rw [seq_rt c4]; rfl
theorem e_check_odd (x : D) (hx : x.isTy .str = false) : semT T 9 5 [.d x] [] = .exn ⟨1, some (.int (-1))⟩ [] := by
  show (if 1 = 1 then finish 0 (g_check_text (semT T 8) [some (.d x), none, none] []) else .bad) = _
  rw [if_pos rfl]
  unfold g_check_text
  have hc : tNot (tVal (gOp (pIsi .str) (gCons (gVar 0) gNil))) [some (.d x), none, none] [] = .ok true [] := t_not (b := false) (tv (op1 (g1 := gVar 0) (x := x) rfl (by rw [← hx]; rfl) rfl) rfl)
  have h2 : sIf (tNot (tVal (gOp (pIsi .str) (gCons (gVar 0) gNil)))) (sRaise1 1 (gOp pNeg (gCons (gCon (.int 1)) gNil))) sNext [some (.d x), none, none] [] = .ex ⟨1, some (.int (-1))⟩ [some (.d x), none, none] [] := if_t hc
  rw [seq_ex h2]; rfl
/-! ### good texts -/
def LL : Nat → List (List Nat)
  | 0 => [[]]
  | n + 1 => (LL n).flatMap fun l => [32 :: l, 10 :: l]
theorem LL_mem : ∀ (l : List Nat), (∀ c ∈ l, c = 32 ∨ c = 10) → l ∈ LL l.length
  | [], _ => by simp [LL]
  | c :: l, h => by
    have ih := LL_mem l fun d hd => h d (List.mem_cons_of_mem _ hd)
    rw [List.length_cons, LL, List.mem_flatMap]
    refine ⟨l, ih, ?_⟩
    rcases h c List.mem_cons_self with rfl | rfl <;> simp
def mk (b : List Nat) (k : Nat) : List Nat := 40 :: 32 :: (b ++ (97 :: 32 :: 41 :: rep k 10))
def isDd : Out A → Bool
  | .ok (.d _) _ => true
  | _ => false
def frm : D := .tup [.str [108, 105, 115, 116, 115], .int 1]
/-- the text is cut, and its raws are told -/
def cutOk (t : List Nat) : Bool := match semT T 9 41 [.d frm, .d (.str t)] [] with
  | .ok (.obj n) st =>
    match st[n]? with
    | some (.ls xs) => isDd (semT T 10 43 [.d (.str t), .d (.tup xs)] [])
    | _ => false
  | _ => false
def chk (n : Nat) : Bool := (LL n).all fun b => (List.range 9).all fun k => cutOk (mk b k)
end K00
end

section
set_option Elab.async false
set_option linter.all false
set_option maxRecDepth 100000
set_option maxHeartbeats 1000000
/-! K00G: good texts are cut. -/
namespace K00
open PD
theorem wh_count {c : SemT} {body : SemS} {st : Store} (E : Nat → Env) (B : Nat) (hc : ∀ i, i < B → c (E i) st = .ok true st) (hB : c (E B) st = .ok false st) (hb : ∀ i, i < B → body (E i) st = .nx (E (i + 1)) st) :
    ∀ (k i : Nat), i ≤ B → B - i < k → whGo c body k (E i) st = .nx (E B) st
  | 0, i, _, h => by omega
  | k + 1, i, hi, hk => by
    by_cases h : i < B
    · have ih := wh_count E B hc hB hb k (i + 1) h (by omega)
      simp [whGo, hc i h, hb i h, ih]
    · have : i = B := by omega
      subst this
      simp [whGo, hB]
theorem aug_nx {i : Nat} {env : Env} {st : Store} {k : Nat} (h : env[i]? = some (some (.d (.int (k : Nat))))) : sAug i pIAdd (gCon (.int 1)) env st = .nx (env.set i (some (.d (.int (k + 1 : Nat))))) st := by
  simp only [sAug, h, gCon_ok, toS_ok, now_d, pIAdd, take_self]
  rfl
theorem eq_nat (a b : Nat) : pEq [.int a, .int b] = some (.v (.bl (decide (a = b)))) := by
  have : ((a : Int) == b) = decide (a = b) := by
    by_cases h : a = b
    · subst h; simp
    · rw [decide_eq_false h]; exact beq_false_of_ne (by omega)
  simp [pEq, okDeep, D.deep, D.eqv, this]
theorem ne_st (t u : List Nat) : pNe [.str t, .str u] = some (.v (.bl (!decide (t = u)))) := ne_str t u
def blk : List Nat := [32, 10]
section
variable (t : List Nat) (ht : t.length ≤ 100)
include ht
theorem e_blank (j a b : Nat) (hab : a ≤ b) (hb : b ≤ t.length) (h1 : ∀ i, a ≤ i → i < b → t.getD i 0 ∈ blk) (h2 : b = t.length ∨ (b < t.length ∧ ¬ t.getD b 0 ∈ blk)) : semT T (j + 1) 32 [.d (.str t), .d (.int a)] [] = .ok (.d (.int b)) [] := by
  have h5 : t.length ≤ 5000 := by omega
  show (if 2 = 2 then finish 0 (g_blank_end (semT T j) [some (.d (.str t)), some (.d (.int (a : Nat)))] []) else .bad) = _
  rw [if_pos rfl]
  unfold g_blank_end
  have hlen : ∀ k : Nat, gOp pLen (gCons (gVar 0) gNil) [some (.d (.str t)), some (.d (.int (k : Nat)))] [] = .ok (.d (.int t.length)) [] := fun k => op1 (g1 := gVar 0) rfl (len_s h5) rfl
  have hc1 : ∀ k : Nat, tVal (gOp pLt2 (gCons (gVar 1) (gCons (gOp pLen (gCons (gVar 0) gNil)) gNil))) [some (.d (.str t)), some (.d (.int (k : Nat)))] [] = .ok (decide (k < t.length)) [] := fun k => tv (op2 (g1 := gVar 1) (x := .int (k : Nat)) rfl (hlen k) (lt_nat2 k t.length) rfl) rfl
  have hc2 : ∀ k : Nat, k < t.length → tVal (gOp pIn (gCons (gOp pIx (gCons (gVar 0) (gCons (gVar 1) gNil))) (gCons (gCon (.str [32, 10])) gNil))) [some (.d (.str t)), some (.d (.int (k : Nat)))] [] = .ok (decide (t.getD k 0 ∈ blk)) [] := fun k hk =>
    tv (op2 (p := pIn) (op2 (p := pIx) (g1 := gVar 0) (g2 := gVar 1) (x := .str t) (y := .int (k : Nat)) rfl rfl (ix_s hk h5) rfl) (y := .str [32, 10]) rfl rfl rfl) rfl
  have hw := wh_count (st := []) (c := tAnd (tVal (gOp pLt2 (gCons (gVar 1) (gCons (gOp pLen (gCons (gVar 0) gNil)) gNil)))) (tVal (gOp pIn (gCons (gOp pIx (gCons (gVar 0) (gCons (gVar 1) gNil))) (gCons (gCon (.str [32, 10])) gNil))))) (body := b_blank_end_1 (semT T j)) (fun i => [some (.d (.str t)), some (.d (.int (a + i : Nat)))]) (b - a)
    (fun i hi => by
      refine t_and_t ?_ ?_ (st1 := [])
      · rw [hc1, decide_eq_true (by omega)]
      · rw [hc2 _ (by omega), decide_eq_true (h1 _ (by omega) (by omega))])
    (by
      show tAnd _ _ [some (.d (.str t)), some (.d (.int (a + (b - a) : Nat)))] [] = _
      rw [show a + (b - a) = b by omega]
      rcases h2 with h2 | ⟨h2, h3⟩
      · exact t_and_f (by rw [hc1, decide_eq_false (by omega)])
      · refine t_and_t (st1 := []) (by rw [hc1, decide_eq_true h2]) (by rw [hc2 _ h2, decide_eq_false h3]))
    (fun i hi => aug_nx (i := 1) rfl) FUEL 0 (Nat.zero_le _) (by unfold FUEL; omega)
  have hw : sWhile (tAnd (tVal (gOp pLt2 (gCons (gVar 1) (gCons (gOp pLen (gCons (gVar 0) gNil)) gNil)))) (tVal (gOp pIn (gCons (gOp pIx (gCons (gVar 0) (gCons (gVar 1) gNil))) (gCons (gCon (.str [32, 10])) gNil))))) (b_blank_end_1 (semT T j)) [some (.d (.str t)), some (.d (.int (a : Nat)))] [] = .nx [some (.d (.str t)), some (.d (.int (b : Nat)))] [] := by
    have e : a + (b - a) = b := by omega
    rw [e] at hw
    exact hw
  rw [seq_nx hw]; rfl
theorem e_first (j a : Nat) (ha : a < t.length) (h : t.getD a 0 ≠ 32) : semT T (j + 1) 20 [.d (.str t), .d (.int a), .d (.int t.length)] [] = .ok (.d (.int a)) [] := by
  have h5 : t.length ≤ 5000 := by omega
  show (if 3 = 3 then finish 0 (g_first_in (semT T j) [some (.d (.str t)), some (.d (.int (a : Nat))), some (.d (.int t.length))] []) else .bad) = _
  rw [if_pos rfl]
  unfold g_first_in
  have hc : tAnd (tVal (gOp pLt2 (gCons (gVar 1) (gCons (gVar 2) gNil)))) (tVal (gOp pEq (gCons (gOp pIx (gCons (gVar 0) (gCons (gVar 1) gNil))) (gCons (gCon (.str [32])) gNil)))) [some (.d (.str t)), some (.d (.int (a : Nat))), some (.d (.int t.length))] [] = .ok false [] := by
    refine t_and_t (st1 := []) (tv (op2 (g1 := gVar 1) (g2 := gVar 2) (x := .int (a : Nat)) (y := .int t.length) (z := .bl true) rfl rfl ?_ rfl) rfl) (tv (op2 (p := pEq) (op2 (p := pIx) (g1 := gVar 0) (g2 := gVar 1) (x := .str t) (y := .int (a : Nat)) rfl rfl (ix_s ha h5) rfl) (y := .str [32]) (z := .bl false) rfl ?_ rfl) rfl)
    · rw [lt_nat2, decide_eq_true ha]
    · rw [eq_str, decide_eq_false]; simpa using h
  have hw : sWhile (tAnd (tVal (gOp pLt2 (gCons (gVar 1) (gCons (gVar 2) gNil)))) (tVal (gOp pEq (gCons (gOp pIx (gCons (gVar 0) (gCons (gVar 1) gNil))) (gCons (gCon (.str [32])) gNil))))) (b_first_in_1 (semT T j)) [some (.d (.str t)), some (.d (.int (a : Nat))), some (.d (.int t.length))] [] = .nx [some (.d (.str t)), some (.d (.int (a : Nat))), some (.d (.int t.length))] [] :=
    wh_count (fun _ => [some (.d (.str t)), some (.d (.int (a : Nat))), some (.d (.int t.length))]) 0 (fun i hi => absurd hi (Nat.not_lt_zero i)) hc (fun i hi => absurd hi (Nat.not_lt_zero i)) FUEL 0 (Nat.le_refl _) (by unfold FUEL; omega)
  rw [seq_nx hw]; rfl
theorem e_raw_end (j a : Nat) (ha : a + 1 < t.length) (h : t.getD a 0 = 97) (h' : t.getD (a + 1) 0 = 32) : semT T (j + 1) 24 [.d (.str t), .d (.int a), .d (.int t.length)] [] = .ok (.d (.int (a + 1 : Nat))) [] := by
  have h5 : t.length ≤ 5000 := by omega
  show (if 3 = 3 then finish 0 (g_raw_end (semT T j) [some (.d (.str t)), some (.d (.int (a : Nat))), some (.d (.int t.length)), none] []) else .bad) = _
  rw [if_pos rfl]
  unfold g_raw_end
  have s1 : sSet 3 (gVar 1) [some (.d (.str t)), some (.d (.int (a : Nat))), some (.d (.int t.length)), none] [] = .nx [some (.d (.str t)), some (.d (.int (a : Nat))), some (.d (.int t.length)), some (.d (.int (a : Nat)))] [] := rfl
  rw [seq_nx s1]
  have hc : ∀ k : Nat, k < t.length → tAnd (tVal (gOp pLt2 (gCons (gVar 3) (gCons (gVar 2) gNil)))) (tVal (gOp pIn (gCons (gOp pIx (gCons (gVar 0) (gCons (gVar 3) gNil))) (gCons (gCon c_RAW_SIGNS) gNil)))) [some (.d (.str t)), some (.d (.int (a : Nat))), some (.d (.int t.length)), some (.d (.int (k : Nat)))] [] = .ok (decide (t.getD k 0 ∈ rsg)) [] := fun k hk =>
    t_and_t (st1 := []) (tv (op2 (g1 := gVar 3) (g2 := gVar 2) (x := .int (k : Nat)) (y := .int t.length) (z := .bl true) rfl rfl (by rw [lt_nat2, decide_eq_true hk]) rfl) rfl) (tv (op2 (p := pIn) (op2 (p := pIx) (g1 := gVar 0) (g2 := gVar 3) (x := .str t) (y := .int (k : Nat)) rfl rfl (ix_s hk h5) rfl) (y := .str rsg) (z := .bl (decide (t.getD k 0 ∈ rsg))) rfl rfl rfl) rfl)
  have hb : b_raw_end_1 (semT T j) [some (.d (.str t)), some (.d (.int (a : Nat))), some (.d (.int t.length)), some (.d (.int (a + 0 : Nat)))] [] = .nx [some (.d (.str t)), some (.d (.int (a : Nat))), some (.d (.int t.length)), some (.d (.int (a + 0 + 1 : Nat)))] [] := by
    unfold b_raw_end_1
    have hq : tVal (gOp pEq (gCons (gOp pSub (gCons (gVar 3) (gCons (gVar 1) gNil))) (gCons (gCon c_MOST_RAW) gNil))) [some (.d (.str t)), some (.d (.int (a : Nat))), some (.d (.int t.length)), some (.d (.int (a + 0 : Nat)))] [] = .ok false [] := by
      refine tv (op2 (p := pEq) (op2 (p := pSub) (g1 := gVar 3) (g2 := gVar 1) (x := .int (a : Nat)) (y := .int (a : Nat)) (z := .int (0 : Nat)) rfl rfl ?_ rfl) (g2 := gCon c_MOST_RAW) (y := .int (16 : Nat)) rfl (by rw [eq_nat]; rfl) rfl) rfl
      show some (Res.v (.int ((a : Int) - a))) = _
      rw [Int.sub_self]; rfl
    rw [seq_nx (if_f (b := sNext) hq)]
    exact aug_nx (i := 3) rfl
  have hw : sWhile (tAnd (tVal (gOp pLt2 (gCons (gVar 3) (gCons (gVar 2) gNil)))) (tVal (gOp pIn (gCons (gOp pIx (gCons (gVar 0) (gCons (gVar 3) gNil))) (gCons (gCon c_RAW_SIGNS) gNil))))) (b_raw_end_1 (semT T j)) [some (.d (.str t)), some (.d (.int (a : Nat))), some (.d (.int t.length)), some (.d (.int (a : Nat)))] [] = .nx [some (.d (.str t)), some (.d (.int (a : Nat))), some (.d (.int t.length)), some (.d (.int (a + 1 : Nat)))] [] :=
    wh_count (fun i => [some (.d (.str t)), some (.d (.int (a : Nat))), some (.d (.int t.length)), some (.d (.int (a + i : Nat)))]) 1
      (fun i hi => by
        have : i = 0 := by omega
        subst this
        rw [hc _ (by omega), Nat.add_zero, h]; rfl)
      (by rw [hc _ ha, h']; rfl)
      (fun i hi => by
        have : i = 0 := by omega
        subst this
        exact hb) FUEL 0 (Nat.zero_le _) (by unfold FUEL; omega)
  rw [seq_nx hw]
  have hq : tVal (gOp pEq (gCons (gVar 3) (gCons (gVar 1) gNil))) [some (.d (.str t)), some (.d (.int (a : Nat))), some (.d (.int t.length)), some (.d (.int (a + 1 : Nat)))] [] = .ok false [] :=
    tv (op2 (p := pEq) (g1 := gVar 3) (g2 := gVar 1) (x := .int (a + 1 : Nat)) (y := .int (a : Nat)) rfl rfl (by rw [eq_nat, decide_eq_false (by omega)]) rfl) rfl
  rw [seq_nx (if_f (b := sNext) hq)]; rfl
theorem e_field_at (j a : Nat) (ha : a + 1 < t.length) (h : t.getD a 0 = 97) (h' : t.getD (a + 1) 0 = 32) : semT T (j + 2) 25 [.d (.str t), .d (.int a), .d (.int t.length), .d (.bl true)] [] = .ok (.d (.tup [.int (a : Nat), .int (a + 1 : Nat)])) [] := by
  have h5 : t.length ≤ 5000 := by omega
  show (if 4 = 4 then finish 0 (g_field_at (semT T (j + 1)) [some (.d (.str t)), some (.d (.int (a : Nat))), some (.d (.int t.length)), some (.d (.bl true))] []) else .bad) = _
  rw [if_pos rfl]
  unfold g_field_at
  have s1 : sSet 1 (gCall (semT T (j + 1)) 20 (gCons (gVar 0) (gCons (gVar 1) (gCons (gVar 2) gNil)))) [some (.d (.str t)), some (.d (.int (a : Nat))), some (.d (.int t.length)), some (.d (.bl true))] [] = .nx [some (.d (.str t)), some (.d (.int (a : Nat))), some (.d (.int t.length)), some (.d (.bl true))] [] :=
    set_nx (call_ok (xs := [.d (.str t), .d (.int (a : Nat)), .d (.int t.length)]) rfl rfl (e_first t ht j a (by omega) (by omega)) rfl)
  rw [seq_nx s1]
  have hc : tAnd (tVal (gVar 3)) (tAnd (tVal (gOp pLt2 (gCons (gVar 1) (gCons (gVar 2) gNil)))) (tVal (gOp pEq (gCons (gOp pIx (gCons (gVar 0) (gCons (gVar 1) gNil))) (gCons (gCon c_LACKS) gNil))))) [some (.d (.str t)), some (.d (.int (a : Nat))), some (.d (.int t.length)), some (.d (.bl true))] [] = .ok false [] :=
    t_and_t (st1 := []) (tv (b := true) rfl rfl) (t_and_t (st1 := []) (tv (op2 (g1 := gVar 1) (g2 := gVar 2) (x := .int (a : Nat)) (y := .int t.length) (z := .bl true) rfl rfl (by rw [lt_nat2, decide_eq_true (by omega)]) rfl) rfl)
      (tv (op2 (p := pEq) (op2 (p := pIx) (g1 := gVar 0) (g2 := gVar 1) (x := .str t) (y := .int (a : Nat)) rfl rfl (ix_s (by omega) h5) rfl) (g2 := gCon c_LACKS) (y := .str [46]) (z := .bl false) rfl (by rw [eq_str, h]; rfl) rfl) rfl))
  rw [seq_nx (if_f (b := sNext) hc)]
  exact congrArg (finish 0) (ret_rt (tup_ok (ds := [.int (a : Nat), .int (a + 1 : Nat)]) (cons_ok rfl (cons_ok (call_ok (xs := [.d (.str t), .d (.int (a : Nat)), .d (.int t.length)]) rfl rfl (e_raw_end t ht j a ha h h') rfl) rfl)) (Nat.le_of_ble_eq_true rfl) rfl))
end
end K00
end

section
set_option Elab.async false
set_option linter.all false
set_option maxRecDepth 100000
set_option maxHeartbeats 1000000
/-! K00H: good texts are cut, whole. -/
namespace K00
open PD
theorem wh_one {c : SemT} {body : SemS} {E0 E1 : Env} {s0 s1 : Store} (h0 : c E0 s0 = .ok true s0) (hb : body E0 s0 = .nx E1 s1) (h1 : c E1 s1 = .ok false s1) : sWhile c body E0 s0 = .nx E1 s1 := by
  have key : ∀ n, whGo c body (n + 1 + 1) E0 s0 = .nx E1 s1 := fun n => by simp only [whGo, h0, toS_ok, if_true, hb, h1, Bool.false_eq_true, if_false]
  exact key 99998
/-- a text "( .. a ) .." -/
structure Gd (t : List Nat) (p : Nat) : Prop where
  len : t.length ≤ 100
  two : 1 ≤ p
  fit : p + 3 ≤ t.length
  t0 : t.getD 0 0 = 40
  b1 : ∀ i, 1 ≤ i → i < p → t.getD i 0 ∈ blk
  ta : t.getD p 0 = 97
  tb : t.getD (p + 1) 0 = 32
  tc : t.getD (p + 2) 0 = 41
  b2 : ∀ i, p + 3 ≤ i → i < t.length → t.getD i 0 ∈ blk
section
variable {t : List Nat} {p : Nat} (g : Gd t p)
include g
theorem e_list_at (j : Nat) : semT T (j + 3) 34 [.d (.str t), .d (.int (0 : Nat)), .d (.int (1 : Nat))] [] = .ok (.d (.tup [.lst [.tup [.int (p : Nat), .int (p + 1 : Nat)]], .int (p + 3 : Nat)])) [] := by
  have ht := g.len
  have hf := g.fit
  have h5 : t.length ≤ 5000 := by omega
  have s1 : ∀ r : Env, sSet 3 (gLst gNil) (some (.d (.str t)) :: some (.d (.int (0 : Nat))) :: some (.d (.int (1 : Nat))) :: none :: r) [] = .nx (some (.d (.str t)) :: some (.d (.int (0 : Nat))) :: some (.d (.int (1 : Nat))) :: some (.obj 0) :: r) [.ls []] := fun r => rfl
  show (if 3 = 3 then finish 0 (g_list_at (semT T (j + 2)) [some (.d (.str t)), some (.d (.int (0 : Nat))), some (.d (.int (1 : Nat))), none, none, none, none, none, none] []) else .bad) = _
  rw [if_pos rfl]
  unfold g_list_at
  rw [seq_nx (s1 _)]
  have s2 : sSet 4 (gOp pAdd (gCons (gVar 1) (gCons (gCon (.int 1)) gNil))) [some (.d (.str t)), some (.d (.int (0 : Nat))), some (.d (.int (1 : Nat))), some (.obj 0), none, none, none, none, none] [.ls []] = .nx [some (.d (.str t)), some (.d (.int (0 : Nat))), some (.d (.int (1 : Nat))), some (.obj 0), some (.d (.int (1 : Nat))), none, none, none, none] [.ls []] := rfl
  rw [seq_nx s2]
  -- one turn
  have u1 : sSet 6 (gCall (semT T (j + 2)) 32 (gCons (gVar 0) (gCons (gVar 4) gNil))) [some (.d (.str t)), some (.d (.int (0 : Nat))), some (.d (.int (1 : Nat))), some (.obj 0), some (.d (.int (1 : Nat))), some (.d (.int 0)), none, none, none] [.ls []]
      = .nx [some (.d (.str t)), some (.d (.int (0 : Nat))), some (.d (.int (1 : Nat))), some (.obj 0), some (.d (.int (1 : Nat))), some (.d (.int 0)), some (.d (.int (p : Nat))), none, none] [.ls []] :=
    set_nx (call_ok (xs := [.d (.str t), .d (.int (1 : Nat))]) rfl rfl (e_blank t ht (j + 1) 1 p g.two (by omega) (fun i h1 h2 => g.b1 i h1 h2) (.inr ⟨by omega, by rw [g.ta]; decide⟩)) rfl)
  have u2 : sIf (tAnd (tVal (gOp pGt (gCons (gVar 5) (gCons (gCon (.int 0)) gNil)))) (tVal (gOp pEq (gCons (gVar 6) (gCons (gVar 4) gNil))))) (sRaise1 1 (gVar 6)) sNext [some (.d (.str t)), some (.d (.int (0 : Nat))), some (.d (.int (1 : Nat))), some (.obj 0), some (.d (.int (1 : Nat))), some (.d (.int 0)), some (.d (.int (p : Nat))), none, none] [.ls []]
      = .nx [some (.d (.str t)), some (.d (.int (0 : Nat))), some (.d (.int (1 : Nat))), some (.obj 0), some (.d (.int (1 : Nat))), some (.d (.int 0)), some (.d (.int (p : Nat))), none, none] [.ls []] :=
    if_f (t_and_f (tv (op2 (p := pGt) (g1 := gVar 5) (x := .int 0) rfl (y := .int 0) rfl (z := .bl false) rfl rfl) rfl))
  have u3 : sSet 7 (gCall (semT T (j + 2)) 25 (gCons (gVar 0) (gCons (gVar 6) (gCons (gOp pLen (gCons (gVar 0) gNil)) (gCons (gCon (.bl true)) gNil))))) [some (.d (.str t)), some (.d (.int (0 : Nat))), some (.d (.int (1 : Nat))), some (.obj 0), some (.d (.int (1 : Nat))), some (.d (.int 0)), some (.d (.int (p : Nat))), none, none] [.ls []]
      = .nx [some (.d (.str t)), some (.d (.int (0 : Nat))), some (.d (.int (1 : Nat))), some (.obj 0), some (.d (.int (1 : Nat))), some (.d (.int 0)), some (.d (.int (p : Nat))), some (.d (.tup [.int (p : Nat), .int (p + 1 : Nat)])), none] [.ls []] :=
    set_nx (call_ok (xs := [.d (.str t), .d (.int (p : Nat)), .d (.int t.length), .d (.bl true)]) (cons_ok rfl (cons_ok rfl (cons_ok (op1 (g1 := gVar 0) rfl (len_s h5) rfl) rfl))) rfl (e_field_at t ht j p (by omega) g.ta g.tb) rfl)
  have u4 : sAppend (gVar 3) (gVar 7) [some (.d (.str t)), some (.d (.int (0 : Nat))), some (.d (.int (1 : Nat))), some (.obj 0), some (.d (.int (1 : Nat))), some (.d (.int 0)), some (.d (.int (p : Nat))), some (.d (.tup [.int (p : Nat), .int (p + 1 : Nat)])), none] [.ls []]
      = .nx [some (.d (.str t)), some (.d (.int (0 : Nat))), some (.d (.int (1 : Nat))), some (.obj 0), some (.d (.int (1 : Nat))), some (.d (.int 0)), some (.d (.int (p : Nat))), some (.d (.tup [.int (p : Nat), .int (p + 1 : Nat)])), none] [.ls [.tup [.int (p : Nat), .int (p + 1 : Nat)]]] := rfl
  have u5 : sSet 4 (gOp pIx (gCons (gVar 7) (gCons (gCon (.int 1)) gNil))) [some (.d (.str t)), some (.d (.int (0 : Nat))), some (.d (.int (1 : Nat))), some (.obj 0), some (.d (.int (1 : Nat))), some (.d (.int 0)), some (.d (.int (p : Nat))), some (.d (.tup [.int (p : Nat), .int (p + 1 : Nat)])), none] [.ls [.tup [.int (p : Nat), .int (p + 1 : Nat)]]]
      = .nx [some (.d (.str t)), some (.d (.int (0 : Nat))), some (.d (.int (1 : Nat))), some (.obj 0), some (.d (.int (p + 1 : Nat))), some (.d (.int 0)), some (.d (.int (p : Nat))), some (.d (.tup [.int (p : Nat), .int (p + 1 : Nat)])), none] [.ls [.tup [.int (p : Nat), .int (p + 1 : Nat)]]] := rfl
  have ub : b_list_at_1 (semT T (j + 2)) [some (.d (.str t)), some (.d (.int (0 : Nat))), some (.d (.int (1 : Nat))), some (.obj 0), some (.d (.int (1 : Nat))), some (.d (.int 0)), none, none, none] [.ls []]
      = .nx [some (.d (.str t)), some (.d (.int (0 : Nat))), some (.d (.int (1 : Nat))), some (.obj 0), some (.d (.int (p + 1 : Nat))), some (.d (.int 0)), some (.d (.int (p : Nat))), some (.d (.tup [.int (p : Nat), .int (p + 1 : Nat)])), none] [.ls [.tup [.int (p : Nat), .int (p + 1 : Nat)]]] := by
    unfold b_list_at_1
    rw [seq_nx u1, seq_nx u2, seq_nx u3, seq_nx u4]
    exact u5
  have s3 : sFor (iRange1 (gVar 2)) (.name 5) (b_list_at_1 (semT T (j + 2))) [some (.d (.str t)), some (.d (.int (0 : Nat))), some (.d (.int (1 : Nat))), some (.obj 0), some (.d (.int (1 : Nat))), none, none, none, none] [.ls []]
      = .nx [some (.d (.str t)), some (.d (.int (0 : Nat))), some (.d (.int (1 : Nat))), some (.obj 0), some (.d (.int (p + 1 : Nat))), some (.d (.int 0)), some (.d (.int (p : Nat))), some (.d (.tup [.int (p : Nat), .int (p + 1 : Nat)])), none] [.ls [.tup [.int (p : Nat), .int (p + 1 : Nat)]]] := by
    rw [for_ok (range_st (i := ((1 : Nat) : Int)) ⟨by decide, by decide⟩ rfl)]
    have e : rangeL 0 ((1 : Nat) : Int) = [.int 0] := rfl
    rw [e, forGo, ok_none, if_pos rfl]
    have e0 : Tg.put (.name 5) (.int 0) [some (.d (.str t)), some (.d (.int (0 : Nat))), some (.d (.int (1 : Nat))), some (.obj 0), some (.d (.int (1 : Nat))), none, none, none, none] = some [some (.d (.str t)), some (.d (.int (0 : Nat))), some (.d (.int (1 : Nat))), some (.obj 0), some (.d (.int (1 : Nat))), some (.d (.int 0)), none, none, none] := rfl
    simp only [e0, ub]
    rw [forGo, ok_none, if_pos rfl]
  rw [seq_nx s3]
  have s4 : sSet 8 (gCall (semT T (j + 2)) 32 (gCons (gVar 0) (gCons (gVar 4) gNil))) [some (.d (.str t)), some (.d (.int (0 : Nat))), some (.d (.int (1 : Nat))), some (.obj 0), some (.d (.int (p + 1 : Nat))), some (.d (.int 0)), some (.d (.int (p : Nat))), some (.d (.tup [.int (p : Nat), .int (p + 1 : Nat)])), none] [.ls [.tup [.int (p : Nat), .int (p + 1 : Nat)]]]
      = .nx [some (.d (.str t)), some (.d (.int (0 : Nat))), some (.d (.int (1 : Nat))), some (.obj 0), some (.d (.int (p + 1 : Nat))), some (.d (.int 0)), some (.d (.int (p : Nat))), some (.d (.tup [.int (p : Nat), .int (p + 1 : Nat)])), some (.d (.int (p + 2 : Nat)))] [.ls [.tup [.int (p : Nat), .int (p + 1 : Nat)]]] :=
    set_nx (call_ok (xs := [.d (.str t), .d (.int (p + 1 : Nat))]) rfl rfl (e_blank t ht (j + 1) (p + 1) (p + 2) (by omega) (by omega) (fun i h1 h2 => by
      have : i = p + 1 := by omega
      rw [this, g.tb]; decide) (.inr ⟨by omega, by rw [g.tc]; decide⟩)) rfl)
  rw [seq_nx s4]
  have hc : tOr (tVal (gOp pEq (gCons (gVar 8) (gCons (gOp pLen (gCons (gVar 0) gNil)) gNil)))) (tVal (gOp pNe (gCons (gOp pIx (gCons (gVar 0) (gCons (gVar 8) gNil))) (gCons (gCon (.str [41])) gNil)))) [some (.d (.str t)), some (.d (.int (0 : Nat))), some (.d (.int (1 : Nat))), some (.obj 0), some (.d (.int (p + 1 : Nat))), some (.d (.int 0)), some (.d (.int (p : Nat))), some (.d (.tup [.int (p : Nat), .int (p + 1 : Nat)])), some (.d (.int (p + 2 : Nat)))] [.ls [.tup [.int (p : Nat), .int (p + 1 : Nat)]]] = .ok false [.ls [.tup [.int (p : Nat), .int (p + 1 : Nat)]]] :=
    t_or_f (tv (op2 (p := pEq) (g1 := gVar 8) (x := .int (p + 2 : Nat)) rfl (op1 (g1 := gVar 0) rfl (len_s h5) rfl) (by rw [eq_nat, decide_eq_false (by omega)]) rfl) rfl)
      (tv (op2 (p := pNe) (op2 (p := pIx) (g1 := gVar 0) (g2 := gVar 8) (x := .str t) (y := .int (p + 2 : Nat)) rfl rfl (ix_s (by omega) h5) rfl) (g2 := gCon (.str [41])) (y := .str [41]) rfl (by rw [ne_str, g.tc]; rfl) rfl) rfl)
  rw [seq_nx (if_f (b := sNext) hc)]
  rfl
theorem e_cut_lists (j : Nat) : semT T (j + 4) 35 [.d frm, .d (.str t)] [] = .ok (.obj 0) [.ls [.tup [.tup [.tup [.int (p : Nat), .int (p + 1 : Nat)]], .int (0 : Nat), .int (p + 3 : Nat)]]] := by
  have ht := g.len
  have hf := g.fit
  have h5 : t.length ≤ 5000 := by omega
  show (if 2 = 2 then finish 0 (g_cut_lists (semT T (j + 3)) [some (.d frm), some (.d (.str t)), none, none, none, none] []) else .bad) = _
  rw [if_pos rfl]
  unfold g_cut_lists
  have s1 : sSet 2 (gLst gNil) [some (.d frm), some (.d (.str t)), none, none, none, none] [] = .nx [some (.d frm), some (.d (.str t)), some (.obj 0), none, none, none] [.ls []] := rfl
  rw [seq_nx s1]
  have s2 : sSet 3 (gCall (semT T (j + 3)) 32 (gCons (gVar 1) (gCons (gCon (.int 0)) gNil))) [some (.d frm), some (.d (.str t)), some (.obj 0), none, none, none] [.ls []] = .nx [some (.d frm), some (.d (.str t)), some (.obj 0), some (.d (.int (0 : Nat))), none, none] [.ls []] :=
    set_nx (call_ok (xs := [.d (.str t), .d (.int (0 : Nat))]) rfl rfl (e_blank t ht (j + 2) 0 0 (Nat.le_refl _) (by omega) (fun i h1 h2 => absurd h2 (Nat.not_lt_zero i)) (.inr ⟨by omega, by rw [g.t0]; decide⟩)) rfl)
  rw [seq_nx s2]
  have hw1 : ∀ (k : Nat) (x4 x5 : Option A) (s : Store), tVal (gOp pLt2 (gCons (gVar 3) (gCons (gOp pLen (gCons (gVar 1) gNil)) gNil))) [some (.d frm), some (.d (.str t)), some (.obj 0), some (.d (.int (k : Nat))), x4, x5] s = .ok (decide (k < t.length)) s := fun k x4 x5 s =>
    tv (op2 (g1 := gVar 3) (x := .int (k : Nat)) rfl (op1 (g1 := gVar 1) rfl (len_s h5) rfl) (lt_nat2 k t.length) rfl) rfl
  have v1 : ∀ (c : Nat) (s : Store) (x4 x5 : Option A), tVal (gOp pEq (gCons (gOp pIx (gCons (gVar 1) (gCons (gVar 3) gNil))) (gCons (gCon (.str [c])) gNil))) [some (.d frm), some (.d (.str t)), some (.obj 0), some (.d (.int (0 : Nat))), x4, x5] s = .ok (decide ([t.getD 0 0] = [c])) s := fun c s x4 x5 =>
    tv (op2 (p := pEq) (op2 (p := pIx) (g1 := gVar 1) (g2 := gVar 3) (x := .str t) (y := .int (0 : Nat)) rfl rfl (ix_s (by omega) h5) rfl) (y := .str [c]) rfl (eq_str _ _) rfl) rfl
  have u1 : sUnpack [4, 5] (gCall (semT T (j + 3)) 34 (gCons (gVar 1) (gCons (gVar 3) (gCons (gOp pIx (gCons (gVar 0) (gCons (gCon (.int 1)) gNil))) gNil)))) [some (.d frm), some (.d (.str t)), some (.obj 0), some (.d (.int (0 : Nat))), none, none] [.ls []]
      = .nx [some (.d frm), some (.d (.str t)), some (.obj 0), some (.d (.int (0 : Nat))), some (.d (.lst [.tup [.int (p : Nat), .int (p + 1 : Nat)]])), some (.d (.int (p + 3 : Nat)))] [.ls []] := by
    have := call_ok (F := semT T (j + 3)) (f := 34) (env := [some (.d frm), some (.d (.str t)), some (.obj 0), some (.d (.int (0 : Nat))), none, none]) (st := [.ls []]) (as := gCons (gVar 1) (gCons (gVar 3) (gCons (gOp pIx (gCons (gVar 0) (gCons (gCon (.int 1)) gNil))) gNil))) (xs := [.d (.str t), .d (.int (0 : Nat)), .d (.int (1 : Nat))]) (cons_ok rfl (cons_ok rfl (cons_ok (op2 (p := pIx) (g1 := gVar 0) (g2 := gCon (.int 1)) (x := frm) (y := .int 1) (z := .int (1 : Nat)) rfl rfl rfl rfl) rfl))) rfl (e_list_at g j) rfl
    simp only [sUnpack, this, toS_ok]; rfl
  have hput : semT T (j + 3) 28 [.obj 0, .d (.lst [.tup [.int (p : Nat), .int (p + 1 : Nat)]]), .d (.int (0 : Nat)), .d (.int (p + 3 : Nat))] [.ls []] = .ok (.d .non) [.ls [.tup [.tup [.tup [.int (p : Nat), .int (p + 1 : Nat)]], .int (0 : Nat), .int (p + 3 : Nat)]]] := rfl
  have u2 : sExpr (gCall (semT T (j + 3)) 28 (gCons (gVar 2) (gCons (gVar 4) (gCons (gVar 3) (gCons (gVar 5) gNil))))) [some (.d frm), some (.d (.str t)), some (.obj 0), some (.d (.int (0 : Nat))), some (.d (.lst [.tup [.int (p : Nat), .int (p + 1 : Nat)]])), some (.d (.int (p + 3 : Nat)))] [.ls []]
      = .nx [some (.d frm), some (.d (.str t)), some (.obj 0), some (.d (.int (0 : Nat))), some (.d (.lst [.tup [.int (p : Nat), .int (p + 1 : Nat)]])), some (.d (.int (p + 3 : Nat)))] [.ls [.tup [.tup [.tup [.int (p : Nat), .int (p + 1 : Nat)]], .int (0 : Nat), .int (p + 3 : Nat)]]] := by
    have := call_ok' (F := semT T (j + 3)) (f := 28) (env := [some (.d frm), some (.d (.str t)), some (.obj 0), some (.d (.int (0 : Nat))), some (.d (.lst [.tup [.int (p : Nat), .int (p + 1 : Nat)]])), some (.d (.int (p + 3 : Nat)))]) (st := [.ls []]) (as := gCons (gVar 2) (gCons (gVar 4) (gCons (gVar 3) (gCons (gVar 5) gNil)))) (xs := [.obj 0, .d (.lst [.tup [.int (p : Nat), .int (p + 1 : Nat)]]), .d (.int (0 : Nat)), .d (.int (p + 3 : Nat))]) rfl rfl hput rfl
    simp only [sExpr, this, toS_ok]; rfl
  have u3 : sSet 3 (gVar 5) [some (.d frm), some (.d (.str t)), some (.obj 0), some (.d (.int (0 : Nat))), some (.d (.lst [.tup [.int (p : Nat), .int (p + 1 : Nat)]])), some (.d (.int (p + 3 : Nat)))] [.ls [.tup [.tup [.tup [.int (p : Nat), .int (p + 1 : Nat)]], .int (0 : Nat), .int (p + 3 : Nat)]]]
      = .nx [some (.d frm), some (.d (.str t)), some (.obj 0), some (.d (.int (p + 3 : Nat))), some (.d (.lst [.tup [.int (p : Nat), .int (p + 1 : Nat)]])), some (.d (.int (p + 3 : Nat)))] [.ls [.tup [.tup [.tup [.int (p : Nat), .int (p + 1 : Nat)]], .int (0 : Nat), .int (p + 3 : Nat)]]] := rfl
  have u4 : sSet 3 (gCall (semT T (j + 3)) 32 (gCons (gVar 1) (gCons (gVar 3) gNil))) [some (.d frm), some (.d (.str t)), some (.obj 0), some (.d (.int (p + 3 : Nat))), some (.d (.lst [.tup [.int (p : Nat), .int (p + 1 : Nat)]])), some (.d (.int (p + 3 : Nat)))] [.ls [.tup [.tup [.tup [.int (p : Nat), .int (p + 1 : Nat)]], .int (0 : Nat), .int (p + 3 : Nat)]]]
      = .nx [some (.d frm), some (.d (.str t)), some (.obj 0), some (.d (.int (t.length : Nat))), some (.d (.lst [.tup [.int (p : Nat), .int (p + 1 : Nat)]])), some (.d (.int (p + 3 : Nat)))] [.ls [.tup [.tup [.tup [.int (p : Nat), .int (p + 1 : Nat)]], .int (0 : Nat), .int (p + 3 : Nat)]]] :=
    set_nx (call_ok (xs := [.d (.str t), .d (.int (p + 3 : Nat))]) rfl rfl (e_blank t ht (j + 2) (p + 3) t.length g.fit (Nat.le_refl _) (fun i h1 h2 => g.b2 i h1 h2) (.inl rfl)) rfl)
  have ub : b_cut_lists_1 (semT T (j + 3)) [some (.d frm), some (.d (.str t)), some (.obj 0), some (.d (.int (0 : Nat))), none, none] [.ls []]
      = .nx [some (.d frm), some (.d (.str t)), some (.obj 0), some (.d (.int (t.length : Nat))), some (.d (.lst [.tup [.int (p : Nat), .int (p + 1 : Nat)]])), some (.d (.int (p + 3 : Nat)))] [.ls [.tup [.tup [.tup [.int (p : Nat), .int (p + 1 : Nat)]], .int (0 : Nat), .int (p + 3 : Nat)]]] := by
    unfold b_cut_lists_1
    have e1 := v1 35 [.ls []] none none
    rw [g.t0] at e1
    have e2 := v1 40 [.ls []] none none
    rw [g.t0] at e2
    have ui := (if_t (a := (sSeq (sUnpack [4, 5] (gCall (semT T (j + 3)) 34 (gCons (gVar 1) (gCons (gVar 3) (gCons (gOp pIx (gCons (gVar 0) (gCons (gCon (.int 1)) gNil))) gNil)))))
      (sSeq (sExpr (gCall (semT T (j + 3)) 28 (gCons (gVar 2) (gCons (gVar 4) (gCons (gVar 3) (gCons (gVar 5) gNil))))))
      (sSet 3 (gVar 5))))) (b := (sRaise1 1 (gVar 3))) (show _ = Out.ok true _ from e2)).trans ((seq_nx u1).trans ((seq_nx u2).trans u3))
    rw [seq_nx ((if_f (t_and_f (show _ = Out.ok false _ from e1))).trans ui)]
    exact u4
  have hw : sWhile (tVal (gOp pLt2 (gCons (gVar 3) (gCons (gOp pLen (gCons (gVar 1) gNil)) gNil)))) (b_cut_lists_1 (semT T (j + 3))) [some (.d frm), some (.d (.str t)), some (.obj 0), some (.d (.int (0 : Nat))), none, none] [.ls []]
      = .nx [some (.d frm), some (.d (.str t)), some (.obj 0), some (.d (.int (t.length : Nat))), some (.d (.lst [.tup [.int (p : Nat), .int (p + 1 : Nat)]])), some (.d (.int (p + 3 : Nat)))] [.ls [.tup [.tup [.tup [.int (p : Nat), .int (p + 1 : Nat)]], .int (0 : Nat), .int (p + 3 : Nat)]]] := by
    have a1 := hw1 0 none none [.ls []]
    rw [decide_eq_true (by omega)] at a1
    have a2 := hw1 t.length (some (.d (.lst [.tup [.int (p : Nat), .int (p + 1 : Nat)]]))) (some (.d (.int (p + 3 : Nat)))) [.ls [.tup [.tup [.tup [.int (p : Nat), .int (p + 1 : Nat)]], .int (0 : Nat), .int (p + 3 : Nat)]]]
    rw [decide_eq_false (by omega)] at a2
    exact wh_one a1 ub a2
  rw [seq_nx hw]; rfl
theorem e_raw_at (j : Nat) : semT T (j + 1) 27 [.d (.str t), .d (.tup [.int (p : Nat), .int (p + 1 : Nat)])] [] = .ok (.d (.str [97])) [] := by
  have ht := g.len
  have hf := g.fit
  show (if 2 = 2 then finish 0 (g_raw_at (semT T j) [some (.d (.str t)), some (.d (.tup [.int (p : Nat), .int (p + 1 : Nat)]))] []) else .bad) = _
  rw [if_pos rfl]
  unfold g_raw_at
  have hcut : pSl [.str t, .int (p : Nat), .int (p + 1 : Nat)] = some (.v (.str [97])) := by
    have h1 : t.length ≤ LID := by unfold LID; omega
    have c : cutL t (some (p : Int)) (some ((p + 1 : Nat) : Int)) = [97] := by
      rw [cut_both]
      have e1 : p + 1 - p = 1 := by omega
      have hp : p < t.length := by omega
      rw [e1, List.drop_eq_getElem_cons hp]
      have hta := g.ta
      rw [List.getD_eq_getElem?_getD, List.getElem?_eq_getElem hp] at hta
      simp only [Option.getD_some] at hta
      rw [hta]; rfl
    simp only [pSl, part]
    rw [if_pos h1]
    exact congrArg (fun l => some (Res.v (.str l))) c
  have hs : gOp pSl (gCons (gVar 0) (gCons (gInt (gOp pIx (gCons (gVar 1) (gCons (gCon (.int 0)) gNil)))) (gCons (gInt (gOp pIx (gCons (gVar 1) (gCons (gCon (.int 1)) gNil)))) gNil))) [some (.d (.str t)), some (.d (.tup [.int (p : Nat), .int (p + 1 : Nat)]))] [] = .ok (.d (.str [97])) [] :=
    op3 (p := pSl) (g1 := gVar 0) (x := .str t) (y := .int (p : Nat)) (w := .int (p + 1 : Nat)) rfl rfl rfl hcut rfl
  have hc := t_or (b := tVal (gOp pEq (gCons (gOp pSl (gCons (gVar 0) (gCons (gInt (gOp pIx (gCons (gVar 1) (gCons (gCon (.int 0)) gNil)))) (gCons (gInt (gOp pIx (gCons (gVar 1) (gCons (gCon (.int 1)) gNil)))) gNil)))) (gCons (gCon c_LACKS) gNil))))
    (tv (op2 (p := pIs) (env := [some (.d (.str t)), some (.d (.tup [.int (p : Nat), .int (p + 1 : Nat)]))]) (st := []) (g1 := gVar 1) (g2 := gCon .non) (x := .tup [.int (p : Nat), .int (p + 1 : Nat)]) (y := .non) (z := .bl false) rfl rfl rfl rfl) rfl)
    (tv (op2 (p := pEq) hs (g2 := gCon c_LACKS) (y := .str [46]) (z := .bl false) rfl (by rw [eq_str]; rfl) rfl) rfl)
  rw [seq_nx (if_f (b := sNext) hc), ret_rt hs]; rfl
theorem e_raws_of (j : Nat) : semT T (j + 2) 43 [.d (.str t), .d (.tup [.tup [.tup [.tup [.int (p : Nat), .int (p + 1 : Nat)]], .int (0 : Nat), .int (p + 3 : Nat)]])] [] = .ok (.d (.tup [.tup [.str [97]]])) [] := by
  show (if 2 = 2 then finish 0 (g_raws_of (semT T (j + 1)) [some (.d (.str t)), some (.d (.tup [.tup [.tup [.tup [.int (p : Nat), .int (p + 1 : Nat)]], .int (0 : Nat), .int (p + 3 : Nat)]])), none, none, none] []) else .bad) = _
  rw [if_pos rfl]
  unfold g_raws_of
  have hin : ∀ x3 : Option A, gOp pTuple (gCons (gLc (iVal (gVar 2)) (.name 4) tTrue (gCall (semT T (j + 1)) 27 (gCons (gVar 0) (gCons (gVar 4) gNil))) [4]) gNil) [some (.d (.str t)), some (.d (.tup [.tup [.tup [.tup [.int (p : Nat), .int (p + 1 : Nat)]], .int (0 : Nat), .int (p + 3 : Nat)]])), some (.d (.tup [.tup [.int (p : Nat), .int (p + 1 : Nat)]])), x3, none] [] = .ok (.d (.tup [.str [97]])) [] := fun x3 => by
    have hc := call_ok (F := semT T (j + 1)) (f := 27) (env := [some (.d (.str t)), some (.d (.tup [.tup [.tup [.tup [.int (p : Nat), .int (p + 1 : Nat)]], .int (0 : Nat), .int (p + 3 : Nat)]])), some (.d (.tup [.tup [.int (p : Nat), .int (p + 1 : Nat)]])), x3, some (.d (.tup [.int (p : Nat), .int (p + 1 : Nat)]))]) (st := []) (as := gCons (gVar 0) (gCons (gVar 4) gNil)) (xs := [.d (.str t), .d (.tup [.int (p : Nat), .int (p + 1 : Nat)])]) rfl rfl (e_raw_at g j) rfl
    refine op1_new (xs := [.str [97]]) ?_ rfl
    have e := gLc_map (it := iVal (gVar 2)) (tg := .name 4) (cnd := tTrue) (elt := gCall (semT T (j + 1)) 27 (gCons (gVar 0) (gCons (gVar 4) gNil))) (own := [4]) (env := [some (.d (.str t)), some (.d (.tup [.tup [.tup [.tup [.int (p : Nat), .int (p + 1 : Nat)]], .int (0 : Nat), .int (p + 3 : Nat)]])), some (.d (.tup [.tup [.int (p : Nat), .int (p + 1 : Nat)]])), x3, none]) (st := []) (src := ⟨[.tup [.int (p : Nat), .int (p + 1 : Nat)]], []⟩) (fun _ => .str [97]) rfl rfl (Nat.lt_of_lt_of_le (Nat.lt_succ_self 1) (by decide)) (fun d hd => by
      rw [List.mem_singleton.mp hd]
      have hput : Tg.put (.name 4) (.tup [.int (p : Nat), .int (p + 1 : Nat)]) (wipeE [some (.d (.str t)), some (.d (.tup [.tup [.tup [.tup [.int (p : Nat), .int (p + 1 : Nat)]], .int (0 : Nat), .int (p + 3 : Nat)]])), some (.d (.tup [.tup [.int (p : Nat), .int (p + 1 : Nat)]])), x3, none] [4]) = some [some (.d (.str t)), some (.d (.tup [.tup [.tup [.tup [.int (p : Nat), .int (p + 1 : Nat)]], .int (0 : Nat), .int (p + 3 : Nat)]])), some (.d (.tup [.tup [.int (p : Nat), .int (p + 1 : Nat)]])), x3, some (.d (.tup [.int (p : Nat), .int (p + 1 : Nat)]))] := rfl
      simp only [lcStep, hput, tTrue, bind_ok, if_true, hc, freeze_d])
    exact e
  have hout : gLc (iVal (gVar 1)) (.tup [(.name 2), (.name 3), (.name 3)]) tTrue (gOp pTuple (gCons (gLc (iVal (gVar 2)) (.name 4) tTrue (gCall (semT T (j + 1)) 27 (gCons (gVar 0) (gCons (gVar 4) gNil))) [4]) gNil)) [2, 3] [some (.d (.str t)), some (.d (.tup [.tup [.tup [.tup [.int (p : Nat), .int (p + 1 : Nat)]], .int (0 : Nat), .int (p + 3 : Nat)]])), none, none, none] [] = .ok (.obj 0) [.ls [.tup [.str [97]]]] := by
    have e := gLc_map (it := iVal (gVar 1)) (tg := .tup [(.name 2), (.name 3), (.name 3)]) (cnd := tTrue) (elt := gOp pTuple (gCons (gLc (iVal (gVar 2)) (.name 4) tTrue (gCall (semT T (j + 1)) 27 (gCons (gVar 0) (gCons (gVar 4) gNil))) [4]) gNil)) (own := [2, 3]) (env := [some (.d (.str t)), some (.d (.tup [.tup [.tup [.tup [.int (p : Nat), .int (p + 1 : Nat)]], .int (0 : Nat), .int (p + 3 : Nat)]])), none, none, none]) (st := []) (src := ⟨[.tup [.tup [.tup [.int (p : Nat), .int (p + 1 : Nat)]], .int (0 : Nat), .int (p + 3 : Nat)]], []⟩) (fun _ => .tup [.str [97]]) rfl rfl (Nat.lt_of_lt_of_le (Nat.lt_succ_self 1) (by decide)) (fun d hd => by
      rw [List.mem_singleton.mp hd]
      have hput : Tg.put (.tup [(.name 2), (.name 3), (.name 3)]) (.tup [.tup [.tup [.int (p : Nat), .int (p + 1 : Nat)]], .int (0 : Nat), .int (p + 3 : Nat)]) (wipeE [some (.d (.str t)), some (.d (.tup [.tup [.tup [.tup [.int (p : Nat), .int (p + 1 : Nat)]], .int (0 : Nat), .int (p + 3 : Nat)]])), none, none, none] [2, 3]) = some [some (.d (.str t)), some (.d (.tup [.tup [.tup [.tup [.int (p : Nat), .int (p + 1 : Nat)]], .int (0 : Nat), .int (p + 3 : Nat)]])), some (.d (.tup [.tup [.int (p : Nat), .int (p + 1 : Nat)]])), some (.d (.int (p + 3 : Nat))), none] := rfl
      simp only [lcStep, hput, tTrue, bind_ok, if_true, hin, freeze_d])
    exact e
  exact congrArg (finish 0) (ret_rt (op1_new (xs := [.tup [.str [97]]]) hout rfl))
end
end K00
end

section
set_option Elab.async false
set_option linter.all false
set_option maxRecDepth 100000
set_option maxHeartbeats 1000000
/-! K00I: what is told of the near texts. -/
namespace K00
open PD
theorem e_told_good {t : List Nat} {p : Nat} (g : Gd t p) (hb : firstBad t = none) : semT T 12 55 [.d (.str t)] [] = .ok (.d .non) [] := by
  have ht := g.len
  have hck : semT T 9 5 [.d (.str t)] [] = .ok (.d .non) [] := by
    have := e_check 8 t (by omega)
    have e : exOf t = none := by simp [exOf, hb]; omega
    rw [e] at this
    exact this
  have hrow : List D := []
  have hall : semT T 9 41 [.d frm, .d (.str t)] [] = .ok (.obj 0) [.ls [.tup [.tup [.tup [.int (p : Nat), .int (p + 1 : Nat)]], .int (0 : Nat), .int (p + 3 : Nat)]]] := by
    show (if 2 = 2 then finish 0 (g_cut_all (semT T 8) [some (.d frm), some (.d (.str t))] []) else .bad) = _
    rw [if_pos rfl]
    have hk : gOp pIx (gCons (gVar 0) (gCons (gCon (.int 0)) gNil)) [some (.d frm), some (.d (.str t))] [] = .ok (.d (.str [108, 105, 115, 116, 115])) [] := rfl
    have hl : tab_CUTTERS.lookup [108, 105, 115, 116, 115] = some 35 := rfl
    have ha : gCons (gVar 0) (gCons (gVar 1) gNil) [some (.d frm), some (.d (.str t))] [] = .ok [.d frm, .d (.str t)] [] := rfl
    have hfr : [A.d frm, A.d (.str t)].all A.free = true := rfl
    have hcl := e_cut_lists g 4
    have hc : gCallT (semT T 8) tab_CUTTERS (gOp pIx (gCons (gVar 0) (gCons (gCon (.int 0)) gNil))) (gCons (gVar 0) (gCons (gVar 1) gNil)) [some (.d frm), some (.d (.str t))] [] = .ok (.obj 0) [.ls [.tup [.tup [.tup [.int (p : Nat), .int (p + 1 : Nat)]], .int (0 : Nat), .int (p + 3 : Nat)]]] := by
      simp only [gCallT, hk, bind_ok, hl, ha, callIn, hfr, if_true, hcl]; rfl
    unfold g_cut_all
    rw [ret_rt hc]; rfl
  have hcut : semT T 10 42 [.d frm, .d (.str t)] [] = .ok (.d (.tup [.tup [.tup [.tup [.int (p : Nat), .int (p + 1 : Nat)]], .int (0 : Nat), .int (p + 3 : Nat)]])) [] := by
    show (if 2 = 2 then finish 0 (g_cut (semT T 9) [some (.d frm), some (.d (.str t))] []) else .bad) = _
    rw [if_pos rfl]
    unfold g_cut
    have c1 : sExpr (gCall (semT T 9) 16 (gCons (gVar 0) gNil)) [some (.d frm), some (.d (.str t))] [] = .nx [some (.d frm), some (.d (.str t))] [] := by
      have := call_ok (F := semT T 9) (f := 16) (env := [some (.d frm), some (.d (.str t))]) (st := []) (as := gCons (gVar 0) gNil) (xs := [.d frm]) rfl rfl form_ok rfl
      simp only [sExpr, this, toS_ok]; rfl
    have c2 : sExpr (gCall (semT T 9) 5 (gCons (gVar 1) gNil)) [some (.d frm), some (.d (.str t))] [] = .nx [some (.d frm), some (.d (.str t))] [] := by
      have := call_ok (F := semT T 9) (f := 5) (env := [some (.d frm), some (.d (.str t))]) (st := []) (as := gCons (gVar 1) gNil) (xs := [.d (.str t)]) rfl rfl hck rfl
      simp only [sExpr, this, toS_ok]; rfl
    rw [seq_nx c1, seq_nx c2]
    exact congrArg (finish 0) (ret_rt (op1_new (p := pTuple) (call_lst (F := semT T 9) (f := 41) (env := [some (.d frm), some (.d (.str t))]) (st := []) (as := gCons (gVar 0) (gCons (gVar 1) gNil)) (xs := [.d frm, .d (.str t)]) rfl rfl hall rfl rfl) rfl))
  have hraws : semT T 11 44 [.d frm, .d (.str t)] [] = .ok (.d (.tup [.tup [.str [97]]])) [] := by
    show (if 2 = 2 then finish 0 (g_raws (semT T 10) [some (.d frm), some (.d (.str t))] []) else .bad) = _
    rw [if_pos rfl]
    unfold g_raws
    have c1 := call_ok (F := semT T 10) (f := 42) (env := [some (.d frm), some (.d (.str t))]) (st := []) (as := gCons (gVar 0) (gCons (gVar 1) gNil)) (xs := [.d frm, .d (.str t)]) rfl rfl hcut rfl
    exact congrArg (finish 0) (ret_rt (call_ok (F := semT T 10) (f := 43) (cons_ok (x := .d (.str t)) rfl (cons_ok c1 rfl)) rfl (e_raws_of g 8) rfl))
  show (if 1 = 1 then finish 0 (g_law_told (semT T 11) [some (.d (.str t)), none] []) else .bad) = _
  rw [if_pos rfl]
  unfold g_law_told
  have c3 : sExpr (gCall (semT T 11) 44 (gCons (gTup (gCons (gCon (.str [108, 105, 115, 116, 115])) (gCons (gCon (.int 1)) gNil))) (gCons (gVar 0) gNil))) [some (.d (.str t)), none] [] = .nx [some (.d (.str t)), none] [] := by
    have := call_ok (F := semT T 11) (f := 44) (env := [some (.d (.str t)), none]) (st := []) (as := gCons (gTup (gCons (gCon (.str [108, 105, 115, 116, 115])) (gCons (gCon (.int 1)) gNil))) (gCons (gVar 0) gNil)) (xs := [.d frm, .d (.str t)]) (cons_ok (tup_ok (ds := [.str [108, 105, 115, 116, 115], .int 1]) rfl (by decide) rfl) rfl) rfl hraws rfl
    simp only [sExpr, this, toS_ok]; rfl
  have c4 : sTry sub (sExpr (gCall (semT T 11) 44 (gCons (gTup (gCons (gCon (.str [108, 105, 115, 116, 115])) (gCons (gCon (.int 1)) gNil))) (gCons (gVar 0) gNil)))) [⟨1, .arg⟩, ⟨11, (.con (.str [102, 97, 114]))⟩] [some (.d (.str t)), none] [] = .nx [some (.d (.str t)), none] [] := by
    simp only [sTry, c3]
  rw [seq_nx c4]; rfl
/-- what the law asks of a near text -/
structure Near (x d : D) : Prop where
  pl : semT T 12 54 [.d x] [] = .ok (.d d) []
  to : semT T 12 55 [.d x] [] = .ok (.d d) []
  it : semT T 12 4 [.d x] [] = .ok (.d (.bl d.isNon)) []
  ne : pNe [d, d] = some (.v (.bl false))
theorem ne_int (i : Int) : pNe [.int i, .int i] = some (.v (.bl false)) := by simp [pNe, okDeep, D.deep, D.eqv]
theorem near_s (t : List Nat) (ht : t.length ≤ 5000) (h : firstBad t ≠ none ∨ 4000 < t.length ∨ ∃ p, Gd t p) : Near (.str t) (place t) where
  pl := e_law_place 10 t ht
  to := by
    cases q : firstBad t with
    | some p =>
      have hc := e_check 8 t ht
      have e1 : exOf t = some ⟨1, some (.int (p : Nat))⟩ := by simp [exOf, q]
      have e2 : place t = .int (p : Nat) := by simp [place, q]
      rw [e1] at hc
      rw [e2]
      exact e_told_ex (.str t) _ _ hc (.inl ⟨rfl, rfl⟩)
    | none =>
      by_cases h4 : 4000 < t.length
      · have hc := e_check 8 t ht
        have e1 : exOf t = some ⟨11, none⟩ := by simp [exOf, q, h4]
        have e2 : place t = .str [102, 97, 114] := by simp [place, q, h4]
        rw [e1] at hc
        rw [e2]
        exact e_told_ex (.str t) _ _ hc (.inr ⟨rfl, rfl⟩)
      · have e2 : place t = .non := by simp [place, q, h4]
        rw [e2]
        rcases h with h | h | ⟨p, g⟩
        · exact absurd q h
        · exact absurd h h4
        · exact e_told_good g q
  it := e_is_text 11 t ht
  ne := by
    unfold place
    cases firstBad t with
    | some p => exact ne_int _
    | none =>
      by_cases h4 : 4000 < t.length
      · simp only [h4, if_true]; rw [ne_str]; simp
      · simp only [h4, if_false]; rfl
theorem near_non : Near .non (.int (-1)) where
  pl := by kernel_rfl
  to := e_told_ex .non _ _ (e_check_odd .non rfl) (.inl ⟨rfl, rfl⟩)
  it := by kernel_rfl
  ne := ne_int _
theorem near_7 : Near (.int 7) (.int (-1)) where
  pl := by kernel_rfl
  to := e_told_ex (.int 7) _ _ (e_check_odd (.int 7) rfl) (.inl ⟨rfl, rfl⟩)
  it := by kernel_rfl
  ne := ne_int _
/-! ### the texts of the law -/
theorem bad_in {c : Nat} (hc : ¬ c ∈ sgn) : ∀ (a b : List Nat), firstBad (a ++ c :: b) ≠ none
  | [], b => by simp [firstBad, hc]
  | d :: a, b => by
    have ih := bad_in hc a b
    by_cases h : d ∈ sgn
    · have e : firstBad ((d :: a) ++ c :: b) = (firstBad (a ++ c :: b)).map (· + 1) := by simp [firstBad, h]
      rw [e]
      cases q : firstBad (a ++ c :: b) with
      | none => exact absurd q ih
      | some p => simp
    · simp [firstBad, h]
theorem mk_eq (b : List Nat) (k : Nat) : mk b k = (40 :: 32 :: b) ++ (97 :: 32 :: 41 :: rep k 10) := rfl
theorem getD_app (l r : List Nat) (i : Nat) : (l ++ r).getD i 0 = if i < l.length then l.getD i 0 else r.getD (i - l.length) 0 := by
  simp only [List.getD_eq_getElem?_getD]
  by_cases h : i < l.length
  · rw [if_pos h, List.getElem?_append_left h]
  · rw [if_neg h, List.getElem?_append_right (by omega)]
theorem mk_gd (b : List Nat) (k : Nat) (hb : b.length ≤ 8) (hk : k ≤ 8) (hc : ∀ c ∈ b, c ∈ blk) : Gd (mk b k) (b.length + 2) where
  len := by rw [mk_eq]; simp [rep]; omega
  two := Nat.le_add_left 1 (b.length + 1)
  fit := by rw [mk_eq]; simp [rep]
  t0 := rfl
  b1 := fun i h1 h2 => by
    rw [mk_eq, getD_app, if_pos (by simp; omega)]
    cases i with
    | zero => omega
    | succ i =>
      cases i with
      | zero => exact (by decide : 32 ∈ blk)
      | succ i =>
        have hi : i < b.length := by omega
        show b.getD i 0 ∈ blk
        rw [List.getD_eq_getElem?_getD, List.getElem?_eq_getElem hi]
        exact hc _ (List.getElem_mem hi)
  ta := by rw [mk_eq, getD_app, if_neg (by simp)]; simp
  tb := by rw [mk_eq, getD_app, if_neg (by simp)]; simp
  tc := by rw [mk_eq, getD_app, if_neg (by simp)]; simp
  b2 := fun i h1 h2 => by
    have hl : (mk b k).length = b.length + 5 + k := by rw [mk_eq]; simp [rep]; omega
    rw [mk_eq, getD_app, if_neg (by simp; omega)]
    obtain ⟨m, hm⟩ : ∃ m, i - (40 :: 32 :: b).length = m + 3 := ⟨i - (40 :: 32 :: b).length - 3, by simp; omega⟩
    have hm2 : m < k := by simp at hm; omega
    rw [hm]
    show (rep k 10).getD m 0 ∈ blk
    rw [List.getD_eq_getElem?_getD, rep, List.getElem?_replicate, if_pos hm2]
    decide
theorem mk_good (b : List Nat) (k : Nat) (hc : ∀ c ∈ b, c ∈ blk) : firstBad (mk b k) = none := by
  have h : ((mk b k).all fun c => decide (c ∈ sgn)) = true := List.all_eq_true.mpr fun c h => by
    have hbl : ∀ c ∈ blk, c ∈ sgn := by decide
    rw [mk_eq] at h
    refine decide_eq_true ?_
    rcases List.mem_append.mp h with h | h
    · rcases List.mem_cons.mp h with rfl | h
      · decide
      rcases List.mem_cons.mp h with rfl | h
      · decide
      exact hbl c (hc c h)
    · rcases List.mem_cons.mp h with rfl | h
      · decide
      rcases List.mem_cons.mp h with rfl | h
      · decide
      rcases List.mem_cons.mp h with rfl | h
      · decide
      rw [List.eq_of_mem_replicate h]; decide
  rw [bad_none] at h
  cases q : firstBad (mk b k) with
  | none => rfl
  | some p => rw [q] at h; cases h
/-! ### one near text -/
theorem near_step {x d : D} (N : Near x d) (r : Env) (a0 a1 a2 a3 a4 a5 a6 a7 a8 a9 a11 : Option A) (st : Store) :
    b_law_1 (semT T 12) (a0 :: a1 :: a2 :: a3 :: a4 :: a5 :: a6 :: a7 :: a8 :: a9 :: some (.d x) :: a11 :: r) st = .nx (a0 :: a1 :: a2 :: a3 :: a4 :: a5 :: a6 :: a7 :: a8 :: a9 :: some (.d x) :: some (.d d) :: r) st := by
  unfold b_law_1
  have s1 : sSet 11 (gCall (semT T 12) 54 (gCons (gVar 10) gNil)) (a0 :: a1 :: a2 :: a3 :: a4 :: a5 :: a6 :: a7 :: a8 :: a9 :: some (.d x) :: a11 :: r) st = .nx (a0 :: a1 :: a2 :: a3 :: a4 :: a5 :: a6 :: a7 :: a8 :: a9 :: some (.d x) :: some (.d d) :: r) st :=
    set_nx (call_ok (xs := [.d x]) rfl rfl N.pl rfl)
  rw [seq_nx s1]
  have hn : pIs [d, .non] = some (.v (.bl d.isNon)) := by cases d <;> rfl
  refine if_f (b := sNext) (t_or_f (tv (op2 (p := pNe) (call_ok (xs := [.d x]) rfl rfl N.to rfl) (g2 := gVar 11) (y := d) rfl N.ne rfl) rfl) (tv (op2 (p := pNe) (call_ok (xs := [.d x]) rfl rfl N.it rfl) (op2 (p := pIs) (g1 := gVar 11) (g2 := gCon .non) (x := d) (y := .non) rfl rfl hn rfl) ?_ rfl) rfl))
  cases d.isNon <;> rfl
theorem near_loop (r : Env) (a0 a1 a2 a3 a4 a5 a6 a7 a8 a9 : Option A) (st : Store) (ok : Store → Bool) (hok : ok st = true) : ∀ (l : List D) (a10 a11 : Option A), (∀ x ∈ l, ∃ d, Near x d) →
    ∃ b10 b11, forGo (.name 10) (b_law_1 (semT T 12)) ok l (a0 :: a1 :: a2 :: a3 :: a4 :: a5 :: a6 :: a7 :: a8 :: a9 :: a10 :: a11 :: r) st = .nx (a0 :: a1 :: a2 :: a3 :: a4 :: a5 :: a6 :: a7 :: a8 :: a9 :: b10 :: b11 :: r) st
  | [], a10, a11, _ => ⟨a10, a11, by rw [forGo, if_pos hok]⟩
  | x :: l, a10, a11, h => by
    obtain ⟨d, N⟩ := h x List.mem_cons_self
    obtain ⟨b10, b11, ih⟩ := near_loop r a0 a1 a2 a3 a4 a5 a6 a7 a8 a9 st ok hok l (some (.d x)) (some (.d d)) fun y hy => h y (List.mem_cons_of_mem _ hy)
    refine ⟨b10, b11, ?_⟩
    have e0 : Tg.put (.name 10) x (a0 :: a1 :: a2 :: a3 :: a4 :: a5 :: a6 :: a7 :: a8 :: a9 :: a10 :: a11 :: r) = some (a0 :: a1 :: a2 :: a3 :: a4 :: a5 :: a6 :: a7 :: a8 :: a9 :: some (.d x) :: a11 :: r) := rfl
    rw [forGo, if_pos hok]
    simp only [e0, near_step N]
    exact ih
end K00
end

section
set_option Elab.async false
set_option linter.all false
set_option maxRecDepth 100000
set_option maxHeartbeats 1000000
/-! K00J: the law whole. -/
namespace K00
open PD
theorem draws (j : Nat) : Draws (semT T (j + 1)) 46 := fun n st c hc h m hm => e_drawS n st c hc h m hm
theorem ones (j : Nat) : Ones (semT T (j + 2)) 47 := fun n p st c row hc h hp hnp h1 h2 => e_oneS (draws j) n p st c row hc h hp hnp h1 h2
/-! ### reprs -/
theorem word_plain {s : List Nat} (h : isWordB s = true) : (s.all fun c => decide (c ∈ plainC)) = true ∧ s.length ≤ 12 := by
  unfold isWordB at h
  rw [Bool.and_eq_true, Bool.and_eq_true, Bool.and_eq_true, decide_eq_true_eq, decide_eq_true_eq, List.all_eq_true] at h
  have hw : ∀ c ∈ wsg, c ∈ plainC := by decide
  exact ⟨List.all_eq_true.mpr fun c hc => decide_eq_true (hw c (of_decide_eq_true (h.2.2.2 c hc))), h.2.1⟩
theorem int_good (i : Int) : goodS (intL i) = true := by
  unfold intL
  rw [PySem.Str.ofString_eq_toList]
  refine List.all_eq_true.mpr fun c hc => decide_eq_true ?_
  obtain ⟨ch, -, rfl⟩ := List.mem_map.mp (by simpa using hc)
  have := ch.valid
  show ch.val.toNat < 1114112
  rcases this with h | ⟨_, h⟩
  · have h : ch.val.toNat < 0xd800 := h
    omega
  · exact h
theorem ok_int {i : Int} (h : i.natAbs ≤ 999999999) : okInt i = true := by
  unfold okInt
  rw [int_good, Bool.and_true]
  refine decide_eq_true ?_
  have h1 : i.natAbs.log2 ≤ (999999999 : Nat).log2 := by
    by_cases hz : i.natAbs = 0
    · rw [hz]; decide
    · have h2 : i.natAbs < 2 ^ 30 := by omega
      have := (Nat.log2_lt hz).mpr h2
      have h3 : (999999999 : Nat).log2 = 29 := by decide
      omega
  have h3 : (999999999 : Nat).log2 = 29 := by decide
  omega
theorem repr_cell (s : List Nat) (hs : s.length ≤ 600) : ∃ l, pRepr [cellOf s] = some (.v (.str l)) := by
  unfold cellOf
  by_cases q0 : isWordB s = true
  · rw [if_pos q0]
    obtain ⟨h1, h2⟩ := word_plain q0
    refine ⟨39 :: (s ++ [39]), ?_⟩
    simp only [pRepr, h1, Bool.true_and]
    rw [if_pos (decide_eq_true (by omega))]
  · rw [if_neg q0]
    cases q1 : okD (dg s) with
    | false => exact ⟨_, rfl⟩
    | true =>
      simp only [Bool.not_true, Bool.false_eq_true, if_false]
      by_cases q2 : 9 < ((dg s).dropWhile fun c => [48].contains c).length
      · rw [decide_eq_true q2]; exact ⟨_, rfl⟩
      · rw [decide_eq_false q2]
        simp only [Bool.false_eq_true, if_false]
        have hd := dg_len s
        obtain ⟨k1, k2, k3⟩ := okD_is q1 (by omega)
        have hv : digV (dg s) ≤ 999999999 := by
          have := (nine (dg s) k2)
          omega
        have hi : (if s.take 1 = [45] then -(digV (dg s) : Int) else digV (dg s)).natAbs ≤ 999999999 := by
          split <;> omega
        refine ⟨intL (if s.take 1 = [45] then -(digV (dg s) : Int) else digV (dg s)), ?_⟩
        simp only [pRepr, ok_int hi, if_true]
theorem ne_bools (a b : Bool) : pNe [.lst [.bl a, .bl b], .lst [.bl a, .bl b]] = some (.v (.bl false)) := by
  cases a <;> cases b <;> simp [pNe, okDeep, D.deep, D.deeps, D.eqv, D.eqvs]
theorem add_s (a b : List Nat) (h : a.length + b.length ≤ 10000) : pAdd [.str a, .str b] = some (.v (.str (a ++ b))) := by
  have : a.length + b.length ≤ LID := by unfold LID; omega
  simp only [pAdd]
  rw [if_pos this]
theorem mul_s (c k : Nat) (h : k ≤ 5000) : pMul [.str [c], .int (k : Nat)] = some (.v (.str (rep k c))) := by
  have e : (List.replicate (Int.toNat (k : Nat)) [c]).flatten = rep k c := by
    rw [Int.toNat_natCast]; exact List.flatten_replicate_singleton
  rw [← e]
  unfold pMul
  refine if_pos ?_
  simp only [Bool.and_eq_true, decide_eq_true_eq, List.length_cons, List.length_nil]
  omega
theorem cut_to_s {s : List Nat} (k : Nat) (hs : s.length ≤ 5000) : pSl [.str s, .non, .int (k : Nat)] = some (.v (.str (s.take k))) := by
  have h : s.length ≤ LID := by unfold LID; omega
  simp only [pSl, part]
  rw [if_pos h, cut_to]
theorem cut_from_s {s : List Nat} (k : Nat) (hs : s.length ≤ 5000) : pSl [.str s, .int (k : Nat), .non] = some (.v (.str (s.drop k))) := by
  have h : s.length ≤ LID := by unfold LID; omega
  simp only [pSl, part]
  rw [if_pos h, cut_from]
theorem cell_2 (k : Nat) (hk : k < 1000) (ns : List Int) (hn : ns.length ≤ 63) (a1 a2 a3 a4 a5 a7 a8 a9 a10 a11 a12 a13 : Option A) (st : Store) :
    ∃ b4 b7 b8 b9 b10 b11 st', b_law_2 (semT T 12) [some (.d (.lst (ns.map D.int))), a1, a2, a3, a4, a5, some (.d (.int k)), a7, a8, a9, a10, a11, a12, a13] st
      = .nx [some (.d (.lst (ns.map D.int))), a1, a2, a3, b4, a5, some (.d (.int k)), b7, b8, b9, b10, b11, a12, a13] st' := by
  obtain ⟨c0, e0, hc0⟩ := e_bagS 9001 k ns [] hk hn
  have e0 : semT T 12 45 [.d (.lst (ns.map D.int)), .d (.int k)] [] = .ok (.obj 0) [.ls c0] := e0
  have s1 : sSet 7 (gCall (semT T 12) 45 (gCons (gVar 0) (gCons (gVar 6) gNil))) [some (.d (.lst (ns.map D.int))), a1, a2, a3, a4, a5, some (.d (.int k)), a7, a8, a9, a10, a11, a12, a13] st
      = .nx [some (.d (.lst (ns.map D.int))), a1, a2, a3, a4, a5, some (.d (.int k)), some (.obj st.length), a8, a9, a10, a11, a12, a13] (st ++ [.ls c0]) :=
    set_nx (call_lst (xs := [.d (.lst (ns.map D.int)), .d (.int k)]) rfl rfl e0 rfl rfl)
  have h0 : (st ++ [MO.ls c0])[st.length]? = some (.ls c0) := get_last _ _
  generalize hnn : st.length = n at s1 h0
  generalize st ++ [MO.ls c0] = st0 at s1 h0
  unfold b_law_2
  rw [seq_nx s1]
  -- the word
  obtain ⟨s, c1, e1, hc1, hs18, -⟩ := text_e (F := semT T 12) (d := 46) (o := 47) (draws 11) (ones 10) (n := n) (i := 7) (t := 13) (own := [13]) hc0 h0 (env := [some (.d (.lst (ns.map D.int))), a1, a2, a3, a4, a5, some (.d (.int k)), some (.obj n), a8, a9, a10, a11, a12, a13])
    (L := gLst (gCons (gCon (.str [97])) (gCons (gCon (.str [122])) (gCons (gCon (.str [48])) (gCons (gCon (.str [57])) (gCons (gCon (.str [95])) (gCons (gCon (.str [45])) (gCons (gCon (.str [98])) (gCons (gCon (.str [49])) (gCons (gCon (.str [46])) (gCons (gCon (.str [66])) gNil)))))))))))
    (row := [.str [97], .str [122], .str [48], .str [57], .str [95], .str [45], .str [98], .str [49], .str [46], .str [66]]) (m := 18) (mi := 18) rfl (by decide) (by decide) (fun _ => rfl) (fun _ _ => rfl) (fun E s => lst_all (ds := [.str [97], .str [122], .str [48], .str [57], .str [95], .str [45], .str [98], .str [49], .str [46], .str [66]]) (fun _ => rfl) (by decide) s) (by decide) (by decide)
    (P := fun _ => True) (fun x hx => by
      simp only [List.mem_cons, List.not_mem_nil, or_false] at hx
      rcases hx with rfl | rfl | rfl | rfl | rfl | rfl | rfl | rfl | rfl | rfl <;> exact ⟨_, rfl, trivial⟩)
  have h1 := get_set (.ls c1) h0
  rw [seq_nx (set_nx (i := 4) e1)]
  generalize st0.set n (.ls c1) = st1 at h1
  show ∃ b4 b7 b8 b9 b10 b11 st', sSeq _ _ [some (.d (.lst (ns.map D.int))), a1, a2, a3, some (.d (.str s)), a5, some (.d (.int k)), some (.obj n), a8, a9, a10, a11, a12, a13] st1 = _
  have call1 : ∀ (f : Nat) (d : D) (env : Env) (w : Store), gVar 4 env w = .ok (.d (.str s)) w → semT T 12 f [.d (.str s)] [] = .ok (.d d) [] → gCall (semT T 12) f (gCons (gVar 4) gNil) env w = .ok (.d d) w := fun f d env w h hf => call_ok (xs := [.d (.str s)]) (cons_ok h rfl) rfl hf rfl
  have f1 := e_is_word 11 s (by omega)
  have f3 := e_is_raw 11 s (by omega)
  have f49 := e_law_is_word 10 s (by omega)
  have f51 := e_law_is_raw 10 s (by omega)
  have f8 := e_cell_of 10 s (by omega)
  have hif : sIf (tOr (tVal (gOp pNe (gCons (gLst (gCons (gCall (semT T 12) 1 (gCons (gVar 4) gNil)) (gCons (gCall (semT T 12) 3 (gCons (gVar 4) gNil)) gNil))) (gCons (gLst (gCons (gCall (semT T 12) 49 (gCons (gVar 4) gNil)) (gCons (gCall (semT T 12) 51 (gCons (gVar 4) gNil)) gNil))) gNil)))) (tAnd (tVal (gCall (semT T 12) 51 (gCons (gVar 4) gNil))) (tVal (gOp pNe (gCons (gOp pRepr (gCons (gCall (semT T 12) 8 (gCons (gVar 4) gNil)) gNil)) (gCons (gOp pRepr (gCons (gCall (semT T 12) 52 (gCons (gVar 4) gNil)) gNil)) gNil)))))) (sRet (gCon (.bl false))) sNext [some (.d (.lst (ns.map D.int))), a1, a2, a3, some (.d (.str s)), a5, some (.d (.int k)), some (.obj n), a8, a9, a10, a11, a12, a13] st1
      = .nx [some (.d (.lst (ns.map D.int))), a1, a2, a3, some (.d (.str s)), a5, some (.d (.int k)), some (.obj n), a8, a9, a10, a11, a12, a13] st1 := by
    refine if_f (b := sNext) (t_or_f (tv (op2_new (p := pNe) (xs := [.bl (isWordB s), .bl (isRawB s)]) (ys := [.bl (isWordB s), .bl (isRawB s)]) (lst_ok (ds := [.bl (isWordB s), .bl (isRawB s)]) (cons_ok (call1 1 _ _ _ rfl f1) (cons_ok (call1 3 _ _ _ rfl f3) rfl)) (Nat.le_of_ble_eq_true rfl) rfl) (fun w => lst_ok (ds := [.bl (isWordB s), .bl (isRawB s)]) (cons_ok (call1 49 _ _ _ rfl f49) (cons_ok (call1 51 _ _ _ rfl f51) rfl)) (Nat.le_of_ble_eq_true rfl) rfl) (ne_bools _ _)) rfl) ?_)
    cases q : isRawB s with
    | false => exact t_and_f (tv (by rw [← q]; exact call1 51 _ _ _ rfl f51) rfl)
    | true =>
      have hl : 1 ≤ s.length := by
        unfold isRawB at q
        rw [Bool.and_eq_true, decide_eq_true_eq] at q
        exact q.1
      have f52 := e_law_cell_of 9 s (by omega) hl
      obtain ⟨l, hr⟩ := repr_cell s (by omega)
      exact t_and_t (st1 := st1) (tv (by rw [← q]; exact call1 51 _ _ _ rfl f51) rfl) (tv (op2 (p := pNe) (op1 (p := pRepr) (call1 8 _ _ _ rfl f8) hr rfl) (op1 (p := pRepr) (call1 52 _ _ _ rfl f52) hr rfl) (z := .bl false) (by rw [ne_str]; simp) rfl) rfl)
  rw [seq_nx hif]
  -- the text
  obtain ⟨b, c2, e2, hc2, hb9, hbm⟩ := text_e (F := semT T 12) (d := 46) (o := 47) (draws 11) (ones 10) (n := n) (i := 7) (t := 13) (own := [13]) hc1 h1 (env := [some (.d (.lst (ns.map D.int))), a1, a2, a3, some (.d (.str s)), a5, some (.d (.int k)), some (.obj n), a8, a9, a10, a11, a12, a13])
    (L := gLst (gCons (gCon (.str [32])) (gCons (gCon (.str [10])) (gCons (gCon (.str [32])) (gCons (gCon (.str [10])) gNil)))))
    (row := [.str [32], .str [10], .str [32], .str [10]]) (m := 9) (mi := 9) rfl (by decide) (by decide) (fun _ => rfl) (fun _ _ => rfl) (fun E s => lst_all (ds := [.str [32], .str [10], .str [32], .str [10]]) (fun _ => rfl) (by decide) s) (by decide) (by decide)
    (P := fun c => c ∈ blk) (fun x hx => by
      simp only [List.mem_cons, List.not_mem_nil, or_false] at hx
      rcases hx with rfl | rfl | rfl | rfl
      · exact ⟨32, rfl, by decide⟩
      · exact ⟨10, rfl, by decide⟩
      · exact ⟨32, rfl, by decide⟩
      · exact ⟨10, rfl, by decide⟩)
  have h2 := get_set (.ls c2) h1
  obtain ⟨m, c3, e3, hc3, hm9, -⟩ := draw_e (F := semT T 12) (d := 46) (draws 11) hc2 h2 (env := [some (.d (.lst (ns.map D.int))), a1, a2, a3, some (.d (.str s)), a5, some (.d (.int k)), some (.obj n), a8, a9, a10, a11, a12, a13]) (b := gVar 7) (g := gCon (.int 9)) (m := 9) (by decide) rfl rfl
  have hm9 := hm9 (by decide)
  rw [List.set_set] at e3
  have h3 := get_set (.ls c3) h1
  have s4 := set_nx (i := 8) (op2 (p := pAdd) (op2 (p := pAdd) (op2 (p := pAdd) (g1 := gCon (.str [40, 32])) (x := .str [40, 32]) rfl e2 (add_s _ _ (by simp; omega)) (by simp)) (g2 := gCon (.str [97, 32, 41])) (y := .str [97, 32, 41]) rfl (add_s _ _ (by simp; omega)) (by simp)) (op2 (p := pMul) (g1 := gCon (.str [10])) (x := .str [10]) rfl e3 (mul_s 10 m (by omega)) (by simp)) (add_s _ _ (by simp [rep]; omega)) (by simp))
  have ht : ([40, 32] ++ b) ++ [97, 32, 41] ++ rep m 10 = mk b m := by simp [mk]
  rw [ht] at s4
  rw [seq_nx s4]
  have hlen : (mk b m).length = b.length + 5 + m := by rw [mk_eq]; simp [rep]; omega
  generalize htt : mk b m = t at hlen ⊢
  generalize st1.set n (.ls c3) = st3 at h3
  show ∃ b4 b7 b8 b9 b10 b11 st', sSeq _ _ [some (.d (.lst (ns.map D.int))), a1, a2, a3, some (.d (.str s)), a5, some (.d (.int k)), some (.obj n), some (.d (.str t)), a9, a10, a11, a12, a13] st3 = _
  have hlt : ∀ (env : Env) (w : Store), gVar 8 env w = .ok (.d (.str t)) w → gOp pLen (gCons (gVar 8) gNil) env w = .ok (.d (.int t.length)) w := fun env w h => op1 h (len_s (by omega)) rfl
  obtain ⟨p, c4, e4, hc4, hp, -⟩ := draw_e (F := semT T 12) (d := 46) (draws 11) hc3 h3 (env := [some (.d (.lst (ns.map D.int))), a1, a2, a3, some (.d (.str s)), a5, some (.d (.int k)), some (.obj n), some (.d (.str t)), a9, a10, a11, a12, a13]) (b := gVar 7) (g := gOp pLen (gCons (gVar 8) gNil)) (m := t.length) (by omega) rfl (hlt _ _ rfl)
  have h4 := get_set (.ls c4) h3
  rw [seq_nx (set_nx (i := 9) e4)]
  generalize st3.set n (.ls c4) = st4 at h4
  show ∃ b4 b7 b8 b9 b10 b11 st', sFor _ _ _ [some (.d (.lst (ns.map D.int))), a1, a2, a3, some (.d (.str s)), a5, some (.d (.int k)), some (.obj n), some (.d (.str t)), some (.d (.int p)), a10, a11, a12, a13] st4 = _
  obtain ⟨c5, x, e5, hc5, hx⟩ := one_e (F := semT T 12) (o := 47) (ones 10) hc4 h4 (env := [some (.d (.lst (ns.map D.int))), a1, a2, a3, some (.d (.str s)), a5, some (.d (.int k)), some (.obj n), some (.d (.str t)), some (.d (.int p)), a10, a11, a12, a13]) (b := gVar 7) (g := gLst (gCons (gCon (.str [33])) (gCons (gCon (.str [65])) (gCons (gCon (.str [9])) (gCons (gCon (.str [39])) (gCons (gCon (.str [43])) gNil))))))
    (row := [.str [33], .str [65], .str [9], .str [39], .str [43]]) rfl (lst_ok (ds := [.str [33], .str [65], .str [9], .str [39], .str [43]]) rfl (by decide) rfl) (by decide) (by decide)
  obtain ⟨c, rfl, hcb⟩ : ∃ c, x = .str [c] ∧ ¬ c ∈ sgn := by
    simp only [List.mem_cons, List.not_mem_nil, or_false] at hx
    rcases hx with rfl | rfl | rfl | rfl | rfl <;> exact ⟨_, rfl, by decide⟩
  have hl5 : (st4.set n (.ls c5)).length = st4.length := by simp
  generalize st4.set n (.ls c5) = st5 at e5 hl5
  have e6 := op2 (p := pAdd) (op2 (p := pAdd) (op3 (p := pSl) (g1 := gVar 8) (g2 := gCon .non) (g3 := gInt (gVar 9)) (x := .str t) (y := .non) (w := .int (p : Nat)) rfl rfl rfl (cut_to_s p (by omega)) rfl) e5 (add_s _ _ (by simp; omega)) hl5) (op3 (p := pSl) (g1 := gVar 8) (g2 := gInt (gVar 9)) (g3 := gCon .non) (st := st5) (x := .str t) (y := .int (p : Nat)) (w := .non) rfl rfl rfl (cut_from_s p (by omega)) rfl) (add_s _ _ (by simp; omega)) hl5
  have e7 : ∀ w : Store, gOp pAdd (gCons (gVar 8) (gCons (gOp pMul (gCons (gCon (.str [32])) (gCons (gCon (.int 4000)) gNil))) gNil)) [some (.d (.lst (ns.map D.int))), a1, a2, a3, some (.d (.str s)), a5, some (.d (.int k)), some (.obj n), some (.d (.str t)), some (.d (.int p)), a10, a11, a12, a13] w = .ok (.d (.str (t ++ rep 4000 32))) w := fun w =>
    op2 (g1 := gVar 8) (x := .str t) rfl (op2 (p := pMul) (g1 := gCon (.str [32])) (g2 := gCon (.int 4000)) (x := .str [32]) (y := .int (4000 : Nat)) rfl rfl (mul_s 32 4000 (by decide)) rfl) (add_s _ _ (by simp [rep]; omega)) rfl
  have e8 : ∀ w : Store, gOp pAdd (gCons (gCon (.str [33])) (gCons (gOp pMul (gCons (gCon (.str [32])) (gCons (gCon (.int 4000)) gNil))) gNil)) [some (.d (.lst (ns.map D.int))), a1, a2, a3, some (.d (.str s)), a5, some (.d (.int k)), some (.obj n), some (.d (.str t)), some (.d (.int p)), a10, a11, a12, a13] w = .ok (.d (.str ([33] ++ rep 4000 32))) w := fun w =>
    op2 (g1 := gCon (.str [33])) (x := .str [33]) rfl (op2 (p := pMul) (g1 := gCon (.str [32])) (g2 := gCon (.int 4000)) (x := .str [32]) (y := .int (4000 : Nat)) rfl rfl (mul_s 32 4000 (by decide)) rfl) (add_s _ _ (by simp [rep])) rfl
  have hgd : Gd t (b.length + 2) := by rw [← htt]; exact mk_gd b m (by omega) (by omega) hbm
  have n1 := near_s t (by omega) (.inr (.inr ⟨_, hgd⟩))
  have n2 := near_s (t.take p ++ [c] ++ t.drop p) (by simp; omega) (.inl (by rw [List.append_assoc]; exact bad_in hcb _ _))
  have n3 := near_s (t ++ rep 4000 32) (by simp [rep]; omega) (.inr (.inl (by simp [rep]; omega)))
  have n6 := near_s ([33] ++ rep 4000 32) (by simp [rep]) (.inl (bad_in (c := 33) (by decide) [] _))
  generalize rep 4000 32 = blanks at e7 e8 n3 n6
  have eL := lst_ok (ds := [.str t, .str (t.take p ++ [c] ++ t.drop p), .str (t ++ blanks), .non, .int 7, .str ([33] ++ blanks)]) (cons_ok (a := gVar 8) (x := .d (.str t)) rfl (cons_ok e6 (cons_ok (e7 st5) (cons_ok (a := gCon .non) rfl (cons_ok (a := gCon (.int 7)) rfl (cons_ok (r := gNil) (e8 st5) rfl)))))) (Nat.le_of_ble_eq_true rfl) hl5
  have hw : ∀ g : SemE, g [some (.d (.lst (ns.map D.int))), a1, a2, a3, some (.d (.str s)), a5, some (.d (.int k)), some (.obj n), some (.d (.str t)), some (.d (.int p)), a10, a11, a12, a13] st4 = .ok (.obj st4.length) (st5 ++ [.ls [.str t, .str (t.take p ++ [c] ++ t.drop p), .str (t ++ blanks), .non, .int 7, .str ([33] ++ blanks)]]) →
      iVal g [some (.d (.lst (ns.map D.int))), a1, a2, a3, some (.d (.str s)), a5, some (.d (.int k)), some (.obj n), some (.d (.str t)), some (.d (.int p)), a10, a11, a12, a13] st4 = .ok ⟨[.str t, .str (t.take p ++ [c] ++ t.drop p), .str (t ++ blanks), .non, .int 7, .str ([33] ++ blanks)], [(st4.length, [.str t, .str (t.take p ++ [c] ++ t.drop p), .str (t ++ blanks), .non, .int 7, .str ([33] ++ blanks)])]⟩ (st5 ++ [.ls [.str t, .str (t.take p ++ [c] ++ t.drop p), .str (t ++ blanks), .non, .int 7, .str ([33] ++ blanks)]]) := fun g hg => by
    rw [← hl5] at hg ⊢
    simp only [iVal, hg, bind_ok, rowOf, get_last]
  have hok : Src.ok ⟨[.str t, .str (t.take p ++ [c] ++ t.drop p), .str (t ++ blanks), .non, .int 7, .str ([33] ++ blanks)], [(st4.length, [.str t, .str (t.take p ++ [c] ++ t.drop p), .str (t ++ blanks), .non, .int 7, .str ([33] ++ blanks)])]⟩ (st5 ++ [.ls [.str t, .str (t.take p ++ [c] ++ t.drop p), .str (t ++ blanks), .non, .int 7, .str ([33] ++ blanks)]]) = true := by
    rw [← hl5]
    simp only [Src.ok, List.all_cons, List.all_nil, heldAt, get_last, same_held, Bool.and_self]
  obtain ⟨b10, b11, e9⟩ := near_loop [a12, a13] (some (.d (.lst (ns.map D.int)))) a1 a2 a3 (some (.d (.str s))) a5 (some (.d (.int k))) (some (.obj n)) (some (.d (.str t))) (some (.d (.int p))) _ _ hok [.str t, .str (t.take p ++ [c] ++ t.drop p), .str (t ++ blanks), .non, .int 7, .str ([33] ++ blanks)] a10 a11 (fun y hy => by
    simp only [List.mem_cons, List.not_mem_nil, or_false] at hy
    rcases hy with rfl | rfl | rfl | rfl | rfl | rfl
    · exact ⟨_, n1⟩
    · exact ⟨_, n2⟩
    · exact ⟨_, n3⟩
    · exact ⟨_, near_non⟩
    · exact ⟨_, near_7⟩
    · exact ⟨_, n6⟩)
  exact ⟨_, _, _, _, b10, b11, _, (for_ok (tg := .name 10) (body := b_law_1 (semT T 12)) (hw _ eL)).trans e9⟩
theorem cells_2 (ns : List Int) (hn : ns.length ≤ 63) (l0 : List D) (a1 a2 a3 a5 a12 a13 : Option A) : ∀ (ds : List D) (a4 a6 a7 a8 a9 a10 a11 : Option A) (st : Store), (∀ d ∈ ds, ∃ k : Nat, k < 1000 ∧ d = .int k) →
    ∃ b4 b6 b7 b8 b9 b10 b11 st', forGo (.name 6) (b_law_2 (semT T 12)) (Src.ok ⟨l0, []⟩) ds [some (.d (.lst (ns.map D.int))), a1, a2, a3, a4, a5, a6, a7, a8, a9, a10, a11, a12, a13] st
      = .nx [some (.d (.lst (ns.map D.int))), a1, a2, a3, b4, a5, b6, b7, b8, b9, b10, b11, a12, a13] st'
  | [], a4, a6, a7, a8, a9, a10, a11, st, _ => ⟨a4, a6, a7, a8, a9, a10, a11, st, by rw [forGo, ok_none, if_pos rfl]⟩
  | d :: ds, a4, a6, a7, a8, a9, a10, a11, st, hd => by
    obtain ⟨k, hk, rfl⟩ := hd d List.mem_cons_self
    obtain ⟨b4, b7, b8, b9, b10, b11, st1, e1⟩ := cell_2 k hk ns hn a1 a2 a3 a4 a5 a7 a8 a9 a10 a11 a12 a13 st
    obtain ⟨d4, d6, d7, d8, d9, d10, d11, st2, e2⟩ := cells_2 ns hn l0 a1 a2 a3 a5 a12 a13 ds b4 (some (.d (.int k))) b7 b8 b9 b10 b11 st1 fun x hx => hd x (List.mem_cons_of_mem _ hx)
    refine ⟨d4, d6, d7, d8, d9, d10, d11, st2, ?_⟩
    have e0 : Tg.put (.name 6) (.int k) [some (.d (.lst (ns.map D.int))), a1, a2, a3, a4, a5, a6, a7, a8, a9, a10, a11, a12, a13] = some [some (.d (.lst (ns.map D.int))), a1, a2, a3, a4, a5, some (.d (.int k)), a7, a8, a9, a10, a11, a12, a13] := rfl
    rw [forGo, ok_none, if_pos rfl]
    simp only [e0, e1]
    exact e2
theorem max_nat (a b : Nat) : pMax2 [.int a, .int b] = some (.v (.int ((max a b : Nat) : Int))) := by
  simp only [pMax2]
  by_cases h : a < b
  · rw [if_pos (by omega), Nat.max_eq_right (by omega)]
  · rw [if_neg (by omega), Nat.max_eq_left (by omega)]
theorem min_nat (a b : Nat) : pMin2 [.int a, .int b] = some (.v (.int ((min a b : Nat) : Int))) := by
  simp only [pMin2]
  by_cases h : b < a
  · rw [if_pos (by omega), Nat.min_eq_right (by omega)]
  · rw [if_neg (by omega), Nat.min_eq_left (by omega)]
theorem e_law (ns : List Int) (hn : ns.length ≤ 63) : semDef 1 14 (g_law (semT T 12)) [.d (.lst (ns.map D.int))] [] = .ok (.d (.bl true)) [] := by
  show (if 1 = 1 then finish 0 (g_law (semT T 12) [some (.d (.lst (ns.map D.int))), none, none, none, none, none, none, none, none, none, none, none, none, none] []) else .bad) = _
  rw [if_pos rfl]
  unfold g_law
  generalize hx : some (A.d (.lst (ns.map D.int))) = x
  have p0 : sIf (tVal (gOp pNe (gCons (gLst (gCons (gCon c_MOST_TEXT) (gCons (gCon c_MOST_WORD) (gCons (gCon c_MOST_RAW) (gCons (gCon c_MOST_NUMBER) (gCons (gCon c_MOST_FIELDS) (gCons (gCon c_MOST_ROWS) (gCons (gCon c_MOST_TABLES) (gCons (gCon c_MOST_COLUMNS) gNil))))))))) (gCons (gLst (gCons (gCon (.int 4000)) (gCons (gCon (.int 12)) (gCons (gCon (.int 16)) (gCons (gCon (.int 999999999)) (gCons (gCon (.int 8)) (gCons (gCon (.int 200)) (gCons (gCon (.int 6)) (gCons (gCon (.int 8)) gNil))))))))) gNil)))) (sRet (gCon (.bl false))) sNext [x, none, none, none, none, none, none, none, none, none, none, none, none, none] [] = .nx [x, none, none, none, none, none, none, none, none, none, none, none, none, none] [] := by kernel_rfl
  have p1 : sIf (tVal (gOp pNe (gCons (gLst (gCons (gCon c_MOST_LINKS) (gCons (gCon c_MOST_WORDS) (gCons (gCon c_MOST_SOURCES) (gCons (gCon c_MOST_RULES) (gCons (gCon c_MOST_QUESTIONS) (gCons (gCon c_MOST_VIEWS) gNil))))))) (gCons (gLst (gCons (gCon (.int 3)) (gCons (gCon (.int 12)) (gCons (gCon (.int 8)) (gCons (gCon (.int 8)) (gCons (gCon (.int 8)) (gCons (gCon (.int 8)) gNil))))))) gNil)))) (sRet (gCon (.bl false))) sNext [x, none, none, none, none, none, none, none, none, none, none, none, none, none] [] = .nx [x, none, none, none, none, none, none, none, none, none, none, none, none, none] [] := by kernel_rfl
  have p2 : sErrs 1 [x, none, none, none, none, none, none, none, none, none, none, none, none, none] [] = .nx [x, none, none, none, none, none, none, none, none, none, none, none, none, none] [] := rfl
  rw [seq_nx p0, seq_nx p1, seq_nx p2, seq_nx (p3 x), seq_nx (p4 x)]
  have q5 := p5 x
  have q6 := p6 x
  have q7 := p7 x
  unfold lv at q5 q6 q7
  rw [seq_nx q5, seq_nx q6, seq_nx q7]
  subst hx
  have hl : pLen [.lst (ns.map D.int)] = some (.v (.int ns.length)) := by simp [pLen]
  have hr : ∀ (env : Env) (s : Store), gVar 0 env s = .ok (.d (.lst (ns.map D.int))) s → iRange1 (gOp pMax2 (gCons (gCon (.int 1)) (gCons (gOp pMin2 (gCons (gCon (.int 6)) (gCons (gOp pLen (gCons (gVar 0) gNil)) gNil))) gNil))) env s = .ok ⟨rangeL 0 ((max 1 (min 6 ns.length) : Nat) : Int), []⟩ s := fun env s h =>
    range_st ⟨by unfold big62; omega, by unfold big62; omega⟩ (op2 (x := .int (1 : Nat)) rfl (op2 (x := .int (6 : Nat)) rfl (op1 h hl rfl) (min_nat 6 ns.length) rfl) (max_nat 1 (min 6 ns.length)) rfl)
  generalize hM : max 1 (min 6 ns.length) = M at hr
  have hM6 : M ≤ 6 := by omega
  obtain ⟨b4, b6, b7, b8, b9, b10, b11, st1, e1⟩ := cells_2 ns hn (rangeL 0 (M : Int)) none (some (.d (.str (rep 12 97)))) (some (.obj 1)) (some (.obj 2)) none none (rangeL 0 (M : Int)) (some (.d (.str (rep 16 57)))) none none none none none none [.ls odd1, .ls odd2, .ls cells] (fun d hd => by
    unfold rangeL at hd
    obtain ⟨k, hk, rfl⟩ := List.mem_map.mp hd
    have := List.mem_range.mp hk
    exact ⟨k, by omega, by simp⟩)
  have s2 := (for_ok (tg := .name 6) (body := b_law_2 (semT T 12)) (hr [some (.d (.lst (ns.map D.int))), none, some (.d (.str (rep 12 97))), some (.obj 1), some (.d (.str (rep 16 57))), some (.obj 2), none, none, none, none, none, none, none, none] [.ls odd1, .ls odd2, .ls cells] rfl)).trans e1
  rw [seq_nx s2]; rfl
end K00
end

section
set_option Elab.async false
set_option linter.all false
set_option maxRecDepth 100000
set_option maxHeartbeats 0
open PySem PySem.W PyProof.Rows
theorem PySem.Challenge.cw_floorsagree_k00_errors_cells_and_limits_holds : PySem.Challenge.rw_floorsagree_k00_errors_cells_and_limits.Holds := by
  w_on; o_law; k_head; (case hw => w_witness2)
  k_fill
  refine PD.walk_law (l := PySem.Challenge.rw_floorsagree_k00_errors_cells_and_limits) (n := 63) (k := 2 * 12 + 2) rfl (by decide) rfl ⟨rfl, by decide, by decide⟩ (fun w h Y => PySem.W.kIn_of Y) ?F
  case F =>
    intro w mg fa h KX G hmg
    refine' PD.with_cls (P := PySem.Challenge.rw_floorsagree_k00_errors_cells_and_limits.prog) "FloorError" KX G ?a ?kp ?sb ?ty ?ex ?xe ?_
    (case a => k_is); (case kp => k_is); (case sb => k_is); (case ty => k_is); (case ex => k_exc); (case xe => kernel_rfl)
    intro m0 c0
    refine' PD.with_sup (P := PySem.Challenge.rw_floorsagree_k00_errors_cells_and_limits.prog) "BadText" "place" "place" KX G ?za ?zhi ?zl ?zlc ?zll ?zhb ?zha ?zhan ?zhv ?zq ?zov ?zhf ?zkC ?zsa ?ztk ?zdc ?zsu ?zsx ?zsb ?zty ?zmr ?ztp ?zsp ?zs1 ?zs2 ?zs3 ?zs4 ?zs5 ?zs6 ?zs7 ?zs8 ?zcd ?zm1 ?zm2 ?zbi ?zx1 ?zx2 ?zx3 ?zpl ?zxf ?zxe ?zfd ?_
    (case za => k_is); (case zhi => k_is); (case zl => k_is); (case zlc => k_is); (case zll => k_is); (case zhb => rfl); (case zha => rfl); (case zhan => rfl); (case zhv => rfl)
    (case zq => kernel_rfl); (case zov => kernel_rfl); (case zhf => k_is); (case zkC => k_is); (case zsa => k_is); (case ztk => k_is); (case zdc => k_is)
    (case zsu => kernel_rfl); (case zsx => k_is); (case zsb => k_is); (case zty => k_is); (case zmr => k_is); (case ztp => k_is); (case zsp => k_is)
    (case zs1 => rfl); (case zs2 => rfl); (case zs3 => rfl); (case zs4 => decide); (case zs5 => rfl); (case zs6 => rfl); (case zs7 => rfl); (case zs8 => rfl)
    (case zcd => k_is); (case zm1 => kernel_rfl); (case zm2 => kernel_rfl); (case zbi => exact L2.Binds.all fun us hl => match us, hl with | [_, _], _ => rfl)
    (case zx1 => decide); (case zx2 => decide); (case zx3 => decide); (case zpl => exact ⟨_, fun _ => rfl⟩); (case zxf => kernel_rfl); (case zxe => kernel_rfl); (case zfd => k_is)
    intro m1 c1
    refine' PD.with_cls (P := PySem.Challenge.rw_floorsagree_k00_errors_cells_and_limits.prog) "BadValue" KX G ?a ?kp ?sb ?ty ?ex ?xe ?_
    (case a => k_is); (case kp => k_is); (case sb => k_is); (case ty => k_is); (case ex => k_exc); (case xe => kernel_rfl)
    intro m2 c2
    refine' PD.with_cls (P := PySem.Challenge.rw_floorsagree_k00_errors_cells_and_limits.prog) "BadForm" KX G ?a ?kp ?sb ?ty ?ex ?xe ?_
    (case a => k_is); (case kp => k_is); (case sb => k_is); (case ty => k_is); (case ex => k_exc); (case xe => kernel_rfl)
    intro m3 c3
    refine' PD.with_cls (P := PySem.Challenge.rw_floorsagree_k00_errors_cells_and_limits.prog) "BadSchema" KX G ?a ?kp ?sb ?ty ?ex ?xe ?_
    (case a => k_is); (case kp => k_is); (case sb => k_is); (case ty => k_is); (case ex => k_exc); (case xe => kernel_rfl)
    intro m4 c4
    refine' PD.with_cls (P := PySem.Challenge.rw_floorsagree_k00_errors_cells_and_limits.prog) "BadProject" KX G ?a ?kp ?sb ?ty ?ex ?xe ?_
    (case a => k_is); (case kp => k_is); (case sb => k_is); (case ty => k_is); (case ex => k_exc); (case xe => kernel_rfl)
    intro m5 c5
    refine' PD.with_cls (P := PySem.Challenge.rw_floorsagree_k00_errors_cells_and_limits.prog) "BadState" KX G ?a ?kp ?sb ?ty ?ex ?xe ?_
    (case a => k_is); (case kp => k_is); (case sb => k_is); (case ty => k_is); (case ex => k_exc); (case xe => kernel_rfl)
    intro m6 c6
    refine' PD.with_cls (P := PySem.Challenge.rw_floorsagree_k00_errors_cells_and_limits.prog) "BadSteps" KX G ?a ?kp ?sb ?ty ?ex ?xe ?_
    (case a => k_is); (case kp => k_is); (case sb => k_is); (case ty => k_is); (case ex => k_exc); (case xe => kernel_rfl)
    intro m7 c7
    refine' PD.with_cls (P := PySem.Challenge.rw_floorsagree_k00_errors_cells_and_limits.prog) "BadEdit" KX G ?a ?kp ?sb ?ty ?ex ?xe ?_
    (case a => k_is); (case kp => k_is); (case sb => k_is); (case ty => k_is); (case ex => k_exc); (case xe => kernel_rfl)
    intro m8 c8
    refine' PD.with_sup (P := PySem.Challenge.rw_floorsagree_k00_errors_cells_and_limits.prog) "BadPaper" "word" "word" KX G ?za ?zhi ?zl ?zlc ?zll ?zhb ?zha ?zhan ?zhv ?zq ?zov ?zhf ?zkC ?zsa ?ztk ?zdc ?zsu ?zsx ?zsb ?zty ?zmr ?ztp ?zsp ?zs1 ?zs2 ?zs3 ?zs4 ?zs5 ?zs6 ?zs7 ?zs8 ?zcd ?zm1 ?zm2 ?zbi ?zx1 ?zx2 ?zx3 ?zpl ?zxf ?zxe ?zfd ?_
    (case za => k_is); (case zhi => k_is); (case zl => k_is); (case zlc => k_is); (case zll => k_is); (case zhb => rfl); (case zha => rfl); (case zhan => rfl); (case zhv => rfl)
    (case zq => kernel_rfl); (case zov => kernel_rfl); (case zhf => k_is); (case zkC => k_is); (case zsa => k_is); (case ztk => k_is); (case zdc => k_is)
    (case zsu => kernel_rfl); (case zsx => k_is); (case zsb => k_is); (case zty => k_is); (case zmr => k_is); (case ztp => k_is); (case zsp => k_is)
    (case zs1 => rfl); (case zs2 => rfl); (case zs3 => rfl); (case zs4 => decide); (case zs5 => rfl); (case zs6 => rfl); (case zs7 => rfl); (case zs8 => rfl)
    (case zcd => k_is); (case zm1 => kernel_rfl); (case zm2 => kernel_rfl); (case zbi => exact L2.Binds.all fun us hl => match us, hl with | [_, _], _ => rfl)
    (case zx1 => decide); (case zx2 => decide); (case zx3 => decide); (case zpl => exact ⟨_, fun _ => rfl⟩); (case zxf => kernel_rfl); (case zxe => kernel_rfl); (case zfd => k_is)
    intro m9 c9
    refine' PD.with_cls (P := PySem.Challenge.rw_floorsagree_k00_errors_cells_and_limits.prog) "NoSuch" KX G ?a ?kp ?sb ?ty ?ex ?xe ?_
    (case a => k_is); (case kp => k_is); (case sb => k_is); (case ty => k_is); (case ex => k_exc); (case xe => kernel_rfl)
    intro m10 c10
    refine' PD.with_cls (P := PySem.Challenge.rw_floorsagree_k00_errors_cells_and_limits.prog) "TooFar" KX G ?a ?kp ?sb ?ty ?ex ?xe ?_
    (case a => k_is); (case kp => k_is); (case sb => k_is); (case ty => k_is); (case ex => k_exc); (case xe => kernel_rfl)
    intro m11 c11
    refine' PD.with_sup (P := PySem.Challenge.rw_floorsagree_k00_errors_cells_and_limits.prog) "Refused" "paper" "paper" KX G ?za ?zhi ?zl ?zlc ?zll ?zhb ?zha ?zhan ?zhv ?zq ?zov ?zhf ?zkC ?zsa ?ztk ?zdc ?zsu ?zsx ?zsb ?zty ?zmr ?ztp ?zsp ?zs1 ?zs2 ?zs3 ?zs4 ?zs5 ?zs6 ?zs7 ?zs8 ?zcd ?zm1 ?zm2 ?zbi ?zx1 ?zx2 ?zx3 ?zpl ?zxf ?zxe ?zfd ?_
    (case za => k_is); (case zhi => k_is); (case zl => k_is); (case zlc => k_is); (case zll => k_is); (case zhb => rfl); (case zha => rfl); (case zhan => rfl); (case zhv => rfl)
    (case zq => kernel_rfl); (case zov => kernel_rfl); (case zhf => k_is); (case zkC => k_is); (case zsa => k_is); (case ztk => k_is); (case zdc => k_is)
    (case zsu => kernel_rfl); (case zsx => k_is); (case zsb => k_is); (case zty => k_is); (case zmr => k_is); (case ztp => k_is); (case zsp => k_is)
    (case zs1 => rfl); (case zs2 => rfl); (case zs3 => rfl); (case zs4 => decide); (case zs5 => rfl); (case zs6 => rfl); (case zs7 => rfl); (case zs8 => rfl)
    (case zcd => k_is); (case zm1 => kernel_rfl); (case zm2 => kernel_rfl); (case zbi => exact L2.Binds.all fun us hl => match us, hl with | [_, _], _ => rfl)
    (case zx1 => decide); (case zx2 => decide); (case zx3 => decide); (case zpl => exact ⟨_, fun _ => rfl⟩); (case zxf => kernel_rfl); (case zxe => kernel_rfl); (case zfd => k_is)
    intro m12 c12
    refine' PD.with_int "MOST_TEXT" KX G ?a ?_
    (case a => k_is)
    intro n_MOST_TEXT
    refine' PD.with_int "MOST_WORD" KX G ?a ?_
    (case a => k_is)
    intro n_MOST_WORD
    refine' PD.with_int "MOST_RAW" KX G ?a ?_
    (case a => k_is)
    intro n_MOST_RAW
    refine' PD.with_int "MOST_NUMBER" KX G ?a ?_
    (case a => k_is)
    intro n_MOST_NUMBER
    refine' PD.with_int "MOST_FIELDS" KX G ?a ?_
    (case a => k_is)
    intro n_MOST_FIELDS
    refine' PD.with_int "MOST_ROWS" KX G ?a ?_
    (case a => k_is)
    intro n_MOST_ROWS
    refine' PD.with_int "MOST_TABLES" KX G ?a ?_
    (case a => k_is)
    intro n_MOST_TABLES
    refine' PD.with_int "MOST_COLUMNS" KX G ?a ?_
    (case a => k_is)
    intro n_MOST_COLUMNS
    refine' PD.with_int "MOST_LINKS" KX G ?a ?_
    (case a => k_is)
    intro n_MOST_LINKS
    refine' PD.with_int "MOST_WORDS" KX G ?a ?_
    (case a => k_is)
    intro n_MOST_WORDS
    refine' PD.with_int "MOST_SOURCES" KX G ?a ?_
    (case a => k_is)
    intro n_MOST_SOURCES
    refine' PD.with_int "MOST_RULES" KX G ?a ?_
    (case a => k_is)
    intro n_MOST_RULES
    refine' PD.with_int "MOST_QUESTIONS" KX G ?a ?_
    (case a => k_is)
    intro n_MOST_QUESTIONS
    refine' PD.with_int "MOST_VIEWS" KX G ?a ?_
    (case a => k_is)
    intro n_MOST_VIEWS
    refine' PD.with_str "LETTERS" KX G ?a ?_
    (case a => k_is)
    intro n_LETTERS
    refine' PD.with_str "DIGITS" KX G ?a ?_
    (case a => k_is)
    intro n_DIGITS
    refine' PD.with_str "SIGNS" KX G ?a ?_
    (case a => k_is)
    intro n_SIGNS
    refine' PD.with_str "RAW_SIGNS" KX G ?a ?_
    (case a => k_is)
    intro n_RAW_SIGNS
    refine' PD.with_str "WORD_SIGNS" KX G ?a ?_
    (case a => k_is)
    intro n_WORD_SIGNS
    refine' PD.with_str "LACKS" KX G ?a ?_
    (case a => k_is)
    intro n_LACKS
    refine' PD.with_tups "SEPARATORS" KX G (ls := [[44], [59], [124]]) ?a ?l ?z ?ss ?_
    (case a => k_is); (case l => k_is); (case z => decide); (case ss => exact (.cons ⟨_, rfl, rfl⟩ (.cons ⟨_, rfl, rfl⟩ (.cons ⟨_, rfl, rfl⟩ .nil))))
    intro n_SEPARATORS
    refine' PD.with_tab w "KINDS_OF_FORMS" KX G ?a ?l ?lit ?low ?_
    (case a => k_is); (case l => k_is); (case lit => exact ⟨⟨_, _, rfl, rfl⟩, ⟨⟨_, _, rfl, rfl⟩, ⟨⟨_, _, rfl, rfl⟩, ⟨⟨_, _, rfl, rfl⟩, ⟨⟨_, _, rfl, rfl⟩, trivial⟩⟩⟩⟩⟩); (case low => decide)
    intro a_KINDS_OF_FORMS D_KINDS_OF_FORMS
    refine' PD.with_item "lines" [108, 105, 110, 101, 115] ?e0 D_KINDS_OF_FORMS ?a0 ?_
    (case e0 => first | rfl | decide +kernel); (case a0 => k_is)
    intro t0_KINDS_OF_FORMS
    refine' PD.with_item "cards" [99, 97, 114, 100, 115] ?e1 D_KINDS_OF_FORMS ?a1 ?_
    (case e1 => first | rfl | decide +kernel); (case a1 => k_is)
    intro t1_KINDS_OF_FORMS
    refine' PD.with_item "columns" [99, 111, 108, 117, 109, 110, 115] ?e2 D_KINDS_OF_FORMS ?a2 ?_
    (case e2 => first | rfl | decide +kernel); (case a2 => k_is)
    intro t2_KINDS_OF_FORMS
    refine' PD.with_item "groups" [103, 114, 111, 117, 112, 115] ?e3 D_KINDS_OF_FORMS ?a3 ?_
    (case e3 => first | rfl | decide +kernel); (case a3 => k_is)
    intro t3_KINDS_OF_FORMS
    refine' PD.with_item "lists" [108, 105, 115, 116, 115] ?e4 D_KINDS_OF_FORMS ?a4 ?_
    (case e4 => first | rfl | decide +kernel); (case a4 => k_is)
    intro t4_KINDS_OF_FORMS
    refine' PD.with_tab w "CUTTERS" KX G ?a ?l ?lit ?low ?_
    (case a => k_is); (case l => k_is); (case lit => exact ⟨⟨_, _, rfl, rfl⟩, ⟨⟨_, _, rfl, rfl⟩, ⟨⟨_, _, rfl, rfl⟩, ⟨⟨_, _, rfl, rfl⟩, ⟨⟨_, _, rfl, rfl⟩, trivial⟩⟩⟩⟩⟩); (case low => decide)
    intro a_CUTTERS D_CUTTERS
    refine' PD.with_item "lines" [108, 105, 110, 101, 115] ?e0 D_CUTTERS ?a0 ?_
    (case e0 => first | rfl | decide +kernel); (case a0 => k_is)
    intro t0_CUTTERS
    refine' PD.with_item "cards" [99, 97, 114, 100, 115] ?e1 D_CUTTERS ?a1 ?_
    (case e1 => first | rfl | decide +kernel); (case a1 => k_is)
    intro t1_CUTTERS
    refine' PD.with_item "columns" [99, 111, 108, 117, 109, 110, 115] ?e2 D_CUTTERS ?a2 ?_
    (case e2 => first | rfl | decide +kernel); (case a2 => k_is)
    intro t2_CUTTERS
    refine' PD.with_item "groups" [103, 114, 111, 117, 112, 115] ?e3 D_CUTTERS ?a3 ?_
    (case e3 => first | rfl | decide +kernel); (case a3 => k_is)
    intro t3_CUTTERS
    refine' PD.with_item "lists" [108, 105, 115, 116, 115] ?e4 D_CUTTERS ?a4 ?_
    (case e4 => first | rfl | decide +kernel); (case a4 => k_is)
    intro t4_CUTTERS
    refine' PD.with_none "all" KX G ?a ?_
    (case a => k_is)
    intro b_all
    refine' PD.with_none "bool" KX G ?a ?_
    (case a => k_is)
    intro b_bool
    refine' PD.with_none "enumerate" KX G ?a ?_
    (case a => k_is)
    intro b_enumerate
    refine' PD.with_none "int" KX G ?a ?_
    (case a => k_is)
    intro b_int
    refine' PD.with_none "isinstance" KX G ?a ?_
    (case a => k_is)
    intro b_isinstance
    refine' PD.with_none "len" KX G ?a ?_
    (case a => k_is)
    intro b_len
    refine' PD.with_none "max" KX G ?a ?_
    (case a => k_is)
    intro b_max
    refine' PD.with_none "min" KX G ?a ?_
    (case a => k_is)
    intro b_min
    refine' PD.with_none "range" KX G ?a ?_
    (case a => k_is)
    intro b_range
    refine' PD.with_none "repr" KX G ?a ?_
    (case a => k_is)
    intro b_repr
    refine' PD.with_none "set" KX G ?a ?_
    (case a => k_is)
    intro b_set
    refine' PD.with_none "str" KX G ?a ?_
    (case a => k_is)
    intro b_str
    refine' PD.with_none "sum" KX G ?a ?_
    (case a => k_is)
    intro b_sum
    refine' PD.with_none "tuple" KX G ?a ?_
    (case a => k_is)
    intro b_tuple
    refine' PD.with_none "zip" KX G ?a ?_
    (case a => k_is)
    intro b_zip
    refine' PD.with_fn "is_integer" (K00.topS 35) KX ?a ?l ?c ?k ?_
    (case a => k_is); (case l => k_is); (case c => k_is); (case k => k_is)
    intro h0
    refine' PD.with_fn "is_word" (K00.topS 36) KX ?a ?l ?c ?k ?_
    (case a => k_is); (case l => k_is); (case c => k_is); (case k => k_is)
    intro h1
    refine' PD.with_fn "is_cell" (K00.topS 37) KX ?a ?l ?c ?k ?_
    (case a => k_is); (case l => k_is); (case c => k_is); (case k => k_is)
    intro h2
    refine' PD.with_fn "is_raw" (K00.topS 38) KX ?a ?l ?c ?k ?_
    (case a => k_is); (case l => k_is); (case c => k_is); (case k => k_is)
    intro h3
    refine' PD.with_fn "is_text" (K00.topS 39) KX ?a ?l ?c ?k ?_
    (case a => k_is); (case l => k_is); (case c => k_is); (case k => k_is)
    intro h4
    refine' PD.with_fn "check_text" (K00.topS 40) KX ?a ?l ?c ?k ?_
    (case a => k_is); (case l => k_is); (case c => k_is); (case k => k_is)
    intro h5
    refine' PD.with_fn "cell_key" (K00.topS 41) KX ?a ?l ?c ?k ?_
    (case a => k_is); (case l => k_is); (case c => k_is); (case k => k_is)
    intro h6
    refine' PD.with_fn "less_cell" (K00.topS 42) KX ?a ?l ?c ?k ?_
    (case a => k_is); (case l => k_is); (case c => k_is); (case k => k_is)
    intro h7
    refine' PD.with_fn "cell_of" (K00.topS 43) KX ?a ?l ?c ?k ?_
    (case a => k_is); (case l => k_is); (case c => k_is); (case k => k_is)
    intro h8
    refine' PD.with_fn "raw_of" (K00.topS 44) KX ?a ?l ?c ?k ?_
    (case a => k_is); (case l => k_is); (case c => k_is); (case k => k_is)
    intro h9
    refine' PD.with_fn "is_lines" (K00.topS 47) KX ?a ?l ?c ?k ?_
    (case a => k_is); (case l => k_is); (case c => k_is); (case k => k_is)
    intro h10
    refine' PD.with_fn "is_cards" (K00.topS 48) KX ?a ?l ?c ?k ?_
    (case a => k_is); (case l => k_is); (case c => k_is); (case k => k_is)
    intro h11
    refine' PD.with_fn "is_columns" (K00.topS 49) KX ?a ?l ?c ?k ?_
    (case a => k_is); (case l => k_is); (case c => k_is); (case k => k_is)
    intro h12
    refine' PD.with_fn "is_groups" (K00.topS 50) KX ?a ?l ?c ?k ?_
    (case a => k_is); (case l => k_is); (case c => k_is); (case k => k_is)
    intro h13
    refine' PD.with_fn "is_lists" (K00.topS 51) KX ?a ?l ?c ?k ?_
    (case a => k_is); (case l => k_is); (case c => k_is); (case k => k_is)
    intro h14
    refine' PD.with_fn "is_form" (K00.topS 53) KX ?a ?l ?c ?k ?_
    (case a => k_is); (case l => k_is); (case c => k_is); (case k => k_is)
    intro h15
    refine' PD.with_fn "check_form" (K00.topS 54) KX ?a ?l ?c ?k ?_
    (case a => k_is); (case l => k_is); (case c => k_is); (case k => k_is)
    intro h16
    refine' PD.with_fn "offsets_of" (K00.topS 55) KX ?a ?l ?c ?k ?_
    (case a => k_is); (case l => k_is); (case c => k_is); (case k => k_is)
    intro h17
    refine' PD.with_fn "lines_of" (K00.topS 57) KX ?a ?l ?c ?k ?_
    (case a => k_is); (case l => k_is); (case c => k_is); (case k => k_is)
    intro h18
    refine' PD.with_fn "behind_line" (K00.topS 58) KX ?a ?l ?c ?k ?_
    (case a => k_is); (case l => k_is); (case c => k_is); (case k => k_is)
    intro h19
    refine' PD.with_fn "first_in" (K00.topS 59) KX ?a ?l ?c ?k ?_
    (case a => k_is); (case l => k_is); (case c => k_is); (case k => k_is)
    intro h20
    refine' PD.with_fn "is_empty" (K00.topS 60) KX ?a ?l ?c ?k ?_
    (case a => k_is); (case l => k_is); (case c => k_is); (case k => k_is)
    intro h21
    refine' PD.with_fn "is_remark" (K00.topS 61) KX ?a ?l ?c ?k ?_
    (case a => k_is); (case l => k_is); (case c => k_is); (case k => k_is)
    intro h22
    refine' PD.with_fn "is_rest" (K00.topS 62) KX ?a ?l ?c ?k ?_
    (case a => k_is); (case l => k_is); (case c => k_is); (case k => k_is)
    intro h23
    refine' PD.with_fn "raw_end" (K00.topS 63) KX ?a ?l ?c ?k ?_
    (case a => k_is); (case l => k_is); (case c => k_is); (case k => k_is)
    intro h24
    refine' PD.with_fn "field_at" (K00.topS 64) KX ?a ?l ?c ?k ?_
    (case a => k_is); (case l => k_is); (case c => k_is); (case k => k_is)
    intro h25
    refine' PD.with_fn "fields_of" (K00.topS 65) KX ?a ?l ?c ?k ?_
    (case a => k_is); (case l => k_is); (case c => k_is); (case k => k_is)
    intro h26
    refine' PD.with_fn "raw_at" (K00.topS 66) KX ?a ?l ?c ?k ?_
    (case a => k_is); (case l => k_is); (case c => k_is); (case k => k_is)
    intro h27
    refine' PD.with_fn "put_row" (K00.topS 68) KX ?a ?l ?c ?k ?_
    (case a => k_is); (case l => k_is); (case c => k_is); (case k => k_is)
    intro h28
    refine' PD.with_fn "cut_lines" (K00.topS 69) KX ?a ?l ?c ?k ?_
    (case a => k_is); (case l => k_is); (case c => k_is); (case k => k_is)
    intro h29
    refine' PD.with_fn "column_field" (K00.topS 70) KX ?a ?l ?c ?k ?_
    (case a => k_is); (case l => k_is); (case c => k_is); (case k => k_is)
    intro h30
    refine' PD.with_fn "cut_columns" (K00.topS 71) KX ?a ?l ?c ?k ?_
    (case a => k_is); (case l => k_is); (case c => k_is); (case k => k_is)
    intro h31
    refine' PD.with_fn "blank_end" (K00.topS 72) KX ?a ?l ?c ?k ?_
    (case a => k_is); (case l => k_is); (case c => k_is); (case k => k_is)
    intro h32
    refine' PD.with_fn "begins_line" (K00.topS 73) KX ?a ?l ?c ?k ?_
    (case a => k_is); (case l => k_is); (case c => k_is); (case k => k_is)
    intro h33
    refine' PD.with_fn "list_at" (K00.topS 74) KX ?a ?l ?c ?k ?_
    (case a => k_is); (case l => k_is); (case c => k_is); (case k => k_is)
    intro h34
    refine' PD.with_fn "cut_lists" (K00.topS 75) KX ?a ?l ?c ?k ?_
    (case a => k_is); (case l => k_is); (case c => k_is); (case k => k_is)
    intro h35
    refine' PD.with_fn "card_line" (K00.topS 77) KX ?a ?l ?c ?k ?_
    (case a => k_is); (case l => k_is); (case c => k_is); (case k => k_is)
    intro h36
    refine' PD.with_fn "cut_cards" (K00.topS 79) KX ?a ?l ?c ?k ?_
    (case a => k_is); (case l => k_is); (case c => k_is); (case k => k_is)
    intro h37
    refine' PD.with_fn "group_line" (K00.topS 80) KX ?a ?l ?c ?k ?_
    (case a => k_is); (case l => k_is); (case c => k_is); (case k => k_is)
    intro h38
    refine' PD.with_fn "groups_of" (K00.topS 81) KX ?a ?l ?c ?k ?_
    (case a => k_is); (case l => k_is); (case c => k_is); (case k => k_is)
    intro h39
    refine' PD.with_fn "cut_groups" (K00.topS 82) KX ?a ?l ?c ?k ?_
    (case a => k_is); (case l => k_is); (case c => k_is); (case k => k_is)
    intro h40
    refine' PD.with_fn "cut_all" (K00.topS 85) KX ?a ?l ?c ?k ?_
    (case a => k_is); (case l => k_is); (case c => k_is); (case k => k_is)
    intro h41
    refine' PD.with_fn "cut" (K00.topS 86) KX ?a ?l ?c ?k ?_
    (case a => k_is); (case l => k_is); (case c => k_is); (case k => k_is)
    intro h42
    refine' PD.with_fn "raws_of" (K00.topS 87) KX ?a ?l ?c ?k ?_
    (case a => k_is); (case l => k_is); (case c => k_is); (case k => k_is)
    intro h43
    refine' PD.with_fn "raws" (K00.topS 88) KX ?a ?l ?c ?k ?_
    (case a => k_is); (case l => k_is); (case c => k_is); (case k => k_is)
    intro h44
    refine' PD.with_fn "_law_bag" (K00.topS 90) KX ?a ?l ?c ?k ?_
    (case a => k_is); (case l => k_is); (case c => k_is); (case k => k_is)
    intro h45
    refine' PD.with_fn "_law_draw" (K00.topS 91) KX ?a ?l ?c ?k ?_
    (case a => k_is); (case l => k_is); (case c => k_is); (case k => k_is)
    intro h46
    refine' PD.with_fn "_law_one" (K00.topS 92) KX ?a ?l ?c ?k ?_
    (case a => k_is); (case l => k_is); (case c => k_is); (case k => k_is)
    intro h47
    refine' PD.with_fn "_law_letters" (K00.topS 93) KX ?a ?l ?c ?k ?_
    (case a => k_is); (case l => k_is); (case c => k_is); (case k => k_is)
    intro h48
    refine' PD.with_fn "_law_is_word" (K00.topS 94) KX ?a ?l ?c ?k ?_
    (case a => k_is); (case l => k_is); (case c => k_is); (case k => k_is)
    intro h49
    refine' PD.with_fn "_law_is_cell" (K00.topS 95) KX ?a ?l ?c ?k ?_
    (case a => k_is); (case l => k_is); (case c => k_is); (case k => k_is)
    intro h50
    refine' PD.with_fn "_law_is_raw" (K00.topS 96) KX ?a ?l ?c ?k ?_
    (case a => k_is); (case l => k_is); (case c => k_is); (case k => k_is)
    intro h51
    refine' PD.with_fn "_law_cell_of" (K00.topS 97) KX ?a ?l ?c ?k ?_
    (case a => k_is); (case l => k_is); (case c => k_is); (case k => k_is)
    intro h52
    refine' PD.with_fn "_law_key" (K00.topS 98) KX ?a ?l ?c ?k ?_
    (case a => k_is); (case l => k_is); (case c => k_is); (case k => k_is)
    intro h53
    refine' PD.with_fn "_law_place" (K00.topS 99) KX ?a ?l ?c ?k ?_
    (case a => k_is); (case l => k_is); (case c => k_is); (case k => k_is)
    intro h54
    refine' PD.with_fn "_law_told" (K00.topS 100) KX ?a ?l ?c ?k ?_
    (case a => k_is); (case l => k_is); (case c => k_is); (case k => k_is)
    intro h55
    refine' PD.with_fn "law" (K00.topS 101) KX ?a ?l ?c ?k ?_
    (case a => k_is); (case l => k_is); (case c => k_is); (case k => k_is)
    intro h56
    refine PD.law_end2 KX G hmg (.cons h0 (.cons h1 (.cons h2 (.cons h3 (.cons h4 (.cons h5 (.cons h6 (.cons h7 (.cons h8 (.cons h9 (.cons h10 (.cons h11 (.cons h12 (.cons h13 (.cons h14 (.cons h15 (.cons h16 (.cons h17 (.cons h18 (.cons h19 (.cons h20 (.cons h21 (.cons h22 (.cons h23 (.cons h24 (.cons h25 (.cons h26 (.cons h27 (.cons h28 (.cons h29 (.cons h30 (.cons h31 (.cons h32 (.cons h33 (.cons h34 (.cons h35 (.cons h36 (.cons h37 (.cons h38 (.cons h39 (.cons h40 (.cons h41 (.cons h42 (.cons h43 (.cons h44 (.cons h45 (.cons h46 (.cons h47 (.cons h48 (.cons h49 (.cons h50 (.cons h51 (.cons h52 (.cons h53 (.cons h54 (.cons h55 (.cons h56 .nil))))))))))))))))))))))))))))))))))))))))))))))))))))))))) (.cons c0 (.cons c1 (.cons c2 (.cons c3 (.cons c4 (.cons c5 (.cons c6 (.cons c7 (.cons c8 (.cons c9 (.cons c10 (.cons c11 (.cons c12 .nil))))))))))))) (glL := K00.glL) (T := K00.T) (cls := K00.cls) (sub := K00.sub) ?hn (by kernel_rfl) K00.T_ok (by kernel_rfl) (j := 12) (d := K00.T.getD 56 ⟨"", K00.topS 0, [], [], fun _ => PD.sNext⟩) h56 (by simp [K00.T]) rfl rfl (fun ns hl => K00.e_law ns hl)
    case hn => exact ⟨PD.nm_cls m0 rfl, PD.nm_cls m1 rfl, PD.nm_cls m2 rfl, PD.nm_cls m3 rfl, PD.nm_cls m4 rfl, PD.nm_cls m5 rfl, PD.nm_cls m6 rfl, PD.nm_cls m7 rfl, PD.nm_cls m8 rfl, PD.nm_cls m9 rfl, PD.nm_cls m10 rfl, PD.nm_cls m11 rfl, PD.nm_cls m12 rfl, PD.nm_int n_MOST_TEXT, PD.nm_int n_MOST_WORD, PD.nm_int n_MOST_RAW, PD.nm_int n_MOST_NUMBER, PD.nm_int n_MOST_FIELDS, PD.nm_int n_MOST_ROWS, PD.nm_int n_MOST_TABLES, PD.nm_int n_MOST_COLUMNS, PD.nm_int n_MOST_LINKS, PD.nm_int n_MOST_WORDS, PD.nm_int n_MOST_SOURCES, PD.nm_int n_MOST_RULES, PD.nm_int n_MOST_QUESTIONS, PD.nm_int n_MOST_VIEWS, PD.nm_str n_LETTERS (by first | rfl | decide +kernel) (by decide +kernel), PD.nm_str n_DIGITS (by first | rfl | decide +kernel) (by decide +kernel), PD.nm_str n_SIGNS (by first | rfl | decide +kernel) (by decide +kernel), PD.nm_str n_RAW_SIGNS (by first | rfl | decide +kernel) (by decide +kernel), PD.nm_str n_WORD_SIGNS (by first | rfl | decide +kernel) (by decide +kernel), PD.nm_str n_LACKS (by first | rfl | decide +kernel) (by decide +kernel), PD.nm_fn KX G h0 rfl, PD.nm_fn KX G h1 rfl, PD.nm_fn KX G h2 rfl, PD.nm_fn KX G h3 rfl, PD.nm_fn KX G h4 rfl, PD.nm_fn KX G h5 rfl, PD.nm_fn KX G h6 rfl, PD.nm_fn KX G h7 rfl, PD.nm_fn KX G h8 rfl, PD.nm_fn KX G h9 rfl, (n_SEPARATORS _ _ _), PD.nm_fn KX G h10 rfl, PD.nm_fn KX G h11 rfl, PD.nm_fn KX G h12 rfl, PD.nm_fn KX G h13 rfl, PD.nm_fn KX G h14 rfl, PD.nm_tab a_KINDS_OF_FORMS D_KINDS_OF_FORMS ⟨⟨_, rfl, t0_KINDS_OF_FORMS⟩, ⟨_, rfl, t1_KINDS_OF_FORMS⟩, ⟨_, rfl, t2_KINDS_OF_FORMS⟩, ⟨_, rfl, t3_KINDS_OF_FORMS⟩, ⟨_, rfl, t4_KINDS_OF_FORMS⟩, trivial⟩, PD.nm_fn KX G h15 rfl, PD.nm_fn KX G h16 rfl, PD.nm_fn KX G h17 rfl, PD.nm_fn KX G h18 rfl, PD.nm_fn KX G h19 rfl, PD.nm_fn KX G h20 rfl, PD.nm_fn KX G h21 rfl, PD.nm_fn KX G h22 rfl, PD.nm_fn KX G h23 rfl, PD.nm_fn KX G h24 rfl, PD.nm_fn KX G h25 rfl, PD.nm_fn KX G h26 rfl, PD.nm_fn KX G h27 rfl, PD.nm_fn KX G h28 rfl, PD.nm_fn KX G h29 rfl, PD.nm_fn KX G h30 rfl, PD.nm_fn KX G h31 rfl, PD.nm_fn KX G h32 rfl, PD.nm_fn KX G h33 rfl, PD.nm_fn KX G h34 rfl, PD.nm_fn KX G h35 rfl, PD.nm_fn KX G h36 rfl, PD.nm_fn KX G h37 rfl, PD.nm_fn KX G h38 rfl, PD.nm_fn KX G h39 rfl, PD.nm_fn KX G h40 rfl, PD.nm_tab a_CUTTERS D_CUTTERS ⟨⟨_, rfl, t0_CUTTERS⟩, ⟨_, rfl, t1_CUTTERS⟩, ⟨_, rfl, t2_CUTTERS⟩, ⟨_, rfl, t3_CUTTERS⟩, ⟨_, rfl, t4_CUTTERS⟩, trivial⟩, PD.nm_fn KX G h41 rfl, PD.nm_fn KX G h42 rfl, PD.nm_fn KX G h43 rfl, PD.nm_fn KX G h44 rfl, PD.nm_fn KX G h45 rfl, PD.nm_fn KX G h46 rfl, PD.nm_fn KX G h47 rfl, PD.nm_fn KX G h48 rfl, PD.nm_fn KX G h49 rfl, PD.nm_fn KX G h50 rfl, PD.nm_fn KX G h51 rfl, PD.nm_fn KX G h52 rfl, PD.nm_fn KX G h53 rfl, PD.nm_fn KX G h54 rfl, PD.nm_fn KX G h55 rfl, PD.nm_fn KX G h56 rfl, b_all, b_bool, b_enumerate, b_int, b_isinstance, b_len, b_max, b_min, b_range, b_repr, b_set, b_str, b_sum, b_tuple, b_zip, trivial⟩
end
