import PyProof.Rows.All
import Wide.All
import OpenK.AllK
import Wide.FinOn
import HandS.ForMost
import HandS.Exc
import HandS.TryOnly
import HandS.ExcOwn
import HandS.CallSlots
import HandS.Wide
import HandS.Gcd
import HandS.TupAny
import HandS.TupLe
import HandS.Deep
import HandS.IsInst
import HandS.Zip
import HandS.Small
import HandS.Lambda
import HandS.ExcIs
import HandS.Rev
import HandS.Flow
import HandS.Style
import HandS.Ends
import HandS.WordsExc
import PySem.Challenge.RW_threeexits_k18_frames_judged
set_option Elab.async false
set_option linter.all false
set_option maxRecDepth 100000
set_option maxHeartbeats 8000000
set_option exponentiation.threshold 100000
set_option autoImplicit false
/-! PV0: values, store, the small syntax, the evaluator. -/
namespace PV
open PySem

/-- pure data -/
inductive D where
  | non
  | bl (b : Bool)
  | int (i : Int)
  | str (x : Str)
  | tup (l : List D)
  | lst (l : List D)
  | ins (c : Nat) (l : List D)
  /-- the script: a list that is read only -/
  | scr (l : List Int)
/-- what a name may hold: pure data, or a reference into the store -/
inductive U where
  | d (x : D)
  | ref (n : Nat)
/-- a mutable object -/
inductive MO where
  | lst (l : List U)

inductive Bop where | add | sub | mul | fdiv | mod | pow
inductive Cop where | eq | ne | lt | le | gt | ge | is_ | isnot | in_ | notin
inductive Ty where | int | bool | str | tuple | list
  deriving DecidableEq
inductive Bf where | len | abs | int | tuple | list | all | any | gcd | sum | min2 | max2
inductive Ik where | seq | rng1 | rng2 | enum | zip
/-- a target of names -/
inductive Tn where
  | nm (i : Nat)
  | tup (l : List Tn)

inductive E where
  | slot (i : Nat)
  | con (d : D)
  | gl (i : Nat)
  | bin (m : Bool) (op : Bop) (a b : E)
  | cmp (op : Cop) (a b : E)
  | chain (o1 o2 : Cop) (a b c : E)
  | neg (a : E)
  | not (a : E)
  | and (l : List E)
  | or (l : List E)
  | ite (c a b : E)
  | idx (a i : E)
  | slc (m : Bool) (a : E) (lo hi : Option E)
  | rev (m : Bool) (a : E)
  | tup (l : List E)
  | lst (m : Bool) (l : List E)
  | blt (m : Bool) (f : Bf) (args : List E)
  | isi (a : E) (t : Ty)
  | call (p : Bool) (f : Nat) (args : List E)
  | lc (m : Bool) (own : List Nat) (t : Tn) (k : Ik) (args : List E) (cnd : List E) (elt : E)

inductive Tg where
  | nm (i : Nat)
  | tup (l : List Tg)
  | idx (o i : E)

inductive S where
  | asg (t : Tg) (e : E)
  | par (i j : Nat) (a b : E)
  | aug (i : Nat) (op : Bop) (e : E)
  | expr (e : E)
  | app (o e : E)
  | ret (e : E)
  | retn
  | ite (c : E) (a b : List S)
  | whil (c : E) (b : List S)
  | for (t : Tn) (k : Ik) (args : List E) (b : List S)
  | raise (c : Nat)
  | tryi (b : List S) (c : Nat) (t : Nat) (e : Nat) (cs : List Nat)
  | pass
  | brk
  | cont

structure Exn where
  cls : Nat

abbrev Gam := List (Option U)
abbrev Sto := List MO

/-- told, not computed -/
theorem nr {α : Type} {a b : α} (h : a = b) : a = b := h
inductive Res (α : Type) where
  | ok (a : α) (S : Sto)
  | exc (x : Exn) (S : Sto)
  | stuck
def Res.bind {α β : Type} (r : Res α) (f : α → Sto → Res β) : Res β :=
  match r with
  | .ok a S => f a S
  | .exc x S => .exc x S
  | .stuck => .stuck
@[simp] theorem Res.bind_ok {α β : Type} (a : α) (S : Sto) (f : α → Sto → Res β) : (Res.ok a S).bind f = f a S := nr rfl
@[simp] theorem Res.bind_exc {α β : Type} (x : Exn) (S : Sto) (f : α → Sto → Res β) : (Res.exc x S : Res α).bind f = .exc x S := nr rfl
@[simp] theorem Res.bind_stuck {α β : Type} (f : α → Sto → Res β) : (Res.stuck : Res α).bind f = .stuck := nr rfl

/-- a pure call's end -/
inductive PR where
  | ok (d : D)
  | exc (x : Exn)
  | stuck
inductive Fl where
  | nx | brk | cont
  | ret (u : U)
inductive RS where
  | ok (f : Fl) (g : Gam) (S : Sto)
  | exc (x : Exn) (g : Gam) (S : Sto)
  | stuck

structure Ctx where
  fp : Nat → List D → PR
  fn : Nat → List U → Sto → Res U
  gl : Nat → Option D
  /-- the exception class of this number is one below that one -/
  sub : Nat → Nat → Bool
  fuel : Nat

/-! ### values -/
mutual
def toPD : D → PyData
  | .non => .none
  | .bl b => .bool b
  | .int i => .int i
  | .str x => .str x
  | .tup l => .tuple (toPDs l)
  | .lst l => .list (toPDs l)
  | .ins _ _ => .dict []
  | .scr _ => .dict []
def toPDs : List D → List PyData
  | [] => []
  | x :: r => toPD x :: toPDs r
end
def okD (d : D) : Bool := SeqAt.shaped (toPD d)
def eqD (a b : D) : Bool := PyData.eqv (toPD a) (toPD b)

/-- a list's items, all pure -/
def pures : List U → Option (List D)
  | [] => some []
  | .d x :: r => (pures r).map (x :: ·)
  | .ref _ :: _ => none
/-- the data that a value is, as the store stands -/
def snap (S : Sto) : U → Option D
  | .d x => some x
  | .ref n => match S[n]? with
    | some (.lst us) => (pures us).map D.lst
    | none => none
def mkL (m : Bool) (us : List U) (S : Sto) : Res U :=
  if m then .ok (.ref S.length) (S ++ [.lst us]) else match pures us with
    | some ds => .ok (.d (.lst ds)) S
    | none => .stuck
def mkT (us : List U) (S : Sto) : Res U := match pures us with
  | some ds => .ok (.d (.tup ds)) S
  | none => .stuck
/-- the items of a tuple or a list -/
def items (S : Sto) : U → Option (List U)
  | .d (.tup l) => some (l.map U.d)
  | .d (.scr l) => some (l.map fun i => U.d (.int i))
  | .d (.lst l) => some (l.map U.d)
  | .ref n => match S[n]? with
    | some (.lst us) => some us
    | none => none
  | _ => none
def lstItems (S : Sto) : U → Option (List U)
  | .d (.lst l) => some (l.map U.d)
  | .ref n => match S[n]? with
    | some (.lst us) => some us
    | none => none
  | _ => none
def truth (S : Sto) : U → Option Bool
  | .d .non => some false
  | .d (.bl b) => some b
  | .d (.int i) => some (i != 0)
  | .d (.str x) => if x.length ≤ sizeLine then some ((x.length : Int) != 0) else none
  | .d (.tup l) => some (!l.isEmpty)
  | .d (.lst l) => some (!l.isEmpty)
  | .d (.ins _ _) => none
  | .d (.scr l) => some (!l.isEmpty)
  | .ref n => match S[n]? with
    | some (.lst us) => some (!us.isEmpty)
    | none => none
def fits (n : Nat) : Bool := decide (n ≤ sizeLine)

def opB (m : Bool) (op : Bop) (x y : U) (S : Sto) : Res U :=
  match op, x, y with
  | .add, .d (.int i), .d (.int j) => .ok (.d (.int (i + j))) S
  | .sub, .d (.int i), .d (.int j) => .ok (.d (.int (i - j))) S
  | .mul, .d (.int i), .d (.int j) => if i.natAbs.log2 + j.natAbs.log2 < 1000000 then .ok (.d (.int (i * j))) S else .stuck
  | .fdiv, .d (.int i), .d (.int j) => if j ≠ 0 ∧ j.natAbs.log2 < 9000 then .ok (.d (.int (i.fdiv j))) S else .stuck
  | .mod, .d (.int i), .d (.int j) => if j ≠ 0 then .ok (.d (.int (i.fmod j))) S else .stuck
  | .pow, .d (.int i), .d (.int j) => if 0 ≤ j ∧ j ≤ 1000000 ∧ i.natAbs < 2 ^ 64 then .ok (.d (.int (i ^ j.toNat))) S else .stuck
  | .add, .d (.tup a), .d (.tup b) => if fits (a.length + b.length) then .ok (.d (.tup (a ++ b))) S else .stuck
  | .add, .d (.str a), .d (.str b) => if fits (a.length + b.length) then .ok (.d (.str (a ++ b))) S else .stuck
  | .add, x, y => match lstItems S x, lstItems S y with
    | some a, some b => if fits (a.length + b.length) then mkL m (a ++ b) S else .stuck
    | _, _ => .stuck
  | _, _, _ => .stuck

def cmpI (op : Cop) (i j : Int) : Option Bool :=
  match op with
  | .lt => some (decide (i < j))
  | .le => some (decide (i ≤ j))
  | .gt => some (decide (j < i))
  | .ge => some (decide (j ≤ i))
  | _ => none
def isNon : D → Bool
  | .non => true
  | _ => false
def opC (op : Cop) (x y : U) (S : Sto) : Res U :=
  match op with
  | .eq => match snap S x, snap S y with
    | some a, some b => if okD a && okD b then .ok (.d (.bl (eqD a b))) S else .stuck
    | _, _ => .stuck
  | .ne => match snap S x, snap S y with
    | some a, some b => if okD a && okD b then .ok (.d (.bl (!eqD a b))) S else .stuck
    | _, _ => .stuck
  | .is_ => match x, y with
    | .d (.bl a), .d (.bl b) => .ok (.d (.bl (decide (a = b)))) S
    | .d a, .d .non => .ok (.d (.bl (isNon a))) S
    | .ref _, .d .non => .ok (.d (.bl false)) S
    | _, _ => .stuck
  | .isnot => match x, y with
    | .d (.bl a), .d (.bl b) => .ok (.d (.bl (!decide (a = b)))) S
    | .d a, .d .non => .ok (.d (.bl (!isNon a))) S
    | .ref _, .d .non => .ok (.d (.bl true)) S
    | _, _ => .stuck
  | .in_ => match x, y with
    | .d d, .d (.lst l) => if okD d && okD (.lst l) then .ok (.d (.bl (l.any fun z => eqD z d))) S else .stuck
    | _, _ => .stuck
  | .notin => match x, y with
    | .d d, .d (.lst l) => if okD d && okD (.lst l) then .ok (.d (.bl (!l.any fun z => eqD z d))) S else .stuck
    | _, _ => .stuck
  | op => match x, y with
    | .d (.int i), .d (.int j) => match cmpI op i j with
      | some b => .ok (.d (.bl b)) S
      | none => .stuck
    | _, _ => .stuck

def getIx (x y : U) (S : Sto) : Res U :=
  match y with
  | .d (.int i) => match x with
    | .d (.str z) => if fits z.length then (match L2.atI z.cps.toList i with
      | some c => .ok (.d (.str ⟨#[c]⟩)) S
      | none => .stuck) else .stuck
    | x => match items S x with
      | some l => match L2.atI l i with
        | some u => .ok u S
        | none => .stuck
      | none => .stuck
  | _ => .stuck
def cutL {α : Type} (xs : List α) (lo hi : Option Int) : List α := (xs.drop (HT.sIx xs.length 0 lo)).take (HT.sIx xs.length xs.length hi - HT.sIx xs.length 0 lo)
def getSl (m : Bool) (x : U) (l h : Option Int) (S : Sto) : Res U :=
  match x with
  | .d (.tup xs) => .ok (.d (.tup (cutL xs l h))) S
  | .d (.scr xs) => mkL m ((cutL xs l h).map fun i => U.d (.int i)) S
  | x => match lstItems S x with
    | some us => mkL m (cutL us l h) S
    | none => .stuck
def getRev (m : Bool) (x : U) (S : Sto) : Res U :=
  match x with
  | .d (.tup xs) => .ok (.d (.tup xs.reverse)) S
  | x => match lstItems S x with
    | some us => mkL m us.reverse S
    | none => .stuck
def isTy : Ty → D → Option Bool
  | _, .ins _ _ => none
  | _, .scr _ => none
  | .int, .int _ => some true
  | .int, .bl _ => some true
  | .bool, .bl _ => some true
  | .str, .str _ => some true
  | .tuple, .tup _ => some true
  | .list, .lst _ => some true
  | _, _ => some false
def isTyU (t : Ty) (S : Sto) : U → Option Bool
  | .d x => isTy t x
  | .ref n => match S[n]? with
    | some (.lst _) => some (decide (t = .list))
    | none => none
def boolsOf : List U → Option (List Bool)
  | [] => some []
  | .d (.bl b) :: r => (boolsOf r).map (b :: ·)
  | _ :: _ => none
def intsOf : List U → Option (List Int)
  | [] => some []
  | .d (.int b) :: r => (intsOf r).map (b :: ·)
  | _ :: _ => none
def opF (m : Bool) (f : Bf) (xs : List U) (S : Sto) : Res U :=
  match f, xs with
  | .len, [.d (.str z)] => if fits z.length then .ok (.d (.int z.length)) S else .stuck
  | .len, [x] => match items S x with
    | some l => .ok (.d (.int l.length)) S
    | none => .stuck
  | .abs, [.d (.int i)] => .ok (.d (.int (if i < 0 then -i else i))) S
  | .int, [.d (.int i)] => .ok (.d (.int i)) S
  | .int, [.d (.bl k)] => .ok (.d (.int (if k then 1 else 0))) S
  | .tuple, [.d (.tup l)] => .ok (.d (.tup l)) S
  | .tuple, [x] => match lstItems S x with
    | some l => mkT l S
    | none => .stuck
  | .list, [x] => match items S x with
    | some l => mkL m l S
    | none => .stuck
  | .all, [x] => match lstItems S x with
    | some l => match boolsOf l with
      | some bs => .ok (.d (.bl (bs.all id))) S
      | none => .stuck
    | none => .stuck
  | .any, [x] => match lstItems S x with
    | some l => match boolsOf l with
      | some bs => .ok (.d (.bl (bs.any id))) S
      | none => .stuck
    | none => .stuck
  | .sum, [x] => match lstItems S x with
    | some l => match intsOf l with
      | some ns => .ok (.d (.int ns.sum)) S
      | none => .stuck
    | none => .stuck
  | .gcd, [.d (.int a), .d (.int b)] => .ok (.d (.int ((Nat.gcd a.natAbs b.natAbs : Nat) : Int))) S
  | .max2, [.d (.int i), .d (.int j)] => .ok (.d (.int (if j > i then j else i))) S
  | .min2, [.d (.int i), .d (.int j)] => .ok (.d (.int (if j < i then j else i))) S
  | _, _ => .stuck

/-! ### what a loop walks -/
inductive ItV where
  | items (l : List U)
  | rng (lo : Int) (n : Nat)
  | dyn (n : Nat)
  | enumDyn (n : Nat)
/-- turn i: none: stuck; some none: the end -/
def ItV.at (S : Sto) (i : Nat) : ItV → Option (Option U)
  | .items l => some l[i]?
  | .rng lo n => some (if i < n then some (.d (.int (lo + i))) else none)
  | .dyn n => match S[n]? with
    | some (.lst us) => some us[i]?
    | none => none
  | .enumDyn n => match S[n]? with
    | some (.lst us) => match us[i]? with
      | none => some none
      | some (.d x) => some (some (.d (.tup [.int (i : Nat), x])))
      | some (.ref _) => none
    | none => none
def enumL : Nat → List D → List U
  | _, [] => []
  | n, x :: r => .d (.tup [.int (n : Nat), x]) :: enumL (n + 1) r
def zipL : List D → List D → List U
  | x :: r, y :: s => .d (.tup [x, y]) :: zipL r s
  | _, _ => []
def small62 (i : Int) : Bool := decide (-(2 ^ 62) ≤ i ∧ i < 2 ^ 62)
def itSeq (u : U) : Option ItV := match u with
  | .d (.tup l) => some (.items (l.map U.d))
  | .d (.lst l) => some (.items (l.map U.d))
  | .d (.scr l) => some (.items (l.map fun i => U.d (.int i)))
  | .ref n => some (.dyn n)
  | _ => none
def itR1 (u : U) : Option ItV := match u with
  | .d (.int j) => if small62 j = true then some (.rng 0 j.toNat) else none
  | _ => none
def itR2 (u w : U) : Option ItV := match u, w with
  | .d (.int i), .d (.int j) => if small62 i = true ∧ small62 j = true then some (.rng i (j - i).toNat) else none
  | _, _ => none
def itEn (u : U) : Option ItV := match u with
  | .d (.lst l) => some (.items (enumL 0 l))
  | .ref n => some (.enumDyn n)
  | _ => none
def itZ (u w : U) : Option ItV := match u, w with
  | .d (.lst a), .d (.lst b) => some (.items (zipL a b))
  | .d (.tup a), .d (.tup b) => some (.items (zipL a b))
  | _, _ => none
def itOf (k : Ik) (xs : List U) (S : Sto) : Option ItV :=
  match k with
  | .seq => match xs with
    | [u] => itSeq u
    | _ => none
  | .rng1 => match xs with
    | [u] => itR1 u
    | _ => none
  | .rng2 => match xs with
    | [u, w] => itR2 u w
    | _ => none
  | .enum => match xs with
    | [u] => itEn u
    | _ => none
  | .zip => match xs with
    | [u, w] => itZ u w
    | _ => none
def ItV.fuel (fuel : Nat) : ItV → Nat
  | .items l => l.length + 1
  | .rng _ n => n + 1
  | _ => fuel
mutual
/-- a target of names takes a value -/
def bindT : Tn → U → Gam → Option Gam
  | .nm i, u, g => if i < g.length then some (g.set i (some u)) else none
  | .tup ts, .d (.tup l), g => bindTs ts l g
  | .tup ts, .d (.lst l), g => bindTs ts l g
  | .tup _, _, _ => none
def bindTs : List Tn → List D → Gam → Option Gam
  | [], [], g => some g
  | t :: ts, x :: xs, g => match bindT t (.d x) g with
    | some g' => bindTs ts xs g'
    | none => none
  | _, _, _ => none
end
def wipeG (g : Gam) : List Nat → Gam
  | [] => g
  | v :: vs => (wipeG g vs).set v none
/-- a comprehension's loop: the items so far, backwards -/
def lcLoop (v : ItV) (turn : U → Sto → Res (Option U)) : Nat → Nat → List U → Sto → Res (List U)
  | 0, _, _, _ => .stuck
  | n + 1, i, acc, S => match v.at S i with
    | none => .stuck
    | some none => .ok acc S
    | some (some x) => match turn x S with
      | .ok none S' => lcLoop v turn n (i + 1) acc S'
      | .ok (some y) S' => if acc.length < sizeLine then lcLoop v turn n (i + 1) (acc ++ [y]) S' else .stuck
      | _ => .stuck
def forLoop (v : ItV) (t : Tn) (body : Gam → Sto → RS) : Nat → Nat → Gam → Sto → RS
  | 0, _, _, _ => .stuck
  | n + 1, i, g, S => match v.at S i with
    | none => .stuck
    | some none => .ok .nx g S
    | some (some x) => match bindT t x g with
      | none => .stuck
      | some g' => match body g' S with
        | .ok .nx g2 S2 => forLoop v t body n (i + 1) g2 S2
        | .ok .cont g2 S2 => forLoop v t body n (i + 1) g2 S2
        | .ok .brk g2 S2 => .ok .nx g2 S2
        | r => r
def whileLoop (test : Gam → Sto → Res Bool) (body : Gam → Sto → RS) : Nat → Gam → Sto → RS
  | 0, _, _ => .stuck
  | n + 1, g, S => match test g S with
    | .stuck => .stuck
    | .exc x S' => .exc x g S'
    | .ok false S' => .ok .nx g S'
    | .ok true S' => match body g S' with
      | .ok .nx g2 S2 => whileLoop test body n g2 S2
      | .ok .cont g2 S2 => whileLoop test body n g2 S2
      | .ok .brk g2 S2 => .ok .nx g2 S2
      | r => r

/-! ### expressions -/
def truS (u : U) (S : Sto) : Res Bool := match truth S u with
  | some b => .ok b S
  | none => .stuck
def tru (r : Res U) : Res Bool := r.bind truS
def negU (u : U) (S : Sto) : Res U := match u with
  | .d (.int i) => .ok (.d (.int (-i))) S
  | _ => .stuck
def intU (u : U) (S : Sto) : Res (Option Int) := match u with
  | .d (.int i) => .ok (some i) S
  | _ => .stuck
def chainK (u : U) (k : Sto → Res U) (S : Sto) : Res U := match u with
  | .d (.bl b) => if b = true then k S else .ok (.d (.bl false)) S
  | _ => .stuck
def isiU (t : Ty) (u : U) (S : Sto) : Res U := match isTyU t S u with
  | some b => .ok (.d (.bl b)) S
  | none => .stuck
def prU (p : PR) (S : Sto) : Res U := match p with
  | .ok d => .ok (.d d) S
  | .exc x => .exc x S
  | .stuck => .stuck
def callU (C : Ctx) (p : Bool) (f : Nat) (us : List U) (S : Sto) : Res U := if p = true then (match pures us with
  | some ds => prU (C.fp f ds) S
  | none => .stuck) else C.fn f us S
def slotU (g : Gam) (i : Nat) (S : Sto) : Res U := match g[i]? with
  | some (some u) => .ok u S
  | _ => .stuck
def glU (C : Ctx) (i : Nat) (S : Sto) : Res U := match C.gl i with
  | some d => .ok (.d d) S
  | none => .stuck
/-- a comprehension's turn: the target, the test, the element -/
def lcTurn (t : Tn) (own : List Nat) (cnd : Gam → Sto → Res Bool) (elt : Gam → Sto → Res U) (g : Gam) (x : U) (S : Sto) : Res (Option U) := match bindT t x (wipeG g own) with
  | none => .stuck
  | some g' => (cnd g' S).bind fun b S => if b = true then (elt g' S).bind fun y S => .ok (some y) S else .ok none S
def lcAll (C : Ctx) (m : Bool) (k : Ik) (turn : U → Sto → Res (Option U)) (us : List U) (S : Sto) : Res U := match itOf k us S with
  | none => .stuck
  | some v => (lcLoop v turn (v.fuel C.fuel) 0 [] S).bind fun acc S => mkL m acc S
mutual
def evE (C : Ctx) : E → Gam → Sto → Res U
  | .slot i, g, S => slotU g i S
  | .con d, _, S => .ok (.d d) S
  | .gl i, _, S => glU C i S
  | .bin m op a b, g, S => (evE C a g S).bind fun x S => (evE C b g S).bind fun y S => opB m op x y S
  | .cmp op a b, g, S => (evE C a g S).bind fun x S => (evE C b g S).bind fun y S => opC op x y S
  | .chain o1 o2 a b c, g, S => (evE C a g S).bind fun x S => (evE C b g S).bind fun y S => (opC o1 x y S).bind fun r S => chainK r (fun S => (evE C c g S).bind fun z S => opC o2 y z S) S
  | .neg a, g, S => (evE C a g S).bind fun x S => negU x S
  | .not a, g, S => (evE C a g S).bind fun x S => (truS x S).bind fun b S => .ok (.d (.bl (!b))) S
  | .and l, g, S => evAnd C l g S
  | .or l, g, S => evOr C l g S
  | .ite c a b, g, S => (tru (evE C c g S)).bind fun k S => if k = true then evE C a g S else evE C b g S
  | .idx a i, g, S => (evE C a g S).bind fun x S => (evE C i g S).bind fun y S => getIx x y S
  | .slc m a lo hi, g, S => (evE C a g S).bind fun x S => (evO C lo g S).bind fun l S => (evO C hi g S).bind fun h S => getSl m x l h S
  | .rev m a, g, S => (evE C a g S).bind fun x S => getRev m x S
  | .tup l, g, S => (evEs C l g S).bind fun us S => if fits us.length = true then mkT us S else .stuck
  | .lst m l, g, S => (evEs C l g S).bind fun us S => if fits us.length = true then mkL m us S else .stuck
  | .blt m f args, g, S => (evEs C args g S).bind fun us S => opF m f us S
  | .isi a t, g, S => (evE C a g S).bind fun x S => isiU t x S
  | .call p f args, g, S => (evEs C args g S).bind fun us S => callU C p f us S
  | .lc m own t k args cnd elt, g, S => (evEs C args g S).bind fun us S => lcAll C m k (lcTurn t own (evCnd C cnd) (evE C elt) g) us S
def evEs (C : Ctx) : List E → Gam → Sto → Res (List U)
  | [], _, S => .ok [] S
  | e :: r, g, S => (evE C e g S).bind fun u S => (evEs C r g S).bind fun us S => .ok (u :: us) S
def evO (C : Ctx) : Option E → Gam → Sto → Res (Option Int)
  | none, _, S => .ok none S
  | some e, g, S => (evE C e g S).bind fun u S => intU u S
def evAnd (C : Ctx) : List E → Gam → Sto → Res U
  | [], _, _ => .stuck
  | e :: [], g, S => evE C e g S
  | e :: e' :: r, g, S => (evE C e g S).bind fun x S => (truS x S).bind fun b S => if b = true then evAnd C (e' :: r) g S else .ok x S
def evOr (C : Ctx) : List E → Gam → Sto → Res U
  | [], _, _ => .stuck
  | e :: [], g, S => evE C e g S
  | e :: e' :: r, g, S => (evE C e g S).bind fun x S => (truS x S).bind fun b S => if b = true then .ok x S else evOr C (e' :: r) g S
def evCnd (C : Ctx) : List E → Gam → Sto → Res Bool
  | [], _, S => .ok true S
  | e :: r, g, S => (tru (evE C e g S)).bind fun b S => if b = true then evCnd C r g S else .ok false S
end

/-! ### statements -/
def setIx (o i v : U) (S : Sto) : Option Sto :=
  match o, i with
  | .ref n, .d (.int k) => match S[n]? with
    | some (.lst us) => match L2.ixN us.length k with
      | some j => some (S.set n (.lst (us.set j v)))
      | none => none
    | none => none
  | _, _ => none
def itemsT (S : Sto) : U → Option (List U) := items S
def withR {α : Type} (r : Res α) (g : Gam) (f : α → Sto → RS) : RS :=
  match r with
  | .ok a S => f a S
  | .exc x S => .exc x g S
  | .stuck => .stuck
@[simp] theorem withR_ok {α : Type} (a : α) (S : Sto) (g : Gam) (f : α → Sto → RS) : withR (.ok a S) g f = f a S := nr rfl
@[simp] theorem withR_exc {α : Type} (x : Exn) (S : Sto) (g : Gam) (f : α → Sto → RS) : withR (.exc x S) g f = .exc x g S := nr rfl
@[simp] theorem withR_stuck {α : Type} (g : Gam) (f : α → Sto → RS) : withR .stuck g f = .stuck := nr rfl
def parK (i j : Nat) (x y : U) (g : Gam) (S : Sto) : RS := if i < g.length ∧ j < g.length ∧ i ≠ j then .ok .nx ((g.set i (some x)).set j (some y)) S else .stuck
def augK (i : Nat) (op : Bop) (x y : U) (g : Gam) (S : Sto) : RS := match op, x, y with
  | .add, .d (.int a), .d (.int b) => .ok .nx (g.set i (some (.d (.int (a + b))))) S
  | .sub, .d (.int a), .d (.int b) => .ok .nx (g.set i (some (.d (.int (a - b))))) S
  | _, _, _ => .stuck
def appK (n : Nat) (v : U) (g : Gam) (S : Sto) : RS := match S[n]? with
  | some (.lst us) => if us.length < sizeLine then .ok .nx g (S.set n (.lst (us ++ [v]))) else .stuck
  | none => .stuck
def refK (ov : U) (k : Nat → RS) : RS := match ov with
  | .ref n => k n
  | _ => .stuck
def forK (C : Ctx) (t : Tn) (k : Ik) (body : Gam → Sto → RS) (us : List U) (g : Gam) (S : Sto) : RS := match itOf k us S with
  | some v => forLoop v t body (v.fuel C.fuel) 0 g S
  | none => .stuck
def tryK (C : Ctx) (c t e : Nat) (cs : List Nat) (r : RS) : RS := match r with
  | .exc x g' S' => if C.sub x.cls c = true then
      (if t < g'.length ∧ e < g'.length ∧ t ≠ e then .ok .nx ((g'.set t (some (.d (.lst (cs.map fun k => .bl (C.sub x.cls k)))))).set e none) S' else .stuck)
      else .exc x g' S'
  | r => r
def seqK (k : Gam → Sto → RS) (r : RS) : RS := match r with
  | .ok .nx g' S' => k g' S'
  | x => x
def setK (ov iv u : U) (g : Gam) (S : Sto) : RS := match setIx ov iv u S with
  | some S' => .ok .nx g S'
  | none => .stuck
mutual
def evT (C : Ctx) : Tg → U → Gam → Sto → RS
  | .nm i, u, g, S => if i < g.length then .ok .nx (g.set i (some u)) S else .stuck
  | .tup ts, u, g, S => match items S u with
    | some us => if us.length = ts.length then evTs C ts us g S else .stuck
    | none => .stuck
  | .idx o i, u, g, S => withR (evE C o g S) g fun ov S => withR (evE C i g S) g fun iv S => setK ov iv u g S
def evTs (C : Ctx) : List Tg → List U → Gam → Sto → RS
  | [], [], g, S => .ok .nx g S
  | t :: ts, u :: us, g, S => seqK (evTs C ts us) (evT C t u g S)
  | _, _, _, _ => .stuck
end
mutual
def evS (C : Ctx) : S → Gam → Sto → RS
  | .asg t e, g, S => withR (evE C e g S) g fun u S => evT C t u g S
  | .par i j a b, g, S => withR (evE C a g S) g fun x S => withR (evE C b g S) g fun y S => parK i j x y g S
  | .aug i op e, g, S => withR (slotU g i S) g fun x S => withR (evE C e g S) g fun y S => augK i op x y g S
  | .expr e, g, S => withR (evE C e g S) g fun _ S => .ok .nx g S
  | .app o e, g, S => withR (evE C o g S) g fun ov S => refK ov fun n => withR (evE C e g S) g fun v S => appK n v g S
  | .ret e, g, S => withR (evE C e g S) g fun u S => .ok (.ret u) g S
  | .retn, g, S => .ok (.ret (.d .non)) g S
  | .ite c a b, g, S => withR (tru (evE C c g S)) g fun k S => if k = true then evSs C a g S else evSs C b g S
  | .whil c b, g, S => whileLoop (fun g S => tru (evE C c g S)) (evSs C b) C.fuel g S
  | .for t k args b, g, S => withR (evEs C args g S) g fun us S => forK C t k (evSs C b) us g S
  | .raise c, g, S => .exc ⟨c⟩ g S
  | .tryi b c t e cs, g, S => tryK C c t e cs (evSs C b g S)
  | .pass, g, S => .ok .nx g S
  | .brk, g, S => .ok .brk g S
  | .cont, g, S => .ok .cont g S
def evSs (C : Ctx) : List S → Gam → Sto → RS
  | [], g, S => .ok .nx g S
  | s :: r, g, S => seqK (evSs C r) (evS C s g S)
end

/-! ### functions -/
structure Fn where
  np : Nat
  ns : Nat
  body : List S
def start (f : Fn) (us : List U) : Gam := us.map some ++ List.replicate (f.ns - us.length) none
def runP (C : Ctx) (f : Fn) (ds : List D) : PR :=
  match evSs C f.body (start f (ds.map U.d)) [] with
  | .ok (.ret u) _ S => match snap S u with
    | some d => .ok d
    | none => .stuck
  | .ok .nx _ _ => .ok .non
  | .ok _ _ _ => .stuck
  | .exc x _ _ => .exc x
  | .stuck => .stuck
def runS (C : Ctx) (f : Fn) (us : List U) (S : Sto) : Res U :=
  match evSs C f.body (start f us) S with
  | .ok (.ret u) _ S' => .ok u S'
  | .ok .nx _ S' => .ok (.d .non) S'
  | .ok _ _ _ => .stuck
  | .exc x _ S' => .exc x S'
  | .stuck => .stuck
structure Prog where
  fns : List Fn
  gls : List D
  /-- the classes above a class of exceptions, itself too -/
  ups : List (List Nat)
  fuel : Nat
def ctx (P : Prog) : Nat → Ctx
  | 0 => ⟨fun _ _ => .stuck, fun _ _ _ => .stuck, fun i => P.gls[i]?, fun a b => (P.ups.getD a []).contains b, P.fuel⟩
  | k + 1 => ⟨fun f ds => match P.fns[f]? with
      | some fn => if ds.length = fn.np then runP (ctx P k) fn ds else .stuck
      | none => .stuck,
    fun f us S => match P.fns[f]? with
      | some fn => if us.length = fn.np then runS (ctx P k) fn us S else .stuck
      | none => .stuck, fun i => P.gls[i]?, fun a b => (P.ups.getD a []).contains b, P.fuel⟩
end PV
/-! PV1: how values lie in the abstract heap. -/
namespace PV
open PySem PySem.Spec PyProof.Rows L2

/-- read-only where it lies: tracked and not forbidden, or of the module -/
def LstF (K : PySem.W.Frag) (no : Addr → Prop) (H : Hp) (a : Addr) (xs : List V) : Prop := H a = some (.lst xs) ∧ ¬ no a
def ScrF (K : PySem.W.Frag) (no : Addr → Prop) (H : Hp) (a : Addr) (xs : List V) : Prop :=
  (Rd H a (.lst xs) ∧ ¬ no a) ∨
    ∃ (o : Obj) (its : Array Value) (n : Nat), K.lookup a = some o ∧ o.cls = .type "list" ∧ o.dict = none ∧ o.data = .seq its n ∧ its.size ≤ sizeLine ∧ Vals xs its.toList
def TupF (K : PySem.W.Frag) (no : Addr → Prop) (H : Hp) (a : Addr) (xs : List V) : Prop :=
  (Rd H a (.tup xs) ∧ ¬ no a) ∨
    ∃ (o : Obj) (its : Array Value) (n : Nat), K.lookup a = some o ∧ o.cls = .type "tuple" ∧ o.data = .seq its n ∧ its.size ≤ sizeLine ∧ Vals xs its.toList
theorem ScrF.sq {K : PySem.W.Frag} {no : Addr → Prop} {H : Hp} {a : Addr} {xs : List V} (h : ScrF K no H a xs) : SqL K H a xs := h.elim (fun x => .inl x.1) .inr
theorem LstF.sq {K : PySem.W.Frag} {no : Addr → Prop} {H : Hp} {a : Addr} {xs : List V} (h : LstF K no H a xs) : SqL K H a xs := .inl (.inl h.1)
theorem TupF.sq {K : PySem.W.Frag} {no : Addr → Prop} {H : Hp} {a : Addr} {xs : List V} (h : TupF K no H a xs) : SqT K H a xs := h.elim (fun x => .inl x.1) .inr

mutual
inductive Den (K : PySem.W.Frag) (no : Addr → Prop) (H : Hp) : V → D → Prop
  | non : Den K no H .non .non
  | bl (b : Bool) : Den K no H (.bl b) (.bl b)
  | int (i : Int) : Den K no H (.int i) (.int i)
  | str (x : Str) : Den K no H (.str x) (.str x)
  | tup {a : Addr} {xs : List V} {ds : List D} : TupF K no H a xs → DenL K no H xs ds → Den K no H (.ref a) (.tup ds)
  | lst {a : Addr} {xs : List V} {ds : List D} : LstF K no H a xs → DenL K no H xs ds → Den K no H (.ref a) (.lst ds)
  | scr {a : Addr} {ns : List Int} : ScrF K no H a (ns.map V.int) → Den K no H (.ref a) (.scr ns)
inductive DenL (K : PySem.W.Frag) (no : Addr → Prop) (H : Hp) : List V → List D → Prop
  | nil : DenL K no H [] []
  | cons {v : V} {vs : List V} {d : D} {ds : List D} : Den K no H v d → DenL K no H vs ds → DenL K no H (v :: vs) (d :: ds)
end

/-- what stays: everything but the changeable objects; new changeable ones were free -/
structure Keep (no no' : Addr → Prop) (H H' : Hp) : Prop where
  keep : ∀ a o, H a = some o → ¬ no a → H' a = some o
  new : ∀ a, no' a → no a ∨ H a = none

theorem Rd.keep {no no' : Addr → Prop} {H H' : Hp} (k : Keep no no' H H') {a : Addr} {u : HO} (h : Rd H a u ∧ ¬ no a) : Rd H' a u ∧ ¬ no' a := by
  obtain ⟨h, n⟩ := h
  rcases h with h | ⟨o, h⟩
  · exact ⟨.inl (k.keep a _ h n), fun z => (k.new a z).elim n fun q => by rw [h] at q; cases q⟩
  · exact ⟨.inr ⟨o, k.keep a _ h n⟩, fun z => (k.new a z).elim n fun q => by rw [h] at q; cases q⟩
theorem ScrF.keep {K : PySem.W.Frag} {no no' : Addr → Prop} {H H' : Hp} (k : Keep no no' H H') {a : Addr} {xs : List V} (h : ScrF K no H a xs) : ScrF K no' H' a xs :=
  h.elim (fun x => .inl (Rd.keep k x)) .inr
theorem LstF.keep {K : PySem.W.Frag} {no no' : Addr → Prop} {H H' : Hp} (k : Keep no no' H H') {a : Addr} {xs : List V} (h : LstF K no H a xs) : LstF K no' H' a xs :=
  ⟨k.keep a _ h.1 h.2, fun z => (k.new a z).elim h.2 fun q => by rw [h.1] at q; cases q⟩
theorem TupF.keep {K : PySem.W.Frag} {no no' : Addr → Prop} {H H' : Hp} (k : Keep no no' H H') {a : Addr} {xs : List V} (h : TupF K no H a xs) : TupF K no' H' a xs :=
  h.elim (fun x => .inl (Rd.keep k x)) .inr
mutual
theorem Den.keep {K : PySem.W.Frag} {no no' : Addr → Prop} {H H' : Hp} (k : Keep no no' H H') : ∀ (d : D) (v : V), Den K no H v d → Den K no' H' v d
  | .non, _, h => by cases h; exact .non
  | .bl _, _, h => by cases h; exact .bl _
  | .int _, _, h => by cases h; exact .int _
  | .str _, _, h => by cases h; exact .str _
  | .tup ds, _, h => by
    cases h with
    | tup a b => exact .tup (a.keep k) (DenL.keep k ds _ b)
  | .lst ds, _, h => by
    cases h with
    | lst a b => exact .lst (a.keep k) (DenL.keep k ds _ b)
  | .ins _ _, _, h => by cases h
  | .scr _, _, h => by
    cases h with
    | scr a => exact .scr (a.keep k)
theorem DenL.keep {K : PySem.W.Frag} {no no' : Addr → Prop} {H H' : Hp} (k : Keep no no' H H') : ∀ (ds : List D) (vs : List V), DenL K no H vs ds → DenL K no' H' vs ds
  | [], _, h => by cases h; exact .nil
  | d :: ds, _, h => by
    cases h with
    | cons a b => exact .cons (Den.keep k d _ a) (DenL.keep k ds _ b)
end
section
variable {K : PySem.W.Frag} {no no' : Addr → Prop} {H H' : Hp}
theorem DenL.length : ∀ {vs : List V} {ds : List D}, DenL K no H vs ds → vs.length = ds.length
  | _, _, .nil => rfl
  | _, _, .cons _ t => congrArg (· + 1) (DenL.length t)
theorem DenL.get : ∀ {vs : List V} {ds : List D} {i : Nat} {d : D}, DenL K no H vs ds → ds[i]? = some d → ∃ v, vs[i]? = some v ∧ Den K no H v d
  | _, _, _, _, .nil, e => by simp at e
  | _, _, 0, _, .cons r _, e => by simp at e; subst e; exact ⟨_, rfl, r⟩
  | _, _, i + 1, d, .cons _ t, e => by
    obtain ⟨u, h1, h2⟩ := DenL.get (i := i) (d := d) t (by simpa using e)
    exact ⟨u, by simpa using h1, h2⟩
/-- fewer forbidden -/
theorem Keep.less (h : ∀ a, no' a → no a) : Keep no no' H H := ⟨fun _ _ e _ => e, fun a z => .inl (h a z)⟩
end

/-- values -/
def DenU (K : PySem.W.Frag) (F : Addr → Prop) (r : List Addr) (H : Hp) (v : V) : U → Prop
  | .d x => Den K (fun a => F a ∨ a ∈ r) H v x
  | .ref n => ∃ a, r[n]? = some a ∧ v = .ref a
inductive DenUL (K : PySem.W.Frag) (F : Addr → Prop) (r : List Addr) (H : Hp) : List V → List U → Prop
  | nil : DenUL K F r H [] []
  | cons {v : V} {vs : List V} {d : U} {ds : List U} : DenU K F r H v d → DenUL K F r H vs ds → DenUL K F r H (v :: vs) (d :: ds)
section
variable {K : PySem.W.Frag} {F : Addr → Prop} {r r' : List Addr} {H H' : Hp}
theorem DenUL.length : ∀ {vs : List V} {ds : List U}, DenUL K F r H vs ds → vs.length = ds.length
  | _, _, .nil => rfl
  | _, _, .cons _ t => congrArg (· + 1) (DenUL.length t)
theorem DenUL.get : ∀ {vs : List V} {ds : List U} {i : Nat} {d : U}, DenUL K F r H vs ds → ds[i]? = some d → ∃ v, vs[i]? = some v ∧ DenU K F r H v d
  | _, _, _, _, .nil, e => by simp at e
  | _, _, 0, _, .cons h _, e => by simp at e; subst e; exact ⟨_, rfl, h⟩
  | _, _, i + 1, d, .cons _ t, e => by
    obtain ⟨u, h1, h2⟩ := DenUL.get (i := i) (d := d) t (by simpa using e)
    exact ⟨u, by simpa using h1, h2⟩
theorem DenUL.append : ∀ {vs ws : List V} {ds es : List U}, DenUL K F r H vs ds → DenUL K F r H ws es → DenUL K F r H (vs ++ ws) (ds ++ es)
  | _, _, _, _, .nil, h => h
  | _, _, _, _, .cons a t, h => .cons a (DenUL.append t h)
theorem DenUL.set {v : V} {u : U} (h : DenU K F r H v u) : ∀ {vs : List V} {ds : List U} (i : Nat), DenUL K F r H vs ds → DenUL K F r H (vs.set i v) (ds.set i u)
  | _, _, _, .nil => .nil
  | _, _, 0, .cons _ t => .cons h t
  | _, _, i + 1, .cons q t => .cons q (DenUL.set h i t)
theorem DenUL.take : ∀ {vs : List V} {ds : List U} (n : Nat), DenUL K F r H vs ds → DenUL K F r H (vs.take n) (ds.take n)
  | _, _, 0, _ => .nil
  | _, _, _ + 1, .nil => .nil
  | _, _, n + 1, .cons a t => .cons a (DenUL.take n t)
theorem DenUL.drop : ∀ {vs : List V} {ds : List U} (n : Nat), DenUL K F r H vs ds → DenUL K F r H (vs.drop n) (ds.drop n)
  | _, _, 0, h => h
  | _, _, _ + 1, .nil => .nil
  | _, _, n + 1, .cons _ t => DenUL.drop n t
theorem DenUL.reverse {vs : List V} {ds : List U} (h : DenUL K F r H vs ds) : DenUL K F r H vs.reverse ds.reverse := by
  induction h with
  | nil => exact .nil
  | cons a t ih => rw [List.reverse_cons, List.reverse_cons]; exact ih.append (.cons a .nil)
theorem DenUL.of : ∀ {vs : List V} {ds : List D}, DenL K (fun a => F a ∨ a ∈ r) H vs ds → DenUL K F r H vs (ds.map U.d)
  | _, _, .nil => .nil
  | _, _, .cons a t => .cons a (DenUL.of t)
theorem DenUL.pure : ∀ {us : List U} {vs : List V} {ds : List D}, DenUL K F r H vs us → pures us = some ds → DenL K (fun a => F a ∨ a ∈ r) H vs ds
  | [], _, ds, h, e => by
    cases h
    have : ds = [] := by simpa [pures] using e.symm
    subst this
    exact .nil
  | .d x :: us, _, ds, h, e => by
    cases h with
    | cons a t =>
      cases q : pures us with
      | none => simp [pures, q] at e
      | some es =>
        have : ds = x :: es := by simpa [pures, q] using e.symm
        subst this
        exact .cons a (DenUL.pure t q)
  | .ref _ :: us, _, ds, h, e => by simp [pures] at e
end

/-- the store lies in the abstract heap -/
structure RepS (K : PySem.W.Frag) (F : Addr → Prop) (r : List Addr) (S : Sto) (H : Hp) : Prop where
  len : r.length = S.length
  nd : r.Nodup
  frn : ∀ a, F a → H a ≠ none
  apart : ∀ a, a ∈ r → ¬ F a
  obj : ∀ (n : Nat) (a : Addr) (us : List U), r[n]? = some a → S[n]? = some (MO.lst us) → ∃ xs, H a = some (.lst xs) ∧ DenUL K F r H xs us

structure Ext (r r' : List Addr) (H H' : Hp) : Prop where
  more : ∃ ex, r' = r ++ ex
  keep : ∀ a o, H a = some o → a ∉ r → H' a = some o
  trk : ∀ a, H a ≠ none → H' a ≠ none
  new : ∀ a, a ∈ r' → a ∈ r ∨ H a = none
section
variable {K : PySem.W.Frag} {F : Addr → Prop} {r r1 r2 : List Addr} {H H1 H2 : Hp} {S S1 : Sto}
theorem Ext.refl : Ext r r H H := ⟨⟨[], by simp⟩, fun _ _ e _ => e, fun _ e => e, fun _ h => .inl h⟩
theorem Ext.trans (a : Ext r r1 H H1) (b : Ext r1 r2 H1 H2) : Ext r r2 H H2 where
  more := by
    obtain ⟨e1, h1⟩ := a.more
    obtain ⟨e2, h2⟩ := b.more
    exact ⟨e1 ++ e2, by rw [h2, h1, List.append_assoc]⟩
  keep := fun x o e n => b.keep x o (a.keep x o e n) fun z => (a.new x z).elim n fun q => by rw [e] at q; cases q
  trk := fun x e => b.trk x (a.trk x e)
  new := fun x h => (b.new x h).elim (a.new x) fun q => .inr (by
    cases e : H x with
    | none => rfl
    | some o => exact absurd q (a.trk x (by rw [e]; simp)))
theorem Ext.toKeep (e : Ext r r1 H H1) (fr : ∀ a, F a → H a ≠ none) : Keep (fun a => F a ∨ a ∈ r) (fun a => F a ∨ a ∈ r1) H H1 :=
  ⟨fun a o h n => e.keep a o h fun z => n (.inr z), fun a z => z.elim (fun q => .inl (.inl q)) fun q => (e.new a q).elim (fun w => .inl (.inr w)) .inr⟩
theorem Ext.get (e : Ext r r1 H H1) {n : Nat} {a : Addr} (h : r[n]? = some a) : r1[n]? = some a := by
  obtain ⟨ex, q⟩ := e.more
  rw [q, List.getElem?_append_left (List.getElem?_eq_some_iff.mp h).1]
  exact h
theorem DenU.ext (e : Ext r r1 H H1) (fr : ∀ a, F a → H a ≠ none) : ∀ {u : U} {v : V}, DenU K F r H v u → DenU K F r1 H1 v u
  | .d x, v, h => Den.keep (e.toKeep fr) x v h
  | .ref n, v, ⟨a, h1, h2⟩ => ⟨a, e.get h1, h2⟩
theorem DenUL.ext (e : Ext r r1 H H1) (fr : ∀ a, F a → H a ≠ none) : ∀ {us : List U} {vs : List V}, DenUL K F r H vs us → DenUL K F r1 H1 vs us
  | _, _, .nil => .nil
  | _, _, .cons a t => .cons (a.ext e fr) (DenUL.ext e fr t)
theorem RepS.there (R : RepS K F r S H) {n : Nat} {a : Addr} (h : r[n]? = some a) : ∃ us xs, S[n]? = some (MO.lst us) ∧ H a = some (.lst xs) ∧ DenUL K F r H xs us := by
  have hn : n < S.length := by rw [← R.len]; exact (List.getElem?_eq_some_iff.mp h).1
  obtain ⟨us, q⟩ : ∃ us, S[n] = .lst us := by
    cases S[n] with
    | lst us => exact ⟨us, rfl⟩
  have e : S[n]? = some (MO.lst us) := by rw [List.getElem?_eq_getElem hn, q]
  obtain ⟨xs, h1, h2⟩ := R.obj n a us h e
  exact ⟨us, xs, e, h1, h2⟩
theorem RepS.trk (R : RepS K F r S H) {a : Addr} (h : a ∈ r) : H a ≠ none := by
  obtain ⟨n, hn⟩ := List.getElem?_of_mem h
  obtain ⟨_, xs, _, e, _⟩ := R.there hn
  rw [e]; simp
theorem RepS.newNo (R : RepS K F r S H) {p : Addr} (h : H p = none) : ¬ (F p ∨ p ∈ r) := fun z => z.elim (fun q => R.frn p q h) fun q => R.trk q h
theorem RepS.at (R : RepS K F r S H) {n : Nat} {us : List U} {v : V} (h : DenU K F r H v (.ref n)) (e : S[n]? = some (MO.lst us)) : ∃ a xs, v = .ref a ∧ r[n]? = some a ∧ H a = some (.lst xs) ∧ DenUL K F r H xs us := by
  obtain ⟨a, h1, h2⟩ := h
  obtain ⟨xs, h3, h4⟩ := R.obj n a us h1 e
  exact ⟨a, xs, h2, h1, h3, h4⟩

/-- something new that never changes -/
theorem ext_new {p : Addr} {o : HO} (h : H p = none) : Ext r r H (upd H p o) := by
  refine ⟨⟨[], by simp⟩, fun a u e _ => ?_, fun a e => ?_, fun _ h => .inl h⟩
  · rw [upd_ne (ne_of_none e h)]; exact e
  · by_cases q : a = p
    · subst q; rw [upd_same]; simp
    · rw [upd_ne q]; exact e
theorem RepS.ext0 (R : RepS K F r S H) (e : Ext r r H H1) (k : ∀ a, a ∈ r → H1 a = H a) : RepS K F r S H1 :=
  ⟨R.len, R.nd, fun a h => e.trk a (R.frn a h), R.apart, fun n a us h1 h2 => by
    obtain ⟨xs, h3, h4⟩ := R.obj n a us h1 h2
    exact ⟨xs, by rw [k a (List.mem_of_getElem? h1)]; exact h3, h4.ext e R.frn⟩⟩
theorem RepS.new (R : RepS K F r S H) {p : Addr} {o : HO} (h : H p = none) : RepS K F r S (upd H p o) :=
  R.ext0 (ext_new h) fun a ha => upd_ne fun z => by subst z; exact R.trk ha h
/-- a new changeable list -/
theorem ext_mut {p : Addr} {o : HO} (h : H p = none) : Ext r (r ++ [p]) H (upd H p o) := by
  refine ⟨⟨[p], rfl⟩, fun a u e _ => ?_, fun a e => ?_, fun a z => ?_⟩
  · rw [upd_ne (ne_of_none e h)]; exact e
  · by_cases q : a = p
    · subst q; rw [upd_same]; simp
    · rw [upd_ne q]; exact e
  · rcases List.mem_append.mp z with z | z
    · exact .inl z
    · have : a = p := by simpa using z
      subst this
      exact .inr h
theorem RepS.mut (R : RepS K F r S H) {p : Addr} {xs : List V} {us : List U} (h : H p = none) (d : DenUL K F r H xs us) : RepS K F (r ++ [p]) (S ++ [.lst us]) (upd H p (.lst xs)) := by
  have e : Ext r (r ++ [p]) H (upd H p (.lst xs)) := ext_mut h
  have np : p ∉ r := fun z => R.trk z h
  refine ⟨by simp [R.len], ?_, fun a q => e.trk a (R.frn a q), fun a q z => ?_, fun n a vs h1 h2 => ?_⟩
  · rw [List.nodup_append]
    exact ⟨R.nd, by simp, fun x hx y hy => by
      have : y = p := by simpa using hy
      subst this
      exact fun q => np (q ▸ hx)⟩
  · rcases List.mem_append.mp q with q | q
    · exact R.apart a q z
    · have : a = p := by simpa using q
      subst this
      exact R.frn a z h
  · by_cases hn : n < r.length
    · rw [List.getElem?_append_left hn] at h1
      rw [List.getElem?_append_left (by rw [← R.len]; exact hn)] at h2
      obtain ⟨ys, h3, h4⟩ := R.obj n a vs h1 h2
      exact ⟨ys, by rw [upd_ne (ne_of_none h3 h)]; exact h3, h4.ext e R.frn⟩
    · have hl := R.len
      have e0 : n = r.length := by
        have := (List.getElem?_eq_some_iff.mp h1).1
        simp at this
        omega
      subst e0
      rw [List.getElem?_append_right (Nat.le_refl _)] at h1
      rw [hl, List.getElem?_append_right (Nat.le_refl _)] at h2
      simp at h1 h2
      subst h1
      subst h2
      exact ⟨xs, upd_same, d.ext e R.frn⟩
theorem RepS.last (R : RepS K F r S H) {p : Addr} : (r ++ [p])[S.length]? = some p := by
  rw [← R.len, List.getElem?_append_right (Nat.le_refl _)]
  simp
/-- a changeable list is changed -/
theorem ext_set {n : Nat} {a : Addr} {o : HO} (h : r[n]? = some a) : Ext r r H (upd H a o) := by
  have ha := List.mem_of_getElem? h
  refine ⟨⟨[], by simp⟩, fun b u e q => ?_, fun b e => ?_, fun _ h => .inl h⟩
  · rw [upd_ne (a := a) (b := b) fun z => q (by rw [z]; exact ha)]; exact e
  · by_cases q : b = a
    · subst q; rw [upd_same]; simp
    · rw [upd_ne q]; exact e
theorem nodup_at {r : List Addr} (nd : r.Nodup) {n m : Nat} {a : Addr} (h1 : r[n]? = some a) (h2 : r[m]? = some a) : n = m := by
  obtain ⟨l1, e1⟩ := List.getElem?_eq_some_iff.mp h1
  obtain ⟨l2, e2⟩ := List.getElem?_eq_some_iff.mp h2
  exact (List.getElem_inj nd).mp (e1.trans e2.symm)
theorem RepS.set (R : RepS K F r S H) {n : Nat} {a : Addr} {xs : List V} {us : List U} (h : r[n]? = some a) (d : DenUL K F r H xs us) : RepS K F r (S.set n (.lst us)) (upd H a (.lst xs)) := by
  have e : Ext r r H (upd H a (.lst xs)) := ext_set h
  refine ⟨by simp [R.len], R.nd, fun a q => e.trk a (R.frn a q), R.apart, fun m b vs h1 h2 => ?_⟩
  by_cases q : m = n
  · subst q
    rw [h] at h1
    cases h1
    have hm : m < S.length := by rw [← R.len]; exact (List.getElem?_eq_some_iff.mp h).1
    rw [List.getElem?_set_self hm] at h2
    cases h2
    exact ⟨xs, upd_same, d.ext e R.frn⟩
  · rw [List.getElem?_set_ne (Ne.symm q)] at h2
    obtain ⟨ys, h3, h4⟩ := R.obj m b vs h1 h2
    refine ⟨ys, ?_, h4.ext e R.frn⟩
    rw [upd_ne (a := a) (b := b) fun z => q (nodup_at R.nd h1 (by rw [z]; exact h))]
    exact h3
end

/-- the names' values -/
structure RepG (K : PySem.W.Frag) (F : Addr → Prop) (r : List Addr) (H : Hp) (g : Gam) (σ : L2.St) : Prop where
  len : g.length = σ.length
  get : ∀ (i : Nat) (u : U), g[i]? = some (some u) → ∃ v, σ[i]? = some (some v) ∧ DenU K F r H v u
section
variable {K : PySem.W.Frag} {F : Addr → Prop} {r r1 r2 : List Addr} {H H1 H2 : Hp} {S S1 : Sto} {g : Gam} {σ : L2.St}
theorem RepG.ext (G : RepG K F r H g σ) (e : Ext r r1 H H1) (fr : ∀ a, F a → H a ≠ none) : RepG K F r1 H1 g σ :=
  ⟨G.len, fun i u h => let ⟨v, h1, h2⟩ := G.get i u h; ⟨v, h1, h2.ext e fr⟩⟩
theorem RepG.set (G : RepG K F r H g σ) {v : V} {u : U} (h : DenU K F r H v u) (i : Nat) : RepG K F r H (g.set i (some u)) (σ.set i (some v)) := by
  refine ⟨by rw [List.length_set, List.length_set]; exact G.len, fun j w q => ?_⟩
  by_cases e : i = j
  · subst e
    have hi : i < g.length := by
      have := (List.getElem?_eq_some_iff.mp q).1
      simpa using this
    rw [List.getElem?_set_self hi] at q
    cases q
    exact ⟨v, by rw [List.getElem?_set_self (by rw [← G.len]; exact hi)], h⟩
  · rw [List.getElem?_set_ne e] at q
    rw [List.getElem?_set_ne e]
    exact G.get j w q
theorem RepG.unset (G : RepG K F r H g σ) (i : Nat) (x : Option V) : RepG K F r H (g.set i none) (σ.set i x) := by
  refine ⟨by rw [List.length_set, List.length_set]; exact G.len, fun j w q => ?_⟩
  by_cases e : i = j
  · subst e
    have hi : i < g.length := by
      have := (List.getElem?_eq_some_iff.mp q).1
      simpa using this
    rw [List.getElem?_set_self hi] at q
    cases q
  · rw [List.getElem?_set_ne e] at q
    rw [List.getElem?_set_ne e]
    exact G.get j w q
theorem RepG.wipe (G : RepG K F r H g σ) : ∀ own : List Nat, RepG K F r H (wipeG g own) (wipe σ own)
  | [] => G
  | v :: vs => (G.wipe vs).unset v none
end

/-! ### outcomes -/
/-- the exception's class -/
def ExR (ca : Nat → Option Addr) (x : Exn) (cls : Value) (d : Option Addr) : Prop := ∃ a, ca x.cls = some a ∧ cls = .ref a ∧ d = none
/-- what is wanted of an outcome -/
def RR {α β : Type} (K : PySem.W.Frag) (ca : Nat → Option Addr) (W : WX) (rel : List Addr → Hp → β → α → Prop) (F : Addr → Prop) (r : List Addr) (σ : L2.St) (H : Hp) (Q : β → Hp → Prop) : Res α → Prop
  | .ok a S => ∀ b r' H', Ext r r' H H' → RepS K F r' S H' → rel r' H' b a → Q b H'
  | .exc x S => ∀ cls d r' H', Ext r r' H H' → RepS K F r' S H' → ExR ca x cls d → W cls d σ H'
  | .stuck => False
section
variable {α β α' β' : Type} {K : PySem.W.Frag} {ca : Nat → Option Addr} {W : WX} {rel : List Addr → Hp → β → α → Prop} {rel' : List Addr → Hp → β' → α' → Prop} {F : Addr → Prop} {r r1 : List Addr} {σ : L2.St} {H H1 : Hp} {S : Sto}
  {Q : β → Hp → Prop} {Q' : β' → Hp → Prop}
theorem RR.ext {x : Res α} (e : Ext r r1 H H1) (h : RR K ca W rel F r σ H Q x) : RR K ca W rel F r1 σ H1 Q x := by
  cases x with
  | ok a S => exact fun b r' H' e' => h b r' H' (e.trans e')
  | exc x S => exact fun c d r' H' e' => h c d r' H' (e.trans e')
  | stuck => exact h
theorem RR.bind {x : Res α} {f : α → Sto → Res α'} (h : RR K ca W rel' F r σ H Q' (x.bind f)) :
    RR K ca W rel F r σ H (fun b H1 => ∃ r1 a S1, Ext r r1 H H1 ∧ RepS K F r1 S1 H1 ∧ rel r1 H1 b a ∧ RR K ca W rel' F r1 σ H1 Q' (f a S1)) x := by
  cases x with
  | ok a S => exact fun b r' H' e R q => ⟨r', a, S, e, R, q, RR.ext e h⟩
  | exc x S => exact h
  | stuck => exact h
theorem RR.imp {x : Res α} {Q2 : β → Hp → Prop} (h : RR K ca W rel F r σ H Q x) (k : ∀ b H, Q b H → Q2 b H) : RR K ca W rel F r σ H Q2 x := by
  cases x with
  | ok a S => exact fun b r' H' e R q => k _ _ (h b r' H' e R q)
  | exc x S => exact h
  | stuck => exact h
theorem RR.fin {a : α} (h : RR K ca W rel F r σ H Q (.ok a S)) {b : β} (R : RepS K F r S H) (q : rel r H b a) : Q b H := h b r H Ext.refl R q
end

section
variable {K : PySem.W.Frag} {ca : Nat → Option Addr} {W : WX} {F : Addr → Prop} {r : List Addr} {σ : L2.St} {H : Hp} {S : Sto} {Q : VK}
/-- relation of values, as RR takes it -/
abbrev relU (K : PySem.W.Frag) (F : Addr → Prop) : List Addr → Hp → V → U → Prop := fun r H v u => DenU K F r H v u
abbrev relUs (K : PySem.W.Frag) (F : Addr → Prop) : List Addr → Hp → List V → List U → Prop := fun r H v u => DenUL K F r H v u
abbrev relB : List Addr → Hp → Bool → Bool → Prop := fun _ _ b a => b = a
/-- a new list -/
theorem mkL_ok {m : Bool} {us : List U} {xs : List V} {p : Addr} (R : RepS K F r S H) (d : DenUL K F r H xs us) (hp : H p = none) (h : RR K ca W (relU K F) F r σ H Q (mkL m us S)) : Q (.ref p) (upd H p (.lst xs)) := by
  unfold mkL at h
  split at h
  · exact h _ (r ++ [p]) _ (ext_mut hp) (R.mut hp d) ⟨p, R.last, rfl⟩
  · split at h
    · rename_i ds q
      exact h _ r _ (ext_new hp) (R.new hp) (.lst ⟨upd_same, R.newNo hp⟩ (DenL.keep ((ext_new hp).toKeep R.frn) _ _ (d.pure q)))
    · exact h.elim
theorem mkT_ok {us : List U} {xs : List V} {p : Addr} (R : RepS K F r S H) (d : DenUL K F r H xs us) (hp : H p = none) (h : RR K ca W (relU K F) F r σ H Q (mkT us S)) : Q (.ref p) (upd H p (.tup xs)) := by
  unfold mkT at h
  split at h
  · rename_i ds q
    exact h _ r _ (ext_new hp) (R.new hp) (.tup (.inl ⟨.inl upd_same, R.newNo hp⟩) (DenL.keep ((ext_new hp).toKeep R.frn) _ _ (d.pure q)))
  · exact h.elim
end
end PV
/-! PV2: operators, subscripts, built-ins: the hand layer's rules by the evaluator's words. -/
namespace PV
open PySem PySem.Spec PyProof.Rows L2

section
variable {K : PySem.W.Frag} {no : Addr → Prop} {F : Addr → Prop} {r : List Addr} {H : Hp} {S : Sto} {v : V}
theorem DenU.int_inv {i : Int} (h : DenU K F r H v (.d (.int i))) : v = .int i := by
  have h : Den K (fun a => F a ∨ a ∈ r) H v (.int i) := h
  cases h; rfl
theorem DenU.bl_inv {i : Bool} (h : DenU K F r H v (.d (.bl i))) : v = .bl i := by
  have h : Den K (fun a => F a ∨ a ∈ r) H v (.bl i) := h
  cases h; rfl
theorem DenU.str_inv {i : Str} (h : DenU K F r H v (.d (.str i))) : v = .str i := by
  have h : Den K (fun a => F a ∨ a ∈ r) H v (.str i) := h
  cases h; rfl
theorem DenU.non_inv (h : DenU K F r H v (.d .non)) : v = .non := by
  have h : Den K (fun a => F a ∨ a ∈ r) H v .non := h
  cases h; rfl
theorem DenU.tup_inv {l : List D} (h : DenU K F r H v (.d (.tup l))) : ∃ a xs, v = .ref a ∧ TupF K (fun a => F a ∨ a ∈ r) H a xs ∧ DenL K (fun a => F a ∨ a ∈ r) H xs l := by
  have h : Den K (fun a => F a ∨ a ∈ r) H v (.tup l) := h
  cases h with
  | tup a b => exact ⟨_, _, rfl, a, b⟩
theorem DenU.lst_inv {l : List D} (h : DenU K F r H v (.d (.lst l))) : ∃ a xs, v = .ref a ∧ LstF K (fun a => F a ∨ a ∈ r) H a xs ∧ DenL K (fun a => F a ∨ a ∈ r) H xs l := by
  have h : Den K (fun a => F a ∨ a ∈ r) H v (.lst l) := h
  cases h with
  | lst a b => exact ⟨_, _, rfl, a, b⟩
theorem DenU.scr_inv {l : List Int} (h : DenU K F r H v (.d (.scr l))) : ∃ a, v = .ref a ∧ ScrF K (fun a => F a ∨ a ∈ r) H a (l.map V.int) := by
  have h : Den K (fun a => F a ∨ a ∈ r) H v (.scr l) := h
  cases h with
  | scr a => exact ⟨_, rfl, a⟩
theorem DenUL.intsL : ∀ l : List Int, DenUL K F r H (l.map V.int) (l.map fun i => U.d (.int i))
  | [] => .nil
  | i :: l => .cons (Den.int i) (DenUL.intsL l)
theorem lstItems_inv {u : U} {us : List U} (R : RepS K F r S H) (d : DenU K F r H v u) (e : lstItems S u = some us) : ∃ a xs, v = .ref a ∧ H a = some (.lst xs) ∧ DenUL K F r H xs us := by
  cases u with
  | d x =>
    cases x with
    | lst l =>
      obtain ⟨a, xs, rfl, h1, h2⟩ := d.lst_inv
      have : l.map U.d = us := by simpa [lstItems] using e
      subst this
      exact ⟨a, xs, rfl, h1.1, .of h2⟩
    | _ => simp [lstItems] at e
  | ref n =>
    cases q : S[n]? with
    | none => simp [lstItems, q] at e
    | some mo =>
      cases mo with
      | lst ws =>
        have : ws = us := by simpa [lstItems, q] using e
        subst this
        obtain ⟨a, xs, h1, _, h3, h4⟩ := R.at d q
        exact ⟨a, xs, h1, h3, h4⟩
theorem items_inv {u : U} {us : List U} (R : RepS K F r S H) (d : DenU K F r H v u) (e : items S u = some us) : ∃ a xs, v = .ref a ∧ (SqL K H a xs ∨ SqT K H a xs) ∧ DenUL K F r H xs us := by
  cases u with
  | d x =>
    cases x with
    | lst l =>
      obtain ⟨a, xs, rfl, h1, h2⟩ := d.lst_inv
      have : l.map U.d = us := by simpa [items] using e
      subst this
      exact ⟨a, xs, rfl, .inl h1.sq, .of h2⟩
    | tup l =>
      obtain ⟨a, xs, rfl, h1, h2⟩ := d.tup_inv
      have : l.map U.d = us := by simpa [items] using e
      subst this
      exact ⟨a, xs, rfl, .inr h1.sq, .of h2⟩
    | scr l =>
      obtain ⟨a, rfl, h1⟩ := d.scr_inv
      have : (l.map fun i => U.d (.int i)) = us := by simpa [items] using e
      subst this
      exact ⟨a, _, rfl, .inl h1.sq, DenUL.intsL l⟩
    | _ => simp [items] at e
  | ref n =>
    cases q : S[n]? with
    | none => simp [items, q] at e
    | some mo =>
      cases mo with
      | lst ws =>
        have : ws = us := by simpa [items, q] using e
        subst this
        obtain ⟨a, xs, h1, _, h3, h4⟩ := R.at d q
        exact ⟨a, xs, h1, .inl (.inl (.inl h3)), h4⟩
/-! ### equality of data -/
mutual
theorem Den.dp : ∀ (d : D) (v : V), Den K no H v d → (toPD d).canLay0 = true → Dp K H v (toPD d)
  | .non, _, h, _ => by cases h; exact .non
  | .bl _, _, h, _ => by cases h; exact .bl _
  | .int _, _, h, _ => by cases h; exact .int _
  | .str _, _, h, _ => by cases h; exact .str _
  | .tup ds, _, h, o => by
    cases h with
    | tup a b => exact .tup a.sq (DenL.dp ds _ b (by simpa [toPD, PyData.canLay0] using o))
  | .lst ds, _, h, o => by
    cases h with
    | lst a b => exact .lst a.sq (DenL.dp ds _ b (by simpa [toPD, PyData.canLay0] using o))
  | .ins _ _, _, h, _ => by cases h
  | .scr _, _, h, o => by simp [toPD, PyData.canLay0] at o
theorem DenL.dp : ∀ (ds : List D) (vs : List V), DenL K no H vs ds → PyData.canLayAll0 (toPDs ds) = true → DpAll K H vs (toPDs ds)
  | [], _, h, _ => by cases h; exact .nil
  | d :: ds, _, h, o => by
    cases h with
    | cons a b =>
      have o' : (toPD d).canLay0 = true ∧ PyData.canLayAll0 (toPDs ds) = true := by simpa [toPDs, PyData.canLayAll0] using o
      exact .cons (Den.dp d _ a o'.1) (DenL.dp ds _ b o'.2)
end
theorem okD_lay {d : D} (h : okD d = true) : (toPD d).canLay0 = true := by
  have h : ((toPD d).canLay0 && decide ((toPD d).depth ≤ 64)) = true := h
  rw [Bool.and_eq_true] at h
  exact h.1
theorem snap_dp {u : U} {d : D} (R : RepS K F r S H) (h : DenU K F r H v u) (e : snap S u = some d) (o : okD d = true) : Dp K H v (toPD d) := by
  cases u with
  | d x =>
    have : x = d := by simpa [snap] using e
    subst this
    exact Den.dp x v h (okD_lay o)
  | ref n =>
    cases q : S[n]? with
    | none => simp [snap, q] at e
    | some mo =>
      cases mo with
      | lst ws =>
        cases q2 : pures ws with
        | none => simp [snap, q, q2] at e
        | some ds =>
          have : D.lst ds = d := by simpa [snap, q, q2] using e
          subst this
          obtain ⟨a, xs, rfl, _, h3, h4⟩ := R.at h q
          have hl := okD_lay o
          exact .lst (.inl (.inl h3)) (DenL.dp ds _ (h4.pure q2) (by simpa [toPD, PyData.canLay0] using hl))
end

section
variable {X : Cx} {ca : Nat → Option Addr} {W : WX}
/-- two values, by the evaluator -/
def r2 (K : PySem.W.Frag) (ca : Nat → Option Addr) (W : WX) (f : U → U → Sto → Res U) : R2 := fun x y H Q => ∃ F r S σ ux uy, RepS K F r S H ∧ DenU K F r H x ux ∧ DenU K F r H y uy ∧ RR K ca W (relU K F) F r σ H Q (f ux uy S)
def opOf : Bop → Operator
  | .add => .Add | .sub => .Sub | .mul => .Mult | .fdiv => .FloorDiv | .mod => .Mod | .pow => .Pow
def copOf : Cop → CmpOp
  | .eq => .Eq | .ne => .NotEq | .lt => .Lt | .le => .LtE | .gt => .Gt | .ge => .GtE | .is_ => .Is | .isnot => .IsNot | .in_ => .In | .notin => .NotIn
theorem op_fdivWN : OpR X (binaryOp .FloorDiv) (rI (fun _ j => j ≠ 0 ∧ j.natAbs.log2 < 9000) fun i j => .int (i.fdiv j)) :=
  opI fun _ _ _ _ _ _ _ hc q => floordiv_int hc.1 q (.inl (PyProof.noPylong_of_log2 hc.2))

theorem op_B (m : Bool) (op : Bop) : OpR X (binaryOp (opOf op)) (r2 X.K ca W (opB m op)) := by
  intro pins s σ H x y v u Q I rx ry h
  obtain ⟨F, r, S, σ0, ux, uy, R, dx, dy, h⟩ := h
  unfold opB at h
  split at h
  · have ex := dx.int_inv; have ey := dy.int_inv; subst ex; subst ey
    exact op_add pins s σ H _ _ v u Q I rx ry ⟨_, _, rfl, rfl, h.fin R (Den.int _)⟩
  · have ex := dx.int_inv; have ey := dy.int_inv; subst ex; subst ey
    exact op_sub pins s σ H _ _ v u Q I rx ry ⟨_, _, rfl, rfl, h.fin R (Den.int _)⟩
  · have ex := dx.int_inv; have ey := dy.int_inv; subst ex; subst ey
    split at h
    · rename_i hc
      exact op_mulW pins s σ H _ _ v u Q I rx ry ⟨_, _, rfl, rfl, hc, h.fin R (Den.int _)⟩
    · exact h.elim
  · have ex := dx.int_inv; have ey := dy.int_inv; subst ex; subst ey
    split at h
    · rename_i hc
      exact op_fdivWN pins s σ H _ _ v u Q I rx ry ⟨_, _, rfl, rfl, hc, h.fin R (Den.int _)⟩
    · exact h.elim
  · have ex := dx.int_inv; have ey := dy.int_inv; subst ex; subst ey
    split at h
    · rename_i hc
      exact op_modN pins s σ H _ _ v u Q I rx ry ⟨_, _, rfl, rfl, hc, h.fin R (Den.int _)⟩
    · exact h.elim
  · have ex := dx.int_inv; have ey := dy.int_inv; subst ex; subst ey
    split at h
    · rename_i hc
      exact op_pow pins s σ H _ _ v u Q I rx ry ⟨_, _, rfl, rfl, hc, h.fin R (Den.int _)⟩
    · exact h.elim
  · rename_i la lb
    obtain ⟨a, xs, rfl, ta, da⟩ := dx.tup_inv
    obtain ⟨b, ys, rfl, tb, db⟩ := dy.tup_inv
    split at h
    · rename_i hc
      have hz : la.length + lb.length ≤ sizeLine := of_decide_eq_true hc
      have l1 := da.length
      have l2 := db.length
      refine op_catA pins s σ H _ _ v u Q I rx ry ⟨a, b, xs, ys, rfl, rfl, ta.sq, tb.sq, by omega, fun e => ?_, fun _ e => ?_, fun n1 n2 p hp => ?_⟩
      · subst e
        cases da
        exact h.fin R (Den.tup tb db)
      · subst e
        cases db
        have h : RR X.K ca W (relU X.K F) F r σ0 H Q (.ok (.d (.tup (la ++ []))) S) := h
        rw [List.append_nil] at h
        exact h.fin R (Den.tup ta da)
      · have e := ext_new (r := r) (o := .tup (xs ++ ys)) hp
        have k := e.toKeep R.frn
        refine h (.ref p) r _ e (R.new hp) (Den.tup (.inl ⟨.inl upd_same, R.newNo hp⟩) ?_)
        have app : ∀ {vs ws : List V} {ds es : List D} {no : Addr → Prop} {H : Hp}, DenL X.K no H vs ds → DenL X.K no H ws es → DenL X.K no H (vs ++ ws) (ds ++ es) := by
          intro vs ws ds es no H h1 h2
          induction vs generalizing ds with
          | nil => cases h1; exact h2
          | cons v vs ih =>
            cases h1 with
            | cons q t => exact .cons q (ih t)
        exact app (DenL.keep k _ _ da) (DenL.keep k _ _ db)
    · exact h.elim
  · rename_i la lb
    have ex := dx.str_inv; have ey := dy.str_inv; subst ex; subst ey
    split at h
    · rename_i hc
      exact op_add_str pins s σ H _ _ v u Q I rx ry ⟨_, _, rfl, rfl, of_decide_eq_true hc, h.fin R (Den.str _)⟩
    · exact h.elim
  · split at h
    · rename_i la lb ea eb
      obtain ⟨a, xs, rfl, ta, da⟩ := lstItems_inv R dx ea
      obtain ⟨b, ys, rfl, tb, db⟩ := lstItems_inv R dy eb
      split at h
      · rename_i hc
        have hz : la.length + lb.length ≤ sizeLine := of_decide_eq_true hc
        have l1 := da.length
        have l2 := db.length
        exact op_cat pins s σ H _ _ v u Q I rx ry ⟨a, b, xs, ys, rfl, rfl, ta, tb, by omega, fun p hp => mkL_ok R (da.append db) hp h⟩
      · exact h.elim
    · exact h.elim
  · exact h.elim

theorem op_C (hu : X.A.units + 65 < cLine) (op : Cop) : OpR X (compareOp (copOf op)) (r2 X.K ca W (opC op)) := by
  intro pins s σ H x y v u Q I rx ry h
  obtain ⟨F, r, S, σ0, ux, uy, R, dx, dy, h⟩ := h
  unfold opC at h
  split at h
  · split at h
    · rename_i da db ea eb
      split at h
      · rename_i hc
        rw [Bool.and_eq_true] at hc
        exact op_eqD (by omega) pins s σ H _ _ v u Q I rx ry ⟨_, _, snap_dp R dx ea hc.1, snap_dp R dy eb hc.2, hc.1, hc.2, h.fin R (Den.bl _)⟩
      · exact h.elim
    · exact h.elim
  · split at h
    · rename_i da db ea eb
      split at h
      · rename_i hc
        rw [Bool.and_eq_true] at hc
        exact op_neD (by omega) pins s σ H _ _ v u Q I rx ry ⟨_, _, snap_dp R dx ea hc.1, snap_dp R dy eb hc.2, hc.1, hc.2, h.fin R (Den.bl _)⟩
      · exact h.elim
    · exact h.elim
  · split at h
    · have ex := dx.bl_inv; have ey := dy.bl_inv; subst ex; subst ey
      exact op_is_bl pins s σ H _ _ v u Q I rx ry ⟨_, _, rfl, rfl, h.fin R (Den.bl _)⟩
    · rename_i da
      have ey := dy.non_inv; subst ey
      refine op_isN pins s σ H _ _ v u Q I rx ry ⟨rfl, ?_⟩
      have e : decide (x = V.non) = isNon da := by
        have dx : Den X.K (fun a => F a ∨ a ∈ r) H x da := dx
        cases dx <;> simp [isNon]
      rw [e]
      exact h.fin R (Den.bl _)
    · rename_i n
      have ey := dy.non_inv; subst ey
      obtain ⟨a, _, rfl⟩ := dx
      exact op_isN pins s σ H _ _ v u Q I rx ry ⟨rfl, by simpa using h.fin R (Den.bl _)⟩
    · exact h.elim
  · split at h
    · have ex := dx.bl_inv; have ey := dy.bl_inv; subst ex; subst ey
      exact op_isnot_bl pins s σ H _ _ v u Q I rx ry ⟨_, _, rfl, rfl, h.fin R (Den.bl _)⟩
    · rename_i da
      have ey := dy.non_inv; subst ey
      refine op_notN pins s σ H _ _ v u Q I rx ry ⟨rfl, ?_⟩
      have e : decide (x = V.non) = isNon da := by
        have dx : Den X.K (fun a => F a ∨ a ∈ r) H x da := dx
        cases dx <;> simp [isNon]
      rw [e]
      exact h.fin R (Den.bl _)
    · rename_i n
      have ey := dy.non_inv; subst ey
      obtain ⟨a, _, rfl⟩ := dx
      exact op_notN pins s σ H _ _ v u Q I rx ry ⟨rfl, by simpa using h.fin R (Den.bl _)⟩
    · exact h.elim
  · split at h
    · rename_i da la
      split at h
      · rename_i hc
        rw [Bool.and_eq_true] at hc
        have hl : Dp X.K H y (.list (toPDs la)) := Den.dp (.lst la) y dy (okD_lay hc.2)
        refine op_inD (by omega) pins s σ H _ _ v u Q I rx ry ⟨toPD da, toPDs la, Den.dp da x dx (okD_lay hc.1), hl, hc.1, hc.2, ?_⟩
        have e : ∀ l : List D, ((toPDs l).any fun z => PyData.eqv z (toPD da)) = l.any fun z => eqD z da := by
          intro l
          induction l with
          | nil => rfl
          | cons z l ih => simp only [toPDs, List.any_cons, ih, eqD]
        rw [e]
        exact h.fin R (Den.bl _)
      · exact h.elim
    · exact h.elim
  · split at h
    · rename_i da la
      split at h
      · rename_i hc
        rw [Bool.and_eq_true] at hc
        have hl : Dp X.K H y (.list (toPDs la)) := Den.dp (.lst la) y dy (okD_lay hc.2)
        refine op_notInD (by omega) pins s σ H _ _ v u Q I rx ry ⟨toPD da, toPDs la, Den.dp da x dx (okD_lay hc.1), hl, hc.1, hc.2, ?_⟩
        have e : ∀ l : List D, ((toPDs l).any fun z => PyData.eqv z (toPD da)) = l.any fun z => eqD z da := by
          intro l
          induction l with
          | nil => rfl
          | cons z l ih => simp only [toPDs, List.any_cons, ih, eqD]
        rw [e]
        exact h.fin R (Den.bl _)
      · exact h.elim
    · exact h.elim
  · split at h
    · rename_i i j
      have ex := dx.int_inv; have ey := dy.int_inv; subst ex; subst ey
      split at h
      · rename_i b hb
        cases op with
        | lt =>
          have e : decide (i < j) = b := by simpa [cmpI] using hb
          subst e
          exact op_lt pins s σ H _ _ v u Q I rx ry ⟨_, _, rfl, rfl, h.fin R (Den.bl _)⟩
        | le =>
          have e : decide (i ≤ j) = b := by simpa [cmpI] using hb
          subst e
          exact op_le pins s σ H _ _ v u Q I rx ry ⟨_, _, rfl, rfl, h.fin R (Den.bl _)⟩
        | gt =>
          have e : decide (j < i) = b := by simpa [cmpI] using hb
          subst e
          exact op_gt pins s σ H _ _ v u Q I rx ry ⟨_, _, rfl, rfl, h.fin R (Den.bl _)⟩
        | ge =>
          have e : decide (j ≤ i) = b := by simpa [cmpI] using hb
          subst e
          exact op_ge pins s σ H _ _ v u Q I rx ry ⟨_, _, rfl, rfl, h.fin R (Den.bl _)⟩
        | _ => simp [cmpI] at hb
      · exact h.elim
    · exact h.elim

theorem DenUL.atI {K : PySem.W.Frag} {F : Addr → Prop} {r : List Addr} {H : Hp} {xs : List V} {us : List U} {i : Int} {u : U} (d : DenUL K F r H xs us) (e : L2.atI us i = some u) : ∃ x, L2.atI xs i = some x ∧ DenU K F r H x u := by
  unfold L2.atI at e ⊢
  rw [d.length]
  cases q : ixN us.length i with
  | none => rw [q] at e; simp at e
  | some j =>
    rw [q] at e
    obtain ⟨x, h1, h2⟩ := d.get (show us[j]? = some u from e)
    exact ⟨x, h1, h2⟩
theorem ix_G : IxR X (r2 X.K ca W getIx) := by
  intro value slice pins s σ H x y v u Q I rx ry h hs0
  obtain ⟨F, r, S, σ0, ux, uy, R, dx, dy, h⟩ := h
  unfold getIx at h
  split at h
  · rename_i i
    have ey := dy.int_inv; subst ey
    split at h
    · rename_i z
      have ex := dx.str_inv; subst ex
      split at h
      · rename_i hz
        split at h
        · rename_i c hc
          exact ix_str value slice pins s σ H _ _ v u Q I rx ry ⟨_, _, _, rfl, rfl, of_decide_eq_true hz, hc, h.fin R (Den.str _)⟩ hs0
        · exact h.elim
      · exact h.elim
    · split at h
      · rename_i l e
        split at h
        · rename_i w ew
          obtain ⟨a, xs, rfl, hs, da⟩ := items_inv R dx e
          obtain ⟨z, ez, dz⟩ := da.atI ew
          refine ix_seq value slice pins s σ H _ _ v u Q I rx ry ?_ hs0
          rcases hs with hs | hs
          · exact .inl ⟨a, xs, i, z, rfl, rfl, hs, ez, h.fin R dz⟩
          · exact .inr (.inl ⟨a, xs, i, z, rfl, rfl, hs, ez, h.fin R dz⟩)
        · exact h.elim
      · exact h.elim
  · exact h.elim
def rSlU (K : PySem.W.Frag) (ca : Nat → Option Addr) (W : WX) (m : Bool) : V → Option Int → Option Int → Hp → VK → Prop := fun x lo hi H Q => ∃ F r S σ ux, RepS K F r S H ∧ DenU K F r H x ux ∧ RR K ca W (relU K F) F r σ H Q (getSl m ux lo hi S)
theorem DenUL.cut {K : PySem.W.Frag} {F : Addr → Prop} {r : List Addr} {H : Hp} {xs : List V} {us : List U} (d : DenUL K F r H xs us) (lo hi : Option Int) : DenUL K F r H (cutV xs lo hi) (cutL us lo hi) := by
  unfold cutV cutL
  rw [d.length]
  exact (d.drop _).take _
theorem DenL.cut {K : PySem.W.Frag} {no : Addr → Prop} {H : Hp} {xs : List V} {us : List D} (d : DenL K no H xs us) (lo hi : Option Int) : DenL K no H (cutV xs lo hi) (cutL us lo hi) := by
  have tk : ∀ {vs : List V} {ds : List D} (n : Nat), DenL K no H vs ds → DenL K no H (vs.take n) (ds.take n) := by
    intro vs ds n h
    induction n generalizing vs ds with
    | zero => exact .nil
    | succ n ih =>
      cases h with
      | nil => exact .nil
      | cons a t => exact .cons a (ih t)
  have dr : ∀ {vs : List V} {ds : List D} (n : Nat), DenL K no H vs ds → DenL K no H (vs.drop n) (ds.drop n) := by
    intro vs ds n h
    induction n generalizing vs ds with
    | zero => exact h
    | succ n ih =>
      cases h with
      | nil => exact .nil
      | cons a t => exact ih t
  unfold cutV cutL
  rw [d.length]
  exact tk _ (dr _ d)
theorem cutV_map (l : List Int) (lo hi : Option Int) : cutV (l.map V.int) lo hi = (cutL l lo hi).map V.int := by
  unfold cutV cutL
  rw [List.length_map, List.map_take, List.map_drop]
theorem sl_G (m : Bool) : SlR X (rSlU X.K ca W m) := by
  intro pins s σ H x v vl vu lo hi sl Q I rx hs pl pu h
  obtain ⟨F, r, S, σ0, ux, R, dx, h⟩ := h
  unfold getSl at h
  split at h
  · rename_i l
    obtain ⟨a, xs, rfl, ta, da⟩ := dx.tup_inv
    refine sl_tupA pins s σ H _ v vl vu lo hi sl Q I rx hs pl pu ⟨a, xs, rfl, ta.sq, fun ⟨e1, e2⟩ => ?_, fun _ p hp => ?_⟩
    · have e : cutL l lo hi = l := by
        unfold cutL
        rw [← da.length, e1, e2, Nat.sub_zero, List.drop_zero, da.length, List.take_length]
      rw [e] at h
      exact h.fin R (Den.tup ta da)
    · have e := ext_new (r := r) (o := .tup (cutV xs lo hi)) hp
      exact h (.ref p) r _ e (R.new hp) (Den.tup (.inl ⟨.inl upd_same, R.newNo hp⟩) (DenL.keep (e.toKeep R.frn) _ _ (da.cut lo hi)))
  · rename_i l
    obtain ⟨a, rfl, ta⟩ := dx.scr_inv
    refine sl_list pins s σ H _ v vl vu lo hi sl Q I rx hs pl pu ⟨a, _, rfl, ta.sq, fun p hp => ?_⟩
    rw [cutV_map]
    exact mkL_ok R (DenUL.intsL _) hp h
  · split at h
    · rename_i us e
      obtain ⟨a, xs, rfl, ta, da⟩ := lstItems_inv R dx e
      exact sl_list pins s σ H _ v vl vu lo hi sl Q I rx hs pl pu ⟨a, xs, rfl, .inl (.inl ta), fun p hp => mkL_ok R (da.cut lo hi) hp h⟩
    · exact h.elim

/-! ### types -/
def tyS : Ty → String
  | .int => "int" | .bool => "bool" | .str => "str" | .tuple => "tuple" | .list => "list"
def rIsiU (K : PySem.W.Frag) (ca : Nat → Option Addr) (W : WX) (t : Ty) : List V → Hp → VK → Prop := fun vs H Q => ∃ F r S σ ux x, vs = [x, .ty (tyS t)] ∧ RepS K F r S H ∧ DenU K F r H x ux ∧
  RR K ca W (relU K F) F r σ H Q (match isTyU t S ux with
    | some b => .ok (.d (.bl b)) S
    | none => .stuck)
theorem kit_all (t : Ty) : kitB "int" (tyS t) = some (decide (t = .int)) ∧ kitB "bool" (tyS t) = some (decide (t = .int ∨ t = .bool)) ∧ kitB "str" (tyS t) = some (decide (t = .str)) ∧ kitB "tuple" (tyS t) = some (decide (t = .tuple)) ∧ kitB "list" (tyS t) = some (decide (t = .list)) ∧ kitB "NoneType" (tyS t) = some false := by
  cases t <;> decide +kernel
theorem ty_tup {K : PySem.W.Frag} {no : Addr → Prop} {H : Hp} {a : Addr} {xs : List V} (h : TupF K no H a xs) : TyX K H (.ref a) (.type "tuple") := by
  rcases h with ⟨h | ⟨o, h⟩, _⟩ | ⟨o, its, n, h1, h2, _⟩
  · exact .base (.tup h)
  · exact .fTuple h
  · exact .kTuple h1 h2
theorem call_isiU (t : Ty) : CallR X (.builtin "isinstance") (rIsiU X.K ca W t) := by
  intro pins s σ H vs us Q I r h
  obtain ⟨F, rr, S, σ0, ux, x, rfl, R, dx, h⟩ := h
  obtain ⟨k1, k2, k3, k4, k5, k6⟩ := kit_all t
  have go : ∀ (a : String) (b : Bool), TyX X.K H x (.type a) → kitB a (tyS t) = some b → Q (.bl b) H → wpAny (model X.prog X.w) X.A (call (.builtin "isinstance") us) (EP X pins σ Q) X.xe s := fun a b ty k q =>
    call_isi pins s σ H _ us Q I r ⟨x, .ty (tyS t), .type a, .type (tyS t), b, rfl, .ty _, ty, kit_ty k, q⟩
  cases ux with
  | d d =>
    have dx : Den X.K (fun a => F a ∨ a ∈ rr) H x d := dx
    cases dx with
    | non => exact go "NoneType" _ (.base .non) k6 (RR.fin (a := U.d (.bl false)) (by cases t <;> exact h) R (Den.bl _))
    | bl b => exact go "bool" _ (.base (.bl b)) k2 (RR.fin (a := U.d (.bl (decide (t = .int ∨ t = .bool)))) (by cases t <;> exact h) R (Den.bl _))
    | int i => exact go "int" _ (.base (.int i)) k1 (RR.fin (a := U.d (.bl (decide (t = .int)))) (by cases t <;> exact h) R (Den.bl _))
    | str z => exact go "str" _ (.base (.str z)) k3 (RR.fin (a := U.d (.bl (decide (t = .str)))) (by cases t <;> exact h) R (Den.bl _))
    | tup ta da => exact go "tuple" _ (ty_tup ta) k4 (RR.fin (a := U.d (.bl (decide (t = .tuple)))) (by cases t <;> exact h) R (Den.bl _))
    | lst ta da => exact go "list" _ (.base (.lst ta.1)) k5 (RR.fin (a := U.d (.bl (decide (t = .list)))) (by cases t <;> exact h) R (Den.bl _))
    | scr ta => cases t <;> exact h.elim
  | ref n =>
    cases q : S[n]? with
    | none => simp only [isTyU, q] at h; exact h.elim
    | some mo =>
      cases mo with
      | lst ws =>
        simp only [isTyU, q] at h
        obtain ⟨a, xs, rfl, _, h3, h4⟩ := R.at dx q
        exact go "list" _ (.base (.lst h3)) k5 (h.fin R (Den.bl _))

/-! ### built-ins -/
def bfV : Bf → Value
  | .len => .builtin "len" | .abs => .builtin "abs" | .int => .type "int" | .tuple => .type "tuple" | .list => .type "list" | .all => .builtin "all" | .any => .builtin "any"
  | .gcd => .builtin "math.gcd" | .sum => .builtin "sum" | .min2 => .builtin "min" | .max2 => .builtin "max"
def rF (K : PySem.W.Frag) (ca : Nat → Option Addr) (W : WX) (m : Bool) (f : Bf) : List V → Hp → VK → Prop := fun vs H Q => ∃ F r S σ us, RepS K F r S H ∧ DenUL K F r H vs us ∧ RR K ca W (relU K F) F r σ H Q (opF m f us S)
theorem DenUL.one {K : PySem.W.Frag} {F : Addr → Prop} {r : List Addr} {H : Hp} {vs : List V} {u : U} (h : DenUL K F r H vs [u]) : ∃ v, vs = [v] ∧ DenU K F r H v u := by
  cases h with
  | cons a t => cases t; exact ⟨_, rfl, a⟩
theorem DenUL.two {K : PySem.W.Frag} {F : Addr → Prop} {r : List Addr} {H : Hp} {vs : List V} {u w : U} (h : DenUL K F r H vs [u, w]) : ∃ v z, vs = [v, z] ∧ DenU K F r H v u ∧ DenU K F r H z w := by
  cases h with
  | cons a t =>
    cases t with
    | cons b t => cases t; exact ⟨_, _, rfl, a, b⟩
theorem DenUL.boolsL {K : PySem.W.Frag} {F : Addr → Prop} {r : List Addr} {H : Hp} : ∀ {us : List U} {vs : List V} {bs : List Bool}, DenUL K F r H vs us → boolsOf us = some bs → vs = bs.map V.bl
  | [], _, bs, h, e => by
    cases h
    have : bs = [] := by simpa [boolsOf] using e.symm
    subst this; rfl
  | u :: us, _, bs, h, e => by
    cases h with
    | cons a t =>
      cases u with
      | ref n => simp [boolsOf] at e
      | d x =>
        cases x with
        | bl b =>
          cases q : boolsOf us with
          | none => simp [boolsOf, q] at e
          | some es =>
            have : bs = b :: es := by simpa [boolsOf, q] using e.symm
            subst this
            rw [DenUL.boolsL t q, a.bl_inv]; rfl
        | _ => simp [boolsOf] at e
theorem DenUL.intsI {K : PySem.W.Frag} {F : Addr → Prop} {r : List Addr} {H : Hp} : ∀ {us : List U} {vs : List V} {bs : List Int}, DenUL K F r H vs us → intsOf us = some bs → vs = bs.map V.int
  | [], _, bs, h, e => by
    cases h
    have : bs = [] := by simpa [intsOf] using e.symm
    subst this; rfl
  | u :: us, _, bs, h, e => by
    cases h with
    | cons a t =>
      cases u with
      | ref n => simp [intsOf] at e
      | d x =>
        cases x with
        | int b =>
          cases q : intsOf us with
          | none => simp [intsOf, q] at e
          | some es =>
            have : bs = b :: es := by simpa [intsOf, q] using e.symm
            subst this
            rw [DenUL.intsI t q, a.int_inv]; rfl
        | _ => simp [intsOf] at e
theorem call_F (hc : X.calm = true) (m : Bool) (f : Bf) : CallR X (bfV f) (rF X.K ca W m f) := by
  intro pins s σ H vs us Q I r h
  obtain ⟨F, rr, S, σ0, ws, R, d, h⟩ := h
  unfold opF at h
  split at h
  · obtain ⟨v, rfl, dv⟩ := d.one
    have e := dv.str_inv; subst e
    split at h
    · rename_i hz
      exact call_len pins s σ H _ us Q I r ⟨_, _, rfl, ⟨of_decide_eq_true hz, rfl⟩, h.fin R (Den.int _)⟩
    · exact h.elim
  · obtain ⟨v, rfl, dv⟩ := d.one
    split at h
    · rename_i l e
      obtain ⟨a, xs, rfl, hs, da⟩ := items_inv R dv e
      refine call_len_seq pins s σ H _ us Q I r ⟨a, xs, rfl, hs, ?_⟩
      rw [da.length]
      exact h.fin R (Den.int _)
    · exact h.elim
  · obtain ⟨v, rfl, dv⟩ := d.one
    have e := dv.int_inv; subst e
    exact call_abs pins s σ H _ us Q I r ⟨_, rfl, h.fin R (Den.int _)⟩
  · obtain ⟨v, rfl, dv⟩ := d.one
    have e := dv.int_inv; subst e
    exact call_int1 pins s σ H _ us Q I r (.inl ⟨_, rfl, h.fin R (Den.int _)⟩)
  · obtain ⟨v, rfl, dv⟩ := d.one
    have e := dv.bl_inv; subst e
    exact call_int1 pins s σ H _ us Q I r (.inr ⟨_, rfl, h.fin R (Den.int _)⟩)
  · obtain ⟨v, rfl, dv⟩ := d.one
    obtain ⟨a, xs, rfl, ta, da⟩ := dv.tup_inv
    exact call_tuple_of pins s σ H _ us Q I r ⟨a, xs, rfl, .inr ⟨ta.sq, h.fin R (Den.tup ta da)⟩⟩
  · obtain ⟨v, rfl, dv⟩ := d.one
    split at h
    · rename_i l e
      obtain ⟨a, xs, rfl, hs, da⟩ := lstItems_inv R dv e
      exact call_tuple_of pins s σ H _ us Q I r ⟨a, xs, rfl, .inl ⟨.inl (.inl hs), fun p hp => mkT_ok R da hp h⟩⟩
    · exact h.elim
  · obtain ⟨v, rfl, dv⟩ := d.one
    split at h
    · rename_i l e
      obtain ⟨a, xs, rfl, hs, da⟩ := items_inv R dv e
      exact call_list_of pins s σ H _ us Q I r ⟨a, xs, rfl, hs, fun p hp => mkL_ok R da hp h⟩
    · exact h.elim
  · obtain ⟨v, rfl, dv⟩ := d.one
    split at h
    · rename_i l e
      obtain ⟨a, xs, rfl, hs, da⟩ := lstItems_inv R dv e
      split at h
      · rename_i bs eb
        have ex := da.boolsL eb
        subst ex
        exact cr_all hc pins s σ H _ us Q I r ⟨a, bs, rfl, .inl (.inl hs), h.fin R (Den.bl _)⟩
      · exact h.elim
    · exact h.elim
  · obtain ⟨v, rfl, dv⟩ := d.one
    split at h
    · rename_i l e
      obtain ⟨a, xs, rfl, hs, da⟩ := lstItems_inv R dv e
      split at h
      · rename_i bs eb
        have ex := da.boolsL eb
        subst ex
        exact cr_any hc pins s σ H _ us Q I r ⟨a, bs, rfl, .inl (.inl hs), h.fin R (Den.bl _)⟩
      · exact h.elim
    · exact h.elim
  · obtain ⟨v, rfl, dv⟩ := d.one
    split at h
    · rename_i l e
      obtain ⟨a, xs, rfl, hs, da⟩ := lstItems_inv R dv e
      split at h
      · rename_i bs eb
        have ex := da.intsI eb
        subst ex
        exact cr_sum hc pins s σ H _ us Q I r ⟨a, bs, rfl, .inl (.inl hs), h.fin R (Den.int _)⟩
      · exact h.elim
    · exact h.elim
  · obtain ⟨v, z, rfl, dv, dz⟩ := d.two
    have e := dv.int_inv; have e2 := dz.int_inv; subst e; subst e2
    exact cr_gcd pins s σ H _ us Q I r ⟨_, _, rfl, h.fin R (Den.int _)⟩
  · obtain ⟨v, z, rfl, dv, dz⟩ := d.two
    have e := dv.int_inv; have e2 := dz.int_inv; subst e; subst e2
    exact call_max2 hc pins s σ H _ us Q I r ⟨_, _, rfl, h.fin R (Den.int _)⟩
  · obtain ⟨v, z, rfl, dv, dz⟩ := d.two
    have e := dv.int_inv; have e2 := dz.int_inv; subst e; subst e2
    exact call_min2 hc pins s σ H _ us Q I r ⟨_, _, rfl, h.fin R (Den.int _)⟩
  · exact h.elim

/-! ### truth -/
theorem truth_ok {K : PySem.W.Frag} {F : Addr → Prop} {r : List Addr} {H : Hp} {S : Sto} {x : V} {u : U} {b : Bool} (R : RepS K F r S H) (d : DenU K F r H x u) (e : truth S u = some b) : TruV K x H b := by
  have seqs : ∀ {xs : List V} {us : List U}, DenUL K F r H xs us → xs.isEmpty = us.isEmpty := by
    intro xs us h
    cases h <;> rfl
  have seqs' : ∀ {xs : List V} {us : List D}, DenL K (fun a => F a ∨ a ∈ r) H xs us → xs.isEmpty = us.isEmpty := by
    intro xs us h
    cases h <;> rfl
  cases u with
  | d d' =>
    have d : Den K (fun a => F a ∨ a ∈ r) H x d' := d
    cases d with
    | non => exact (show b = false by simpa [truth] using e.symm)
    | bl i => exact (show b = i by simpa [truth] using e.symm)
    | int i => exact (show b = (i != 0) by simpa [truth] using e.symm)
    | str z =>
      by_cases hz : z.length ≤ sizeLine
      · rw [truth, if_pos hz] at e
        exact ⟨hz, (Option.some.inj e).symm⟩
      · rw [truth, if_neg hz] at e
        cases e
    | tup ta da => exact .inr (.inl ⟨_, ta.sq, by rw [seqs' da]; simpa [truth] using e.symm⟩)
    | lst ta da => exact .inl ⟨_, ta.sq, by rw [seqs' da]; simpa [truth] using e.symm⟩
    | scr ta => exact .inl ⟨_, ta.sq, by simpa [truth] using e.symm⟩
  | ref n =>
    cases q : S[n]? with
    | none => simp [truth, q] at e
    | some mo =>
      cases mo with
      | lst ws =>
        obtain ⟨a, xs, rfl, _, h3, h4⟩ := R.at d q
        exact .inl ⟨_, .inl (.inl h3), by rw [seqs h4]; simpa [truth, q] using e.symm⟩
end
end PV
/-! PV3: readings of expressions by the evaluator; one lemma for each construct. -/
namespace PV
open PySem PySem.Spec PyProof.Rows L2

theorem _root_.L2.PE.imp {X : Cx} {e : Expr} {t t' : TE} (h : PE X e t) (k : ∀ σ H Q, t' σ H Q → t σ H Q) : PE X e t' := ⟨fun pins s σ H Q I q => h.run pins s σ H Q I (k σ H Q q)⟩
theorem _root_.L2.PT.imp {X : Cx} {e : Expr} {t t' : TT} (h : PT X e t) (k : ∀ σ H Q, t' σ H Q → t σ H Q) : PT X e t' := ⟨fun pins s σ H Q I q => h.run pins s σ H Q I (k σ H Q q)⟩
theorem _root_.L2.PW.imp {X : Cx} {e : Expr} {t t' : TT} (h : PW X e t) (k : ∀ σ H Q, t' σ H Q → t σ H Q) : PW X e t' := ⟨fun wh pins s σ H Q I q => h.run wh pins s σ H Q I (k σ H Q q)⟩
theorem _root_.L2.PA.imp {X : Cx} {e : List Expr} {t t' : TA} (h : PA X e t) (k : ∀ σ H Q, t' σ H Q → t σ H Q) : PA X e t' := ⟨fun pos pins s σ H Q I q => h.run pos pins s σ H Q I (k σ H Q q)⟩
theorem _root_.L2.PO.imp {X : Cx} {e : Option Expr} {t t' : TO} (h : PO X e t) (k : ∀ σ H Q, t' σ H Q → t σ H Q) : PO X e t' := ⟨fun pins s σ H Q I q => h.run pins s σ H Q I (k σ H Q q)⟩
theorem _root_.L2.PTs.imp {X : Cx} {e : List Expr} {t t' : TT} (h : PTs X e t) (k : ∀ σ H Q, t' σ H Q → t σ H Q) : PTs X e t' := ⟨fun pins s σ H Q I q => h.run pins s σ H Q I (k σ H Q q)⟩

/-- the reading of something that the evaluator reckons at the slots and the store -/
def tR {α β : Type} (K : PySem.W.Frag) (ca : Nat → Option Addr) (W : WX) (rel : (Addr → Prop) → List Addr → Hp → β → α → Prop) (f : Gam → Sto → Res α) : L2.St → Hp → (β → Hp → Prop) → Prop := fun σ H Q =>
  ∃ (F : Addr → Prop) (r : List Addr) (g : Gam) (S : Sto), RepS K F r S H ∧ RepG K F r H g σ ∧ RR K ca W (rel F) F r σ H Q (f g S)
abbrev rB : (Addr → Prop) → List Addr → Hp → Bool → Bool → Prop := fun _ _ _ b a => b = a
abbrev rO : (Addr → Prop) → List Addr → Hp → Option Int → Option Int → Prop := fun _ _ _ b a => b = a
abbrev tE (K : PySem.W.Frag) (ca : Nat → Option Addr) (W : WX) (C : Ctx) (e : E) : TE := tR K ca W (relU K) (evE C e)
abbrev tT (K : PySem.W.Frag) (ca : Nat → Option Addr) (W : WX) (C : Ctx) (e : E) : TT := tR K ca W rB fun g S => tru (evE C e g S)
abbrev tEs (K : PySem.W.Frag) (ca : Nat → Option Addr) (W : WX) (C : Ctx) (e : List E) : TA := tR K ca W (relUs K) (evEs C e)
abbrev tO (K : PySem.W.Frag) (ca : Nat → Option Addr) (W : WX) (C : Ctx) (e : Option E) : TO := tR K ca W rO (evO C e)

/-- a value, then what follows: the frame of the rules of two parts -/
theorem step {α β α' β' : Type} {K : PySem.W.Frag} {ca : Nat → Option Addr} {W : WX} {rel : (Addr → Prop) → List Addr → Hp → β → α → Prop} {rel' : (Addr → Prop) → List Addr → Hp → β' → α' → Prop} {f : Gam → Sto → Res α}
    {k : α → Gam → Sto → Res α'} {σ : L2.St} {H : Hp} {Q' : β' → Hp → Prop} {Q : β → Hp → Prop} {F : Addr → Prop} {r : List Addr} {g : Gam} {S : Sto} (R : RepS K F r S H) (G : RepG K F r H g σ)
    (h : RR K ca W (rel' F) F r σ H Q' ((f g S).bind fun a S => k a g S))
    (go : ∀ (b : β) (H1 : Hp) (r1 : List Addr) (a : α) (S1 : Sto), Ext r r1 H H1 → RepS K F r1 S1 H1 → RepG K F r1 H1 g σ → rel F r1 H1 b a → RR K ca W (rel' F) F r1 σ H1 Q' (k a g S1) → Q b H1) : tR K ca W rel f σ H Q := by
  refine ⟨F, r, g, S, R, G, RR.imp (RR.bind h) ?_⟩
  rintro b H1 ⟨r1, a, S1, e, R1, q, h1⟩
  exact go b H1 r1 a S1 e R1 (G.ext e R.frn) q h1

section
variable {X : Cx} {ca : Nat → Option Addr} {W : WX} {C : Ctx} {a b c : E} {a' b' c' : Expr} {pos : Pos} {l : List E} {l' : List Expr}

/-- two values, then an operation -/
theorem two {f : U → U → Sto → Res U} {σ : L2.St} {H : Hp} {Q : VK} (h : tR X.K ca W (relU X.K) (fun g S => (evE C a g S).bind fun x S => (evE C b g S).bind fun y S => f x y S) σ H Q) :
    tOp (r2 X.K ca W f) (tE X.K ca W C a) (tE X.K ca W C b) σ H Q := by
  obtain ⟨F, r, g, S, R, G, h⟩ := h
  refine step (k := fun x g S => (evE C b g S).bind fun y S => f x y S) R G h fun x H1 r1 ux S1 e1 R1 G1 d1 h1 => ?_
  refine step (k := fun y g S => f ux y S) R1 G1 h1 fun y H2 r2 uy S2 e2 R2 G2 d2 h2 => ?_
  exact ⟨F, r2, S2, σ, ux, uy, R2, d1.ext e2 R1.frn, d2, h2⟩

theorem e_bin (m : Bool) (op : Bop) (ha : PE X a' (tE X.K ca W C a)) (hb : PE X b' (tE X.K ca W C b)) : PE X (.BinOp a' (opOf op) b' pos) (tE X.K ca W C (.bin m op a b)) :=
  (pe_op (op_B m op) ha hb).imp fun _ _ _ h => two h
theorem e_cmp (hu : X.A.units + 65 < cLine) (op : Cop) (ha : PE X a' (tE X.K ca W C a)) (hb : PE X b' (tE X.K ca W C b)) (hm : behindInMarks (copOf op) b' = false) : PE X (.Compare a' [copOf op] [b'] pos) (tE X.K ca W C (.cmp op a b)) :=
  (pe_cmpR (op_C hu op) ha hb hm).imp fun _ _ _ h => two h
/-- what a comparison gives is a bool -/
theorem opC_bl {op : Cop} {x y : U} {S : Sto} {u : U} {S' : Sto} (h : opC op x y S = .ok u S') : ∃ k, u = .d (.bl k) := by
  unfold opC at h
  split at h
  all_goals first
    | (split at h
       all_goals first
         | (split at h
            all_goals first
              | (cases h; exact ⟨_, rfl⟩)
              | cases h)
         | (cases h; exact ⟨_, rfl⟩)
         | cases h)
theorem t_of_bl {t : TE} (hp : PT X a' (fun σ H Q => t σ H fun x H1 => ∃ k, x = .bl k ∧ Q k H1)) (f : Gam → Sto → Res U) (he : ∀ σ H Q, tR X.K ca W (relU X.K) f σ H Q → t σ H Q) (hb : ∀ g S u S', f g S = .ok u S' → ∃ k, u = .d (.bl k)) :
    PT X a' (tR X.K ca W rB fun g S => tru (f g S)) := by
  refine hp.imp fun σ H Q h => he _ _ _ ?_
  obtain ⟨F, r, g, S, R, G, h⟩ := h
  have h : RR X.K ca W (rB F) F r σ H Q (tru (f g S)) := h
  refine ⟨F, r, g, S, R, G, ?_⟩
  cases q : f g S with
  | ok u S' =>
    obtain ⟨k, rfl⟩ := hb g S u S' q
    rw [q] at h
    have h : RR X.K ca W (rB F) F r σ H Q (.ok k S') := h
    intro x r' H' e R' d
    have ex := d.bl_inv
    subst ex
    exact ⟨k, rfl, h k r' H' e R' rfl⟩
  | exc x S' => rw [q] at h; exact h
  | stuck => rw [q] at h; exact h
theorem t_cmp (hu : X.A.units + 65 < cLine) (op : Cop) (ha : PE X a' (tE X.K ca W C a)) (hb : PE X b' (tE X.K ca W C b)) (hm : behindInMarks (copOf op) b' = false) : PT X (.Compare a' [copOf op] [b'] pos) (tT X.K ca W C (.cmp op a b)) := by
  refine t_of_bl (pt_cmpR (op_C hu op) ha hb hm) (evE C (.cmp op a b)) (fun _ _ _ h => two h) fun g S u S' h => ?_
  simp only [evE] at h
  cases q : evE C a g S with
  | ok x S1 =>
    rw [q, Res.bind_ok] at h
    cases q2 : evE C b g S1 with
    | ok y S2 =>
      rw [q2, Res.bind_ok] at h
      exact opC_bl h
    | exc x S => rw [q2] at h; cases h
    | stuck => rw [q2] at h; cases h
  | exc x S => rw [q] at h; cases h
  | stuck => rw [q] at h; cases h
theorem three (o1 o2 : Cop) {σ : L2.St} {H : Hp} {Q : VK} (h : tE X.K ca W C (.chain o1 o2 a b c) σ H Q) :
    tChain (r2 X.K ca W (opC o1)) (r2 X.K ca W (opC o2)) (tE X.K ca W C a) (tE X.K ca W C b) (tE X.K ca W C c) σ H Q := by
  obtain ⟨F, r, g, S, R, G, h⟩ := h
  simp only [evE] at h
  refine step (k := fun x g S => (evE C b g S).bind fun y S => (opC o1 x y S).bind fun r S => chainK r (fun S => (evE C c g S).bind fun z S => opC o2 y z S) S) R G h fun x H1 r1 ux S1 e1 R1 G1 d1 h1 => ?_
  refine step (k := fun y g S => (opC o1 ux y S).bind fun r S => chainK r (fun S => (evE C c g S).bind fun z S => opC o2 y z S) S) R1 G1 h1 fun y H2 r2 uy S2 e2 R2 G2 d2 h2 => ?_
  refine ⟨F, r2, S2, σ, ux, uy, R2, d1.ext e2 R1.frn, d2, ?_⟩
  cases q : opC o1 ux uy S2 with
  | ok u S3 =>
    obtain ⟨k, rfl⟩ := opC_bl q
    rw [q, Res.bind_ok] at h2
    intro z r3 H3 e3 R3 d3
    have ez := d3.bl_inv
    subst ez
    refine ⟨k, rfl, ?_⟩
    have h2 := RR.ext e3 h2
    cases k with
    | true =>
      rw [if_pos rfl]
      have h2 : RR X.K ca W (relU X.K F) F r3 σ H3 Q ((evE C c g S3).bind fun z S => opC o2 uy z S) := h2
      refine step (k := fun z g S => opC o2 uy z S) R3 (G2.ext e3 R2.frn) h2 fun w H4 r4 uw S4 e4 R4 G4 d4 h4 => ?_
      exact ⟨F, r4, S4, σ, uy, uw, R4, (d2.ext e3 R2.frn).ext e4 R3.frn, d4, h4⟩
    | false =>
      rw [if_neg Bool.false_ne_true]
      have h2 : RR X.K ca W (relU X.K F) F r3 σ H3 Q (.ok (.d (.bl false)) S3) := h2
      exact h2.fin R3 (Den.bl _)
  | exc x S => rw [q] at h2; exact h2
  | stuck => rw [q] at h2; exact h2
theorem e_chain (hu : X.A.units + 65 < cLine) (o1 o2 : Cop) (ha : PE X a' (tE X.K ca W C a)) (hb : PE X b' (tE X.K ca W C b)) (hc : PE X c' (tE X.K ca W C c)) (hm : lastMarks [copOf o1, copOf o2] [b', c'] = false) :
    PE X (.Compare a' [copOf o1, copOf o2] [b', c'] pos) (tE X.K ca W C (.chain o1 o2 a b c)) :=
  (pe_chain (op_C hu o1) (op_C hu o2) ha hb hc hm).imp fun _ _ _ h => three o1 o2 h
theorem chain_bl {o1 o2 : Cop} {g : Gam} {S S' : Sto} {u : U} (h : evE C (.chain o1 o2 a b c) g S = .ok u S') : ∃ k, u = .d (.bl k) := by
  simp only [evE] at h
  cases q : evE C a g S with
  | ok x S1 =>
    rw [q, Res.bind_ok] at h
    cases q2 : evE C b g S1 with
    | ok y S2 =>
      rw [q2, Res.bind_ok] at h
      cases q3 : opC o1 x y S2 with
      | ok w S3 =>
        obtain ⟨k, rfl⟩ := opC_bl q3
        rw [q3, Res.bind_ok] at h
        cases k with
        | true =>
          have h : ((evE C c g S3).bind fun z S => opC o2 y z S) = .ok u S' := h
          cases q4 : evE C c g S3 with
          | ok z S4 => rw [q4, Res.bind_ok] at h; exact opC_bl h
          | exc x S => rw [q4] at h; cases h
          | stuck => rw [q4] at h; cases h
        | false => cases h; exact ⟨_, rfl⟩
      | exc x S => rw [q3] at h; cases h
      | stuck => rw [q3] at h; cases h
    | exc x S => rw [q2] at h; cases h
    | stuck => rw [q2] at h; cases h
  | exc x S => rw [q] at h; cases h
  | stuck => rw [q] at h; cases h
theorem t_chain (hu : X.A.units + 65 < cLine) (o1 o2 : Cop) (ha : PE X a' (tE X.K ca W C a)) (hb : PE X b' (tE X.K ca W C b)) (hc : PE X c' (tE X.K ca W C c)) (hm : lastMarks [copOf o1, copOf o2] [b', c'] = false) :
    PT X (.Compare a' [copOf o1, copOf o2] [b', c'] pos) (tT X.K ca W C (.chain o1 o2 a b c)) :=
  t_of_bl (pt_chain (op_C hu o1) (op_C hu o2) ha hb hc hm) (evE C (.chain o1 o2 a b c)) (fun _ _ _ h => three o1 o2 h) fun _ _ _ _ h => chain_bl h

/-- a value's truth as a test -/
theorem t_truth (ha : PE X a' (tE X.K ca W C a)) (he : ∀ whole, isTrue a' X.env whole = (do let v ← whole; standAt a'.pos; holding [v] (truthy v))) : PT X a' (tT X.K ca W C a) := by
  refine (pt_truth ha he).imp fun σ H Q h => ?_
  obtain ⟨F, r, g, S, R, G, h⟩ := h
  refine step (k := fun u g S => truS u S) R G h fun x H1 r1 ux S1 e1 R1 G1 d1 h1 => ?_
  cases q : truth S1 ux with
  | none => simp only [truS, q] at h1; exact h1.elim
  | some k =>
    simp only [truS, q] at h1
    exact ⟨k, truth_ok R1 d1 q, h1.fin R1 rfl⟩
theorem e_neg (ha : PE X a' (tE X.K ca W C a)) : PE X (.UnaryOp .USub a' pos) (tE X.K ca W C (.neg a)) := by
  refine (pe_un un_neg ha).imp fun σ H Q h => ?_
  obtain ⟨F, r, g, S, R, G, h⟩ := h
  simp only [evE] at h
  refine step (k := fun u g S => negU u S) R G h fun x H1 r1 ux S1 e1 R1 G1 d1 h1 => ?_
  unfold negU at h1
  split at h1
  · rename_i i
    have ex := d1.int_inv; subst ex
    exact ⟨i, rfl, h1.fin R1 (Den.int _)⟩
  · exact h1.elim
theorem t_not (ha : PT X a' (tT X.K ca W C a)) : PT X (.UnaryOp .Not a' pos) (tT X.K ca W C (.not a)) := by
  refine (pt_not ha).imp fun σ H Q h => ?_
  obtain ⟨F, r, g, S, R, G, h⟩ := h
  simp only [evE] at h
  have e : tru ((evE C a g S).bind fun x S => (truS x S).bind fun b S => Res.ok (U.d (D.bl (!b))) S) = (tru (evE C a g S)).bind fun b S => .ok (!b) S := by
    unfold tru
    cases evE C a g S with
    | ok u S =>
      simp only [Res.bind_ok]
      cases truS u S <;> rfl
    | exc x S => rfl
    | stuck => rfl
  rw [e] at h
  refine step (f := fun g S => tru (evE C a g S)) (k := fun b g S => .ok (!b) S) R G h fun x H1 r1 ux S1 e1 R1 G1 d1 h1 => ?_
  subst d1
  exact h1.fin R1 rfl
theorem e_not (ha : PE X a' (tE X.K ca W C a)) : PE X (.UnaryOp .Not a' pos) (tE X.K ca W C (.not a)) := by
  refine (pe_notT ha).imp fun σ H Q h => ?_
  obtain ⟨F, r, g, S, R, G, h⟩ := h
  simp only [evE] at h
  refine step (k := fun x g S => (truS x S).bind fun b S => Res.ok (U.d (D.bl (!b))) S) R G h fun x H1 r1 ux S1 e1 R1 G1 d1 h1 => ?_
  cases q : truth S1 ux with
  | none => simp only [truS, q, Res.bind_stuck] at h1; exact h1.elim
  | some k =>
    simp only [truS, q, Res.bind_ok] at h1
    exact ⟨k, truth_ok R1 d1 q, h1.fin R1 (Den.bl _)⟩
theorem e_ite (hc : PT X c' (tT X.K ca W C c)) (ha : PE X a' (tE X.K ca W C a)) (hb : PE X b' (tE X.K ca W C b)) : PE X (.IfExp c' a' b' pos) (tE X.K ca W C (.ite c a b)) := by
  refine (pe_ifExp hc ha hb).imp fun σ H Q h => ?_
  obtain ⟨F, r, g, S, R, G, h⟩ := h
  simp only [evE] at h
  refine step (f := fun g S => tru (evE C c g S)) (k := fun k g S => if k = true then evE C a g S else evE C b g S) R G h fun x H1 r1 ux S1 e1 R1 G1 d1 h1 => ?_
  subst d1
  cases x with
  | true => rw [if_pos rfl]; exact ⟨F, r1, g, S1, R1, G1, h1⟩
  | false => rw [if_neg Bool.false_ne_true]; exact ⟨F, r1, g, S1, R1, G1, h1⟩
/-- a conditional expression as a test -/
theorem pt_ifExp {X : Cx} {c a b : Expr} {tc ta tb : TT} {pos : Pos} (hc : PT X c tc) (ha : PT X a ta) (hb : PT X b tb) : PT X (.IfExp c a b pos) (fun σ H Q => tc σ H fun k H1 => if k = true then ta σ H1 Q else tb σ H1 Q) := by
  refine ⟨fun pins s σ H Q I h => ?_⟩
  show wpAny _ _ (do if ← isTrue c X.env (eval c X.env) then isTrue a X.env (eval a X.env) else isTrue b X.env (eval b X.env)) _ _ _
  refine wpAny_bind (thn (hc.run pins s σ H _ I h) fun d s1 ⟨H1, I1, q1⟩ => ?_)
  cases d with
  | true => exact ha.run pins s1 σ H1 Q I1 q1
  | false => exact hb.run pins s1 σ H1 Q I1 q1
theorem t_ite (hc : PT X c' (tT X.K ca W C c)) (ha : PT X a' (tT X.K ca W C a)) (hb : PT X b' (tT X.K ca W C b)) : PT X (.IfExp c' a' b' pos) (tT X.K ca W C (.ite c a b)) := by
  refine (pt_ifExp hc ha hb).imp fun σ H Q h => ?_
  obtain ⟨F, r, g, S, R, G, h⟩ := h
  simp only [evE] at h
  have e : tru ((tru (evE C c g S)).bind fun k S => if k = true then evE C a g S else evE C b g S) = (tru (evE C c g S)).bind fun k S => if k = true then tru (evE C a g S) else tru (evE C b g S) := by
    cases tru (evE C c g S) with
    | ok u S =>
      simp only [Res.bind_ok]
      cases u <;> rfl
    | exc x S => rfl
    | stuck => rfl
  rw [e] at h
  refine step (f := fun g S => tru (evE C c g S)) (k := fun k g S => if k = true then tru (evE C a g S) else tru (evE C b g S)) R G h fun x H1 r1 ux S1 e1 R1 G1 d1 h1 => ?_
  subst d1
  cases x with
  | true => rw [if_pos rfl]; exact ⟨F, r1, g, S1, R1, G1, h1⟩
  | false => rw [if_neg Bool.false_ne_true]; exact ⟨F, r1, g, S1, R1, G1, h1⟩

/-! ### and, or -/
abbrev tAnd' (K : PySem.W.Frag) (ca : Nat → Option Addr) (W : WX) (C : Ctx) (l : List E) : TE := tR K ca W (relU K) (evAnd C l)
abbrev tOr' (K : PySem.W.Frag) (ca : Nat → Option Addr) (W : WX) (C : Ctx) (l : List E) : TE := tR K ca W (relU K) (evOr C l)
abbrev ttAnd (K : PySem.W.Frag) (ca : Nat → Option Addr) (W : WX) (C : Ctx) (l : List E) : TT := tR K ca W rB fun g S => tru (evAnd C l g S)
abbrev ttOr (K : PySem.W.Frag) (ca : Nat → Option Addr) (W : WX) (C : Ctx) (l : List E) : TT := tR K ca W rB fun g S => tru (evOr C l g S)
variable {e : E} {rest : List E} {rest' : List Expr}
theorem e_and1 (ha : PE X a' (tE X.K ca W C a)) : PE X (.BoolOp .And [a'] pos) (tAnd' X.K ca W C [a]) := (pe_one ha).imp fun σ H Q ⟨F, r, g, S, R, G, h⟩ => ⟨F, r, g, S, R, G, by simpa only [evAnd] using h⟩
theorem e_or1 (ha : PE X a' (tE X.K ca W C a)) : PE X (.BoolOp .Or [a'] pos) (tOr' X.K ca W C [a]) := (pe_one ha).imp fun σ H Q ⟨F, r, g, S, R, G, h⟩ => ⟨F, r, g, S, R, G, by simpa only [evOr] using h⟩
theorem e_and2 (ha : PE X a' (tE X.K ca W C a)) (hb : PE X (.BoolOp .And (b' :: rest') pos) (tAnd' X.K ca W C (b :: rest))) : PE X (.BoolOp .And (a' :: b' :: rest') pos) (tAnd' X.K ca W C (a :: b :: rest)) := by
  refine (pe_andT ha hb).imp fun σ H Q h => ?_
  obtain ⟨F, r, g, S, R, G, h⟩ := h
  simp only [evAnd] at h
  refine step (k := fun x g S => (truS x S).bind fun k S => if k = true then evAnd C (b :: rest) g S else .ok x S) R G h fun x H1 r1 ux S1 e1 R1 G1 d1 h1 => ?_
  cases q : truth S1 ux with
  | none => simp only [truS, q, Res.bind_stuck] at h1; exact h1.elim
  | some k =>
    simp only [truS, q, Res.bind_ok] at h1
    refine ⟨k, truth_ok R1 d1 q, ?_⟩
    cases k with
    | true => rw [if_pos rfl] at h1 ⊢; exact ⟨F, r1, g, S1, R1, G1, h1⟩
    | false => rw [if_neg Bool.false_ne_true] at h1 ⊢; exact h1.fin R1 d1
theorem e_or2 (ha : PE X a' (tE X.K ca W C a)) (hb : PE X (.BoolOp .Or (b' :: rest') pos) (tOr' X.K ca W C (b :: rest))) : PE X (.BoolOp .Or (a' :: b' :: rest') pos) (tOr' X.K ca W C (a :: b :: rest)) := by
  refine (pe_orT ha hb).imp fun σ H Q h => ?_
  obtain ⟨F, r, g, S, R, G, h⟩ := h
  simp only [evOr] at h
  refine step (k := fun x g S => (truS x S).bind fun k S => if k = true then .ok x S else evOr C (b :: rest) g S) R G h fun x H1 r1 ux S1 e1 R1 G1 d1 h1 => ?_
  cases q : truth S1 ux with
  | none => simp only [truS, q, Res.bind_stuck] at h1; exact h1.elim
  | some k =>
    simp only [truS, q, Res.bind_ok] at h1
    refine ⟨k, truth_ok R1 d1 q, ?_⟩
    cases k with
    | true => rw [if_pos rfl] at h1 ⊢; exact h1.fin R1 d1
    | false => rw [if_neg Bool.false_ne_true] at h1 ⊢; exact ⟨F, r1, g, S1, R1, G1, h1⟩
theorem w_and1 (ha : PT X a' (tT X.K ca W C a)) : PW X (.BoolOp .And [a'] pos) (ttAnd X.K ca W C [a]) := (pw_and1 ha).imp fun σ H Q ⟨F, r, g, S, R, G, h⟩ => ⟨F, r, g, S, R, G, by simpa only [evAnd] using h⟩
theorem w_or1 (ha : PT X a' (tT X.K ca W C a)) : PW X (.BoolOp .Or [a'] pos) (ttOr X.K ca W C [a]) := (pw_or1 ha).imp fun σ H Q ⟨F, r, g, S, R, G, h⟩ => ⟨F, r, g, S, R, G, by simpa only [evOr] using h⟩
theorem w_and2 (ha : PT X a' (tT X.K ca W C a)) (hb : PW X (.BoolOp .And (b' :: rest') pos) (ttAnd X.K ca W C (b :: rest))) : PW X (.BoolOp .And (a' :: b' :: rest') pos) (ttAnd X.K ca W C (a :: b :: rest)) := by
  refine (pw_and ha hb).imp fun σ H Q h => ?_
  obtain ⟨F, r, g, S, R, G, h⟩ := h
  simp only [evAnd] at h
  have e : tru ((evE C a g S).bind fun x S => (truS x S).bind fun k S => if k = true then evAnd C (b :: rest) g S else .ok x S) = (tru (evE C a g S)).bind fun k S => if k = true then tru (evAnd C (b :: rest) g S) else .ok false S := by
    unfold tru
    cases evE C a g S with
    | ok u S =>
      simp only [Res.bind_ok]
      cases q : truth S u with
      | none => simp only [truS, q]; rfl
      | some k =>
        cases k with
        | true => simp only [truS, q, Res.bind_ok, if_pos]
        | false => simp only [truS, q, Res.bind_ok, Bool.false_eq_true, if_false]
    | exc x S => rfl
    | stuck => rfl
  rw [e] at h
  refine step (f := fun g S => tru (evE C a g S)) (k := fun k g S => if k = true then tru (evAnd C (b :: rest) g S) else .ok false S) R G h fun x H1 r1 ux S1 e1 R1 G1 d1 h1 => ?_
  subst d1
  cases x with
  | true => rw [if_pos rfl] at h1 ⊢; exact ⟨F, r1, g, S1, R1, G1, h1⟩
  | false => rw [if_neg Bool.false_ne_true] at h1 ⊢; exact h1.fin R1 rfl
theorem w_or2 (ha : PT X a' (tT X.K ca W C a)) (hb : PW X (.BoolOp .Or (b' :: rest') pos) (ttOr X.K ca W C (b :: rest))) : PW X (.BoolOp .Or (a' :: b' :: rest') pos) (ttOr X.K ca W C (a :: b :: rest)) := by
  refine (pw_or ha hb).imp fun σ H Q h => ?_
  obtain ⟨F, r, g, S, R, G, h⟩ := h
  simp only [evOr] at h
  have e : tru ((evE C a g S).bind fun x S => (truS x S).bind fun k S => if k = true then .ok x S else evOr C (b :: rest) g S) = (tru (evE C a g S)).bind fun k S => if k = true then .ok true S else tru (evOr C (b :: rest) g S) := by
    unfold tru
    cases evE C a g S with
    | ok u S =>
      simp only [Res.bind_ok]
      cases q : truth S u with
      | none => simp only [truS, q]; rfl
      | some k =>
        cases k with
        | true => simp only [truS, q, Res.bind_ok, if_pos]
        | false => simp only [truS, q, Res.bind_ok, Bool.false_eq_true, if_false]
    | exc x S => rfl
    | stuck => rfl
  rw [e] at h
  refine step (f := fun g S => tru (evE C a g S)) (k := fun k g S => if k = true then .ok true S else tru (evOr C (b :: rest) g S)) R G h fun x H1 r1 ux S1 e1 R1 G1 d1 h1 => ?_
  subst d1
  cases x with
  | true => rw [if_pos rfl] at h1 ⊢; exact h1.fin R1 rfl
  | false => rw [if_neg Bool.false_ne_true] at h1 ⊢; exact ⟨F, r1, g, S1, R1, G1, h1⟩

/-! ### names, constants, displays, subscripts -/
theorem e_slot {i : Nat} {x : Str} (hN : X.N[i]? = some x) (hv : Vis X.env.scope x) (hd : (x == ("__debug__" : Str)) = false) (hcd : (x == ("__classdict__" : Str)) = false) : PE X (.Name x pos) (tE X.K ca W C (.slot i)) := by
  refine (pe_var hN hv hd hcd).imp fun σ H Q h => ?_
  obtain ⟨F, r, g, S, R, G, h⟩ := h
  simp only [evE, slotU] at h
  split at h
  · rename_i u q
    obtain ⟨v, h1, h2⟩ := G.get i u q
    exact ⟨v, h1, h.fin R h2⟩
  · exact h.elim
theorem e_con {d : D} {v : V} (he : PE X a' (tC v)) (hd : ∀ no H, Den X.K no H v d) : PE X a' (tE X.K ca W C (.con d)) := by
  refine he.imp fun σ H Q h => ?_
  obtain ⟨F, r, g, S, R, G, h⟩ := h
  simp only [evE] at h
  exact h.fin R (hd _ _)
theorem e_gl {i : Nat} {d : D} {v : V} (he : PE X a' (tC v)) (hi : C.gl i = some d) (hd : ∀ no H, Den X.K no H v d) : PE X a' (tE X.K ca W C (.gl i)) := by
  refine he.imp fun σ H Q h => ?_
  obtain ⟨F, r, g, S, R, G, h⟩ := h
  simp only [evE, glU, hi] at h
  exact h.fin R (hd _ _)
theorem e_idx (ha : PE X a' (tE X.K ca W C a)) (hb : PE X b' (tE X.K ca W C b)) (hs : PlainIx b') : PE X (.Subscript a' b' pos) (tE X.K ca W C (.idx a b)) := (pe_ix ix_G ha hb hs).imp fun _ _ _ h => two h
theorem o_none : PO X none (tO X.K ca W C none) := by
  refine po_none.imp fun σ H Q h => ?_
  obtain ⟨F, r, g, S, R, G, h⟩ := h
  simp only [evO] at h
  exact h.fin R rfl
theorem o_some (ha : PE X a' (tE X.K ca W C a)) : PO X (some a') (tO X.K ca W C (some a)) := by
  refine (po_some ha).imp fun σ H Q h => ?_
  obtain ⟨F, r, g, S, R, G, h⟩ := h
  simp only [evO] at h
  refine step (k := fun x g S => intU x S) R G h fun x H1 r1 ux S1 e1 R1 G1 d1 h1 => ?_
  unfold intU at h1
  split at h1
  · rename_i i
    have ex := d1.int_inv; subst ex
    exact ⟨i, rfl, h1.fin R1 rfl⟩
  · exact h1.elim
theorem e_slc {lo hi : Option E} {lo' hi' : Option Expr} {p2 : Pos} (m : Bool) (ha : PE X a' (tE X.K ca W C a)) (hl : PO X lo' (tO X.K ca W C lo)) (hh : PO X hi' (tO X.K ca W C hi)) : PE X (.Subscript a' (.Slice lo' hi' none p2) pos) (tE X.K ca W C (.slc m a lo hi)) := by
  refine (pe_slice (sl_G (ca := ca) (W := W) m) ha hl hh).imp fun σ H Q h => ?_
  obtain ⟨F, r, g, S, R, G, h⟩ := h
  simp only [evE] at h
  refine step (k := fun x g S => (evO C lo g S).bind fun l S => (evO C hi g S).bind fun h S => getSl m x l h S) R G h fun x H1 r1 ux S1 e1 R1 G1 d1 h1 => ?_
  refine step (k := fun l g S => (evO C hi g S).bind fun h S => getSl m ux l h S) R1 G1 h1 fun y H2 r2 uy S2 e2 R2 G2 d2 h2 => ?_
  refine step (k := fun h g S => getSl m ux uy h S) R2 G2 h2 fun z H3 r3 uz S3 e3 R3 G3 d3 h3 => ?_
  subst d2 d3
  exact ⟨F, r3, S3, σ, ux, R3, (d1.ext e2 R1.frn).ext e3 R2.frn, h3⟩
theorem e_revL (m : Bool) {k : Nat} {p1 p2 p3 : Pos} (ha : PE X a' (tE X.K ca W C a)) (ht : PE X (.Subscript a' (.Slice none none (some (.UnaryOp .USub (.Constant (.int 1) k p1) p2)) p3) pos) (fun σ H Q => tE X.K ca W C a σ H fun x H1 => ∃ b xs, x = .ref b ∧
    ((SqL X.K H1 b xs ∧ ∀ p, H1 p = none → Q (.ref p) (upd H1 p (.lst xs.reverse))) ∨ (SqT X.K H1 b xs ∧ ∀ p, H1 p = none → Q (.ref p) (upd H1 p (.tup xs.reverse)))))) : PE X (.Subscript a' (.Slice none none (some (.UnaryOp .USub (.Constant (.int 1) k p1) p2)) p3) pos) (tE X.K ca W C (.rev m a)) := by
  refine ht.imp fun σ H Q h => ?_
  obtain ⟨F, r, g, S, R, G, h⟩ := h
  simp only [evE] at h
  refine step (k := fun x g S => getRev m x S) R G h fun x H1 r1 ux S1 e1 R1 G1 d1 h1 => ?_
  unfold getRev at h1
  split at h1
  · rename_i l
    obtain ⟨b, xs, rfl, ta, da⟩ := d1.tup_inv
    refine ⟨b, xs, rfl, .inr ⟨ta.sq, fun p hp => ?_⟩⟩
    have e := ext_new (r := r1) (o := .tup xs.reverse) hp
    have rv : ∀ {no : Addr → Prop} {H : Hp} {vs : List V} {ds : List D}, DenL X.K no H vs ds → DenL X.K no H vs.reverse ds.reverse := by
      have app : ∀ {vs ws : List V} {ds es : List D} {no : Addr → Prop} {H : Hp}, DenL X.K no H vs ds → DenL X.K no H ws es → DenL X.K no H (vs ++ ws) (ds ++ es) := by
        intro vs ws ds es no H h1 h2
        induction vs generalizing ds with
        | nil => cases h1; exact h2
        | cons v vs ih =>
          cases h1 with
          | cons q t => exact .cons q (ih t)
      intro no H vs ds h
      induction vs generalizing ds with
      | nil => cases h; exact .nil
      | cons v vs ih =>
        cases h with
        | cons q t => rw [List.reverse_cons, List.reverse_cons]; exact app (ih t) (.cons q .nil)
    exact h1 (.ref p) r1 _ e (R1.new hp) (Den.tup (.inl ⟨.inl upd_same, R1.newNo hp⟩) (DenL.keep (e.toKeep R1.frn) _ _ (rv da)))
  · split at h1
    · rename_i us q
      obtain ⟨b, xs, rfl, ta, da⟩ := lstItems_inv R1 d1 q
      exact ⟨b, xs, rfl, .inl ⟨.inl (.inl ta), fun p hp => mkL_ok R1 da.reverse hp h1⟩⟩
    · exact h1.elim
theorem a_nil : PA X [] (tEs X.K ca W C []) := by
  refine pa_nil.imp fun σ H Q h => ?_
  obtain ⟨F, r, g, S, R, G, h⟩ := h
  simp only [evEs] at h
  exact h.fin R .nil
theorem a_cons (ha : PE X a' (tE X.K ca W C a)) (hr : PA X l' (tEs X.K ca W C l)) (hs : starEach (a' :: l') X.env = (false, eval a' X.env) :: starEach l' X.env) : PA X (a' :: l') (tEs X.K ca W C (a :: l)) := by
  refine (pa_cons ha hr hs).imp fun σ H Q h => ?_
  obtain ⟨F, r, g, S, R, G, h⟩ := h
  simp only [evEs] at h
  refine step (k := fun u g S => (evEs C l g S).bind fun us S => .ok (u :: us) S) R G h fun x H1 r1 ux S1 e1 R1 G1 d1 h1 => ?_
  refine step (rel := relUs X.K) (k := fun us g S => .ok (ux :: us) S) R1 G1 h1 fun y H2 r2 uy S2 e2 R2 G2 d2 h2 => ?_
  exact h2.fin R2 (.cons (d1.ext e2 R1.frn) d2)
theorem e_tup {k : Nat} (h : PA X l' (tEs X.K ca W C l)) : PE X (.Tuple l' k pos) (tE X.K ca W C (.tup l)) := by
  refine (pe_tup h).imp fun σ H Q h => ?_
  obtain ⟨F, r, g, S, R, G, h⟩ := h
  simp only [evE] at h
  refine step (rel := relUs X.K) (k := fun us g S => if fits us.length = true then mkT us S else .stuck) R G h fun x H1 r1 ux S1 e1 R1 G1 d1 h1 => ?_
  split at h1
  · rename_i hz
    exact ⟨by rw [d1.length]; exact of_decide_eq_true hz, fun p hp => mkT_ok R1 d1 hp h1⟩
  · exact h1.elim
theorem e_lst (m : Bool) (h : PA X l' (tEs X.K ca W C l)) : PE X (.List l' pos) (tE X.K ca W C (.lst m l)) := by
  refine (pe_lst h).imp fun σ H Q h => ?_
  obtain ⟨F, r, g, S, R, G, h⟩ := h
  simp only [evE] at h
  refine step (rel := relUs X.K) (k := fun us g S => if fits us.length = true then mkL m us S else .stuck) R G h fun x H1 r1 ux S1 e1 R1 G1 d1 h1 => ?_
  split at h1
  · rename_i hz
    exact ⟨by rw [d1.length]; exact of_decide_eq_true hz, fun p hp => mkL_ok R1 d1 hp h1⟩
  · exact h1.elim

/-! ### calls -/
theorem b_args {m : Bool} {f : Bf} {σ : L2.St} {H : Hp} {Q : VK} (h : tE X.K ca W C (.blt m f l) σ H Q) : tCB (rF X.K ca W m f) (tEs X.K ca W C l) σ H Q := by
  obtain ⟨F, r, g, S, R, G, h⟩ := h
  simp only [evE] at h
  exact step (rel := relUs X.K) (k := fun us g S => opF m f us S) R G h fun x H1 r1 ux S1 e1 R1 G1 d1 h1 => ⟨F, r1, S1, σ, ux, R1, d1, h1⟩
theorem e_isi {t : Ty} {p1 p2 : Pos} (ha : PE X a' (tE X.K ca W C a)) (hi : Gl X "isinstance") (hmi : X.mg "isinstance" = none) (ht : PE X b' (tC (.ty (tyS t)))) (hs1 : starEach [a', b'] X.env = (false, eval a' X.env) :: starEach [b'] X.env)
    (hs2 : starEach [b'] X.env = (false, eval b' X.env) :: starEach [] X.env) : PE X (.Call (.Name "isinstance" p1) [a', b'] [] pos) (tE X.K ca W C (.isi a t)) := by
  refine (pe_callB (call_isiU (ca := ca) (W := W) t) hi hmi (by decide +kernel) (pa_cons ha (pa_cons ht pa_nil hs2) hs1) (by decide) (by decide) hs1 (by rw [hs2]; rfl)).imp fun σ H Q h => ?_
  obtain ⟨F, r, g, S, R, G, h⟩ := h
  simp only [evE] at h
  exact step (k := fun x g S => isiU t x S) R G h fun x H1 r1 ux S1 e1 R1 G1 d1 h1 => ⟨F, r1, S1, σ, ux, x, rfl, R1, d1, h1⟩

/-- what a def does with pure values, with values, by the evaluator -/
def spP (K : PySem.W.Frag) (ca : Nat → Option Addr) (C : Ctx) (f : Nat) : Sp := fun vs H Q E => ∃ (F : Addr → Prop) (ds : List D), (∀ a, F a → H a ≠ none) ∧ DenL K F H vs ds ∧ match C.fp f ds with
  | .ok d => ∀ v H', Ext [] [] H H' → Den K F H' v d → Q v H'
  | .exc x => ∀ cls d H', Ext [] [] H H' → ExR ca x cls d → E cls d H'
  | .stuck => False
def spS (K : PySem.W.Frag) (ca : Nat → Option Addr) (C : Ctx) (f : Nat) : Sp := fun vs H Q E => ∃ (F : Addr → Prop) (r : List Addr) (us : List U) (S : Sto), RepS K F r S H ∧ DenUL K F r H vs us ∧ match C.fn f us S with
  | .ok u S' => ∀ v r' H', Ext r r' H H' → RepS K F r' S' H' → DenU K F r' H' v u → Q v H'
  | .exc x S' => ∀ cls d r' H', Ext r r' H H' → RepS K F r' S' H' → ExR ca x cls d → E cls d H'
  | .stuck => False
def spF (K : PySem.W.Frag) (ca : Nat → Option Addr) (C : Ctx) (f : Nat) : Sp := fun vs H Q E => spP K ca C f vs H Q E ∨ spS K ca C f vs H Q E
theorem callU_ok {p : Bool} {f : Nat} {F : Addr → Prop} {r : List Addr} {S : Sto} {σ : L2.St} {H : Hp} {Q : VK} {vs : List V} {us : List U} (R : RepS X.K F r S H) (d : DenUL X.K F r H vs us) (h : RR X.K ca W (relU X.K F) F r σ H Q (callU C p f us S)) :
    spF X.K ca C f vs H Q (WE W σ) := by
  unfold callU at h
  split at h
  · split at h
    · rename_i ds q
      refine .inl ⟨fun a => F a ∨ a ∈ r, ds, fun a z => z.elim (R.frn a) fun z => R.trk z, d.pure q, ?_⟩
      have up : ∀ {H'}, Ext [] [] H H' → Ext r r H H' := fun {H'} e => ⟨⟨[], by simp⟩, fun a o q _ => e.keep a o q (by simp), e.trk, fun a h => .inl h⟩
      have same : ∀ {H'}, Ext [] [] H H' → ∀ a, a ∈ r → H' a = H a := fun {H'} e a ha => by
        cases q : H a with
        | none => exact absurd q (R.trk ha)
        | some o => exact e.keep a o q (by simp)
      cases q2 : C.fp f ds with
      | ok d' =>
        rw [q2] at h
        exact fun v H' e dv => h v r H' (up e) (R.ext0 (up e) (same e)) dv
      | exc x =>
        rw [q2] at h
        exact fun cls d H' e ex => h cls d r H' (up e) (R.ext0 (up e) (same e)) ex
      | stuck => rw [q2] at h; exact h
    · exact h.elim
  · refine .inr ⟨F, r, us, S, R, d, ?_⟩
    cases q2 : C.fn f us S with
    | ok u S' => rw [q2] at h; exact h
    | exc x S' => rw [q2] at h; exact h
    | stuck => rw [q2] at h; exact h
theorem e_call {p : Bool} {f : Nat} {x : Str} {k : Nat} {fa : Addr} {fd : FuncData} {ps : List Str} {p1 : Pos} {e0 : Expr} {es : List Expr} (tk : Takes X W) (hr : Room k X.A) (hf : FnOk X.prog X.w X.K X.mg X.base (L2.CX X.prog X.w) k fa fd ps (spF X.K ca C f)) (hg : Gl X x) (hm : X.mg x = some (.ref fa))
    (hk : PySem.W.keepIn X.K (.ref fa) = true) (hb : Binds X.K fd ps []) (ha : PA X (e0 :: es) (tEs X.K ca W C l)) (hdb : (x == ("__debug__" : Str)) = false) (he : starEach (e0 :: es) X.env = (false, eval e0 X.env) :: starEach es X.env)
    (hpl : (backTo pos (starEach es X.env)).any (·.1) = false) : PE X (.Call (.Name x p1) (e0 :: es) [] pos) (tE X.K ca W C (.call p f l)) := by
  refine (pe_callS hf hr hg hm hk hb (fun σ => passAt tk σ) ha hdb he hpl).imp fun σ H Q h => ?_
  obtain ⟨F, r, g, S, R, G, h⟩ := h
  simp only [evE] at h
  exact step (rel := relUs X.K) (k := fun us g S => callU C p f us S) R G h fun x H1 r1 ux S1 e1 R1 G1 d1 h1 => callU_ok R1 d1 h1
end
end PV
/-! PV4: targets of names, what loops walk, comprehensions. -/
namespace PV
open PySem PySem.Spec PyProof.Rows L2

theorem _root_.L2.PG.imp {X : Cx} {e : Expr} {t t' : TG} (h : PG X e t) (k : ∀ v σ H Q, t' v σ H Q → t v σ H Q) : PG X e t' := ⟨fun pins s σ H v u Q I r q => h.run pins s σ H v u Q I r (k v σ H Q q)⟩
theorem _root_.L2.PGs.imp {X : Cx} {e : List Expr} {t t' : TGs} (h : PGs X e t) (k : ∀ v σ H Q, t' v σ H Q → t v σ H Q) : PGs X e t' := ⟨fun pins s σ H v u Q I r q => h.run pins s σ H v u Q I r (k v σ H Q q)⟩
theorem _root_.L2.PG.or {X : Cx} {e : Expr} {t t' : TG} (h : PG X e t) (h' : PG X e t') : PG X e (fun v σ H Q => t v σ H Q ∨ t' v σ H Q) :=
  ⟨fun pins s σ H v u Q I r q => q.elim (h.run pins s σ H v u Q I r) (h'.run pins s σ H v u Q I r)⟩

/-! ### targets of names -/
mutual
def slotsT : Tn → List Nat
  | .nm i => [i]
  | .tup l => slotsTs l
def slotsTs : List Tn → List Nat
  | [] => []
  | t :: l => slotsT t ++ slotsTs l
end
/-- the slots outside of these are as they were -/
def Outside (l : List Nat) (σ σ' : L2.St) : Prop := ∀ vs : List Nat, (∀ i ∈ l, i ∈ vs) → wipe σ' vs = wipe σ vs
theorem wipe_set (σ : L2.St) (i : Nat) (x : Option V) : ∀ vs : List Nat, i ∈ vs → wipe (σ.set i x) vs = wipe σ vs
  | [], h => absurd h (by simp)
  | v :: vs, h => by
    by_cases e : i ∈ vs
    · show (wipe (σ.set i x) vs).set v none = (wipe σ vs).set v none
      rw [wipe_set σ i x vs e]
    · have ev : i = v := by
        rcases List.mem_cons.mp h with q | q
        · exact q
        · exact absurd q e
      subst ev
      show (wipe (σ.set i x) vs).set i none = (wipe σ vs).set i none
      have out : ∀ ws : List Nat, i ∉ ws → wipe (σ.set i x) ws = (wipe σ ws).set i x := by
        intro ws
        induction ws with
        | nil => intro _; rfl
        | cons w ws ih =>
          intro hw
          have h1 : i ≠ w := fun z => hw (by rw [z]; exact List.mem_cons_self)
          have h2 : i ∉ ws := fun z => hw (List.mem_cons_of_mem _ z)
          show (wipe (σ.set i x) ws).set w none = ((wipe σ ws).set w none).set i x
          rw [ih h2, List.set_comm _ _ h1]
      rw [out vs e, List.set_set]
def gT (K : PySem.W.Frag) (t : Tn) : TG := fun v σ H Q => ∃ (F : Addr → Prop) (r : List Addr) (g g' : Gam) (S : Sto) (u : U), RepS K F r S H ∧ RepG K F r H g σ ∧ DenU K F r H v u ∧ bindT t u g = some g' ∧ ∀ σ', RepG K F r H g' σ' → Outside (slotsT t) σ σ' → Q σ' H
def gTs (K : PySem.W.Frag) (t : List Tn) : TGs := fun vs σ H Q => ∃ (F : Addr → Prop) (r : List Addr) (g g' : Gam) (S : Sto) (ds : List D), RepS K F r S H ∧ RepG K F r H g σ ∧ DenL K (fun a => F a ∨ a ∈ r) H vs ds ∧ bindTs t ds g = some g' ∧ ∀ σ', RepG K F r H g' σ' → Outside (slotsTs t) σ σ' → Q σ' H
section
variable {X : Cx} {pos : Pos} {e : Expr} {es : List Expr} {t : Tn} {ts : List Tn}
theorem g_nm {i : Nat} {x : Str} (hN : X.N.Nodup) (hi : X.N[i]? = some x) (hx : Loc X.env.scope x) (hf : X.fn x = true ∨ X.env.scope.names.lookup x = some .local) : PG X (.Name x pos) (gT X.K (.nm i)) := by
  refine (pg_name hN hi hx hf).imp fun v σ H Q h => ?_
  obtain ⟨F, r, g, g', S, u, R, G, d, e, q⟩ := h
  simp only [bindT] at e
  split at e
  · have e' := Option.some.inj e
    subst e'
    exact q _ (G.set d i) fun vs hv => wipe_set σ i _ vs (hv i (by simp [slotsT]))
  · cases e
theorem gs_nil : PGs X [] (gTs X.K []) := by
  refine pgs_nil.imp fun vs σ H Q h => ?_
  obtain ⟨F, r, g, g', S, ds, R, G, d, e, q⟩ := h
  cases ds with
  | nil =>
    cases d
    have e' : g = g' := by simpa [bindTs] using e
    subst e'
    exact ⟨rfl, q σ G fun _ _ => rfl⟩
  | cons x ds => simp [bindTs] at e
theorem gs_cons (h1 : PG X e (gT X.K t)) (h2 : PGs X es (gTs X.K ts)) (hs : (assignEach (e :: es) X.env).map (·.2) = assign e X.env :: (assignEach es X.env).map (·.2)) : PGs X (e :: es) (gTs X.K (t :: ts)) := by
  refine (pgs_cons h1 h2 hs).imp fun vs σ H Q h => ?_
  obtain ⟨F, r, g, g', S, ds, R, G, d, e, q⟩ := h
  cases ds with
  | nil => simp [bindTs] at e
  | cons x ds =>
    cases d with
    | cons a b =>
      rename_i v vs
      simp only [bindTs] at e
      split at e
      · rename_i g1 e1
        refine ⟨v, vs, rfl, F, r, g, g1, S, .d x, R, G, a, e1, fun σ1 G1 o1 => ?_⟩
        refine ⟨F, r, g1, g', S, ds, R, G1, b, e, fun σ2 G2 o2 => q σ2 G2 fun ws hw => ?_⟩
        rw [o2 ws fun i hi => hw i (by simp [slotsTs, hi]), o1 ws fun i hi => hw i (by simp [slotsTs, hi])]
      · cases e
theorem g_tup {k : Nat} (hc : X.calm = true) (h : PGs X es (gTs X.K ts)) (hlen : es.length = ts.length) (hn : (assignEach es X.env).length = es.length) (hst : (assignEach es X.env).findIdx? (·.1) = none) : PG X (.Tuple es k pos) (gT X.K (.tup ts)) := by
  refine ((pg_tup hc h hn hst).or (pg_lst hc h hn hst)).imp fun v σ H Q h => ?_
  obtain ⟨F, r, g, g', S, u, R, G, d, e, q⟩ := h
  have len : ∀ {ts : List Tn} {ds : List D} {g g' : Gam}, bindTs ts ds g = some g' → ds.length = ts.length := by
    intro ts
    induction ts with
    | nil => intro ds g g' e; cases ds with
      | nil => rfl
      | cons _ _ => simp [bindTs] at e
    | cons t ts ih => intro ds g g' e; cases ds with
      | nil => simp [bindTs] at e
      | cons x ds =>
        simp only [bindTs] at e
        split at e
        · simp [ih e]
        · cases e
  cases u with
  | ref n => simp [bindT] at e
  | d x =>
    cases x with
    | tup ds =>
      simp only [bindT] at e
      obtain ⟨a, xs, rfl, ta, da⟩ := d.tup_inv
      exact .inl ⟨a, xs, rfl, ta.sq, by rw [da.length, len e, hlen], F, r, g, g', S, ds, R, G, da, e, fun σ' G' o => q σ' G' o⟩
    | lst ds =>
      simp only [bindT] at e
      obtain ⟨a, xs, rfl, ta, da⟩ := d.lst_inv
      exact .inr ⟨a, xs, rfl, ta.sq, by rw [da.length, len e, hlen], F, r, g, g', S, ds, R, G, da, e, fun σ' G' o => q σ' G' o⟩
    | _ => simp [bindT] at e
end

/-! ### what loops walk -/
def ItR (K : PySem.W.Frag) (F0 : Addr → Prop) (r0 : List Addr) (H0 : Hp) (J : It) (v : ItV) : Prop :=
  ∀ (F : Addr → Prop) (r : List Addr) (S : Sto) (H : Hp) (i : Nat), (∃ ex, r = r0 ++ ex) → Keep (fun a => F0 a ∨ a ∈ r0) (fun a => F a ∨ a ∈ r) H0 H → RepS K F r S H →
    match v.at S i with
    | none => True
    | some none => J.stop i H
    | some (some u) => J.go i H ∧ ∀ x H', J.yld i H x H' → Ext r r H H' ∧ (∀ a, a ∈ r → H' a = H a) ∧ DenU K F r H' x u
section
variable {K : PySem.W.Frag} {F : Addr → Prop} {r : List Addr} {H : Hp} {S : Sto}
theorem it_tup {a : Addr} {xs : List V} {l : List D} (h : TupF K (fun a => F a ∨ a ∈ r) H a xs) (d : DenL K (fun a => F a ∨ a ∈ r) H xs l) : ItR K F r H (Itt K a) (.items (l.map U.d)) := by
  intro F' r' S' H' i _ k R
  have h' := (h.keep k).sq
  have d' := DenL.keep k _ _ d
  show match some (l.map U.d)[i]? with | none => True | some none => _ | some (some u) => _
  rw [List.getElem?_map]
  cases q : l[i]? with
  | none =>
    refine ⟨xs, h', ?_⟩
    rw [d'.length]
    exact List.getElem?_eq_none_iff.mp q
  | some x =>
    obtain ⟨v, h1, h2⟩ := d'.get q
    refine ⟨⟨xs, v, h', h1⟩, fun z H2 y => ?_⟩
    obtain ⟨e, y⟩ := y
    subst e
    have ez := (y xs h').symm.trans h1
    cases ez
    exact ⟨Ext.refl, fun _ _ => rfl, h2⟩
theorem it_lstU {a : Addr} {v : ItV} (h : ∀ (F' : Addr → Prop) (r' : List Addr) (S' : Sto) (H' : Hp), (∃ ex, r' = r ++ ex) → Keep (fun a => F a ∨ a ∈ r) (fun a => F' a ∨ a ∈ r') H H' → RepS K F' r' S' H' → (∀ i, v.at S' i = none) ∨ ∃ xs us, SqL K H' a xs ∧ DenUL K F' r' H' xs us ∧ ∀ i, v.at S' i = some us[i]?) : ItR K F r H (Itl K a) v := by
  intro F' r' S' H' i ex k R
  rcases h F' r' S' H' ex k R with e | ⟨xs, us, hs, d, e⟩
  · rw [e]; trivial
  · rw [e]
    cases q : us[i]? with
    | none =>
      refine ⟨xs, hs, ?_⟩
      rw [d.length]
      exact List.getElem?_eq_none_iff.mp q
    | some x =>
      obtain ⟨v, h1, h2⟩ := d.get q
      refine ⟨⟨xs, v, hs, h1⟩, fun z H2 y => ?_⟩
      obtain ⟨e, y⟩ := y
      subst e
      have ez := (y xs hs).symm.trans h1
      cases ez
      exact ⟨Ext.refl, fun _ _ => rfl, h2⟩
theorem it_lst {a : Addr} {xs : List V} {l : List D} (h : LstF K (fun a => F a ∨ a ∈ r) H a xs) (d : DenL K (fun a => F a ∨ a ∈ r) H xs l) : ItR K F r H (Itl K a) (.items (l.map U.d)) :=
  it_lstU fun F' r' S' H' _ k R => .inr ⟨xs, l.map U.d, (h.keep k).sq, .of (DenL.keep k _ _ d), fun i => rfl⟩
theorem it_scr {a : Addr} {l : List Int} (h : ScrF K (fun a => F a ∨ a ∈ r) H a (l.map V.int)) : ItR K F r H (Itl K a) (.items (l.map fun i => U.d (.int i))) :=
  it_lstU fun F' r' S' H' _ k R => .inr ⟨_, _, (h.keep k).sq, DenUL.intsL l, fun i => rfl⟩
theorem it_dyn {a : Addr} {n : Nat} (h : r[n]? = some a) : ItR K F r H (Itl K a) (.dyn n) :=
  it_lstU fun F' r' S' H' ⟨ex, e⟩ k R => by
    have h' : r'[n]? = some a := by
      rw [e, List.getElem?_append_left (List.getElem?_eq_some_iff.mp h).1]
      exact h
    obtain ⟨us, xs, h1, h2, h3⟩ := R.there h'
    exact .inr ⟨xs, us, .inl (.inl h2), h3, fun i => by simp only [ItV.at, h1]⟩
theorem it_rng {lo : Int} {n : Nat} : ItR K F r H (Itr lo n) (.rng lo n) := by
  intro F' r' S' H' i _ k R
  show match some (if i < n then some (U.d (.int (lo + i))) else none) with | none => True | some none => _ | some (some u) => _
  by_cases h : i < n
  · rw [if_pos h]
    exact ⟨h, fun x H2 y => by obtain ⟨rfl, rfl⟩ := y; exact ⟨Ext.refl, fun _ _ => rfl, Den.int _⟩⟩
  · rw [if_neg h]
    exact Nat.le_of_not_lt h
theorem enumL_get : ∀ (l : List D) (n i : Nat), (enumL n l)[i]? = (l[i]?).map fun x => U.d (.tup [.int ((n + i : Nat) : Int), x])
  | [], n, i => by simp [enumL]
  | x :: l, n, 0 => by simp [enumL]
  | x :: l, n, i + 1 => by
    rw [enumL, List.getElem?_cons_succ, enumL_get l (n + 1) i, List.getElem?_cons_succ]
    have e : n + 1 + i = n + (i + 1) := by omega
    rw [e]
/-- a new tuple of pure values -/
theorem new_tup {F : Addr → Prop} {r : List Addr} {S : Sto} {H : Hp} (R : RepS K F r S H) {T : Addr} (hT : H T = none) {xs : List V} {ds : List D} (d : DenL K (fun a => F a ∨ a ∈ r) H xs ds) :
    Ext r r H (upd H T (.tup xs)) ∧ (∀ a, a ∈ r → (upd H T (.tup xs)) a = H a) ∧ DenU K F r (upd H T (.tup xs)) (.ref T) (.d (.tup ds)) :=
  ⟨ext_new hT, fun a ha => upd_ne fun z => by subst z; exact R.trk ha hT, Den.tup (.inl ⟨.inl upd_same, R.newNo hT⟩) (DenL.keep ((ext_new hT).toKeep R.frn) _ _ d)⟩
theorem it_enum {a : Addr} {xs : List V} {l : List D} (h : LstF K (fun a => F a ∨ a ∈ r) H a xs) (d : DenL K (fun a => F a ∨ a ∈ r) H xs l) : ItR K F r H (Ite K a) (.items (enumL 0 l)) := by
  intro F' r' S' H' i _ k R
  have h' := (h.keep k).sq
  have d' := DenL.keep k _ _ d
  show match some (enumL 0 l)[i]? with | none => True | some none => _ | some (some u) => _
  rw [enumL_get, Nat.zero_add]
  cases q : l[i]? with
  | none =>
    refine ⟨xs, h', ?_⟩
    rw [d'.length]
    exact List.getElem?_eq_none_iff.mp q
  | some x =>
    obtain ⟨v, h1, h2⟩ := d'.get q
    refine ⟨⟨xs, v, h', h1⟩, fun z H2 y => ?_⟩
    obtain ⟨T, z', rfl, hT, rfl, y⟩ := y
    have ez := (y xs h').symm.trans h1
    cases ez
    exact new_tup R hT (.cons (Den.int _) (.cons h2 .nil))
theorem it_enumD {a : Addr} {n : Nat} (h : r[n]? = some a) : ItR K F r H (Ite K a) (.enumDyn n) := by
  intro F' r' S' H' i ⟨ex, e⟩ k R
  have h' : r'[n]? = some a := by
    rw [e, List.getElem?_append_left (List.getElem?_eq_some_iff.mp h).1]
    exact h
  obtain ⟨us, xs, h1, h2, h3⟩ := R.there h'
  have hs : SqL K H' a xs := .inl (.inl h2)
  simp only [ItV.at, h1]
  cases q : us[i]? with
  | none =>
    refine ⟨xs, hs, ?_⟩
    rw [h3.length]
    exact List.getElem?_eq_none_iff.mp q
  | some u =>
    cases u with
    | ref m => trivial
    | d x =>
      obtain ⟨v, g1, g2⟩ := h3.get q
      refine ⟨⟨xs, v, hs, g1⟩, fun z H2 y => ?_⟩
      obtain ⟨T, z', rfl, hT, rfl, y⟩ := y
      have ez := (y xs hs).symm.trans g1
      cases ez
      exact new_tup R hT (.cons (Den.int _) (.cons g2 .nil))
theorem zipL_get : ∀ (l m : List D) (i : Nat), (zipL l m)[i]? = match l[i]?, m[i]? with
    | some x, some y => some (U.d (.tup [x, y]))
    | _, _ => none
  | [], m, i => by simp [zipL]
  | x :: l, [], i => by
    simp only [zipL, List.getElem?_nil]
    try (cases (x :: l)[i]? <;> rfl)
  | x :: l, y :: m, 0 => by simp [zipL]
  | x :: l, y :: m, i + 1 => by
    rw [zipL, List.getElem?_cons_succ, zipL_get l m i, List.getElem?_cons_succ, List.getElem?_cons_succ]
theorem it_zipL {a b : Addr} {xs ys : List V} {l m : List D} (h : LstF K (fun a => F a ∨ a ∈ r) H a xs) (d : DenL K (fun a => F a ∨ a ∈ r) H xs l) (h2 : LstF K (fun a => F a ∨ a ∈ r) H b ys) (d2 : DenL K (fun a => F a ∨ a ∈ r) H ys m) : ItR K F r H (Itz K a b) (.items (zipL l m)) := by
  intro F' r' S' H' i _ k R
  have ha := (h.keep k).sq
  have da := DenL.keep k _ _ d
  have hb := (h2.keep k).sq
  have db := DenL.keep k _ _ d2
  show match some (zipL l m)[i]? with | none => True | some none => _ | some (some u) => _
  rw [zipL_get]
  cases q : l[i]? with
  | none =>
    refine ⟨xs, ys, ha, hb, .inl ?_⟩
    rw [da.length]
    exact List.getElem?_eq_none_iff.mp q
  | some x =>
    cases q2 : m[i]? with
    | none =>
      refine ⟨xs, ys, ha, hb, .inr ?_⟩
      rw [db.length]
      exact List.getElem?_eq_none_iff.mp q2
    | some y =>
      obtain ⟨v, h1, g1⟩ := da.get q
      obtain ⟨w, h2, g2⟩ := db.get q2
      refine ⟨⟨xs, ys, v, w, ha, hb, h1, h2⟩, fun z H2 t => ?_⟩
      obtain ⟨T, x', y', rfl, hT, rfl, t1, t2⟩ := t
      have e1 := (t1 xs ha).symm.trans h1
      have e2 := (t2 ys hb).symm.trans h2
      cases e1
      cases e2
      exact new_tup R hT (.cons g1 (.cons g2 .nil))
theorem it_zipT {a b : Addr} {xs ys : List V} {l m : List D} (h : TupF K (fun a => F a ∨ a ∈ r) H a xs) (d : DenL K (fun a => F a ∨ a ∈ r) H xs l) (h2 : TupF K (fun a => F a ∨ a ∈ r) H b ys) (d2 : DenL K (fun a => F a ∨ a ∈ r) H ys m) : ItR K F r H (RZ.ItzT K a b) (.items (zipL l m)) := by
  intro F' r' S' H' i _ k R
  have ha := (h.keep k).sq
  have da := DenL.keep k _ _ d
  have hb := (h2.keep k).sq
  have db := DenL.keep k _ _ d2
  show match some (zipL l m)[i]? with | none => True | some none => _ | some (some u) => _
  rw [zipL_get]
  cases q : l[i]? with
  | none =>
    refine ⟨xs, ys, ha, hb, .inl ?_⟩
    rw [da.length]
    exact List.getElem?_eq_none_iff.mp q
  | some x =>
    cases q2 : m[i]? with
    | none =>
      refine ⟨xs, ys, ha, hb, .inr ?_⟩
      rw [db.length]
      exact List.getElem?_eq_none_iff.mp q2
    | some y =>
      obtain ⟨v, h1, g1⟩ := da.get q
      obtain ⟨w, h2, g2⟩ := db.get q2
      refine ⟨⟨xs, ys, v, w, ha, hb, h1, h2⟩, fun z H2 t => ?_⟩
      obtain ⟨T, x', y', rfl, hT, rfl, t1, t2⟩ := t
      have e1 := (t1 xs ha).symm.trans h1
      have e2 := (t2 ys hb).symm.trans h2
      cases e1
      cases e2
      exact new_tup R hT (.cons g1 (.cons g2 .nil))
end

/-- what is walked, by the evaluator -/
def tI (K : PySem.W.Frag) (ca : Nat → Option Addr) (W : WX) (C : Ctx) (k : Ik) (l : List E) : TI := fun σ H Rr => tEs K ca W C l σ H fun vs H1 => ∃ (F : Addr → Prop) (r : List Addr) (us : List U) (S : Sto) (v : ItV), RepS K F r S H1 ∧ DenUL K F r H1 vs us ∧ itOf k us S = some v ∧ ∀ J, ItR K F r H1 J v → Rr J H1
theorem _root_.L2.PI.imp {X : Cx} {tg e : Expr} {t t' : TI} (h : PI X tg e t) (k : ∀ σ H Q, t' σ H Q → t σ H Q) : PI X tg e t' := ⟨fun pins s σ H Q I q => h.run pins s σ H Q I (k σ H Q q)⟩
section
variable {X : Cx} {ca : Nat → Option Addr} {W : WX} {C : Ctx} {tg : Expr} {a b : E} {a' b' : Expr} {l : List E} {pos : Pos}
theorem pi_seq {e : Expr} {tl : TE} (hl : PE X e tl) : PI X tg e (fun σ H R => tl σ H fun x H1 => ∃ a, x = .ref a ∧ (((∃ xs, SqL X.K H1 a xs) ∧ R (Itl X.K a) H1) ∨ ((∃ xs, SqT X.K H1 a xs) ∧ R (Itt X.K a) H1))) := by
  refine ⟨fun pins s σ H R I h => ?_⟩
  refine thn (hl.run pins s σ H _ I h) fun v s1 ⟨x, H1, I1, r1, q1⟩ => ?_
  obtain ⟨a, e, q⟩ := q1
  subst e
  cases r1
  rcases q with ⟨⟨xs, hq⟩, q⟩ | ⟨⟨xs, hq⟩, q⟩
  · obtain ⟨its, rv, p, hz⟩ := I1.list hq
    refine wpAny_pyIter_list p.isList ?_
    refine ⟨s1.heap.objs.size, [s1.heap.objs.size], _, _, H1, rfl, I1.kept (t' := s1.toks) fun b o e => Heap.get?_push_of_some _ e, turn_list a _, ⟨_, Heap.get?_push_size _ rfl, rfl, rfl⟩, fun b hb => ?_, q⟩
    have e : b = s1.heap.objs.size := by simpa using hb
    subst e
    exact I1.fpOk (Nat.le_refl _) (I1.hok.fresh (Nat.le_refl _))
  · obtain ⟨its, rv, p, hz⟩ := I1.tuple hq
    refine wpAny_pyIter_tuple (show s1.heap.IsTuple a its.toArray from p) ?_
    refine ⟨s1.heap.objs.size, [s1.heap.objs.size], _, _, H1, rfl, I1.kept (t' := s1.toks) fun b o e => Heap.get?_push_of_some _ e, turn_tuple a _, ⟨_, Heap.get?_push_size _ rfl, rfl, rfl⟩, fun b hb => ?_, q⟩
    have e : b = s1.heap.objs.size := by simpa using hb
    subst e
    exact I1.fpOk (Nat.le_refl _) (I1.hok.fresh (Nat.le_refl _))
/-- one argument -/
theorem one_of {Q : V → Hp → Prop} {σ : L2.St} {H : Hp} {Q' : List V → Hp → Prop} (h : tEs X.K ca W C [a] σ H Q') (k : ∀ x H1, Q' [x] H1 → Q x H1) : tE X.K ca W C a σ H Q := by
  obtain ⟨F, r, g, S, R, G, h⟩ := h
  simp only [evEs] at h
  refine step (k := fun u g S => Res.ok [u] S) R G h fun x H1 r1 ux S1 e1 R1 G1 d1 h1 => k x H1 (h1.fin R1 (.cons d1 .nil))
theorem one_inv {us : List U} {w : U → Option ItV} {v : ItV} (h : (match us with
    | [u] => w u
    | _ => none) = some v) : ∃ u, us = [u] ∧ w u = some v := by
  split at h
  · exact ⟨_, rfl, h⟩
  · cases h
theorem two_inv {us : List U} {w : U → U → Option ItV} {v : ItV} (h : (match us with
    | [u, z] => w u z
    | _ => none) = some v) : ∃ u z, us = [u, z] ∧ w u z = some v := by
  split at h
  · exact ⟨_, _, rfl, h⟩
  · cases h
theorem i_seq (ha : PE X a' (tE X.K ca W C a)) : PI X tg a' (tI X.K ca W C .seq [a]) := by
  refine (pi_seq ha).imp fun σ H Rr h => ?_
  refine one_of h fun x H1 ⟨F, r, us, S, v, R, d, ev, go⟩ => ?_
  obtain ⟨u, eu, ew⟩ := one_inv (w := itSeq) ev
  subst eu
  replace ev := ew
  clear ew
  obtain ⟨z, ez, d⟩ := d.one
  cases ez
  unfold itSeq at ev
  split at ev
  · have := Option.some.inj ev
    subst this
    obtain ⟨b, xs, rfl, ta, da⟩ := d.tup_inv
    exact ⟨b, rfl, .inr ⟨⟨xs, ta.sq⟩, go _ (it_tup ta da)⟩⟩
  · have := Option.some.inj ev
    subst this
    obtain ⟨b, xs, rfl, ta, da⟩ := d.lst_inv
    exact ⟨b, rfl, .inl ⟨⟨xs, ta.sq⟩, go _ (it_lst ta da)⟩⟩
  · have := Option.some.inj ev
    subst this
    obtain ⟨b, rfl, ta⟩ := d.scr_inv
    exact ⟨b, rfl, .inl ⟨⟨_, ta.sq⟩, go _ (it_scr ta)⟩⟩
  · have := Option.some.inj ev
    subst this
    obtain ⟨b, h1, rfl⟩ := d
    obtain ⟨us', xs, _, h2, _⟩ := R.there h1
    exact ⟨b, rfl, .inl ⟨⟨xs, .inl (.inl h2)⟩, go _ (it_dyn h1)⟩⟩
  · cases ev
/-- the arguments' reading with another end -/
theorem tEs_imp {l : List E} {σ : L2.St} {H : Hp} {Q Q' : List V → Hp → Prop} (h : tEs X.K ca W C l σ H Q) (k : ∀ vs H1, Q vs H1 → Q' vs H1) : tEs X.K ca W C l σ H Q' := by
  obtain ⟨F, r, g, S, R, G, h⟩ := h
  exact ⟨F, r, g, S, R, G, RR.imp h k⟩
theorem i_rng1 {p : Pos} (hg : Gl X "range") (hm : X.mg "range" = none) (ha : PE X a' (tE X.K ca W C a)) (hs : starEach [a'] X.env = [(false, eval a' X.env)]) : PI X tg (.Call (.Name "range" p) [a'] [] pos) (tI X.K ca W C .rng1 [a]) := by
  refine (pi_range1 hg hm (a_cons ha a_nil hs) hs).imp fun σ H Rr h => tEs_imp h ?_
  rintro vs H1 ⟨F, r, us, S, v, R, d, ev, go⟩
  obtain ⟨u, eu, ew⟩ := one_inv (w := itR1) ev
  subst eu
  replace ev := ew
  clear ew
  obtain ⟨z, ez, d'⟩ := d.one
  subst ez
  replace d := d'
  clear d'
  unfold itR1 at ev
  split at ev
  · split at ev
    · rename_i j hj
      have hj' := of_decide_eq_true hj
      have := Option.some.inj ev
      subst this
      have ex := d.int_inv
      subst ex
      exact ⟨j, rfl, hj'.1, hj'.2, go _ it_rng⟩
    · cases ev
  · cases ev
theorem i_rng2 {p : Pos} (hg : Gl X "range") (hm : X.mg "range" = none) (ha : PE X a' (tE X.K ca W C a)) (hb : PE X b' (tE X.K ca W C b)) (hs : starEach [a', b'] X.env = [(false, eval a' X.env), (false, eval b' X.env)]) (hs2 : starEach [b'] X.env = [(false, eval b' X.env)]) :
    PI X tg (.Call (.Name "range" p) [a', b'] [] pos) (tI X.K ca W C .rng2 [a, b]) := by
  refine (pi_range2 hg hm (a_cons ha (a_cons hb a_nil hs2) (by rw [hs, hs2])) hs hs2).imp fun σ H Rr h => tEs_imp h ?_
  rintro vs H1 ⟨F, r, us, S, v, R, d, ev, go⟩
  obtain ⟨u, w, eu, ew⟩ := two_inv (w := itR2) ev
  subst eu
  replace ev := ew
  clear ew
  obtain ⟨x, y, rfl, dx, dy⟩ := d.two
  unfold itR2 at ev
  split at ev
  · split at ev
    · rename_i i j hj
      have h1 := of_decide_eq_true hj.1
      have h2 := of_decide_eq_true hj.2
      have := Option.some.inj ev
      subst this
      have e1 := dx.int_inv
      have e2 := dy.int_inv
      subst e1 e2
      exact ⟨i, j, rfl, ⟨h1.1, h1.2, h2.1, h2.2⟩, go _ it_rng⟩
    · cases ev
  · cases ev
theorem i_enum {p tpos : Pos} {elts : List Expr} {kk : Nat} (hg : Gl X "enumerate") (hm : X.mg "enumerate" = none) (ha : PE X a' (tE X.K ca W C a)) (hs : starEach [a'] X.env = [(false, eval a' X.env)]) : PI X (.Tuple elts kk tpos) (.Call (.Name "enumerate" p) [a'] [] pos) (tI X.K ca W C .enum [a]) := by
  refine (pi_enum hg hm (a_cons ha a_nil hs) hs).imp fun σ H Rr h => tEs_imp h ?_
  rintro vs H1 ⟨F, r, us, S, v, R, d, ev, go⟩
  obtain ⟨u, eu, ew⟩ := one_inv (w := itEn) ev
  subst eu
  replace ev := ew
  clear ew
  obtain ⟨z, ez, d'⟩ := d.one
  subst ez
  replace d := d'
  clear d'
  unfold itEn at ev
  split at ev
  · have := Option.some.inj ev
    subst this
    obtain ⟨b, xs, rfl, ta, da⟩ := d.lst_inv
    exact ⟨b, xs, rfl, ta.sq, go _ (it_enum ta da)⟩
  · have := Option.some.inj ev
    subst this
    obtain ⟨b, h1, rfl⟩ := d
    obtain ⟨us', xs, _, h2, _⟩ := R.there h1
    exact ⟨b, xs, rfl, .inl (.inl h2), go _ (it_enumD h1)⟩
  · cases ev
theorem i_zip {p tpos : Pos} {elts : List Expr} {kk : Nat} (hg : Gl X "zip") (hm : X.mg "zip" = none) (ha : PE X a' (tE X.K ca W C a)) (hb : PE X b' (tE X.K ca W C b)) (hs : starEach [a', b'] X.env = (false, eval a' X.env) :: starEach [b'] X.env) (hs2 : starEach [b'] X.env = [(false, eval b' X.env)]) :
    PI X (.Tuple elts kk tpos) (.Call (.Name "zip" p) [a', b'] [] pos) (tI X.K ca W C .zip [a, b]) := by
  refine (RZ.pi_zipA hg hm (a_cons ha (a_cons hb a_nil hs2) hs) hs (by rw [hs2]; rfl)).imp fun σ H Rr h => tEs_imp h ?_
  rintro vs H1 ⟨F, r, us, S, v, R, d, ev, go⟩
  obtain ⟨u, w, eu, ew⟩ := two_inv (w := itZ) ev
  subst eu
  replace ev := ew
  clear ew
  obtain ⟨x, y, rfl, dx, dy⟩ := d.two
  unfold itZ at ev
  split at ev
  · have := Option.some.inj ev
    subst this
    obtain ⟨b, xs, rfl, ta, da⟩ := dx.lst_inv
    obtain ⟨b2, ys, rfl, tb, db⟩ := dy.lst_inv
    exact ⟨b, b2, xs, ys, rfl, .inl ⟨ta.sq, tb.sq, go _ (it_zipL ta da tb db)⟩⟩
  · have := Option.some.inj ev
    subst this
    obtain ⟨b, xs, rfl, ta, da⟩ := dx.tup_inv
    obtain ⟨b2, ys, rfl, tb, db⟩ := dy.tup_inv
    exact ⟨b, b2, xs, ys, rfl, .inr ⟨ta.sq, tb.sq, go _ (it_zipT ta da tb db)⟩⟩
  · cases ev
end
end PV
/-! PV5: comprehensions. -/
namespace PV
open PySem PySem.Spec PyProof.Rows L2

def hid (H : Hp) (D : Addr) : Hp := fun b => if b = D then none else H b
theorem hid_same {H : Hp} {D : Addr} : hid H D D = none := by unfold hid; rw [if_pos rfl]
theorem hid_ne {H : Hp} {D a : Addr} (h : a ≠ D) : hid H D a = H a := by unfold hid; rw [if_neg h]
theorem hid_upd {H : Hp} {D : Addr} {o : HO} : hid (upd H D o) D = hid H D := by
  funext b
  by_cases h : b = D
  · subst h; rw [hid_same, hid_same]
  · rw [hid_ne h, hid_ne h, upd_ne h]
theorem hid_none {H : Hp} {D : Addr} (h : H D = none) : hid H D = H := by
  funext b
  by_cases e : b = D
  · subst e; rw [hid_same, h]
  · rw [hid_ne e]
theorem upd_hid {H : Hp} {D : Addr} {o : HO} (h : H D = some o) : upd (hid H D) D o = H := by
  funext b
  by_cases e : b = D
  · subst e; rw [upd_same, h]
  · rw [upd_ne e, hid_ne e]
theorem hid_some {H : Hp} {D a : Addr} {o : HO} (h : hid H D a = some o) : H a = some o ∧ a ≠ D := by
  by_cases e : a = D
  · subst e; rw [hid_same] at h; cases h
  · rw [hid_ne e] at h; exact ⟨h, e⟩
section
variable {K : PySem.W.Frag} {F : Addr → Prop} {r r' : List Addr} {H H' : Hp} {S S' : Sto} {D : Addr}
/-- D is one more foreign object -/
abbrev plus (F : Addr → Prop) (D : Addr) : Addr → Prop := fun a => F a ∨ a = D
theorem keep_hide (hF : True) : Keep (fun a => plus F D a ∨ a ∈ r) (fun a => F a ∨ a ∈ r) H (hid H D) :=
  ⟨fun a o e n => by rw [hid_ne fun z => n (.inl (.inr z))]; exact e, fun a z => .inl (z.elim (fun q => .inl (.inl q)) .inr)⟩
theorem keep_show : Keep (fun a => F a ∨ a ∈ r) (fun a => plus F D a ∨ a ∈ r) (hid H D) H :=
  ⟨fun a o e _ => (hid_some e).1, fun a z => z.elim (fun q => q.elim (fun w => .inl (.inl w)) fun w => .inr (by rw [w]; exact hid_same)) fun w => .inl (.inr w)⟩
theorem DenU.hide : ∀ {u : U} {v : V}, DenU K (plus F D) r H v u → DenU K F r (hid H D) v u
  | .d x, v, h => Den.keep (keep_hide trivial) x v h
  | .ref n, v, ⟨a, h1, h2⟩ => ⟨a, h1, h2⟩
theorem DenU.show' : ∀ {u : U} {v : V}, DenU K F r (hid H D) v u → DenU K (plus F D) r H v u
  | .d x, v, h => Den.keep keep_show x v h
  | .ref n, v, ⟨a, h1, h2⟩ => ⟨a, h1, h2⟩
theorem DenUL.hide : ∀ {us : List U} {vs : List V}, DenUL K (plus F D) r H vs us → DenUL K F r (hid H D) vs us
  | _, _, .nil => .nil
  | _, _, .cons a t => .cons a.hide (DenUL.hide t)
theorem DenUL.show' : ∀ {us : List U} {vs : List V}, DenUL K F r (hid H D) vs us → DenUL K (plus F D) r H vs us
  | _, _, .nil => .nil
  | _, _, .cons a t => .cons a.show' (DenUL.show' t)
theorem RepS.hide (R : RepS K (plus F D) r S H) (hF : ¬ F D) : RepS K F r S (hid H D) :=
  ⟨R.len, R.nd, fun a h => by rw [hid_ne (a := a) (D := D) fun z => hF (by rw [← z]; exact h)]; exact R.frn a (.inl h), fun a h z => R.apart a h (.inl z), fun n a us h1 h2 => by
    obtain ⟨xs, h3, h4⟩ := R.obj n a us h1 h2
    exact ⟨xs, by rw [hid_ne (a := a) (D := D) fun z => R.apart a (List.mem_of_getElem? h1) (.inr z)]; exact h3, h4.hide⟩⟩
theorem RepS.show' (R : RepS K F r S (hid H D)) {o : HO} (hD : H D = some o) : RepS K (plus F D) r S H :=
  ⟨R.len, R.nd, fun a h => h.elim (fun q z => R.frn a q (by
      by_cases e : a = D
      · subst e; exact hid_same
      · rw [hid_ne e]; exact z)) fun q => by rw [q, hD]; simp, fun a h z => z.elim (R.apart a h) fun q => R.trk h (by rw [q]; exact hid_same), fun n a us h1 h2 => by
    obtain ⟨xs, h3, h4⟩ := R.obj n a us h1 h2
    exact ⟨xs, (hid_some h3).1, h4.show'⟩⟩
theorem RepG.show' {g : Gam} {σ : L2.St} (G : RepG K F r (hid H D) g σ) : RepG K (plus F D) r H g σ :=
  ⟨G.len, fun i u h => let ⟨v, h1, h2⟩ := G.get i u h; ⟨v, h1, h2.show'⟩⟩
theorem Ext.hide (e : Ext r r' H H') (h : D ∉ r) : Ext r r' (hid H D) (hid H' D) :=
  ⟨e.more, fun a o q n => by
    obtain ⟨q1, q2⟩ := hid_some q
    rw [hid_ne q2]
    exact e.keep a o q1 n, fun a q => by
    by_cases z : a = D
    · subst z; exact absurd hid_same q
    · rw [hid_ne z] at q ⊢; exact e.trk a q, fun a q => (e.new a q).elim .inl fun w => .inr (by
      by_cases z : a = D
      · subst z; exact hid_same
      · rw [hid_ne z]; exact w)⟩
end
theorem wipe_get (σ : L2.St) (i : Nat) : ∀ vs : List Nat, (wipe σ vs)[i]? = if i ∈ vs then (σ[i]?).map fun _ => none else σ[i]?
  | [] => by simp [wipe]
  | v :: vs => by
    show ((wipe σ vs).set v none)[i]? = _
    by_cases e : v = i
    · subst e
      rw [List.getElem?_set]
      have hl := wipe_length σ vs
      by_cases hv : v < σ.length
      · simp [hl, hv]
      · simp [hl, hv]
    · rw [List.getElem?_set_ne e, wipe_get σ i vs]
      have : (i ∈ v :: vs) ↔ i ∈ vs := by simp [Ne.symm e]
      simp only [this]
theorem wipe_wipe (σ : L2.St) (vs : List Nat) : wipe (wipe σ vs) vs = wipe σ vs := by
  apply List.ext_getElem?
  intro i
  rw [wipe_get, wipe_get]
  split
  · cases σ[i]? <;> rfl
  · rfl
abbrev WN : WX := fun _ _ _ _ => False

section
variable {X : Cx} {ca : Nat → Option Addr} {W : WX} {C : Ctx} {tg it elt' : Expr} {ifs : List Expr} {args cnd : List E} {elt : E} {t : Tn} {k : Ik} {scope : Scope} {own : List (Str × Nat)} {pos : Pos}
theorem lc_read (m : Bool) (hsl : ∀ i ∈ slotsT t, i ∈ own.map (·.2)) {σ : L2.St} {H : Hp} {Q : VK} (h : tE X.K ca W C (.lc m (own.map (·.2)) t k args cnd elt) σ H Q) :
    tLc (tI X.K ca W C k args) (gT X.K t) (tR X.K ca WN rB (evCnd C cnd)) (tE X.K ca WN C elt) (own.map (·.2)) σ H Q := by
  obtain ⟨F, r, g, S, R, G, h⟩ := h
  simp only [evE] at h
  refine step (rel := relUs X.K) (k := fun us g S => lcAll C m k (lcTurn t (own.map (·.2)) (evCnd C cnd) (evE C elt) g) us S) R G h fun vs H1 r1 us S1 e1 R1 G1 d1 h1 => ?_
  simp only [lcAll] at h1
  cases ev : itOf k us S1 with
  | none => rw [ev] at h1; exact h1.elim
  | some v =>
  rw [ev] at h1
  refine ⟨F, r1, us, S1, v, R1, d1, ev, fun J hJ D hD => ?_⟩
  have nFD : ¬ F D := fun z => R1.frn D z hD
  refine ⟨fun i n H2 => ∃ r2 S2 acc xs, H2 D = some (.lst xs) ∧ Ext r1 r2 H1 (hid H2 D) ∧ RepS X.K F r2 S2 (hid H2 D) ∧ DenUL X.K F r2 (hid H2 D) xs acc ∧
    RR X.K ca W (relU X.K F) F r2 σ (hid H2 D) Q ((lcLoop v (lcTurn t (own.map (·.2)) (evCnd C cnd) (evE C elt) g) n i acc S2).bind fun acc S => mkL m acc S), ⟨v.fuel C.fuel, r1, S1, [], [], upd_same, ?_, ?_, .nil, ?_⟩, ?_⟩
  · rw [hid_upd, hid_none hD]; exact Ext.refl
  · rw [hid_upd, hid_none hD]; exact R1
  · rw [hid_upd, hid_none hD]; exact h1
  rintro i n H2 ⟨r2, S2, acc, xs, hD2, e2, R2, dA, hR⟩
  have R2' := R2.show' hD2
  have nD2 : D ∉ r2 := fun z => R2'.apart D z (.inr rfl)
  cases n with
  | zero => simp only [lcLoop] at hR; exact hR.elim
  | succ n =>
  have kp : Keep (fun a => F a ∨ a ∈ r1) (fun a => plus F D a ∨ a ∈ r2) H1 H2 := ⟨fun a o q no => (hid_some (e2.keep a o q fun z => no (.inr z))).1, fun a z => by
    rcases z with (z | z) | z
    · exact .inl (.inl z)
    · exact .inr (by rw [z]; exact hD)
    · exact (e2.new a z).elim (fun w => .inl (.inr w)) .inr⟩
  have hI := hJ (plus F D) r2 S2 H2 i e2.more kp R2'
  simp only [lcLoop] at hR
  cases hv : v.at S2 i with
  | none => rw [hv] at hR; exact hR.elim
  | some o =>
  rw [hv] at hR hI
  cases o with
  | none =>
    refine .inl ⟨hI, ?_⟩
    have hR : RR X.K ca W (relU X.K F) F r2 σ (hid H2 D) Q (mkL m acc S2) := hR
    have q := mkL_ok R2 dA hid_same hR
    rwa [upd_hid hD2] at q
  | some u =>
  obtain ⟨go, hI⟩ := hI
  refine .inr ⟨go, fun H' => ∃ r2 S2 acc xs, H' D = some (.lst xs) ∧ Ext r1 r2 H1 (hid H' D) ∧ RepS X.K F r2 S2 (hid H' D) ∧ DenUL X.K F r2 (hid H' D) xs acc ∧
    RR X.K ca W (relU X.K F) F r2 σ (hid H' D) Q ((lcLoop v (lcTurn t (own.map (·.2)) (evCnd C cnd) (evE C elt) g) n (i + 1) acc S2).bind fun acc S => mkL m acc S), fun H' q => ⟨n, Nat.lt_succ_self n, q⟩, fun x H3 hy => ?_⟩
  obtain ⟨e3, s3, dx⟩ := hI x H3 hy
  have R3 : RepS X.K (plus F D) r2 S2 H3 := R2'.ext0 e3 s3
  have G3 : RepG X.K (plus F D) r2 H3 g σ := ((G1.ext e2 R1.frn).show').ext e3 R2'.frn
  simp only [lcTurn] at hR
  cases hb : bindT t u (wipeG g (own.map (·.2))) with
  | none => rw [hb] at hR; exact hR.elim
  | some g' =>
  rw [hb] at hR
  dsimp only at hR
  refine ⟨plus F D, r2, _, g', S2, u, R3, G3.wipe (own.map (·.2)), dx, hb, fun σ2 G4 out => ⟨?_, ?_⟩⟩
  · rw [out _ hsl, wipe_wipe]
  -- the test
  refine ⟨plus F D, r2, g', S2, R3, G4, ?_⟩
  have fin : ∀ {H5 : Hp} {r5 : List Addr} {S5 : Sto} {ys : List V} {acc5 : List U}, Ext r2 r5 H2 H5 → RepS X.K (plus F D) r5 S5 H5 → DenUL X.K F r5 (hid H5 D) ys acc5 → ∀ {Hn : Hp}, Hn D = some (.lst ys) → hid Hn D = hid H5 D →
      RR X.K ca W (relU X.K F) F r2 σ (hid H2 D) Q ((lcLoop v (lcTurn t (own.map (·.2)) (evCnd C cnd) (evE C elt) g) n (i + 1) acc5 S5).bind fun acc S => mkL m acc S) →
      ∃ r2 S2 acc xs, Hn D = some (.lst xs) ∧ Ext r1 r2 H1 (hid Hn D) ∧ RepS X.K F r2 S2 (hid Hn D) ∧ DenUL X.K F r2 (hid Hn D) xs acc ∧
        RR X.K ca W (relU X.K F) F r2 σ (hid Hn D) Q ((lcLoop v (lcTurn t (own.map (·.2)) (evCnd C cnd) (evE C elt) g) n (i + 1) acc S2).bind fun acc S => mkL m acc S) := by
    intro H5 r5 S5 ys acc5 e5 R5 d5 Hn hn1 hn2 q
    refine ⟨r5, S5, acc5, ys, hn1, ?_, ?_, ?_, ?_⟩
    · rw [hn2]; exact e2.trans (e5.hide nD2)
    · rw [hn2]; exact R5.hide nFD
    · rw [hn2]; exact d5
    · rw [hn2]; exact RR.ext (e5.hide nD2) q
  cases hc : evCnd C cnd g' S2 with
  | exc x S => rw [hc] at hR; exact hR.elim
  | stuck => rw [hc] at hR; exact hR.elim
  | ok b S4 =>
  rw [hc, Res.bind_ok] at hR
  intro b' r4 H4 e4 R4 eb
  subst eb
  have e24 : Ext r2 r4 H2 H4 := e3.trans e4
  cases b' with
  | false =>
    rw [if_neg Bool.false_ne_true] at hR ⊢
    have hD4 : H4 D = some (.lst xs) := e24.keep D _ hD2 nD2
    exact fin e24 R4 (dA.ext (e24.hide nD2) R2.frn) hD4 rfl hR
  | true =>
    rw [if_pos rfl] at hR ⊢
    refine ⟨plus F D, r4, g', S4, R4, G4.ext e4 R3.frn, ?_⟩
    cases hel : evE C elt g' S4 with
    | exc x S => rw [hel] at hR; exact hR.elim
    | stuck => rw [hel] at hR; exact hR.elim
    | ok y S5 =>
    rw [hel, Res.bind_ok] at hR
    intro yv r5 H5 e5 R5 dy
    have e25 : Ext r2 r5 H2 H5 := e24.trans e5
    have hD5 : H5 D = some (.lst xs) := e25.keep D _ hD2 nD2
    by_cases hz : acc.length < sizeLine
    · have hR : RR X.K ca W (relU X.K F) F r2 σ (hid H2 D) Q ((if acc.length < sizeLine then lcLoop v (lcTurn t (own.map (·.2)) (evCnd C cnd) (evE C elt) g) n (i + 1) (acc ++ [y]) S5 else .stuck).bind fun acc S => mkL m acc S) := hR
      rw [if_pos hz] at hR
      refine ⟨xs, hD5, by rw [dA.length]; exact hz, ?_⟩
      exact fin e25 R5 ((dA.ext (e25.hide nD2) R2.frn).append (.cons dy.hide .nil)) upd_same hid_upd hR
    · have hR : RR X.K ca W (relU X.K F) F r2 σ (hid H2 D) Q ((if acc.length < sizeLine then lcLoop v (lcTurn t (own.map (·.2)) (evCnd C cnd) (evE C elt) g) n (i + 1) (acc ++ [y]) S5 else .stuck).bind fun acc S => mkL m acc S) := hR
      rw [if_neg hz] at hR
      exact hR.elim
theorem c_nil : PTs X [] (tR X.K ca W rB (evCnd C [])) := by
  refine pts_nil.imp fun σ H Q h => ?_
  obtain ⟨F, r, g, S, R, G, h⟩ := h
  simp only [evCnd] at h
  exact h.fin R rfl
theorem c_one {a : E} {a' : Expr} (ha : PT X a' (tT X.K ca W C a)) : PTs X [a'] (tR X.K ca W rB (evCnd C [a])) := by
  refine (pts_one ha).imp fun σ H Q h => ?_
  obtain ⟨F, r, g, S, R, G, h⟩ := h
  simp only [evCnd] at h
  have e : ((tru (evE C a g S)).bind fun b S => if b = true then Res.ok true S else .ok false S) = tru (evE C a g S) := by
    cases tru (evE C a g S) with
    | ok b S => cases b <;> rfl
    | exc x S => rfl
    | stuck => rfl
  rw [e] at h
  exact ⟨F, r, g, S, R, G, h⟩
theorem e_lc (m : Bool) (hsl : ∀ i ∈ slotsT t, i ∈ own.map (·.2)) (hc : X.calm = true) (hN : X.N.Nodup) (hi : PI X tg it (tI X.K ca W C k args)) (ok : BlkOk X.N X.env.scope scope own)
    (hg : ∀ (s : Shared) (H : Hp) (D : Addr) (cl : List (Str × Addr)) (fp : List Addr), PG (X.blk s H scope (compEnvC scope cl D X.env) fp) tg (gT X.K t))
    (ht : ∀ (s : Shared) (H : Hp) (D : Addr) (cl : List (Str × Addr)) (fp : List Addr), PTs (X.blk s H scope (compEnvC scope cl D X.env) fp) ifs (tR X.K ca WN rB (evCnd C cnd)))
    (he : ∀ (s : Shared) (H : Hp) (D : Addr) (cl : List (Str × Addr)) (fp : List Addr), PE (X.blk s H scope (compEnvC scope cl D X.env) fp) elt' (tE X.K ca WN C elt)) (hs : ∀ x, foldedSetIterable it X.env x = pure x) :
    PE X (.ListComp elt' [⟨tg, it, ifs, 0⟩] scope pos) (tE X.K ca W C (.lc m (own.map (·.2)) t k args cnd elt)) :=
  (pe_lc hc hN hi ok hg ht he hs).imp fun σ H Q h => lc_read m hsl h
end
end PV
/-! PV6: statements. -/
namespace PV
open PySem PySem.Spec PyProof.Rows L2

theorem _root_.L2.PS.imp {X : Cx} {e : Stmt} {t t' : TS} (h : PS X e t) (k : ∀ D σ H, t' D σ H → t D σ H) : PS X e t' := ⟨fun pins s σ H D I q => h.run pins s σ H D I (k D σ H q)⟩
theorem _root_.L2.PSs.imp {X : Cx} {e : List Stmt} {t t' : TS} (h : PSs X e t) (k : ∀ D σ H, t' D σ H → t D σ H) : PSs X e t' := ⟨fun pins s σ H D I q => h.run pins s σ H D I (k D σ H q)⟩

/-- what is wanted of a statement's outcome -/
def RX (K : PySem.W.Frag) (ca : Nat → Option Addr) (W : WX) (F : Addr → Prop) (r : List Addr) (H : Hp) (D : Ends) : RS → Prop
  | .ok f g S => match f with
    | .nx => ∀ σ' r' H', Ext r r' H H' → RepS K F r' S H' → RepG K F r' H' g σ' → D.nx σ' H'
    | .brk => ∀ σ' r' H', Ext r r' H H' → RepS K F r' S H' → RepG K F r' H' g σ' → D.bk σ' H'
    | .cont => ∀ σ' r' H', Ext r r' H H' → RepS K F r' S H' → RepG K F r' H' g σ' → D.ct σ' H'
    | .ret u => ∀ v r' H', Ext r r' H H' → RepS K F r' S H' → DenU K F r' H' v u → D.rt v H'
  | .exc x g S => ∀ cls d σ' r' H', Ext r r' H H' → RepS K F r' S H' → RepG K F r' H' g σ' → ExR ca x cls d → W cls d σ' H'
  | .stuck => False
section
variable {K : PySem.W.Frag} {ca : Nat → Option Addr} {W : WX} {F : Addr → Prop} {r r1 : List Addr} {H H1 : Hp} {D : Ends} {S : Sto} {g : Gam} {σ : L2.St}
theorem RX.ext {x : RS} (e : Ext r r1 H H1) (h : RX K ca W F r H D x) : RX K ca W F r1 H1 D x := by
  cases x with
  | ok f g S => cases f with
    | nx => exact fun σ' r' H' e' => h σ' r' H' (e.trans e')
    | brk => exact fun σ' r' H' e' => h σ' r' H' (e.trans e')
    | cont => exact fun σ' r' H' e' => h σ' r' H' (e.trans e')
    | ret u => exact fun v r' H' e' => h v r' H' (e.trans e')
  | exc x g S => exact fun c d σ' r' H' e' => h c d σ' r' H' (e.trans e')
  | stuck => exact h
theorem RX.fin (h : RX K ca W F r H D (.ok .nx g S)) (R : RepS K F r S H) (G : RepG K F r H g σ) : D.nx σ H := h σ r H Ext.refl R G
theorem RX.imp {D' : Ends} {x : RS} (h : RX K ca W F r H D x) (h1 : ∀ σ H, D.nx σ H → D'.nx σ H) (h2 : ∀ v H, D.rt v H → D'.rt v H) (h3 : ∀ σ H, D.bk σ H → D'.bk σ H) (h4 : ∀ σ H, D.ct σ H → D'.ct σ H) : RX K ca W F r H D' x := by
  cases x with
  | ok f g S => cases f with
    | nx => exact fun σ' r' H' e' R G => h1 _ _ (h σ' r' H' e' R G)
    | brk => exact fun σ' r' H' e' R G => h3 _ _ (h σ' r' H' e' R G)
    | cont => exact fun σ' r' H' e' R G => h4 _ _ (h σ' r' H' e' R G)
    | ret u => exact fun v r' H' e' R G => h2 _ _ (h v r' H' e' R G)
  | exc x g S => exact h
  | stuck => exact h
end
def tS (K : PySem.W.Frag) (ca : Nat → Option Addr) (W : WX) (f : Gam → Sto → RS) : TS := fun D σ H => ∃ (F : Addr → Prop) (r : List Addr) (g : Gam) (S : Sto), RepS K F r S H ∧ RepG K F r H g σ ∧ RX K ca W F r H D (f g S)
/-- an expression, then what follows in the statement -/
theorem stepS {α β : Type} {K : PySem.W.Frag} {ca : Nat → Option Addr} {W : WX} {rel : (Addr → Prop) → List Addr → Hp → β → α → Prop} {f : Gam → Sto → Res α} {k : α → Gam → Sto → RS} {σ : L2.St} {H : Hp} {D : Ends} {Q : β → Hp → Prop} {F : Addr → Prop} {r : List Addr} {g : Gam} {S : Sto}
    (R : RepS K F r S H) (G : RepG K F r H g σ) (h : RX K ca W F r H D (withR (f g S) g fun a S => k a g S))
    (go : ∀ (b : β) (H1 : Hp) (r1 : List Addr) (a : α) (S1 : Sto), Ext r r1 H H1 → RepS K F r1 S1 H1 → RepG K F r1 H1 g σ → rel F r1 H1 b a → RX K ca W F r1 H1 D (k a g S1) → Q b H1) : tR K ca W rel f σ H Q := by
  refine ⟨F, r, g, S, R, G, ?_⟩
  cases q : f g S with
  | ok a S1 =>
    rw [q, withR_ok] at h
    exact fun b r1 H1 e R1 d => go b H1 r1 a S1 e R1 (G.ext e R.frn) d (RX.ext e h)
  | exc x S1 =>
    rw [q, withR_exc] at h
    exact fun cls d r1 H1 e R1 ex => h cls d σ r1 H1 e R1 (G.ext e R.frn) ex
  | stuck => rw [q] at h; exact h.elim

/-! ### targets -/
abbrev endT (Q : L2.St → Hp → Prop) : Ends := { nx := Q, rt := fun _ _ => False }
def gU (K : PySem.W.Frag) (ca : Nat → Option Addr) (W : WX) (C : Ctx) (t : Tg) : TG := fun v σ H Q => ∃ (F : Addr → Prop) (r : List Addr) (g : Gam) (S : Sto) (u : U), RepS K F r S H ∧ RepG K F r H g σ ∧ DenU K F r H v u ∧ RX K ca W F r H (endT Q) (evT C t u g S)
def gUs (K : PySem.W.Frag) (ca : Nat → Option Addr) (W : WX) (C : Ctx) (t : List Tg) : TGs := fun vs σ H Q => ∃ (F : Addr → Prop) (r : List Addr) (g : Gam) (S : Sto) (us : List U), RepS K F r S H ∧ RepG K F r H g σ ∧ DenUL K F r H vs us ∧ RX K ca W F r H (endT Q) (evTs C t us g S)
section
variable {X : Cx} {ca : Nat → Option Addr} {W : WX} {C : Ctx} {pos : Pos} {e o i : Expr} {es : List Expr} {t : Tg} {ts : List Tg} {eo ei : E}
theorem u_nm {j : Nat} {x : Str} (hN : X.N.Nodup) (hi : X.N[j]? = some x) (hx : Loc X.env.scope x) (hf : X.fn x = true ∨ X.env.scope.names.lookup x = some .local) : PG X (.Name x pos) (gU X.K ca W C (.nm j)) := by
  refine (pg_name hN hi hx hf).imp fun v σ H Q h => ?_
  obtain ⟨F, r, g, S, u, R, G, d, h⟩ := h
  simp only [evT] at h
  split at h
  · exact h _ r H Ext.refl R (G.set d j)
  · exact h.elim
theorem us_nil : PGs X [] (gUs X.K ca W C []) := by
  refine pgs_nil.imp fun vs σ H Q h => ?_
  obtain ⟨F, r, g, S, us, R, G, d, h⟩ := h
  cases us with
  | nil =>
    cases d
    simp only [evTs] at h
    exact ⟨rfl, h σ r H Ext.refl R G⟩
  | cons x ds => simp only [evTs] at h; exact h.elim
theorem us_cons (h1 : PG X e (gU X.K ca W C t)) (h2 : PGs X es (gUs X.K ca W C ts)) (hs : (assignEach (e :: es) X.env).map (·.2) = assign e X.env :: (assignEach es X.env).map (·.2)) : PGs X (e :: es) (gUs X.K ca W C (t :: ts)) := by
  refine (pgs_cons h1 h2 hs).imp fun vs σ H Q h => ?_
  obtain ⟨F, r, g, S, us, R, G, d, h⟩ := h
  cases us with
  | nil => simp only [evTs] at h; exact h.elim
  | cons x ds =>
    cases d with
    | cons a b =>
      rename_i v vs
      simp only [evTs] at h
      refine ⟨v, vs, rfl, F, r, g, S, x, R, G, a, ?_⟩
      cases q : evT C t x g S with
      | ok f g1 S1 =>
        rw [q] at h
        cases f with
        | nx => exact fun σ1 r1 H1 e1 R1 G1 => ⟨F, r1, g1, S1, ds, R1, G1, b.ext e1 R.frn, RX.ext e1 h⟩
        | ret u => exact h
        | brk => exact h
        | cont => exact h
      | exc y g1 S1 => rw [q] at h; exact h
      | stuck => rw [q] at h; exact h
theorem u_tup {k : Nat} (hc : X.calm = true) (h : PGs X es (gUs X.K ca W C ts)) (hlen : es.length = ts.length) (hn : (assignEach es X.env).length = es.length) (hst : (assignEach es X.env).findIdx? (·.1) = none) : PG X (.Tuple es k pos) (gU X.K ca W C (.tup ts)) := by
  refine ((pg_tup hc h hn hst).or (pg_lst hc h hn hst)).imp fun v σ H Q h => ?_
  obtain ⟨F, r, g, S, u, R, G, d, h⟩ := h
  simp only [evT] at h
  cases q : items S u with
  | none => rw [q] at h; exact h.elim
  | some us =>
  rw [q] at h
  dsimp only at h
  split at h
  · rename_i hl
    obtain ⟨a, xs, rfl, hs, da⟩ := items_inv R d q
    rcases hs with hs | hs
    · exact .inr ⟨a, xs, rfl, hs, by rw [da.length, hl, hlen], F, r, g, S, us, R, G, da, h⟩
    · exact .inl ⟨a, xs, rfl, hs, by rw [da.length, hl, hlen], F, r, g, S, us, R, G, da, h⟩
  · exact h.elim
theorem u_idx (ho : PE X o (tE X.K ca W C eo)) (hi : PE X i (tE X.K ca W C ei)) (ha : ∀ v, assign (.Subscript o i pos) X.env v = (do
      let ov ← holding [v] (eval o X.env)
      let iv ← holding [v, ov] (eval i X.env)
      standAt pos
      holding [v, ov, iv] (setItem ov iv v)
      release [v, ov, iv] [])) : PG X (.Subscript o i pos) (gU X.K ca W C (.idx eo ei)) := by
  refine (pg_sub ho hi set_list ha).imp fun v σ H Q h => ?_
  obtain ⟨F, r, g, S, u, R, G, d, h⟩ := h
  simp only [evT] at h
  refine stepS (k := fun ov g S => withR (evE C ei g S) g fun iv S => setK ov iv u g S) R G h fun x H1 r1 ux S1 e1 R1 G1 d1 h1 => ?_
  refine stepS (k := fun iv g S => setK ux iv u g S) R1 G1 h1 fun y H2 r2 uy S2 e2 R2 G2 d2 h2 => ?_
  unfold setK at h2
  cases q : setIx ux uy u S2 with
  | none => rw [q] at h2; exact h2.elim
  | some S' =>
  rw [q] at h2
  unfold setIx at q
  split at q
  · rename_i n k
    cases q2 : S2[n]? with
    | none => rw [q2] at q; cases q
    | some mo =>
    cases mo with
    | lst us =>
    rw [q2] at q
    dsimp only at q
    cases q3 : ixN us.length k with
    | none => rw [q3] at q; cases q
    | some j =>
    rw [q3] at q
    have := Option.some.inj q
    subst this
    obtain ⟨a, xs, ex, hr, h3, h4⟩ := R2.at (d1.ext e2 R1.frn) q2
    have ey := d2.int_inv
    subst ey
    refine ⟨a, xs, k, j, ex, rfl, h3, by rw [h4.length]; exact q3, ?_⟩
    have dv := (d.ext e1 R.frn).ext e2 R1.frn
    have e3 : Ext r2 r2 H2 (upd H2 a (.lst (xs.set j v))) := ext_set hr
    exact h2 σ r2 _ e3 (R2.set hr (h4.set dv j)) (G2.ext e3 R2.frn)
  · cases q
end

mutual
theorem evT_nx {C : Ctx} : ∀ (t : Tg) (u : U) (g : Gam) (S : Sto) (f : Fl) (g' : Gam) (S' : Sto), evT C t u g S = .ok f g' S' → f = .nx
  | .nm i, u, g, S, f, g', S', h => by
    simp only [evT] at h
    split at h
    · cases h; rfl
    · cases h
  | .tup ts, u, g, S, f, g', S', h => by
    simp only [evT] at h
    split at h
    · split at h
      · exact evTs_nx ts _ g S f g' S' h
      · cases h
    · cases h
  | .idx o i, u, g, S, f, g', S', h => by
    simp only [evT] at h
    cases q : evE C o g S with
    | ok ov S1 =>
      rw [q, withR_ok] at h
      cases q2 : evE C i g S1 with
      | ok iv S2 =>
        rw [q2, withR_ok] at h
        unfold setK at h
        split at h
        · cases h; rfl
        · cases h
      | exc x S => rw [q2] at h; cases h
      | stuck => rw [q2] at h; cases h
    | exc x S => rw [q] at h; cases h
    | stuck => rw [q] at h; cases h
theorem evTs_nx {C : Ctx} : ∀ (t : List Tg) (u : List U) (g : Gam) (S : Sto) (f : Fl) (g' : Gam) (S' : Sto), evTs C t u g S = .ok f g' S' → f = .nx
  | [], [], g, S, f, g', S', h => by simp only [evTs] at h; cases h; rfl
  | [], _ :: _, g, S, f, g', S', h => by simp only [evTs] at h; cases h
  | _ :: _, [], g, S, f, g', S', h => by simp only [evTs] at h; cases h
  | t :: ts, u :: us, g, S, f, g', S', h => by
    simp only [evTs] at h
    cases q : evT C t u g S with
    | ok f1 g1 S1 =>
      have := evT_nx t u g S f1 g1 S1 q
      subst this
      rw [q] at h
      exact evTs_nx ts us g1 S1 f g' S' h
    | exc x g1 S1 => rw [q] at h; cases h
    | stuck => rw [q] at h; cases h
end
/-! ### statements -/
/-- an own exception made without arguments -/
theorem pmk_own0 {X : Cx} {C : Addr} {bmB : List Value} {B newId initId : String} {x : Str} {p pos : Pos} (F : ExcBaseFacts B newId initId bmB) (q : PySem.W.excIn X.K C bmB newId = true) (gC : X.mg x = some (.ref C)) (kC : PySem.W.keepIn X.K (.ref C) = true) (r : Raises X (.ref C)) (hg : Gl X x)
    (hdb : (x == ("__debug__" : Str)) = false) : PMk X (.Call (.Name x p) [] [] pos) (fun _ H Q => Q (.ref C) none H) := by
  intro pins s σ H Q I h
  refine wpAny_Call_Name_kw (ld_glob I hg gC ?_ hdb)
  refine PySem.W.callWith_K0 I.kIn kC ?_
  show wpAny _ _ (call (.ref C) []) _ _ _
  obtain ⟨bm, N, nm, qn, bs, hdct, sn, sub, ab, col, dd, k0, k1, k2, k3, k5, mN, hC, hN, hni, T⟩ := exc_obj I.kIn q
  refine wpAny_call_exc_subT F T hC hN hni (fun h' e hm => ?_) (by show 0 ≤ sizeLine; exact Nat.zero_le _)
  exact mk_of I hm r h (I.hok.gone hm.new)
section
variable {X : Cx} {ca : Nat → Option Addr} {W : WX} {C : Ctx} {pos : Pos} {a b c : E} {a' b' c' tg : Expr} {t : Tg} {s1 : S} {ss sb : List S} {st : Stmt} {sts stb : List Stmt}
abbrev tSt (K : PySem.W.Frag) (ca : Nat → Option Addr) (W : WX) (C : Ctx) (s : S) : TS := tS K ca W (evS C s)
abbrev tSts (K : PySem.W.Frag) (ca : Nat → Option Addr) (W : WX) (C : Ctx) (s : List S) : TS := tS K ca W (evSs C s)
theorem s_asg (he : PE X a' (tE X.K ca W C a)) (hg : PG X tg (gU X.K ca W C t)) (hs : swapsWithSole [tg] a' pos.line X.env = pure false) (hw : swappedStores [tg] a' X.env = pure none) (h1 : (assignEach [tg] X.env).map (·.2) = [assign tg X.env]) : PS X (.Assign [tg] a' pos) (tSt X.K ca W C (.asg t a)) := by
  refine (ps_asg he hg hs hw h1).imp fun D σ H h => ?_
  obtain ⟨F, r, g, S, R, G, h⟩ := h
  simp only [evS] at h
  refine stepS (k := fun u g S => evT C t u g S) R G h fun x H1 r1 ux S1 e1 R1 G1 d1 h1 => ?_
  refine ⟨F, r1, g, S1, ux, R1, G1, d1, ?_⟩
  cases q : evT C t ux g S1 with
  | ok f g' S' =>
    have := evT_nx _ _ _ _ _ _ _ q
    subst this
    rw [q] at h1
    exact h1
  | exc x g' S' => rw [q] at h1; exact h1
  | stuck => rw [q] at h1; exact h1
theorem s_expr (he : PE X a' (tE X.K ca W C a)) (hs : swapsWith a' none pos.line X.env = pure false) : PS X (.Expr a' pos) (tSt X.K ca W C (.expr a)) := by
  refine (ps_expr he hs).imp fun D σ H h => ?_
  obtain ⟨F, r, g, S, R, G, h⟩ := h
  simp only [evS] at h
  exact stepS (k := fun u g S => .ok .nx g S) R G h fun x H1 r1 ux S1 e1 R1 G1 d1 h1 => h1.fin R1 G1
theorem s_ret (he : PE X a' (tE X.K ca W C a)) : PS X (.Return (some a') pos) (tSt X.K ca W C (.ret a)) := by
  refine (ps_ret he).imp fun D σ H h => ?_
  obtain ⟨F, r, g, S, R, G, h⟩ := h
  simp only [evS] at h
  exact stepS (k := fun u g S => .ok (.ret u) g S) R G h fun x H1 r1 ux S1 e1 R1 G1 d1 h1 => h1 x r1 H1 Ext.refl R1 d1
theorem s_retn : PS X (.Return none pos) (tSt X.K ca W C .retn) := by
  refine ps_retN.imp fun D σ H h => ?_
  obtain ⟨F, r, g, S, R, G, h⟩ := h
  simp only [evS] at h
  exact h .non r H Ext.refl R Den.non
theorem s_pass : PS X (.Pass pos) (tSt X.K ca W C .pass) := by
  refine ps_pass.imp fun D σ H h => ?_
  obtain ⟨F, r, g, S, R, G, h⟩ := h
  simp only [evS] at h
  exact h.fin R G
theorem s_doc {x : Str} {k : Nat} {p2 : Pos} : PS X (.Expr (.Constant (.str x) k p2) pos) (tSt X.K ca W C .pass) := by
  refine ps_doc.imp fun D σ H h => ?_
  obtain ⟨F, r, g, S, R, G, h⟩ := h
  simp only [evS] at h
  exact h.fin R G
theorem s_brk : PS X (.Break pos) (tSt X.K ca W C .brk) := by
  refine ps_break.imp fun D σ H h => ?_
  obtain ⟨F, r, g, S, R, G, h⟩ := h
  simp only [evS] at h
  exact h σ r H Ext.refl R G
theorem s_cont : PS X (.Continue pos) (tSt X.K ca W C .cont) := by
  refine ps_continue.imp fun D σ H h => ?_
  obtain ⟨F, r, g, S, R, G, h⟩ := h
  simp only [evS] at h
  exact h σ r H Ext.refl R G
theorem s_ite (hc : PT X c' (tT X.K ca W C c)) (ha : PSs X sts (tSts X.K ca W C ss)) (hb : PSs X stb (tSts X.K ca W C sb)) : PS X (.If c' sts stb pos) (tSt X.K ca W C (.ite c ss sb)) := by
  refine (ps_if hc ha hb).imp fun D σ H h => ?_
  obtain ⟨F, r, g, S, R, G, h⟩ := h
  simp only [evS] at h
  refine stepS (f := fun g S => tru (evE C c g S)) (k := fun k g S => if k = true then evSs C ss g S else evSs C sb g S) R G h fun x H1 r1 ux S1 e1 R1 G1 d1 h1 => ?_
  subst d1
  cases x with
  | true => rw [if_pos rfl] at h1 ⊢; exact ⟨F, r1, g, S1, R1, G1, h1⟩
  | false => rw [if_neg Bool.false_ne_true] at h1 ⊢; exact ⟨F, r1, g, S1, R1, G1, h1⟩
theorem ss_nil : PSs X [] (tSts X.K ca W C []) := by
  refine pss_nil.imp fun D σ H h => ?_
  obtain ⟨F, r, g, S, R, G, h⟩ := h
  simp only [evSs] at h
  exact h.fin R G
theorem ss_cons (h1 : PS X st (tSt X.K ca W C s1)) (h2 : PSs X sts (tSts X.K ca W C ss)) : PSs X (st :: sts) (tSts X.K ca W C (s1 :: ss)) := by
  refine (pss_cons h1 h2).imp fun D σ H h => ?_
  obtain ⟨F, r, g, S, R, G, h⟩ := h
  simp only [evSs] at h
  refine ⟨F, r, g, S, R, G, ?_⟩
  cases q : evS C s1 g S with
  | ok f g1 S1 =>
    rw [q] at h
    cases f with
    | nx => exact fun σ1 r1 H1 e1 R1 G1 => ⟨F, r1, g1, S1, R1, G1, RX.ext e1 h⟩
    | ret u => exact h
    | brk => exact h
    | cont => exact h
  | exc y g1 S1 => rw [q] at h; exact h
  | stuck => rw [q] at h; exact h
theorem s_par {i j : Nat} {x y : Str} {px py pt pt2 : Pos} {kt k2 : Nat} (hc : X.calm = true) (hN : X.N.Nodup) (hi : X.N[i]? = some x) (hj : X.N[j]? = some y) (hij : i ≠ j) (hx : X.env.scope.names.lookup x = some .local) (hy : X.env.scope.names.lookup y = some .local) (ha : PE X a' (tE X.K ca W C a)) (hb : PE X b' (tE X.K ca W C b))
    (hs1 : starEach [a', b'] X.env = (false, eval a' X.env) :: starEach [b'] X.env) (hs2 : starEach [b'] X.env = (false, eval b' X.env) :: starEach [] X.env)
    (hw : swappedStores [.Tuple [.Name x px, .Name y py] kt pt] (.Tuple [a', b'] k2 pt2) X.env = pure (some [x, y])) : PS X (.Assign [.Tuple [.Name x px, .Name y py] kt pt] (.Tuple [a', b'] k2 pt2) pos) (tSt X.K ca W C (.par i j a b)) := by
  refine (ps_par hc hN hi hj hij hx hy (pa_cons ha (pa_cons hb pa_nil hs2) hs1) hw).imp fun D σ H h => ?_
  obtain ⟨F, r, g, S, R, G, h⟩ := h
  simp only [evS] at h
  refine stepS (k := fun x g S => withR (evE C b g S) g fun y S => parK i j x y g S) R G h fun x H1 r1 ux S1 e1 R1 G1 d1 h1 => ?_
  refine stepS (k := fun y g S => parK i j ux y g S) R1 G1 h1 fun y H2 r2 uy S2 e2 R2 G2 d2 h2 => ?_
  unfold parK at h2
  split at h2
  · exact ⟨x, y, rfl, h2.fin R2 ((G2.set (d1.ext e2 R1.frn) i).set d2 j)⟩
  · exact h2.elim
theorem s_aug {i : Nat} {x : Str} {p2 : Pos} (op : Bop) (ho : op = .add ∨ op = .sub) (hN : X.N.Nodup) (hi : X.N[i]? = some x) (hx : Loc X.env.scope x) (hf : X.fn x = true ∨ X.env.scope.names.lookup x = some .local) (he : PE X a' (tE X.K ca W C a)) :
    PS X (.AugAssign (.Name x p2) (opOf op) a' pos) (tSt X.K ca W C (.aug i op a)) := by
  have go : ∀ (f : Int → Int → Int), (∀ p q g S, augK i op (.d (.int p)) (.d (.int q)) g S = .ok .nx (g.set i (some (.d (.int (f p q))))) S) → PIp X (opOf op) (ipI f) → PS X (.AugAssign (.Name x p2) (opOf op) a' pos) (tSt X.K ca W C (.aug i op a)) := by
    intro f hf' hp
    refine (ps_aug hN hi hx he hp hf).imp fun D σ H h => ?_
    obtain ⟨F, r, g, S, R, G, h⟩ := h
    simp only [evS] at h
    cases q : slotU g i S with
    | exc y S => unfold slotU at q; split at q <;> cases q
    | stuck => rw [q] at h; exact h.elim
    | ok ux S0 =>
    rw [q, withR_ok] at h
    unfold slotU at q
    split at q
    · rename_i u hu
      cases q
      obtain ⟨v, hv1, h2⟩ := G.get i _ hu
      refine ⟨v, hv1, ?_⟩
      refine stepS (k := fun y g S => augK i op ux y g S) R G h fun y H1 r1 uy S1 e1 R1 G1 d1 h1 => ?_
      have num : ∃ p q, ux = .d (.int p) ∧ uy = .d (.int q) := by
        unfold augK at h1
        split at h1
        · exact ⟨_, _, rfl, rfl⟩
        · exact ⟨_, _, rfl, rfl⟩
        · exact h1.elim
      obtain ⟨p, q, rfl, rfl⟩ := num
      rw [hf'] at h1
      have e1' := h2.int_inv
      have e2' := d1.int_inv
      exact ⟨p, q, e1', e2', h1.fin R1 (G1.set (u := .d (.int (f p q))) (Den.int _) i)⟩
    · cases q
  rcases ho with rfl | rfl
  · exact go (fun i j => i + j) (fun _ _ _ _ => rfl) ip_add
  · exact go (fun i j => i - j) (fun _ _ _ _ => rfl) ip_sub
theorem s_app {p1 p2 : Pos} (ho : PE X a' (tE X.K ca W C a)) (he : PE X b' (tE X.K ca W C b)) (hs1 : starEach [b'] X.env = (false, eval b' X.env) :: starEach [] X.env) (hbase : attributeBase a' "append" X.env (eval a' X.env) = eval a' X.env) (hline : (p1.endLine == p2.line) = true) :
    PS X (.Expr (.Call (.Attribute a' "append" p1) [b'] [] p2) pos) (tSt X.K ca W C (.app a b)) := by
  have hpe : PE X (.Call (.Attribute a' "append" p1) [b'] [] p2) (tBM X.K "list" rAppend (tE X.K ca W C a) (tCons (tE X.K ca W C b) tNil)) :=
    pe_bm PySem.F.plainAttrs_list PySem.F.slot_list_append PySem.F.type_list_append mt_append ho (pa_cons he pa_nil hs1) hbase (by rw [hs1]; rfl) hline hs1 (by rfl)
  refine (ps_expr hpe (by rfl)).imp fun D σ H h => ?_
  obtain ⟨F, r, g, S, R, G, h⟩ := h
  simp only [evS] at h
  refine stepS (k := fun ov g S => refK ov fun n => withR (evE C b g S) g fun v S => appK n v g S) R G h fun x H1 r1 ux S1 e1 R1 G1 d1 h1 => ?_
  unfold refK at h1
  split at h1
  · rename_i n
    obtain ⟨p, hr, rfl⟩ := d1
    obtain ⟨us0, xs0, _, hx0, _⟩ := R1.there hr
    refine ⟨.inl ⟨rfl, xs0, .inl (.inl hx0)⟩, ?_⟩
    refine stepS (k := fun v g S => appK n v g S) R1 G1 h1 fun y H2 r2 uy S2 e2 R2 G2 d2 h2 => ?_
    have hr2 := e2.get hr
    obtain ⟨us, xs, q, hx, dx⟩ := R2.there hr2
    unfold appK at h2
    rw [q] at h2
    dsimp only at h2
    split at h2
    · rename_i hz
      have e3 : Ext r2 r2 H2 (upd H2 p (.lst (xs ++ [y]))) := ext_set hr2
      exact ⟨p, xs, y, rfl, rfl, hx, by rw [dx.length]; exact hz, h2 σ r2 _ e3 (R2.set hr2 (dx.append (.cons d2 .nil))) (G2.ext e3 R2.frn)⟩
    · exact h2.elim
  · exact h1.elim
theorem s_raise {k : Nat} {C0 : Addr} {x : Str} {p p2 : Pos} {bmB : List Value} {B newId initId : String} (hc : X.calm = true) (tk : Takes X W) (Fx : ExcBaseFacts B newId initId bmB) (q : PySem.W.excIn X.K C0 bmB newId = true) (gC : X.mg x = some (.ref C0)) (kC : PySem.W.keepIn X.K (.ref C0) = true) (rr : Raises X (.ref C0)) (hg : Gl X x)
    (hdb : (x == ("__debug__" : Str)) = false) (hca : ca k = some C0) : PS X (.Raise (some (.Call (.Name x p) [] [] p2)) none pos) (tSt X.K ca W C (.raise k)) := by
  refine (ps_raise hc tk (pmk_own0 Fx q gC kC rr hg hdb)).imp fun D σ H h => ?_
  obtain ⟨F, r, g, S, R, G, h⟩ := h
  simp only [evS] at h
  exact h (.ref C0) none σ r H Ext.refl R G ⟨C0, hca, rfl, rfl⟩
theorem s_whil (hp : PassesOwn (model X.prog X.w) X.A X.env X.xe) (hc : PT X c' (tT X.K ca W C c)) (hb : PSs X sts (tSts X.K ca W C ss)) : PS X (.While c' sts [] pos) (tSt X.K ca W C (.whil c ss)) := by
  refine (ps_while hp hc hb).imp fun D σ H h => ?_
  obtain ⟨F, r, g, S, R, G, h⟩ := h
  simp only [evS] at h
  refine ⟨fun m σ H => ∃ r1 g1 S1, RepS X.K F r1 S1 H ∧ RepG X.K F r1 H g1 σ ∧ RX X.K ca W F r1 H D (whileLoop (fun g S => tru (evE C c g S)) (evSs C ss) m g1 S1), ⟨C.fuel, r, g, S, R, G, h⟩, ?_⟩
  rintro m σ1 H1 ⟨r1, g1, S1, R1, G1, h1⟩
  cases m with
  | zero => simp only [whileLoop] at h1; exact h1.elim
  | succ m =>
  simp only [whileLoop] at h1
  refine ⟨F, r1, g1, S1, R1, G1, ?_⟩
  show RR X.K ca W (rB F) F r1 σ1 H1 _ (tru (evE C c g1 S1))
  cases q : tru (evE C c g1 S1) with
  | stuck => rw [q] at h1; exact h1.elim
  | exc x S2 => rw [q] at h1; exact fun cls d r' H' e R' ex => h1 cls d σ1 r' H' e R' (G1.ext e R1.frn) ex
  | ok k S2 =>
  rw [q] at h1
  intro b r2 H2 e2 R2 eb
  subst eb
  cases b with
  | false => rw [if_neg Bool.false_ne_true]; exact h1 σ1 r2 H2 e2 R2 (G1.ext e2 R1.frn)
  | true =>
    rw [if_pos rfl]
    dsimp only at h1
    refine ⟨fun σ H => ∃ r1 g1 S1, RepS X.K F r1 S1 H ∧ RepG X.K F r1 H g1 σ ∧ RX X.K ca W F r1 H D (whileLoop (fun g S => tru (evE C c g S)) (evSs C ss) m g1 S1), fun σ' H' z => ⟨m, Nat.lt_succ_self m, z⟩, F, r2, g1, S2, R2, G1.ext e2 R1.frn, ?_⟩
    replace h1 := RX.ext e2 h1
    cases q2 : evSs C ss g1 S2 with
    | stuck => rw [q2] at h1; exact h1.elim
    | exc x g3 S3 => rw [q2] at h1; exact h1
    | ok f g3 S3 =>
      rw [q2] at h1
      cases f with
      | nx => exact fun σ' r' H' e' R' G' => ⟨r', g3, S3, R', G', RX.ext e' h1⟩
      | cont => exact fun σ' r' H' e' R' G' => ⟨r', g3, S3, R', G', RX.ext e' h1⟩
      | brk => exact h1
      | ret u => exact h1
theorem s_for {tn : Tn} {k : Ik} {args : List E} {it : Expr} (hp : PassesOwn (model X.prog X.w) X.A X.env X.xe) (hc : X.calm = true) (hi : PI X tg it (tI X.K ca W C k args)) (hg : PG X tg (gT X.K tn)) (hb : PSs X sts (tSts X.K ca W C ss)) (hs : ∀ x, foldedSetIterable it X.env x = pure x) :
    PS X (.For tg it sts [] pos) (tSt X.K ca W C (.for tn k args ss)) := by
  refine (ps_for hp hc hi hg hb hs).imp fun D σ H h => ?_
  obtain ⟨F, r, g, S, R, G, h⟩ := h
  simp only [evS] at h
  refine stepS (rel := relUs X.K) (k := fun us g S => forK C tn k (evSs C ss) us g S) R G h fun vs H1 r1 us S1 e1 R1 G1 d1 h1 => ?_
  unfold forK at h1
  cases ev : itOf k us S1 with
  | none => rw [ev] at h1; exact h1.elim
  | some v =>
  rw [ev] at h1
  refine ⟨F, r1, us, S1, v, R1, d1, ev, fun J hJ => ?_⟩
  refine ⟨fun i m σ2 H2 => ∃ r2 g2 S2, Ext r1 r2 H1 H2 ∧ RepS X.K F r2 S2 H2 ∧ RepG X.K F r2 H2 g2 σ2 ∧ RX X.K ca W F r2 H2 D (forLoop v tn (evSs C ss) m i g2 S2), ⟨v.fuel C.fuel, r1, g, S1, Ext.refl, R1, G1, h1⟩, ?_⟩
  rintro i m σ2 H2 ⟨r2, g2, S2, e2, R2, G2, h2⟩
  cases m with
  | zero => simp only [forLoop] at h2; exact h2.elim
  | succ m =>
  simp only [forLoop] at h2
  have hI := hJ F r2 S2 H2 i e2.more (e2.toKeep R1.frn) R2
  cases hv : v.at S2 i with
  | none => rw [hv] at h2; exact h2.elim
  | some o =>
  rw [hv] at h2 hI
  cases o with
  | none => exact .inl ⟨hI, h2.fin R2 G2⟩
  | some u =>
  obtain ⟨go, hI⟩ := hI
  refine .inr ⟨go, fun σ3 H3 => ∃ r2 g2 S2, Ext r1 r2 H1 H3 ∧ RepS X.K F r2 S2 H3 ∧ RepG X.K F r2 H3 g2 σ3 ∧ RX X.K ca W F r2 H3 D (forLoop v tn (evSs C ss) m (i + 1) g2 S2), fun σ' H' z => ⟨m, Nat.lt_succ_self m, z⟩, fun x H3 hy => ?_⟩
  obtain ⟨e3, s3, dx⟩ := hI x H3 hy
  have R3 := R2.ext0 e3 s3
  have G3 := G2.ext e3 R2.frn
  dsimp only at h2
  cases hb : bindT tn u g2 with
  | none => rw [hb] at h2; exact h2.elim
  | some g' =>
  rw [hb] at h2
  dsimp only at h2
  refine ⟨F, r2, g2, g', S2, u, R3, G3, dx, hb, fun σ4 G4 _ => ⟨F, r2, g', S2, R3, G4, ?_⟩⟩
  replace h2 := RX.ext e3 h2
  cases q2 : evSs C ss g' S2 with
  | stuck => rw [q2] at h2; exact h2.elim
  | exc x g3 S3 => rw [q2] at h2; exact h2
  | ok f g3 S3 =>
    rw [q2] at h2
    cases f with
    | nx => exact fun σ' r' H' e' R' G' => ⟨r', g3, S3, (e2.trans e3).trans e', R', G', RX.ext e' h2⟩
    | cont => exact fun σ' r' H' e' R' G' => ⟨r', g3, S3, (e2.trans e3).trans e', R', G', RX.ext e' h2⟩
    | brk => exact h2
    | ret u => exact h2
end
end PV
/-! PV7: a comprehension given to a name; try. -/
namespace PV
open PySem PySem.Spec PyProof.Rows L2

section
variable {X : Cx} {ca : Nat → Option Addr} {W : WX} {C : Ctx}
theorem s_setLc {tg it elt' : Expr} {ifs : List Expr} {args cnd : List E} {elt : E} {t : Tn} {k : Ik} {scope : Scope} {own : List (Str × Nat)} {pos spos py : Pos} {i : Nat} {y : Str} (m : Bool) (hsl : ∀ i ∈ slotsT t, i ∈ own.map (·.2)) (hc : X.calm = true) (hN : X.N.Nodup) (hy : X.N[i]? = some y)
    (hyl : X.env.scope.names.lookup y = some .local) (hsw : swapsWith (.ListComp elt' [⟨tg, it, ifs, 0⟩] scope pos) (some (.Name y py)) spos.line X.env = pure true) (hi : PI X tg it (tI X.K ca W C k args)) (ok : BlkOk X.N X.env.scope scope own)
    (hg : ∀ (s : Shared) (H : Hp) (D : Addr) (cl : List (Str × Addr)) (fp : List Addr), PG (X.blk s H scope (compEnvC scope cl D X.env) fp) tg (gT X.K t))
    (ht : ∀ (s : Shared) (H : Hp) (D : Addr) (cl : List (Str × Addr)) (fp : List Addr), PTs (X.blk s H scope (compEnvC scope cl D X.env) fp) ifs (tR X.K ca WN rB (evCnd C cnd)))
    (he : ∀ (s : Shared) (H : Hp) (D : Addr) (cl : List (Str × Addr)) (fp : List Addr), PE (X.blk s H scope (compEnvC scope cl D X.env) fp) elt' (tE X.K ca WN C elt)) (hs : ∀ x, foldedSetIterable it X.env x = pure x) :
    PS X (.Assign [.Name y py] (.ListComp elt' [⟨tg, it, ifs, 0⟩] scope pos) spos) (tSt X.K ca W C (.asg (.nm i) (.lc m (own.map (·.2)) t k args cnd elt))) := by
  refine (ps_setLc hc hN hy hyl hsw hi ok hg ht he hs).imp fun D σ H h => ?_
  obtain ⟨F, r, g, S, R, G, h⟩ := h
  simp only [evS] at h
  refine lc_read (X := X) (W := W) m hsl (stepS (k := fun u g S => evT C (.nm i) u g S) R G h fun x H1 r1 ux S1 e1 R1 G1 d1 h1 => ?_)
  simp only [evT] at h1
  split at h1
  · exact h1 _ r1 H1 Ext.refl R1 (G1.set d1 i)
  · exact h1.elim

/-- a class by its name, with what isinstance and except tell of the exceptions that may be raised -/
structure ClsN (K : PySem.W.Frag) (mg : Str → Option Value) (ca : Nat → Option Addr) (sub : Nat → Nat → Bool) (x : Str) (j : Nat) (v : V) (u : Value) : Prop where
  at_ : mg x = some u ∨ (mg x = none ∧ bootBuiltins x = some u ∧ x ≠ "__name__")
  db : (x == ("__debug__" : Str)) = false
  rel : RelV v u
  uniq : ∀ w, RelV v w → w = u
  exm : ∀ k a, ca k = some a → PySem.W.exmOne K (.ref a) u = some (sub k j)
  kit : ∀ k a, ca k = some a → PySem.W.kitOne K (.ref a) u = some (sub k j)
theorem ClsN.names {X : Cx} {sub : Nat → Nat → Bool} {x : Str} {j : Nat} {v : V} {u : Value} (c : ClsN X.K X.mg ca sub x j v u) (hg : Gl X x) : Names X x u := ⟨hg, c.db, c.at_⟩
theorem ClsN.pe {X : Cx} {sub : Nat → Nat → Bool} {x : Str} {j : Nat} {v : V} {u : Value} {pos : Pos} (c : ClsN X.K X.mg ca sub x j v u) (hg : Gl X x) : PE X (.Name x pos) (tC v) := by
  rcases c.at_ with h | ⟨h1, h2, h3⟩
  · exact pe_glob hg h c.rel c.db
  · exact pe_bltn hg h1 h2 c.rel h3 c.db
/-- isinstance(e, x) .. : the list that the suite makes -/
inductive IsL (X : Cx) (ca : Nat → Option Addr) (sub : Nat → Nat → Bool) (n : Str) : List Expr → List Nat → Prop
  | nil : IsL X ca sub n [] []
  | cons {x : Str} {j : Nat} {v : V} {u : Value} {p1 p2 p3 p4 : Pos} {es : List Expr} {js : List Nat} : ClsN X.K X.mg ca sub x j v u → Gl X x → IsL X ca sub n es js → IsL X ca sub n (.Call (.Name "isinstance" p1) [.Name n p2, .Name x p3] [] p4 :: es) (j :: js)
theorem isL_pa {n : Str} {i : Nat} (hN : X.N[i]? = some n) (hv : Vis X.env.scope n) (hd : (n == ("__debug__" : Str)) = false) (hcd : (n == ("__classdict__" : Str)) = false) (hgi : Gl X "isinstance") (hmi : X.mg "isinstance" = none)
    {a D : Addr} {oe : Obj} {pn : List (Addr × Obj)} {k : Nat} {sub : Nat → Nat → Bool} (hk : ca k = some D) (EC : ExcC X.K D) (hz : Zc (.ref D) none oe) (hf : ∃ vs, oe.data = .fields vs) :
    ∀ {es : List Expr} {js : List Nat}, IsL X ca sub n es js → PA (X.suite a ((a, oe) :: pn)) es (fun σ H Q => σ[i]? = some (some (.ref a)) ∧ Q (js.map fun j => V.bl (sub k j)) H)
  | _, _, .nil => pa_nil.imp fun σ H Q h => h.2
  | _, _, .cons (v := v) (u := u) c hg t => by
    have ih := isL_pa hN hv hd hcd hgi hmi (a := a) (oe := oe) (pn := pn) hk EC hz hf t
    have hx : ∀ p3 : Pos, PE (X.suite a ((a, oe) :: pn)) (.Name _ p3) (tC v) := fun p3 => ClsN.pe (X := X.suite a ((a, oe) :: pn)) c hg
    refine (pa_cons (pe_callB (call_isE EC hz hf) hgi hmi (by decide +kernel) (pa_cons (pe_var hN hv hd hcd) (pa_cons (hx _) pa_nil))) ih).imp fun σ H Q h => ?_
    obtain ⟨h1, h2⟩ := h
    exact ⟨.ref a, h1, v, u, _, rfl, c.uniq, c.kit k D hk, h1, h2⟩
theorem denL_bls {K : PySem.W.Frag} {no : Addr → Prop} {H : Hp} (f : Nat → Bool) : ∀ js : List Nat, DenL K no H (js.map fun j => V.bl (f j)) (js.map fun j => PV.D.bl (f j))
  | [] => .nil
  | j :: js => .cons (.bl _) (denL_bls f js)
theorem s_tryi {x n tn : Str} {c t e : Nat} {cs : List Nat} {v : V} {u : Value} {ss : List S} {sts : List Stmt} {elts : List Expr} {np p1 p2 p3 p4 pos pos' : Pos} (hs : X.stack = X.env :: X.outer) (hf : X.env.frame = some X.env.locals) (hN : X.N.Nodup) (hi : X.N[e]? = some n) (hln : X.env.kindOf n = some .local)
    (hd : (n == ("__debug__" : Str)) = false) (hcd : (n == ("__classdict__" : Str)) = false)
    (ht : X.N[t]? = some tn) (htl : Loc X.env.scope tn) (htf : X.fn tn = true ∨ X.env.scope.names.lookup tn = some .local) (hte : t ≠ e) (hc : ClsN X.K X.mg ca C.sub x c v u) (hg : Gl X x) (tk : Takes X W) (hgi : Gl X "isinstance") (hmi : X.mg "isinstance" = none)
    (EC : ∀ k a, ca k = some a → ExcC X.K a) (hl : IsL X ca C.sub n elts cs) (hcl : cs.length ≤ sizeLine)
    (hb : ∀ (W : WX) (pn : List (Addr × Obj)) (xe : Value → Shared → Prop), Takes (X.tr pn xe) W → PassesOwn (model X.prog X.w) X.A X.env xe → PSs (X.tr pn xe) sts (tSts X.K ca W C ss)) :
    PS X (.Try sts [.ExceptHandler (some (.Name x np)) (some n) [.Assign [.Name tn p1] (.List elts p2) p3] pos'] [] [] pos) (tSt X.K ca W C (.tryi ss c t e cs)) := by
  have hvis : Vis X.env.scope n := .inl hln
  have suite : ∀ (a : Addr) (oe : Obj) (cls : Value) (d : Option Addr) (pn : List (Addr × Obj)), Zc cls d oe → (∃ vs, oe.data = .fields vs) → PSs (X.suite a ((a, oe) :: pn)) [.Assign [.Name tn p1] (.List elts p2) p3]
      (fun D σ H => ∃ k Da, ca k = some Da ∧ cls = .ref Da ∧ d = none ∧ σ[e]? = some (some (.ref a)) ∧ ∀ p, H p = none → D.nx (σ.set t (some (.ref p))) (upd H p (.lst (cs.map fun j => V.bl (C.sub k j))))) := by
    intro a oe cls d pn hz hfl
    by_cases hk : ∃ k Da, ca k = some Da ∧ cls = .ref Da ∧ d = none
    · obtain ⟨k, Da, h1, h2, h3⟩ := hk
      subst h2 h3
      have pa := isL_pa (X := X) hi hvis hd hcd hgi hmi (a := a) (oe := oe) (pn := pn) h1 (EC k Da h1) hz hfl hl
      refine (pss_one (ps_set (X := X.suite a ((a, oe) :: pn)) (i := t) hN ht htl (pe_lst pa) (by rfl) htf)).imp fun D σ H h => ?_
      obtain ⟨k', Da', g1, g2, _, g4, g5⟩ := h
      refine ⟨g4, by rw [List.length_map]; exact hcl, fun p hp => ?_⟩
      have e1 : Da' = Da := by cases g2; rfl
      subst e1
      have e2 : (cs.map fun j => V.bl (C.sub k' j)) = cs.map fun j => V.bl (C.sub k j) := by
        have all : ∀ {es : List Expr} {js : List Nat}, IsL X ca C.sub n es js → (js.map fun j => V.bl (C.sub k' j)) = js.map fun j => V.bl (C.sub k j) := by
          intro es js h
          induction h with
          | nil => rfl
          | cons c hg t ih =>
            have z := (c.kit k' _ g1).symm.trans (c.kit k _ h1)
            rw [List.map_cons, List.map_cons, ih, Option.some.inj z]
        exact all hl
      have g6 := g5 p hp
      rw [e2] at g6
      exact g6
    · refine pss_never.imp fun D σ H h => ?_
      obtain ⟨k, Da, h1, h2, h3, _⟩ := h
      exact hk ⟨k, Da, h1, h2, h3⟩
  refine (ps_try_as hs hf hN hi hln (hc.names hg) tk (tb := fun W => tSts X.K ca W C ss) hb suite).imp fun D σ H h => ?_
  obtain ⟨F, r, g, S, R, G, h⟩ := h
  simp only [evS] at h
  refine ⟨F, r, g, S, R, G, ?_⟩
  cases q : evSs C ss g S with
  | stuck => rw [q] at h; exact h.elim
  | ok f g1 S1 => rw [q] at h; exact h
  | exc y g1 S1 =>
    rw [q] at h
    simp only [tryK] at h
    intro cls d σ1 r1 H1 e1 R1 G1 ex
    obtain ⟨Da, h1, h2, h3⟩ := ex
    subst h2 h3
    refine ⟨C.sub y.cls c, hc.exm _ _ h1, fun hb a ha => ?_, fun hb => ?_⟩
    · rw [if_pos hb] at h
      split at h
      · rename_i hlt
        have he : e < σ1.length := by rw [← G1.len]; exact hlt.2.1
        refine ⟨y.cls, Da, h1, rfl, rfl, List.getElem?_set_self he, fun p hp => ?_⟩
        have e2 : Ext r1 r1 H1 (upd H1 p (.lst (cs.map fun j => V.bl (C.sub y.cls j)))) := ext_new hp
        have dl := denL_bls (K := X.K) (no := fun a => F a ∨ a ∈ r1) (H := upd H1 p (.lst (cs.map fun j => V.bl (C.sub y.cls j)))) (C.sub y.cls) cs
        have G2 := ((G1.ext e2 R1.frn).unset e (some (.ref a))).set (v := .ref p) (u := .d (.lst (cs.map fun j => .bl (C.sub y.cls j)))) (Den.lst ⟨upd_same, R1.newNo hp⟩ dl) t
        have G3 := G2.unset e none
        have eg : ((g1.set e none).set t (some (U.d (.lst (cs.map fun j => .bl (C.sub y.cls j)))))).set e none = (g1.set t (some (U.d (.lst (cs.map fun j => .bl (C.sub y.cls j)))))).set e none := by
          rw [List.set_comm _ _ (Ne.symm hte), List.set_set]
        rw [eg] at G3
        exact h _ r1 _ (e1.trans e2) (R1.new hp) G3
      · exact h.elim
    · rw [if_neg (by rw [hb]; exact Bool.false_ne_true)] at h
      exact h (.ref Da) none σ1 r1 H1 e1 R1 G1 ⟨Da, h1, rfl, rfl⟩
end
end PV
/-! PV8: a tuple or a list read backwards. -/
namespace PV
open PySem PySem.Spec PyProof.Rows L2 HT
section
variable {prog : Program} {w : World} {A : Around} {E : Value → Shared → Prop} {s : Shared}
theorem rev_take (xs : Array Value) : ∀ k : Nat, k ≤ xs.size → (List.range k).filterMap (fun (m : Nat) => xs[(((xs.size : Int) - 1) + (m : Int) * (-1)).toNat]?) = xs.toList.reverse.take k
  | 0, _ => by simp
  | k + 1, h => by
    rw [List.range_succ, List.filterMap_append, rev_take xs k (by omega), List.take_add_one]
    congr 1
    have e : (((xs.size : Int) - 1) + (k : Int) * (-1)).toNat = xs.size - 1 - k := by omega
    have e2 : xs.toList.reverse[k]? = xs.toList[xs.size - 1 - k]? := by
      rw [List.getElem?_reverse (by rw [Array.length_toList]; omega), Array.length_toList]
    rw [e2]
    simp only [List.filterMap_cons, List.filterMap_nil, e, Array.getElem?_toList]
    cases xs[xs.size - 1 - k]? <;> rfl
theorem sliceApplied_rev {sl : Addr} {vl vu vs : Value} {n : Nat} {Q : Int × Int × Nat → Shared → Prop} (hs : s.heap.IsSliceOf sl vl vu vs) (pl : IsPart vl none) (pu : IsPart vu none) (ps : IsPart vs (some (-1)))
    (h : Q ((n : Int) - 1, -1, n) s) : wpAny (model prog w) A (Builtin.Slice.sliceApplied (.ref sl) (pure (n : Int))) Q E s := by
  obtain ⟨os, hos, hcs, hds⟩ := id hs
  unfold Builtin.Slice.sliceApplied Builtin.Slice.sliceFields
  refine wpAny_bind (wpAny_bind (wpAny_field hos hds (x := vl) rfl (wpAny_bind (wpAny_field hos hds (x := vu) rfl (wpAny_bind (wpAny_field hos hds (x := vs) rfl (wpAny_pure ?_)))))))
  refine wpAny_bind (slicePart_ ps ?_)
  show wpAny _ _ (if ((-1 : Int) == 0) = true then _ else _) _ _ s
  rw [if_neg (by decide)]
  refine wpAny_bind (slicePart_ pl (wpAny_bind (slicePart_ pu (wpAny_bind (wpAny_pure ?_)))))
  have e : Builtin.Slice.sliceAdjust none none (-1) (n : Int) = ((n : Int) - 1, -1) := by
    unfold Builtin.Slice.sliceAdjust
    simp
  have e2 : Builtin.Slice.slicePlaces ((n : Int) - 1) (-1) (-1) = n := by
    unfold Builtin.Slice.slicePlaces
    have h1 : ¬ ((-1 : Int) > 0) := by omega
    simp only [h1, if_false]
    by_cases hn : n = 0
    · subst hn; simp
    · rw [if_pos (by omega)]
      have : ((n : Int) - 1 - -1 - 1) / (- -1) + 1 = n := by
        have e3 : (- -1 : Int) = 1 := by decide
        rw [e3, Int.ediv_one]; omega
      rw [this]
      exact Int.toNat_natCast n
  show wpAny _ _ (match Builtin.Slice.sliceAdjust none none (-1) (n : Int) with | (lo, hi) => pure (lo, (-1 : Int), Builtin.Slice.slicePlaces lo hi (-1))) _ _ s
  rw [e]
  show wpAny _ _ (pure ((n : Int) - 1, (-1 : Int), Builtin.Slice.slicePlaces ((n : Int) - 1) (-1) (-1))) _ _ s
  rw [e2]
  exact wpAny_pure h
theorem getItem_tuple_rev {t sl : Addr} {items : Array Value} {vl vu vs : Value} {Q : Value → Shared → Prop} (ht : IsTup s.heap t items) (hs : s.heap.IsSliceOf sl vl vu vs) (pl : IsPart vl none) (pu : IsPart vu none) (ps : IsPart vs (some (-1)))
    (h : Q (.ref s.heap.objs.size) { s with heap := s.heap.push { cls := .type "tuple", data := .seq items.toList.reverse.toArray } })
    (hsz : items.size ≤ sizeLine) : wpAny (model prog w) A (getItem (.ref t) (.ref sl)) Q E s := by
  have htake : sizeOk (.seq items.toList.reverse.toArray) := by
    show items.toList.reverse.toArray.size ≤ sizeLine
    rw [List.size_toArray, List.length_reverse, Array.length_toList]
    exact hsz
  obtain ⟨os, hos, hcs, hds⟩ := id hs
  have hTs : s.TypeIs (.ref sl) "slice" := ⟨os, hos, hcs⟩
  unfold getItem
  try with_reducible refine wpAny_holding ?_
  first | refine wpAny_bind (wpAny_pure ?_) | skip
  refine wpAny_bind (wpAny_sequenceKey ht.typeIs (by decide) ?_)
  refine wpAny_bind (wpAny_callSpecial?_slot (name := Str.ofString "__getitem__") ht.typeIs PyProof.Rows.slot_tuple_getitem
    (wpAny_call_entry PyProof.Rows.slot_tuple_getitem ht.typeIs entry_tuple_getitem ?_ (args_tuple_getitem _ _)))
  show wpAny _ _ (Builtin.Tuple.tupleItemsOf (.ref t) >>= _) _ _ s
  refine wpAny_bind (tupleItemsOf_ ht ?_)
  refine wpAny_bind (wpAny_typeOf hTs ?_)
  rw [if_pos (by decide)]
  refine wpAny_bind (sliceApplied_rev hs pl pu ps ?_)
  have hno : ¬ ((((items.size : Int) - 1) == 0 && (-1 : Int) == 1 && items.size == items.size) = true) := by
    intro q
    rw [Bool.and_eq_true, Bool.and_eq_true] at q
    exact absurd q.1.2 (by decide)
  show wpAny _ _ (if (((items.size : Int) - 1) == 0 && (-1 : Int) == 1 && items.size == items.size) = true then _ else _) _ _ s
  rw [if_neg hno, rev_take items items.size (Nat.le_refl _), List.take_of_length_le (by simp)]
  first
    | exact wpAny_bind (m := Builtin.Tuple.tupleExact _) (wpAny_newObj_type (wpAny_pure ⟨_, rfl, wpAny_pure h⟩) htake)
    | exact wpAny_bind (m := Builtin.Tuple.tupleExact _) (wpAny_newObj_type (wpAny_bind (wpAny_pure (wpAny_pure ⟨_, rfl, wpAny_pure h⟩))) htake)
    | exact wpAny_bind (wpAny_bind (m := Builtin.Tuple.tupleExact _) (wpAny_newObj_type (wpAny_pure (wpAny_pure ⟨_, rfl, wpAny_pure h⟩)) htake))
    | exact wpAny_bind (wpAny_bind (m := Builtin.Tuple.tupleExact _) (wpAny_newObj_type (wpAny_pure ⟨_, rfl, wpAny_pure h⟩) htake))
end
/-- x[::-1], x a list or a tuple -/
theorem pe_rev {X : Cx} {e : Expr} {te : TE} {k : Nat} {p1 p2 p3 pos : Pos} (he : PE X e te) : PE X (.Subscript e (.Slice none none (some (.UnaryOp .USub (.Constant (.int 1) k p1) p2)) p3) pos) (fun σ H Q => te σ H fun x H1 => ∃ b xs, x = .ref b ∧
    ((SqL X.K H1 b xs ∧ ∀ p, H1 p = none → Q (.ref p) (upd H1 p (.lst xs.reverse))) ∨ (SqT X.K H1 b xs ∧ ∀ p, H1 p = none → Q (.ref p) (upd H1 p (.tup xs.reverse))))) := by
  refine ⟨fun pins s σ H Q I h => ?_⟩
  refine Subscript_ (thn (he.run pins s σ H _ I h) fun v s1 ⟨x, H1, I1, r1, q1⟩ => ?_)
  obtain ⟨a, xs, ex, q⟩ := q1
  subst ex
  cases r1
  have hst : PO X (some (.UnaryOp .USub (.Constant (.int 1) k p1) p2)) (tPart (tUn (rU fun i => .int (-i)) (tC (.int 1)))) := po_some (pe_un un_neg pe_int)
  refine wpAny_Slice (thn (po_none.run pins s1 σ H1 (fun o H2 => o = none ∧ H2 = H1) I1 ⟨rfl, rfl⟩) fun vl s2 ⟨l, H2, I2, pl, el, e2⟩ => ?_)
  subst el e2
  refine thn (po_none.run pins s2 σ H2 (fun o H3 => o = none ∧ H3 = H2) I2 ⟨rfl, rfl⟩) fun vu s3 ⟨u, H3, I3, pu, eu, e3⟩ => ?_
  subst eu e3
  refine thn (hst.run pins s3 σ H3 (fun o H4 => o = some (-1) ∧ H4 = H3) I3 ⟨1, rfl, -1, rfl, rfl, rfl⟩) fun vs s4 ⟨o, H4, I4, ps, eo, e4⟩ => ?_
  subst eo e4
  have I5 : Inv X pins σ H4 { s4 with heap := s4.heap.push { cls := .type "slice", data := .fields #[vl, vu, vs] } } := I4.kept (t' := s4.toks) fun b ob q => Heap.get?_push_of_some _ q
  rcases q with ⟨hx, q⟩ | ⟨hx, q⟩
  · obtain ⟨its, r, ht, hz⟩ := I5.list hx
    have hlen := r.length
    show wpAny (model X.prog X.w) X.A (subscriptTail e (.Slice none none (some (.UnaryOp .USub (.Constant (.int 1) k p1) p2)) p3) (.ref a) (.ref s4.heap.objs.size)) (EP X pins σ Q) X.xe { s4 with heap := s4.heap.push { cls := .type "slice", data := .fields #[vl, vu, vs] } }
    refine tail_any (ops := [.ref a, .ref s4.heap.objs.size]) ht.isList.typeIs (PySem.slot_list_getitem.lookup) ?_ (by with_unfolding_all rfl)
    refine wpAny_getItem_list_slice ht.isList (Heap.IsSliceOf.new _ vl vu vs) pl pu ps (by decide) ?_ (by rw [List.size_toArray]; omega)
    rw [PySem.W.krv_pick]
    refine ⟨.ref _, _, I5.laid (t' := s4.toks) (o := .lst xs.reverse) (fun b ob q => Heap.get?_push_of_some _ q) (Nat.le_refl _) ?_, rfl, q _ (I5.hok.fresh (Nat.le_refl _))⟩
    exact ⟨by rw [List.length_reverse]; exact hz, its.reverse, 0, r.reverse, Heap.get?_push_size _ rfl⟩
  · obtain ⟨its, r, ht, hz⟩ := I5.tuple hx
    have hlen := r.length
    show wpAny (model X.prog X.w) X.A (subscriptTail e (.Slice none none (some (.UnaryOp .USub (.Constant (.int 1) k p1) p2)) p3) (.ref a) (.ref s4.heap.objs.size)) (EP X pins σ Q) X.xe { s4 with heap := s4.heap.push { cls := .type "slice", data := .fields #[vl, vu, vs] } }
    refine tail_any (ops := [.ref a, .ref s4.heap.objs.size]) ht.typeIs PyProof.Rows.slot_tuple_getitem.lookup ?_ (by with_unfolding_all rfl)
    refine getItem_tuple_rev ht (Heap.IsSliceOf.new _ vl vu vs) pl pu ps ?_ (by rw [List.size_toArray]; omega)
    refine ⟨.ref _, _, I5.laid (t' := s4.toks) (o := .tup xs.reverse) (fun b ob q => Heap.get?_push_of_some _ q) (Nat.le_refl _) ?_, rfl, q _ (I5.hok.fresh (Nat.le_refl _))⟩
    exact ⟨by rw [List.length_reverse]; exact hz, its.reverse, r.reverse, _, Heap.get?_push_size _ rfl, rfl, 0, rfl⟩
theorem e_rev {X : Cx} {ca : Nat → Option Addr} {W : WX} {C : Ctx} {a : E} {a' : Expr} (m : Bool) {k : Nat} {p1 p2 p3 pos : Pos} (ha : PE X a' (tE X.K ca W C a)) : PE X (.Subscript a' (.Slice none none (some (.UnaryOp .USub (.Constant (.int 1) k p1) p2)) p3) pos) (tE X.K ca W C (.rev m a)) := e_revL m ha (pe_rev ha)
end PV
/-! PV9: the checker of expressions, and what it is worth. -/
namespace PV
open PySem PySem.Spec PyProof.Rows L2

structure Cfg where
  P : Prog
  fnm : List Str
  cnm : List Str
  gnm : List Str
  bl : List Str
  gcd : Bool
  rz : List Nat
structure Ck where
  N : List Str
  sc : Scope
  fn : Str → Bool
def okX : Expr → Bool
  | .Starred _ _ => false
  | .Set _ _ _ => false
  | .Slice _ _ _ _ => false
  | .SetComp _ _ _ _ => false
  | .DictComp _ _ _ _ _ => false
  | .GeneratorExp _ _ _ _ => false
  | _ => true
def okN (x : Str) : Bool := !(x == ("__debug__" : Str)) && !(x == ("__classdict__" : Str))
def visB (sc : Scope) (x : Str) : Bool := decide (sc.names.lookup x = some .local) || decide (sc.names.lookup x = some .cell) || decide (sc.names.lookup x = some .free)
def locB (sc : Scope) (x : Str) : Bool := decide (sc.names.lookup x = some .local) || decide (sc.names.lookup x = some .cell)
def glB (sc : Scope) (x : Str) : Bool := decide (sc.names.lookup x = some .globalImplicit)
def blB (cf : Cfg) (x : Str) : Bool := cf.bl.contains x
def atB (l : List Str) (i : Nat) (x : Str) : Bool := decide (l[i]? = some x)
def conB : PV.D → Const → Bool
  | .non, .none => true
  | .bl a, .bool b => decide (a = b)
  | .int a, .int b => decide (a = b)
  | .str a, .str b => decide (a = b)
  | _, _ => false
def bfS : Bf → Str
  | .len => "len" | .abs => "abs" | .int => "int" | .tuple => "tuple" | .list => "list" | .all => "all" | .any => "any" | .gcd => "gcd" | .sum => "sum" | .min2 => "min" | .max2 => "max"
def isGcd : Bf → Bool
  | .gcd => true
  | _ => false
def tyN (t : Ty) : Str := Str.ofString (tyS t)
mutual
def chkT (ck : Ck) : Tn → Expr → Bool
  | .nm i, x => match x with
    | .Name y _ => atB ck.N i y && locB ck.sc y && (ck.fn y || decide (ck.sc.names.lookup y = some .local))
    | _ => false
  | .tup ts, x => match x with
    | .Tuple es _ _ => chkTs ck ts es
    | _ => false
def chkTs (ck : Ck) : List Tn → List Expr → Bool
  | [], es => match es with
    | [] => true
    | _ :: _ => false
  | t :: ts, es => match es with
    | [] => false
    | e :: es => okX e && chkT ck t e && chkTs ck ts es
end
def ownOf (N : List Str) (own : List Nat) : List (Str × Nat) := own.map fun i => (N.getD i Str.empty, i)
def ckB (ck : Ck) (scope : Scope) : Ck := ⟨ck.N, relS scope ck.sc, fun x => decide (scope.names.lookup x = some .cell)⟩
mutual
def chkE (cf : Cfg) (ck : Ck) : E → Expr → Bool
  | .slot i, x => match x with
    | .Name y _ => atB ck.N i y && visB ck.sc y && okN y
    | _ => false
  | .con d, x => match x with
    | .Constant c _ _ => conB d c
    | _ => false
  | .gl i, x => match x with
    | .Name y _ => atB cf.gnm i y && glB ck.sc y && okN y && decide (i < cf.P.gls.length)
    | _ => false
  | .bin _ op a b, x => match x with
    | .BinOp a' op' b' _ => decide (op' = opOf op) && chkE cf ck a a' && chkE cf ck b b'
    | _ => false
  | .cmp op a b, x => match x with
    | .Compare a' [op'] [b'] _ => decide (op' = copOf op) && okX b' && chkE cf ck a a' && chkE cf ck b b'
    | _ => false
  | .chain o1 o2 a b c, x => match x with
    | .Compare a' [p1, p2] [b', c'] _ => decide (p1 = copOf o1) && decide (p2 = copOf o2) && okX c' && chkE cf ck a a' && chkE cf ck b b' && chkE cf ck c c'
    | _ => false
  | .neg a, x => match x with
    | .UnaryOp .USub a' _ => chkE cf ck a a'
    | _ => false
  | .not a, x => match x with
    | .UnaryOp .Not a' _ => chkE cf ck a a'
    | _ => false
  | .and l, x => match x with
    | .BoolOp .And l' _ => chkB cf ck l l'
    | _ => false
  | .or l, x => match x with
    | .BoolOp .Or l' _ => chkB cf ck l l'
    | _ => false
  | .ite c a b, x => match x with
    | .IfExp c' a' b' _ => chkE cf ck c c' && chkE cf ck a a' && chkE cf ck b b'
    | _ => false
  | .idx a i, x => match x with
    | .Subscript a' i' _ => okX i' && chkE cf ck a a' && chkE cf ck i i'
    | _ => false
  | .slc _ a lo hi, x => match x with
    | .Subscript a' (.Slice lo' hi' none _) _ => chkE cf ck a a' && chkO cf ck lo lo' && chkO cf ck hi hi'
    | _ => false
  | .rev _ a, x => match x with
    | .Subscript a' (.Slice none none (some (.UnaryOp .USub (.Constant (.int 1) _ _) _)) _) _ => chkE cf ck a a'
    | _ => false
  | .tup l, x => match x with
    | .Tuple l' _ _ => chkEs cf ck l l'
    | _ => false
  | .lst _ l, x => match x with
    | .List l' _ => chkEs cf ck l l'
    | _ => false
  | .blt _ f args, x => match x with
    | .Call (.Name y _) (e0 :: es) [] _ => decide (y = bfS f) && glB ck.sc y && (if isGcd f then cf.gcd else blB cf y) && chkEs cf ck args (e0 :: es)
    | _ => false
  | .isi a t, x => match x with
    | .Call (.Name y _) [a', .Name z _] [] _ => decide (y = ("isinstance" : Str)) && decide (z = tyN t) && glB ck.sc y && glB ck.sc z && blB cf y && blB cf z && okX a' && chkE cf ck a a'
    | _ => false
  | .call _ f args, x => match x with
    | .Call (.Name y _) (e0 :: es) [] _ => atB cf.fnm f y && glB ck.sc y && okN y && chkEs cf ck args (e0 :: es)
    | _ => false
  | .lc _ own t k args cnd elt, x => match x with
    | .ListComp elt' [⟨tg, it, ifs, 0⟩] scope _ => blkC ck.N ck.sc scope (ownOf ck.N own) && ((slotsT t).all fun i => own.contains i) && okX it && chkI cf ck k args it tg && chkT (ckB ck scope) t tg && chkC cf (ckB ck scope) cnd ifs && chkE cf (ckB ck scope) elt elt'
    | _ => false
def chkEs (cf : Cfg) (ck : Ck) : List E → List Expr → Bool
  | [], l' => match l' with
    | [] => true
    | _ :: _ => false
  | e :: l, l' => match l' with
    | [] => false
    | x :: r => okX x && chkE cf ck e x && chkEs cf ck l r
def chkB (cf : Cfg) (ck : Ck) : List E → List Expr → Bool
  | [], _ => false
  | e :: l, l' => match l' with
    | [] => false
    | x :: r => chkE cf ck e x && (match l with
      | [] => r.isEmpty
      | _ :: _ => !r.isEmpty && chkB cf ck l r)
def chkO (cf : Cfg) (ck : Ck) : Option E → Option Expr → Bool
  | none, x => match x with
    | none => true
    | some _ => false
  | some e, x => match x with
    | none => false
    | some x => chkE cf ck e x
def chkC (cf : Cfg) (ck : Ck) : List E → List Expr → Bool
  | [], l' => match l' with
    | [] => true
    | _ :: _ => false
  | e :: l, l' => match l' with
    | [x] => l.isEmpty && chkE cf ck e x
    | _ => false
def chkI (cf : Cfg) (ck : Ck) (k : Ik) : List E → Expr → Expr → Bool
  | [], _, _ => false
  | a :: l, x, tg => match k with
    | .seq => l.isEmpty && chkE cf ck a x
    | .rng1 => match x with
      | .Call (.Name y _) [a'] [] _ => l.isEmpty && decide (y = ("range" : Str)) && glB ck.sc y && blB cf y && okX a' && chkE cf ck a a'
      | _ => false
    | .rng2 => match x with
      | .Call (.Name y _) [a', b'] [] _ => decide (y = ("range" : Str)) && glB ck.sc y && blB cf y && okX a' && okX b' && chkE cf ck a a' && chkEs cf ck l [b']
      | _ => false
    | .enum => match x, tg with
      | .Call (.Name y _) [a'] [] _, .Tuple _ _ _ => l.isEmpty && decide (y = ("enumerate" : Str)) && glB ck.sc y && blB cf y && okX a' && chkE cf ck a a'
      | _, _ => false
    | .zip => match x, tg with
      | .Call (.Name y _) [a', b'] [] _, .Tuple _ _ _ => decide (y = ("zip" : Str)) && glB ck.sc y && blB cf y && okX a' && okX b' && chkE cf ck a a' && chkEs cf ck l [b']
      | _, _ => false
end

/-! ### what the state must bear -/
structure Tab (cf : Cfg) (ca : Nat → Option Addr) (P : Program) (w : World) (K : PySem.W.Frag) (mg : Str → Option Value) (base : Heap) (k : Nat) : Prop where
  bl : ∀ x, cf.bl.contains x = true → mg x = none
  gcd : cf.gcd = true → mg "gcd" = some (.builtin "math.gcd")
  fn : ∀ (f : Nat) (x : Str), cf.fnm[f]? = some x → ∃ fa fd ps, FnOk P w K mg base (L2.CX P w) k fa fd ps (spF K ca (ctx cf.P k) f) ∧ mg x = some (.ref fa) ∧ PySem.W.keepIn K (.ref fa) = true ∧ Binds K fd ps []
  gl : ∀ (i : Nat) (x : Str) (d : PV.D), cf.gnm[i]? = some x → cf.P.gls[i]? = some d → ∃ v u, mg x = some u ∧ RelV v u ∧ ∀ no H, Den K no H v d
structure GoodE (cf : Cfg) (ca : Nat → Option Addr) (k : Nat) (X : Cx) (ck : Ck) (W : WX) : Prop where
  N : X.N = ck.N
  nd : ck.N.Nodup
  sc : X.env.scope = ck.sc
  kind : ck.sc.kind = .function
  calm : X.calm = true
  fn : ∀ x, ck.fn x = true → X.fn x = true
  room : Room k X.A
  takes : Takes X W
  tab : Tab cf ca X.prog X.w X.K X.mg X.base k

section
variable {env : Env}
theorem star_cons {x : Expr} {l : List Expr} (h : okX x = true) : starEach (x :: l) env = (false, eval x env) :: starEach l env := by
  cases x <;> first
    | rfl
    | simp [okX] at h
theorem asg_cons {x : Expr} {l : List Expr} (h : okX x = true) : assignEach (x :: l) env = (false, assign x env) :: assignEach l env := by
  cases x <;> first
    | rfl
    | simp [okX] at h
theorem fold_ok {x : Expr} (h : okX x = true) : ∀ v, foldedSetIterable x env v = pure v := by
  intro v
  cases x <;> first
    | rfl
    | simp [okX] at h
theorem plain_ok {x : Expr} (h : okX x = true) : PlainIx x := by
  cases x <;> first
    | exact fun _ _ => rfl
    | simp [okX] at h
theorem mark_ok {op : CmpOp} {x : Expr} (h : okX x = true) : behindInMarks op x = false := by
  cases x <;> first
    | rfl
    | simp [okX] at h
theorem mark2_ok {o1 o2 : CmpOp} {b x : Expr} (h : okX x = true) : lastMarks [o1, o2] [b, x] = false := by
  show lastMarks [o2] [x] = false
  exact mark_ok h
end
theorem visB_ok {sc : Scope} {x : Str} (h : visB sc x = true) : Vis sc x := by
  unfold visB at h
  simp only [Bool.or_eq_true, decide_eq_true_eq] at h
  rcases h with (h | h) | h
  · exact .inl h
  · exact .inr (.inl h)
  · exact .inr (.inr h)
theorem locB_ok {sc : Scope} {x : Str} (h : locB sc x = true) : Loc sc x := by
  unfold locB at h
  simp only [Bool.or_eq_true, decide_eq_true_eq] at h
  exact h
theorem okN_ok {x : Str} (h : okN x = true) : (x == ("__debug__" : Str)) = false ∧ (x == ("__classdict__" : Str)) = false := by
  unfold okN at h
  simp only [Bool.and_eq_true, Bool.not_eq_true'] at h
  exact h
section
variable {cf : Cfg} {ca : Nat → Option Addr} {k : Nat} {X : Cx} {ck : Ck} {W : WX}
theorem GoodE.gl (g : GoodE cf ca k X ck W) {x : Str} (h : glB ck.sc x = true) : Gl X x := by
  show X.env.scope.names.lookup x = some .globalImplicit
  rw [g.sc]
  exact of_decide_eq_true h
theorem GoodE.vis (g : GoodE cf ca k X ck W) {x : Str} (h : visB ck.sc x = true) : Vis X.env.scope x := by rw [g.sc]; exact visB_ok h
theorem GoodE.loc (g : GoodE cf ca k X ck W) {x : Str} (h : locB ck.sc x = true) : Loc X.env.scope x := by rw [g.sc]; exact locB_ok h
theorem GoodE.at (g : GoodE cf ca k X ck W) {i : Nat} {x : Str} (h : atB ck.N i x = true) : X.N[i]? = some x := by rw [g.N]; exact of_decide_eq_true h
theorem GoodE.ndX (g : GoodE cf ca k X ck W) : X.N.Nodup := by rw [g.N]; exact g.nd
theorem GoodE.un (g : GoodE cf ca k X ck W) : X.A.units + 65 < cLine := by have := g.room.un; omega
theorem GoodE.bl (g : GoodE cf ca k X ck W) {x : Str} (h : blB cf x = true) : X.mg x = none := g.tab.bl x h
theorem GoodE.blk (g : GoodE cf ca k X ck W) {scope : Scope} (hk : scope.kind = .function) (s : Shared) (H : Hp) (D : Addr) (cl : List (Str × Addr)) (fp : List Addr) : GoodE cf ca k (X.blk s H scope (compEnvC scope cl D X.env) fp) (ckB ck scope) WN where
  N := g.N
  nd := g.nd
  sc := by
    show relS scope X.env.scope = relS scope ck.sc
    rw [g.sc]
  kind := hk
  calm := g.calm
  fn := fun x h => by
    have h : scope.names.lookup x = some .cell := of_decide_eq_true h
    show (scope.names.lookup x == some .cell) = true
    rw [h]; rfl
  room := g.room
  takes := LamX.takes0
  tab := g.tab
end

/-! ### targets of names -/
section
variable {cf : Cfg} {ca : Nat → Option Addr} {k : Nat}
theorem asgs_ok {env : Env} {ck : Ck} : ∀ {ts : List Tn} {es : List Expr}, chkTs ck ts es = true → es.length = ts.length ∧ (assignEach es env).length = es.length ∧ (assignEach es env).findIdx? (·.1) = none
  | [], [], _ => ⟨rfl, rfl, rfl⟩
  | [], _ :: _, h => by simp [chkTs] at h
  | _ :: _, [], h => by simp [chkTs] at h
  | t :: ts, e :: es, h => by
    simp only [chkTs, Bool.and_eq_true] at h
    obtain ⟨h1, h2, h3⟩ := asgs_ok (env := env) h.2
    refine ⟨by simp [h1], ?_, ?_⟩
    · rw [asg_cons h.1.1]; simp [h2]
    · rw [asg_cons h.1.1, List.findIdx?_cons]
      simp [h3]
mutual
theorem sTn (ck : Ck) : ∀ (t : Tn) (x : Expr), chkT ck t x = true → ∀ (X : Cx) (W : WX), GoodE cf ca k X ck W → PG X x (gT X.K t)
  | .nm i, x, h, X, W, g => by
    cases x with
    | Name y p =>
      simp only [chkT, Bool.and_eq_true, Bool.or_eq_true, decide_eq_true_eq] at h
      refine g_nm g.ndX (g.at h.1.1) (g.loc h.1.2) (h.2.imp (g.fn y) fun z => by rw [g.sc]; exact z)
    | _ => simp [chkT] at h
  | .tup ts, x, h, X, W, g => by
    cases x with
    | Tuple es kk p =>
      simp only [chkT] at h
      obtain ⟨h1, h2, h3⟩ := asgs_ok (env := X.env) h
      exact g_tup g.calm (sTns ck ts es h X W g) h1 h2 h3
    | _ => simp [chkT] at h
theorem sTns (ck : Ck) : ∀ (t : List Tn) (x : List Expr), chkTs ck t x = true → ∀ (X : Cx) (W : WX), GoodE cf ca k X ck W → PGs X x (gTs X.K t)
  | [], [], _, X, W, g => gs_nil
  | [], _ :: _, h, X, W, g => by simp [chkTs] at h
  | _ :: _, [], h, X, W, g => by simp [chkTs] at h
  | t :: ts, e :: es, h, X, W, g => by
    simp only [chkTs, Bool.and_eq_true] at h
    exact gs_cons (sTn ck t e h.1.2 X W g) (sTns ck ts es h.2 X W g) (by rw [asg_cons h.1.1]; rfl)
end
end

theorem plain_any {env : Env} {cf : Cfg} {ck : Ck} {pos : Pos} : ∀ {l : List E} {es : List Expr}, chkEs cf ck l es = true → (backTo pos (starEach es env)).any (·.1) = false
  | [], [], _ => rfl
  | [], _ :: _, h => by simp [chkEs] at h
  | _ :: _, [], h => by simp [chkEs] at h
  | e :: l, x :: r, h => by
    simp only [chkEs, Bool.and_eq_true] at h
    have ih := plain_any (env := env) (pos := pos) h.2
    rw [star_cons h.1.1]
    show (false || (backTo pos (starEach r env)).any (·.1)) = false
    rw [ih]; rfl
theorem bf_boot (f : Bf) : isGcd f = false → (∃ id, bfV f = .builtin id) ∨ ∃ T, bfV f = .type T := by
  cases f <;> intro h <;> first
    | exact .inl ⟨_, rfl⟩
    | exact .inr ⟨_, rfl⟩
theorem bf_val (f : Bf) : isGcd f = false → bootBuiltins (bfS f) = some (bfV f) := by
  cases f <;> intro h <;> first
    | (exact absurd h (by decide))
    | decide +kernel
theorem bf_name (f : Bf) : bfS f ≠ "__name__" ∧ (bfS f == ("__debug__" : Str)) = false := by
  cases f <;> decide +kernel
theorem ty_boot (t : Ty) : bootBuiltins (tyN t) = some (.type (tyS t)) := by cases t <;> decide +kernel
theorem ty_name (t : Ty) : tyN t ≠ "__name__" ∧ (tyN t == ("__debug__" : Str)) = false := by cases t <;> decide +kernel
/-- a call of a built-in -/
theorem e_blt {X : Cx} {ca : Nat → Option Addr} {W : WX} {C : Ctx} {l : List E} {cf : Cfg} (m : Bool) (f : Bf) {p pos : Pos} {e0 : Expr} {es : List Expr} (hc : X.calm = true) (hg : Gl X (bfS f)) (hm : isGcd f = false → X.mg (bfS f) = none) (hgc : isGcd f = true → X.mg "gcd" = some (.builtin "math.gcd"))
    (ha : PA X (e0 :: es) (tEs X.K ca W C l)) (he : starEach (e0 :: es) X.env = (false, eval e0 X.env) :: starEach es X.env) (hpl : (backTo pos (starEach es X.env)).any (·.1) = false) : PE X (.Call (.Name (bfS f) p) (e0 :: es) [] pos) (tE X.K ca W C (.blt m f l)) := by
  obtain ⟨n1, n2⟩ := bf_name f
  have hf := call_F (X := X) (ca := ca) (W := W) hc m f
  cases hgf : isGcd f with
  | true =>
    have ef : f = .gcd := by cases f <;> first | rfl | cases hgf
    subst ef
    exact (pe_callBfun hf hg (hgc rfl) ha n2 he hpl).imp fun _ _ _ h => b_args h
  | false =>
    have hv := bf_val f hgf
    rcases bf_boot f hgf with ⟨id, e⟩ | ⟨T, e⟩
    · rw [e] at hf hv
      exact (pe_callB hf hg (hm hgf) hv ha n1 n2 he hpl).imp fun _ _ _ h => b_args h
    · rw [e] at hf hv
      exact (pe_callTy hf hg (hm hgf) hv ha n1 n2 he hpl).imp fun _ _ _ h => b_args h

section
variable {cf : Cfg} {ca : Nat → Option Addr} {k : Nat}
/-- an expression that is no comparison, no and, or, not, if: as a test by its truth -/
theorem both {X : Cx} {W : WX} {a : E} {a' : Expr} (h : PE X a' (tE X.K ca W (ctx cf.P k) a)) (he : ∀ whole, isTrue a' X.env whole = (do let v ← whole; standAt a'.pos; holding [v] (truthy v))) :
    PE X a' (tE X.K ca W (ctx cf.P k) a) ∧ PT X a' (tT X.K ca W (ctx cf.P k) a) := ⟨h, t_truth h he⟩
theorem ctx_gl (P : Prog) (k : Nat) : (ctx P k).gl = fun i => P.gls[i]? := by cases k <;> rfl
theorem own_eq (N : List Str) (own : List Nat) : (ownOf N own).map (·.2) = own := by
  unfold ownOf
  rw [List.map_map]
  induction own with
  | nil => rfl
  | cons i l ih => rw [List.map_cons, ih]; rfl
theorem blkC_kind {N : List Str} {sc scope : Scope} {own : List (Str × Nat)} (h : blkC N sc scope own = true) : scope.kind = .function := (blkOk_by h).kind
mutual
theorem sE : ∀ (e : E) (x : Expr) (ck : Ck), chkE cf ck e x = true → ∀ (X : Cx) (W : WX), GoodE cf ca k X ck W → PE X x (tE X.K ca W (ctx cf.P k) e) ∧ PT X x (tT X.K ca W (ctx cf.P k) e)
  | .slot i, x, ck, h, X, W, g => by
    cases x with
    | Name y p =>
      simp only [chkE, Bool.and_eq_true] at h
      obtain ⟨n1, n2⟩ := okN_ok h.2
      exact both (e_slot (g.at h.1.1) (g.vis h.1.2) n1 n2) fun _ => rfl
    | _ => simp [chkE] at h
  | .con d, x, ck, h, X, W, g => by
    cases x with
    | Constant c kk p =>
      simp only [chkE] at h
      refine both ?_ fun _ => rfl
      cases d <;> cases c <;> simp [conB] at h
      · exact e_con pe_non fun _ _ => .non
      · subst h; exact e_con pe_bl fun _ _ => .bl _
      · subst h; exact e_con pe_int fun _ _ => .int _
      · subst h; exact e_con pe_str fun _ _ => .str _
    | _ => simp [chkE] at h
  | .gl i, x, ck, h, X, W, g => by
    cases x with
    | Name y p =>
      simp only [chkE, Bool.and_eq_true, decide_eq_true_eq] at h
      obtain ⟨n1, n2⟩ := okN_ok h.1.2
      have hd : cf.P.gls[i]? = some cf.P.gls[i] := List.getElem?_eq_getElem h.2
      obtain ⟨v, u, h1, h2, h3⟩ := g.tab.gl i y _ (of_decide_eq_true h.1.1.1) hd
      exact both (e_gl (pe_glob (g.gl h.1.1.2) h1 h2 n1) (by rw [ctx_gl]; exact hd) h3) fun _ => rfl
    | _ => simp [chkE] at h
  | .bin m op a b, x, ck, h, X, W, g => by
    cases x with
    | BinOp a' op' b' p =>
      simp only [chkE, Bool.and_eq_true, decide_eq_true_eq] at h
      obtain ⟨⟨rfl, ha⟩, hb⟩ := h
      exact both (e_bin m op (sE a a' ck ha X W g).1 (sE b b' ck hb X W g).1) fun _ => rfl
    | _ => simp [chkE] at h
  | .cmp op a b, x, ck, h, X, W, g => by
    cases x with
    | Compare a' ops cs p =>
      match ops, cs with
      | [op'], [b'] =>
        simp only [chkE, Bool.and_eq_true, decide_eq_true_eq] at h
        obtain ⟨⟨⟨rfl, ho⟩, ha⟩, hb⟩ := h
        have h1 := (sE a a' ck ha X W g).1
        have h2 := (sE b b' ck hb X W g).1
        exact ⟨e_cmp g.un op h1 h2 (mark_ok ho), t_cmp g.un op h1 h2 (mark_ok ho)⟩
      | [], _ => simp [chkE] at h
      | [_], [] => simp [chkE] at h
      | [_], _ :: _ :: _ => simp [chkE] at h
      | _ :: _ :: _, _ => simp [chkE] at h
    | _ => simp [chkE] at h
  | .chain o1 o2 a b c, x, ck, h, X, W, g => by
    cases x with
    | Compare a' ops cs p =>
      match ops, cs with
      | [p1, p2], [b', c'] =>
        simp only [chkE, Bool.and_eq_true, decide_eq_true_eq] at h
        obtain ⟨⟨⟨⟨⟨rfl, rfl⟩, ho⟩, ha⟩, hb⟩, hc⟩ := h
        have h1 := (sE a a' ck ha X W g).1
        have h2 := (sE b b' ck hb X W g).1
        have h3 := (sE c c' ck hc X W g).1
        exact ⟨e_chain g.un o1 o2 h1 h2 h3 (mark2_ok ho), t_chain g.un o1 o2 h1 h2 h3 (mark2_ok ho)⟩
      | [], _ => simp [chkE] at h
      | [_], _ => simp [chkE] at h
      | [_, _], [] => simp [chkE] at h
      | [_, _], [_] => simp [chkE] at h
      | [_, _], _ :: _ :: _ :: _ => simp [chkE] at h
      | _ :: _ :: _ :: _, _ => simp [chkE] at h
    | _ => simp [chkE] at h
  | .neg a, x, ck, h, X, W, g => by
    cases x with
    | UnaryOp op a' p =>
      cases op with
      | USub =>
        simp only [chkE] at h
        exact both (e_neg (sE a a' ck h X W g).1) fun _ => rfl
      | _ => simp [chkE] at h
    | _ => simp [chkE] at h
  | .not a, x, ck, h, X, W, g => by
    cases x with
    | UnaryOp op a' p =>
      cases op with
      | Not =>
        simp only [chkE] at h
        exact ⟨e_not (sE a a' ck h X W g).1, t_not (sE a a' ck h X W g).2⟩
      | _ => simp [chkE] at h
    | _ => simp [chkE] at h
  | .and l, x, ck, h, X, W, g => by
    cases x with
    | BoolOp op l' p =>
      cases op with
      | And =>
        simp only [chkE] at h
        obtain ⟨h1, h2⟩ := sAnd l l' ck h X W g p
        exact ⟨h1.imp fun σ H Q ⟨F, r, g, S, R, G, q⟩ => ⟨F, r, g, S, R, G, by simpa only [evE] using q⟩, h2.pt.imp fun σ H Q ⟨F, r, g, S, R, G, q⟩ => ⟨F, r, g, S, R, G, by simpa only [evE] using q⟩⟩
      | _ => simp [chkE] at h
    | _ => simp [chkE] at h
  | .or l, x, ck, h, X, W, g => by
    cases x with
    | BoolOp op l' p =>
      cases op with
      | Or =>
        simp only [chkE] at h
        obtain ⟨h1, h2⟩ := sOr l l' ck h X W g p
        exact ⟨h1.imp fun σ H Q ⟨F, r, g, S, R, G, q⟩ => ⟨F, r, g, S, R, G, by simpa only [evE] using q⟩, h2.pt.imp fun σ H Q ⟨F, r, g, S, R, G, q⟩ => ⟨F, r, g, S, R, G, by simpa only [evE] using q⟩⟩
      | _ => simp [chkE] at h
    | _ => simp [chkE] at h
  | .ite c a b, x, ck, h, X, W, g => by
    cases x with
    | IfExp c' a' b' p =>
      simp only [chkE, Bool.and_eq_true] at h
      have h1 := sE c c' ck h.1.1 X W g
      have h2 := sE a a' ck h.1.2 X W g
      have h3 := sE b b' ck h.2 X W g
      exact ⟨e_ite h1.2 h2.1 h3.1, t_ite h1.2 h2.2 h3.2⟩
    | _ => simp [chkE] at h
  | .idx a i, x, ck, h, X, W, g => by
    cases x with
    | Subscript a' i' p =>
      simp only [chkE, Bool.and_eq_true] at h
      exact both (e_idx (sE a a' ck h.1.2 X W g).1 (sE i i' ck h.2 X W g).1 (plain_ok h.1.1)) fun _ => rfl
    | _ => simp [chkE] at h
  | .slc m a lo hi, x, ck, h, X, W, g => by
    cases x with
    | Subscript a' sl p =>
      cases sl with
      | Slice lo' hi' st p2 =>
        cases st with
        | none =>
          simp only [chkE, Bool.and_eq_true] at h
          exact both (e_slc m (sE a a' ck h.1.1 X W g).1 (sO lo lo' ck h.1.2 X W g) (sO hi hi' ck h.2 X W g)) fun _ => rfl
        | some _ => simp [chkE] at h
      | _ => simp [chkE] at h
    | _ => simp [chkE] at h
  | .rev m a, x, ck, h, X, W, g => by
    simp only [chkE] at h
    split at h
    · exact both (e_rev m (sE a _ ck h X W g).1) fun _ => rfl
    · cases h
  | .tup l, x, ck, h, X, W, g => by
    cases x with
    | Tuple l' kk p =>
      simp only [chkE] at h
      exact both (e_tup (sEs l l' ck h X W g)) fun _ => rfl
    | _ => simp [chkE] at h
  | .lst m l, x, ck, h, X, W, g => by
    cases x with
    | List l' p =>
      simp only [chkE] at h
      exact both (e_lst m (sEs l l' ck h X W g)) fun _ => rfl
    | _ => simp [chkE] at h
  | .blt m f args, x, ck, h, X, W, g => by
    simp only [chkE] at h
    split at h
    · rename_i y p1 e0 es p2
      simp only [Bool.and_eq_true, decide_eq_true_eq] at h
      obtain ⟨⟨⟨rfl, h2⟩, h3⟩, h4⟩ := h
      have ha := sEs args (e0 :: es) ck h4 X W g
      cases args with
      | nil => simp [chkEs] at h4
      | cons a0 as =>
      have h4' := h4
      simp only [chkEs, Bool.and_eq_true] at h4'
      refine both (e_blt (cf := cf) m f g.calm (g.gl h2) (fun q => ?_) (fun q => ?_) ha (star_cons h4'.1.1) (plain_any h4'.2)) fun _ => rfl
      · rw [q] at h3; exact g.bl h3
      · rw [q] at h3; exact g.tab.gcd h3
    · cases h
  | .isi a t, x, ck, h, X, W, g => by
    simp only [chkE] at h
    split at h
    · rename_i y p1 a' z p2 p3
      simp only [Bool.and_eq_true, decide_eq_true_eq] at h
      obtain ⟨⟨⟨⟨⟨⟨⟨rfl, rfl⟩, h3⟩, h4⟩, h5⟩, h6⟩, h7⟩, h8⟩ := h
      obtain ⟨n1, n2⟩ := ty_name t
      exact both (e_isi (p2 := p2) (sE a a' ck h8 X W g).1 (g.gl h3) (g.bl h5) (pe_bltn (g.gl h4) (g.bl h6) (ty_boot t) rfl n1 n2) (star_cons h7) (by rfl)) fun _ => rfl
    · cases h
  | .call p f args, x, ck, h, X, W, g => by
    simp only [chkE] at h
    split at h
    · rename_i y p1 e0 es p2
      simp only [Bool.and_eq_true] at h
      obtain ⟨⟨⟨h1, h2⟩, h3⟩, h4⟩ := h
      have ha := sEs args (e0 :: es) ck h4 X W g
      cases args with
      | nil => simp [chkEs] at h4
      | cons a0 as =>
      have h4' := h4
      simp only [chkEs, Bool.and_eq_true] at h4'
      obtain ⟨n1, n2⟩ := okN_ok h3
      obtain ⟨fa, fd, ps, hf, hm, hk, hb⟩ := g.tab.fn f y (of_decide_eq_true h1)
      exact both (e_call g.takes g.room hf (g.gl h2) hm hk hb ha n1 (star_cons h4'.1.1) (plain_any h4'.2)) fun _ => rfl
    · cases h
  | .lc m own t kk args cnd elt, x, ck, h, X, W, g => by
    simp only [chkE] at h
    split at h
    · rename_i elt' tg it ifs scope p
      simp only [Bool.and_eq_true, List.all_eq_true] at h
      obtain ⟨⟨⟨⟨⟨⟨h1, h2⟩, h3⟩, h4⟩, h5⟩, h6⟩, h7⟩ := h
      have hk := blkC_kind h1
      have ok : BlkOk X.N X.env.scope scope (ownOf ck.N own) := by rw [g.N, g.sc]; exact blkOk_by h1
      have z := e_lc (pos := p) (W := W) (C := ctx cf.P k) (ca := ca) (args := args) (cnd := cnd) (elt := elt) (t := t) (k := kk) (own := ownOf ck.N own) m (fun i hi => by
          rw [own_eq]
          have := h2 i hi
          simpa using this) g.calm g.ndX (sI args it tg ck kk h4 X W g) ok
        (fun s H D cl fp => sTn (ckB ck scope) t tg h5 _ WN (g.blk hk s H D cl fp))
        (fun s H D cl fp => sC cnd ifs (ckB ck scope) h6 _ WN (g.blk hk s H D cl fp))
        (fun s H D cl fp => (sE elt elt' (ckB ck scope) h7 _ WN (g.blk hk s H D cl fp)).1) (fold_ok h3)
      rw [own_eq] at z
      exact both z fun _ => rfl
    · cases h
theorem sEs : ∀ (l : List E) (l' : List Expr) (ck : Ck), chkEs cf ck l l' = true → ∀ (X : Cx) (W : WX), GoodE cf ca k X ck W → PA X l' (tEs X.K ca W (ctx cf.P k) l)
  | [], [], ck, _, X, W, g => a_nil
  | [], _ :: _, ck, h, X, W, g => by simp [chkEs] at h
  | _ :: _, [], ck, h, X, W, g => by simp [chkEs] at h
  | e :: l, x :: r, ck, h, X, W, g => by
    simp only [chkEs, Bool.and_eq_true] at h
    exact a_cons (sE e x ck h.1.2 X W g).1 (sEs l r ck h.2 X W g) (star_cons h.1.1)
theorem sAnd : ∀ (l : List E) (l' : List Expr) (ck : Ck), chkB cf ck l l' = true → ∀ (X : Cx) (W : WX), GoodE cf ca k X ck W → ∀ p, PE X (.BoolOp .And l' p) (tAnd' X.K ca W (ctx cf.P k) l) ∧ PW X (.BoolOp .And l' p) (ttAnd X.K ca W (ctx cf.P k) l)
  | [], _, ck, h, X, W, g, p => by simp [chkB] at h
  | _ :: _, [], ck, h, X, W, g, p => by simp [chkB] at h
  | [e], x :: r, ck, h, X, W, g, p => by
    simp only [chkB, Bool.and_eq_true, List.isEmpty_iff] at h
    obtain ⟨h1, rfl⟩ := h
    have z := sE e x ck h1 X W g
    exact ⟨e_and1 z.1, w_and1 z.2⟩
  | e :: e2 :: l, x :: r, ck, h, X, W, g, p => by
    rw [chkB, Bool.and_eq_true, Bool.and_eq_true] at h
    obtain ⟨h1, h2, h3⟩ := h
    have z := sE e x ck h1 X W g
    cases r with
    | nil => simp at h2
    | cons y r =>
      have w := sAnd (e2 :: l) (y :: r) ck h3 X W g p
      exact ⟨e_and2 z.1 w.1, w_and2 z.2 w.2⟩
theorem sOr : ∀ (l : List E) (l' : List Expr) (ck : Ck), chkB cf ck l l' = true → ∀ (X : Cx) (W : WX), GoodE cf ca k X ck W → ∀ p, PE X (.BoolOp .Or l' p) (tOr' X.K ca W (ctx cf.P k) l) ∧ PW X (.BoolOp .Or l' p) (ttOr X.K ca W (ctx cf.P k) l)
  | [], _, ck, h, X, W, g, p => by simp [chkB] at h
  | _ :: _, [], ck, h, X, W, g, p => by simp [chkB] at h
  | [e], x :: r, ck, h, X, W, g, p => by
    simp only [chkB, Bool.and_eq_true, List.isEmpty_iff] at h
    obtain ⟨h1, rfl⟩ := h
    have z := sE e x ck h1 X W g
    exact ⟨e_or1 z.1, w_or1 z.2⟩
  | e :: e2 :: l, x :: r, ck, h, X, W, g, p => by
    rw [chkB, Bool.and_eq_true, Bool.and_eq_true] at h
    obtain ⟨h1, h2, h3⟩ := h
    have z := sE e x ck h1 X W g
    cases r with
    | nil => simp at h2
    | cons y r =>
      have w := sOr (e2 :: l) (y :: r) ck h3 X W g p
      exact ⟨e_or2 z.1 w.1, w_or2 z.2 w.2⟩
theorem sO : ∀ (e : Option E) (x : Option Expr) (ck : Ck), chkO cf ck e x = true → ∀ (X : Cx) (W : WX), GoodE cf ca k X ck W → PO X x (tO X.K ca W (ctx cf.P k) e)
  | none, none, ck, _, X, W, g => o_none
  | none, some _, ck, h, X, W, g => by simp [chkO] at h
  | some _, none, ck, h, X, W, g => by simp [chkO] at h
  | some e, some x, ck, h, X, W, g => by
    simp only [chkO] at h
    exact o_some (sE e x ck h X W g).1
theorem sC : ∀ (l : List E) (l' : List Expr) (ck : Ck), chkC cf ck l l' = true → ∀ (X : Cx) (W : WX), GoodE cf ca k X ck W → PTs X l' (tR X.K ca W rB (evCnd (ctx cf.P k) l))
  | [], [], ck, _, X, W, g => c_nil
  | [], _ :: _, ck, h, X, W, g => by simp [chkC] at h
  | _ :: _, [], ck, h, X, W, g => by simp [chkC] at h
  | _ :: _, _ :: _ :: _, ck, h, X, W, g => by simp [chkC] at h
  | e :: l, [x], ck, h, X, W, g => by
    simp only [chkC, Bool.and_eq_true, List.isEmpty_iff] at h
    obtain ⟨rfl, h1⟩ := h
    exact c_one (sE e x ck h1 X W g).2
theorem sI : ∀ (l : List E) (x tg : Expr) (ck : Ck) (kk : Ik), chkI cf ck kk l x tg = true → ∀ (X : Cx) (W : WX), GoodE cf ca k X ck W → PI X tg x (tI X.K ca W (ctx cf.P k) kk l)
  | [], x, tg, ck, kk, h, X, W, g => by simp [chkI] at h
  | a :: l, x, tg, ck, kk, h, X, W, g => by
    cases kk with
    | seq =>
      simp only [chkI, Bool.and_eq_true, List.isEmpty_iff] at h
      obtain ⟨rfl, h1⟩ := h
      exact i_seq (sE a x ck h1 X W g).1
    | rng1 =>
      simp only [chkI] at h
      split at h
      · simp only [Bool.and_eq_true, List.isEmpty_iff, decide_eq_true_eq] at h
        obtain ⟨⟨⟨⟨⟨rfl, rfl⟩, h3⟩, h4⟩, h5⟩, h6⟩ := h
        exact i_rng1 (g.gl h3) (g.bl h4) (sE a _ ck h6 X W g).1 (star_cons h5)
      · cases h
    | rng2 =>
      simp only [chkI] at h
      split at h
      · simp only [Bool.and_eq_true, decide_eq_true_eq] at h
        obtain ⟨⟨⟨⟨⟨⟨rfl, h3⟩, h4⟩, h5⟩, h5b⟩, h6⟩, h7⟩ := h
        match l, h7 with
        | [b], h7 =>
          simp only [chkEs, Bool.and_eq_true] at h7
          exact i_rng2 (g.gl h3) (g.bl h4) (sE a _ ck h6 X W g).1 (sE b _ ck h7.1.2 X W g).1 (by rw [star_cons h5, star_cons h5b]; rfl) (star_cons h5b)
        | [], h7 => simp [chkEs] at h7
        | _ :: _ :: _, h7 => simp [chkEs] at h7
      · cases h
    | enum =>
      simp only [chkI] at h
      split at h
      · simp only [Bool.and_eq_true, List.isEmpty_iff, decide_eq_true_eq] at h
        obtain ⟨⟨⟨⟨⟨rfl, rfl⟩, h3⟩, h4⟩, h5⟩, h6⟩ := h
        exact i_enum (g.gl h3) (g.bl h4) (sE a _ ck h6 X W g).1 (star_cons h5)
      · cases h
    | zip =>
      simp only [chkI] at h
      split at h
      · simp only [Bool.and_eq_true, decide_eq_true_eq] at h
        obtain ⟨⟨⟨⟨⟨⟨rfl, h3⟩, h4⟩, h5⟩, h5b⟩, h6⟩, h7⟩ := h
        match l, h7 with
        | [b], h7 =>
          simp only [chkEs, Bool.and_eq_true] at h7
          exact i_zip (g.gl h3) (g.bl h4) (sE a _ ck h6 X W g).1 (sE b _ ck h7.1.2 X W g).1 (star_cons h5) (star_cons h5b)
        | [], h7 => simp [chkEs] at h7
        | _ :: _ :: _, h7 => simp [chkEs] at h7
      · cases h
end
end
end PV
/-! PV10: the checker of statements, functions. -/
namespace PV
open PySem PySem.Spec PyProof.Rows L2

def baseB : Expr → Bool
  | .Call (.Name _ _) [] [] _ => false
  | _ => true
theorem base_ok {o : Expr} {attr : Str} {env : Env} {whole : Sem Value} (h : baseB o = true) : attributeBase o attr env whole = whole := by
  unfold attributeBase
  split
  · simp [baseB] at h
  · rfl
def starB : Expr → Bool
  | .Starred _ _ => true
  | _ => false
/-- the names of a swap, as the model tells them: none: not told here -/
def swpN (sc : Scope) (ts : List Expr) (line : Nat) : List Str := ts.filterMap fun
    | .Name id pos => if sc.names.lookup id == some .local && pos.line == line then some id else none
    | _ => none
def swp (sc : Scope) (tg v : Expr) : Option (Option (List Str)) := match tg, v with
  | .Tuple ts _ _, .Tuple vs _ _ =>
    if !(ts.length == 2 || ts.length == 3) || vs.length != ts.length then some none
    else if vs.any starB then none
    else if (swpN sc ts ((ts.head?.map (·.pos.line)).getD 0)).length != ts.length || (swpN sc ts ((ts.head?.map (·.pos.line)).getD 0)).eraseDups.length != (swpN sc ts ((ts.head?.map (·.pos.line)).getD 0)).length then some none
    else if vs.all (foldedForSure 8) then some none
    else if vs.all (constantsAlone 8) then none
    else some (some (swpN sc ts ((ts.head?.map (·.pos.line)).getD 0)))
  | .List _ _, _ => none
  | _, _ => some none
theorem swp_ok {env : Env} {tg v : Expr} {r : Option (List Str)} (hk : env.scope.kind = .function) (h : swp env.scope tg v = some r) : swappedStores [tg] v env = pure r := by
  have hb : env.blockKind = .function := by unfold Env.blockKind; rw [hk]; rfl
  unfold swp at h
  split at h
  · rename_i ts _ _ vs _ _
    unfold swappedStores
    dsimp only [pure_bind]
    rw [hb]
    have e1 : (ScopeKind.function != ScopeKind.function) = false := rfl
    rw [e1, Bool.or_false]
    split at h
    · rename_i h1
      rw [if_pos h1]
      rw [← Option.some.inj h]
    · rename_i h1
      rw [if_neg h1]
      split at h
      · cases h
      · rename_i h2
        refine (if_neg h2).trans ?_
        split at h
        · rename_i h3
          refine (if_pos h3).trans ?_
          rw [← Option.some.inj h]
        · rename_i h3
          refine (if_neg h3).trans ?_
          split at h
          · rename_i h4
            rw [if_pos h4, ← Option.some.inj h]
          · rename_i h4
            rw [if_neg h4]
            split at h
            · cases h
            · rename_i h5
              rw [if_neg h5, ← Option.some.inj h]
              rfl
  · cases h
  · rename_i n1 n2
    have := Option.some.inj h
    subst this
    unfold swappedStores
    split
    · rename_i tss vss ts vs q
      split at q
      · rename_i q1
        exact (n2 _ _ _ _ _ _ (List.cons.inj q1).1 rfl).elim
      · rename_i q1
        exact (n1 _ _ (List.cons.inj q1).1).elim
      · cases q
    · rfl
/-- a comprehension that is swapped with the name's own -/
def swW (sc : Scope) (v tg : Expr) : Bool := match v, tg with
  | .ListComp _ _ s p, .Name t pos => decide (sc.names.lookup t = some .local) && (pos.line == p.line) && !(s.names.any fun (n, k) => n == t && (k == .local || k == .cell))
  | .SetComp _ _ _ _, _ => true
  | .DictComp _ _ _ _ _, _ => true
  | _, _ => false
theorem swW_ok {env : Env} {v tg : Expr} {line : Nat} (hk : env.scope.kind = .function) (h : swW env.scope v tg = false) : swapsWithSole [tg] v line env = pure false := by
  have hb : env.blockKind = .function := by unfold Env.blockKind; rw [hk]; rfl
  show swapsWith v (some tg) line env = pure false
  cases v <;> first
    | rfl
    | (simp [swW] at h; done)
    | skip
  cases tg <;> first
    | rfl
    | skip
  rename_i elt gs s p t pos
  have e : (env.blockKind == ScopeKind.function && env.kindOf t == some .local && pos.line == p.line && !(s.names.any fun (n, k) => n == t && (k == .local || k == .cell))) = false := by
    rw [hb]
    have e2 : (env.kindOf t == some NameKind.local) = decide (env.scope.names.lookup t = some .local) := by
      show (env.scope.names.lookup t == some NameKind.local) = _
      cases q : env.scope.names.lookup t with
      | none => rfl
      | some k => cases k <;> rfl
    rw [e2]
    exact h
  show (pure (env.blockKind == ScopeKind.function && env.kindOf t == some .local && pos.line == p.line && !(s.names.any fun (n, k) => n == t && (k == .local || k == .cell))) : Sem Bool) = pure false
  rw [e]
theorem swW_yes {env : Env} {elt : Expr} {gs : List Comprehension} {s : Scope} {p pos : Pos} {t : Str} {line : Nat} (hk : env.scope.kind = .function) (h : swW env.scope (.ListComp elt gs s p) (.Name t pos) = true) : swapsWith (.ListComp elt gs s p) (some (.Name t pos)) line env = pure true := by
  have hb : env.blockKind = .function := by unfold Env.blockKind; rw [hk]; rfl
  have e : (env.blockKind == ScopeKind.function && env.kindOf t == some .local && pos.line == p.line && !(s.names.any fun (n, k) => n == t && (k == .local || k == .cell))) = true := by
    rw [hb]
    have e2 : (env.kindOf t == some NameKind.local) = decide (env.scope.names.lookup t = some .local) := by
      show (env.scope.names.lookup t == some NameKind.local) = _
      cases q : env.scope.names.lookup t with
      | none => rfl
      | some k => cases k <;> rfl
    rw [e2]
    exact h
  show (pure (env.blockKind == ScopeKind.function && env.kindOf t == some .local && pos.line == p.line && !(s.names.any fun (n, k) => n == t && (k == .local || k == .cell))) : Sem Bool) = pure true
  rw [e]
def notComp : Expr → Bool
  | .ListComp _ _ _ _ => false
  | .SetComp _ _ _ _ => false
  | .DictComp _ _ _ _ _ => false
  | _ => true
theorem notComp_ok {env : Env} {v : Expr} {line : Nat} (h : notComp v = true) : swapsWith v none line env = pure false := by
  cases v <;> first
    | rfl
    | simp [notComp] at h

mutual
def chkU (cf : Cfg) (ck : Ck) : Tg → Expr → Bool
  | .nm i, x => match x with
    | .Name y _ => atB ck.N i y && locB ck.sc y && (ck.fn y || decide (ck.sc.names.lookup y = some .local))
    | _ => false
  | .tup ts, x => match x with
    | .Tuple es _ _ => chkUs cf ck ts es
    | _ => false
  | .idx o i, x => match x with
    | .Subscript o' i' _ => okX i' && chkE cf ck o o' && chkE cf ck i i'
    | _ => false
def chkUs (cf : Cfg) (ck : Ck) : List Tg → List Expr → Bool
  | [], es => match es with
    | [] => true
    | _ :: _ => false
  | t :: ts, es => match es with
    | [] => false
    | e :: es => okX e && chkU cf ck t e && chkUs cf ck ts es
end
def isLc : E → Bool
  | .lc _ _ _ _ _ _ _ => true
  | _ => false
/-- the list that an except suite makes -/
def chkIs (cf : Cfg) (ck : Ck) (n : Str) : List Expr → List Nat → Bool
  | [], js => js.isEmpty
  | x :: r, js => match js with
    | [] => false
    | j :: js => (match x with
      | .Call (.Name f _) [.Name y _, .Name c _] [] _ => decide (f = ("isinstance" : Str)) && decide (y = n) && atB cf.cnm j c && glB ck.sc c
      | _ => false) && chkIs cf ck n r js
mutual
def chkS (cf : Cfg) (ck : Ck) : S → Stmt → Bool
  | .asg t e, x => match x with
    | .Assign [tg] v _ => okX v && chkE cf ck e v && chkU cf ck t tg && decide (swp ck.sc tg v = some none) && (!swW ck.sc v tg || (match t, tg, v with
      | .nm _, .Name y _, .ListComp _ _ _ _ => decide (ck.sc.names.lookup y = some .local) && isLc e
      | _, _, _ => false))
    | _ => false
  | .par i j a b, x => match x with
    | .Assign [.Tuple [.Name y p1, .Name z p2] k1 p3] (.Tuple [a', b'] k2 p4) _ => atB ck.N i y && atB ck.N j z && decide (i ≠ j) && decide (ck.sc.names.lookup y = some .local) && decide (ck.sc.names.lookup z = some .local) && okX a' && okX b' && chkE cf ck a a' && chkE cf ck b b' &&
      decide (swp ck.sc (.Tuple [.Name y p1, .Name z p2] k1 p3) (.Tuple [a', b'] k2 p4) = some (some [y, z]))
    | _ => false
  | .aug i op e, x => match x with
    | .AugAssign (.Name y _) op' v _ => atB ck.N i y && locB ck.sc y && (ck.fn y || decide (ck.sc.names.lookup y = some .local)) && decide (op' = opOf op) && (match op with
      | .add => true
      | .sub => true
      | _ => false) && chkE cf ck e v
    | _ => false
  | .expr e, x => match x with
    | .Expr v _ => notComp v && chkE cf ck e v
    | _ => false
  | .app o e, x => match x with
    | .Expr (.Call (.Attribute o' m p1) [e'] [] p2) _ => decide (m = ("append" : Str)) && (p1.endLine == p2.line) && baseB o' && okX e' && chkE cf ck o o' && chkE cf ck e e'
    | _ => false
  | .ret e, x => match x with
    | .Return (some v) _ => chkE cf ck e v
    | _ => false
  | .retn, x => match x with
    | .Return none _ => true
    | _ => false
  | .ite c a b, x => match x with
    | .If c' a' b' _ => chkE cf ck c c' && chkSs cf ck a a' && chkSs cf ck b b'
    | _ => false
  | .whil c b, x => match x with
    | .While c' b' [] _ => chkE cf ck c c' && chkSs cf ck b b'
    | _ => false
  | .for t k args b, x => match x with
    | .For tg it b' [] _ => okX it && chkI cf ck k args it tg && chkT ck t tg && chkSs cf ck b b'
    | _ => false
  | .raise c, x => match x with
    | .Raise (some (.Call (.Name y _) [] [] _)) none _ => atB cf.cnm c y && glB ck.sc y && okN y && cf.rz.contains c
    | _ => false
  | .tryi b c t e cs, x => match x with
    | .Try b' [.ExceptHandler (some (.Name y _)) (some n) [.Assign [.Name tn _] (.List elts _) _] _] [] [] _ =>
      chkSs cf ck b b' && atB cf.cnm c y && glB ck.sc y && atB ck.N e n && decide (ck.sc.names.lookup n = some .local) && okN n && atB ck.N t tn && locB ck.sc tn && (ck.fn tn || decide (ck.sc.names.lookup tn = some .local)) && decide (t ≠ e) &&
        glB ck.sc "isinstance" && blB cf "isinstance" && chkIs cf ck n elts cs && decide (cs.length < 1000)
    | _ => false
  | .pass, x => match x with
    | .Pass _ => true
    | .Expr (.Constant (.str _) _ _) _ => true
    | _ => false
  | .brk, x => match x with
    | .Break _ => true
    | _ => false
  | .cont, x => match x with
    | .Continue _ => true
    | _ => false
def chkSs (cf : Cfg) (ck : Ck) : List S → List Stmt → Bool
  | [], xs => match xs with
    | [] => true
    | _ :: _ => false
  | s :: r, xs => match xs with
    | [] => false
    | x :: xs => chkS cf ck s x && chkSs cf ck r xs
end

/-- the classes of exceptions -/
structure ExT (cf : Cfg) (ca : Nat → Option Addr) (K : PySem.W.Frag) (mg : Str → Option Value) : Prop where
  cls : ∀ (j : Nat) (x : Str), cf.cnm[j]? = some x → ∃ v u, ClsN K mg ca (ctx cf.P 0).sub x j v u
  exc : ∀ k a, ca k = some a → ExcC K a
  rz : ∀ j, cf.rz.contains j = true → ∃ a, ca j = some a
  own : ∀ (j : Nat) (x : Str), cf.cnm[j]? = some x → ∀ a, ca j = some a → mg x = some (.ref a) ∧ PySem.W.excIn K a [.type "ValueError", .type "Exception", .type "BaseException", .type "object"] "ValueError.__new__" = true ∧ PySem.W.keepIn K (.ref a) = true ∧
    PySem.W.subIn K (.ref a) (.type "BaseException") = some true ∧ PySem.W.typeIn K (.ref a) = some (.type "type")
theorem ctx_sub (P : Prog) (k : Nat) : (ctx P k).sub = (ctx P 0).sub := by cases k <;> rfl
structure GoodS (cf : Cfg) (ca : Nat → Option Addr) (k : Nat) (X : Cx) (ck : Ck) (W : WX) : Prop extends GoodE cf ca k X ck W where
  stk : X.stack = X.env :: X.outer
  frm : X.env.frame = some X.env.locals
  pas : PassesOwn (model X.prog X.w) X.A X.env X.xe
  ext : ExT cf ca X.K X.mg
section
variable {cf : Cfg} {ca : Nat → Option Addr} {k : Nat}
theorem GoodS.tr {X : Cx} {ck : Ck} {W W' : WX} (g : GoodS cf ca k X ck W) (pn : List (Addr × Obj)) (xe : Value → Shared → Prop) (tk : Takes (X.tr pn xe) W') (ps : PassesOwn (model X.prog X.w) X.A X.env xe) : GoodS cf ca k (X.tr pn xe) ck W' :=
  { N := g.N, nd := g.nd, sc := g.sc, kind := g.kind, calm := g.calm, fn := g.fn, room := g.room, takes := tk, tab := g.tab, stk := g.stk, frm := g.frm, pas := ps, ext := g.ext }
theorem asgsU_ok {env : Env} {ck : Ck} : ∀ {ts : List Tg} {es : List Expr}, chkUs cf ck ts es = true → es.length = ts.length ∧ (assignEach es env).length = es.length ∧ (assignEach es env).findIdx? (·.1) = none
  | [], [], _ => ⟨rfl, rfl, rfl⟩
  | [], _ :: _, h => by simp [chkUs] at h
  | _ :: _, [], h => by simp [chkUs] at h
  | t :: ts, e :: es, h => by
    simp only [chkUs, Bool.and_eq_true] at h
    obtain ⟨h1, h2, h3⟩ := asgsU_ok (env := env) h.2
    refine ⟨by simp [h1], ?_, ?_⟩
    · rw [asg_cons h.1.1]; simp [h2]
    · rw [asg_cons h.1.1, List.findIdx?_cons]
      simp [h3]
theorem asg_sub {o i : Expr} {pos : Pos} {env : Env} (h : okX i = true) (v : Value) : assign (.Subscript o i pos) env v = (do
      let ov ← holding [v] (eval o env)
      let iv ← holding [v, ov] (eval i env)
      standAt pos
      holding [v, ov, iv] (setItem ov iv v)
      release [v, ov, iv] []) := by
  cases i <;> first
    | rfl
    | simp [okX] at h
mutual
theorem sU (ck : Ck) : ∀ (t : Tg) (x : Expr), chkU cf ck t x = true → ∀ (X : Cx) (W : WX), GoodE cf ca k X ck W → PG X x (gU X.K ca W (ctx cf.P k) t)
  | .nm i, x, h, X, W, g => by
    cases x with
    | Name y p =>
      simp only [chkU, Bool.and_eq_true, Bool.or_eq_true, decide_eq_true_eq] at h
      exact u_nm g.ndX (g.at h.1.1) (g.loc h.1.2) (h.2.imp (g.fn y) fun z => by rw [g.sc]; exact z)
    | _ => simp [chkU] at h
  | .tup ts, x, h, X, W, g => by
    cases x with
    | Tuple es kk p =>
      simp only [chkU] at h
      obtain ⟨h1, h2, h3⟩ := asgsU_ok (env := X.env) h
      exact u_tup g.calm (sUs ck ts es h X W g) h1 h2 h3
    | _ => simp [chkU] at h
  | .idx o i, x, h, X, W, g => by
    cases x with
    | Subscript o' i' p =>
      simp only [chkU, Bool.and_eq_true] at h
      exact u_idx (sE o o' ck h.1.2 X W g).1 (sE i i' ck h.2 X W g).1 (asg_sub h.1.1)
    | _ => simp [chkU] at h
theorem sUs (ck : Ck) : ∀ (t : List Tg) (x : List Expr), chkUs cf ck t x = true → ∀ (X : Cx) (W : WX), GoodE cf ca k X ck W → PGs X x (gUs X.K ca W (ctx cf.P k) t)
  | [], [], _, X, W, g => us_nil
  | [], _ :: _, h, X, W, g => by simp [chkUs] at h
  | _ :: _, [], h, X, W, g => by simp [chkUs] at h
  | t :: ts, e :: es, h, X, W, g => by
    simp only [chkUs, Bool.and_eq_true] at h
    exact us_cons (sU ck t e h.1.2 X W g) (sUs ck ts es h.2 X W g) (by rw [asg_cons h.1.1]; rfl)
end
theorem chkIs_ok {X : Cx} {ck : Ck} {W : WX} {n : Str} (g : GoodS cf ca k X ck W) : ∀ {es : List Expr} {js : List Nat}, chkIs cf ck n es js = true → IsL X ca (ctx cf.P k).sub n es js
  | [], js, h => by
    simp only [chkIs, List.isEmpty_iff] at h
    subst h
    exact .nil
  | x :: r, [], h => by simp [chkIs] at h
  | x :: r, j :: js, h => by
    simp only [chkIs, Bool.and_eq_true] at h
    obtain ⟨h1, h2⟩ := h
    split at h1
    · simp only [Bool.and_eq_true, decide_eq_true_eq] at h1
      obtain ⟨⟨⟨rfl, rfl⟩, h3⟩, h4⟩ := h1
      obtain ⟨v, u, c⟩ := g.ext.cls j _ (of_decide_eq_true h3)
      rw [← ctx_sub cf.P k] at c
      exact .cons c (g.gl h4) (chkIs_ok g h2)
    · cases h1
theorem asg_one {tg : Expr} {env : Env} (h : starB tg = false) : (assignEach [tg] env).map (·.2) = [assign tg env] := by
  cases tg <;> first
    | rfl
    | simp [starB] at h
theorem chkU_star {ck : Ck} {t : Tg} {x : Expr} (h : chkU cf ck t x = true) : starB x = false := by
  cases x <;> first
    | rfl
    | (cases t <;> simp [chkU] at h)
mutual
theorem sS : ∀ (s : S) (x : Stmt) (ck : Ck), chkS cf ck s x = true → ∀ (X : Cx) (W : WX), GoodS cf ca k X ck W → PS X x (tSt X.K ca W (ctx cf.P k) s)
  | .asg t e, x, ck, h, X, W, g => by
    simp only [chkS] at h
    split at h
    · rename_i tg v p
      simp only [Bool.and_eq_true, decide_eq_true_eq] at h
      obtain ⟨⟨⟨⟨h1, h2⟩, h3⟩, h4⟩, h5⟩ := h
      have ge := g.toGoodE
      have hk : X.env.scope.kind = .function := by rw [g.sc]; exact g.kind
      cases hw : swW ck.sc v tg with
      | false =>
        exact s_asg (sE e v ck h2 X W ge).1 (sU ck t tg h3 X W ge) (swW_ok hk (by rw [g.sc]; exact hw)) (swp_ok hk (by rw [g.sc]; exact h4)) (asg_one (chkU_star h3))
      | true =>
        rw [hw] at h5
        simp only [Bool.not_true, Bool.false_or] at h5
        split at h5
        · rename_i i y py elt' gs scope pp
          simp only [Bool.and_eq_true, decide_eq_true_eq] at h5
          obtain ⟨hy, hl⟩ := h5
          cases e <;> simp [isLc] at hl
          rename_i m own tn kk args cnd elt
          simp only [chkE] at h2
          split at h2
          · rename_i elt'' tg' it ifs scope' p' heq
            cases heq
            simp only [Bool.and_eq_true, List.all_eq_true] at h2
            obtain ⟨⟨⟨⟨⟨⟨a1, a2⟩, a3⟩, a4⟩, a5⟩, a6⟩, a7⟩ := h2
            have hkb := blkC_kind a1
            have ok : BlkOk X.N X.env.scope scope (ownOf ck.N own) := by rw [g.N, g.sc]; exact blkOk_by a1
            simp only [chkU, Bool.and_eq_true] at h3
            have z := s_setLc (pos := pp) (spos := p) (py := py) (i := i) (W := W) (C := ctx cf.P k) (ca := ca) (args := args) (cnd := cnd) (elt := elt) (t := tn) (k := kk) (own := ownOf ck.N own) m (fun i hi => by
                rw [own_eq]
                have := a2 i hi
                simpa using this) g.calm ge.ndX (ge.at h3.1.1) (by rw [g.sc]; exact hy) (swW_yes hk (by rw [g.sc]; exact hw)) (sI args it tg' ck kk a4 X W ge) ok
              (fun s H D cl fp => sTn (ckB ck scope) tn tg' a5 _ WN (ge.blk hkb s H D cl fp))
              (fun s H D cl fp => sC cnd ifs (ckB ck scope) a6 _ WN (ge.blk hkb s H D cl fp))
              (fun s H D cl fp => (sE elt elt' (ckB ck scope) a7 _ WN (ge.blk hkb s H D cl fp)).1) (fold_ok a3)
            rw [own_eq] at z
            exact z
          · cases h2
        · cases h5
    · cases h
  | .par i j a b, x, ck, h, X, W, g => by
    simp only [chkS] at h
    split at h
    · simp only [Bool.and_eq_true, decide_eq_true_eq] at h
      obtain ⟨⟨⟨⟨⟨⟨⟨⟨⟨h1, h2⟩, h3⟩, h4⟩, h5⟩, h6⟩, h7⟩, h8⟩, h9⟩, h10⟩ := h
      have ge := g.toGoodE
      have hk : X.env.scope.kind = .function := by rw [g.sc]; exact g.kind
      exact s_par g.calm ge.ndX (ge.at h1) (ge.at h2) h3 (by rw [g.sc]; exact h4) (by rw [g.sc]; exact h5) (sE a _ ck h8 X W ge).1 (sE b _ ck h9 X W ge).1 (star_cons h6) (star_cons h7) (swp_ok hk (by rw [g.sc]; exact h10))
    · cases h
  | .aug i op e, x, ck, h, X, W, g => by
    simp only [chkS] at h
    split at h
    · simp only [Bool.and_eq_true, decide_eq_true_eq, Bool.or_eq_true] at h
      obtain ⟨⟨⟨⟨⟨h1, h2⟩, h3⟩, rfl⟩, h5⟩, h6⟩ := h
      have ge := g.toGoodE
      have ho : op = .add ∨ op = .sub := by cases op <;> first | exact .inl rfl | exact .inr rfl | cases h5
      exact s_aug op ho ge.ndX (ge.at h1) (ge.loc h2) (h3.imp (g.fn _) fun z => by rw [g.sc]; exact z) (sE e _ ck h6 X W ge).1
    · cases h
  | .expr e, x, ck, h, X, W, g => by
    simp only [chkS] at h
    split at h
    · simp only [Bool.and_eq_true] at h
      exact s_expr (sE e _ ck h.2 X W g.toGoodE).1 (notComp_ok h.1)
    · cases h
  | .app o e, x, ck, h, X, W, g => by
    simp only [chkS] at h
    split at h
    · simp only [Bool.and_eq_true, decide_eq_true_eq] at h
      obtain ⟨⟨⟨⟨⟨rfl, h2⟩, h3⟩, h4⟩, h5⟩, h6⟩ := h
      exact s_app (sE o _ ck h5 X W g.toGoodE).1 (sE e _ ck h6 X W g.toGoodE).1 (star_cons h4) (base_ok h3) h2
    · cases h
  | .ret e, x, ck, h, X, W, g => by
    simp only [chkS] at h
    split at h
    · exact s_ret (sE e _ ck h X W g.toGoodE).1
    · cases h
  | .retn, x, ck, h, X, W, g => by
    simp only [chkS] at h
    split at h
    · exact s_retn
    · cases h
  | .ite c a b, x, ck, h, X, W, g => by
    simp only [chkS] at h
    split at h
    · simp only [Bool.and_eq_true] at h
      exact s_ite (sE c _ ck h.1.1 X W g.toGoodE).2 (sSs a _ ck h.1.2 X W g) (sSs b _ ck h.2 X W g)
    · cases h
  | .whil c b, x, ck, h, X, W, g => by
    simp only [chkS] at h
    split at h
    · simp only [Bool.and_eq_true] at h
      exact s_whil g.pas (sE c _ ck h.1 X W g.toGoodE).2 (sSs b _ ck h.2 X W g)
    · cases h
  | .for t kk args b, x, ck, h, X, W, g => by
    simp only [chkS] at h
    split at h
    · simp only [Bool.and_eq_true] at h
      obtain ⟨⟨⟨h1, h2⟩, h3⟩, h4⟩ := h
      exact s_for g.pas g.calm (sI args _ _ ck kk h2 X W g.toGoodE) (sTn ck t _ h3 X W g.toGoodE) (sSs b _ ck h4 X W g) (fold_ok h1)
    · cases h
  | .raise c, x, ck, h, X, W, g => by
    simp only [chkS] at h
    split at h
    · rename_i y p1 p2 p3
      simp only [Bool.and_eq_true] at h
      obtain ⟨⟨⟨h1, h2⟩, h3⟩, h4⟩ := h
      obtain ⟨a, hc⟩ := g.ext.rz c h4
      obtain ⟨e1, e2, e3, e4, e5⟩ := g.ext.own c y (of_decide_eq_true h1) a hc
      exact s_raise g.calm g.takes PySem.F.excBase_ValueError e2 e1 e3 (raises_own e4 e5) (g.gl h2) (okN_ok h3).1 hc
    · cases h
  | .tryi b c t e cs, x, ck, h, X, W, g => by
    simp only [chkS] at h
    split at h
    · rename_i b' y p1 n tn p2 elts p3 p4 p5 p6
      simp only [Bool.and_eq_true, decide_eq_true_eq, Bool.or_eq_true] at h
      obtain ⟨⟨⟨⟨⟨⟨⟨⟨⟨⟨⟨⟨⟨h1, h2⟩, h3⟩, h4⟩, h5⟩, h6⟩, h7⟩, h8⟩, h9⟩, h10⟩, h11⟩, h12⟩, h13⟩, h14⟩ := h
      have ge := g.toGoodE
      obtain ⟨n1, n2⟩ := okN_ok h6
      obtain ⟨v, u, cn⟩ := g.ext.cls c y (of_decide_eq_true h2)
      rw [← ctx_sub cf.P k] at cn
      have hz : cs.length ≤ sizeLine := by rw [sizeLine_eq]; omega
      exact s_tryi (p4 := p4) g.stk g.frm ge.ndX (ge.at h4) (by show X.env.scope.names.lookup n = _; rw [g.sc]; exact h5) n1 n2 (ge.at h7) (ge.loc h8) (h9.imp (g.fn tn) fun z => by rw [g.sc]; exact z) h10 cn (ge.gl h3) g.takes (ge.gl h11) (ge.bl h12) g.ext.exc (chkIs_ok g h13) hz
        fun W' pn xe tk ps => sSs b b' ck h1 _ W' (g.tr pn xe tk ps)
    · cases h
  | .pass, x, ck, h, X, W, g => by
    simp only [chkS] at h
    split at h
    · exact s_pass
    · exact s_doc
    · cases h
  | .brk, x, ck, h, X, W, g => by
    simp only [chkS] at h
    split at h
    · exact s_brk
    · cases h
  | .cont, x, ck, h, X, W, g => by
    simp only [chkS] at h
    split at h
    · exact s_cont
    · cases h
theorem sSs : ∀ (l : List S) (l' : List Stmt) (ck : Ck), chkSs cf ck l l' = true → ∀ (X : Cx) (W : WX), GoodS cf ca k X ck W → PSs X l' (tSts X.K ca W (ctx cf.P k) l)
  | [], [], ck, _, X, W, g => ss_nil
  | [], _ :: _, ck, h, X, W, g => by simp [chkSs] at h
  | _ :: _, [], ck, h, X, W, g => by simp [chkSs] at h
  | s :: l, x :: r, ck, h, X, W, g => by
    simp only [chkSs, Bool.and_eq_true] at h
    exact ss_cons (sS s x ck h.1 X W g) (sSs l r ck h.2 X W g)
end
end
end PV
/-! PV11: functions of the text; the law's end. -/
namespace PV
open PySem PySem.Spec PyProof.Rows L2

/-- a def of the text: its statement, its slots, its parameters -/
structure FD where
  name : Str
  st : Stmt
  N : List Str
  ps : List Str
def fnScB (N ps : List Str) (sc : Scope) : Bool :=
  decide (sc.kind = .function) && decide (sc.isCoroutine = false) && decide (sc.isGenerator = false) && decide N.Nodup && decide (N.take ps.length = ps) && (ps.all fun x => locB sc x) && (sc.names.all fun y => decide (y.2 ≠ .free))
theorem fnScB_ok {N ps : List Str} {sc : Scope} (h : fnScB N ps sc = true) : FnScope N ps sc := by
  unfold fnScB at h
  simp only [Bool.and_eq_true, decide_eq_true_eq, List.all_eq_true] at h
  obtain ⟨⟨⟨⟨⟨⟨h1, h2⟩, h3⟩, h4⟩, h5⟩, h6⟩, h7⟩ := h
  exact ⟨h1, h2, h3, h4, h5, fun x hx => locB_ok (h6 x hx), h7⟩
def chkFn (cf : Cfg) (d : FD) (f : Fn) : Bool := fnScB d.N d.ps (defScope d.st) && decide (f.np = d.ps.length) && decide (f.ns = d.N.length) && chkSs cf ⟨d.N, defScope d.st, fun _ => true⟩ f.body (defBody d.st)
def chkAll (cf : Cfg) : List FD → List Fn → Bool
  | [], fs => fs.isEmpty
  | d :: r, fs => match fs with
    | [] => false
    | f :: fs => chkFn cf d f && chkAll cf r fs
theorem chkAll_get {cf : Cfg} : ∀ {ds : List FD} {fs : List Fn}, chkAll cf ds fs = true → ∀ (i : Nat) (d : FD), ds[i]? = some d → ∃ f, fs[i]? = some f ∧ chkFn cf d f = true
  | [], fs, h, i, d, e => by simp at e
  | x :: r, [], h, i, d, e => by simp [chkAll] at h
  | x :: r, f :: fs, h, 0, d, e => by
    simp only [chkAll, Bool.and_eq_true] at h
    have : x = d := by simpa using e
    subst this
    exact ⟨f, rfl, h.1⟩
  | x :: r, f :: fs, h, i + 1, d, e => by
    simp only [chkAll, Bool.and_eq_true] at h
    obtain ⟨g, h1, h2⟩ := chkAll_get h.2 i d (by simpa using e)
    exact ⟨g, by simpa using h1, h2⟩

section
variable {K : PySem.W.Frag} {ca : Nat → Option Addr} {F : Addr → Prop} {H : Hp}
theorem rep_nil (h : ∀ a, F a → H a ≠ none) : RepS K F [] [] H := ⟨rfl, .nil, h, fun a z => absurd z (by simp), fun n a us h1 => by simp at h1⟩
theorem repG_start {r : List Addr} {f : Fn} {N : List Str} {vs : List V} {us : List U} (d : DenUL K F r H vs us) (hn : f.ns = N.length) : RepG K F r H (start f us) (L2.start N vs) := by
  have hl := d.length
  refine ⟨by unfold start L2.start; simp [hl, hn], fun i u e => ?_⟩
  unfold start at e
  by_cases hi : i < us.length
  · rw [List.getElem?_append_left (by simpa using hi), List.getElem?_map] at e
    cases q : us[i]? with
    | none => rw [q] at e; cases e
    | some w =>
      rw [q] at e
      have : w = u := by simpa using e
      subst this
      obtain ⟨v, h1, h2⟩ := d.get q
      refine ⟨v, ?_, h2⟩
      unfold L2.start
      rw [List.getElem?_append_left (by simp; omega), List.getElem?_map, h1]
      rfl
  · rw [List.getElem?_append_right (by simpa using Nat.le_of_not_lt hi), List.getElem?_replicate] at e
    split at e <;> cases e
theorem snap_den {r : List Addr} {S : Sto} {u : U} {v : V} {d : PV.D} (R : RepS K F r S H) (h : DenU K F r H v u) (e : snap S u = some d) : Den K F H v d := by
  have less : Keep (fun a => F a ∨ a ∈ r) F H H := Keep.less fun a z => .inl z
  cases u with
  | d x =>
    have : x = d := by simpa [snap] using e
    subst this
    exact Den.keep less x v h
  | ref n =>
    cases q : S[n]? with
    | none => simp [snap, q] at e
    | some mo =>
      cases mo with
      | lst ws =>
        cases q2 : pures ws with
        | none => simp [snap, q, q2] at e
        | some ds =>
          have : PV.D.lst ds = d := by simpa [snap, q, q2] using e
          subst this
          obtain ⟨a, xs, rfl, hr, h3, h4⟩ := R.at h q
          exact .lst ⟨h3, R.apart a (List.mem_of_getElem? hr)⟩ (DenL.keep less _ _ (h4.pure q2))
/-- the body's reading at a pure call -/
theorem body_P {C : Ctx} {f : Fn} {N : List Str} {vs : List V} {ds : List PV.D} {Q : VK} {E : XK} (hF : ∀ a, F a → H a ≠ none) (d : DenL K F H vs ds) (hn : f.ns = N.length)
    (h : match runP C f ds with
      | .ok d => ∀ v H', Ext [] [] H H' → Den K F H' v d → Q v H'
      | .exc x => ∀ cls d H', Ext [] [] H H' → ExR ca x cls d → E cls d H'
      | .stuck => False) : tSts K ca (fun cls d _ H' => E cls d H') C f.body { nx := fun _ H' => Q .non H', rt := Q } (L2.start N vs) H := by
  have du : DenUL K F [] H vs (ds.map U.d) := by
    have less : Keep F (fun a => F a ∨ a ∈ ([] : List Addr)) H H := ⟨fun _ _ e _ => e, fun a z => z.elim .inl fun q => absurd q (by simp)⟩
    exact .of (DenL.keep less _ _ d)
  have down : ∀ {r' : List Addr} {H' : Hp}, Ext [] r' H H' → Ext [] [] H H' := fun {r' H'} e => ⟨⟨[], rfl⟩, e.keep, e.trk, fun a z => absurd z (by simp)⟩
  refine ⟨F, [], start f (ds.map U.d), [], rep_nil hF, repG_start du hn, ?_⟩
  unfold runP at h
  cases q : evSs C f.body (start f (ds.map U.d)) [] with
  | stuck => rw [q] at h; exact h.elim
  | exc x g S =>
    rw [q] at h
    exact fun cls d σ' r' H' e R G ex => h cls d H' (down e) ex
  | ok fl g S =>
    rw [q] at h
    cases fl with
    | nx => exact fun σ' r' H' e R G => h .non H' (down e) .non
    | brk => exact h.elim
    | cont => exact h.elim
    | ret u =>
      dsimp only at h
      intro v r' H' e R dv
      cases q2 : snap S u with
      | none => rw [q2] at h; exact h.elim
      | some d =>
        rw [q2] at h
        exact h v H' (down e) (snap_den R dv q2)
theorem body_S {C : Ctx} {f : Fn} {N : List Str} {vs : List V} {r : List Addr} {us : List U} {S : Sto} {Q : VK} {E : XK} (R : RepS K F r S H) (d : DenUL K F r H vs us) (hn : f.ns = N.length)
    (h : match runS C f us S with
      | .ok u S' => ∀ v r' H', Ext r r' H H' → RepS K F r' S' H' → DenU K F r' H' v u → Q v H'
      | .exc x S' => ∀ cls d r' H', Ext r r' H H' → RepS K F r' S' H' → ExR ca x cls d → E cls d H'
      | .stuck => False) : tSts K ca (fun cls d _ H' => E cls d H') C f.body { nx := fun _ H' => Q .non H', rt := Q } (L2.start N vs) H := by
  refine ⟨F, r, start f us, S, R, repG_start d hn, ?_⟩
  unfold runS at h
  cases q : evSs C f.body (start f us) S with
  | stuck => rw [q] at h; exact h.elim
  | exc x g S =>
    rw [q] at h
    exact fun cls d σ' r' H' e R G ex => h cls d r' H' e R ex
  | ok fl g S =>
    rw [q] at h
    cases fl with
    | nx => exact fun σ' r' H' e R G => h .non r' H' e R .non
    | brk => exact h.elim
    | cont => exact h.elim
    | ret u => exact fun v r' H' e R dv => h v r' H' e R dv
end

/-- what the top has left of the defs -/
structure Tops (cf : Cfg) (ds : List FD) (ca : Nat → Option Addr) (K : PySem.W.Frag) (mg : Str → Option Value) : Prop where
  bl : ∀ x, cf.bl.contains x = true → mg x = none
  gcd : cf.gcd = true → mg "gcd" = some (.builtin "math.gcd")
  gl : ∀ (i : Nat) (x : Str) (d : PV.D), cf.gnm[i]? = some x → cf.P.gls[i]? = some d → ∃ v u, mg x = some u ∧ RelV v u ∧ ∀ no H, Den K no H v d
  fn : ∀ (i : Nat) (d : FD), ds[i]? = some d → ∃ fa fd, Fun K d.name d.name d.st fa fd ∧ mg d.name = some (.ref fa) ∧ Binds K fd d.ps []
  nm : cf.fnm = ds.map (·.name)
  ext : ExT cf ca K mg
section
variable {cf : Cfg} {ds : List FD} {ca : Nat → Option Addr} {P : Program} {w : World} {K : PySem.W.Frag} {mg : Str → Option Value} {base : Heap}
theorem fn_run {k f : Nat} {fa : Addr} {fd : FuncData} {d : FD} {fn : Fn} (ih : Tab cf ca P w K mg base k) (hx : ExT cf ca K mg) (hF : Fun K d.name d.name d.st fa fd) (hfn : cf.P.fns[f]? = some fn) (hck : chkFn cf d fn = true) :
    FnOk P w K mg base (L2.CX P w) (k + 1) fa fd d.ps (spF K ca (ctx cf.P (k + 1)) f) := by
  unfold chkFn at hck
  simp only [Bool.and_eq_true, decide_eq_true_eq] at hck
  obtain ⟨⟨⟨c1, c2⟩, c3⟩, c4⟩ := hck
  have S := fnScB_ok c1
  refine Fun.okX hF S (fun vs H Q E z => ?_) (fun cdv A outer s H vs Q E hr z => ?_)
  · rcases z with ⟨F, es, _, dd, z⟩ | ⟨F, r, us, St, _, dd, z⟩
    · simp only [ctx, hfn] at z
      by_cases hl : es.length = fn.np
      · rw [dd.length, hl, c2]
      · rw [if_neg hl] at z; exact z.elim
    · simp only [ctx, hfn] at z
      by_cases hl : us.length = fn.np
      · rw [dd.length, hl, c2]
      · rw [if_neg hl] at z; exact z.elim
  · have g : GoodS cf ca k (cxOf (L2.CX P w) P w K mg base d.N d.name (defScope d.st) fa cdv A outer s H E) ⟨d.N, defScope d.st, fun _ => true⟩ (fun cls d _ H' => E cls d H') :=
      { N := rfl, nd := S.nd, sc := rfl, kind := S.kind, calm := rfl, fn := fun _ _ => rfl, room := hr, takes := takes_of rfl rfl rfl rfl, tab := ih, stk := rfl, frm := rfl, pas := passes_of rfl, ext := hx }
    refine ⟨_, sSs fn.body (defBody d.st) _ c4 _ _ g, ?_⟩
    rcases z with ⟨F, es, hF', dd, z⟩ | ⟨F, r, us, St, R, dd, z⟩
    · simp only [ctx, hfn] at z
      by_cases hl : es.length = fn.np
      · rw [if_pos hl] at z
        exact body_P hF' dd c3 z
      · rw [if_neg hl] at z; exact z.elim
    · simp only [ctx, hfn] at z
      by_cases hl : us.length = fn.np
      · rw [if_pos hl] at z
        exact body_S R dd c3 z
      · rw [if_neg hl] at z; exact z.elim
theorem tab_ok (T : Tops cf ds ca K mg) (hc : chkAll cf ds cf.P.fns = true) : ∀ k, Tab cf ca P w K mg base k := by
  have get : ∀ (f : Nat) (x : Str), cf.fnm[f]? = some x → ∃ d, ds[f]? = some d ∧ d.name = x := by
    intro f x h
    rw [T.nm, List.getElem?_map] at h
    cases q : ds[f]? with
    | none => rw [q] at h; cases h
    | some d => rw [q] at h; exact ⟨d, rfl, by simpa using h⟩
  intro k
  induction k with
  | zero =>
    refine ⟨T.bl, T.gcd, fun f x h => ?_, T.gl⟩
    obtain ⟨d, hd, rfl⟩ := get f x h
    obtain ⟨fa, fd, hF, hm, hb⟩ := T.fn f d hd
    have no : ∀ vs H Q E, ¬ spF K ca (ctx cf.P 0) f vs H Q E := by
      rintro vs H Q E (⟨F, es, _, _, z⟩ | ⟨F, r, us, S, _, _, z⟩)
      · exact z
      · exact z
    exact ⟨fa, fd, d.ps, ⟨fun vs H Q E z => (no _ _ _ _ z).elim, fun A outer s H args us vs Q E _ _ _ _ z => (no _ _ _ _ z).elim⟩, hm, hF.kp, hb⟩
  | succ k ih =>
    refine ⟨T.bl, T.gcd, fun f x h => ?_, T.gl⟩
    obtain ⟨d, hd, rfl⟩ := get f x h
    obtain ⟨fa, fd, hF, hm, hb⟩ := T.fn f d hd
    obtain ⟨fn, hfn, hck⟩ := chkAll_get hc f d hd
    exact ⟨fa, fd, d.ps, fn_run ih T.ext hF hfn hck, hm, hF.kp, hb⟩
/-- the law's promise -/
theorem law_sp {fl k n : Nat} (hlaw : ∀ ns : List Int, ns.length ≤ n → (ctx cf.P k).fp fl [.scr ns] = .ok (.bl true)) (K : PySem.W.Frag) (H : Hp) (a : Addr) (ns : List Int) (hl : ns.length ≤ n) (hS : SqL K H a (ns.map V.int)) :
    spF K ca (ctx cf.P k) fl [.ref a] H (fun v _ => v = .bl true) fun _ _ _ => False := by
  refine .inl ⟨fun _ => False, [.scr ns], fun _ z => z.elim, .cons (.scr ?_) .nil, ?_⟩
  · rcases hS with h | h
    · exact .inl ⟨h, fun z => z⟩
    · exact .inr h
  · rw [hlaw ns hl]
    intro v H' _ d
    cases d
    rfl
theorem law_cx (H : Hp) (s : Shared) (e : Value) (s' : Shared) (h : L2.CX P w [] H s (fun _ _ _ => False) e s') : False := by
  obtain ⟨_, _, _, _, _, _, _, _, _, _, _, _, z⟩ := h
  exact z
end
end PV
/-! PV12: what the top has left, fact by fact. -/
namespace PV
open PySem PySem.Spec PyProof.Rows L2
section
variable {cf : Cfg} {ds : List FD} {ca : Nat → Option Addr} {P : Program} {w : World} {K : PySem.W.Frag} {mg : Str → Option Value} {base : Heap}
/-- what the top has left of a def -/
def FnT (K : PySem.W.Frag) (mg : Str → Option Value) (d : FD) : Prop := ∃ fa fd, Fun K d.name d.name d.st fa fd ∧ mg d.name = some (.ref fa) ∧ Binds K fd d.ps []
theorem fn_top {h : Heap} {d : FD} {f : Addr} {od an : Option Addr} {sl : Array (Option Value)} {oc kV dc pm cd ct : Value} (X : K.In h) (G : h.Ns mainGlobals mg) (n : Str) (hn : d.name = n) (st : Stmt) (hs : d.st = st)
    (hb : ∀ (kV doc pm : Value) (an : Option Addr) (cdv ct : Value) (us : List Value), us.length = d.ps.length → bindArgs (PySem.W.fnOf n n (defArgs st) (defBody st) (defScope st) .none kV doc pm an cdv ct) ⟨us, []⟩ = pure (d.ps.zip us))
    (a : PySem.W.nsIn K mainGlobals n = some (some (.ref f)))
    (l : K.lookup f = some ⟨oc, od, .func (PySem.W.fnOf n n (defArgs st) (defBody st) (defScope st) .none kV dc pm an cd ct), sl⟩)
    (c : PySem.W.codeIn K cd n = true) (k : PySem.W.keepIn K (.ref f) = true) : FnT K mg d := by
  subst hn hs
  have F := fun_mk (st := d.st) l c k
  exact ⟨f, _, F, PySem.W.mg_of X G a, F.binds hb⟩
theorem all0 {α : Type} {p : α → Prop} : ∀ x ∈ ([] : List α), p x := fun x h => absurd h (by simp)
theorem all1 {α : Type} {p : α → Prop} {x : α} {l : List α} (h : p x) (t : ∀ y ∈ l, p y) : ∀ y ∈ x :: l, p y := fun y e => by
  rcases List.mem_cons.mp e with rfl | e
  · exact h
  · exact t y e
theorem bl_top {h : Heap} {bl : List Str} (X : K.In h) (G : h.Ns mainGlobals mg) (hb : ∀ x ∈ bl, PySem.W.nsIn K mainGlobals x = some none) : ∀ x, bl.contains x = true → mg x = none :=
  fun x e => PySem.W.mg_none_of X G (hb x (by simpa using e))
/-- a global's value -/
def GlT (K : PySem.W.Frag) (mg : Str → Option Value) (p : Str × PV.D) : Prop := ∃ v u, mg p.1 = some u ∧ RelV v u ∧ ∀ no H, Den K no H v p.2
theorem gl_int {h : Heap} {x : Str} {i : Int} {t : Nat} (X : K.In h) (G : h.Ns mainGlobals mg) (a : PySem.W.nsIn K mainGlobals x = some (some (.int i t))) : GlT K mg (x, .int i) :=
  ⟨.int i, _, PySem.W.mg_of X G a, ⟨t, rfl⟩, fun no H => .int i⟩
theorem gl_str {h : Heap} {x y : Str} {t : Nat} (X : K.In h) (G : h.Ns mainGlobals mg) (a : PySem.W.nsIn K mainGlobals x = some (some (.str y t))) : GlT K mg (x, .str y) :=
  ⟨.str y, _, PySem.W.mg_of X G a, ⟨t, rfl⟩, fun no H => .str y⟩
/-- a frozen value that lies in the module's part -/
def rdD (K : PySem.W.Frag) : Nat → Value → Option PV.D
  | 0, _ => none
  | n + 1, v => match v with
    | .none => some .non
    | .bool b => some (.bl b)
    | .int i _ => some (.int i)
    | .str x _ => some (.str x)
    | .ref a => match K.lookup a with
      | some ⟨.type "tuple", _, .seq its _, _⟩ => if its.size ≤ sizeLine then ((its.toList.mapM (rdD K n)).map PV.D.tup) else none
      | _ => none
    | _ => none
theorem rdDs_ok {n : Nat} (ih : ∀ (u : Value) (d : PV.D), rdD K n u = some d → ∃ v, RelV v u ∧ ∀ no H, Den K no H v d) : ∀ (us : List Value) (ds : List PV.D), us.mapM (rdD K n) = some ds → ∃ vs, Vals vs us ∧ ∀ no H, DenL K no H vs ds
  | [], ds, h => by
    have : ds = [] := by simpa using h.symm
    subst this
    exact ⟨[], .nil, fun _ _ => .nil⟩
  | u :: us, ds, h => by
    simp only [List.mapM_cons, Option.bind_eq_bind, Option.bind_eq_some_iff] at h
    obtain ⟨d, h1, ds', h2, h3⟩ := h
    cases h3
    obtain ⟨v, r, dv⟩ := ih u d h1
    obtain ⟨vs, rs, dvs⟩ := rdDs_ok ih us ds' h2
    exact ⟨v :: vs, .cons r rs, fun no H => .cons (dv no H) (dvs no H)⟩
theorem rdD_ok : ∀ (n : Nat) (u : Value) (d : PV.D), rdD K n u = some d → ∃ v, RelV v u ∧ ∀ no H, Den K no H v d
  | 0, u, d, h => by simp [rdD] at h
  | n + 1, u, d, h => by
    unfold rdD at h
    split at h
    · cases h; exact ⟨.non, rfl, fun _ _ => .non⟩
    · cases h; exact ⟨.bl _, rfl, fun _ _ => .bl _⟩
    · cases h; exact ⟨.int _, ⟨_, rfl⟩, fun _ _ => .int _⟩
    · cases h; exact ⟨.str _, ⟨_, rfl⟩, fun _ _ => .str _⟩
    · split at h
      · rename_i q
        split at h
        · rename_i hs
          obtain ⟨ds, h1, rfl⟩ := Option.map_eq_some_iff.mp h
          obtain ⟨vs, rs, dvs⟩ := rdDs_ok (rdD_ok n) _ _ h1
          exact ⟨.ref _, rfl, fun no H => .tup (.inr ⟨_, _, _, q, rfl, rfl, hs, rs⟩) (dvs no H)⟩
        · cases h
      · cases h
    · cases h
theorem gl_any {h : Heap} {x : Str} {u : Value} {d : PV.D} (n : Nat) (X : K.In h) (G : h.Ns mainGlobals mg) (a : PySem.W.nsIn K mainGlobals x = some (some u)) (e : rdD K n u = some d) : GlT K mg (x, d) := by
  obtain ⟨v, r, dv⟩ := rdD_ok n u d e
  exact ⟨v, u, PySem.W.mg_of X G a, r, dv⟩
/-- a tuple of whole numbers -/
def intsV : List Value → Option (List Int)
  | [] => some []
  | .int i _ :: r => (intsV r).map (i :: ·)
  | _ => none
theorem intsV_ok : ∀ {us : List Value} {ns : List Int}, intsV us = some ns → Vals (ns.map V.int) us
  | [], ns, h => by
    have : ns = [] := by simpa [intsV] using h.symm
    subst this
    exact .nil
  | u :: r, ns, h => by
    unfold intsV at h
    split at h
    · rename_i q; cases q
    · rename_i q
      cases q
      obtain ⟨ms, h1, rfl⟩ := Option.map_eq_some_iff.mp h
      exact .cons ⟨_, rfl⟩ (intsV_ok h1)
    · cases h
theorem gl_ints {h : Heap} {x : Str} {f : Addr} {od : Option Addr} {its : Array Value} {n : Nat} {sl : Array (Option Value)} (ns : List Int) (X : K.In h) (G : h.Ns mainGlobals mg) (a : PySem.W.nsIn K mainGlobals x = some (some (.ref f))) (l : K.lookup f = some ⟨.type "tuple", od, .seq its n, sl⟩) (e : intsV its.toList = some ns) (hs : its.size ≤ sizeLine) : GlT K mg (x, .tup (ns.map PV.D.int)) := by
  refine ⟨.ref f, _, PySem.W.mg_of X G a, rfl, fun no H => .tup (.inr ⟨_, _, _, l, rfl, rfl, hs, intsV_ok e⟩) ?_⟩
  clear e hs l
  induction ns with
  | nil => exact .nil
  | cons i r ih => exact .cons (.int i) ih
theorem gls_get : ∀ {xs : List Str} {ds : List PV.D}, (∀ p ∈ xs.zip ds, GlT K mg p) → ∀ (i : Nat) (x : Str) (d : PV.D), xs[i]? = some x → ds[i]? = some d → ∃ v u, mg x = some u ∧ RelV v u ∧ ∀ no H, Den K no H v d
  | [], _, _, i, x, d, h1, h2 => by simp at h1
  | _ :: _, [], _, i, x, d, h1, h2 => by simp at h2
  | y :: xs, e :: ds, h, 0, x, d, h1, h2 => by
    have : y = x := by simpa using h1
    subst this
    have : e = d := by simpa using h2
    subst this
    exact h (y, e) (by simp)
  | y :: xs, e :: ds, h, i + 1, x, d, h1, h2 => gls_get (xs := xs) (ds := ds) (fun p hp => h p (by simp [hp])) i x d (by simpa using h1) (by simpa using h2)
/-- the classes of exceptions that may be raised: places and addresses -/
def caOf (l : List (Nat × Addr)) (k : Nat) : Option Addr := l.lookup k
theorem caOf_mem : ∀ {l : List (Nat × Addr)} {k : Nat} {a : Addr}, caOf l k = some a → (k, a) ∈ l
  | [], k, a, h => by simp [caOf] at h
  | (k', a') :: l, k, a, h => by
    unfold caOf at h
    rw [List.lookup_cons] at h
    cases q : k == k' with
    | true =>
      rw [q] at h
      have e1 : k = k' := by simpa using q
      have e2 : a' = a := by simpa using h
      simp [e1, e2]
    | false =>
      rw [q] at h
      exact List.mem_cons_of_mem _ (caOf_mem (l := l) h)
theorem kit_of {t c : Value} {b : Bool} (h : PySem.W.exmOne K t c = some b) (e : (t == c) = true → b = true) : PySem.W.kitOne K t c = some b := by
  unfold PySem.W.kitOne
  split
  · rename_i q; rw [e q]
  · unfold PySem.W.exmOne at h
    split at h
    · exact h
    · cases h
def ClsT (K : PySem.W.Frag) (mg : Str → Option Value) (l : List (Nat × Addr)) (sub : Nat → Nat → Bool) (p : Nat × Str) : Prop := ∃ v u, ClsN K mg (caOf l) sub p.2 p.1 v u
theorem cls_own {h : Heap} {l : List (Nat × Addr)} {sub : Nat → Nat → Bool} {j : Nat} {x : Str} {C : Addr} (X : K.In h) (G : h.Ns mainGlobals mg) (hx : (x == ("__debug__" : Str)) = false) (a : PySem.W.nsIn K mainGlobals x = some (some (.ref C)))
    (sb : PySem.W.subIn K (.ref C) (.type "BaseException") = some true) (hd : PySem.W.hasDictIn K C = true) (ty : PySem.W.typeIn K (.ref C) = some (.type "type")) (hl : ∀ p ∈ l, PySem.W.subIn K (.ref p.2) (.ref C) = some (sub p.1 j) ∧ (p.2 = C → sub p.1 j = true)) : ClsT K mg l sub (j, x) := by
  have ex : ∀ k a, caOf l k = some a → PySem.W.exmOne K (.ref a) (.ref C) = some (sub k j) := fun k a e => PySem.W.exm_ref sb hd ty (hl _ (caOf_mem e)).1
  exact ⟨.ref C, .ref C, .inl (PySem.W.mg_of X G a), hx, rfl, fun w h => h, ex, fun k a e => kit_of (ex k a e) fun q => (hl _ (caOf_mem e)).2 (by simpa using q)⟩
theorem cls_type {h : Heap} {l : List (Nat × Addr)} {sub : Nat → Nat → Bool} {j : Nat} {x : Str} {T : String} (X : K.In h) (G : h.Ns mainGlobals mg) (hx : (x == ("__debug__" : Str)) = false) (hn : x ≠ "__name__") (hb : bootBuiltins x = some (.type T)) (a : PySem.W.nsIn K mainGlobals x = some none)
    (ht : PySem.W.kitMeta T = true) (sb : PySem.W.subIn K (.type T) (.type "BaseException") = some true) (hl : ∀ p ∈ l, PySem.W.subIn K (.ref p.2) (.type T) = some (sub p.1 j)) : ClsT K mg l sub (j, x) := by
  have ex : ∀ k a, caOf l k = some a → PySem.W.exmOne K (.ref a) (.type T) = some (sub k j) := fun k a e => by
    unfold PySem.W.exmOne
    rw [sb, if_pos (by rfl)]
    unfold PySem.W.kitCls
    dsimp only
    rw [if_pos ht]
    exact hl _ (caOf_mem e)
  exact ⟨.ty T, .type T, .inr ⟨PySem.W.mg_none_of X G a, hb, hn⟩, hx, rfl, fun w h => h, ex, fun k a e => kit_of (ex k a e) fun q => by simp at q⟩
/-- a raised class -/
structure RzT (K : PySem.W.Frag) (mg : Str → Option Value) (x : Str) (a : Addr) : Prop where
  ec : ExcC K a
  m : mg x = some (.ref a)
  xi : PySem.W.excIn K a [.type "ValueError", .type "Exception", .type "BaseException", .type "object"] "ValueError.__new__" = true
  kp : PySem.W.keepIn K (.ref a) = true
  sb : PySem.W.subIn K (.ref a) (.type "BaseException") = some true
  ty : PySem.W.typeIn K (.ref a) = some (.type "type")
theorem zip_range_get {α : Type} {xs : List α} {j : Nat} {x : α} (h : xs[j]? = some x) : (j, x) ∈ (List.range xs.length).zip xs := by
  obtain ⟨hj, rfl⟩ := List.getElem?_eq_some_iff.mp h
  rw [List.mem_iff_getElem]
  exact ⟨j, by simpa using hj, by simp⟩
theorem ext_mk {l : List (Nat × Addr)} (hc : ∀ p ∈ (List.range cf.cnm.length).zip cf.cnm, ClsT K mg l (ctx cf.P 0).sub p) (hr : ∀ p ∈ l, ∃ x, cf.cnm[p.1]? = some x ∧ RzT K mg x p.2) (hz : ∀ j ∈ cf.rz, (l.lookup j).isSome = true) : ExT cf (caOf l) K mg where
  cls := fun j x h => hc (j, x) (zip_range_get h)
  exc := fun k a h => by
    obtain ⟨x, _, r⟩ := hr _ (caOf_mem h)
    exact r.ec
  rz := fun j h => by
    have := hz j (by simpa using h)
    exact Option.isSome_iff_exists.mp this
  own := fun j x hx a h => by
    obtain ⟨y, hy, r⟩ := hr _ (caOf_mem h)
    have e : y = x := Option.some.inj (hy.symm.trans hx)
    subst e
    exact ⟨r.m, r.xi, r.kp, r.sb, r.ty⟩
theorem all_rz {l : List (Nat × Addr)} : ∀ {rz : List Nat}, rz = l.map (·.1) → ∀ j, j ∈ rz → (l.lookup j).isSome = true := by
  intro rz e j h
  subst e
  induction l with
  | nil => simp at h
  | cons p l ih =>
    rw [List.lookup_cons]
    cases q : j == p.1 with
    | true => rfl
    | false =>
      rcases List.mem_cons.mp h with e | e
      · simp [e] at q
      · exact ih e
theorem tops_mk {l : List (Nat × Addr)} (hb : ∀ x, cf.bl.contains x = true → mg x = none) (hg : cf.gcd = true → mg "gcd" = some (.builtin "math.gcd")) (hl : ∀ p ∈ cf.gnm.zip cf.P.gls, GlT K mg p) (hf : ∀ d ∈ ds, FnT K mg d) (hn : cf.fnm = ds.map (·.name)) (hx : ExT cf (caOf l) K mg) : Tops cf ds (caOf l) K mg where
  bl := hb
  gcd := hg
  gl := fun i x d h1 h2 => gls_get hl i x d h1 h2
  fn := fun i d h => hf d (List.mem_of_getElem? h)
  nm := hn
  ext := hx
/-- the law's promise, with no word of what the top has left -/
def spLaw (K : PySem.W.Frag) (n : Nat) : Sp := fun vs H Q _ => ∃ (a : Addr) (ns : List Int), vs = [.ref a] ∧ ns.length ≤ n ∧ SqL K H a (ns.map V.int) ∧ ∀ H', Q (.bl true) H'
theorem end_mk {n k li : Nat} {fa : Addr} {d : FD} {p : Str} (T : Tops cf ds ca K mg) (hc : chkAll cf ds cf.P.fns = true) (hd : ds[li]? = some d) (x : Str) (hx : d.name = x) (hm : mg x = some (.ref fa)) (hp : d.ps = [p]) (st : Stmt) (hst : d.st = st)
    (hb : ∀ (kV doc pm : Value) (an : Option Addr) (cdv ct u : Value), bindArgs (PySem.W.fnOf x x (defArgs st) (defBody st) (defScope st) .none kV doc pm an cdv ct) ⟨[u], []⟩ = pure [(p, u)])
    (hlaw : ∀ ns : List Int, ns.length ≤ n → (ctx cf.P (k + 1)).fp li [.scr ns] = .ok (.bl true)) :
    ∃ fd : FuncData, (∀ (s : Shared) (u : Value), BindsTo s fd ⟨[u], []⟩ [(p, u)]) ∧ ∀ base : Heap, K.In base → base.Ns mainGlobals mg → FnOk P w K mg base (L2.CX P w) (k + 1) fa fd [p] (spLaw K n) := by
  subst hx hst
  obtain ⟨fa', fd, hF, hm', _⟩ := T.fn li d hd
  have e := hm.symm.trans hm'
  cases e
  obtain ⟨fn, hfn, hck⟩ := chkAll_get hc li d hd
  refine ⟨fd, fun s u => ?_, fun base _ _ => ?_⟩
  · obtain ⟨oc, od, kV, doc, pm, an, cdv, ct, osl, rfl, lk, hcd⟩ := hF.ex
    exact .of_eq (hb kV doc pm an cdv ct u)
  · have F := fn_run (P := P) (w := w) (base := base) (tab_ok T hc k) T.ext hF hfn hck
    rw [hp] at F
    refine F.imp fun vs H Q E z => ?_
    obtain ⟨a, ns, rfl, hl, hS, hq⟩ := z
    rcases law_sp (ca := ca) hlaw K H a ns hl hS with ⟨F', es, hF', dd, z⟩ | ⟨F', r, us, S, R, dd, z⟩
    · refine .inl ⟨F', es, hF', dd, ?_⟩
      revert z
      cases (ctx cf.P (k + 1)).fp li es with
      | ok d' => exact fun z v H' e1 e2 => by rw [z v H' e1 e2]; exact hq H'
      | exc x => exact fun z cls d' H' e1 e2 => (z cls d' H' e1 e2).elim
      | stuck => exact id
    · refine .inr ⟨F', r, us, S, R, dd, ?_⟩
      revert z
      cases (ctx cf.P (k + 1)).fn li us S with
      | ok d' S' => exact fun z v r' H' e1 e2 e3 => by rw [z v r' H' e1 e2 e3]; exact hq H'
      | exc x S' => exact fun z cls d' r' H' e1 e2 e3 => (z cls d' r' H' e1 e2 e3).elim
      | stuck => exact id
end
end PV
/-! PV13: reading the evaluator's answers. -/
namespace PV
open PySem

/-! ### an end that is reached -/
def Res.sat {α : Type} (r : Res α) (Q : α → Sto → Prop) : Prop := ∃ a S, r = .ok a S ∧ Q a S
def RS.sat (r : RS) (Q : Fl → Gam → Sto → Prop) : Prop := ∃ f g S, r = .ok f g S ∧ Q f g S
@[simp] theorem Res.sat_ok {α : Type} {a : α} {S : Sto} {Q : α → Sto → Prop} : (Res.ok a S).sat Q ↔ Q a S := ⟨fun ⟨_, _, e, h⟩ => by cases e; exact h, fun h => ⟨_, _, rfl, h⟩⟩
@[simp] theorem RS.sat_ok {f : Fl} {g : Gam} {S : Sto} {Q : Fl → Gam → Sto → Prop} : (RS.ok f g S).sat Q ↔ Q f g S := ⟨fun ⟨_, _, _, e, h⟩ => by cases e; exact h, fun h => ⟨_, _, _, rfl, h⟩⟩
theorem Res.sat_exc {α : Type} {x : Exn} {S : Sto} {Q : α → Sto → Prop} : (Res.exc x S : Res α).sat Q ↔ False := ⟨fun ⟨_, _, e, h⟩ => by (cases e), False.elim⟩
theorem Res.sat_stuck {α : Type} {Q : α → Sto → Prop} : (Res.stuck : Res α).sat Q ↔ False := ⟨fun ⟨_, _, e, h⟩ => by (cases e), False.elim⟩
theorem RS.sat_exc {x : Exn} {g : Gam} {S : Sto} {Q : Fl → Gam → Sto → Prop} : (RS.exc x g S).sat Q ↔ False := ⟨fun ⟨_, _, _, e, h⟩ => by (cases e), False.elim⟩
theorem RS.sat_stuck {Q : Fl → Gam → Sto → Prop} : RS.stuck.sat Q ↔ False := ⟨fun ⟨_, _, _, e, h⟩ => by (cases e), False.elim⟩
theorem Res.sat_bind {α β : Type} {r : Res α} {f : α → Sto → Res β} {Q : β → Sto → Prop} : (r.bind f).sat Q ↔ r.sat fun a S => (f a S).sat Q := by
  cases r with
  | ok a S => rw [Res.bind_ok, Res.sat_ok]
  | exc x S => rw [Res.bind_exc, Res.sat_exc, Res.sat_exc]
  | stuck => rw [Res.bind_stuck, Res.sat_stuck, Res.sat_stuck]
theorem sat_withR {α : Type} {r : Res α} {g : Gam} {f : α → Sto → RS} {Q : Fl → Gam → Sto → Prop} : (withR r g f).sat Q ↔ r.sat fun a S => (f a S).sat Q := by
  cases r with
  | ok a S => rw [withR_ok, Res.sat_ok]
  | exc x S => rw [withR_exc, RS.sat_exc, Res.sat_exc]
  | stuck => rw [withR_stuck, RS.sat_stuck, Res.sat_stuck]
@[simp] theorem seqK_nx {k : Gam → Sto → RS} {g : Gam} {S : Sto} : seqK k (.ok .nx g S) = k g S := nr rfl
@[simp] theorem seqK_ret {k : Gam → Sto → RS} {u : U} {g : Gam} {S : Sto} : seqK k (.ok (.ret u) g S) = .ok (.ret u) g S := nr rfl
@[simp] theorem seqK_brk {k : Gam → Sto → RS} {g : Gam} {S : Sto} : seqK k (.ok .brk g S) = .ok .brk g S := nr rfl
@[simp] theorem seqK_cont {k : Gam → Sto → RS} {g : Gam} {S : Sto} : seqK k (.ok .cont g S) = .ok .cont g S := nr rfl
@[simp] theorem seqK_exc {k : Gam → Sto → RS} {x : Exn} {g : Gam} {S : Sto} : seqK k (.exc x g S) = .exc x g S := nr rfl
@[simp] theorem seqK_stuck {k : Gam → Sto → RS} : seqK k .stuck = .stuck := nr rfl
theorem Res.sat_mono {α : Type} {r : Res α} {Q Q' : α → Sto → Prop} (h : r.sat Q) (i : ∀ a S, Q a S → Q' a S) : r.sat Q' :=
  let ⟨a, S, e, q⟩ := h; ⟨a, S, e, i a S q⟩
theorem RS.sat_mono {r : RS} {Q Q' : Fl → Gam → Sto → Prop} (h : r.sat Q) (i : ∀ f g S, Q f g S → Q' f g S) : r.sat Q' :=
  let ⟨f, g, S, e, q⟩ := h; ⟨f, g, S, e, i f g S q⟩
theorem Res.sat_iff {α : Type} {r : Res α} {Q : α → Sto → Prop} : r.sat Q ↔ ∃ a S, r = .ok a S ∧ Q a S := .rfl
theorem RS.sat_iff {r : RS} {Q : Fl → Gam → Sto → Prop} : r.sat Q ↔ ∃ f g S, r = .ok f g S ∧ Q f g S := .rfl

/-! ### operators -/
section
variable {m : Bool} {i j : Int} {S : Sto}
@[simp] theorem opB_add : opB m .add (.d (.int i)) (.d (.int j)) S = .ok (.d (.int (i + j))) S := nr rfl
@[simp] theorem opB_sub : opB m .sub (.d (.int i)) (.d (.int j)) S = .ok (.d (.int (i - j))) S := nr rfl
theorem log2_lt {n k : Nat} (h : n < 2 ^ k) (hk : 0 < k) : n.log2 < k := by
  by_cases h0 : n = 0
  · subst h0; simpa using hk
  · exact (Nat.log2_lt h0).mpr h
theorem opB_mul {n k : Nat} (hi : i.natAbs < 2 ^ n) (hj : j.natAbs < 2 ^ k) (hs : n + k ≤ 1000000) : opB m .mul (.d (.int i)) (.d (.int j)) S = .ok (.d (.int (i * j))) S := by
  have h1 : i.natAbs.log2 < n + 1 := log2_lt (Nat.lt_of_lt_of_le hi (Nat.pow_le_pow_right (by decide) (by omega))) (by omega)
  have h2 : j.natAbs.log2 < k + 1 := log2_lt (Nat.lt_of_lt_of_le hj (Nat.pow_le_pow_right (by decide) (by omega))) (by omega)
  have h3 : i.natAbs.log2 ≤ n ∧ (n = 0 ∨ i.natAbs.log2 < n) := by
    refine ⟨by omega, ?_⟩
    by_cases e : n = 0
    · exact .inl e
    · exact .inr (log2_lt hi (by omega))
  have h4 : k = 0 ∨ j.natAbs.log2 < k := by
    by_cases e : k = 0
    · exact .inl e
    · exact .inr (log2_lt hj (by omega))
  show (if i.natAbs.log2 + j.natAbs.log2 < 1000000 then (Res.ok (.d (.int (i * j))) S : Res U) else .stuck) = _
  rw [if_pos]
  have hn : n = 0 → i.natAbs.log2 = 0 := fun e => by subst e; have : i.natAbs = 0 := by omega
                                                     rw [this]; rfl
  have hk : k = 0 → j.natAbs.log2 = 0 := fun e => by subst e; have : j.natAbs = 0 := by omega
                                                     rw [this]; rfl
  omega
theorem opB_fdiv (h0 : j ≠ 0) (hj : j.natAbs < 2 ^ 9000) : opB m .fdiv (.d (.int i)) (.d (.int j)) S = .ok (.d (.int (i.fdiv j))) S := if_pos ⟨h0, log2_lt hj (by decide)⟩
theorem opB_fdivN {k : Nat} (h0 : j ≠ 0) (hj : j.natAbs < 2 ^ k) (hk : k ≤ 9000) : opB m .fdiv (.d (.int i)) (.d (.int j)) S = .ok (.d (.int (i.fdiv j))) S := opB_fdiv h0 (Nat.lt_of_lt_of_le hj (Nat.pow_le_pow_right (by decide) hk))
theorem opB_mod (h0 : j ≠ 0) : opB m .mod (.d (.int i)) (.d (.int j)) S = .ok (.d (.int (i.fmod j))) S := if_pos h0
theorem opB_pow (h0 : 0 ≤ j) (h1 : j ≤ 1000000) (h2 : i.natAbs < 2 ^ 64) : opB m .pow (.d (.int i)) (.d (.int j)) S = .ok (.d (.int (i ^ j.toNat))) S := if_pos ⟨h0, h1, h2⟩
theorem opB_tup {a b : List D} (h : a.length + b.length ≤ sizeLine) : opB m .add (.d (.tup a)) (.d (.tup b)) S = .ok (.d (.tup (a ++ b))) S := if_pos (decide_eq_true h)
@[simp] theorem pures_map (l : List D) : pures (l.map U.d) = some l := by
  induction l with
  | nil => rfl
  | cons x l ih => simp [pures, ih]
theorem opB_lst {a b : List D} (h : a.length + b.length ≤ sizeLine) : opB false .add (.d (.lst a)) (.d (.lst b)) S = .ok (.d (.lst (a ++ b))) S := by
  show (if fits ((a.map U.d).length + (b.map U.d).length) then mkL false (a.map U.d ++ b.map U.d) S else .stuck) = _
  rw [if_pos (show fits _ = true from decide_eq_true (by simpa using h)), ← List.map_append]
  show (match pures ((a ++ b).map U.d) with | some ds => Res.ok (U.d (D.lst ds)) S | none => .stuck) = _
  rw [pures_map]
@[simp] theorem opC_lt : opC .lt (.d (.int i)) (.d (.int j)) S = .ok (.d (.bl (decide (i < j)))) S := nr rfl
@[simp] theorem opC_le : opC .le (.d (.int i)) (.d (.int j)) S = .ok (.d (.bl (decide (i ≤ j)))) S := nr rfl
@[simp] theorem opC_gt : opC .gt (.d (.int i)) (.d (.int j)) S = .ok (.d (.bl (decide (j < i)))) S := nr rfl
@[simp] theorem opC_ge : opC .ge (.d (.int i)) (.d (.int j)) S = .ok (.d (.bl (decide (j ≤ i)))) S := nr rfl
@[simp] theorem opC_eqI : opC .eq (.d (.int i)) (.d (.int j)) S = .ok (.d (.bl (i == j))) S := nr rfl
@[simp] theorem opC_neI : opC .ne (.d (.int i)) (.d (.int j)) S = .ok (.d (.bl (!(i == j)))) S := nr rfl
@[simp] theorem opC_eqB {a b : Bool} : opC .eq (.d (.bl a)) (.d (.bl b)) S = .ok (.d (.bl (a == b))) S := nr rfl
@[simp] theorem opC_neB {a b : Bool} : opC .ne (.d (.bl a)) (.d (.bl b)) S = .ok (.d (.bl (!(a == b)))) S := nr rfl
theorem opC_eqD {a b : D} (h1 : okD a = true) (h2 : okD b = true) : opC .eq (.d a) (.d b) S = .ok (.d (.bl (eqD a b))) S := if_pos (by rw [h1, h2]; rfl)
theorem opC_neD {a b : D} (h1 : okD a = true) (h2 : okD b = true) : opC .ne (.d a) (.d b) S = .ok (.d (.bl (!eqD a b))) S := if_pos (by rw [h1, h2]; rfl)
theorem opC_inD {a : D} {l : List D} (h1 : okD a = true) (h2 : okD (.lst l) = true) : opC .in_ (.d a) (.d (.lst l)) S = .ok (.d (.bl (l.any fun z => eqD z a))) S := if_pos (by rw [h1, h2]; rfl)
@[simp] theorem opC_is_non {a : D} : opC .is_ (.d a) (.d .non) S = .ok (.d (.bl (isNon a))) S := by cases a <;> rfl
@[simp] theorem opC_isnot_non {a : D} : opC .isnot (.d a) (.d .non) S = .ok (.d (.bl (!isNon a))) S := by cases a <;> rfl
@[simp] theorem opC_is_bl {a b : Bool} : opC .is_ (.d (.bl a)) (.d (.bl b)) S = .ok (.d (.bl (decide (a = b)))) S := nr rfl
@[simp] theorem truth_bl {b : Bool} : truth S (.d (.bl b)) = some b := nr rfl
@[simp] theorem truS_bl {b : Bool} : truS (.d (.bl b)) S = .ok b S := nr rfl
@[simp] theorem truS_int : truS (.d (.int i)) S = .ok (i != 0) S := nr rfl
@[simp] theorem tru_bl {b : Bool} : tru (.ok (.d (.bl b)) S) = .ok b S := nr rfl
@[simp] theorem negU_int : negU (.d (.int i)) S = .ok (.d (.int (-i))) S := nr rfl
@[simp] theorem intU_int : intU (.d (.int i)) S = .ok (some i) S := nr rfl
@[simp] theorem chainK_bl {b : Bool} {k : Sto → Res U} : chainK (.d (.bl b)) k S = if b = true then k S else .ok (.d (.bl false)) S := nr rfl
@[simp] theorem isiU_d {t : Ty} {x : D} : isiU t (.d x) S = match isTy t x with | some b => .ok (.d (.bl b)) S | none => .stuck := nr rfl
@[simp] theorem prU_ok {d : D} : prU (.ok d) S = .ok (.d d) S := nr rfl
@[simp] theorem prU_exc {x : Exn} : prU (.exc x) S = .exc x S := nr rfl
@[simp] theorem items_tup {l : List D} : items S (.d (.tup l)) = some (l.map U.d) := nr rfl
@[simp] theorem items_lst {l : List D} : items S (.d (.lst l)) = some (l.map U.d) := nr rfl
@[simp] theorem items_scr {l : List Int} : items S (.d (.scr l)) = some (l.map fun i => U.d (.int i)) := nr rfl
@[simp] theorem lstItems_lst {l : List D} : lstItems S (.d (.lst l)) = some (l.map U.d) := nr rfl
theorem atI_pos {α : Type} {l : List α} (h : 0 ≤ i) (h2 : i < l.length) : L2.atI l i = l[i.toNat]? := by
  unfold L2.atI L2.ixN
  rw [if_pos h, if_pos h2]; rfl
theorem atI_neg {α : Type} {l : List α} (h : i < 0) (h2 : -(l.length : Int) ≤ i) : L2.atI l i = l[(i + l.length).toNat]? := by
  unfold L2.atI L2.ixN
  rw [if_neg (by omega), if_pos h2]; rfl
theorem atI_map {α β : Type} {f : α → β} {l : List α} : L2.atI (l.map f) i = (L2.atI l i).map f := by
  unfold L2.atI
  rw [List.length_map]
  cases L2.ixN l.length i with
  | none => rfl
  | some k => simp
@[simp] theorem atI_0 {α : Type} {x : α} {l : List α} : L2.atI (x :: l) 0 = some x := by
  rw [atI_pos (by decide) (by simp)]; rfl
@[simp] theorem atI_1 {α : Type} {x y : α} {l : List α} : L2.atI (x :: y :: l) 1 = some y := by
  rw [atI_pos (by decide) (by simp; omega)]; rfl
theorem getIx_it {x : U} {l : List U} {u : U} (hx : ∀ z, x ≠ .d (.str z)) (h : items S x = some l) (h2 : L2.atI l i = some u) : getIx x (.d (.int i)) S = .ok u S := by
  cases x with
  | d x => cases x <;> first | (exact absurd rfl (hx _)) | (simp only [getIx, h, h2])
  | ref n => simp only [getIx, h, h2]
@[simp] theorem getIx_tup {l : List D} : getIx (.d (.tup l)) (.d (.int i)) S = match L2.atI l i with | some d => .ok (.d d) S | none => .stuck := by
  show (match L2.atI (l.map U.d) i with | some u => Res.ok u S | none => .stuck) = _
  rw [atI_map]
  cases L2.atI l i <;> rfl
@[simp] theorem getIx_lst {l : List D} : getIx (.d (.lst l)) (.d (.int i)) S = match L2.atI l i with | some d => .ok (.d d) S | none => .stuck := by
  show (match L2.atI (l.map U.d) i with | some u => Res.ok u S | none => .stuck) = _
  rw [atI_map]
  cases L2.atI l i <;> rfl
theorem getIx_ref {n : Nat} {us : List U} (h : S[n]? = some (.lst us)) : getIx (.ref n) (.d (.int i)) S = match L2.atI us i with | some u => .ok u S | none => .stuck := by
  have : items S (.ref n) = some us := by unfold items; dsimp only; rw [h]
  unfold getIx
  dsimp only
  rw [this]
  all_goals rfl
@[simp] theorem getSl_tup {xs : List D} {l h : Option Int} : getSl m (.d (.tup xs)) l h S = .ok (.d (.tup (cutL xs l h))) S := nr rfl
@[simp] theorem getRev_tup {xs : List D} : getRev m (.d (.tup xs)) S = .ok (.d (.tup xs.reverse)) S := nr rfl
theorem cutL_map {α β : Type} (f : α → β) (xs : List α) (l h : Option Int) : cutL (xs.map f) l h = (cutL xs l h).map f := by
  unfold cutL
  simp [List.map_take, List.map_drop]
@[simp] theorem getSl_lst {xs : List D} {l h : Option Int} : getSl false (.d (.lst xs)) l h S = .ok (.d (.lst (cutL xs l h))) S := by
  show mkL false (cutL (xs.map U.d) l h) S = _
  rw [cutL_map]
  simp [mkL]
theorem cutL_sub {α : Type} {xs : List α} {l h : Option Int} : (cutL xs l h).Sublist xs := by
  unfold cutL
  exact (List.take_sublist _ _).trans (List.drop_sublist _ _)
@[simp] theorem opF_len_tup {l : List D} : opF m .len [.d (.tup l)] S = .ok (.d (.int l.length)) S := by simp [opF]
@[simp] theorem opF_len_lst {l : List D} : opF m .len [.d (.lst l)] S = .ok (.d (.int l.length)) S := by simp [opF]
@[simp] theorem opF_len_scr {l : List Int} : opF m .len [.d (.scr l)] S = .ok (.d (.int l.length)) S := by simp [opF]
@[simp] theorem opF_abs : opF m .abs [.d (.int i)] S = .ok (.d (.int i.natAbs)) S := by
  show Res.ok (U.d (D.int (if i < 0 then -i else i))) S = _
  have : (if i < 0 then -i else i) = (i.natAbs : Int) := by split <;> omega
  rw [this]
@[simp] theorem opF_int : opF m .int [.d (.int i)] S = .ok (.d (.int i)) S := nr rfl
@[simp] theorem opF_tupT {l : List D} : opF m .tuple [.d (.tup l)] S = .ok (.d (.tup l)) S := nr rfl
@[simp] theorem opF_tupL {l : List D} : opF m .tuple [.d (.lst l)] S = .ok (.d (.tup l)) S := by simp [opF, mkT]
@[simp] theorem opF_lstT {l : List D} : opF false .list [.d (.tup l)] S = .ok (.d (.lst l)) S := by simp [opF, mkL]
@[simp] theorem opF_lstL {l : List D} : opF false .list [.d (.lst l)] S = .ok (.d (.lst l)) S := by simp [opF, mkL]
theorem pures_ints (l : List Int) : pures (l.map fun i => U.d (.int i)) = some (l.map D.int) := by
  rw [← pures_map (l.map D.int), List.map_map]; rfl
@[simp] theorem opF_lstS {l : List Int} : opF false .list [.d (.scr l)] S = .ok (.d (.lst (l.map D.int))) S := by simp [opF, mkL, pures_ints]
theorem boolsOf_map (l : List Bool) : boolsOf (l.map fun b => U.d (.bl b)) = some l := by
  induction l with
  | nil => rfl
  | cons x l ih => simp [boolsOf, ih]
@[simp] theorem opF_all {α : Type} {p : α → Bool} {l : List α} : opF m .all [.d (.lst (l.map fun x => D.bl (p x)))] S = .ok (.d (.bl (l.all p))) S := by
  have : boolsOf ((l.map fun x => D.bl (p x)).map U.d) = some (l.map p) := by
    rw [← boolsOf_map (l.map p)]; simp [List.map_map, Function.comp_def]
  simp only [opF, lstItems_lst, this, List.all_map]
  rfl
@[simp] theorem opF_any {α : Type} {p : α → Bool} {l : List α} : opF m .any [.d (.lst (l.map fun x => D.bl (p x)))] S = .ok (.d (.bl (l.any p))) S := by
  have : boolsOf ((l.map fun x => D.bl (p x)).map U.d) = some (l.map p) := by
    rw [← boolsOf_map (l.map p)]; simp [List.map_map, Function.comp_def]
  simp only [opF, lstItems_lst, this, List.any_map]
  rfl
@[simp] theorem opF_gcd : opF m .gcd [.d (.int i), .d (.int j)] S = .ok (.d (.int ((Nat.gcd i.natAbs j.natAbs : Nat) : Int))) S := nr rfl
@[simp] theorem mkT_nil : mkT [] S = .ok (.d (.tup [])) S := nr rfl
@[simp] theorem mkT_cons {x : D} {us : List U} : mkT (.d x :: us) S = match pures us with | some ds => .ok (.d (.tup (x :: ds))) S | none => .stuck := by
  unfold mkT
  rw [show pures (.d x :: us) = (pures us).map (x :: ·) from rfl]
  cases pures us <;> rfl
@[simp] theorem pures_nil : pures [] = some [] := nr rfl
@[simp] theorem pures_cons {x : D} {us : List U} : pures (.d x :: us) = (pures us).map (x :: ·) := nr rfl
@[simp] theorem mkL_false {us : List U} : mkL false us S = match pures us with | some ds => .ok (.d (.lst ds)) S | none => .stuck := nr rfl
@[simp] theorem mkL_true {us : List U} : mkL true us S = .ok (.ref S.length) (S ++ [.lst us]) := nr rfl
@[simp] theorem le_size {n : Nat} (h : n ≤ 1000) : n ≤ sizeLine := Nat.le_trans h (by decide)
@[simp] theorem lt_size {n : Nat} (h : n ≤ 1000) : n < sizeLine := Nat.lt_of_le_of_lt h (by decide)
@[simp] theorem fits_small {n : Nat} : (fits n = true) = (n ≤ sizeLine) := by simp [fits]
end

/-! ### calls -/
section
variable {P : Prog} {k f : Nat} {fn : Fn} {C : Ctx} {S : Sto}
theorem fp_body (h : P.fns[f]? = some fn) {ds : List D} (hl : ds.length = fn.np) : (ctx P (k + 1)).fp f ds = runP (ctx P k) fn ds := by
  show (match P.fns[f]? with | some fn => (if ds.length = fn.np then runP (ctx P k) fn ds else .stuck) | none => .stuck) = _
  rw [h]; exact if_pos hl
theorem fn_body (h : P.fns[f]? = some fn) {us : List U} (hl : us.length = fn.np) : (ctx P (k + 1)).fn f us S = runS (ctx P k) fn us S := by
  show (match P.fns[f]? with | some fn => (if us.length = fn.np then runS (ctx P k) fn us S else .stuck) | none => .stuck) = _
  rw [h]; exact if_pos hl
@[simp] theorem callU_true {us : List U} : callU C true f us S = match pures us with | some ds => prU (C.fp f ds) S | none => .stuck := nr rfl
@[simp] theorem callU_false {us : List U} : callU C false f us S = C.fn f us S := nr rfl
theorem glU_at {i : Nat} {d : D} (h : P.gls[i]? = some d) : glU (ctx P k) i S = .ok (.d d) S := by
  cases k <;> (unfold glU ctx; dsimp only; rw [h])
theorem runP_ret {ds : List D} {d : D} {g : Gam} {S' : Sto} (h : evSs C fn.body (start fn (ds.map U.d)) [] = .ok (.ret (.d d)) g S') : runP C fn ds = .ok d := by
  unfold runP; rw [h]; rfl
end

/-! ### loops -/
def ItV.list : ItV → Option (List U)
  | .items l => some l
  | .rng lo n => some ((List.range n).map fun k => .d (.int (lo + (k : Nat))))
  | _ => none
theorem ItV.at_list {v : ItV} {l : List U} (h : v.list = some l) (S : Sto) (i : Nat) : v.at S i = some l[i]? := by
  cases v with
  | items l' => cases h; rfl
  | rng lo n =>
    cases h
    show some (if i < n then some (U.d (.int (lo + i))) else none) = _
    by_cases hi : i < n <;> simp [hi]
  | dyn n => cases h
  | enumDyn n => cases h
theorem ItV.fuel_list {v : ItV} {l : List U} (h : v.list = some l) (fuel : Nat) : v.fuel fuel = l.length + 1 := by
  cases v with
  | items l' => cases h; rfl
  | rng lo n => cases h; simp [ItV.fuel]
  | dyn n => cases h
  | enumDyn n => cases h
/-- a comprehension whose turns change nothing -/
theorem lcLoop_list {α : Type} {v : ItV} {xs : List α} {gg : α → U} (h : v.list = some (xs.map gg)) {turn : U → Sto → Res (Option U)} {S : Sto} {f : α → Option D} (ht : ∀ x ∈ xs, turn (gg x) S = .ok ((f x).map U.d) S) (hs : xs.length ≤ sizeLine) :
    ∀ (n i : Nat) (acc : List D), i ≤ xs.length → n = xs.length - i → acc.length ≤ i → lcLoop v turn (n + 1) i (acc.map U.d) S = .ok ((acc ++ (xs.drop i).filterMap f).map U.d) S
  | 0, i, acc, hi, e, ha => by
    have e2 : i = xs.length := by omega
    subst e2
    unfold lcLoop
    rw [ItV.at_list h]
    simp
  | n + 1, i, acc, hi, e, ha => by
    have hi2 : i < xs.length := by omega
    have hd : xs.drop i = xs[i] :: xs.drop (i + 1) := by simp
    unfold lcLoop
    rw [ItV.at_list h, List.getElem?_map, List.getElem?_eq_getElem hi2]
    dsimp only [Option.map_some]
    rw [ht _ (List.getElem_mem hi2), hd, List.filterMap_cons]
    cases q : f xs[i] with
    | none =>
      dsimp only [Option.map_none]
      exact lcLoop_list h ht hs n (i + 1) acc hi2 (by omega) (by omega)
    | some d =>
      dsimp only [Option.map_some]
      rw [if_pos (by simp; omega)]
      have := lcLoop_list h ht hs n (i + 1) (acc ++ [d]) hi2 (by omega) (by simp; omega)
      rw [List.map_append] at this
      rw [show ([d].map U.d) = [U.d d] from rfl] at this
      rw [this]
      simp
theorem evE_lc {α : Type} {C : Ctx} {own : List Nat} {t : Tn} {k : Ik} {args cnd : List E} {elt : E} {g : Gam} {S : Sto} {us : List U} {v : ItV} {xs : List α} (gg : α → U) (f : α → Option D) (ha : evEs C args g S = .ok us S) (hv : itOf k us S = some v) (h : v.list = some (xs.map gg)) (hs : xs.length ≤ sizeLine)
    (ht : ∀ x ∈ xs, lcTurn t own (evCnd C cnd) (evE C elt) g (gg x) S = .ok ((f x).map U.d) S) : evE C (.lc false own t k args cnd elt) g S = .ok (.d (.lst (xs.filterMap f))) S := by
  simp only [evE, ha, Res.bind_ok]
  unfold lcAll
  rw [hv]
  dsimp only
  rw [ItV.fuel_list h, List.length_map]
  have := lcLoop_list h ht hs xs.length 0 [] (Nat.zero_le _) rfl (Nat.le_refl 0)
  rw [show ([] : List D).map U.d = [] from rfl] at this
  rw [this]
  simp
theorem filterMap_of_map {α β : Type} (f : α → β) (xs : List α) : xs.filterMap (fun x => some (f x)) = xs.map f := by
  induction xs with
  | nil => rfl
  | cons x xs ih => simp [ih]
/-- over the items of a tuple or a list -/
theorem evE_lcF {α : Type} {C : Ctx} {own : List Nat} {t : Tn} {args cnd : List E} {elt : E} {g : Gam} {S : Sto} {u : U} {xs : List α} (gg : α → D) (f : α → Option D) (ha : evEs C args g S = .ok [u] S) (hu : u = .d (.lst (xs.map gg)) ∨ u = .d (.tup (xs.map gg))) (hs : xs.length ≤ sizeLine)
    (ht : ∀ x ∈ xs, lcTurn t own (evCnd C cnd) (evE C elt) g (.d (gg x)) S = .ok ((f x).map U.d) S) : evE C (.lc false own t .seq args cnd elt) g S = .ok (.d (.lst (xs.filterMap f))) S := by
  have h1 : itOf .seq [u] S = some (.items ((xs.map gg).map U.d)) := by rcases hu with rfl | rfl <;> rfl
  exact evE_lc (v := .items ((xs.map gg).map U.d)) (fun x => U.d (gg x)) f ha h1 (by rw [List.map_map]; rfl) hs ht
theorem evE_lcM {α : Type} {C : Ctx} {own : List Nat} {t : Tn} {args cnd : List E} {elt : E} {g : Gam} {S : Sto} {u : U} {xs : List α} (gg f : α → D) (ha : evEs C args g S = .ok [u] S) (hu : u = .d (.lst (xs.map gg)) ∨ u = .d (.tup (xs.map gg))) (hs : xs.length ≤ sizeLine)
    (ht : ∀ x ∈ xs, lcTurn t own (evCnd C cnd) (evE C elt) g (.d (gg x)) S = .ok (some (.d (f x))) S) : evE C (.lc false own t .seq args cnd elt) g S = .ok (.d (.lst (xs.map f))) S := by
  rw [evE_lcF gg (fun x => some (f x)) ha hu hs ht, filterMap_of_map]
/-- over zip of two of one kind -/
theorem zipL_map {α β : Type} (ga : α → D) (gb : β → D) : ∀ (xs : List α) (ys : List β), zipL (xs.map ga) (ys.map gb) = (xs.zip ys).map fun p => U.d (.tup [ga p.1, gb p.2])
  | [], _ => rfl
  | _ :: _, [] => rfl
  | x :: xs, y :: ys => by
    show U.d (.tup [ga x, gb y]) :: zipL (xs.map ga) (ys.map gb) = _
    rw [zipL_map ga gb xs ys]; rfl
theorem evE_lcZ {α β : Type} {C : Ctx} {own : List Nat} {t : Tn} {args cnd : List E} {elt : E} {g : Gam} {S : Sto} {u w : U} {xs : List α} {ys : List β} (ga : α → D) (gb : β → D) (f : α × β → D) (ha : evEs C args g S = .ok [u, w] S) (hu : (u = .d (.lst (xs.map ga)) ∧ w = .d (.lst (ys.map gb))) ∨ (u = .d (.tup (xs.map ga)) ∧ w = .d (.tup (ys.map gb)))) (hs : xs.length ≤ sizeLine)
    (ht : ∀ p ∈ xs.zip ys, lcTurn t own (evCnd C cnd) (evE C elt) g (.d (.tup [ga p.1, gb p.2])) S = .ok (some (.d (f p))) S) : evE C (.lc false own t .zip args cnd elt) g S = .ok (.d (.lst ((xs.zip ys).map f))) S := by
  have h1 : itOf .zip [u, w] S = some (.items (zipL (xs.map ga) (ys.map gb))) := by rcases hu with ⟨rfl, rfl⟩ | ⟨rfl, rfl⟩ <;> rfl
  rw [evE_lc (v := .items (zipL (xs.map ga) (ys.map gb))) (fun p => U.d (.tup [ga p.1, gb p.2])) (fun p => some (f p)) ha h1 (by rw [← zipL_map]; rfl) (by simp; omega) ht, filterMap_of_map]
/-- over range(n) -/
theorem evE_lcRF {C : Ctx} {own : List Nat} {t : Tn} {args cnd : List E} {elt : E} {g : Gam} {S : Sto} {n : Nat} (f : Nat → Option D) (ha : evEs C args g S = .ok [.d (.int (n : Nat))] S) (hs : n ≤ sizeLine)
    (ht : ∀ i, i < n → lcTurn t own (evCnd C cnd) (evE C elt) g (.d (.int (i : Nat))) S = .ok ((f i).map U.d) S) : evE C (.lc false own t .rng1 args cnd elt) g S = .ok (.d (.lst ((List.range n).filterMap f))) S := by
  have hs2 : n < 2 ^ 62 := Nat.lt_of_le_of_lt hs (by decide)
  have h1 : itOf .rng1 [U.d (.int (n : Nat))] S = some (.rng 0 n) := by
    show (if small62 (n : Int) = true then some (ItV.rng 0 (n : Int).toNat) else none) = _
    rw [if_pos (show small62 _ = true from decide_eq_true (by omega)), Int.toNat_natCast]
  have h2 : (ItV.rng 0 n).list = some ((List.range n).map fun k => U.d (.int (k : Nat))) := by simp [ItV.list]
  exact evE_lc (fun k : Nat => U.d (.int (k : Nat))) f ha h1 h2 (by simpa using hs) fun i hi => ht i (List.mem_range.mp hi)
theorem evE_lcR {C : Ctx} {own : List Nat} {t : Tn} {args cnd : List E} {elt : E} {g : Gam} {S : Sto} {n : Nat} (f : Nat → D) (ha : evEs C args g S = .ok [.d (.int (n : Nat))] S) (hs : n ≤ sizeLine)
    (ht : ∀ i, i < n → lcTurn t own (evCnd C cnd) (evE C elt) g (.d (.int (i : Nat))) S = .ok (some (.d (f i))) S) : evE C (.lc false own t .rng1 args cnd elt) g S = .ok (.d (.lst ((List.range n).map f))) S := by
  rw [evE_lcRF (fun i => some (f i)) ha hs ht, filterMap_of_map]
/-! ### data that may be compared -/
def dOk (n : Nat) (d : D) : Prop := (toPD d).canLay0 = true ∧ (toPD d).depth ≤ n
theorem dOk.mono {n m : Nat} {d : D} (h : dOk n d) (e : n ≤ m) : dOk m d := ⟨h.1, Nat.le_trans h.2 e⟩
theorem dOk.ok {n : Nat} {d : D} (h : dOk n d) (e : n ≤ 64) : okD d = true := by
  show (_ && decide _) = true
  rw [h.1, decide_eq_true (Nat.le_trans h.2 e)]; rfl
theorem dOk_non {n : Nat} : dOk n .non := ⟨rfl, Nat.zero_le _⟩
theorem dOk_bl {n : Nat} {b : Bool} : dOk n (.bl b) := ⟨rfl, Nat.zero_le _⟩
theorem dOk_int {n : Nat} {i : Int} : dOk n (.int i) := ⟨rfl, Nat.zero_le _⟩
theorem dOk_all {n : Nat} : ∀ {l : List D}, (∀ d ∈ l, dOk n d) → PyData.canLayAll0 (toPDs l) = true ∧ PyData.depthAll (toPDs l) ≤ n
  | [], _ => ⟨rfl, Nat.zero_le _⟩
  | d :: l, h => by
    obtain ⟨h1, h2⟩ := dOk_all (l := l) fun x hx => h x (by simp [hx])
    obtain ⟨h3, h4⟩ := h d (by simp)
    refine ⟨?_, ?_⟩
    · show (_ && _) = true
      rw [h1, h3]; rfl
    · show max _ _ ≤ n
      omega
theorem dOk_lst {n : Nat} {l : List D} (h : ∀ d ∈ l, dOk n d) : dOk (n + 1) (.lst l) := by
  obtain ⟨h1, h2⟩ := dOk_all h
  exact ⟨h1, Nat.succ_le_succ h2⟩
theorem dOk_tup {n : Nat} {l : List D} (h : ∀ d ∈ l, dOk n d) : dOk (n + 1) (.tup l) := by
  obtain ⟨h1, h2⟩ := dOk_all h
  exact ⟨h1, Nat.succ_le_succ h2⟩
/-! ### items by their place -/
def nth {α : Type} (d : α) (l : List α) (i : Nat) : α := l.getD i d
def prevI (m i : Nat) : Nat := if i = 0 then m - 1 else i - 1
def nextI (m i : Nat) : Nat := (i + 1) % m
theorem prevI_lt {m i : Nat} (h : i < m) : prevI m i < m := by unfold prevI; split <;> omega
theorem nextI_lt {m i : Nat} (h : i < m) : nextI m i < m := Nat.mod_lt _ (by omega)
theorem nth_get {α : Type} {d : α} {l : List α} {i : Nat} (h : i < l.length) : nth d l i = l[i] := by simp [nth, List.getD, h]
theorem nth_get? {α : Type} (d : α) {l : List α} {i : Nat} (h : i < l.length) : l[i]? = some (nth d l i) := by rw [nth_get h, List.getElem?_eq_getElem h]
theorem nth_mem {α : Type} (d : α) {l : List α} {i : Nat} (h : i < l.length) : nth d l i ∈ l := by
  rw [nth_get h]; exact List.getElem_mem h
theorem nth_map {α β : Type} (f : α → β) (d : α) (e : β) {l : List α} {i : Nat} (h : i < l.length) : nth e (l.map f) i = f (nth d l i) := by
  rw [nth_get h, nth_get (by simpa using h)]; simp
theorem nth_range {m i : Nat} (d : Nat) (h : i < m) : nth d (List.range m) i = i := by rw [nth_get (by simpa using h)]; simp
theorem atI_get {α : Type} {l : List α} {i : Nat} (d : α) (h : i < l.length) : L2.atI l (i : Int) = some (nth d l i) := by
  rw [atI_pos (by omega) (by omega), Int.toNat_natCast, nth_get? d h]
theorem atI_prev {α : Type} {l : List α} {i : Nat} (d : α) (h : i < l.length) : L2.atI l ((i : Int) - 1) = some (nth d l (prevI l.length i)) := by
  rw [← nth_get? d (prevI_lt h)]
  unfold prevI
  by_cases h0 : i = 0
  · subst h0
    rw [if_pos rfl, atI_neg (by omega) (by omega)]
    congr 1
    omega
  · rw [if_neg h0, atI_pos (by omega) (by omega)]
    congr 1
    omega
theorem atI_mget {α β : Type} {l : List α} (f : α → β) {i : Nat} (d : α) (h : i < l.length) : L2.atI (l.map f) (i : Int) = some (f (nth d l i)) := by rw [atI_map, atI_get d h]; rfl
theorem atI_mprev {α β : Type} {l : List α} (f : α → β) {i : Nat} (d : α) (h : i < l.length) : L2.atI (l.map f) ((i : Int) - 1) = some (f (nth d l (prevI l.length i))) := by rw [atI_map, atI_prev d h]; rfl
theorem fmod_nat (x y : Nat) : (x : Int).fmod (y : Int) = ((x % y : Nat) : Int) := by
  rw [Int.fmod_eq_emod_of_nonneg _ (by omega)]; rfl
theorem fmod_next {i m : Nat} : ((i : Int) + 1).fmod (m : Int) = ((nextI m i : Nat) : Int) := fmod_nat (i + 1) m
theorem forLoop_step {v : ItV} {t : Tn} {body : Gam → Sto → RS} {n i : Nat} {g g' g2 : Gam} {S S2 : Sto} {u : U} (ha : v.at S i = some (some u)) (hb : bindT t u g = some g') (hd : body g' S = .ok .nx g2 S2) : forLoop v t body (n + 1) i g S = forLoop v t body n (i + 1) g2 S2 := by
  rw [forLoop.eq_def]
  dsimp only
  rw [ha]
  dsimp only
  rw [hb]
  dsimp only
  rw [hd]
theorem forLoop_end {v : ItV} {t : Tn} {body : Gam → Sto → RS} {n i : Nat} {g : Gam} {S : Sto} (ha : v.at S i = some none) : forLoop v t body (n + 1) i g S = .ok .nx g S := by
  rw [forLoop.eq_def]
  dsimp only
  rw [ha]
/-- for over what is known -/
theorem forLoop_list {v : ItV} {l : List U} (h : v.list = some l) {t : Tn} {body : Gam → Sto → RS} (I : Nat → Gam → Sto → Prop) {Q : Fl → Gam → Sto → Prop}
    (ht : ∀ i u g S, l[i]? = some u → I i g S → ∃ g', bindT t u g = some g' ∧ (body g' S).sat fun f g2 S2 => match f with | .nx => I (i + 1) g2 S2 | .cont => I (i + 1) g2 S2 | .brk => Q .nx g2 S2 | .ret u => Q (.ret u) g2 S2)
    (he : ∀ g S, I l.length g S → Q .nx g S) : ∀ (n i : Nat) (g : Gam) (S : Sto), i ≤ l.length → n = l.length - i → I i g S → (forLoop v t body (n + 1) i g S).sat Q
  | 0, i, g, S, hi, e, hI => by
    have e2 : i = l.length := by omega
    subst e2
    unfold forLoop
    rw [ItV.at_list h]
    rw [List.getElem?_eq_none (Nat.le_refl _)]
    exact RS.sat_ok.mpr (he _ _ hI)
  | n + 1, i, g, S, hi, e, hI => by
    have hi2 : i < l.length := by omega
    unfold forLoop
    rw [ItV.at_list h, List.getElem?_eq_getElem hi2]
    obtain ⟨g', hb, hs⟩ := ht i l[i] g S (List.getElem?_eq_getElem hi2) hI
    dsimp only
    rw [hb]
    dsimp only
    obtain ⟨f, g2, S2, e2, hs⟩ := hs
    rw [e2]
    cases f with
    | nx => exact forLoop_list h I ht he n (i + 1) g2 S2 hi2 (by omega) hs
    | cont => exact forLoop_list h I ht he n (i + 1) g2 S2 hi2 (by omega) hs
    | brk => exact RS.sat_ok.mpr hs
    | ret u => exact RS.sat_ok.mpr hs
theorem forK_list {C : Ctx} {k : Ik} {us l : List U} {v : ItV} {t : Tn} {body : Gam → Sto → RS} {g : Gam} {S : Sto} {Q : Fl → Gam → Sto → Prop} (hv : itOf k us S = some v) (h : v.list = some l) (I : Nat → Gam → Sto → Prop) (h0 : I 0 g S)
    (ht : ∀ i u g S, l[i]? = some u → I i g S → ∃ g', bindT t u g = some g' ∧ (body g' S).sat fun f g2 S2 => match f with | .nx => I (i + 1) g2 S2 | .cont => I (i + 1) g2 S2 | .brk => Q .nx g2 S2 | .ret u => Q (.ret u) g2 S2)
    (he : ∀ g S, I l.length g S → Q .nx g S) : (forK C t k body us g S).sat Q := by
  unfold forK
  rw [hv]
  dsimp only
  rw [ItV.fuel_list h]
  exact forLoop_list h I ht he l.length 0 g S (Nat.zero_le _) rfl h0
theorem itOf_rng {S : Sto} {n : Nat} (hs : n ≤ sizeLine) : itOf .rng1 [U.d (.int (n : Nat))] S = some (.rng 0 n) := by
  have hs2 : n < 2 ^ 62 := Nat.lt_of_le_of_lt hs (by decide)
  show (if small62 (n : Int) = true then some (ItV.rng 0 (n : Int).toNat) else none) = _
  rw [if_pos (show small62 _ = true from decide_eq_true (by omega)), Int.toNat_natCast]
theorem rng_list {n : Nat} : (ItV.rng 0 n).list = some ((List.range n).map fun k => U.d (.int (k : Nat))) := by simp [ItV.list]
/-! ### the evaluator, step by step -/
section
variable {C : Ctx} {g : Gam} {S : Sto}
@[simp] theorem slotU_0 {x : Option U} : slotU (x :: g) 0 S = match x with | some u => .ok u S | none => .stuck := by cases x <;> rfl
@[simp] theorem slotU_s {x : Option U} {i : Nat} : slotU (x :: g) (i + 1) S = slotU g i S := nr rfl
@[simp] theorem ev_slot {i : Nat} : evE C (.slot i) g S = slotU g i S := by simp only [evE]
@[simp] theorem ev_con {d : D} : evE C (.con d) g S = .ok (.d d) S := by simp only [evE]
@[simp] theorem ev_gl {i : Nat} : evE C (.gl i) g S = glU C i S := by simp only [evE]
@[simp] theorem ev_bin {m : Bool} {op : Bop} {a b : E} : evE C (.bin m op a b) g S = (evE C a g S).bind fun x S => (evE C b g S).bind fun y S => opB m op x y S := by simp only [evE]
@[simp] theorem ev_cmp {op : Cop} {a b : E} : evE C (.cmp op a b) g S = (evE C a g S).bind fun x S => (evE C b g S).bind fun y S => opC op x y S := by simp only [evE]
@[simp] theorem ev_chain {o1 o2 : Cop} {a b c : E} : evE C (.chain o1 o2 a b c) g S = (evE C a g S).bind fun x S => (evE C b g S).bind fun y S => (opC o1 x y S).bind fun r S => chainK r (fun S => (evE C c g S).bind fun z S => opC o2 y z S) S := by simp only [evE]
@[simp] theorem ev_neg {a : E} : evE C (.neg a) g S = (evE C a g S).bind fun x S => negU x S := by simp only [evE]
@[simp] theorem ev_not {a : E} : evE C (.not a) g S = (evE C a g S).bind fun x S => (truS x S).bind fun b S => .ok (.d (.bl (!b))) S := by simp only [evE]
@[simp] theorem ev_and {l : List E} : evE C (.and l) g S = evAnd C l g S := by simp only [evE]
@[simp] theorem ev_or {l : List E} : evE C (.or l) g S = evOr C l g S := by simp only [evE]
@[simp] theorem ev_ite {c a b : E} : evE C (.ite c a b) g S = (tru (evE C c g S)).bind fun k S => if k = true then evE C a g S else evE C b g S := by simp only [evE]
@[simp] theorem ev_idx {a i : E} : evE C (.idx a i) g S = (evE C a g S).bind fun x S => (evE C i g S).bind fun y S => getIx x y S := by simp only [evE]
@[simp] theorem ev_slc {m : Bool} {a : E} {lo hi : Option E} : evE C (.slc m a lo hi) g S = (evE C a g S).bind fun x S => (evO C lo g S).bind fun l S => (evO C hi g S).bind fun h S => getSl m x l h S := by simp only [evE]
@[simp] theorem ev_rev {m : Bool} {a : E} : evE C (.rev m a) g S = (evE C a g S).bind fun x S => getRev m x S := by simp only [evE]
@[simp] theorem ev_tup {l : List E} : evE C (.tup l) g S = (evEs C l g S).bind fun us S => if fits us.length = true then mkT us S else .stuck := by simp only [evE]
@[simp] theorem ev_lst {m : Bool} {l : List E} : evE C (.lst m l) g S = (evEs C l g S).bind fun us S => if fits us.length = true then mkL m us S else .stuck := by simp only [evE]
@[simp] theorem ev_blt {m : Bool} {f : Bf} {args : List E} : evE C (.blt m f args) g S = (evEs C args g S).bind fun us S => opF m f us S := by simp only [evE]
@[simp] theorem ev_isi {a : E} {t : Ty} : evE C (.isi a t) g S = (evE C a g S).bind fun x S => isiU t x S := by simp only [evE]
@[simp] theorem ev_call {p : Bool} {f : Nat} {args : List E} : evE C (.call p f args) g S = (evEs C args g S).bind fun us S => callU C p f us S := by simp only [evE]
@[simp] theorem evEs_nil : evEs C [] g S = .ok [] S := by simp only [evEs]
@[simp] theorem evEs_cons {e : E} {r : List E} : evEs C (e :: r) g S = (evE C e g S).bind fun u S => (evEs C r g S).bind fun us S => .ok (u :: us) S := by simp only [evEs]
@[simp] theorem evO_none : evO C none g S = .ok none S := by simp only [evO]
@[simp] theorem evO_some {e : E} : evO C (some e) g S = (evE C e g S).bind fun u S => intU u S := by simp only [evO]
@[simp] theorem evAnd_one {e : E} : evAnd C [e] g S = evE C e g S := by simp only [evAnd]
@[simp] theorem evAnd_cons {e e' : E} {r : List E} : evAnd C (e :: e' :: r) g S = (evE C e g S).bind fun x S => (truS x S).bind fun b S => if b = true then evAnd C (e' :: r) g S else .ok x S := by simp only [evAnd]
@[simp] theorem evOr_one {e : E} : evOr C [e] g S = evE C e g S := by simp only [evOr]
@[simp] theorem evOr_cons {e e' : E} {r : List E} : evOr C (e :: e' :: r) g S = (evE C e g S).bind fun x S => (truS x S).bind fun b S => if b = true then .ok x S else evOr C (e' :: r) g S := by simp only [evOr]
@[simp] theorem evCnd_nil : evCnd C [] g S = .ok true S := by simp only [evCnd]
@[simp] theorem evCnd_cons {e : E} {r : List E} : evCnd C (e :: r) g S = (tru (evE C e g S)).bind fun b S => if b = true then evCnd C r g S else .ok false S := by simp only [evCnd]
@[simp] theorem evT_nm {i : Nat} {u : U} : evT C (.nm i) u g S = if i < g.length then .ok .nx (g.set i (some u)) S else .stuck := by simp only [evT]
@[simp] theorem evT_tup {ts : List Tg} {u : U} : evT C (.tup ts) u g S = match items S u with | some us => (if us.length = ts.length then evTs C ts us g S else .stuck) | none => .stuck := by
  simp only [evT]
  all_goals (cases items S u <;> rfl)
@[simp] theorem evT_idx {o i : E} {u : U} : evT C (.idx o i) u g S = withR (evE C o g S) g fun ov S => withR (evE C i g S) g fun iv S => setK ov iv u g S := by simp only [evT]
@[simp] theorem evTs_nil : evTs C [] [] g S = .ok .nx g S := by simp only [evTs]
@[simp] theorem evTs_cons {t : Tg} {ts : List Tg} {u : U} {us : List U} : evTs C (t :: ts) (u :: us) g S = seqK (evTs C ts us) (evT C t u g S) := by simp only [evTs]
@[simp] theorem evS_asg {t : Tg} {e : E} : evS C (.asg t e) g S = withR (evE C e g S) g fun u S => evT C t u g S := by simp only [evS]
@[simp] theorem evS_par {i j : Nat} {a b : E} : evS C (.par i j a b) g S = withR (evE C a g S) g fun x S => withR (evE C b g S) g fun y S => parK i j x y g S := by simp only [evS]
@[simp] theorem evS_aug {i : Nat} {op : Bop} {e : E} : evS C (.aug i op e) g S = withR (slotU g i S) g fun x S => withR (evE C e g S) g fun y S => augK i op x y g S := by simp only [evS]
@[simp] theorem evS_expr {e : E} : evS C (.expr e) g S = withR (evE C e g S) g fun _ S => .ok .nx g S := by simp only [evS]
@[simp] theorem evS_app {o e : E} : evS C (.app o e) g S = withR (evE C o g S) g fun ov S => refK ov fun n => withR (evE C e g S) g fun v S => appK n v g S := by simp only [evS]
@[simp] theorem evS_ret {e : E} : evS C (.ret e) g S = withR (evE C e g S) g fun u S => .ok (.ret u) g S := by simp only [evS]
@[simp] theorem evS_retn : evS C .retn g S = .ok (.ret (.d .non)) g S := by simp only [evS]
@[simp] theorem evS_ite {c : E} {a b : List PV.S} {σ : Sto} : evS C (.ite c a b) g σ = withR (tru (evE C c g σ)) g fun k S => if k = true then evSs C a g S else evSs C b g S := by simp only [evS]
@[simp] theorem evS_whil {c : E} {b : List PV.S} {σ : Sto} : evS C (.whil c b) g σ = whileLoop (fun g S => tru (evE C c g S)) (evSs C b) C.fuel g σ := by simp only [evS]
@[simp] theorem evS_for {t : Tn} {k : Ik} {args : List E} {b : List PV.S} {σ : Sto} : evS C (.for t k args b) g σ = withR (evEs C args g σ) g fun us S => forK C t k (evSs C b) us g S := by simp only [evS]
@[simp] theorem evS_raise {c : Nat} : evS C (.raise c) g S = .exc ⟨c⟩ g S := by simp only [evS]
@[simp] theorem evS_tryi {b : List PV.S} {c t e : Nat} {cs : List Nat} {σ : Sto} : evS C (.tryi b c t e cs) g σ = tryK C c t e cs (evSs C b g σ) := by simp only [evS]
@[simp] theorem evS_pass : evS C .pass g S = .ok .nx g S := by simp only [evS]
@[simp] theorem evS_brk : evS C .brk g S = .ok .brk g S := by simp only [evS]
@[simp] theorem evS_cont : evS C .cont g S = .ok .cont g S := by simp only [evS]
@[simp] theorem evSs_nil : evSs C [] g S = .ok .nx g S := by simp only [evSs]
@[simp] theorem evSs_cons {s : PV.S} {r : List PV.S} {σ : Sto} : evSs C (s :: r) g σ = seqK (evSs C r) (evS C s g σ) := by simp only [evSs]
@[simp] theorem bindT_nm {i : Nat} {u : U} : bindT (.nm i) u g = if i < g.length then some (g.set i (some u)) else none := by simp only [bindT]
@[simp] theorem bindT_tup {ts : List Tn} {l : List D} : bindT (.tup ts) (.d (.tup l)) g = bindTs ts l g := by simp only [bindT]
@[simp] theorem bindTs_nil : bindTs [] [] g = some g := by simp only [bindTs]
@[simp] theorem bindTs_cons {t : Tn} {ts : List Tn} {x : D} {xs : List D} : bindTs (t :: ts) (x :: xs) g = match bindT t (.d x) g with | some g' => bindTs ts xs g' | none => none := by
  simp only [bindTs]
  all_goals (cases bindT t (.d x) g <;> rfl)
@[simp] theorem wipeG_nil : wipeG g [] = g := nr rfl
@[simp] theorem wipeG_cons {v : Nat} {vs : List Nat} : wipeG g (v :: vs) = (wipeG g vs).set v none := nr rfl
theorem parK_ok {i j : Nat} {x y : U} (h : i < g.length ∧ j < g.length ∧ i ≠ j) : parK i j x y g S = .ok .nx ((g.set i (some x)).set j (some y)) S := if_pos h
@[simp] theorem augK_add {i : Nat} {a b : Int} : augK i .add (.d (.int a)) (.d (.int b)) g S = .ok .nx (g.set i (some (.d (.int (a + b))))) S := nr rfl
@[simp] theorem augK_sub {i : Nat} {a b : Int} : augK i .sub (.d (.int a)) (.d (.int b)) g S = .ok .nx (g.set i (some (.d (.int (a - b))))) S := nr rfl
@[simp] theorem refK_ref {n : Nat} {k : Nat → RS} : refK (.ref n) k = k n := nr rfl
theorem setK_ref {n k : Nat} {us : List U} {v : U} {i : Int} (h : S[n]? = some (.lst us)) (h2 : L2.ixN us.length i = some k) : setK (.ref n) (.d (.int i)) v g S = .ok .nx g (S.set n (.lst (us.set k v))) := by
  unfold setK setIx
  dsimp only
  rw [h]
  dsimp only
  rw [h2]
theorem appK_ok {n : Nat} {us : List U} {v : U} (h : S[n]? = some (.lst us)) (h2 : us.length < sizeLine) : appK n v g S = .ok .nx g (S.set n (.lst (us ++ [v]))) := by
  unfold appK
  rw [h]
  exact if_pos h2
end
/-! ### a def's own end -/
def endP : RS → PR
  | .ok (.ret u) _ S => (match snap S u with
    | some d => .ok d
    | none => .stuck)
  | .ok .nx _ _ => .ok .non
  | .ok _ _ _ => .stuck
  | .exc x _ _ => .exc x
  | .stuck => .stuck
def endS : RS → Res U
  | .ok (.ret u) _ S' => .ok u S'
  | .ok .nx _ S' => .ok (.d .non) S'
  | .ok _ _ _ => .stuck
  | .exc x _ S' => .exc x S'
  | .stuck => .stuck
section
variable {P : Prog} {k f np ns : Nat} {body : List S} {g : Gam} {σ : Sto}
@[simp] theorem endP_ret {d : D} : endP (.ok (.ret (.d d)) g σ) = .ok d := nr rfl
@[simp] theorem endP_exc {x : Exn} : endP (.exc x g σ) = .exc x := nr rfl
@[simp] theorem endP_nx : endP (.ok .nx g σ) = .ok .non := nr rfl
@[simp] theorem endS_ret {u : U} : endS (.ok (.ret u) g σ) = .ok u σ := nr rfl
@[simp] theorem endS_exc {x : Exn} : endS (.exc x g σ) = .exc x σ := nr rfl
@[simp] theorem endS_nx : endS (.ok .nx g σ) = .ok (.d .non) σ := nr rfl
theorem fp_end (h : P.fns[f]? = some ⟨np, ns, body⟩) {ds : List D} (hl : ds.length = np) : (ctx P (k + 1)).fp f ds = endP (evSs (ctx P k) body (ds.map (fun d => some (U.d d)) ++ List.replicate (ns - ds.length) none) []) := by
  rw [fp_body h hl]
  unfold runP endP start
  rw [List.map_map, List.length_map]
  rfl
theorem fn_end (h : P.fns[f]? = some ⟨np, ns, body⟩) {us : List U} (hl : us.length = np) : (ctx P (k + 1)).fn f us σ = endS (evSs (ctx P k) body (us.map some ++ List.replicate (ns - us.length) none) σ) := by
  rw [fn_body h hl]
  rfl
theorem endS_sat {r : RS} {Q : U → Sto → Prop} : (endS r).sat Q ↔ r.sat fun f _ S' => match f with | .ret u => Q u S' | .nx => Q (.d .non) S' | _ => False := by
  cases r with
  | ok f g S' =>
    rw [RS.sat_ok]
    cases f with
    | nx => exact Res.sat_ok
    | brk => exact Res.sat_stuck
    | cont => exact Res.sat_stuck
    | ret u => exact Res.sat_ok
  | exc x g S' => rw [RS.sat_exc]; exact Res.sat_exc
  | stuck => rw [RS.sat_stuck]; exact Res.sat_stuck
end
/-! ### ends, pushed inwards -/
def seqQ (k : Gam → Sto → RS) (Q : Fl → Gam → Sto → Prop) : Fl → Gam → Sto → Prop := fun f g S => match f with
  | .nx => (k g S).sat Q
  | f => Q f g S
section
variable {k : Gam → Sto → RS} {Q : Fl → Gam → Sto → Prop} {g : Gam} {σ : Sto}
theorem sat_seqQ {r : RS} : (seqK k r).sat Q ↔ r.sat (seqQ k Q) := by
  cases r with
  | ok f g S =>
    rw [RS.sat_ok]
    cases f with
    | nx => exact .rfl
    | brk => exact RS.sat_ok
    | cont => exact RS.sat_ok
    | ret u => exact RS.sat_ok
  | exc x g S => rw [seqK_exc, RS.sat_exc, RS.sat_exc]
  | stuck => rw [seqK_stuck, RS.sat_stuck, RS.sat_stuck]
@[simp] theorem seqQ_nx : seqQ k Q .nx g σ ↔ (k g σ).sat Q := .rfl
@[simp] theorem seqQ_brk : seqQ k Q .brk g σ ↔ Q .brk g σ := .rfl
@[simp] theorem seqQ_cont : seqQ k Q .cont g σ ↔ Q .cont g σ := .rfl
@[simp] theorem seqQ_ret {u : U} : seqQ k Q (.ret u) g σ ↔ Q (.ret u) g σ := .rfl
end
section
variable {S : Sto} {n : Nat}
theorem getSl_ref {xs : List D} {l h : Option Int} (e : S[n]? = some (.lst (xs.map U.d))) : getSl false (.ref n) l h S = .ok (.d (.lst (cutL xs l h))) S := by
  have : lstItems S (.ref n) = some (xs.map U.d) := by unfold lstItems; dsimp only; rw [e]
  show (match lstItems S (.ref n) with | some us => mkL false (cutL us l h) S | none => .stuck) = _
  rw [this]
  show mkL false (cutL (xs.map U.d) l h) S = _
  rw [cutL_map]
  show mkL false ((cutL xs l h).map U.d) S = _
  simp
theorem atI_ex {α : Type} {l : List α} {i : Int} (h : 0 ≤ i) (h2 : i < l.length) : ∃ x ∈ l, L2.atI l i = some x := by
  rw [atI_pos h h2]
  have h3 : i.toNat < l.length := by omega
  exact ⟨l[i.toNat], List.getElem_mem h3, List.getElem?_eq_getElem h3⟩
theorem cutL_from {α : Type} {xs : List α} {t : Int} (h : 0 ≤ t) (h2 : t ≤ xs.length) : cutL xs (some t) none = xs.drop t.toNat := by
  unfold cutL
  have e : HT.sIx xs.length 0 (some t) = t.toNat := by
    show (if t < 0 then (t + (xs.length : Int)).toNat else min t.toNat xs.length) = t.toNat
    rw [if_neg (by omega)]; omega
  rw [e, HT.sIx_none]
  exact List.take_of_length_le (by rw [List.length_drop]; exact Nat.le_refl _)
theorem cutL_to {α : Type} {xs : List α} {t : Int} (h : 0 ≤ t) (h2 : t ≤ xs.length) : cutL xs none (some t) = xs.take t.toNat := by
  unfold cutL
  have e : HT.sIx xs.length xs.length (some t) = t.toNat := by
    show (if t < 0 then (t + (xs.length : Int)).toNat else min t.toNat xs.length) = t.toNat
    rw [if_neg (by omega)]; omega
  rw [e, HT.sIx_none]
  simp
end
end PV
namespace LW
open PySem
def topS (i : Nat) : PySem.Stmt := PySem.Challenge.pw_threeexits_k18_frames_judged.main.body.getD i (.Pass ⟨0, 0, 0, 0⟩)
abbrev i_is_integer : Nat := 0
abbrev i_is_between : Nat := 1
abbrev i_is_tuple_of : Nat := 2
abbrev i_is_fraction : Nat := 3
abbrev i_fraction : Nat := 4
abbrev i_is_less : Nat := 5
abbrev i_minus : Nat := 6
abbrev i_times : Nat := 7
abbrev i_is_point : Nat := 8
abbrev i_sign_of : Nat := 9
abbrev i_way : Nat := 10
abbrev i_turn_of : Nat := 11
abbrev i_is_upper : Nat := 12
abbrev i_turns_once : Nat := 13
abbrev i_goes_round : Nat := 14
abbrev i_is_frame : Nat := 15
abbrev i_plain_frame : Nat := 16
abbrev i__law_hat : Nat := 17
abbrev i__law_draw : Nat := 18
abbrev i__law_same : Nat := 19
abbrev i__law_any : Nat := 20
abbrev i__law_gcd : Nat := 21
abbrev i__law_fraction : Nat := 22
abbrev i__law_frame : Nat := 23
abbrev i__law_whole : Nat := 24
abbrev i__law_way : Nat := 25
abbrev i__law_cross : Nat := 26
abbrev i__law_rounds_once : Nat := 27
abbrev i__law_goes_round : Nat := 28
abbrev i__law_is_int : Nat := 29
abbrev i__law_is_fraction : Nat := 30
abbrev i__law_is_point : Nat := 31
abbrev i__law_is_frame : Nat := 32
abbrev i__law_middle : Nat := 33
abbrev i__law_long : Nat := 34
abbrev i__law_bad_fraction : Nat := 35
abbrev i__law_spoilt : Nat := 36
abbrev i__law_refused : Nat := 37
abbrev i__law_plain_right : Nat := 38
abbrev i__law_thing : Nat := 39
abbrev i_law : Nat := 40
abbrev st_is_integer : PySem.Stmt := topS 7
def f_is_integer : PV.Fn := ⟨1, 1, [
  (.ret (.and [(.isi (.slot 0) .int), (.not (.isi (.slot 0) .bool))]))]⟩
def d_is_integer : PV.FD := ⟨PySem.Str.ofString "is_integer", st_is_integer, [PySem.Str.ofString "thing"], [PySem.Str.ofString "thing"]⟩
abbrev st_is_between : PySem.Stmt := topS 8
def f_is_between : PV.Fn := ⟨3, 3, [
  (.ret (.and [(.call true i_is_integer [(.slot 0)]), (.chain .le .le (.slot 1) (.slot 0) (.slot 2))]))]⟩
def d_is_between : PV.FD := ⟨PySem.Str.ofString "is_between", st_is_between, [PySem.Str.ofString "thing", PySem.Str.ofString "least", PySem.Str.ofString "most"], [PySem.Str.ofString "thing", PySem.Str.ofString "least", PySem.Str.ofString "most"]⟩
abbrev st_is_tuple_of : PySem.Stmt := topS 9
def f_is_tuple_of : PV.Fn := ⟨2, 2, [
  (.ret (.and [(.isi (.slot 0) .tuple), (.cmp .eq (.blt false .len [(.slot 0)]) (.slot 1))]))]⟩
def d_is_tuple_of : PV.FD := ⟨PySem.Str.ofString "is_tuple_of", st_is_tuple_of, [PySem.Str.ofString "thing", PySem.Str.ofString "many"], [PySem.Str.ofString "thing", PySem.Str.ofString "many"]⟩
abbrev st_is_fraction : PySem.Stmt := topS 12
def f_is_fraction : PV.Fn := ⟨1, 1, [
  (.ite (.or [(.not (.call true i_is_tuple_of [(.slot 0), (.con (.int 2))])), (.not (.call true i_is_integer [(.idx (.slot 0) (.con (.int 0)))])), (.not (.call true i_is_integer [(.idx (.slot 0) (.con (.int 1)))])), (.cmp .lt (.idx (.slot 0) (.con (.int 1))) (.con (.int 1)))]) [(.ret (.con (.bl false)))] []),
  (.ret (.cmp .eq (.blt false .gcd [(.idx (.slot 0) (.con (.int 0))), (.idx (.slot 0) (.con (.int 1)))]) (.con (.int 1))))]⟩
def d_is_fraction : PV.FD := ⟨PySem.Str.ofString "is_fraction", st_is_fraction, [PySem.Str.ofString "thing"], [PySem.Str.ofString "thing"]⟩
abbrev st_fraction : PySem.Stmt := topS 13
def f_fraction : PV.Fn := ⟨2, 3, [
  (.asg (.nm 2) (.blt false .gcd [(.slot 0), (.slot 1)])),
  (.ite (.cmp .lt (.slot 1) (.con (.int 0))) [(.asg (.nm 2) (.neg (.slot 2)))] []),
  (.ret (.tup [(.bin false .fdiv (.slot 0) (.slot 2)), (.bin false .fdiv (.slot 1) (.slot 2))]))]⟩
def d_fraction : PV.FD := ⟨PySem.Str.ofString "fraction", st_fraction, [PySem.Str.ofString "top", PySem.Str.ofString "bottom", PySem.Str.ofString "shared"], [PySem.Str.ofString "top", PySem.Str.ofString "bottom"]⟩
abbrev st_is_less : PySem.Stmt := topS 14
def f_is_less : PV.Fn := ⟨2, 2, [
  (.ret (.cmp .lt (.bin false .mul (.idx (.slot 0) (.con (.int 0))) (.idx (.slot 1) (.con (.int 1)))) (.bin false .mul (.idx (.slot 1) (.con (.int 0))) (.idx (.slot 0) (.con (.int 1))))))]⟩
def d_is_less : PV.FD := ⟨PySem.Str.ofString "is_less", st_is_less, [PySem.Str.ofString "one", PySem.Str.ofString "other"], [PySem.Str.ofString "one", PySem.Str.ofString "other"]⟩
abbrev st_minus : PySem.Stmt := topS 15
def f_minus : PV.Fn := ⟨2, 2, [
  (.ret (.call true i_fraction [(.bin false .sub (.bin false .mul (.idx (.slot 0) (.con (.int 0))) (.idx (.slot 1) (.con (.int 1)))) (.bin false .mul (.idx (.slot 1) (.con (.int 0))) (.idx (.slot 0) (.con (.int 1))))), (.bin false .mul (.idx (.slot 0) (.con (.int 1))) (.idx (.slot 1) (.con (.int 1))))]))]⟩
def d_minus : PV.FD := ⟨PySem.Str.ofString "minus", st_minus, [PySem.Str.ofString "one", PySem.Str.ofString "other"], [PySem.Str.ofString "one", PySem.Str.ofString "other"]⟩
abbrev st_times : PySem.Stmt := topS 16
def f_times : PV.Fn := ⟨2, 2, [
  (.ret (.call true i_fraction [(.bin false .mul (.idx (.slot 0) (.con (.int 0))) (.idx (.slot 1) (.con (.int 0)))), (.bin false .mul (.idx (.slot 0) (.con (.int 1))) (.idx (.slot 1) (.con (.int 1))))]))]⟩
def d_times : PV.FD := ⟨PySem.Str.ofString "times", st_times, [PySem.Str.ofString "one", PySem.Str.ofString "other"], [PySem.Str.ofString "one", PySem.Str.ofString "other"]⟩
abbrev st_is_point : PySem.Stmt := topS 20
def f_is_point : PV.Fn := ⟨1, 1, [
  (.ret (.and [(.call true i_is_tuple_of [(.slot 0), (.con (.int 2))]), (.call true i_is_fraction [(.idx (.slot 0) (.con (.int 0)))]), (.call true i_is_fraction [(.idx (.slot 0) (.con (.int 1)))])]))]⟩
def d_is_point : PV.FD := ⟨PySem.Str.ofString "is_point", st_is_point, [PySem.Str.ofString "thing"], [PySem.Str.ofString "thing"]⟩
abbrev st_sign_of : PySem.Stmt := topS 21
def f_sign_of : PV.Fn := ⟨1, 1, [
  (.ret (.ite (.cmp .eq (.slot 0) (.con (.int 0))) (.con (.int 0)) (.ite (.cmp .gt (.slot 0) (.con (.int 0))) (.con (.int 1)) (.neg (.con (.int 1))))))]⟩
def d_sign_of : PV.FD := ⟨PySem.Str.ofString "sign_of", st_sign_of, [PySem.Str.ofString "number"], [PySem.Str.ofString "number"]⟩
abbrev st_way : PySem.Stmt := topS 22
def f_way : PV.Fn := ⟨2, 2, [
  (.ret (.tup [(.call true i_minus [(.idx (.slot 1) (.con (.int 0))), (.idx (.slot 0) (.con (.int 0)))]), (.call true i_minus [(.idx (.slot 1) (.con (.int 1))), (.idx (.slot 0) (.con (.int 1)))])]))]⟩
def d_way : PV.FD := ⟨PySem.Str.ofString "way", st_way, [PySem.Str.ofString "one", PySem.Str.ofString "other"], [PySem.Str.ofString "one", PySem.Str.ofString "other"]⟩
abbrev st_turn_of : PySem.Stmt := topS 23
def f_turn_of : PV.Fn := ⟨2, 3, [
  (.asg (.nm 2) (.call true i_minus [(.call true i_times [(.idx (.slot 0) (.con (.int 0))), (.idx (.slot 1) (.con (.int 1)))]), (.call true i_times [(.idx (.slot 0) (.con (.int 1))), (.idx (.slot 1) (.con (.int 0)))])])),
  (.ret (.call true i_sign_of [(.idx (.slot 2) (.con (.int 0)))]))]⟩
def d_turn_of : PV.FD := ⟨PySem.Str.ofString "turn_of", st_turn_of, [PySem.Str.ofString "first", PySem.Str.ofString "second", PySem.Str.ofString "told"], [PySem.Str.ofString "first", PySem.Str.ofString "second"]⟩
abbrev st_is_upper : PySem.Stmt := topS 24
def f_is_upper : PV.Fn := ⟨1, 1, [
  (.ite (.cmp .ne (.idx (.slot 0) (.con (.int 1))) (.gl 0)) [(.ret (.call true i_is_less [(.gl 0), (.idx (.slot 0) (.con (.int 1)))]))] []),
  (.ret (.call true i_is_less [(.gl 0), (.idx (.slot 0) (.con (.int 0)))]))]⟩
def d_is_upper : PV.FD := ⟨PySem.Str.ofString "is_upper", st_is_upper, [PySem.Str.ofString "direction"], [PySem.Str.ofString "direction"]⟩
abbrev st_turns_once : PySem.Stmt := topS 25
def f_turns_once : PV.Fn := ⟨1, 4, [
  (.asg (.nm 1) (.lc false [2] (.nm 2) .seq [(.slot 0)] [] (.call true i_is_upper [(.slot 2)]))),
  (.ret (.cmp .eq (.blt false .len [(.lc false [3] (.nm 3) .rng1 [(.blt false .len [(.slot 1)])] [(.and [(.idx (.slot 1) (.slot 3)), (.not (.idx (.slot 1) (.bin false .sub (.slot 3) (.con (.int 1)))))])] (.slot 3))]) (.con (.int 1))))]⟩
def d_turns_once : PV.FD := ⟨PySem.Str.ofString "turns_once", st_turns_once, [PySem.Str.ofString "ways", PySem.Str.ofString "flags", PySem.Str.ofString "direction", PySem.Str.ofString "at"], [PySem.Str.ofString "ways"]⟩
abbrev st_goes_round : PySem.Stmt := topS 26
def f_goes_round : PV.Fn := ⟨1, 4, [
  (.asg (.nm 1) (.blt false .len [(.slot 0)])),
  (.ite (.or [(.cmp .lt (.slot 1) (.con (.int 3))), (.blt false .any [(.lc false [3] (.nm 3) .rng1 [(.slot 1)] [] (.cmp .eq (.idx (.slot 0) (.slot 3)) (.idx (.slot 0) (.bin false .sub (.slot 3) (.con (.int 1))))))])]) [(.ret (.con (.bl false)))] []),
  (.asg (.nm 2) (.lc false [3] (.nm 3) .rng1 [(.slot 1)] [] (.call true i_way [(.idx (.slot 0) (.slot 3)), (.idx (.slot 0) (.bin false .mod (.bin false .add (.slot 3) (.con (.int 1))) (.slot 1)))]))),
  (.ite (.not (.blt false .all [(.lc false [3] (.nm 3) .rng1 [(.slot 1)] [] (.cmp .gt (.call true i_turn_of [(.idx (.slot 2) (.bin false .sub (.slot 3) (.con (.int 1)))), (.idx (.slot 2) (.slot 3))]) (.con (.int 0))))])) [(.ret (.con (.bl false)))] []),
  (.ret (.call true i_turns_once [(.slot 2)]))]⟩
def d_goes_round : PV.FD := ⟨PySem.Str.ofString "goes_round", st_goes_round, [PySem.Str.ofString "points", PySem.Str.ofString "many", PySem.Str.ofString "ways", PySem.Str.ofString "at"], [PySem.Str.ofString "points"]⟩
abbrev st_is_frame : PySem.Stmt := topS 28
def f_is_frame : PV.Fn := ⟨2, 3, [
  (.ite (.or [(.not (.call true i_is_between [(.slot 0), (.gl 1), (.gl 2)])), (.not (.call true i_is_tuple_of [(.slot 1), (.slot 0)]))]) [(.ret (.con (.bl false)))] []),
  (.ret (.and [(.blt false .all [(.lc false [2] (.nm 2) .seq [(.slot 1)] [] (.call true i_is_point [(.slot 2)]))]), (.call true i_goes_round [(.slot 1)])]))]⟩
def d_is_frame : PV.FD := ⟨PySem.Str.ofString "is_frame", st_is_frame, [PySem.Str.ofString "sides", PySem.Str.ofString "thing", PySem.Str.ofString "point"], [PySem.Str.ofString "sides", PySem.Str.ofString "thing"]⟩
abbrev st_plain_frame : PySem.Stmt := topS 29
def f_plain_frame : PV.Fn := ⟨1, 2, [
  (.ite (.not (.call true i_is_between [(.slot 0), (.gl 1), (.gl 2)])) [(.raise 1)] []),
  (.ret (.blt false .tuple [(.lc false [1] (.nm 1) .rng1 [(.slot 0)] [] (.tup [(.tup [(.slot 1), (.con (.int 1))]), (.tup [(.bin false .mul (.slot 1) (.slot 1)), (.con (.int 1))])]))]))]⟩
def d_plain_frame : PV.FD := ⟨PySem.Str.ofString "plain_frame", st_plain_frame, [PySem.Str.ofString "sides", PySem.Str.ofString "i"], [PySem.Str.ofString "sides"]⟩
abbrev st__law_hat : PySem.Stmt := topS 31
def f__law_hat : PV.Fn := ⟨2, 4, [
  (.asg (.nm 2) (.bin false .mul (.bin false .mul (.bin false .mul (.bin false .pow (.con (.int 10)) (.con (.int 64))) (.bin false .pow (.con (.int 10)) (.con (.int 64)))) (.bin false .pow (.con (.int 10)) (.con (.int 64)))) (.bin false .pow (.con (.int 10)) (.con (.int 64))))),
  (.asg (.nm 3) (.bin false .mod (.blt false .int [(.slot 0)]) (.slot 2))),
  (.ite (.cmp .ge (.slot 3) (.bin false .pow (.con (.int 10)) (.con (.int 18)))) [(.ret (.lst true [(.slot 3), (.bin false .add (.bin false .mod (.blt false .int [(.slot 3)]) (.con (.int 2147483563))) (.slot 1))]))] []),
  (.ret (.lst true [(.con (.int 0)), (.bin false .mod (.bin false .add (.bin false .add (.bin false .mul (.bin false .mod (.blt false .int [(.slot 3)]) (.con (.int 2147483647))) (.con (.int 48271))) (.bin false .mul (.con (.int 7919)) (.slot 1))) (.con (.int 1))) (.con (.int 2147483647)))]))]⟩
def d__law_hat : PV.FD := ⟨PySem.Str.ofString "_law_hat", st__law_hat, [PySem.Str.ofString "_law_cell", PySem.Str.ofString "_law_k", PySem.Str.ofString "_law_wide", PySem.Str.ofString "_law_number"], [PySem.Str.ofString "_law_cell", PySem.Str.ofString "_law_k"]⟩
abbrev st__law_draw : PySem.Stmt := topS 32
def f__law_draw : PV.Fn := ⟨2, 3, [
  (.ite (.cmp .gt (.idx (.slot 0) (.con (.int 0))) (.con (.int 0))) [(.asg (.nm 2) (.bin false .mod (.blt false .int [(.idx (.slot 0) (.con (.int 0)))]) (.slot 1))), (.asg (.idx (.slot 0) (.con (.int 0))) (.bin false .fdiv (.idx (.slot 0) (.con (.int 0))) (.slot 1))), (.ret (.slot 2))] []),
  (.asg (.idx (.slot 0) (.con (.int 1))) (.bin false .mod (.bin false .add (.bin false .mul (.blt false .int [(.idx (.slot 0) (.con (.int 1)))]) (.con (.int 48271))) (.con (.int 11))) (.con (.int 2147483647)))),
  (.asg (.idx (.slot 0) (.con (.int 1))) (.bin false .mod (.bin false .add (.bin false .mul (.blt false .int [(.idx (.slot 0) (.con (.int 1)))]) (.bin false .add (.bin false .mod (.bin false .fdiv (.idx (.slot 0) (.con (.int 1))) (.con (.int 1009))) (.con (.int 65521))) (.con (.int 69621)))) (.con (.int 7))) (.con (.int 2147483629)))),
  (.ret (.bin true .mod (.bin false .fdiv (.idx (.slot 0) (.con (.int 1))) (.con (.int 16))) (.slot 1)))]⟩
def d__law_draw : PV.FD := ⟨PySem.Str.ofString "_law_draw", st__law_draw, [PySem.Str.ofString "_law_hat_here", PySem.Str.ofString "_law_many", PySem.Str.ofString "_law_digit"], [PySem.Str.ofString "_law_hat_here", PySem.Str.ofString "_law_many"]⟩
abbrev st__law_same : PySem.Stmt := topS 33
def f__law_same : PV.Fn := ⟨2, 4, [
  (.ite (.isi (.slot 1) .tuple) [(.ite (.or [(.not (.isi (.slot 0) .tuple)), (.cmp .ne (.blt false .len [(.slot 0)]) (.blt false .len [(.slot 1)]))]) [(.ret (.con (.bl false)))] []), (.for (.tup [(.nm 2), (.nm 3)]) .zip [(.slot 0), (.slot 1)] [(.ite (.not (.call true i__law_same [(.slot 2), (.slot 3)])) [(.ret (.con (.bl false)))] [])]), (.ret (.con (.bl true)))] []),
  (.ite (.cmp .is_ (.slot 1) (.con .non)) [(.ret (.cmp .is_ (.slot 0) (.con .non)))] []),
  (.ite (.isi (.slot 1) .str) [(.ret (.and [(.isi (.slot 0) .str), (.cmp .eq (.slot 0) (.slot 1))]))] []),
  (.ret (.and [(.isi (.slot 0) .int), (.not (.isi (.slot 0) .bool)), (.cmp .eq (.slot 0) (.slot 1))]))]⟩
def d__law_same : PV.FD := ⟨PySem.Str.ofString "_law_same", st__law_same, [PySem.Str.ofString "_law_actual", PySem.Str.ofString "_law_due", PySem.Str.ofString "_law_one", PySem.Str.ofString "_law_other"], [PySem.Str.ofString "_law_actual", PySem.Str.ofString "_law_due"]⟩
abbrev st__law_any : PySem.Stmt := topS 34
def f__law_any : PV.Fn := ⟨2, 2, [
  (.ret (.idx (.slot 1) (.call false i__law_draw [(.slot 0), (.blt false .len [(.slot 1)])])))]⟩
def d__law_any : PV.FD := ⟨PySem.Str.ofString "_law_any", st__law_any, [PySem.Str.ofString "_law_hat_here", PySem.Str.ofString "_law_things"], [PySem.Str.ofString "_law_hat_here", PySem.Str.ofString "_law_things"]⟩
abbrev st__law_gcd : PySem.Stmt := topS 35
def f__law_gcd : PV.Fn := ⟨2, 3, [
  (.asg (.nm 0) (.blt false .abs [(.slot 0)])),
  (.for (.nm 2) .rng1 [(.con (.int 90000))] [(.ite (.cmp .eq (.slot 1) (.con (.int 0))) [.brk] []), (.par 0 1 (.slot 1) (.bin false .mod (.blt false .int [(.slot 0)]) (.slot 1)))]),
  (.ret (.slot 0))]⟩
def d__law_gcd : PV.FD := ⟨PySem.Str.ofString "_law_gcd", st__law_gcd, [PySem.Str.ofString "_law_one", PySem.Str.ofString "_law_other", PySem.Str.ofString "_law_k"], [PySem.Str.ofString "_law_one", PySem.Str.ofString "_law_other"]⟩
abbrev st__law_fraction : PySem.Stmt := topS 36
def f__law_fraction : PV.Fn := ⟨2, 3, [
  (.asg (.nm 2) (.call true i__law_gcd [(.slot 0), (.slot 1)])),
  (.ret (.tup [(.bin false .fdiv (.slot 0) (.slot 2)), (.bin false .fdiv (.slot 1) (.slot 2))]))]⟩
def d__law_fraction : PV.FD := ⟨PySem.Str.ofString "_law_fraction", st__law_fraction, [PySem.Str.ofString "_law_top", PySem.Str.ofString "_law_bottom", PySem.Str.ofString "_law_shared"], [PySem.Str.ofString "_law_top", PySem.Str.ofString "_law_bottom"]⟩
abbrev st__law_frame : PySem.Stmt := topS 37
def f__law_frame : PV.Fn := ⟨2, 15, [
  (.asg (.nm 2) (.bin false .sub (.call false i__law_draw [(.slot 0), (.con (.int 7))]) (.con (.int 3)))),
  (.asg (.tup [(.nm 7), (.nm 8), (.nm 9), (.nm 10)]) (.tup [(.bin false .add (.con (.int 1)) (.call false i__law_draw [(.slot 0), (.con (.int 4))])), (.bin false .sub (.call false i__law_draw [(.slot 0), (.con (.int 5))]) (.con (.int 2))), (.bin false .sub (.call false i__law_draw [(.slot 0), (.con (.int 5))]) (.con (.int 2))), (.bin false .add (.con (.int 1)) (.call false i__law_draw [(.slot 0), (.con (.int 4))]))])),
  (.ite (.cmp .le (.bin false .sub (.bin false .mul (.slot 7) (.slot 10)) (.bin false .mul (.slot 8) (.slot 9))) (.con (.int 0))) [(.asg (.tup [(.nm 8), (.nm 9)]) (.tup [(.con (.int 0)), (.con (.int 0))]))] []),
  (.par 11 12 (.bin false .sub (.call false i__law_draw [(.slot 0), (.con (.int 41))]) (.con (.int 20))) (.bin false .sub (.call false i__law_draw [(.slot 0), (.con (.int 41))]) (.con (.int 20)))),
  (.asg (.nm 3) (.call false i__law_any [(.slot 0), (.lst false [(.con (.int 1)), (.con (.int 1)), (.con (.int 2)), (.con (.int 3)), (.con (.int 7))])])),
  (.asg (.nm 4) (.lst true [])),
  (.for (.nm 5) .rng1 [(.slot 1)] [(.par 13 14 (.slot 2) (.bin false .mul (.slot 2) (.slot 2))), (.app (.slot 4) (.tup [(.call true i__law_fraction [(.bin false .add (.bin false .add (.bin false .mul (.slot 7) (.slot 13)) (.bin false .mul (.slot 8) (.slot 14))) (.slot 11)), (.slot 3)]), (.call true i__law_fraction [(.bin false .add (.bin false .add (.bin false .mul (.slot 9) (.slot 13)) (.bin false .mul (.slot 10) (.slot 14))) (.slot 12)), (.slot 3)])])), (.asg (.nm 2) (.bin false .add (.bin false .add (.slot 2) (.con (.int 1))) (.call false i__law_draw [(.slot 0), (.con (.int 3))])))]),
  (.asg (.nm 6) (.call false i__law_draw [(.slot 0), (.slot 1)])),
  (.ret (.blt true .tuple [(.bin false .add (.slc false (.slot 4) (some (.slot 6)) none) (.slc false (.slot 4) none (some (.slot 6))))]))]⟩
def d__law_frame : PV.FD := ⟨PySem.Str.ofString "_law_frame", st__law_frame, [PySem.Str.ofString "_law_hat_here", PySem.Str.ofString "_law_sides", PySem.Str.ofString "_law_at", PySem.Str.ofString "_law_bottom", PySem.Str.ofString "_law_found", PySem.Str.ofString "_law_k", PySem.Str.ofString "_law_turn", PySem.Str.ofString "_law_a", PySem.Str.ofString "_law_b", PySem.Str.ofString "_law_c", PySem.Str.ofString "_law_d", PySem.Str.ofString "_law_right", PySem.Str.ofString "_law_up", PySem.Str.ofString "_law_x", PySem.Str.ofString "_law_y"], [PySem.Str.ofString "_law_hat_here", PySem.Str.ofString "_law_sides"]⟩
abbrev st__law_whole : PySem.Stmt := topS 38
def f__law_whole : PV.Fn := ⟨1, 6, [
  (.asg (.nm 1) (.con (.int 1))),
  (.for (.nm 2) .seq [(.slot 0)] [(.for (.nm 3) .seq [(.slot 2)] [(.asg (.nm 1) (.bin false .mul (.bin false .fdiv (.slot 1) (.call true i__law_gcd [(.slot 1), (.idx (.slot 3) (.con (.int 1)))])) (.idx (.slot 3) (.con (.int 1)))))])]),
  (.ret (.lc false [4, 5] (.tup [(.nm 4), (.nm 5)]) .seq [(.slot 0)] [] (.tup [(.bin false .mul (.idx (.slot 4) (.con (.int 0))) (.bin false .fdiv (.slot 1) (.idx (.slot 4) (.con (.int 1))))), (.bin false .mul (.idx (.slot 5) (.con (.int 0))) (.bin false .fdiv (.slot 1) (.idx (.slot 5) (.con (.int 1)))))])))]⟩
def d__law_whole : PV.FD := ⟨PySem.Str.ofString "_law_whole", st__law_whole, [PySem.Str.ofString "_law_points", PySem.Str.ofString "_law_shared", PySem.Str.ofString "_law_point", PySem.Str.ofString "_law_part", PySem.Str.ofString "_law_one", PySem.Str.ofString "_law_other"], [PySem.Str.ofString "_law_points"]⟩
abbrev st__law_way : PySem.Stmt := topS 39
def f__law_way : PV.Fn := ⟨3, 3, [
  (.ret (.tup [(.bin false .sub (.idx (.idx (.slot 0) (.slot 2)) (.con (.int 0))) (.idx (.idx (.slot 0) (.slot 1)) (.con (.int 0)))), (.bin false .sub (.idx (.idx (.slot 0) (.slot 2)) (.con (.int 1))) (.idx (.idx (.slot 0) (.slot 1)) (.con (.int 1))))]))]⟩
def d__law_way : PV.FD := ⟨PySem.Str.ofString "_law_way", st__law_way, [PySem.Str.ofString "_law_points", PySem.Str.ofString "_law_one", PySem.Str.ofString "_law_other"], [PySem.Str.ofString "_law_points", PySem.Str.ofString "_law_one", PySem.Str.ofString "_law_other"]⟩
abbrev st__law_cross : PySem.Stmt := topS 40
def f__law_cross : PV.Fn := ⟨2, 2, [
  (.ret (.bin false .sub (.bin false .mul (.idx (.slot 0) (.con (.int 0))) (.idx (.slot 1) (.con (.int 1)))) (.bin false .mul (.idx (.slot 0) (.con (.int 1))) (.idx (.slot 1) (.con (.int 0))))))]⟩
def d__law_cross : PV.FD := ⟨PySem.Str.ofString "_law_cross", st__law_cross, [PySem.Str.ofString "_law_first", PySem.Str.ofString "_law_second"], [PySem.Str.ofString "_law_first", PySem.Str.ofString "_law_second"]⟩
abbrev st__law_rounds_once : PySem.Stmt := topS 41
def f__law_rounds_once : PV.Fn := ⟨1, 4, [
  (.asg (.nm 1) (.lc false [2] (.nm 2) .seq [(.slot 0)] [] (.or [(.cmp .gt (.idx (.slot 2) (.con (.int 1))) (.con (.int 0))), (.and [(.cmp .eq (.idx (.slot 2) (.con (.int 1))) (.con (.int 0))), (.cmp .gt (.idx (.slot 2) (.con (.int 0))) (.con (.int 0)))])]))),
  (.ret (.cmp .eq (.blt false .len [(.lc false [3] (.nm 3) .rng1 [(.blt false .len [(.slot 1)])] [(.and [(.idx (.slot 1) (.slot 3)), (.not (.idx (.slot 1) (.bin false .sub (.slot 3) (.con (.int 1)))))])] (.slot 3))]) (.con (.int 1))))]⟩
def d__law_rounds_once : PV.FD := ⟨PySem.Str.ofString "_law_rounds_once", st__law_rounds_once, [PySem.Str.ofString "_law_ways", PySem.Str.ofString "_law_up", PySem.Str.ofString "_law_step", PySem.Str.ofString "_law_at"], [PySem.Str.ofString "_law_ways"]⟩
abbrev st__law_goes_round : PySem.Stmt := topS 42
def f__law_goes_round : PV.Fn := ⟨1, 4, [
  (.asg (.nm 1) (.blt false .len [(.slot 0)])),
  (.asg (.nm 2) (.lc false [3] (.nm 3) .rng1 [(.slot 1)] [] (.call true i__law_way [(.slot 0), (.slot 3), (.bin false .mod (.bin false .add (.slot 3) (.con (.int 1))) (.slot 1))]))),
  (.ite (.or [(.cmp .in_ (.tup [(.con (.int 0)), (.con (.int 0))]) (.slot 2)), (.not (.blt false .all [(.lc false [3] (.nm 3) .rng1 [(.slot 1)] [] (.cmp .gt (.call true i__law_cross [(.idx (.slot 2) (.bin false .sub (.slot 3) (.con (.int 1)))), (.idx (.slot 2) (.slot 3))]) (.con (.int 0))))]))]) [(.ret (.con (.bl false)))] []),
  (.ret (.call true i__law_rounds_once [(.slot 2)]))]⟩
def d__law_goes_round : PV.FD := ⟨PySem.Str.ofString "_law_goes_round", st__law_goes_round, [PySem.Str.ofString "_law_points", PySem.Str.ofString "_law_many", PySem.Str.ofString "_law_ways", PySem.Str.ofString "_law_at"], [PySem.Str.ofString "_law_points"]⟩
abbrev st__law_is_int : PySem.Stmt := topS 43
def f__law_is_int : PV.Fn := ⟨1, 1, [
  (.ret (.and [(.isi (.slot 0) .int), (.not (.isi (.slot 0) .bool))]))]⟩
def d__law_is_int : PV.FD := ⟨PySem.Str.ofString "_law_is_int", st__law_is_int, [PySem.Str.ofString "_law_thing_here"], [PySem.Str.ofString "_law_thing_here"]⟩
abbrev st__law_is_fraction : PySem.Stmt := topS 44
def f__law_is_fraction : PV.Fn := ⟨1, 1, [
  (.ite (.or [(.not (.isi (.slot 0) .tuple)), (.cmp .ne (.blt false .len [(.slot 0)]) (.con (.int 2))), (.not (.call true i__law_is_int [(.idx (.slot 0) (.con (.int 0)))])), (.not (.call true i__law_is_int [(.idx (.slot 0) (.con (.int 1)))]))]) [(.ret (.con (.bl false)))] []),
  (.ret (.and [(.cmp .ge (.idx (.slot 0) (.con (.int 1))) (.con (.int 1))), (.cmp .eq (.call true i__law_gcd [(.idx (.slot 0) (.con (.int 0))), (.idx (.slot 0) (.con (.int 1)))]) (.con (.int 1)))]))]⟩
def d__law_is_fraction : PV.FD := ⟨PySem.Str.ofString "_law_is_fraction", st__law_is_fraction, [PySem.Str.ofString "_law_thing_here"], [PySem.Str.ofString "_law_thing_here"]⟩
abbrev st__law_is_point : PySem.Stmt := topS 45
def f__law_is_point : PV.Fn := ⟨1, 1, [
  (.ret (.and [(.isi (.slot 0) .tuple), (.cmp .eq (.blt false .len [(.slot 0)]) (.con (.int 2))), (.call true i__law_is_fraction [(.idx (.slot 0) (.con (.int 0)))]), (.call true i__law_is_fraction [(.idx (.slot 0) (.con (.int 1)))])]))]⟩
def d__law_is_point : PV.FD := ⟨PySem.Str.ofString "_law_is_point", st__law_is_point, [PySem.Str.ofString "_law_thing_here"], [PySem.Str.ofString "_law_thing_here"]⟩
abbrev st__law_is_frame : PySem.Stmt := topS 46
def f__law_is_frame : PV.Fn := ⟨2, 3, [
  (.ite (.or [(.not (.isi (.slot 1) .tuple)), (.cmp .ne (.blt false .len [(.slot 1)]) (.slot 0)), (.not (.blt false .all [(.lc false [2] (.nm 2) .seq [(.slot 1)] [] (.call true i__law_is_point [(.slot 2)]))]))]) [(.ret (.con (.bl false)))] []),
  (.ret (.call true i__law_goes_round [(.call true i__law_whole [(.slot 1)])]))]⟩
def d__law_is_frame : PV.FD := ⟨PySem.Str.ofString "_law_is_frame", st__law_is_frame, [PySem.Str.ofString "_law_sides", PySem.Str.ofString "_law_thing_here", PySem.Str.ofString "_law_point"], [PySem.Str.ofString "_law_sides", PySem.Str.ofString "_law_thing_here"]⟩
abbrev st__law_middle : PySem.Stmt := topS 47
def f__law_middle : PV.Fn := ⟨2, 4, [
  (.ret (.blt false .tuple [(.lc false [2, 3] (.tup [(.nm 2), (.nm 3)]) .zip [(.slot 0), (.slot 1)] [] (.call true i__law_fraction [(.bin false .add (.bin false .mul (.idx (.slot 2) (.con (.int 0))) (.idx (.slot 3) (.con (.int 1)))) (.bin false .mul (.idx (.slot 3) (.con (.int 0))) (.idx (.slot 2) (.con (.int 1))))), (.bin false .mul (.bin false .mul (.con (.int 2)) (.idx (.slot 2) (.con (.int 1)))) (.idx (.slot 3) (.con (.int 1))))]))]))]⟩
def d__law_middle : PV.FD := ⟨PySem.Str.ofString "_law_middle", st__law_middle, [PySem.Str.ofString "_law_one", PySem.Str.ofString "_law_other", PySem.Str.ofString "_law_a", PySem.Str.ofString "_law_b"], [PySem.Str.ofString "_law_one", PySem.Str.ofString "_law_other"]⟩
abbrev st__law_long : PySem.Stmt := topS 48
def f__law_long : PV.Fn := ⟨2, 5, [
  (.asg (.nm 2) (.bin false .add (.bin false .pow (.con (.int 10)) (.con (.int 18))) (.call false i__law_draw [(.slot 0), (.bin false .pow (.con (.int 10)) (.con (.int 18)))]))),
  (.ret (.blt true .tuple [(.lc false [3, 4] (.tup [(.nm 3), (.nm 4)]) .seq [(.slot 1)] [] (.tup [(.call true i__law_fraction [(.bin false .mul (.idx (.slot 3) (.con (.int 0))) (.slot 2)), (.idx (.slot 3) (.con (.int 1)))]), (.call true i__law_fraction [(.bin false .mul (.idx (.slot 4) (.con (.int 0))) (.slot 2)), (.idx (.slot 4) (.con (.int 1)))])]))]))]⟩
def d__law_long : PV.FD := ⟨PySem.Str.ofString "_law_long", st__law_long, [PySem.Str.ofString "_law_hat_here", PySem.Str.ofString "_law_frame_here", PySem.Str.ofString "_law_times", PySem.Str.ofString "_law_x", PySem.Str.ofString "_law_y"], [PySem.Str.ofString "_law_hat_here", PySem.Str.ofString "_law_frame_here"]⟩
abbrev st__law_bad_fraction : PySem.Stmt := topS 49
def f__law_bad_fraction : PV.Fn := ⟨2, 5, [
  (.asg (.tup [(.nm 3), (.nm 4)]) (.slot 1)),
  (.asg (.nm 2) (.lst false [(.tup [(.bin false .mul (.slot 3) (.con (.int 2))), (.bin false .mul (.slot 4) (.con (.int 2)))]), (.tup [(.neg (.slot 3)), (.neg (.slot 4))]), (.tup [(.slot 3), (.con (.int 0))]), (.lst false [(.slot 3), (.slot 4)]), (.tup [(.slot 3)]), (.tup [(.con (.bl true)), (.con (.int 1))]), (.tup [(.con (.int 1)), (.con (.bl true))]), (.slot 3), (.con .non), (.con (.str (PySem.Str.ofString "1")))])),
  (.ret (.call false i__law_any [(.slot 0), (.bin false .add (.slot 2) (.lst false [(.tup [(.slot 3), (.slot 4), (.con (.int 1))]), (.tup [(.bin false .mul (.slot 3) (.con (.int 3))), (.bin false .mul (.slot 4) (.con (.int 3)))])]))]))]⟩
def d__law_bad_fraction : PV.FD := ⟨PySem.Str.ofString "_law_bad_fraction", st__law_bad_fraction, [PySem.Str.ofString "_law_hat_here", PySem.Str.ofString "_law_part", PySem.Str.ofString "_law_bad", PySem.Str.ofString "_law_top", PySem.Str.ofString "_law_bottom"], [PySem.Str.ofString "_law_hat_here", PySem.Str.ofString "_law_part"]⟩
abbrev st__law_spoilt : PySem.Stmt := topS 50
def f__law_spoilt : PV.Fn := ⟨2, 11, [
  (.asg (.nm 2) (.blt false .len [(.slot 1)])),
  (.asg (.nm 3) (.call false i__law_draw [(.slot 0), (.con (.int 9))])),
  (.asg (.nm 4) (.call false i__law_draw [(.slot 0), (.slot 2)])),
  (.ite (.cmp .eq (.slot 3) (.con (.int 0))) [(.ret (.rev true (.slot 1)))] []),
  (.ite (.cmp .eq (.slot 3) (.con (.int 1))) [(.ret (.bin true .add (.bin false .add (.slc false (.slot 1) none (some (.slot 4))) (.tup [(.idx (.slot 1) (.bin false .sub (.slot 4) (.con (.int 1))))])) (.slc false (.slot 1) (some (.bin false .add (.slot 4) (.con (.int 1)))) none)))] []),
  (.ite (.cmp .eq (.slot 3) (.con (.int 2))) [(.ret (.bin true .add (.bin false .add (.slc false (.slot 1) none (some (.slot 4))) (.tup [(.call true i__law_middle [(.idx (.slot 1) (.bin false .sub (.slot 4) (.con (.int 1)))), (.idx (.slot 1) (.bin false .mod (.bin false .add (.slot 4) (.con (.int 1))) (.slot 2)))])])) (.slc false (.slot 1) (some (.bin false .add (.slot 4) (.con (.int 1)))) none)))] []),
  (.ite (.cmp .eq (.slot 3) (.con (.int 3))) [(.asg (.nm 6) (.call true i__law_middle [(.idx (.slot 1) (.bin false .sub (.slot 4) (.con (.int 1)))), (.call true i__law_middle [(.idx (.slot 1) (.bin false .mod (.bin false .add (.slot 4) (.con (.int 1))) (.slot 2))), (.idx (.slot 1) (.bin false .mod (.bin false .add (.slot 4) (.con (.int 2))) (.slot 2)))])])), (.ret (.bin true .add (.bin false .add (.slc false (.slot 1) none (some (.slot 4))) (.tup [(.slot 6)])) (.slc false (.slot 1) (some (.bin false .add (.slot 4) (.con (.int 1)))) none)))] []),
  (.ite (.cmp .eq (.slot 3) (.con (.int 4))) [(.asg (.nm 7) (.call false i__law_any [(.slot 0), (.lst false [(.con (.int 2)), (.con (.int 2)), (.con (.int 3))])])), (.ret (.blt true .tuple [(.lc false [10] (.nm 10) .rng1 [(.slot 2)] [] (.idx (.slot 1) (.bin false .mod (.bin false .mul (.slot 10) (.slot 7)) (.slot 2))))]))] []),
  (.ite (.cmp .eq (.slot 3) (.con (.int 5))) [(.ret (.call false i__law_any [(.slot 0), (.lst false [(.slc false (.slot 1) (some (.con (.int 1))) none), (.bin false .add (.slot 1) (.slc false (.slot 1) none (some (.con (.int 1))))), (.blt false .list [(.slot 1)]), (.con .non), (.idx (.slot 1) (.con (.int 0))), (.tup [])])]))] []),
  (.ite (.cmp .eq (.slot 3) (.con (.int 6))) [(.ret (.bin true .add (.bin false .add (.slc false (.slot 1) none (some (.slot 4))) (.slc false (.slot 1) (some (.bin false .add (.slot 4) (.con (.int 1)))) none)) (.tup [(.idx (.slot 1) (.slot 4))])))] []),
  (.asg (.tup [(.nm 8), (.nm 9)]) (.idx (.slot 1) (.slot 4))),
  (.asg (.nm 5) (.call false i__law_any [(.slot 0), (.lst false [(.tup [(.call false i__law_bad_fraction [(.slot 0), (.slot 8)]), (.slot 9)]), (.tup [(.slot 8), (.call false i__law_bad_fraction [(.slot 0), (.slot 9)])]), (.lst false [(.slot 8), (.slot 9)]), (.tup [(.slot 8)]), (.tup [(.slot 8), (.slot 9), (.slot 8)])])])),
  (.ret (.bin true .add (.bin false .add (.slc false (.slot 1) none (some (.slot 4))) (.tup [(.slot 5)])) (.slc false (.slot 1) (some (.bin false .add (.slot 4) (.con (.int 1)))) none)))]⟩
def d__law_spoilt : PV.FD := ⟨PySem.Str.ofString "_law_spoilt", st__law_spoilt, [PySem.Str.ofString "_law_hat_here", PySem.Str.ofString "_law_frame_here", PySem.Str.ofString "_law_many", PySem.Str.ofString "_law_kind", PySem.Str.ofString "_law_at", PySem.Str.ofString "_law_point", PySem.Str.ofString "_law_inner", PySem.Str.ofString "_law_step", PySem.Str.ofString "_law_x", PySem.Str.ofString "_law_y", PySem.Str.ofString "_law_k"], [PySem.Str.ofString "_law_hat_here", PySem.Str.ofString "_law_frame_here"]⟩
abbrev st__law_refused : PySem.Stmt := topS 51
def f__law_refused : PV.Fn := ⟨1, 3, [
  (.asg (.nm 1) (.con .non)),
  (.tryi [(.expr (.call true i_plain_frame [(.slot 0)]))] 0 1 2 [1, 2, 3, 4]),
  (.ret (.slot 1))]⟩
def d__law_refused : PV.FD := ⟨PySem.Str.ofString "_law_refused", st__law_refused, [PySem.Str.ofString "_law_thing_here", PySem.Str.ofString "_law_found", PySem.Str.ofString "e"], [PySem.Str.ofString "_law_thing_here"]⟩
abbrev st__law_plain_right : PySem.Stmt := topS 52
def f__law_plain_right : PV.Fn := ⟨1, 4, [
  (.asg (.nm 1) (.call false i__law_any [(.slot 0), (.lst false [(.con (.int 2)), (.con (.int 9)), (.neg (.con (.int 3))), (.con (.int 0)), (.con (.bl true)), (.con .non), (.con (.str (PySem.Str.ofString "4"))), (.tup [(.con (.int 4))]), (.lst false [(.con (.int 4))]), (.bin false .pow (.con (.int 10)) (.con (.int 29))), (.con (.int 3)), (.con (.int 4)), (.con (.int 5)), (.con (.int 6)), (.con (.int 7)), (.con (.int 8))])])),
  (.ite (.or [(.not (.isi (.slot 1) .int)), (.isi (.slot 1) .bool), (.not (.chain .le .le (.con (.int 3)) (.slot 1) (.con (.int 8))))]) [(.ret (.cmp .eq (.call true i__law_refused [(.slot 1)]) (.lst false [(.con (.bl true)), (.con (.bl false)), (.con (.bl false)), (.con (.bl true))])))] []),
  (.asg (.nm 2) (.blt false .tuple [(.lc false [3] (.nm 3) .rng1 [(.slot 1)] [] (.tup [(.tup [(.slot 3), (.con (.int 1))]), (.tup [(.bin false .mul (.slot 3) (.slot 3)), (.con (.int 1))])]))])),
  (.ret (.and [(.call true i__law_same [(.call true i_plain_frame [(.slot 1)]), (.slot 2)]), (.cmp .is_ (.call true i_is_frame [(.slot 1), (.slot 2)]) (.con (.bl true)))]))]⟩
def d__law_plain_right : PV.FD := ⟨PySem.Str.ofString "_law_plain_right", st__law_plain_right, [PySem.Str.ofString "_law_hat_here", PySem.Str.ofString "_law_thing_here", PySem.Str.ofString "_law_due", PySem.Str.ofString "_law_i"], [PySem.Str.ofString "_law_hat_here"]⟩
abbrev st__law_thing : PySem.Stmt := topS 53
def f__law_thing : PV.Fn := ⟨1, 5, [
  (.asg (.nm 1) (.bin false .add (.con (.int 3)) (.call false i__law_draw [(.slot 0), (.con (.int 6))]))),
  (.asg (.nm 2) (.call false i__law_frame [(.slot 0), (.slot 1)])),
  (.ite (.cmp .eq (.call false i__law_draw [(.slot 0), (.con (.int 4))]) (.con (.int 0))) [(.asg (.nm 2) (.call false i__law_long [(.slot 0), (.slot 2)]))] []),
  (.for (.nm 3) .rng1 [(.call false i__law_any [(.slot 0), (.lst false [(.con (.int 0)), (.con (.int 0)), (.con (.int 1)), (.con (.int 1)), (.con (.int 2))])])] [(.ite (.or [(.cmp .eq (.slot 3) (.con (.int 0))), (.and [(.isi (.slot 2) .tuple), (.cmp .gt (.blt false .len [(.slot 2)]) (.con (.int 2))), (.blt false .all [(.lc false [4] (.nm 4) .seq [(.slot 2)] [] (.call true i__law_is_point [(.slot 4)]))])])]) [(.asg (.nm 2) (.call false i__law_spoilt [(.slot 0), (.slot 2)]))] [])]),
  (.ret (.tup [(.call false i__law_any [(.slot 0), (.lst false [(.slot 1), (.slot 1), (.slot 1), (.slot 1), (.bin false .add (.con (.int 3)) (.bin false .mod (.slot 1) (.con (.int 6))))])]), (.slot 2)]))]⟩
def d__law_thing : PV.FD := ⟨PySem.Str.ofString "_law_thing", st__law_thing, [PySem.Str.ofString "_law_hat_here", PySem.Str.ofString "_law_sides", PySem.Str.ofString "_law_thing_here", PySem.Str.ofString "_law_turn", PySem.Str.ofString "_law_one"], [PySem.Str.ofString "_law_hat_here"]⟩
abbrev st_law : PySem.Stmt := topS 54
def f_law : PV.Fn := ⟨1, 7, [
  (.for (.tup [(.nm 1), (.nm 2)]) .enum [(.bin false .add (.blt false .list [(.slot 0)]) (.lst false [(.con (.int 3)), (.con (.int 15)), (.con (.int 42))]))] [(.asg (.nm 3) (.call false i__law_hat [(.slot 2), (.slot 1)])), (.ite (.not (.call false i__law_plain_right [(.slot 3)])) [(.ret (.con (.bl false)))] []), (.asg (.tup [(.nm 5), (.nm 6)]) (.call false i__law_thing [(.slot 3)])), (.asg (.nm 4) (.call true i_is_frame [(.slot 5), (.slot 6)])), (.ite (.or [(.not (.isi (.slot 4) .bool)), (.cmp .ne (.slot 4) (.call true i__law_is_frame [(.slot 5), (.slot 6)]))]) [(.ret (.con (.bl false)))] [])]),
  (.ret (.con (.bl true)))]⟩
def d_law : PV.FD := ⟨PySem.Str.ofString "law", st_law, [PySem.Str.ofString "_law_script", PySem.Str.ofString "_law_k", PySem.Str.ofString "_law_cell", PySem.Str.ofString "_law_hat_here", PySem.Str.ofString "_law_told", PySem.Str.ofString "_law_sides", PySem.Str.ofString "_law_thing_here"], [PySem.Str.ofString "_law_script"]⟩
def prog : PV.Prog := ⟨[f_is_integer, f_is_between, f_is_tuple_of, f_is_fraction, f_fraction, f_is_less, f_minus, f_times, f_is_point, f_sign_of, f_way, f_turn_of, f_is_upper, f_turns_once, f_goes_round, f_is_frame, f_plain_frame, f__law_hat, f__law_draw, f__law_same, f__law_any, f__law_gcd, f__law_fraction, f__law_frame, f__law_whole, f__law_way, f__law_cross, f__law_rounds_once, f__law_goes_round, f__law_is_int, f__law_is_fraction, f__law_is_point, f__law_is_frame, f__law_middle, f__law_long, f__law_bad_fraction, f__law_spoilt, f__law_refused, f__law_plain_right, f__law_thing, f_law], [(.tup [(.int 0), (.int 1)]), (.int 3), (.int 8)], [[0, 4], [1, 0, 4], [2, 0, 4], [3, 0, 4], [4]], 1000000⟩
def cfg : PV.Cfg := ⟨prog, [PySem.Str.ofString "is_integer", PySem.Str.ofString "is_between", PySem.Str.ofString "is_tuple_of", PySem.Str.ofString "is_fraction", PySem.Str.ofString "fraction", PySem.Str.ofString "is_less", PySem.Str.ofString "minus", PySem.Str.ofString "times", PySem.Str.ofString "is_point", PySem.Str.ofString "sign_of", PySem.Str.ofString "way", PySem.Str.ofString "turn_of", PySem.Str.ofString "is_upper", PySem.Str.ofString "turns_once", PySem.Str.ofString "goes_round", PySem.Str.ofString "is_frame", PySem.Str.ofString "plain_frame", PySem.Str.ofString "_law_hat", PySem.Str.ofString "_law_draw", PySem.Str.ofString "_law_same", PySem.Str.ofString "_law_any", PySem.Str.ofString "_law_gcd", PySem.Str.ofString "_law_fraction", PySem.Str.ofString "_law_frame", PySem.Str.ofString "_law_whole", PySem.Str.ofString "_law_way", PySem.Str.ofString "_law_cross", PySem.Str.ofString "_law_rounds_once", PySem.Str.ofString "_law_goes_round", PySem.Str.ofString "_law_is_int", PySem.Str.ofString "_law_is_fraction", PySem.Str.ofString "_law_is_point", PySem.Str.ofString "_law_is_frame", PySem.Str.ofString "_law_middle", PySem.Str.ofString "_law_long", PySem.Str.ofString "_law_bad_fraction", PySem.Str.ofString "_law_spoilt", PySem.Str.ofString "_law_refused", PySem.Str.ofString "_law_plain_right", PySem.Str.ofString "_law_thing", PySem.Str.ofString "law"], [PySem.Str.ofString "StrokeError", PySem.Str.ofString "NoSides", PySem.Str.ofString "NoFrame", PySem.Str.ofString "NoWeights", PySem.Str.ofString "ValueError"], [PySem.Str.ofString "NOUGHT", PySem.Str.ofString "LEAST_SIDES", PySem.Str.ofString "MOST_SIDES"], [PySem.Str.ofString "abs", PySem.Str.ofString "all", PySem.Str.ofString "any", PySem.Str.ofString "bool", PySem.Str.ofString "enumerate", PySem.Str.ofString "int", PySem.Str.ofString "isinstance", PySem.Str.ofString "len", PySem.Str.ofString "list", PySem.Str.ofString "range", PySem.Str.ofString "str", PySem.Str.ofString "tuple", PySem.Str.ofString "zip"], true, [1]⟩
def fds : List PV.FD := [d_is_integer, d_is_between, d_is_tuple_of, d_is_fraction, d_fraction, d_is_less, d_minus, d_times, d_is_point, d_sign_of, d_way, d_turn_of, d_is_upper, d_turns_once, d_goes_round, d_is_frame, d_plain_frame, d__law_hat, d__law_draw, d__law_same, d__law_any, d__law_gcd, d__law_fraction, d__law_frame, d__law_whole, d__law_way, d__law_cross, d__law_rounds_once, d__law_goes_round, d__law_is_int, d__law_is_fraction, d__law_is_point, d__law_is_frame, d__law_middle, d__law_long, d__law_bad_fraction, d__law_spoilt, d__law_refused, d__law_plain_right, d__law_thing, d_law]
theorem c_is_integer : PV.chkFn cfg d_is_integer f_is_integer = true := by decide +kernel
theorem c_is_between : PV.chkFn cfg d_is_between f_is_between = true := by decide +kernel
theorem c_is_tuple_of : PV.chkFn cfg d_is_tuple_of f_is_tuple_of = true := by decide +kernel
theorem c_is_fraction : PV.chkFn cfg d_is_fraction f_is_fraction = true := by decide +kernel
theorem c_fraction : PV.chkFn cfg d_fraction f_fraction = true := by decide +kernel
theorem c_is_less : PV.chkFn cfg d_is_less f_is_less = true := by decide +kernel
theorem c_minus : PV.chkFn cfg d_minus f_minus = true := by decide +kernel
theorem c_times : PV.chkFn cfg d_times f_times = true := by decide +kernel
theorem c_is_point : PV.chkFn cfg d_is_point f_is_point = true := by decide +kernel
theorem c_sign_of : PV.chkFn cfg d_sign_of f_sign_of = true := by decide +kernel
theorem c_way : PV.chkFn cfg d_way f_way = true := by decide +kernel
theorem c_turn_of : PV.chkFn cfg d_turn_of f_turn_of = true := by decide +kernel
theorem c_is_upper : PV.chkFn cfg d_is_upper f_is_upper = true := by decide +kernel
theorem c_turns_once : PV.chkFn cfg d_turns_once f_turns_once = true := by decide +kernel
theorem c_goes_round : PV.chkFn cfg d_goes_round f_goes_round = true := by decide +kernel
theorem c_is_frame : PV.chkFn cfg d_is_frame f_is_frame = true := by decide +kernel
theorem c_plain_frame : PV.chkFn cfg d_plain_frame f_plain_frame = true := by decide +kernel
theorem c__law_hat : PV.chkFn cfg d__law_hat f__law_hat = true := by decide +kernel
theorem c__law_draw : PV.chkFn cfg d__law_draw f__law_draw = true := by decide +kernel
theorem c__law_same : PV.chkFn cfg d__law_same f__law_same = true := by decide +kernel
theorem c__law_any : PV.chkFn cfg d__law_any f__law_any = true := by decide +kernel
theorem c__law_gcd : PV.chkFn cfg d__law_gcd f__law_gcd = true := by decide +kernel
theorem c__law_fraction : PV.chkFn cfg d__law_fraction f__law_fraction = true := by decide +kernel
theorem c__law_frame : PV.chkFn cfg d__law_frame f__law_frame = true := by decide +kernel
theorem c__law_whole : PV.chkFn cfg d__law_whole f__law_whole = true := by decide +kernel
theorem c__law_way : PV.chkFn cfg d__law_way f__law_way = true := by decide +kernel
theorem c__law_cross : PV.chkFn cfg d__law_cross f__law_cross = true := by decide +kernel
theorem c__law_rounds_once : PV.chkFn cfg d__law_rounds_once f__law_rounds_once = true := by decide +kernel
theorem c__law_goes_round : PV.chkFn cfg d__law_goes_round f__law_goes_round = true := by decide +kernel
theorem c__law_is_int : PV.chkFn cfg d__law_is_int f__law_is_int = true := by decide +kernel
theorem c__law_is_fraction : PV.chkFn cfg d__law_is_fraction f__law_is_fraction = true := by decide +kernel
theorem c__law_is_point : PV.chkFn cfg d__law_is_point f__law_is_point = true := by decide +kernel
theorem c__law_is_frame : PV.chkFn cfg d__law_is_frame f__law_is_frame = true := by decide +kernel
theorem c__law_middle : PV.chkFn cfg d__law_middle f__law_middle = true := by decide +kernel
theorem c__law_long : PV.chkFn cfg d__law_long f__law_long = true := by decide +kernel
theorem c__law_bad_fraction : PV.chkFn cfg d__law_bad_fraction f__law_bad_fraction = true := by decide +kernel
theorem c__law_spoilt : PV.chkFn cfg d__law_spoilt f__law_spoilt = true := by decide +kernel
theorem c__law_refused : PV.chkFn cfg d__law_refused f__law_refused = true := by decide +kernel
theorem c__law_plain_right : PV.chkFn cfg d__law_plain_right f__law_plain_right = true := by decide +kernel
theorem c__law_thing : PV.chkFn cfg d__law_thing f__law_thing = true := by decide +kernel
theorem c_law : PV.chkFn cfg d_law f_law = true := by decide +kernel
theorem chk : PV.chkAll cfg fds prog.fns = true := by
  simp only [fds, prog, PV.chkAll, Bool.and_eq_true, List.isEmpty_nil, and_true]
  exact ⟨c_is_integer, c_is_between, c_is_tuple_of, c_is_fraction, c_fraction, c_is_less, c_minus, c_times, c_is_point, c_sign_of, c_way, c_turn_of, c_is_upper, c_turns_once, c_goes_round, c_is_frame, c_plain_frame, c__law_hat, c__law_draw, c__law_same, c__law_any, c__law_gcd, c__law_fraction, c__law_frame, c__law_whole, c__law_way, c__law_cross, c__law_rounds_once, c__law_goes_round, c__law_is_int, c__law_is_fraction, c__law_is_point, c__law_is_frame, c__law_middle, c__law_long, c__law_bad_fraction, c__law_spoilt, c__law_refused, c__law_plain_right, c__law_thing, c_law⟩
end LW
namespace LW
open PySem PV
/-- whole numbers, truth values, texts, tuples and lists of such: what isinstance may be asked -/
def plainD : D → Bool
  | .ins _ _ => false
  | .scr _ => false
  | _ => true
@[simp] theorem plain_non : plainD .non = true := by simp only [plainD]
@[simp] theorem plain_bl {b : Bool} : plainD (.bl b) = true := by simp only [plainD]
@[simp] theorem plain_int {i : Int} : plainD (.int i) = true := by simp only [plainD]
@[simp] theorem plain_str {x : Str} : plainD (.str x) = true := by simp only [plainD]
@[simp] theorem plain_tup {l : List D} : plainD (.tup l) = true := by simp only [plainD]
@[simp] theorem plain_lst {l : List D} : plainD (.lst l) = true := by simp only [plainD]
@[simp] theorem plain_ins {c : Nat} {l : List D} : plainD (.ins c l) = false := by simp only [plainD]
@[simp] theorem plain_scr {l : List Int} : plainD (.scr l) = false := by simp only [plainD]
def isIntD : D → Bool
  | .int _ => true
  | _ => false
theorem p_is_integer {k : Nat} {d : D} (h1 : plainD d = true) : (ctx prog (k + 1)).fp i_is_integer [d] = .ok (.bl (isIntD d)) := by
  rw [fp_end (f := i_is_integer) rfl rfl]
  cases d <;> first | (simp [plainD] at h1; done) | simp [isTy, isIntD]
def Hat (S : Sto) (h : Nat) : Prop := ∃ a b : Int, S[h]? = some (.lst [.d (.int a), .d (.int b)]) ∧ b.natAbs < 2 ^ 40
theorem p_draw {k h : Nat} {S : Sto} {m : Int} (hH : Hat S h) (hm : 0 < m) (hm2 : m.natAbs < 2 ^ 9000) : ((ctx prog (k + 1)).fn i__law_draw [.ref h, .d (.int m)] S).sat fun u S' => ∃ d : Int, u = .d (.int d) ∧ 0 ≤ d ∧ d < m ∧ Hat S' h ∧ ∀ j, j ≠ h → S'[j]? = S[j]? := by
  obtain ⟨a, b, hS, hb⟩ := hH
  rw [fn_end (f := i__law_draw) rfl rfl, endS_sat]
  have hm0 : m ≠ 0 := by omega
  have hh : h < S.length := (List.getElem?_eq_some_iff.mp hS).1
  by_cases ha : 0 < a
  · have e1 : (S.set h (MO.lst [U.d (D.int (a.fdiv m)), U.d (D.int b)]))[h]? = some (MO.lst [U.d (D.int (a.fdiv m)), U.d (D.int b)]) := by simp [hh]
    simp [getIx_ref hS, ha, opB_mod hm0, opB_fdiv hm0 hm2, setK_ref hS (show L2.ixN _ 0 = some 0 from rfl)]
    exact ⟨Int.fmod_nonneg_of_pos a hm, Int.fmod_lt_of_pos a hm, ⟨_, _, e1, hb⟩, fun j hj => by rw [List.getElem?_set_ne (by omega)]⟩
  · have h1 : ∀ us, (S.set h (MO.lst us))[h]? = some (MO.lst us) := fun us => by simp [hh]
    have g1 : ∀ us i, getIx (.ref h) (.d (.int i)) (S.set h (.lst us)) = match L2.atI us i with | some u => .ok u (S.set h (.lst us)) | none => .stuck := fun us i => getIx_ref (h1 us)
    have s1 : ∀ x y v g, setK (.ref h) (.d (.int 1)) v g (S.set h (.lst [x, y])) = .ok .nx g (S.set h (.lst [x, v])) := fun x y v g => by
      rw [setK_ref (h1 _) (show L2.ixN _ 1 = some 1 from rfl), List.set_set]; rfl
    have m1 : (b * 48271 + 11).fmod 2147483647 = (b * 48271 + 11).fmod 2147483647 := rfl
    generalize eb1 : (b * 48271 + 11).fmod 2147483647 = b1 at m1
    have b1a : 0 ≤ b1 := eb1 ▸ Int.fmod_nonneg_of_pos _ (by decide)
    have b1b : b1 < 2147483647 := eb1 ▸ Int.fmod_lt_of_pos _ (by decide)
    have b2 : b1.natAbs < 2 ^ 31 := by omega
    have b3a := Int.fmod_nonneg_of_pos (b1.fdiv 1009) (show (0 : Int) < 65521 by decide)
    have b3b := Int.fmod_lt_of_pos (b1.fdiv 1009) (show (0 : Int) < 65521 by decide)
    have b3 : ((b1.fdiv 1009).fmod 65521 + 69621).natAbs < 2 ^ 20 := by omega
    simp [getIx_ref hS, ha, opB_mul hb (show (48271 : Int).natAbs < 2 ^ 16 by decide) (by decide), opB_mod (show (2147483647 : Int) ≠ 0 by decide), setK_ref hS (show L2.ixN [U.d (D.int a), U.d (D.int b)].length 1 = some 1 from rfl), eb1, g1, opB_fdiv (show (1009 : Int) ≠ 0 by decide) (show (1009 : Int).natAbs < 2 ^ 9000 by decide +kernel),
      opB_mod (show (65521 : Int) ≠ 0 by decide), opB_mul b2 b3 (by decide), opB_mod (show (2147483629 : Int) ≠ 0 by decide), s1, opB_fdiv (show (16 : Int) ≠ 0 by decide) (show (16 : Int).natAbs < 2 ^ 9000 by decide +kernel), opB_mod hm0]
    refine ⟨Int.fmod_nonneg_of_pos _ hm, Int.fmod_lt_of_pos _ hm, ⟨_, _, h1 _, ?_⟩, fun j hj => by rw [List.getElem?_set_ne (by omega)]⟩
    have c1 := Int.fmod_nonneg_of_pos (b1 * ((b1.fdiv 1009).fmod 65521 + 69621) + 7) (show (0 : Int) < 2147483629 by decide)
    have c2 := Int.fmod_lt_of_pos (b1 * ((b1.fdiv 1009).fmod 65521 + 69621) + 7) (show (0 : Int) < 2147483629 by decide)
    omega
end LW
namespace LW
open PySem PV
theorem mod_half {x y : Nat} (h : y ≤ x) (h0 : 0 < y) : 2 * (x % y) ≤ x := by
  have h1 := Nat.mod_lt x h0
  have h2 := Nat.div_add_mod x y
  have h3 : 1 ≤ x / y := (Nat.le_div_iff_mul_le h0).mpr (by omega)
  have h4 : y * 1 ≤ y * (x / y) := Nat.mul_le_mul_left y h3
  omega
theorem p_gcd {k : Nat} {a b : Int} (hb : 0 ≤ b) (hb2 : b.natAbs < 2 ^ 40000) : (ctx prog (k + 1)).fp i__law_gcd [.int a, .int b] = .ok (.int ((Nat.gcd a.natAbs b.natAbs : Nat) : Int)) := by
  rw [fp_end (f := i__law_gcd) rfl rfl]
  simp
  have L : ∀ body, body = (evSs (ctx prog k) [PV.S.ite (E.cmp Cop.eq (E.slot 1) (E.con (D.int 0))) [PV.S.brk] [], PV.S.par 0 1 (E.slot 1) (E.bin false Bop.mod (E.blt false Bf.int [E.slot 0]) (E.slot 1))]) →
      (forK (ctx prog k) (.nm 2) .rng1 body [.d (.int ((90000 : Nat) : Int))] [some (.d (.int a.natAbs)), some (.d (.int b)), none] []).sat fun f g S => f = .nx ∧ S = [] ∧ ∃ y z, g = [some (.d (.int ((Nat.gcd a.natAbs b.natAbs : Nat) : Int))), y, z] := by
    intro body eb
    refine forK_list (itOf_rng (by decide)) rng_list (fun i g S => S = [] ∧ ∃ (x y : Nat) (z : Option U), g = [some (.d (.int x)), some (.d (.int y)), z] ∧ Nat.gcd x y = Nat.gcd a.natAbs b.natAbs ∧ (i = 0 → y < 2 ^ 40000) ∧ (1 ≤ i → y ≤ x ∧ x * y * 2 ^ (i - 1) < 2 ^ 80000)) ?_ ?_ ?_
    · refine ⟨rfl, a.natAbs, b.natAbs, none, ?_, rfl, fun _ => hb2, fun h => by omega⟩
      rw [Int.natAbs_of_nonneg hb]
    · rintro i u g S hu ⟨rfl, x, y, z, rfl, hg, h0, h1⟩
      refine ⟨[some (.d (.int x)), some (.d (.int y)), some u], by simp, ?_⟩
      subst eb
      by_cases hy : y = 0
      · subst hy
        simp
        rw [← hg]; simp
      · have hy2 : (y : Int) ≠ 0 := by omega
        simp [hy2, hy, opB_mod hy2, parK]
        refine ⟨y, x % y, ⟨rfl, by rw [fmod_nat]⟩, ?_, ?_⟩
        · rw [← hg, Nat.gcd_comm x y, Nat.gcd_rec y x, Nat.gcd_comm]
        · have hy3 : 0 < y := by omega
          have hlt := Nat.mod_lt x hy3
          refine ⟨by omega, ?_⟩
          by_cases hi : i = 0
          · subst hi
            have q := h0 rfl
            have : y * (x % y) ≤ 2 ^ 40000 * (y) := by
              rw [Nat.mul_comm y]
              exact Nat.mul_le_mul (by omega) (Nat.le_refl _)
            have q2 : 2 ^ 40000 * y < 2 ^ 40000 * 2 ^ 40000 := Nat.mul_lt_mul_of_pos_left q (Nat.pow_pos (by decide))
            rw [← Nat.pow_add] at q2
            simpa using Nat.lt_of_le_of_lt this q2
          · obtain ⟨q1, q2⟩ := h1 (by omega)
            have e : 2 ^ i = 2 * 2 ^ (i - 1) := by
              rw [← Nat.pow_succ']; congr 1; omega
            rw [e]
            refine Nat.lt_of_le_of_lt ?_ q2
            have q3 := mod_half q1 hy3
            calc y * (x % y) * (2 * 2 ^ (i - 1)) = (2 * (x % y)) * y * 2 ^ (i - 1) := by
                  rw [← Nat.mul_assoc, Nat.mul_comm (y * (x % y)) 2, Nat.mul_comm y, ← Nat.mul_assoc]
              _ ≤ x * y * 2 ^ (i - 1) := Nat.mul_le_mul_right _ (Nat.mul_le_mul_right _ q3)
    · rintro g S ⟨rfl, x, y, z, rfl, hg, h0, h1⟩
      obtain ⟨q1, q2⟩ := h1 (by simp)
      have : y = 0 := by
        rcases Nat.eq_zero_or_pos y with h | h
        · exact h
        · exfalso
          have : 1 ≤ x * y := Nat.mul_le_mul (show 1 ≤ x by omega) h
          have q3 : 2 ^ 80000 ≤ x * y * 2 ^ (90000 - 1) := by
            calc 2 ^ 80000 ≤ 2 ^ (90000 - 1) := Nat.pow_le_pow_right (by decide) (by decide)
              _ = 1 * 2 ^ (90000 - 1) := (Nat.one_mul _).symm
              _ ≤ _ := Nat.mul_le_mul_right _ this
          simp only [List.length_map, List.length_range] at q2
          omega
      subst this
      refine ⟨rfl, rfl, some (.d (.int 0)), z, ?_⟩
      rw [← hg]; simp
  obtain ⟨f, g, S, e, rfl, rfl, y, z, rfl⟩ := RS.sat_iff.mp (L _ rfl)
  rw [show ((90000 : Nat) : Int) = 90000 from rfl] at e
  rw [e]
  simp
end LW
namespace LW
open PySem PV
/-! ### fractions: plain mathematics -/
abbrev Fr := Int × Int
def frD (f : Fr) : D := .tup [.int f.1, .int f.2]
def red (t b : Int) : Fr := (t.fdiv ((Nat.gcd t.natAbs b.natAbs : Nat) : Int), b.fdiv ((Nat.gcd t.natAbs b.natAbs : Nat) : Int))
structure Nf (n : Nat) (f : Fr) : Prop where
  pos : 1 ≤ f.2
  g : Nat.gcd f.1.natAbs f.2.natAbs = 1
  b1 : f.1.natAbs < 2 ^ n
  b2 : f.2.natAbs < 2 ^ n
theorem Nf.mono {n m : Nat} {f : Fr} (h : Nf n f) (e : n ≤ m) : Nf m f :=
  ⟨h.pos, h.g, Nat.lt_of_lt_of_le h.b1 (Nat.pow_le_pow_right (by decide) e), Nat.lt_of_lt_of_le h.b2 (Nat.pow_le_pow_right (by decide) e)⟩
theorem red_mul {t b : Int} (hb : 0 < b) : (red t b).1 * ((Nat.gcd t.natAbs b.natAbs : Nat) : Int) = t ∧ (red t b).2 * ((Nat.gcd t.natAbs b.natAbs : Nat) : Int) = b := by
  have h1 : ((Nat.gcd t.natAbs b.natAbs : Nat) : Int) ∣ t := Int.ofNat_dvd_left.mpr (Nat.gcd_dvd_left _ _)
  have h2 : ((Nat.gcd t.natAbs b.natAbs : Nat) : Int) ∣ b := Int.ofNat_dvd_left.mpr (Nat.gcd_dvd_right _ _)
  unfold red
  dsimp only
  rw [Int.fdiv_eq_ediv_of_nonneg _ (by omega), Int.fdiv_eq_ediv_of_nonneg _ (by omega)]
  exact ⟨Int.ediv_mul_cancel h1, Int.ediv_mul_cancel h2⟩
theorem gcd_pos_of {t b : Int} (hb : 0 < b) : 0 < Nat.gcd t.natAbs b.natAbs := Nat.gcd_pos_of_pos_right _ (by omega)
theorem red_pos {t b : Int} (hb : 0 < b) : 1 ≤ (red t b).2 := by
  obtain ⟨_, h⟩ := red_mul (t := t) hb
  have hg := gcd_pos_of (t := t) hb
  by_cases h0 : (red t b).2 ≤ 0
  · exfalso
    have : (red t b).2 * ((Nat.gcd t.natAbs b.natAbs : Nat) : Int) ≤ 0 := Int.mul_nonpos_of_nonpos_of_nonneg h0 (by omega)
    omega
  · omega
theorem natAbs_le_of_mul {x y g : Int} (h : x * g = y) (hg : 0 < g) : x.natAbs ≤ y.natAbs := by
  rw [← h, Int.natAbs_mul]
  exact Nat.le_mul_of_pos_right _ (by omega)
theorem red_nf {t b : Int} {n : Nat} (hb : 0 < b) (h1 : t.natAbs < 2 ^ n) (h2 : b.natAbs < 2 ^ n) : Nf n (red t b) := by
  obtain ⟨e1, e2⟩ := red_mul (t := t) hb
  have hg := gcd_pos_of (t := t) hb
  refine ⟨red_pos hb, ?_, Nat.lt_of_le_of_lt (natAbs_le_of_mul e1 (by omega)) h1, Nat.lt_of_le_of_lt (natAbs_le_of_mul e2 (by omega)) h2⟩
  have a1 : (red t b).1.natAbs * Nat.gcd t.natAbs b.natAbs = t.natAbs := by
    have := congrArg Int.natAbs e1
    rwa [Int.natAbs_mul, Int.natAbs_natCast] at this
  have a2 : (red t b).2.natAbs * Nat.gcd t.natAbs b.natAbs = b.natAbs := by
    have := congrArg Int.natAbs e2
    rwa [Int.natAbs_mul, Int.natAbs_natCast] at this
  have := Nat.gcd_mul_right (red t b).1.natAbs (Nat.gcd t.natAbs b.natAbs) (red t b).2.natAbs
  rw [a1, a2] at this
  have h3 : 1 * Nat.gcd t.natAbs b.natAbs = Nat.gcd (red t b).1.natAbs (red t b).2.natAbs * Nat.gcd t.natAbs b.natAbs := by rw [Nat.one_mul]; exact this
  exact (Nat.eq_of_mul_eq_mul_right hg h3).symm
theorem red_eq {t b : Int} (hb : 0 < b) : (red t b).1 * b = t * (red t b).2 := by
  obtain ⟨e1, e2⟩ := red_mul (t := t) hb
  generalize hg : ((Nat.gcd t.natAbs b.natAbs : Nat) : Int) = g at e1 e2
  calc (red t b).1 * b = (red t b).1 * ((red t b).2 * g) := by rw [e2]
    _ = ((red t b).1 * g) * (red t b).2 := by rw [Int.mul_comm (red t b).2 g, Int.mul_assoc]
    _ = t * (red t b).2 := by rw [e1]
def minusF (f g : Fr) : Fr := red (f.1 * g.2 - g.1 * f.2) (f.2 * g.2)
def timesF (f g : Fr) : Fr := red (f.1 * g.1) (f.2 * g.2)
theorem mul_lt_pow {a b : Int} {n m : Nat} (h1 : a.natAbs < 2 ^ n) (h2 : b.natAbs < 2 ^ m) : (a * b).natAbs < 2 ^ (n + m) := by
  rw [Int.natAbs_mul, Nat.pow_add]
  exact Nat.mul_lt_mul_of_lt_of_le h1 (Nat.le_of_lt h2) (Nat.pow_pos (by decide))
theorem sub_lt_pow {a b : Int} {n : Nat} (h1 : a.natAbs < 2 ^ n) (h2 : b.natAbs < 2 ^ n) : (a - b).natAbs < 2 ^ (n + 1) := by
  rw [Nat.pow_succ]; omega
theorem add_lt_pow {a b : Int} {n : Nat} (h1 : a.natAbs < 2 ^ n) (h2 : b.natAbs < 2 ^ n) : (a + b).natAbs < 2 ^ (n + 1) := by
  rw [Nat.pow_succ]; omega
theorem pow_up {a n m : Nat} (h : a < 2 ^ n) (e : n ≤ m) : a < 2 ^ m := Nat.lt_of_lt_of_le h (Nat.pow_le_pow_right (by decide) e)
theorem minusF_nf {f g : Fr} {n : Nat} (hf : Nf n f) (hg : Nf n g) : Nf (n + n + 1) (minusF f g) :=
  red_nf (Int.mul_pos (by have := hf.pos; omega) (by have := hg.pos; omega)) (sub_lt_pow (mul_lt_pow hf.b1 hg.b2) (mul_lt_pow hg.b1 hf.b2)) (pow_up (mul_lt_pow hf.b2 hg.b2) (by omega))
theorem timesF_nf {f g : Fr} {n : Nat} (hf : Nf n f) (hg : Nf n g) : Nf (n + n) (timesF f g) :=
  red_nf (Int.mul_pos (by have := hf.pos; omega) (by have := hg.pos; omega)) (mul_lt_pow hf.b1 hg.b1) (mul_lt_pow hf.b2 hg.b2)
/-- f is the whole number x over the scale l -/
structure Rep (l : Int) (f : Fr) (x : Int) : Prop where
  pos : 0 < f.2
  eq : x * f.2 = f.1 * l
theorem Rep.red {l t b x : Int} (hb : 0 < b) (h : x * b = t * l) : Rep l (red t b) x := by
  refine ⟨by have := red_pos (t := t) hb; omega, ?_⟩
  have e := red_eq (t := t) hb
  have : x * (LW.red t b).2 * b = (LW.red t b).1 * l * b := by
    calc x * (LW.red t b).2 * b = (x * b) * (LW.red t b).2 := by rw [Int.mul_right_comm]
      _ = t * l * (LW.red t b).2 := by rw [h]
      _ = (t * (LW.red t b).2) * l := by rw [Int.mul_right_comm]
      _ = (LW.red t b).1 * b * l := by rw [e]
      _ = _ := by rw [Int.mul_right_comm]
  exact Int.eq_of_mul_eq_mul_right (by omega) this
theorem Rep.minus {l x y : Int} {f g : Fr} (hf : Rep l f x) (hg : Rep l g y) : Rep l (minusF f g) (x - y) := by
  refine Rep.red (Int.mul_pos hf.pos hg.pos) ?_
  rw [Int.sub_mul, Int.sub_mul, ← Int.mul_assoc, hf.eq, Int.mul_comm f.2 g.2, ← Int.mul_assoc, hg.eq, Int.mul_right_comm, Int.mul_right_comm g.1]
theorem Rep.times {l m x y : Int} {f g : Fr} (hf : Rep l f x) (hg : Rep m g y) : Rep (l * m) (timesF f g) (x * y) := by
  refine Rep.red (Int.mul_pos hf.pos hg.pos) ?_
  calc x * y * (f.2 * g.2) = (x * f.2) * (y * g.2) := by rw [Int.mul_assoc, Int.mul_assoc, Int.mul_left_comm y]
    _ = (f.1 * l) * (g.1 * m) := by rw [hf.eq, hg.eq]
    _ = f.1 * g.1 * (l * m) := by rw [Int.mul_assoc, Int.mul_assoc, Int.mul_left_comm l]
theorem Rep.sgn {l x : Int} {f : Fr} (h : Rep l f x) (hl : 0 < l) : (0 < f.1 ↔ 0 < x) ∧ (f.1 = 0 ↔ x = 0) := by
  have e := h.eq
  have hp := h.pos
  rcases Int.lt_trichotomy x 0 with hx | hx | hx
  · have h1 : x * f.2 < 0 := Int.mul_neg_of_neg_of_pos hx hp
    rcases Int.lt_trichotomy f.1 0 with hf | hf | hf
    · omega
    · rw [hf] at e; omega
    · have := Int.mul_pos hf hl; omega
  · subst hx
    rcases Int.lt_trichotomy f.1 0 with hf | hf | hf
    · have := Int.mul_neg_of_neg_of_pos hf hl; omega
    · omega
    · have := Int.mul_pos hf hl; omega
  · have h1 : 0 < x * f.2 := Int.mul_pos hx hp
    rcases Int.lt_trichotomy f.1 0 with hf | hf | hf
    · have := Int.mul_neg_of_neg_of_pos hf hl; omega
    · rw [hf] at e; omega
    · omega
theorem nf_unique {n m : Nat} {f g : Fr} (hf : Nf n f) (hg : Nf m g) (h : f.1 * g.2 = g.1 * f.2) : f = g := by
  obtain ⟨a, b⟩ := f
  obtain ⟨c, d⟩ := g
  obtain ⟨p1, g1, _, _⟩ := hf
  obtain ⟨p2, g2, _, _⟩ := hg
  dsimp only at *
  have hn : a.natAbs * d.natAbs = c.natAbs * b.natAbs := by
    have := congrArg Int.natAbs h
    rwa [Int.natAbs_mul, Int.natAbs_mul] at this
  have c1 : Nat.Coprime b.natAbs a.natAbs := by rw [Nat.Coprime, Nat.gcd_comm]; exact g1
  have c2 : Nat.Coprime d.natAbs c.natAbs := by rw [Nat.Coprime, Nat.gcd_comm]; exact g2
  have d1 : b.natAbs ∣ d.natAbs := c1.dvd_of_dvd_mul_left ⟨c.natAbs, by rw [hn, Nat.mul_comm]⟩
  have d2 : d.natAbs ∣ b.natAbs := c2.dvd_of_dvd_mul_left ⟨a.natAbs, by rw [← hn, Nat.mul_comm]⟩
  have e : b.natAbs = d.natAbs := Nat.dvd_antisymm d1 d2
  have e2 : b = d := by omega
  subst e2
  have : a = c := Int.eq_of_mul_eq_mul_right (by omega) h
  rw [this]
theorem Rep.inj {l x y : Int} {f g : Fr} {n m : Nat} (hf : Rep l f x) (hg : Rep l g y) (nf : Nf n f) (ng : Nf m g) (hl : 0 < l) : f = g ↔ x = y := by
  constructor
  · intro e
    subst e
    have := hf.eq.trans hg.eq.symm
    exact Int.eq_of_mul_eq_mul_right (by have := hf.pos; omega) this
  · intro e
    subst e
    refine nf_unique nf ng ?_
    have : f.1 * g.2 * l = g.1 * f.2 * l := by
      calc f.1 * g.2 * l = (f.1 * l) * g.2 := by rw [Int.mul_right_comm]
        _ = x * f.2 * g.2 := by rw [hf.eq]
        _ = (x * g.2) * f.2 := by rw [Int.mul_right_comm]
        _ = g.1 * l * f.2 := by rw [hg.eq]
        _ = _ := by rw [Int.mul_right_comm]
    exact Int.eq_of_mul_eq_mul_right (by omega) this
end LW
namespace LW
open PySem PV
def isBetD (a b : Int) : D → Bool
  | .int x => decide (a ≤ x) && decide (x ≤ b)
  | _ => false
theorem p_is_between {k : Nat} {d : D} {a b : Int} (h1 : plainD d = true) : (ctx prog (k + 2)).fp i_is_between [d, .int a, .int b] = .ok (.bl (isBetD a b d)) := by
  rw [fp_end (f := i_is_between) rfl rfl]
  cases d with
  | int x =>
    simp [p_is_integer, isIntD, isBetD]
    by_cases h : a ≤ x <;> simp [h]
  | _ => first | (simp at h1; done) | simp [p_is_integer, isIntD, isBetD]
def isTupD (n : Int) : D → Bool
  | .tup l => ((l.length : Int) == n)
  | _ => false
theorem p_is_tuple_of {k : Nat} {d : D} {n : Int} (h1 : plainD d = true) : (ctx prog (k + 1)).fp i_is_tuple_of [d, .int n] = .ok (.bl (isTupD n d)) := by
  rw [fp_end (f := i_is_tuple_of) rfl rfl]
  cases d <;> first | (simp [plainD] at h1; done) | simp [isTy, isTupD]
/-- a fraction in lowest terms -/
def isFr : D → Bool
  | .tup [.int a, .int b] => decide (1 ≤ b) && decide (Nat.gcd a.natAbs b.natAbs = 1)
  | _ => false
/-- whole numbers of at most n bits, all kinds of plain data -/
inductive Bd (n : Nat) : D → Prop
  | non : Bd n .non
  | bl (b : Bool) : Bd n (.bl b)
  | int (i : Int) (h : i.natAbs < 2 ^ n) : Bd n (.int i)
  | str (x : Str) : Bd n (.str x)
  | tup (l : List D) (h : ∀ d ∈ l, Bd n d) : Bd n (.tup l)
  | lst (l : List D) (h : ∀ d ∈ l, Bd n d) : Bd n (.lst l)
theorem Bd.plain {n : Nat} {d : D} (h : Bd n d) : plainD d = true := by cases h <;> rfl
theorem p_is_fraction {k n : Nat} {d : D} (hd : Bd n d) : (ctx prog (k + 2)).fp i_is_fraction [d] = .ok (.bl (isFr d)) := by
  rw [fp_end (f := i_is_fraction) rfl rfl]
  have hp := hd.plain
  cases hd with
  | tup l hl =>
    match l, hl with
    | [], _ => simp [p_is_tuple_of, isTupD, isIntD, isFr]
    | [x], _ => simp [p_is_tuple_of, isTupD, isIntD, isFr]
    | x :: y :: z :: r, _ =>
      have : ((r.length : Int) + 1 + 1 + 1 == 2) = false := by simp; omega
      simp [p_is_tuple_of, isTupD, isIntD, isFr, this]
    | [x, y], hl =>
      have hx := (hl x (by simp)).plain
      have hy := (hl y (by simp)).plain
      simp [p_is_tuple_of, isTupD, isIntD, p_is_integer hx, p_is_integer hy]
      cases x <;> cases y <;> simp [isFr]
      rename_i a b
      by_cases hb : b < 1
      · simp [hb]
        have : ¬ 1 ≤ b := by omega
        simp [this]
      · simp [hb]
        have : 1 ≤ b := by omega
        simp [this]
        apply Bool.eq_iff_iff.mpr
        simp
        omega
  | _ => simp [p_is_tuple_of, isTupD, isIntD, isFr]
end LW
namespace LW
open PySem PV
abbrev Pt := Fr × Fr
def ptD (p : Pt) : D := .tup [frD p.1, frD p.2]
structure Np (n : Nat) (p : Pt) : Prop where
  x : Nf n p.1
  y : Nf n p.2
theorem Np.mono {n m : Nat} {p : Pt} (h : Np n p) (e : n ≤ m) : Np m p := ⟨h.x.mono e, h.y.mono e⟩
def isPt : D → Bool
  | .tup [a, b] => isFr a && isFr b
  | _ => false
theorem p_is_point {k n : Nat} {d : D} (hd : Bd n d) : (ctx prog (k + 3)).fp i_is_point [d] = .ok (.bl (isPt d)) := by
  rw [fp_end (f := i_is_point) rfl rfl]
  cases hd with
  | tup l hl =>
    match l, hl with
    | [], _ => simp [p_is_tuple_of, isTupD, isPt]
    | [x], _ => simp [p_is_tuple_of, isTupD, isPt]
    | x :: y :: z :: r, _ =>
      have : ((r.length : Int) + 1 + 1 + 1 == 2) = false := by simp; omega
      simp [p_is_tuple_of, isTupD, isPt, this]
    | [x, y], hl =>
      have hx := hl x (by simp)
      have hy := hl y (by simp)
      simp [p_is_tuple_of, isTupD, p_is_fraction hx, p_is_fraction hy, isPt]
      cases isFr x <;> simp
  | _ => simp [p_is_tuple_of, isTupD, isPt]
theorem p_fraction {k n : Nat} {t b : Int} (hb : 0 < b) (h2 : b.natAbs < 2 ^ n) (hn : n ≤ 9000) : (ctx prog (k + 1)).fp i_fraction [.int t, .int b] = .ok (frD (red t b)) := by
  rw [fp_end (f := i_fraction) rfl rfl]
  have hg := gcd_pos_of (t := t) hb
  have hg2 : Nat.gcd t.natAbs b.natAbs ≤ b.natAbs := Nat.gcd_le_right _ (by omega)
  have h3 : ((Nat.gcd t.natAbs b.natAbs : Nat) : Int) ≠ 0 := by omega
  have h4 : ((Nat.gcd t.natAbs b.natAbs : Nat) : Int).natAbs < 2 ^ n := by rw [Int.natAbs_natCast]; omega
  have h5 : ¬ b < 0 := by omega
  simp [h5, opB_fdivN h3 h4 hn, frD, red]
theorem p_minus {k n : Nat} {f g : Fr} (hf : Nf n f) (hg : Nf n g) (hn : n + n ≤ 9000) : (ctx prog (k + 2)).fp i_minus [frD f, frD g] = .ok (frD (minusF f g)) := by
  rw [fp_end (f := i_minus) rfl rfl]
  have hb : 0 < f.2 * g.2 := Int.mul_pos (by have := hf.pos; omega) (by have := hg.pos; omega)
  simp [frD, opB_mul hf.b1 hg.b2 (by omega), opB_mul hg.b1 hf.b2 (by omega), opB_mul hf.b2 hg.b2 (by omega), p_fraction hb (mul_lt_pow hf.b2 hg.b2) hn, minusF]
theorem p_times {k n : Nat} {f g : Fr} (hf : Nf n f) (hg : Nf n g) (hn : n + n ≤ 9000) : (ctx prog (k + 2)).fp i_times [frD f, frD g] = .ok (frD (timesF f g)) := by
  rw [fp_end (f := i_times) rfl rfl]
  have hb : 0 < f.2 * g.2 := Int.mul_pos (by have := hf.pos; omega) (by have := hg.pos; omega)
  simp [frD, opB_mul hf.b1 hg.b1 (by omega), opB_mul hf.b2 hg.b2 (by omega), p_fraction hb (mul_lt_pow hf.b2 hg.b2) hn, timesF]
def signI (x : Int) : Int := if x = 0 then 0 else if 0 < x then 1 else -1
theorem p_sign_of {k : Nat} {x : Int} : (ctx prog (k + 1)).fp i_sign_of [.int x] = .ok (.int (signI x)) := by
  rw [fp_end (f := i_sign_of) rfl rfl]
  by_cases h : x = 0
  · simp [h, signI]
  · by_cases h2 : 0 < x <;> simp [h, h2, signI]
def wayF (p q : Pt) : Pt := (minusF q.1 p.1, minusF q.2 p.2)
theorem p_way {k n : Nat} {p q : Pt} (hp : Np n p) (hq : Np n q) (hn : n + n ≤ 9000) : (ctx prog (k + 3)).fp i_way [ptD p, ptD q] = .ok (ptD (wayF p q)) := by
  rw [fp_end (f := i_way) rfl rfl]
  simp [ptD, p_minus hq.x hp.x hn, p_minus hq.y hp.y hn, wayF]
theorem wayF_np {n : Nat} {p q : Pt} (hp : Np n p) (hq : Np n q) : Np (n + n + 1) (wayF p q) := ⟨minusF_nf hq.x hp.x, minusF_nf hq.y hp.y⟩
def turnF (d e : Pt) : Fr := minusF (timesF d.1 e.2) (timesF d.2 e.1)
theorem p_turn_of {k n : Nat} {d e : Pt} (hd : Np n d) (he : Np n e) (hn : 4 * n ≤ 9000) : (ctx prog (k + 3)).fp i_turn_of [ptD d, ptD e] = .ok (.int (signI (turnF d e).1)) := by
  rw [fp_end (f := i_turn_of) rfl rfl]
  have e1 := p_minus (k := k) (timesF_nf hd.x he.y) (timesF_nf hd.y he.x) (by omega)
  simp [ptD, p_times hd.x he.y (by omega), p_times hd.y he.x (by omega), e1]
  simp [frD, p_sign_of, turnF]
theorem okD_fr {f : Fr} : okD (frD f) = true := rfl
theorem eqD_fr {f g : Fr} : eqD (frD f) (frD g) = ((f.1 == g.1) && (f.2 == g.2)) := by
  show ((f.1 == g.1) && ((f.2 == g.2) && true)) = _
  rw [Bool.and_true]
theorem gl0 {k : Nat} {S : Sto} : glU (ctx prog k) 0 S = .ok (.d (.tup [.int 0, .int 1])) S := glU_at rfl
def lessF (f g : Fr) : Bool := decide (f.1 * g.2 < g.1 * f.2)
theorem p_is_less {k n m : Nat} {f g : Fr} (h1 : f.1.natAbs < 2 ^ n) (h2 : f.2.natAbs < 2 ^ n) (h3 : g.1.natAbs < 2 ^ m) (h4 : g.2.natAbs < 2 ^ m) (hn : n + m ≤ 9000) : (ctx prog (k + 1)).fp i_is_less [frD f, frD g] = .ok (.bl (lessF f g)) := by
  rw [fp_end (f := i_is_less) rfl rfl]
  simp [frD, opB_mul h1 h4 (by omega), opB_mul h3 h2 (by omega), lessF]
def upF (d : Pt) : Bool := if d.2 = (0, 1) then decide (0 < d.1.1) else decide (0 < d.2.1)
theorem p_is_upper {k n : Nat} {d : Pt} (hd : Np n d) (hn : n + 1 ≤ 9000) : (ctx prog (k + 2)).fp i_is_upper [ptD d] = .ok (.bl (upF d)) := by
  rw [fp_end (f := i_is_upper) rfl rfl]
  have e0 : (D.tup [.int 0, .int 1]) = frD (0, 1) := rfl
  have l1 := p_is_less (k := k) (f := (0, 1)) (g := d.1) (n := 1) (by decide) (by decide) hd.x.b1 hd.x.b2 (by omega)
  have l2 := p_is_less (k := k) (f := (0, 1)) (g := d.2) (n := 1) (by decide) (by decide) hd.y.b1 hd.y.b2 (by omega)
  simp [ptD, gl0, e0, opC_neD okD_fr okD_fr, eqD_fr, l1, l2]
  obtain ⟨⟨a, b⟩, ⟨c, d⟩⟩ := d
  dsimp only at l1 l2
  by_cases h1 : c = 0 <;> by_cases h2 : d = 1 <;> simp [h1, h2, upF, gl0, e0, l1, l2] <;> simp [lessF]
end LW
namespace LW
open PySem PV
def once (bs : List Bool) : Bool := ((List.range bs.length).filter fun i => nth false bs i && !nth false bs (prevI bs.length i)).length == 1
theorem filterMap_if {α : Type} {β : Type} (p : α → Bool) (f : α → β) (l : List α) : l.filterMap (fun x => if p x = true then some (f x) else none) = (l.filter p).map f := by
  induction l with
  | nil => rfl
  | cons x l ih =>
    rw [List.filterMap_cons, List.filter_cons]
    cases p x <;> simp [ih]
/-- len([at for at in range(len(up)) if up[at] and not up[at - 1]]), up at slot 1, at at slot 3 -/
theorem ev_once {C : PV.Ctx} {bs : List Bool} {x y z : Option U} (hs : bs.length ≤ sizeLine) :
    evE C (.lc false [3] (.nm 3) .rng1 [(.blt false .len [(.slot 1)])] [(.and [(.idx (.slot 1) (.slot 3)), (.not (.idx (.slot 1) (.bin false .sub (.slot 3) (.con (.int 1)))))])] (.slot 3)) [x, some (.d (.lst (bs.map D.bl))), y, z] [] =
      .ok (.d (.lst (((List.range bs.length).filter fun i => nth false bs i && !nth false bs (prevI bs.length i)).map fun i => D.int (i : Nat)))) [] := by
  rw [evE_lcRF (n := bs.length) (fun i => if (nth false bs i && !nth false bs (prevI bs.length i)) = true then some (D.int (i : Nat)) else none) (by simp) hs, filterMap_if]
  intro i hi
  simp [lcTurn, atI_mget D.bl false hi, atI_mprev D.bl false hi]
  cases nth false bs i <;> cases nth false bs (prevI bs.length i) <;> simp
theorem cast_one {n : Nat} : ((n : Int) == 1) = (n == 1) := by
  rw [Bool.eq_iff_iff, beq_iff_eq, beq_iff_eq]; omega
theorem p_turns_once {k n : Nat} {ws : List Pt} (hw : ∀ d ∈ ws, Np n d) (hn : n + 1 ≤ 9000) (hs : ws.length ≤ sizeLine) : (ctx prog (k + 3)).fp i_turns_once [.lst (ws.map ptD)] = .ok (.bl (once (ws.map upF))) := by
  rw [fp_end (f := i_turns_once) rfl rfl]
  simp
  rw [evE_lcM (xs := ws) ptD (fun d => .bl (upF d)) (by simp) (.inl rfl) hs (fun d hd => by simp [lcTurn, p_is_upper (hw d hd) hn])]
  simp
  have e : (ws.map fun d => D.bl (upF d)) = (ws.map upF).map D.bl := by rw [List.map_map]; rfl
  rw [e, ev_once (by simpa using hs)]
  simp only [Res.bind_ok, opF_len_lst, opC_eqI, withR_ok, seqK_ret, endP_ret, List.length_map, cast_one, once]
end LW
namespace LW
open PySem PV
def p0 : Pt := ((0, 1), (0, 1))
def wsF (ps : List Pt) : List Pt := (List.range ps.length).map fun i => wayF (nth p0 ps i) (nth p0 ps (nextI ps.length i))
def goesF (ps : List Pt) : Bool :=
  !((List.range ps.length).any fun i => eqD (ptD (nth p0 ps i)) (ptD (nth p0 ps (prevI ps.length i)))) &&
  ((List.range ps.length).all fun i => decide (0 < signI (turnF (nth p0 (wsF ps) (prevI ps.length i)) (nth p0 (wsF ps) i)).1)) &&
  once ((wsF ps).map upF)
theorem okD_pt {p : Pt} : okD (ptD p) = true := rfl
theorem wsF_len {ps : List Pt} : (wsF ps).length = ps.length := by simp [wsF]
theorem wsF_np {n : Nat} {ps : List Pt} (h : ∀ p ∈ ps, Np n p) : ∀ d ∈ wsF ps, Np (n + n + 1) d := by
  intro d hd
  obtain ⟨i, hi, rfl⟩ := List.mem_map.mp hd
  have hi := List.mem_range.mp hi
  exact wayF_np (h _ (nth_mem p0 hi)) (h _ (nth_mem p0 (nextI_lt hi)))
theorem p_goes_round {k n : Nat} {ps : List Pt} (hp : ∀ p ∈ ps, Np n p) (hn : 4 * (n + n + 1) ≤ 9000) (h3 : 3 ≤ ps.length) (hs : ps.length ≤ 1000) : (ctx prog (k + 4)).fp i_goes_round [.tup (ps.map ptD)] = .ok (.bl (goesF ps)) := by
  rw [fp_end (f := i_goes_round) rfl rfl]
  have hs2 : ps.length ≤ sizeLine := le_size hs
  have c1 : ¬ ((ps.length : Int) < 3) := by omega
  simp [c1]
  rw [evE_lcR (n := ps.length) (fun i => .bl (eqD (ptD (nth p0 ps i)) (ptD (nth p0 ps (prevI ps.length i))))) (by simp) hs2 (fun i hi => by
    simp [lcTurn, atI_mget ptD p0 hi, atI_mprev ptD p0 hi, opC_eqD okD_pt okD_pt])]
  simp only [Res.bind_ok, opF_any, tru_bl, withR_ok]
  unfold goesF
  cases hA : (List.range ps.length).any fun i => eqD (ptD (nth p0 ps i)) (ptD (nth p0 ps (prevI ps.length i))) with
  | true => simp
  | false =>
    have hm0 : (ps.length : Int) ≠ 0 := by omega
    simp
    rw [evE_lcR (n := ps.length) (fun i => ptD (wayF (nth p0 ps i) (nth p0 ps (nextI ps.length i)))) (by simp) hs2 (fun i hi => by
      have w := p_way (k := k) (hp _ (nth_mem p0 hi)) (hp _ (nth_mem p0 (nextI_lt hi))) (by omega)
      simp [lcTurn, atI_mget ptD p0 hi, opB_mod hm0, fmod_next, atI_mget ptD p0 (nextI_lt hi), w])]
    have ew : ((List.range ps.length).map fun i => ptD (wayF (nth p0 ps i) (nth p0 ps (nextI ps.length i)))) = (wsF ps).map ptD := by unfold wsF; rw [List.map_map]; rfl
    rw [ew]
    simp
    have hw := wsF_np hp
    have hl : (wsF ps).length = ps.length := wsF_len
    rw [evE_lcR (n := ps.length) (fun i => .bl (decide (0 < signI (turnF (nth p0 (wsF ps) (prevI ps.length i)) (nth p0 (wsF ps) i)).1))) (by simp) hs2 (fun i hi => by
      have hi2 : i < (wsF ps).length := by omega
      have w := p_turn_of (k := k) (hw _ (nth_mem p0 (prevI_lt hi2))) (hw _ (nth_mem p0 hi2)) (by omega)
      rw [hl] at w
      simp [lcTurn, atI_mget ptD p0 hi2, atI_mprev ptD p0 hi2, hl, w])]
    simp only [Res.bind_ok, opF_all, truS_bl]
    cases hB : (List.range ps.length).all fun i => decide (0 < signI (turnF (nth p0 (wsF ps) (prevI ps.length i)) (nth p0 (wsF ps) i)).1) with
    | false => simp
    | true =>
      have ho := p_turns_once (k := k) hw (by omega) (by omega)
      simp [ho]
end LW
namespace LW
open PySem PV
/-! ### the law's own judge -/
theorem q_is_int {k : Nat} {d : D} (h1 : plainD d = true) : (ctx prog (k + 1)).fp i__law_is_int [d] = .ok (.bl (isIntD d)) := by
  rw [fp_end (f := i__law_is_int) rfl rfl]
  cases d <;> first | (simp [plainD] at h1; done) | simp [isTy, isIntD]
theorem q_is_fraction {k n : Nat} {d : D} (hd : Bd n d) (hn : n ≤ 40000) : (ctx prog (k + 2)).fp i__law_is_fraction [d] = .ok (.bl (isFr d)) := by
  rw [fp_end (f := i__law_is_fraction) rfl rfl]
  have hp := hd.plain
  cases hd with
  | tup l hl =>
    match l, hl with
    | [], _ => simp [isTy, isFr]
    | [x], _ => simp [isTy, isFr]
    | x :: y :: z :: r, _ =>
      have : ((r.length : Int) + 1 + 1 + 1 == 2) = false := by simp; omega
      simp [isTy, isFr, this]
    | [x, y], hl =>
      have hx := hl x (by simp)
      have hy := hl y (by simp)
      simp [isTy, q_is_int hx.plain, q_is_int hy.plain, isIntD]
      cases hx <;> cases hy <;> simp [isFr, isIntD]
      rename_i a ha b hb
      by_cases hb1 : 1 ≤ b
      · simp [hb1, p_gcd (show 0 ≤ b by omega) (pow_up hb hn)]
        apply Bool.eq_iff_iff.mpr
        simp
        omega
      · simp [hb1]
  | _ => simp [isTy, isFr]
theorem q_is_point {k n : Nat} {d : D} (hd : Bd n d) (hn : n ≤ 40000) : (ctx prog (k + 3)).fp i__law_is_point [d] = .ok (.bl (isPt d)) := by
  rw [fp_end (f := i__law_is_point) rfl rfl]
  cases hd with
  | tup l hl =>
    match l, hl with
    | [], _ => simp [isTy, isPt]
    | [x], _ => simp [isTy, isPt]
    | x :: y :: z :: r, _ =>
      have : ((r.length : Int) + 1 + 1 + 1 == 2) = false := by simp; omega
      simp [isTy, isPt, this]
    | [x, y], hl =>
      have hx := hl x (by simp)
      have hy := hl y (by simp)
      simp [isTy, q_is_fraction hx hn, q_is_fraction hy hn, isPt]
      cases isFr x <;> simp
  | _ => simp [isTy, isPt]
/-- the next common denominator -/
def lcmN (l b : Nat) : Nat := l / Nat.gcd l b * b
theorem lcmN_facts {l b : Nat} (hl : 0 < l) (hb : 0 < b) : l ∣ lcmN l b ∧ b ∣ lcmN l b ∧ 0 < lcmN l b ∧ lcmN l b ≤ l * b := by
  have h1 := Nat.gcd_dvd_left l b
  have h2 := Nat.gcd_dvd_right l b
  have hg := Nat.gcd_pos_of_pos_left b hl
  have h3 : 0 < l / Nat.gcd l b := Nat.div_pos (Nat.le_of_dvd hl h1) hg
  refine ⟨?_, Nat.dvd_mul_left b _, Nat.mul_pos h3 hb, Nat.mul_le_mul_right _ (Nat.div_le_self _ _)⟩
  obtain ⟨c, hc⟩ := h2
  refine ⟨c, ?_⟩
  unfold lcmN
  calc l / Nat.gcd l b * b = l / Nat.gcd l b * (Nat.gcd l b * c) := by rw [← hc]
    _ = (l / Nat.gcd l b * Nat.gcd l b) * c := by rw [Nat.mul_assoc]
    _ = l * c := by rw [Nat.div_mul_cancel h1]
theorem fdiv_nat (x y : Nat) : (x : Int).fdiv (y : Int) = ((x / y : Nat) : Int) := by
  rw [Int.fdiv_eq_ediv_of_nonneg _ (by omega)]; rfl
def den (f : Fr) : Nat := f.2.natAbs
theorem den_eq {n : Nat} {f : Fr} (h : Nf n f) : f.2 = (den f : Int) := by unfold den; have := h.pos; omega
theorem den_pos {n : Nat} {f : Fr} (h : Nf n f) : 0 < den f := by unfold den; have := h.pos; omega
def wholeF (l : Nat) (p : Pt) : Fr := (p.1.1 * ((l / den p.1 : Nat) : Int), p.2.1 * ((l / den p.2 : Nat) : Int))
/-- shared // gcd(shared, part[1]) * part[1] -/
theorem ev_lcm {k n m l : Nat} {f : Fr} (hf : Nf n f) (hl : 0 < l) (hl2 : l < 2 ^ m) (hn : n ≤ 9000) (hm : m ≤ 900000) {x y z : Option U} {r : Gam} :
    evE (ctx prog (k + 1)) (.bin false .mul (.bin false .fdiv (.slot 1) (.call true i__law_gcd [(.slot 1), (.idx (.slot 3) (.con (.int 1)))])) (.idx (.slot 3) (.con (.int 1)))) (x :: some (.d (.int (l : Nat))) :: y :: some (.d (frD f)) :: r) [] = .ok (.d (.int ((lcmN l (den f) : Nat) : Int))) [] := by
  have e := den_eq hf
  have hp := den_pos hf
  have hd : den f < 2 ^ n := hf.b2
  have hg := Nat.gcd_pos_of_pos_left (den f) hl
  have hg2 : Nat.gcd l (den f) ≤ den f := Nat.gcd_le_right _ hp
  have h1 : ((Nat.gcd l (den f) : Nat) : Int) ≠ 0 := by omega
  have h2 : ((Nat.gcd l (den f) : Nat) : Int).natAbs < 2 ^ n := by rw [Int.natAbs_natCast]; omega
  have h3 : ((l / Nat.gcd l (den f) : Nat) : Int).natAbs < 2 ^ m := by rw [Int.natAbs_natCast]; exact Nat.lt_of_le_of_lt (Nat.div_le_self _ _) hl2
  have h4 : ((den f : Nat) : Int).natAbs < 2 ^ n := by rw [Int.natAbs_natCast]; exact hd
  have h5 := p_gcd (k := k) (a := (l : Int)) (b := (den f : Int)) (by omega) (pow_up h4 (by omega))
  rw [Int.natAbs_natCast, Int.natAbs_natCast] at h5
  simp [frD, e, h5, opB_fdivN h1 h2 hn, fdiv_nat, -Int.natCast_ediv, opB_mul h3 h4 (by omega), lcmN]
end LW
namespace LW
open PySem PV
abbrev lcmStep : List PV.S := [(.asg (.nm 1) (.bin false .mul (.bin false .fdiv (.slot 1) (.call true i__law_gcd [(.slot 1), (.idx (.slot 3) (.con (.int 1)))])) (.idx (.slot 3) (.con (.int 1)))))]
theorem ev_lcmS {k n m l : Nat} {f : Fr} (hf : Nf n f) (hl : 0 < l) (hl2 : l < 2 ^ m) (hn : n ≤ 9000) (hm : m ≤ 900000) {x y z : Option U} {r : Gam} :
    evSs (ctx prog (k + 1)) lcmStep (x :: some (.d (.int (l : Nat))) :: y :: some (.d (frD f)) :: r) [] = .ok .nx (x :: some (.d (.int (lcmN l (den f) : Nat))) :: y :: some (.d (frD f)) :: r) [] := by
  rw [evSs_cons, evS_asg, ev_lcm (z := z) hf hl hl2 hn hm]
  simp
theorem lcmN_lt {n m l : Nat} {f : Fr} (hf : Nf n f) (hl : 0 < l) (hl2 : l < 2 ^ m) : lcmN l (den f) < 2 ^ (m + n) := by
  have h := (lcmN_facts hl (den_pos hf)).2.2.2
  have hd : den f < 2 ^ n := hf.b2
  refine Nat.lt_of_le_of_lt h ?_
  rw [Nat.pow_add]
  exact Nat.mul_lt_mul_of_lt_of_le hl2 (Nat.le_of_lt hd) (Nat.pow_pos (by decide))
theorem ev_inner {k n m l : Nat} {p : Pt} (hp : Np n p) (hl : 0 < l) (hl2 : l < 2 ^ m) (hn : n ≤ 9000) (hm : m + n ≤ 900000) {x y z : Option U} {r : Gam} :
    forK (ctx prog (k + 1)) (.nm 3) .seq (evSs (ctx prog (k + 1)) lcmStep) [.d (ptD p)] (x :: some (.d (.int (l : Nat))) :: y :: z :: r) [] = .ok .nx (x :: some (.d (.int (lcmN (lcmN l (den p.1)) (den p.2) : Nat))) :: y :: some (.d (frD p.2)) :: r) [] := by
  have f1 := lcmN_facts hl (den_pos hp.x)
  unfold forK
  rw [show itOf .seq [U.d (ptD p)] [] = some (.items [.d (frD p.1), .d (frD p.2)]) from rfl]
  dsimp only [ItV.fuel, List.length_cons, List.length_nil]
  rw [forLoop_step (u := .d (frD p.1)) (g' := x :: some (.d (.int (l : Nat))) :: y :: some (.d (frD p.1)) :: r) rfl (by simp) (ev_lcmS (z := none) hp.x hl hl2 (by omega) (by omega)),
    forLoop_step (u := .d (frD p.2)) (g' := x :: some (.d (.int (lcmN l (den p.1) : Nat))) :: y :: some (.d (frD p.2)) :: r) rfl (by simp) (ev_lcmS (z := none) hp.y f1.2.2.1 (lcmN_lt hp.x hl hl2) (by omega) (by omega)), forLoop_end rfl]
theorem q_whole {k n : Nat} {ps : List Pt} (hp : ∀ p ∈ ps, Np n p) (hn9 : n ≤ 9000) (hn : 2 * n * (ps.length + 1) + 1 ≤ 900000) (hs : ps.length ≤ sizeLine) :
    ∃ l : Nat, 0 < l ∧ l < 2 ^ (2 * n * ps.length + 1) ∧ (∀ p ∈ ps, den p.1 ∣ l ∧ den p.2 ∣ l) ∧ (ctx prog (k + 2)).fp i__law_whole [.tup (ps.map ptD)] = .ok (.lst (ps.map fun p => frD (wholeF l p))) := by
  rw [fp_end (f := i__law_whole) rfl rfl]
  rw [evSs_cons, evS_asg]
  simp only [ev_con, withR_ok, evT_nm]
  simp only [List.map_cons, List.map_nil, List.length_cons, List.length_nil, List.cons_append, List.nil_append]
  rw [if_pos (by simp)]
  simp only [seqK_nx]
  rw [evSs_cons, evS_for]
  simp [-Prod.forall]
  have L : ∀ body, body = evSs (ctx prog (k + 1)) [S.for (Tn.nm 3) Ik.seq [E.slot 2] lcmStep] → (forK (ctx prog (k + 1)) (Tn.nm 2) Ik.seq body [U.d (D.tup (ps.map ptD))] [some (U.d (D.tup (ps.map ptD))), some (U.d (D.int 1)), none, none, none, none] []).sat fun f g S => f = .nx ∧ S = [] ∧
      ∃ (l : Nat) (y z : Option U), g = [some (U.d (D.tup (ps.map ptD))), some (U.d (D.int (l : Nat))), y, z, none, none] ∧ 0 < l ∧ l < 2 ^ (2 * n * ps.length + 1) ∧ (∀ p ∈ ps, den p.1 ∣ l ∧ den p.2 ∣ l) := by
    intro body eb
    refine forK_list (v := .items ((ps.map ptD).map U.d)) (l := (ps.map ptD).map U.d) rfl rfl (fun i g S => S = [] ∧ ∃ (l : Nat) (y z : Option U), g = [some (U.d (D.tup (ps.map ptD))), some (U.d (D.int (l : Nat))), y, z, none, none] ∧ 0 < l ∧ l < 2 ^ (2 * n * i + 1) ∧ (∀ p ∈ ps.take i, den p.1 ∣ l ∧ den p.2 ∣ l)) ?_ ?_ ?_
    · exact ⟨rfl, 1, none, none, rfl, by decide, by simp, by simp⟩
    · rintro i u g S hu ⟨rfl, l, y, z, rfl, h0, h1, h2⟩
      rw [List.map_map, List.getElem?_map] at hu
      obtain ⟨p, hpi, rfl⟩ := Option.map_eq_some_iff.mp hu
      have hi := (List.getElem?_eq_some_iff.mp hpi).1
      have hpm : p ∈ ps := List.mem_of_getElem? hpi
      refine ⟨[some (U.d (D.tup (ps.map ptD))), some (U.d (D.int (l : Nat))), some (.d (ptD p)), z, none, none], by simp, ?_⟩
      have hb : 2 * n * i + 1 + n ≤ 900000 := by
        have : 2 * n * i + 2 * n ≤ 2 * n * (ps.length + 1) := by
          rw [Nat.mul_add, Nat.mul_one]
          have : 2 * n * i ≤ 2 * n * ps.length := Nat.mul_le_mul_left _ (by omega)
          omega
        omega
      have f1 := lcmN_facts h0 (den_pos (hp p hpm).x)
      have f2 := lcmN_facts f1.2.2.1 (den_pos (hp p hpm).y)
      subst eb
      rw [evSs_cons, evS_for]
      simp only [evEs_cons, evEs_nil, ev_slot, slotU_s, slotU_0, Res.bind_ok, withR_ok]
      rw [ev_inner (hp p hpm) h0 h1 hn9 hb]
      simp only [seqK_nx, evSs_nil, RS.sat_ok]
      refine ⟨by trivial, _, _, _, rfl, f2.2.2.1, ?_, ?_⟩
      · have := lcmN_lt (hp p hpm).y f1.2.2.1 (lcmN_lt (hp p hpm).x h0 h1)
        refine pow_up this ?_
        rw [Nat.mul_add]; omega
      · intro q hq
        rw [List.take_add_one, hpi] at hq
        rcases List.mem_append.mp hq with hq | hq
        · obtain ⟨a, b⟩ := h2 q hq
          exact ⟨Nat.dvd_trans (Nat.dvd_trans a f1.1) f2.1, Nat.dvd_trans (Nat.dvd_trans b f1.1) f2.1⟩
        · have : q = p := by simpa using hq
          subst this
          exact ⟨Nat.dvd_trans f1.2.1 f2.1, f2.2.1⟩
    · rintro g S ⟨rfl, l, y, z, rfl, h0, h1, h2⟩
      refine ⟨rfl, rfl, l, y, z, rfl, h0, by simpa using h1, ?_⟩
      intro p hpm
      exact h2 p (by rw [List.take_of_length_le (by simp)]; exact hpm)
  obtain ⟨f, g, S, e, rfl, rfl, l, y, z, rfl, h0, h1, h2⟩ := RS.sat_iff.mp (L _ rfl)
  refine ⟨l, h0, h1, h2, ?_⟩
  rw [e]
  simp
  rw [evE_lcM (xs := ps) ptD (fun p => frD (wholeF l p)) (by simp) (.inr rfl) hs ?_]
  · simp
  · intro p hpm
    have d1 := den_eq (hp p hpm).x
    have d2 := den_eq (hp p hpm).y
    have b1 : ((den p.1 : Nat) : Int) ≠ 0 := by have := den_pos (hp p hpm).x; omega
    have b2 : ((den p.2 : Nat) : Int) ≠ 0 := by have := den_pos (hp p hpm).y; omega
    have c1 : ((den p.1 : Nat) : Int).natAbs < 2 ^ n := by rw [Int.natAbs_natCast]; exact (hp p hpm).x.b2
    have c2 : ((den p.2 : Nat) : Int).natAbs < 2 ^ n := by rw [Int.natAbs_natCast]; exact (hp p hpm).y.b2
    have e1 : ((l / den p.1 : Nat) : Int).natAbs < 2 ^ (2 * n * ps.length + 1) := by rw [Int.natAbs_natCast]; exact Nat.lt_of_le_of_lt (Nat.div_le_self _ _) h1
    have e2 : ((l / den p.2 : Nat) : Int).natAbs < 2 ^ (2 * n * ps.length + 1) := by rw [Int.natAbs_natCast]; exact Nat.lt_of_le_of_lt (Nat.div_le_self _ _) h1
    have hn2 : n + (2 * n * ps.length + 1) ≤ 900000 := by rw [Nat.mul_add] at hn; omega
    simp [lcTurn, ptD, frD, d1, d2, opB_fdivN b1 c1 (by omega), opB_fdivN b2 c2 (by omega), fdiv_nat, -Int.natCast_ediv, opB_mul (hp p hpm).x.b1 e1 (by omega), opB_mul (hp p hpm).y.b1 e2 (by omega), wholeF]
end LW
namespace LW
open PySem PV
def subI (p q : Fr) : Fr := (q.1 - p.1, q.2 - p.2)
def i0 : Fr := (0, 0)
def wsI (qs : List Fr) : List Fr := (List.range qs.length).map fun i => subI (nth i0 qs i) (nth i0 qs (nextI qs.length i))
def crossI (d e : Fr) : Int := d.1 * e.2 - d.2 * e.1
def upI (d : Fr) : Bool := decide (0 < d.2) || ((d.2 == 0) && decide (0 < d.1))
def goesI (qs : List Fr) : Bool :=
  !((wsI qs).any fun d => eqD (frD d) (frD i0)) &&
  ((List.range qs.length).all fun i => decide (0 < crossI (nth i0 (wsI qs) (prevI qs.length i)) (nth i0 (wsI qs) i))) &&
  once ((wsI qs).map upI)
theorem q_way {k i j : Nat} {qs : List Fr} (hi : i < qs.length) (hj : j < qs.length) : (ctx prog (k + 1)).fp i__law_way [.lst (qs.map frD), .int (i : Nat), .int (j : Nat)] = .ok (frD (subI (nth i0 qs i) (nth i0 qs j))) := by
  rw [fp_end (f := i__law_way) rfl rfl]
  have a1 := atI_mget frD i0 hi
  have a2 := atI_mget frD i0 hj
  simp [a1, a2]
  simp [frD, subI]
structure Bi (n : Nat) (d : Fr) : Prop where
  b1 : d.1.natAbs < 2 ^ n
  b2 : d.2.natAbs < 2 ^ n
theorem q_cross {k n : Nat} {d e : Fr} (hd : Bi n d) (he : Bi n e) (hn : n + n ≤ 1000000) : (ctx prog (k + 1)).fp i__law_cross [frD d, frD e] = .ok (.int (crossI d e)) := by
  rw [fp_end (f := i__law_cross) rfl rfl]
  simp [frD, opB_mul hd.b1 he.b2 (by omega), opB_mul hd.b2 he.b1 (by omega), crossI]
theorem q_rounds_once {k : Nat} {ws : List Fr} (hs : ws.length ≤ sizeLine) : (ctx prog (k + 1)).fp i__law_rounds_once [.lst (ws.map frD)] = .ok (.bl (once (ws.map upI))) := by
  rw [fp_end (f := i__law_rounds_once) rfl rfl]
  simp
  rw [evE_lcM (xs := ws) frD (fun d => .bl (upI d)) (by simp) (.inl rfl) hs (fun d hd => by
    obtain ⟨a, b⟩ := d
    by_cases h1 : 0 < b
    · simp [lcTurn, frD, h1, upI]
    · by_cases h2 : b = 0 <;> simp [lcTurn, frD, h1, h2, upI])]
  simp
  have e : (ws.map fun d => D.bl (upI d)) = (ws.map upI).map D.bl := by rw [List.map_map]; rfl
  rw [e, ev_once (by simpa using hs)]
  simp only [Res.bind_ok, opF_len_lst, opC_eqI, withR_ok, seqK_ret, endP_ret, List.length_map, cast_one, once]
theorem wsI_len {qs : List Fr} : (wsI qs).length = qs.length := by simp [wsI]
theorem wsI_bi {n : Nat} {qs : List Fr} (h : ∀ q ∈ qs, Bi n q) : ∀ d ∈ wsI qs, Bi (n + 1) d := by
  intro d hd
  obtain ⟨i, hi, rfl⟩ := List.mem_map.mp hd
  have hi := List.mem_range.mp hi
  have h1 := h _ (nth_mem i0 hi)
  have h2 := h _ (nth_mem i0 (nextI_lt hi))
  exact ⟨sub_lt_pow h2.b1 h1.b1, sub_lt_pow h2.b2 h1.b2⟩
theorem dOk_fr {n : Nat} {f : Fr} : dOk (n + 1) (frD f) := (dOk_tup (n := 0) (fun d hd => by
  rcases List.mem_cons.mp hd with rfl | hd
  · exact dOk_int
  · rcases List.mem_cons.mp hd with rfl | hd
    · exact dOk_int
    · simp at hd)).mono (by omega)
theorem okD_frs {ws : List Fr} : okD (.lst (ws.map frD)) = true := (dOk_lst (n := 1) fun d hd => by
  obtain ⟨f, _, rfl⟩ := List.mem_map.mp hd
  exact dOk_fr).ok (by decide)
theorem q_goes_round {k n : Nat} {qs : List Fr} (hq : ∀ q ∈ qs, Bi n q) (hn : n + 1 + (n + 1) ≤ 1000000) (h1 : 1 ≤ qs.length) (hs : qs.length ≤ 1000) : (ctx prog (k + 2)).fp i__law_goes_round [.lst (qs.map frD)] = .ok (.bl (goesI qs)) := by
  rw [fp_end (f := i__law_goes_round) rfl rfl]
  have hs2 : qs.length ≤ sizeLine := le_size hs
  have hm0 : (qs.length : Int) ≠ 0 := by omega
  simp
  rw [evE_lcR (n := qs.length) (fun i => frD (subI (nth i0 qs i) (nth i0 qs (nextI qs.length i)))) (by simp) hs2 (fun i hi => by
    simp [lcTurn, opB_mod hm0, fmod_next, q_way hi (nextI_lt hi)])]
  have ew : ((List.range qs.length).map fun i => frD (subI (nth i0 qs i) (nth i0 qs (nextI qs.length i)))) = (wsI qs).map frD := by unfold wsI; rw [List.map_map]; rfl
  rw [ew]
  have e0 : D.tup [.int 0, .int 0] = frD i0 := rfl
  have hin : ∀ S, opC .in_ (.d (frD i0)) (.d (.lst ((wsI qs).map frD))) S = .ok (.d (.bl ((wsI qs).any fun d => eqD (frD d) (frD i0)))) S := fun S => by
    rw [opC_inD (okD_fr (f := i0)) (okD_frs (ws := wsI qs)), List.any_map]; rfl
  unfold goesI
  cases hA : (wsI qs).any fun d => eqD (frD d) (frD i0) with
  | true =>
    rw [hA] at hin
    simp [e0, hin]
  | false =>
    have hw := wsI_bi hq
    have hl : (wsI qs).length = qs.length := wsI_len
    rw [hA] at hin
    simp [e0, hin]
    rw [evE_lcR (n := qs.length) (fun i => .bl (decide (0 < crossI (nth i0 (wsI qs) (prevI qs.length i)) (nth i0 (wsI qs) i)))) (by simp) hs2 (fun i hi => by
      have hi2 : i < (wsI qs).length := by omega
      have w := q_cross (k := k) (hw _ (nth_mem i0 (prevI_lt hi2))) (hw _ (nth_mem i0 hi2)) hn
      rw [hl] at w
      simp [lcTurn, atI_mget frD i0 hi2, atI_mprev frD i0 hi2, hl, w])]
    simp only [Res.bind_ok, opF_all, truS_bl]
    cases hB : (List.range qs.length).all fun i => decide (0 < crossI (nth i0 (wsI qs) (prevI qs.length i)) (nth i0 (wsI qs) i)) with
    | false => simp
    | true =>
      have ho := q_rounds_once (k := k) (ws := wsI qs) (by omega)
      simp [ho]
end LW
namespace LW
open PySem PV
/-! ### both judges tell the same -/
theorem rep_whole {n l : Nat} {f : Fr} (hf : Nf n f) (hd : den f ∣ l) : Rep (l : Int) f (f.1 * ((l / den f : Nat) : Int)) := by
  refine ⟨by have := hf.pos; omega, ?_⟩
  obtain ⟨c, rfl⟩ := hd
  rw [Nat.mul_div_cancel_left c (den_pos hf), den_eq hf, Int.mul_assoc, Int.natCast_mul, Int.mul_comm (c : Int)]
structure RepP (l : Int) (p : Pt) (q : Fr) : Prop where
  x : Rep l p.1 q.1
  y : Rep l p.2 q.2
theorem RepP.way {l : Int} {p p' : Pt} {q q' : Fr} (h : RepP l p q) (h' : RepP l p' q') : RepP l (wayF p p') (subI q q') := ⟨h'.x.minus h.x, h'.y.minus h.y⟩
theorem eqD_frI {f g : Fr} : eqD (frD f) (frD g) = decide (f = g) := by
  rw [eqD_fr, Bool.eq_iff_iff]
  simp [Prod.ext_iff]
theorem eqD_pt {p q : Pt} : eqD (ptD p) (ptD q) = decide (p = q) := by
  show (eqD (frD p.1) (frD q.1) && (eqD (frD p.2) (frD q.2) && true)) = _
  rw [eqD_frI, eqD_frI, Bool.and_true, Bool.eq_iff_iff]
  simp [Prod.ext_iff]
theorem pt_inj {l : Int} {n : Nat} {p p' : Pt} {q q' : Fr} (h : RepP l p q) (h' : RepP l p' q') (hp : Np n p) (hp' : Np n p') (hl : 0 < l) : p = p' ↔ q = q' := by
  have e1 := h.x.inj h'.x hp.x hp'.x hl
  have e2 := h.y.inj h'.y hp.y hp'.y hl
  constructor
  · intro e
    exact Prod.ext (e1.mp (congrArg Prod.fst e)) (e2.mp (congrArg Prod.snd e))
  · intro e
    exact Prod.ext (e1.mpr (congrArg Prod.fst e)) (e2.mpr (congrArg Prod.snd e))
theorem up_eq {l : Int} {n : Nat} {p : Pt} {q : Fr} (h : RepP l p q) (hp : Np n p) (hl : 0 < l) : upF p = upI q := by
  have s1 := h.x.sgn hl
  have s2 := h.y.sgn hl
  unfold upF upI
  by_cases h0 : q.2 = 0
  · have e : p.2 = (0, 1) := by
      have e1 := s2.2.mpr h0
      have g := hp.y.g
      have hpos := hp.y.pos
      rw [e1] at g
      simp at g
      exact Prod.ext e1 (by show p.2.2 = 1; omega)
    rw [if_pos e]
    simp [h0, s1.1]
  · have e : ¬ p.2 = (0, 1) := fun e => h0 (s2.2.mp (by rw [e]))
    rw [if_neg e]
    simp [h0, s2.1]
theorem sign_pos {x : Int} : 0 < signI x ↔ 0 < x := by
  unfold signI
  split
  · omega
  · split <;> omega
theorem turn_eq {l : Int} {d e : Pt} {u v : Fr} (hd : RepP l d u) (he : RepP l e v) (hl : 0 < l) : decide (0 < signI (turnF d e).1) = decide (0 < crossI u v) := by
  have r : Rep (l * l) (turnF d e) (crossI u v) := (hd.x.times he.y).minus (hd.y.times he.x)
  rw [decide_eq_decide, sign_pos]
  exact (r.sgn (Int.mul_pos hl hl)).1
theorem next_prev {m i : Nat} (h : i < m) : nextI m (prevI m i) = i := by
  unfold nextI prevI
  by_cases h0 : i = 0
  · subst h0
    rw [if_pos rfl, show m - 1 + 1 = m by omega, Nat.mod_self]
  · rw [if_neg h0, show i - 1 + 1 = i by omega, Nat.mod_eq_of_lt h]
theorem prev_next {m i : Nat} (h : i < m) : prevI m (nextI m i) = i := by
  unfold nextI prevI
  by_cases h0 : i + 1 = m
  · rw [h0, Nat.mod_self, if_pos rfl]; omega
  · rw [Nat.mod_eq_of_lt (by omega), if_neg (by omega)]; omega
theorem all_same {α : Type} {f g : α → Bool} : ∀ {xs : List α}, (∀ x ∈ xs, f x = g x) → xs.all f = xs.all g
  | [], _ => rfl
  | x :: xs, h => by
    rw [List.all_cons, List.all_cons, h x (by simp), all_same (xs := xs) fun y hy => h y (by simp [hy])]
theorem goes_eq {l : Int} {n : Nat} {ps : List Pt} {qs : List Fr} (hl : 0 < l) (hlen : ps.length = qs.length) (hp : ∀ p ∈ ps, Np n p) (hr : ∀ i, i < ps.length → RepP l (nth p0 ps i) (nth i0 qs i)) : goesF ps = goesI qs := by
  have hw : ∀ i, i < ps.length → RepP l (nth p0 (wsF ps) i) (nth i0 (wsI qs) i) := by
    intro i hi
    unfold wsF wsI
    rw [nth_map _ 0 p0 (by simpa using hi), nth_map _ 0 i0 (by simpa using (by omega : i < qs.length)), nth_range 0 hi, nth_range 0 (by omega), ← hlen]
    exact (hr i hi).way (hr _ (nextI_lt hi))
  unfold goesF goesI
  have hA : ((List.range ps.length).any fun i => eqD (ptD (nth p0 ps i)) (ptD (nth p0 ps (prevI ps.length i)))) = (wsI qs).any fun d => eqD (frD d) (frD i0) := by
    rw [Bool.eq_iff_iff, List.any_eq_true, List.any_eq_true]
    constructor
    · rintro ⟨i, hi, e⟩
      have hi := List.mem_range.mp hi
      rw [eqD_pt, decide_eq_true_iff, pt_inj (hr i hi) (hr _ (prevI_lt hi)) (hp _ (nth_mem p0 hi)) (hp _ (nth_mem p0 (prevI_lt hi))) hl] at e
      refine ⟨subI (nth i0 qs (prevI ps.length i)) (nth i0 qs i), ?_, ?_⟩
      · unfold wsI
        refine List.mem_map.mpr ⟨prevI ps.length i, List.mem_range.mpr (by rw [← hlen]; exact prevI_lt hi), ?_⟩
        rw [← hlen, next_prev hi]
      · rw [eqD_frI, decide_eq_true_iff, e]
        simp [subI, i0]
    · rintro ⟨d, hd, e⟩
      unfold wsI at hd
      obtain ⟨i, hi, rfl⟩ := List.mem_map.mp hd
      have hi := List.mem_range.mp hi
      rw [← hlen] at hi
      refine ⟨nextI ps.length i, List.mem_range.mpr (nextI_lt hi), ?_⟩
      rw [prev_next hi, eqD_pt, decide_eq_true_iff, pt_inj (hr _ (nextI_lt hi)) (hr i hi) (hp _ (nth_mem p0 (nextI_lt hi))) (hp _ (nth_mem p0 hi)) hl]
      rw [eqD_frI, decide_eq_true_iff, ← hlen] at e
      have e1 := congrArg Prod.fst e
      have e2 := congrArg Prod.snd e
      simp only [subI, i0] at e1 e2
      exact Prod.ext (by simp only [i0] at *; omega) (by simp only [i0] at *; omega)
  have hB : ((List.range ps.length).all fun i => decide (0 < signI (turnF (nth p0 (wsF ps) (prevI ps.length i)) (nth p0 (wsF ps) i)).1)) = (List.range qs.length).all fun i => decide (0 < crossI (nth i0 (wsI qs) (prevI qs.length i)) (nth i0 (wsI qs) i)) := by
    rw [← hlen]
    refine all_same fun i hi => ?_
    have hi := List.mem_range.mp hi
    exact turn_eq (hw _ (prevI_lt hi)) (hw i hi) hl
  have hC : (wsF ps).map upF = (wsI qs).map upI := by
    refine List.ext_getElem (by simp [wsF_len, wsI_len, hlen]) fun i h1 h2 => ?_
    have hi : i < ps.length := by simpa [wsF_len] using h1
    have q1 : i < (wsF ps).length := by rw [wsF_len]; exact hi
    have q2 : i < (wsI qs).length := by rw [wsI_len]; omega
    rw [List.getElem_map, List.getElem_map, ← nth_get (d := p0) q1, ← nth_get (d := i0) q2]
    exact up_eq (hw i hi) (wsF_np hp _ (nth_mem p0 q1)) hl
  rw [hA, hB, hC]
end LW
namespace LW
open PySem PV
def frOf : D → Fr
  | .tup [.int a, .int b] => (a, b)
  | _ => (0, 1)
def ptOf : D → Pt
  | .tup [a, b] => (frOf a, frOf b)
  | _ => p0
theorem isFr_of {n : Nat} {d : D} (h : isFr d = true) (hb : Bd n d) : d = frD (frOf d) ∧ Nf n (frOf d) := by
  unfold isFr at h
  split at h
  · rename_i a b
    simp only [Bool.and_eq_true, decide_eq_true_eq] at h
    cases hb with
    | tup l hl =>
      have h1 := hl (.int a) (by simp)
      have h2 := hl (.int b) (by simp)
      cases h1; cases h2
      exact ⟨rfl, ⟨h.1, h.2, by assumption, by assumption⟩⟩
  · cases h
theorem isPt_of {n : Nat} {d : D} (h : isPt d = true) (hb : Bd n d) : d = ptD (ptOf d) ∧ Np n (ptOf d) := by
  unfold isPt at h
  split at h
  · rename_i a b
    simp only [Bool.and_eq_true] at h
    cases hb with
    | tup l hl =>
      obtain ⟨e1, n1⟩ := isFr_of h.1 (hl a (by simp))
      obtain ⟨e2, n2⟩ := isFr_of h.2 (hl b (by simp))
      refine ⟨?_, ⟨n1, n2⟩⟩
      show D.tup [a, b] = D.tup [frD (frOf a), frD (frOf b)]
      rw [← e1, ← e2]
  · cases h
theorem isPts_of {n : Nat} : ∀ {l : List D}, l.all isPt = true → (∀ d ∈ l, Bd n d) → l = (l.map ptOf).map ptD ∧ ∀ p ∈ l.map ptOf, Np n p
  | [], _, _ => ⟨rfl, by simp⟩
  | d :: l, h, hb => by
    rw [List.all_cons, Bool.and_eq_true] at h
    obtain ⟨e1, n1⟩ := isPt_of h.1 (hb d (by simp))
    obtain ⟨e2, n2⟩ := isPts_of h.2 fun x hx => hb x (by simp [hx])
    refine ⟨?_, ?_⟩
    · rw [List.map_cons, List.map_cons, ← e1, ← e2]
    · intro p hp
      rw [List.map_cons] at hp
      rcases List.mem_cons.mp hp with rfl | hp
      · exact n1
      · exact n2 p hp
def judge (s : Int) : D → Bool
  | .tup l => ((l.length : Int) == s) && l.all isPt && goesF (l.map ptOf)
  | _ => false
theorem gl1 {k : Nat} {S : Sto} : glU (ctx prog k) 1 S = .ok (.d (.int 3)) S := glU_at rfl
theorem gl2 {k : Nat} {S : Sto} : glU (ctx prog k) 2 S = .ok (.d (.int 8)) S := glU_at rfl
theorem p_is_frame {k n : Nat} {s : Int} {d : D} (hd : Bd n d) (h3 : 3 ≤ s) (h8 : s ≤ 8) (hn : 4 * (n + n + 1) ≤ 9000) : (ctx prog (k + 5)).fp i_is_frame [.int s, d] = .ok (.bl (judge s d)) := by
  rw [fp_end (f := i_is_frame) rfl rfl]
  have hb : isBetD 3 8 (.int s) = true := by simp [isBetD, h3, h8]
  simp [gl1, gl2, p_is_between, hb, p_is_tuple_of hd.plain]
  cases hd with
  | tup l hl =>
    by_cases hs : (l.length : Int) = s
    · have hs2 : l.length ≤ 1000 := by omega
      simp [isTupD, hs]
      have gm : l.map (fun d => d) = l := by simp
      rw [evE_lcM (xs := l) (u := .d (.tup l)) (fun d => d) (fun d => .bl (isPt d)) (by simp) (.inr (by rw [gm])) (le_size hs2) (fun d hd => by
        simp [lcTurn, p_is_point (k := k + 1) (hl d hd)])]
      simp only [Res.bind_ok, evEs_cons, evEs_nil, opF_all, truS_bl]
      cases hA : l.all isPt with
      | false =>
        simp [judge, hs, hA]
      | true =>
        obtain ⟨e, hp⟩ := isPts_of hA hl
        have hg := p_goes_round (k := k) hp hn (by simp; omega) (by simp; omega)
        rw [← e] at hg
        simp [hg, judge, hs, hA]
    · simp [isTupD, hs, judge]
  | _ => simp [isTupD, judge]
theorem q_is_frame {k n : Nat} {s : Int} {d : D} (hd : Bd n d) (h3 : 3 ≤ s) (h8 : s ≤ 8) (hn : n ≤ 9000) : (ctx prog (k + 4)).fp i__law_is_frame [.int s, d] = .ok (.bl (judge s d)) := by
  rw [fp_end (f := i__law_is_frame) rfl rfl]
  cases hd with
  | tup l hl =>
    by_cases hs : (l.length : Int) = s
    · have hs2 : l.length ≤ 1000 := by omega
      simp [isTy, hs]
      have gm : l.map (fun d => d) = l := by simp
      rw [evE_lcM (xs := l) (u := .d (.tup l)) (fun d => d) (fun d => .bl (isPt d)) (by simp) (.inr (by rw [gm])) (le_size hs2) (fun d hd => by
        simp [lcTurn, q_is_point (k := k) (hl d hd) (by omega)])]
      simp only [Res.bind_ok, evEs_cons, evEs_nil, opF_all, truS_bl]
      cases hA : l.all isPt with
      | false =>
        simp [judge, hs, hA]
      | true =>
        obtain ⟨e, hp⟩ := isPts_of hA hl
        have hlen : (l.map ptOf).length = l.length := by simp
        have hl8 : l.length ≤ 8 := by omega
        have hmul : 2 * n * ((l.map ptOf).length + 1) ≤ 2 * n * 9 := Nat.mul_le_mul_left _ (by omega)
        have hmul2 : 2 * n * (l.map ptOf).length ≤ 2 * n * 8 := Nat.mul_le_mul_left _ (by omega)
        obtain ⟨L, hL, hL2, hdv, hw⟩ := q_whole (k := k + 1) hp hn (by omega) (le_size (by omega))
        rw [← e] at hw
        have ew : ((l.map ptOf).map fun p => frD (wholeF L p)) = ((l.map ptOf).map (wholeF L)).map frD := by rw [List.map_map (g := frD)]; rfl
        rw [ew] at hw
        have hq : ∀ q ∈ (l.map ptOf).map (wholeF L), Bi (n + (2 * n * (l.map ptOf).length + 1)) q := by
          intro q hq
          obtain ⟨p, hpm, rfl⟩ := List.mem_map.mp hq
          refine ⟨mul_lt_pow (hp p hpm).x.b1 ?_, mul_lt_pow (hp p hpm).y.b1 ?_⟩
          · rw [Int.natAbs_natCast]; exact Nat.lt_of_le_of_lt (Nat.div_le_self _ _) hL2
          · rw [Int.natAbs_natCast]; exact Nat.lt_of_le_of_lt (Nat.div_le_self _ _) hL2
        have hg := q_goes_round (k := k + 1) hq (by omega) (by simp; omega) (by simp; omega)
        have hge : goesF (l.map ptOf) = goesI ((l.map ptOf).map (wholeF L)) := by
          refine goes_eq (l := (L : Int)) (by omega) (by simp) hp fun i hi => ?_
          rw [nth_map _ p0 i0 hi]
          have hm := nth_mem p0 hi
          exact ⟨rep_whole (hp _ hm).x (hdv _ hm).1, rep_whole (hp _ hm).y (hdv _ hm).2⟩
        generalize (l.map ptOf).map (wholeF L) = qs at hw hg hge
        simp [hw, hg, judge, hs, hA, hge]
    · have hs' : ((l.length : Int) == s) = false := by simpa using hs
      simp [isTy, hs, judge, hs']
  | _ => simp [isTy, judge]
end LW
namespace LW
open PySem PV
/-! ### what is drawn -/
theorem q_fraction {k n : Nat} {t b : Int} (hb : 0 < b) (h2 : b.natAbs < 2 ^ n) (hn : n ≤ 9000) : (ctx prog (k + 2)).fp i__law_fraction [.int t, .int b] = .ok (frD (red t b)) := by
  rw [fp_end (f := i__law_fraction) rfl rfl]
  have hg := gcd_pos_of (t := t) hb
  have hg2 : Nat.gcd t.natAbs b.natAbs ≤ b.natAbs := Nat.gcd_le_right _ (by omega)
  have h3 : ((Nat.gcd t.natAbs b.natAbs : Nat) : Int) ≠ 0 := by omega
  have h4 : ((Nat.gcd t.natAbs b.natAbs : Nat) : Int).natAbs < 2 ^ n := by rw [Int.natAbs_natCast]; omega
  simp [p_gcd (show 0 ≤ b by omega) (pow_up h2 (by omega)), opB_fdivN h3 h4 hn, frD, red]
theorem q_any {k h : Nat} {S : Sto} {l : List D} (hH : Hat S h) (h1 : 1 ≤ l.length) (h2 : l.length ≤ 1000) : ((ctx prog (k + 2)).fn i__law_any [.ref h, .d (.lst l)] S).sat fun u S' => ∃ x ∈ l, u = .d x ∧ Hat S' h ∧ ∀ j, j ≠ h → S'[j]? = S[j]? := by
  rw [fn_end (f := i__law_any) rfl rfl, endS_sat]
  simp [sat_seqQ, sat_withR, Res.sat_bind]
  refine Res.sat_mono (p_draw hH (m := (l.length : Int)) (by omega) (pow_up (m := 9000) (n := 10) (by omega) (by decide))) ?_
  rintro _ S' ⟨d, rfl, h3, h4, hH', ho⟩
  obtain ⟨x, hx, e⟩ := atI_ex h3 h4
  simp [e]
  exact ⟨x, hx, rfl, hH', ho⟩
theorem sat_any {k h : Nat} {S : Sto} {l : List D} {Q : U → Sto → Prop} (hH : Hat S h) (h1 : 1 ≤ l.length) (h2 : l.length ≤ 1000) (q : ∀ x ∈ l, ∀ S', Hat S' h → (∀ j, j ≠ h → S'[j]? = S[j]?) → Q (.d x) S') : ((ctx prog (k + 2)).fn i__law_any [.ref h, .d (.lst l)] S).sat Q :=
  Res.sat_mono (q_any hH h1 h2) (by rintro _ S' ⟨x, hx, rfl, hH', ho⟩; exact q x hx S' hH' ho)
theorem sat_draw {k h : Nat} {S : Sto} {m : Int} {Q : U → Sto → Prop} (hH : Hat S h) (hm : 0 < m) (hm2 : m < 2 ^ 100) (q : ∀ d : Int, 0 ≤ d → d < m → ∀ S', Hat S' h → (∀ j, j ≠ h → S'[j]? = S[j]?) → Q (.d (.int d)) S') : ((ctx prog (k + 1)).fn i__law_draw [.ref h, .d (.int m)] S).sat Q :=
  Res.sat_mono (p_draw hH hm (pow_up (n := 100) (by omega) (by decide))) (by rintro _ S' ⟨d, rfl, a, b, hH', ho⟩; exact q d a b S' hH' ho)
/-- a frame: points in lowest terms -/
def FrmD (n s : Nat) (u : U) : Prop := ∃ ps : List Pt, u = .d (.tup (ps.map ptD)) ∧ ps.length = s ∧ ∀ p ∈ ps, Np n p
theorem q_long {k h n s : Nat} {S : Sto} {ps : List Pt} (hH : Hat S h) (hp : ∀ p ∈ ps, Np n p) (hs : ps.length = s) (hs2 : s ≤ 1000) (hn : n + 62 ≤ 9000) : ((ctx prog (k + 3)).fn i__law_long [.ref h, .d (.tup (ps.map ptD))] S).sat fun u S' => FrmD (n + 62) s u ∧ Hat S' h := by
  rw [fn_end (f := i__law_long) rfl rfl, endS_sat]
  have e10 : ∀ S, opB false .pow (.d (.int 10)) (.d (.int 18)) S = .ok (.d (.int (10 ^ 18))) S := fun S => opB_pow (by decide) (by decide) (by decide)
  simp [sat_seqQ, sat_withR, Res.sat_bind, e10]
  refine sat_draw hH (by decide) (by decide) fun d h0 h1 S' hH' ho => ?_
  simp
  have ht : (1000000000000000000 + d).natAbs < 2 ^ 62 := by omega
  rw [evE_lcM (xs := ps) (u := .d (.tup (ps.map ptD))) ptD (fun p => ptD (red (p.1.1 * (1000000000000000000 + d)) p.1.2, red (p.2.1 * (1000000000000000000 + d)) p.2.2)) (by simp) (.inr rfl) (le_size (by omega)) ?_]
  · simp
    refine ⟨⟨ps.map fun p => (red (p.1.1 * (1000000000000000000 + d)) p.1.2, red (p.2.1 * (1000000000000000000 + d)) p.2.2), by rw [List.map_map]; rfl, by simpa using hs, ?_⟩, hH'⟩
    intro q hq
    obtain ⟨p, hpm, rfl⟩ := List.mem_map.mp hq
    have h := hp p hpm
    exact ⟨red_nf (by have := h.x.pos; omega) (mul_lt_pow h.x.b1 ht) (pow_up h.x.b2 (by omega)), red_nf (by have := h.y.pos; omega) (mul_lt_pow h.y.b1 ht) (pow_up h.y.b2 (by omega))⟩
  · intro p hpm
    have h := hp p hpm
    have f1 := q_fraction (k := k) (t := p.1.1 * (1000000000000000000 + d)) (show 0 < p.1.2 by have := h.x.pos; omega) h.x.b2 (by omega)
    have f2 := q_fraction (k := k) (t := p.2.1 * (1000000000000000000 + d)) (show 0 < p.2.2 by have := h.y.pos; omega) h.y.b2 (by omega)
    simp [lcTurn, ptD, frD, opB_mul h.x.b1 ht (by omega), opB_mul h.y.b1 ht (by omega)] at f1 f2 ⊢
    simp [f1, f2]
/-- halfway: law's middle of two fractions, of two points -/
def midF (f g : Fr) : Fr := red (f.1 * g.2 + g.1 * f.2) (2 * f.2 * g.2)
def midP (p q : Pt) : Pt := (midF p.1 q.1, midF p.2 q.2)
theorem midF_nf {n m : Nat} {f g : Fr} (hf : Nf n f) (hg : Nf m g) : Nf (n + m + 2) (midF f g) := by
  have p1 := hf.pos
  have p2 := hg.pos
  refine red_nf (Int.mul_pos (by omega) (by omega)) ?_ ?_
  · have h2 := mul_lt_pow hg.b1 hf.b2
    rw [Nat.add_comm m n] at h2
    exact pow_up (add_lt_pow (mul_lt_pow hf.b1 hg.b2) h2) (by omega)
  · exact pow_up (mul_lt_pow (mul_lt_pow (a := 2) (n := 2) (by decide) hf.b2) hg.b2) (by omega)
theorem q_middle {k n m : Nat} {p q : Pt} (hp : Np n p) (hq : Np m q) (hn : n + m + 2 ≤ 9000) : (ctx prog (k + 3)).fp i__law_middle [ptD p, ptD q] = .ok (ptD (midP p q)) := by
  rw [fp_end (f := i__law_middle) rfl rfl]
  have e : ∀ p : Pt, ptD p = .tup ([p.1, p.2].map frD) := fun p => rfl
  have hx : ∀ (f g : Fr) (n m : Nat), Nf n f → Nf m g → n + m + 2 ≤ 9000 → (ctx prog (k + 2)).fp i__law_fraction [.int (f.1 * g.2 + g.1 * f.2), .int (2 * f.2 * g.2)] = .ok (frD (midF f g)) := fun f g n m hf hg hn =>
    q_fraction (Int.mul_pos (by have := hf.pos; omega) (by have := hg.pos; omega)) (mul_lt_pow (mul_lt_pow (a := 2) (n := 2) (by decide) hf.b2) hg.b2) (by omega)
  simp
  rw [evE_lcZ (u := .d (ptD p)) (w := .d (ptD q)) (xs := [p.1, p.2]) (ys := [q.1, q.2]) frD frD (fun z => frD (midF z.1 z.2)) (by simp) (.inr ⟨rfl, rfl⟩) (le_size (by simp)) ?_]
  · simp
    rfl
  · intro z hz
    have hz2 : Nf n z.1 ∧ Nf m z.2 := by
      simp at hz
      rcases hz with rfl | rfl
      · exact ⟨hp.x, hq.x⟩
      · exact ⟨hp.y, hq.y⟩
    have f1 := hx z.1 z.2 n m hz2.1 hz2.2 hn
    have c2 : (2 : Int).natAbs < 2 ^ 2 := by decide
    have d1 := mul_lt_pow c2 hz2.1.b2
    simp [lcTurn, frD, opB_mul hz2.1.b1 hz2.2.b2 (by omega), opB_mul hz2.2.b1 hz2.1.b2 (by omega), opB_mul c2 hz2.1.b2 (by omega), opB_mul d1 hz2.2.b2 (by omega)] at f1 ⊢
    simp [f1]
theorem midP_np {n m : Nat} {p q : Pt} (hp : Np n p) (hq : Np m q) : Np (n + m + 2) (midP p q) := ⟨midF_nf hp.x hq.x, midF_nf hp.y hq.y⟩
end LW
namespace LW
open PySem PV
theorem Bd.mono {n m : Nat} {d : D} (h : Bd n d) (e : n ≤ m) : Bd m d := by
  induction h with
  | non => exact .non
  | bl b => exact .bl b
  | int i hi => exact .int i (pow_up hi e)
  | str x => exact .str x
  | tup l _ ih => exact .tup l ih
  | lst l _ ih => exact .lst l ih
theorem Nf.bd {n : Nat} {f : Fr} (h : Nf n f) : Bd n (frD f) := .tup _ fun d hd => by
  rcases List.mem_cons.mp hd with rfl | hd
  · exact .int _ h.b1
  · rcases List.mem_cons.mp hd with rfl | hd
    · exact .int _ h.b2
    · simp at hd
theorem bd_two {n : Nat} {a b : D} (ha : Bd n a) (hb : Bd n b) : Bd n (.tup [a, b]) := .tup _ fun d hd => by
  rcases List.mem_cons.mp hd with rfl | hd
  · exact ha
  · rcases List.mem_cons.mp hd with rfl | hd
    · exact hb
    · simp at hd
theorem Np.bd {n : Nat} {p : Pt} (h : Np n p) : Bd n (ptD p) := bd_two h.x.bd h.y.bd
theorem bd_int {n m : Nat} {i : Int} (h : i.natAbs < 2 ^ m) (e : m ≤ n) : Bd n (.int i) := .int i (pow_up h e)
/-- all of a list -/
theorem all_nil' {p : D → Prop} : ∀ d ∈ ([] : List D), p d := fun d h => absurd h (by simp)
theorem all_cons' {p : D → Prop} {x : D} {l : List D} (h : p x) (t : ∀ d ∈ l, p d) : ∀ d ∈ x :: l, p d := fun d e => by
  rcases List.mem_cons.mp e with rfl | e
  · exact h
  · exact t d e
theorem q_bad {k h n : Nat} {S : Sto} {f : Fr} (hH : Hat S h) (hf : Nf n f) (hn : n + 2 ≤ 9000) (h1 : 1 ≤ n) : ((ctx prog (k + 3)).fn i__law_bad_fraction [.ref h, .d (frD f)] S).sat fun u S' => ∃ d, u = .d d ∧ Bd (n + 2) d ∧ Hat S' h := by
  rw [fn_end (f := i__law_bad_fraction) rfl rfl, endS_sat]
  obtain ⟨a, b⟩ := f
  have b1 := hf.b1
  have b2 := hf.b2
  dsimp only at b1 b2
  have c2 : (2 : Int).natAbs < 2 ^ 2 := by decide
  have c3 : (3 : Int).natAbs < 2 ^ 2 := by decide
  simp only [frD, sat_seqQ, sat_withR, Res.sat_bind]
  simp [sat_seqQ, sat_withR, Res.sat_bind, opB_mul b1 c2 (by omega), opB_mul b2 c2 (by omega), opB_mul b1 c3 (by omega), opB_mul b2 c3 (by omega), opB_lst]
  refine sat_any hH (by simp) (by simp) fun x hx S' hH' _ => ?_
  refine ⟨x, rfl, ?_, hH'⟩
  have hb1 : Bd (n + 2) (.int a) := bd_int b1 (by omega)
  have hb2 : Bd (n + 2) (.int b) := bd_int b2 (by omega)
  have hi : ∀ i : Int, i.natAbs < 2 ^ 1 → Bd (n + 2) (.int i) := fun i hi => bd_int hi (by omega)
  revert x
  refine all_cons' (bd_two (.int _ (mul_lt_pow b1 c2)) (.int _ (mul_lt_pow b2 c2))) ?_
  refine all_cons' (bd_two (bd_int (by rw [Int.natAbs_neg]; exact b1) (by omega)) (bd_int (by rw [Int.natAbs_neg]; exact b2) (by omega))) ?_
  refine all_cons' (bd_two hb1 (hi 0 (by decide))) ?_
  refine all_cons' (.lst _ (all_cons' hb1 (all_cons' hb2 all_nil'))) ?_
  refine all_cons' (.tup _ (all_cons' hb1 all_nil')) ?_
  refine all_cons' (bd_two (.bl _) (hi 1 (by decide))) ?_
  refine all_cons' (bd_two (hi 1 (by decide)) (.bl _)) ?_
  refine all_cons' hb1 ?_
  refine all_cons' .non ?_
  refine all_cons' (.str _) ?_
  refine all_cons' (.tup _ (all_cons' hb1 (all_cons' hb2 (all_cons' (hi 1 (by decide)) all_nil')))) ?_
  refine all_cons' (bd_two (.int _ (mul_lt_pow b1 c3)) (.int _ (mul_lt_pow b2 c3))) all_nil'
end LW
namespace LW
open PySem PV
theorem Hat.ext {S : Sto} {h : Nat} (H : Hat S h) (o : MO) : Hat (S ++ [o]) h := by
  obtain ⟨a, b, e, hb⟩ := H
  refine ⟨a, b, ?_, hb⟩
  have := (List.getElem?_eq_some_iff.mp e).1
  rw [List.getElem?_append_left this, e]
theorem Hat.lt {S : Sto} {h : Nat} (H : Hat S h) : h < S.length := by
  obtain ⟨a, b, e, hb⟩ := H
  exact (List.getElem?_eq_some_iff.mp e).1
theorem Hat.set {S : Sto} {h f : Nat} {o : MO} (H : Hat S h) (hf : h ≠ f) : Hat (S.set f o) h := by
  obtain ⟨a, b, e, hb⟩ := H
  refine ⟨a, b, ?_, hb⟩
  rw [List.getElem?_set_ne (by omega), e]
theorem sat_anyI {k h : Nat} {S : Sto} {l : List D} {lo hi : Int} {Q : U → Sto → Prop} (hH : Hat S h) (h1 : 1 ≤ l.length) (h2 : l.length ≤ 1000) (hl : ∀ x ∈ l, ∃ i : Int, x = .int i ∧ lo ≤ i ∧ i ≤ hi)
    (q : ∀ i : Int, lo ≤ i → i ≤ hi → ∀ S', Hat S' h → (∀ j, j ≠ h → S'[j]? = S[j]?) → Q (.d (.int i)) S') : ((ctx prog (k + 2)).fn i__law_any [.ref h, .d (.lst l)] S).sat Q :=
  sat_any hH h1 h2 fun x hx S' hH' ho => by
    obtain ⟨i, rfl, a, b⟩ := hl x hx
    exact q i a b S' hH' ho
def frameBody : List PV.S := match f__law_frame.body[6]? with
  | some (PV.S.for _ _ _ b) => b
  | _ => []
def frameI (h s fo : Nat) (bt a b c d right up : Int) (i : Nat) (g : Gam) (S : Sto) : Prop := ∃ (at1 : Int) (x5 x13 x14 : Option U) (ps : List Pt), g = [some (.ref h), some (.d (.int (s : Nat))), some (.d (.int at1)), some (.d (.int bt)), some (.ref fo), x5, none, some (.d (.int a)), some (.d (.int b)), some (.d (.int c)), some (.d (.int d)), some (.d (.int right)), some (.d (.int up)), x13, x14] ∧ at1.natAbs ≤ 3 + 3 * i ∧ S[fo]? = some (.lst ((ps.map ptD).map U.d)) ∧ ps.length = i ∧ (∀ p ∈ ps, Np 20 p) ∧ Hat S h
theorem frame_loop {k h s fo : Nat} {S : Sto} {at0 bt a b c d right up : Int} (h3 : 3 ≤ s) (h8 : s ≤ 8) (ht : at0.natAbs ≤ 3) (ha : a.natAbs < 2 ^ 3) (hb : b.natAbs < 2 ^ 2) (hc : c.natAbs < 2 ^ 2) (hd : d.natAbs < 2 ^ 3)
    (bt1 : 1 ≤ bt) (bt2 : bt ≤ 7) (hr : right.natAbs < 2 ^ 5) (hu : up.natAbs < 2 ^ 5) (hH2 : Hat S h) (hf : S[fo]? = some (MO.lst [])) (hfh : h ≠ fo) :
    (forK (ctx prog (k + 2)) (.nm 5) .rng1 (evSs (ctx prog (k + 2)) frameBody) [.d (.int (s : Nat))] [some (.ref h), some (.d (.int (s : Nat))), some (.d (.int at0)), some (.d (.int bt)), some (.ref fo), none, none, some (.d (.int a)), some (.d (.int b)), some (.d (.int c)), some (.d (.int d)), some (.d (.int right)), some (.d (.int up)), none, none] S).sat fun f g S' => f = .nx ∧ frameI h s fo bt a b c d right up s g S' := by
  have hS0 : (8 : Nat) ≤ sizeLine := le_size (by decide)
  refine forK_list (itOf_rng (n := s) (by omega)) rng_list (frameI h s fo bt a b c d right up) ?_ ?_ ?_
  · exact ⟨at0, none, none, none, [], rfl, by omega, hf, rfl, by simp, hH2⟩
  · rintro i v g S hv ⟨at1, x5, x13, x14, ps, rfl, e1, e2, e3, e4, hH3⟩
    have hi : i < s := by
      have := (List.getElem?_eq_some_iff.mp hv).1
      simpa using this
    refine ⟨[some (.ref h), some (.d (.int (s : Nat))), some (.d (.int at1)), some (.d (.int bt)), some (.ref fo), some v, none, some (.d (.int a)), some (.d (.int b)), some (.d (.int c)), some (.d (.int d)), some (.d (.int right)), some (.d (.int up)), x13, x14], by simp, ?_⟩
    have q1 : at1.natAbs < 2 ^ 5 := by omega
    have q2 := mul_lt_pow q1 q1
    have q3 : (a * at1 + b * (at1 * at1) + right).natAbs < 2 ^ 14 := add_lt_pow (add_lt_pow (n := 12) (pow_up (mul_lt_pow ha q1) (by decide)) (mul_lt_pow hb q2)) (pow_up hr (by decide))
    have q4 : (c * at1 + d * (at1 * at1) + up).natAbs < 2 ^ 15 := add_lt_pow (add_lt_pow (n := 13) (pow_up (mul_lt_pow hc q1) (by decide)) (mul_lt_pow hd q2)) (pow_up hu (by decide))
    have qb : bt.natAbs < 2 ^ 3 := by omega
    have f1 := q_fraction (k := k) (t := a * at1 + b * (at1 * at1) + right) (b := bt) (by omega) qb (by decide)
    have f2 := q_fraction (k := k) (t := c * at1 + d * (at1 * at1) + up) (b := bt) (by omega) qb (by decide)
    have hap : ∀ v g, appK fo v g S = .ok .nx g (S.set fo (.lst ((ps.map ptD).map U.d ++ [v]))) := fun v g => appK_ok e2 (lt_size (by simp; omega))
    simp [frameBody, f__law_frame, sat_seqQ, sat_withR, Res.sat_bind, parK, opB_mul q1 q1 (by decide), opB_mul ha q1 (by decide), opB_mul hb q2 (by decide), opB_mul hc q1 (by decide), opB_mul hd q2 (by decide), f1, f2, hap]
    have hfo : fo < S.length := (List.getElem?_eq_some_iff.mp e2).1
    refine sat_draw (hH3.set hfh) (by decide) (by decide) fun w w1 w2 S3 hH4 ho => ?_
    simp
    refine ⟨_, _, _, _, ps ++ [(red (a * at1 + b * (at1 * at1) + right) bt, red (c * at1 + d * (at1 * at1) + up) bt)], rfl, by omega, ?_, by simp [e3], ?_, hH4⟩
    · rw [ho fo (by omega), List.getElem?_set_self hfo]
      simp [ptD]
    · intro p hp
      rcases List.mem_append.mp hp with hp | hp
      · exact e4 p hp
      · have : p = (red (a * at1 + b * (at1 * at1) + right) bt, red (c * at1 + d * (at1 * at1) + up) bt) := by simpa using hp
        subst this
        exact ⟨red_nf (by omega) (pow_up q3 (by decide)) (pow_up qb (by decide)), red_nf (by omega) (pow_up q4 (by decide)) (pow_up qb (by decide))⟩
  · intro g S hI
    refine ⟨rfl, ?_⟩
    simpa using hI
theorem frame_rest {k h s : Nat} {S : Sto} {at0 a b c d : Int} (hH : Hat S h) (h3 : 3 ≤ s) (h8 : s ≤ 8) (ht : at0.natAbs ≤ 3) (ha : a.natAbs < 2 ^ 3) (hb : b.natAbs < 2 ^ 2) (hc : c.natAbs < 2 ^ 2) (hd : d.natAbs < 2 ^ 3) :
    (evSs (ctx prog (k + 2)) (f__law_frame.body.drop 3) [some (.ref h), some (.d (.int (s : Nat))), some (.d (.int at0)), none, none, none, none, some (.d (.int a)), some (.d (.int b)), some (.d (.int c)), some (.d (.int d)), none, none, none, none] S).sat fun f _ S' => ∃ u, f = .ret u ∧ FrmD 20 s u ∧ Hat S' h := by
  simp [f__law_frame, sat_seqQ, sat_withR, Res.sat_bind]
  refine sat_draw hH (by decide) (by decide) fun r1 r2 r3 S hH _ => ?_
  simp [sat_seqQ, sat_withR, Res.sat_bind]
  refine sat_draw hH (by decide) (by decide) fun u1 u2 u3 S hH _ => ?_
  simp [sat_seqQ, sat_withR, Res.sat_bind, parK]
  refine sat_anyI (lo := 1) (hi := 7) hH (by simp) (by simp) (fun x hx => ?_) fun bt bt1 bt2 S hH _ => ?_
  · simp only [List.mem_cons, List.not_mem_nil, or_false] at hx
    rcases hx with rfl | rfl | rfl | rfl | rfl
    · exact ⟨1, rfl, by decide, by decide⟩
    · exact ⟨1, rfl, by decide, by decide⟩
    · exact ⟨2, rfl, by decide, by decide⟩
    · exact ⟨3, rfl, by decide, by decide⟩
    · exact ⟨7, rfl, by decide, by decide⟩
  have hr : (r1 - 20).natAbs < 2 ^ 5 := by omega
  have hu : (u1 - 20).natAbs < 2 ^ 5 := by omega
  generalize r1 - 20 = right at hr
  generalize u1 - 20 = up at hu
  have hlt := hH.lt
  have hf : (S ++ [MO.lst []])[S.length]? = some (MO.lst []) := by simp
  have hfh : h ≠ S.length := by omega
  have hH2 := hH.ext (MO.lst [])
  generalize S ++ [MO.lst []] = S2 at hf hH2
  generalize S.length = fo at hf hfh
  refine RS.sat_mono (frame_loop (k := k) h3 h8 ht ha hb hc hd bt1 bt2 hr hu hH2 hf hfh) ?_
  rintro _ g S ⟨rfl, at1, x5, x13, x14, ps, rfl, e1, e2, e3, e4, hH3⟩
  simp [sat_seqQ, sat_withR, Res.sat_bind]
  refine sat_draw hH3 (by omega) (by omega) fun t y1 y2 S3 hH4 ho => ?_
  have e5 : S3[fo]? = some (.lst ((ps.map ptD).map U.d)) := by rw [ho fo (by omega), e2]
  have e6 : ps.length = s := by simpa using e3
  have l1 : t ≤ (ps.map ptD).length := by simp; omega
  simp [getSl_ref e5, cutL_from y1 l1, cutL_to y1 l1]
  rw [opB_lst (le_size (by simp; omega))]
  simp
  refine ⟨⟨ps.drop t.toNat ++ ps.take t.toNat, by simp [List.map_drop, List.map_take], by simp; omega, ?_⟩, hH4⟩
  intro p hp
  rcases List.mem_append.mp hp with hp | hp
  · exact e4 p (List.mem_of_mem_drop hp)
  · exact e4 p (List.mem_of_mem_take hp)
theorem q_frame {k h s : Nat} {S : Sto} (hH : Hat S h) (h3 : 3 ≤ s) (h8 : s ≤ 8) : ((ctx prog (k + 3)).fn i__law_frame [.ref h, .d (.int (s : Nat))] S).sat fun u S' => FrmD 20 s u ∧ Hat S' h := by
  rw [fn_end (f := i__law_frame) rfl rfl, endS_sat]
  simp [sat_seqQ, sat_withR, Res.sat_bind]
  refine sat_draw hH (by decide) (by decide) fun t0 t1 t2 S hH _ => ?_
  simp [sat_seqQ, sat_withR, Res.sat_bind]
  refine sat_draw hH (by decide) (by decide) fun a a1 a2 S hH _ => ?_
  simp [sat_seqQ, sat_withR, Res.sat_bind]
  refine sat_draw hH (by decide) (by decide) fun b b1 b2 S hH _ => ?_
  simp [sat_seqQ, sat_withR, Res.sat_bind]
  refine sat_draw hH (by decide) (by decide) fun c c1 c2 S hH _ => ?_
  simp [sat_seqQ, sat_withR, Res.sat_bind]
  refine sat_draw hH (by decide) (by decide) fun d d1 d2 S hH _ => ?_
  have ha : (1 + a).natAbs < 2 ^ 3 := by omega
  have hb : (b - 2).natAbs < 2 ^ 2 := by omega
  have hc : (c - 2).natAbs < 2 ^ 2 := by omega
  have hd : (1 + d).natAbs < 2 ^ 3 := by omega
  have hat : (t0 - 3).natAbs ≤ 3 := by omega
  by_cases hx : (1 + a) * (1 + d) - (b - 2) * (c - 2) ≤ 0
  · simp [opB_mul ha hd (by decide), opB_mul hb hc (by decide), hx]
    exact RS.sat_mono (frame_rest (k := k) hH h3 h8 hat ha (b := 0) (c := 0) (by decide) (by decide) hd) fun f g S' => by rintro ⟨u, rfl, z⟩; exact z
  · simp [opB_mul ha hd (by decide), opB_mul hb hc (by decide), hx]
    exact RS.sat_mono (frame_rest (k := k) hH h3 h8 hat ha hb hc hd) fun f g S' => by rintro ⟨u, rfl, z⟩; exact z
end LW
namespace LW
open PySem PV
def tupLen : D → Nat
  | .tup l => l.length
  | _ => 0
theorem cutL_mem {α : Type} {xs : List α} {l h : Option Int} {x : α} (e : x ∈ cutL xs l h) : x ∈ xs := cutL_sub.subset e
theorem cutL_len {α : Type} {xs : List α} {l h : Option Int} : (cutL xs l h).length ≤ xs.length := cutL_sub.length_le
theorem q_spoilt {k h n : Nat} {S : Sto} {ps : List Pt} (hH : Hat S h) (hp : ∀ p ∈ ps, Np n p) (hl : 3 ≤ ps.length) (hl2 : ps.length ≤ 40) (hn : 3 * n + 4 ≤ 9000) (hn1 : 1 ≤ n) :
    ((ctx prog (k + 4)).fn i__law_spoilt [.ref h, .d (.tup (ps.map ptD))] S).sat fun u S' => ∃ d, u = .d d ∧ (Bd (3 * n + 4) d ∧ tupLen d ≤ 2 * ps.length + 2) ∧ Hat S' h := by
  rw [fn_end (f := i__law_spoilt) rfl rfl, endS_sat]
  have hm0 : (ps.length : Int) ≠ 0 := by omega
  have hbl : ∀ d ∈ ps.map ptD, Bd (3 * n + 4) d := fun d hd => by
    obtain ⟨p, hpm, rfl⟩ := List.mem_map.mp hd
    exact (hp p hpm).bd.mono (by omega)
  have hcut : ∀ lo hi, ∀ d ∈ cutL (ps.map ptD) lo hi, Bd (3 * n + 4) d := fun lo hi d hd => hbl d (cutL_mem hd)
  have clen : ∀ lo hi, (cutL (ps.map ptD) lo hi).length ≤ ps.length := fun lo hi => Nat.le_trans cutL_len (by simp)
  simp [sat_seqQ, sat_withR, Res.sat_bind]
  refine sat_draw hH (by decide) (by decide) fun kind k0 k9 S hH _ => ?_
  simp [sat_seqQ, sat_withR, Res.sat_bind]
  refine sat_draw hH (by omega) (by omega) fun at0 a0 a1 S hH _ => ?_
  obtain ⟨i, rfl⟩ : ∃ i : Nat, at0 = (i : Int) := ⟨at0.toNat, by omega⟩
  have hi : i < ps.length := by omega
  have m1 := atI_mget ptD p0 hi
  have m2 := atI_mprev ptD p0 hi
  have m3 := atI_mget ptD p0 (nextI_lt hi)
  have n1 := hp _ (nth_mem p0 hi)
  have n2 := hp _ (nth_mem p0 (prevI_lt hi))
  have n3 := hp _ (nth_mem p0 (nextI_lt hi))
  have app : ∀ (a b : List D) (x : D), (∀ d ∈ a, Bd (3 * n + 4) d) → Bd (3 * n + 4) x → (∀ d ∈ b, Bd (3 * n + 4) d) → a.length ≤ ps.length → b.length ≤ ps.length → Bd (3 * n + 4) (.tup (a ++ [x] ++ b)) ∧ tupLen (.tup (a ++ [x] ++ b)) ≤ 2 * ps.length + 2 := fun a b x ha hx hb la lb => ⟨.tup _ fun d hd => by
    rcases List.mem_append.mp hd with hd | hd
    · rcases List.mem_append.mp hd with hd | hd
      · exact ha d hd
      · rw [List.mem_singleton.mp hd]; exact hx
    · exact hb d hd, by simp [tupLen]; omega⟩
  have opb : ∀ (m : Bool) (lo hi : Option Int) (x : D) S, opB m .add (.d (.tup (cutL (ps.map ptD) lo hi))) (.d (.tup [x])) S = .ok (.d (.tup (cutL (ps.map ptD) lo hi ++ [x]))) S := fun m lo hi x S => opB_tup (le_size (by have := clen lo hi; simp; omega))
  have opc : ∀ (m : Bool) (lo hi lo' hi' : Option Int) (x : D) S, opB m .add (.d (.tup (cutL (ps.map ptD) lo hi ++ [x]))) (.d (.tup (cutL (ps.map ptD) lo' hi'))) S = .ok (.d (.tup (cutL (ps.map ptD) lo hi ++ [x] ++ cutL (ps.map ptD) lo' hi'))) S := fun m lo hi lo' hi' x S => opB_tup (le_size (by have := clen lo hi; have := clen lo' hi'; simp; omega))
  have opd : ∀ (m : Bool) (lo hi lo' hi' : Option Int) S, opB m .add (.d (.tup (cutL (ps.map ptD) lo hi))) (.d (.tup (cutL (ps.map ptD) lo' hi'))) S = .ok (.d (.tup (cutL (ps.map ptD) lo hi ++ cutL (ps.map ptD) lo' hi'))) S := fun m lo hi lo' hi' S => opB_tup (le_size (by have := clen lo hi; have := clen lo' hi'; simp; omega))
  have ope : ∀ (m : Bool) (lo hi lo' hi' : Option Int) (x : D) S, opB m .add (.d (.tup (cutL (ps.map ptD) lo hi ++ cutL (ps.map ptD) lo' hi'))) (.d (.tup [x])) S = .ok (.d (.tup (cutL (ps.map ptD) lo hi ++ cutL (ps.map ptD) lo' hi' ++ [x]))) S := fun m lo hi lo' hi' x S => opB_tup (le_size (by have := clen lo hi; have := clen lo' hi'; simp; omega))
  by_cases h0 : kind = 0
  · simp [h0]
    exact ⟨⟨.tup _ fun d hd => hbl d (by simpa using hd), by simp [tupLen]; omega⟩, hH⟩
  by_cases h1 : kind = 1
  · simp [h0, h1, m2, opb, opc, sat_seqQ, sat_withR, Res.sat_bind, -List.append_assoc, -List.map_map]
    exact ⟨app _ _ _ (hcut _ _) (n2.bd.mono (by omega)) (hcut _ _) (clen _ _) (clen _ _), hH⟩
  by_cases h2 : kind = 2
  · have w := q_middle (k := k) n2 n3 (by omega)
    simp [h0, h1, h2, m2, m3, opB_mod hm0, fmod_next, w, opb, opc, sat_seqQ, sat_withR, Res.sat_bind, -List.append_assoc, -List.map_map]
    exact ⟨app _ _ _ (hcut _ _) ((midP_np n2 n3).bd.mono (by omega)) (hcut _ _) (clen _ _) (clen _ _), hH⟩
  by_cases h3 : kind = 3
  · have e2 : ((i : Int) + 2).fmod (ps.length : Int) = (((i + 2) % ps.length : Nat) : Int) := fmod_nat (i + 2) ps.length
    have hj : (i + 2) % ps.length < ps.length := Nat.mod_lt _ (by omega)
    have m4 := atI_mget ptD p0 hj
    have n4 := hp _ (nth_mem p0 hj)
    generalize (i + 2) % ps.length = j at e2 m4 n4
    have w := q_middle (k := k) n3 n4 (by omega)
    have w2 := q_middle (k := k) n2 (midP_np n3 n4) (by omega)
    simp [h0, h1, h2, h3, m2, m3, m4, opB_mod hm0, fmod_next, e2, w, w2, opb, opc, sat_seqQ, sat_withR, Res.sat_bind, -List.append_assoc, -List.map_map]
    exact ⟨app _ _ _ (hcut _ _) ((midP_np n2 (midP_np n3 n4)).bd.mono (by omega)) (hcut _ _) (clen _ _) (clen _ _), hH⟩
  by_cases h4 : kind = 4
  · simp [h0, h1, h2, h3, h4, sat_seqQ, sat_withR, Res.sat_bind]
    refine sat_anyI (lo := 2) (hi := 3) hH (by simp) (by simp) (fun x hx => ?_) fun st s1 s2 S hH _ => ?_
    · simp only [List.mem_cons, List.not_mem_nil, or_false] at hx
      rcases hx with rfl | rfl | rfl
      · exact ⟨2, rfl, by decide, by decide⟩
      · exact ⟨2, rfl, by decide, by decide⟩
      · exact ⟨3, rfl, by decide, by decide⟩
    have hst : st.natAbs < 2 ^ 2 := by omega
    rw [evE_lcR (n := ps.length) (fun j => ptD (nth p0 ps (((j : Int) * st).fmod (ps.length : Int)).toNat)) (by simp) (le_size (by omega)) (fun j hj => by
      have q1 : (j : Int).natAbs < 2 ^ 10 := by omega
      have r1 := Int.fmod_nonneg_of_pos ((j : Int) * st) (show (0 : Int) < ps.length by omega)
      have r2 := Int.fmod_lt_of_pos ((j : Int) * st) (show (0 : Int) < ps.length by omega)
      have r3 : L2.atI (ps.map ptD) (((j : Int) * st).fmod (ps.length : Int)) = some (ptD (nth p0 ps (((j : Int) * st).fmod (ps.length : Int)).toNat)) := by
        have := atI_mget (l := ps) ptD p0 (i := (((j : Int) * st).fmod (ps.length : Int)).toNat) (by omega)
        rwa [Int.toNat_of_nonneg r1] at this
      simp [lcTurn, opB_mul q1 hst (by decide), opB_mod hm0, r3])]
    simp
    refine ⟨⟨.tup _ fun d hd => ?_, by simp [tupLen]; omega⟩, hH⟩
    obtain ⟨j, hj, rfl⟩ := List.mem_map.mp hd
    have r1 := Int.fmod_nonneg_of_pos ((j : Int) * st) (show (0 : Int) < ps.length by omega)
    have r2 := Int.fmod_lt_of_pos ((j : Int) * st) (show (0 : Int) < ps.length by omega)
    exact (hp _ (nth_mem p0 (by omega))).bd.mono (by omega)
  by_cases h5 : kind = 5
  · have z0 := atI_mget (i := 0) ptD p0 (show 0 < ps.length by omega)
    have nz := hp _ (nth_mem p0 (show 0 < ps.length by omega))
    have opz : ∀ (m : Bool) (lo hi : Option Int) S, opB m .add (.d (.tup (ps.map ptD))) (.d (.tup (cutL (ps.map ptD) lo hi))) S = .ok (.d (.tup (ps.map ptD ++ cutL (ps.map ptD) lo hi))) S := fun m lo hi S => opB_tup (le_size (by have := clen lo hi; simp; omega))
    simp at z0
    simp [h0, h1, h2, h3, h4, h5, z0, opz, sat_seqQ, sat_withR, Res.sat_bind]
    refine sat_any hH (by simp) (by simp) fun x hx S hH _ => ?_
    refine ⟨x, rfl, ?_, hH⟩
    revert x
    refine all_cons' ⟨.tup _ (hcut _ _), Nat.le_trans (clen _ _) (by omega)⟩ (all_cons' ⟨.tup _ fun d hd => ?_, by have := clen none (some 1); simp [tupLen]; omega⟩ (all_cons' ⟨.lst _ hbl, Nat.zero_le _⟩ (all_cons' ⟨.non, Nat.zero_le _⟩ (all_cons' ⟨nz.bd.mono (by omega), by show 2 ≤ _; omega⟩ (all_cons' ⟨.tup _ all_nil', Nat.zero_le _⟩ all_nil')))))
    rcases List.mem_append.mp hd with hd | hd
    · exact hbl d hd
    · exact hcut _ _ d hd
  by_cases h6 : kind = 6
  · simp [h0, h1, h2, h3, h4, h5, h6, m1, opd, ope, sat_seqQ, sat_withR, Res.sat_bind, -List.append_assoc, -List.map_map]
    refine ⟨⟨.tup _ fun d hd => ?_, by have c1 := clen none (some (i : Int)); have c2 := clen (some ((i : Int) + 1)) none; simp [tupLen]; omega⟩, hH⟩
    rcases List.mem_append.mp hd with hd | hd
    · rcases List.mem_append.mp hd with hd | hd
      · exact hcut _ _ d hd
      · exact hcut _ _ d hd
    · rw [List.mem_singleton.mp hd]
      exact n1.bd.mono (by omega)
  · generalize nth p0 ps i = p at m1 n1
    have hbx : Bd (3 * n + 4) (frD p.1) := n1.x.bd.mono (by omega)
    have hby : Bd (3 * n + 4) (frD p.2) := n1.y.bd.mono (by omega)
    simp [h0, h1, h2, h3, h4, h5, h6, m1, ptD, sat_seqQ, sat_withR, Res.sat_bind, -List.append_assoc, -List.map_map]
    refine Res.sat_mono (q_bad (k := k) hH n1.x (by omega) hn1) ?_
    rintro _ S ⟨bx, rfl, hbd1, hH⟩
    simp [sat_seqQ, sat_withR, Res.sat_bind, -List.append_assoc, -List.map_map]
    refine Res.sat_mono (q_bad (k := k) hH n1.y (by omega) hn1) ?_
    rintro _ S ⟨by', rfl, hbd2, hH⟩
    simp [sat_seqQ, sat_withR, Res.sat_bind, -List.append_assoc, -List.map_map]
    have c1 := hbd1.mono (m := 3 * n + 4) (by omega)
    have c2 := hbd2.mono (m := 3 * n + 4) (by omega)
    refine sat_any hH (by simp) (by simp) fun x hx S hH _ => ?_
    have hx2 : Bd (3 * n + 4) x := by
      revert x
      exact all_cons' (bd_two c1 hby) (all_cons' (bd_two hbx c2) (all_cons' (.lst _ (all_cons' hbx (all_cons' hby all_nil'))) (all_cons' (.tup _ (all_cons' hbx all_nil')) (all_cons' (.tup _ (all_cons' hbx (all_cons' hby (all_cons' hbx all_nil')))) all_nil'))))
    have opb' := opb
    have opc' := opc
    simp [opb, opc, sat_seqQ, sat_withR, Res.sat_bind, -List.append_assoc, -List.map_map]
    exact ⟨app _ _ _ (hcut _ _) hx2 (hcut _ _) (clen _ _) (clen _ _), hH⟩
end LW
namespace LW
open PySem PV
def thingBody : List PV.S := match f__law_thing.body[3]? with
  | some (PV.S.for _ _ _ b) => b
  | _ => []
/-- the thing so far -/
def ThI (i : Nat) (d : D) : Prop := match i with
  | 0 => ∃ ps : List Pt, d = .tup (ps.map ptD) ∧ 3 ≤ ps.length ∧ ps.length ≤ 8 ∧ ∀ p ∈ ps, Np 82 p
  | 1 => Bd 250 d ∧ tupLen d ≤ 20
  | _ => Bd 800 d
theorem ThI.bd {i : Nat} {d : D} (h : ThI i d) : Bd 800 d := by
  match i, h with
  | 0, ⟨ps, e, _, _, hp⟩ =>
    subst e
    exact .tup _ fun d hd => by
      obtain ⟨p, hpm, rfl⟩ := List.mem_map.mp hd
      exact (hp p hpm).bd.mono (by decide)
  | 1, h => exact h.1.mono (by decide)
  | _ + 2, h => exact h
theorem th_step {k h : Nat} {S : Sto} {ps : List Pt} {n m : Nat} (hH : Hat S h) (hp : ∀ p ∈ ps, Np n p) (hl : 3 ≤ ps.length) (hl2 : ps.length ≤ 40) (hn : 3 * n + 4 ≤ m) (hm : m ≤ 9000) (hn1 : 1 ≤ n) {Q : U → Sto → Prop}
    (q : ∀ d S', Bd m d → tupLen d ≤ 2 * ps.length + 2 → Hat S' h → Q (.d d) S') : ((ctx prog (k + 4)).fn i__law_spoilt [.ref h, .d (.tup (ps.map ptD))] S).sat Q :=
  Res.sat_mono (q_spoilt hH hp hl hl2 (by omega) hn1) (by rintro _ S' ⟨d, rfl, ⟨hb, ht⟩, hH'⟩; exact q d S' (hb.mono hn) ht hH')
theorem th_loop {k h m : Nat} {S : Sto} {s : Int} {d : D} (hH : Hat S h) (hd : ThI 0 d) (hm : m ≤ 2) :
    (forK (ctx prog (k + 4)) (.nm 3) .rng1 (evSs (ctx prog (k + 4)) thingBody) [.d (.int (m : Nat))] [some (.ref h), some (.d (.int s)), some (.d d), none, none] S).sat fun f g S' => f = .nx ∧ ∃ (d' : D) (x y : Option U), g = [some (.ref h), some (.d (.int s)), some (.d d'), x, y] ∧ Bd 800 d' ∧ Hat S' h := by
  refine forK_list (itOf_rng (n := m) (le_size (by omega))) rng_list (fun i g S => ∃ (d' : D) (x y : Option U), g = [some (.ref h), some (.d (.int s)), some (.d d'), x, y] ∧ ThI i d' ∧ Hat S h) ⟨d, none, none, rfl, hd, hH⟩ ?_ ?_
  · rintro i u g S hu ⟨d', x, y, rfl, hI, hH⟩
    have hi := (List.getElem?_eq_some_iff.mp hu).1
    simp at hi
    have hu2 : u = .d (.int (i : Nat)) := by
      rw [List.getElem?_map, List.getElem?_range hi] at hu
      simpa using hu.symm
    subst hu2
    refine ⟨[some (.ref h), some (.d (.int s)), some (.d d'), some (.d (.int (i : Nat))), y], by simp, ?_⟩
    match i, hi, hI with
    | 0, _, ⟨ps, e, l3, l8, hp⟩ =>
      subst e
      simp [thingBody, f__law_thing, sat_seqQ, sat_withR, Res.sat_bind]
      refine th_step hH hp l3 (by omega) (m := 250) (by decide) (by decide) (by decide) fun d' S' hb ht hH' => ?_
      simp
      exact ⟨⟨hb, by omega⟩, hH'⟩
    | 1, _, ⟨hb, htl⟩ =>
      have keep : ThI 2 d' := hb.mono (by decide)
      cases hb with
      | tup l hl =>
        by_cases h2 : 2 < l.length
        · have hl20 : l.length ≤ 20 := htl
          have h2i : (2 : Int) < (l.length : Int) := by omega
          have gm : l.map (fun d => d) = l := by simp
          simp [thingBody, f__law_thing, sat_seqQ, sat_withR, Res.sat_bind, isTy, h2, h2i]
          rw [evE_lcM (xs := l) (u := .d (.tup l)) (fun d => d) (fun d => .bl (isPt d)) (by simp) (.inr (by rw [gm])) (le_size (by omega)) (fun d hd => by
            simp [lcTurn, q_is_point (k := k + 1) (hl d hd) (by decide)])]
          cases hA : l.all isPt with
          | false =>
            simp [hA]
            exact ⟨keep, hH⟩
          | true =>
            obtain ⟨e, hp⟩ := isPts_of hA hl
            simp [hA, sat_seqQ, sat_withR, Res.sat_bind]
            have st := fun Q q => th_step (k := k) (Q := Q) hH hp (by simp; omega) (by simp; omega) (m := 800) (by decide) (by decide) (by decide) q
            rw [← e] at st
            refine st _ fun d' S' hb ht hH' => ?_
            simp
            exact ⟨hb, hH'⟩
        · have h2i : ¬ (2 : Int) < (l.length : Int) := by omega
          simp [thingBody, f__law_thing, sat_seqQ, sat_withR, Res.sat_bind, isTy, h2, h2i]
          exact ⟨keep, hH⟩
      | _ =>
        simp [thingBody, f__law_thing, sat_seqQ, sat_withR, Res.sat_bind, isTy]
        exact ⟨keep, hH⟩
    | i + 2, hi, _ => omega
  · rintro g S ⟨d', x, y, rfl, hI, hH⟩
    exact ⟨rfl, d', x, y, rfl, hI.bd, hH⟩
end LW
namespace LW
open PySem PV
theorem sat_tru {r : Res U} {Q : Bool → Sto → Prop} : (tru r).sat Q ↔ r.sat fun u S => (truS u S).sat Q := Res.sat_bind
theorem thing_rest {k h : Nat} {S : Sto} {s : Int} {d : D} (hH : Hat S h) (hd : ThI 0 d) (h3 : 3 ≤ s) (h8 : s ≤ 8) :
    (evSs (ctx prog (k + 4)) (f__law_thing.body.drop 3) [some (.ref h), some (.d (.int s)), some (.d d), none, none] S).sat fun f _ S' => ∃ (s' : Int) (d' : D), f = .ret (.d (.tup [.int s', d'])) ∧ 3 ≤ s' ∧ s' ≤ 8 ∧ Bd 800 d' ∧ Hat S' h := by
  simp [f__law_thing, sat_seqQ, sat_withR, Res.sat_bind]
  refine sat_anyI (lo := 0) (hi := 2) hH (by simp) (by simp) (fun x hx => ?_) fun m m0 m2 S hH _ => ?_
  · simp only [List.mem_cons, List.not_mem_nil, or_false] at hx
    rcases hx with rfl | rfl | rfl | rfl | rfl
    · exact ⟨0, rfl, by decide, by decide⟩
    · exact ⟨0, rfl, by decide, by decide⟩
    · exact ⟨1, rfl, by decide, by decide⟩
    · exact ⟨1, rfl, by decide, by decide⟩
    · exact ⟨2, rfl, by decide, by decide⟩
  obtain ⟨m, rfl⟩ : ∃ j : Nat, m = (j : Int) := ⟨m.toNat, by omega⟩
  refine RS.sat_mono (th_loop (k := k) (s := s) hH hd (by omega)) ?_
  rintro _ g S ⟨rfl, d', x, y, rfl, hb, hH⟩
  have e6 : (6 : Int) ≠ 0 := by decide
  have r1 := Int.fmod_nonneg_of_pos s (show (0 : Int) < 6 by decide)
  have r2 := Int.fmod_lt_of_pos s (show (0 : Int) < 6 by decide)
  simp [sat_seqQ, sat_withR, Res.sat_bind, opB_mod e6]
  refine sat_anyI (lo := 3) (hi := 8) hH (by simp) (by simp) (fun x hx => ?_) fun s' s0 s1 S hH _ => ?_
  · simp only [List.mem_cons, List.not_mem_nil, or_false] at hx
    rcases hx with rfl | rfl | rfl | rfl | rfl
    · exact ⟨s, rfl, h3, h8⟩
    · exact ⟨s, rfl, h3, h8⟩
    · exact ⟨s, rfl, h3, h8⟩
    · exact ⟨s, rfl, h3, h8⟩
    · exact ⟨_, rfl, by omega, by omega⟩
  simp
  exact ⟨s', d', ⟨rfl, rfl⟩, s0, s1, hb, hH⟩
theorem q_thing {k h : Nat} {S : Sto} (hH : Hat S h) : ((ctx prog (k + 5)).fn i__law_thing [.ref h] S).sat fun u S' => ∃ (s' : Int) (d' : D), u = .d (.tup [.int s', d']) ∧ 3 ≤ s' ∧ s' ≤ 8 ∧ Bd 800 d' ∧ Hat S' h := by
  rw [fn_end (f := i__law_thing) rfl rfl, endS_sat]
  simp [sat_seqQ, sat_withR, Res.sat_bind]
  refine sat_draw hH (by decide) (by decide) fun s s0 s6 S hH _ => ?_
  obtain ⟨s, rfl⟩ : ∃ j : Nat, s = (j : Int) := ⟨s.toNat, by omega⟩
  simp [sat_seqQ, sat_withR, Res.sat_bind]
  have fr := q_frame (k := k + 1) (s := 3 + s) hH (by omega) (by omega)
  rw [show (((3 + s : Nat)) : Int) = 3 + (s : Int) by omega] at fr
  refine Res.sat_mono fr ?_
  rintro _ S ⟨⟨ps, rfl, hps, hp⟩, hH⟩
  rw [sat_tru, Res.sat_bind]
  refine sat_draw hH (by decide) (by decide) fun z z0 z4 S hH _ => ?_
  by_cases hz : z = 0
  · simp [hz]
    rw [sat_seqQ, sat_withR]
    refine Res.sat_mono (q_long (k := k + 1) hH hp hps (by omega) (by decide)) ?_
    rintro _ S ⟨⟨ps2, rfl, hps2, hp2⟩, hH⟩
    rw [RS.sat_ok, seqQ_nx, evSs_nil, RS.sat_ok, seqQ_nx]
    refine RS.sat_mono (thing_rest (k := k) (s := 3 + (s : Int)) (d := .tup (ps2.map ptD)) hH ⟨ps2, rfl, by omega, by omega, hp2⟩ (by omega) (by omega)) ?_
    rintro _ g S ⟨s', d', rfl, e⟩
    exact ⟨s', d', rfl, e⟩
  · simp [hz]
    refine RS.sat_mono (thing_rest (k := k) (s := 3 + (s : Int)) (d := .tup (ps.map ptD)) hH ⟨ps, rfl, by omega, by omega, fun p h => (hp p h).mono (by decide)⟩ (by omega) (by omega)) ?_
    rintro _ g S ⟨s', d', rfl, e⟩
    exact ⟨s', d', rfl, e⟩
end LW
namespace LW
open PySem PV
theorem hat_new {S : Sto} {a b : Int} (hb : b.natAbs < 2 ^ 40) : Hat (S ++ [MO.lst [.d (.int a), .d (.int b)]]) S.length := ⟨a, b, by simp, hb⟩
theorem q_hat {k : Nat} {S : Sto} {c : Int} {i : Nat} (hi : i ≤ 100) : ((ctx prog (k + 1)).fn i__law_hat [.d (.int c), .d (.int (i : Nat))] S).sat fun u S' => ∃ h, u = .ref h ∧ Hat S' h := by
  rw [fn_end (f := i__law_hat) rfl rfl, endS_sat]
  have e64 : ∀ S, opB false .pow (.d (.int 10)) (.d (.int 64)) S = .ok (.d (.int (10 ^ 64))) S := fun S => opB_pow (by decide) (by decide) (by decide)
  have e18 : ∀ S, opB false .pow (.d (.int 10)) (.d (.int 18)) S = .ok (.d (.int (10 ^ 18))) S := fun S => opB_pow (by decide) (by decide) (by decide)
  have w0 : ((10 : Int) ^ 64).natAbs < 2 ^ 300 := by decide +kernel
  have w1 : ((10 : Int) ^ 64 * 10 ^ 64).natAbs < 2 ^ 600 := by decide +kernel
  have w2 : ((10 : Int) ^ 64 * 10 ^ 64 * 10 ^ 64).natAbs < 2 ^ 900 := by decide +kernel
  have w3 : ((10 : Int) ^ 64 * 10 ^ 64 * 10 ^ 64 * 10 ^ 64) ≠ 0 := by decide +kernel
  simp only [evSs_cons, evS_asg, ev_bin, ev_con, Res.bind_ok, e64, opB_mul w0 w0 (by decide), opB_mul w1 w0 (by decide), opB_mul w2 w0 (by decide), withR_ok]
  generalize (10 : Int) ^ 64 * 10 ^ 64 * 10 ^ 64 * 10 ^ 64 = wide at w3
  have m1 : (2147483563 : Int) ≠ 0 := by decide
  have m2 : (2147483647 : Int) ≠ 0 := by decide
  simp [opB_mod w3]
  generalize c.fmod wide = num
  have a0 := Int.fmod_nonneg_of_pos num (show (0 : Int) < 2147483563 by decide)
  have a1 := Int.fmod_lt_of_pos num (show (0 : Int) < 2147483563 by decide)
  have b0 := Int.fmod_nonneg_of_pos num (show (0 : Int) < 2147483647 by decide)
  have b1 := Int.fmod_lt_of_pos num (show (0 : Int) < 2147483647 by decide)
  have b2 : (num.fmod 2147483647).natAbs < 2 ^ 31 := by omega
  have i2 : (i : Int).natAbs < 2 ^ 10 := by omega
  by_cases hc : (1000000000000000000 : Int) ≤ num
  · simp [e18, hc, opB_mod m1]
    exact hat_new (by omega)
  · simp [e18, hc, opB_mod m2, opB_mul b2 (show (48271 : Int).natAbs < 2 ^ 16 by decide) (by decide), opB_mul (show (7919 : Int).natAbs < 2 ^ 16 by decide) i2 (by decide)]
    have c0 := Int.fmod_nonneg_of_pos (num.fmod 2147483647 * 48271 + 7919 * (i : Int) + 1) (show (0 : Int) < 2147483647 by decide)
    have c1 := Int.fmod_lt_of_pos (num.fmod 2147483647 * 48271 + 7919 * (i : Int) + 1) (show (0 : Int) < 2147483647 by decide)
    exact hat_new (by omega)
end LW
namespace LW
open PySem PV
theorem q_refused {k : Nat} {d : D} (hd : plainD d = true) (hx : isBetD 3 8 d = false) : (ctx prog (k + 4)).fp i__law_refused [d] = .ok (.lst [.bl true, .bl false, .bl false, .bl true]) := by
  rw [fp_end (f := i__law_refused) rfl rfl]
  have e : (ctx prog (k + 3)).fp i_plain_frame [d] = .exc ⟨1⟩ := by
    rw [fp_end (f := i_plain_frame) rfl rfl]
    simp [gl1, gl2, p_is_between hd, hx]
  simp [e, tryK]
  rfl
def plainF (s : Nat) : List Pt := (List.range s).map fun i => ((((i : Nat) : Int), 1), (((i : Nat) : Int) * ((i : Nat) : Int), 1))
theorem q_same {k s : Nat} (h3 : 3 ≤ s) (h8 : s ≤ 8) : (ctx prog (k + 5)).fp i__law_same [.tup ((plainF s).map ptD), .tup ((plainF s).map ptD)] = .ok (.bl true) := by
  obtain rfl | rfl | rfl | rfl | rfl | rfl : s = 3 ∨ s = 4 ∨ s = 5 ∨ s = 6 ∨ s = 7 ∨ s = 8 := by omega
  all_goals rfl
theorem judge_plain {s : Nat} (h3 : 3 ≤ s) (h8 : s ≤ 8) : judge (s : Int) (.tup ((plainF s).map ptD)) = true := by
  obtain rfl | rfl | rfl | rfl | rfl | rfl : s = 3 ∨ s = 4 ∨ s = 5 ∨ s = 6 ∨ s = 7 ∨ s = 8 := by omega
  all_goals decide +kernel
theorem plainF_np {s : Nat} (h8 : s ≤ 8) : ∀ p ∈ plainF s, Np 7 p := by
  intro p hp
  obtain ⟨i, hi, rfl⟩ := List.mem_map.mp hp
  have hi := List.mem_range.mp hi
  have : i < 8 := by omega
  refine ⟨⟨Int.le_refl 1, by simp, ?_, show (1 : Int).natAbs < 2 ^ 7 by decide⟩, ⟨Int.le_refl 1, by simp, ?_, show (1 : Int).natAbs < 2 ^ 7 by decide⟩⟩
  · show ((i : Int)).natAbs < 2 ^ 7
    omega
  · show ((i : Int) * (i : Int)).natAbs < 2 ^ 7
    have h : ((i : Int)).natAbs < 2 ^ 3 := by omega
    exact pow_up (mul_lt_pow h h) (by decide)
theorem p_plain_frame {k s : Nat} (h3 : 3 ≤ s) (h8 : s ≤ 8) : (ctx prog (k + 3)).fp i_plain_frame [.int (s : Nat)] = .ok (.tup ((plainF s).map ptD)) := by
  rw [fp_end (f := i_plain_frame) rfl rfl]
  have hb : isBetD 3 8 (.int (s : Nat)) = true := by simp [isBetD]; omega
  simp [gl1, gl2, p_is_between, hb]
  rw [evE_lcR (n := s) (fun i => ptD ((((i : Nat) : Int), 1), (((i : Nat) : Int) * ((i : Nat) : Int), 1))) (by simp) (le_size (by omega)) (fun i hi => by
    have h : ((i : Int)).natAbs < 2 ^ 3 := by omega
    simp [lcTurn, opB_mul h h (by decide), ptD, frD])]
  simp [plainF]
theorem q_plain_right {k h : Nat} {S : Sto} (hH : Hat S h) : ((ctx prog (k + 6)).fn i__law_plain_right [.ref h] S).sat fun u S' => u = .d (.bl true) ∧ Hat S' h := by
  rw [fn_end (f := i__law_plain_right) rfl rfl, endS_sat]
  have e29 : ∀ S, opB false .pow (.d (.int 10)) (.d (.int 29)) S = .ok (.d (.int (10 ^ 29))) S := fun S => opB_pow (by decide) (by decide) (by decide)
  simp [e29, sat_seqQ, sat_withR, Res.sat_bind]
  refine sat_any hH (by simp) (by simp) fun x hx S hH _ => ?_
  have cases : (plainD x = true ∧ isBetD 3 8 x = false) ∨ ∃ s : Nat, 3 ≤ s ∧ s ≤ 8 ∧ x = .int (s : Nat) := by
    clear hH
    simp only [List.mem_cons, List.not_mem_nil, or_false] at hx
    rcases hx with rfl | rfl | rfl | rfl | rfl | rfl | rfl | rfl | rfl | rfl | rfl | rfl | rfl | rfl | rfl | rfl
    iterate 10 exact .inl ⟨rfl, by decide +kernel⟩
    · exact .inr ⟨3, by decide, by decide, rfl⟩
    · exact .inr ⟨4, by decide, by decide, rfl⟩
    · exact .inr ⟨5, by decide, by decide, rfl⟩
    · exact .inr ⟨6, by decide, by decide, rfl⟩
    · exact .inr ⟨7, by decide, by decide, rfl⟩
    · exact .inr ⟨8, by decide, by decide, rfl⟩
  rcases cases with ⟨c1, c2⟩ | ⟨s, h3, h8, rfl⟩
  · have r := q_refused (k := k + 1) c1 c2
    have ok1 : okD (.lst [.bl true, .bl false, .bl false, .bl true]) = true := rfl
    have eq1 : eqD (.lst [.bl true, .bl false, .bl false, .bl true]) (.lst [.bl true, .bl false, .bl false, .bl true]) = true := rfl
    cases x with
    | int i =>
      have hb : ¬ (3 ≤ i ∧ i ≤ 8) := by simpa [isBetD] using c2
      by_cases q3 : 3 ≤ i
      · have q8 : ¬ i ≤ 8 := fun z => hb ⟨q3, z⟩
        simp [isTy, q3, q8, r, opC_eqD ok1 ok1, eq1, sat_seqQ, sat_withR, Res.sat_bind, sat_tru]
        exact hH
      · simp [isTy, q3, r, opC_eqD ok1 ok1, eq1, sat_seqQ, sat_withR, Res.sat_bind, sat_tru]
        exact hH
    | ins c l => simp at c1
    | scr l => simp at c1
    | _ =>
      simp [isTy, r, opC_eqD ok1 ok1, eq1, sat_seqQ, sat_withR, Res.sat_bind, sat_tru]
      exact hH
  · have q3 : (3 : Int) ≤ (s : Int) := by omega
    have q8 : (s : Int) ≤ 8 := by omega
    simp [isTy, q3, q8, sat_seqQ, sat_withR, Res.sat_bind, sat_tru]
    rw [evE_lcR (n := s) (fun i => ptD ((((i : Nat) : Int), 1), (((i : Nat) : Int) * ((i : Nat) : Int), 1))) (by simp) (le_size (by omega)) (fun i hi => by
      have h : ((i : Int)).natAbs < 2 ^ 3 := by omega
      simp [lcTurn, opB_mul h h (by decide), ptD, frD])]
    have ep : ((List.range s).map fun i => ptD ((((i : Nat) : Int), 1), (((i : Nat) : Int) * ((i : Nat) : Int), 1))) = (plainF s).map ptD := by unfold plainF; rw [List.map_map]; rfl
    rw [ep]
    have w1 := p_plain_frame (k := k + 2) h3 h8
    have w2 := q_same (k := k) h3 h8
    have w3 := p_is_frame (k := k) (n := 7) (s := (s : Int)) (d := .tup ((plainF s).map ptD)) (.tup _ fun d hd => by
      obtain ⟨p, hpm, rfl⟩ := List.mem_map.mp hd
      exact (plainF_np h8 p hpm).bd) q3 q8 (by decide)
    rw [judge_plain h3 h8] at w3
    simp [w1, w2, w3]
    exact hH
end LW
namespace LW
open PySem PV
theorem endP_sat {r : RS} {d : D} (h : r.sat fun f _ _ => f = .ret (.d d)) : endP r = .ok d := by
  obtain ⟨f, g, S, rfl, rfl⟩ := h
  rfl
theorem enumL_get : ∀ (l : List D) (n i : Nat), (enumL n l)[i]? = l[i]?.map fun x => U.d (.tup [.int ((n + i : Nat) : Int), x])
  | [], _, _ => by simp [enumL]
  | x :: l, n, 0 => by simp [enumL]
  | x :: l, n, i + 1 => by
    show (enumL (n + 1) l)[i]? = l[i]?.map _
    rw [enumL_get l (n + 1) i, show n + 1 + i = n + (i + 1) by omega]
theorem enumL_len : ∀ (l : List D) (n : Nat), (enumL n l).length = l.length
  | [], _ => rfl
  | x :: l, n => by show (enumL (n + 1) l).length + 1 = _; rw [enumL_len l (n + 1)]; rfl
def lawBody : List PV.S := match f_law.body[0]? with
  | some (PV.S.for _ _ _ b) => b
  | _ => []
theorem law_turn {k i : Nat} {S : Sto} {c : Int} {x0 x3 x4 x5 x6 : Option U} (hi : i ≤ 100) :
    (evSs (ctx prog (k + 6)) lawBody [x0, some (.d (.int (i : Nat))), some (.d (.int c)), x3, x4, x5, x6] S).sat fun f g _ => f = .nx ∧ ∃ y1 y2 y3 y4 y5 y6, g = [x0, y1, y2, y3, y4, y5, y6] := by
  simp [lawBody, f_law, sat_seqQ, sat_withR, Res.sat_bind]
  refine Res.sat_mono (q_hat (k := k + 5) hi) ?_
  rintro _ S ⟨h, rfl, hH⟩
  simp [sat_seqQ, sat_withR, Res.sat_bind, sat_tru]
  refine Res.sat_mono (q_plain_right (k := k) hH) ?_
  rintro _ S ⟨rfl, hH⟩
  simp [sat_seqQ, sat_withR, Res.sat_bind, sat_tru]
  refine Res.sat_mono (q_thing (k := k + 1) hH) ?_
  rintro _ S ⟨s, d, rfl, h3, h8, hb, hH⟩
  have w1 := p_is_frame (k := k + 1) hb h3 h8 (by decide)
  have w2 := q_is_frame (k := k + 2) (n := 800) hb h3 h8 (by decide)
  simp [w1, w2, isTy]
theorem law_any {k : Nat} (ns : List Int) (hl : ns.length ≤ 63) : (ctx prog (k + 7)).fp i_law [.scr ns] = .ok (.bl true) := by
  rw [fp_end (f := i_law) rfl rfl]
  refine endP_sat ?_
  have ha : ∀ S, opB false .add (.d (.lst (ns.map D.int))) (.d (.lst [.int 3, .int 15, .int 42])) S = .ok (.d (.lst ((ns ++ [3, 15, 42]).map D.int))) S := fun S => by
    rw [opB_lst (le_size (by simp; omega))]; simp
  simp only [evSs_cons, evS_for, sat_seqQ, sat_withR, evEs_cons, evEs_nil, ev_bin, ev_blt, ev_lst, ev_slot, ev_con, List.map_cons, List.map_nil, List.cons_append, slotU_0, Res.bind_ok, opF_lstS]
  simp [ha]
  have el : ns.map D.int ++ [D.int 3, D.int 15, D.int 42] = (ns ++ [3, 15, 42]).map D.int := by simp
  rw [el]
  have hlen : (ns ++ [3, 15, 42]).length ≤ 66 := by simp; omega
  generalize ns ++ [3, 15, 42] = l at hlen
  refine forK_list (v := .items (enumL 0 (l.map D.int))) (l := enumL 0 (l.map D.int)) rfl rfl (fun i g S => ∃ y1 y2 y3 y4 y5 y6, g = [some (U.d (D.scr ns)), y1, y2, y3, y4, y5, y6]) ⟨_, _, _, _, _, _, rfl⟩ ?_ ?_
  · rintro i u g S hu ⟨y1, y2, y3, y4, y5, y6, rfl⟩
    have hi : i < l.length := by
      have := (List.getElem?_eq_some_iff.mp hu).1
      simpa [enumL_len] using this
    rw [enumL_get, List.getElem?_map, List.getElem?_eq_getElem hi] at hu
    simp at hu
    subst hu
    refine ⟨[some (U.d (D.scr ns)), some (.d (.int (i : Nat))), some (.d (.int l[i])), y3, y4, y5, y6], by simp, ?_⟩
    refine RS.sat_mono (law_turn (k := k) (c := l[i]) (by omega)) ?_
    rintro _ g S ⟨rfl, e⟩
    exact e
  · rintro g S ⟨y1, y2, y3, y4, y5, y6, rfl⟩
    simp
theorem law_true : ∀ ns : List Int, ns.length ≤ 63 → (PV.ctx cfg.P (39 + 1)).fp 40 [.scr ns] = .ok (.bl true) := fun ns hl => law_any (k := 33) ns hl
end LW
namespace LW
open PySem PySem.Spec PyProof.Rows L2
theorem all_mk {P : Program} {w : World} {K : PySem.W.Frag} {h : Heap} {mg : Str → Option Value} {fa : Addr} (X : K.In h) (G : h.Ns mainGlobals mg) (hfa : mg (PySem.Str.ofString "law") = some (.ref fa))
    {q0 : Addr} {od0 an0 : Option Addr} {sl0 : Array (Option Value)} {oc0 kV0 dc0 pm0 cd0 ct0 : Value}
    {q1 : Addr} {od1 an1 : Option Addr} {sl1 : Array (Option Value)} {oc1 kV1 dc1 pm1 cd1 ct1 : Value}
    {q2 : Addr} {od2 an2 : Option Addr} {sl2 : Array (Option Value)} {oc2 kV2 dc2 pm2 cd2 ct2 : Value}
    {q3 : Addr} {od3 an3 : Option Addr} {sl3 : Array (Option Value)} {oc3 kV3 dc3 pm3 cd3 ct3 : Value}
    {q4 : Addr} {od4 an4 : Option Addr} {sl4 : Array (Option Value)} {oc4 kV4 dc4 pm4 cd4 ct4 : Value}
    {q5 : Addr} {od5 an5 : Option Addr} {sl5 : Array (Option Value)} {oc5 kV5 dc5 pm5 cd5 ct5 : Value}
    {q6 : Addr} {od6 an6 : Option Addr} {sl6 : Array (Option Value)} {oc6 kV6 dc6 pm6 cd6 ct6 : Value}
    {q7 : Addr} {od7 an7 : Option Addr} {sl7 : Array (Option Value)} {oc7 kV7 dc7 pm7 cd7 ct7 : Value}
    {q8 : Addr} {od8 an8 : Option Addr} {sl8 : Array (Option Value)} {oc8 kV8 dc8 pm8 cd8 ct8 : Value}
    {q9 : Addr} {od9 an9 : Option Addr} {sl9 : Array (Option Value)} {oc9 kV9 dc9 pm9 cd9 ct9 : Value}
    {q10 : Addr} {od10 an10 : Option Addr} {sl10 : Array (Option Value)} {oc10 kV10 dc10 pm10 cd10 ct10 : Value}
    {q11 : Addr} {od11 an11 : Option Addr} {sl11 : Array (Option Value)} {oc11 kV11 dc11 pm11 cd11 ct11 : Value}
    {q12 : Addr} {od12 an12 : Option Addr} {sl12 : Array (Option Value)} {oc12 kV12 dc12 pm12 cd12 ct12 : Value}
    {q13 : Addr} {od13 an13 : Option Addr} {sl13 : Array (Option Value)} {oc13 kV13 dc13 pm13 cd13 ct13 : Value}
    {q14 : Addr} {od14 an14 : Option Addr} {sl14 : Array (Option Value)} {oc14 kV14 dc14 pm14 cd14 ct14 : Value}
    {q15 : Addr} {od15 an15 : Option Addr} {sl15 : Array (Option Value)} {oc15 kV15 dc15 pm15 cd15 ct15 : Value}
    {q16 : Addr} {od16 an16 : Option Addr} {sl16 : Array (Option Value)} {oc16 kV16 dc16 pm16 cd16 ct16 : Value}
    {q17 : Addr} {od17 an17 : Option Addr} {sl17 : Array (Option Value)} {oc17 kV17 dc17 pm17 cd17 ct17 : Value}
    {q18 : Addr} {od18 an18 : Option Addr} {sl18 : Array (Option Value)} {oc18 kV18 dc18 pm18 cd18 ct18 : Value}
    {q19 : Addr} {od19 an19 : Option Addr} {sl19 : Array (Option Value)} {oc19 kV19 dc19 pm19 cd19 ct19 : Value}
    {q20 : Addr} {od20 an20 : Option Addr} {sl20 : Array (Option Value)} {oc20 kV20 dc20 pm20 cd20 ct20 : Value}
    {q21 : Addr} {od21 an21 : Option Addr} {sl21 : Array (Option Value)} {oc21 kV21 dc21 pm21 cd21 ct21 : Value}
    {q22 : Addr} {od22 an22 : Option Addr} {sl22 : Array (Option Value)} {oc22 kV22 dc22 pm22 cd22 ct22 : Value}
    {q23 : Addr} {od23 an23 : Option Addr} {sl23 : Array (Option Value)} {oc23 kV23 dc23 pm23 cd23 ct23 : Value}
    {q24 : Addr} {od24 an24 : Option Addr} {sl24 : Array (Option Value)} {oc24 kV24 dc24 pm24 cd24 ct24 : Value}
    {q25 : Addr} {od25 an25 : Option Addr} {sl25 : Array (Option Value)} {oc25 kV25 dc25 pm25 cd25 ct25 : Value}
    {q26 : Addr} {od26 an26 : Option Addr} {sl26 : Array (Option Value)} {oc26 kV26 dc26 pm26 cd26 ct26 : Value}
    {q27 : Addr} {od27 an27 : Option Addr} {sl27 : Array (Option Value)} {oc27 kV27 dc27 pm27 cd27 ct27 : Value}
    {q28 : Addr} {od28 an28 : Option Addr} {sl28 : Array (Option Value)} {oc28 kV28 dc28 pm28 cd28 ct28 : Value}
    {q29 : Addr} {od29 an29 : Option Addr} {sl29 : Array (Option Value)} {oc29 kV29 dc29 pm29 cd29 ct29 : Value}
    {q30 : Addr} {od30 an30 : Option Addr} {sl30 : Array (Option Value)} {oc30 kV30 dc30 pm30 cd30 ct30 : Value}
    {q31 : Addr} {od31 an31 : Option Addr} {sl31 : Array (Option Value)} {oc31 kV31 dc31 pm31 cd31 ct31 : Value}
    {q32 : Addr} {od32 an32 : Option Addr} {sl32 : Array (Option Value)} {oc32 kV32 dc32 pm32 cd32 ct32 : Value}
    {q33 : Addr} {od33 an33 : Option Addr} {sl33 : Array (Option Value)} {oc33 kV33 dc33 pm33 cd33 ct33 : Value}
    {q34 : Addr} {od34 an34 : Option Addr} {sl34 : Array (Option Value)} {oc34 kV34 dc34 pm34 cd34 ct34 : Value}
    {q35 : Addr} {od35 an35 : Option Addr} {sl35 : Array (Option Value)} {oc35 kV35 dc35 pm35 cd35 ct35 : Value}
    {q36 : Addr} {od36 an36 : Option Addr} {sl36 : Array (Option Value)} {oc36 kV36 dc36 pm36 cd36 ct36 : Value}
    {q37 : Addr} {od37 an37 : Option Addr} {sl37 : Array (Option Value)} {oc37 kV37 dc37 pm37 cd37 ct37 : Value}
    {q38 : Addr} {od38 an38 : Option Addr} {sl38 : Array (Option Value)} {oc38 kV38 dc38 pm38 cd38 ct38 : Value}
    {q39 : Addr} {od39 an39 : Option Addr} {sl39 : Array (Option Value)} {oc39 kV39 dc39 pm39 cd39 ct39 : Value}
    {q40 : Addr} {od40 an40 : Option Addr} {sl40 : Array (Option Value)} {oc40 kV40 dc40 pm40 cd40 ct40 : Value}
    {gf0 : Addr} {go0 : Option Addr} {gi0 : Array Value} {gn0 : Nat} {gs0 : Array (Option Value)}
    {gt1 : Nat}
    {gt2 : Nat}
    {C0 : Addr}
    {C1 : Addr}
    {C2 : Addr}
    {C3 : Addr}
    (a0 : PySem.W.nsIn K mainGlobals (PySem.Str.ofString "is_integer") = some (some (.ref q0)))
    (l0 : K.lookup q0 = some ⟨oc0, od0, .func (PySem.W.fnOf (PySem.Str.ofString "is_integer") (PySem.Str.ofString "is_integer") (defArgs st_is_integer) (defBody st_is_integer) (defScope st_is_integer) .none kV0 dc0 pm0 an0 cd0 ct0), sl0⟩)
    (c0 : PySem.W.codeIn K cd0 (PySem.Str.ofString "is_integer") = true)
    (k0 : PySem.W.keepIn K (.ref q0) = true)
    (a1 : PySem.W.nsIn K mainGlobals (PySem.Str.ofString "is_between") = some (some (.ref q1)))
    (l1 : K.lookup q1 = some ⟨oc1, od1, .func (PySem.W.fnOf (PySem.Str.ofString "is_between") (PySem.Str.ofString "is_between") (defArgs st_is_between) (defBody st_is_between) (defScope st_is_between) .none kV1 dc1 pm1 an1 cd1 ct1), sl1⟩)
    (c1 : PySem.W.codeIn K cd1 (PySem.Str.ofString "is_between") = true)
    (k1 : PySem.W.keepIn K (.ref q1) = true)
    (a2 : PySem.W.nsIn K mainGlobals (PySem.Str.ofString "is_tuple_of") = some (some (.ref q2)))
    (l2 : K.lookup q2 = some ⟨oc2, od2, .func (PySem.W.fnOf (PySem.Str.ofString "is_tuple_of") (PySem.Str.ofString "is_tuple_of") (defArgs st_is_tuple_of) (defBody st_is_tuple_of) (defScope st_is_tuple_of) .none kV2 dc2 pm2 an2 cd2 ct2), sl2⟩)
    (c2 : PySem.W.codeIn K cd2 (PySem.Str.ofString "is_tuple_of") = true)
    (k2 : PySem.W.keepIn K (.ref q2) = true)
    (a3 : PySem.W.nsIn K mainGlobals (PySem.Str.ofString "is_fraction") = some (some (.ref q3)))
    (l3 : K.lookup q3 = some ⟨oc3, od3, .func (PySem.W.fnOf (PySem.Str.ofString "is_fraction") (PySem.Str.ofString "is_fraction") (defArgs st_is_fraction) (defBody st_is_fraction) (defScope st_is_fraction) .none kV3 dc3 pm3 an3 cd3 ct3), sl3⟩)
    (c3 : PySem.W.codeIn K cd3 (PySem.Str.ofString "is_fraction") = true)
    (k3 : PySem.W.keepIn K (.ref q3) = true)
    (a4 : PySem.W.nsIn K mainGlobals (PySem.Str.ofString "fraction") = some (some (.ref q4)))
    (l4 : K.lookup q4 = some ⟨oc4, od4, .func (PySem.W.fnOf (PySem.Str.ofString "fraction") (PySem.Str.ofString "fraction") (defArgs st_fraction) (defBody st_fraction) (defScope st_fraction) .none kV4 dc4 pm4 an4 cd4 ct4), sl4⟩)
    (c4 : PySem.W.codeIn K cd4 (PySem.Str.ofString "fraction") = true)
    (k4 : PySem.W.keepIn K (.ref q4) = true)
    (a5 : PySem.W.nsIn K mainGlobals (PySem.Str.ofString "is_less") = some (some (.ref q5)))
    (l5 : K.lookup q5 = some ⟨oc5, od5, .func (PySem.W.fnOf (PySem.Str.ofString "is_less") (PySem.Str.ofString "is_less") (defArgs st_is_less) (defBody st_is_less) (defScope st_is_less) .none kV5 dc5 pm5 an5 cd5 ct5), sl5⟩)
    (c5 : PySem.W.codeIn K cd5 (PySem.Str.ofString "is_less") = true)
    (k5 : PySem.W.keepIn K (.ref q5) = true)
    (a6 : PySem.W.nsIn K mainGlobals (PySem.Str.ofString "minus") = some (some (.ref q6)))
    (l6 : K.lookup q6 = some ⟨oc6, od6, .func (PySem.W.fnOf (PySem.Str.ofString "minus") (PySem.Str.ofString "minus") (defArgs st_minus) (defBody st_minus) (defScope st_minus) .none kV6 dc6 pm6 an6 cd6 ct6), sl6⟩)
    (c6 : PySem.W.codeIn K cd6 (PySem.Str.ofString "minus") = true)
    (k6 : PySem.W.keepIn K (.ref q6) = true)
    (a7 : PySem.W.nsIn K mainGlobals (PySem.Str.ofString "times") = some (some (.ref q7)))
    (l7 : K.lookup q7 = some ⟨oc7, od7, .func (PySem.W.fnOf (PySem.Str.ofString "times") (PySem.Str.ofString "times") (defArgs st_times) (defBody st_times) (defScope st_times) .none kV7 dc7 pm7 an7 cd7 ct7), sl7⟩)
    (c7 : PySem.W.codeIn K cd7 (PySem.Str.ofString "times") = true)
    (k7 : PySem.W.keepIn K (.ref q7) = true)
    (a8 : PySem.W.nsIn K mainGlobals (PySem.Str.ofString "is_point") = some (some (.ref q8)))
    (l8 : K.lookup q8 = some ⟨oc8, od8, .func (PySem.W.fnOf (PySem.Str.ofString "is_point") (PySem.Str.ofString "is_point") (defArgs st_is_point) (defBody st_is_point) (defScope st_is_point) .none kV8 dc8 pm8 an8 cd8 ct8), sl8⟩)
    (c8 : PySem.W.codeIn K cd8 (PySem.Str.ofString "is_point") = true)
    (k8 : PySem.W.keepIn K (.ref q8) = true)
    (a9 : PySem.W.nsIn K mainGlobals (PySem.Str.ofString "sign_of") = some (some (.ref q9)))
    (l9 : K.lookup q9 = some ⟨oc9, od9, .func (PySem.W.fnOf (PySem.Str.ofString "sign_of") (PySem.Str.ofString "sign_of") (defArgs st_sign_of) (defBody st_sign_of) (defScope st_sign_of) .none kV9 dc9 pm9 an9 cd9 ct9), sl9⟩)
    (c9 : PySem.W.codeIn K cd9 (PySem.Str.ofString "sign_of") = true)
    (k9 : PySem.W.keepIn K (.ref q9) = true)
    (a10 : PySem.W.nsIn K mainGlobals (PySem.Str.ofString "way") = some (some (.ref q10)))
    (l10 : K.lookup q10 = some ⟨oc10, od10, .func (PySem.W.fnOf (PySem.Str.ofString "way") (PySem.Str.ofString "way") (defArgs st_way) (defBody st_way) (defScope st_way) .none kV10 dc10 pm10 an10 cd10 ct10), sl10⟩)
    (c10 : PySem.W.codeIn K cd10 (PySem.Str.ofString "way") = true)
    (k10 : PySem.W.keepIn K (.ref q10) = true)
    (a11 : PySem.W.nsIn K mainGlobals (PySem.Str.ofString "turn_of") = some (some (.ref q11)))
    (l11 : K.lookup q11 = some ⟨oc11, od11, .func (PySem.W.fnOf (PySem.Str.ofString "turn_of") (PySem.Str.ofString "turn_of") (defArgs st_turn_of) (defBody st_turn_of) (defScope st_turn_of) .none kV11 dc11 pm11 an11 cd11 ct11), sl11⟩)
    (c11 : PySem.W.codeIn K cd11 (PySem.Str.ofString "turn_of") = true)
    (k11 : PySem.W.keepIn K (.ref q11) = true)
    (a12 : PySem.W.nsIn K mainGlobals (PySem.Str.ofString "is_upper") = some (some (.ref q12)))
    (l12 : K.lookup q12 = some ⟨oc12, od12, .func (PySem.W.fnOf (PySem.Str.ofString "is_upper") (PySem.Str.ofString "is_upper") (defArgs st_is_upper) (defBody st_is_upper) (defScope st_is_upper) .none kV12 dc12 pm12 an12 cd12 ct12), sl12⟩)
    (c12 : PySem.W.codeIn K cd12 (PySem.Str.ofString "is_upper") = true)
    (k12 : PySem.W.keepIn K (.ref q12) = true)
    (a13 : PySem.W.nsIn K mainGlobals (PySem.Str.ofString "turns_once") = some (some (.ref q13)))
    (l13 : K.lookup q13 = some ⟨oc13, od13, .func (PySem.W.fnOf (PySem.Str.ofString "turns_once") (PySem.Str.ofString "turns_once") (defArgs st_turns_once) (defBody st_turns_once) (defScope st_turns_once) .none kV13 dc13 pm13 an13 cd13 ct13), sl13⟩)
    (c13 : PySem.W.codeIn K cd13 (PySem.Str.ofString "turns_once") = true)
    (k13 : PySem.W.keepIn K (.ref q13) = true)
    (a14 : PySem.W.nsIn K mainGlobals (PySem.Str.ofString "goes_round") = some (some (.ref q14)))
    (l14 : K.lookup q14 = some ⟨oc14, od14, .func (PySem.W.fnOf (PySem.Str.ofString "goes_round") (PySem.Str.ofString "goes_round") (defArgs st_goes_round) (defBody st_goes_round) (defScope st_goes_round) .none kV14 dc14 pm14 an14 cd14 ct14), sl14⟩)
    (c14 : PySem.W.codeIn K cd14 (PySem.Str.ofString "goes_round") = true)
    (k14 : PySem.W.keepIn K (.ref q14) = true)
    (a15 : PySem.W.nsIn K mainGlobals (PySem.Str.ofString "is_frame") = some (some (.ref q15)))
    (l15 : K.lookup q15 = some ⟨oc15, od15, .func (PySem.W.fnOf (PySem.Str.ofString "is_frame") (PySem.Str.ofString "is_frame") (defArgs st_is_frame) (defBody st_is_frame) (defScope st_is_frame) .none kV15 dc15 pm15 an15 cd15 ct15), sl15⟩)
    (c15 : PySem.W.codeIn K cd15 (PySem.Str.ofString "is_frame") = true)
    (k15 : PySem.W.keepIn K (.ref q15) = true)
    (a16 : PySem.W.nsIn K mainGlobals (PySem.Str.ofString "plain_frame") = some (some (.ref q16)))
    (l16 : K.lookup q16 = some ⟨oc16, od16, .func (PySem.W.fnOf (PySem.Str.ofString "plain_frame") (PySem.Str.ofString "plain_frame") (defArgs st_plain_frame) (defBody st_plain_frame) (defScope st_plain_frame) .none kV16 dc16 pm16 an16 cd16 ct16), sl16⟩)
    (c16 : PySem.W.codeIn K cd16 (PySem.Str.ofString "plain_frame") = true)
    (k16 : PySem.W.keepIn K (.ref q16) = true)
    (a17 : PySem.W.nsIn K mainGlobals (PySem.Str.ofString "_law_hat") = some (some (.ref q17)))
    (l17 : K.lookup q17 = some ⟨oc17, od17, .func (PySem.W.fnOf (PySem.Str.ofString "_law_hat") (PySem.Str.ofString "_law_hat") (defArgs st__law_hat) (defBody st__law_hat) (defScope st__law_hat) .none kV17 dc17 pm17 an17 cd17 ct17), sl17⟩)
    (c17 : PySem.W.codeIn K cd17 (PySem.Str.ofString "_law_hat") = true)
    (k17 : PySem.W.keepIn K (.ref q17) = true)
    (a18 : PySem.W.nsIn K mainGlobals (PySem.Str.ofString "_law_draw") = some (some (.ref q18)))
    (l18 : K.lookup q18 = some ⟨oc18, od18, .func (PySem.W.fnOf (PySem.Str.ofString "_law_draw") (PySem.Str.ofString "_law_draw") (defArgs st__law_draw) (defBody st__law_draw) (defScope st__law_draw) .none kV18 dc18 pm18 an18 cd18 ct18), sl18⟩)
    (c18 : PySem.W.codeIn K cd18 (PySem.Str.ofString "_law_draw") = true)
    (k18 : PySem.W.keepIn K (.ref q18) = true)
    (a19 : PySem.W.nsIn K mainGlobals (PySem.Str.ofString "_law_same") = some (some (.ref q19)))
    (l19 : K.lookup q19 = some ⟨oc19, od19, .func (PySem.W.fnOf (PySem.Str.ofString "_law_same") (PySem.Str.ofString "_law_same") (defArgs st__law_same) (defBody st__law_same) (defScope st__law_same) .none kV19 dc19 pm19 an19 cd19 ct19), sl19⟩)
    (c19 : PySem.W.codeIn K cd19 (PySem.Str.ofString "_law_same") = true)
    (k19 : PySem.W.keepIn K (.ref q19) = true)
    (a20 : PySem.W.nsIn K mainGlobals (PySem.Str.ofString "_law_any") = some (some (.ref q20)))
    (l20 : K.lookup q20 = some ⟨oc20, od20, .func (PySem.W.fnOf (PySem.Str.ofString "_law_any") (PySem.Str.ofString "_law_any") (defArgs st__law_any) (defBody st__law_any) (defScope st__law_any) .none kV20 dc20 pm20 an20 cd20 ct20), sl20⟩)
    (c20 : PySem.W.codeIn K cd20 (PySem.Str.ofString "_law_any") = true)
    (k20 : PySem.W.keepIn K (.ref q20) = true)
    (a21 : PySem.W.nsIn K mainGlobals (PySem.Str.ofString "_law_gcd") = some (some (.ref q21)))
    (l21 : K.lookup q21 = some ⟨oc21, od21, .func (PySem.W.fnOf (PySem.Str.ofString "_law_gcd") (PySem.Str.ofString "_law_gcd") (defArgs st__law_gcd) (defBody st__law_gcd) (defScope st__law_gcd) .none kV21 dc21 pm21 an21 cd21 ct21), sl21⟩)
    (c21 : PySem.W.codeIn K cd21 (PySem.Str.ofString "_law_gcd") = true)
    (k21 : PySem.W.keepIn K (.ref q21) = true)
    (a22 : PySem.W.nsIn K mainGlobals (PySem.Str.ofString "_law_fraction") = some (some (.ref q22)))
    (l22 : K.lookup q22 = some ⟨oc22, od22, .func (PySem.W.fnOf (PySem.Str.ofString "_law_fraction") (PySem.Str.ofString "_law_fraction") (defArgs st__law_fraction) (defBody st__law_fraction) (defScope st__law_fraction) .none kV22 dc22 pm22 an22 cd22 ct22), sl22⟩)
    (c22 : PySem.W.codeIn K cd22 (PySem.Str.ofString "_law_fraction") = true)
    (k22 : PySem.W.keepIn K (.ref q22) = true)
    (a23 : PySem.W.nsIn K mainGlobals (PySem.Str.ofString "_law_frame") = some (some (.ref q23)))
    (l23 : K.lookup q23 = some ⟨oc23, od23, .func (PySem.W.fnOf (PySem.Str.ofString "_law_frame") (PySem.Str.ofString "_law_frame") (defArgs st__law_frame) (defBody st__law_frame) (defScope st__law_frame) .none kV23 dc23 pm23 an23 cd23 ct23), sl23⟩)
    (c23 : PySem.W.codeIn K cd23 (PySem.Str.ofString "_law_frame") = true)
    (k23 : PySem.W.keepIn K (.ref q23) = true)
    (a24 : PySem.W.nsIn K mainGlobals (PySem.Str.ofString "_law_whole") = some (some (.ref q24)))
    (l24 : K.lookup q24 = some ⟨oc24, od24, .func (PySem.W.fnOf (PySem.Str.ofString "_law_whole") (PySem.Str.ofString "_law_whole") (defArgs st__law_whole) (defBody st__law_whole) (defScope st__law_whole) .none kV24 dc24 pm24 an24 cd24 ct24), sl24⟩)
    (c24 : PySem.W.codeIn K cd24 (PySem.Str.ofString "_law_whole") = true)
    (k24 : PySem.W.keepIn K (.ref q24) = true)
    (a25 : PySem.W.nsIn K mainGlobals (PySem.Str.ofString "_law_way") = some (some (.ref q25)))
    (l25 : K.lookup q25 = some ⟨oc25, od25, .func (PySem.W.fnOf (PySem.Str.ofString "_law_way") (PySem.Str.ofString "_law_way") (defArgs st__law_way) (defBody st__law_way) (defScope st__law_way) .none kV25 dc25 pm25 an25 cd25 ct25), sl25⟩)
    (c25 : PySem.W.codeIn K cd25 (PySem.Str.ofString "_law_way") = true)
    (k25 : PySem.W.keepIn K (.ref q25) = true)
    (a26 : PySem.W.nsIn K mainGlobals (PySem.Str.ofString "_law_cross") = some (some (.ref q26)))
    (l26 : K.lookup q26 = some ⟨oc26, od26, .func (PySem.W.fnOf (PySem.Str.ofString "_law_cross") (PySem.Str.ofString "_law_cross") (defArgs st__law_cross) (defBody st__law_cross) (defScope st__law_cross) .none kV26 dc26 pm26 an26 cd26 ct26), sl26⟩)
    (c26 : PySem.W.codeIn K cd26 (PySem.Str.ofString "_law_cross") = true)
    (k26 : PySem.W.keepIn K (.ref q26) = true)
    (a27 : PySem.W.nsIn K mainGlobals (PySem.Str.ofString "_law_rounds_once") = some (some (.ref q27)))
    (l27 : K.lookup q27 = some ⟨oc27, od27, .func (PySem.W.fnOf (PySem.Str.ofString "_law_rounds_once") (PySem.Str.ofString "_law_rounds_once") (defArgs st__law_rounds_once) (defBody st__law_rounds_once) (defScope st__law_rounds_once) .none kV27 dc27 pm27 an27 cd27 ct27), sl27⟩)
    (c27 : PySem.W.codeIn K cd27 (PySem.Str.ofString "_law_rounds_once") = true)
    (k27 : PySem.W.keepIn K (.ref q27) = true)
    (a28 : PySem.W.nsIn K mainGlobals (PySem.Str.ofString "_law_goes_round") = some (some (.ref q28)))
    (l28 : K.lookup q28 = some ⟨oc28, od28, .func (PySem.W.fnOf (PySem.Str.ofString "_law_goes_round") (PySem.Str.ofString "_law_goes_round") (defArgs st__law_goes_round) (defBody st__law_goes_round) (defScope st__law_goes_round) .none kV28 dc28 pm28 an28 cd28 ct28), sl28⟩)
    (c28 : PySem.W.codeIn K cd28 (PySem.Str.ofString "_law_goes_round") = true)
    (k28 : PySem.W.keepIn K (.ref q28) = true)
    (a29 : PySem.W.nsIn K mainGlobals (PySem.Str.ofString "_law_is_int") = some (some (.ref q29)))
    (l29 : K.lookup q29 = some ⟨oc29, od29, .func (PySem.W.fnOf (PySem.Str.ofString "_law_is_int") (PySem.Str.ofString "_law_is_int") (defArgs st__law_is_int) (defBody st__law_is_int) (defScope st__law_is_int) .none kV29 dc29 pm29 an29 cd29 ct29), sl29⟩)
    (c29 : PySem.W.codeIn K cd29 (PySem.Str.ofString "_law_is_int") = true)
    (k29 : PySem.W.keepIn K (.ref q29) = true)
    (a30 : PySem.W.nsIn K mainGlobals (PySem.Str.ofString "_law_is_fraction") = some (some (.ref q30)))
    (l30 : K.lookup q30 = some ⟨oc30, od30, .func (PySem.W.fnOf (PySem.Str.ofString "_law_is_fraction") (PySem.Str.ofString "_law_is_fraction") (defArgs st__law_is_fraction) (defBody st__law_is_fraction) (defScope st__law_is_fraction) .none kV30 dc30 pm30 an30 cd30 ct30), sl30⟩)
    (c30 : PySem.W.codeIn K cd30 (PySem.Str.ofString "_law_is_fraction") = true)
    (k30 : PySem.W.keepIn K (.ref q30) = true)
    (a31 : PySem.W.nsIn K mainGlobals (PySem.Str.ofString "_law_is_point") = some (some (.ref q31)))
    (l31 : K.lookup q31 = some ⟨oc31, od31, .func (PySem.W.fnOf (PySem.Str.ofString "_law_is_point") (PySem.Str.ofString "_law_is_point") (defArgs st__law_is_point) (defBody st__law_is_point) (defScope st__law_is_point) .none kV31 dc31 pm31 an31 cd31 ct31), sl31⟩)
    (c31 : PySem.W.codeIn K cd31 (PySem.Str.ofString "_law_is_point") = true)
    (k31 : PySem.W.keepIn K (.ref q31) = true)
    (a32 : PySem.W.nsIn K mainGlobals (PySem.Str.ofString "_law_is_frame") = some (some (.ref q32)))
    (l32 : K.lookup q32 = some ⟨oc32, od32, .func (PySem.W.fnOf (PySem.Str.ofString "_law_is_frame") (PySem.Str.ofString "_law_is_frame") (defArgs st__law_is_frame) (defBody st__law_is_frame) (defScope st__law_is_frame) .none kV32 dc32 pm32 an32 cd32 ct32), sl32⟩)
    (c32 : PySem.W.codeIn K cd32 (PySem.Str.ofString "_law_is_frame") = true)
    (k32 : PySem.W.keepIn K (.ref q32) = true)
    (a33 : PySem.W.nsIn K mainGlobals (PySem.Str.ofString "_law_middle") = some (some (.ref q33)))
    (l33 : K.lookup q33 = some ⟨oc33, od33, .func (PySem.W.fnOf (PySem.Str.ofString "_law_middle") (PySem.Str.ofString "_law_middle") (defArgs st__law_middle) (defBody st__law_middle) (defScope st__law_middle) .none kV33 dc33 pm33 an33 cd33 ct33), sl33⟩)
    (c33 : PySem.W.codeIn K cd33 (PySem.Str.ofString "_law_middle") = true)
    (k33 : PySem.W.keepIn K (.ref q33) = true)
    (a34 : PySem.W.nsIn K mainGlobals (PySem.Str.ofString "_law_long") = some (some (.ref q34)))
    (l34 : K.lookup q34 = some ⟨oc34, od34, .func (PySem.W.fnOf (PySem.Str.ofString "_law_long") (PySem.Str.ofString "_law_long") (defArgs st__law_long) (defBody st__law_long) (defScope st__law_long) .none kV34 dc34 pm34 an34 cd34 ct34), sl34⟩)
    (c34 : PySem.W.codeIn K cd34 (PySem.Str.ofString "_law_long") = true)
    (k34 : PySem.W.keepIn K (.ref q34) = true)
    (a35 : PySem.W.nsIn K mainGlobals (PySem.Str.ofString "_law_bad_fraction") = some (some (.ref q35)))
    (l35 : K.lookup q35 = some ⟨oc35, od35, .func (PySem.W.fnOf (PySem.Str.ofString "_law_bad_fraction") (PySem.Str.ofString "_law_bad_fraction") (defArgs st__law_bad_fraction) (defBody st__law_bad_fraction) (defScope st__law_bad_fraction) .none kV35 dc35 pm35 an35 cd35 ct35), sl35⟩)
    (c35 : PySem.W.codeIn K cd35 (PySem.Str.ofString "_law_bad_fraction") = true)
    (k35 : PySem.W.keepIn K (.ref q35) = true)
    (a36 : PySem.W.nsIn K mainGlobals (PySem.Str.ofString "_law_spoilt") = some (some (.ref q36)))
    (l36 : K.lookup q36 = some ⟨oc36, od36, .func (PySem.W.fnOf (PySem.Str.ofString "_law_spoilt") (PySem.Str.ofString "_law_spoilt") (defArgs st__law_spoilt) (defBody st__law_spoilt) (defScope st__law_spoilt) .none kV36 dc36 pm36 an36 cd36 ct36), sl36⟩)
    (c36 : PySem.W.codeIn K cd36 (PySem.Str.ofString "_law_spoilt") = true)
    (k36 : PySem.W.keepIn K (.ref q36) = true)
    (a37 : PySem.W.nsIn K mainGlobals (PySem.Str.ofString "_law_refused") = some (some (.ref q37)))
    (l37 : K.lookup q37 = some ⟨oc37, od37, .func (PySem.W.fnOf (PySem.Str.ofString "_law_refused") (PySem.Str.ofString "_law_refused") (defArgs st__law_refused) (defBody st__law_refused) (defScope st__law_refused) .none kV37 dc37 pm37 an37 cd37 ct37), sl37⟩)
    (c37 : PySem.W.codeIn K cd37 (PySem.Str.ofString "_law_refused") = true)
    (k37 : PySem.W.keepIn K (.ref q37) = true)
    (a38 : PySem.W.nsIn K mainGlobals (PySem.Str.ofString "_law_plain_right") = some (some (.ref q38)))
    (l38 : K.lookup q38 = some ⟨oc38, od38, .func (PySem.W.fnOf (PySem.Str.ofString "_law_plain_right") (PySem.Str.ofString "_law_plain_right") (defArgs st__law_plain_right) (defBody st__law_plain_right) (defScope st__law_plain_right) .none kV38 dc38 pm38 an38 cd38 ct38), sl38⟩)
    (c38 : PySem.W.codeIn K cd38 (PySem.Str.ofString "_law_plain_right") = true)
    (k38 : PySem.W.keepIn K (.ref q38) = true)
    (a39 : PySem.W.nsIn K mainGlobals (PySem.Str.ofString "_law_thing") = some (some (.ref q39)))
    (l39 : K.lookup q39 = some ⟨oc39, od39, .func (PySem.W.fnOf (PySem.Str.ofString "_law_thing") (PySem.Str.ofString "_law_thing") (defArgs st__law_thing) (defBody st__law_thing) (defScope st__law_thing) .none kV39 dc39 pm39 an39 cd39 ct39), sl39⟩)
    (c39 : PySem.W.codeIn K cd39 (PySem.Str.ofString "_law_thing") = true)
    (k39 : PySem.W.keepIn K (.ref q39) = true)
    (a40 : PySem.W.nsIn K mainGlobals (PySem.Str.ofString "law") = some (some (.ref q40)))
    (l40 : K.lookup q40 = some ⟨oc40, od40, .func (PySem.W.fnOf (PySem.Str.ofString "law") (PySem.Str.ofString "law") (defArgs st_law) (defBody st_law) (defScope st_law) .none kV40 dc40 pm40 an40 cd40 ct40), sl40⟩)
    (c40 : PySem.W.codeIn K cd40 (PySem.Str.ofString "law") = true)
    (k40 : PySem.W.keepIn K (.ref q40) = true)
    (z0 : PySem.W.nsIn K mainGlobals (PySem.Str.ofString "abs") = some none)
    (z1 : PySem.W.nsIn K mainGlobals (PySem.Str.ofString "all") = some none)
    (z2 : PySem.W.nsIn K mainGlobals (PySem.Str.ofString "any") = some none)
    (z3 : PySem.W.nsIn K mainGlobals (PySem.Str.ofString "bool") = some none)
    (z4 : PySem.W.nsIn K mainGlobals (PySem.Str.ofString "enumerate") = some none)
    (z5 : PySem.W.nsIn K mainGlobals (PySem.Str.ofString "int") = some none)
    (z6 : PySem.W.nsIn K mainGlobals (PySem.Str.ofString "isinstance") = some none)
    (z7 : PySem.W.nsIn K mainGlobals (PySem.Str.ofString "len") = some none)
    (z8 : PySem.W.nsIn K mainGlobals (PySem.Str.ofString "list") = some none)
    (z9 : PySem.W.nsIn K mainGlobals (PySem.Str.ofString "range") = some none)
    (z10 : PySem.W.nsIn K mainGlobals (PySem.Str.ofString "str") = some none)
    (z11 : PySem.W.nsIn K mainGlobals (PySem.Str.ofString "tuple") = some none)
    (z12 : PySem.W.nsIn K mainGlobals (PySem.Str.ofString "zip") = some none)
    (gc : PySem.W.nsIn K mainGlobals (PySem.Str.ofString "gcd") = some (some (.builtin "math.gcd")))
    (ga0 : PySem.W.nsIn K mainGlobals (PySem.Str.ofString "NOUGHT") = some (some (.ref gf0)))
    (gl0 : K.lookup gf0 = some ⟨.type "tuple", go0, .seq gi0 gn0, gs0⟩)
    (ge0 : PV.intsV gi0.toList = some [(0), (1)])
    (gh0 : gi0.size ≤ sizeLine)
    (ga1 : PySem.W.nsIn K mainGlobals (PySem.Str.ofString "LEAST_SIDES") = some (some (.int (3) gt1)))
    (ga2 : PySem.W.nsIn K mainGlobals (PySem.Str.ofString "MOST_SIDES") = some (some (.int (8) gt2)))
    (ca0 : PySem.W.nsIn K mainGlobals (PySem.Str.ofString "StrokeError") = some (some (.ref C0)))
    (cb0 : PySem.W.subIn K (.ref C0) (.type "BaseException") = some true)
    (cd_0 : PySem.W.hasDictIn K C0 = true)
    (cy0 : PySem.W.typeIn K (.ref C0) = some (.type "type"))
    (ca1 : PySem.W.nsIn K mainGlobals (PySem.Str.ofString "NoSides") = some (some (.ref C1)))
    (cb1 : PySem.W.subIn K (.ref C1) (.type "BaseException") = some true)
    (cd_1 : PySem.W.hasDictIn K C1 = true)
    (cy1 : PySem.W.typeIn K (.ref C1) = some (.type "type"))
    (ca2 : PySem.W.nsIn K mainGlobals (PySem.Str.ofString "NoFrame") = some (some (.ref C2)))
    (cb2 : PySem.W.subIn K (.ref C2) (.type "BaseException") = some true)
    (cd_2 : PySem.W.hasDictIn K C2 = true)
    (cy2 : PySem.W.typeIn K (.ref C2) = some (.type "type"))
    (ca3 : PySem.W.nsIn K mainGlobals (PySem.Str.ofString "NoWeights") = some (some (.ref C3)))
    (cb3 : PySem.W.subIn K (.ref C3) (.type "BaseException") = some true)
    (cd_3 : PySem.W.hasDictIn K C3 = true)
    (cy3 : PySem.W.typeIn K (.ref C3) = some (.type "type"))
    (ca4 : PySem.W.nsIn K mainGlobals (PySem.Str.ofString "ValueError") = some none)
    (cb4 : PySem.W.subIn K (.type "ValueError") (.type "BaseException") = some true)
    (s1_0 : PySem.W.subIn K (.ref C1) (.ref C0) = some true)
    (s1_1 : PySem.W.subIn K (.ref C1) (.ref C1) = some true)
    (s1_2 : PySem.W.subIn K (.ref C1) (.ref C2) = some false)
    (n1_2 : C1 ≠ C2)
    (s1_3 : PySem.W.subIn K (.ref C1) (.ref C3) = some false)
    (n1_3 : C1 ≠ C3)
    (s1_4 : PySem.W.subIn K (.ref C1) (.type "ValueError") = some true)
    (hg1 : PySem.W.findIn K (.ref C1) (PySem.Str.ofString "__getattribute__") = some (some (.builtin "BaseException.__getattribute__")))
    (hk1 : PySem.W.findIn K (.ref C1) (PySem.Str.ofString "__getattr__") = some none)
    (ha1 : PySem.W.findIn K (.ref C1) (PySem.Str.ofString "__class__") = some (some (.builtin "object.__class__")))
    (hm1 : PySem.W.mroIn K C1 (.type "object") = some true)
    (xi1 : PySem.W.excIn K C1 [.type "ValueError", .type "Exception", .type "BaseException", .type "object"] "ValueError.__new__" = true)
    (kp1 : PySem.W.keepIn K (.ref C1) = true)
    (hn : PySem.W.specialIn K (.builtin "object.__class__") (PySem.Str.ofString "__get__") = some (some (.builtin "getset_descriptor.__get__")))
    (ht : PySem.W.takesIn K (.builtin "object.__class__") = some true)
    : ∃ fd : FuncData, (∀ (s : Shared) (u : Value), BindsTo s fd ⟨[u], []⟩ [(PySem.Str.ofString "_law_script", u)]) ∧ ∀ base : Heap, K.In base → base.Ns mainGlobals mg → FnOk P w K mg base (L2.CX P w) 40 fa fd [PySem.Str.ofString "_law_script"] (PV.spLaw K 63) := by
  have F0 : PV.FnT K mg d_is_integer := PV.fn_top (d := d_is_integer) X G (PySem.Str.ofString "is_integer") rfl st_is_integer rfl (fun _ _ _ _ _ _ us hl => match us, hl with | [_], _ => rfl) a0 l0 c0 k0
  have F1 : PV.FnT K mg d_is_between := PV.fn_top (d := d_is_between) X G (PySem.Str.ofString "is_between") rfl st_is_between rfl (fun _ _ _ _ _ _ us hl => match us, hl with | [_, _, _], _ => rfl) a1 l1 c1 k1
  have F2 : PV.FnT K mg d_is_tuple_of := PV.fn_top (d := d_is_tuple_of) X G (PySem.Str.ofString "is_tuple_of") rfl st_is_tuple_of rfl (fun _ _ _ _ _ _ us hl => match us, hl with | [_, _], _ => rfl) a2 l2 c2 k2
  have F3 : PV.FnT K mg d_is_fraction := PV.fn_top (d := d_is_fraction) X G (PySem.Str.ofString "is_fraction") rfl st_is_fraction rfl (fun _ _ _ _ _ _ us hl => match us, hl with | [_], _ => rfl) a3 l3 c3 k3
  have F4 : PV.FnT K mg d_fraction := PV.fn_top (d := d_fraction) X G (PySem.Str.ofString "fraction") rfl st_fraction rfl (fun _ _ _ _ _ _ us hl => match us, hl with | [_, _], _ => rfl) a4 l4 c4 k4
  have F5 : PV.FnT K mg d_is_less := PV.fn_top (d := d_is_less) X G (PySem.Str.ofString "is_less") rfl st_is_less rfl (fun _ _ _ _ _ _ us hl => match us, hl with | [_, _], _ => rfl) a5 l5 c5 k5
  have F6 : PV.FnT K mg d_minus := PV.fn_top (d := d_minus) X G (PySem.Str.ofString "minus") rfl st_minus rfl (fun _ _ _ _ _ _ us hl => match us, hl with | [_, _], _ => rfl) a6 l6 c6 k6
  have F7 : PV.FnT K mg d_times := PV.fn_top (d := d_times) X G (PySem.Str.ofString "times") rfl st_times rfl (fun _ _ _ _ _ _ us hl => match us, hl with | [_, _], _ => rfl) a7 l7 c7 k7
  have F8 : PV.FnT K mg d_is_point := PV.fn_top (d := d_is_point) X G (PySem.Str.ofString "is_point") rfl st_is_point rfl (fun _ _ _ _ _ _ us hl => match us, hl with | [_], _ => rfl) a8 l8 c8 k8
  have F9 : PV.FnT K mg d_sign_of := PV.fn_top (d := d_sign_of) X G (PySem.Str.ofString "sign_of") rfl st_sign_of rfl (fun _ _ _ _ _ _ us hl => match us, hl with | [_], _ => rfl) a9 l9 c9 k9
  have F10 : PV.FnT K mg d_way := PV.fn_top (d := d_way) X G (PySem.Str.ofString "way") rfl st_way rfl (fun _ _ _ _ _ _ us hl => match us, hl with | [_, _], _ => rfl) a10 l10 c10 k10
  have F11 : PV.FnT K mg d_turn_of := PV.fn_top (d := d_turn_of) X G (PySem.Str.ofString "turn_of") rfl st_turn_of rfl (fun _ _ _ _ _ _ us hl => match us, hl with | [_, _], _ => rfl) a11 l11 c11 k11
  have F12 : PV.FnT K mg d_is_upper := PV.fn_top (d := d_is_upper) X G (PySem.Str.ofString "is_upper") rfl st_is_upper rfl (fun _ _ _ _ _ _ us hl => match us, hl with | [_], _ => rfl) a12 l12 c12 k12
  have F13 : PV.FnT K mg d_turns_once := PV.fn_top (d := d_turns_once) X G (PySem.Str.ofString "turns_once") rfl st_turns_once rfl (fun _ _ _ _ _ _ us hl => match us, hl with | [_], _ => rfl) a13 l13 c13 k13
  have F14 : PV.FnT K mg d_goes_round := PV.fn_top (d := d_goes_round) X G (PySem.Str.ofString "goes_round") rfl st_goes_round rfl (fun _ _ _ _ _ _ us hl => match us, hl with | [_], _ => rfl) a14 l14 c14 k14
  have F15 : PV.FnT K mg d_is_frame := PV.fn_top (d := d_is_frame) X G (PySem.Str.ofString "is_frame") rfl st_is_frame rfl (fun _ _ _ _ _ _ us hl => match us, hl with | [_, _], _ => rfl) a15 l15 c15 k15
  have F16 : PV.FnT K mg d_plain_frame := PV.fn_top (d := d_plain_frame) X G (PySem.Str.ofString "plain_frame") rfl st_plain_frame rfl (fun _ _ _ _ _ _ us hl => match us, hl with | [_], _ => rfl) a16 l16 c16 k16
  have F17 : PV.FnT K mg d__law_hat := PV.fn_top (d := d__law_hat) X G (PySem.Str.ofString "_law_hat") rfl st__law_hat rfl (fun _ _ _ _ _ _ us hl => match us, hl with | [_, _], _ => rfl) a17 l17 c17 k17
  have F18 : PV.FnT K mg d__law_draw := PV.fn_top (d := d__law_draw) X G (PySem.Str.ofString "_law_draw") rfl st__law_draw rfl (fun _ _ _ _ _ _ us hl => match us, hl with | [_, _], _ => rfl) a18 l18 c18 k18
  have F19 : PV.FnT K mg d__law_same := PV.fn_top (d := d__law_same) X G (PySem.Str.ofString "_law_same") rfl st__law_same rfl (fun _ _ _ _ _ _ us hl => match us, hl with | [_, _], _ => rfl) a19 l19 c19 k19
  have F20 : PV.FnT K mg d__law_any := PV.fn_top (d := d__law_any) X G (PySem.Str.ofString "_law_any") rfl st__law_any rfl (fun _ _ _ _ _ _ us hl => match us, hl with | [_, _], _ => rfl) a20 l20 c20 k20
  have F21 : PV.FnT K mg d__law_gcd := PV.fn_top (d := d__law_gcd) X G (PySem.Str.ofString "_law_gcd") rfl st__law_gcd rfl (fun _ _ _ _ _ _ us hl => match us, hl with | [_, _], _ => rfl) a21 l21 c21 k21
  have F22 : PV.FnT K mg d__law_fraction := PV.fn_top (d := d__law_fraction) X G (PySem.Str.ofString "_law_fraction") rfl st__law_fraction rfl (fun _ _ _ _ _ _ us hl => match us, hl with | [_, _], _ => rfl) a22 l22 c22 k22
  have F23 : PV.FnT K mg d__law_frame := PV.fn_top (d := d__law_frame) X G (PySem.Str.ofString "_law_frame") rfl st__law_frame rfl (fun _ _ _ _ _ _ us hl => match us, hl with | [_, _], _ => rfl) a23 l23 c23 k23
  have F24 : PV.FnT K mg d__law_whole := PV.fn_top (d := d__law_whole) X G (PySem.Str.ofString "_law_whole") rfl st__law_whole rfl (fun _ _ _ _ _ _ us hl => match us, hl with | [_], _ => rfl) a24 l24 c24 k24
  have F25 : PV.FnT K mg d__law_way := PV.fn_top (d := d__law_way) X G (PySem.Str.ofString "_law_way") rfl st__law_way rfl (fun _ _ _ _ _ _ us hl => match us, hl with | [_, _, _], _ => rfl) a25 l25 c25 k25
  have F26 : PV.FnT K mg d__law_cross := PV.fn_top (d := d__law_cross) X G (PySem.Str.ofString "_law_cross") rfl st__law_cross rfl (fun _ _ _ _ _ _ us hl => match us, hl with | [_, _], _ => rfl) a26 l26 c26 k26
  have F27 : PV.FnT K mg d__law_rounds_once := PV.fn_top (d := d__law_rounds_once) X G (PySem.Str.ofString "_law_rounds_once") rfl st__law_rounds_once rfl (fun _ _ _ _ _ _ us hl => match us, hl with | [_], _ => rfl) a27 l27 c27 k27
  have F28 : PV.FnT K mg d__law_goes_round := PV.fn_top (d := d__law_goes_round) X G (PySem.Str.ofString "_law_goes_round") rfl st__law_goes_round rfl (fun _ _ _ _ _ _ us hl => match us, hl with | [_], _ => rfl) a28 l28 c28 k28
  have F29 : PV.FnT K mg d__law_is_int := PV.fn_top (d := d__law_is_int) X G (PySem.Str.ofString "_law_is_int") rfl st__law_is_int rfl (fun _ _ _ _ _ _ us hl => match us, hl with | [_], _ => rfl) a29 l29 c29 k29
  have F30 : PV.FnT K mg d__law_is_fraction := PV.fn_top (d := d__law_is_fraction) X G (PySem.Str.ofString "_law_is_fraction") rfl st__law_is_fraction rfl (fun _ _ _ _ _ _ us hl => match us, hl with | [_], _ => rfl) a30 l30 c30 k30
  have F31 : PV.FnT K mg d__law_is_point := PV.fn_top (d := d__law_is_point) X G (PySem.Str.ofString "_law_is_point") rfl st__law_is_point rfl (fun _ _ _ _ _ _ us hl => match us, hl with | [_], _ => rfl) a31 l31 c31 k31
  have F32 : PV.FnT K mg d__law_is_frame := PV.fn_top (d := d__law_is_frame) X G (PySem.Str.ofString "_law_is_frame") rfl st__law_is_frame rfl (fun _ _ _ _ _ _ us hl => match us, hl with | [_, _], _ => rfl) a32 l32 c32 k32
  have F33 : PV.FnT K mg d__law_middle := PV.fn_top (d := d__law_middle) X G (PySem.Str.ofString "_law_middle") rfl st__law_middle rfl (fun _ _ _ _ _ _ us hl => match us, hl with | [_, _], _ => rfl) a33 l33 c33 k33
  have F34 : PV.FnT K mg d__law_long := PV.fn_top (d := d__law_long) X G (PySem.Str.ofString "_law_long") rfl st__law_long rfl (fun _ _ _ _ _ _ us hl => match us, hl with | [_, _], _ => rfl) a34 l34 c34 k34
  have F35 : PV.FnT K mg d__law_bad_fraction := PV.fn_top (d := d__law_bad_fraction) X G (PySem.Str.ofString "_law_bad_fraction") rfl st__law_bad_fraction rfl (fun _ _ _ _ _ _ us hl => match us, hl with | [_, _], _ => rfl) a35 l35 c35 k35
  have F36 : PV.FnT K mg d__law_spoilt := PV.fn_top (d := d__law_spoilt) X G (PySem.Str.ofString "_law_spoilt") rfl st__law_spoilt rfl (fun _ _ _ _ _ _ us hl => match us, hl with | [_, _], _ => rfl) a36 l36 c36 k36
  have F37 : PV.FnT K mg d__law_refused := PV.fn_top (d := d__law_refused) X G (PySem.Str.ofString "_law_refused") rfl st__law_refused rfl (fun _ _ _ _ _ _ us hl => match us, hl with | [_], _ => rfl) a37 l37 c37 k37
  have F38 : PV.FnT K mg d__law_plain_right := PV.fn_top (d := d__law_plain_right) X G (PySem.Str.ofString "_law_plain_right") rfl st__law_plain_right rfl (fun _ _ _ _ _ _ us hl => match us, hl with | [_], _ => rfl) a38 l38 c38 k38
  have F39 : PV.FnT K mg d__law_thing := PV.fn_top (d := d__law_thing) X G (PySem.Str.ofString "_law_thing") rfl st__law_thing rfl (fun _ _ _ _ _ _ us hl => match us, hl with | [_], _ => rfl) a39 l39 c39 k39
  have F40 : PV.FnT K mg d_law := PV.fn_top (d := d_law) X G (PySem.Str.ofString "law") rfl st_law rfl (fun _ _ _ _ _ _ us hl => match us, hl with | [_], _ => rfl) a40 l40 c40 k40
  have hx : PV.ExT cfg (PV.caOf [(1, C1)]) K mg := PV.ext_mk (l := [(1, C1)]) (PV.all1 (PV.cls_own (x := PySem.Str.ofString "StrokeError") X G (by decide +kernel) ca0 cb0 cd_0 cy0 (PV.all1 ⟨s1_0, fun _ => rfl⟩ (PV.all0))) (PV.all1 (PV.cls_own (x := PySem.Str.ofString "NoSides") X G (by decide +kernel) ca1 cb1 cd_1 cy1 (PV.all1 ⟨s1_1, fun _ => rfl⟩ (PV.all0))) (PV.all1 (PV.cls_own (x := PySem.Str.ofString "NoFrame") X G (by decide +kernel) ca2 cb2 cd_2 cy2 (PV.all1 ⟨s1_2, fun z => absurd z n1_2⟩ (PV.all0))) (PV.all1 (PV.cls_own (x := PySem.Str.ofString "NoWeights") X G (by decide +kernel) ca3 cb3 cd_3 cy3 (PV.all1 ⟨s1_3, fun z => absurd z n1_3⟩ (PV.all0))) (PV.all1 (PV.cls_type (x := PySem.Str.ofString "ValueError") X G (by decide +kernel) (by decide +kernel) (by decide +kernel) ca4 (by decide +kernel) cb4 (PV.all1 s1_4 (PV.all0))) (PV.all0)))))) (PV.all1 (⟨_, rfl, ⟨⟨hg1, hk1, cb1, cd_1, ha1, hn, ht, hm1⟩, PySem.W.mg_of X G ca1, xi1, kp1, cb1, cy1⟩⟩) (PV.all0)) (fun j hj => by revert j; exact PV.all_rz rfl)
  have T : PV.Tops cfg fds (PV.caOf [(1, C1)]) K mg := PV.tops_mk (l := [(1, C1)]) (PV.bl_top X G (PV.all1 (z0) (PV.all1 (z1) (PV.all1 (z2) (PV.all1 (z3) (PV.all1 (z4) (PV.all1 (z5) (PV.all1 (z6) (PV.all1 (z7) (PV.all1 (z8) (PV.all1 (z9) (PV.all1 (z10) (PV.all1 (z11) (PV.all1 (z12) (PV.all0))))))))))))))) (fun _ => PySem.W.mg_of X G gc) (PV.all1 (PV.gl_ints [(0), (1)] X G ga0 gl0 ge0 gh0) (PV.all1 (PV.gl_int X G ga1) (PV.all1 (PV.gl_int X G ga2) (PV.all0)))) (PV.all1 (F0) (PV.all1 (F1) (PV.all1 (F2) (PV.all1 (F3) (PV.all1 (F4) (PV.all1 (F5) (PV.all1 (F6) (PV.all1 (F7) (PV.all1 (F8) (PV.all1 (F9) (PV.all1 (F10) (PV.all1 (F11) (PV.all1 (F12) (PV.all1 (F13) (PV.all1 (F14) (PV.all1 (F15) (PV.all1 (F16) (PV.all1 (F17) (PV.all1 (F18) (PV.all1 (F19) (PV.all1 (F20) (PV.all1 (F21) (PV.all1 (F22) (PV.all1 (F23) (PV.all1 (F24) (PV.all1 (F25) (PV.all1 (F26) (PV.all1 (F27) (PV.all1 (F28) (PV.all1 (F29) (PV.all1 (F30) (PV.all1 (F31) (PV.all1 (F32) (PV.all1 (F33) (PV.all1 (F34) (PV.all1 (F35) (PV.all1 (F36) (PV.all1 (F37) (PV.all1 (F38) (PV.all1 (F39) (PV.all1 (F40) (PV.all0)))))))))))))))))))))))))))))))))))))))))) rfl hx
  exact PV.end_mk (k := 39) (li := 40) (d := d_law) T chk rfl (PySem.Str.ofString "law") rfl hfa rfl st_law rfl (fun _ _ _ _ _ _ _ => rfl) law_true
end LW
open PySem PySem.W PyProof.Rows
set_option maxHeartbeats 0 in
theorem PySem.Challenge.cw_threeexits_k18_frames_judged_holds : PySem.Challenge.rw_threeexits_k18_frames_judged.Holds := by
  w_on; o_law; k_head; (case hw => w_witness2)
  k_fill
  refine L2.walk_of (l := PySem.Challenge.rw_threeexits_k18_frames_judged) (n := 63) (k := 40) (x := PySem.Str.ofString "_law_script") (CX := fun w => L2.CX PySem.Challenge.pw_threeexits_k18_frames_judged w) (sp := fun w => PV.spLaw _ 63) rfl (by decide) rfl ⟨rfl, by decide, by decide⟩ (fun w h Y => PySem.W.kIn_of Y) ?F (fun _ _ a ns hl _ hS => ⟨a, ns, rfl, hl, hS, fun _ => rfl⟩) (fun w H s e s2 h => PV.law_cx H s e s2 h)
  case F =>
    intro w mg fa h KX G hmg
    refine' LW.all_mk KX G hmg ?a0 ?l0 ?c0 ?k0 ?a1 ?l1 ?c1 ?k1 ?a2 ?l2 ?c2 ?k2 ?a3 ?l3 ?c3 ?k3 ?a4 ?l4 ?c4 ?k4 ?a5 ?l5 ?c5 ?k5 ?a6 ?l6 ?c6 ?k6 ?a7 ?l7 ?c7 ?k7 ?a8 ?l8 ?c8 ?k8 ?a9 ?l9 ?c9 ?k9 ?a10 ?l10 ?c10 ?k10 ?a11 ?l11 ?c11 ?k11 ?a12 ?l12 ?c12 ?k12 ?a13 ?l13 ?c13 ?k13 ?a14 ?l14 ?c14 ?k14 ?a15 ?l15 ?c15 ?k15 ?a16 ?l16 ?c16 ?k16 ?a17 ?l17 ?c17 ?k17 ?a18 ?l18 ?c18 ?k18 ?a19 ?l19 ?c19 ?k19 ?a20 ?l20 ?c20 ?k20 ?a21 ?l21 ?c21 ?k21 ?a22 ?l22 ?c22 ?k22 ?a23 ?l23 ?c23 ?k23 ?a24 ?l24 ?c24 ?k24 ?a25 ?l25 ?c25 ?k25 ?a26 ?l26 ?c26 ?k26 ?a27 ?l27 ?c27 ?k27 ?a28 ?l28 ?c28 ?k28 ?a29 ?l29 ?c29 ?k29 ?a30 ?l30 ?c30 ?k30 ?a31 ?l31 ?c31 ?k31 ?a32 ?l32 ?c32 ?k32 ?a33 ?l33 ?c33 ?k33 ?a34 ?l34 ?c34 ?k34 ?a35 ?l35 ?c35 ?k35 ?a36 ?l36 ?c36 ?k36 ?a37 ?l37 ?c37 ?k37 ?a38 ?l38 ?c38 ?k38 ?a39 ?l39 ?c39 ?k39 ?a40 ?l40 ?c40 ?k40 ?z0 ?z1 ?z2 ?z3 ?z4 ?z5 ?z6 ?z7 ?z8 ?z9 ?z10 ?z11 ?z12 ?gc ?ga0 ?gl0 ?ge0 ?gh0 ?ga1 ?ga2 ?ca0 ?cb0 ?cd_0 ?cy0 ?ca1 ?cb1 ?cd_1 ?cy1 ?ca2 ?cb2 ?cd_2 ?cy2 ?ca3 ?cb3 ?cd_3 ?cy3 ?ca4 ?cb4 ?s1_0 ?s1_1 ?s1_2 ?n1_2 ?s1_3 ?n1_3 ?s1_4 ?hg1 ?hk1 ?ha1 ?hm1 ?xi1 ?kp1 ?hn ?ht
    (case a0 => k_is)
    (case l0 => k_is)
    (case c0 => k_is)
    (case k0 => k_is)
    (case a1 => k_is)
    (case l1 => k_is)
    (case c1 => k_is)
    (case k1 => k_is)
    (case a2 => k_is)
    (case l2 => k_is)
    (case c2 => k_is)
    (case k2 => k_is)
    (case a3 => k_is)
    (case l3 => k_is)
    (case c3 => k_is)
    (case k3 => k_is)
    (case a4 => k_is)
    (case l4 => k_is)
    (case c4 => k_is)
    (case k4 => k_is)
    (case a5 => k_is)
    (case l5 => k_is)
    (case c5 => k_is)
    (case k5 => k_is)
    (case a6 => k_is)
    (case l6 => k_is)
    (case c6 => k_is)
    (case k6 => k_is)
    (case a7 => k_is)
    (case l7 => k_is)
    (case c7 => k_is)
    (case k7 => k_is)
    (case a8 => k_is)
    (case l8 => k_is)
    (case c8 => k_is)
    (case k8 => k_is)
    (case a9 => k_is)
    (case l9 => k_is)
    (case c9 => k_is)
    (case k9 => k_is)
    (case a10 => k_is)
    (case l10 => k_is)
    (case c10 => k_is)
    (case k10 => k_is)
    (case a11 => k_is)
    (case l11 => k_is)
    (case c11 => k_is)
    (case k11 => k_is)
    (case a12 => k_is)
    (case l12 => k_is)
    (case c12 => k_is)
    (case k12 => k_is)
    (case a13 => k_is)
    (case l13 => k_is)
    (case c13 => k_is)
    (case k13 => k_is)
    (case a14 => k_is)
    (case l14 => k_is)
    (case c14 => k_is)
    (case k14 => k_is)
    (case a15 => k_is)
    (case l15 => k_is)
    (case c15 => k_is)
    (case k15 => k_is)
    (case a16 => k_is)
    (case l16 => k_is)
    (case c16 => k_is)
    (case k16 => k_is)
    (case a17 => k_is)
    (case l17 => k_is)
    (case c17 => k_is)
    (case k17 => k_is)
    (case a18 => k_is)
    (case l18 => k_is)
    (case c18 => k_is)
    (case k18 => k_is)
    (case a19 => k_is)
    (case l19 => k_is)
    (case c19 => k_is)
    (case k19 => k_is)
    (case a20 => k_is)
    (case l20 => k_is)
    (case c20 => k_is)
    (case k20 => k_is)
    (case a21 => k_is)
    (case l21 => k_is)
    (case c21 => k_is)
    (case k21 => k_is)
    (case a22 => k_is)
    (case l22 => k_is)
    (case c22 => k_is)
    (case k22 => k_is)
    (case a23 => k_is)
    (case l23 => k_is)
    (case c23 => k_is)
    (case k23 => k_is)
    (case a24 => k_is)
    (case l24 => k_is)
    (case c24 => k_is)
    (case k24 => k_is)
    (case a25 => k_is)
    (case l25 => k_is)
    (case c25 => k_is)
    (case k25 => k_is)
    (case a26 => k_is)
    (case l26 => k_is)
    (case c26 => k_is)
    (case k26 => k_is)
    (case a27 => k_is)
    (case l27 => k_is)
    (case c27 => k_is)
    (case k27 => k_is)
    (case a28 => k_is)
    (case l28 => k_is)
    (case c28 => k_is)
    (case k28 => k_is)
    (case a29 => k_is)
    (case l29 => k_is)
    (case c29 => k_is)
    (case k29 => k_is)
    (case a30 => k_is)
    (case l30 => k_is)
    (case c30 => k_is)
    (case k30 => k_is)
    (case a31 => k_is)
    (case l31 => k_is)
    (case c31 => k_is)
    (case k31 => k_is)
    (case a32 => k_is)
    (case l32 => k_is)
    (case c32 => k_is)
    (case k32 => k_is)
    (case a33 => k_is)
    (case l33 => k_is)
    (case c33 => k_is)
    (case k33 => k_is)
    (case a34 => k_is)
    (case l34 => k_is)
    (case c34 => k_is)
    (case k34 => k_is)
    (case a35 => k_is)
    (case l35 => k_is)
    (case c35 => k_is)
    (case k35 => k_is)
    (case a36 => k_is)
    (case l36 => k_is)
    (case c36 => k_is)
    (case k36 => k_is)
    (case a37 => k_is)
    (case l37 => k_is)
    (case c37 => k_is)
    (case k37 => k_is)
    (case a38 => k_is)
    (case l38 => k_is)
    (case c38 => k_is)
    (case k38 => k_is)
    (case a39 => k_is)
    (case l39 => k_is)
    (case c39 => k_is)
    (case k39 => k_is)
    (case a40 => k_is)
    (case l40 => k_is)
    (case c40 => k_is)
    (case k40 => k_is)
    (case z0 => k_is)
    (case z1 => k_is)
    (case z2 => k_is)
    (case z3 => k_is)
    (case z4 => k_is)
    (case z5 => k_is)
    (case z6 => k_is)
    (case z7 => k_is)
    (case z8 => k_is)
    (case z9 => k_is)
    (case z10 => k_is)
    (case z11 => k_is)
    (case z12 => k_is)
    (case gc => k_is)
    (case ga0 => k_is)
    (case gl0 => k_is)
    (case ge0 => rfl)
    (case gh0 => decide)
    (case ga1 => k_is)
    (case ga2 => k_is)
    (case ca0 => k_is)
    (case cb0 => k_is)
    (case cd_0 => k_is)
    (case cy0 => k_is)
    (case ca1 => k_is)
    (case cb1 => k_is)
    (case cd_1 => k_is)
    (case cy1 => k_is)
    (case ca2 => k_is)
    (case cb2 => k_is)
    (case cd_2 => k_is)
    (case cy2 => k_is)
    (case ca3 => k_is)
    (case cb3 => k_is)
    (case cd_3 => k_is)
    (case cy3 => k_is)
    (case ca4 => k_is)
    (case cb4 => k_is)
    (case s1_0 => first | k_is | rfl)
    (case s1_1 => first | k_is | rfl)
    (case s1_2 => first | k_is | rfl)
    (case n1_2 => decide)
    (case s1_3 => first | k_is | rfl)
    (case n1_3 => decide)
    (case s1_4 => k_is)
    (case hg1 => k_is)
    (case hk1 => k_is)
    (case ha1 => k_is)
    (case hm1 => k_is)
    (case xi1 => k_exc)
    (case kp1 => k_is)
    (case hn => k_is)
    (case ht => k_is)
