import PyProof.Rows.All
import Wide.All
import OpenK.AllK
import Wide.FinOn
import KE.KStateDown
import Lean
import HandS.ForMost
import HandS.ForExc
import HandS.More
import HandS.WordsExc
import HandS.Defaults
import HandS.CallSlots
import HandS.Star
import HandS.IsInst
import HandS.Wide
import HandS.Style
import HandS.TupAny
import HandS.Conv
import HandS.Lambda
import HandS.Flow
import HandS.Walk
import HandS.NoneIn
import HandS.Nested
import HandS.Head0
import HandS.Head1
import HandS.Head2
import HandS.HeadEnd
import HandS.HeadHook1
import HandS.HeadHook2
import HandS.HeadHook3
import HandS.HeadHook4
import HandS.HeadWalk
import PySem.Challenge.RW_costborne_k04_whole_credits_of_kinds_tog
set_option Elab.async false
set_option linter.all false
set_option maxRecDepth 100000
set_option maxHeartbeats 1000000
/-! A small Python of trees: its syntax, its evaluator. -/
namespace MP
open PySem

/-- values: tuples, and lists that nobody changes, are trees; ref: a list that is changed, by its number -/
inductive Val where
  | non | bl (b : Bool) | int (i : Int) | str (x : Str)
  | tup (xs : List Val) | lst (xs : List Val) | scr (xs : List Val) | ref (n : Nat)
  | lam (l : Nat)
instance : Inhabited Val := ⟨.non⟩

/-- a thing that is changed -/
inductive Cell where
  | lst (xs : List Val)
abbrev Mem := List Cell
structure Exn where
  cls : Str
  fs : List (Str × Val)
inductive Out (α : Type) where
  | ok (a : α) (μ : Mem)
  | ex (e : Exn) (μ : Mem)
  | bad
def Out.bind {α β : Type} (r : Out α) (f : α → Mem → Out β) : Out β := match r with
  | .ok a μ => f a μ
  | .ex e μ => .ex e μ
  | .bad => .bad
@[simp] theorem Out.bind_ok {α β : Type} (a : α) (μ : Mem) (f : α → Mem → Out β) : (Out.ok a μ).bind f = f a μ := rfl
@[simp] theorem Out.bind_ex {α β : Type} (e : Exn) (μ : Mem) (f : α → Mem → Out β) : (Out.ex e μ : Out α).bind f = .ex e μ := rfl
@[simp] theorem Out.bind_bad {α β : Type} (f : α → Mem → Out β) : (Out.bad : Out α).bind f = .bad := rfl
abbrev Frame := List (Option Val)
/-- functions of the module and lambdas, by their numbers -/
structure Orc where
  fn : Nat → List Val → Mem → Out Val
  lam : Nat → List Val → Mem → Out Val

inductive Bop where
  | add | sub | mul | fdiv | mod | pow
  deriving DecidableEq
inductive Cop where
  | eq | ne | lt | le | gt | ge | isN | notN | isB | notB | isIn | notIn
  deriving DecidableEq
inductive Blt where
  | len | all | any | sum | abs | max2 | min2 | int1 | tupOf | lstOf
  deriving DecidableEq
/-- built-in classes -/
inductive Ty where
  | int | bool | str | tup | lst | dct
  deriving DecidableEq
/-- targets: a slot; slots -/
inductive Tgt where
  | one (i : Nat)
  | many (is : List Nat)
mutual
inductive X where
  | non | bl (b : Bool) | int (i : Int) | str (x : Str)
  | var (i : Nat)
  | gint (x : Str) (i : Int) | gstr (x : Str) (z : Str)
  | bin (op : Bop) (a b : X) | neg (a : X)
  | cmp (op : Cop) (a b : X) | chain (op op' : Cop) (a b c : X)
  | and (as : Xs) | or (as : Xs) | not (a : X) | ite (c a b : X)
  | call (g : Nat) (as : Xs) | callV (i : Nat) (as : Xs)
  | blt (f : Blt) (as : Xs) | isi (a : X) (t : Ty) | maxD (a b : X)
  | tup (as : Xs) | lst (as : Xs) | mlst (as : Xs)
  | ix (a b : X)
  | comp (elt : X) (tg : Tgt) (it : It)
  | lam (l : Nat)
inductive Xs where
  | nil | cons (x : X) (r : Xs) | star (x : X) (r : Xs)
inductive It where
  | seq (x : X) | rng (x : X)
end

/-! ### operations on values -/
def dat : Val → Option PyData
  | .non => some .none
  | .bl b => some (.bool b)
  | .int i => some (.int i)
  | .str x => some (.str x)
  | .tup xs => (dats xs).map .tuple
  | .lst xs => (dats xs).map .list
  | _ => none
where dats : List Val → Option (List PyData)
  | [] => some []
  | x :: xs => match dat x, dats xs with
    | some d, some ds => some (d :: ds)
    | _, _ => none
def flat : Val → Bool
  | .non | .bl _ | .int _ | .str _ => true
  | _ => false
def truth : Val → Mem → Option Bool
  | .non, _ => some false
  | .bl b, _ => some b
  | .int i, _ => some (i != 0)
  | .str y, _ => if y.length ≤ sizeLine then some ((y.length : Int) != 0) else none
  | .tup xs, _ => some (!xs.isEmpty)
  | .lst xs, _ => some (!xs.isEmpty)
  | _, _ => none
def tst (v : Val) (μ : Mem) : Out Bool := match truth v μ with
  | some b => .ok b μ
  | none => .bad
def toV : Val → L2.V
  | .non => .non
  | .bl b => .bl b
  | .int i => .int i
  | .str x => .str x
  | _ => .non
/-- == of data -/
def eqV : Val → Val → Option Bool
  | .str a, .str b => some (decide (a = b))
  | .int a, .int b => some (decide (a = b))
  | .bl a, .bl b => some (decide (a = b))
  | a, b => match dat a, dat b with
    | some d, some e => if SeqAt.shaped d && SeqAt.shaped e then some (PyData.eqv d e) else none
    | _, _ => none
def ob (b : Option Bool) (μ : Mem) : Out Val := match b with
  | some b => .ok (.bl b) μ
  | none => .bad
def binop : Bop → Val → Val → Mem → Out Val
  | .add, .int i, .int j, μ => .ok (.int (i + j)) μ
  | .add, .str x, .str y, μ => if x.length + y.length ≤ sizeLine then .ok (.str (x ++ y)) μ else .bad
  | .add, .tup xs, .tup ys, μ => if xs.length + ys.length ≤ sizeLine then .ok (.tup (xs ++ ys)) μ else .bad
  | .add, .lst xs, .lst ys, μ => if xs.length + ys.length ≤ sizeLine then .ok (.lst (xs ++ ys)) μ else .bad
  | .sub, .int i, .int j, μ => .ok (.int (i - j)) μ
  | .mul, .int i, .int j, μ => if i.natAbs.log2 + j.natAbs.log2 < 1000000 then .ok (.int (i * j)) μ else .bad
  | .fdiv, .int i, .int j, μ => if 0 < j ∧ j.natAbs.log2 < 9000 then .ok (.int (i / j)) μ else .bad
  | .mod, .int i, .int j, μ => if 0 < j then .ok (.int (i % j)) μ else .bad
  | .pow, .int i, .int j, μ => if 0 ≤ j ∧ (Builtin.Int.intBits i : Int) * j ≤ 2 ^ 27 then .ok (.int (i ^ j.toNat)) μ else .bad
  | _, _, _, _ => .bad
def negV : Val → Mem → Out Val
  | .int i, μ => .ok (.int (-i)) μ
  | _, _ => .bad
def isNon : Val → Option Bool
  | .non => some true
  | .bl _ | .int _ | .str _ | .tup _ | .lst _ => some false
  | _ => none
/-- x in a row of flat things -/
def inV (a : Val) (xs : List Val) : Option Bool := if flat a && xs.all flat then some (xs.any fun y => L2.eqV (toV y) (toV a)) else none
def cmpop : Cop → Val → Val → Mem → Out Val
  | .eq, a, b, μ => ob (eqV a b) μ
  | .ne, a, b, μ => ob ((eqV a b).map (!·)) μ
  | .lt, .int i, .int j, μ => .ok (.bl (decide (i < j))) μ
  | .le, .int i, .int j, μ => .ok (.bl (decide (i ≤ j))) μ
  | .gt, .int i, .int j, μ => .ok (.bl (decide (j < i))) μ
  | .ge, .int i, .int j, μ => .ok (.bl (decide (j ≤ i))) μ
  | .isN, a, .non, μ => ob (isNon a) μ
  | .notN, a, .non, μ => ob ((isNon a).map (!·)) μ
  | .isB, .bl a, .bl b, μ => .ok (.bl (decide (a = b))) μ
  | .notB, .bl a, .bl b, μ => .ok (.bl (!decide (a = b))) μ
  | .isIn, a, .tup xs, μ => ob (inV a xs) μ
  | .isIn, a, .lst xs, μ => ob (inV a xs) μ
  | .notIn, a, .tup xs, μ => ob ((inV a xs).map (!·)) μ
  | .notIn, a, .lst xs, μ => ob ((inV a xs).map (!·)) μ
  | _, _, _, _ => .bad
/-- what isinstance tells -/
def isiV : Ty → Val → Option Bool
  | _, .non => some false
  | t, .bl _ => some (decide (t = .bool) || decide (t = .int))
  | t, .int _ => some (decide (t = .int))
  | t, .str _ => some (decide (t = .str))
  | t, .tup _ => some (decide (t = .tup))
  | t, .lst _ => some (decide (t = .lst))
  | _, _ => none
def intsV : List Val → Option (List Int)
  | [] => some []
  | .int i :: r => (intsV r).map (i :: ·)
  | _ => none
def boolsV : List Val → Option (List Bool)
  | [] => some []
  | .bl b :: r => (boolsV r).map (b :: ·)
  | _ => none
def maxI : Int → List Int → Int
  | m, [] => m
  | m, x :: r => maxI (if x > m then x else m) r
def bltV : Blt → List Val → Mem → Out Val
  | .len, [.str x], μ => if x.length ≤ sizeLine then .ok (.int x.length) μ else .bad
  | .len, [.tup xs], μ => .ok (.int xs.length) μ
  | .len, [.lst xs], μ => .ok (.int xs.length) μ
  | .len, [.scr xs], μ => .ok (.int xs.length) μ
  | .all, [.lst xs], μ => match boolsV xs with
    | some bs => .ok (.bl (bs.all id)) μ
    | none => .bad
  | .any, [.lst xs], μ => match boolsV xs with
    | some bs => .ok (.bl (bs.any id)) μ
    | none => .bad
  | .sum, [.lst xs], μ => match intsV xs with
    | some ns => .ok (.int ns.sum) μ
    | none => .bad
  | .abs, [.int i], μ => .ok (.int (if i < 0 then -i else i)) μ
  | .max2, [.int i, .int j], μ => .ok (.int (if j > i then j else i)) μ
  | .min2, [.int i, .int j], μ => .ok (.int (if j < i then j else i)) μ
  | .int1, [.int i], μ => .ok (.int i) μ
  | .int1, [.bl b], μ => .ok (.int (if b then 1 else 0)) μ
  | .tupOf, [.tup xs], μ => .ok (.tup xs) μ
  | .tupOf, [.lst xs], μ => .ok (.tup xs) μ
  | .lstOf, [.tup xs], μ => .ok (.lst xs) μ
  | .lstOf, [.lst xs], μ => .ok (.lst xs) μ
  | _, _, _ => .bad
/-- max(a, default=d) -/
def maxDV : Val → Val → Mem → Out Val
  | .lst xs, .int d, μ => match intsV xs with
    | some [] => .ok (.int d) μ
    | some (n :: ns) => .ok (.int (maxI n ns)) μ
    | none => .bad
  | _, _, _ => .bad
def itemsOf : Val → Mem → Option (List Val)
  | .tup xs, _ => some xs
  | .lst xs, _ => some xs
  | .scr xs, _ => some xs
  | .ref n, μ => match μ[n]? with
    | some (.lst xs) => some xs
    | none => none
  | _, _ => none
def ixV (a b : Val) (μ : Mem) : Out Val := match itemsOf a μ, b with
  | some xs, .int i => match L2.atI xs i with
    | some x => .ok x μ
    | none => .bad
  | _, _ => .bad
def bindT : Tgt → Val → Frame → Option Frame
  | .one i, v, ρ => if i < ρ.length then some (ρ.set i (some v)) else none
  | .many is, .tup vs, ρ => if vs.length = is.length then setAll is vs ρ else none
  | .many is, .lst vs, ρ => if vs.length = is.length then setAll is vs ρ else none
  | _, _, _ => none
where setAll : List Nat → List Val → Frame → Option Frame
  | [], [], ρ => some ρ
  | i :: is, v :: vs, ρ => if i < ρ.length then setAll is vs (ρ.set i (some v)) else none
  | _, _, _ => none
def Tgt.slots : Tgt → List Nat
  | .one i => [i]
  | .many is => is
def wipeF (ρ : Frame) : List Nat → Frame
  | [] => ρ
  | i :: r => (wipeF ρ r).set i none
def bindEv (tg : Tgt) (ρ : Frame) (f : Frame → Mem → Out Val) (x : Val) (μ : Mem) : Out Val := match bindT tg x ρ with
  | some ρ' => f ρ' μ
  | none => .bad
/-- the turns of a comprehension -/
def compL (f : Val → Mem → Out Val) : List Val → List Val → Mem → Out Val
  | [], acc, μ => .ok (.lst acc) μ
  | x :: r, acc, μ => match f x μ with
    | .ok v μ' => if acc.length < sizeLine then compL f r (acc ++ [v]) μ' else .bad
    | _ => .bad
def rangeV (n : Int) : List Val := (List.range n.toNat).map fun k : Nat => Val.int (k : Int)

def thenB (v : Val) (t f : Mem → Out Val) (μ : Mem) : Out Val := match v with
  | .bl true => t μ
  | .bl false => f μ
  | _ => .bad
@[simp] theorem thenB_true (t f : Mem → Out Val) (μ : Mem) : thenB (.bl true) t f μ = t μ := rfl
@[simp] theorem thenB_false (t f : Mem → Out Val) (μ : Mem) : thenB (.bl false) t f μ = f μ := rfl
mutual
def ev (O : Orc) : X → Frame → Mem → Out Val
  | .non, _, μ => .ok .non μ
  | .bl b, _, μ => .ok (.bl b) μ
  | .int i, _, μ => .ok (.int i) μ
  | .str x, _, μ => .ok (.str x) μ
  | .var i, ρ, μ => match ρ[i]? with
    | some (some v) => .ok v μ
    | _ => .bad
  | .gint _ i, _, μ => .ok (.int i) μ
  | .gstr _ z, _, μ => .ok (.str z) μ
  | .bin op a b, ρ, μ => (ev O a ρ μ).bind fun x μ => (ev O b ρ μ).bind fun y μ => binop op x y μ
  | .neg a, ρ, μ => (ev O a ρ μ).bind fun x μ => negV x μ
  | .cmp op a b, ρ, μ => (ev O a ρ μ).bind fun x μ => (ev O b ρ μ).bind fun y μ => cmpop op x y μ
  | .chain op op' a b c, ρ, μ => (ev O a ρ μ).bind fun x μ => (ev O b ρ μ).bind fun y μ => (cmpop op x y μ).bind fun v μ => thenB v (fun μ => (ev O c ρ μ).bind fun z μ => cmpop op' y z μ) (fun μ => .ok (.bl false) μ) μ
  | .and as, ρ, μ => evAnd O as ρ μ
  | .or as, ρ, μ => evOr O as ρ μ
  | .not a, ρ, μ => (ev O a ρ μ).bind fun x μ => (tst x μ).bind fun b μ => .ok (.bl (!b)) μ
  | .ite c a b, ρ, μ => (ev O c ρ μ).bind fun x μ => (tst x μ).bind fun t μ => if t then ev O a ρ μ else ev O b ρ μ
  | .call g as, ρ, μ => (evs O as ρ μ).bind fun vs μ => O.fn g vs μ
  | .callV i as, ρ, μ => match ρ[i]? with
    | some (some (.lam l)) => (evs O as ρ μ).bind fun vs μ => O.lam l vs μ
    | _ => .bad
  | .blt f as, ρ, μ => (evs O as ρ μ).bind fun vs μ => bltV f vs μ
  | .maxD a b, ρ, μ => (ev O a ρ μ).bind fun x μ => (ev O b ρ μ).bind fun y μ => maxDV x y μ
  | .isi a t, ρ, μ => (ev O a ρ μ).bind fun x μ => ob (isiV t x) μ
  | .tup as, ρ, μ => (evs O as ρ μ).bind fun vs μ => if vs.length ≤ sizeLine then .ok (.tup vs) μ else .bad
  | .lst as, ρ, μ => (evs O as ρ μ).bind fun vs μ => if vs.length ≤ sizeLine then .ok (.lst vs) μ else .bad
  | .mlst as, ρ, μ => (evs O as ρ μ).bind fun vs μ => if vs.length ≤ sizeLine then .ok (.ref μ.length) (μ ++ [.lst vs]) else .bad
  | .ix a b, ρ, μ => (ev O a ρ μ).bind fun x μ => (ev O b ρ μ).bind fun y μ => ixV x y μ
  | .comp elt tg it, ρ, μ => (evI O it ρ μ).bind fun xs μ => compL (bindEv tg (wipeF ρ tg.slots) fun ρ μ => ev O elt ρ μ) xs [] μ
  | .lam l, _, μ => .ok (.lam l) μ
def evs (O : Orc) : Xs → Frame → Mem → Out (List Val)
  | .nil, _, μ => .ok [] μ
  | .cons x r, ρ, μ => (ev O x ρ μ).bind fun v μ => (evs O r ρ μ).bind fun vs μ => .ok (v :: vs) μ
  | .star x r, ρ, μ => (ev O x ρ μ).bind fun v μ => match v with
    | .tup ws => (evs O r ρ μ).bind fun vs μ => .ok (ws ++ vs) μ
    | .lst ws => (evs O r ρ μ).bind fun vs μ => .ok (ws ++ vs) μ
    | _ => .bad
def evAnd (O : Orc) : Xs → Frame → Mem → Out Val
  | .nil, _, _ => .bad
  | .cons x .nil, ρ, μ => ev O x ρ μ
  | .cons x r, ρ, μ => (ev O x ρ μ).bind fun v μ => thenB v (fun μ => evAnd O r ρ μ) (fun μ => .ok (.bl false) μ) μ
  | .star _ _, _, _ => .bad
def evOr (O : Orc) : Xs → Frame → Mem → Out Val
  | .nil, _, _ => .bad
  | .cons x .nil, ρ, μ => ev O x ρ μ
  | .cons x r, ρ, μ => (ev O x ρ μ).bind fun v μ => thenB v (fun μ => .ok (.bl true) μ) (fun μ => evOr O r ρ μ) μ
  | .star _ _, _, _ => .bad
def evI (O : Orc) : It → Frame → Mem → Out (List Val)
  | .seq x, ρ, μ => (ev O x ρ μ).bind fun v μ => match v with
    | .tup xs => .ok xs μ
    | .lst xs => .ok xs μ
    | _ => .bad
  | .rng x, ρ, μ => (ev O x ρ μ).bind fun v μ => match v with
    | .int n => if -(2 ^ 62) ≤ n ∧ n < 2 ^ 62 then .ok (rangeV n) μ else .bad
    | _ => .bad
end

/-! ### statements -/
mutual
inductive S where
  | pass | set (tg : Tgt) (x : X) | put (o i v : X) | expr (x : X)
  | ret (x : X) | retN | ite (c : X) (a b : Ss) | forS (tg : Tgt) (it : It) (body : Ss) | never
inductive Ss where
  | nil | cons (s : S) (r : Ss)
end
inductive Fl where
  | nx (ρ : Frame) | rt (v : Val) | bk (ρ : Frame) | ct (ρ : Frame)
inductive SOut where
  | ok (f : Fl) (μ : Mem)
  | ex (e : Exn) (ρ : Frame) (μ : Mem)
  | bad
/-- an expression's end in a statement -/
def Out.sb {α : Type} (r : Out α) (ρ : Frame) (f : α → Mem → SOut) : SOut := match r with
  | .ok a μ => f a μ
  | .ex e μ => .ex e ρ μ
  | .bad => .bad
@[simp] theorem Out.sb_ok {α : Type} (a : α) (μ : Mem) (ρ : Frame) (f : α → Mem → SOut) : (Out.ok a μ).sb ρ f = f a μ := rfl
def putV (o i v : Val) (μ : Mem) : Option Mem := match o, i with
  | .ref n, .int k => match μ[n]? with
    | some (.lst xs) => (L2.ixN xs.length k).map fun j => μ.set n (.lst (xs.set j v))
    | none => none
  | _, _ => none
def forStep (o : SOut) (next : Frame → Mem → SOut) : SOut := match o with
  | .ok (.nx ρ) μ => next ρ μ
  | .ok (.ct ρ) μ => next ρ μ
  | .ok (.bk ρ) μ => .ok (.nx ρ) μ
  | .ok (.rt v) μ => .ok (.rt v) μ
  | .ex e ρ μ => .ex e ρ μ
  | .bad => .bad
def forL (tg : Tgt) (f : Frame → Mem → SOut) : List Val → Frame → Mem → SOut
  | [], ρ, μ => .ok (.nx ρ) μ
  | x :: r, ρ, μ => (bindT tg x ρ).elim .bad fun ρ1 => forStep (f ρ1 μ) (forL tg f r)
def setS (ρ : Option Frame) (μ : Mem) : SOut := match ρ with
  | some ρ' => .ok (.nx ρ') μ
  | none => .bad
def putS (μ : Option Mem) (ρ : Frame) : SOut := match μ with
  | some μ' => .ok (.nx ρ) μ'
  | none => .bad
def SOut.seq (o : SOut) (f : Frame → Mem → SOut) : SOut := match o with
  | .ok (.nx ρ) μ => f ρ μ
  | o => o
mutual
def exec (O : Orc) : S → Frame → Mem → SOut
  | .pass, ρ, μ => .ok (.nx ρ) μ
  | .set tg x, ρ, μ => (ev O x ρ μ).sb ρ fun v μ => setS (bindT tg v ρ) μ
  | .put o i x, ρ, μ => (ev O x ρ μ).sb ρ fun v μ => (ev O o ρ μ).sb ρ fun a μ => (ev O i ρ μ).sb ρ fun k μ => putS (putV a k v μ) ρ
  | .expr x, ρ, μ => (ev O x ρ μ).sb ρ fun _ μ => .ok (.nx ρ) μ
  | .ret x, ρ, μ => (ev O x ρ μ).sb ρ fun v μ => .ok (.rt v) μ
  | .retN, _, μ => .ok (.rt .non) μ
  | .ite c a b, ρ, μ => (ev O c ρ μ).sb ρ fun x μ => (tst x μ).sb ρ fun t μ => if t then execs O a ρ μ else execs O b ρ μ
  | .forS tg it body, ρ, μ => (evI O it ρ μ).sb ρ fun xs μ => forL tg (execs O body) xs ρ μ
  | .never, _, _ => .bad
def execs (O : Orc) : Ss → Frame → Mem → SOut
  | .nil, ρ, μ => .ok (.nx ρ) μ
  | .cons s r, ρ, μ => (exec O s ρ μ).seq fun ρ μ => execs O r ρ μ
end

/-! ### a module -/
structure FnD where
  name : Str
  arity : Nat
  star : Bool
  lams : Bool
  N : List Str
  body : Ss
structure LamD where
  arity : Nat
  N : List Str
  body : X
structure Tab where
  fns : List FnD
  lams : List LamD
  ci : List (Str × Int)
  cz : List (Str × Str)
def frame0 (N : List Str) (vs : List Val) : Frame := vs.map some ++ List.replicate (N.length - vs.length) none
def bodyOut (r : SOut) : Out Val := match r with
  | .ok (.rt v) μ => .ok v μ
  | .ok (.nx _) μ => .ok .non μ
  | .ex e _ μ => .ex e μ
  | _ => .bad
def callFn (O : Orc) (d : FnD) (args : List Val) (μ : Mem) : Out Val :=
  if d.star then (if d.arity = 0 ∧ args.length ≤ sizeLine then bodyOut (execs O d.body (frame0 d.N [.tup args]) μ) else .bad)
  else if args.length = d.arity then bodyOut (execs O d.body (frame0 d.N args) μ) else .bad
def callLam (O : Orc) (d : LamD) (args : List Val) (μ : Mem) : Out Val :=
  if args.length = d.arity then ev O d.body (frame0 d.N args) μ else .bad
def run (T : Tab) : Nat → Orc
  | 0 => ⟨fun _ _ _ => .bad, fun _ _ _ => .bad⟩
  | n + 1 => ⟨fun g args μ => match T.fns[g]? with
      | some d => callFn (run T n) d args μ
      | none => .bad,
    fun l args μ => match T.lams[l]? with
      | some d => callLam (run T n) d args μ
      | none => .bad⟩
end MP

set_option maxHeartbeats 2000000
/-! max(xs, default=d) of a list of ints. -/
namespace MP
open PySem PySem.Spec PyProof.Rows L2
section
variable {prog : Program} {w : World} {A : Around}
/-- the turns: S holds the best so far, twice, or nothing as yet -/
theorem maxd_turns {R : Result → Shared → Prop} {I S : Addr} {fp wr : List Addr} {n : Nat} {P : Nat → Value → Prop} {St : Nat → Heap → Prop} {dn : Str} {dv : Value} (W : Walks prog w A.in1 I fp wr n P St) (bt : Nat → Nat → Bool) (hcmp : CmpOf prog w A.in1 .Gt P bt) (hSf : S ∉ fp) :
    ∀ (m i : Nat) (s : Shared) (vs : List Value) (c : Nat), i + m = n → St i s.heap → ((i = 0 ∧ vs = []) ∨ ∃ j v, i = j + 1 ∧ vs = [v, v] ∧ P (argBest bt j) v) → s.heap.get? S = some { cls := .type "list", dict := none, data := .seq vs.toArray c, slots := #[] } →
    (∀ v h' tk, ((n = 0 ∧ v = dv) ∨ ∃ j, n = j + 1 ∧ P (argBest bt j) v) → (∀ b o, b ∉ wr → b ≠ S → s.heap.get? b = some o → h'.get? b = some o) → R (.ok (.ret v)) { s with heap := h', toks := tk }) →
    codeAny (model prog w) A (.builtin "max.loop" ⟨[.ref I, .none, .ref S], [(dn, dv)]⟩) R s := by
  have nSw : S ∉ wr := fun z => hSf (W.sub _ z)
  have nm : (toString "max" ++ toString ".loop" : String) = "max.loop" := by decide
  intro m
  induction m with
  | zero =>
    intro i s vs c hi st hv hS hR
    have hi : i = n := by omega
    subst hi
    refine codeAny_builtin F.entry_max_loop ?_
    rw [Around.under_plainId F.plain_max_loop _]
    refine wpAny_bind (wpAny_seqItems hS rfl ?_)
    refine wpAny_bind (wpAny_tryCatch (W.done s _ _ st fun h' tk kp => ?_))
    have hS' := kp S _ nSw hS
    rcases hv with ⟨rfl, rfl⟩ | ⟨j, v, rfl, rfl, hP⟩
    · refine wpAny_bind (wpAny_rule (wpAny_pure ?_))
      exact hR dv h' tk (.inl ⟨rfl, rfl⟩) fun b o n1 _ e => kp b o n1 e
    · refine wpAny_bind (wpAny_updateSeq hS' rfl (wpAny_bind (wpAny_letGo (wpAny_pure ?_))))
      exact hR v _ tk (.inr ⟨j, rfl, hP⟩) fun b o n1 n2 e => (Heap.get?_update_other _ _ (Ne.symm n2)).trans (kp b o n1 e)
  | succ m ih =>
    intro i s vs c hi st hv hS hR
    refine codeAny_builtin F.entry_max_loop ?_
    rw [Around.under_plainId F.plain_max_loop _]
    refine wpAny_bind (wpAny_seqItems hS rfl ?_)
    refine wpAny_bind (wpAny_tryCatch (W.item i s _ _ (by omega) st fun v h' tk hPv st' kp => ?_))
    have hS' := kp S _ nSw hS
    rcases hv with ⟨rfl, rfl⟩ | ⟨j, u, rfl, rfl, hP⟩
    · refine wpAny_bind ?_
      refine wpAny_pure ?_
      refine wpAny_bind (wpAny_updateSeq hS' rfl ?_)
      rw [nm]
      refine wpAny_pure ⟨plainId_quiet F.plain_max_loop _, ih 1 _ [v, v] _ (by omega) (W.frame _ _ _ st' fun b hbf o e => ?_) (.inr ⟨0, v, rfl, rfl, hPv⟩) (Heap.get?_update_self _ hS' rfl) fun v' h'' tk'' hP' kp' => ?_⟩
      · exact (Heap.get?_update_other _ _ (fun z : S = b => hSf (by rw [z]; exact hbf))).trans e
      · exact hR v' h'' tk'' hP' fun b o n1 n2 e => kp' b o n1 n2 ((Heap.get?_update_other _ _ (Ne.symm n2)).trans (kp b o n1 e))
    · refine wpAny_bind (wpAny_pure ?_)
      refine wpAny_bind (wpAny_tryCatch (wpAny_holding (wpAny_bind (hcmp (j + 1) (argBest bt j) v u _ _ _ hPv hP ?_))))
      refine wpAny_bind (wpAny_holding (wpAny_truthy_bool ?_))
      refine wpAny_bind (wpAny_letGo (wpAny_pure ?_))
      cases hb : bt (j + 1) (argBest bt j) with
      | true =>
        simp only [if_true]
        refine wpAny_bind (wpAny_updateSeq hS' rfl (wpAny_bind (wpAny_letGo ?_)))
        rw [nm]
        refine wpAny_pure ⟨plainId_quiet F.plain_max_loop _, ih (j + 2) _ [v, v] _ (by omega) (W.frame _ _ _ st' fun b hbf o e => ?_) (.inr ⟨j + 1, v, rfl, rfl, by simp only [argBest, hb, if_true]; exact hPv⟩) (Heap.get?_update_self _ hS' rfl) fun v' h'' tk'' hP' kp' => ?_⟩
        · exact (Heap.get?_update_other _ _ (fun z : S = b => hSf (by rw [z]; exact hbf))).trans e
        · exact hR v' h'' tk'' hP' fun b o n1 n2 e => kp' b o n1 n2 ((Heap.get?_update_other _ _ (Ne.symm n2)).trans (kp b o n1 e))
      | false =>
        simp only [Bool.false_eq_true, if_false]
        refine wpAny_bind (wpAny_letGo ?_)
        rw [nm]
        refine wpAny_pure ⟨plainId_quiet F.plain_max_loop _, ih (j + 2) _ [u, u] c (by omega) st' (.inr ⟨j + 1, u, rfl, rfl, by simp only [argBest, hb, Bool.false_eq_true, if_false]; exact hP⟩) hS' fun v' h'' tk'' hP' kp' => ?_⟩
        exact hR v' h'' tk'' hP' fun b o n1 n2 e => kp' b o n1 n2 (kp b o n1 e)
/-- a built-in function with keywords, by its tree -/
theorem call_tree_kw {E : Value → Shared → Prop} {s : Shared} {id : String} {b : Builtin} {args : List Value} {kw : List (Str × Value)} {Q : Value → Shared → Prop} (hk : builtinKind id = none) (hp : plainId id = true) (hb : entryFor table id = some b) (ha : argsOk id ⟨args, kw⟩)
    (hc : wpAny (model prog w) A.in1 (b ⟨args, kw⟩) (fun fin s' => match fin with
      | .done f => (match (Except.ok f : Result) with | .ok (.ret v) => Q v s' | .ok _ => False | .error e => E e s')
      | .again c' => c'.quiet = true ∧ codeAny (model prog w) A c' (fun r s' => match r with | .ok (.ret v) => Q v s' | .ok _ => False | .error e => E e s') s') E s) : wpAny (model prog w) A (call (.builtin id) args kw) Q E s := by
  refine wpAny_call (codeAny_call_builtin hp hb ?_)
  simp only [checkBuiltinCall, hk]
  cases hsig : Manifest.signature? id with
  | none => exact wpAny_pure hc
  | some sig =>
    simp only [argsOk, hsig] at ha
    have h2 : Bind.checkArgs id sig ⟨args, kw⟩ = pure () := ha
    show wpAny _ A.in1 (Bind.checkArgs id sig ⟨args, kw⟩) _ _ s
    rw [h2]
    exact wpAny_pure hc
theorem args_maxd (a v : Value) : argsOk "max" ⟨[a], [(Str.ofString "default", v)]⟩ := by unfold argsOk; kernel_rfl
theorem call_maxd {E : Value → Shared → Prop} {s : Shared} {l : Addr} {its : List Value} {ns : List Int} {dv : Value} {Q : Value → Shared → Prop} (hh : A.handled = none) (hl : s.heap.IsList l its.toArray) (hi : IntsAre its ns)
    (h : ∀ h' tk v, (∀ b o, s.heap.get? b = some o → h'.get? b = some o) → ((ns = [] ∧ v = dv) ∨ ∃ M t, v = .int M t ∧ M ∈ ns ∧ ∀ a, a ∈ ns → a ≤ M) → Q v { s with heap := h', toks := tk }) :
    wpAny (model prog w) A (call (.builtin "max") [.ref l] [(Str.ofString "default", dv)]) Q E s := by
  obtain ⟨xs, e⟩ := hi.allInts.items
  have hn : numsOf (intItems xs).toList = ns := by rw [← e]; exact hi.numsOf
  rw [nums_intItems] at hn
  subst hn
  rw [e] at hl
  have nm : (toString "max" ++ toString ".loop" : String) = "max.loop" := by decide
  refine call_tree_kw F.kind_max F.plain_max F.entry_max (args_maxd _ _) ?_
  refine wpAny_bind (wpAny_of_eq (show Builtin.Builtins.bindParams "max" ["key", "default"] 0 ⟨[], [(Str.ofString "default", dv)]⟩ = pure [none, some dv] from rfl) ?_)
  refine wpAny_bind (wpAny_pure ?_)
  refine wpAny_bind (iter_intList hl fun s₂ e2 stt hfp hlI => ?_)
  subst e2
  refine wpAny_bind (wpAny_newObj_type ?_)
  rw [nm]
  have W := Walks.list (prog := prog) (w := w) (A := A.in1) hh s.heap.objs.size l hlI (intItems xs)
  have hsz : (intItems xs).size = xs.size := by simp [intItems]
  refine wpAny_pure ⟨plainId_quiet F.plain_max_loop _, maxd_turns (dn := "default") (dv := dv) W _ (CmpOf.ints_gt (numAt xs) (fun _ _ => intItems_at)) (fun hm => Nat.lt_irrefl _ (hfp _ hm)) (intItems xs).size 0 _ [] _ (Nat.zero_add _) (W.frame _ _ _ stt fun b _ o e => Heap.get?_push_of_some _ e) (.inl ⟨rfl, rfl⟩) (Heap.get?_push_size _ rfl) fun v h' tk hv kp => ?_⟩
  have kp' : ∀ b o, s.heap.get? b = some o → h'.get? b = some o := fun b o e => by
    have lt := Heap.lt_size e
    refine kp b o (fun z => ?_) (fun z => ?_) (Heap.get?_push_of_some _ (Heap.get?_push_of_some _ e))
    · have z : b = s.heap.objs.size := by simpa using z
      exact absurd (z ▸ lt) (Nat.lt_irrefl _)
    · have z : b = (s.heap.push _).objs.size := z
      rw [Heap.size_push] at z
      exact absurd (Nat.lt_succ_of_lt (z ▸ lt)) (Nat.lt_irrefl _)
  refine h h' tk v kp' ?_
  rcases hv with ⟨h0, rfl⟩ | ⟨j, hj, hP⟩
  · refine .inl ⟨?_, rfl⟩
    rw [hsz] at h0
    have : xs = #[] := Array.eq_empty_of_size_eq_zero h0
    rw [this]; rfl
  · rw [hsz] at hj
    obtain ⟨t, rfl⟩ := intItems_at hP
    obtain ⟨h1, h2⟩ := argBest_gt (numAt xs) j
    refine .inr ⟨_, t, rfl, ?_, fun a ha => ?_⟩
    · rw [numAt_eq]; exact PySem.getD_mem (by rw [List.length_map, Array.length_toList]; omega)
    · obtain ⟨i, hi', rfl⟩ := mem_getD ha
      rw [List.length_map, Array.length_toList] at hi'
      rw [← numAt_eq]; exact h2 i (by omega)
end
theorem maxI_spec : ∀ (ns : List Int) (m : Int), maxI m ns ∈ m :: ns ∧ ∀ a ∈ m :: ns, a ≤ maxI m ns
  | [], m => by simp [maxI]
  | x :: r, m => by
    unfold maxI
    by_cases hx : x > m
    · rw [if_pos hx]
      obtain ⟨h1, h2⟩ := maxI_spec r x
      refine ⟨List.mem_cons_of_mem _ h1, fun a ha => ?_⟩
      rcases List.mem_cons.mp ha with rfl | ha
      · have := h2 x List.mem_cons_self; omega
      · exact h2 a ha
    · rw [if_neg hx]
      obtain ⟨h1, h2⟩ := maxI_spec r m
      refine ⟨?_, fun a ha => ?_⟩
      · rcases List.mem_cons.mp h1 with h | h
        · rw [h]; exact List.mem_cons_self
        · exact List.mem_cons_of_mem _ (List.mem_cons_of_mem _ h)
      · rcases List.mem_cons.mp ha with rfl | ha
        · exact h2 _ List.mem_cons_self
        · rcases List.mem_cons.mp ha with rfl | ha
          · have := h2 m List.mem_cons_self; omega
          · exact h2 a (List.mem_cons_of_mem _ ha)
theorem maxI_one {n : Int} {ns : List Int} {M : Int} (h1 : M ∈ n :: ns) (h2 : ∀ a, a ∈ n :: ns → a ≤ M) : M = maxI n ns := by
  obtain ⟨k1, k2⟩ := maxI_spec ns n
  have a1 := h2 _ k1
  have a2 := k2 _ h1
  omega
end MP

set_option maxHeartbeats 1000000
/-! How the evaluator's values and store lie in the hand layer's heap. -/
namespace MP
open PySem PySem.Spec PyProof.Rows L2

/-- what is fixed: the written part, the module's names, the tables of code objects, how lambdas lie -/
structure Gx where
  K : PySem.W.Frag
  mg : Str → Option Value
  TT : List (Addr × Str)
  LS : Nat → Arguments → Expr → Scope → Prop
  T : Tab
/-- the l-th lambda, made in a def whose names it does not use: its object at a, its code object at c, its name q -/
def LamO (G : Gx) (l : Nat) (q : Str) (c a : Addr) : HO := .ext fun h => ∃ (params : Arguments) (body : Expr) (scope : Scope) (pm ctv : Value), G.LS l params body scope ∧ h.get? a = some (PySem.W.kla_obj "<lambda>" q params body scope [] pm c ctv)
/-- a list that the module's top has left -/
def WrL (K : PySem.W.Frag) (a : Addr) (xs : List V) : Prop :=
  ∃ (o : Obj) (its : Array Value) (n : Nat), K.lookup a = some o ∧ o.cls = .type "list" ∧ o.dict = none ∧ o.data = .seq its n ∧ its.size ≤ sizeLine ∧ Vals xs its.toList

/-- a tuple that the module's top has left -/
def Wr (K : PySem.W.Frag) (a : Addr) (xs : List V) : Prop :=
  ∃ (o : Obj) (its : Array Value) (n : Nat), K.lookup a = some o ∧ o.cls = .type "tuple" ∧ o.data = .seq its n ∧ its.size ≤ sizeLine ∧ Vals xs its.toList
/-- where the store's things lie; what no value names (a list that is just being made) -/
structure Io where
  ix : List Addr
  no : List Addr
instance : Membership Addr Io := ⟨fun ι a => a ∈ ι.ix ∨ a ∈ ι.no⟩
def Io.snoc (ι : Io) (p : Addr) : Io := ⟨ι.ix ++ [p], ι.no⟩
def Io.block (ι : Io) (p : Addr) : Io := ⟨ι.ix, p :: ι.no⟩
theorem Io.nix {ι : Io} {a : Addr} (h : a ∉ ι) : a ∉ ι.ix := fun z => h (.inl z)
mutual
inductive RV (G : Gx) (ι : Io) (H : Hp) : V → Val → Prop
  | non : RV G ι H .non .non
  | bl (b : Bool) : RV G ι H (.bl b) (.bl b)
  | int (i : Int) : RV G ι H (.int i) (.int i)
  | str (x : Str) : RV G ι H (.str x) (.str x)
  | tup {a : Addr} {vs : List V} {ds : List Val} : H a = some (.tup vs) → a ∉ ι → RVs G ι H vs ds → RV G ι H (.ref a) (.tup ds)
  | wtup {a : Addr} {vs : List V} {ds : List Val} : Wr G.K a vs → RVs G ι H vs ds → RV G ι H (.ref a) (.tup ds)
  | lst {a : Addr} {vs : List V} {ds : List Val} : H a = some (.lst vs) → a ∉ ι → RVs G ι H vs ds → RV G ι H (.ref a) (.lst ds)
  | scr {a : Addr} {o : HO} {vs : List V} {ds : List Val} : H a = some o → (o = .lst vs ∨ ∃ b, o = .frz b (.lst vs)) → a ∉ ι → RVs G ι H vs ds → RV G ι H (.ref a) (.scr ds)
  | wscr {a : Addr} {vs : List V} {ds : List Val} : WrL G.K a vs → RVs G ι H vs ds → RV G ι H (.ref a) (.scr ds)
  | ref {n : Nat} {a : Addr} : ι.ix[n]? = some a → RV G ι H (.ref a) (.ref n)
  | lam {l : Nat} {a c : Addr} {q : Str} : H a = some (LamO G l q c a) → a ∉ ι → H c = some (LamX.CodeO c q) → c ∉ ι → RV G ι H (.ref a) (.lam l)
inductive RVs (G : Gx) (ι : Io) (H : Hp) : List V → List Val → Prop
  | nil : RVs G ι H [] []
  | cons {v : V} {vs : List V} {d : Val} {ds : List Val} : RV G ι H v d → RVs G ι H vs ds → RVs G ι H (v :: vs) (d :: ds)
end

/-- the heap grows; what is changed are the store's own things and the tables -/
structure Ext (ι : Io) (H : Hp) (ι' : Io) (H' : Hp) : Prop where
  pre : ∃ δ, ι'.ix = ι.ix ++ δ ∧ ∀ p ∈ δ, H p = none
  no : ι'.no = ι.no
  keep : ∀ a o, a ∉ ι.ix → (∀ ps, o ≠ .tbl ps) → H a = some o → H' a = some o
  live : ∀ a, H' a = none → H a = none
theorem Ext.refl (ι : Io) (H : Hp) : Ext ι H ι H := ⟨⟨[], by simp, by simp⟩, rfl, fun _ _ _ _ h => h, fun _ h => h⟩
theorem Ext.outx {ι ι' : Io} {H H' : Hp} (e : Ext ι H ι' H') {a : Addr} {o : HO} (h : H a = some o) (n : a ∉ ι.ix) : a ∉ ι'.ix := by
  obtain ⟨δ, h1, hd⟩ := e.pre
  rw [h1]
  intro z
  rcases List.mem_append.mp z with z | z
  · exact n z
  · rw [hd a z] at h; cases h
theorem Ext.out {ι ι' : Io} {H H' : Hp} (e : Ext ι H ι' H') {a : Addr} {o : HO} (h : H a = some o) (n : a ∉ ι) : a ∉ ι' := by
  intro z
  rcases z with z | z
  · exact e.outx h (Io.nix n) z
  · rw [e.no] at z
    exact n (.inr z)
theorem Ext.trans {ι ι1 ι2 : Io} {H H1 H2 : Hp} (e : Ext ι H ι1 H1) (f : Ext ι1 H1 ι2 H2) : Ext ι H ι2 H2 := by
  refine ⟨?_, f.no.trans e.no, fun a o n t h => f.keep a o (e.outx h n) t (e.keep a o n t h), fun a h => e.live a (f.live a h)⟩
  obtain ⟨δ, h1, hd⟩ := e.pre
  obtain ⟨δ', h2, hd'⟩ := f.pre
  refine ⟨δ ++ δ', by rw [h2, h1]; simp, fun p hp => ?_⟩
  rcases List.mem_append.mp hp with z | z
  · exact hd p z
  · exact e.live p (hd' p z)
theorem Ext.ix {ι ι' : Io} {H H' : Hp} (e : Ext ι H ι' H') {n : Nat} {a : Addr} (h : ι.ix[n]? = some a) : ι'.ix[n]? = some a := by
  obtain ⟨δ, h1, _⟩ := e.pre
  rw [h1, List.getElem?_append_left (List.getElem?_eq_some_iff.mp h).1]
  exact h
theorem tup_ne {vs : List V} (ps : Array Value) : HO.tup vs ≠ .tbl ps := fun z => by cases z
theorem lst_ne {vs : List V} (ps : Array Value) : HO.lst vs ≠ .tbl ps := fun z => by cases z
theorem frz_ne {o : Obj} {u : HO} (ps : Array Value) : HO.frz o u ≠ .tbl ps := fun z => by cases z
theorem xd_ne {vs : List (Str × V)} (ps : Array Value) : HO.xd vs ≠ .tbl ps := fun z => by cases z
/-- lambdas lie as no tables -/
def Gx.Ok (G : Gx) : Prop := ∀ l q c a ps, LamO G l q c a ≠ .tbl ps
theorem Gx.isOk (G : Gx) : G.Ok := fun l q c a ps z => by
  unfold LamO at z
  cases z
theorem scr_ne {o : HO} {vs : List V} (h : o = .lst vs ∨ ∃ b, o = .frz b (.lst vs)) (ps : Array Value) : o ≠ .tbl ps := by
  rcases h with rfl | ⟨b, rfl⟩
  · exact lst_ne ps
  · exact frz_ne ps
section
variable {G : Gx} {ι ι' : Io} {H H' : Hp}
theorem RV.mono (ok : G.Ok) (e : Ext ι H ι' H') {d : Val} {v : V} (h : RV G ι H v d) : RV G ι' H' v d :=
  RV.rec (motive_1 := fun v d _ => RV G ι' H' v d) (motive_2 := fun vs ds _ => RVs G ι' H' vs ds) .non .bl .int .str
    (fun h n _ r => .tup (e.keep _ _ (Io.nix n) tup_ne h) (e.out h n) r)
    (fun h _ r => .wtup h r)
    (fun h n _ r => .lst (e.keep _ _ (Io.nix n) lst_ne h) (e.out h n) r)
    (fun h z n _ r => .scr (e.keep _ _ (Io.nix n) (scr_ne z) h) z (e.out h n) r)
    (fun h _ r => .wscr h r)
    (fun h => .ref (e.ix h))
    (fun h n c m => .lam (e.keep _ _ (Io.nix n) (ok _ _ _ _) h) (e.out h n) (e.keep _ _ (Io.nix m) LamX.codeO_ne c) (e.out c m))
    .nil (fun _ _ a b => .cons a b) h
theorem RVs.mono (ok : G.Ok) (e : Ext ι H ι' H') : ∀ {ds : List Val} {vs : List V}, RVs G ι H vs ds → RVs G ι' H' vs ds
  | [], _, h => by cases h; exact .nil
  | _ :: ds, _, h => by
    cases h with
    | cons h r => exact .cons (h.mono ok e) (RVs.mono ok e r)
theorem RVs.length : ∀ {ds : List Val} {vs : List V}, RVs G ι H vs ds → vs.length = ds.length
  | _, _, .nil => rfl
  | _, _, .cons _ r => by simp [r.length]
theorem RVs.get : ∀ {ds : List Val} {vs : List V} {i : Nat} {d : Val}, RVs G ι H vs ds → ds[i]? = some d → ∃ v, vs[i]? = some v ∧ RV G ι H v d
  | _, _, _, _, .nil, h => by simp at h
  | _, _, 0, _, .cons h _, e => by simp at e; subst e; exact ⟨_, rfl, h⟩
  | _, _, i + 1, _, .cons _ r, e => by
    obtain ⟨v, h1, h2⟩ := RVs.get (i := i) r (by simpa using e)
    exact ⟨v, by simpa using h1, h2⟩
theorem RVs.append : ∀ {ds es : List Val} {vs us : List V}, RVs G ι H vs ds → RVs G ι H us es → RVs G ι H (vs ++ us) (ds ++ es)
  | _, _, _, _, .nil, s => s
  | _, _, _, _, .cons h r, s => .cons h (r.append s)
theorem RVs.set {v : V} {d : Val} (x : RV G ι H v d) : ∀ {ds : List Val} {vs : List V} (i : Nat), RVs G ι H vs ds → RVs G ι H (vs.set i v) (ds.set i d)
  | _, _, _, .nil => .nil
  | _, _, 0, .cons _ r => .cons x r
  | _, _, i + 1, .cons h r => .cons h (RVs.set x i r)
theorem RVs.drop : ∀ {ds : List Val} {vs : List V} (i : Nat), RVs G ι H vs ds → RVs G ι H (vs.drop i) (ds.drop i)
  | _, _, 0, r => r
  | _, _, _ + 1, .nil => .nil
  | _, _, i + 1, .cons _ r => RVs.drop i r
end

/-- the store lies in the heap -/
def RC (G : Gx) (ι : Io) (H : Hp) (a : Addr) : Cell → Prop
  | .lst ds => ∃ vs, H a = some (.lst vs) ∧ RVs G ι H vs ds
structure Rep (G : Gx) (ι : Io) (μ : Mem) (H : Hp) : Prop where
  len : ι.ix.length = μ.length
  nd : ι.ix.Nodup
  at_ : ∀ (n : Nat) (c : Cell) (a : Addr), μ[n]? = some c → ι.ix[n]? = some a → RC G ι H a c
  nos : ∀ a ∈ ι.no, a ∉ ι.ix ∧ ∃ vs, H a = some (.lst vs)
  tabs : LamX.Tabs G.TT H
theorem Rep.live {G : Gx} {ι : Io} {μ : Mem} {H : Hp} (r : Rep G ι μ H) {a : Addr} (h : a ∈ ι.ix) : ∃ vs, H a = some (.lst vs) := by
  obtain ⟨n, hn, e⟩ := List.mem_iff_getElem.mp h
  have h1 : ι.ix[n]? = some a := by rw [List.getElem?_eq_getElem hn, e]
  have hn2 : n < μ.length := by rw [← r.len]; exact hn
  have := r.at_ n μ[n] a (List.getElem?_eq_getElem hn2) h1
  revert this
  cases μ[n] with
  | lst ds => exact fun ⟨vs, h, _⟩ => ⟨vs, h⟩
theorem Rep.fresh {G : Gx} {ι : Io} {μ : Mem} {H : Hp} (r : Rep G ι μ H) {p : Addr} (h : H p = none) : p ∉ ι := fun z => by
  rcases z with z | z
  · obtain ⟨vs, e⟩ := r.live z
    rw [h] at e; cases e
  · obtain ⟨_, o, e⟩ := r.nos p z
    rw [h] at e; cases e
section
variable {G : Gx} {ι : Io} {μ : Mem} {H : Hp}
/-- a new thing, not the store's -/
theorem Ext.laid {p : Addr} {o : HO} (h : H p = none) : Ext ι H ι (upd H p o) :=
  ⟨⟨[], by simp, by simp⟩, rfl, fun a u _ _ e => by rw [upd_ne (ne_of_none e h)]; exact e, fun a e => by
    by_cases z : a = p
    · rw [z]; exact h
    · rw [upd_ne z] at e; exact e⟩
theorem tabs_laid {p : Addr} {o : HO} (h : H p = none) (t : LamX.Tabs G.TT H) : LamX.Tabs G.TT (upd H p o) :=
  t.ext fun b u e => by rw [upd_ne (ne_of_none e h)]; exact e
theorem Rep.laid (ok : G.Ok) {p : Addr} {o : HO} (ht : ∀ ps, o ≠ .tbl ps) (r : Rep G ι μ H) (h : H p = none) : Rep G ι μ (upd H p o) := by
  refine ⟨r.len, r.nd, fun n c a h1 h2 => ?_, fun a ha => ?_, tabs_laid h r.tabs⟩
  · have x := r.at_ n c a h1 h2
    cases c with
    | lst ds =>
      obtain ⟨vs, e, q⟩ := x
      exact ⟨vs, by rw [upd_ne (ne_of_none e h)]; exact e, q.mono ok (Ext.laid h)⟩
  · obtain ⟨z, u, e⟩ := r.nos a ha
    exact ⟨z, u, by rw [upd_ne (ne_of_none e h)]; exact e⟩
/-- a new thing of the store -/
theorem Ext.born {p : Addr} {o : HO} (h : H p = none) : Ext ι H (ι.snoc p) (upd H p o) :=
  ⟨⟨[p], rfl, fun q hq => by rw [List.mem_singleton.mp hq]; exact h⟩, rfl, fun a u _ _ e => by rw [upd_ne (ne_of_none e h)]; exact e, fun a e => by
    by_cases z : a = p
    · rw [z]; exact h
    · rw [upd_ne z] at e; exact e⟩
theorem Rep.born (ok : G.Ok) {p : Addr} {vs : List V} {ds : List Val} (r : Rep G ι μ H) (h : H p = none) (q : RVs G ι H vs ds) : Rep G (ι.snoc p) (μ ++ [.lst ds]) (upd H p (.lst vs)) := by
  have E : Ext ι H (ι.snoc p) (upd H p (.lst vs)) := Ext.born h
  refine ⟨by simp [r.len, Io.snoc], ?_, fun n c a h1 h2 => ?_, fun a ha => ?_, tabs_laid h r.tabs⟩
  · show (ι.ix ++ [p]).Nodup
    rw [List.nodup_append]
    refine ⟨r.nd, by simp, fun a ha b hb => ?_⟩
    rw [List.mem_singleton.mp hb]
    intro z
    rw [z] at ha
    exact Io.nix (r.fresh h) ha
  · have h2 : (ι.ix ++ [p])[n]? = some a := h2
    by_cases hn : n < μ.length
    · rw [List.getElem?_append_left hn] at h1
      rw [List.getElem?_append_left (by rw [r.len]; exact hn)] at h2
      have x := r.at_ n c a h1 h2
      cases c with
      | lst es =>
        obtain ⟨us, e, q'⟩ := x
        exact ⟨us, by rw [upd_ne (ne_of_none e h)]; exact e, q'.mono ok E⟩
    · have hn2 : n = μ.length := by
        have := (List.getElem?_eq_some_iff.mp h1).1
        simp at this; omega
      subst hn2
      rw [List.getElem?_append_right (Nat.le_refl _)] at h1
      rw [List.getElem?_append_right (by rw [r.len]; exact Nat.le_refl _)] at h2
      simp at h1
      simp [r.len] at h2
      subst h1 h2
      exact ⟨vs, upd_same, q.mono ok E⟩
  · obtain ⟨z, u, e⟩ := r.nos a ha
    refine ⟨fun w => ?_, u, by rw [upd_ne (ne_of_none e h)]; exact e⟩
    rcases List.mem_append.mp w with w | w
    · exact z w
    · rw [List.mem_singleton.mp w] at e; rw [h] at e; cases e
theorem RV.born {p : Addr} {vs : List V} {H' : Hp} (r : Rep G ι μ H) : RV G (ι.snoc p) H' (.ref p) (.ref μ.length) :=
  .ref (by show (ι.ix ++ [p])[_]? = _; rw [List.getElem?_append_right (by rw [r.len]; exact Nat.le_refl _)]; simp [r.len])
/-- a thing of the store is changed -/
theorem Ext.put {a : Addr} {o : HO} (h : a ∈ ι.ix) : Ext ι H ι (upd H a o) :=
  ⟨⟨[], by simp, by simp⟩, rfl, fun b u n _ e => by rw [upd_ne (fun z => n (by rw [z]; exact h))]; exact e, fun b e => by
    by_cases z : b = a
    · rw [z, upd_same] at e; cases e
    · rw [upd_ne z] at e; exact e⟩
theorem tabs_put {a : Addr} {us vs : List V} (ha : H a = some (.lst us)) (t : LamX.Tabs G.TT H) : LamX.Tabs G.TT (upd H a (.lst vs)) := by
  intro p hp
  obtain ⟨ps, a1, a2, a3⟩ := t p hp
  refine ⟨ps, ?_, a2, fun pos cv hc => ?_⟩
  · rw [upd_ne (fun z => by rw [z, ha] at a1; cases a1)]; exact a1
  · obtain ⟨c, e1, e2⟩ := a3 pos cv hc
    exact ⟨c, e1, by rw [upd_ne (fun z => by rw [z, ha] at e2; unfold LamX.CodeO at e2; cases e2)]; exact e2⟩
theorem Rep.put (ok : G.Ok) {n : Nat} {a : Addr} {vs us : List V} {ds : List Val} (r : Rep G ι μ H) (hn : ι.ix[n]? = some a) (ha : H a = some (.lst us)) (q : RVs G ι H vs ds) : Rep G ι (μ.set n (.lst ds)) (upd H a (.lst vs)) := by
  have hm : a ∈ ι.ix := List.mem_of_getElem? hn
  have E : Ext ι H ι (upd H a (.lst vs)) := Ext.put hm
  refine ⟨by simp [r.len], r.nd, fun m c b h1 h2 => ?_, fun b hb => ?_, tabs_put ha r.tabs⟩
  · by_cases z : m = n
    · subst z
      have hl : m < μ.length := by rw [← r.len]; exact (List.getElem?_eq_some_iff.mp hn).1
      rw [List.getElem?_set_self hl] at h1
      cases h1
      rw [hn] at h2
      cases h2
      exact ⟨vs, upd_same, q.mono ok E⟩
    · rw [List.getElem?_set_ne (fun w => z w.symm)] at h1
      have x := r.at_ m c b h1 h2
      have nb : b ≠ a := fun w => by
        subst w
        obtain ⟨l1, e1⟩ := List.getElem?_eq_some_iff.mp h2
        obtain ⟨l2, e2⟩ := List.getElem?_eq_some_iff.mp hn
        exact z ((List.getElem_inj r.nd).mp (e1.trans e2.symm))
      cases c with
      | lst es =>
        obtain ⟨us', e, q'⟩ := x
        exact ⟨us', by rw [upd_ne nb]; exact e, q'.mono ok E⟩
  · obtain ⟨z, u, e⟩ := r.nos b hb
    exact ⟨z, u, by rw [upd_ne (fun w => z (by rw [w]; exact hm))]; exact e⟩
/-! ### a list that is being made: no value names it -/
theorem RV.gen {G : Gx} {ι ι' : Io} {H H' : Hp} (hix : ∀ (n : Nat) a, ι.ix[n]? = some a → ι'.ix[n]? = some a)
    (hk : ∀ a o, a ∉ ι → (∀ ps, o ≠ .tbl ps) → H a = some o → H' a = some o ∧ a ∉ ι') (ok : G.Ok) {d : Val} {v : V} (h : RV G ι H v d) : RV G ι' H' v d :=
  RV.rec (motive_1 := fun v d _ => RV G ι' H' v d) (motive_2 := fun vs ds _ => RVs G ι' H' vs ds) .non .bl .int .str
    (fun h n _ r => .tup (hk _ _ n tup_ne h).1 (hk _ _ n tup_ne h).2 r)
    (fun h _ r => .wtup h r)
    (fun h n _ r => .lst (hk _ _ n lst_ne h).1 (hk _ _ n lst_ne h).2 r)
    (fun h z n _ r => .scr (hk _ _ n (scr_ne z) h).1 z (hk _ _ n (scr_ne z) h).2 r)
    (fun h _ r => .wscr h r)
    (fun h => .ref (hix _ _ h))
    (fun h n c m => .lam (hk _ _ n (ok _ _ _ _) h).1 (hk _ _ n (ok _ _ _ _) h).2 (hk _ _ m LamX.codeO_ne c).1 (hk _ _ m LamX.codeO_ne c).2)
    .nil (fun _ _ a b => .cons a b) h
theorem RVs.gen {G : Gx} {ι ι' : Io} {H H' : Hp} (hix : ∀ (n : Nat) a, ι.ix[n]? = some a → ι'.ix[n]? = some a)
    (hk : ∀ a o, a ∉ ι → (∀ ps, o ≠ .tbl ps) → H a = some o → H' a = some o ∧ a ∉ ι') (ok : G.Ok) : ∀ {ds : List Val} {vs : List V}, RVs G ι H vs ds → RVs G ι' H' vs ds
  | [], _, h => by cases h; exact .nil
  | _ :: ds, _, h => by
    cases h with
    | cons h r => exact .cons (h.gen hix hk ok) (RVs.gen hix hk ok r)
/-- it is laid -/
theorem Rep.block (ok : G.Ok) {D : Addr} {vs : List V} (r : Rep G ι μ H) (h : H D = none) : Rep G (ι.block D) μ (upd H D (.lst vs)) ∧
    (∀ {v d}, RV G ι H v d → RV G (ι.block D) (upd H D (.lst vs)) v d) ∧ (∀ {v d}, RVs G ι H v d → RVs G (ι.block D) (upd H D (.lst vs)) v d) := by
  have hk : ∀ a o, a ∉ ι → (∀ ps, o ≠ HO.tbl ps) → H a = some o → upd H D (.lst vs) a = some o ∧ a ∉ ι.block D := fun a o n _ e => ⟨by rw [upd_ne (ne_of_none e h)]; exact e, fun z => by
    rcases z with z | z
    · exact n (.inl z)
    · rcases List.mem_cons.mp z with z | z
      · exact ne_of_none e h z
      · exact n (.inr z)⟩
  have g1 : ∀ {v d}, RV G ι H v d → RV G (ι.block D) (upd H D (.lst vs)) v d := fun h => RV.gen (ι := ι) (ι' := ι.block D) (fun _ _ e => e) hk ok h
  have g2 : ∀ {v d}, RVs G ι H v d → RVs G (ι.block D) (upd H D (.lst vs)) v d := fun h => RVs.gen (ι := ι) (ι' := ι.block D) (fun _ _ e => e) hk ok h
  refine ⟨⟨r.len, r.nd, fun n c a h1 h2 => ?_, fun a ha => ?_, tabs_laid h r.tabs⟩, g1, g2⟩
  · have x := r.at_ n c a h1 h2
    cases c with
    | lst ds =>
      obtain ⟨vs, e, q⟩ := x
      exact ⟨vs, by rw [upd_ne (ne_of_none e h)]; exact e, g2 q⟩
  · rcases List.mem_cons.mp ha with z | z
    · subst z
      exact ⟨Io.nix (ι := ι) (r.fresh h), _, upd_same⟩
    · obtain ⟨z, u, e⟩ := r.nos a z
      exact ⟨z, u, by rw [upd_ne (ne_of_none e h)]; exact e⟩
/-- it is changed -/
theorem Rep.blocked (ok : G.Ok) {D : Addr} {us vs : List V} (r : Rep G (ι.block D) μ H) (hD : H D = some (.lst us)) : Rep G (ι.block D) μ (upd H D (.lst vs)) ∧
    (∀ {v d}, RV G (ι.block D) H v d → RV G (ι.block D) (upd H D (.lst vs)) v d) ∧ (∀ {v d}, RVs G (ι.block D) H v d → RVs G (ι.block D) (upd H D (.lst vs)) v d) := by
  have hno : D ∈ (ι.block D).no := List.mem_cons_self
  have nix : D ∉ ι.ix := (r.nos D hno).1
  have hk : ∀ a o, a ∉ ι.block D → (∀ ps, o ≠ HO.tbl ps) → H a = some o → upd H D (.lst vs) a = some o ∧ a ∉ ι.block D := fun a o n _ e => ⟨by rw [upd_ne (fun z => n (.inr (by rw [z]; exact hno)))]; exact e, n⟩
  have g1 : ∀ {v d}, RV G (ι.block D) H v d → RV G (ι.block D) (upd H D (.lst vs)) v d := fun h => RV.gen (fun _ _ e => e) hk ok h
  have g2 : ∀ {v d}, RVs G (ι.block D) H v d → RVs G (ι.block D) (upd H D (.lst vs)) v d := fun h => RVs.gen (fun _ _ e => e) hk ok h
  refine ⟨⟨r.len, r.nd, fun n c a h1 h2 => ?_, fun a ha => ?_, tabs_put hD r.tabs⟩, g1, g2⟩
  · have x := r.at_ n c a h1 h2
    have na : a ≠ D := fun z => nix (by rw [← z]; exact List.mem_of_getElem? h2)
    cases c with
    | lst ds =>
      obtain ⟨vs, e, q⟩ := x
      exact ⟨vs, by rw [upd_ne na]; exact e, g2 q⟩
  · by_cases z : a = D
    · subst z
      exact ⟨nix, _, upd_same⟩
    · obtain ⟨z1, u, e⟩ := r.nos a ha
      exact ⟨z1, u, by rw [upd_ne z]; exact e⟩
/-- it is made -/
theorem Rep.unblock (ok : G.Ok) {D : Addr} (r : Rep G (ι.block D) μ H) (nD : D ∉ ι.no) : Rep G ι μ H ∧ (∀ {v d}, RV G (ι.block D) H v d → RV G ι H v d) ∧ (∀ {v d}, RVs G (ι.block D) H v d → RVs G ι H v d) ∧ D ∉ ι := by
  have hk : ∀ a o, a ∉ ι.block D → (∀ ps, o ≠ HO.tbl ps) → H a = some o → H a = some o ∧ a ∉ ι := fun a o n _ e => ⟨e, fun z => n (z.imp id (List.mem_cons_of_mem _))⟩
  have g2 : ∀ {v d}, RVs G (ι.block D) H v d → RVs G ι H v d := fun h => RVs.gen (ι := ι.block D) (ι' := ι) (fun _ _ e => e) hk ok h
  refine ⟨⟨r.len, r.nd, fun n c a h1 h2 => ?_, fun a ha => r.nos a (List.mem_cons_of_mem _ ha), r.tabs⟩, fun h => RV.gen (ι := ι.block D) (ι' := ι) (fun _ _ e => e) hk ok h, g2, fun z => ?_⟩
  · have x := r.at_ n c a h1 h2
    cases c with
    | lst ds =>
      obtain ⟨vs, e, q⟩ := x
      exact ⟨vs, e, g2 q⟩
  · rcases z with z | z
    · exact (r.nos D List.mem_cons_self).1 z
    · exact nD z
end

/-- the frame -/
structure RF (G : Gx) (ι : Io) (H : Hp) (σ : L2.St) (ρ : Frame) : Prop where
  len : σ.length = ρ.length
  at_ : ∀ (i : Nat) d, ρ[i]? = some (some d) → ∃ v, σ[i]? = some (some v) ∧ RV G ι H v d
section
variable {G : Gx} {ι ι' : Io} {H H' : Hp} {σ : L2.St} {ρ : Frame}
theorem RF.mono (ok : G.Ok) (e : Ext ι H ι' H') (f : RF G ι H σ ρ) : RF G ι' H' σ ρ := ⟨f.len, fun i d h => by
  obtain ⟨v, h1, h2⟩ := f.at_ i d h
  exact ⟨v, h1, h2.mono ok e⟩⟩
theorem RF.set {i : Nat} {v : V} {d : Val} (f : RF G ι H σ ρ) (x : RV G ι H v d) : RF G ι H (σ.set i (some v)) (ρ.set i (some d)) := ⟨by simp [f.len], fun j e h => by
  by_cases z : i = j
  · subst z
    by_cases hl : i < ρ.length
    · rw [List.getElem?_set_self hl] at h
      cases h
      exact ⟨v, by rw [List.getElem?_set_self (by rw [f.len]; exact hl)], x⟩
    · rw [List.getElem?_eq_none (by simp; omega)] at h; cases h
  · rw [List.getElem?_set_ne z] at h
    obtain ⟨u, h1, h2⟩ := f.at_ j e h
    exact ⟨u, by rw [List.getElem?_set_ne z]; exact h1, h2⟩⟩
theorem RF.start {N : List Str} {vs : List V} {ds : List Val} (r : RVs G ι H vs ds) : RF G ι H (L2.start N vs) (frame0 N ds) := ⟨by simp [L2.start, frame0, r.length], fun i d h => by
  unfold frame0 at h
  unfold L2.start
  by_cases hi : i < ds.length
  · rw [List.getElem?_append_left (by simpa using hi), List.getElem?_map] at h
    cases e : ds[i]? with
    | none => rw [e] at h; cases h
    | some d' =>
      rw [e] at h
      cases h
      obtain ⟨v, h1, h2⟩ := r.get e
      exact ⟨v, by rw [List.getElem?_append_left (by simp [r.length]; exact hi), List.getElem?_map, h1]; rfl, h2⟩
  · rw [List.getElem?_append_right (by simpa using hi), List.getElem?_replicate] at h
    split at h <;> cases h⟩
end

/-- an exception: its class, its fields -/
inductive RFs (G : Gx) (ι : Io) (H : Hp) : List (Str × V) → List (Str × Val) → Prop
  | nil : RFs G ι H [] []
  | cons {x : Str} {v : V} {vs : List (Str × V)} {d : Val} {ds : List (Str × Val)} : RV G ι H v d → RFs G ι H vs ds → RFs G ι H ((x, v) :: vs) ((x, d) :: ds)
theorem RFs.mono {G : Gx} {ι ι' : Io} {H H' : Hp} (ok : G.Ok) (e : Ext ι H ι' H') : ∀ {ds : List (Str × Val)} {vs : List (Str × V)}, RFs G ι H vs ds → RFs G ι' H' vs ds
  | [], _, h => by cases h; exact .nil
  | _ :: ds, _, h => by
    cases h with
    | cons h r => exact .cons (h.mono ok e) (RFs.mono ok e r)
def RX (G : Gx) (ι : Io) (H : Hp) (cls : Value) (d : Option Addr) (e : Exn) : Prop :=
  ∃ C, G.mg e.cls = some (.ref C) ∧ cls = .ref C ∧ ((d = none ∧ e.fs = []) ∨ ∃ dx vs, d = some dx ∧ dx ∉ ι ∧ H dx = some (.xd vs) ∧ RFs G ι H vs e.fs)
theorem RX.mono {G : Gx} {ι ι' : Io} {H H' : Hp} (ok : G.Ok) (e : Ext ι H ι' H') {cls : Value} {d : Option Addr} {x : Exn} (h : RX G ι H cls d x) : RX G ι' H' cls d x := by
  obtain ⟨C, h1, h2, h3⟩ := h
  refine ⟨C, h1, h2, ?_⟩
  rcases h3 with h | ⟨dx, vs, a, b, c, r⟩
  · exact .inl h
  · exact .inr ⟨dx, vs, a, e.out c b, e.keep _ _ (Io.nix b) xd_ne c, r.mono ok e⟩

/-- what is asked of an end -/
def Post (G : Gx) (W : WX) (σ : L2.St) {α : Type} {β : Type} (R : Io → Hp → β → α → Prop) (ι : Io) (H : Hp) (Q : β → Hp → Prop) : Out α → Prop
  | .ok d μ' => ∀ ι' H' v, Ext ι H ι' H' → Rep G ι' μ' H' → R ι' H' v d → Q v H'
  | .ex x μ' => ∀ ι' H' cls d, Ext ι H ι' H' → Rep G ι' μ' H' → RX G ι' H' cls d x → W cls d σ H'
  | .bad => False
abbrev PostV (G : Gx) (W : WX) (σ : L2.St) := Post G W σ (RV G)
abbrev PostA (G : Gx) (W : WX) (σ : L2.St) := Post G W σ (RVs G)
section
variable {G : Gx} {W : WX} {σ : L2.St} {α β γ δ : Type} {R : Io → Hp → β → α → Prop} {R' : Io → Hp → δ → γ → Prop} {ι ι1 : Io} {H H1 : Hp}
theorem Post.mono {Q : β → Hp → Prop} {o : Out α} (e : Ext ι H ι1 H1) (h : Post G W σ R ι H Q o) : Post G W σ R ι1 H1 Q o := by
  cases o with
  | ok d μ => exact fun ι' H' v e' r q => h ι' H' v (e.trans e') r q
  | ex x μ => exact fun ι' H' c d e' r q => h ι' H' c d (e.trans e') r q
  | bad => exact h
theorem Post.bind {Q : δ → Hp → Prop} {o : Out α} {f : α → Mem → Out γ} (h : Post G W σ R' ι H Q (o.bind f)) :
    Post G W σ R ι H (fun v H1 => ∃ ι1 μ1 d, Ext ι H ι1 H1 ∧ Rep G ι1 μ1 H1 ∧ R ι1 H1 v d ∧ Post G W σ R' ι1 H1 Q (f d μ1)) o := by
  cases o with
  | ok d μ => exact fun ι' H' v e r q => ⟨ι', μ, d, e, r, q, Post.mono e h⟩
  | ex x μ => exact h
  | bad => exact h
theorem Post.imp {Q Q' : β → Hp → Prop} {o : Out α} (h : Post G W σ R ι H Q o) (i : ∀ v H, Q v H → Q' v H) : Post G W σ R ι H Q' o := by
  cases o with
  | ok d μ => exact fun ι' H' v e r q => i _ _ (h ι' H' v e r q)
  | ex x μ => exact h
  | bad => exact h
end
end MP

set_option maxHeartbeats 1000000
/-! The operations on values. -/
namespace MP
open PySem PySem.Spec PyProof.Rows L2

def OpV (G : Gx) (X : Cx) (f : Value → Value → Sem Value) (sem : Val → Val → Mem → Out Val) : Prop :=
  ∀ (W : WX) (pins : List (Addr × Obj)) (s : Shared) (σ : L2.St) (H : Hp) (x y : V) (v u : Value) (Q : VK) (ι : Io) (μ : Mem) (d e : Val), Inv X pins σ H s → RelV x v → RelV y u → Rep G ι μ H → RV G ι H x d → RV G ι H y e →
    PostV G W σ ι H Q (sem d e μ) → wpAny (model X.prog X.w) X.A (f v u) (EP X pins σ Q) X.xe s
def CallV (G : Gx) (X : Cx) (f : Value) (sem : List Val → Mem → Out Val) : Prop :=
  ∀ (W : WX) (pins : List (Addr × Obj)) (s : Shared) (σ : L2.St) (H : Hp) (xs : List V) (us : List Value) (Q : VK) (ι : Io) (μ : Mem) (ds : List Val), Inv X pins σ H s → Vals xs us → Rep G ι μ H → RVs G ι H xs ds →
    PostV G W σ ι H Q (sem ds μ) → wpAny (model X.prog X.w) X.A (call f us) (EP X pins σ Q) X.xe s

section
variable {G : Gx} {X : Cx} {ι : Io} {H : Hp} {μ : Mem}
theorem RV.sqT (eK : X.K = G.K) {a : Addr} {ds : List Val} (h : RV G ι H (.ref a) (.tup ds)) : ∃ vs, SqT X.K H a vs ∧ RVs G ι H vs ds := by
  cases h with
  | tup h n r => exact ⟨_, SqT.of h, r⟩
  | wtup h r =>
    obtain ⟨o, its, n, h1, h2, h3, h4, h5⟩ := h
    exact ⟨_, .inr ⟨o, its, n, by rw [eK]; exact h1, h2, h3, h4, h5⟩, r⟩
theorem RV.ref_tup {v : V} {ds : List Val} (h : RV G ι H v (.tup ds)) : ∃ a, v = .ref a := by
  cases h <;> exact ⟨_, rfl⟩
theorem RV.lstA {v : V} {ds : List Val} (h : RV G ι H v (.lst ds)) : ∃ a vs, v = .ref a ∧ H a = some (.lst vs) ∧ a ∉ ι ∧ RVs G ι H vs ds := by
  cases h with
  | lst h n r => exact ⟨_, _, rfl, h, n, r⟩
theorem RV.scrA (eK : X.K = G.K) {v : V} {ds : List Val} (h : RV G ι H v (.scr ds)) : ∃ a vs, v = .ref a ∧ SqL X.K H a vs ∧ RVs G ι H vs ds := by
  cases h with
  | scr h z n r =>
    rcases z with rfl | ⟨b, rfl⟩
    · exact ⟨_, _, rfl, .inl (.inl h), r⟩
    · exact ⟨_, _, rfl, .inl (.inr ⟨_, h⟩), r⟩
  | wscr h r =>
    obtain ⟨o, its, n, h1, h2, h3, h4, h5, h6⟩ := h
    exact ⟨_, _, rfl, .inr ⟨o, its, n, by rw [eK]; exact h1, h2, h3, h4, h5, h6⟩, r⟩
theorem RV.refA {v : V} {n : Nat} (h : RV G ι H v (.ref n)) : ∃ a, v = .ref a ∧ ι.ix[n]? = some a := by
  cases h with
  | ref h => exact ⟨_, rfl, h⟩
theorem RVs.nil_iff {vs : List V} {ds : List Val} (h : RVs G ι H vs ds) : vs = [] ↔ ds = [] := by
  cases h <;> simp
theorem RVs.isEmpty {vs : List V} {ds : List Val} (h : RVs G ι H vs ds) : vs.isEmpty = ds.isEmpty := by
  cases h <;> rfl
/-- a row that is read -/
theorem RV.items (eK : X.K = G.K) {v : V} {d : Val} {ds : List Val} (rep : Rep G ι μ H) (h : RV G ι H v d) (e : itemsOf d μ = some ds) : ∃ a vs, v = .ref a ∧ (SqL X.K H a vs ∨ SqT X.K H a vs) ∧ RVs G ι H vs ds := by
  cases d with
  | tup xs =>
    cases e
    obtain ⟨a, rfl⟩ := h.ref_tup
    obtain ⟨vs, s, r⟩ := h.sqT eK
    exact ⟨a, vs, rfl, .inr s, r⟩
  | lst xs =>
    cases e
    obtain ⟨a, vs, rfl, s, _, r⟩ := h.lstA
    exact ⟨a, vs, rfl, .inl (SqL.of s), r⟩
  | scr xs =>
    cases e
    obtain ⟨a, vs, rfl, s, r⟩ := h.scrA (X := X) eK
    exact ⟨a, vs, rfl, .inl s, r⟩
  | ref n =>
    obtain ⟨a, rfl, hn⟩ := h.refA
    have e : (match μ[n]? with | some (.lst xs) => some xs | none => none) = some ds := e
    cases hm : μ[n]? with
    | none => rw [hm] at e; cases e
    | some c =>
      rw [hm] at e
      cases c with
      | lst xs =>
        cases e
        obtain ⟨vs, s, r⟩ := rep.at_ n _ a hm hn
        exact ⟨a, vs, rfl, .inl (SqL.of s), r⟩
  | _ => cases e
theorem RVs.atI {vs : List V} {ds : List Val} (r : RVs G ι H vs ds) {i : Int} {d : Val} (h : L2.atI ds i = some d) : ∃ v, L2.atI vs i = some v ∧ RV G ι H v d := by
  unfold L2.atI at h ⊢
  rw [r.length]
  cases e : ixN ds.length i with
  | none => rw [e] at h; cases h
  | some j =>
    rw [e] at h
    exact r.get h
/-- data -/
theorem RV.dp (eK : X.K = G.K) : ∀ {d : Val} {v : V} {p : PyData}, RV G ι H v d → dat d = some p → Dp X.K H v p := by
  intro d v p h
  refine RV.rec (motive_1 := fun v d _ => ∀ p, dat d = some p → Dp X.K H v p) (motive_2 := fun vs ds _ => ∀ ps, dat.dats ds = some ps → DpAll X.K H vs ps) ?_ ?_ ?_ ?_ ?_ ?_ ?_ ?_ ?_ ?_ ?_ ?_ ?_ h p
  · intro p e; simp only [dat] at e; cases e; exact .non
  · intro b p e; simp only [dat] at e; cases e; exact .bl b
  · intro b p e; simp only [dat] at e; cases e; exact .int b
  · intro b p e; simp only [dat] at e; cases e; exact .str b
  · intro a vs ds h n r ih p e
    simp only [dat, Option.map_eq_some_iff] at e
    obtain ⟨ps, e1, rfl⟩ := e
    exact .tup (SqT.of h) (ih ps e1)
  · intro a vs ds h r ih p e
    simp only [dat, Option.map_eq_some_iff] at e
    obtain ⟨ps, e1, rfl⟩ := e
    obtain ⟨o, its, n, h1, h2, h3, h4, h5⟩ := h
    exact .tup (.inr ⟨o, its, n, by rw [eK]; exact h1, h2, h3, h4, h5⟩) (ih ps e1)
  · intro a vs ds h n r ih p e
    simp only [dat, Option.map_eq_some_iff] at e
    obtain ⟨ps, e1, rfl⟩ := e
    exact .lst (SqL.of h) (ih ps e1)
  · intro a o vs ds h z n r ih p e; simp only [dat] at e; cases e
  · intro a vs ds h r ih p e; simp only [dat] at e; cases e
  · intro n a h p e; simp only [dat] at e; cases e
  · intro l a c q h n h2 n2 p e; simp only [dat] at e; cases e
  · intro ps e; simp only [dat.dats] at e; cases e; exact .nil
  · intro v vs d ds h r ih1 ih2 ps e
    simp only [dat.dats] at e
    cases e1 : dat d with
    | none => rw [e1] at e; cases e
    | some p1 =>
      cases e2 : dat.dats ds with
      | none => rw [e1, e2] at e; cases e
      | some p2 =>
        rw [e1, e2] at e
        cases e
        exact .cons (ih1 _ e1) (ih2 _ e2)
theorem RV.toV {v : V} {d : Val} (h : RV G ι H v d) (f : flat d = true) : v = toV d ∧ flatV v = true := by
  cases h <;> first | exact ⟨rfl, rfl⟩ | cases f
theorem RVs.toV : ∀ {ds : List Val} {vs : List V}, RVs G ι H vs ds → ds.all flat = true → vs = ds.map MP.toV ∧ vs.all flatV = true
  | [], _, h, _ => by cases h; exact ⟨rfl, rfl⟩
  | d :: ds, _, h, f => by
    cases h with
    | cons h r =>
      simp only [List.all_cons, Bool.and_eq_true] at f
      obtain ⟨e1, e2⟩ := h.toV f.1
      obtain ⟨e3, e4⟩ := RVs.toV r f.2
      exact ⟨by rw [e1, e3]; rfl, by simp [e2, e4]⟩
theorem RVs.ints : ∀ {ds : List Val} {vs : List V} {ns : List Int}, RVs G ι H vs ds → intsV ds = some ns → vs = ns.map V.int
  | [], _, _, h, e => by cases h; simp only [intsV] at e; cases e; rfl
  | d :: ds, _, ns, h, e => by
    cases h with
    | cons h r =>
      cases d with
      | int i =>
        simp only [intsV, Option.map_eq_some_iff] at e
        obtain ⟨ms, e1, rfl⟩ := e
        cases h
        rw [RVs.ints r e1]; rfl
      | _ => simp only [intsV] at e; cases e
theorem RVs.bools : ∀ {ds : List Val} {vs : List V} {ns : List Bool}, RVs G ι H vs ds → boolsV ds = some ns → vs = ns.map V.bl
  | [], _, _, h, e => by cases h; simp only [boolsV] at e; cases e; rfl
  | d :: ds, _, ns, h, e => by
    cases h with
    | cons h r =>
      cases d with
      | bl i =>
        simp only [boolsV, Option.map_eq_some_iff] at e
        obtain ⟨ms, e1, rfl⟩ := e
        cases h
        rw [RVs.bools r e1]; rfl
      | _ => simp only [boolsV] at e; cases e
end

section
variable {G : Gx} {X : Cx}
theorem opv_add (ok : G.Ok) (eK : X.K = G.K) : OpV G X (binaryOp .Add) (binop .add) := by
  intro W pins s σ H x y v u Q ι μ d e I rx ry rep hx hy p
  cases d with
  | int i => cases e with
    | int j =>
      cases hx; cases hy
      exact op_add pins s σ H _ _ v u Q I rx ry ⟨i, j, rfl, rfl, p ι H _ (Ext.refl _ _) rep (.int _)⟩
    | _ => exact False.elim p
  | str i => cases e with
    | str j =>
      cases hx; cases hy
      simp only [binop] at p
      split at p
      · rename_i hl
        exact op_add_str pins s σ H _ _ v u Q I rx ry ⟨i, j, rfl, rfl, hl, p ι H _ (Ext.refl _ _) rep (.str _)⟩
      · exact False.elim p
    | _ => exact False.elim p
  | tup xs => cases e with
    | tup ys =>
      simp only [binop] at p
      split at p
      · rename_i hl
        obtain ⟨a, rfl⟩ := hx.ref_tup
        obtain ⟨b, rfl⟩ := hy.ref_tup
        obtain ⟨vs, sa, ra⟩ := hx.sqT eK
        obtain ⟨us, sb, rb⟩ := hy.sqT eK
        refine op_catA pins s σ H _ _ v u Q I rx ry ⟨a, b, vs, us, rfl, rfl, sa, sb, by rw [ra.length, rb.length]; exact hl, fun z => ?_, fun _ z => ?_, fun _ _ q hq => ?_⟩
        · have z2 := ra.nil_iff.mp z
          subst z2
          exact p ι H _ (Ext.refl _ _) rep hy
        · have z2 := rb.nil_iff.mp z
          subst z2
          exact p ι H _ (Ext.refl _ _) rep (by rw [List.append_nil]; exact hx)
        · exact p ι _ _ (Ext.laid hq) (rep.laid ok tup_ne hq) (.tup upd_same (rep.fresh hq) ((ra.append rb).mono ok (Ext.laid hq)))
      · exact False.elim p
    | _ => exact False.elim p
  | lst xs => cases e with
    | lst ys =>
      simp only [binop] at p
      split at p
      · rename_i hl
        obtain ⟨a, vs, rfl, sa, na, ra⟩ := hx.lstA
        obtain ⟨b, us, rfl, sb, nb, rb⟩ := hy.lstA
        refine op_cat pins s σ H _ _ v u Q I rx ry ⟨a, b, vs, us, rfl, rfl, sa, sb, by rw [ra.length, rb.length]; exact hl, fun q hq => ?_⟩
        exact p ι _ _ (Ext.laid hq) (rep.laid ok lst_ne hq) (.lst upd_same (rep.fresh hq) ((ra.append rb).mono ok (Ext.laid hq)))
      · exact False.elim p
    | _ => exact False.elim p
  | _ => exact False.elim p
theorem opv_int {f : Value → Value → Sem Value} {op : Bop} {C : Int → Int → Prop} {g : Int → Int → Int} (h : OpR X f (rI C fun i j => .int (g i j)))
    (hb : ∀ d e μ, binop op d e μ = .bad ∨ ∃ i j, d = .int i ∧ e = .int j ∧ C i j ∧ binop op d e μ = .ok (.int (g i j)) μ) : OpV G X f (binop op) := by
  intro W pins s σ H x y v u Q ι μ d e I rx ry rep hx hy p
  rcases hb d e μ with z | ⟨i, j, rfl, rfl, c, z⟩
  · rw [z] at p; exact False.elim p
  · rw [z] at p
    cases hx; cases hy
    exact h pins s σ H _ _ v u Q I rx ry ⟨i, j, rfl, rfl, c, p ι H _ (Ext.refl _ _) rep (.int _)⟩
theorem op_powG : OpR X (binaryOp .Pow) (rI (fun i j => 0 ≤ j ∧ (Builtin.Int.intBits i : Int) * j ≤ 2 ^ 27) fun i j => .int (i ^ j.toNat)) := opI fun _ _ _ _ _ _ _ hc q => pow_int hc.1 hc.2 q
theorem opv_bin (ok : G.Ok) (eK : X.K = G.K) : ∀ op : Bop, OpV G X (binaryOp (match op with | .add => .Add | .sub => .Sub | .mul => .Mult | .fdiv => .FloorDiv | .mod => .Mod | .pow => .Pow)) (binop op)
  | .add => opv_add ok eK
  | .sub => opv_int (C := fun _ _ => True) (g := fun i j => i - j) (fun pins s σ H x y v u Q I rx ry ⟨i, j, a, b, _, q⟩ => op_sub pins s σ H x y v u Q I rx ry ⟨i, j, a, b, q⟩) fun d e μ => by
      cases d <;> cases e <;> first | exact .inl rfl | exact .inr ⟨_, _, rfl, rfl, trivial, rfl⟩
  | .mul => opv_int (g := fun i j => i * j) op_mulW fun d e μ => by
      cases d <;> cases e <;> first | exact .inl rfl | skip
      rename_i i j
      simp only [binop]
      split
      · rename_i h; exact .inr ⟨_, _, rfl, rfl, h, rfl⟩
      · exact .inl rfl
  | .fdiv => opv_int (g := fun i j => i / j) op_fdivW fun d e μ => by
      cases d <;> cases e <;> first | exact .inl rfl | skip
      rename_i i j
      simp only [binop]
      split
      · rename_i h; exact .inr ⟨_, _, rfl, rfl, h, rfl⟩
      · exact .inl rfl
  | .mod => opv_int (g := fun i j => i % j) op_mod fun d e μ => by
      cases d <;> cases e <;> first | exact .inl rfl | skip
      rename_i i j
      simp only [binop]
      split
      · rename_i h; exact .inr ⟨_, _, rfl, rfl, h, rfl⟩
      · exact .inl rfl
  | .pow => opv_int (g := fun i j => i ^ j.toNat) op_powG fun d e μ => by
      cases d <;> cases e <;> first | exact .inl rfl | skip
      rename_i i j
      simp only [binop]
      split
      · rename_i h; exact .inr ⟨_, _, rfl, rfl, h, rfl⟩
      · exact .inl rfl
/-- a comparison whose answer is a truth value that hangs on the values alone -/
theorem opv_ob {f : Value → Value → Sem Value} {g : Val → Val → Option Bool} (h : ∀ (pins : List (Addr × Obj)) (s : Shared) (σ : L2.St) (H : Hp) (x y : V) (v u : Value) (Q : VK) (ι : Io) (μ : Mem) (d e : Val) (b : Bool), Inv X pins σ H s → RelV x v → RelV y u → Rep G ι μ H →
    RV G ι H x d → RV G ι H y e → g d e = some b → Q (.bl b) H → wpAny (model X.prog X.w) X.A (f v u) (EP X pins σ Q) X.xe s) : OpV G X f (fun d e μ => ob (g d e) μ) := by
  intro W pins s σ H x y v u Q ι μ d e I rx ry rep hx hy p
  cases z : g d e with
  | none => simp only [z, ob] at p; exact False.elim p
  | some b =>
    simp only [z, ob] at p
    exact h pins s σ H x y v u Q ι μ d e b I rx ry rep hx hy z (p ι H _ (Ext.refl _ _) rep (.bl _))
theorem dec_str {a b : Str} : decide (V.str a = V.str b) = decide (a = b) := by
  rw [Bool.eq_iff_iff]; simp
theorem eqV_dat {d e : Val} {b : Bool} (h : eqV d e = some b) : (∃ x y, d = .str x ∧ e = .str y ∧ b = decide (x = y)) ∨ (∃ x y, d = .int x ∧ e = .int y ∧ b = decide (x = y)) ∨ (∃ x y, d = .bl x ∧ e = .bl y ∧ b = decide (x = y)) ∨
    ∃ p q, dat d = some p ∧ dat e = some q ∧ SeqAt.shaped p = true ∧ SeqAt.shaped q = true ∧ b = PyData.eqv p q := by
  unfold eqV at h
  split at h
  · exact .inl ⟨_, _, rfl, rfl, (Option.some.inj h).symm⟩
  · exact .inr (.inl ⟨_, _, rfl, rfl, (Option.some.inj h).symm⟩)
  · exact .inr (.inr (.inl ⟨_, _, rfl, rfl, (Option.some.inj h).symm⟩))
  · split at h
    · split at h
      · rename_i p q e1 e2 hs
        simp only [Bool.and_eq_true] at hs
        exact .inr (.inr (.inr ⟨p, q, e1, e2, hs.1, hs.2, (Option.some.inj h).symm⟩))
      · cases h
    · cases h
theorem opv_eq (eK : X.K = G.K) (hu : X.A.units + 64 < cLine) : OpV G X (compareOp .Eq) (cmpop .eq) := by
  have z : cmpop .eq = fun d e μ => ob (eqV d e) μ := by funext d e μ; cases d <;> rfl
  rw [z]
  refine opv_ob fun pins s σ H x y v u Q ι μ d e b I rx ry rep hx hy hb q => ?_
  rcases eqV_dat hb with ⟨i, j, rfl, rfl, rfl⟩ | ⟨i, j, rfl, rfl, rfl⟩ | ⟨i, j, rfl, rfl, rfl⟩ | ⟨p1, p2, e1, e2, s1, s2, rfl⟩
  · cases hx; cases hy
    exact op_eq pins s σ H _ _ v u Q I rx ry ⟨rfl, by rw [dec_str]; exact q⟩
  · cases hx; cases hy
    exact op_eq pins s σ H _ _ v u Q I rx ry ⟨rfl, by rw [dec_int, Bool.beq_eq_decide_eq]; exact q⟩
  · cases hx; cases hy
    exact op_eq pins s σ H _ _ v u Q I rx ry ⟨rfl, by rw [dec_bl, Bool.beq_eq_decide_eq]; exact q⟩
  · exact op_eqD hu pins s σ H _ _ v u Q I rx ry ⟨p1, p2, hx.dp eK e1, hy.dp eK e2, s1, s2, q⟩
theorem opv_ne (eK : X.K = G.K) (hu : X.A.units + 64 < cLine) : OpV G X (compareOp .NotEq) (cmpop .ne) := by
  have z : cmpop .ne = fun d e μ => ob ((eqV d e).map (!·)) μ := by funext d e μ; cases d <;> rfl
  rw [z]
  refine opv_ob fun pins s σ H x y v u Q ι μ d e b I rx ry rep hx hy hb q => ?_
  rw [Option.map_eq_some_iff] at hb
  obtain ⟨c, hc, rfl⟩ := hb
  rcases eqV_dat hc with ⟨i, j, rfl, rfl, rfl⟩ | ⟨i, j, rfl, rfl, rfl⟩ | ⟨i, j, rfl, rfl, rfl⟩ | ⟨p1, p2, e1, e2, s1, s2, rfl⟩
  · cases hx; cases hy
    exact op_ne pins s σ H _ _ v u Q I rx ry ⟨rfl, by rw [dec_str]; exact q⟩
  · cases hx; cases hy
    exact op_ne pins s σ H _ _ v u Q I rx ry ⟨rfl, by rw [dec_int, Bool.beq_eq_decide_eq]; exact q⟩
  · cases hx; cases hy
    exact op_ne pins s σ H _ _ v u Q I rx ry ⟨rfl, by rw [dec_bl, Bool.beq_eq_decide_eq]; exact q⟩
  · exact op_neD hu pins s σ H _ _ v u Q I rx ry ⟨p1, p2, hx.dp eK e1, hy.dp eK e2, s1, s2, q⟩
theorem opv_cI {f : Value → Value → Sem Value} {op : Cop} {g : Int → Int → Bool} (h : OpR X f (rI0 fun i j => .bl (g i j)))
    (hb : ∀ d e μ, cmpop op d e μ = .bad ∨ ∃ i j, d = .int i ∧ e = .int j ∧ cmpop op d e μ = .ok (.bl (g i j)) μ) : OpV G X f (cmpop op) := by
  intro W pins s σ H x y v u Q ι μ d e I rx ry rep hx hy p
  rcases hb d e μ with z | ⟨i, j, rfl, rfl, z⟩
  · rw [z] at p; exact False.elim p
  · rw [z] at p
    cases hx; cases hy
    exact h pins s σ H _ _ v u Q I rx ry ⟨i, j, rfl, rfl, p ι H _ (Ext.refl _ _) rep (.bl _)⟩
theorem RV.isNon {ι : Io} {H : Hp} {v : V} {d : Val} {b : Bool} (h : RV G ι H v d) (e : isNon d = some b) : decide (v = .non) = b := by
  cases h <;> simp only [MP.isNon] at e <;> cases e <;> simp
theorem opv_isN : OpV G X (compareOp .Is) (cmpop .isN) := by
  intro W pins s σ H x y v u Q ι μ d e I rx ry rep hx hy p
  cases e with
  | non =>
    have p : PostV G W σ ι H Q (ob (isNon d) μ) := by cases d <;> exact p
    cases z : isNon d with
    | none => simp only [z, ob] at p; exact False.elim p
    | some b =>
      simp only [z, ob] at p
      cases hy
      exact op_isN pins s σ H _ _ v u Q I rx ry ⟨rfl, by rw [hx.isNon z]; exact p ι H _ (Ext.refl _ _) rep (.bl _)⟩
  | _ => cases d <;> exact False.elim p
theorem opv_notN : OpV G X (compareOp .IsNot) (cmpop .notN) := by
  intro W pins s σ H x y v u Q ι μ d e I rx ry rep hx hy p
  cases e with
  | non =>
    have p : PostV G W σ ι H Q (ob ((isNon d).map (!·)) μ) := by cases d <;> exact p
    cases z : isNon d with
    | none => simp only [z, ob, Option.map] at p; exact False.elim p
    | some b =>
      simp only [z, ob, Option.map] at p
      cases hy
      exact op_notN pins s σ H _ _ v u Q I rx ry ⟨rfl, by rw [hx.isNon z]; exact p ι H _ (Ext.refl _ _) rep (.bl _)⟩
  | _ => cases d <;> exact False.elim p
theorem opv_isB : OpV G X (compareOp .Is) (cmpop .isB) := by
  intro W pins s σ H x y v u Q ι μ d e I rx ry rep hx hy p
  cases d with
  | bl a => cases e with
    | bl b =>
      cases hx; cases hy
      exact op_isBl pins s σ H _ _ v u Q I rx ry ⟨a, b, rfl, rfl, p ι H _ (Ext.refl _ _) rep (.bl _)⟩
    | _ => exact False.elim p
  | _ => cases e <;> exact False.elim p
theorem opv_notB : OpV G X (compareOp .IsNot) (cmpop .notB) := by
  intro W pins s σ H x y v u Q ι μ d e I rx ry rep hx hy p
  cases d with
  | bl a => cases e with
    | bl b =>
      cases hx; cases hy
      exact op_notBl pins s σ H _ _ v u Q I rx ry ⟨a, b, rfl, rfl, p ι H _ (Ext.refl _ _) rep (.bl _)⟩
    | _ => exact False.elim p
  | _ => cases e <;> exact False.elim p
theorem inV_of {ι : Io} {H : Hp} {x : V} {vs : List V} {d : Val} {ds : List Val} {b : Bool} (hx : RV G ι H x d) (r : RVs G ι H vs ds) (e : inV d ds = some b) : flatV x = true ∧ vs.all flatV = true ∧ L2.inV x vs = b := by
  unfold inV at e
  split at e
  · rename_i hs
    simp only [Bool.and_eq_true] at hs
    obtain ⟨e1, f1⟩ := hx.toV hs.1
    obtain ⟨e2, f2⟩ := r.toV hs.2
    refine ⟨f1, f2, ?_⟩
    rw [← Option.some.inj e, e1, e2]
    unfold L2.inV
    rw [List.any_map]
    rfl
  · cases e
theorem opv_in (eK : X.K = G.K) : OpV G X (compareOp .In) (cmpop .isIn) := by
  intro W pins s σ H x y v u Q ι μ d e I rx ry rep hx hy p
  have key : ∀ ds, itemsOf e μ = some ds → PostV G W σ ι H Q (ob (inV d ds) μ) → wpAny (model X.prog X.w) X.A (compareOp .In v u) (EP X pins σ Q) X.xe s := fun ds he p => by
    obtain ⟨a, vs, rfl, sq, r⟩ := hy.items (X := X) eK rep he
    cases z : inV d ds with
    | none => simp only [z, ob] at p; exact False.elim p
    | some b =>
      simp only [z, ob] at p
      obtain ⟨f1, f2, f3⟩ := inV_of hx r z
      exact op_in_seq pins s σ H _ _ v u Q I rx ry ⟨a, vs, rfl, sq, f1, f2, by simp only [Bool.false_eq_true, if_false]; rw [f3]; exact p ι H _ (Ext.refl _ _) rep (.bl _)⟩
  cases e with
  | tup ds => exact key ds rfl (by cases d <;> exact p)
  | lst ds => exact key ds rfl (by cases d <;> exact p)
  | _ => cases d <;> exact False.elim p
theorem opv_notIn (eK : X.K = G.K) : OpV G X (compareOp .NotIn) (cmpop .notIn) := by
  intro W pins s σ H x y v u Q ι μ d e I rx ry rep hx hy p
  have key : ∀ ds, itemsOf e μ = some ds → PostV G W σ ι H Q (ob ((inV d ds).map (!·)) μ) → wpAny (model X.prog X.w) X.A (compareOp .NotIn v u) (EP X pins σ Q) X.xe s := fun ds he p => by
    obtain ⟨a, vs, rfl, sq, r⟩ := hy.items (X := X) eK rep he
    cases z : inV d ds with
    | none => simp only [z, ob, Option.map] at p; exact False.elim p
    | some b =>
      simp only [z, ob, Option.map] at p
      obtain ⟨f1, f2, f3⟩ := inV_of hx r z
      exact op_notIn_seq pins s σ H _ _ v u Q I rx ry ⟨a, vs, rfl, sq, f1, f2, by simp only [if_true]; rw [f3]; exact p ι H _ (Ext.refl _ _) rep (.bl _)⟩
  cases e with
  | tup ds => exact key ds rfl (by cases d <;> exact p)
  | lst ds => exact key ds rfl (by cases d <;> exact p)
  | _ => cases d <;> exact False.elim p
def cOp : Cop → CmpOp
  | .eq => .Eq | .ne => .NotEq | .lt => .Lt | .le => .LtE | .gt => .Gt | .ge => .GtE
  | .isN => .Is | .notN => .IsNot | .isB => .Is | .notB => .IsNot | .isIn => .In | .notIn => .NotIn
def bOp : Bop → Operator
  | .add => .Add | .sub => .Sub | .mul => .Mult | .fdiv => .FloorDiv | .mod => .Mod | .pow => .Pow
theorem opv_cmp (eK : X.K = G.K) (hu : X.A.units + 64 < cLine) : ∀ op : Cop, OpV G X (compareOp (cOp op)) (cmpop op)
  | .eq => opv_eq eK hu
  | .ne => opv_ne eK hu
  | .lt => opv_cI op_lt fun d e μ => by cases d <;> cases e <;> first | exact .inl rfl | exact .inr ⟨_, _, rfl, rfl, rfl⟩
  | .le => opv_cI op_le fun d e μ => by cases d <;> cases e <;> first | exact .inl rfl | exact .inr ⟨_, _, rfl, rfl, rfl⟩
  | .gt => opv_cI op_gt fun d e μ => by cases d <;> cases e <;> first | exact .inl rfl | exact .inr ⟨_, _, rfl, rfl, rfl⟩
  | .ge => opv_cI op_ge fun d e μ => by cases d <;> cases e <;> first | exact .inl rfl | exact .inr ⟨_, _, rfl, rfl, rfl⟩
  | .isN => opv_isN
  | .notN => opv_notN
  | .isB => opv_isB
  | .notB => opv_notB
  | .isIn => opv_in eK
  | .notIn => opv_notIn eK
end
end MP

set_option maxHeartbeats 1000000
/-! Built-in functions. -/
namespace MP
open PySem PySem.Spec PyProof.Rows L2
def tyS : Ty → String
  | .int => "int" | .bool => "bool" | .str => "str" | .tup => "tuple" | .lst => "list" | .dct => "dict"
section
variable {G : Gx} {X : Cx}
theorem kit_non (t : Ty) : kitB "NoneType" (tyS t) = some false := by cases t <;> decide +kernel
theorem kit_bl (t : Ty) : kitB "bool" (tyS t) = some (decide (t = .bool) || decide (t = .int)) := by cases t <;> decide +kernel
theorem kit_int (t : Ty) : kitB "int" (tyS t) = some (decide (t = .int)) := by cases t <;> decide +kernel
theorem kit_str (t : Ty) : kitB "str" (tyS t) = some (decide (t = .str)) := by cases t <;> decide +kernel
theorem kit_tup (t : Ty) : kitB "tuple" (tyS t) = some (decide (t = .tup)) := by cases t <;> decide +kernel
theorem kit_lst (t : Ty) : kitB "list" (tyS t) = some (decide (t = .lst)) := by cases t <;> decide +kernel
/-- isinstance(x, T) -/
theorem isi_ok (eK : X.K = G.K) {W : WX} {pins : List (Addr × Obj)} {s : Shared} {σ : L2.St} {H : Hp} {x : V} {v : Value} {Q : VK} {ι : Io} {μ : Mem} {d : Val} (t : Ty) (I : Inv X pins σ H s) (rx : RelV x v) (rep : Rep G ι μ H) (hx : RV G ι H x d)
    (p : PostV G W σ ι H Q (ob (isiV t d) μ)) : wpAny (model X.prog X.w) X.A (call (.builtin "isinstance") [v, .type (tyS t)]) (EP X pins σ Q) X.xe s := by
  have key : ∀ (tv : String) (b : Bool), TyX X.K H x (.type tv) → kitB tv (tyS t) = some b → isiV t d = some b → wpAny (model X.prog X.w) X.A (call (.builtin "isinstance") [v, .type (tyS t)]) (EP X pins σ Q) X.xe s := fun tv b h1 h2 h3 => by
    rw [h3] at p
    exact call_isi pins s σ H [x, .ty (tyS t)] _ Q I (.cons rx (.cons rfl .nil)) ⟨x, .ty (tyS t), .type tv, .type (tyS t), b, rfl, .ty _, h1, kit_ty h2, p ι H _ (Ext.refl _ _) rep (.bl _)⟩
  cases hx with
  | non => exact key _ _ (.base .non) (kit_non t) rfl
  | bl b => exact key _ _ (.base (.bl b)) (kit_bl t) rfl
  | int b => exact key _ _ (.base (.int b)) (kit_int t) rfl
  | str b => exact key _ _ (.base (.str b)) (kit_str t) rfl
  | tup h _ _ => exact key _ _ (.base (.tup h)) (kit_tup t) rfl
  | wtup h _ =>
    obtain ⟨o, its, n, h1, h2, _⟩ := h
    exact key _ _ (.kTuple (by rw [eK]; exact h1) h2) (kit_tup t) rfl
  | lst h _ _ => exact key _ _ (.base (.lst h)) (kit_lst t) rfl
  | scr h _ _ _ => exact False.elim p
  | wscr h _ => exact False.elim p
  | ref h => exact False.elim p
  | lam _ _ _ _ => exact False.elim p
/-- truth -/
theorem tru_of (eK : X.K = G.K) {ι : Io} {H : Hp} {x : V} {d : Val} {μ : Mem} {b : Bool} (hx : RV G ι H x d) (h : truth d μ = some b) : TruV X.K x H b := by
  cases hx with
  | non => simp only [truth] at h; cases h; rfl
  | bl c => simp only [truth] at h; cases h; rfl
  | int c => simp only [truth] at h; cases h; rfl
  | str c =>
    simp only [truth] at h
    split at h
    · rename_i hl; cases h; exact ⟨hl, rfl⟩
    · cases h
  | tup h1 n r => simp only [truth] at h; cases h; exact .inr (.inl ⟨_, SqT.of h1, by rw [r.isEmpty]⟩)
  | wtup h1 r =>
    simp only [truth] at h; cases h
    obtain ⟨vs, s, r'⟩ := (RV.wtup h1 r).sqT (X := X) eK
    exact .inr (.inl ⟨_, s, by rw [r'.isEmpty]⟩)
  | lst h1 n r => simp only [truth] at h; cases h; exact .inl ⟨_, SqL.of h1, by rw [r.isEmpty]⟩
  | scr h1 _ _ _ => simp only [truth] at h; cases h
  | wscr h1 _ => simp only [truth] at h; cases h
  | ref h1 => simp only [truth] at h; cases h
  | lam _ _ _ _ => simp only [truth] at h; cases h
/-- x[i] -/
theorem ix_ok (eK : X.K = G.K) {W : WX} {pins : List (Addr × Obj)} {s : Shared} {σ : L2.St} {H : Hp} {x y : V} {v u : Value} {Q : VK} {ι : Io} {μ : Mem} {d e : Val} (value slice : Expr) (I : Inv X pins σ H s) (rx : RelV x v) (ry : RelV y u) (rep : Rep G ι μ H) (hx : RV G ι H x d) (hy : RV G ι H y e)
    (p : PostV G W σ ι H Q (ixV d e μ)) (hs : subscripted slice false v u = operate [v, u] (getItem v u)) : wpAny (model X.prog X.w) X.A (subscriptTail value slice v u) (EP X pins σ Q) X.xe s := by
  unfold ixV at p
  split at p
  · rename_i ds i he
    split at p
    · rename_i z hz
      cases hy
      obtain ⟨a, vs, rfl, sq, r⟩ := hx.items (X := X) eK rep he
      obtain ⟨w, hw, rw_⟩ := r.atI hz
      rcases sq with sq | sq
      · exact ix_list value slice pins s σ H _ _ v u Q I rx ry ⟨a, vs, i, w, rfl, rfl, sq, hw, p ι H _ (Ext.refl _ _) rep rw_⟩ hs
      · exact ix_tup value slice pins s σ H _ _ v u Q I rx ry ⟨a, vs, i, w, rfl, rfl, sq, hw, p ι H _ (Ext.refl _ _) rep rw_⟩ hs
    · exact False.elim p
  · exact False.elim p
/-! calls -/
theorem cv_of {f : Value} {sem : List Val → Mem → Out Val} (h : ∀ (pins : List (Addr × Obj)) (s : Shared) (σ : L2.St) (H : Hp) (xs : List V) (us : List Value) (Q : VK) (ι : Io) (μ : Mem) (ds : List Val) (r : Val), Inv X pins σ H s → Vals xs us → Rep G ι μ H → RVs G ι H xs ds →
    sem ds μ = .ok r μ → (∀ ι' H' v, Ext ι H ι' H' → Rep G ι' μ H' → RV G ι' H' v r → Q v H') → wpAny (model X.prog X.w) X.A (call f us) (EP X pins σ Q) X.xe s)
    (hs : ∀ ds μ, sem ds μ = .bad ∨ ∃ r, sem ds μ = .ok r μ) : CallV G X f sem := by
  intro W pins s σ H xs us Q ι μ ds I rv rep hx p
  rcases hs ds μ with z | ⟨r, z⟩
  · rw [z] at p; exact False.elim p
  · rw [z] at p; exact h pins s σ H xs us Q ι μ ds r I rv rep hx z p
theorem bltV_out (f : Blt) (ds : List Val) (μ : Mem) : bltV f ds μ = .bad ∨ ∃ r, bltV f ds μ = .ok r μ := by
  unfold bltV
  repeat' split
  all_goals first | exact .inl rfl | exact .inr ⟨_, rfl⟩
theorem RVs.one {ι : Io} {H : Hp} {vs : List V} {d : Val} (h : RVs G ι H vs [d]) : ∃ v, vs = [v] ∧ RV G ι H v d := by
  cases h with
  | cons h r => cases r; exact ⟨_, rfl, h⟩
theorem RVs.two {ι : Io} {H : Hp} {vs : List V} {d e : Val} (h : RVs G ι H vs [d, e]) : ∃ v u, vs = [v, u] ∧ RV G ι H v d ∧ RV G ι H u e := by
  cases h with
  | cons h r =>
    obtain ⟨u, rfl, hu⟩ := r.one
    exact ⟨_, _, rfl, h, hu⟩
def bltN : Blt → Str
  | .len => "len" | .all => "all" | .any => "any" | .sum => "sum" | .abs => "abs" | .max2 => "max" | .min2 => "min" | .int1 => "int" | .tupOf => "tuple" | .lstOf => "list"
def bltF : Blt → Value
  | .len => .builtin "len" | .all => .builtin "all" | .any => .builtin "any" | .sum => .builtin "sum" | .abs => .builtin "abs" | .max2 => .builtin "max" | .min2 => .builtin "min"
  | .int1 => .type "int" | .tupOf => .type "tuple" | .lstOf => .type "list"
theorem cv_len (eK : X.K = G.K) : CallV G X (.builtin "len") (bltV .len) := by
  refine cv_of (fun pins s σ H xs us Q ι μ ds r I rv rep hx e q => ?_) (bltV_out .len)
  have key : ∀ d zs, ds = [d] → itemsOf d μ = some zs → r = .int zs.length → wpAny (model X.prog X.w) X.A (call (.builtin "len") us) (EP X pins σ Q) X.xe s := fun d zs e1 e2 e3 => by
    subst e1 e3
    obtain ⟨v, rfl, hv⟩ := hx.one
    obtain ⟨a, vs, rfl, sq, rr⟩ := hv.items (X := X) eK rep e2
    refine call_len_seq pins s σ H _ us Q I rv ⟨a, vs, rfl, sq, ?_⟩
    rw [rr.length]
    exact q ι H _ (Ext.refl _ _) rep (.int _)
  match ds, hx, e with
  | [.tup zs], hx, e => exact key _ zs rfl rfl (by cases e; rfl)
  | [.lst zs], hx, e => exact key _ zs rfl rfl (by cases e; rfl)
  | [.scr zs], hx, e => exact key _ zs rfl rfl (by cases e; rfl)
  | [.str x], hx, e =>
    simp only [bltV] at e
    split at e
    · rename_i hl
      cases e
      obtain ⟨v, rfl, hv⟩ := hx.one
      cases hv
      exact call_len_str pins s σ H _ us Q I rv ⟨x, rfl, hl, q ι H _ (Ext.refl _ _) rep (.int _)⟩
    · cases e
  | [], _, e => cases e
  | [.non], _, e => cases e
  | [.bl _], _, e => cases e
  | [.int _], _, e => cases e
  | [.ref _], _, e => cases e
  | [.lam _], _, e => cases e
  | _ :: _ :: _, _, e => simp only [bltV] at e; cases e
theorem cv_bools {f : Value} {fb : Blt} {g : List Bool → Bool} (h : CallR X f (fun vs H Q => ∃ (a : Addr) (bs : List Bool), vs = [V.ref a] ∧ SqL X.K H a (bs.map V.bl) ∧ Q (.bl (g bs)) H))
    (hb : ∀ ds μ r, bltV fb ds μ = .ok r μ → ∃ xs bs, ds = [.lst xs] ∧ boolsV xs = some bs ∧ r = .bl (g bs)) : CallV G X f (bltV fb) := by
  refine cv_of (fun pins s σ H xs us Q ι μ ds r I rv rep hx e q => ?_) (bltV_out fb)
  obtain ⟨zs, bs, rfl, e1, rfl⟩ := hb _ _ _ e
  obtain ⟨v, rfl, hv⟩ := hx.one
  obtain ⟨a, vs, rfl, sa, na, ra⟩ := hv.lstA
  exact h pins s σ H _ us Q I rv ⟨a, bs, rfl, by rw [← ra.bools e1]; exact SqL.of sa, q ι H _ (Ext.refl _ _) rep (.bl _)⟩
theorem cv_all (hc : X.calm = true) : CallV G X (.builtin "all") (bltV .all) := cv_bools (g := fun bs => bs.all id) (cr_all hc) fun ds μ r e => by
  unfold bltV at e
  split at e <;> first | (cases e; done) | contradiction | skip
  split at e
  · rename_i e1; cases e; exact ⟨_, _, rfl, e1, rfl⟩
  · cases e
theorem cv_any (hc : X.calm = true) : CallV G X (.builtin "any") (bltV .any) := cv_bools (g := fun bs => bs.any id) (cr_any hc) fun ds μ r e => by
  unfold bltV at e
  split at e <;> first | (cases e; done) | contradiction | skip
  split at e
  · rename_i e1; cases e; exact ⟨_, _, rfl, e1, rfl⟩
  · cases e
theorem cv_sum (hc : X.calm = true) : CallV G X (.builtin "sum") (bltV .sum) := by
  refine cv_of (fun pins s σ H xs us Q ι μ ds r I rv rep hx e q => ?_) (bltV_out .sum)
  have hb : ∃ xs bs, ds = [.lst xs] ∧ intsV xs = some bs ∧ r = .int bs.sum := by
    unfold bltV at e
    split at e <;> first | (cases e; done) | contradiction | skip
    split at e
    · rename_i e1; cases e; exact ⟨_, _, rfl, e1, rfl⟩
    · cases e
  obtain ⟨zs, bs, rfl, e1, rfl⟩ := hb
  obtain ⟨v, rfl, hv⟩ := hx.one
  obtain ⟨a, vs, rfl, sa, na, ra⟩ := hv.lstA
  exact cr_sum hc pins s σ H _ us Q I rv ⟨a, bs, rfl, by rw [← ra.ints e1]; exact SqL.of sa, q ι H _ (Ext.refl _ _) rep (.int _)⟩
theorem cv_abs : CallV G X (.builtin "abs") (bltV .abs) := by
  refine cv_of (fun pins s σ H xs us Q ι μ ds r I rv rep hx e q => ?_) (bltV_out .abs)
  have hb : ∃ i, ds = [.int i] ∧ r = .int (if i < 0 then -i else i) := by
    unfold bltV at e
    split at e <;> first | (cases e; done) | contradiction | skip
    cases e; exact ⟨_, rfl, rfl⟩
  obtain ⟨i, rfl, rfl⟩ := hb
  obtain ⟨v, rfl, hv⟩ := hx.one
  cases hv
  exact call_abs pins s σ H _ us Q I rv ⟨i, rfl, q ι H _ (Ext.refl _ _) rep (.int _)⟩
theorem cv_max2 (hc : X.calm = true) : CallV G X (.builtin "max") (bltV .max2) := by
  refine cv_of (fun pins s σ H xs us Q ι μ ds r I rv rep hx e q => ?_) (bltV_out .max2)
  have hb : ∃ i j, ds = [.int i, .int j] ∧ r = .int (if j > i then j else i) := by
    unfold bltV at e
    split at e <;> first | (cases e; done) | contradiction | skip
    cases e; exact ⟨_, _, rfl, rfl⟩
  obtain ⟨i, j, rfl, rfl⟩ := hb
  obtain ⟨v, u, rfl, hv, hu⟩ := hx.two
  cases hv; cases hu
  exact call_max2 hc pins s σ H _ us Q I rv ⟨i, j, rfl, q ι H _ (Ext.refl _ _) rep (.int _)⟩
theorem cv_min2 (hc : X.calm = true) : CallV G X (.builtin "min") (bltV .min2) := by
  refine cv_of (fun pins s σ H xs us Q ι μ ds r I rv rep hx e q => ?_) (bltV_out .min2)
  have hb : ∃ i j, ds = [.int i, .int j] ∧ r = .int (if j < i then j else i) := by
    unfold bltV at e
    split at e <;> first | (cases e; done) | contradiction | skip
    cases e; exact ⟨_, _, rfl, rfl⟩
  obtain ⟨i, j, rfl, rfl⟩ := hb
  obtain ⟨v, u, rfl, hv, hu⟩ := hx.two
  cases hv; cases hu
  exact call_min2 hc pins s σ H _ us Q I rv ⟨i, j, rfl, q ι H _ (Ext.refl _ _) rep (.int _)⟩
theorem cv_int1 : CallV G X (.type "int") (bltV .int1) := by
  refine cv_of (fun pins s σ H xs us Q ι μ ds r I rv rep hx e q => ?_) (bltV_out .int1)
  have hb : (∃ i, ds = [.int i] ∧ r = .int i) ∨ ∃ b, ds = [.bl b] ∧ r = .int (if b then 1 else 0) := by
    unfold bltV at e
    split at e <;> first | (cases e; done) | contradiction | skip
    · cases e; exact .inl ⟨_, rfl, rfl⟩
    · cases e; exact .inr ⟨_, rfl, rfl⟩
  rcases hb with ⟨i, rfl, rfl⟩ | ⟨b, rfl, rfl⟩
  · obtain ⟨v, rfl, hv⟩ := hx.one
    cases hv
    exact call_int1 pins s σ H _ us Q I rv (.inl ⟨i, rfl, q ι H _ (Ext.refl _ _) rep (.int _)⟩)
  · obtain ⟨v, rfl, hv⟩ := hx.one
    cases hv
    exact call_int1 pins s σ H _ us Q I rv (.inr ⟨b, rfl, q ι H _ (Ext.refl _ _) rep (.int _)⟩)
theorem cv_tupOf (ok : G.Ok) (eK : X.K = G.K) : CallV G X (.type "tuple") (bltV .tupOf) := by
  refine cv_of (fun pins s σ H xs us Q ι μ ds r I rv rep hx e q => ?_) (bltV_out .tupOf)
  have hb : ∃ zs, r = .tup zs ∧ (ds = [.tup zs] ∨ ds = [.lst zs]) := by
    unfold bltV at e
    split at e <;> first | (cases e; done) | contradiction | skip
    · cases e; exact ⟨_, rfl, .inl rfl⟩
    · cases e; exact ⟨_, rfl, .inr rfl⟩
  obtain ⟨zs, rfl, rfl | rfl⟩ := hb
  · obtain ⟨v, rfl, hv⟩ := hx.one
    obtain ⟨a, rfl⟩ := hv.ref_tup
    obtain ⟨vs, sq, _⟩ := hv.sqT (X := X) eK
    exact call_tuple_of pins s σ H _ us Q I rv ⟨a, vs, rfl, .inr ⟨sq, q ι H _ (Ext.refl _ _) rep hv⟩⟩
  · obtain ⟨v, rfl, hv⟩ := hx.one
    obtain ⟨a, vs, rfl, sa, na, ra⟩ := hv.lstA
    exact call_tuple_of pins s σ H _ us Q I rv ⟨a, vs, rfl, .inl ⟨SqL.of sa, fun p hp => q ι _ _ (Ext.laid hp) (rep.laid ok tup_ne hp) (.tup upd_same (rep.fresh hp) (ra.mono ok (Ext.laid hp)))⟩⟩
theorem cv_lstOf (ok : G.Ok) (eK : X.K = G.K) : CallV G X (.type "list") (bltV .lstOf) := by
  refine cv_of (fun pins s σ H xs us Q ι μ ds r I rv rep hx e q => ?_) (bltV_out .lstOf)
  have hb : ∃ d zs, r = .lst zs ∧ ds = [d] ∧ itemsOf d μ = some zs := by
    unfold bltV at e
    split at e <;> first | (cases e; done) | contradiction | skip
    · cases e; exact ⟨_, _, rfl, rfl, rfl⟩
    · cases e; exact ⟨_, _, rfl, rfl, rfl⟩
  obtain ⟨d, zs, rfl, rfl, hi⟩ := hb
  obtain ⟨v, rfl, hv⟩ := hx.one
  obtain ⟨a, vs, rfl, sq, ra⟩ := hv.items (X := X) eK rep hi
  exact call_list_of pins s σ H _ us Q I rv ⟨a, vs, rfl, sq, fun p hp => q ι _ _ (Ext.laid hp) (rep.laid ok lst_ne hp) (.lst upd_same (rep.fresh hp) (ra.mono ok (Ext.laid hp)))⟩
end
end MP

set_option maxHeartbeats 1000000
/-! Holding the small syntax against the row's own. -/
namespace MP
open PySem PySem.Spec PyProof.Rows L2

def vConst : Expr → Option Const
  | .Constant c _ _ => some c
  | _ => none
def vName : Expr → Option Str
  | .Name x _ => some x
  | _ => none
def vBin : Expr → Option (Expr × Operator × Expr)
  | .BinOp a o b _ => some (a, o, b)
  | _ => none
def vUn : Expr → Option (UnaryOp × Expr)
  | .UnaryOp o a _ => some (o, a)
  | _ => none
def vCmp : Expr → Option (Expr × CmpOp × Expr)
  | .Compare a [o] [b] _ => some (a, o, b)
  | _ => none
def vChain : Expr → Option (Expr × CmpOp × CmpOp × Expr × Expr)
  | .Compare a [o, o'] [b, c] _ => some (a, o, o', b, c)
  | _ => none
def vBool : Expr → Option (BoolOp × List Expr)
  | .BoolOp o vs _ => some (o, vs)
  | _ => none
def vIf : Expr → Option (Expr × Expr × Expr)
  | .IfExp c a b _ => some (c, a, b)
  | _ => none
/-- a call of a name, without keywords -/
def vCall : Expr → Option (Str × List Expr)
  | .Call (.Name x _) as [] _ => some (x, as)
  | _ => none
def vSub : Expr → Option (Expr × Expr)
  | .Subscript a b _ => some (a, b)
  | _ => none
def vTup : Expr → Option (List Expr)
  | .Tuple es _ _ => some es
  | _ => none
def vLst : Expr → Option (List Expr)
  | .List es _ => some es
  | _ => none
def vComp : Expr → Option (Expr × Expr × Expr × Scope)
  | .ListComp elt [⟨tg, iter, [], 0⟩] sc _ => some (elt, tg, iter, sc)
  | _ => none
def vStar : Expr → Option Expr
  | .Starred e _ => some e
  | _ => none
theorem vConst_eq {e : Expr} {c : Const} (h : vConst e = some c) : ∃ k p, e = .Constant c k p := by
  unfold vConst at h; split at h <;> first | (cases h; done) | skip
  cases h; exact ⟨_, _, rfl⟩
theorem vName_eq {e : Expr} {c : Str} (h : vName e = some c) : ∃ p, e = .Name c p := by
  unfold vName at h; split at h <;> first | (cases h; done) | skip
  cases h; exact ⟨_, rfl⟩
theorem vBin_eq {e a b : Expr} {o : Operator} (h : vBin e = some (a, o, b)) : ∃ p, e = .BinOp a o b p := by
  unfold vBin at h; split at h <;> first | (cases h; done) | skip
  cases h; exact ⟨_, rfl⟩
theorem vUn_eq {e a : Expr} {o : UnaryOp} (h : vUn e = some (o, a)) : ∃ p, e = .UnaryOp o a p := by
  unfold vUn at h; split at h <;> first | (cases h; done) | skip
  cases h; exact ⟨_, rfl⟩
theorem vCmp_eq {e a b : Expr} {o : CmpOp} (h : vCmp e = some (a, o, b)) : ∃ p, e = .Compare a [o] [b] p := by
  unfold vCmp at h; split at h <;> first | (cases h; done) | skip
  cases h; exact ⟨_, rfl⟩
theorem vChain_eq {e a b c : Expr} {o o' : CmpOp} (h : vChain e = some (a, o, o', b, c)) : ∃ p, e = .Compare a [o, o'] [b, c] p := by
  unfold vChain at h; split at h <;> first | (cases h; done) | skip
  cases h; exact ⟨_, rfl⟩
theorem vBool_eq {e : Expr} {o : BoolOp} {vs : List Expr} (h : vBool e = some (o, vs)) : ∃ p, e = .BoolOp o vs p := by
  unfold vBool at h; split at h <;> first | (cases h; done) | skip
  cases h; exact ⟨_, rfl⟩
theorem vIf_eq {e c a b : Expr} (h : vIf e = some (c, a, b)) : ∃ p, e = .IfExp c a b p := by
  unfold vIf at h; split at h <;> first | (cases h; done) | skip
  cases h; exact ⟨_, rfl⟩
theorem vCall_eq {e : Expr} {x : Str} {as : List Expr} (h : vCall e = some (x, as)) : ∃ p q, e = .Call (.Name x p) as [] q := by
  unfold vCall at h; split at h <;> first | (cases h; done) | skip
  cases h; exact ⟨_, _, rfl⟩
theorem vSub_eq {e a b : Expr} (h : vSub e = some (a, b)) : ∃ p, e = .Subscript a b p := by
  unfold vSub at h; split at h <;> first | (cases h; done) | skip
  cases h; exact ⟨_, rfl⟩
theorem vTup_eq {e : Expr} {es : List Expr} (h : vTup e = some es) : ∃ k p, e = .Tuple es k p := by
  unfold vTup at h; split at h <;> first | (cases h; done) | skip
  cases h; exact ⟨_, _, rfl⟩
theorem vLst_eq {e : Expr} {es : List Expr} (h : vLst e = some es) : ∃ p, e = .List es p := by
  unfold vLst at h; split at h <;> first | (cases h; done) | skip
  cases h; exact ⟨_, rfl⟩
theorem vComp_eq {e elt tg iter : Expr} {sc : Scope} (h : vComp e = some (elt, tg, iter, sc)) : ∃ p, e = .ListComp elt [⟨tg, iter, [], 0⟩] sc p := by
  unfold vComp at h; split at h <;> first | (cases h; done) | skip
  cases h; exact ⟨_, rfl⟩
theorem vStar_eq {e a : Expr} (h : vStar e = some a) : ∃ p, e = .Starred a p := by
  unfold vStar at h; split at h <;> first | (cases h; done) | skip
  cases h; exact ⟨_, rfl⟩

def visB (sc : Scope) (x : Str) : Bool := match sc.names.lookup x with
  | some .local | some .cell | some .free => true
  | _ => false
theorem visB_ok {sc : Scope} {x : Str} (h : visB sc x = true) : Vis sc x := by
  unfold visB at h
  split at h
  · exact .inl (by assumption)
  · exact .inr (.inl (by assumption))
  · exact .inr (.inr (by assumption))
  · cases h
/-- cl: cells may be stored into, too -/
def locB (cl : Bool) (sc : Scope) (x : Str) : Bool := match sc.names.lookup x with
  | some .local => true
  | some .cell => cl
  | _ => false
theorem locB_ok {cl : Bool} {sc : Scope} {x : Str} (h : locB cl sc x = true) : Loc sc x ∧ (cl = false → sc.names.lookup x = some .local) := by
  unfold locB at h
  split at h
  · exact ⟨.inl (by assumption), fun _ => by assumption⟩
  · exact ⟨.inr (by assumption), fun z => by rw [z] at h; cases h⟩
  · cases h
/-- the names of a comprehension's block -/
def relS (scope sc : Scope) : Scope := { scope with names := scope.names.map fun (n, k) => if (k == NameKind.free && sc.kind == .function && sc.names.lookup n == some .cell) then (n, NameKind.cell) else (n, k) }
theorem relS_eq (scope : Scope) (env : Env) : relabel scope env = relS scope env.scope := rfl
/-- a name of the module or a built-in one -/
def glB (sc : Scope) (x : Str) : Bool := decide (sc.names.lookup x = some .globalImplicit) && (!(x == ("__debug__" : Str)) && !(x == ("__name__" : Str)))
theorem glB_ok {sc : Scope} {x : Str} (h : glB sc x = true) : sc.names.lookup x = some .globalImplicit ∧ (x == ("__debug__" : Str)) = false ∧ x ≠ "__name__" := by
  unfold glB at h
  simp only [Bool.and_eq_true, decide_eq_true_eq, Bool.not_eq_true'] at h
  exact ⟨h.1, h.2.1, fun z => by have := h.2.2; rw [z] at this; simp at this⟩
def tgB (cl : Bool) (N : List Str) (sc : Scope) (i : Nat) (e : Expr) : Bool := match vName e with
  | some x => decide (N[i]? = some x) && locB cl sc x
  | none => false
def okT (cl : Bool) (N : List Str) (sc : Scope) : Tgt → Expr → Bool
  | .one i, e => tgB cl N sc i e
  | .many is, e => match vTup e with
    | some es => okTs cl N sc is es
    | none => false
where okTs (cl : Bool) (N : List Str) (sc : Scope) : List Nat → List Expr → Bool
  | [], [] => true
  | i :: is, e :: es => tgB cl N sc i e && okTs cl N sc is es
  | _, _ => false
def ownOf (N : List Str) (tg : Tgt) : List (Str × Nat) := tg.slots.map fun i => (N.getD i Str.empty, i)
/-- a subscript that is no slice -/
def plainIx : Expr → Bool
  | .Slice .. => false
  | _ => true
theorem plainIx_ok {b : Expr} (h : plainIx b = true) : PlainIx b := fun o i => by
  cases b <;> first | rfl | (simp [plainIx] at h)
def noStar (es : List Expr) : Bool := es.all fun e => (vStar e).isNone
theorem star_cons {e : Expr} {es : List Expr} {env : Env} (h : (vStar e).isNone = true) : starEach (e :: es) env = (false, eval e env) :: starEach es env := by
  cases e <;> first | rfl | (simp [vStar] at h)
theorem star_any0 {pos : Pos} {env : Env} : ∀ {es : List Expr}, noStar es = true → (backTo pos (starEach es env)).any (·.1) = false
  | [], _ => rfl
  | e :: es, h => by
    simp only [noStar, List.all_cons, Bool.and_eq_true] at h
    rw [star_cons h.1]
    have := star_any0 (pos := pos) (env := env) (es := es) h.2
    simp only [backTo, List.map_cons, List.any_cons] at this ⊢
    rw [this]
    rfl
def seqOk : Expr → Bool
  | .Set .. => false
  | _ => true
theorem seqOk_ok {e : Expr} (h : seqOk e = true) (env : Env) (x : Value) : foldedSetIterable e env x = pure x := by
  cases e <;> first | rfl | (simp [seqOk] at h)
/-- which lambdas may be made here -/
abbrev LK := Nat → Arguments → Expr → Scope → Bool
def vLam : Expr → Option (Arguments × Expr × Scope)
  | .Lambda p b s _ => some (p, b, s)
  | _ => none
theorem vLam_eq {e : Expr} {p : Arguments} {b : Expr} {s : Scope} (h : vLam e = some (p, b, s)) : ∃ q, e = .Lambda p b s q := by
  unfold vLam at h; split at h <;> first | (cases h; done) | skip
  cases h; exact ⟨_, rfl⟩
def vMaxD : Expr → Option (Expr × Expr)
  | .Call (.Name x _) [l] [⟨some n, r, _⟩] _ => if x = ("max" : Str) ∧ n = ("default" : Str) then some (l, r) else none
  | _ => none
theorem vMaxD_eq {e l r : Expr} (h : vMaxD e = some (l, r)) : ∃ p q s, e = .Call (.Name "max" p) [l] [⟨some "default", r, q⟩] s := by
  unfold vMaxD at h; split at h <;> first | (cases h; done) | skip
  split at h
  · rename_i z
    cases h
    rw [z.1, z.2]
    exact ⟨_, _, _, rfl⟩
  · cases h
mutual
def okE (T : Tab) (lk : LK) (N : List Str) (sc : Scope) : X → Expr → Bool
  | .non, e => decide (vConst e = some .none)
  | .bl b, e => decide (vConst e = some (.bool b))
  | .int i, e => decide (vConst e = some (.int i))
  | .str x, e => decide (vConst e = some (.str x))
  | .var i, e => match vName e with
    | some x => decide (N[i]? = some x) && visB sc x && !(x == ("__debug__" : Str)) && !(x == ("__classdict__" : Str))
    | none => false
  | .gint x i, e => decide (vName e = some x) && glB sc x && decide (T.ci.lookup x = some i)
  | .gstr x z, e => decide (vName e = some x) && glB sc x && decide (T.cz.lookup x = some z)
  | .bin op a b, e => match vBin e with
    | some (l, o, r) => decide (o = bOp op) && okE T lk N sc a l && okE T lk N sc b r
    | none => false
  | .neg a, e => match vUn e with
    | some (o, l) => decide (o = .USub) && okE T lk N sc a l
    | none => false
  | .cmp op a b, e => match vCmp e with
    | some (l, o, r) => decide (o = cOp op) && okE T lk N sc a l && okE T lk N sc b r && !behindInMarks o r
    | none => false
  | .chain op op' a b c, e => match vChain e with
    | some (l, o, o', m, r) => decide (o = cOp op) && decide (o' = cOp op') && okE T lk N sc a l && okE T lk N sc b m && okE T lk N sc c r && !lastMarks [o, o'] [m, r]
    | none => false
  | .and as, e => match vBool e with
    | some (o, es) => decide (o = .And) && okB T lk N sc as es
    | none => false
  | .or as, e => match vBool e with
    | some (o, es) => decide (o = .Or) && okB T lk N sc as es
    | none => false
  | .not a, e => match vUn e with
    | some (o, l) => decide (o = .Not) && okE T lk N sc a l
    | none => false
  | .ite c a b, e => match vIf e with
    | some (x, y, z) => okE T lk N sc c x && okE T lk N sc a y && okE T lk N sc b z
    | none => false
  | .call g as, e => match vCall e with
    | some (x, es) => glB sc x && decide (T.fns[g]?.map FnD.name = some x) && okEs T lk N sc as es && noStar es
    | none => false
  | .callV i as, e => match vCall e with
    | some (x, es) => decide (N[i]? = some x) && visB sc x && !(x == ("__debug__" : Str)) && !(x == ("__classdict__" : Str)) && okEs T lk N sc as es && noStar es && !es.isEmpty
    | none => false
  | .blt f as, e => match vCall e with
    | some (x, es) => decide (x = bltN f) && glB sc x && okEs T lk N sc as es && noStar es && !es.isEmpty
    | none => false
  | .maxD a b, e => match vMaxD e with
    | some (l, r) => glB sc "max" && okE T lk N sc a l && okE T lk N sc b r && noStar [l]
    | none => false
  | .isi a t, e => match vCall e with
    | some (x, [l, r]) => decide (x = ("isinstance" : Str)) && glB sc x && okE T lk N sc a l && decide (vName r = some (Str.ofString (tyS t))) && glB sc (Str.ofString (tyS t)) && noStar [l, r]
    | _ => false
  | .tup as, e => match vTup e with
    | some es => okEs T lk N sc as es
    | none => false
  | .lst as, e => match vLst e with
    | some es => okEs T lk N sc as es
    | none => false
  | .mlst as, e => match vLst e with
    | some es => okEs T lk N sc as es
    | none => false
  | .ix a b, e => match vSub e with
    | some (l, r) => okE T lk N sc a l && okE T lk N sc b r && plainIx r
    | none => false
  | .comp elt tg it, e => match vComp e with
    | some (l, t, i, s) => okI T lk N sc it i && blkC N sc s (ownOf N tg) && okT false N (relS s sc) tg t && okE T lk N (relS s sc) elt l && seqOk i
    | none => false
  | .lam l, e => match vLam e with
    | some (p, b, s) => lk l p b s && p.defaults.isEmpty && p.kw_defaults.isEmpty && s.names.all (fun y => !decide (y.2 = .free))
    | none => false
def okEs (T : Tab) (lk : LK) (N : List Str) (sc : Scope) : Xs → List Expr → Bool
  | .nil, es => es.isEmpty
  | .cons x r, e :: es => okE T lk N sc x e && (vStar e).isNone && okEs T lk N sc r es
  | .star x r, e :: es => match vStar e with
    | some l => okE T lk N sc x l && okEs T lk N sc r es
    | none => false
  | _, [] => false
def okB (T : Tab) (lk : LK) (N : List Str) (sc : Scope) : Xs → List Expr → Bool
  | .nil, _ => false
  | .cons x .nil, es => match es with
    | [e] => okE T lk N sc x e
    | _ => false
  | .cons x r, es => match es with
    | e :: e' :: es => okE T lk N sc x e && okB T lk N sc r (e' :: es)
    | _ => false
  | .star _ _, _ => false
def okI (T : Tab) (lk : LK) (N : List Str) (sc : Scope) : It → Expr → Bool
  | .seq x, e => okE T lk N sc x e && seqOk e
  | .rng x, e => match vCall e with
    | some (f, [l]) => decide (f = ("range" : Str)) && glB sc f && okE T lk N sc x l && noStar [l]
    | _ => false
end
end MP

set_option maxHeartbeats 1000000
/-! The evaluator keeps to the model: expressions. -/
namespace MP
open PySem PySem.Spec PyProof.Rows L2

def rdM (G : Gx) (W : WX) {α β : Type} (R : Io → Hp → β → α → Prop) (m : Frame → Mem → Out α) : L2.St → Hp → (β → Hp → Prop) → Prop :=
  fun σ H Q => ∃ ι μ ρ, Rep G ι μ H ∧ RF G ι H σ ρ ∧ Post G W σ R ι H Q (m ρ μ)
def RB : Io → Hp → Bool → Bool → Prop := fun _ _ a b => a = b
abbrev rd (G : Gx) (O : Orc) (W : WX) (x : X) : TE := rdM G W (RV G) (ev O x)
abbrev rdA (G : Gx) (O : Orc) (W : WX) (xs : Xs) : TA := rdM G W (RVs G) (evs O xs)
abbrev rdT (G : Gx) (O : Orc) (W : WX) (x : X) : TT := rdM G W RB (fun ρ μ => (ev O x ρ μ).bind tst)
/-- a function's promise -/
def spG (G : Gx) (f : List Val → Mem → Out Val) : Sp := fun vs H Q E => ∃ ι μ ds, Rep G ι μ H ∧ RVs G ι H vs ds ∧ Post G (fun c d _ H => E c d H) [] (RV G) ι H Q (f ds μ)
def freeNames : List Str := ["len", "all", "any", "sum", "abs", "max", "min", "int", "tuple", "list", "isinstance", "bool", "str", "dict", "range"]
/-- a lambda's promise -/
def LamR (G : Gx) (P : Program) (w : World) (base : Heap) (k : Nat) (l : Nat) (f : List Val → Mem → Out Val) : Prop :=
  ∀ (A : Around) (outer : List Env) (s : Shared) (H : Hp) (us : List Value) (vs : List V) (Q : VK) (E : XK) (a : Addr) (ι : Io) (μ : Mem) (ds : List Val), Room k A → Env0 P w G.K G.mg base A outer s H → Vals vs us →
    RV G ι H (.ref a) (.lam l) → Rep G ι μ H → RVs G ι H vs ds → Post G (fun c d _ H => E c d H) [] (RV G) ι H Q (f ds μ) → codeAny (model P w) A (.call (.ref a) ⟨us, []⟩) (CR (L2.CX P w) outer P w H s Q E) s
structure Good (G : Gx) (O : Orc) (k : Nat) (lk : LK) (W : WX) (X : Cx) : Prop where
  ok : G.Ok
  calm : X.calm = true
  room : Room k X.A
  tk : Takes X W
  nd : X.N.Nodup
  eK : X.K = G.K
  eM : X.mg = G.mg
  po : PassesOwn (model X.prog X.w) X.A X.env X.xe
  fn : ∀ (g : Nat) d, G.T.fns[g]? = some d → ∃ f, X.mg d.name = some (.ref f) ∧ PySem.W.keepIn X.K (.ref f) = true ∧ FnR X.prog X.w X.K X.mg X.base (L2.CX X.prog X.w) k f (spG G (O.fn g))
  lam : ∀ (l : Nat) d, G.T.lams[l]? = some d → LamR G X.prog X.w X.base k l (O.lam l)
  lks : ∀ l p b s, lk l p b s = true → G.LS l p b s ∧ ∃ c P, X.env.code = .ref c ∧ LamX.TabB X.base X.mg c P ∧ (P, X.env.qual ++ "<lambda>") ∈ G.TT ∧ ∀ q ∈ G.TT, q.1 = P → q.2 = X.env.qual ++ "<lambda>"
  lsd : ∀ l p b s, G.LS l p b s → ∃ d, G.T.lams[l]? = some d
  free : ∀ x ∈ freeNames, X.mg x = none
  ci : ∀ x i, G.T.ci.lookup x = some i → ∃ t, X.mg x = some (.int i t)
  cz : ∀ x i, G.T.cz.lookup x = some i → ∃ t, X.mg x = some (.str i t)

theorem PE.imp {X : Cx} {e : Expr} {t t' : TE} (h : PE X e t) (i : ∀ σ H Q, t' σ H Q → t σ H Q) : PE X e t' := ⟨fun pins s σ H Q I q => h.run pins s σ H Q I (i σ H Q q)⟩
theorem PT.imp {X : Cx} {e : Expr} {t t' : TT} (h : PT X e t) (i : ∀ σ H Q, t' σ H Q → t σ H Q) : PT X e t' := ⟨fun pins s σ H Q I q => h.run pins s σ H Q I (i σ H Q q)⟩
theorem PW.imp {X : Cx} {e : Expr} {t t' : TT} (h : PW X e t) (i : ∀ σ H Q, t' σ H Q → t σ H Q) : PW X e t' := ⟨fun w pins s σ H Q I q => h.run w pins s σ H Q I (i σ H Q q)⟩
theorem PA.imp {X : Cx} {e : List Expr} {t t' : TA} (h : PA X e t) (i : ∀ σ H Q, t' σ H Q → t σ H Q) : PA X e t' := ⟨fun pos pins s σ H Q I q => h.run pos pins s σ H Q I (i σ H Q q)⟩

section
variable {G : Gx} {O : Orc} {k : Nat} {lk : LK} {W : WX} {X : Cx} {α β γ δ : Type} {σ : L2.St} {H : Hp}
theorem rd1 {R : Io → Hp → β → α → Prop} {R1 : Io → Hp → δ → γ → Prop} {a : Frame → Mem → Out γ} {f : Frame → γ → Mem → Out α} {Q : β → Hp → Prop} (ok : G.Ok)
    (h : rdM G W R (fun ρ μ => (a ρ μ).bind fun x μ => f ρ x μ) σ H Q) : rdM G W R1 a σ H (fun x H1 => ∃ ι μ ρ d, Rep G ι μ H1 ∧ RF G ι H1 σ ρ ∧ R1 ι H1 x d ∧ Post G W σ R ι H1 Q (f ρ d μ)) := by
  obtain ⟨ι, μ, ρ, rep, rf, p⟩ := h
  refine ⟨ι, μ, ρ, rep, rf, Post.imp (Post.bind p) fun v H1 ⟨ι1, μ1, d, e, r, q, p1⟩ => ⟨ι1, μ1, ρ, d, r, rf.mono ok e, q, p1⟩⟩
theorem rd2 {R : Io → Hp → β → α → Prop} {a b : Frame → Mem → Out Val} {sem : Val → Val → Mem → Out α} {Q : β → Hp → Prop} (ok : G.Ok)
    (h : rdM G W R (fun ρ μ => (a ρ μ).bind fun x μ => (b ρ μ).bind fun y μ => sem x y μ) σ H Q) :
    rdM G W (RV G) a σ H (fun x H1 => rdM G W (RV G) b σ H1 (fun y H2 => ∃ ι μ d e, Rep G ι μ H2 ∧ RV G ι H2 x d ∧ RV G ι H2 y e ∧ Post G W σ R ι H2 Q (sem d e μ))) := by
  obtain ⟨ι, μ, ρ, rep, rf, p⟩ := h
  refine ⟨ι, μ, ρ, rep, rf, Post.imp (Post.bind p) fun v H1 ⟨ι1, μ1, d, e, r, q, p1⟩ => ⟨ι1, μ1, ρ, r, rf.mono ok e, Post.imp (Post.bind p1) fun u H2 ⟨ι2, μ2, d2, e2, r2, q2, p2⟩ => ⟨ι2, μ2, d, d2, r2, q.mono ok e2, q2, p2⟩⟩⟩
/-- results that are truth values -/
def BlOut (o : Out Val) : Prop := ∀ r μ, o = .ok r μ → ∃ b, r = .bl b
theorem post_bl {Q : Bool → Hp → Prop} {ι : Io} {o : Out Val} (hb : BlOut o) (h : Post G W σ RB ι H Q (o.bind tst)) : PostV G W σ ι H (fun z H' => ∃ c, z = .bl c ∧ Q c H') o := by
  cases o with
  | ok r μ =>
    obtain ⟨b, rfl⟩ := hb r μ rfl
    intro ι' H' v e rep rv
    cases rv
    exact ⟨b, rfl, h ι' H' b e rep rfl⟩
  | ex x μ => exact h
  | bad => exact h
theorem post_tru (eK : X.K = G.K) {Q : Bool → Hp → Prop} {ι : Io} {o : Out Val} (h : Post G W σ RB ι H Q (o.bind tst)) : PostV G W σ ι H (fun z H' => ∃ c, TruV X.K z H' c ∧ Q c H') o := by
  cases o with
  | ok r μ =>
    intro ι' H' v e rep rv
    have h : Post G W σ RB ι H Q (tst r μ) := h
    unfold tst at h
    cases hb : truth r μ with
    | none => rw [hb] at h; exact False.elim h
    | some b =>
      rw [hb] at h
      exact ⟨b, tru_of eK rv hb, h ι' H' b e rep rfl⟩
  | ex x μ => exact h
  | bad => exact h
theorem bl_ob (b : Option Bool) (μ : Mem) : BlOut (ob b μ) := fun r μ' h => by
  cases b with
  | none => cases h
  | some b => cases h; exact ⟨_, rfl⟩
theorem bl_cmp (op : Cop) (d e : Val) (μ : Mem) : BlOut (cmpop op d e μ) := by
  unfold cmpop
  repeat' split
  all_goals first | exact bl_ob _ _ | (intro r μ' h; cases h; exact ⟨_, rfl⟩) | (intro r μ' h; cases h)
end

section
variable {G : Gx} {O : Orc} {k : Nat} {lk : LK} {W : WX} {X : Cx}
/-- the test of an expression that has no way of its own -/
def plainT : Expr → Bool
  | .UnaryOp .Not _ _ | .BoolOp .. | .IfExp .. | .Compare .. => false
  | _ => true
theorem plainT_ok {e : Expr} (h : plainT e = true) (env : Env) (whole : Sem Value) : isTrue e env whole = (do let v ← whole; standAt e.pos; holding [v] (truthy v)) := by
  cases e with
  | UnaryOp op a p => cases op <;> first | rfl | (simp [plainT] at h)
  | BoolOp op vs p => simp [plainT] at h
  | IfExp c a b p => simp [plainT] at h
  | Compare a os cs p => simp [plainT] at h
  | _ => rfl
theorem pt_of (g : Good G O k lk W X) {x : MP.X} {e : Expr} (h : PE X e (rd G O W x)) (hp : plainT e = true) : PT X e (rdT G O W x) :=
  PT.imp (pt_truth h (plainT_ok hp X.env)) fun σ H Q ⟨ι, μ, ρ, rep, rf, p⟩ => ⟨ι, μ, ρ, rep, rf, post_tru g.eK p⟩
theorem c_flat {e : Expr} {x : MP.X} {v : V} {d : Val} (h : PE X e (tC v)) (hx : ∀ ρ μ, ev O x ρ μ = .ok d μ) (hr : ∀ ι H, RV G ι H v d) : PE X e (rd G O W x) :=
  PE.imp h fun σ H Q ⟨ι, μ, ρ, rep, rf, p⟩ => by
    rw [hx] at p
    exact p ι H v (Ext.refl _ _) rep (hr _ _)
theorem c_var {i : Nat} {e : Expr} (h : PE X e (tVar i)) : PE X e (rd G O W (.var i)) :=
  PE.imp h fun σ H Q ⟨ι, μ, ρ, rep, rf, p⟩ => by
    simp only [ev] at p
    split at p
    · rename_i d hd
      obtain ⟨v, h1, h2⟩ := rf.at_ i d hd
      exact ⟨v, h1, p ι H v (Ext.refl _ _) rep h2⟩
    · exact False.elim p
theorem c_bin (g : Good G O k lk W X) {op : Bop} {a b : MP.X} {l r : Expr} {p : Pos} (ha : PE X l (rd G O W a)) (hb : PE X r (rd G O W b)) : PE X (.BinOp l (bOp op) r p) (rd G O W (.bin op a b)) := by
  refine ⟨fun pins s σ H Q I h => ?_⟩
  have h : rdM G W (RV G) (fun ρ μ => (ev O a ρ μ).bind fun x μ => (ev O b ρ μ).bind fun y μ => binop op x y μ) σ H Q := by
    obtain ⟨ι, μ, ρ, rep, rf, q⟩ := h
    exact ⟨ι, μ, ρ, rep, rf, by simpa only [ev] using q⟩
  refine wpAny_BinOp (binT ha hb I (rd2 g.ok h) fun v u s2 x y H2 I2 rx ry ⟨ι, μ, d, e, rep, hx, hy, q⟩ => ?_)
  have := opv_bin g.ok g.eK op W pins s2 σ H2 x y v u Q ι μ d e I2 rx ry rep hx hy q
  cases op <;> exact this
theorem c_neg (g : Good G O k lk W X) {a : MP.X} {l : Expr} {p : Pos} (ha : PE X l (rd G O W a)) : PE X (.UnaryOp .USub l p) (rd G O W (.neg a)) := by
  refine PE.imp (pe_un un_neg ha) fun σ H Q h => ?_
  have h : rdM G W (RV G) (fun ρ μ => (ev O a ρ μ).bind fun x μ => negV x μ) σ H Q := by
    obtain ⟨ι, μ, ρ, rep, rf, q⟩ := h
    exact ⟨ι, μ, ρ, rep, rf, by simpa only [ev] using q⟩
  obtain ⟨ι, μ, ρ, rep, rf, q⟩ := rd1 (R1 := RV G) g.ok h
  refine ⟨ι, μ, ρ, rep, rf, Post.imp q fun v H1 ⟨ι1, μ1, ρ1, d, rep1, rf1, hv, p1⟩ => ?_⟩
  cases hv with
  | int i => exact ⟨i, rfl, p1 ι1 H1 _ (Ext.refl _ _) rep1 (.int _)⟩
  | _ => exact False.elim p1
theorem c_cmp (g : Good G O k lk W X) {op : Cop} {a b : MP.X} {l r : Expr} {p : Pos} (ha : PE X l (rd G O W a)) (hb : PE X r (rd G O W b)) (hm : behindInMarks (cOp op) r = false) : PE X (.Compare l [cOp op] [r] p) (rd G O W (.cmp op a b)) := by
  refine ⟨fun pins s σ H Q I h => ?_⟩
  have h : rdM G W (RV G) (fun ρ μ => (ev O a ρ μ).bind fun x μ => (ev O b ρ μ).bind fun y μ => cmpop op x y μ) σ H Q := by
    obtain ⟨ι, μ, ρ, rep, rf, q⟩ := h
    exact ⟨ι, μ, ρ, rep, rf, by simpa only [ev] using q⟩
  exact wpAny_Compare1 (binT ha hb I (rd2 g.ok h) fun v u s2 x y H2 I2 rx ry ⟨ι, μ, d, e, rep, hx, hy, q⟩ => opv_cmp g.eK g.room.units op W pins s2 σ H2 x y v u Q ι μ d e I2 rx ry rep hx hy q) hm
theorem bind_bind {α β γ : Type} (r : Out α) (f : α → Mem → Out β) (h : β → Mem → Out γ) : (r.bind f).bind h = r.bind fun a μ => (f a μ).bind h := by
  cases r <;> rfl
theorem t_cmp (g : Good G O k lk W X) {op : Cop} {a b : MP.X} {l r : Expr} {p : Pos} (ha : PE X l (rd G O W a)) (hb : PE X r (rd G O W b)) (hm : behindInMarks (cOp op) r = false) : PT X (.Compare l [cOp op] [r] p) (rdT G O W (.cmp op a b)) := by
  refine ⟨fun pins s σ H Q I h => ?_⟩
  have h : rdM G W RB (fun ρ μ => (ev O a ρ μ).bind fun x μ => (ev O b ρ μ).bind fun y μ => (cmpop op x y μ).bind tst) σ H Q := by
    obtain ⟨ι, μ, ρ, rep, rf, q⟩ := h
    exact ⟨ι, μ, ρ, rep, rf, by simpa only [ev, bind_bind] using q⟩
  refine wpAny_isTrue_Compare1 (binT (f := fun v u => compareOp (cOp op) v u) (Q := fun c s3 => wpAny (model X.prog X.w) X.A (truthy c) (TP X pins σ Q) X.xe s3) ha hb I (rd2 g.ok h) fun v u s2 x y H2 I2 rx ry ⟨ι, μ, d, e, rep, hx, hy, q⟩ => ?_) hm
  refine thn (opv_cmp g.eK g.room.units op W pins s2 σ H2 x y v u _ ι μ d e I2 rx ry rep hx hy (post_bl (bl_cmp _ _ _ _) q)) fun c s3 ⟨z, H3, I3, r3, b, e, q3⟩ => ?_
  subst e
  cases r3
  exact wpAny_truthy_bool ⟨H3, I3, q3⟩
theorem c_not (g : Good G O k lk W X) {a : MP.X} {l : Expr} {p : Pos} (ha : PE X l (rd G O W a)) : PE X (.UnaryOp .Not l p) (rd G O W (.not a)) := by
  refine PE.imp (pe_notT ha) fun σ H Q h => ?_
  have h : rdM G W (RV G) (fun ρ μ => (ev O a ρ μ).bind fun x μ => (tst x μ).bind fun b μ => .ok (.bl (!b)) μ) σ H Q := by
    obtain ⟨ι, μ, ρ, rep, rf, q⟩ := h
    exact ⟨ι, μ, ρ, rep, rf, by simpa only [ev] using q⟩
  obtain ⟨ι, μ, ρ, rep, rf, q⟩ := rd1 (R1 := RV G) g.ok h
  refine ⟨ι, μ, ρ, rep, rf, Post.imp q fun v H1 ⟨ι1, μ1, ρ1, d, rep1, rf1, hv, p1⟩ => ?_⟩
  unfold tst at p1
  cases hb : truth d μ1 with
  | none => rw [hb] at p1; exact False.elim p1
  | some b =>
    rw [hb] at p1
    exact ⟨b, tru_of g.eK hv hb, p1 ι1 H1 _ (Ext.refl _ _) rep1 (.bl _)⟩
theorem t_not (g : Good G O k lk W X) {a : MP.X} {l : Expr} {p : Pos} (ha : PT X l (rdT G O W a)) : PT X (.UnaryOp .Not l p) (rdT G O W (.not a)) := by
  refine PT.imp (pt_not ha) fun σ H Q h => ?_
  have h : rdM G W RB (fun ρ μ => ((ev O a ρ μ).bind tst).bind fun b μ => .ok (!b) μ) σ H Q := by
    obtain ⟨ι, μ, ρ, rep, rf, q⟩ := h
    refine ⟨ι, μ, ρ, rep, rf, ?_⟩
    simp only [ev, bind_bind] at q
    simp only [bind_bind]
    exact q
  obtain ⟨ι, μ, ρ, rep, rf, q⟩ := rd1 (R1 := RB) g.ok h
  refine ⟨ι, μ, ρ, rep, rf, Post.imp q fun v H1 ⟨ι1, μ1, ρ1, d, rep1, rf1, hv, p1⟩ => ?_⟩
  cases hv
  exact p1 ι1 H1 _ (Ext.refl _ _) rep1 rfl
theorem c_ite (g : Good G O k lk W X) {c a b : MP.X} {x y z : Expr} {p : Pos} (hc : PT X x (rdT G O W c)) (ha : PE X y (rd G O W a)) (hb : PE X z (rd G O W b)) : PE X (.IfExp x y z p) (rd G O W (.ite c a b)) := by
  refine PE.imp (pe_ifExp hc ha hb) fun σ H Q h => ?_
  have h : rdM G W (RV G) (fun ρ μ => ((ev O c ρ μ).bind tst).bind fun t μ => if t then ev O a ρ μ else ev O b ρ μ) σ H Q := by
    obtain ⟨ι, μ, ρ, rep, rf, q⟩ := h
    refine ⟨ι, μ, ρ, rep, rf, ?_⟩
    simp only [ev] at q
    simp only [bind_bind]
    exact q
  obtain ⟨ι, μ, ρ, rep, rf, q⟩ := rd1 (R1 := RB) g.ok h
  refine ⟨ι, μ, ρ, rep, rf, Post.imp q fun v H1 ⟨ι1, μ1, ρ1, d, rep1, rf1, hv, p1⟩ => ?_⟩
  cases hv
  cases v with
  | true => exact ⟨ι1, μ1, ρ1, rep1, rf1, p1⟩
  | false => exact ⟨ι1, μ1, ρ1, rep1, rf1, p1⟩
theorem t_ite (g : Good G O k lk W X) {c a b : MP.X} {x y z : Expr} {p : Pos} (hc : PT X x (rdT G O W c)) (ha : PT X y (rdT G O W a)) (hb : PT X z (rdT G O W b)) : PT X (.IfExp x y z p) (rdT G O W (.ite c a b)) := by
  refine ⟨fun pins s σ H Q I h => ?_⟩
  have h : rdM G W RB (fun ρ μ => ((ev O c ρ μ).bind tst).bind fun t μ => if t then (ev O a ρ μ).bind tst else (ev O b ρ μ).bind tst) σ H Q := by
    obtain ⟨ι, μ, ρ, rep, rf, q⟩ := h
    refine ⟨ι, μ, ρ, rep, rf, ?_⟩
    simp only [ev, bind_bind] at q
    simp only [bind_bind]
    refine cast ?_ q
    congr 2
    funext x μ
    congr 1
    funext t μ
    cases t <;> rfl
  show wpAny _ _ (do if ← isTrue x X.env (eval x X.env) then isTrue y X.env (eval y X.env) else isTrue z X.env (eval z X.env)) _ _ s
  refine wpAny_bind (thn (hc.run pins s σ H _ I (rd1 (R1 := RB) g.ok h)) fun d s1 ⟨H1, I1, ι1, μ1, ρ1, d', rep1, rf1, hv, p1⟩ => ?_)
  cases hv
  cases d with
  | true => exact ha.run pins s1 σ H1 Q I1 ⟨ι1, μ1, ρ1, rep1, rf1, p1⟩
  | false => exact hb.run pins s1 σ H1 Q I1 ⟨ι1, μ1, ρ1, rep1, rf1, p1⟩
/-! argument lists -/
theorem a_nil : PA X [] (rdA G O W .nil) := PA.imp pa_nil fun σ H Q ⟨ι, μ, ρ, rep, rf, p⟩ => by
  simp only [evs] at p
  exact p ι H [] (Ext.refl _ _) rep .nil
theorem a_cons (g : Good G O k lk W X) {x : MP.X} {r : Xs} {e : Expr} {es : List Expr} (hx : PE X e (rd G O W x)) (hr : PA X es (rdA G O W r)) (hs : (vStar e).isNone = true) : PA X (e :: es) (rdA G O W (.cons x r)) := by
  refine PA.imp (pa_cons hx hr (star_cons hs)) fun σ H Q h => ?_
  have h : rdM G W (RVs G) (fun ρ μ => (ev O x ρ μ).bind fun v μ => (evs O r ρ μ).bind fun vs μ => .ok (v :: vs) μ) σ H Q := by
    obtain ⟨ι, μ, ρ, rep, rf, q⟩ := h
    exact ⟨ι, μ, ρ, rep, rf, by simpa only [evs] using q⟩
  obtain ⟨ι, μ, ρ, rep, rf, q⟩ := h
  refine ⟨ι, μ, ρ, rep, rf, Post.imp (Post.bind q) fun v H1 ⟨ι1, μ1, d, e1, rep1, hv, p1⟩ => ⟨ι1, μ1, ρ, rep1, rf.mono g.ok e1, Post.imp (Post.bind p1) fun vs H2 ⟨ι2, μ2, ds, e2, rep2, hvs, p2⟩ => ?_⟩⟩
  exact p2 ι2 H2 _ (Ext.refl _ _) rep2 (.cons (hv.mono g.ok e2) hvs)
theorem a_star (g : Good G O k lk W X) {x : MP.X} {r : Xs} {e : Expr} {p : Pos} {es : List Expr} (hx : PE X e (rd G O W x)) (hr : PA X es (rdA G O W r)) : PA X (.Starred e p :: es) (rdA G O W (.star x r)) := by
  refine PA.imp (StX.pa_star hx hr) fun σ H Q h => ?_
  obtain ⟨ι, μ, ρ, rep, rf, q⟩ := h
  simp only [evs] at q
  refine ⟨ι, μ, ρ, rep, rf, Post.imp (Post.bind q) fun v H1 ⟨ι1, μ1, d, e1, rep1, hv, p1⟩ => ?_⟩
  have key : ∀ ws, itemsOf d μ1 = some ws → Post G W σ (RVs G) ι1 H1 Q ((evs O r ρ μ1).bind fun vs μ => .ok (ws ++ vs) μ) →
      ∃ p xs, v = V.ref p ∧ (SqT X.K H1 p xs ∨ SqL X.K H1 p xs) ∧ rdA G O W r σ H1 fun ys H2 => Q (xs ++ ys) H2 := fun ws hw p1 => by
    obtain ⟨a, vs, rfl, sq, hr⟩ := hv.items (X := X) g.eK rep1 hw
    refine ⟨a, vs, rfl, sq.symm, ι1, μ1, ρ, rep1, rf.mono g.ok e1, Post.imp (Post.bind p1) fun ys H2 ⟨ι2, μ2, ds, e2, rep2, hvs, p2⟩ => ?_⟩
    exact p2 ι2 H2 _ (Ext.refl _ _) rep2 ((hr.mono g.ok e2).append hvs)
  cases d with
  | tup ws => exact key ws rfl p1
  | lst ws => exact key ws rfl p1
  | _ => exact False.elim p1
/-! displays -/
theorem c_tup (g : Good G O k lk W X) {as : Xs} {es : List Expr} {n : Nat} {p : Pos} (ha : PA X es (rdA G O W as)) : PE X (.Tuple es n p) (rd G O W (.tup as)) := by
  refine PE.imp (pe_tup ha) fun σ H Q h => ?_
  obtain ⟨ι, μ, ρ, rep, rf, q⟩ := h
  simp only [ev] at q
  refine ⟨ι, μ, ρ, rep, rf, Post.imp (Post.bind q) fun vs H1 ⟨ι1, μ1, ds, e1, rep1, hv, p1⟩ => ?_⟩
  split at p1
  · rename_i hl
    exact ⟨by rw [hv.length]; exact hl, fun a ha => p1 ι1 _ _ (Ext.laid ha) (rep1.laid g.ok tup_ne ha) (.tup upd_same (rep1.fresh ha) (hv.mono g.ok (Ext.laid ha)))⟩
  · exact False.elim p1
theorem c_lst (g : Good G O k lk W X) {as : Xs} {es : List Expr} {p : Pos} (ha : PA X es (rdA G O W as)) : PE X (.List es p) (rd G O W (.lst as)) := by
  refine PE.imp (pe_lst ha) fun σ H Q h => ?_
  obtain ⟨ι, μ, ρ, rep, rf, q⟩ := h
  simp only [ev] at q
  refine ⟨ι, μ, ρ, rep, rf, Post.imp (Post.bind q) fun vs H1 ⟨ι1, μ1, ds, e1, rep1, hv, p1⟩ => ?_⟩
  split at p1
  · rename_i hl
    exact ⟨by rw [hv.length]; exact hl, fun a ha => p1 ι1 _ _ (Ext.laid ha) (rep1.laid g.ok lst_ne ha) (.lst upd_same (rep1.fresh ha) (hv.mono g.ok (Ext.laid ha)))⟩
  · exact False.elim p1
theorem c_mlst (g : Good G O k lk W X) {as : Xs} {es : List Expr} {p : Pos} (ha : PA X es (rdA G O W as)) : PE X (.List es p) (rd G O W (.mlst as)) := by
  refine PE.imp (pe_lst ha) fun σ H Q h => ?_
  obtain ⟨ι, μ, ρ, rep, rf, q⟩ := h
  simp only [ev] at q
  refine ⟨ι, μ, ρ, rep, rf, Post.imp (Post.bind q) fun vs H1 ⟨ι1, μ1, ds, e1, rep1, hv, p1⟩ => ?_⟩
  split at p1
  · rename_i hl
    exact ⟨by rw [hv.length]; exact hl, fun a ha => p1 (ι1.snoc a) _ _ (Ext.born ha) (rep1.born g.ok ha hv) (RV.born (vs := vs) rep1)⟩
  · exact False.elim p1
/-! x[i] -/
theorem c_ix (g : Good G O k lk W X) {a b : MP.X} {l r : Expr} {p : Pos} (ha : PE X l (rd G O W a)) (hb : PE X r (rd G O W b)) (hp : plainIx r = true) : PE X (.Subscript l r p) (rd G O W (.ix a b)) := by
  refine ⟨fun pins s σ H Q I h => ?_⟩
  have h : rdM G W (RV G) (fun ρ μ => (ev O a ρ μ).bind fun x μ => (ev O b ρ μ).bind fun y μ => ixV x y μ) σ H Q := by
    obtain ⟨ι, μ, ρ, rep, rf, q⟩ := h
    exact ⟨ι, μ, ρ, rep, rf, by simpa only [ev] using q⟩
  exact Subscript_ (binT ha hb I (rd2 g.ok h) fun v u s2 x y H2 I2 rx ry ⟨ι, μ, d, e, rep, hx, hy, q⟩ => ix_ok g.eK l r I2 rx ry rep hx hy q (plainIx_ok hp _ _))
end
end MP

set_option maxHeartbeats 1000000
/-! The evaluator keeps to the model: expressions, further. -/
namespace MP
open PySem PySem.Spec PyProof.Rows L2
section
variable {G : Gx} {O : Orc} {k : Nat} {lk : LK} {W : WX} {X : Cx}
/-! and, or -/
abbrev rdB (G : Gx) (W : WX) (m : Frame → Mem → Out Val) : TT := rdM G W RB (fun ρ μ => (m ρ μ).bind tst)
theorem b_one {x : MP.X} {e : Expr} {p : Pos} {op : BoolOp} (h : PE X e (rd G O W x)) : PE X (.BoolOp op [e] p) (rd G O W x) := pe_one h
theorem ev_and2 {x : MP.X} {r : Xs} (hr : r ≠ .nil) (ρ : Frame) (μ : Mem) : evAnd O (.cons x r) ρ μ = (ev O x ρ μ).bind fun v μ => thenB v (fun μ => evAnd O r ρ μ) (fun μ => .ok (.bl false) μ) μ := by
  cases r with
  | nil => exact absurd rfl hr
  | cons y s => simp only [evAnd]
  | star y s => simp only [evAnd]
theorem ev_or2 {x : MP.X} {r : Xs} (hr : r ≠ .nil) (ρ : Frame) (μ : Mem) : evOr O (.cons x r) ρ μ = (ev O x ρ μ).bind fun v μ => thenB v (fun μ => .ok (.bl true) μ) (fun μ => evOr O r ρ μ) μ := by
  cases r with
  | nil => exact absurd rfl hr
  | cons y s => simp only [evOr]
  | star y s => simp only [evOr]
theorem b_and (g : Good G O k lk W X) {x : MP.X} {r : Xs} {e e' : Expr} {es : List Expr} {p : Pos} (hr : r ≠ .nil) (hx : PE X e (rd G O W x)) (h : PE X (.BoolOp .And (e' :: es) p) (rdM G W (RV G) (evAnd O r))) :
    PE X (.BoolOp .And (e :: e' :: es) p) (rdM G W (RV G) (evAnd O (.cons x r))) := by
  refine PE.imp (pe_and hx h) fun σ H Q ⟨ι, μ, ρ, rep, rf, q⟩ => ?_
  rw [ev_and2 hr] at q
  refine ⟨ι, μ, ρ, rep, rf, Post.imp (Post.bind q) fun v H1 ⟨ι1, μ1, d, e1, rep1, hv, p1⟩ => ?_⟩
  cases d with
  | bl b =>
    cases hv
    cases b with
    | true => exact ⟨true, rfl, ι1, μ1, ρ, rep1, rf.mono g.ok e1, p1⟩
    | false => exact ⟨false, rfl, p1 ι1 H1 _ (Ext.refl _ _) rep1 (.bl _)⟩
  | _ => exact False.elim p1
theorem b_or (g : Good G O k lk W X) {x : MP.X} {r : Xs} {e e' : Expr} {es : List Expr} {p : Pos} (hr : r ≠ .nil) (hx : PE X e (rd G O W x)) (h : PE X (.BoolOp .Or (e' :: es) p) (rdM G W (RV G) (evOr O r))) :
    PE X (.BoolOp .Or (e :: e' :: es) p) (rdM G W (RV G) (evOr O (.cons x r))) := by
  refine PE.imp (pe_or hx h) fun σ H Q ⟨ι, μ, ρ, rep, rf, q⟩ => ?_
  rw [ev_or2 hr] at q
  refine ⟨ι, μ, ρ, rep, rf, Post.imp (Post.bind q) fun v H1 ⟨ι1, μ1, d, e1, rep1, hv, p1⟩ => ?_⟩
  cases d with
  | bl b =>
    cases hv
    cases b with
    | true => exact ⟨true, rfl, p1 ι1 H1 _ (Ext.refl _ _) rep1 (.bl _)⟩
    | false => exact ⟨false, rfl, ι1, μ1, ρ, rep1, rf.mono g.ok e1, p1⟩
  | _ => exact False.elim p1
theorem w_and (g : Good G O k lk W X) {x : MP.X} {r : Xs} {e e' : Expr} {es : List Expr} {p : Pos} (hr : r ≠ .nil) (hx : PT X e (rdT G O W x)) (h : PW X (.BoolOp .And (e' :: es) p) (rdB G W (evAnd O r))) :
    PW X (.BoolOp .And (e :: e' :: es) p) (rdB G W (evAnd O (.cons x r))) := by
  refine PW.imp (pw_and hx h) fun σ H Q ⟨ι, μ, ρ, rep, rf, q⟩ => ?_
  simp only [ev_and2 hr, bind_bind] at q
  refine ⟨ι, μ, ρ, rep, rf, ?_⟩
  show Post G W σ RB ι H _ ((ev O x ρ μ).bind tst)
  cases hx : ev O x ρ μ with
  | ok d μ1 =>
    rw [hx] at q
    cases d with
    | bl b =>
      intro ι1 H1 v e1 rep1 hv
      cases hv
      cases b with
      | true => exact ⟨ι1, μ1, ρ, rep1, rf.mono g.ok e1, Post.mono e1 q⟩
      | false => exact q ι1 H1 _ e1 rep1 rfl
    | _ => exact False.elim q
  | ex x μ1 => rw [hx] at q; exact q
  | bad => rw [hx] at q; exact q
theorem w_or (g : Good G O k lk W X) {x : MP.X} {r : Xs} {e e' : Expr} {es : List Expr} {p : Pos} (hr : r ≠ .nil) (hx : PT X e (rdT G O W x)) (h : PW X (.BoolOp .Or (e' :: es) p) (rdB G W (evOr O r))) :
    PW X (.BoolOp .Or (e :: e' :: es) p) (rdB G W (evOr O (.cons x r))) := by
  refine PW.imp (pw_or hx h) fun σ H Q ⟨ι, μ, ρ, rep, rf, q⟩ => ?_
  simp only [ev_or2 hr, bind_bind] at q
  refine ⟨ι, μ, ρ, rep, rf, ?_⟩
  show Post G W σ RB ι H _ ((ev O x ρ μ).bind tst)
  cases hx : ev O x ρ μ with
  | ok d μ1 =>
    rw [hx] at q
    cases d with
    | bl b =>
      intro ι1 H1 v e1 rep1 hv
      cases hv
      cases b with
      | true => exact q ι1 H1 _ e1 rep1 rfl
      | false => exact ⟨ι1, μ1, ρ, rep1, rf.mono g.ok e1, Post.mono e1 q⟩
    | _ => exact False.elim q
  | ex x μ1 => rw [hx] at q; exact q
  | bad => rw [hx] at q; exact q
/-! a op b op' c -/
def chainV (O : Orc) (op op' : Cop) (c : MP.X) (ρ : Frame) (x y : Val) (μ : Mem) : Out Val := (cmpop op x y μ).bind fun v μ => thenB v (fun μ => (ev O c ρ μ).bind fun z μ => cmpop op' y z μ) (fun μ => .ok (.bl false) μ) μ
theorem post_self {ι : Io} {H : Hp} {σ : L2.St} {o : Out Val} {f : Val → Mem → Out Val} {Q : V → Hp → Prop} (hb : BlOut o) (h : PostV G W σ ι H Q (o.bind f)) :
    PostV G W σ ι H (fun z H' => ∃ b ι1 μ1, z = .bl b ∧ Ext ι H ι1 H' ∧ Rep G ι1 μ1 H' ∧ PostV G W σ ι1 H' Q (f (.bl b) μ1)) o := by
  cases o with
  | ok r μ =>
    obtain ⟨b, rfl⟩ := hb r μ rfl
    intro ι' H' v e rep hv
    cases hv
    exact ⟨b, ι', μ, rfl, e, rep, Post.mono e h⟩
  | ex x μ => exact h
  | bad => exact h
theorem c_chain (g : Good G O k lk W X) {op op' : Cop} {a b c : MP.X} {l m r : Expr} {p : Pos} (ha : PE X l (rd G O W a)) (hb : PE X m (rd G O W b)) (hc : PE X r (rd G O W c)) (hm : lastMarks [cOp op, cOp op'] [m, r] = false) :
    PE X (.Compare l [cOp op, cOp op'] [m, r] p) (rd G O W (.chain op op' a b c)) := by
  refine ⟨fun pins s σ H Q I ⟨ι, μ, ρ, rep, rf, q⟩ => ?_⟩
  have q : PostV G W σ ι H Q ((ev O a ρ μ).bind fun x μ => (ev O b ρ μ).bind fun y μ => chainV O op op' c ρ x y μ) := by simpa only [ev, chainV] using q
  refine Compare_chain (thn (ha.run pins s σ H _ I ⟨ι, μ, ρ, rep, rf, Post.bind q⟩) fun v s1 ⟨x, H1, I1, r1, ι1, μ1, d1, e1, rep1, hx, q1⟩ => chain_link (thn (hb.run pins s1 σ H1 _ I1 ⟨ι1, μ1, ρ, rep1, rf.mono g.ok e1, Post.bind q1⟩) fun u s2 ⟨y, H2, I2, r2, ι2, μ2, d2, e2, rep2, hy, q2⟩ =>
    thn (opv_cmp g.eK g.room.units op W pins s2 σ H2 x y v u _ ι2 μ2 d1 d2 I2 r1 r2 rep2 (hx.mono g.ok e2) hy (post_self (bl_cmp _ _ _ _) q2)) fun d s3 ⟨z, H3, I3, r3, k, ι3, μ3, ek, e3, rep3, q3⟩ => ?_)) hm
  subst ek
  cases r3
  refine wpAny_truthy_bool ?_
  cases k with
  | false => exact ite_ff ⟨.bl false, H3, I3, rfl, q3 ι3 H3 _ (Ext.refl _ _) rep3 (.bl _)⟩
  | true => exact ite_tt (chain_last (thn (hc.run pins s3 σ H3 _ I3 ⟨ι3, μ3, ρ, rep3, rf.mono g.ok (e1.trans (e2.trans e3)), Post.bind q3⟩) fun w' s4 ⟨z', H4, I4, r4, ι4, μ4, d4, e4, rep4, hz, q4⟩ =>
      opv_cmp g.eK g.room.units op' W pins s4 σ H4 y z' u w' Q ι4 μ4 d2 d4 I4 r2 r4 rep4 (hy.mono g.ok (e3.trans e4)) hz q4))
theorem bl_chain (op op' : Cop) (c : MP.X) (ρ : Frame) (x y : Val) (μ : Mem) : BlOut (chainV O op op' c ρ x y μ) := fun r μ' h => by
  unfold chainV at h
  cases hc : cmpop op x y μ with
  | ok v μ1 =>
    rw [hc] at h
    obtain ⟨b, rfl⟩ := bl_cmp op x y μ v μ1 hc
    cases b with
    | false => cases h; exact ⟨_, rfl⟩
    | true =>
      have h : ((ev O c ρ μ1).bind fun z μ => cmpop op' y z μ) = .ok r μ' := h
      cases he : ev O c ρ μ1 with
      | ok w μ2 => rw [he] at h; exact bl_cmp _ _ _ _ r μ' h
      | ex _ _ => rw [he] at h; cases h
      | bad => rw [he] at h; cases h
  | ex _ _ => rw [hc] at h; cases h
  | bad => rw [hc] at h; cases h
/-- a test by its value, where that is a truth value: the library's own road is not taken, the value's test is its own -/
theorem t_chain (g : Good G O k lk W X) {op op' : Cop} {a b c : MP.X} {l m r : Expr} {p : Pos} (ha : PE X l (rd G O W a)) (hb : PE X m (rd G O W b)) (hc : PE X r (rd G O W c)) (hm : lastMarks [cOp op, cOp op'] [m, r] = false) :
    PT X (.Compare l [cOp op, cOp op'] [m, r] p) (rdT G O W (.chain op op' a b c)) := by
  refine ⟨fun pins s σ H Q I ⟨ι, μ, ρ, rep, rf, q⟩ => ?_⟩
  have q : Post G W σ RB ι H Q ((ev O a ρ μ).bind fun x μ => (ev O b ρ μ).bind fun y μ => (chainV O op op' c ρ x y μ).bind tst) := by
    have e : ev O (.chain op op' a b c) ρ μ = (ev O a ρ μ).bind fun x μ => (ev O b ρ μ).bind fun y μ => chainV O op op' c ρ x y μ := by simp only [ev, chainV]
    simp only [e, bind_bind] at q
    exact q
  refine isTrue_chain (thn (ha.run pins s σ H _ I ⟨ι, μ, ρ, rep, rf, Post.bind q⟩) fun v s1 ⟨x, H1, I1, r1, ι1, μ1, d1, e1, rep1, hx, q1⟩ => test_link (thn (hb.run pins s1 σ H1 _ I1 ⟨ι1, μ1, ρ, rep1, rf.mono g.ok e1, Post.bind q1⟩) fun u s2 ⟨y, H2, I2, r2, ι2, μ2, d2, e2, rep2, hy, q2⟩ => ?_)) hm
  have q2 : PostV G W σ ι2 H2 (fun z H' => ∃ c, z = .bl c ∧ Q c H') (chainV O op op' c ρ d1 d2 μ2) := post_bl (bl_chain _ _ _ _ _ _ _) q2
  refine thn (opv_cmp g.eK g.room.units op W pins s2 σ H2 x y v u _ ι2 μ2 d1 d2 I2 r1 r2 rep2 (hx.mono g.ok e2) hy (post_self (bl_cmp _ _ _ _) q2)) fun d s3 ⟨z, H3, I3, r3, k, ι3, μ3, ek, e3, rep3, q3⟩ => ?_
  subst ek
  cases r3
  refine wpAny_truthy_bool ?_
  cases k with
  | false =>
    obtain ⟨k', e', q'⟩ := q3 ι3 H3 _ (Ext.refl _ _) rep3 (.bl _)
    cases e'
    exact ite_ff ⟨H3, I3, q'⟩
  | true =>
    refine ite_tt (test_last (thn (hc.run pins s3 σ H3 _ I3 ⟨ι3, μ3, ρ, rep3, rf.mono g.ok (e1.trans (e2.trans e3)), Post.bind q3⟩) fun w' s4 ⟨z', H4, I4, r4, ι4, μ4, d4, e4, rep4, hz, q4⟩ =>
      thn (opv_cmp g.eK g.room.units op' W pins s4 σ H4 y z' u w' _ ι4 μ4 d2 d4 I4 r2 r4 rep4 (hy.mono g.ok (e3.trans e4)) hz q4) fun d' s5 ⟨z2, H5, I5, r5, k2, e2, q5⟩ => ?_))
    subst e2
    cases r5
    exact wpAny_truthy_bool ⟨H5, I5, q5⟩
/-! calls -/
theorem run_fnG (g : Good G O k lk W X) {f : Addr} {sem : List Val → Mem → Out Val} (F : FnR X.prog X.w X.K X.mg X.base (L2.CX X.prog X.w) k f (spG G sem)) {pins : List (Addr × Obj)} {s : Shared} {σ : L2.St} {H : Hp} {Q : VK} {vs : List V} {us : List Value} {ι : Io} {μ : Mem} {ds : List Val}
    (I : Inv X pins σ H s) (r : Vals vs us) (rep : Rep G ι μ H) (hv : RVs G ι H vs ds) (q : PostV G W σ ι H Q (sem ds μ)) : wpAny (model X.prog X.w) X.A (call (.ref f) us) (EP X pins σ Q) X.xe s := by
  refine wpAny_call (codeAny_mono (F X.A X.stack s H us vs Q (WE W σ) g.room I.env0 r ⟨ι, μ, ds, rep, hv, ?_⟩) fun r s' hq => ?_)
  · cases hs : sem ds μ with
    | ok d μ' => rw [hs] at q; exact q
    | ex x μ' => rw [hs] at q; exact q
    | bad => rw [hs] at q; exact q
  · cases r with
    | error e => exact passAt g.tk σ pins H s e s' I hq
    | ok fl =>
      cases fl with
      | ret u => exact I.after hq
      | next => exact False.elim hq
      | brk => exact False.elim hq
      | cont => exact False.elim hq
theorem c_call (g : Good G O k lk W X) {x : Str} {p pos : Pos} {f : Addr} {sem : List Val → Mem → Out Val} {as : Xs} {es : List Expr} (F : FnR X.prog X.w X.K X.mg X.base (L2.CX X.prog X.w) k f (spG G sem)) (hm : X.mg x = some (.ref f)) (hk : PySem.W.keepIn X.K (.ref f) = true)
    (hg : glB X.env.scope x = true) (ha : PA X es (rdA G O W as)) (hs : noStar es = true) (h0 : es = [] → as = .nil) : PE X (.Call (.Name x p) es [] pos) (rdM G W (RV G) (fun ρ μ => (evs O as ρ μ).bind sem)) := by
  obtain ⟨h1, h2, h3⟩ := glB_ok hg
  refine ⟨fun pins s σ H Q I ⟨ι, μ, ρ, rep, rf, q⟩ => ?_⟩
  refine wpAny_Call_Name_kw (ld_glob I h1 hm ?_ h2)
  cases es with
  | nil =>
    refine PySem.W.callWith_K0 I.kIn hk ?_
    cases h0 rfl
    simp only [evs] at q
    exact run_fnG g F I .nil rep .nil q
  | cons e es =>
    simp only [noStar, List.all_cons, Bool.and_eq_true] at hs
    refine PySem.W.callWith_K (h₀ := X.base) I.ok.mod.kin hk (thn (ha.run pos pins s σ H _ I ⟨ι, μ, ρ, rep, rf, Post.bind q⟩) fun us s1 ⟨vs, H1, I1, r, ι1, μ1, ds, e1, rep1, hv, q1⟩ => ⟨I1.kIn, ?_⟩) (star_cons hs.1) (star_any0 hs.2)
    exact run_fnG g F I1 r rep1 hv q1
/-- a built-in function or class -/
theorem c_blt (g : Good G O k lk W X) {x : Str} {p pos : Pos} {sem : List Val → Mem → Out Val} {as : Xs} {e : Expr} {es : List Expr} {fv : Value} (hc : CallV G X fv sem) (hf : (∃ id, fv = .builtin id) ∨ ∃ T, fv = .type T) (hm : X.mg x = none) (hv : bootBuiltins x = some fv)
    (hg : glB X.env.scope x = true) (ha : PA X (e :: es) (rdA G O W as)) (hs : noStar (e :: es) = true) : PE X (.Call (.Name x p) (e :: es) [] pos) (rdM G W (RV G) (fun ρ μ => (evs O as ρ μ).bind sem)) := by
  obtain ⟨h1, h2, h3⟩ := glB_ok hg
  simp only [noStar, List.all_cons, Bool.and_eq_true] at hs
  refine ⟨fun pins s σ H Q I ⟨ι, μ, ρ, rep, rf, q⟩ => ?_⟩
  refine wpAny_Call_Name_kw (ld_blt I h1 hm hv ?_ h3 h2)
  have key := thn (ha.run pos pins s σ H _ I ⟨ι, μ, ρ, rep, rf, Post.bind q⟩) fun us s1 ⟨vs, H1, I1, r, ι1, μ1, ds, e1, rep1, hv, q1⟩ => hc W pins s1 σ H1 vs us Q ι1 μ1 ds I1 r rep1 hv q1
  rcases hf with ⟨id, rfl⟩ | ⟨T, rfl⟩
  · exact PyProof.Rows.callWith_builtin1 key (star_cons hs.1) (star_any0 hs.2)
  · exact PyProof.Rows.callWith_type1 key (star_cons hs.1) (star_any0 hs.2)
theorem boot_ty (t : Ty) : bootBuiltins (Str.ofString (tyS t)) = some (.type (tyS t)) := by cases t <;> decide +kernel
theorem free_ty (g : Good G O k lk W X) (t : Ty) : X.mg (Str.ofString (tyS t)) = none := g.free _ (by cases t <;> decide +kernel)
theorem c_isi (g : Good G O k lk W X) {a : MP.X} {t : Ty} {l r : Expr} {p pos : Pos} (ha : PE X l (rd G O W a)) (hr : vName r = some (Str.ofString (tyS t))) (hg : glB X.env.scope "isinstance" = true) (hg2 : glB X.env.scope (Str.ofString (tyS t)) = true) (hs : noStar [l, r] = true) :
    PE X (.Call (.Name "isinstance" p) [l, r] [] pos) (rd G O W (.isi a t)) := by
  obtain ⟨h1, h2, h3⟩ := glB_ok hg
  obtain ⟨h4, h5, h6⟩ := glB_ok hg2
  obtain ⟨pr, rfl⟩ := vName_eq hr
  simp only [noStar, List.all_cons, List.all_nil, Bool.and_eq_true] at hs
  have hb : PE X (.Name (Str.ofString (tyS t)) pr) (tC (.ty (tyS t))) := pe_bltn h4 (free_ty g t) (boot_ty t) rfl h6 h5
  refine ⟨fun pins s σ H Q I ⟨ι, μ, ρ, rep, rf, q⟩ => ?_⟩
  simp only [ev] at q
  refine wpAny_Call_Name_kw (ld_blt I h1 (g.free _ (by decide +kernel)) (show bootBuiltins "isinstance" = some (.builtin "isinstance") by decide +kernel) ?_ h3 h2)
  refine PyProof.Rows.callWith_builtin1 (thn ((pa_cons ha (pa_cons hb pa_nil (star_cons hs.2.1)) (star_cons hs.1)).run pos pins s σ H (fun vs H1 => ∃ x ι1 μ1 d, vs = [x, .ty (tyS t)] ∧ Rep G ι1 μ1 H1 ∧ RV G ι1 H1 x d ∧ PostV G W σ ι1 H1 Q (ob (isiV t d) μ1)) I
    ⟨ι, μ, ρ, rep, rf, Post.imp (Post.bind q) fun v H1 ⟨ι1, μ1, d, e1, rep1, hv, p1⟩ => ⟨v, ι1, μ1, d, rfl, rep1, hv, p1⟩⟩) fun us s1 ⟨vs, H1, I1, rv, x, ι1, μ1, d, ev, rep1, hx, q1⟩ => ?_) (star_cons hs.1) (star_any0 (by simp only [noStar, List.all_cons, List.all_nil, Bool.and_eq_true]; exact ⟨hs.2.1, trivial⟩))
  subst ev
  cases rv with
  | cons r1 rr => cases rr with
    | cons r2 rr =>
      cases rr
      cases r2
      exact isi_ok g.eK t I1 r1 rep1 hx q1
/-! what is walked -/
/-- as Ext; more may be blocked -/
structure ExtB (ι : Io) (H : Hp) (ι' : Io) (H' : Hp) : Prop where
  pre : ∃ δ, ι'.ix = ι.ix ++ δ ∧ ∀ p ∈ δ, H p = none
  no : ∀ a ∈ ι'.no, a ∈ ι.no ∨ H a = none
  keep : ∀ a o, a ∉ ι.ix → (∀ ps, o ≠ .tbl ps) → H a = some o → H' a = some o
  live : ∀ a, H' a = none → H a = none
theorem Ext.b {ι ι' : Io} {H H' : Hp} (e : Ext ι H ι' H') : ExtB ι H ι' H' := ⟨e.pre, fun a h => .inl (by rw [← e.no]; exact h), e.keep, e.live⟩
theorem ExtB.trans {ι ι1 ι2 : Io} {H H1 H2 : Hp} (e : ExtB ι H ι1 H1) (f : ExtB ι1 H1 ι2 H2) : ExtB ι H ι2 H2 := by
  obtain ⟨δ, h1, hd⟩ := e.pre
  obtain ⟨δ', h2, hd'⟩ := f.pre
  refine ⟨⟨δ ++ δ', by rw [h2, h1]; simp, fun p hp => ?_⟩, fun a ha => ?_, fun a o n t h => f.keep a o ?_ t (e.keep a o n t h), fun a h => e.live a (f.live a h)⟩
  · rcases List.mem_append.mp hp with z | z
    · exact hd p z
    · exact e.live p (hd' p z)
  · rcases f.no a ha with z | z
    · exact e.no a z
    · exact .inr (e.live a z)
  · rw [h1]
    intro z
    rcases List.mem_append.mp z with z | z
    · exact n z
    · rw [hd a z] at h; cases h
theorem ExtB.out {ι ι' : Io} {H H' : Hp} (e : ExtB ι H ι' H') {a : Addr} {o : HO} (h : H a = some o) (n : a ∉ ι) : a ∉ ι' := by
  obtain ⟨δ, h1, hd⟩ := e.pre
  intro z
  rcases z with z | z
  · rw [h1] at z
    rcases List.mem_append.mp z with z | z
    · exact n (.inl z)
    · rw [hd a z] at h; cases h
  · rcases e.no a z with z | z
    · exact n (.inr z)
    · rw [z] at h; cases h
theorem ExtB.rvs (ok : G.Ok) {ι ι' : Io} {H H' : Hp} (e : ExtB ι H ι' H') {vs : List V} {ds : List Val} (h : RVs G ι H vs ds) : RVs G ι' H' vs ds := by
  obtain ⟨δ, h1, hd⟩ := e.pre
  exact RVs.gen (fun n a h => by rw [h1, List.getElem?_append_left (List.getElem?_eq_some_iff.mp h).1]; exact h) (fun a o n t h => ⟨e.keep a o (Io.nix n) t h, e.out h n⟩) ok h
theorem ExtB.rv (ok : G.Ok) {ι ι' : Io} {H H' : Hp} (e : ExtB ι H ι' H') {v : V} {d : Val} (h : RV G ι H v d) : RV G ι' H' v d := by
  obtain ⟨δ, h1, hd⟩ := e.pre
  exact RV.gen (fun n a h => by rw [h1, List.getElem?_append_left (List.getElem?_eq_some_iff.mp h).1]; exact h) (fun a o n t h => ⟨e.keep a o (Io.nix n) t h, e.out h n⟩) ok h
def WkV (G : Gx) (ι0 : Io) (H0 : Hp) (J : L2.It) (ds : List Val) : Prop :=
  Walk J ds.length (fun H => ∃ ι, ExtB ι0 H0 ι H) (fun i H x H' => ∀ ι μ, ExtB ι0 H0 ι H → Rep G ι μ H → Ext ι H ι H' ∧ Rep G ι μ H' ∧ ∃ d, ds[i]? = some d ∧ RV G ι H' x d)
theorem WkV.of {J : L2.It} {xs : List V} {ds : List Val} {ι0 : Io} {H0 : Hp} {P : Hp → Prop} (ok : G.Ok) (w : Walk J xs.length P (YAt xs)) (hr : RVs G ι0 H0 xs ds) (hp : ∀ ι H, ExtB ι0 H0 ι H → P H) : WkV G ι0 H0 J ds := by
  unfold WkV
  rw [← hr.length]
  refine w.mono (fun H ⟨ι, e⟩ => hp ι H e) fun i H x H' hi _ y ι μ e rep => ?_
  obtain ⟨rfl, hx⟩ := y
  refine ⟨Ext.refl _ _, rep, ?_⟩
  have hl : i < ds.length := by rw [← hr.length]; exact hi
  obtain ⟨v, h1, h2⟩ := (e.rvs ok hr).get (List.getElem?_eq_getElem hl)
  rw [hx] at h1
  cases h1
  exact ⟨ds[i], List.getElem?_eq_getElem hl, h2⟩
abbrev rdI (G : Gx) (O : Orc) (W : WX) (it : It) : TI := rdM G W (WkV G) (evI O it)
theorem i_seq (g : Good G O k lk W X) {x : MP.X} {tg e : Expr} (h : PE X e (rd G O W x)) : PI X tg e (rdI G O W (.seq x)) := by
  refine ⟨fun pins s σ H R I ⟨ι, μ, ρ, rep, rf, q⟩ => ?_⟩
  simp only [evI] at q
  refine thn (h.run pins s σ H _ I ⟨ι, μ, ρ, rep, rf, Post.bind q⟩) fun v s1 ⟨x, H1, I1, r1, ι1, μ1, d, e1, rep1, hx, p1⟩ => ?_
  cases d with
  | tup ds =>
    obtain ⟨a, rfl⟩ := hx.ref_tup
    obtain ⟨vs, sq, rr⟩ := hx.sqT (X := X) g.eK
    cases r1
    obtain ⟨its, rv, p, hz⟩ := I1.tuple sq
    refine wpAny_pyIter_tuple (show s1.heap.IsTuple a its.toArray from p) ?_
    refine ⟨s1.heap.objs.size, [s1.heap.objs.size], _, _, H1, rfl, I1.kept (t' := s1.toks) fun b o e => Heap.get?_push_of_some _ e, turn_tuple a _, ⟨_, Heap.get?_push_size _ rfl, rfl, rfl⟩, fun b hb => ?_, ?_⟩
    · have e : b = s1.heap.objs.size := by simpa using hb
      subst e
      exact I1.fpOk (Nat.le_refl _) (I1.hok.fresh (Nat.le_refl _))
    · refine p1 ι1 H1 _ (Ext.refl _ _) rep1 (WkV.of g.ok (walk_tup (K := X.K) (a := a) (xs := vs)) rr fun ι' H' e => ?_)
      cases hx with
      | tup h n r =>
        rcases sq with sq | sq
        · rcases sq with sq | ⟨o, sq⟩
          · exact SqT.of (e.keep _ _ (Io.nix n) tup_ne sq)
          · rw [h] at sq; cases sq
        · exact .inr sq
      | wtup h r =>
        rcases sq with sq | sq
        · have := I1.ok
          obtain ⟨o, its', n, k1, k2, k3, k4, k5⟩ := h
          have hb := I1.tuple_inj (.inr ⟨o, its', n, by rw [g.eK]; exact k1, k2, k3, k4, k5⟩) (show SqT X.K H1 a vs from .inl sq)
          subst hb
          exact .inr ⟨o, its', n, by rw [g.eK]; exact k1, k2, k3, k4, k5⟩
        · exact .inr sq
  | lst ds =>
    obtain ⟨a, vs, rfl, sa, na, rr⟩ := hx.lstA
    cases r1
    obtain ⟨its, rv, p, hz⟩ := I1.list (SqL.of sa)
    refine wpAny_pyIter_list p.isList ?_
    refine ⟨s1.heap.objs.size, [s1.heap.objs.size], _, _, H1, rfl, I1.kept (t' := s1.toks) fun b o e => Heap.get?_push_of_some _ e, turn_list a _, ⟨_, Heap.get?_push_size _ rfl, rfl, rfl⟩, fun b hb => ?_, ?_⟩
    · have e : b = s1.heap.objs.size := by simpa using hb
      subst e
      exact I1.fpOk (Nat.le_refl _) (I1.hok.fresh (Nat.le_refl _))
    · exact p1 ι1 H1 _ (Ext.refl _ _) rep1 (WkV.of g.ok (walk_list (K := X.K) (a := a) (xs := vs)) rr fun ι' H' e => SqL.of (e.keep _ _ (Io.nix na) lst_ne sa))
  | _ => exact False.elim p1
theorem i_rng (g : Good G O k lk W X) {x : MP.X} {tg e : Expr} {p pos : Pos} (h : PE X e (rd G O W x)) (hg : glB X.env.scope "range" = true) (hs : (vStar e).isNone = true) : PI X tg (.Call (.Name "range" p) [e] [] pos) (rdI G O W (.rng x)) := by
  obtain ⟨h1, h2, h3⟩ := glB_ok hg
  have hi := pi_range1 (tg := tg) (p := p) (pos := pos) h1 (g.free _ (by decide +kernel)) (pa_cons h pa_nil (star_cons hs)) (star_cons hs)
  refine ⟨fun pins s σ H R I ⟨ι, μ, ρ, rep, rf, q⟩ => hi.run pins s σ H R I ?_⟩
  simp only [evI] at q
  refine ⟨ι, μ, ρ, rep, rf, Post.imp (Post.bind q) fun v H1 ⟨ι1, μ1, d, e1, rep1, hv, p1⟩ => ?_⟩
  cases d with
  | int n =>
    cases hv
    have p1 : Post G W σ (WkV G) ι1 H1 R (if -(2 ^ 62) ≤ n ∧ n < 2 ^ 62 then .ok (rangeV n) μ1 else .bad) := p1
    split at p1
    · rename_i hb
      refine ⟨n, rfl, hb.1, hb.2, p1 ι1 H1 _ (Ext.refl _ _) rep1 ?_⟩
      unfold WkV
      have hl : (rangeV n).length = n.toNat := by simp [rangeV]
      rw [hl]
      refine walk_range.mono (fun _ _ => trivial) fun i H x H' hi _ y ι μ e rep => ?_
      obtain ⟨rfl, rfl⟩ := y
      refine ⟨Ext.refl _ _, rep, .int (i : Nat), ?_, ?_⟩
      · unfold rangeV
        rw [List.getElem?_map, List.getElem?_range hi]
        rfl
      · have z : (0 : Int) + (i : Nat) = (i : Nat) := by omega
        show RV G ι _ (.int (0 + (i : Nat))) _
        rw [z]
        exact .int _
    · exact False.elim p1
  | _ => exact False.elim p1
/-! targets -/
def TgV (G : Gx) (tg : Tgt) (t : TG) : Prop := ∀ (v : V) (d : Val) (σ : L2.St) (ρ ρ' : Frame) (H : Hp) (ι : Io) (Q : L2.St → Hp → Prop), RV G ι H v d → RF G ι H σ ρ → bindT tg d ρ = some ρ' →
  (∀ σ', RF G ι H σ' ρ' → (∀ vs, (∀ j ∈ tg.slots, j ∈ vs) → wipe σ' vs = wipe σ vs) → Q σ' H) → t v σ H Q
theorem wipe_set (σ : L2.St) (i : Nat) (x : Option V) : ∀ (vs : List Nat), i ∈ vs → wipe (σ.set i x) vs = wipe σ vs
  | j :: vs, h => by
    by_cases e : i = j
    · subst e
      show (wipe (σ.set i x) vs).set i none = (wipe σ vs).set i none
      have key : ∀ us : List Nat, (wipe (σ.set i x) us).set i none = (wipe σ us).set i none := fun us => by
        induction us with
        | nil => show (σ.set i x).set i none = σ.set i none; rw [List.set_set]
        | cons u us ih =>
          show ((wipe (σ.set i x) us).set u none).set i none = ((wipe σ us).set u none).set i none
          by_cases e : u = i
          · subst e; rw [List.set_set, List.set_set]; exact ih
          · rw [List.set_comm _ _ e, ih, List.set_comm _ _ (fun z => e z.symm)]
      exact key vs
    · show (wipe (σ.set i x) vs).set j none = (wipe σ vs).set j none
      have h' : i ∈ vs := by
        rcases List.mem_cons.mp h with z | z
        · exact absurd z e
        · exact z
      rw [wipe_set σ i x vs h']
theorem tgB_eq {cl : Bool} {N : List Str} {sc : Scope} {i : Nat} {e : Expr} (h : tgB cl N sc i e = true) : ∃ x p, e = .Name x p ∧ N[i]? = some x ∧ Loc sc x ∧ (cl = false → sc.names.lookup x = some .local) := by
  unfold tgB at h
  cases hv : vName e with
  | none => rw [hv] at h; cases h
  | some x =>
    rw [hv] at h
    simp only [Bool.and_eq_true, decide_eq_true_eq] at h
    obtain ⟨p, rfl⟩ := vName_eq hv
    exact ⟨x, p, rfl, h.1, (locB_ok h.2).1, (locB_ok h.2).2⟩
theorem tg_hf {cl : Bool} (hc : cl = true → ∀ x, X.fn x = true) {x : Str} (h : cl = false → X.env.scope.names.lookup x = some .local) : X.fn x = true ∨ X.env.scope.names.lookup x = some .local := by
  cases cl with
  | true => exact .inl (hc rfl x)
  | false => exact .inr (h rfl)
theorem assignEach_name {x : Str} {p : Pos} {es : List Expr} {env : Env} : assignEach (.Name x p :: es) env = (false, assign (.Name x p) env) :: assignEach es env := rfl
theorem g_one {cl : Bool} (g : Good G O k lk W X) (hc : cl = true → ∀ x, X.fn x = true) {i : Nat} {e : Expr} (h : tgB cl X.N X.env.scope i e = true) : PG X e (gName i) := by
  obtain ⟨x, p, rfl, hN, hl, hl2⟩ := tgB_eq h
  exact pg_name g.nd hN hl (tg_hf hc hl2)
theorem tv_one (i : Nat) : TgV G (.one i) (gName i) := fun v d σ ρ ρ' H ι Q hv rf hb q => by
  simp only [bindT] at hb
  split at hb
  · cases hb
    exact q _ (rf.set hv) fun vs hj => wipe_set σ i _ vs (hj i (by simp [Tgt.slots]))
  · cases hb
def gMany : List Nat → TGs
  | [] => gNil
  | i :: is => gCons (gName i) (gMany is)
theorem g_many {cl : Bool} (g : Good G O k lk W X) (hc : cl = true → ∀ x, X.fn x = true) : ∀ {is : List Nat} {es : List Expr}, okT.okTs cl X.N X.env.scope is es = true → PGs X es (gMany is) ∧ (assignEach es X.env).length = is.length ∧ (assignEach es X.env).findIdx? (·.1) = none
  | [], [], _ => ⟨pgs_nil, rfl, rfl⟩
  | [], _ :: _, h => by simp [okT.okTs] at h
  | _ :: _, [], h => by simp [okT.okTs] at h
  | i :: is, e :: es, h => by
    simp only [okT.okTs, Bool.and_eq_true] at h
    obtain ⟨h1, h2, h3⟩ := g_many g hc h.2
    obtain ⟨x, p, rfl, hN, hl, hl2⟩ := tgB_eq h.1
    refine ⟨pgs_cons (pg_name g.nd hN hl (tg_hf hc hl2)) h1 rfl, by rw [assignEach_name]; simp [h2], by rw [assignEach_name, List.findIdx?_cons, h3]; rfl⟩
theorem set_many : ∀ (is : List Nat) (vs : List V) (ds : List Val) (σ : L2.St) (ρ ρ' : Frame) (H : Hp) (ι : Io) (Q : L2.St → Hp → Prop), RVs G ι H vs ds → RF G ι H σ ρ → bindT.setAll is ds ρ = some ρ' →
    (∀ σ', RF G ι H σ' ρ' → (∀ ws, (∀ j ∈ is, j ∈ ws) → wipe σ' ws = wipe σ ws) → Q σ' H) → gMany is vs σ H Q
  | [], _, ds, σ, ρ, ρ', H, ι, Q, hv, rf, hb, q => by
    cases ds with
    | nil => cases hv; simp only [bindT.setAll] at hb; cases hb; exact ⟨rfl, q σ rf fun _ _ => rfl⟩
    | cons d ds => simp only [bindT.setAll] at hb; cases hb
  | i :: is, _, ds, σ, ρ, ρ', H, ι, Q, hv, rf, hb, q => by
    cases ds with
    | nil => simp only [bindT.setAll] at hb; cases hb
    | cons d ds =>
      cases hv with
      | cons h r =>
        simp only [bindT.setAll] at hb
        split at hb
        · refine ⟨_, _, rfl, set_many is _ ds _ _ ρ' H ι Q r (rf.set h) hb fun σ' rf' hw => q σ' rf' fun ws hj => ?_⟩
          rw [hw ws fun j hj' => hj j (List.mem_cons_of_mem _ hj'), wipe_set σ i _ ws (hj i List.mem_cons_self)]
        · cases hb
theorem tv_many (g : Good G O k lk W X) (is : List Nat) (hl : ∀ (v : V) (d : Val) (ρ ρ' : Frame) (ι : Io) (H : Hp), RV G ι H v d → bindT (.many is) d ρ = some ρ' → ∃ ds, d = .tup ds) : TgV G (.many is) (gTup X.K is.length (gMany is)) := fun v d σ ρ ρ' H ι Q hv rf hb q => by
  obtain ⟨ds, rfl⟩ := hl v d ρ ρ' ι H hv hb
  simp only [bindT] at hb
  split at hb
  · rename_i hlen
    obtain ⟨a, rfl⟩ := hv.ref_tup
    obtain ⟨vs, sq, rr⟩ := hv.sqT (X := X) g.eK
    exact ⟨a, vs, rfl, sq, by rw [rr.length]; exact hlen, set_many is vs ds σ ρ ρ' H ι Q rr rf hb q⟩
  · cases hb
end
end MP

set_option maxHeartbeats 2000000
/-! The evaluator keeps to the model: targets, comprehensions, all expressions. -/
namespace MP
open PySem PySem.Spec PyProof.Rows L2
section
variable {G : Gx} {O : Orc} {k : Nat} {lk : LK} {W : WX} {X : Cx}
theorem g_tg {cl : Bool} (g : Good G O k lk W X) (hc : cl = true → ∀ x, X.fn x = true) {tg : Tgt} {e : Expr} (h : okT cl X.N X.env.scope tg e = true) : ∃ t, PG X e t ∧ TgV G tg t := by
  cases tg with
  | one i => exact ⟨_, g_one g hc h, tv_one i⟩
  | many is =>
    have h : (match vTup e with | some es => okT.okTs cl X.N X.env.scope is es | none => false) = true := h
    cases hv : vTup e with
    | none => rw [hv] at h; cases h
    | some es =>
      rw [hv] at h
      obtain ⟨n, p, rfl⟩ := vTup_eq hv
      obtain ⟨h1, h2, h3⟩ := g_many g hc h
      refine ⟨fun v σ H Q => gTup X.K is.length (gMany is) v σ H Q ∨ gUnl X.K is.length (gMany is) v σ H Q, ⟨fun pins s σ H v u Q I r q => ?_⟩, fun v d σ ρ ρ' H ι Q hv rf hb q => ?_⟩
      · rcases q with q | q
        · exact (pg_tup g.calm h1 h2 h3).run pins s σ H v u Q I r q
        · exact (pg_unl g.calm h1 h2 h3).run pins s σ H v u Q I r q
      · cases d with
        | tup ds =>
          simp only [bindT] at hb
          split at hb
          · rename_i hlen
            obtain ⟨a, rfl⟩ := hv.ref_tup
            obtain ⟨vs, sq, rr⟩ := hv.sqT (X := X) g.eK
            exact .inl ⟨a, vs, rfl, sq, by rw [rr.length]; exact hlen, set_many is vs ds σ ρ ρ' H ι Q rr rf hb q⟩
          · cases hb
        | lst ds =>
          simp only [bindT] at hb
          split at hb
          · rename_i hlen
            obtain ⟨a, vs, rfl, sa, na, rr⟩ := hv.lstA
            exact .inr ⟨a, vs, rfl, SqL.of sa, by rw [rr.length]; exact hlen, set_many is vs ds σ ρ ρ' H ι Q rr rf hb q⟩
          · cases hb
        | _ => cases hb
/-! comprehensions -/
def W0 : WX := fun _ _ _ _ => False
theorem good_blk (g : Good G O k lk W X) (s : Shared) (H : Hp) (scope : Scope) (C : Addr) (cl : List (Str × Addr)) (fp : List Addr) : Good G O k lk W0 (X.blk s H scope (compEnvC scope cl C X.env) fp) where
  ok := g.ok
  calm := g.calm
  room := g.room
  tk := takes0
  nd := g.nd
  eK := g.eK
  eM := g.eM
  po := PassesOwn.never
  fn := g.fn
  lam := g.lam
  lks := g.lks
  lsd := g.lsd
  free := g.free
  ci := g.ci
  cz := g.cz
theorem RF.wipe {ι : Io} {H : Hp} {σ : L2.St} {ρ : Frame} (f : RF G ι H σ ρ) : ∀ is : List Nat, RF G ι H (L2.wipe σ is) (wipeF ρ is)
  | [] => f
  | i :: is => by
    have q := RF.wipe f is
    refine ⟨by show ((L2.wipe σ is).set i none).length = ((wipeF ρ is).set i none).length; simp [q.len], fun j d h => ?_⟩
    have h : ((wipeF ρ is).set i none)[j]? = some (some d) := h
    show ∃ v, ((L2.wipe σ is).set i none)[j]? = some (some v) ∧ _
    by_cases e : i = j
    · subst e
      by_cases hl : i < (wipeF ρ is).length
      · rw [List.getElem?_set_self hl] at h; cases h
      · rw [List.getElem?_eq_none (by simp; omega)] at h; cases h
    · rw [List.getElem?_set_ne e] at h ⊢
      exact q.at_ j d h
theorem RF.gen {ι ι' : Io} {H H' : Hp} {σ : L2.St} {ρ : Frame} (f : RF G ι H σ ρ) (h : ∀ {v d}, RV G ι H v d → RV G ι' H' v d) : RF G ι' H' σ ρ := ⟨f.len, fun i d e => by
  obtain ⟨v, h1, h2⟩ := f.at_ i d e
  exact ⟨v, h1, h h2⟩⟩
theorem drop_cons {α : Type} {xs : List α} {i : Nat} {x : α} (h : xs[i]? = some x) : xs.drop i = x :: xs.drop (i + 1) := by
  obtain ⟨hl, e⟩ := List.getElem?_eq_some_iff.mp h
  rw [List.drop_eq_getElem_cons hl, e]
theorem wipe_sub (σ : L2.St) (vs : List Nat) : ∀ us : List Nat, (∀ j ∈ us, j ∈ vs) → L2.wipe (L2.wipe σ us) vs = L2.wipe σ vs
  | [], _ => rfl
  | u :: us, h => by
    show L2.wipe ((L2.wipe σ us).set u none) vs = L2.wipe σ vs
    rw [wipe_set _ u none vs (h u List.mem_cons_self)]
    exact wipe_sub σ vs us fun j hj => h j (List.mem_cons_of_mem _ hj)
theorem ExtB.put {ι ι' : Io} {H H' : Hp} {D : Addr} {vs : List V} (hD : H D = none) (e : ExtB ι H ι' H') : ExtB ι H ι' (upd H' D (.lst vs)) :=
  ⟨e.pre, e.no, fun a o n t h => by rw [upd_ne (ne_of_none h hD)]; exact e.keep a o n t h, fun a h => by
    by_cases z : a = D
    · rw [z]; exact hD
    · rw [upd_ne z] at h; exact e.live a h⟩
theorem comp_tg (g : Good G O k lk W X) {tg : Tgt} {t : Expr} {sc : Scope} (ht : okT false X.N (relS sc X.env.scope) tg t = true) :
    ∃ tG, (∀ (s : Shared) (H : Hp) (C : Addr) (cl : List (Str × Addr)) (fp : List Addr), PG (X.blk s H sc (compEnvC sc cl C X.env) fp) t tG) ∧ TgV G tg tG := by
  cases tg with
  | one j =>
    refine ⟨gName j, fun s H C cl fp => ?_, tv_one j⟩
    exact g_one (cl := false) (good_blk g s H sc C cl fp) (fun z => nomatch z) ht
  | many is =>
    have ht : (match vTup t with | some es => okT.okTs false X.N (relS sc X.env.scope) is es | none => false) = true := ht
    cases hv : vTup t with
    | none => rw [hv] at ht; cases ht
    | some es =>
      rw [hv] at ht
      obtain ⟨n, p, rfl⟩ := vTup_eq hv
      refine ⟨fun v σ H Q => gTup X.K is.length (gMany is) v σ H Q ∨ gUnl X.K is.length (gMany is) v σ H Q, fun s H C cl fp => ⟨fun pins s' σ H' v u Q I r q => ?_⟩, fun v d σ ρ ρ' H ι Q hv rf hb q => ?_⟩
      · have g' := good_blk g s H sc C cl fp
        obtain ⟨h1, h2, h3⟩ := g_many (cl := false) g' (fun z => nomatch z) ht
        rcases q with q | q
        · exact (pg_tup g'.calm h1 h2 h3).run pins s' σ H' v u Q I r q
        · exact (pg_unl g'.calm h1 h2 h3).run pins s' σ H' v u Q I r q
      · cases d with
        | tup ds =>
          simp only [bindT] at hb
          split at hb
          · rename_i hlen
            obtain ⟨a, rfl⟩ := hv.ref_tup
            obtain ⟨vs, sq, rr⟩ := hv.sqT (X := X) g.eK
            exact .inl ⟨a, vs, rfl, sq, by rw [rr.length]; exact hlen, set_many is vs ds σ ρ ρ' H ι Q rr rf hb q⟩
          · cases hb
        | lst ds =>
          simp only [bindT] at hb
          split at hb
          · rename_i hlen
            obtain ⟨a, vs, rfl, sa, na, rr⟩ := hv.lstA
            exact .inr ⟨a, vs, rfl, SqL.of sa, by rw [rr.length]; exact hlen, set_many is vs ds σ ρ ρ' H ι Q rr rf hb q⟩
          · cases hb
        | _ => cases hb
theorem comp_rd (g : Good G O k lk W X) {elt : MP.X} {tg : Tgt} {it : It} {tG : TG} (hT : TgV G tg tG) {σ : L2.St} {H : Hp} {Q : VK} (h : rd G O W (.comp elt tg it) σ H Q) : tLc (rdI G O W it) tG tYes (rd G O W0 elt) ((ownOf X.N tg).map (·.2)) σ H Q := by
  obtain ⟨ι, μ, ρ, rep, rf, q⟩ := h
  simp only [ev] at q
  have hsl : (ownOf X.N tg).map (·.2) = tg.slots := by
    unfold ownOf
    rw [List.map_map]
    exact List.map_id _
  rw [hsl]
  refine ⟨ι, μ, ρ, rep, rf, Post.imp (Post.bind q) fun J H1 ⟨ι1, μ1, ds, e1, rep1, hw, p1⟩ D hD => ?_⟩
  generalize hf : (bindEv tg (wipeF ρ tg.slots) fun ρ μ => ev O elt ρ μ) = f at p1
  have rf1 := rf.mono g.ok e1
  have nD : D ∉ ι1.no := fun z => (rep1.fresh hD) (.inr z)
  refine lc_it hw (fun i H => ∃ (ι : Io) (μ : Mem) (acc : List Val) (vs : List V), ExtB ι1 H1 (ι.block D) H ∧ Rep G (ι.block D) μ H ∧ ι.no = ι1.no ∧ H D = some (.lst vs) ∧ RVs G (ι.block D) H vs acc ∧ RF G (ι.block D) H (L2.wipe σ tg.slots) (wipeF ρ tg.slots) ∧ PostV G W σ ι1 H1 Q (compL f (ds.drop i) acc μ)) ?_ (fun i H _ ⟨ι, _, _, _, e, _⟩ => ⟨_, e⟩) ?_ ?_
  · obtain ⟨b1, b2, b3⟩ := rep1.block (vs := []) g.ok hD
    refine ⟨ι1, μ1, [], [], ⟨⟨[], by simp [Io.block], by simp⟩, fun a ha => ?_, fun a o _ _ h => by rw [upd_ne (ne_of_none h hD)]; exact h, (Ext.laid (ι := ι1) hD).live⟩, b1, rfl, upd_same, .nil, (rf1.wipe tg.slots).gen b2, p1⟩
    rcases List.mem_cons.mp ha with z | z
    · exact .inr (by rw [z]; exact hD)
    · exact .inl z
  · rintro i x H H' hi ⟨ι, μ, acc, vs, e, rp, hno, hHD, hvs, hrf, hp⟩ hy
    obtain ⟨d, hd⟩ : ∃ d, ds[i]? = some d := ⟨ds[i], List.getElem?_eq_getElem hi⟩
    obtain ⟨eY, rY, d', hd', hx⟩ := hy (ι.block D) μ e rp
    rw [hd] at hd'
    cases hd'
    rw [drop_cons hd] at hp
    simp only [compL] at hp
    have hfx : f d μ = (match bindT tg d (wipeF ρ tg.slots) with | some ρ' => ev O elt ρ' μ | none => Out.bad) := by rw [← hf]; rfl
    have nix : D ∉ (ι.block D).ix := (rp.nos D List.mem_cons_self).1
    cases hbT : bindT tg d (wipeF ρ tg.slots) with
    | none => rw [hfx, hbT] at hp; exact False.elim hp
    | some ρ' =>
      have hfx : f d μ = ev O elt ρ' μ := by rw [hfx, hbT]
      rw [hfx] at hp
      refine hT x d _ _ ρ' H' (ι.block D) _ hx (hrf.mono g.ok eY) hbT fun σ2 rf2 hw2 => ⟨(hw2 _ (fun j hj => hj)).trans (wipe_sub σ _ _ fun j hj => hj), ?_⟩
      show rd G O W0 elt σ2 H' _
      refine ⟨ι.block D, μ, ρ', rY, rf2, ?_⟩
      cases hev : ev O elt ρ' μ with
      | ok r μ' =>
        rw [hev] at hp
        intro ι' H4 v e4 rep4 hv
        obtain ⟨⟨δ, q1, q2⟩, q3, q4, q5⟩ := e4
        have hι : ι' = (⟨ι'.ix, ι.no⟩ : Io).block D := by
          cases ι'
          simp only [Io.block] at q3 ⊢
          rw [q3]
        have hHD' : H' D = some (.lst vs) := eY.keep D _ nix lst_ne hHD
        have hHD4 : H4 D = some (.lst vs) := q4 D _ nix lst_ne hHD'
        have e4 : Ext (ι.block D) H' ι' H4 := ⟨⟨δ, q1, q2⟩, q3, q4, q5⟩
        refine ⟨vs, hHD4, ?_⟩
        have hp : PostV G W σ ι1 H1 Q (if acc.length < sizeLine then compL f (ds.drop (i + 1)) (acc ++ [r]) μ' else .bad) := hp
        split at hp
        · rename_i hl
          refine ⟨by rw [hvs.length]; exact hl, ?_⟩
          have hvs4 := (hvs.mono g.ok eY).mono g.ok e4
          have hrf4 := (hrf.mono g.ok eY).mono g.ok e4
          have eB : ExtB ι1 H1 ι' H4 := (e.trans eY.b).trans e4.b
          rw [hι] at rep4 hv hvs4 hrf4 eB
          obtain ⟨b1, b2, b3⟩ := rep4.blocked (vs := vs ++ [v]) g.ok hHD4
          exact ⟨⟨ι'.ix, ι.no⟩, μ', acc ++ [r], vs ++ [v], eB.put hD, b1, hno, upd_same, b3 (hvs4.append (.cons hv .nil)), hrf4.gen b2, hp⟩
        · exact False.elim hp
      | ex x μ' => rw [hev] at hp; exact False.elim hp
      | bad => rw [hev] at hp; exact False.elim hp
  · rintro H ⟨ι, μ, acc, vs, e, rp, hno, hHD, hvs, hrf, hp⟩
    obtain ⟨b1, b2, b3, b4⟩ := rp.unblock g.ok (by rw [hno]; exact nD)
    rw [List.drop_length] at hp
    simp only [compL] at hp
    refine hp ι H _ ⟨e.pre, hno, e.keep, e.live⟩ b1 (.lst hHD b4 (b3 hvs))
theorem c_comp (g : Good G O k lk W X) {elt : MP.X} {tg : Tgt} {it : It} {l t i : Expr} {sc : Scope} {p : Pos} (hi : PI X t i (rdI G O W it)) (hb : blkC X.N X.env.scope sc (ownOf X.N tg) = true) (ht : okT false X.N (relS sc X.env.scope) tg t = true) (hq : seqOk i = true)
    (he : ∀ (s : Shared) (H : Hp) (C : Addr) (cl : List (Str × Addr)) (fp : List Addr), PE (X.blk s H sc (compEnvC sc cl C X.env) fp) l (rd G O W0 elt)) : PE X (.ListComp l [⟨t, i, [], 0⟩] sc p) (rd G O W (.comp elt tg it)) := by
  obtain ⟨tG, hg, hT⟩ := comp_tg g ht
  exact PE.imp (pe_lc (own := ownOf X.N tg) (g := tG) (tt := tYes) g.calm g.nd hi (blkOk_by hb) hg (fun _ _ _ _ _ => pts_nil) he (seqOk_ok hq X.env)) fun σ H Q h => comp_rd g hT h
/-- name = [..] -/
theorem s_comp (g : Good G O k lk W X) {elt : MP.X} {tg : Tgt} {it : It} {l t i : Expr} {sc : Scope} {p py sp : Pos} {j : Nat} {y : Str} (hi : PI X t i (rdI G O W it)) (hb : blkC X.N X.env.scope sc (ownOf X.N tg) = true) (ht : okT false X.N (relS sc X.env.scope) tg t = true) (hq : seqOk i = true)
    (he : ∀ (s : Shared) (H : Hp) (C : Addr) (cl : List (Str × Addr)) (fp : List Addr), PE (X.blk s H sc (compEnvC sc cl C X.env) fp) l (rd G O W0 elt)) (hy : X.N[j]? = some y) (hyl : X.env.scope.names.lookup y = some .local)
    (hsw : swapsWith (.ListComp l [⟨t, i, [], 0⟩] sc p) (some (.Name y py)) sp.line X.env = pure true) : PS X (.Assign [.Name y py] (.ListComp l [⟨t, i, [], 0⟩] sc p) sp) (tAsg (rd G O W (.comp elt tg it)) (gName j)) := by
  obtain ⟨tG, hg, hT⟩ := comp_tg g ht
  have h := ps_setLc (own := ownOf X.N tg) (g := tG) (tt := tYes) (i := j) g.calm g.nd hy hyl hsw hi (blkOk_by hb) hg (fun _ _ _ _ _ => pts_nil) he (seqOk_ok hq X.env)
  exact ⟨fun pins s σ H D I q => h.run pins s σ H D I (comp_rd g hT q)⟩
end
end MP

set_option maxHeartbeats 2000000
/-! The evaluator keeps to the model: all expressions. -/
namespace MP
open PySem PySem.Spec PyProof.Rows L2
section
variable {G : Gx} {O : Orc} {k : Nat} {lk : LK}
theorem cv_blt {W : WX} {X : Cx} (g : Good G O k lk W X) (f : Blt) : CallV G X (bltF f) (bltV f) := by
  cases f with
  | len => exact cv_len g.eK
  | all => exact cv_all g.calm
  | any => exact cv_any g.calm
  | sum => exact cv_sum g.calm
  | abs => exact cv_abs
  | max2 => exact cv_max2 g.calm
  | min2 => exact cv_min2 g.calm
  | int1 => exact cv_int1
  | tupOf => exact cv_tupOf g.ok g.eK
  | lstOf => exact cv_lstOf g.ok g.eK
theorem boot_blt (f : Blt) : bootBuiltins (bltN f) = some (bltF f) := by cases f <;> decide +kernel
theorem free_blt {W : WX} {X : Cx} (g : Good G O k lk W X) (f : Blt) : X.mg (bltN f) = none := g.free _ (by cases f <;> decide +kernel)
theorem blt_kind (f : Blt) : (∃ id, bltF f = .builtin id) ∨ ∃ T, bltF f = .type T := by cases f <;> first | exact .inl ⟨_, rfl⟩ | exact .inr ⟨_, rfl⟩
theorem both {W : WX} {X : Cx} (g : Good G O k lk W X) {x : MP.X} {e : Expr} (h : PE X e (rd G O W x)) (hp : plainT e = true) : PE X e (rd G O W x) ∧ PT X e (rdT G O W x) := ⟨h, pt_of g h hp⟩
theorem okEs_nil {T : Tab} {lk : LK} {N : List Str} {sc : Scope} {as : Xs} (h : okEs T lk N sc as [] = true) : as = .nil := by
  cases as with
  | nil => rfl
  | cons x r => simp [okEs] at h
  | star x r => simp [okEs] at h
theorem okB_ne {T : Tab} {lk : LK} {N : List Str} {sc : Scope} {as : Xs} {es : List Expr} (h : okB T lk N sc as es = true) : as ≠ .nil := fun z => by
  subst z
  simp [okB] at h
/-- max(xs, default=d) -/
theorem c_maxD {W : WX} {X : Cx} (g : Good G O k lk W X) {a b : MP.X} {l r : Expr} {p q pos : Pos} (ha : PE X l (rd G O W a)) (hb : PE X r (rd G O W b)) (hg : glB X.env.scope "max" = true) (hs : noStar [l] = true) : PE X (.Call (.Name "max" p) [l] [⟨some "default", r, q⟩] pos) (rd G O W (.maxD a b)) := by
  obtain ⟨h1, h2, h3⟩ := glB_ok hg
  have hs0 := hs
  simp only [noStar, List.all_cons, List.all_nil, Bool.and_true] at hs
  refine ⟨fun pins s σ H Q I ⟨ι, μ, ρ, rep, rf, q0⟩ => ?_⟩
  simp only [ev] at q0
  refine wpAny_Call_Name_kw (ld_blt I h1 (g.free _ (by decide +kernel)) (show bootBuiltins "max" = some (.builtin "max") by decide +kernel) ?_ h3 h2)
  refine PyProof.Rows.callWith_kw (thn ((pa_cons ha pa_nil (star_cons hs)).run pos pins s σ H (fun vs H1 => ∃ x ι1 μ1 d, vs = [x] ∧ Ext ι H ι1 H1 ∧ Rep G ι1 μ1 H1 ∧ RV G ι1 H1 x d ∧ PostV G W σ ι1 H1 Q ((ev O b ρ μ1).bind fun y μ => maxDV d y μ)) I
      ⟨ι, μ, ρ, rep, rf, Post.imp (Post.bind q0) fun v H1 ⟨ι1, μ1, d, e1, rep1, hv, p1⟩ => ⟨v, ι1, μ1, d, rfl, e1, rep1, hv, p1⟩⟩) fun us s1 ⟨vs, H1, I1, rv, x, ι1, μ1, d, ev1, e1, rep1, hx, q1⟩ =>
    thn ((pk_cons (nm := some "default") (kpos := q) hb pk_nil).run pos pins s1 σ H1 (fun vs H2 => ∃ y ι2 μ2 d2, vs = [y] ∧ Ext ι1 H1 ι2 H2 ∧ Rep G ι2 μ2 H2 ∧ RV G ι2 H2 y d2 ∧ PostV G W σ ι2 H2 Q (maxDV d d2 μ2)) I1
      ⟨ι1, μ1, ρ, rep1, rf.mono g.ok e1, Post.imp (Post.bind q1) fun v H2 ⟨ι2, μ2, d2, e2, rep2, hv, p2⟩ => ⟨v, ι2, μ2, d2, rfl, e2, rep2, hv, p2⟩⟩) fun ks s2 ⟨zs, H2, I2, rz, y, ι2, μ2, d2, ez, e2, rep2, hy, q2⟩ => ?_) (by rw [star_cons hs]; rfl) (star_any0 hs0) rfl rfl
  subst ev1 ez
  cases rv with
  | cons r1 rr =>
    cases rr
    cases rz with
    | cons r2 rr =>
      cases rr
      cases d with
      | lst xs => cases d2 with
        | int i =>
          have q2 : PostV G W σ ι2 H2 Q (match intsV xs with | some [] => .ok (.int i) μ2 | some (n :: ns) => .ok (.int (maxI n ns)) μ2 | none => .bad) := q2
          obtain ⟨a, vs, rfl, sa, na, ra⟩ := (hx.mono g.ok e2).lstA
          cases r1
          cases hy
          obtain ⟨t2, rfl⟩ := r2
          cases hn : intsV xs with
          | none => rw [hn] at q2; exact False.elim q2
          | some ns =>
            rw [hn] at q2
            have hvs := ra.ints hn
            subst hvs
            obtain ⟨its, rvl, hpl, _⟩ := I2.list (SqL.of sa)
            show wpAny _ _ (call (.builtin "max") [.ref a] [(Str.ofString "default", .int i t2)]) _ _ _
            refine call_maxd (I2.ok.hd g.calm) hpl.isList rvl.ints fun h' tk v kp hv => ?_
            rcases hv with ⟨rfl, rfl⟩ | ⟨M, t, rfl, m1, m2⟩
            · exact ⟨.int i, H2, I2.kept kp, ⟨_, rfl⟩, q2 ι2 H2 _ (Ext.refl _ _) rep2 (.int _)⟩
            · cases ns with
              | nil => cases m1
              | cons n ns =>
                rw [maxI_one m1 m2]
                exact ⟨.int _, H2, I2.kept kp, ⟨_, rfl⟩, q2 ι2 H2 _ (Ext.refl _ _) rep2 (.int _)⟩
        | _ => exact False.elim q2
      | _ => exact False.elim q2
/-- x(..), x a name that holds a lambda -/
theorem c_callV {W : WX} {X : Cx} (g : Good G O k lk W X) {x : Str} {p pos : Pos} {i : Nat} {as : Xs} {e : Expr} {es : List Expr} (hN : X.N[i]? = some x) (hv : Vis X.env.scope x) (h1 : (x == ("__debug__" : Str)) = false) (h2 : (x == ("__classdict__" : Str)) = false)
    (ha : PA X (e :: es) (rdA G O W as)) (hs : noStar (e :: es) = true) : PE X (.Call (.Name x p) (e :: es) [] pos) (rd G O W (.callV i as)) := by
  simp only [noStar, List.all_cons, Bool.and_eq_true] at hs
  refine ⟨fun pins s σ H Q I ⟨ι, μ, ρ, rep, rf, q⟩ => ?_⟩
  simp only [ev] at q
  split at q
  · rename_i l hl
    obtain ⟨v, hσ, hv'⟩ := rf.at_ i _ hl
    refine wpAny_Call_Name_kw (thn ((pe_var (pos := p) (i := i) hN hv h1 h2).run pins s σ H (fun u H1 => u = v ∧ H1 = H) I ⟨v, hσ, rfl, rfl⟩) fun u s1 ⟨v1, H1, I1, r1, q1⟩ => ?_)
    obtain ⟨ev, eH⟩ := q1
    subst ev
    rw [eH] at I1
    cases hv' with
    | @lam _ a c qn b1 b2 b3 b4 =>
      have r1 : u = Value.ref a := r1
      subst r1
      have fnAt : ∀ {s2 : Shared} {ι2 : Io} {H2 : Hp}, Inv X pins σ H2 s2 → RV G ι2 H2 (.ref a) (.lam l) → PySem.W.FnAt a s2.heap := fun {s2 ι2 H2} I2 hr => by
        cases hr with
        | lam d1 d2 d3 d4 =>
          obtain ⟨⟨pa, bo, sc, pm, ctv, _, ho⟩, _⟩ := I2.hok a _ d1
          exact ⟨_, _, _, _, ho⟩
      have rv0 : RV G ι H (.ref a) (.lam l) := .lam b1 b2 b3 b4
      refine PySem.W.callWith_F (fnAt I1 rv0) (thn (ha.run pos pins s1 σ H _ I1 ⟨ι, μ, ρ, rep, rf, Post.bind q⟩) fun us s2 ⟨vs, H2, I2, r, ι2, μ2, ds, e2, rep2, hds, q2⟩ => ⟨fnAt I2 (rv0.mono g.ok e2), ?_⟩) (star_cons hs.1) (star_any0 hs.2)
      have hlam : ∃ d, G.T.lams[l]? = some d := by
        cases rv0.mono g.ok e2 with
        | lam d1 d2 d3 d4 =>
          obtain ⟨⟨pa, bo, sc, pm, ctv, hls, ho⟩, _⟩ := I2.hok a _ d1
          exact g.lsd l pa bo sc hls
      obtain ⟨d, hd⟩ := hlam
      refine wpAny_call (codeAny_mono (g.lam l d hd X.A X.stack s2 H2 us vs Q (WE W σ) a ι2 μ2 ds g.room (by rw [← g.eK, ← g.eM]; exact I2.env0) r (rv0.mono g.ok e2) rep2 hds ?_) fun r s' hq => ?_)
      · cases hs : O.lam l ds μ2 with
        | ok d μ' => rw [hs] at q2; exact q2
        | ex x μ' => rw [hs] at q2; exact q2
        | bad => rw [hs] at q2; exact q2
      · cases r with
        | error e => exact passAt g.tk σ pins H2 s2 e s' I2 hq
        | ok fl =>
          cases fl with
          | ret u => exact I2.after hq
          | next => exact False.elim hq
          | brk => exact False.elim hq
          | cont => exact False.elim hq
  · exact False.elim q
/-- lambda .. : .. -/
theorem clo_nil {cells : List (Str × Addr)} : ∀ {names : List (Str × NameKind)}, (∀ y ∈ names, ¬ y.2 = .free) → cloFrom cells names [] = []
  | [], _ => rfl
  | (n, kd) :: r, h => by
    unfold cloFrom
    have h1 : (kd == NameKind.free) = false := beq_eq_false_iff_ne.mpr (h _ List.mem_cons_self)
    rw [h1]
    exact clo_nil fun y hy => h y (List.mem_cons_of_mem _ hy)
theorem lamO_ok {P : Program} {w : World} {H : Hp} {h : Heap} {l : Nat} {q : Str} {c a : Addr} {params : Arguments} {b : Expr} {sc : Scope} {pm ctv : Value} (hls : G.LS l params b sc) (ho : h.get? a = some (PySem.W.kla_obj "<lambda>" q params b sc [] pm c ctv)) : ObjOk P w H h a (LamO G l q c a) :=
  ⟨⟨params, b, sc, pm, ctv, hls, ho⟩, ⟨_, ho⟩, fun _ _ ⟨p1, b1, s1, m1, t1, k1, z⟩ st => ⟨p1, b1, s1, m1, t1, k1, st _ z⟩⟩
/-- a code object is new: its table grows -/
theorem tab_grow {H : Hp} {P c : Addr} {q : Str} {ps : Array Value} {p : Pos} (hT : LamX.Tabs G.TT H) (hu : ∀ r ∈ G.TT, r.1 = P → r.2 = q) (hP : H P = some (.tbl ps)) (ht : TriplesOk ps.toList) (hc : H c = none)
    (ha : ∀ (pos : Pos) (cv : Value), codeAmong pos ps.toList = some cv → ∃ c, cv = .ref c ∧ H c = some (LamX.CodeO c q)) :
    LamX.Tabs G.TT (upd (upd H P (.tbl (ps ++ #[rawInt p.line, rawInt p.col, .ref c]))) c (LamX.CodeO c q)) := by
  have nPc : P ≠ c := ne_of_none hP hc
  have hl : (ps ++ #[rawInt p.line, rawInt p.col, .ref c]).toList = ps.toList ++ [rawInt p.line, rawInt p.col, .ref c] := by simp
  have old : ∀ x q', H x = some (LamX.CodeO x q') → upd (upd H P (.tbl (ps ++ #[rawInt p.line, rawInt p.col, .ref c]))) c (LamX.CodeO c q) x = some (LamX.CodeO x q') := fun x q' e => by
    rw [upd_ne (ne_of_none e hc), upd_ne (fun z => by rw [z, hP] at e; unfold LamX.CodeO at e; cases e)]
    exact e
  intro r hr
  by_cases hb : r.1 = P
  · rw [hu r hr hb, hb]
    refine ⟨_, by rw [upd_ne nPc, upd_same], by rw [hl]; exact PySem.TriplesOk_snoc _ _ _ _ ht, fun pos cv hcv => ?_⟩
    rw [hl] at hcv
    rcases LamX.among_app _ ht hcv with z | z
    · obtain ⟨c0, e1, e2⟩ := ha pos cv z
      exact ⟨c0, e1, old _ _ e2⟩
    · exact ⟨c, z, upd_same⟩
  · obtain ⟨ps', a1, a2, a3⟩ := hT r hr
    refine ⟨ps', by rw [upd_ne (ne_of_none a1 hc), upd_ne hb]; exact a1, a2, fun pos cv hcv => ?_⟩
    obtain ⟨c0, e1, e2⟩ := a3 pos cv hcv
    exact ⟨c0, e1, old _ _ e2⟩
theorem c_lam {W : WX} {X : Cx} (g : Good G O k lk W X) {l : Nat} {params : Arguments} {b : Expr} {sc : Scope} {p : Pos} (h : lk l params b sc = true) (h1 : params.defaults = []) (h2 : params.kw_defaults = []) (h3 : ∀ y ∈ sc.names, ¬ y.2 = .free) : PE X (.Lambda params b sc p) (rd G O W (.lam l)) := by
  obtain ⟨hls, c, P, k1, k2, k3, k4⟩ := g.lks l params b sc h
  refine ⟨fun pins s σ H Q I ⟨ι, μ, ρ, rep, rf, q⟩ => ?_⟩
  simp only [ev] at q
  have hdef : defaultsOf params X.env = ([], []) := by
    obtain ⟨a1, a2, a3, a4, a5, a6, a7⟩ := params
    cases h1; cases h2
    rfl
  have hclo : closureFor sc X.env = pure [] := by
    rw [closure_ok fun y hy e => absurd e (h3 y hy), clo_nil h3]
  obtain ⟨ps, hP, ht, ha⟩ := rep.tabs _ k3
  have hP' : s.heap.get? P = some { cls := .none, data := .fields ps } := I.hok P _ hP
  have nPix : ∀ {a o}, H a = some o → (∀ ps, o ≠ HO.tbl ps) → a ≠ P := fun {a o} e n z => by
    rw [z, hP] at e
    exact n _ (Option.some.inj e).symm
  refine PySem.W.kla_eval hdef ?_
  cases hc : codeAmong p ps.toList with
  | none =>
    refine PySem.W.kla_makeFunction (mg := X.mg) (c := c) (P := P) (ps := ps) hclo I.ok.glob (I.mod.glob.keeps I.bk) k1 (k2.code.keeps I.bk) hP' ht hc k2.gP (k2.bm.keeps I.bk) fun c' ctv h' tk hx hge hlt hrec htb => ?_
    obtain ⟨c2, oc, vs, t, e2, hoc, hd, hv⟩ := hrec
    cases e2
    have nC : H c' = none := I.hok.fresh hge
    have I1 := LamX.inv_table (t' := tk) (more := #[rawInt p.line, rawInt p.col, .ref c']) (h' := h') (q := X.env.qual ++ "<lambda>") I hP (fun b o hb e => hx b o hb e) htb hge ⟨oc, vs, t, hoc, hd, hv⟩
    generalize hH2 : upd (upd H P (.tbl (ps ++ #[rawInt p.line, rawInt p.col, .ref c']))) c' (LamX.CodeO c' (X.env.qual ++ "<lambda>")) = H2 at I1
    have at2 : ∀ a, a ≠ P → a ≠ c' → H2 a = H a := fun a n1 n2 => by rw [← hH2, upd_ne n2, upd_ne n1]
    have atP : H2 P = some (.tbl (ps ++ #[rawInt p.line, rawInt p.col, .ref c'])) := by rw [← hH2, upd_ne (ne_of_none hP nC), upd_same]
    have atC : H2 c' = some (LamX.CodeO c' (X.env.qual ++ "<lambda>")) := by rw [← hH2, upd_same]
    have keep : ∀ a o, H a = some o → (∀ ps, o ≠ HO.tbl ps) → H2 a = some o := fun a o e n => by rw [at2 a (nPix e n) (ne_of_none e nC)]; exact e
    have E2 : Ext ι H ι H2 := ⟨⟨[], by simp, by simp⟩, rfl, fun a o _ n e => keep a o e n, fun a e => by
      by_cases z1 : a = P
      · rw [z1, atP] at e; cases e
      · by_cases z2 : a = c'
        · rw [z2]; exact nC
        · rw [at2 a z1 z2] at e; exact e⟩
    have rep2 : Rep G ι μ H2 := by
      refine ⟨rep.len, rep.nd, fun n cl a e1 e2 => ?_, fun a ha => ?_, by rw [← hH2]; exact tab_grow rep.tabs k4 hP ht nC ha⟩
      · have x := rep.at_ n cl a e1 e2
        cases cl with
        | lst ds =>
          obtain ⟨us, e, r⟩ := x
          exact ⟨us, keep a _ e lst_ne, r.mono g.ok E2⟩
      · obtain ⟨z, o, e⟩ := rep.nos a ha
        exact ⟨z, o, keep a _ e lst_ne⟩
    have nF : H2 h'.objs.size = none := I1.hok.fresh (Nat.le_refl _)
    have I2 := I1.laid (a := h'.objs.size) (t' := tk) (o := LamO G l (X.env.qual ++ "<lambda>") c' h'.objs.size) (h' := h'.push (PySem.W.kla_obj "<lambda>" (X.env.qual ++ "<lambda>") params b sc [] ((X.mg "__name__").getD .none) c' ctv)) (fun b u e => Heap.get?_push_of_some _ e) (Nat.le_refl _) (lamO_ok hls (Heap.get?_push_size _ rfl))
    refine ⟨.ref h'.objs.size, _, I2, rfl, q ι _ _ (E2.trans (Ext.laid nF)) (rep2.laid g.ok (g.ok _ _ _ _) nF) (.lam upd_same (rep2.fresh nF) (by rw [upd_ne (ne_of_none atC nF)]; exact atC) (rep.fresh nC))⟩
  | some cv =>
    obtain ⟨c', e, hco⟩ := ha p cv hc
    subst e
    refine PySem.W.kla_makeFunctionHit (mg := X.mg) (c := c) (P := P) (ps := ps) hclo I.ok.glob (I.mod.glob.keeps I.bk) k1 (k2.code.keeps I.bk) hP' ht hc (k2.bm.keeps I.bk) fun ctv h' tk hx hsz => ?_
    have I1 : Inv X pins σ H { s with heap := h', toks := tk } := I.kept hx
    have nF : H h'.objs.size = none := I1.hok.fresh (Nat.le_refl _)
    have I2 := I1.laid (a := h'.objs.size) (t' := tk) (o := LamO G l (X.env.qual ++ "<lambda>") c' h'.objs.size) (h' := h'.push (PySem.W.kla_obj "<lambda>" (X.env.qual ++ "<lambda>") params b sc [] ((X.mg "__name__").getD .none) c' ctv)) (fun b u e => Heap.get?_push_of_some _ e) (Nat.le_refl _) (lamO_ok hls (Heap.get?_push_size _ rfl))
    have nix : c' ∉ ι := fun z => by
      rcases z with z | z
      · obtain ⟨us, e⟩ := rep.live z
        rw [hco] at e
        unfold LamX.CodeO at e
        cases e
      · obtain ⟨_, us, e⟩ := rep.nos _ z
        rw [hco] at e
        unfold LamX.CodeO at e
        cases e
    refine ⟨.ref h'.objs.size, _, I2, rfl, q ι _ _ (Ext.laid nF) (rep.laid g.ok (g.ok _ _ _ _) nF) (.lam upd_same (rep.fresh nF) (by rw [upd_ne (ne_of_none hco nF)]; exact hco) nix)⟩
mutual
theorem sndX : ∀ (x : MP.X) {W : WX} {X : Cx} {e : Expr}, Good G O k lk W X → okE G.T lk X.N X.env.scope x e = true → PE X e (rd G O W x) ∧ PT X e (rdT G O W x)
  | .non, W, X, e, g, h => by
    simp only [okE, decide_eq_true_eq] at h
    obtain ⟨j, p, rfl⟩ := vConst_eq h
    exact both g (show PE X _ (rd G O W .non) from c_flat (v := .non) (d := .non) pe_non (fun _ _ => by simp only [ev]) (fun _ _ => .non)) rfl
  | .bl b, W, X, e, g, h => by
    simp only [okE, decide_eq_true_eq] at h
    obtain ⟨j, p, rfl⟩ := vConst_eq h
    exact both g (show PE X _ (rd G O W (.bl b)) from c_flat (v := .bl b) (d := .bl b) pe_bl (fun _ _ => by simp only [ev]) (fun _ _ => .bl b)) rfl
  | .int i, W, X, e, g, h => by
    simp only [okE, decide_eq_true_eq] at h
    obtain ⟨j, p, rfl⟩ := vConst_eq h
    exact both g (show PE X _ (rd G O W (.int i)) from c_flat (v := .int i) (d := .int i) pe_int (fun _ _ => by simp only [ev]) (fun _ _ => .int i)) rfl
  | .str z, W, X, e, g, h => by
    simp only [okE, decide_eq_true_eq] at h
    obtain ⟨j, p, rfl⟩ := vConst_eq h
    exact both g (show PE X _ (rd G O W (.str z)) from c_flat (v := .str z) (d := .str z) pe_str (fun _ _ => by simp only [ev]) (fun _ _ => .str z)) rfl
  | .var i, W, X, e, g, h => by
    simp only [okE] at h
    split at h
    · rename_i x hv
      simp only [Bool.and_eq_true, decide_eq_true_eq, Bool.not_eq_true'] at h
      obtain ⟨p, rfl⟩ := vName_eq hv
      exact both g (show PE X _ (rd G O W (.var i)) from c_var (pe_var h.1.1.1 (visB_ok h.1.1.2) h.1.2 h.2)) rfl
    · cases h
  | .gint x i, W, X, e, g, h => by
    simp only [okE, Bool.and_eq_true, decide_eq_true_eq] at h
    obtain ⟨p, rfl⟩ := vName_eq h.1.1
    obtain ⟨h1, h2, h3⟩ := glB_ok h.1.2
    obtain ⟨t, ht⟩ := g.ci x i h.2
    exact both g (show PE X _ (rd G O W (.gint x i)) from c_flat (v := .int i) (d := .int i) (pe_glob h1 ht ⟨t, rfl⟩ h2) (fun _ _ => by simp only [ev]) (fun _ _ => .int i)) rfl
  | .gstr x i, W, X, e, g, h => by
    simp only [okE, Bool.and_eq_true, decide_eq_true_eq] at h
    obtain ⟨p, rfl⟩ := vName_eq h.1.1
    obtain ⟨h1, h2, h3⟩ := glB_ok h.1.2
    obtain ⟨t, ht⟩ := g.cz x i h.2
    exact both g (show PE X _ (rd G O W (.gstr x i)) from c_flat (v := .str i) (d := .str i) (pe_glob h1 ht ⟨t, rfl⟩ h2) (fun _ _ => by simp only [ev]) (fun _ _ => .str i)) rfl
  | .bin op a b, W, X, e, g, h => by
    simp only [okE] at h
    split at h
    · rename_i l o r hv
      simp only [Bool.and_eq_true, decide_eq_true_eq] at h
      obtain ⟨p, rfl⟩ := vBin_eq hv
      obtain ⟨⟨rfl, h2⟩, h3⟩ := h
      exact both g (show PE X _ (rd G O W (.bin op a b)) from c_bin g (sndX a g h2).1 (sndX b g h3).1) rfl
    · cases h
  | .neg a, W, X, e, g, h => by
    simp only [okE] at h
    split at h
    · rename_i o l hv
      simp only [Bool.and_eq_true, decide_eq_true_eq] at h
      obtain ⟨p, rfl⟩ := vUn_eq hv
      obtain ⟨rfl, h2⟩ := h
      exact both g (show PE X _ (rd G O W (.neg a)) from c_neg g (sndX a g h2).1) rfl
    · cases h
  | .cmp op a b, W, X, e, g, h => by
    simp only [okE] at h
    split at h
    · rename_i l o r hv
      simp only [Bool.and_eq_true, decide_eq_true_eq, Bool.not_eq_true'] at h
      obtain ⟨p, rfl⟩ := vCmp_eq hv
      obtain ⟨⟨⟨rfl, h2⟩, h3⟩, h4⟩ := h
      exact ⟨c_cmp g (sndX a g h2).1 (sndX b g h3).1 h4, t_cmp g (sndX a g h2).1 (sndX b g h3).1 h4⟩
    · cases h
  | .chain op op' a b c, W, X, e, g, h => by
    simp only [okE] at h
    split at h
    · rename_i l o o' m r hv
      simp only [Bool.and_eq_true, decide_eq_true_eq, Bool.not_eq_true'] at h
      obtain ⟨p, rfl⟩ := vChain_eq hv
      obtain ⟨⟨⟨⟨⟨rfl, rfl⟩, h2⟩, h3⟩, h4⟩, h5⟩ := h
      exact ⟨c_chain g (sndX a g h2).1 (sndX b g h3).1 (sndX c g h4).1 h5, t_chain g (sndX a g h2).1 (sndX b g h3).1 (sndX c g h4).1 h5⟩
    · cases h
  | .and as, W, X, e, g, h => by
    simp only [okE] at h
    split at h
    · rename_i o es hv
      simp only [Bool.and_eq_true, decide_eq_true_eq] at h
      obtain ⟨p, rfl⟩ := vBool_eq hv
      obtain ⟨rfl, h2⟩ := h
      obtain ⟨a1, a2⟩ := (sndB as g h2).1 p
      exact ⟨PE.imp a1 fun σ H Q ⟨ι, μ, ρ, rep, rf, q⟩ => ⟨ι, μ, ρ, rep, rf, by simpa only [ev] using q⟩, PT.imp a2.pt fun σ H Q ⟨ι, μ, ρ, rep, rf, q⟩ => ⟨ι, μ, ρ, rep, rf, by simpa only [ev] using q⟩⟩
    · cases h
  | .or as, W, X, e, g, h => by
    simp only [okE] at h
    split at h
    · rename_i o es hv
      simp only [Bool.and_eq_true, decide_eq_true_eq] at h
      obtain ⟨p, rfl⟩ := vBool_eq hv
      obtain ⟨rfl, h2⟩ := h
      obtain ⟨a1, a2⟩ := (sndB as g h2).2 p
      exact ⟨PE.imp a1 fun σ H Q ⟨ι, μ, ρ, rep, rf, q⟩ => ⟨ι, μ, ρ, rep, rf, by simpa only [ev] using q⟩, PT.imp a2.pt fun σ H Q ⟨ι, μ, ρ, rep, rf, q⟩ => ⟨ι, μ, ρ, rep, rf, by simpa only [ev] using q⟩⟩
    · cases h
  | .not a, W, X, e, g, h => by
    simp only [okE] at h
    split at h
    · rename_i o l hv
      simp only [Bool.and_eq_true, decide_eq_true_eq] at h
      obtain ⟨p, rfl⟩ := vUn_eq hv
      obtain ⟨rfl, h2⟩ := h
      exact ⟨c_not g (sndX a g h2).1, t_not g (sndX a g h2).2⟩
    · cases h
  | .ite c a b, W, X, e, g, h => by
    simp only [okE] at h
    split at h
    · rename_i x y z hv
      simp only [Bool.and_eq_true] at h
      obtain ⟨p, rfl⟩ := vIf_eq hv
      obtain ⟨⟨h1, h2⟩, h3⟩ := h
      exact ⟨c_ite g (sndX c g h1).2 (sndX a g h2).1 (sndX b g h3).1, t_ite g (sndX c g h1).2 (sndX a g h2).2 (sndX b g h3).2⟩
    · cases h
  | .call f as, W, X, e, g, h => by
    simp only [okE] at h
    split at h
    · rename_i x es hv
      simp only [Bool.and_eq_true, decide_eq_true_eq] at h
      obtain ⟨p, q, rfl⟩ := vCall_eq hv
      obtain ⟨⟨⟨h1, h2⟩, h3⟩, h4⟩ := h
      cases hd : G.T.fns[f]? with
      | none => rw [hd] at h2; cases h2
      | some d =>
        rw [hd] at h2
        obtain ⟨fa, m1, m2, m3⟩ := g.fn f d hd
        have hx : d.name = x := by simpa using h2
        subst hx
        exact both g (show PE X _ (rd G O W (.call f as)) from PE.imp (c_call g m3 m1 m2 h1 (sndA as g h3) h4 (fun z => okEs_nil (by rw [z] at h3; exact h3))) fun σ H Q ⟨ι, μ, ρ, rep, rf, q⟩ => ⟨ι, μ, ρ, rep, rf, by simpa only [ev] using q⟩) rfl
    · cases h
  | .callV i as, W, X, e, g, h => by
    simp only [okE] at h
    split at h
    · rename_i x es hv
      simp only [Bool.and_eq_true, decide_eq_true_eq, Bool.not_eq_true'] at h
      obtain ⟨p, q, rfl⟩ := vCall_eq hv
      obtain ⟨⟨⟨⟨⟨⟨h1, h2⟩, h3⟩, h4⟩, h5⟩, h6⟩, h7⟩ := h
      cases es with
      | nil => cases h7
      | cons e es => exact both g (c_callV g h1 (visB_ok h2) h3 h4 (sndA as g h5) h6) rfl
    · cases h
  | .blt f as, W, X, e, g, h => by
    simp only [okE] at h
    split at h
    · rename_i x es hv
      simp only [Bool.and_eq_true, decide_eq_true_eq, Bool.not_eq_true'] at h
      obtain ⟨p, q, rfl⟩ := vCall_eq hv
      obtain ⟨⟨⟨⟨rfl, h1⟩, h2⟩, h3⟩, h4⟩ := h
      cases es with
      | nil => cases h4
      | cons e es =>
        exact both g (show PE X _ (rd G O W (.blt f as)) from PE.imp (c_blt g (cv_blt g f) (blt_kind f) (free_blt g f) (boot_blt f) h1 (sndA as g h2) h3) fun σ H Q ⟨ι, μ, ρ, rep, rf, q⟩ => ⟨ι, μ, ρ, rep, rf, by simpa only [ev] using q⟩) rfl
    · cases h
  | .maxD a b, W, X, e, g, h => by
    simp only [okE] at h
    split at h
    · rename_i l r hv
      simp only [Bool.and_eq_true] at h
      obtain ⟨p, q, s, rfl⟩ := vMaxD_eq hv
      obtain ⟨⟨⟨h1, h2⟩, h3⟩, h4⟩ := h
      exact both g (c_maxD g (sndX a g h2).1 (sndX b g h3).1 h1 h4) rfl
    · cases h
  | .isi a t, W, X, e, g, h => by
    simp only [okE] at h
    split at h
    · rename_i x l r hv
      simp only [Bool.and_eq_true, decide_eq_true_eq] at h
      obtain ⟨p, q, rfl⟩ := vCall_eq hv
      obtain ⟨⟨⟨⟨⟨rfl, h1⟩, h2⟩, h3⟩, h4⟩, h5⟩ := h
      exact both g (show PE X _ (rd G O W (.isi a t)) from c_isi g (sndX a g h2).1 h3 h1 h4 h5) rfl
    · cases h
  | .tup as, W, X, e, g, h => by
    simp only [okE] at h
    split at h
    · rename_i es hv
      obtain ⟨n, p, rfl⟩ := vTup_eq hv
      exact both g (show PE X _ (rd G O W (.tup as)) from c_tup g (sndA as g h)) rfl
    · cases h
  | .lst as, W, X, e, g, h => by
    simp only [okE] at h
    split at h
    · rename_i es hv
      obtain ⟨p, rfl⟩ := vLst_eq hv
      exact both g (show PE X _ (rd G O W (.lst as)) from c_lst g (sndA as g h)) rfl
    · cases h
  | .mlst as, W, X, e, g, h => by
    simp only [okE] at h
    split at h
    · rename_i es hv
      obtain ⟨p, rfl⟩ := vLst_eq hv
      exact both g (show PE X _ (rd G O W (.mlst as)) from c_mlst g (sndA as g h)) rfl
    · cases h
  | .ix a b, W, X, e, g, h => by
    simp only [okE] at h
    split at h
    · rename_i l r hv
      simp only [Bool.and_eq_true] at h
      obtain ⟨p, rfl⟩ := vSub_eq hv
      obtain ⟨⟨h1, h2⟩, h3⟩ := h
      exact both g (show PE X _ (rd G O W (.ix a b)) from c_ix g (sndX a g h1).1 (sndX b g h2).1 h3) rfl
    · cases h
  | .comp elt tg it, W, X, e, g, h => by
    simp only [okE] at h
    split at h
    · rename_i l t i s hv
      simp only [Bool.and_eq_true] at h
      obtain ⟨p, rfl⟩ := vComp_eq hv
      obtain ⟨⟨⟨⟨h1, h2⟩, h3⟩, h4⟩, h5⟩ := h
      exact both g (show PE X _ (rd G O W (.comp elt tg it)) from c_comp g (sndI it g h1 t) h2 h3 h5 fun s' H C cl fp => (sndX elt (good_blk g s' H s C cl fp) h4).1) rfl
    · cases h
  | .lam l, W, X, e, g, h => by
    simp only [okE] at h
    split at h
    · rename_i p b s hv
      simp only [Bool.and_eq_true, List.isEmpty_iff, List.all_eq_true, Bool.not_eq_true', decide_eq_false_iff_not] at h
      obtain ⟨q, rfl⟩ := vLam_eq hv
      exact both g (c_lam g h.1.1.1 h.1.1.2 h.1.2 h.2) rfl
    · cases h
theorem sndA : ∀ (as : Xs) {W : WX} {X : Cx} {es : List Expr}, Good G O k lk W X → okEs G.T lk X.N X.env.scope as es = true → PA X es (rdA G O W as)
  | .nil, W, X, es, g, h => by
    simp only [okEs, List.isEmpty_iff] at h
    subst h
    exact a_nil
  | .cons x r, W, X, [], g, h => by simp [okEs] at h
  | .cons x r, W, X, e :: es, g, h => by
    simp only [okEs, Bool.and_eq_true] at h
    exact a_cons g (sndX x g h.1.1).1 (sndA r g h.2) h.1.2
  | .star x r, W, X, [], g, h => by simp [okEs] at h
  | .star x r, W, X, e :: es, g, h => by
    simp only [okEs] at h
    split at h
    · rename_i l hv
      simp only [Bool.and_eq_true] at h
      obtain ⟨p, rfl⟩ := vStar_eq hv
      exact a_star g (sndX x g h.1).1 (sndA r g h.2)
    · cases h
theorem sndB : ∀ (as : Xs) {W : WX} {X : Cx} {es : List Expr}, Good G O k lk W X → okB G.T lk X.N X.env.scope as es = true →
    (∀ p, PE X (.BoolOp .And es p) (rdM G W (RV G) (evAnd O as)) ∧ PW X (.BoolOp .And es p) (rdB G W (evAnd O as))) ∧ (∀ p, PE X (.BoolOp .Or es p) (rdM G W (RV G) (evOr O as)) ∧ PW X (.BoolOp .Or es p) (rdB G W (evOr O as)))
  | .nil, W, X, es, g, h => by simp [okB] at h
  | .star _ _, W, X, es, g, h => by simp [okB] at h
  | .cons x r, W, X, es, g, h => by
    by_cases hr : r = .nil
    · subst hr
      simp only [okB] at h
      split at h
      · obtain ⟨h1, h2⟩ := sndX x g h
        have e1 : ∀ ρ μ, evAnd O (.cons x .nil) ρ μ = ev O x ρ μ := fun ρ μ => by simp only [evAnd]
        have e2 : ∀ ρ μ, evOr O (.cons x .nil) ρ μ = ev O x ρ μ := fun ρ μ => by simp only [evOr]
        refine ⟨fun p => ⟨PE.imp (pe_one h1) fun σ H Q ⟨ι, μ, ρ, rep, rf, q⟩ => ⟨ι, μ, ρ, rep, rf, by rw [e1] at q; exact q⟩, PW.imp (pw_and1 h2) fun σ H Q ⟨ι, μ, ρ, rep, rf, q⟩ => ⟨ι, μ, ρ, rep, rf, by simp only [e1] at q; exact q⟩⟩,
          fun p => ⟨PE.imp (pe_one h1) fun σ H Q ⟨ι, μ, ρ, rep, rf, q⟩ => ⟨ι, μ, ρ, rep, rf, by rw [e2] at q; exact q⟩, PW.imp (pw_or1 h2) fun σ H Q ⟨ι, μ, ρ, rep, rf, q⟩ => ⟨ι, μ, ρ, rep, rf, by simp only [e2] at q; exact q⟩⟩⟩
      · cases h
    · have h2 : ∃ e e' es', es = e :: e' :: es' ∧ okE G.T lk X.N X.env.scope x e = true ∧ okB G.T lk X.N X.env.scope r (e' :: es') = true := by
        cases r with
        | nil => exact absurd rfl hr
        | cons y s =>
          simp only [okB] at h
          split at h
          · simp only [Bool.and_eq_true] at h
            exact ⟨_, _, _, rfl, h.1, h.2⟩
          · cases h
        | star y s =>
          simp only [okB] at h
          split at h
          · simp only [Bool.and_eq_true] at h
            cases h.2
          · cases h
      obtain ⟨e, e', es', rfl, k1, k2⟩ := h2
      obtain ⟨h1, h2⟩ := sndX x g k1
      obtain ⟨h3, h4⟩ := sndB r g k2
      exact ⟨fun p => ⟨b_and g hr h1 (h3 p).1, w_and g hr h2 (h3 p).2⟩, fun p => ⟨b_or g hr h1 (h4 p).1, w_or g hr h2 (h4 p).2⟩⟩
theorem sndI : ∀ (it : It) {W : WX} {X : Cx} {e : Expr}, Good G O k lk W X → okI G.T lk X.N X.env.scope it e = true → ∀ tg, PI X tg e (rdI G O W it)
  | .seq x, W, X, e, g, h, tg => by
    simp only [okI, Bool.and_eq_true] at h
    exact i_seq g (sndX x g h.1).1
  | .rng x, W, X, e, g, h, tg => by
    simp only [okI] at h
    split at h
    · rename_i f l hv
      simp only [Bool.and_eq_true, decide_eq_true_eq, noStar, List.all_cons, List.all_nil] at h
      obtain ⟨p, q, rfl⟩ := vCall_eq hv
      obtain ⟨⟨⟨rfl, h1⟩, h2⟩, h3⟩ := h
      exact i_rng g (sndX x g h2).1 h1 h3.1
    · cases h
end
end
end MP

set_option maxHeartbeats 2000000
/-! The evaluator keeps to the model: statements. -/
namespace MP
open PySem PySem.Spec PyProof.Rows L2
/-! ### the check -/
def vAssign : Stmt → Option (Expr × Expr × Pos)
  | .Assign [t] e p => some (t, e, p)
  | _ => none
def vExpr : Stmt → Option Expr
  | .Expr e _ => some e
  | _ => none
def vRet : Stmt → Option (Option Expr)
  | .Return e _ => some e
  | _ => none
def vIfS : Stmt → Option (Expr × List Stmt × List Stmt)
  | .If c a b _ => some (c, a, b)
  | _ => none
def vFor : Stmt → Option (Expr × Expr × List Stmt)
  | .For t i b [] _ => some (t, i, b)
  | _ => none
def vPass : Stmt → Bool
  | .Pass _ => true
  | _ => false
theorem vAssign_eq {s : Stmt} {t e : Expr} {p : Pos} (h : vAssign s = some (t, e, p)) : s = .Assign [t] e p := by
  unfold vAssign at h; split at h <;> first | (cases h; done) | skip
  cases h; rfl
theorem vExpr_eq {s : Stmt} {e : Expr} (h : vExpr s = some e) : ∃ p, s = .Expr e p := by
  unfold vExpr at h; split at h <;> first | (cases h; done) | skip
  cases h; exact ⟨_, rfl⟩
theorem vRet_eq {s : Stmt} {e : Option Expr} (h : vRet s = some e) : ∃ p, s = .Return e p := by
  unfold vRet at h; split at h <;> first | (cases h; done) | skip
  cases h; exact ⟨_, rfl⟩
theorem vIfS_eq {s : Stmt} {c : Expr} {a b : List Stmt} (h : vIfS s = some (c, a, b)) : ∃ p, s = .If c a b p := by
  unfold vIfS at h; split at h <;> first | (cases h; done) | skip
  cases h; exact ⟨_, rfl⟩
theorem vFor_eq {s : Stmt} {t i : Expr} {b : List Stmt} (h : vFor s = some (t, i, b)) : ∃ p, s = .For t i b [] p := by
  unfold vFor at h; split at h <;> first | (cases h; done) | skip
  cases h; exact ⟨_, rfl⟩
theorem vPass_eq {s : Stmt} (h : vPass s = true) : ∃ p, s = .Pass p := by
  unfold vPass at h; split at h <;> first | (cases h; done) | skip
  exact ⟨_, rfl⟩
/-- no comprehension -/
def noComp : Expr → Bool
  | .ListComp .. | .SetComp .. | .DictComp .. => false
  | _ => true
theorem noComp_ok {e : Expr} (h : noComp e = true) (t : Option Expr) (l : Nat) (env : Env) : swapsWith e t l env = pure false := by
  cases e <;> first | rfl | (simp [noComp] at h)
theorem sole_eq {t e : Expr} {l : Nat} {env : Env} : swapsWithSole [t] e l env = swapsWith e (some t) l env := rfl
def noTup : Expr → Bool
  | .Tuple .. => false
  | _ => true
/-- the stores of «t = e» are plain -/
def plainSt (t e : Expr) : Bool := noTup t || noTup e
theorem plainSt_name {x : Str} {p : Pos} {e : Expr} {env : Env} : swappedStores [.Name x p] e env = pure none := rfl
theorem plainSt_sub {o i : Expr} {p : Pos} {e : Expr} {env : Env} : swappedStores [.Subscript o i p] e env = pure none := rfl
theorem plainSt_tup {es : List Expr} {n : Nat} {p : Pos} {e : Expr} {env : Env} (h : noTup e = true) : swappedStores [.Tuple es n p] e env = pure none := by
  cases e <;> first | rfl | (simp [noTup] at h)
/-- a comprehension's line is its target's -/
def sameLine (t e : Expr) : Bool := t.pos.line == e.pos.line
mutual
def okS (T : Tab) (lk : LK) (N : List Str) (sc : Scope) : S → Stmt → Bool
  | .pass, s => vPass s
  | .set tg x, s => match vAssign s with
    | some (t, e, p) => match tg with
      | .one j => match x with
        | .comp elt tg' it => match vComp e, vName t with
          | some (l, t', i, s), some y => decide (N[j]? = some y) && decide (sc.names.lookup y = some .local) && decide (sc.kind = .function) && sameLine t e && !(s.names.any fun (n, k) => n == y && (k == .local || k == .cell)) &&
              okI T lk N sc it i && blkC N sc s (ownOf N tg') && okT false N (relS s sc) tg' t' && okE T lk N (relS s sc) elt l && seqOk i
          | _, _ => false
        | x => okT true N sc (.one j) t && okE T lk N sc x e && noComp e
      | .many js => okT true N sc (.many js) t && okE T lk N sc x e && noTup e
    | none => false
  | .put o i x, s => match vAssign s with
    | some (t, e, _) => match vSub t with
      | some (l, r) => okE T lk N sc o l && okE T lk N sc i r && okE T lk N sc x e && noComp e && plainIx r
      | none => false
    | none => false
  | .expr x, s => match vExpr s with
    | some e => okE T lk N sc x e && noComp e
    | none => false
  | .ret x, s => match vRet s with
    | some (some e) => okE T lk N sc x e
    | _ => false
  | .retN, s => match vRet s with
    | some none => true
    | _ => false
  | .ite c a b, s => match vIfS s with
    | some (e, l, r) => okE T lk N sc c e && okSs T lk N sc a l && okSs T lk N sc b r
    | none => false
  | .forS tg it body, s => match vFor s with
    | some (t, i, b) => okT true N sc tg t && okI T lk N sc it i && okSs T lk N sc body b && seqOk i
    | none => false
  | .never, _ => true
def okSs (T : Tab) (lk : LK) (N : List Str) (sc : Scope) : Ss → List Stmt → Bool
  | .nil, [] => true
  | .cons x r, s :: ss => okS T lk N sc x s && okSs T lk N sc r ss
  | _, _ => false
end
/-! ### posts -/
def PostS (G : Gx) (W : WX) (ι : Io) (H : Hp) (D : Ends) : SOut → Prop
  | .ok (.nx ρ) μ => ∀ ι' H' σ', Ext ι H ι' H' → Rep G ι' μ H' → RF G ι' H' σ' ρ → D.nx σ' H'
  | .ok (.bk ρ) μ => ∀ ι' H' σ', Ext ι H ι' H' → Rep G ι' μ H' → RF G ι' H' σ' ρ → D.bk σ' H'
  | .ok (.ct ρ) μ => ∀ ι' H' σ', Ext ι H ι' H' → Rep G ι' μ H' → RF G ι' H' σ' ρ → D.ct σ' H'
  | .ok (.rt d) μ => ∀ ι' H' v, Ext ι H ι' H' → Rep G ι' μ H' → RV G ι' H' v d → D.rt v H'
  | .ex x ρ μ => ∀ ι' H' σ' cls d, Ext ι H ι' H' → Rep G ι' μ H' → RF G ι' H' σ' ρ → RX G ι' H' cls d x → W cls d σ' H'
  | .bad => False
def rdS (G : Gx) (W : WX) (m : Frame → Mem → SOut) : TS := fun D σ H => ∃ ι μ ρ, Rep G ι μ H ∧ RF G ι H σ ρ ∧ PostS G W ι H D (m ρ μ)
theorem PS.imp {X : Cx} {e : Stmt} {t t' : TS} (h : PS X e t) (i : ∀ D σ H, t' D σ H → t D σ H) : PS X e t' := ⟨fun pins s σ H D I q => h.run pins s σ H D I (i D σ H q)⟩
theorem PSs.imp {X : Cx} {e : List Stmt} {t t' : TS} (h : PSs X e t) (i : ∀ D σ H, t' D σ H → t D σ H) : PSs X e t' := ⟨fun pins s σ H D I q => h.run pins s σ H D I (i D σ H q)⟩
section
variable {G : Gx} {O : Orc} {k : Nat} {lk : LK} {W : WX} {X : Cx} {ι ι1 : Io} {H H1 : Hp} {σ : L2.St} {D : Ends}
theorem PostS.mono {o : SOut} (e : Ext ι H ι1 H1) (h : PostS G W ι H D o) : PostS G W ι1 H1 D o := by
  cases o with
  | ok f μ => cases f with
    | nx ρ => exact fun ι' H' σ' e' => h ι' H' σ' (e.trans e')
    | bk ρ => exact fun ι' H' σ' e' => h ι' H' σ' (e.trans e')
    | ct ρ => exact fun ι' H' σ' e' => h ι' H' σ' (e.trans e')
    | rt v => exact fun ι' H' σ' e' => h ι' H' σ' (e.trans e')
  | ex x ρ μ => exact fun ι' H' σ' c d e' => h ι' H' σ' c d (e.trans e')
  | bad => exact h
theorem PostS.sb (ok : G.Ok) {α β : Type} {R : Io → Hp → β → α → Prop} {o : Out α} {ρ : Frame} {f : α → Mem → SOut} (rf : RF G ι H σ ρ) (h : PostS G W ι H D (o.sb ρ f)) :
    Post G W σ R ι H (fun v H1 => ∃ ι1 μ1 d, Ext ι H ι1 H1 ∧ Rep G ι1 μ1 H1 ∧ R ι1 H1 v d ∧ PostS G W ι1 H1 D (f d μ1)) o := by
  cases o with
  | ok d μ => exact fun ι' H' v e r q => ⟨ι', μ, d, e, r, q, PostS.mono e h⟩
  | ex x μ => exact fun ι' H' c d e r q => h ι' H' σ c d e r (rf.mono ok e) q
  | bad => exact h
theorem PostS.imp {D' : Ends} {o : SOut} (h : PostS G W ι H D o) (h1 : ∀ σ H, D.nx σ H → D'.nx σ H) (h2 : ∀ v H, D.rt v H → D'.rt v H) (h3 : ∀ σ H, D.bk σ H → D'.bk σ H) (h4 : ∀ σ H, D.ct σ H → D'.ct σ H) : PostS G W ι H D' o := by
  cases o with
  | ok f μ => cases f with
    | nx ρ => exact fun ι' H' σ' e r q => h1 _ _ (h ι' H' σ' e r q)
    | bk ρ => exact fun ι' H' σ' e r q => h3 _ _ (h ι' H' σ' e r q)
    | ct ρ => exact fun ι' H' σ' e r q => h4 _ _ (h ι' H' σ' e r q)
    | rt v => exact fun ι' H' σ' e r q => h2 _ _ (h ι' H' σ' e r q)
  | ex x ρ μ => exact h
  | bad => exact h
theorem PostS.seq {o : SOut} {f : Frame → Mem → SOut} (h : PostS G W ι H D (o.seq f)) : PostS G W ι H { D with nx := rdS G W f D } o := by
  cases o with
  | ok fl μ => cases fl with
    | nx ρ => exact fun ι' H' σ' e r q => ⟨ι', μ, ρ, r, q, PostS.mono e h⟩
    | bk ρ => exact h
    | ct ρ => exact h
    | rt v => exact h
  | ex x ρ μ => exact h
  | bad => exact h
/-! ### statements -/
theorem s_asg (g : Good G O k lk W X) {t e : Expr} {p : Pos} {tg : Tgt} {tG : TG} {x : MP.X} (h : PS X (.Assign [t] e p) (tAsg (rd G O W x) tG)) (hT : TgV G tg tG) : PS X (.Assign [t] e p) (rdS G W (exec O (.set tg x))) := by
  refine PS.imp h fun D σ H ⟨ι, μ, ρ, rep, rf, q⟩ => ?_
  simp only [exec] at q
  refine ⟨ι, μ, ρ, rep, rf, Post.imp (PostS.sb g.ok rf q) fun v H1 ⟨ι1, μ1, d, e1, rep1, hv, p1⟩ => ?_⟩
  cases hb : bindT tg d ρ with
  | none => rw [hb] at p1; exact False.elim p1
  | some ρ' =>
    rw [hb] at p1
    exact hT v d σ ρ ρ' H1 ι1 _ hv (rf.mono g.ok e1) hb fun σ' rf' _ => p1 ι1 H1 σ' (Ext.refl _ _) rep1 rf'
theorem putV_eq {a b v : Val} {μ μ' : Mem} (h : putV a b v μ = some μ') : ∃ (n : Nat) (j : Int) (xs : List Val) (m : Nat), a = .ref n ∧ b = .int j ∧ μ[n]? = some (.lst xs) ∧ ixN xs.length j = some m ∧ μ' = μ.set n (.lst (xs.set m v)) := by
  cases a with
  | ref n => cases b with
    | int j =>
      have h : (match μ[n]? with | some (.lst xs) => (L2.ixN xs.length j).map fun j => μ.set n (.lst (xs.set j v)) | none => none) = some μ' := h
      cases hc : μ[n]? with
      | none => rw [hc] at h; cases h
      | some c =>
        rw [hc] at h
        cases c with
        | lst xs =>
          simp only [Option.map_eq_some_iff] at h
          obtain ⟨m, h1, rfl⟩ := h
          exact ⟨n, j, xs, m, rfl, rfl, hc, h1, rfl⟩
    | _ => cases h
  | _ => cases b <;> cases h
theorem s_put (g : Good G O k lk W X) {l r e : Expr} {p q : Pos} {o i x : MP.X} (ho : PE X l (rd G O W o)) (hi : PE X r (rd G O W i)) (hx : PE X e (rd G O W x)) (hn : noComp e = true) (hp : plainIx r = true) : PS X (.Assign [.Subscript l r q] e p) (rdS G W (exec O (.put o i x))) := by
  have ha : ∀ v, assign (.Subscript l r q) X.env v = (do
      let ov ← holding [v] (eval l X.env)
      let iv ← holding [v, ov] (eval r X.env)
      standAt q
      holding [v, ov, iv] (setItem ov iv v)
      release [v, ov, iv] []) := fun v => by
    cases r <;> first | rfl | (simp [plainIx] at hp)
  refine PS.imp (ps_asg hx (pg_sub ho hi set_list ha) (sole_eq.trans (noComp_ok hn _ _ _)) plainSt_sub) fun D σ H ⟨ι, μ, ρ, rep, rf, q⟩ => ?_
  simp only [exec] at q
  refine ⟨ι, μ, ρ, rep, rf, Post.imp (PostS.sb g.ok rf q) fun v H1 ⟨ι1, μ1, d, e1, rep1, hv, p1⟩ => ?_⟩
  refine ⟨ι1, μ1, ρ, rep1, rf.mono g.ok e1, Post.imp (PostS.sb g.ok (rf.mono g.ok e1) p1) fun vo H2 ⟨ι2, μ2, d2, e2, rep2, hvo, p2⟩ => ?_⟩
  refine ⟨ι2, μ2, ρ, rep2, rf.mono g.ok (e1.trans e2), Post.imp (PostS.sb g.ok (rf.mono g.ok (e1.trans e2)) p2) fun vi H3 ⟨ι3, μ3, d3, e3, rep3, hvi, p3⟩ => ?_⟩
  cases hm : putV d2 d3 d μ3 with
  | none => rw [hm] at p3; exact False.elim p3
  | some μ' =>
    rw [hm] at p3
    obtain ⟨n, j, xs, m, rfl, rfl, hc, hm1, rfl⟩ := putV_eq hm
    obtain ⟨a, rfl, hn⟩ := (hvo.mono g.ok e3).refA
    cases hvi
    obtain ⟨vs, sa, rr⟩ := rep3.at_ n _ a hc hn
    have hv3 := hv.mono g.ok (e2.trans e3)
    refine ⟨a, vs, j, m, rfl, rfl, sa, by rw [rr.length]; exact hm1, ?_⟩
    exact p3 ι3 _ σ (Ext.put (List.mem_of_getElem? hn)) (rep3.put g.ok hn sa (rr.set hv3 m)) ((rf.mono g.ok (e1.trans (e2.trans e3))).mono g.ok (Ext.put (List.mem_of_getElem? hn)))
theorem s_expr (g : Good G O k lk W X) {e : Expr} {p : Pos} {x : MP.X} (hx : PE X e (rd G O W x)) (hn : noComp e = true) : PS X (.Expr e p) (rdS G W (exec O (.expr x))) := by
  refine PS.imp (ps_expr hx (noComp_ok hn _ _ _)) fun D σ H ⟨ι, μ, ρ, rep, rf, q⟩ => ?_
  simp only [exec] at q
  exact ⟨ι, μ, ρ, rep, rf, Post.imp (PostS.sb g.ok rf q) fun v H1 ⟨ι1, μ1, d, e1, rep1, hv, p1⟩ => p1 ι1 H1 σ (Ext.refl _ _) rep1 (rf.mono g.ok e1)⟩
theorem s_ret (g : Good G O k lk W X) {e : Expr} {p : Pos} {x : MP.X} (hx : PE X e (rd G O W x)) : PS X (.Return (some e) p) (rdS G W (exec O (.ret x))) := by
  refine PS.imp (ps_ret hx) fun D σ H ⟨ι, μ, ρ, rep, rf, q⟩ => ?_
  simp only [exec] at q
  exact ⟨ι, μ, ρ, rep, rf, Post.imp (PostS.sb g.ok rf q) fun v H1 ⟨ι1, μ1, d, e1, rep1, hv, p1⟩ => p1 ι1 H1 v (Ext.refl _ _) rep1 hv⟩
theorem s_retN {p : Pos} : PS X (.Return none p) (rdS G W (exec O .retN)) := by
  refine PS.imp ps_retN fun D σ H ⟨ι, μ, ρ, rep, rf, q⟩ => ?_
  simp only [exec] at q
  exact q ι H _ (Ext.refl _ _) rep .non
theorem s_pass {p : Pos} : PS X (.Pass p) (rdS G W (exec O .pass)) := by
  refine PS.imp ps_pass fun D σ H ⟨ι, μ, ρ, rep, rf, q⟩ => ?_
  simp only [exec] at q
  exact q ι H _ (Ext.refl _ _) rep rf
theorem s_ite (g : Good G O k lk W X) {e : Expr} {l r : List Stmt} {p : Pos} {c : MP.X} {a b : Ss} (hc : PT X e (rdT G O W c)) (ha : PSs X l (rdS G W (execs O a))) (hb : PSs X r (rdS G W (execs O b))) : PS X (.If e l r p) (rdS G W (exec O (.ite c a b))) := by
  refine PS.imp (ps_if hc ha hb) fun D σ H ⟨ι, μ, ρ, rep, rf, q⟩ => ?_
  simp only [exec] at q
  have q : PostS G W ι H D (((ev O c ρ μ).bind tst).sb ρ fun t μ => if t then execs O a ρ μ else execs O b ρ μ) := by
    cases he : ev O c ρ μ with
    | ok d μ' => rw [he] at q; exact q
    | ex x μ' => rw [he] at q; exact q
    | bad => rw [he] at q; exact q
  refine ⟨ι, μ, ρ, rep, rf, Post.imp (PostS.sb g.ok rf q) fun v H1 ⟨ι1, μ1, d, e1, rep1, hv, p1⟩ => ?_⟩
  cases hv
  cases v with
  | true => exact ⟨ι1, μ1, ρ, rep1, rf.mono g.ok e1, p1⟩
  | false => exact ⟨ι1, μ1, ρ, rep1, rf.mono g.ok e1, p1⟩
theorem s_for (g : Good G O k lk W X) {t i : Expr} {b : List Stmt} {p : Pos} {tg : Tgt} {it : It} {body : Ss} {tG : TG} (hi : PI X t i (rdI G O W it)) (hg : PG X t tG) (hT : TgV G tg tG) (hb : PSs X b (rdS G W (execs O body))) (hq : seqOk i = true) :
    PS X (.For t i b [] p) (rdS G W (exec O (.forS tg it body))) := by
  refine PS.imp (ps_for g.po g.calm hi hg hb (seqOk_ok hq X.env)) fun D σ H ⟨ι, μ, ρ, rep, rf, q⟩ => ?_
  simp only [exec] at q
  refine ⟨ι, μ, ρ, rep, rf, Post.imp (PostS.sb g.ok rf q) fun J H1 ⟨ι1, μ1, ds, e1, rep1, hw, p1⟩ => ?_⟩
  refine for_it hw (fun i σ H => ∃ (ι : Io) (μ : Mem) (ρ : Frame), Ext ι1 H1 ι H ∧ Rep G ι μ H ∧ RF G ι H σ ρ ∧ PostS G W ι H D (forL tg (execs O body) (ds.drop i) ρ μ)) ⟨ι1, μ1, ρ, Ext.refl _ _, rep1, rf.mono g.ok e1, p1⟩ (fun i σ H _ ⟨ι, _, _, e, _⟩ => ⟨ι, e.b⟩) ?_ ?_
  · rintro i x σ H H' hi ⟨ι, μ, ρ, e, rp, rf, q⟩ hy
    obtain ⟨d, hd⟩ : ∃ d, ds[i]? = some d := ⟨ds[i], List.getElem?_eq_getElem hi⟩
    obtain ⟨eY, rY, d', hd', hx⟩ := hy ι μ e.b rp
    rw [hd] at hd'
    cases hd'
    rw [drop_cons hd] at q
    simp only [forL] at q
    cases hbT : bindT tg d ρ with
    | none => rw [hbT] at q; exact False.elim q
    | some ρ1 =>
      rw [hbT] at q
      have q : PostS G W ι H D (forStep (execs O body ρ1 μ) (forL tg (execs O body) (ds.drop (i + 1)))) := q
      refine hT x d σ ρ ρ1 H' ι _ hx (rf.mono g.ok eY) hbT fun σ' rf' _ => ⟨ι, μ, ρ1, rY, rf', ?_⟩
      cases hb : execs O body ρ1 μ with
      | ok f μ2 =>
        rw [hb] at q
        cases f with
        | nx ρ2 => exact fun ι' H'' σ'' e' r' f' => ⟨ι', μ2, ρ2, e.trans (eY.trans e'), r', f', PostS.mono (eY.trans e') q⟩
        | ct ρ2 => exact fun ι' H'' σ'' e' r' f' => ⟨ι', μ2, ρ2, e.trans (eY.trans e'), r', f', PostS.mono (eY.trans e') q⟩
        | bk ρ2 => exact fun ι' H'' σ'' e' r' f' => q ι' H'' σ'' (eY.trans e') r' f'
        | rt v => exact fun ι' H'' v' e' r' f' => q ι' H'' v' (eY.trans e') r' f'
      | ex x ρ2 μ2 =>
        rw [hb] at q
        exact fun ι' H'' σ'' c d e' r' f' hx => q ι' H'' σ'' c d (eY.trans e') r' f' hx
      | bad => rw [hb] at q; exact False.elim q
  · rintro σ H ⟨ι, μ, ρ, e, rp, rf, q⟩
    rw [List.drop_length] at q
    simp only [forL] at q
    exact q ι H σ (Ext.refl _ _) rp rf
end
section
variable {G : Gx} {O : Orc} {k : Nat} {lk : LK}
theorem assign1 {t : Expr} {env : Env} (h : (vStar t).isNone = true) : (assignEach [t] env).map (·.2) = [assign t env] := by
  cases t <;> first | rfl | (simp [vStar] at h)
mutual
theorem sndS : ∀ (x : S) {W : WX} {X : Cx} {s : Stmt}, Good G O k lk W X → (∀ x, X.fn x = true) → okS G.T lk X.N X.env.scope x s = true → PS X s (rdS G W (exec O x))
  | .pass, W, X, s, g, hf, h => by
    simp only [okS] at h
    obtain ⟨p, rfl⟩ := vPass_eq h
    exact s_pass
  | .set tg x, W, X, s, g, hf, h => by
    simp only [okS] at h
    split at h
    · rename_i t e p hv
      have hs := vAssign_eq hv
      subst hs
      split at h
      · rename_i j
        split at h
        · rename_i elt tg' it
          split at h
          · rename_i l t' i sc y hc hn
            simp only [Bool.and_eq_true, decide_eq_true_eq, Bool.not_eq_true'] at h
            obtain ⟨⟨⟨⟨⟨⟨⟨⟨⟨h1, h2⟩, h3⟩, h4⟩, h5⟩, h6⟩, h7⟩, h8⟩, h9⟩, h10⟩ := h
            obtain ⟨p2, rfl⟩ := vComp_eq hc
            obtain ⟨p3, rfl⟩ := vName_eq hn
            exact s_asg g (s_comp g (sndI it g h6 t') h7 h8 h10 (fun s' H C cl fp => (sndX elt (good_blk g s' H sc C cl fp) h9).1) h1 h2 (sw_true h3 h2 h4 h5)) (tv_one j)
          · cases h
        · simp only [Bool.and_eq_true] at h
          obtain ⟨⟨h1, h2⟩, h3⟩ := h
          obtain ⟨y, p2, rfl, _⟩ := tgB_eq h1
          obtain ⟨tG, q1, q2⟩ := g_tg g (fun _ => hf) h1
          exact s_asg g (ps_asg (sndX x g h2).1 q1 (sole_eq.trans (noComp_ok h3 _ _ _)) plainSt_name) q2
      · rename_i js
        simp only [Bool.and_eq_true] at h
        obtain ⟨⟨h1, h2⟩, h3⟩ := h
        obtain ⟨tG, q1, q2⟩ := g_tg g (fun _ => hf) h1
        have ht : ∃ es n p', t = .Tuple es n p' := by
          have h1 : (match vTup t with | some es => okT.okTs true X.N X.env.scope js es | none => false) = true := h1
          cases hv : vTup t with
          | none => rw [hv] at h1; cases h1
          | some es =>
            obtain ⟨n, p', rfl⟩ := vTup_eq hv
            exact ⟨es, n, p', rfl⟩
        obtain ⟨es, n, p', rfl⟩ := ht
        have hsw : swapsWithSole [.Tuple es n p'] e p.line X.env = pure false := by
          cases e <;> rfl
        exact s_asg g (ps_asg (sndX x g h2).1 q1 hsw (plainSt_tup h3)) q2
    · cases h
  | .put o i x, W, X, s, g, hf, h => by
    simp only [okS] at h
    split at h
    · rename_i t e p hv
      have hs := vAssign_eq hv
      subst hs
      split at h
      · rename_i l r hs
        obtain ⟨p2, rfl⟩ := vSub_eq hs
        simp only [Bool.and_eq_true] at h
        obtain ⟨⟨⟨⟨h1, h2⟩, h3⟩, h4⟩, h5⟩ := h
        exact s_put g (sndX o g h1).1 (sndX i g h2).1 (sndX x g h3).1 h4 h5
      · cases h
    · cases h
  | .expr x, W, X, s, g, hf, h => by
    simp only [okS] at h
    split at h
    · rename_i e hv
      obtain ⟨p, rfl⟩ := vExpr_eq hv
      simp only [Bool.and_eq_true] at h
      exact s_expr g (sndX x g h.1).1 h.2
    · cases h
  | .ret x, W, X, s, g, hf, h => by
    simp only [okS] at h
    split at h
    · rename_i e hv
      obtain ⟨p, rfl⟩ := vRet_eq hv
      exact s_ret g (sndX x g h).1
    · cases h
  | .retN, W, X, s, g, hf, h => by
    simp only [okS] at h
    split at h
    · rename_i hv
      obtain ⟨p, rfl⟩ := vRet_eq hv
      exact s_retN
    · cases h
  | .ite c a b, W, X, s, g, hf, h => by
    simp only [okS] at h
    split at h
    · rename_i e l r hv
      obtain ⟨p, rfl⟩ := vIfS_eq hv
      simp only [Bool.and_eq_true] at h
      exact s_ite g (sndX c g h.1.1).2 (sndSs a g hf h.1.2) (sndSs b g hf h.2)
    · cases h
  | .forS tg it body, W, X, s, g, hf, h => by
    simp only [okS] at h
    split at h
    · rename_i t i b hv
      obtain ⟨p, rfl⟩ := vFor_eq hv
      simp only [Bool.and_eq_true] at h
      obtain ⟨⟨⟨h1, h2⟩, h3⟩, h4⟩ := h
      obtain ⟨tG, q1, q2⟩ := g_tg g (fun _ => hf) h1
      exact s_for g (sndI it g h2 t) q1 q2 (sndSs body g hf h3) h4
    · cases h
  | .never, W, X, s, g, hf, h => PS.imp ps_never fun D σ H ⟨ι, μ, ρ, rep, rf, q⟩ => by
    simp only [exec] at q
    exact q
theorem sndSs : ∀ (x : Ss) {W : WX} {X : Cx} {s : List Stmt}, Good G O k lk W X → (∀ x, X.fn x = true) → okSs G.T lk X.N X.env.scope x s = true → PSs X s (rdS G W (execs O x))
  | .nil, W, X, [], g, hf, h => PSs.imp pss_nil fun D σ H ⟨ι, μ, ρ, rep, rf, q⟩ => by
    simp only [execs] at q
    exact q ι H σ (Ext.refl _ _) rep rf
  | .nil, W, X, _ :: _, g, hf, h => by simp [okSs] at h
  | .cons _ _, W, X, [], g, hf, h => by simp [okSs] at h
  | .cons x r, W, X, s :: ss, g, hf, h => by
    simp only [okSs, Bool.and_eq_true] at h
    refine PSs.imp (pss_cons (sndS x g hf h.1) (sndSs r g hf h.2)) fun D σ H ⟨ι, μ, ρ, rep, rf, q⟩ => ?_
    simp only [execs] at q
    exact ⟨ι, μ, ρ, rep, rf, PostS.seq q⟩
end
end
end MP

set_option maxHeartbeats 2000000
/-! Functions of the module, lambdas: all keep what the evaluator tells. -/
namespace MP
open PySem PySem.Spec PyProof.Rows L2
/-! ### binding -/
theorem look_zip : ∀ {ps : List Str} {us : List Value} {x : Str}, us.length = ps.length → x ∈ ps → ((ps.zip us).lookup x).isSome = true
  | [], _, _, _, h => nomatch h
  | p :: ps, [], _, h, _ => by cases h
  | p :: ps, u :: us, x, hl, h => by
    rw [List.zip_cons_cons, List.lookup_cons]
    by_cases e : x == p
    · rw [e]; rfl
    · simp only [Bool.not_eq_true] at e
      rw [e]
      exact look_zip (by simpa using hl) ((List.mem_cons.mp h).resolve_left (fun z => by rw [z] at e; simp at e))
theorem fm_zip : ∀ {ps : List Str} {us : List Value}, ps.Nodup → us.length = ps.length → ps.filterMap (fun n => ((ps.zip us).lookup n).map (n, ·)) = ps.zip us := by
  have key : ∀ (ps : List Str) (us : List Value) (pre : List (Str × Value)), ps.Nodup → (∀ x ∈ ps, pre.lookup x = none) → us.length = ps.length → ps.filterMap (fun n => ((pre ++ ps.zip us).lookup n).map (n, ·)) = ps.zip us := by
    intro ps
    induction ps with
    | nil => intro us pre _ _ _; cases us <;> rfl
    | cons p ps ih =>
      intro us pre nd hp hl
      cases us with
      | nil => cases hl
      | cons u us =>
        have h1 : (pre ++ (p :: ps).zip (u :: us)).lookup p = some u := by
          rw [List.lookup_append, hp p List.mem_cons_self]
          simp
        rw [List.filterMap_cons, h1]
        simp only [Option.map_some]
        rw [List.zip_cons_cons]
        congr 1
        have := ih us (pre ++ [(p, u)]) (List.nodup_cons.mp nd).2 (fun x hx => by
          rw [List.lookup_append, hp x (List.mem_cons_of_mem _ hx)]
          have : x ≠ p := fun z => (List.nodup_cons.mp nd).1 (z ▸ hx)
          simp [List.lookup_cons, beq_eq_false_iff_ne.mpr this]) (by simpa using hl)
        rw [List.append_assoc] at this
        exact this
  intro ps us nd hl
  exact key ps us [] nd (fun _ _ => rfl) hl
theorem bind_plain {fd : FuncData} {ps : List Str} {us : List Value} (h1 : fd.params.posonlyargs = []) (h2 : fd.params.args.map (·.arg) = ps) (h3 : fd.params.vararg = none) (h4 : fd.params.kwonlyargs = []) (h5 : fd.params.kwarg = none) (h6 : fd.defaults = .none)
    (nd : ps.Nodup) (hl : us.length = ps.length) : bindArgs fd ⟨us, []⟩ = pure (ps.zip us) := by
  unfold bindArgs
  simp only [List.forIn_nil, List.forIn'_nil, h1, h2, h3, h4, h5, h6, List.map_nil, List.nil_append, List.append_nil, pure_bind, seqItems?, List.zip_nil_right, Option.getD_none]
  have hm : (List.filter (fun n => (List.lookup n (ps.zip us)).isNone) (List.take ps.length ps)) = [] := by
    rw [List.take_length, List.filter_eq_nil_iff]
    intro x hx
    have := look_zip hl hx
    cases h : (ps.zip us).lookup x with
    | none => rw [h] at this; cases this
    | some v => simp
  have hs : notAStandIn Value.none = pure () := rfl
  have hg : decide (us.length > ps.length) = false := by simp [hl]
  simp only [hs, pure_bind, hg, Bool.false_and, Bool.false_eq_true, if_false, Option.getD_none, List.length_nil, List.drop_nil, Nat.sub_zero, hm, List.isEmpty_nil, Bool.not_true, List.drop_length, List.zip_nil_right, List.forIn_nil, List.forIn'_nil, List.zip_nil_left, fm_zip nd hl]
theorem bind_star {fd : FuncData} {a : Arg} {us : List Value} (h1 : fd.params.posonlyargs = []) (h2 : fd.params.args = []) (h3 : fd.params.vararg = some a) (h4 : fd.params.kwonlyargs = []) (h5 : fd.params.kwarg = none) (h6 : fd.defaults = .none) :
    bindArgs fd ⟨us, []⟩ = (newTuple us >>= fun t => pure [(a.arg, t)]) := by
  unfold bindArgs
  have hs : notAStandIn Value.none = pure () := rfl
  simp only [List.forIn_nil, List.forIn'_nil, h1, h2, h3, h4, h5, h6, List.map_nil, List.nil_append, List.append_nil, pure_bind, seqItems?, List.zip_nil_right, Option.getD_none, hs, Option.isNone_some, Bool.and_false, Bool.false_eq_true, if_false, List.length_nil, List.drop_nil, Nat.sub_zero,
    List.take_nil, List.filter_nil, List.isEmpty_nil, Bool.not_true, List.zip_nil_left, List.filterMap_nil, List.drop_zero]
/-! ### the checks of a def, of a lambda -/
def plainPs (params : Arguments) (ps : List Str) : Bool := params.posonlyargs.isEmpty && decide (params.args.map (·.arg) = ps) && params.vararg.isNone && params.kwonlyargs.isEmpty && params.kwarg.isNone
def LK0 : LK := fun _ _ _ _ => false
def lamB (T : Tab) : LK := fun l params b sc => match T.lams[l]? with
  | some d => plainPs params (d.N.take d.arity) && NdefX.nscB d.N (d.N.take d.arity) [] sc && okE T LK0 d.N sc d.body b && decide (d.arity ≤ d.N.length)
  | none => false
def lkOf (T : Tab) (d : FnD) : LK := if d.lams then lamB T else LK0
def fnScB (N ps : List Str) (sc : Scope) : Bool := decide (sc.kind = .function) && !sc.isCoroutine && !sc.isGenerator && decide N.Nodup && decide (N.take ps.length = ps) &&
  ps.all (fun x => decide (sc.names.lookup x = some .local) || decide (sc.names.lookup x = some .cell)) && sc.names.all (fun y => !decide (y.2 = .free))
theorem fnScB_ok {N ps : List Str} {sc : Scope} (h : fnScB N ps sc = true) : FnScope N ps sc := by
  unfold fnScB at h
  simp only [Bool.and_eq_true, Bool.not_eq_true', decide_eq_true_eq, List.all_eq_true, Bool.or_eq_true, decide_eq_false_iff_not] at h
  obtain ⟨⟨⟨⟨⟨⟨h1, h2⟩, h3⟩, h4⟩, h5⟩, h6⟩, h7⟩ := h
  exact ⟨h1, h2, h3, h4, h5, h6, h7⟩
/-- a def of the row, held against its small form -/
def defB (T : Tab) (d : FnD) (params : Arguments) (body : List Stmt) (sc : Scope) : Bool :=
  (if d.star then (match params.vararg with
      | some a => params.posonlyargs.isEmpty && params.args.isEmpty && params.kwonlyargs.isEmpty && params.kwarg.isNone && fnScB d.N [a.arg] sc && decide (d.arity = 0)
      | none => false)
    else plainPs params (d.N.take d.arity) && fnScB d.N (d.N.take d.arity) sc && decide (d.arity ≤ d.N.length)) && okSs T (lkOf T d) d.N sc d.body body
/-! ### what the row's top has left, of each def -/
structure DefF (G : Gx) (base : Heap) (d : FnD) : Prop where
  ex : ∃ (f : Addr) (fd : FuncData) (params : Arguments) (body : List Stmt) (sc : Scope), G.mg d.name = some (.ref f) ∧ FunD G.K d.name d.name params body sc [] [] f fd ∧ defB G.T d params body sc = true ∧
    (d.lams = true → ∃ c P, fd.code = .ref c ∧ LamX.TabB base G.mg c P ∧ (P, d.name ++ ".<locals>." ++ "<lambda>") ∈ G.TT ∧ ∀ q ∈ G.TT, q.1 = P → q.2 = d.name ++ ".<locals>." ++ "<lambda>")
structure Lnk (G : Gx) (base : Heap) : Prop where
  ls : G.LS = fun l p b s => lamB G.T l p b s = true
  defs : ∀ (g : Nat) d, G.T.fns[g]? = some d → DefF G base d
  free : ∀ x ∈ freeNames, G.mg x = none
  ci : ∀ x i, G.T.ci.lookup x = some i → ∃ t, G.mg x = some (.int i t)
  cz : ∀ x i, G.T.cz.lookup x = some i → ∃ t, G.mg x = some (.str i t)
/-- all functions and lambdas, k calls deep -/
structure AllOk (G : Gx) (P : Program) (w : World) (base : Heap) (k : Nat) : Prop where
  fn : ∀ (g : Nat) d, G.T.fns[g]? = some d → ∃ f, G.mg d.name = some (.ref f) ∧ PySem.W.keepIn G.K (.ref f) = true ∧ FnR P w G.K G.mg base (L2.CX P w) k f (spG G ((run G.T k).fn g))
  lam : ∀ (l : Nat) d, G.T.lams[l]? = some d → LamR G P w base k l ((run G.T k).lam l)
section
variable {G : Gx} {P : Program} {w : World} {base : Heap} {k : Nat}
theorem lsd_of (L : Lnk G base) : ∀ l p b s, G.LS l p b s → ∃ d, G.T.lams[l]? = some d := fun l p b s h => by
  rw [L.ls] at h
  have h : lamB G.T l p b s = true := h
  unfold lamB at h
  cases hd : G.T.lams[l]? with
  | none => rw [hd] at h; cases h
  | some d => exact ⟨d, rfl⟩
theorem post_body {ι : Io} {H : Hp} {Q : VK} {E : XK} {o : SOut} (h : Post G (fun c d _ H => E c d H) [] (RV G) ι H Q (bodyOut o)) : PostS G (fun c d _ H => E c d H) ι H { nx := fun _ H' => Q .non H', rt := Q } o := by
  cases o with
  | ok f μ => cases f with
    | nx ρ => exact fun ι' H' σ' e r _ => h ι' H' _ e r .non
    | bk ρ => exact False.elim h
    | ct ρ => exact False.elim h
    | rt v => exact h
  | ex x ρ μ => exact fun ι' H' σ' c d e r _ q => h ι' H' c d e r q
  | bad => exact h
/-- a body's context is good -/
theorem good_def (L : Lnk G base) (A0 : AllOk G P w base k) {d : FnD} {params : Arguments} {body : List Stmt} {sc : Scope} {f : Addr} {cdv : Value} {A : Around} {outer : List Env} {s : Shared} {H : Hp} {E : XK} {N ps : List Str} {q : Str} (S : FnScope N ps sc)
    (hr : Room k (A.deeper (envOfC q sc s.heap.objs.size f cdv))) {lk : LK} (hlk : ∀ l p b s, lk l p b s = true → G.LS l p b s ∧ ∃ c P, cdv = .ref c ∧ LamX.TabB base G.mg c P ∧ (P, q ++ ".<locals>." ++ "<lambda>") ∈ G.TT ∧ ∀ r ∈ G.TT, r.1 = P → r.2 = q ++ ".<locals>." ++ "<lambda>") :
    Good G (run G.T k) k lk (fun c d _ H => E c d H) (cxOf (L2.CX P w) P w G.K G.mg base N q sc f cdv A outer s H E) where
  ok := G.isOk
  calm := rfl
  room := hr
  tk := takes_of rfl rfl rfl rfl
  nd := S.nd
  eK := rfl
  eM := rfl
  po := passes_of rfl
  fn := A0.fn
  lam := A0.lam
  lks := hlk
  lsd := lsd_of L
  free := L.free
  ci := L.ci
  cz := L.cz
theorem lk_def (L : Lnk G base) {d : FnD} {cdv : Value} (ht : d.lams = true → ∃ c P, cdv = .ref c ∧ LamX.TabB base G.mg c P ∧ (P, d.name ++ ".<locals>." ++ "<lambda>") ∈ G.TT ∧ ∀ q ∈ G.TT, q.1 = P → q.2 = d.name ++ ".<locals>." ++ "<lambda>") :
    ∀ l p b s, lkOf G.T d l p b s = true → G.LS l p b s ∧ ∃ c P, cdv = .ref c ∧ LamX.TabB base G.mg c P ∧ (P, d.name ++ ".<locals>." ++ "<lambda>") ∈ G.TT ∧ ∀ r ∈ G.TT, r.1 = P → r.2 = d.name ++ ".<locals>." ++ "<lambda>" := fun l p b s h => by
  unfold lkOf at h
  cases hm : d.lams with
  | false => rw [hm] at h; cases h
  | true =>
    rw [hm] at h
    exact ⟨by rw [L.ls]; exact h, ht hm⟩
theorem fnok (L : Lnk G base) (A0 : AllOk G P w base k) {g : Nat} {d : FnD} (hd : G.T.fns[g]? = some d) (hst : d.star = false) {f : Addr} {fd : FuncData} {params : Arguments} {body : List Stmt} {sc : Scope} (F : FunD G.K d.name d.name params body sc [] [] f fd) (hb : defB G.T d params body sc = true)
    (ht : d.lams = true → ∃ c P, fd.code = .ref c ∧ LamX.TabB base G.mg c P ∧ (P, d.name ++ ".<locals>." ++ "<lambda>") ∈ G.TT ∧ ∀ q ∈ G.TT, q.1 = P → q.2 = d.name ++ ".<locals>." ++ "<lambda>") :
    FnOk P w G.K G.mg base (L2.CX P w) (k + 1) f fd (d.N.take d.arity) (spG G ((run G.T (k + 1)).fn g)) := by
  obtain ⟨oc, od, dV, kV, doc, pm, an, cdv, ct, osl, rfl, lk, hcd, hD, hK⟩ := F.ex
  have hrun : (run G.T (k + 1)).fn g = callFn (run G.T k) d := by
    funext args μ
    simp only [run, hd]
  rw [hrun]
  unfold defB at hb
  simp only [Bool.and_eq_true] at hb
  obtain ⟨hb1, hb2⟩ := hb
  have hlk := lk_def L (d := d) (cdv := cdv) ht
  rw [hst] at hb1
  simp only [Bool.false_eq_true, if_false, Bool.and_eq_true, decide_eq_true_eq] at hb1
  obtain ⟨⟨hp, hS⟩, har⟩ := hb1
  have S := fnScB_ok hS
  have hlen : (d.N.take d.arity).length = d.arity := by rw [List.length_take]; omega
  have hcall : ∀ ds μ, callFn (run G.T k) d ds μ = if ds.length = d.arity then bodyOut (execs (run G.T k) d.body (frame0 d.N ds) μ) else .bad := fun ds μ => by
    unfold callFn
    rw [hst]
    rfl
  refine fn_of lk hcd S (fun vs H Q E ⟨ι, μ, ds, rep, hv, q⟩ => ?_) fun A outer s H vs Q E hr ⟨ι, μ, ds, rep, hv, q⟩ => ?_
  · rw [hcall] at q
    split at q
    · rename_i hl
      rw [hlen, hv.length]
      exact hl
    · exact False.elim q
  · rw [hcall] at q
    split at q
    · exact ⟨_, sndSs d.body (good_def (params := params) (body := body) (d := d) L A0 S hr hlk) (fun _ => rfl) hb2, ι, μ, frame0 d.N ds, rep, RF.start hv, post_body q⟩
    · exact False.elim q
theorem fn_binds {d : FnD} (hst : d.star = false) {f : Addr} {fd : FuncData} {params : Arguments} {body : List Stmt} {sc : Scope} (F : FunD G.K d.name d.name params body sc [] [] f fd) (hb : defB G.T d params body sc = true) (us : List Value) (hl : us.length = (d.N.take d.arity).length) :
    bindArgs fd ⟨us, []⟩ = pure ((d.N.take d.arity).zip us) := by
  obtain ⟨oc, od, dV, kV, doc, pm, an, cdv, ct, osl, rfl, lk, hcd, hD, hK⟩ := F.ex
  have hdV : dV = .none := by
    rcases hD with ⟨_, e⟩ | ⟨e, _⟩
    · exact e
    · exact absurd rfl e
  unfold defB at hb
  simp only [Bool.and_eq_true] at hb
  obtain ⟨hb1, hb2⟩ := hb
  rw [hst] at hb1
  simp only [Bool.false_eq_true, if_false, Bool.and_eq_true, decide_eq_true_eq] at hb1
  obtain ⟨⟨hp, hS⟩, har⟩ := hb1
  have S := fnScB_ok hS
  unfold plainPs at hp
  simp only [Bool.and_eq_true, List.isEmpty_iff, decide_eq_true_eq, Option.isNone_iff_eq_none] at hp
  obtain ⟨⟨⟨⟨p1, p2⟩, p3⟩, p4⟩, p5⟩ := hp
  exact bind_plain p1 p2 p3 p4 p5 hdV (S.nd.sublist (List.take_sublist _ _)) hl
theorem fn_next (L : Lnk G base) (A0 : AllOk G P w base k) {g : Nat} {d : FnD} (hd : G.T.fns[g]? = some d) : ∃ f, G.mg d.name = some (.ref f) ∧ PySem.W.keepIn G.K (.ref f) = true ∧ FnR P w G.K G.mg base (L2.CX P w) (k + 1) f (spG G ((run G.T (k + 1)).fn g)) := by
  obtain ⟨f, fd, params, body, sc, hm, F, hb, ht⟩ := (L.defs g d hd).ex
  refine ⟨f, hm, F.kp, ?_⟩
  obtain ⟨oc, od, dV, kV, doc, pm, an, cdv, ct, osl, rfl, lk, hcd, hD, hK⟩ := F.ex
  have hdV : dV = .none := by
    rcases hD with ⟨_, e⟩ | ⟨e, _⟩
    · exact e
    · exact absurd rfl e
  have hrun : (run G.T (k + 1)).fn g = callFn (run G.T k) d := by
    funext args μ
    simp only [run, hd]
  rw [hrun]
  unfold defB at hb
  simp only [Bool.and_eq_true] at hb
  obtain ⟨hb1, hb2⟩ := hb
  have hlk := lk_def L (d := d) (cdv := cdv) ht
  cases hst : d.star with
  | false =>
    have hb0 : defB G.T d params body sc = true := by
      unfold defB
      simp only [Bool.and_eq_true]
      exact ⟨hb1, hb2⟩
    have F1 := fnok L A0 hd hst F hb0 ht
    rw [hrun] at F1
    exact FnR.imp (F1.raw (.all (fn_binds hst F hb0)) .nil) fun vs H Q E h => by rw [List.append_nil]; exact h
  | true =>
    rw [hst] at hb1
    simp only [if_true] at hb1
    cases hva : params.vararg with
    | none => rw [hva] at hb1; cases hb1
    | some a =>
      rw [hva] at hb1
      simp only [Bool.and_eq_true, List.isEmpty_iff, decide_eq_true_eq, Option.isNone_iff_eq_none] at hb1
      obtain ⟨⟨⟨⟨⟨p1, p2⟩, p4⟩, p5⟩, hS⟩, har⟩ := hb1
      have S := fnScB_ok hS
      have hcall : ∀ ds μ, callFn (run G.T k) d ds μ = if d.arity = 0 ∧ ds.length ≤ sizeLine then bodyOut (execs (run G.T k) d.body (frame0 d.N [.tup ds]) μ) else .bad := fun ds μ => by
        unfold callFn
        rw [hst]
        rfl
      have F1 := StX.fn_star (CX := L2.CX P w) (P := P) (w := w) (mg := G.mg) (base := base) (k := k) (ps := []) (pv := a.arg) (N := d.N)
        (sp := fun vs H Q E => ∃ ι μ ds, Rep G ι μ H ∧ RVs G ι H vs [.tup ds] ∧ Post G (fun c d _ H => E c d H) [] (RV G) ι H Q (bodyOut (execs (run G.T k) d.body (frame0 d.N [.tup ds]) μ))) lk hcd S StX.cxUp
        (fun us rest hl => by
          have : us = [] := List.eq_nil_of_length_eq_zero hl
          subst this
          rw [List.nil_append, bind_star p1 p2 hva p4 p5 hdV]
          rfl)
        (fun A outer s H vs Q E hr ⟨ι, μ, ds, rep, hv, q⟩ => ⟨_, sndSs d.body (good_def (params := params) (body := body) (d := d) L A0 S hr hlk) (fun _ => rfl) hb2, ι, μ, _, rep, RF.start hv, post_body q⟩)
      refine FnR.imp F1 fun vs H Q E ⟨ι, μ, ds, rep, hv, q⟩ => ?_
      rw [hcall] at q
      split at q
      · rename_i hl
        refine ⟨[], vs, rfl, rfl, by rw [hv.length]; exact hl.2, fun p hp => ⟨ι, μ, ds, rep.laid G.isOk tup_ne hp, .cons (.tup upd_same (rep.fresh hp) (hv.mono G.isOk (Ext.laid hp))) .nil, Post.mono (Ext.laid hp) q⟩⟩
      · exact False.elim q
theorem lam_next (L : Lnk G base) (A0 : AllOk G P w base k) {l : Nat} {d : LamD} (hd : G.T.lams[l]? = some d) : LamR G P w base (k + 1) l ((run G.T (k + 1)).lam l) := by
  have hrun : (run G.T (k + 1)).lam l = callLam (run G.T k) d := by
    funext args μ
    simp only [run, hd]
  rw [hrun]
  intro A outer s H us vs Q E a ι μ ds hr e0 r ha rep hv q
  cases ha with
  | @lam _ _ c qn b1 b2 b3 b4 =>
    obtain ⟨⟨params, b, sc, pm, ctv, hls, ho⟩, _⟩ := e0.hok a _ b1
    rw [L.ls] at hls
    have hls : lamB G.T l params b sc = true := hls
    unfold lamB at hls
    rw [hd] at hls
    simp only [Bool.and_eq_true, decide_eq_true_eq] at hls
    obtain ⟨⟨⟨hp, hS⟩, hok⟩, har⟩ := hls
    have S := NdefX.nscope_by hS
    have hlen : (d.N.take d.arity).length = d.arity := by rw [List.length_take]; omega
    unfold callLam at q
    split at q
    · rename_i hl
      have hlv : vs.length = (d.N.take d.arity).length := by rw [hlen, hv.length]; exact hl
      have lim : s.heap.NoLimit := e0.mod.nolimit.keeps fun b o e => (e0.bs b o e).1
      unfold plainPs at hp
      simp only [Bool.and_eq_true, List.isEmpty_iff, decide_eq_true_eq, Option.isNone_iff_eq_none] at hp
      obtain ⟨⟨⟨⟨p1, p2⟩, p3⟩, p4⟩, p5⟩ := hp
      refine PySem.W.kla_callFunE hr.depth ho rfl S.co S.gen rfl (NdefX.codeO_at e0.hok b3) ?_
      rw [bind_plain p1 p2 p3 p4 p5 rfl (S.nd.sublist (List.take_sublist _ _)) (by rw [← r.length]; exact hlv)]
      refine wpAny_pure (wpAny_newFunctionEnv S.nocell (fun ⟨n, _⟩ hy => S.par n (List.of_mem_zip hy).1) (fun h₁ hns hsb => ⟨lim.fresh _ hsb, ?_⟩) S.kind)
      have kp : ∀ b o, s.heap.get? b = some o → h₁.get? b = some o := fun b o e => hsb.extBut b o (Nat.ne_of_lt (Heap.lt_size e)) (Heap.get?_push_of_some _ e)
      let F : NdefX.NF := ⟨"<lambda>", qn, params, [], sc, [], c⟩
      have I : Inv (NdefX.ncx (L2.CX P w) P w G.K G.mg base d.N F a A outer s H E) [] (NdefX.startF d.N vs []) H { s with heap := h₁, toks := s.toks + ((d.N.take d.arity).zip us).length } :=
        NdefX.inv_startN (F := F) (fr := []) (ws := []) S hr.hd e0 hlv r ⟨rfl, fun y c e => (by cases e), fun x y c e => (by cases e), fun i y e => (by simp at e)⟩ hns kp
      have g : Good G (run G.T k) k LK0 (fun c d _ H => E c d H) (NdefX.ncx (L2.CX P w) P w G.K G.mg base d.N F a A outer s H E) := {
        ok := G.isOk, calm := rfl, room := hr.deeper _, tk := takes_of rfl rfl rfl rfl, nd := S.nd, eK := rfl, eM := rfl, po := passes_of rfl, fn := A0.fn, lam := A0.lam
        lks := fun l p b s h => by cases h
        lsd := lsd_of L, free := L.free, ci := L.ci, cz := L.cz }
      have hb := (sndX d.body g hok).1
      have hσ : NdefX.startF d.N vs [] = L2.start d.N vs := by simp [NdefX.startF, L2.start]
      rw [hσ] at I
      refine PySem.W.kla_codeExpr (wpAny_mono (hb.run [] _ _ H Q I ⟨ι, μ, frame0 d.N ds, rep, RF.start hv, ?_⟩) (fun v s' hq => ?_) fun e s' hq => hq)
      · cases he : ev (run G.T k) d.body (frame0 d.N ds) μ with
        | ok v μ' => rw [he] at q; exact q
        | ex x μ' => rw [he] at q; exact q
        | bad => rw [he] at q; exact q
      · obtain ⟨v', H', J, rv, q'⟩ := hq
        exact ⟨v', H', J.os, J.bare, J.base, J.hok, rv, q'⟩
    · exact False.elim q
/-- THE THEOREM -/
theorem all_ok (L : Lnk G base) : ∀ k, AllOk G P w base k
  | 0 => ⟨fun g d hd => by
      obtain ⟨f, fd, params, body, sc, hm, F, hb, ht⟩ := (L.defs g d hd).ex
      exact ⟨f, hm, F.kp, fun A outer s H us vs Q E _ _ _ ⟨ι, μ, ds, _, _, q⟩ => False.elim q⟩,
    fun l d hd A outer s H us vs Q E a ι μ ds _ _ _ _ _ _ q => False.elim q⟩
  | k + 1 => ⟨fun g d hd => fn_next L (all_ok L k) hd, fun l d hd => lam_next L (all_ok L k) hd⟩
end
end MP

set_option maxHeartbeats 2000000
/-! From a row's head to the evaluator's answer. -/
namespace MP
open PySem PySem.Spec PyProof.Rows L2
section
variable (T : Tab) (st : Nat → Stmt)
def ddOf (d : FnD) (g : Nat) : He.DefD := ⟨(d.name, none), d.name, d.name, defArgs (st g), defBody (st g), defScope (st g), [], []⟩
def fnL : List He.DefD := T.fns.zipIdx.map fun p => ddOf st p.1 p.2
def faL : List He.Fa := T.fns.map (fun d => .glo d.name) ++ (freeNames.map .free ++ (T.ci.map (fun p => .int p.1 p.2) ++ T.cz.map (fun p => .str p.1 p.2)))
def tfL : List He.Defn := (T.fns.filter (·.lams)).map fun d => (d.name, none)
def exL (K : PySem.W.Frag) : Bool := decide ((tfL T).map fun p => (He.cT K p).2).Nodup
def chkL : Bool := T.fns.zipIdx.all fun p => defB T p.1 (defArgs (st p.2)) (defBody (st p.2)) (defScope (st p.2))
def gxOf (K : PySem.W.Frag) (mg : Str → Option Value) : Gx := ⟨K, mg, (T.fns.filter (·.lams)).map (fun d => ((He.cT K (d.name, none)).2, d.name ++ ".<locals>." ++ "<lambda>")), fun l p b s => lamB T l p b s = true, T⟩
abbrev hkL : PySem.W.Hook := He.hookX 5 (faL T) (fnL T st) [] (tfL T) (exL T)
end
section
variable {T : Tab} {st : Nat → Stmt} {w : World} {h : Heap} {K : PySem.W.Frag} {mg : Str → Option Value}
theorem says_d (c : He.SaysX (faL T) (fnL T st) [] (tfL T) (exL T) w h K) : He.SaysD (faL T) (fnL T st) K := He.SaysT.d c.t
theorem def_of (c : He.SaysX (faL T) (fnL T st) [] (tfL T) (exL T) w h K) {g : Nat} {d : FnD} (hd : T.fns[g]? = some d) :
    ∃ fd, FunD K d.name d.name (defArgs (st g)) (defBody (st g)) (defScope (st g)) [] [] (He.ga K d.name) fd := by
  have hm : ddOf st d g ∈ fnL T st := by
    unfold fnL
    refine List.mem_map.mpr ⟨(d, g), ?_, rfl⟩
    exact List.mem_zipIdx_iff_getElem?.mpr hd
  exact He.SaysD.defs (says_d c) hm
theorem glo_of (X : K.In h) (N : h.Ns mainGlobals mg) (c : He.SaysX (faL T) (fnL T st) [] (tfL T) (exL T) w h K) {g : Nat} {d : FnD} (hd : T.fns[g]? = some d) : mg d.name = some (.ref (He.ga K d.name)) :=
  He.glo_ok X N (He.SaysD.facts (says_d c) (List.mem_append_left _ (List.mem_map.mpr ⟨d, List.mem_of_getElem? hd, rfl⟩)))
theorem chk_of (hc : chkL T st = true) {g : Nat} {d : FnD} (hd : T.fns[g]? = some d) : defB T d (defArgs (st g)) (defBody (st g)) (defScope (st g)) = true :=
  List.all_eq_true.mp hc (d, g) (List.mem_zipIdx_iff_getElem?.mpr hd)
theorem lookup_mem {α : Type} {x : Str} {v : α} : ∀ {l : List (Str × α)}, l.lookup x = some v → (x, v) ∈ l
  | [], h => by cases h
  | (y, u) :: r, h => by
    rw [List.lookup_cons] at h
    by_cases e : x == y
    · rw [e] at h
      cases h
      rw [eq_of_beq e]
      exact List.mem_cons_self
    · simp only [Bool.not_eq_true] at e
      rw [e] at h
      exact List.mem_cons_of_mem _ (lookup_mem h)
theorem lnk_of (X : K.In h) (N : h.Ns mainGlobals mg) (c : He.SaysX (faL T) (fnL T st) [] (tfL T) (exL T) w h K) (hc : chkL T st = true) (base : Heap) (TB : ∀ p ∈ (tfL T).map (He.cT K), LamX.TabB base mg p.1 p.2) : Lnk (gxOf T K mg) base where
  ls := rfl
  defs := fun g d hd => by
    obtain ⟨fd, F⟩ := def_of c hd
    refine ⟨⟨He.ga K d.name, fd, defArgs (st g), defBody (st g), defScope (st g), glo_of X N c hd, F, chk_of hc hd, fun hl => ?_⟩⟩
    have hmf : d ∈ T.fns.filter (·.lams) := List.mem_filter.mpr ⟨List.mem_of_getElem? hd, hl⟩
    have hm : ((d.name, none) : He.Defn) ∈ tfL T := List.mem_map.mpr ⟨d, hmf, rfl⟩
    obtain ⟨oc, od, dV, kV, doc, pm, an, cdv, ct, osl, rfl, lk, hcd, hD, hK⟩ := F.ex
    obtain ⟨cc, rfl⟩ := He.codeIn_ref hcd
    have hco : He.codeOf K (d.name, none) = cc := He.codeOf_eq (p := (d.name, none)) lk rfl
    have tb := TB _ (List.mem_map.mpr ⟨_, hm, rfl⟩)
    refine ⟨cc, (He.cT K (d.name, none)).2, rfl, ?_, List.mem_map.mpr ⟨d, hmf, rfl⟩, fun q hq e => ?_⟩
    · have e1 : (He.cT K (d.name, none)).1 = cc := hco
      rw [e1] at tb
      exact tb
    · obtain ⟨d', hd', rfl⟩ := List.mem_map.mp hq
      have nd : ((tfL T).map fun p => (He.cT K p).2).Nodup := of_decide_eq_true c.more
      have hm' : ((d'.name, none) : He.Defn) ∈ tfL T := List.mem_map.mpr ⟨d', hd', rfl⟩
      obtain ⟨i, hi, ei⟩ := List.mem_iff_getElem.mp hm
      obtain ⟨j, hj, ej⟩ := List.mem_iff_getElem.mp hm'
      have e : (He.cT K (d'.name, none)).2 = (He.cT K (d.name, none)).2 := e
      have hij : j = i := by
        refine (List.getElem_inj (i := j) (j := i) (h₀ := by simpa using hj) (h₁ := by simpa using hi) nd).mp ?_
        rw [List.getElem_map, List.getElem_map, ei, ej]
        exact e
      subst hij
      rw [ei] at ej
      have : d.name = d'.name := congrArg Prod.fst ej
      show d'.name ++ ".<locals>." ++ "<lambda>" = d.name ++ ".<locals>." ++ "<lambda>"
      rw [this]
  free := fun x hx => He.free_ok X N (He.SaysD.facts (says_d c) (List.mem_append_right _ (List.mem_append_left _ (List.mem_map.mpr ⟨x, hx, rfl⟩))))
  ci := fun x i hx => He.int_ok X N (He.SaysD.facts (says_d c) (List.mem_append_right _ (List.mem_append_right _ (List.mem_append_left _ (List.mem_map.mpr ⟨(x, i), lookup_mem hx, rfl⟩)))))
  cz := fun x i hx => He.str_ok X N (He.SaysD.facts (says_d c) (List.mem_append_right _ (List.mem_append_right _ (List.mem_append_right _ (List.mem_map.mpr ⟨(x, i), lookup_mem hx, rfl⟩)))))
theorem ints_rvs {G : Gx} {ι : Io} {H : Hp} : ∀ ns : List Int, RVs G ι H (ns.map V.int) (ns.map Val.int)
  | [] => .nil
  | n :: ns => .cons (.int n) (ints_rvs ns)
/-- THE END: where the evaluator says True of the law at every script, k calls deep at most, the law's promise stands -/
theorem law_at {l : PySem.W.OpenLaw} {x : Str} {k n : Nat} {fa : Addr} (X : K.In h) (N : h.Ns mainGlobals mg) (c : He.SaysX (faL T) (fnL T st) [] (tfL T) (exL T) w h K) (hc : chkL T st = true) {g : Nat} {d : FnD} (hd : T.fns[g]? = some d) (hst : d.star = false) (hx : d.N.take d.arity = [x])
    (hfa : mg d.name = some (.ref fa)) (hlaw : ∀ ns : List Int, ns.length ≤ n → (∀ z ∈ ns, Builtin.Int.intBits z ≤ 1048576) → ∃ μ, (run T (k + 1)).fn g [.scr (ns.map Val.int)] [] = .ok (.bl true) μ) :
    LamX.LawAtS l w K (L2.CX l.prog w) (k + 1) n x mg fa h := by
  obtain ⟨fd, F⟩ := def_of c hd
  have hf := glo_of X N c hd
  rw [hfa] at hf
  cases hf
  have hb := chk_of hc hd
  refine ⟨fd, (tfL T).map (He.cT K), spG (gxOf T K mg) ((run T (k + 1)).fn g), fun p hp => ?_, fun p hp => ?_, fun p hp => ?_, fun s u => ?_, fun H a ns hl hbits hH hS => ?_, fun base KB NB TB => ?_⟩
  · obtain ⟨q, hq, rfl⟩ := List.mem_map.mp hp
    exact c.empty q hq
  · obtain ⟨q, hq, rfl⟩ := List.mem_map.mp hp
    exact c.out q hq
  · obtain ⟨q, hq, rfl⟩ := List.mem_map.mp hp
    exact PySem.W.codeHd_of_K X (c.hd q hq)
  · have z := fn_binds (G := gxOf T K mg) hst F hb [u] (by rw [hx]; rfl)
    rw [hx] at z
    exact .of_eq z
  · obtain ⟨μ, hrun⟩ := hlaw ns hl hbits
    refine ⟨⟨[], []⟩, [], [.scr (ns.map Val.int)], ⟨rfl, List.nodup_nil, fun m c a e => (by simp at e), fun a ha => (by cases ha), fun p hp => ?_⟩, .cons ?_ .nil, ?_⟩
    · obtain ⟨d', hd', rfl⟩ := List.mem_map.mp hp
      have hm' : ((d'.name, none) : He.Defn) ∈ tfL T := List.mem_map.mpr ⟨d', hd', rfl⟩
      exact LamX.TabS.nil (hH _ (List.mem_map.mpr ⟨_, hm', rfl⟩))
    · have nin : ∀ b : Addr, b ∉ (⟨[], []⟩ : Io) := fun b z => by
        rcases z with z | z <;> cases z
      rcases hS with hS | hS
      · rcases hS with hS | ⟨o, hS⟩
        · exact .scr hS (.inl rfl) (nin _) (ints_rvs ns)
        · exact .scr hS (.inr ⟨o, rfl⟩) (nin _) (ints_rvs ns)
      · exact .wscr hS (ints_rvs ns)
    · rw [hrun]
      intro ι' H' v e r hv
      cases hv
      rfl
  · have L := lnk_of X N c hc base TB
    have F2 := fnok (G := gxOf T K mg) (P := l.prog) (w := w) (k := k) L (all_ok L k) hd hst F hb fun hl => by
      obtain ⟨f, fd', params, body, sc, hm, F', hb', ht⟩ := (L.defs g d hd).ex
      have e1 : f = He.ga K d.name := by
        have z := glo_of X N c hd
        have hm : mg d.name = some (.ref f) := hm
        rw [hm] at z
        injection z with z
        injection z
      subst e1
      obtain ⟨cc, Pt, h1, h2⟩ := ht hl
      obtain ⟨oc, od, dV, kV, doc, pm, an, cdv, ct, osl, rfl, lk, _⟩ := F.ex
      obtain ⟨oc', od', dV', kV', doc', pm', an', cdv', ct', osl', rfl, lk', _⟩ := F'.ex
      have lk' : K.lookup (He.ga K d.name) = _ := lk'
      rw [lk] at lk'
      injection lk' with z
      injection z with _ _ z _
      injection z with z
      exact ⟨cc, Pt, by rw [z]; exact h1, h2⟩
    rw [hx] at F2
    exact F2
end
end MP

set_option maxHeartbeats 0
namespace NS
open PySem PySem.Spec PyProof.Rows L2 MP

def d_is_integer : FnD := ⟨"is_integer", 1, false, false, ["value"], (.cons (.ret (.and (.cons (.isi (.var 0) .int) (.cons (.not (.isi (.var 0) .bool)) .nil)))) .nil)⟩
def d_is_between : FnD := ⟨"is_between", 3, false, false, ["value", "low", "high"], (.cons (.ret (.and (.cons (.call 0 (.cons (.var 0) .nil)) (.cons (.chain .le .le (.var 1) (.var 0) (.var 2)) .nil)))) .nil)⟩
def d_is_number : FnD := ⟨"is_number", 1, false, false, ["value"], (.cons (.ret (.call 1 (.cons (.var 0) (.cons (.bin .sub (.int 0) (.gint "MOST_NUMBER" 1000000000)) (.cons (.gint "MOST_NUMBER" 1000000000) .nil))))) .nil)⟩
def d_is_nested : FnD := ⟨"is_nested", 2, false, false, ["value", "deep", "word", "inner", "rest"], (.cons (.ite (.isi (.var 0) .str) (.cons (.ret (.cmp .isIn (.var 0) (.tup (.cons (.gstr "INT" "int") (.cons (.gstr "BOOL" "bool") .nil))))) .nil) .nil) (.cons (.ite (.or (.cons (.cmp .eq (.var 1) (.int 0)) (.cons (.not (.isi (.var 0) .tup)) (.cons (.cmp .ne (.blt .len (.cons (.var 0) .nil)) (.gint "KIND_PARTS" 3)) (.cons (.not (.isi (.ix (.var 0) (.int 0)) .str)) .nil))))) (.cons (.ret (.bl false)) .nil) .nil) (.cons (.set (.many [2, 3, 4]) (.var 0)) (.cons (.ite (.cmp .eq (.var 2) (.gstr "PAIR" "pair")) (.cons (.ret (.and (.cons (.call 3 (.cons (.var 3) (.cons (.bin .sub (.var 1) (.int 1)) .nil))) (.cons (.call 3 (.cons (.var 4) (.cons (.bin .sub (.var 1) (.int 1)) .nil))) .nil)))) .nil) .nil) (.cons (.ret (.and (.cons (.cmp .eq (.var 2) (.gstr "LIST" "list")) (.cons (.call 3 (.cons (.var 3) (.cons (.bin .sub (.var 1) (.int 1)) .nil))) (.cons (.call 1 (.cons (.var 4) (.cons (.int 0) (.cons (.gint "MOST_CREDIT" 1000000) .nil)))) .nil))))) .nil)))))⟩
def d_is_kind : FnD := ⟨"is_kind", 1, false, false, ["value"], (.cons (.ret (.call 3 (.cons (.var 0) (.cons (.gint "MOST_NESTED" 6) .nil)))) .nil)⟩
def d_check_kind : FnD := ⟨"check_kind", 0, true, false, ["kinds", "value"], (.cons (.forS (.one 1) (.seq (.var 0)) (.cons (.ite (.not (.call 4 (.cons (.var 1) .nil))) (.cons .never .nil) .nil) .nil)) .nil)⟩
def d_fits : FnD := ⟨"fits", 2, false, false, ["kind", "value", "item"], (.cons (.ite (.isi (.var 0) .str) (.cons (.ret (.ite (.cmp .eq (.var 0) (.gstr "INT" "int")) (.call 2 (.cons (.var 1) .nil)) (.isi (.var 1) .bool))) .nil) .nil) (.cons (.ite (.not (.isi (.var 1) .tup)) (.cons (.ret (.bl false)) .nil) .nil) (.cons (.ite (.cmp .eq (.ix (.var 0) (.int 0)) (.gstr "LIST" "list")) (.cons (.ret (.blt .all (.cons (.comp (.call 6 (.cons (.ix (.var 0) (.int 1)) (.cons (.var 2) .nil))) (.one 2) (.seq (.var 1))) .nil))) .nil) .nil) (.cons (.ret (.and (.cons (.cmp .eq (.blt .len (.cons (.var 1) .nil)) (.gint "PAIR_PARTS" 2)) (.cons (.call 6 (.cons (.ix (.var 0) (.int 1)) (.cons (.ix (.var 1) (.int 0)) .nil))) (.cons (.call 6 (.cons (.ix (.var 0) (.int 2)) (.cons (.ix (.var 1) (.int 1)) .nil))) .nil))))) .nil))))⟩
def d_part_count : FnD := ⟨"part_count", 2, false, false, ["kind", "value", "item"], (.cons (.ite (.isi (.var 0) .str) (.cons (.ret (.int 1)) .nil) .nil) (.cons (.ite (.cmp .eq (.ix (.var 0) (.int 0)) (.gstr "LIST" "list")) (.cons (.ret (.bin .add (.int 1) (.blt .sum (.cons (.comp (.call 7 (.cons (.ix (.var 0) (.int 1)) (.cons (.var 2) .nil))) (.one 2) (.seq (.var 1))) .nil)))) .nil) .nil) (.cons (.ret (.bin .add (.bin .add (.int 1) (.call 7 (.cons (.ix (.var 0) (.int 1)) (.cons (.ix (.var 1) (.int 0)) .nil)))) (.call 7 (.cons (.ix (.var 0) (.int 2)) (.cons (.ix (.var 1) (.int 1)) .nil))))) .nil)))⟩
def d_is_value : FnD := ⟨"is_value", 2, false, false, ["kind", "value"], (.cons (.expr (.call 5 (.cons (.var 0) .nil))) (.cons (.ret (.and (.cons (.call 6 (.cons (.var 0) (.cons (.var 1) .nil))) (.cons (.cmp .le (.call 7 (.cons (.var 0) (.cons (.var 1) .nil))) (.gint "MOST_PARTS" 2000)) .nil)))) .nil))⟩
def d_check_value : FnD := ⟨"check_value", 2, false, false, ["kind", "value"], (.cons (.ite (.not (.call 8 (.cons (.var 0) (.cons (.var 1) .nil)))) (.cons .never .nil) .nil) .nil)⟩
def d_credit_of : FnD := ⟨"credit_of", 2, false, false, ["kind", "value", "item"], (.cons (.ite (.isi (.var 0) .str) (.cons (.ret (.int 0)) .nil) .nil) (.cons (.ite (.cmp .eq (.ix (.var 0) (.int 0)) (.gstr "LIST" "list")) (.cons (.ret (.blt .sum (.cons (.comp (.bin .add (.ix (.var 0) (.int 2)) (.call 10 (.cons (.ix (.var 0) (.int 1)) (.cons (.var 2) .nil)))) (.one 2) (.seq (.var 1))) .nil))) .nil) .nil) (.cons (.ret (.bin .add (.call 10 (.cons (.ix (.var 0) (.int 1)) (.cons (.ix (.var 1) (.int 0)) .nil))) (.call 10 (.cons (.ix (.var 0) (.int 2)) (.cons (.ix (.var 1) (.int 1)) .nil))))) .nil)))⟩
def d_credit : FnD := ⟨"credit", 2, false, false, ["kind", "value"], (.cons (.expr (.call 9 (.cons (.var 0) (.cons (.var 1) .nil)))) (.cons (.ret (.call 10 (.cons (.var 0) (.cons (.var 1) .nil)))) .nil))⟩
def d_cells_of : FnD := ⟨"cells_of", 2, false, false, ["kind", "value", "item"], (.cons (.ite (.isi (.var 0) .str) (.cons (.ret (.int 0)) .nil) .nil) (.cons (.ite (.cmp .eq (.ix (.var 0) (.int 0)) (.gstr "LIST" "list")) (.cons (.ret (.blt .sum (.cons (.comp (.bin .add (.int 1) (.call 12 (.cons (.ix (.var 0) (.int 1)) (.cons (.var 2) .nil)))) (.one 2) (.seq (.var 1))) .nil))) .nil) .nil) (.cons (.ret (.bin .add (.bin .add (.int 1) (.call 12 (.cons (.ix (.var 0) (.int 1)) (.cons (.ix (.var 1) (.int 0)) .nil)))) (.call 12 (.cons (.ix (.var 0) (.int 2)) (.cons (.ix (.var 1) (.int 1)) .nil))))) .nil)))⟩
def d_cells : FnD := ⟨"cells", 2, false, false, ["kind", "value"], (.cons (.expr (.call 9 (.cons (.var 0) (.cons (.var 1) .nil)))) (.cons (.ret (.call 12 (.cons (.var 0) (.cons (.var 1) .nil)))) .nil))⟩
def d_combined : FnD := ⟨"combined", 3, false, false, ["kind", "other", "merge", "first", "second"], (.cons (.ite (.or (.cons (.isi (.var 0) .str) (.cons (.isi (.var 1) .str) .nil))) (.cons (.ret (.ite (.cmp .eq (.var 0) (.var 1)) (.var 0) .non)) .nil) .nil) (.cons (.ite (.cmp .ne (.ix (.var 0) (.int 0)) (.ix (.var 1) (.int 0))) (.cons (.ret .non) .nil) .nil) (.cons (.set (.one 3) (.call 14 (.cons (.ix (.var 0) (.int 1)) (.cons (.ix (.var 1) (.int 1)) (.cons (.var 2) .nil))))) (.cons (.ite (.cmp .eq (.ix (.var 0) (.int 0)) (.gstr "LIST" "list")) (.cons (.ret (.ite (.cmp .isN (.var 3) .non) .non (.tup (.cons (.gstr "LIST" "list") (.cons (.var 3) (.cons (.callV 2 (.cons (.ix (.var 0) (.int 2)) (.cons (.ix (.var 1) (.int 2)) .nil))) .nil)))))) .nil) .nil) (.cons (.set (.one 4) (.call 14 (.cons (.ix (.var 0) (.int 2)) (.cons (.ix (.var 1) (.int 2)) (.cons (.var 2) .nil))))) (.cons (.ret (.ite (.or (.cons (.cmp .isN (.var 3) .non) (.cons (.cmp .isN (.var 4) .non) .nil))) .non (.tup (.cons (.gstr "PAIR" "pair") (.cons (.var 3) (.cons (.var 4) .nil)))))) .nil))))))⟩
def d_credits_in : FnD := ⟨"credits_in", 1, false, false, ["kind"], (.cons (.ite (.isi (.var 0) .str) (.cons (.ret (.lst .nil)) .nil) .nil) (.cons (.ret (.lst (.star (.call 15 (.cons (.ix (.var 0) (.int 1)) .nil)) (.star (.ite (.cmp .eq (.ix (.var 0) (.int 0)) (.gstr "LIST" "list")) (.lst (.cons (.ix (.var 0) (.int 2)) .nil)) (.call 15 (.cons (.ix (.var 0) (.int 2)) .nil))) .nil)))) .nil))⟩
def d_made_bare : FnD := ⟨"made_bare", 1, false, true, ["kind"], (.cons (.ret (.call 14 (.cons (.var 0) (.cons (.var 0) (.cons (.lam 0) .nil))))) .nil)⟩
def d_is_alike : FnD := ⟨"is_alike", 2, false, true, ["kind", "other"], (.cons (.ret (.cmp .notN (.call 14 (.cons (.var 0) (.cons (.var 1) (.cons (.lam 1) .nil)))) .non)) .nil)⟩
def d_is_covering : FnD := ⟨"is_covering", 2, false, true, ["kind", "other"], (.cons (.ret (.cmp .eq (.call 14 (.cons (.var 0) (.cons (.var 1) (.cons (.lam 2) .nil)))) (.var 0))) .nil)⟩
def d_short_by : FnD := ⟨"short_by", 2, false, true, ["kind", "other"], (.cons (.ret (.blt .sum (.cons (.call 15 (.cons (.call 14 (.cons (.var 0) (.cons (.var 1) (.cons (.lam 3) .nil)))) .nil)) .nil))) .nil)⟩
def d_least_of : FnD := ⟨"least_of", 2, false, true, ["kind", "other"], (.cons (.ret (.call 14 (.cons (.var 0) (.cons (.var 1) (.cons (.lam 4) .nil))))) .nil)⟩
def d_sum_of : FnD := ⟨"sum_of", 2, false, true, ["kind", "other"], (.cons (.ret (.call 14 (.cons (.var 0) (.cons (.var 1) (.cons (.lam 5) .nil))))) .nil)⟩
def d_check_alike : FnD := ⟨"check_alike", 2, false, false, ["kind", "other"], (.cons (.expr (.call 5 (.cons (.var 0) (.cons (.var 1) .nil)))) (.cons (.ite (.not (.call 17 (.cons (.var 0) (.cons (.var 1) .nil)))) (.cons .never .nil) .nil) .nil))⟩
def d_bare : FnD := ⟨"bare", 1, false, false, ["kind"], (.cons (.expr (.call 5 (.cons (.var 0) .nil))) (.cons (.ret (.call 16 (.cons (.var 0) .nil))) .nil))⟩
def d_same_shape : FnD := ⟨"same_shape", 2, false, false, ["kind", "other"], (.cons (.expr (.call 5 (.cons (.var 0) (.cons (.var 1) .nil)))) (.cons (.ret (.call 17 (.cons (.var 0) (.cons (.var 1) .nil)))) .nil))⟩
def d_covers : FnD := ⟨"covers", 2, false, false, ["kind", "other"], (.cons (.expr (.call 5 (.cons (.var 0) (.cons (.var 1) .nil)))) (.cons (.ret (.call 18 (.cons (.var 0) (.cons (.var 1) .nil)))) .nil))⟩
def d_least : FnD := ⟨"least", 2, false, false, ["kind", "other"], (.cons (.expr (.call 22 (.cons (.var 0) (.cons (.var 1) .nil)))) (.cons (.ret (.call 20 (.cons (.var 0) (.cons (.var 1) .nil)))) .nil))⟩
def d_added : FnD := ⟨"added", 2, false, false, ["kind", "other", "found"], (.cons (.expr (.call 22 (.cons (.var 0) (.cons (.var 1) .nil)))) (.cons (.set (.one 2) (.call 21 (.cons (.var 0) (.cons (.var 1) .nil)))) (.cons (.ite (.cmp .gt (.maxD (.call 15 (.cons (.var 2) .nil)) (.int 0)) (.gint "MOST_CREDIT" 1000000)) (.cons .never .nil) .nil) (.cons (.ret (.var 2)) .nil))))⟩
def d_lacking : FnD := ⟨"lacking", 2, false, false, ["kind", "other"], (.cons (.expr (.call 22 (.cons (.var 0) (.cons (.var 1) .nil)))) (.cons (.ret (.call 19 (.cons (.var 0) (.cons (.var 1) .nil)))) .nil))⟩
def d__law_start : FnD := ⟨"_law_start", 2, false, false, ["_law_script", "_law_k", "_law_cell", "_law_large"], (.cons (.set (.one 2) (.ite (.cmp .lt (.var 1) (.blt .len (.cons (.var 0) .nil))) (.ix (.var 0) (.var 1)) (.bin .add (.bin .mul (.int 23) (.var 1)) (.int 9)))) (.cons (.set (.one 3) (.bin .mul (.bin .mod (.blt .abs (.cons (.var 2) .nil)) (.bin .pow (.bin .pow (.int 10) (.int 60)) (.int 5))) (.blt .int1 (.cons (.cmp .ge (.blt .abs (.cons (.var 2) .nil)) (.bin .pow (.int 10) (.int 18))) .nil)))) (.cons (.ret (.mlst (.cons (.var 3) (.cons (.bin .mod (.bin .mul (.bin .add (.bin .add (.bin .mod (.var 2) (.int 2305843009213693951)) (.bin .mul (.bin .mul (.int 15485927) (.var 1)) (.var 1))) (.int 67)) (.int 48271)) (.int 2305843009213693907)) (.cons (.int 0) .nil))))) .nil)))⟩
def d__law_draw : FnD := ⟨"_law_draw", 2, false, false, ["_law_source", "_law_limit", "_law_digit", "_law_prime", "_law_mixed"], (.cons (.ite (.cmp .gt (.ix (.var 0) (.int 0)) (.int 0)) (.cons (.set (.one 2) (.bin .mod (.ix (.var 0) (.int 0)) (.var 1))) (.cons (.put (.var 0) (.int 0) (.bin .fdiv (.ix (.var 0) (.int 0)) (.var 1))) (.cons (.ret (.var 2)) .nil))) .nil) (.cons (.put (.var 0) (.int 2) (.bin .add (.ix (.var 0) (.int 2)) (.int 1))) (.cons (.set (.one 3) (.ix (.lst (.cons (.int 2147483647) (.cons (.int 2147483629) (.cons (.int 2147483587) (.cons (.int 2147483579) (.cons (.int 2147483563) (.cons (.int 2147483549) (.cons (.int 2147483543) .nil)))))))) (.bin .mod (.ix (.var 0) (.int 2)) (.int 7)))) (.cons (.set (.one 4) (.bin .mod (.bin .pow (.bin .add (.bin .add (.ix (.var 0) (.int 1)) (.bin .mul (.bin .mul (.int 6700417) (.ix (.var 0) (.int 2))) (.ix (.var 0) (.int 2)))) (.int 31)) (.int 3)) (.var 3))) (.cons (.ret (.bin .mod (.bin .fdiv (.bin .mod (.bin .mul (.var 4) (.bin .add (.bin .mod (.var 4) (.int 10007)) (.bin .mul (.int 103) (.ix (.var 0) (.int 2))))) (.int 2305843009213693921)) (.int 103)) (.var 1))) .nil)))))⟩
def d__law_choice : FnD := ⟨"_law_choice", 2, false, false, ["_law_source", "_law_items"], (.cons (.ret (.ix (.var 1) (.call 30 (.cons (.var 0) (.cons (.blt .len (.cons (.var 1) .nil)) .nil))))) .nil)⟩
def d__law_kind : FnD := ⟨"_law_kind", 2, false, false, ["_law_source", "_law_deep", "_law_way", "_law_credits_here"], (.cons (.set (.one 2) (.ite (.cmp .gt (.var 1) (.int 0)) (.call 30 (.cons (.var 0) (.cons (.int 5) .nil))) (.call 30 (.cons (.var 0) (.cons (.int 2) .nil))))) (.cons (.ite (.cmp .lt (.var 2) (.int 2)) (.cons (.ret (.ix (.lst (.cons (.str "int") (.cons (.str "bool") .nil))) (.bin .mod (.var 2) (.int 2)))) .nil) .nil) (.cons (.ite (.cmp .eq (.var 2) (.int 2)) (.cons (.ret (.tup (.cons (.str "pair") (.cons (.call 32 (.cons (.var 0) (.cons (.bin .sub (.var 1) (.int 1)) .nil))) (.cons (.call 32 (.cons (.var 0) (.cons (.bin .sub (.var 1) (.int 1)) .nil))) .nil))))) .nil) .nil) (.cons (.set (.one 3) (.call 31 (.cons (.var 0) (.cons (.lst (.cons (.int 0) (.cons (.int 0) (.cons (.int 1) (.cons (.int 2) (.cons (.int 5) (.cons (.int 30) (.cons (.bin .pow (.int 10) (.int 6)) .nil)))))))) .nil)))) (.cons (.ret (.tup (.cons (.str "list") (.cons (.call 32 (.cons (.var 0) (.cons (.bin .sub (.var 1) (.int 1)) .nil))) (.cons (.var 3) .nil))))) .nil)))))⟩
def d__law_value : FnD := ⟨"_law_value", 3, false, false, ["_law_source", "_law_kind_here", "_law_most", "_law_turn"], (.cons (.ite (.cmp .eq (.var 1) (.str "int")) (.cons (.ret (.call 31 (.cons (.var 0) (.cons (.lst (.cons (.int 0) (.cons (.int 1) (.cons (.neg (.int 1)) (.cons (.int 5) (.cons (.bin .pow (.int 10) (.int 9)) (.cons (.bin .sub (.int 0) (.bin .pow (.int 10) (.int 9))) (.cons (.call 30 (.cons (.var 0) (.cons (.int 1000) .nil))) .nil)))))))) .nil)))) .nil) .nil) (.cons (.ite (.cmp .eq (.var 1) (.str "bool")) (.cons (.ret (.cmp .eq (.call 30 (.cons (.var 0) (.cons (.int 2) .nil))) (.int 0))) .nil) .nil) (.cons (.ite (.cmp .eq (.ix (.var 1) (.int 0)) (.str "pair")) (.cons (.ret (.tup (.cons (.call 33 (.cons (.var 0) (.cons (.ix (.var 1) (.int 1)) (.cons (.var 2) .nil)))) (.cons (.call 33 (.cons (.var 0) (.cons (.ix (.var 1) (.int 2)) (.cons (.var 2) .nil)))) .nil)))) .nil) .nil) (.cons (.ret (.blt .tupOf (.cons (.comp (.call 33 (.cons (.var 0) (.cons (.ix (.var 1) (.int 1)) (.cons (.bin .sub (.var 2) (.int 1)) .nil)))) (.one 3) (.rng (.call 30 (.cons (.var 0) (.cons (.blt .max2 (.cons (.int 1) (.cons (.bin .add (.var 2) (.int 1)) .nil))) .nil))))) .nil))) .nil))))⟩
def d__law_small : FnD := ⟨"_law_small", 2, false, false, ["_law_source", "_law_kind_here", "_law_some"], (.cons (.ite (.isi (.var 1) .str) (.cons (.ret (.var 1)) .nil) .nil) (.cons (.ite (.cmp .eq (.ix (.var 1) (.int 0)) (.str "pair")) (.cons (.ret (.tup (.cons (.str "pair") (.cons (.call 34 (.cons (.var 0) (.cons (.ix (.var 1) (.int 1)) .nil))) (.cons (.call 34 (.cons (.var 0) (.cons (.ix (.var 1) (.int 2)) .nil))) .nil))))) .nil) .nil) (.cons (.set (.one 2) (.lst (.cons (.int 0) (.cons (.int 1) (.cons (.int 2) (.cons (.int 7) (.cons (.int 40) (.cons (.bin .mul (.int 3) (.bin .pow (.int 10) (.int 5))) (.cons (.call 30 (.cons (.var 0) (.cons (.int 9) .nil))) .nil))))))))) (.cons (.ret (.tup (.cons (.str "list") (.cons (.call 34 (.cons (.var 0) (.cons (.ix (.var 1) (.int 1)) .nil))) (.cons (.call 31 (.cons (.var 0) (.cons (.var 2) .nil))) .nil))))) .nil))))⟩
def d__law_two_right : FnD := ⟨"_law_two_right", 3, false, false, ["_law_one", "_law_other", "_law_value_here", "_law_low", "_law_both", "_law_all_credits"], (.cons (.set (.one 3) (.call 26 (.cons (.var 0) (.cons (.var 1) .nil)))) (.cons (.ite (.or (.cons (.cmp .notB (.call 25 (.cons (.var 0) (.cons (.var 3) .nil))) (.bl true)) (.cons (.cmp .notB (.call 25 (.cons (.var 1) (.cons (.var 3) .nil))) (.bl true)) (.cons (.cmp .ne (.call 26 (.cons (.var 1) (.cons (.var 0) .nil))) (.var 3)) .nil)))) (.cons (.ret (.bl false)) .nil) .nil) (.cons (.ite (.or (.cons (.not (.call 4 (.cons (.var 3) .nil))) (.cons (.not (.call 8 (.cons (.var 3) (.cons (.var 2) .nil)))) (.cons (.not (.call 24 (.cons (.var 0) (.cons (.var 1) .nil)))) (.cons (.cmp .ne (.var 3) (.call 26 (.cons (.var 3) (.cons (.var 0) .nil)))) .nil))))) (.cons (.ret (.bl false)) .nil) .nil) (.cons (.ite (.and (.cons (.call 25 (.cons (.var 0) (.cons (.var 1) .nil))) (.cons (.or (.cons (.cmp .lt (.call 11 (.cons (.var 0) (.cons (.var 2) .nil))) (.call 11 (.cons (.var 1) (.cons (.var 2) .nil)))) (.cons (.cmp .ne (.var 3) (.var 1)) .nil))) .nil))) (.cons (.ret (.bl false)) .nil) .nil) (.cons (.ite (.cmp .ne (.cmp .eq (.call 28 (.cons (.var 0) (.cons (.var 1) .nil))) (.int 0)) (.call 25 (.cons (.var 0) (.cons (.var 1) .nil)))) (.cons (.ret (.bl false)) .nil) .nil) (.cons (.ite (.and (.cons (.call 25 (.cons (.var 0) (.cons (.var 1) .nil))) (.cons (.call 25 (.cons (.var 1) (.cons (.var 0) .nil))) (.cons (.cmp .ne (.var 0) (.var 1)) .nil)))) (.cons (.ret (.bl false)) .nil) .nil) (.cons (.set (.one 4) (.call 27 (.cons (.var 0) (.cons (.var 1) .nil)))) (.cons (.ite (.or (.cons (.not (.call 25 (.cons (.var 4) (.cons (.var 0) .nil)))) (.cons (.not (.call 25 (.cons (.var 4) (.cons (.var 1) .nil)))) (.cons (.cmp .ne (.call 27 (.cons (.var 1) (.cons (.var 0) .nil))) (.var 4)) .nil)))) (.cons (.ret (.bl false)) .nil) .nil) (.cons (.ite (.or (.cons (.cmp .ne (.call 11 (.cons (.var 4) (.cons (.var 2) .nil))) (.bin .add (.call 11 (.cons (.var 0) (.cons (.var 2) .nil))) (.call 11 (.cons (.var 1) (.cons (.var 2) .nil))))) (.cons (.cmp .gt (.call 11 (.cons (.var 3) (.cons (.var 2) .nil))) (.call 11 (.cons (.var 0) (.cons (.var 2) .nil)))) .nil))) (.cons (.ret (.bl false)) .nil) .nil) (.cons (.set (.one 5) (.bin .add (.call 28 (.cons (.call 23 (.cons (.var 0) .nil)) (.cons (.var 0) .nil))) (.call 28 (.cons (.call 23 (.cons (.var 1) .nil)) (.cons (.var 1) .nil))))) (.cons (.ret (.and (.cons (.cmp .eq (.call 28 (.cons (.var 4) (.cons (.var 0) .nil))) (.int 0)) (.cons (.cmp .eq (.call 28 (.cons (.call 23 (.cons (.var 4) .nil)) (.cons (.var 4) .nil))) (.var 5)) .nil)))) .nil)))))))))))⟩
def d__law_three_right : FnD := ⟨"_law_three_right", 4, false, false, ["_law_one", "_law_other", "_law_third", "_law_value_here", "_law_plain"], (.cons (.ite (.and (.cons (.call 25 (.cons (.var 0) (.cons (.var 1) .nil))) (.cons (.call 25 (.cons (.var 1) (.cons (.var 2) .nil))) (.cons (.not (.call 25 (.cons (.var 0) (.cons (.var 2) .nil)))) .nil)))) (.cons (.ret (.bl false)) .nil) .nil) (.cons (.ite (.cmp .ne (.call 26 (.cons (.call 26 (.cons (.var 0) (.cons (.var 1) .nil))) (.cons (.var 2) .nil))) (.call 26 (.cons (.var 0) (.cons (.call 26 (.cons (.var 1) (.cons (.var 2) .nil))) .nil)))) (.cons (.ret (.bl false)) .nil) .nil) (.cons (.ite (.and (.cons (.call 25 (.cons (.var 0) (.cons (.var 2) .nil))) (.cons (.call 25 (.cons (.var 1) (.cons (.var 2) .nil))) (.cons (.not (.call 25 (.cons (.call 26 (.cons (.var 0) (.cons (.var 1) .nil))) (.cons (.var 2) .nil)))) .nil)))) (.cons (.ret (.bl false)) .nil) .nil) (.cons (.ite (.cmp .gt (.call 28 (.cons (.var 0) (.cons (.var 2) .nil))) (.bin .add (.call 28 (.cons (.var 0) (.cons (.var 1) .nil))) (.call 28 (.cons (.var 1) (.cons (.var 2) .nil))))) (.cons (.ret (.bl false)) .nil) .nil) (.cons (.set (.one 4) (.call 23 (.cons (.var 0) .nil))) (.cons (.ite (.or (.cons (.cmp .ne (.call 11 (.cons (.var 4) (.cons (.var 3) .nil))) (.int 0)) (.cons (.cmp .ne (.call 23 (.cons (.var 4) .nil)) (.var 4)) (.cons (.cmp .ne (.call 27 (.cons (.var 0) (.cons (.var 4) .nil))) (.var 0)) (.cons (.not (.call 25 (.cons (.var 2) (.cons (.var 4) .nil)))) .nil))))) (.cons (.ret (.bl false)) .nil) .nil) (.cons (.ret (.and (.cons (.cmp .eq (.call 13 (.cons (.var 0) (.cons (.var 3) .nil))) (.call 13 (.cons (.var 2) (.cons (.var 3) .nil)))) (.cons (.cmp .eq (.var 4) (.call 23 (.cons (.var 2) .nil))) .nil)))) .nil)))))))⟩
def d_law : FnD := ⟨"law", 1, false, false, ["_law_script", "_law_k", "_law_source", "_law_turn", "_law_kind_here", "_law_one", "_law_other", "_law_third", "_law_again", "_law_value_here"], (.cons (.forS (.one 1) (.rng (.blt .max2 (.cons (.int 1) (.cons (.blt .min2 (.cons (.int 3) (.cons (.blt .len (.cons (.var 0) .nil)) .nil))) .nil)))) (.cons (.set (.one 2) (.call 29 (.cons (.var 0) (.cons (.var 1) .nil)))) (.cons (.forS (.one 3) (.rng (.int 10)) (.cons (.set (.one 4) (.call 32 (.cons (.var 2) (.cons (.call 31 (.cons (.var 2) (.cons (.lst (.cons (.int 1) (.cons (.int 2) (.cons (.int 3) (.cons (.int 5) .nil))))) .nil))) .nil)))) (.cons (.set (.many [5, 6, 7]) (.comp (.call 34 (.cons (.var 2) (.cons (.var 4) .nil))) (.one 8) (.rng (.int 3)))) (.cons (.set (.one 9) (.call 33 (.cons (.var 2) (.cons (.var 4) (.cons (.int 4) .nil))))) (.cons (.ite (.or (.cons (.not (.call 35 (.cons (.var 5) (.cons (.var 6) (.cons (.var 9) .nil))))) (.cons (.not (.call 36 (.cons (.var 5) (.cons (.var 6) (.cons (.var 7) (.cons (.var 9) .nil)))))) .nil))) (.cons (.ret (.bl false)) .nil) .nil) .nil))))) .nil))) (.cons (.ret (.bl true)) .nil))⟩
def T : Tab := ⟨[d_is_integer, d_is_between, d_is_number, d_is_nested, d_is_kind, d_check_kind, d_fits, d_part_count, d_is_value, d_check_value, d_credit_of, d_credit, d_cells_of, d_cells, d_combined, d_credits_in, d_made_bare, d_is_alike, d_is_covering, d_short_by, d_least_of, d_sum_of, d_check_alike, d_bare, d_same_shape, d_covers, d_least, d_added, d_lacking, d__law_start, d__law_draw, d__law_choice, d__law_kind, d__law_value, d__law_small, d__law_two_right, d__law_three_right, d_law], [⟨2, ["one", "two"], (.int 0)⟩, ⟨2, ["one", "two"], (.var 0)⟩, ⟨2, ["one", "two"], (.blt .max2 (.cons (.var 0) (.cons (.var 1) .nil)))⟩, ⟨2, ["there", "wished"], (.blt .max2 (.cons (.int 0) (.cons (.bin .sub (.var 1) (.var 0)) .nil)))⟩, ⟨2, ["one", "two"], (.blt .min2 (.cons (.var 0) (.cons (.var 1) .nil)))⟩, ⟨2, ["one", "two"], (.bin .add (.var 0) (.var 1))⟩], [("MOST_NUMBER", 1000000000), ("MOST_CREDIT", 1000000), ("MOST_NESTED", 6), ("MOST_PARTS", 2000), ("KIND_PARTS", 3), ("PAIR_PARTS", 2)], [("INT", "int"), ("BOOL", "bool"), ("PAIR", "pair"), ("LIST", "list")]⟩
def topIx : List Nat := [17, 18, 19, 20, 21, 22, 23, 24, 25, 26, 27, 28, 29, 30, 31, 32, 33, 34, 35, 36, 37, 38, 39, 40, 41, 42, 43, 44, 45, 47, 48, 49, 50, 51, 52, 53, 54, 55]
def st (g : Nat) : Stmt := PySem.Challenge.pw_costborne_k04_whole_credits_of_kinds_tog.main.body.getD (topIx.getD g 0) (.Pass ⟨0, 0, 0, 0⟩)
theorem chk : chkL T st = true := by decide +kernel
def nm0 : List Str := ["CostError", "BadKind", "BadValue", "Unlike", "TooMuch", "MOST_NUMBER", "MOST_CREDIT", "MOST_NESTED", "MOST_PARTS", "KIND_PARTS", "PAIR_PARTS", "INT", "BOOL", "PAIR", "LIST", "is_integer", "is_between", "is_number", "is_nested", "is_kind", "check_kind", "fits", "part_count", "is_value", "check_value", "credit_of", "credit", "cells_of", "cells", "combined"]
def nm1 : List Str := ["credits_in", "made_bare", "is_alike", "is_covering", "short_by", "least_of", "sum_of", "check_alike", "bare", "same_shape", "covers", "least", "added", "lacking", "_law_start", "_law_draw", "_law_choice", "_law_kind", "_law_value", "_law_small", "_law_two_right", "_law_three_right"]
def nms : List Str := nm0 ++ nm1
abbrev R : PySem.W.OpenRow := PySem.W.OpenLaw.row PySem.Challenge.rw_costborne_k04_whole_credits_of_kinds_tog
def ob (s : PySem.W.SharedT) : He.AlX := He.obsX 5 (faL T) (fnL T st) [] (tfL T) (exL T) (HandSHeadRun.getT s)
theorem ob_eq (s : PySem.W.SharedT) : ob s = (hkL T st).obs s.abs := He.obsX_eq (HandSHeadRun.getT_eq s)
theorem run_top (w : World) : HandSHeadRun.RunEq R (PySem.W.view R.prog [55]) (hkL T st) ob 40000 nms w := by
  intro os
  kernel_rfl
end NS

set_option maxHeartbeats 1000000
namespace NS
open MP
theorem at0 {α : Type} (x : α) (r : List α) : L2.atI (x :: r) 0 = some x := by simp [L2.atI, L2.ixN]
theorem at_nat {α : Type} {xs : List α} {i : Int} {x : α} (h : 0 ≤ i) (hx : xs[i.toNat]? = some x) : L2.atI xs i = some x := by
  have hl : i.toNat < xs.length := (List.getElem?_eq_some_iff.mp hx).1
  have e : L2.ixN xs.length i = some i.toNat := by
    unfold L2.ixN
    rw [if_pos h, if_pos (by omega)]
  unfold L2.atI
  rw [e]
  exact hx
theorem at1 {α : Type} (x y : α) (r : List α) : L2.atI (x :: y :: r) 1 = some y := at_nat (by decide) rfl
theorem at2 {α : Type} (x y z : α) (r : List α) : L2.atI (x :: y :: z :: r) 2 = some z := at_nat (by decide) rfl
theorem sl1 : 1 ≤ PySem.sizeLine := by decide +kernel
theorem sl2 : 2 ≤ PySem.sizeLine := by decide +kernel
theorem sl3 : 3 ≤ PySem.sizeLine := by decide +kernel
theorem sl4 : 4 ≤ PySem.sizeLine := by decide +kernel
theorem sl5 : 5 ≤ PySem.sizeLine := by decide +kernel
theorem sl6 : 6 ≤ PySem.sizeLine := by decide +kernel
theorem sl7 : 7 ≤ PySem.sizeLine := by decide +kernel
/-! ### shapes, credits, values -/
inductive Sh where
  | int | bool | pair (a b : Sh) | list (a : Sh)
def Cr : Sh → Type
  | .int => Unit
  | .bool => Unit
  | .pair a b => Cr a × Cr b
  | .list a => Cr a × Int
def kv : (s : Sh) → Cr s → Val
  | .int, _ => .str "int"
  | .bool, _ => .str "bool"
  | .pair a b, c => .tup [.str "pair", kv a c.1, kv b c.2]
  | .list a, c => .tup [.str "list", kv a c.1, .int c.2]
def dep : Sh → Nat
  | .int => 0
  | .bool => 0
  | .pair a b => max (dep a) (dep b) + 1
  | .list a => dep a + 1
def okC (m : Int) : (s : Sh) → Cr s → Prop
  | .int, _ => True
  | .bool, _ => True
  | .pair a b, c => okC m a c.1 ∧ okC m b c.2
  | .list a, c => okC m a c.1 ∧ 0 ≤ c.2 ∧ c.2 ≤ m
def Dt : Sh → Type
  | .int => Int
  | .bool => Bool
  | .pair a b => Dt a × Dt b
  | .list a => List (Dt a)
def dv : (s : Sh) → Dt s → Val
  | .int, i => .int i
  | .bool, b => .bl b
  | .pair a b, d => .tup [dv a d.1, dv b d.2]
  | .list a, xs => .tup (List.map (dv a) xs)
def okD : (s : Sh) → Dt s → Prop
  | .int, i => -1000000000 ≤ (show Int from i) ∧ (show Int from i) ≤ 1000000000
  | .bool, _ => True
  | .pair a b, d => okD a d.1 ∧ okD b d.2
  | .list a, xs => List.length xs ≤ 4 ∧ ∀ x ∈ (show List (Dt a) from xs), okD a x
def pc : (s : Sh) → Dt s → Int
  | .int, _ => 1
  | .bool, _ => 1
  | .pair a b, d => 1 + pc a d.1 + pc b d.2
  | .list a, xs => 1 + (List.map (pc a) xs).sum
def crd : (s : Sh) → Cr s → Dt s → Int
  | .int, _, _ => 0
  | .bool, _, _ => 0
  | .pair a b, c, d => crd a c.1 d.1 + crd b c.2 d.2
  | .list a, c, xs => (List.map (fun x => c.2 + crd a c.1 x) xs).sum
def cel : (s : Sh) → Dt s → Int
  | .int, _ => 0
  | .bool, _ => 0
  | .pair a b, d => 1 + cel a d.1 + cel b d.2
  | .list a, xs => (List.map (fun x => 1 + cel a x) xs).sum
def cmb (f : Int → Int → Int) : (s : Sh) → Cr s → Cr s → Cr s
  | .int, _, _ => ()
  | .bool, _, _ => ()
  | .pair a b, c, d => (cmb f a c.1 d.1, cmb f b c.2 d.2)
  | .list a, c, d => (cmb f a c.1 d.1, f c.2 d.2)
def crl : (s : Sh) → Cr s → List Int
  | .int, _ => []
  | .bool, _ => []
  | .pair a b, c => crl a c.1 ++ crl b c.2
  | .list a, c => crl a c.1 ++ [c.2]
def eqC : (s : Sh) → Cr s → Cr s → Bool
  | .int, _, _ => true
  | .bool, _, _ => true
  | .pair a b, c, d => eqC a c.1 d.1 && eqC b c.2 d.2
  | .list a, c, d => eqC a c.1 d.1 && decide (c.2 = d.2)
def le : (s : Sh) → Cr s → Cr s → Prop
  | .int, _, _ => True
  | .bool, _, _ => True
  | .pair a b, c, d => le a c.1 d.1 ∧ le b c.2 d.2
  | .list a, c, d => le a c.1 d.1 ∧ c.2 ≤ d.2
/-! ### words -/
theorem w_pl : decide (("pair" : PySem.Str) = "list") = false := by decide +kernel
theorem w_lp : decide (("list" : PySem.Str) = "pair") = false := by decide +kernel
theorem w_bi : decide (("bool" : PySem.Str) = "int") = false := by decide +kernel
theorem w_ib : decide (("int" : PySem.Str) = "bool") = false := by decide +kernel
/-! ### equality of kinds -/
def kd : (s : Sh) → Cr s → PySem.PyData
  | .int, _ => .str "int"
  | .bool, _ => .str "bool"
  | .pair a b, c => .tuple [.str "pair", kd a c.1, kd b c.2]
  | .list a, c => .tuple [.str "list", kd a c.1, .int c.2]
theorem dat_kv : ∀ (s : Sh) (c : Cr s), dat (kv s c) = some (kd s c)
  | .int, _ => by simp [kv, dat, kd]
  | .bool, _ => by simp [kv, dat, kd]
  | .pair a b, c => by simp [kv, dat, dat.dats, kd, dat_kv a, dat_kv b]
  | .list a, c => by simp [kv, dat, dat.dats, kd, dat_kv a]
theorem lay_kd : ∀ (s : Sh) (c : Cr s), (kd s c).canLay0 = true
  | .int, _ => (by decide +kernel : (PySem.PyData.str "int").canLay0 = true)
  | .bool, _ => (by decide +kernel : (PySem.PyData.str "bool").canLay0 = true)
  | .pair a b, c => by
    have e : (PySem.PyData.str "pair").canLay0 = true := by decide +kernel
    simp [kd, PySem.PyData.canLay0, PySem.PyData.canLayAll0, lay_kd a, lay_kd b] at e ⊢
    exact e
  | .list a, c => by
    have e : (PySem.PyData.str "list").canLay0 = true := by decide +kernel
    simp [kd, PySem.PyData.canLay0, PySem.PyData.canLayAll0, lay_kd a] at e ⊢
    exact e
theorem dep_kd : ∀ (s : Sh) (c : Cr s), (kd s c).depth = dep s
  | .int, _ => by simp [kd, PySem.PyData.depth, dep]
  | .bool, _ => by simp [kd, PySem.PyData.depth, dep]
  | .pair a b, c => by simp [kd, PySem.PyData.depth, PySem.PyData.depthAll, dep, dep_kd a, dep_kd b]
  | .list a, c => by simp [kd, PySem.PyData.depth, PySem.PyData.depthAll, dep, dep_kd a]
theorem eqv_kd : ∀ (s : Sh) (c d : Cr s), PySem.PyData.eqv (kd s c) (kd s d) = eqC s c d
  | .int, _, _ => by simp [kd, PySem.PyData.eqv, eqC]
  | .bool, _, _ => by simp [kd, PySem.PyData.eqv, eqC]
  | .pair a b, c, d => by simp [kd, PySem.PyData.eqv, PySem.PyData.eqvAll, eqC, eqv_kd a, eqv_kd b]
  | .list a, c, d => by simp [kd, PySem.PyData.eqv, PySem.PyData.eqvAll, eqC, eqv_kd a]; rfl
theorem shaped_kd {s : Sh} (h : dep s ≤ 10) (c : Cr s) : PySem.SeqAt.shaped (kd s c) = true := by
  simp [PySem.SeqAt.shaped, lay_kd, dep_kd]
  omega
theorem eqV_kv {s : Sh} (h : dep s ≤ 10) (c d : Cr s) : eqV (kv s c) (kv s d) = some (eqC s c d) := by
  have e : ∀ z : Option Bool, z = (match dat (kv s c), dat (kv s d) with
    | some d, some e => if PySem.SeqAt.shaped d && PySem.SeqAt.shaped e then some (PySem.PyData.eqv d e) else none
    | _, _ => none) → z = some (eqC s c d) := fun z hz => by
    rw [hz, dat_kv, dat_kv]
    simp [shaped_kd h, eqv_kd]
  cases s with
  | int => simp [kv, eqV, eqC]
  | bool => simp [kv, eqV, eqC]
  | pair a b => exact e _ rfl
  | list a => exact e _ rfl
theorem eqC_iff : ∀ (s : Sh) (c d : Cr s), eqC s c d = true ↔ c = d
  | .int, _, _ => by simp [eqC]; rfl
  | .bool, _, _ => by simp [eqC]; rfl
  | .pair a b, (c1, c2), (d1, d2) => by
    simp only [eqC, eqC_iff a, eqC_iff b, Bool.and_eq_true]
    exact (Prod.mk.injEq c1 c2 d1 d2 ▸ Iff.rfl)
  | .list a, (c1, c2), (d1, d2) => by
    simp only [eqC, eqC_iff a, Bool.and_eq_true, decide_eq_true_eq]
    exact (Prod.mk.injEq c1 c2 d1 d2 ▸ Iff.rfl)
end NS

set_option maxHeartbeats 1000000
namespace NS
open MP
theorem r0 (k : Nat) : (run T (k + 1)).fn 0 = callFn (run T k) d_is_integer := rfl
theorem r1 (k : Nat) : (run T (k + 1)).fn 1 = callFn (run T k) d_is_between := rfl
theorem r2 (k : Nat) : (run T (k + 1)).fn 2 = callFn (run T k) d_is_number := rfl
theorem r3 (k : Nat) : (run T (k + 1)).fn 3 = callFn (run T k) d_is_nested := rfl
theorem r4 (k : Nat) : (run T (k + 1)).fn 4 = callFn (run T k) d_is_kind := rfl
theorem r5 (k : Nat) : (run T (k + 1)).fn 5 = callFn (run T k) d_check_kind := rfl
theorem r6 (k : Nat) : (run T (k + 1)).fn 6 = callFn (run T k) d_fits := rfl
theorem r7 (k : Nat) : (run T (k + 1)).fn 7 = callFn (run T k) d_part_count := rfl
theorem r8 (k : Nat) : (run T (k + 1)).fn 8 = callFn (run T k) d_is_value := rfl
theorem r9 (k : Nat) : (run T (k + 1)).fn 9 = callFn (run T k) d_check_value := rfl
theorem r10 (k : Nat) : (run T (k + 1)).fn 10 = callFn (run T k) d_credit_of := rfl
theorem r11 (k : Nat) : (run T (k + 1)).fn 11 = callFn (run T k) d_credit := rfl
theorem r12 (k : Nat) : (run T (k + 1)).fn 12 = callFn (run T k) d_cells_of := rfl
theorem r13 (k : Nat) : (run T (k + 1)).fn 13 = callFn (run T k) d_cells := rfl
theorem r14 (k : Nat) : (run T (k + 1)).fn 14 = callFn (run T k) d_combined := rfl
theorem r15 (k : Nat) : (run T (k + 1)).fn 15 = callFn (run T k) d_credits_in := rfl
theorem r16 (k : Nat) : (run T (k + 1)).fn 16 = callFn (run T k) d_made_bare := rfl
theorem r17 (k : Nat) : (run T (k + 1)).fn 17 = callFn (run T k) d_is_alike := rfl
theorem r18 (k : Nat) : (run T (k + 1)).fn 18 = callFn (run T k) d_is_covering := rfl
theorem r19 (k : Nat) : (run T (k + 1)).fn 19 = callFn (run T k) d_short_by := rfl
theorem r20 (k : Nat) : (run T (k + 1)).fn 20 = callFn (run T k) d_least_of := rfl
theorem r21 (k : Nat) : (run T (k + 1)).fn 21 = callFn (run T k) d_sum_of := rfl
theorem r22 (k : Nat) : (run T (k + 1)).fn 22 = callFn (run T k) d_check_alike := rfl
theorem r23 (k : Nat) : (run T (k + 1)).fn 23 = callFn (run T k) d_bare := rfl
theorem r24 (k : Nat) : (run T (k + 1)).fn 24 = callFn (run T k) d_same_shape := rfl
theorem r25 (k : Nat) : (run T (k + 1)).fn 25 = callFn (run T k) d_covers := rfl
theorem r26 (k : Nat) : (run T (k + 1)).fn 26 = callFn (run T k) d_least := rfl
theorem r27 (k : Nat) : (run T (k + 1)).fn 27 = callFn (run T k) d_added := rfl
theorem r28 (k : Nat) : (run T (k + 1)).fn 28 = callFn (run T k) d_lacking := rfl
theorem r29 (k : Nat) : (run T (k + 1)).fn 29 = callFn (run T k) d__law_start := rfl
theorem r30 (k : Nat) : (run T (k + 1)).fn 30 = callFn (run T k) d__law_draw := rfl
theorem r31 (k : Nat) : (run T (k + 1)).fn 31 = callFn (run T k) d__law_choice := rfl
theorem r32 (k : Nat) : (run T (k + 1)).fn 32 = callFn (run T k) d__law_kind := rfl
theorem r33 (k : Nat) : (run T (k + 1)).fn 33 = callFn (run T k) d__law_value := rfl
theorem r34 (k : Nat) : (run T (k + 1)).fn 34 = callFn (run T k) d__law_small := rfl
theorem r35 (k : Nat) : (run T (k + 1)).fn 35 = callFn (run T k) d__law_two_right := rfl
theorem r36 (k : Nat) : (run T (k + 1)).fn 36 = callFn (run T k) d__law_three_right := rfl
theorem r37 (k : Nat) : (run T (k + 1)).fn 37 = callFn (run T k) d_law := rfl
theorem up {k n : Nat} (h : n + 1 ≤ k) : ∃ j, k = j + 1 ∧ n ≤ j := ⟨k - 1, by omega, by omega⟩
/-! ### steps of statements -/
theorem x_ret {O : Orc} {x : X} {r : Ss} {ρ : Frame} {μ μ' : Mem} {v : Val} (h : ev O x ρ μ = .ok v μ') : execs O (.cons (.ret x) r) ρ μ = .ok (.rt v) μ' := by
  simp [execs, exec, h, SOut.seq]
theorem x_skip {O : Orc} {c : X} {a r : Ss} {ρ : Frame} {μ μ' : Mem} (h : ev O c ρ μ = .ok (.bl false) μ') : execs O (.cons (.ite c a .nil) r) ρ μ = execs O r ρ μ' := by
  simp [execs, exec, h, SOut.seq, tst, truth]
theorem x_take {O : Orc} {c : X} {a : X} {b r : Ss} {ρ : Frame} {μ μ' μ'' : Mem} {v : Val} (h : ev O c ρ μ = .ok (.bl true) μ') (h2 : ev O a ρ μ' = .ok v μ'') : execs O (.cons (.ite c (.cons (.ret a) .nil) b) r) ρ μ = .ok (.rt v) μ'' := by
  simp [execs, exec, h, h2, SOut.seq, tst, truth]
theorem x_expr {O : Orc} {x : X} {r : Ss} {ρ : Frame} {μ μ' : Mem} {v : Val} (h : ev O x ρ μ = .ok v μ') : execs O (.cons (.expr x) r) ρ μ = execs O r ρ μ' := by
  simp [execs, exec, h, SOut.seq]
theorem x_set {O : Orc} {x : X} {r : Ss} {ρ ρ' : Frame} {μ μ' : Mem} {v : Val} {t : Tgt} (h : ev O x ρ μ = .ok v μ') (h2 : bindT t v ρ = some ρ') : execs O (.cons (.set t x) r) ρ μ = execs O r ρ' μ' := by
  simp [execs, exec, h, h2, SOut.seq, setS]
theorem compL_ok {f : Val → Mem → Out Val} {g : Val → Val} {μ : Mem} : ∀ (xs acc : List Val), (∀ x ∈ xs, f x μ = .ok (g x) μ) → acc.length + xs.length ≤ PySem.sizeLine → compL f xs acc μ = .ok (.lst (acc ++ xs.map g)) μ
  | [], acc, _, _ => by simp [compL]
  | x :: r, acc, h, hl => by
    rw [List.length_cons] at hl
    unfold compL
    rw [h x List.mem_cons_self]
    simp only
    rw [if_pos (by omega), compL_ok r (acc ++ [g x]) (fun y hy => h y (List.mem_cons_of_mem _ hy)) (by simp; omega)]
    simp
/-! ### kinds -/
theorem f_int {k : Nat} (h : 1 ≤ k) (i : Int) (μ : Mem) : (run T k).fn 0 [.int i] μ = .ok (.bl true) μ := by
  obtain ⟨k, rfl, hk⟩ := up h
  rw [r0]
  simp [MP.callFn, MP.execs, MP.exec, MP.ev, MP.evs, MP.evAnd, MP.evOr, MP.evI, MP.bodyOut, MP.frame0, MP.isiV, MP.ob, MP.tst, MP.truth, MP.thenB, MP.SOut.seq, MP.cmpop, MP.bltV, MP.ixV, MP.itemsOf, at0, at1, at2, MP.binop, MP.setS, MP.bindT, MP.bindT.setAll, MP.callLam, sl1, sl2, sl3, sl4, sl5, sl6, sl7, d_is_integer]
theorem f_betw {k : Nat} (h : 2 ≤ k) (i a b : Int) (μ : Mem) : (run T k).fn 1 [.int i, .int a, .int b] μ = .ok (.bl (decide (a ≤ i) && decide (i ≤ b))) μ := by
  obtain ⟨k, rfl, hk⟩ := up h
  rw [r1]
  simp [MP.callFn, MP.execs, MP.exec, MP.ev, MP.evs, MP.evAnd, MP.evOr, MP.evI, MP.bodyOut, MP.frame0, MP.isiV, MP.ob, MP.tst, MP.truth, MP.thenB, MP.SOut.seq, MP.cmpop, MP.bltV, MP.ixV, MP.itemsOf, at0, at1, at2, MP.binop, MP.setS, MP.bindT, MP.bindT.setAll, MP.callLam, sl1, sl2, sl3, sl4, sl5, sl6, sl7, d_is_between, f_int hk]
  by_cases h : a ≤ i <;> simp [h]
theorem f_num {k : Nat} (h : 3 ≤ k) (i : Int) (μ : Mem) : (run T k).fn 2 [.int i] μ = .ok (.bl (decide (-1000000000 ≤ i) && decide (i ≤ 1000000000))) μ := by
  obtain ⟨k, rfl, hk⟩ := up h
  rw [r2]
  simp [MP.callFn, MP.execs, MP.exec, MP.ev, MP.evs, MP.evAnd, MP.evOr, MP.evI, MP.bodyOut, MP.frame0, MP.isiV, MP.ob, MP.tst, MP.truth, MP.thenB, MP.SOut.seq, MP.cmpop, MP.bltV, MP.ixV, MP.itemsOf, at0, at1, at2, MP.binop, MP.setS, MP.bindT, MP.bindT.setAll, MP.callLam, sl1, sl2, sl3, sl4, sl5, sl6, sl7, d_is_number, f_betw hk]
theorem in_int : inV (.str "int") [.str "int", .str "bool"] = some true := by decide +kernel
theorem in_bool : inV (.str "bool") [.str "int", .str "bool"] = some true := by decide +kernel
theorem f_nested {μ : Mem} : ∀ (s : Sh) (c : Cr s) (d : Int) (k : Nat), okC 1000000 s c → (dep s : Int) ≤ d → dep s + 3 ≤ k → (run T k).fn 3 [kv s c, .int d] μ = .ok (.bl true) μ
  | .int, c, d, k, ok, hd, h => by
    obtain ⟨k, rfl, hk⟩ := up h
    rw [r3]
    simp [MP.callFn, MP.execs, MP.exec, MP.ev, MP.evs, MP.evAnd, MP.evOr, MP.evI, MP.bodyOut, MP.frame0, MP.isiV, MP.ob, MP.tst, MP.truth, MP.thenB, MP.SOut.seq, MP.cmpop, MP.bltV, MP.ixV, MP.itemsOf, at0, at1, at2, MP.binop, MP.setS, MP.bindT, MP.bindT.setAll, MP.callLam, sl1, sl2, sl3, sl4, sl5, sl6, sl7, d_is_nested, kv, in_int]
  | .bool, c, d, k, ok, hd, h => by
    obtain ⟨k, rfl, hk⟩ := up h
    rw [r3]
    simp [MP.callFn, MP.execs, MP.exec, MP.ev, MP.evs, MP.evAnd, MP.evOr, MP.evI, MP.bodyOut, MP.frame0, MP.isiV, MP.ob, MP.tst, MP.truth, MP.thenB, MP.SOut.seq, MP.cmpop, MP.bltV, MP.ixV, MP.itemsOf, at0, at1, at2, MP.binop, MP.setS, MP.bindT, MP.bindT.setAll, MP.callLam, sl1, sl2, sl3, sl4, sl5, sl6, sl7, d_is_nested, kv, in_bool]
  | .pair a b, c, d, k, ok, hd, h => by
    simp only [dep] at hd h
    obtain ⟨k, rfl, hk⟩ := up (n := max (dep a) (dep b) + 3) (by omega)
    have i1 := f_nested (μ := μ) a c.1 (d - 1) k ok.1 (by omega) (by omega)
    have i2 := f_nested (μ := μ) b c.2 (d - 1) k ok.2 (by omega) (by omega)
    have hz : decide (d = 0) = false := by simp; omega
    rw [r3]
    simp [MP.callFn, MP.execs, MP.exec, MP.ev, MP.evs, MP.evAnd, MP.evOr, MP.evI, MP.bodyOut, MP.frame0, MP.isiV, MP.ob, MP.tst, MP.truth, MP.thenB, MP.SOut.seq, MP.cmpop, MP.bltV, MP.ixV, MP.itemsOf, at0, at1, at2, MP.binop, MP.setS, MP.bindT, MP.bindT.setAll, MP.callLam, sl1, sl2, sl3, sl4, sl5, sl6, sl7, d_is_nested, kv, i1, i2, eqV, hz]
  | .list a, c, d, k, ok, hd, h => by
    simp only [dep] at hd h
    obtain ⟨k, rfl, hk⟩ := up (n := dep a + 3) (by omega)
    have i1 := f_nested (μ := μ) a c.1 (d - 1) k ok.1 (by omega) (by omega)
    have i2 := f_betw (k := k) (by omega) c.2 0 1000000 μ
    have hz : decide (d = 0) = false := by simp; omega
    have o1 : (0 : Int) ≤ c.2 := ok.2.1
    have o2 : c.2 ≤ (1000000 : Int) := ok.2.2
    rw [r3]
    simp [MP.callFn, MP.execs, MP.exec, MP.ev, MP.evs, MP.evAnd, MP.evOr, MP.evI, MP.bodyOut, MP.frame0, MP.isiV, MP.ob, MP.tst, MP.truth, MP.thenB, MP.SOut.seq, MP.cmpop, MP.bltV, MP.ixV, MP.itemsOf, at0, at1, at2, MP.binop, MP.setS, MP.bindT, MP.bindT.setAll, MP.callLam, sl1, sl2, sl3, sl4, sl5, sl6, sl7, d_is_nested, kv, i1, i2, eqV, hz, w_lp, o1, o2]
theorem f_kind {s : Sh} {c : Cr s} {k : Nat} {μ : Mem} (hs : dep s ≤ 5) (ok : okC 1000000 s c) (h : 9 ≤ k) : (run T k).fn 4 [kv s c] μ = .ok (.bl true) μ := by
  obtain ⟨k, rfl, hk⟩ := up h
  rw [r4]
  simp [MP.callFn, MP.execs, MP.exec, MP.ev, MP.evs, MP.evAnd, MP.evOr, MP.evI, MP.bodyOut, MP.frame0, MP.isiV, MP.ob, MP.tst, MP.truth, MP.thenB, MP.SOut.seq, MP.cmpop, MP.bltV, MP.ixV, MP.itemsOf, at0, at1, at2, MP.binop, MP.setS, MP.bindT, MP.bindT.setAll, MP.callLam, sl1, sl2, sl3, sl4, sl5, sl6, sl7, d_is_kind, f_nested s c 6 k ok (by omega) (by omega)]
theorem f_chk1 {s : Sh} {c : Cr s} {k : Nat} {μ : Mem} (hs : dep s ≤ 5) (ok : okC 1000000 s c) (h : 10 ≤ k) : (run T k).fn 5 [kv s c] μ = .ok .non μ := by
  obtain ⟨k, rfl, hk⟩ := up h
  rw [r5]
  simp [MP.callFn, MP.execs, MP.exec, MP.ev, MP.evs, MP.evAnd, MP.evOr, MP.evI, MP.bodyOut, MP.frame0, MP.isiV, MP.ob, MP.tst, MP.truth, MP.thenB, MP.SOut.seq, MP.cmpop, MP.bltV, MP.ixV, MP.itemsOf, at0, at1, at2, MP.binop, MP.setS, MP.bindT, MP.bindT.setAll, MP.callLam, sl1, sl2, sl3, sl4, sl5, sl6, sl7, d_check_kind, f_kind hs ok hk, forL, forStep]
theorem f_chk2 {s : Sh} {c d : Cr s} {k : Nat} {μ : Mem} (hs : dep s ≤ 5) (ok : okC 1000000 s c) (ok2 : okC 1000000 s d) (h : 10 ≤ k) : (run T k).fn 5 [kv s c, kv s d] μ = .ok .non μ := by
  obtain ⟨k, rfl, hk⟩ := up h
  rw [r5]
  simp [MP.callFn, MP.execs, MP.exec, MP.ev, MP.evs, MP.evAnd, MP.evOr, MP.evI, MP.bodyOut, MP.frame0, MP.isiV, MP.ob, MP.tst, MP.truth, MP.thenB, MP.SOut.seq, MP.cmpop, MP.bltV, MP.ixV, MP.itemsOf, at0, at1, at2, MP.binop, MP.setS, MP.bindT, MP.bindT.setAll, MP.callLam, sl1, sl2, sl3, sl4, sl5, sl6, sl7, d_check_kind, f_kind hs ok hk, f_kind hs ok2 hk, forL, forStep]
end NS

set_option maxHeartbeats 1000000
namespace NS
open MP
theorem compL_map {α : Type} {f : Val → Mem → Out Val} {h g : α → Val} {μ : Mem} : ∀ (xs : List α) (acc : List Val), (∀ x ∈ xs, f (h x) μ = .ok (g x) μ) → acc.length + xs.length ≤ PySem.sizeLine → compL f (xs.map h) acc μ = .ok (.lst (acc ++ xs.map g)) μ
  | [], acc, _, _ => by simp [compL]
  | x :: r, acc, hf, hl => by
    rw [List.length_cons] at hl
    rw [List.map_cons, compL, hf x List.mem_cons_self]
    simp only
    rw [if_pos (by omega), compL_map r (acc ++ [g x]) (fun y hy => hf y (List.mem_cons_of_mem _ hy)) (by simp; omega)]
    simp
theorem comp_map {O : Orc} {elt : X} {tg : Tgt} {it : It} {ρ : Frame} {α : Type} {h g : α → Val} {μ μ' : Mem} {xs : List α} (hi : evI O it ρ μ = .ok (xs.map h) μ') (hl : xs.length ≤ PySem.sizeLine)
    (hf : ∀ x ∈ xs, bindEv tg (wipeF ρ tg.slots) (fun ρ μ => ev O elt ρ μ) (h x) μ' = .ok (g x) μ') : ev O (.comp elt tg it) ρ μ = .ok (.lst (xs.map g)) μ' := by
  rw [ev, hi, Out.bind_ok, compL_map xs [] hf (by simpa using hl)]
  simp
theorem bools_map {α : Type} (b : α → Bool) : ∀ xs : List α, boolsV (xs.map fun x => .bl (b x)) = some (xs.map b)
  | [] => rfl
  | x :: r => by simp [boolsV, bools_map b r]
theorem ints_map {α : Type} (b : α → Int) : ∀ xs : List α, intsV (xs.map fun x => .int (b x)) = some (xs.map b)
  | [] => rfl
  | x :: r => by simp [intsV, ints_map b r]
theorem f_num_ok {k : Nat} {i : Int} {μ : Mem} (h : 3 ≤ k) (o1 : -1000000000 ≤ i) (o2 : i ≤ 1000000000) : (run T k).fn 2 [.int i] μ = .ok (.bl true) μ := by
  rw [f_num h, decide_eq_true o1, decide_eq_true o2]; rfl
theorem bools_rep : ∀ n : Nat, boolsV (List.replicate n (.bl true)) = some (List.replicate n true)
  | 0 => rfl
  | n + 1 => by simp [List.replicate_succ, boolsV, bools_rep n]
theorem f_fits {μ : Mem} : ∀ (s : Sh) (c : Cr s) (v : Dt s) (k : Nat), okD s v → dep s + 4 ≤ k → (run T k).fn 6 [kv s c, dv s v] μ = .ok (.bl true) μ
  | .int, c, v, k, ok, h => by
    obtain ⟨k, rfl, hk⟩ := up h
    have i1 := f_num_ok (k := k) (μ := μ) (by simp only [dep] at hk; omega) ok.1 ok.2
    rw [r6]
    simp [MP.callFn, MP.execs, MP.exec, MP.ev, MP.evs, MP.evAnd, MP.evOr, MP.evI, MP.bodyOut, MP.frame0, MP.isiV, MP.ob, MP.tst, MP.truth, MP.thenB, MP.SOut.seq, MP.cmpop, MP.bltV, MP.ixV, MP.itemsOf, at0, at1, at2, MP.binop, MP.setS, MP.bindT, MP.bindT.setAll, MP.callLam, sl1, sl2, sl3, sl4, sl5, sl6, sl7, d_fits, kv, dv, eqV, i1]
  | .bool, c, v, k, ok, h => by
    obtain ⟨k, rfl, hk⟩ := up h
    rw [r6]
    simp [MP.callFn, MP.execs, MP.exec, MP.ev, MP.evs, MP.evAnd, MP.evOr, MP.evI, MP.bodyOut, MP.frame0, MP.isiV, MP.ob, MP.tst, MP.truth, MP.thenB, MP.SOut.seq, MP.cmpop, MP.bltV, MP.ixV, MP.itemsOf, at0, at1, at2, MP.binop, MP.setS, MP.bindT, MP.bindT.setAll, MP.callLam, sl1, sl2, sl3, sl4, sl5, sl6, sl7, d_fits, kv, dv, eqV, w_bi]
  | .pair a b, c, v, k, ok, h => by
    simp only [dep] at h
    obtain ⟨k, rfl, hk⟩ := up (n := max (dep a) (dep b) + 4) (by omega)
    have i1 := f_fits (μ := μ) a c.1 v.1 k ok.1 (by omega)
    have i2 := f_fits (μ := μ) b c.2 v.2 k ok.2 (by omega)
    rw [r6]
    simp [MP.callFn, MP.execs, MP.exec, MP.ev, MP.evs, MP.evAnd, MP.evOr, MP.evI, MP.bodyOut, MP.frame0, MP.isiV, MP.ob, MP.tst, MP.truth, MP.thenB, MP.SOut.seq, MP.cmpop, MP.bltV, MP.ixV, MP.itemsOf, at0, at1, at2, MP.binop, MP.setS, MP.bindT, MP.bindT.setAll, MP.callLam, sl1, sl2, sl3, sl4, sl5, sl6, sl7, d_fits, kv, dv, i1, i2, eqV, w_pl]
  | .list a, c, v, k, ok, h => by
    change List (Dt a) at v
    change Cr a × Int at c
    simp only [dep] at h
    obtain ⟨k, rfl, hk⟩ := up (n := dep a + 4) (by omega)
    have i1 := fun x hx => f_fits (μ := μ) a c.1 x k (ok.2 x hx) (by omega)
    have hc : ev (run T k) (.comp (.call 6 (.cons (.ix (.var 0) (.int 1)) (.cons (.var 2) .nil))) (.one 2) (.seq (.var 1))) [some (kv (.list a) c), some (dv (.list a) v), none] μ = .ok (.lst (v.map fun _ => .bl true)) μ := by
      refine comp_map (h := dv a) (g := fun _ => .bl true) (by simp [MP.callFn, MP.execs, MP.exec, MP.ev, MP.evs, MP.evAnd, MP.evOr, MP.evI, MP.bodyOut, MP.frame0, MP.isiV, MP.ob, MP.tst, MP.truth, MP.thenB, MP.SOut.seq, MP.cmpop, MP.bltV, MP.ixV, MP.itemsOf, at0, at1, at2, MP.binop, MP.setS, MP.bindT, MP.bindT.setAll, MP.callLam, sl1, sl2, sl3, sl4, sl5, sl6, sl7, dv]) ?_ fun x hx => ?_
      · have := sl4
        have : List.length v ≤ 4 := ok.1
        omega
      · simp [MP.callFn, MP.execs, MP.exec, MP.ev, MP.evs, MP.evAnd, MP.evOr, MP.evI, MP.bodyOut, MP.frame0, MP.isiV, MP.ob, MP.tst, MP.truth, MP.thenB, MP.SOut.seq, MP.cmpop, MP.bltV, MP.ixV, MP.itemsOf, at0, at1, at2, MP.binop, MP.setS, MP.bindT, MP.bindT.setAll, MP.callLam, sl1, sl2, sl3, sl4, sl5, sl6, sl7, bindEv, wipeF, Tgt.slots, kv, i1 x hx]
    rw [r6]
    simp only [callFn, d_fits]
    simp [MP.callFn, MP.execs, MP.exec, MP.ev, MP.evs, MP.evAnd, MP.evOr, MP.evI, MP.bodyOut, MP.frame0, MP.isiV, MP.ob, MP.tst, MP.truth, MP.thenB, MP.SOut.seq, MP.cmpop, MP.bltV, MP.ixV, MP.itemsOf, at0, at1, at2, MP.binop, MP.setS, MP.bindT, MP.bindT.setAll, MP.callLam, sl1, sl2, sl3, sl4, sl5, sl6, sl7, kv, dv, eqV] at hc ⊢
    rw [hc]
    have hb : ∀ z : List (Dt a), boolsV (z.map fun _ => Val.bl true) = some (z.map fun _ => true) := bools_map (fun _ => true)
    have ha : ∀ z : List (Dt a), (z.map fun _ => true).all id = true := fun z => by induction z <;> simp_all
    simp [hb, ha]
    done
theorem f_parts {μ : Mem} : ∀ (s : Sh) (c : Cr s) (v : Dt s) (k : Nat), okD s v → dep s + 1 ≤ k → (run T k).fn 7 [kv s c, dv s v] μ = .ok (.int (pc s v)) μ
  | .int, c, v, k, ok, h => by
    obtain ⟨k, rfl, hk⟩ := up h
    rw [r7]
    simp [MP.callFn, MP.execs, MP.exec, MP.ev, MP.evs, MP.evAnd, MP.evOr, MP.evI, MP.bodyOut, MP.frame0, MP.isiV, MP.ob, MP.tst, MP.truth, MP.thenB, MP.SOut.seq, MP.cmpop, MP.bltV, MP.ixV, MP.itemsOf, at0, at1, at2, MP.binop, MP.setS, MP.bindT, MP.bindT.setAll, MP.callLam, sl1, sl2, sl3, sl4, sl5, sl6, sl7, d_part_count, kv, dv, pc]
  | .bool, c, v, k, ok, h => by
    obtain ⟨k, rfl, hk⟩ := up h
    rw [r7]
    simp [MP.callFn, MP.execs, MP.exec, MP.ev, MP.evs, MP.evAnd, MP.evOr, MP.evI, MP.bodyOut, MP.frame0, MP.isiV, MP.ob, MP.tst, MP.truth, MP.thenB, MP.SOut.seq, MP.cmpop, MP.bltV, MP.ixV, MP.itemsOf, at0, at1, at2, MP.binop, MP.setS, MP.bindT, MP.bindT.setAll, MP.callLam, sl1, sl2, sl3, sl4, sl5, sl6, sl7, d_part_count, kv, dv, pc]
  | .pair a b, c, v, k, ok, h => by
    simp only [dep] at h
    obtain ⟨k, rfl, hk⟩ := up (n := max (dep a) (dep b) + 1) (by omega)
    have i1 := f_parts (μ := μ) a c.1 v.1 k ok.1 (by omega)
    have i2 := f_parts (μ := μ) b c.2 v.2 k ok.2 (by omega)
    rw [r7]
    simp [MP.callFn, MP.execs, MP.exec, MP.ev, MP.evs, MP.evAnd, MP.evOr, MP.evI, MP.bodyOut, MP.frame0, MP.isiV, MP.ob, MP.tst, MP.truth, MP.thenB, MP.SOut.seq, MP.cmpop, MP.bltV, MP.ixV, MP.itemsOf, at0, at1, at2, MP.binop, MP.setS, MP.bindT, MP.bindT.setAll, MP.callLam, sl1, sl2, sl3, sl4, sl5, sl6, sl7, d_part_count, kv, dv, i1, i2, eqV, w_pl, pc]
  | .list a, c, v, k, ok, h => by
    change List (Dt a) at v
    change Cr a × Int at c
    simp only [dep] at h
    obtain ⟨k, rfl, hk⟩ := up (n := dep a + 1) (by omega)
    have i1 := fun x hx => f_parts (μ := μ) a c.1 x k (ok.2 x hx) (by omega)
    have hc : ev (run T k) (.comp (.call 7 (.cons (.ix (.var 0) (.int 1)) (.cons (.var 2) .nil))) (.one 2) (.seq (.var 1))) [some (kv (.list a) c), some (dv (.list a) v), none] μ = .ok (.lst (v.map fun x => .int (pc a x))) μ := by
      refine comp_map (h := dv a) (g := fun x => .int (pc a x)) (by simp [MP.callFn, MP.execs, MP.exec, MP.ev, MP.evs, MP.evAnd, MP.evOr, MP.evI, MP.bodyOut, MP.frame0, MP.isiV, MP.ob, MP.tst, MP.truth, MP.thenB, MP.SOut.seq, MP.cmpop, MP.bltV, MP.ixV, MP.itemsOf, at0, at1, at2, MP.binop, MP.setS, MP.bindT, MP.bindT.setAll, MP.callLam, sl1, sl2, sl3, sl4, sl5, sl6, sl7, dv]) ?_ fun x hx => ?_
      · have := sl4
        have : List.length v ≤ 4 := ok.1
        omega
      · simp [MP.callFn, MP.execs, MP.exec, MP.ev, MP.evs, MP.evAnd, MP.evOr, MP.evI, MP.bodyOut, MP.frame0, MP.isiV, MP.ob, MP.tst, MP.truth, MP.thenB, MP.SOut.seq, MP.cmpop, MP.bltV, MP.ixV, MP.itemsOf, at0, at1, at2, MP.binop, MP.setS, MP.bindT, MP.bindT.setAll, MP.callLam, sl1, sl2, sl3, sl4, sl5, sl6, sl7, bindEv, wipeF, Tgt.slots, kv, i1 x hx]
    rw [r7]
    simp only [callFn, d_part_count]
    simp [MP.callFn, MP.execs, MP.exec, MP.ev, MP.evs, MP.evAnd, MP.evOr, MP.evI, MP.bodyOut, MP.frame0, MP.isiV, MP.ob, MP.tst, MP.truth, MP.thenB, MP.SOut.seq, MP.cmpop, MP.bltV, MP.ixV, MP.itemsOf, at0, at1, at2, MP.binop, MP.setS, MP.bindT, MP.bindT.setAll, MP.callLam, sl1, sl2, sl3, sl4, sl5, sl6, sl7, kv, dv, eqV] at hc ⊢
    rw [hc]
    simp [ints_map (pc a), MP.callFn, MP.execs, MP.exec, MP.ev, MP.evs, MP.evAnd, MP.evOr, MP.evI, MP.bodyOut, MP.frame0, MP.isiV, MP.ob, MP.tst, MP.truth, MP.thenB, MP.SOut.seq, MP.cmpop, MP.bltV, MP.ixV, MP.itemsOf, at0, at1, at2, MP.binop, MP.setS, MP.bindT, MP.bindT.setAll, MP.callLam, sl1, sl2, sl3, sl4, sl5, sl6, sl7, pc]
end NS

set_option maxHeartbeats 1000000
namespace NS
open MP
theorem f_crd {μ : Mem} : ∀ (s : Sh) (c : Cr s) (v : Dt s) (k : Nat), okD s v → dep s + 1 ≤ k → (run T k).fn 10 [kv s c, dv s v] μ = .ok (.int (crd s c v)) μ
  | .int, c, v, k, ok, h => by
    obtain ⟨k, rfl, hk⟩ := up h
    rw [r10]
    simp [MP.callFn, MP.execs, MP.exec, MP.ev, MP.evs, MP.evAnd, MP.evOr, MP.evI, MP.bodyOut, MP.frame0, MP.isiV, MP.ob, MP.tst, MP.truth, MP.thenB, MP.SOut.seq, MP.cmpop, MP.bltV, MP.ixV, MP.itemsOf, at0, at1, at2, MP.binop, MP.setS, MP.bindT, MP.bindT.setAll, MP.callLam, sl1, sl2, sl3, sl4, sl5, sl6, sl7, d_credit_of, kv, dv, crd]
  | .bool, c, v, k, ok, h => by
    obtain ⟨k, rfl, hk⟩ := up h
    rw [r10]
    simp [MP.callFn, MP.execs, MP.exec, MP.ev, MP.evs, MP.evAnd, MP.evOr, MP.evI, MP.bodyOut, MP.frame0, MP.isiV, MP.ob, MP.tst, MP.truth, MP.thenB, MP.SOut.seq, MP.cmpop, MP.bltV, MP.ixV, MP.itemsOf, at0, at1, at2, MP.binop, MP.setS, MP.bindT, MP.bindT.setAll, MP.callLam, sl1, sl2, sl3, sl4, sl5, sl6, sl7, d_credit_of, kv, dv, crd]
  | .pair a b, c, v, k, ok, h => by
    simp only [dep] at h
    obtain ⟨k, rfl, hk⟩ := up (n := max (dep a) (dep b) + 1) (by omega)
    have i1 := f_crd (μ := μ) a c.1 v.1 k ok.1 (by omega)
    have i2 := f_crd (μ := μ) b c.2 v.2 k ok.2 (by omega)
    rw [r10]
    simp [MP.callFn, MP.execs, MP.exec, MP.ev, MP.evs, MP.evAnd, MP.evOr, MP.evI, MP.bodyOut, MP.frame0, MP.isiV, MP.ob, MP.tst, MP.truth, MP.thenB, MP.SOut.seq, MP.cmpop, MP.bltV, MP.ixV, MP.itemsOf, at0, at1, at2, MP.binop, MP.setS, MP.bindT, MP.bindT.setAll, MP.callLam, sl1, sl2, sl3, sl4, sl5, sl6, sl7, d_credit_of, kv, dv, i1, i2, eqV, w_pl, crd]
  | .list a, c, v, k, ok, h => by
    change List (Dt a) at v
    change Cr a × Int at c
    simp only [dep] at h
    obtain ⟨k, rfl, hk⟩ := up (n := dep a + 1) (by omega)
    have i1 := fun x hx => f_crd (μ := μ) a c.1 x k (ok.2 x hx) (by omega)
    have hc : ev (run T k) (.comp (.bin .add (.ix (.var 0) (.int 2)) (.call 10 (.cons (.ix (.var 0) (.int 1)) (.cons (.var 2) .nil)))) (.one 2) (.seq (.var 1))) [some (kv (.list a) c), some (dv (.list a) v), none] μ = .ok (.lst (v.map fun x => .int (c.2 + crd a c.1 x))) μ := by
      refine comp_map (h := dv a) (g := fun x => .int (c.2 + crd a c.1 x)) (by simp [MP.callFn, MP.execs, MP.exec, MP.ev, MP.evs, MP.evAnd, MP.evOr, MP.evI, MP.bodyOut, MP.frame0, MP.isiV, MP.ob, MP.tst, MP.truth, MP.thenB, MP.SOut.seq, MP.cmpop, MP.bltV, MP.ixV, MP.itemsOf, at0, at1, at2, MP.binop, MP.setS, MP.bindT, MP.bindT.setAll, MP.callLam, sl1, sl2, sl3, sl4, sl5, sl6, sl7, dv]) ?_ fun x hx => ?_
      · have := sl4
        have : List.length v ≤ 4 := ok.1
        omega
      · simp [MP.callFn, MP.execs, MP.exec, MP.ev, MP.evs, MP.evAnd, MP.evOr, MP.evI, MP.bodyOut, MP.frame0, MP.isiV, MP.ob, MP.tst, MP.truth, MP.thenB, MP.SOut.seq, MP.cmpop, MP.bltV, MP.ixV, MP.itemsOf, at0, at1, at2, MP.binop, MP.setS, MP.bindT, MP.bindT.setAll, MP.callLam, sl1, sl2, sl3, sl4, sl5, sl6, sl7, bindEv, wipeF, Tgt.slots, kv, i1 x hx]
    rw [r10]
    simp only [callFn, d_credit_of]
    simp [MP.callFn, MP.execs, MP.exec, MP.ev, MP.evs, MP.evAnd, MP.evOr, MP.evI, MP.bodyOut, MP.frame0, MP.isiV, MP.ob, MP.tst, MP.truth, MP.thenB, MP.SOut.seq, MP.cmpop, MP.bltV, MP.ixV, MP.itemsOf, at0, at1, at2, MP.binop, MP.setS, MP.bindT, MP.bindT.setAll, MP.callLam, sl1, sl2, sl3, sl4, sl5, sl6, sl7, kv, dv, eqV] at hc ⊢
    rw [hc]
    simp [ints_map (fun x => c.2 + crd a c.1 x), MP.callFn, MP.execs, MP.exec, MP.ev, MP.evs, MP.evAnd, MP.evOr, MP.evI, MP.bodyOut, MP.frame0, MP.isiV, MP.ob, MP.tst, MP.truth, MP.thenB, MP.SOut.seq, MP.cmpop, MP.bltV, MP.ixV, MP.itemsOf, at0, at1, at2, MP.binop, MP.setS, MP.bindT, MP.bindT.setAll, MP.callLam, sl1, sl2, sl3, sl4, sl5, sl6, sl7, crd]
theorem f_cel {μ : Mem} : ∀ (s : Sh) (c : Cr s) (v : Dt s) (k : Nat), okD s v → dep s + 1 ≤ k → (run T k).fn 12 [kv s c, dv s v] μ = .ok (.int (cel s v)) μ
  | .int, c, v, k, ok, h => by
    obtain ⟨k, rfl, hk⟩ := up h
    rw [r12]
    simp [MP.callFn, MP.execs, MP.exec, MP.ev, MP.evs, MP.evAnd, MP.evOr, MP.evI, MP.bodyOut, MP.frame0, MP.isiV, MP.ob, MP.tst, MP.truth, MP.thenB, MP.SOut.seq, MP.cmpop, MP.bltV, MP.ixV, MP.itemsOf, at0, at1, at2, MP.binop, MP.setS, MP.bindT, MP.bindT.setAll, MP.callLam, sl1, sl2, sl3, sl4, sl5, sl6, sl7, d_cells_of, kv, dv, cel]
  | .bool, c, v, k, ok, h => by
    obtain ⟨k, rfl, hk⟩ := up h
    rw [r12]
    simp [MP.callFn, MP.execs, MP.exec, MP.ev, MP.evs, MP.evAnd, MP.evOr, MP.evI, MP.bodyOut, MP.frame0, MP.isiV, MP.ob, MP.tst, MP.truth, MP.thenB, MP.SOut.seq, MP.cmpop, MP.bltV, MP.ixV, MP.itemsOf, at0, at1, at2, MP.binop, MP.setS, MP.bindT, MP.bindT.setAll, MP.callLam, sl1, sl2, sl3, sl4, sl5, sl6, sl7, d_cells_of, kv, dv, cel]
  | .pair a b, c, v, k, ok, h => by
    simp only [dep] at h
    obtain ⟨k, rfl, hk⟩ := up (n := max (dep a) (dep b) + 1) (by omega)
    have i1 := f_cel (μ := μ) a c.1 v.1 k ok.1 (by omega)
    have i2 := f_cel (μ := μ) b c.2 v.2 k ok.2 (by omega)
    rw [r12]
    simp [MP.callFn, MP.execs, MP.exec, MP.ev, MP.evs, MP.evAnd, MP.evOr, MP.evI, MP.bodyOut, MP.frame0, MP.isiV, MP.ob, MP.tst, MP.truth, MP.thenB, MP.SOut.seq, MP.cmpop, MP.bltV, MP.ixV, MP.itemsOf, at0, at1, at2, MP.binop, MP.setS, MP.bindT, MP.bindT.setAll, MP.callLam, sl1, sl2, sl3, sl4, sl5, sl6, sl7, d_cells_of, kv, dv, i1, i2, eqV, w_pl, cel]
  | .list a, c, v, k, ok, h => by
    change List (Dt a) at v
    change Cr a × Int at c
    simp only [dep] at h
    obtain ⟨k, rfl, hk⟩ := up (n := dep a + 1) (by omega)
    have i1 := fun x hx => f_cel (μ := μ) a c.1 x k (ok.2 x hx) (by omega)
    have hc : ev (run T k) (.comp (.bin .add (.int 1) (.call 12 (.cons (.ix (.var 0) (.int 1)) (.cons (.var 2) .nil)))) (.one 2) (.seq (.var 1))) [some (kv (.list a) c), some (dv (.list a) v), none] μ = .ok (.lst (v.map fun x => .int (1 + cel a x))) μ := by
      refine comp_map (h := dv a) (g := fun x => .int (1 + cel a x)) (by simp [MP.callFn, MP.execs, MP.exec, MP.ev, MP.evs, MP.evAnd, MP.evOr, MP.evI, MP.bodyOut, MP.frame0, MP.isiV, MP.ob, MP.tst, MP.truth, MP.thenB, MP.SOut.seq, MP.cmpop, MP.bltV, MP.ixV, MP.itemsOf, at0, at1, at2, MP.binop, MP.setS, MP.bindT, MP.bindT.setAll, MP.callLam, sl1, sl2, sl3, sl4, sl5, sl6, sl7, dv]) ?_ fun x hx => ?_
      · have := sl4
        have : List.length v ≤ 4 := ok.1
        omega
      · simp [MP.callFn, MP.execs, MP.exec, MP.ev, MP.evs, MP.evAnd, MP.evOr, MP.evI, MP.bodyOut, MP.frame0, MP.isiV, MP.ob, MP.tst, MP.truth, MP.thenB, MP.SOut.seq, MP.cmpop, MP.bltV, MP.ixV, MP.itemsOf, at0, at1, at2, MP.binop, MP.setS, MP.bindT, MP.bindT.setAll, MP.callLam, sl1, sl2, sl3, sl4, sl5, sl6, sl7, bindEv, wipeF, Tgt.slots, kv, i1 x hx]
    rw [r12]
    simp only [callFn, d_cells_of]
    simp [MP.callFn, MP.execs, MP.exec, MP.ev, MP.evs, MP.evAnd, MP.evOr, MP.evI, MP.bodyOut, MP.frame0, MP.isiV, MP.ob, MP.tst, MP.truth, MP.thenB, MP.SOut.seq, MP.cmpop, MP.bltV, MP.ixV, MP.itemsOf, at0, at1, at2, MP.binop, MP.setS, MP.bindT, MP.bindT.setAll, MP.callLam, sl1, sl2, sl3, sl4, sl5, sl6, sl7, kv, dv, eqV] at hc ⊢
    rw [hc]
    simp [ints_map (fun x => 1 + cel a x), MP.callFn, MP.execs, MP.exec, MP.ev, MP.evs, MP.evAnd, MP.evOr, MP.evI, MP.bodyOut, MP.frame0, MP.isiV, MP.ob, MP.tst, MP.truth, MP.thenB, MP.SOut.seq, MP.cmpop, MP.bltV, MP.ixV, MP.itemsOf, at0, at1, at2, MP.binop, MP.setS, MP.bindT, MP.bindT.setAll, MP.callLam, sl1, sl2, sl3, sl4, sl5, sl6, sl7, cel]
def goodV (s : Sh) (v : Dt s) : Prop := okD s v ∧ pc s v ≤ 2000
theorem f_isval {s : Sh} {c : Cr s} {v : Dt s} {k : Nat} {μ : Mem} (hs : dep s ≤ 5) (ok : okC 1000000 s c) (hv : goodV s v) (h : 11 ≤ k) : (run T k).fn 8 [kv s c, dv s v] μ = .ok (.bl true) μ := by
  obtain ⟨k, rfl, hk⟩ := up h
  rw [r8]
  simp [MP.callFn, MP.execs, MP.exec, MP.ev, MP.evs, MP.evAnd, MP.evOr, MP.evI, MP.bodyOut, MP.frame0, MP.isiV, MP.ob, MP.tst, MP.truth, MP.thenB, MP.SOut.seq, MP.cmpop, MP.bltV, MP.ixV, MP.itemsOf, at0, at1, at2, MP.binop, MP.setS, MP.bindT, MP.bindT.setAll, MP.callLam, sl1, sl2, sl3, sl4, sl5, sl6, sl7, d_is_value, f_chk1 (μ := μ) hs ok hk, f_fits (μ := μ) s c v k hv.1 (by omega), f_parts (μ := μ) s c v k hv.1 (by omega), hv.2]
theorem f_chkval {s : Sh} {c : Cr s} {v : Dt s} {k : Nat} {μ : Mem} (hs : dep s ≤ 5) (ok : okC 1000000 s c) (hv : goodV s v) (h : 12 ≤ k) : (run T k).fn 9 [kv s c, dv s v] μ = .ok .non μ := by
  obtain ⟨k, rfl, hk⟩ := up h
  rw [r9]
  simp [MP.callFn, MP.execs, MP.exec, MP.ev, MP.evs, MP.evAnd, MP.evOr, MP.evI, MP.bodyOut, MP.frame0, MP.isiV, MP.ob, MP.tst, MP.truth, MP.thenB, MP.SOut.seq, MP.cmpop, MP.bltV, MP.ixV, MP.itemsOf, at0, at1, at2, MP.binop, MP.setS, MP.bindT, MP.bindT.setAll, MP.callLam, sl1, sl2, sl3, sl4, sl5, sl6, sl7, d_check_value, f_isval (μ := μ) hs ok hv hk]
theorem f_credit {s : Sh} {c : Cr s} {v : Dt s} {k : Nat} {μ : Mem} (hs : dep s ≤ 5) (ok : okC 1000000 s c) (hv : goodV s v) (h : 13 ≤ k) : (run T k).fn 11 [kv s c, dv s v] μ = .ok (.int (crd s c v)) μ := by
  obtain ⟨k, rfl, hk⟩ := up h
  rw [r11]
  simp [MP.callFn, MP.execs, MP.exec, MP.ev, MP.evs, MP.evAnd, MP.evOr, MP.evI, MP.bodyOut, MP.frame0, MP.isiV, MP.ob, MP.tst, MP.truth, MP.thenB, MP.SOut.seq, MP.cmpop, MP.bltV, MP.ixV, MP.itemsOf, at0, at1, at2, MP.binop, MP.setS, MP.bindT, MP.bindT.setAll, MP.callLam, sl1, sl2, sl3, sl4, sl5, sl6, sl7, d_credit, f_chkval (μ := μ) hs ok hv hk, f_crd (μ := μ) s c v k hv.1 (by omega)]
theorem f_cells {s : Sh} {c : Cr s} {v : Dt s} {k : Nat} {μ : Mem} (hs : dep s ≤ 5) (ok : okC 1000000 s c) (hv : goodV s v) (h : 13 ≤ k) : (run T k).fn 13 [kv s c, dv s v] μ = .ok (.int (cel s v)) μ := by
  obtain ⟨k, rfl, hk⟩ := up h
  rw [r13]
  simp [MP.callFn, MP.execs, MP.exec, MP.ev, MP.evs, MP.evAnd, MP.evOr, MP.evI, MP.bodyOut, MP.frame0, MP.isiV, MP.ob, MP.tst, MP.truth, MP.thenB, MP.SOut.seq, MP.cmpop, MP.bltV, MP.ixV, MP.itemsOf, at0, at1, at2, MP.binop, MP.setS, MP.bindT, MP.bindT.setAll, MP.callLam, sl1, sl2, sl3, sl4, sl5, sl6, sl7, d_cells, f_chkval (μ := μ) hs ok hv hk, f_cel (μ := μ) s c v k hv.1 (by omega)]
/-! ### kinds together -/
def LamIs (l : Nat) (f : Int → Int → Int) : Prop := ∀ (k : Nat) (a b : Int) (μ : Mem), 1 ≤ k → (run T k).lam l [.int a, .int b] μ = .ok (.int (f a b)) μ
theorem nonk : ∀ (s : Sh) (c : Cr s), isNon (kv s c) = some false
  | .int, _ => by simp [kv, isNon]
  | .bool, _ => by simp [kv, isNon]
  | .pair a b, _ => by simp [kv, isNon]
  | .list a, _ => by simp [kv, isNon]
theorem f_comb {μ : Mem} {l : Nat} {f : Int → Int → Int} (hf : LamIs l f) : ∀ (s : Sh) (c d : Cr s) (k : Nat), dep s + 2 ≤ k → (run T k).fn 14 [kv s c, kv s d, .lam l] μ = .ok (kv s (cmb f s c d)) μ
  | .int, c, d, k, h => by
    obtain ⟨k, rfl, hk⟩ := up h
    rw [r14]
    simp [MP.callFn, MP.execs, MP.exec, MP.ev, MP.evs, MP.evAnd, MP.evOr, MP.evI, MP.bodyOut, MP.frame0, MP.isiV, MP.ob, MP.tst, MP.truth, MP.thenB, MP.SOut.seq, MP.cmpop, MP.bltV, MP.ixV, MP.itemsOf, at0, at1, at2, MP.binop, MP.setS, MP.bindT, MP.bindT.setAll, MP.callLam, sl1, sl2, sl3, sl4, sl5, sl6, sl7, d_combined, kv, eqV]
  | .bool, c, d, k, h => by
    obtain ⟨k, rfl, hk⟩ := up h
    rw [r14]
    simp [MP.callFn, MP.execs, MP.exec, MP.ev, MP.evs, MP.evAnd, MP.evOr, MP.evI, MP.bodyOut, MP.frame0, MP.isiV, MP.ob, MP.tst, MP.truth, MP.thenB, MP.SOut.seq, MP.cmpop, MP.bltV, MP.ixV, MP.itemsOf, at0, at1, at2, MP.binop, MP.setS, MP.bindT, MP.bindT.setAll, MP.callLam, sl1, sl2, sl3, sl4, sl5, sl6, sl7, d_combined, kv, eqV]
  | .pair a b, c, d, k, h => by
    simp only [dep] at h
    obtain ⟨k, rfl, hk⟩ := up (n := max (dep a) (dep b) + 2) (by omega)
    have i1 := f_comb (μ := μ) hf a c.1 d.1 k (by omega)
    have i2 := f_comb (μ := μ) hf b c.2 d.2 k (by omega)
    rw [r14]
    simp [MP.callFn, MP.execs, MP.exec, MP.ev, MP.evs, MP.evAnd, MP.evOr, MP.evI, MP.bodyOut, MP.frame0, MP.isiV, MP.ob, MP.tst, MP.truth, MP.thenB, MP.SOut.seq, MP.cmpop, MP.bltV, MP.ixV, MP.itemsOf, at0, at1, at2, MP.binop, MP.setS, MP.bindT, MP.bindT.setAll, MP.callLam, sl1, sl2, sl3, sl4, sl5, sl6, sl7, d_combined, kv, cmb, i1, i2, eqV, w_pl, nonk]
  | .list a, c, d, k, h => by
    simp only [dep] at h
    obtain ⟨k, rfl, hk⟩ := up (n := dep a + 2) (by omega)
    have i1 := f_comb (μ := μ) hf a c.1 d.1 k (by omega)
    have i2 := hf k c.2 d.2 μ (by omega)
    rw [r14]
    simp [MP.callFn, MP.execs, MP.exec, MP.ev, MP.evs, MP.evAnd, MP.evOr, MP.evI, MP.bodyOut, MP.frame0, MP.isiV, MP.ob, MP.tst, MP.truth, MP.thenB, MP.SOut.seq, MP.cmpop, MP.bltV, MP.ixV, MP.itemsOf, at0, at1, at2, MP.binop, MP.setS, MP.bindT, MP.bindT.setAll, MP.callLam, sl1, sl2, sl3, sl4, sl5, sl6, sl7, d_combined, kv, cmb, i1, i2, eqV, nonk]
theorem ll (k l : Nat) (d : LamD) (h : T.lams[l]? = some d) (a : List Val) (μ : Mem) : (run T (k + 1)).lam l a μ = callLam (run T k) d a μ := by
  show (match T.lams[l]? with
      | some d => callLam (run T k) d a μ
      | none => .bad) = _
  rw [h]
theorem l0 : LamIs 0 (fun _ _ => 0) := fun k a b μ h => by
  obtain ⟨k, rfl, hk⟩ := up h
  rw [ll k 0 _ rfl]; simp [MP.callFn, MP.execs, MP.exec, MP.ev, MP.evs, MP.evAnd, MP.evOr, MP.evI, MP.bodyOut, MP.frame0, MP.isiV, MP.ob, MP.tst, MP.truth, MP.thenB, MP.SOut.seq, MP.cmpop, MP.bltV, MP.ixV, MP.itemsOf, at0, at1, at2, MP.binop, MP.setS, MP.bindT, MP.bindT.setAll, MP.callLam, sl1, sl2, sl3, sl4, sl5, sl6, sl7]
theorem l1 : LamIs 1 (fun a _ => a) := fun k a b μ h => by
  obtain ⟨k, rfl, hk⟩ := up h
  rw [ll k 1 _ rfl]; simp [MP.callFn, MP.execs, MP.exec, MP.ev, MP.evs, MP.evAnd, MP.evOr, MP.evI, MP.bodyOut, MP.frame0, MP.isiV, MP.ob, MP.tst, MP.truth, MP.thenB, MP.SOut.seq, MP.cmpop, MP.bltV, MP.ixV, MP.itemsOf, at0, at1, at2, MP.binop, MP.setS, MP.bindT, MP.bindT.setAll, MP.callLam, sl1, sl2, sl3, sl4, sl5, sl6, sl7]
theorem l2 : LamIs 2 (fun a b => if b > a then b else a) := fun k a b μ h => by
  obtain ⟨k, rfl, hk⟩ := up h
  rw [ll k 2 _ rfl]; simp [MP.callFn, MP.execs, MP.exec, MP.ev, MP.evs, MP.evAnd, MP.evOr, MP.evI, MP.bodyOut, MP.frame0, MP.isiV, MP.ob, MP.tst, MP.truth, MP.thenB, MP.SOut.seq, MP.cmpop, MP.bltV, MP.ixV, MP.itemsOf, at0, at1, at2, MP.binop, MP.setS, MP.bindT, MP.bindT.setAll, MP.callLam, sl1, sl2, sl3, sl4, sl5, sl6, sl7]
theorem l3 : LamIs 3 (fun a b => if b - a > 0 then b - a else 0) := fun k a b μ h => by
  obtain ⟨k, rfl, hk⟩ := up h
  rw [ll k 3 _ rfl]; simp [MP.callFn, MP.execs, MP.exec, MP.ev, MP.evs, MP.evAnd, MP.evOr, MP.evI, MP.bodyOut, MP.frame0, MP.isiV, MP.ob, MP.tst, MP.truth, MP.thenB, MP.SOut.seq, MP.cmpop, MP.bltV, MP.ixV, MP.itemsOf, at0, at1, at2, MP.binop, MP.setS, MP.bindT, MP.bindT.setAll, MP.callLam, sl1, sl2, sl3, sl4, sl5, sl6, sl7]
theorem l4 : LamIs 4 (fun a b => if b < a then b else a) := fun k a b μ h => by
  obtain ⟨k, rfl, hk⟩ := up h
  rw [ll k 4 _ rfl]; simp [MP.callFn, MP.execs, MP.exec, MP.ev, MP.evs, MP.evAnd, MP.evOr, MP.evI, MP.bodyOut, MP.frame0, MP.isiV, MP.ob, MP.tst, MP.truth, MP.thenB, MP.SOut.seq, MP.cmpop, MP.bltV, MP.ixV, MP.itemsOf, at0, at1, at2, MP.binop, MP.setS, MP.bindT, MP.bindT.setAll, MP.callLam, sl1, sl2, sl3, sl4, sl5, sl6, sl7]
theorem l5 : LamIs 5 (fun a b => a + b) := fun k a b μ h => by
  obtain ⟨k, rfl, hk⟩ := up h
  rw [ll k 5 _ rfl]; simp [MP.callFn, MP.execs, MP.exec, MP.ev, MP.evs, MP.evAnd, MP.evOr, MP.evI, MP.bodyOut, MP.frame0, MP.isiV, MP.ob, MP.tst, MP.truth, MP.thenB, MP.SOut.seq, MP.cmpop, MP.bltV, MP.ixV, MP.itemsOf, at0, at1, at2, MP.binop, MP.setS, MP.bindT, MP.bindT.setAll, MP.callLam, sl1, sl2, sl3, sl4, sl5, sl6, sl7]
def bare (s : Sh) (c : Cr s) : Cr s := cmb (fun _ _ => 0) s c c
def top (s : Sh) (c d : Cr s) : Cr s := cmb (fun a b => if b > a then b else a) s c d
def low (s : Sh) (c d : Cr s) : Cr s := cmb (fun a b => if b < a then b else a) s c d
def add (s : Sh) (c d : Cr s) : Cr s := cmb (fun a b => a + b) s c d
def lackC (s : Sh) (c d : Cr s) : Cr s := cmb (fun a b => if b - a > 0 then b - a else 0) s c d
def lack (s : Sh) (c d : Cr s) : Int := (crl s (lackC s c d)).sum
def cov (s : Sh) (c d : Cr s) : Bool := eqC s (top s c d) c
theorem crl_len : ∀ (s : Sh) (c : Cr s), (crl s c).length ≤ 2 ^ dep s
  | .int, _ => by simp [crl]
  | .bool, _ => by simp [crl]
  | .pair a b, c => by
    have h1 := crl_len a c.1
    have h2 := crl_len b c.2
    have h3 : 2 ^ dep a ≤ 2 ^ max (dep a) (dep b) := Nat.pow_le_pow_right (by decide) (by omega)
    have h4 : 2 ^ dep b ≤ 2 ^ max (dep a) (dep b) := Nat.pow_le_pow_right (by decide) (by omega)
    simp only [crl, dep, List.length_append, Nat.pow_succ]
    omega
  | .list a, c => by
    have h1 := crl_len a c.1
    have h3 : 1 ≤ 2 ^ dep a := Nat.one_le_two_pow
    simp only [crl, dep, List.length_append, Nat.pow_succ, List.length_singleton]
    omega
theorem sl64 : 64 ≤ PySem.sizeLine := by decide +kernel
theorem f_crl {μ : Mem} : ∀ (s : Sh) (c : Cr s) (k : Nat), dep s ≤ 5 → dep s + 1 ≤ k → (run T k).fn 15 [kv s c] μ = .ok (.lst ((crl s c).map .int)) μ
  | .int, c, k, hs, h => by
    obtain ⟨k, rfl, hk⟩ := up h
    rw [r15]
    simp [MP.callFn, MP.execs, MP.exec, MP.ev, MP.evs, MP.evAnd, MP.evOr, MP.evI, MP.bodyOut, MP.frame0, MP.isiV, MP.ob, MP.tst, MP.truth, MP.thenB, MP.SOut.seq, MP.cmpop, MP.bltV, MP.ixV, MP.itemsOf, at0, at1, at2, MP.binop, MP.setS, MP.bindT, MP.bindT.setAll, MP.callLam, sl1, sl2, sl3, sl4, sl5, sl6, sl7, d_credits_in, kv, crl]
  | .bool, c, k, hs, h => by
    obtain ⟨k, rfl, hk⟩ := up h
    rw [r15]
    simp [MP.callFn, MP.execs, MP.exec, MP.ev, MP.evs, MP.evAnd, MP.evOr, MP.evI, MP.bodyOut, MP.frame0, MP.isiV, MP.ob, MP.tst, MP.truth, MP.thenB, MP.SOut.seq, MP.cmpop, MP.bltV, MP.ixV, MP.itemsOf, at0, at1, at2, MP.binop, MP.setS, MP.bindT, MP.bindT.setAll, MP.callLam, sl1, sl2, sl3, sl4, sl5, sl6, sl7, d_credits_in, kv, crl]
  | .pair a b, c, k, hs, h => by
    have hl := crl_len (.pair a b) c
    have hl2 : 2 ^ dep (.pair a b) ≤ 2 ^ 6 := Nat.pow_le_pow_right (by decide) (by omega)
    have := sl64
    simp only [dep] at hs h
    obtain ⟨k, rfl, hk⟩ := up (n := max (dep a) (dep b) + 1) (by omega)
    have i1 := f_crl (μ := μ) a c.1 k (by omega) (by omega)
    have i2 := f_crl (μ := μ) b c.2 k (by omega) (by omega)
    simp only [crl, List.length_append] at hl
    rw [r15]
    simp [MP.callFn, MP.execs, MP.exec, MP.ev, MP.evs, MP.evAnd, MP.evOr, MP.evI, MP.bodyOut, MP.frame0, MP.isiV, MP.ob, MP.tst, MP.truth, MP.thenB, MP.SOut.seq, MP.cmpop, MP.bltV, MP.ixV, MP.itemsOf, at0, at1, at2, MP.binop, MP.setS, MP.bindT, MP.bindT.setAll, MP.callLam, sl1, sl2, sl3, sl4, sl5, sl6, sl7, d_credits_in, kv, crl, i1, i2, eqV, w_pl]
    rw [if_pos (by omega)]; rfl
  | .list a, c, k, hs, h => by
    have hl := crl_len (.list a) c
    have hl2 : 2 ^ dep (.list a) ≤ 2 ^ 6 := Nat.pow_le_pow_right (by decide) (by omega)
    have := sl64
    simp only [dep] at hs h
    obtain ⟨k, rfl, hk⟩ := up (n := dep a + 1) (by omega)
    have i1 := f_crl (μ := μ) a c.1 k (by omega) (by omega)
    simp only [crl, List.length_append, List.length_singleton] at hl
    rw [r15]
    simp [MP.callFn, MP.execs, MP.exec, MP.ev, MP.evs, MP.evAnd, MP.evOr, MP.evI, MP.bodyOut, MP.frame0, MP.isiV, MP.ob, MP.tst, MP.truth, MP.thenB, MP.SOut.seq, MP.cmpop, MP.bltV, MP.ixV, MP.itemsOf, at0, at1, at2, MP.binop, MP.setS, MP.bindT, MP.bindT.setAll, MP.callLam, sl1, sl2, sl3, sl4, sl5, sl6, sl7, d_credits_in, kv, crl, i1, eqV]
    rw [if_pos (by omega)]; rfl
end NS

set_option maxHeartbeats 1000000
namespace NS
open MP
theorem ints_all : ∀ xs : List Int, intsV (xs.map .int) = some xs
  | [] => rfl
  | x :: r => by simp [intsV, ints_all r]
theorem isNon_not : (Option.map (fun x => !x) (some false)) = some true := rfl
section
variable {s : Sh} {c d : Cr s} {v : Dt s} {k : Nat} {μ : Mem}
theorem f_madebare (hs : dep s ≤ 5) (h : 8 ≤ k) : (run T k).fn 16 [kv s c] μ = .ok (kv s (bare s c)) μ := by
  obtain ⟨k, rfl, hk⟩ := up h
  rw [r16]
  simp [MP.callFn, MP.execs, MP.exec, MP.ev, MP.evs, MP.evAnd, MP.evOr, MP.evI, MP.bodyOut, MP.frame0, MP.isiV, MP.ob, MP.tst, MP.truth, MP.thenB, MP.SOut.seq, MP.cmpop, MP.bltV, MP.ixV, MP.itemsOf, at0, at1, at2, MP.binop, MP.setS, MP.bindT, MP.bindT.setAll, MP.callLam, sl1, sl2, sl3, sl4, sl5, sl6, sl7, d_made_bare, f_comb (μ := μ) l0 s c c k (by omega), bare]
theorem f_alike (hs : dep s ≤ 5) (h : 8 ≤ k) : (run T k).fn 17 [kv s c, kv s d] μ = .ok (.bl true) μ := by
  obtain ⟨k, rfl, hk⟩ := up h
  rw [r17]
  simp [MP.callFn, MP.execs, MP.exec, MP.ev, MP.evs, MP.evAnd, MP.evOr, MP.evI, MP.bodyOut, MP.frame0, MP.isiV, MP.ob, MP.tst, MP.truth, MP.thenB, MP.SOut.seq, MP.cmpop, MP.bltV, MP.ixV, MP.itemsOf, at0, at1, at2, MP.binop, MP.setS, MP.bindT, MP.bindT.setAll, MP.callLam, sl1, sl2, sl3, sl4, sl5, sl6, sl7, d_is_alike, f_comb (μ := μ) l1 s c d k (by omega), nonk]
theorem f_covering (hs : dep s ≤ 5) (h : 8 ≤ k) : (run T k).fn 18 [kv s c, kv s d] μ = .ok (.bl (cov s c d)) μ := by
  obtain ⟨k, rfl, hk⟩ := up h
  rw [r18]
  simp [MP.callFn, MP.execs, MP.exec, MP.ev, MP.evs, MP.evAnd, MP.evOr, MP.evI, MP.bodyOut, MP.frame0, MP.isiV, MP.ob, MP.tst, MP.truth, MP.thenB, MP.SOut.seq, MP.cmpop, MP.bltV, MP.ixV, MP.itemsOf, at0, at1, at2, MP.binop, MP.setS, MP.bindT, MP.bindT.setAll, MP.callLam, sl1, sl2, sl3, sl4, sl5, sl6, sl7, d_is_covering, f_comb (μ := μ) l2 s c d k (by omega), eqV_kv (s := s) (by omega), cov, top]
theorem f_short (hs : dep s ≤ 5) (h : 8 ≤ k) : (run T k).fn 19 [kv s c, kv s d] μ = .ok (.int (lack s c d)) μ := by
  obtain ⟨k, rfl, hk⟩ := up h
  rw [r19]
  have e : (run T k).fn 14 [kv s c, kv s d, .lam 3] μ = .ok (kv s (lackC s c d)) μ := f_comb (μ := μ) l3 s c d k (by omega)
  have e2 := f_crl (μ := μ) s (lackC s c d) k hs (by omega)
  simp only [callFn, d_short_by]
  simp [MP.callFn, MP.execs, MP.exec, MP.ev, MP.evs, MP.evAnd, MP.evOr, MP.evI, MP.bodyOut, MP.frame0, MP.isiV, MP.ob, MP.tst, MP.truth, MP.thenB, MP.SOut.seq, MP.cmpop, MP.bltV, MP.ixV, MP.itemsOf, at0, at1, at2, MP.binop, MP.setS, MP.bindT, MP.bindT.setAll, MP.callLam, sl1, sl2, sl3, sl4, sl5, sl6, sl7, e, e2, ints_all, lack]
theorem f_leastof (hs : dep s ≤ 5) (h : 8 ≤ k) : (run T k).fn 20 [kv s c, kv s d] μ = .ok (kv s (low s c d)) μ := by
  obtain ⟨k, rfl, hk⟩ := up h
  rw [r20]
  simp [MP.callFn, MP.execs, MP.exec, MP.ev, MP.evs, MP.evAnd, MP.evOr, MP.evI, MP.bodyOut, MP.frame0, MP.isiV, MP.ob, MP.tst, MP.truth, MP.thenB, MP.SOut.seq, MP.cmpop, MP.bltV, MP.ixV, MP.itemsOf, at0, at1, at2, MP.binop, MP.setS, MP.bindT, MP.bindT.setAll, MP.callLam, sl1, sl2, sl3, sl4, sl5, sl6, sl7, d_least_of, f_comb (μ := μ) l4 s c d k (by omega), low]
theorem f_sumof (hs : dep s ≤ 5) (h : 8 ≤ k) : (run T k).fn 21 [kv s c, kv s d] μ = .ok (kv s (add s c d)) μ := by
  obtain ⟨k, rfl, hk⟩ := up h
  rw [r21]
  simp [MP.callFn, MP.execs, MP.exec, MP.ev, MP.evs, MP.evAnd, MP.evOr, MP.evI, MP.bodyOut, MP.frame0, MP.isiV, MP.ob, MP.tst, MP.truth, MP.thenB, MP.SOut.seq, MP.cmpop, MP.bltV, MP.ixV, MP.itemsOf, at0, at1, at2, MP.binop, MP.setS, MP.bindT, MP.bindT.setAll, MP.callLam, sl1, sl2, sl3, sl4, sl5, sl6, sl7, d_sum_of, f_comb (μ := μ) l5 s c d k (by omega), add]
theorem f_chkalike (hs : dep s ≤ 5) (o1 : okC 1000000 s c) (o2 : okC 1000000 s d) (h : 11 ≤ k) : (run T k).fn 22 [kv s c, kv s d] μ = .ok .non μ := by
  obtain ⟨k, rfl, hk⟩ := up h
  rw [r22]
  simp [MP.callFn, MP.execs, MP.exec, MP.ev, MP.evs, MP.evAnd, MP.evOr, MP.evI, MP.bodyOut, MP.frame0, MP.isiV, MP.ob, MP.tst, MP.truth, MP.thenB, MP.SOut.seq, MP.cmpop, MP.bltV, MP.ixV, MP.itemsOf, at0, at1, at2, MP.binop, MP.setS, MP.bindT, MP.bindT.setAll, MP.callLam, sl1, sl2, sl3, sl4, sl5, sl6, sl7, d_check_alike, f_chk2 (μ := μ) hs o1 o2 hk, f_alike (μ := μ) (c := c) (d := d) hs (k := k) (by omega)]
theorem f_bare (hs : dep s ≤ 5) (o1 : okC 1000000 s c) (h : 12 ≤ k) : (run T k).fn 23 [kv s c] μ = .ok (kv s (bare s c)) μ := by
  obtain ⟨k, rfl, hk⟩ := up h
  rw [r23]
  simp [MP.callFn, MP.execs, MP.exec, MP.ev, MP.evs, MP.evAnd, MP.evOr, MP.evI, MP.bodyOut, MP.frame0, MP.isiV, MP.ob, MP.tst, MP.truth, MP.thenB, MP.SOut.seq, MP.cmpop, MP.bltV, MP.ixV, MP.itemsOf, at0, at1, at2, MP.binop, MP.setS, MP.bindT, MP.bindT.setAll, MP.callLam, sl1, sl2, sl3, sl4, sl5, sl6, sl7, d_bare, f_chk1 (μ := μ) (k := k) hs o1 (by omega), f_madebare (μ := μ) (c := c) hs (k := k) (by omega)]
theorem f_same (hs : dep s ≤ 5) (o1 : okC 1000000 s c) (o2 : okC 1000000 s d) (h : 12 ≤ k) : (run T k).fn 24 [kv s c, kv s d] μ = .ok (.bl true) μ := by
  obtain ⟨k, rfl, hk⟩ := up h
  rw [r24]
  simp [MP.callFn, MP.execs, MP.exec, MP.ev, MP.evs, MP.evAnd, MP.evOr, MP.evI, MP.bodyOut, MP.frame0, MP.isiV, MP.ob, MP.tst, MP.truth, MP.thenB, MP.SOut.seq, MP.cmpop, MP.bltV, MP.ixV, MP.itemsOf, at0, at1, at2, MP.binop, MP.setS, MP.bindT, MP.bindT.setAll, MP.callLam, sl1, sl2, sl3, sl4, sl5, sl6, sl7, d_same_shape, f_chk2 (μ := μ) (k := k) hs o1 o2 (by omega), f_alike (μ := μ) (c := c) (d := d) hs (k := k) (by omega)]
theorem f_covers (hs : dep s ≤ 5) (o1 : okC 1000000 s c) (o2 : okC 1000000 s d) (h : 12 ≤ k) : (run T k).fn 25 [kv s c, kv s d] μ = .ok (.bl (cov s c d)) μ := by
  obtain ⟨k, rfl, hk⟩ := up h
  rw [r25]
  simp [MP.callFn, MP.execs, MP.exec, MP.ev, MP.evs, MP.evAnd, MP.evOr, MP.evI, MP.bodyOut, MP.frame0, MP.isiV, MP.ob, MP.tst, MP.truth, MP.thenB, MP.SOut.seq, MP.cmpop, MP.bltV, MP.ixV, MP.itemsOf, at0, at1, at2, MP.binop, MP.setS, MP.bindT, MP.bindT.setAll, MP.callLam, sl1, sl2, sl3, sl4, sl5, sl6, sl7, d_covers, f_chk2 (μ := μ) (k := k) hs o1 o2 (by omega), f_covering (μ := μ) (c := c) (d := d) hs (k := k) (by omega)]
theorem f_least (hs : dep s ≤ 5) (o1 : okC 1000000 s c) (o2 : okC 1000000 s d) (h : 12 ≤ k) : (run T k).fn 26 [kv s c, kv s d] μ = .ok (kv s (low s c d)) μ := by
  obtain ⟨k, rfl, hk⟩ := up h
  rw [r26]
  simp [MP.callFn, MP.execs, MP.exec, MP.ev, MP.evs, MP.evAnd, MP.evOr, MP.evI, MP.bodyOut, MP.frame0, MP.isiV, MP.ob, MP.tst, MP.truth, MP.thenB, MP.SOut.seq, MP.cmpop, MP.bltV, MP.ixV, MP.itemsOf, at0, at1, at2, MP.binop, MP.setS, MP.bindT, MP.bindT.setAll, MP.callLam, sl1, sl2, sl3, sl4, sl5, sl6, sl7, d_least, f_chkalike (μ := μ) (k := k) hs o1 o2 (by omega), f_leastof (μ := μ) (c := c) (d := d) hs (k := k) (by omega)]
theorem f_lacking (hs : dep s ≤ 5) (o1 : okC 1000000 s c) (o2 : okC 1000000 s d) (h : 12 ≤ k) : (run T k).fn 28 [kv s c, kv s d] μ = .ok (.int (lack s c d)) μ := by
  obtain ⟨k, rfl, hk⟩ := up h
  rw [r28]
  simp [MP.callFn, MP.execs, MP.exec, MP.ev, MP.evs, MP.evAnd, MP.evOr, MP.evI, MP.bodyOut, MP.frame0, MP.isiV, MP.ob, MP.tst, MP.truth, MP.thenB, MP.SOut.seq, MP.cmpop, MP.bltV, MP.ixV, MP.itemsOf, at0, at1, at2, MP.binop, MP.setS, MP.bindT, MP.bindT.setAll, MP.callLam, sl1, sl2, sl3, sl4, sl5, sl6, sl7, d_lacking, f_chkalike (μ := μ) (k := k) hs o1 o2 (by omega), f_short (μ := μ) (c := c) (d := d) hs (k := k) (by omega)]
theorem ok_crl (m : Int) : ∀ (s : Sh) (c : Cr s), okC m s c → ∀ x ∈ crl s c, 0 ≤ x ∧ x ≤ m
  | .int, _, _, x, hx => by simp [crl] at hx
  | .bool, _, _, x, hx => by simp [crl] at hx
  | .pair a b, c, h, x, hx => by
    simp only [crl, List.mem_append] at hx
    exact hx.elim (ok_crl m a c.1 h.1 x) (ok_crl m b c.2 h.2 x)
  | .list a, c, h, x, hx => by
    simp only [crl, List.mem_append, List.mem_singleton] at hx
    rcases hx with hx | rfl
    · exact ok_crl m a c.1 h.1 x hx
    · exact h.2
theorem f_added (hs : dep s ≤ 5) (o1 : okC 1000000 s c) (o2 : okC 1000000 s d) (o3 : okC 1000000 s (add s c d)) (h : 12 ≤ k) : (run T k).fn 27 [kv s c, kv s d] μ = .ok (kv s (add s c d)) μ := by
  obtain ⟨k, rfl, hk⟩ := up h
  rw [r27]
  have e := f_sumof (μ := μ) (c := c) (d := d) hs (k := k) (by omega)
  have e2 := f_crl (μ := μ) s (add s c d) k hs (by omega)
  have e3 : ∃ m : Int, maxDV (.lst ((crl s (add s c d)).map .int)) (.int 0) μ = .ok (.int m) μ ∧ m ≤ 1000000 := by
    simp only [maxDV]
    rw [ints_all]
    have ho := ok_crl 1000000 s _ o3
    cases hc : crl s (add s c d) with
    | nil => exact ⟨0, rfl, by decide⟩
    | cons n ns =>
      rw [hc] at ho
      exact ⟨_, rfl, (ho _ (maxI_spec ns n).1).2⟩
  obtain ⟨m, e3, hm⟩ := e3
  have hm2 : decide ((1000000 : Int) < m) = false := by simp; omega
  simp only [callFn, d_added]
  simp [MP.callFn, MP.execs, MP.exec, MP.ev, MP.evs, MP.evAnd, MP.evOr, MP.evI, MP.bodyOut, MP.frame0, MP.isiV, MP.ob, MP.tst, MP.truth, MP.thenB, MP.SOut.seq, MP.cmpop, MP.bltV, MP.ixV, MP.itemsOf, at0, at1, at2, MP.binop, MP.setS, MP.bindT, MP.bindT.setAll, MP.callLam, sl1, sl2, sl3, sl4, sl5, sl6, sl7, f_chkalike (μ := μ) (k := k) hs o1 o2 (by omega), e, e2, e3, hm2]
end
end NS

set_option maxHeartbeats 1000000
namespace NS
theorem pext {α β : Type} {p q : α × β} (h1 : p.1 = q.1) (h2 : p.2 = q.2) : p = q := Prod.ext h1 h2
/-- an equation of combinings, number by number -/
theorem cmb_ext {f g : Int → Int → Int} {P : Int → Int → Prop} (h : ∀ x y, P x y → f x y = g x y) : ∀ (s : Sh) (c d : Cr s), (∀ x y : Int, P x y) → cmb f s c d = cmb g s c d
  | .int, _, _, _ => rfl
  | .bool, _, _, _ => rfl
  | .pair a b, c, d, hp => pext (cmb_ext h a c.1 d.1 hp) (cmb_ext h b c.2 d.2 hp)
  | .list a, c, d, hp => pext (cmb_ext h a c.1 d.1 hp) (h _ _ (hp _ _))
theorem cov_iff : ∀ (s : Sh) (c d : Cr s), cov s c d = true ↔ le s d c
  | .int, _, _ => ⟨fun _ => trivial, fun _ => rfl⟩
  | .bool, _, _ => ⟨fun _ => trivial, fun _ => rfl⟩
  | .pair a b, c, d => by
    have h1 := cov_iff a c.1 d.1
    have h2 := cov_iff b c.2 d.2
    simp only [cov, top, cmb, eqC, Bool.and_eq_true, le] at h1 h2 ⊢
    rw [h1, h2]
  | .list a, c, d => by
    have h1 := cov_iff a c.1 d.1
    simp only [cov, top, cmb, eqC, Bool.and_eq_true, le, decide_eq_true_eq] at h1 ⊢
    rw [h1]
    have e : ∀ x y : Int, (if y > x then y else x) = x ↔ y ≤ x := fun x y => by split <;> omega
    exact and_congr Iff.rfl (decide_eq_true_iff.trans (e c.2 d.2))
theorem le_refl' : ∀ (s : Sh) (c : Cr s), le s c c
  | .int, _ => trivial
  | .bool, _ => trivial
  | .pair a b, c => ⟨le_refl' a _, le_refl' b _⟩
  | .list a, c => ⟨le_refl' a _, Int.le_refl _⟩
theorem le_tr : ∀ (s : Sh) (c d e : Cr s), le s c d → le s d e → le s c e
  | .int, _, _, _, _, _ => trivial
  | .bool, _, _, _, _, _ => trivial
  | .pair a b, c, d, e, h, g => ⟨le_tr a _ _ _ h.1 g.1, le_tr b _ _ _ h.2 g.2⟩
  | .list a, c, d, e, h, g => ⟨le_tr a _ _ _ h.1 g.1, Int.le_trans h.2 g.2⟩
theorem le_anti : ∀ (s : Sh) (c d : Cr s), le s c d → le s d c → c = d
  | .int, _, _, _, _ => rfl
  | .bool, _, _, _, _ => rfl
  | .pair a b, c, d, h, g => pext (le_anti a _ _ h.1 g.1) (le_anti b _ _ h.2 g.2)
  | .list a, c, d, h, g => pext (le_anti a _ _ h.1 g.1) (Int.le_antisymm h.2 g.2)
theorem low_le1 : ∀ (s : Sh) (c d : Cr s), le s (low s c d) c
  | .int, _, _ => trivial
  | .bool, _, _ => trivial
  | .pair a b, c, d => ⟨low_le1 a _ _, low_le1 b _ _⟩
  | .list a, c, d => ⟨low_le1 a _ _, by show (if d.2 < c.2 then d.2 else c.2) ≤ c.2; split <;> omega⟩
theorem low_le2 : ∀ (s : Sh) (c d : Cr s), le s (low s c d) d
  | .int, _, _ => trivial
  | .bool, _, _ => trivial
  | .pair a b, c, d => ⟨low_le2 a _ _, low_le2 b _ _⟩
  | .list a, c, d => ⟨low_le2 a _ _, by show (if d.2 < c.2 then d.2 else c.2) ≤ d.2; split <;> omega⟩
theorem le_low : ∀ (s : Sh) (c d e : Cr s), le s e c → le s e d → le s e (low s c d)
  | .int, _, _, _, _, _ => trivial
  | .bool, _, _, _, _, _ => trivial
  | .pair a b, c, d, e, h, g => ⟨le_low a _ _ _ h.1 g.1, le_low b _ _ _ h.2 g.2⟩
  | .list a, c, d, e, h, g => ⟨le_low a _ _ _ h.1 g.1, by
    have h2 : e.2 ≤ c.2 := h.2
    have g2 : e.2 ≤ d.2 := g.2
    show e.2 ≤ (if d.2 < c.2 then d.2 else c.2); split <;> omega⟩
theorem low_comm (s : Sh) (c d : Cr s) : low s d c = low s c d :=
  le_anti s _ _ (le_low s _ _ _ (low_le2 s _ _) (low_le1 s _ _)) (le_low s _ _ _ (low_le2 s _ _) (low_le1 s _ _))
theorem low_idem (s : Sh) (c d : Cr s) : low s (low s c d) c = low s c d :=
  le_anti s _ _ (low_le1 s _ _) (le_low s _ _ _ (le_refl' s _) (low_le1 s _ _))
theorem low_of_le (s : Sh) (c d : Cr s) (h : le s d c) : low s c d = d := le_anti s _ _ (low_le2 s _ _) (le_low s _ _ _ h (le_refl' s _))
theorem low_assoc (s : Sh) (c d e : Cr s) : low s (low s c d) e = low s c (low s d e) :=
  le_anti s _ _ (le_low s _ _ _ (le_tr s _ _ _ (low_le1 s _ _) (low_le1 s _ _)) (le_low s _ _ _ (le_tr s _ _ _ (low_le1 s _ _) (low_le2 s _ _)) (low_le2 s _ _)))
    (le_low s _ _ _ (le_low s _ _ _ (low_le1 s _ _) (le_tr s _ _ _ (low_le2 s _ _) (low_le1 s _ _))) (le_tr s _ _ _ (low_le2 s _ _) (low_le2 s _ _)))
theorem add_comm' : ∀ (s : Sh) (c d : Cr s), add s d c = add s c d
  | .int, _, _ => rfl
  | .bool, _, _ => rfl
  | .pair a b, c, d => pext (add_comm' a _ _) (add_comm' b _ _)
  | .list a, c, d => pext (add_comm' a _ _) (Int.add_comm _ _)
theorem le_add : ∀ (s : Sh) (c d : Cr s) (m : Int), okC m s d → le s c (add s c d)
  | .int, _, _, _, _ => trivial
  | .bool, _, _, _, _ => trivial
  | .pair a b, c, d, m, h => ⟨le_add a _ _ m h.1, le_add b _ _ m h.2⟩
  | .list a, c, d, m, h => ⟨le_add a _ _ m h.1, by
    have h2 : (0 : Int) ≤ d.2 := h.2.1
    show c.2 ≤ c.2 + d.2; omega⟩
theorem add_bare : ∀ (s : Sh) (c : Cr s), add s c (bare s c) = c
  | .int, _ => rfl
  | .bool, _ => rfl
  | .pair a b, c => pext (add_bare a _) (add_bare b _)
  | .list a, c => pext (add_bare a _) (Int.add_zero _)
theorem bare_any : ∀ (s : Sh) (c d : Cr s), bare s c = bare s d
  | .int, _, _ => rfl
  | .bool, _, _ => rfl
  | .pair a b, c, d => pext (bare_any a _ _) (bare_any b _ _)
  | .list a, c, d => pext (bare_any a _ _) rfl
theorem bare_le : ∀ (s : Sh) (c d : Cr s) (m : Int), okC m s d → le s (bare s c) d
  | .int, _, _, _, _ => trivial
  | .bool, _, _, _, _ => trivial
  | .pair a b, c, d, m, h => ⟨bare_le a _ _ m h.1, bare_le b _ _ m h.2⟩
  | .list a, c, d, m, h => ⟨bare_le a _ _ m h.1, h.2.1⟩
theorem ok_mono {m n : Int} (hmn : m ≤ n) : ∀ (s : Sh) (c : Cr s), okC m s c → okC n s c
  | .int, _, _ => trivial
  | .bool, _, _ => trivial
  | .pair a b, c, h => ⟨ok_mono hmn a _ h.1, ok_mono hmn b _ h.2⟩
  | .list a, c, h => ⟨ok_mono hmn a _ h.1, h.2.1, Int.le_trans h.2.2 hmn⟩
theorem ok_low {m : Int} : ∀ (s : Sh) (c d : Cr s), okC m s c → okC m s d → okC m s (low s c d)
  | .int, _, _, _, _ => trivial
  | .bool, _, _, _, _ => trivial
  | .pair a b, c, d, h, g => ⟨ok_low a _ _ h.1 g.1, ok_low b _ _ h.2 g.2⟩
  | .list a, c, d, h, g => ⟨ok_low a _ _ h.1 g.1, by
    have h2 : (0 : Int) ≤ c.2 := h.2.1
    have h3 : c.2 ≤ m := h.2.2
    have g2 : (0 : Int) ≤ d.2 := g.2.1
    have g3 : d.2 ≤ m := g.2.2
    show 0 ≤ (if d.2 < c.2 then d.2 else c.2) ∧ (if d.2 < c.2 then d.2 else c.2) ≤ m
    split <;> omega⟩
theorem ok_add {m n : Int} : ∀ (s : Sh) (c d : Cr s), okC m s c → okC n s d → okC (m + n) s (add s c d)
  | .int, _, _, _, _ => trivial
  | .bool, _, _, _, _ => trivial
  | .pair a b, c, d, h, g => ⟨ok_add a _ _ h.1 g.1, ok_add b _ _ h.2 g.2⟩
  | .list a, c, d, h, g => ⟨ok_add a _ _ h.1 g.1, by
    have h2 : (0 : Int) ≤ c.2 := h.2.1
    have h3 : c.2 ≤ m := h.2.2
    have g2 : (0 : Int) ≤ d.2 := g.2.1
    have g3 : d.2 ≤ n := g.2.2
    show 0 ≤ c.2 + d.2 ∧ c.2 + d.2 ≤ m + n
    omega⟩
theorem ok_bare {m : Int} (hm : 0 ≤ m) : ∀ (s : Sh) (c : Cr s), okC m s (bare s c)
  | .int, _ => trivial
  | .bool, _ => trivial
  | .pair a b, c => ⟨ok_bare hm a _, ok_bare hm b _⟩
  | .list a, c => ⟨ok_bare hm a _, Int.le_refl _, hm⟩
theorem sum_le {α : Type} {f g : α → Int} (h : ∀ x, f x ≤ g x) : ∀ xs : List α, (xs.map f).sum ≤ (xs.map g).sum
  | [] => Int.le_refl _
  | x :: r => by
    have h1 := h x
    have h2 := sum_le h r
    simp only [List.map_cons, List.sum_cons]
    omega
theorem sum_add {α : Type} {f g h : α → Int} (e : ∀ x, h x = f x + g x) : ∀ xs : List α, (xs.map h).sum = (xs.map f).sum + (xs.map g).sum
  | [] => rfl
  | x :: r => by
    have h1 := e x
    have h2 := sum_add e r
    simp only [List.map_cons, List.sum_cons]
    omega
theorem sum_zero {α : Type} {f : α → Int} (e : ∀ x, f x = 0) : ∀ xs : List α, (xs.map f).sum = 0
  | [] => rfl
  | x :: r => by
    have h1 := e x
    have h2 := sum_zero e r
    simp only [List.map_cons, List.sum_cons]
    omega
theorem crd_mono : ∀ (s : Sh) (c d : Cr s) (v : Dt s), le s c d → crd s c v ≤ crd s d v
  | .int, _, _, _, _ => Int.le_refl _
  | .bool, _, _, _, _ => Int.le_refl _
  | .pair a b, c, d, v, h => by
    have h1 := crd_mono a c.1 d.1 v.1 h.1
    have h2 := crd_mono b c.2 d.2 v.2 h.2
    simp only [crd]; omega
  | .list a, c, d, v, h => sum_le (fun x => by
      have h1 := crd_mono a c.1 d.1 x h.1
      have h2 : c.2 ≤ d.2 := h.2
      show c.2 + _ ≤ d.2 + _
      omega) (show List (Dt a) from v)
theorem crd_add : ∀ (s : Sh) (c d : Cr s) (v : Dt s), crd s (add s c d) v = crd s c v + crd s d v
  | .int, _, _, _ => rfl
  | .bool, _, _, _ => rfl
  | .pair a b, c, d, v => by
    have h1 := crd_add a c.1 d.1 v.1
    have h2 := crd_add b c.2 d.2 v.2
    simp only [crd, add, cmb] at h1 h2 ⊢; omega
  | .list a, c, d, v => sum_add (fun x => by
      have h1 := crd_add a c.1 d.1 x
      simp only [add, cmb] at h1 ⊢
      omega) (show List (Dt a) from v)
theorem crd_bare : ∀ (s : Sh) (c : Cr s) (v : Dt s), crd s (bare s c) v = 0
  | .int, _, _ => rfl
  | .bool, _, _ => rfl
  | .pair a b, c, v => by
    have h1 := crd_bare a c.1 v.1
    have h2 := crd_bare b c.2 v.2
    simp only [crd, bare, cmb] at h1 h2 ⊢; omega
  | .list a, c, v => sum_zero (fun x => by
      have h1 := crd_bare a c.1 x
      simp only [bare, cmb] at h1 ⊢
      omega) (show List (Dt a) from v)
theorem lack_pair (a b : Sh) (c d : Cr (.pair a b)) : lack (.pair a b) c d = lack a c.1 d.1 + lack b c.2 d.2 := by
  simp only [lack, lackC, cmb, crl, List.sum_append]
theorem lack_list (a : Sh) (c d : Cr (.list a)) : lack (.list a) c d = lack a c.1 d.1 + (if d.2 - c.2 > 0 then d.2 - c.2 else 0) := by
  simp only [lack, lackC, cmb, crl, List.sum_append, List.sum_cons, List.sum_nil, Int.add_zero]
theorem lack_nn : ∀ (s : Sh) (c d : Cr s), 0 ≤ lack s c d
  | .int, _, _ => Int.le_refl _
  | .bool, _, _ => Int.le_refl _
  | .pair a b, c, d => by
    have h1 := lack_nn a c.1 d.1
    have h2 := lack_nn b c.2 d.2
    rw [lack_pair]; omega
  | .list a, c, d => by
    have h1 := lack_nn a c.1 d.1
    rw [lack_list]; split <;> omega
theorem lack_zero : ∀ (s : Sh) (c d : Cr s), lack s c d = 0 ↔ le s d c
  | .int, _, _ => ⟨fun _ => trivial, fun _ => rfl⟩
  | .bool, _, _ => ⟨fun _ => trivial, fun _ => rfl⟩
  | .pair a b, c, d => by
    have h1 := lack_nn a c.1 d.1
    have h2 := lack_nn b c.2 d.2
    rw [lack_pair, le, ← lack_zero a, ← lack_zero b]; omega
  | .list a, c, d => by
    have h1 := lack_nn a c.1 d.1
    rw [lack_list, le, ← lack_zero a]
    split <;> omega
theorem lack_tri : ∀ (s : Sh) (c d e : Cr s), lack s c e ≤ lack s c d + lack s d e
  | .int, _, _, _ => (by decide : (0 : Int) ≤ 0 + 0)
  | .bool, _, _, _ => (by decide : (0 : Int) ≤ 0 + 0)
  | .pair a b, c, d, e => by
    have h1 := lack_tri a c.1 d.1 e.1
    have h2 := lack_tri b c.2 d.2 e.2
    rw [lack_pair, lack_pair, lack_pair]; omega
  | .list a, c, d, e => by
    have h1 := lack_tri a c.1 d.1 e.1
    rw [lack_list, lack_list, lack_list]
    split <;> split <;> split <;> omega
theorem lack_bare : ∀ (s : Sh) (b c : Cr s) (m : Int), okC m s c → lack s (bare s b) c = (crl s c).sum
  | .int, _, _, _, _ => rfl
  | .bool, _, _, _, _ => rfl
  | .pair a b, z, c, m, h => by
    have h1 := lack_bare a z.1 c.1 m h.1
    have h2 := lack_bare b z.2 c.2 m h.2
    rw [lack_pair, crl, List.sum_append, ← h1, ← h2]; rfl
  | .list a, z, c, m, h => by
    have h1 := lack_bare a z.1 c.1 m h.1
    have h2 : (0 : Int) ≤ c.2 := h.2.1
    rw [lack_list, crl, List.sum_append, ← h1]
    have e : (bare (.list a) z).2 = (0 : Int) := rfl
    have e1 : (bare (.list a) z).1 = bare a z.1 := rfl
    rw [e, e1, List.sum_cons, List.sum_nil]
    split <;> omega
theorem sum_crl_add : ∀ (s : Sh) (c d : Cr s), (crl s (add s c d)).sum = (crl s c).sum + (crl s d).sum
  | .int, _, _ => rfl
  | .bool, _, _ => rfl
  | .pair a b, c, d => by
    have h1 := sum_crl_add a c.1 d.1
    have h2 := sum_crl_add b c.2 d.2
    simp only [crl, add, cmb, List.sum_append] at h1 h2 ⊢; omega
  | .list a, c, d => by
    have h1 := sum_crl_add a c.1 d.1
    simp only [crl, add, cmb, List.sum_append, List.sum_cons, List.sum_nil] at h1 ⊢; omega
end NS

set_option maxHeartbeats 1000000
namespace NS
open MP
theorem cov_t {s : Sh} {c d : Cr s} (h : le s d c) : cov s c d = true := (cov_iff s c d).mpr h
theorem eqC_t {s : Sh} {c d : Cr s} (h : c = d) : eqC s c d = true := (eqC_iff s c d).mpr h
section
variable {s : Sh} {v : Dt s} {k : Nat} {μ : Mem}
theorem f_two {c d : Cr s} (hs : dep s ≤ 5) (oc : okC 500000 s c) (od : okC 500000 s d) (hv : goodV s v) (h : 14 ≤ k) : (run T k).fn 35 [kv s c, kv s d, dv s v] μ = .ok (.bl true) μ := by
  obtain ⟨k, rfl, hk⟩ := up h
  have oc' : okC 1000000 s c := ok_mono (by decide) s c oc
  have od' : okC 1000000 s d := ok_mono (by decide) s d od
  have ol : okC 1000000 s (low s c d) := ok_low s c d oc' od'
  have oa : okC 1000000 s (add s c d) := ok_add s c d oc od
  have oa2 : okC 1000000 s (add s d c) := ok_add s d c od oc
  have obc : okC 1000000 s (bare s c) := ok_bare (by decide) s c
  have obd : okC 1000000 s (bare s d) := ok_bare (by decide) s d
  have oba : okC 1000000 s (bare s (add s c d)) := ok_bare (by decide) s _
  have hs10 : dep s ≤ 10 := by omega
  have q1 : cov s c (low s c d) = true := cov_t (low_le1 s c d)
  have q2 : cov s d (low s c d) = true := cov_t (low_le2 s c d)
  have q3 : eqC s (low s d c) (low s c d) = true := eqC_t (low_comm s c d)
  have q4 : eqC s (low s c d) (low s (low s c d) c) = true := eqC_t (low_idem s c d).symm
  have q5 : cov s (add s c d) c = true := cov_t (le_add s c d _ od)
  have q6 : cov s (add s c d) d = true := cov_t (add_comm' s c d ▸ le_add s d c _ oc)
  have q7 : eqC s (add s d c) (add s c d) = true := eqC_t (add_comm' s c d)
  have q8 : crd s (add s c d) v = crd s c v + crd s d v := crd_add s c d v
  have q9 : crd s (low s c d) v ≤ crd s c v := crd_mono s _ _ v (low_le1 s c d)
  have q10 : lack s (add s c d) c = 0 := (lack_zero s _ _).mpr (le_add s c d _ od)
  have q11 : lack s (bare s (add s c d)) (add s c d) = lack s (bare s c) c + lack s (bare s d) d := by
    rw [lack_bare s _ _ _ oa, lack_bare s _ _ _ oc, lack_bare s _ _ _ od, sum_crl_add]
  have q12 : decide (lack s c d = 0) = cov s c d := by
    rw [Bool.eq_iff_iff, decide_eq_true_iff, lack_zero, cov_iff]
  rw [r35]
  simp only [callFn, d__law_two_right]
  simp only [Bool.false_eq_true, if_false, List.length_cons, List.length_nil, if_true, frame0, List.map, List.replicate, Nat.reduceAdd, Nat.reduceSub, List.cons_append, List.nil_append]
  have lt : ∀ {c d : Cr s}, okC 1000000 s c → okC 1000000 s d → (run T k).fn 26 [kv s c, kv s d] μ = .ok (kv s (low s c d)) μ := fun a b => f_least hs a b (by omega)
  have cv : ∀ {c d : Cr s}, okC 1000000 s c → okC 1000000 s d → (run T k).fn 25 [kv s c, kv s d] μ = .ok (.bl (cov s c d)) μ := fun a b => f_covers hs a b (by omega)
  have lk : ∀ {c d : Cr s}, okC 1000000 s c → okC 1000000 s d → (run T k).fn 28 [kv s c, kv s d] μ = .ok (.int (lack s c d)) μ := fun a b => f_lacking hs a b (by omega)
  have cr : ∀ {c : Cr s}, okC 1000000 s c → (run T k).fn 11 [kv s c, dv s v] μ = .ok (.int (crd s c v)) μ := fun a => f_credit hs a hv (by omega)
  have br : ∀ {c : Cr s}, okC 1000000 s c → (run T k).fn 23 [kv s c] μ = .ok (kv s (bare s c)) μ := fun a => f_bare hs a (by omega)
  rw [x_set (v := kv s (low s c d)) (μ' := μ) (by simp [MP.callFn, MP.execs, MP.exec, MP.ev, MP.evs, MP.evAnd, MP.evOr, MP.evI, MP.bodyOut, MP.frame0, MP.isiV, MP.ob, MP.tst, MP.truth, MP.thenB, MP.SOut.seq, MP.cmpop, MP.bltV, MP.ixV, MP.itemsOf, at0, at1, at2, MP.binop, MP.setS, MP.bindT, MP.bindT.setAll, MP.callLam, sl1, sl2, sl3, sl4, sl5, sl6, sl7, lt oc' od']) rfl]
  rw [x_skip (μ' := μ) (by simp [MP.callFn, MP.execs, MP.exec, MP.ev, MP.evs, MP.evAnd, MP.evOr, MP.evI, MP.bodyOut, MP.frame0, MP.isiV, MP.ob, MP.tst, MP.truth, MP.thenB, MP.SOut.seq, MP.cmpop, MP.bltV, MP.ixV, MP.itemsOf, at0, at1, at2, MP.binop, MP.setS, MP.bindT, MP.bindT.setAll, MP.callLam, sl1, sl2, sl3, sl4, sl5, sl6, sl7, cv oc' ol, cv od' ol, lt od' oc', eqV_kv hs10, q1, q2, q3])]
  rw [x_skip (μ' := μ) (by simp [MP.callFn, MP.execs, MP.exec, MP.ev, MP.evs, MP.evAnd, MP.evOr, MP.evI, MP.bodyOut, MP.frame0, MP.isiV, MP.ob, MP.tst, MP.truth, MP.thenB, MP.SOut.seq, MP.cmpop, MP.bltV, MP.ixV, MP.itemsOf, at0, at1, at2, MP.binop, MP.setS, MP.bindT, MP.bindT.setAll, MP.callLam, sl1, sl2, sl3, sl4, sl5, sl6, sl7, f_kind (μ := μ) (k := k) hs ol (by omega), f_isval (μ := μ) (k := k) hs ol hv (by omega), f_same (μ := μ) (k := k) hs oc' od' (by omega), lt ol oc', eqV_kv hs10, q4])]
  rw [x_skip (μ' := μ) (by
    simp [MP.callFn, MP.execs, MP.exec, MP.ev, MP.evs, MP.evAnd, MP.evOr, MP.evI, MP.bodyOut, MP.frame0, MP.isiV, MP.ob, MP.tst, MP.truth, MP.thenB, MP.SOut.seq, MP.cmpop, MP.bltV, MP.ixV, MP.itemsOf, at0, at1, at2, MP.binop, MP.setS, MP.bindT, MP.bindT.setAll, MP.callLam, sl1, sl2, sl3, sl4, sl5, sl6, sl7, cv oc' od']
    cases hcd : cov s c d with
    | false => simp
    | true =>
      have hle := (cov_iff s c d).mp hcd
      have h1 := crd_mono s d c v hle
      have h2 : eqC s (low s c d) d = true := eqC_t (low_of_le s c d hle)
      have h3 : decide (crd s c v < crd s d v) = false := by simp; omega
      simp [cr oc', cr od', eqV_kv hs10, h2, h3])]
  rw [x_skip (μ' := μ) (by simp [MP.callFn, MP.execs, MP.exec, MP.ev, MP.evs, MP.evAnd, MP.evOr, MP.evI, MP.bodyOut, MP.frame0, MP.isiV, MP.ob, MP.tst, MP.truth, MP.thenB, MP.SOut.seq, MP.cmpop, MP.bltV, MP.ixV, MP.itemsOf, at0, at1, at2, MP.binop, MP.setS, MP.bindT, MP.bindT.setAll, MP.callLam, sl1, sl2, sl3, sl4, sl5, sl6, sl7, cv oc' od', lk oc' od', eqV, q12])]
  rw [x_skip (μ' := μ) (by
    simp [MP.callFn, MP.execs, MP.exec, MP.ev, MP.evs, MP.evAnd, MP.evOr, MP.evI, MP.bodyOut, MP.frame0, MP.isiV, MP.ob, MP.tst, MP.truth, MP.thenB, MP.SOut.seq, MP.cmpop, MP.bltV, MP.ixV, MP.itemsOf, at0, at1, at2, MP.binop, MP.setS, MP.bindT, MP.bindT.setAll, MP.callLam, sl1, sl2, sl3, sl4, sl5, sl6, sl7, cv oc' od', cv od' oc']
    cases hcd : cov s c d with
    | false => simp
    | true => cases hdc : cov s d c with
      | false => simp
      | true =>
        have h2 : eqC s c d = true := eqC_t (le_anti s _ _ ((cov_iff s d c).mp hdc) ((cov_iff s c d).mp hcd))
        simp [eqV_kv hs10, h2])]
  rw [x_set (v := kv s (add s c d)) (μ' := μ) (by simp [MP.callFn, MP.execs, MP.exec, MP.ev, MP.evs, MP.evAnd, MP.evOr, MP.evI, MP.bodyOut, MP.frame0, MP.isiV, MP.ob, MP.tst, MP.truth, MP.thenB, MP.SOut.seq, MP.cmpop, MP.bltV, MP.ixV, MP.itemsOf, at0, at1, at2, MP.binop, MP.setS, MP.bindT, MP.bindT.setAll, MP.callLam, sl1, sl2, sl3, sl4, sl5, sl6, sl7, f_added (μ := μ) (k := k) hs oc' od' oa (by omega)]) rfl]
  rw [x_skip (μ' := μ) (by simp [MP.callFn, MP.execs, MP.exec, MP.ev, MP.evs, MP.evAnd, MP.evOr, MP.evI, MP.bodyOut, MP.frame0, MP.isiV, MP.ob, MP.tst, MP.truth, MP.thenB, MP.SOut.seq, MP.cmpop, MP.bltV, MP.ixV, MP.itemsOf, at0, at1, at2, MP.binop, MP.setS, MP.bindT, MP.bindT.setAll, MP.callLam, sl1, sl2, sl3, sl4, sl5, sl6, sl7, cv oa oc', cv oa od', f_added (μ := μ) (k := k) hs od' oc' oa2 (by omega), eqV_kv hs10, q5, q6, q7])]
  rw [x_skip (μ' := μ) (by
    have h3 : decide (crd s c v < crd s (low s c d) v) = false := by simp; omega
    simp [MP.callFn, MP.execs, MP.exec, MP.ev, MP.evs, MP.evAnd, MP.evOr, MP.evI, MP.bodyOut, MP.frame0, MP.isiV, MP.ob, MP.tst, MP.truth, MP.thenB, MP.SOut.seq, MP.cmpop, MP.bltV, MP.ixV, MP.itemsOf, at0, at1, at2, MP.binop, MP.setS, MP.bindT, MP.bindT.setAll, MP.callLam, sl1, sl2, sl3, sl4, sl5, sl6, sl7, cr oa, cr oc', cr od', cr ol, eqV, q8, h3])]
  rw [x_set (v := .int (lack s (bare s c) c + lack s (bare s d) d)) (μ' := μ) (by simp [MP.callFn, MP.execs, MP.exec, MP.ev, MP.evs, MP.evAnd, MP.evOr, MP.evI, MP.bodyOut, MP.frame0, MP.isiV, MP.ob, MP.tst, MP.truth, MP.thenB, MP.SOut.seq, MP.cmpop, MP.bltV, MP.ixV, MP.itemsOf, at0, at1, at2, MP.binop, MP.setS, MP.bindT, MP.bindT.setAll, MP.callLam, sl1, sl2, sl3, sl4, sl5, sl6, sl7, br oc', br od', lk obc oc', lk obd od']) rfl]
  rw [x_ret (v := .bl true) (μ' := μ) (by simp [MP.callFn, MP.execs, MP.exec, MP.ev, MP.evs, MP.evAnd, MP.evOr, MP.evI, MP.bodyOut, MP.frame0, MP.isiV, MP.ob, MP.tst, MP.truth, MP.thenB, MP.SOut.seq, MP.cmpop, MP.bltV, MP.ixV, MP.itemsOf, at0, at1, at2, MP.binop, MP.setS, MP.bindT, MP.bindT.setAll, MP.callLam, sl1, sl2, sl3, sl4, sl5, sl6, sl7, br oa, lk oa oc', lk oba oa, eqV, q10, q11])]
  rfl
end
end NS

set_option maxHeartbeats 1000000
namespace NS
open MP
theorem eqV_int (a b : Int) : eqV (.int a) (.int b) = some (decide (a = b)) := rfl
section
variable {s : Sh} {v : Dt s} {k : Nat} {μ : Mem}
theorem f_three {c d e : Cr s} (hs : dep s ≤ 5) (oc : okC 500000 s c) (od : okC 500000 s d) (oe : okC 500000 s e) (hv : goodV s v) (h : 14 ≤ k) : (run T k).fn 36 [kv s c, kv s d, kv s e, dv s v] μ = .ok (.bl true) μ := by
  obtain ⟨k, rfl, hk⟩ := up h
  have oc' : okC 1000000 s c := ok_mono (by decide) s c oc
  have od' : okC 1000000 s d := ok_mono (by decide) s d od
  have oe' : okC 1000000 s e := ok_mono (by decide) s e oe
  have ol : okC 1000000 s (low s c d) := ok_low s c d oc' od'
  have ol2 : okC 1000000 s (low s d e) := ok_low s d e od' oe'
  have obc : okC 1000000 s (bare s c) := ok_bare (by decide) s c
  have oa : okC 1000000 s (add s c (bare s c)) := by rw [add_bare]; exact oc'
  have hs10 : dep s ≤ 10 := by omega
  have q2 : eqC s (low s (low s c d) e) (low s c (low s d e)) = true := eqC_t (low_assoc s c d e)
  have q4 : decide (lack s c d + lack s d e < lack s c e) = false := by
    have := lack_tri s c d e
    simp; omega
  have q5 : crd s (bare s c) v = 0 := crd_bare s c v
  have q6 : eqC s (bare s (bare s c)) (bare s c) = true := eqC_t (bare_any s _ _)
  have q7 : eqC s (add s c (bare s c)) c = true := eqC_t (add_bare s c)
  have q8 : cov s e (bare s c) = true := cov_t (bare_le s c e _ oe)
  have q9 : eqC s (bare s c) (bare s e) = true := eqC_t (bare_any s _ _)
  rw [r36]
  simp only [callFn, d__law_three_right]
  simp only [Bool.false_eq_true, if_false, List.length_cons, List.length_nil, if_true, frame0, List.map, List.replicate, Nat.reduceAdd, Nat.reduceSub, List.cons_append, List.nil_append]
  have lt : ∀ {c d : Cr s}, okC 1000000 s c → okC 1000000 s d → (run T k).fn 26 [kv s c, kv s d] μ = .ok (kv s (low s c d)) μ := fun a b => f_least hs a b (by omega)
  have cv : ∀ {c d : Cr s}, okC 1000000 s c → okC 1000000 s d → (run T k).fn 25 [kv s c, kv s d] μ = .ok (.bl (cov s c d)) μ := fun a b => f_covers hs a b (by omega)
  have lk : ∀ {c d : Cr s}, okC 1000000 s c → okC 1000000 s d → (run T k).fn 28 [kv s c, kv s d] μ = .ok (.int (lack s c d)) μ := fun a b => f_lacking hs a b (by omega)
  have cr : ∀ {c : Cr s}, okC 1000000 s c → (run T k).fn 11 [kv s c, dv s v] μ = .ok (.int (crd s c v)) μ := fun a => f_credit hs a hv (by omega)
  have br : ∀ {c : Cr s}, okC 1000000 s c → (run T k).fn 23 [kv s c] μ = .ok (kv s (bare s c)) μ := fun a => f_bare hs a (by omega)
  have ce : ∀ {c : Cr s}, okC 1000000 s c → (run T k).fn 13 [kv s c, dv s v] μ = .ok (.int (cel s v)) μ := fun a => f_cells hs a hv (by omega)
  rw [x_skip (μ' := μ) (by
    simp [MP.callFn, MP.execs, MP.exec, MP.ev, MP.evs, MP.evAnd, MP.evOr, MP.evI, MP.bodyOut, MP.frame0, MP.isiV, MP.ob, MP.tst, MP.truth, MP.thenB, MP.SOut.seq, MP.cmpop, MP.bltV, MP.ixV, MP.itemsOf, at0, at1, at2, MP.binop, MP.setS, MP.bindT, MP.bindT.setAll, MP.callLam, sl1, sl2, sl3, sl4, sl5, sl6, sl7, cv oc' od', cv od' oe', cv oc' oe']
    cases h1 : cov s c d with
    | false => simp
    | true => cases h2 : cov s d e with
      | false => simp
      | true =>
        have h3 : cov s c e = true := cov_t (le_tr s _ _ _ ((cov_iff s d e).mp h2) ((cov_iff s c d).mp h1))
        simp [h3])]
  rw [x_skip (μ' := μ) (by simp [MP.callFn, MP.execs, MP.exec, MP.ev, MP.evs, MP.evAnd, MP.evOr, MP.evI, MP.bodyOut, MP.frame0, MP.isiV, MP.ob, MP.tst, MP.truth, MP.thenB, MP.SOut.seq, MP.cmpop, MP.bltV, MP.ixV, MP.itemsOf, at0, at1, at2, MP.binop, MP.setS, MP.bindT, MP.bindT.setAll, MP.callLam, sl1, sl2, sl3, sl4, sl5, sl6, sl7, lt oc' od', lt ol oe', lt od' oe', lt oc' ol2, eqV_kv hs10, q2])]
  rw [x_skip (μ' := μ) (by
    simp [MP.callFn, MP.execs, MP.exec, MP.ev, MP.evs, MP.evAnd, MP.evOr, MP.evI, MP.bodyOut, MP.frame0, MP.isiV, MP.ob, MP.tst, MP.truth, MP.thenB, MP.SOut.seq, MP.cmpop, MP.bltV, MP.ixV, MP.itemsOf, at0, at1, at2, MP.binop, MP.setS, MP.bindT, MP.bindT.setAll, MP.callLam, sl1, sl2, sl3, sl4, sl5, sl6, sl7, cv oc' oe', cv od' oe', lt oc' od', cv ol oe']
    cases h1 : cov s c e with
    | false => simp
    | true => cases h2 : cov s d e with
      | false => simp
      | true =>
        have h3 : cov s (low s c d) e = true := cov_t (le_low s _ _ _ ((cov_iff s c e).mp h1) ((cov_iff s d e).mp h2))
        simp [h3])]
  rw [x_skip (μ' := μ) (by simp [MP.callFn, MP.execs, MP.exec, MP.ev, MP.evs, MP.evAnd, MP.evOr, MP.evI, MP.bodyOut, MP.frame0, MP.isiV, MP.ob, MP.tst, MP.truth, MP.thenB, MP.SOut.seq, MP.cmpop, MP.bltV, MP.ixV, MP.itemsOf, at0, at1, at2, MP.binop, MP.setS, MP.bindT, MP.bindT.setAll, MP.callLam, sl1, sl2, sl3, sl4, sl5, sl6, sl7, lk oc' oe', lk oc' od', lk od' oe', q4])]
  rw [x_set (v := kv s (bare s c)) (μ' := μ) (by simp [MP.callFn, MP.execs, MP.exec, MP.ev, MP.evs, MP.evAnd, MP.evOr, MP.evI, MP.bodyOut, MP.frame0, MP.isiV, MP.ob, MP.tst, MP.truth, MP.thenB, MP.SOut.seq, MP.cmpop, MP.bltV, MP.ixV, MP.itemsOf, at0, at1, at2, MP.binop, MP.setS, MP.bindT, MP.bindT.setAll, MP.callLam, sl1, sl2, sl3, sl4, sl5, sl6, sl7, br oc']) rfl]
  rw [x_skip (μ' := μ) (by simp [MP.callFn, MP.execs, MP.exec, MP.ev, MP.evs, MP.evAnd, MP.evOr, MP.evI, MP.bodyOut, MP.frame0, MP.isiV, MP.ob, MP.tst, MP.truth, MP.thenB, MP.SOut.seq, MP.cmpop, MP.bltV, MP.ixV, MP.itemsOf, at0, at1, at2, MP.binop, MP.setS, MP.bindT, MP.bindT.setAll, MP.callLam, sl1, sl2, sl3, sl4, sl5, sl6, sl7, cr obc, br obc, f_added (μ := μ) (k := k) hs oc' obc oa (by omega), cv oe' obc, eqV_kv hs10, q5, q6, q7, q8, eqV_int])]
  rw [x_ret (v := .bl true) (μ' := μ) (by simp [MP.callFn, MP.execs, MP.exec, MP.ev, MP.evs, MP.evAnd, MP.evOr, MP.evI, MP.bodyOut, MP.frame0, MP.isiV, MP.ob, MP.tst, MP.truth, MP.thenB, MP.SOut.seq, MP.cmpop, MP.bltV, MP.ixV, MP.itemsOf, at0, at1, at2, MP.binop, MP.setS, MP.bindT, MP.bindT.setAll, MP.callLam, sl1, sl2, sl3, sl4, sl5, sl6, sl7, ce oc', ce oe', br oe', eqV_kv hs10, q9, eqV_int])]
  rfl
end
end NS

set_option maxHeartbeats 1000000
/-! The laws' source of numbers. -/
namespace MP
def dDraw : FnD := ⟨"_law_draw", 2, false, false, ["_law_source", "_law_limit", "_law_digit", "_law_prime", "_law_mixed"], (.cons (.ite (.cmp .gt (.ix (.var 0) (.int 0)) (.int 0)) (.cons (.set (.one 2) (.bin .mod (.ix (.var 0) (.int 0)) (.var 1))) (.cons (.put (.var 0) (.int 0) (.bin .fdiv (.ix (.var 0) (.int 0)) (.var 1))) (.cons (.ret (.var 2)) .nil))) .nil) (.cons (.put (.var 0) (.int 2) (.bin .add (.ix (.var 0) (.int 2)) (.int 1))) (.cons (.set (.one 3) (.ix (.lst (.cons (.int 2147483647) (.cons (.int 2147483629) (.cons (.int 2147483587) (.cons (.int 2147483579) (.cons (.int 2147483563) (.cons (.int 2147483549) (.cons (.int 2147483543) .nil)))))))) (.bin .mod (.ix (.var 0) (.int 2)) (.int 7)))) (.cons (.set (.one 4) (.bin .mod (.bin .pow (.bin .add (.bin .add (.ix (.var 0) (.int 1)) (.bin .mul (.bin .mul (.int 6700417) (.ix (.var 0) (.int 2))) (.ix (.var 0) (.int 2)))) (.int 31)) (.int 3)) (.var 3))) (.cons (.ret (.bin .mod (.bin .fdiv (.bin .mod (.bin .mul (.var 4) (.bin .add (.bin .mod (.var 4) (.int 10007)) (.bin .mul (.int 103) (.ix (.var 0) (.int 2))))) (.int 2305843009213693921)) (.int 103)) (.var 1))) .nil)))))⟩
def dStart : FnD := ⟨"_law_start", 2, false, false, ["_law_script", "_law_k", "_law_cell", "_law_large"], (.cons (.set (.one 2) (.ite (.cmp .lt (.var 1) (.blt .len (.cons (.var 0) .nil))) (.ix (.var 0) (.var 1)) (.bin .add (.bin .mul (.int 23) (.var 1)) (.int 9)))) (.cons (.set (.one 3) (.bin .mul (.bin .mod (.blt .abs (.cons (.var 2) .nil)) (.bin .pow (.bin .pow (.int 10) (.int 60)) (.int 5))) (.blt .int1 (.cons (.cmp .ge (.blt .abs (.cons (.var 2) .nil)) (.bin .pow (.int 10) (.int 18))) .nil)))) (.cons (.ret (.mlst (.cons (.var 3) (.cons (.bin .mod (.bin .mul (.bin .add (.bin .add (.bin .mod (.var 2) (.int 2305843009213693951)) (.bin .mul (.bin .mul (.int 15485927) (.var 1)) (.var 1))) (.int 67)) (.int 48271)) (.int 2305843009213693907)) (.cons (.int 0) .nil))))) .nil)))⟩
def dChoice (g : Nat) : FnD := ⟨"_law_choice", 2, false, false, ["_law_source", "_law_items"], (.cons (.ret (.ix (.var 1) (.call g (.cons (.var 0) (.cons (.blt .len (.cons (.var 1) .nil)) .nil))))) .nil)⟩
theorem at_nat {α : Type} {xs : List α} {i : Int} {x : α} (h : 0 ≤ i) (hx : xs[i.toNat]? = some x) : L2.atI xs i = some x := by
  have hl : i.toNat < xs.length := (List.getElem?_eq_some_iff.mp hx).1
  have e : L2.ixN xs.length i = some i.toNat := by
    unfold L2.ixN
    rw [if_pos h, if_pos (by omega)]
  unfold L2.atI
  rw [e]
  exact hx
theorem at0 {α : Type} (x : α) (r : List α) : L2.atI (x :: r) 0 = some x := at_nat (by decide) rfl
theorem at1 {α : Type} (x y : α) (r : List α) : L2.atI (x :: y :: r) 1 = some y := at_nat (by decide) rfl
theorem at2 {α : Type} (x y z : α) (r : List α) : L2.atI (x :: y :: z :: r) 2 = some z := at_nat (by decide) rfl
theorem lg {x : Int} {e : Nat} (h0 : 0 ≤ x) (h : x < 2 ^ e) : x.natAbs.log2 ≤ e := by
  by_cases hz : x.natAbs = 0
  · rw [hz]; exact Nat.zero_le _
  · refine Nat.le_of_lt ((Nat.log2_lt hz).mpr ?_)
    have : ((x.natAbs : Nat) : Int) < ((2 ^ e : Nat) : Int) := by
      rw [Int.natAbs_of_nonneg h0, Int.natCast_pow]
      exact h
    exact Int.ofNat_lt.mp this
theorem bits_le {x : Int} {e : Nat} (h0 : 0 ≤ x) (h : x < 2 ^ e) : PySem.Builtin.Int.intBits x ≤ e + 1 := by
  have := lg h0 h
  unfold PySem.Builtin.Int.intBits
  split <;> omega
theorem mulB {x y A B : Int} (hx : 0 ≤ x) (hx2 : x ≤ A) (hy : 0 ≤ y) (hy2 : y ≤ B) : 0 ≤ x * y ∧ x * y ≤ A * B :=
  ⟨Int.mul_nonneg hx hy, Int.mul_le_mul hx2 hy2 hy (Int.le_trans hx hx2)⟩
/-- the source n, its counter at most m -/
def Src (n m : Nat) (μ : Mem) : Prop := ∃ a b c : Int, μ[n]? = some (.lst [.int a, .int b, .int c]) ∧ 0 ≤ b ∧ b < 2 ^ 61 ∧ 0 ≤ c ∧ c ≤ m
theorem Src.up {n m m' : Nat} {μ : Mem} (h : Src n m μ) (hm : m ≤ m') : Src n m' μ := by
  obtain ⟨a, b, c, h1, h2, h3, h4, h5⟩ := h
  exact ⟨a, b, c, h1, h2, h3, h4, by omega⟩
theorem put_at {μ : Mem} {n : Nat} {xs : List Val} {i : Int} {j : Nat} {v : Val} (h : μ[n]? = some (.lst xs)) (hj : L2.ixN xs.length i = some j) : putV (.ref n) (.int i) v μ = some (μ.set n (.lst (xs.set j v))) := by
  simp [putV, h, hj]
theorem set_at {μ : Mem} {n : Nat} {c c' : Cell} (h : μ[n]? = some c) : (μ.set n c')[n]? = some c' := by
  have : n < μ.length := (List.getElem?_eq_some_iff.mp h).1
  simp [this]
def primes : List Val := [.int 2147483647, .int 2147483629, .int 2147483587, .int 2147483579, .int 2147483563, .int 2147483549, .int 2147483543]
theorem prime_at {j : Int} (h0 : 0 ≤ j) (h7 : j < 7) : ∃ p : Int, L2.atI primes j = some (.int p) ∧ 0 < p ∧ p < 2147483648 := by
  have : j = 0 ∨ j = 1 ∨ j = 2 ∨ j = 3 ∨ j = 4 ∨ j = 5 ∨ j = 6 := by omega
  rcases this with h | h | h | h | h | h | h <;> subst h <;> exact ⟨_, at_nat (by decide) rfl, by decide, by decide⟩
theorem e_ix {O : Orc} {a b : X} {ρ : Frame} {μ : Mem} {x y : Val} {xs : List Val} {i : Int} {v : Val} (ha : ev O a ρ μ = .ok x μ) (hb : ev O b ρ μ = .ok (.int i) μ) (hx : itemsOf x μ = some xs) (hi : L2.atI xs i = some v) : ev O (.ix a b) ρ μ = .ok v μ := by
  simp [ev, ha, hb, ixV, hx, hi]
theorem e_bin {O : Orc} {op : Bop} {a b : X} {ρ : Frame} {μ μ' μ'' : Mem} {x y : Val} (ha : ev O a ρ μ = .ok x μ') (hb : ev O b ρ μ' = .ok y μ'') : ev O (.bin op a b) ρ μ = binop op x y μ'' := by
  simp [ev, ha, hb]
theorem x_ret {O : Orc} {x : X} {r : Ss} {ρ : Frame} {μ μ' : Mem} {v : Val} (h : ev O x ρ μ = .ok v μ') : execs O (.cons (.ret x) r) ρ μ = .ok (.rt v) μ' := by
  simp [execs, exec, h, SOut.seq]
theorem x_skip {O : Orc} {c : X} {a r : Ss} {ρ : Frame} {μ μ' : Mem} (h : ev O c ρ μ = .ok (.bl false) μ') : execs O (.cons (.ite c a .nil) r) ρ μ = execs O r ρ μ' := by
  simp [execs, exec, h, SOut.seq, tst, truth]
theorem x_take {O : Orc} {c : X} {a : X} {b r : Ss} {ρ : Frame} {μ μ' μ'' : Mem} {v : Val} (h : ev O c ρ μ = .ok (.bl true) μ') (h2 : ev O a ρ μ' = .ok v μ'') : execs O (.cons (.ite c (.cons (.ret a) .nil) b) r) ρ μ = .ok (.rt v) μ'' := by
  simp [execs, exec, h, h2, SOut.seq, tst, truth]
theorem x_takes {O : Orc} {c : X} {a b r : Ss} {ρ : Frame} {μ μ' μ'' : Mem} {v : Val} (h : ev O c ρ μ = .ok (.bl true) μ') (h2 : execs O a ρ μ' = .ok (.rt v) μ'') : execs O (.cons (.ite c a b) r) ρ μ = .ok (.rt v) μ'' := by
  simp [execs, exec, h, h2, SOut.seq, tst, truth]
theorem x_expr {O : Orc} {x : X} {r : Ss} {ρ : Frame} {μ μ' : Mem} {v : Val} (h : ev O x ρ μ = .ok v μ') : execs O (.cons (.expr x) r) ρ μ = execs O r ρ μ' := by
  simp [execs, exec, h, SOut.seq]
theorem x_set {O : Orc} {x : X} {r : Ss} {ρ ρ' : Frame} {μ μ' : Mem} {v : Val} {t : Tgt} (h : ev O x ρ μ = .ok v μ') (h2 : bindT t v ρ = some ρ') : execs O (.cons (.set t x) r) ρ μ = execs O r ρ' μ' := by
  simp [execs, exec, h, h2, SOut.seq, setS]
theorem x_put {O : Orc} {o i x : X} {r : Ss} {ρ : Frame} {μ μ1 μ2 : Mem} {v a k : Val} (h : ev O x ρ μ = .ok v μ1) (ho : ev O o ρ μ1 = .ok a μ1) (hi : ev O i ρ μ1 = .ok k μ1) (hp : putV a k v μ1 = some μ2) : execs O (.cons (.put o i x) r) ρ μ = execs O r ρ μ2 := by
  simp [execs, exec, h, ho, hi, hp, SOut.seq, putS]
theorem e_at {O : Orc} {ρ : Frame} {μ : Mem} {n : Nat} {a b c : Int} (h : ρ[0]? = some (some (.ref n))) (hm : μ[n]? = some (.lst [.int a, .int b, .int c])) :
    ev O (.ix (.var 0) (.int 0)) ρ μ = .ok (.int a) μ ∧ ev O (.ix (.var 0) (.int 1)) ρ μ = .ok (.int b) μ ∧ ev O (.ix (.var 0) (.int 2)) ρ μ = .ok (.int c) μ := by
  simp [ev, h, ixV, itemsOf, hm, at0, at1, at2]
theorem ix_src {μ : Mem} {n : Nat} {a b c : Int} (hm : μ[n]? = some (.lst [.int a, .int b, .int c])) :
    ixV (.ref n) (.int 0) μ = .ok (.int a) μ ∧ ixV (.ref n) (.int 1) μ = .ok (.int b) μ ∧ ixV (.ref n) (.int 2) μ = .ok (.int c) μ := by
  simp [ixV, itemsOf, hm, at0, at1, at2]
theorem ix3 : L2.ixN 3 0 = some 0 ∧ L2.ixN 3 2 = some 2 := by decide
theorem draw_ok {O : Orc} {n m : Nat} {μ : Mem} {l : Int} (S : Src n m μ) (hm : m ≤ 2 ^ 40) (h0 : 0 < l) (h1 : l < 2 ^ 60) :
    ∃ r μ', callFn O dDraw [.ref n, .int l] μ = .ok (.int r) μ' ∧ 0 ≤ r ∧ r < l ∧ Src n (m + 1) μ' ∧ μ'.length = μ.length := by
  obtain ⟨a, b, c, hμ, hb0, hb1, hc0, hc1⟩ := S
  simp only [callFn, dDraw]
  simp only [Bool.false_eq_true, if_false, List.length_cons, List.length_nil, if_true, frame0, List.map, List.replicate, Nat.reduceAdd, Nat.reduceSub, List.cons_append, List.nil_append]
  have lg1 : l.natAbs.log2 < 9000 := Nat.lt_of_le_of_lt (lg (Int.le_of_lt h0) h1) (by decide)
  by_cases ha : 0 < a
  · have E := e_at (O := O) (ρ := [some (.ref n), some (.int l), none, none, none]) (μ := μ) rfl hμ
    have E2 := e_at (O := O) (ρ := [some (.ref n), some (.int l), some (.int (a % l)), none, none]) (μ := μ) rfl hμ
    refine ⟨a % l, μ.set n (.lst [.int (a / l), .int b, .int c]), ?_, Int.emod_nonneg _ (by omega), Int.emod_lt_of_pos _ h0, ⟨a / l, b, c, set_at hμ, hb0, hb1, hc0, by omega⟩, by simp⟩
    rw [x_takes (v := .int (a % l)) (μ' := μ) (μ'' := μ.set n (.lst [.int (a / l), .int b, .int c])) (by simp [ev, (ix_src hμ).1, cmpop, ha]) ?_]
    · rfl
    · rw [x_set (v := .int (a % l)) (μ' := μ) (by rw [e_bin E.1 (y := .int l) (μ'' := μ) (by simp [ev])]; simp [binop, h0]) rfl]
      rw [x_put (v := .int (a / l)) (μ1 := μ) (a := .ref n) (k := .int 0) (μ2 := μ.set n (.lst [.int (a / l), .int b, .int c])) ?_ (by simp [ev]) (by simp [ev]) (put_at hμ ix3.1)]
      · exact x_ret (by simp [ev])
      · show ev O _ [some (.ref n), some (.int l), some (.int (a % l)), none, none] μ = _
        rw [e_bin E2.1 (y := .int l) (μ'' := μ) (by simp [ev])]
        simp [binop, h0, lg1]
  · have hx0 : 0 ≤ c + 1 := by omega
    have hx1 : c + 1 ≤ 2 ^ 41 := by omega
    have hμ' : (μ.set n (.lst [.int a, .int b, .int (c + 1)]))[n]? = some (.lst [.int a, .int b, .int (c + 1)]) := set_at hμ
    have E := e_at (O := O) (ρ := [some (.ref n), some (.int l), none, none, none]) (μ := μ) rfl hμ
    obtain ⟨p, hp, p0, p1⟩ := prime_at (j := (c + 1) % 7) (by omega) (by omega)
    have m1 := mulB (x := 6700417) (y := c + 1) (A := 6700417) (B := 2 ^ 41) (by decide) (by decide) hx0 hx1
    have m2 := mulB (x := 6700417 * (c + 1)) (y := c + 1) (A := 6700417 * 2 ^ 41) (B := 2 ^ 41) m1.1 m1.2 hx0 hx1
    obtain ⟨z, hz⟩ : ∃ z, z = 6700417 * (c + 1) * (c + 1) := ⟨_, rfl⟩
    obtain ⟨y, hy⟩ : ∃ y, y = b + z + 31 := ⟨_, rfl⟩
    have y0 : 0 ≤ y := by omega
    have y1 : y < 2 ^ 110 := by omega
    have by1 := bits_le y0 y1
    obtain ⟨q, hq⟩ : ∃ q, q = y ^ 3 % p := ⟨_, rfl⟩
    have q0 : 0 ≤ q := hq ▸ Int.emod_nonneg _ (by omega)
    have q1 : q < p := hq ▸ Int.emod_lt_of_pos _ p0
    obtain ⟨t, ht⟩ : ∃ t, t = q % 10007 + 103 * (c + 1) := ⟨_, rfl⟩
    have t0 : 0 ≤ t := by omega
    have t1 : t < 2 ^ 60 := by omega
    have k1 : Nat.log2 6700417 + (c + 1).natAbs.log2 < 1000000 := by
      have := lg (e := 42) hx0 (by omega)
      have : Nat.log2 6700417 = 22 := by decide
      omega
    have k2 : (6700417 * (c + 1)).natAbs.log2 + (c + 1).natAbs.log2 < 1000000 := by
      have := lg (e := 42) hx0 (by omega)
      have := lg (e := 80) m1.1 (by omega)
      omega
    have k3 : q.natAbs.log2 + t.natAbs.log2 < 1000000 := by
      have := lg (e := 40) q0 (by omega)
      have := lg (e := 60) t0 (by omega)
      omega
    have k4 : Nat.log2 103 + (c + 1).natAbs.log2 < 1000000 := by
      have := lg (e := 42) hx0 (by omega)
      have : Nat.log2 103 = 6 := by decide
      omega
    have k5 : (PySem.Builtin.Int.intBits y : Int) * 3 ≤ 134217728 := by omega
    refine ⟨q * t % 2305843009213693921 / 103 % l, μ.set n (.lst [.int a, .int b, .int (c + 1)]), ?_, Int.emod_nonneg _ (by omega), Int.emod_lt_of_pos _ h0, ⟨a, b, c + 1, hμ', hb0, hb1, hx0, by omega⟩, by simp⟩
    rw [x_skip (μ' := μ) (by simp [ev, (ix_src hμ).1, cmpop]; omega)]
    rw [x_put (v := .int (c + 1)) (μ1 := μ) (a := .ref n) (k := .int 2) (μ2 := μ.set n (.lst [.int a, .int b, .int (c + 1)])) (by rw [e_bin E.2.2 (y := .int 1) (μ'' := μ) (by simp [ev])]; simp [binop]) (by simp [ev]) (by simp [ev]) (put_at hμ ix3.2)]
    generalize hM : μ.set n (.lst [.int a, .int b, .int (c + 1)]) = M at hμ' ⊢
    have E1 := ix_src hμ'
    rw [x_set (v := .int p) (μ' := M) (ρ' := [some (.ref n), some (.int l), none, some (.int p), none]) ?_ rfl]
    · rw [x_set (v := .int q) (μ' := M) (ρ' := [some (.ref n), some (.int l), none, some (.int p), some (.int q)]) ?_ rfl]
      · rw [x_ret (v := .int (q * t % 2305843009213693921 / 103 % l)) (μ' := M) ?_]
        · rfl
        · have lg103 : Nat.log2 103 < 9000 := by decide
          simp [ev, E1, binop, k4, ← ht, k3, h0, lg103]
      · have e3 : (3 : Int).toNat = 3 := rfl
        simp [ev, E1, binop, k1, k2, ← hz, ← hy, k5, p0, ← hq]
    · have sl : 7 ≤ PySem.sizeLine := by decide +kernel
      have hp' := hp
      simp only [primes] at hp'
      simp [ev, evs, E1, binop, sl]
      simp [ixV, itemsOf, hp']
theorem choice_ok {O : Orc} {n m g : Nat} {μ : Mem} {xs : List Val} (hO : ∀ l : Int, 0 < l → l < 2 ^ 60 → ∃ r μ', O.fn g [.ref n, .int l] μ = .ok (.int r) μ' ∧ 0 ≤ r ∧ r < l ∧ Src n (m + 1) μ' ∧ μ'.length = μ.length)
    (h0 : 0 < xs.length) (h1 : xs.length < 1000) : ∃ x ∈ xs, ∃ μ', callFn O (dChoice g) [.ref n, .lst xs] μ = .ok x μ' ∧ Src n (m + 1) μ' ∧ μ'.length = μ.length := by
  obtain ⟨r, μ', e, r0, r1, S, hl⟩ := hO xs.length (by omega) (by omega)
  have hr : r.toNat < xs.length := by omega
  refine ⟨xs[r.toNat], List.getElem_mem hr, μ', ?_, S, hl⟩
  have hi : L2.atI xs r = some xs[r.toNat] := at_nat r0 (List.getElem?_eq_getElem hr)
  simp [callFn, dChoice, execs, exec, ev, evs, bodyOut, frame0, SOut.seq, bltV, e, ixV, itemsOf, hi]
theorem pow_op {i j : Int} {μ : Mem} (h0 : 0 ≤ j) (h : (PySem.Builtin.Int.intBits i : Int) * j ≤ 2 ^ 27) : binop .pow (.int i) (.int j) μ = .ok (.int (i ^ j.toNat)) μ := by
  simp only [binop]
  exact if_pos ⟨h0, h⟩
theorem mod_op {i j : Int} {μ : Mem} (h0 : 0 < j) : binop .mod (.int i) (.int j) μ = .ok (.int (i % j)) μ := by
  simp only [binop]
  exact if_pos h0
theorem mul_op {i j : Int} {μ : Mem} (h : i.natAbs.log2 + j.natAbs.log2 < 1000000) : binop .mul (.int i) (.int j) μ = .ok (.int (i * j)) μ := by
  simp only [binop]
  exact if_pos h
theorem start_ok {O : Orc} {μ : Mem} {ns : List Int} {k : Nat} (hk : k < 1000) :
    ∃ μ', callFn O dStart [.scr (ns.map .int), .int k] μ = .ok (.ref μ.length) μ' ∧ Src μ.length 0 μ' ∧ μ'.length = μ.length + 1 := by
  simp only [callFn, dStart]
  simp only [Bool.false_eq_true, if_false, List.length_cons, List.length_nil, if_true, frame0, List.map, List.replicate, Nat.reduceAdd, Nat.reduceSub, List.cons_append, List.nil_append]
  have hcell : ∃ x : Int, ev O (.ite (.cmp .lt (.var 1) (.blt .len (.cons (.var 0) .nil))) (.ix (.var 0) (.var 1)) (.bin .add (.bin .mul (.int 23) (.var 1)) (.int 9))) [some (.scr (ns.map .int)), some (.int k), none, none] μ = .ok (.int x) μ := by
    by_cases h : k < ns.length
    · refine ⟨ns[k], ?_⟩
      have hi : L2.atI (ns.map Val.int) (k : Int) = some (.int ns[k]) := at_nat (by omega) (by simp [h])
      simp [ev, evs, cmpop, bltV, tst, truth, h, ixV, itemsOf, hi]
    · have l1 := lg (x := (k : Int)) (e := 10) (by omega) (by omega)
      have l2 : Nat.log2 23 + (k : Int).natAbs.log2 < 1000000 := by
        have : Nat.log2 23 = 4 := by decide
        omega
      refine ⟨23 * k + 9, ?_⟩
      have l3 : Nat.log2 23 + Nat.log2 k < 1000000 := l2
      simp [ev, evs, cmpop, bltV, tst, truth, h, binop, l3]
  obtain ⟨x, hx⟩ := hcell
  obtain ⟨A, hA⟩ : ∃ A : Int, A = if x < 0 then -x else x := ⟨_, rfl⟩
  obtain ⟨L, hL⟩ : ∃ L : Int, L = A % ((10 ^ 60) ^ 5) := ⟨_, rfl⟩
  have L0 : 0 ≤ L := hL ▸ Int.emod_nonneg _ (by decide)
  have L1 : L < (10 ^ 60) ^ 5 := hL ▸ Int.emod_lt_of_pos _ (by decide)
  have lL := lg (x := L) (e := 1000) L0 (Int.lt_of_lt_of_le L1 (by decide +kernel))
  obtain ⟨B, hB⟩ : ∃ B : Int, B = (if decide ((10 : Int) ^ 18 ≤ A) then 1 else 0) := ⟨_, rfl⟩
  have B1 : B = 0 ∨ B = 1 := by rw [hB]; split <;> simp
  have kB : L.natAbs.log2 + B.natAbs.log2 < 1000000 := by
    have : B.natAbs.log2 ≤ 1 := by rcases B1 with h | h <;> subst h <;> decide
    omega
  have c1 : (PySem.Builtin.Int.intBits 10 : Int) * 60 ≤ 134217728 := by decide +kernel
  have c2 : (PySem.Builtin.Int.intBits (10 ^ 60) : Int) * 5 ≤ 134217728 := by decide +kernel
  have c3 : (PySem.Builtin.Int.intBits 10 : Int) * 18 ≤ 134217728 := by decide +kernel
  have c4 : (0 : Int) < (10 ^ 60) ^ 5 := by decide
  rw [x_set (v := .int x) (μ' := μ) hx rfl]
  rw [x_set (v := .int (L * B)) (μ' := μ) (ρ' := [some (.scr (ns.map .int)), some (.int k), some (.int x), some (.int (L * B))]) ?_ rfl]
  · have l1 := lg (x := (k : Int)) (e := 10) (by omega) (by omega)
    have l2 : Nat.log2 15485927 + (k : Int).natAbs.log2 < 1000000 := by
      have : Nat.log2 15485927 = 23 := by decide +kernel
      omega
    have m1 := mulB (x := 15485927) (y := (k : Int)) (A := 15485927) (B := 1000) (by decide) (by decide) (by omega) (by omega)
    have m2 := mulB (x := 15485927 * (k : Int)) (y := (k : Int)) (A := 15485927 * 1000) (B := 1000) m1.1 m1.2 (by omega) (by omega)
    have l3 : (15485927 * (k : Int)).natAbs.log2 + (k : Int).natAbs.log2 < 1000000 := by
      have := lg (e := 40) m1.1 (by omega)
      omega
    obtain ⟨z, hz⟩ : ∃ z : Int, z = 15485927 * (k : Int) * k := ⟨_, rfl⟩
    obtain ⟨y, hy⟩ : ∃ y : Int, y = x % 2305843009213693951 + z + 67 := ⟨_, rfl⟩
    have y0 : 0 ≤ y := by omega
    have y1 : y < 2 ^ 62 := by omega
    have l4 : y.natAbs.log2 + Nat.log2 48271 < 1000000 := by
      have := lg (e := 62) y0 y1
      have : Nat.log2 48271 = 15 := by decide +kernel
      omega
    have l2' : Nat.log2 15485927 + Nat.log2 k < 1000000 := l2
    have l3' : (15485927 * (k : Int)).natAbs.log2 + Nat.log2 k < 1000000 := l3
    have sl : 3 ≤ PySem.sizeLine := by decide +kernel
    refine ⟨μ ++ [.lst [.int (L * B), .int (y * 48271 % 2305843009213693907), .int 0]], ?_, ⟨L * B, y * 48271 % 2305843009213693907, 0, by simp, by omega, by omega, by omega, by omega⟩, by simp⟩
    rw [x_ret (v := .ref μ.length) (μ' := μ ++ [.lst [.int (L * B), .int (y * 48271 % 2305843009213693907), .int 0]]) (by simp [ev, evs, binop, l2', l3', ← hz, ← hy, l4, sl])]
    rfl
  · show ev O _ [some (.scr (ns.map .int)), some (.int k), some (.int x), none] μ = _
    generalize hρ : ([some (.scr (ns.map .int)), some (.int k), some (.int x), none] : Frame) = ρ
    have a1 : ev O (.blt .abs (.cons (.var 2) .nil)) ρ μ = .ok (.int A) μ := by
      subst hρ
      simp [ev, evs, bltV, hA]
    have n0 : ∀ i : Int, ev O (.int i) ρ μ = .ok (.int i) μ := fun i => by simp [ev]
    have a2 : ev O (.bin .pow (.int 10) (.int 60)) ρ μ = .ok (.int (10 ^ 60)) μ := by
      rw [e_bin (n0 10) (n0 60)]
      exact pow_op (by decide) c1
    have a3 : ev O (.bin .pow (.bin .pow (.int 10) (.int 60)) (.int 5)) ρ μ = .ok (.int ((10 ^ 60) ^ 5)) μ := by
      rw [e_bin a2 (n0 5)]
      exact pow_op (by decide) c2
    have a4 : ev O (.bin .pow (.int 10) (.int 18)) ρ μ = .ok (.int (10 ^ 18)) μ := by
      rw [e_bin (n0 10) (n0 18)]
      exact pow_op (by decide) c3
    have a5 : ev O (.bin .mod (.blt .abs (.cons (.var 2) .nil)) (.bin .pow (.bin .pow (.int 10) (.int 60)) (.int 5))) ρ μ = .ok (.int L) μ := by
      rw [e_bin a1 a3, hL]
      exact mod_op c4
    have a6 : ev O (.blt .int1 (.cons (.cmp .ge (.blt .abs (.cons (.var 2) .nil)) (.bin .pow (.int 10) (.int 18))) .nil)) ρ μ = .ok (.int B) μ := by
      have e1 : ev O (.cmp .ge (.blt .abs (.cons (.var 2) .nil)) (.bin .pow (.int 10) (.int 18))) ρ μ = .ok (.bl (decide ((10 : Int) ^ 18 ≤ A))) μ := by
        rw [ev, a1, Out.bind_ok, a4]; rfl
      rw [ev, evs, e1, hB]; rfl
    rw [e_bin a5 a6]
    exact mul_op kB
/-- a comprehension whose turns draw -/
theorem compL_src {f : Val → Mem → Out Val} {P : Val → Prop} {n B : Nat} : ∀ (xs acc : List Val) (μ : Mem) (m : Nat), (∀ x ∈ xs, ∀ μ m, Src n m μ → m + B ≤ 2 ^ 40 → ∃ v μ', f x μ = .ok v μ' ∧ P v ∧ Src n (m + B) μ') → Src n m μ → m + xs.length * B ≤ 2 ^ 40 → acc.length + xs.length ≤ PySem.sizeLine →
    ∃ vs μ', compL f xs acc μ = .ok (.lst (acc ++ vs)) μ' ∧ vs.length = xs.length ∧ (∀ v ∈ vs, P v) ∧ Src n (m + xs.length * B) μ'
  | [], acc, μ, m, _, S, _, _ => ⟨[], μ, by simp [compL], rfl, fun v hv => (by cases hv), by simpa using S⟩
  | x :: r, acc, μ, m, hf, S, hm, hl => by
    rw [List.length_cons] at hm hl
    have e1 : (r.length + 1) * B = r.length * B + B := Nat.succ_mul _ _
    rw [e1] at hm
    obtain ⟨v, μ1, h1, hP, S1⟩ := hf x List.mem_cons_self μ m S (by omega)
    obtain ⟨vs, μ', h2, h3, h4, S2⟩ := compL_src r (acc ++ [v]) μ1 (m + B) (fun y hy => hf y (List.mem_cons_of_mem _ hy)) S1 (by omega) (by simp; omega)
    refine ⟨v :: vs, μ', ?_, by simp [h3], fun u hu => ?_, ?_⟩
    · rw [compL, h1]
      simp only
      rw [if_pos (by omega), h2]
      simp
    · rcases List.mem_cons.mp hu with rfl | hu
      · exact hP
      · exact h4 u hu
    · rw [List.length_cons, e1]
      exact S2.up (by omega)
end MP

set_option maxHeartbeats 1000000
namespace NS
open MP
section
variable {n m k : Nat} {μ : Mem}
theorem f_draw {l : Int} (h : 1 ≤ k) (S : Src n m μ) (hm : m ≤ 2 ^ 40) (h0 : 0 < l) (h1 : l < 2 ^ 60) :
    ∃ r μ', (run T k).fn 30 [.ref n, .int l] μ = .ok (.int r) μ' ∧ 0 ≤ r ∧ r < l ∧ Src n (m + 1) μ' ∧ μ'.length = μ.length := by
  obtain ⟨k, rfl, hk⟩ := up h
  rw [r30, show d__law_draw = dDraw from rfl]
  exact draw_ok S hm h0 h1
theorem f_choice {xs : List Val} (h : 2 ≤ k) (S : Src n m μ) (hm : m ≤ 2 ^ 40) (h0 : 0 < xs.length) (h1 : xs.length < 1000) :
    ∃ x ∈ xs, ∃ μ', (run T k).fn 31 [.ref n, .lst xs] μ = .ok x μ' ∧ Src n (m + 1) μ' ∧ μ'.length = μ.length := by
  obtain ⟨k, rfl, hk⟩ := up h
  rw [r31, show d__law_choice = dChoice 30 from rfl]
  exact choice_ok (fun l a b => f_draw hk S hm a b) h0 h1
end
theorem tenp (d : Nat) : 10 ^ (d + 1 + 1) = 10 * 10 ^ (d + 1) := by rw [Nat.pow_succ 10 (d + 1)]; omega
theorem ten1 (d : Nat) : 10 ≤ 10 ^ (d + 1) := by
  have : 1 ≤ 10 ^ d := Nat.one_le_pow _ _ (by decide)
  rw [Nat.pow_succ]; omega
theorem f_dkind {n : Nat} : ∀ (d k m : Nat) (μ : Mem), Src n m μ → m + 10 ^ (d + 1) ≤ 2 ^ 40 → d + 4 ≤ k → ∃ s c μ', (run T k).fn 32 [.ref n, .int d] μ = .ok (kv s c) μ' ∧ dep s ≤ d ∧ Src n (m + 10 ^ (d + 1)) μ'
  | d, k, m, μ, S, hm, h => by
    have t1 := ten1 d
    obtain ⟨k, rfl, hk⟩ := up (n := d + 3) (by omega)
    rw [r32]
    simp only [callFn, d__law_kind]
    simp only [Bool.false_eq_true, if_false, List.length_cons, List.length_nil, if_true, frame0, List.map, List.replicate, Nat.reduceAdd, Nat.reduceSub, List.cons_append, List.nil_append]
    have hway : ∃ r μ1, ev (run T k) (.ite (.cmp .gt (.var 1) (.int 0)) (.call 30 (.cons (.var 0) (.cons (.int 5) .nil))) (.call 30 (.cons (.var 0) (.cons (.int 2) .nil)))) [some (.ref n), some (.int d), none, none] μ = .ok (.int r) μ1 ∧ 0 ≤ r ∧ (2 ≤ r → 0 < d ∧ r < 5) ∧ Src n (m + 1) μ1 := by
      by_cases hd : 0 < d
      · obtain ⟨r, μ1, e, r0, r1, S1, _⟩ := f_draw (k := k) (l := 5) (by omega) S (by omega) (by decide) (by decide)
        exact ⟨r, μ1, by simp [MP.callFn, MP.execs, MP.exec, MP.ev, MP.evs, MP.evAnd, MP.evOr, MP.evI, MP.bodyOut, MP.frame0, MP.isiV, MP.ob, MP.tst, MP.truth, MP.thenB, MP.SOut.seq, MP.cmpop, MP.bltV, MP.ixV, MP.itemsOf, at0, at1, at2, MP.binop, MP.setS, MP.bindT, MP.bindT.setAll, MP.callLam, sl1, sl2, sl3, sl4, sl5, sl6, sl7, hd, e], r0, fun _ => ⟨hd, r1⟩, S1⟩
      · obtain ⟨r, μ1, e, r0, r1, S1, _⟩ := f_draw (k := k) (l := 2) (by omega) S (by omega) (by decide) (by decide)
        exact ⟨r, μ1, by simp [MP.callFn, MP.execs, MP.exec, MP.ev, MP.evs, MP.evAnd, MP.evOr, MP.evI, MP.bodyOut, MP.frame0, MP.isiV, MP.ob, MP.tst, MP.truth, MP.thenB, MP.SOut.seq, MP.cmpop, MP.bltV, MP.ixV, MP.itemsOf, at0, at1, at2, MP.binop, MP.setS, MP.bindT, MP.bindT.setAll, MP.callLam, sl1, sl2, sl3, sl4, sl5, sl6, sl7, hd, e], r0, fun z => by omega, S1⟩
    obtain ⟨r, μ1, e1, r0, r5, S1⟩ := hway
    rw [NS.x_set (v := .int r) (μ' := μ1) (ρ' := [some (.ref n), some (.int d), some (.int r), none]) e1 rfl]
    by_cases h2 : r < 2
    · have hc : r = 0 ∨ r = 1 := by omega
      rcases hc with rfl | rfl
      · refine ⟨.int, (), μ1, ?_, Nat.zero_le _, S1.up (by omega)⟩
        rw [NS.x_take (v := .str "int") (μ' := μ1) (μ'' := μ1) (by simp [MP.callFn, MP.execs, MP.exec, MP.ev, MP.evs, MP.evAnd, MP.evOr, MP.evI, MP.bodyOut, MP.frame0, MP.isiV, MP.ob, MP.tst, MP.truth, MP.thenB, MP.SOut.seq, MP.cmpop, MP.bltV, MP.ixV, MP.itemsOf, at0, at1, at2, MP.binop, MP.setS, MP.bindT, MP.bindT.setAll, MP.callLam, sl1, sl2, sl3, sl4, sl5, sl6, sl7]) (by simp [MP.callFn, MP.execs, MP.exec, MP.ev, MP.evs, MP.evAnd, MP.evOr, MP.evI, MP.bodyOut, MP.frame0, MP.isiV, MP.ob, MP.tst, MP.truth, MP.thenB, MP.SOut.seq, MP.cmpop, MP.bltV, MP.ixV, MP.itemsOf, at0, at1, at2, MP.binop, MP.setS, MP.bindT, MP.bindT.setAll, MP.callLam, sl1, sl2, sl3, sl4, sl5, sl6, sl7])]
        rfl
      · refine ⟨.bool, (), μ1, ?_, Nat.zero_le _, S1.up (by omega)⟩
        rw [NS.x_take (v := .str "bool") (μ' := μ1) (μ'' := μ1) (by simp [MP.callFn, MP.execs, MP.exec, MP.ev, MP.evs, MP.evAnd, MP.evOr, MP.evI, MP.bodyOut, MP.frame0, MP.isiV, MP.ob, MP.tst, MP.truth, MP.thenB, MP.SOut.seq, MP.cmpop, MP.bltV, MP.ixV, MP.itemsOf, at0, at1, at2, MP.binop, MP.setS, MP.bindT, MP.bindT.setAll, MP.callLam, sl1, sl2, sl3, sl4, sl5, sl6, sl7]) (by simp [MP.callFn, MP.execs, MP.exec, MP.ev, MP.evs, MP.evAnd, MP.evOr, MP.evI, MP.bodyOut, MP.frame0, MP.isiV, MP.ob, MP.tst, MP.truth, MP.thenB, MP.SOut.seq, MP.cmpop, MP.bltV, MP.ixV, MP.itemsOf, at0, at1, at2, MP.binop, MP.setS, MP.bindT, MP.bindT.setAll, MP.callLam, sl1, sl2, sl3, sl4, sl5, sl6, sl7])]
        rfl
    · obtain ⟨hd, r5⟩ := r5 (by omega)
      rw [NS.x_skip (μ' := μ1) (by simp [MP.callFn, MP.execs, MP.exec, MP.ev, MP.evs, MP.evAnd, MP.evOr, MP.evI, MP.bodyOut, MP.frame0, MP.isiV, MP.ob, MP.tst, MP.truth, MP.thenB, MP.SOut.seq, MP.cmpop, MP.bltV, MP.ixV, MP.itemsOf, at0, at1, at2, MP.binop, MP.setS, MP.bindT, MP.bindT.setAll, MP.callLam, sl1, sl2, sl3, sl4, sl5, sl6, sl7]; omega)]
      obtain ⟨d, rfl⟩ : ∃ d', d = d' + 1 := ⟨d - 1, by omega⟩
      have tp := tenp d
      have t2 := ten1 d
      have e4 : ((d + 1 : Nat) : Int) - 1 = (d : Int) := by omega
      by_cases h3 : r = 2
      · subst h3
        obtain ⟨s1, c1, μ2, i1, hs1, S2⟩ := f_dkind d k (m + 1) μ1 S1 (by omega) (by omega)
        obtain ⟨s2, c2, μ3, i2, hs2, S3⟩ := f_dkind d k _ μ2 S2 (by omega) (by omega)
        refine ⟨.pair s1 s2, (c1, c2), μ3, ?_, by simp only [dep]; omega, S3.up (by omega)⟩
        rw [NS.x_take (v := kv (.pair s1 s2) (c1, c2)) (μ' := μ1) (μ'' := μ3) (by simp [MP.callFn, MP.execs, MP.exec, MP.ev, MP.evs, MP.evAnd, MP.evOr, MP.evI, MP.bodyOut, MP.frame0, MP.isiV, MP.ob, MP.tst, MP.truth, MP.thenB, MP.SOut.seq, MP.cmpop, MP.bltV, MP.ixV, MP.itemsOf, at0, at1, at2, MP.binop, MP.setS, MP.bindT, MP.bindT.setAll, MP.callLam, sl1, sl2, sl3, sl4, sl5, sl6, sl7, eqV]) (by
          simp only [ev, evs, Out.bind_ok, binop, List.getElem?_cons_succ, List.getElem?_cons_zero, e4, i1, i2, List.length_cons, List.length_nil, if_pos sl3, Nat.zero_add, Nat.reduceAdd]
          rfl)]
        rfl
      · rw [NS.x_skip (μ' := μ1) (by simp [MP.callFn, MP.execs, MP.exec, MP.ev, MP.evs, MP.evAnd, MP.evOr, MP.evI, MP.bodyOut, MP.frame0, MP.isiV, MP.ob, MP.tst, MP.truth, MP.thenB, MP.SOut.seq, MP.cmpop, MP.bltV, MP.ixV, MP.itemsOf, at0, at1, at2, MP.binop, MP.setS, MP.bindT, MP.bindT.setAll, MP.callLam, sl1, sl2, sl3, sl4, sl5, sl6, sl7, eqV]; omega)]
        obtain ⟨x, hx, μ2, i1, S2, _⟩ := f_choice (k := k) (xs := [.int 0, .int 0, .int 1, .int 2, .int 5, .int 30, .int 1000000]) (by omega) S1 (by omega) (by decide) (by decide)
        have hxi : ∃ i : Int, x = .int i := by
          simp only [List.mem_cons, List.not_mem_nil, or_false] at hx
          rcases hx with h | h | h | h | h | h | h <;> exact ⟨_, h⟩
        obtain ⟨i, rfl⟩ := hxi
        have p6 : binop .pow (.int 10) (.int 6) μ1 = .ok (.int 1000000) μ1 := pow_op (by decide) (by decide +kernel)
        rw [NS.x_set (v := .int i) (μ' := μ2) (ρ' := [some (.ref n), some (.int ((d + 1 : Nat) : Int)), some (.int r), some (.int i)]) (by
          simp [ev, evs, sl7, i1, p6]) rfl]
        obtain ⟨s1, c1, μ3, i2, hs1, S3⟩ := f_dkind d k _ μ2 S2 (by omega) (by omega)
        refine ⟨.list s1, (c1, i), μ3, ?_, by simp only [dep]; omega, S3.up (by omega)⟩
        rw [NS.x_ret (v := kv (.list s1) (c1, i)) (μ' := μ3) (by
          simp only [ev, evs, Out.bind_ok, binop, List.getElem?_cons_succ, List.getElem?_cons_zero, e4, i2, List.length_cons, List.length_nil, if_pos sl3, Nat.zero_add, Nat.reduceAdd]
          rfl)]
        rfl
end NS

set_option maxHeartbeats 1000000
namespace NS
open MP
theorem up2 {d e : Nat} (h : d ≤ e) : 10 ^ (d + 1) ≤ 10 ^ (e + 1) := Nat.pow_le_pow_right (by decide) (by omega)
theorem f_dsmall {n : Nat} : ∀ (s : Sh) (c : Cr s) (k m : Nat) (μ : Mem), Src n m μ → m + 10 ^ (dep s + 1) ≤ 2 ^ 40 → dep s + 4 ≤ k → ∃ c' μ', (run T k).fn 34 [.ref n, kv s c] μ = .ok (kv s c') μ' ∧ okC 500000 s c' ∧ Src n (m + 10 ^ (dep s + 1)) μ'
  | .int, c, k, m, μ, S, hm, h => by
    obtain ⟨k, rfl, hk⟩ := up h
    refine ⟨c, μ, ?_, trivial, S.up (Nat.le_add_right _ _)⟩
    rw [r34]
    simp [MP.callFn, MP.execs, MP.exec, MP.ev, MP.evs, MP.evAnd, MP.evOr, MP.evI, MP.bodyOut, MP.frame0, MP.isiV, MP.ob, MP.tst, MP.truth, MP.thenB, MP.SOut.seq, MP.cmpop, MP.bltV, MP.ixV, MP.itemsOf, at0, at1, at2, MP.binop, MP.setS, MP.bindT, MP.bindT.setAll, MP.callLam, sl1, sl2, sl3, sl4, sl5, sl6, sl7, d__law_small, kv]
  | .bool, c, k, m, μ, S, hm, h => by
    obtain ⟨k, rfl, hk⟩ := up h
    refine ⟨c, μ, ?_, trivial, S.up (Nat.le_add_right _ _)⟩
    rw [r34]
    simp [MP.callFn, MP.execs, MP.exec, MP.ev, MP.evs, MP.evAnd, MP.evOr, MP.evI, MP.bodyOut, MP.frame0, MP.isiV, MP.ob, MP.tst, MP.truth, MP.thenB, MP.SOut.seq, MP.cmpop, MP.bltV, MP.ixV, MP.itemsOf, at0, at1, at2, MP.binop, MP.setS, MP.bindT, MP.bindT.setAll, MP.callLam, sl1, sl2, sl3, sl4, sl5, sl6, sl7, d__law_small, kv]
  | .pair a b, c, k, m, μ, S, hm, h => by
    have tp := tenp (max (dep a) (dep b))
    have ua := up2 (Nat.le_max_left (dep a) (dep b))
    have ub := up2 (Nat.le_max_right (dep a) (dep b))
    simp only [dep] at hm h ⊢
    obtain ⟨k, rfl, hk⟩ := up (n := max (dep a) (dep b) + 4) (by omega)
    obtain ⟨c1, μ1, i1, o1, S1⟩ := f_dsmall a c.1 k m μ S (by omega) (by omega)
    obtain ⟨c2, μ2, i2, o2, S2⟩ := f_dsmall b c.2 k _ μ1 S1 (by omega) (by omega)
    refine ⟨(c1, c2), μ2, ?_, ⟨o1, o2⟩, S2.up (by omega)⟩
    rw [r34]
    simp [MP.callFn, MP.execs, MP.exec, MP.ev, MP.evs, MP.evAnd, MP.evOr, MP.evI, MP.bodyOut, MP.frame0, MP.isiV, MP.ob, MP.tst, MP.truth, MP.thenB, MP.SOut.seq, MP.cmpop, MP.bltV, MP.ixV, MP.itemsOf, at0, at1, at2, MP.binop, MP.setS, MP.bindT, MP.bindT.setAll, MP.callLam, sl1, sl2, sl3, sl4, sl5, sl6, sl7, d__law_small, kv, eqV, i1, i2]
  | .list a, c, k, m, μ, S, hm, h => by
    have tp := tenp (dep a)
    have t1 := ten1 (dep a)
    simp only [dep] at hm h ⊢
    obtain ⟨k, rfl, hk⟩ := up (n := dep a + 4) (by omega)
    obtain ⟨r, μ1, e1, r0, r1, S1, _⟩ := f_draw (k := k) (l := 9) (by omega) S (by omega) (by decide) (by decide)
    obtain ⟨c1, μ2, i1, o1, S2⟩ := f_dsmall a c.1 k _ μ1 S1 (by omega) (by omega)
    obtain ⟨x, hx, μ3, i2, S3, _⟩ := f_choice (k := k) (xs := [.int 0, .int 1, .int 2, .int 7, .int 40, .int 300000, .int r]) (by omega) S2 (by omega) (by simp) (by simp)
    have hxi : ∃ i : Int, x = .int i ∧ 0 ≤ i ∧ i ≤ 500000 := by
      simp only [List.mem_cons, List.not_mem_nil, or_false] at hx
      rcases hx with h | h | h | h | h | h | h <;> exact ⟨_, h, by omega, by omega⟩
    obtain ⟨i, rfl, hi0, hi1⟩ := hxi
    refine ⟨(c1, i), μ3, ?_, ⟨o1, hi0, hi1⟩, S3.up (by omega)⟩
    have p5 : binop .pow (.int 10) (.int 5) μ = .ok (.int 100000) μ := pow_op (by decide) (by decide +kernel)
    have p6 : binop .mul (.int 3) (.int 100000) μ = .ok (.int 300000) μ := mul_op (by decide +kernel)
    have el : ev (run T k) (.lst (.cons (.int 0) (.cons (.int 1) (.cons (.int 2) (.cons (.int 7) (.cons (.int 40) (.cons (.bin .mul (.int 3) (.bin .pow (.int 10) (.int 5))) (.cons (.call 30 (.cons (.var 0) (.cons (.int 9) .nil))) .nil)))))))) [some (.ref n), some (kv (.list a) c), none] μ = .ok (.lst [.int 0, .int 1, .int 2, .int 7, .int 40, .int 300000, .int r]) μ1 := by
      simp [ev, evs, p5, p6, e1, sl7]
    rw [r34]
    simp only [callFn, d__law_small]
    simp only [Bool.false_eq_true, if_false, List.length_cons, List.length_nil, if_true, frame0, List.map, List.replicate, Nat.reduceAdd, Nat.reduceSub, List.cons_append, List.nil_append]
    rw [NS.x_skip (μ' := μ) (by simp [MP.callFn, MP.execs, MP.exec, MP.ev, MP.evs, MP.evAnd, MP.evOr, MP.evI, MP.bodyOut, MP.frame0, MP.isiV, MP.ob, MP.tst, MP.truth, MP.thenB, MP.SOut.seq, MP.cmpop, MP.bltV, MP.ixV, MP.itemsOf, at0, at1, at2, MP.binop, MP.setS, MP.bindT, MP.bindT.setAll, MP.callLam, sl1, sl2, sl3, sl4, sl5, sl6, sl7, kv])]
    rw [NS.x_skip (μ' := μ) (by simp [MP.callFn, MP.execs, MP.exec, MP.ev, MP.evs, MP.evAnd, MP.evOr, MP.evI, MP.bodyOut, MP.frame0, MP.isiV, MP.ob, MP.tst, MP.truth, MP.thenB, MP.SOut.seq, MP.cmpop, MP.bltV, MP.ixV, MP.itemsOf, at0, at1, at2, MP.binop, MP.setS, MP.bindT, MP.bindT.setAll, MP.callLam, sl1, sl2, sl3, sl4, sl5, sl6, sl7, kv, eqV, w_lp])]
    rw [NS.x_set (μ' := μ1) el rfl]
    rw [NS.x_ret (v := kv (.list a) (c1, i)) (μ' := μ3) (by simp [MP.callFn, MP.execs, MP.exec, MP.ev, MP.evs, MP.evAnd, MP.evOr, MP.evI, MP.bodyOut, MP.frame0, MP.isiV, MP.ob, MP.tst, MP.truth, MP.thenB, MP.SOut.seq, MP.cmpop, MP.bltV, MP.ixV, MP.itemsOf, at0, at1, at2, MP.binop, MP.setS, MP.bindT, MP.bindT.setAll, MP.callLam, sl1, sl2, sl3, sl4, sl5, sl6, sl7, kv, i1, i2])]
    rfl
/-! ### values -/
def inD : (s : Sh) → Nat → Dt s → Prop
  | .int, _, i => -1000000000 ≤ (show Int from i) ∧ (show Int from i) ≤ 1000000000
  | .bool, _, _ => True
  | .pair a b, m, d => inD a m d.1 ∧ inD b m d.2
  | .list a, m, xs => List.length xs ≤ m ∧ ∀ x ∈ (show List (Dt a) from xs), inD a (m - 1) x
theorem inD_ok : ∀ (s : Sh) (m : Nat) (v : Dt s), m ≤ 4 → inD s m v → okD s v
  | .int, _, _, _, h => h
  | .bool, _, _, _, _ => trivial
  | .pair a b, m, v, hm, h => ⟨inD_ok a m v.1 hm h.1, inD_ok b m v.2 hm h.2⟩
  | .list a, m, v, hm, h => ⟨Nat.le_trans h.1 hm, fun x hx => inD_ok a (m - 1) x (by omega) (h.2 x hx)⟩
def F : Nat → Nat → Nat
  | 0, _ => 1
  | d + 1, m => max (1 + 2 * F d m) (1 + m * F d (m - 1))
theorem F1 : ∀ d m, 1 ≤ F d m
  | 0, _ => Nat.le_refl _
  | d + 1, m => by simp only [F]; omega
theorem sum_bound {α : Type} {f : α → Int} {B : Nat} : ∀ xs : List α, (∀ x ∈ xs, f x ≤ (B : Int)) → (xs.map f).sum ≤ (xs.length * B : Nat)
  | [], _ => by simp
  | x :: r, h => by
    have h1 := h x List.mem_cons_self
    have h2 := sum_bound r fun y hy => h y (List.mem_cons_of_mem _ hy)
    simp only [List.map_cons, List.sum_cons, List.length_cons, Nat.succ_mul]
    omega
theorem pc_le : ∀ (s : Sh) (d m : Nat) (v : Dt s), dep s ≤ d → inD s m v → pc s v ≤ (F d m : Nat)
  | .int, d, m, v, _, _ => by have := F1 d m; simp only [pc]; omega
  | .bool, d, m, v, _, _ => by have := F1 d m; simp only [pc]; omega
  | .pair a b, d, m, v, hd, h => by
    simp only [dep] at hd
    obtain ⟨d, rfl⟩ : ∃ e, d = e + 1 := ⟨d - 1, by omega⟩
    have h1 := pc_le a d m v.1 (by omega) h.1
    have h2 := pc_le b d m v.2 (by omega) h.2
    simp only [pc, F]
    omega
  | .list a, d, m, v, hd, h => by
    change List (Dt a) at v
    simp only [dep] at hd
    obtain ⟨d, rfl⟩ : ∃ e, d = e + 1 := ⟨d - 1, by omega⟩
    have h1 := sum_bound v fun x hx => pc_le a d (m - 1) x (by omega) (h.2 x hx)
    have h2 : v.length * F d (m - 1) ≤ m * F d (m - 1) := Nat.mul_le_mul_right _ h.1
    simp only [pc, F]
    omega
theorem good_of {s : Sh} {v : Dt s} (hs : dep s ≤ 5) (h : inD s 4 v) : goodV s v := by
  refine ⟨inD_ok s 4 v (Nat.le_refl _) h, ?_⟩
  have h1 := pc_le s 5 4 v hs h
  have h2 : F 5 4 ≤ 2000 := by decide +kernel
  omega
theorem eqV_tup_str {xs : List Val} {z : PySem.Str} {s : Sh} {c : Cr s} (e : kv s c = .tup xs) (hs : dep s ≤ 10) (hz : PySem.SeqAt.shaped (.str z) = true) : eqV (kv s c) (.str z) = some false := by
  have e1 := dat_kv s c
  have e2 := shaped_kd hs c
  rw [e] at e1 ⊢
  have e4 : ∃ ys, kd s c = .tuple ys := by
    cases s with
    | int => simp [kv] at e
    | bool => simp [kv] at e
    | pair a b => exact ⟨_, rfl⟩
    | list a => exact ⟨_, rfl⟩
  obtain ⟨ys, e4⟩ := e4
  have e3 : eqV (.tup xs) (.str z) = (match dat (.tup xs), dat (.str z) with
    | some d, some e => if PySem.SeqAt.shaped d && PySem.SeqAt.shaped e then some (PySem.PyData.eqv d e) else none
    | _, _ => none) := rfl
  rw [e3, e1, e4]
  rw [e4] at e2
  simp [dat, e2, hz, PySem.PyData.eqv]
theorem sh_int : PySem.SeqAt.shaped (.str "int") = true := by decide +kernel
theorem sh_bool : PySem.SeqAt.shaped (.str "bool") = true := by decide +kernel
theorem back {α : Type} {f : α → Val} {P : α → Prop} : ∀ vs : List Val, (∀ v ∈ vs, ∃ d, v = f d ∧ P d) → ∃ ds : List α, vs = ds.map f ∧ ∀ d ∈ ds, P d
  | [], _ => ⟨[], rfl, fun d hd => by cases hd⟩
  | v :: r, h => by
    obtain ⟨d, rfl, hp⟩ := h v List.mem_cons_self
    obtain ⟨ds, rfl, hq⟩ := back r fun u hu => h u (List.mem_cons_of_mem _ hu)
    refine ⟨d :: ds, rfl, fun e he => ?_⟩
    rcases List.mem_cons.mp he with rfl | he
    · exact hp
    · exact hq e he
end NS

set_option maxHeartbeats 1000000
namespace NS
open MP
theorem f_dvalue {n : Nat} : ∀ (s : Sh) (c : Cr s) (w k m : Nat) (μ : Mem), dep s ≤ 10 → w ≤ 4 → Src n m μ → m + 10 ^ (dep s + 1) ≤ 2 ^ 40 → dep s + 4 ≤ k → ∃ v μ', (run T k).fn 33 [.ref n, kv s c, .int w] μ = .ok (dv s v) μ' ∧ inD s w v ∧ Src n (m + 10 ^ (dep s + 1)) μ'
  | .int, c, w, k, m, μ, hs, hw, S, hm, h => by
    have t1 := ten1 (dep .int)
    obtain ⟨k, rfl, hk⟩ := up (n := 3) (by simp only [dep] at h; omega)
    obtain ⟨r, μ1, e1, r0, r1, S1, _⟩ := f_draw (k := k) (l := 1000) (by omega) S (by omega) (by decide) (by decide)
    obtain ⟨x, hx, μ2, i2, S2, _⟩ := f_choice (k := k) (xs := [.int 0, .int 1, .int (-1), .int 5, .int 1000000000, .int (-1000000000), .int r]) (by omega) S1 (by omega) (by simp) (by simp)
    have hxi : ∃ i : Int, x = .int i ∧ -1000000000 ≤ i ∧ i ≤ 1000000000 := by
      simp only [List.mem_cons, List.not_mem_nil, or_false] at hx
      rcases hx with h | h | h | h | h | h | h <;> exact ⟨_, h, by omega, by omega⟩
    obtain ⟨i, rfl, hi0, hi1⟩ := hxi
    refine ⟨(show Int from i), μ2, ?_, ⟨hi0, hi1⟩, S2.up (by omega)⟩
    have p9 : binop .pow (.int 10) (.int 9) μ = .ok (.int 1000000000) μ := pow_op (by decide) (by decide +kernel)
    have p8 : binop .sub (.int 0) (.int 1000000000) μ = .ok (.int (-1000000000)) μ := rfl
    rw [r33]
    simp only [callFn, d__law_value]
    simp only [Bool.false_eq_true, if_false, List.length_cons, List.length_nil, if_true, frame0, List.map, List.replicate, Nat.reduceAdd, Nat.reduceSub, List.cons_append, List.nil_append]
    rw [NS.x_take (v := .int i) (μ' := μ) (μ'' := μ2) (by simp [MP.callFn, MP.execs, MP.exec, MP.ev, MP.evs, MP.evAnd, MP.evOr, MP.evI, MP.bodyOut, MP.frame0, MP.isiV, MP.ob, MP.tst, MP.truth, MP.thenB, MP.SOut.seq, MP.cmpop, MP.bltV, MP.ixV, MP.itemsOf, at0, at1, at2, MP.binop, MP.setS, MP.bindT, MP.bindT.setAll, MP.callLam, sl1, sl2, sl3, sl4, sl5, sl6, sl7, kv, eqV]) (by simp [ev, evs, p9, p8, negV, e1, sl7, i2])]
    rfl
  | .bool, c, w, k, m, μ, hs, hw, S, hm, h => by
    have t1 := ten1 (dep .bool)
    obtain ⟨k, rfl, hk⟩ := up (n := 3) (by simp only [dep] at h; omega)
    obtain ⟨r, μ1, e1, r0, r1, S1, _⟩ := f_draw (k := k) (l := 2) (by omega) S (by omega) (by decide) (by decide)
    refine ⟨(show Bool from decide (r = 0)), μ1, ?_, trivial, S1.up (by omega)⟩
    rw [r33]
    simp only [callFn, d__law_value]
    simp only [Bool.false_eq_true, if_false, List.length_cons, List.length_nil, if_true, frame0, List.map, List.replicate, Nat.reduceAdd, Nat.reduceSub, List.cons_append, List.nil_append]
    rw [NS.x_skip (μ' := μ) (by simp [MP.callFn, MP.execs, MP.exec, MP.ev, MP.evs, MP.evAnd, MP.evOr, MP.evI, MP.bodyOut, MP.frame0, MP.isiV, MP.ob, MP.tst, MP.truth, MP.thenB, MP.SOut.seq, MP.cmpop, MP.bltV, MP.ixV, MP.itemsOf, at0, at1, at2, MP.binop, MP.setS, MP.bindT, MP.bindT.setAll, MP.callLam, sl1, sl2, sl3, sl4, sl5, sl6, sl7, kv, eqV, w_bi])]
    rw [NS.x_take (v := .bl (decide (r = 0))) (μ' := μ) (μ'' := μ1) (by simp [MP.callFn, MP.execs, MP.exec, MP.ev, MP.evs, MP.evAnd, MP.evOr, MP.evI, MP.bodyOut, MP.frame0, MP.isiV, MP.ob, MP.tst, MP.truth, MP.thenB, MP.SOut.seq, MP.cmpop, MP.bltV, MP.ixV, MP.itemsOf, at0, at1, at2, MP.binop, MP.setS, MP.bindT, MP.bindT.setAll, MP.callLam, sl1, sl2, sl3, sl4, sl5, sl6, sl7, kv, eqV]) (by simp [MP.callFn, MP.execs, MP.exec, MP.ev, MP.evs, MP.evAnd, MP.evOr, MP.evI, MP.bodyOut, MP.frame0, MP.isiV, MP.ob, MP.tst, MP.truth, MP.thenB, MP.SOut.seq, MP.cmpop, MP.bltV, MP.ixV, MP.itemsOf, at0, at1, at2, MP.binop, MP.setS, MP.bindT, MP.bindT.setAll, MP.callLam, sl1, sl2, sl3, sl4, sl5, sl6, sl7, e1, eqV])]
    rfl
  | .pair a b, c, w, k, m, μ, hs, hw, S, hm, h => by
    have q1 := eqV_tup_str (s := .pair a b) (c := c) rfl hs sh_int
    have q2 := eqV_tup_str (s := .pair a b) (c := c) rfl hs sh_bool
    have tp := tenp (max (dep a) (dep b))
    have ua := up2 (Nat.le_max_left (dep a) (dep b))
    have ub := up2 (Nat.le_max_right (dep a) (dep b))
    simp only [dep] at hm h hs ⊢
    obtain ⟨k, rfl, hk⟩ := up (n := max (dep a) (dep b) + 4) (by omega)
    obtain ⟨c1, μ1, i1, o1, S1⟩ := f_dvalue a c.1 w k m μ (by omega) hw S (by omega) (by omega)
    obtain ⟨c2, μ2, i2, o2, S2⟩ := f_dvalue b c.2 w k _ μ1 (by omega) hw S1 (by omega) (by omega)
    refine ⟨(c1, c2), μ2, ?_, ⟨o1, o2⟩, S2.up (by omega)⟩
    rw [r33]
    simp only [callFn, d__law_value]
    simp only [Bool.false_eq_true, if_false, List.length_cons, List.length_nil, if_true, frame0, List.map, List.replicate, Nat.reduceAdd, Nat.reduceSub, List.cons_append, List.nil_append]
    rw [NS.x_skip (μ' := μ) (by simp [MP.callFn, MP.execs, MP.exec, MP.ev, MP.evs, MP.evAnd, MP.evOr, MP.evI, MP.bodyOut, MP.frame0, MP.isiV, MP.ob, MP.tst, MP.truth, MP.thenB, MP.SOut.seq, MP.cmpop, MP.bltV, MP.ixV, MP.itemsOf, at0, at1, at2, MP.binop, MP.setS, MP.bindT, MP.bindT.setAll, MP.callLam, sl1, sl2, sl3, sl4, sl5, sl6, sl7, q1])]
    rw [NS.x_skip (μ' := μ) (by simp [MP.callFn, MP.execs, MP.exec, MP.ev, MP.evs, MP.evAnd, MP.evOr, MP.evI, MP.bodyOut, MP.frame0, MP.isiV, MP.ob, MP.tst, MP.truth, MP.thenB, MP.SOut.seq, MP.cmpop, MP.bltV, MP.ixV, MP.itemsOf, at0, at1, at2, MP.binop, MP.setS, MP.bindT, MP.bindT.setAll, MP.callLam, sl1, sl2, sl3, sl4, sl5, sl6, sl7, q2])]
    rw [NS.x_take (v := dv (.pair a b) (c1, c2)) (μ' := μ) (μ'' := μ2) (by simp [MP.callFn, MP.execs, MP.exec, MP.ev, MP.evs, MP.evAnd, MP.evOr, MP.evI, MP.bodyOut, MP.frame0, MP.isiV, MP.ob, MP.tst, MP.truth, MP.thenB, MP.SOut.seq, MP.cmpop, MP.bltV, MP.ixV, MP.itemsOf, at0, at1, at2, MP.binop, MP.setS, MP.bindT, MP.bindT.setAll, MP.callLam, sl1, sl2, sl3, sl4, sl5, sl6, sl7, kv, eqV]) (by simp [MP.callFn, MP.execs, MP.exec, MP.ev, MP.evs, MP.evAnd, MP.evOr, MP.evI, MP.bodyOut, MP.frame0, MP.isiV, MP.ob, MP.tst, MP.truth, MP.thenB, MP.SOut.seq, MP.cmpop, MP.bltV, MP.ixV, MP.itemsOf, at0, at1, at2, MP.binop, MP.setS, MP.bindT, MP.bindT.setAll, MP.callLam, sl1, sl2, sl3, sl4, sl5, sl6, sl7, kv, dv, i1, i2])]
    rfl
  | .list a, c, w, k, m, μ, hs, hw, S, hm, h => by
    have q1 := eqV_tup_str (s := .list a) (c := c) rfl hs sh_int
    have q2 := eqV_tup_str (s := .list a) (c := c) rfl hs sh_bool
    have tp := tenp (dep a)
    have t1 := ten1 (dep a)
    simp only [dep] at hm h hs ⊢
    obtain ⟨k, rfl, hk⟩ := up (n := dep a + 4) (by omega)
    obtain ⟨r, μ1, e1, r0, r1, S1, _⟩ := f_draw (k := k) (l := (w : Int) + 1) (by omega) S (by omega) (by omega) (by omega)
    have em : (if (1 : Int) < (w : Int) + 1 then (w : Int) + 1 else 1) = (w : Int) + 1 := by split <;> omega
    have hi : evI (run T k) (.rng (.call 30 (.cons (.var 0) (.cons (.blt .max2 (.cons (.int 1) (.cons (.bin .add (.var 2) (.int 1)) .nil))) .nil)))) [some (.ref n), some (kv (.list a) c), some (.int w), none] μ = .ok (rangeV r) μ1 := by
      simp [MP.callFn, MP.execs, MP.exec, MP.ev, MP.evs, MP.evAnd, MP.evOr, MP.evI, MP.bodyOut, MP.frame0, MP.isiV, MP.ob, MP.tst, MP.truth, MP.thenB, MP.SOut.seq, MP.cmpop, MP.bltV, MP.ixV, MP.itemsOf, at0, at1, at2, MP.binop, MP.setS, MP.bindT, MP.bindT.setAll, MP.callLam, sl1, sl2, sl3, sl4, sl5, sl6, sl7, em, e1]
      omega
    have hlen : (rangeV r).length = r.toNat := by simp [rangeV]
    have hbud : (rangeV r).length * 10 ^ (dep a + 1) ≤ 4 * 10 ^ (dep a + 1) := Nat.mul_le_mul_right _ (by omega)
    have s4 := sl4
    obtain ⟨vs, μ2, i2, hvl, hvs, S2⟩ := compL_src (n := n) (B := 10 ^ (dep a + 1)) (P := fun v => ∃ d : Dt a, v = dv a d ∧ inD a (w - 1) d)
      (f := bindEv (.one 3) (wipeF [some (.ref n), some (kv (.list a) c), some (.int w), none] (Tgt.one 3).slots) fun ρ μ => ev (run T k) (.call 33 (.cons (.var 0) (.cons (.ix (.var 1) (.int 1)) (.cons (.bin .sub (.var 2) (.int 1)) .nil)))) ρ μ) (rangeV r) [] μ1 (m + 1) (fun x hx μ m S hm => by
        have hpos : 0 < r.toNat := by
          rw [← hlen]; exact List.length_pos_of_mem hx
        obtain ⟨v, μ', i, o, S'⟩ := f_dvalue a c.1 (w - 1) k m μ (by omega) (by omega) S (by omega) (by omega)
        have ew : (w : Int) - 1 = ((w - 1 : Nat) : Int) := by omega
        refine ⟨dv a v, μ', ?_, ⟨v, rfl, o⟩, S'⟩
        simp [MP.callFn, MP.execs, MP.exec, MP.ev, MP.evs, MP.evAnd, MP.evOr, MP.evI, MP.bodyOut, MP.frame0, MP.isiV, MP.ob, MP.tst, MP.truth, MP.thenB, MP.SOut.seq, MP.cmpop, MP.bltV, MP.ixV, MP.itemsOf, at0, at1, at2, MP.binop, MP.setS, MP.bindT, MP.bindT.setAll, MP.callLam, sl1, sl2, sl3, sl4, sl5, sl6, sl7, bindEv, wipeF, Tgt.slots, kv, ew, i]) S1 (by omega) (by simp only [List.length_nil]; omega)
    obtain ⟨ds, rfl, hds⟩ := back (P := inD a (w - 1)) vs hvs
    refine ⟨(show Dt (.list a) from ds), μ2, ?_, ⟨?_, hds⟩, S2.up (by omega)⟩
    · rw [r33]
      simp only [callFn, d__law_value]
      simp only [Bool.false_eq_true, if_false, List.length_cons, List.length_nil, if_true, frame0, List.map, List.replicate, Nat.reduceAdd, Nat.reduceSub, List.cons_append, List.nil_append]
      rw [NS.x_skip (μ' := μ) (by simp [MP.callFn, MP.execs, MP.exec, MP.ev, MP.evs, MP.evAnd, MP.evOr, MP.evI, MP.bodyOut, MP.frame0, MP.isiV, MP.ob, MP.tst, MP.truth, MP.thenB, MP.SOut.seq, MP.cmpop, MP.bltV, MP.ixV, MP.itemsOf, at0, at1, at2, MP.binop, MP.setS, MP.bindT, MP.bindT.setAll, MP.callLam, sl1, sl2, sl3, sl4, sl5, sl6, sl7, q1])]
      rw [NS.x_skip (μ' := μ) (by simp [MP.callFn, MP.execs, MP.exec, MP.ev, MP.evs, MP.evAnd, MP.evOr, MP.evI, MP.bodyOut, MP.frame0, MP.isiV, MP.ob, MP.tst, MP.truth, MP.thenB, MP.SOut.seq, MP.cmpop, MP.bltV, MP.ixV, MP.itemsOf, at0, at1, at2, MP.binop, MP.setS, MP.bindT, MP.bindT.setAll, MP.callLam, sl1, sl2, sl3, sl4, sl5, sl6, sl7, q2])]
      rw [NS.x_skip (μ' := μ) (by simp [MP.callFn, MP.execs, MP.exec, MP.ev, MP.evs, MP.evAnd, MP.evOr, MP.evI, MP.bodyOut, MP.frame0, MP.isiV, MP.ob, MP.tst, MP.truth, MP.thenB, MP.SOut.seq, MP.cmpop, MP.bltV, MP.ixV, MP.itemsOf, at0, at1, at2, MP.binop, MP.setS, MP.bindT, MP.bindT.setAll, MP.callLam, sl1, sl2, sl3, sl4, sl5, sl6, sl7, kv, eqV, w_lp])]
      rw [NS.x_ret (v := dv (.list a) (show Dt (.list a) from ds)) (μ' := μ2) (by
        rw [ev, evs, ev, hi, Out.bind_ok, i2]
        rfl)]
      rfl
    · show ds.length ≤ w
      rw [List.length_map, hlen] at hvl
      omega
end NS

set_option maxHeartbeats 1000000
namespace NS
open MP
def bodyT : Ss := (.cons (.set (.one 4) (.call 32 (.cons (.var 2) (.cons (.call 31 (.cons (.var 2) (.cons (.lst (.cons (.int 1) (.cons (.int 2) (.cons (.int 3) (.cons (.int 5) .nil))))) .nil))) .nil)))) (.cons (.set (.many [5, 6, 7]) (.comp (.call 34 (.cons (.var 2) (.cons (.var 4) .nil))) (.one 8) (.rng (.int 3)))) (.cons (.set (.one 9) (.call 33 (.cons (.var 2) (.cons (.var 4) (.cons (.int 4) .nil))))) (.cons (.ite (.or (.cons (.not (.call 35 (.cons (.var 5) (.cons (.var 6) (.cons (.var 9) .nil))))) (.cons (.not (.call 36 (.cons (.var 5) (.cons (.var 6) (.cons (.var 7) (.cons (.var 9) .nil)))))) .nil))) (.cons (.ret (.bl false)) .nil) .nil) .nil))))
def bodyK : Ss := (.cons (.set (.one 2) (.call 29 (.cons (.var 0) (.cons (.var 1) .nil)))) (.cons (.forS (.one 3) (.rng (.int 10)) bodyT) .nil))
theorem law_is : d_law = ⟨"law", 1, false, false, d_law.N, (.cons (.forS (.one 1) (.rng (.blt .max2 (.cons (.int 1) (.cons (.blt .min2 (.cons (.int 3) (.cons (.blt .len (.cons (.var 0) .nil)) .nil))) .nil)))) bodyK) (.cons (.ret (.bl true)) .nil))⟩ := rfl
theorem turn {n k m : Nat} {μ : Mem} {q0 q1 : Val} {a3 a4 a5 a6 a7 a8 a9 : Option Val} (hk : 20 ≤ k) (S : Src n m μ) (hm : m + 10000000 ≤ 2 ^ 40) :
    ∃ b4 b5 b6 b7 b8 b9 μ', execs (run T k) bodyT [some q0, some q1, some (.ref n), a3, a4, a5, a6, a7, a8, a9] μ = .ok (.nx [some q0, some q1, some (.ref n), a3, b4, b5, b6, b7, b8, b9]) μ' ∧ Src n (m + 10000000) μ' := by
  obtain ⟨x, hx, μ1, i1, S1, _⟩ := f_choice (k := k) (xs := [.int 1, .int 2, .int 3, .int 5]) (by omega) S (by omega) (by simp) (by simp)
  have hxi : ∃ d : Nat, x = .int d ∧ d ≤ 5 := by
    simp only [List.mem_cons, List.not_mem_nil, or_false] at hx
    rcases hx with h | h | h | h
    · exact ⟨1, h, by omega⟩
    · exact ⟨2, h, by omega⟩
    · exact ⟨3, h, by omega⟩
    · exact ⟨5, h, by omega⟩
  obtain ⟨d, rfl, hd⟩ := hxi
  have hb : 10 ^ (d + 1) ≤ 1000000 := up2 (e := 5) hd
  obtain ⟨s, c, μ2, i2, hs, S2⟩ := f_dkind d k _ μ1 S1 (by omega) (by omega)
  have hs5 : dep s ≤ 5 := by omega
  have hb2 : 10 ^ (dep s + 1) ≤ 1000000 := up2 (e := 5) hs5
  have s4 := sl4
  have hr : (rangeV 3).length = 3 := rfl
  obtain ⟨vs, μ3, i3, hvl, hvs, S3⟩ := compL_src (n := n) (B := 10 ^ (dep s + 1)) (P := fun v => ∃ d : Cr s, v = kv s d ∧ okC 500000 s d)
    (f := bindEv (.one 8) (wipeF [some q0, some q1, some (.ref n), a3, some (kv s c), a5, a6, a7, a8, a9] (Tgt.one 8).slots) fun ρ μ => ev (run T k) (.call 34 (.cons (.var 2) (.cons (.var 4) .nil))) ρ μ) (rangeV 3) [] μ2 _ (fun x hx μ m S hm => by
      obtain ⟨c', μ', i, o, S'⟩ := f_dsmall s c k m μ S hm (by omega)
      refine ⟨kv s c', μ', ?_, ⟨c', rfl, o⟩, S'⟩
      simp [MP.callFn, MP.execs, MP.exec, MP.ev, MP.evs, MP.evAnd, MP.evOr, MP.evI, MP.bodyOut, MP.frame0, MP.isiV, MP.ob, MP.tst, MP.truth, MP.thenB, MP.SOut.seq, MP.cmpop, MP.bltV, MP.ixV, MP.itemsOf, at0, at1, at2, MP.binop, MP.setS, MP.bindT, MP.bindT.setAll, MP.callLam, sl1, sl2, sl3, sl4, sl5, sl6, sl7, bindEv, wipeF, Tgt.slots, i]) S2 (by rw [hr]; omega) (by simp only [List.length_nil]; omega)
  rw [hr] at hvl S3
  obtain ⟨v1, v2, v3, rfl⟩ : ∃ v1 v2 v3, vs = [v1, v2, v3] := by
    match vs, hvl with
    | [v1, v2, v3], _ => exact ⟨v1, v2, v3, rfl⟩
  obtain ⟨c1, rfl, o1⟩ := hvs v1 (by simp)
  obtain ⟨c2, rfl, o2⟩ := hvs v2 (by simp)
  obtain ⟨c3, rfl, o3⟩ := hvs v3 (by simp)
  obtain ⟨v, μ4, i4, o4, S4⟩ := f_dvalue s c 4 k _ μ3 (by omega) (by omega) S3 (by omega) (by omega)
  have hv := good_of hs5 o4
  have i5 := f_two (μ := μ4) (k := k) hs5 o1 o2 hv (by omega)
  have i6 := f_three (μ := μ4) (k := k) hs5 o1 o2 o3 hv (by omega)
  refine ⟨some (kv s c), some (kv s c1), some (kv s c2), some (kv s c3), a8, some (dv s v), μ4, ?_, S4.up (by omega)⟩
  unfold bodyT
  rw [NS.x_set (v := kv s c) (μ' := μ2) (ρ' := [some q0, some q1, some (.ref n), a3, some (kv s c), a5, a6, a7, a8, a9]) (by simp [MP.callFn, MP.execs, MP.exec, MP.ev, MP.evs, MP.evAnd, MP.evOr, MP.evI, MP.bodyOut, MP.frame0, MP.isiV, MP.ob, MP.tst, MP.truth, MP.thenB, MP.SOut.seq, MP.cmpop, MP.bltV, MP.ixV, MP.itemsOf, at0, at1, at2, MP.binop, MP.setS, MP.bindT, MP.bindT.setAll, MP.callLam, sl1, sl2, sl3, sl4, sl5, sl6, sl7, i1, i2]) rfl]
  rw [NS.x_set (v := .lst [kv s c1, kv s c2, kv s c3]) (μ' := μ3) (ρ' := [some q0, some q1, some (.ref n), a3, some (kv s c), some (kv s c1), some (kv s c2), some (kv s c3), a8, a9]) (by
    rw [ev, show evI (run T k) (.rng (.int 3)) [some q0, some q1, some (.ref n), a3, some (kv s c), a5, a6, a7, a8, a9] μ2 = .ok (rangeV 3) μ2 by simp [evI, ev], Out.bind_ok, i3]
    rfl) rfl]
  rw [NS.x_set (v := dv s v) (μ' := μ4) (ρ' := [some q0, some q1, some (.ref n), a3, some (kv s c), some (kv s c1), some (kv s c2), some (kv s c3), a8, some (dv s v)]) (by
    have i4' : (run T k).fn 33 [.ref n, kv s c, .int 4] μ3 = .ok (dv s v) μ4 := i4
    simp [ev, evs, i4']) rfl]
  rw [NS.x_skip (μ' := μ4) (by simp [MP.callFn, MP.execs, MP.exec, MP.ev, MP.evs, MP.evAnd, MP.evOr, MP.evI, MP.bodyOut, MP.frame0, MP.isiV, MP.ob, MP.tst, MP.truth, MP.thenB, MP.SOut.seq, MP.cmpop, MP.bltV, MP.ixV, MP.itemsOf, at0, at1, at2, MP.binop, MP.setS, MP.bindT, MP.bindT.setAll, MP.callLam, sl1, sl2, sl3, sl4, sl5, sl6, sl7, i5, i6])]
  rfl
theorem turns {n k : Nat} {q0 q1 : Val} (hk : 20 ≤ k) : ∀ (xs : List Val) (m : Nat) (μ : Mem) (a3 a4 a5 a6 a7 a8 a9 : Option Val), Src n m μ → m + xs.length * 10000000 ≤ 2 ^ 40 →
    ∃ b3 b4 b5 b6 b7 b8 b9 μ', forL (.one 3) (execs (run T k) bodyT) xs [some q0, some q1, some (.ref n), a3, a4, a5, a6, a7, a8, a9] μ = .ok (.nx [some q0, some q1, some (.ref n), b3, b4, b5, b6, b7, b8, b9]) μ'
  | [], m, μ, a3, a4, a5, a6, a7, a8, a9, S, hm => ⟨a3, a4, a5, a6, a7, a8, a9, μ, rfl⟩
  | x :: r, m, μ, a3, a4, a5, a6, a7, a8, a9, S, hm => by
    rw [List.length_cons] at hm
    obtain ⟨b4, b5, b6, b7, b8, b9, μ1, i1, S1⟩ := turn (q0 := q0) (q1 := q1) (a3 := some x) (a4 := a4) (a5 := a5) (a6 := a6) (a7 := a7) (a8 := a8) (a9 := a9) hk S (by omega)
    obtain ⟨c3, c4, c5, c6, c7, c8, c9, μ2, i2⟩ := turns hk r (m + 10000000) μ1 (some x) b4 b5 b6 b7 b8 b9 S1 (by omega)
    refine ⟨c3, c4, c5, c6, c7, c8, c9, μ2, ?_⟩
    show forStep (execs (run T k) bodyT [some q0, some q1, some (.ref n), some x, a4, a5, a6, a7, a8, a9] μ) (forL (.one 3) (execs (run T k) bodyT) r) = _
    rw [i1]
    exact i2
theorem rounds {k : Nat} {ns : List Int} (hk : 20 ≤ k) : ∀ (js : List Nat) (μ : Mem) (a1 a2 a3 a4 a5 a6 a7 a8 a9 : Option Val), (∀ j ∈ js, j < 1000) →
    ∃ ρ' μ', forL (.one 1) (execs (run T k) bodyK) (js.map fun j : Nat => Val.int (j : Int)) [some (.scr (ns.map .int)), a1, a2, a3, a4, a5, a6, a7, a8, a9] μ = .ok (.nx ρ') μ'
  | [], μ, a1, a2, a3, a4, a5, a6, a7, a8, a9, h => ⟨_, μ, rfl⟩
  | j :: r, μ, a1, a2, a3, a4, a5, a6, a7, a8, a9, h => by
    obtain ⟨k, rfl⟩ : ∃ e, k = e + 1 := ⟨k - 1, by omega⟩
    obtain ⟨μ1, i1, S1, _⟩ := start_ok (O := run T k) (μ := μ) (ns := ns) (k := j) (h j List.mem_cons_self)
    have i1' : (run T (k + 1)).fn 29 [.scr (ns.map .int), .int (j : Int)] μ = .ok (.ref μ.length) μ1 := by
      rw [r29, show d__law_start = dStart from rfl]
      exact i1
    obtain ⟨b3, b4, b5, b6, b7, b8, b9, μ2, i2⟩ := turns (n := μ.length) (k := k + 1) (q0 := .scr (ns.map .int)) (q1 := .int (j : Int)) hk (rangeV 10) 0 μ1 a3 a4 a5 a6 a7 a8 a9 S1 (by decide)
    obtain ⟨ρ', μ3, i3⟩ := rounds (k := k + 1) (ns := ns) hk r μ2 (some (.int (j : Int))) (some (.ref μ.length)) b3 b4 b5 b6 b7 b8 b9 fun i hi => h i (List.mem_cons_of_mem _ hi)
    refine ⟨ρ', μ3, ?_⟩
    rw [List.map_cons]
    show forStep (execs (run T (k + 1)) bodyK [some (.scr (ns.map .int)), some (.int (j : Int)), a2, a3, a4, a5, a6, a7, a8, a9] μ) (forL (.one 1) (execs (run T (k + 1)) bodyK) (r.map fun j : Nat => Val.int (j : Int))) = _
    unfold bodyK
    rw [NS.x_set (v := .ref μ.length) (μ' := μ1) (ρ' := [some (.scr (ns.map .int)), some (.int (j : Int)), some (.ref μ.length), a3, a4, a5, a6, a7, a8, a9]) (by simp [ev, evs, i1']) rfl]
    have e10 : evI (run T (k + 1)) (.rng (.int 10)) [some (.scr (ns.map .int)), some (.int (j : Int)), some (.ref μ.length), a3, a4, a5, a6, a7, a8, a9] μ1 = .ok (rangeV 10) μ1 := by simp [evI, ev]
    rw [execs, exec, e10, Out.sb_ok, i2]
    exact i3
theorem hlaw (ns : List Int) (h : ns.length ≤ 63) (hb : ∀ z ∈ ns, PySem.Builtin.Int.intBits z ≤ 1048576) : ∃ μ, (run T (100 + 1)).fn 37 [.scr (ns.map Val.int)] [] = .ok (.bl true) μ := by
  rw [r37]
  obtain ⟨L, hL⟩ : ∃ L : Int, L = (if (if (ns.length : Int) < 3 then (ns.length : Int) else 3) > 1 then (if (ns.length : Int) < 3 then (ns.length : Int) else 3) else 1) := ⟨_, rfl⟩
  have L1 : L ≤ 3 := by rw [hL]; split <;> split <;> omega
  have L0 : 1 ≤ L := by rw [hL]; split <;> split <;> omega
  obtain ⟨ρ', μ', i1⟩ := rounds (k := 100) (ns := ns) (by decide) (List.range L.toNat) [] none none none none none none none none none fun j hj => by
    have := List.mem_range.mp hj
    omega
  refine ⟨μ', ?_⟩
  have ei : evI (run T 100) (.rng (.blt .max2 (.cons (.int 1) (.cons (.blt .min2 (.cons (.int 3) (.cons (.blt .len (.cons (.var 0) .nil)) .nil))) .nil)))) [some (.scr (ns.map .int)), none, none, none, none, none, none, none, none, none] [] = .ok (rangeV L) [] := by
    simp only [evI, ev, evs, List.getElem?_cons_zero, Out.bind_ok, bltV, List.length_map, ← hL]
    rw [if_pos ⟨by omega, by omega⟩]
  rw [law_is]
  show bodyOut (execs (run T 100) _ [some (.scr (ns.map .int)), none, none, none, none, none, none, none, none, none] []) = _
  rw [execs, exec, ei, Out.sb_ok]
  have i2 : forL (.one 1) (execs (run T 100) bodyK) (rangeV L) [some (.scr (ns.map .int)), none, none, none, none, none, none, none, none, none] [] = .ok (.nx ρ') μ' := i1
  rw [i2]
  rfl
end NS

set_option maxHeartbeats 0
open PySem PySem.W PySem.Calls PyProof.Rows
theorem NS.no_cx (P : PySem.Program) (w : PySem.World) (H : L2.Hp) (s : PySem.Shared) (e : PySem.Value) (s' : PySem.Shared) (c : L2.CX P w [] H s (fun _ _ _ => False) e s') : False := by
  obtain ⟨_, _, _, _, _, _, _, _, _, _, _, _, z⟩ := c
  exact z
theorem PySem.Challenge.cw_costborne_k04_whole_credits_of_kinds_tog_holds : PySem.Challenge.rw_costborne_k04_whole_credits_of_kinds_tog.Holds := by
  w_on; o_law
  refine HandSHeadRun.head_any (r := OpenLaw.row PySem.Challenge.rw_costborne_k04_whole_credits_of_kinds_tog) (q := view (OpenLaw.row PySem.Challenge.rw_costborne_k04_whole_credits_of_kinds_tog).prog [55]) (H := MP.hkL NS.T NS.st) (ob := NS.ob) (M := 40000) (loose := NS.nms) (d := HandSHeadRun.topDef (OpenLaw.row PySem.Challenge.rw_costborne_k04_whole_credits_of_kinds_tog).prog 55) (kwd := []) NS.ob_eq
    (by kernel_rfl) (fun s => by kernel_rfl) NS.run_top (by kernel_rfl) (by kernel_rfl) (by kernel_rfl) (by rfl) (by first | assumption | decide +kernel) (by decide +kernel) ⟨rfl, rfl, rfl, rfl, rfl, by decide +kernel⟩ ?hw ?hc
  case hw => w_witness2
  case hc =>
    refine LamX.walk_ofTsE (l := PySem.Challenge.rw_costborne_k04_whole_credits_of_kinds_tog) (n := 63) (k := 100 + 1) (x := "_law_script") (CX := fun w => L2.CX (PySem.Challenge.rw_costborne_k04_whole_credits_of_kinds_tog).prog w) rfl (by decide) (by kernel_rfl) ⟨rfl, by decide, by decide⟩ ?F (fun w H s e s' c => NS.no_cx _ w H s e s' c)
    intro w mg fa h Y G hmg0
    obtain ⟨K, KX, c⟩ := Y
    have hmg : mg ("law" : PySem.Str) = some (.ref fa) := by
      have e : (HandSHeadRun.topDef (OpenLaw.row PySem.Challenge.rw_costborne_k04_whole_credits_of_kinds_tog).prog 55).name = ("law" : PySem.Str) := by kernel_rfl
      rw [← e]
      exact hmg0
    exact ⟨K, KX, MP.law_at (T := NS.T) (st := NS.st) (g := 37) (d := NS.d_law) KX G c NS.chk rfl rfl rfl hmg NS.hlaw⟩

