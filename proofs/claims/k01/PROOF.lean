import PyProof.Rows.All
import Wide.All
import OpenK.AllK
import Wide.FinOn
import HandS.ForMost
import HandS.Exc
import HandS.Lambda
import HandS.EndTab
import HandS.HeadHook2
import HandS.Head2
import HandS.HeadEnd
import HandS.Words
import HandS.Codes
import HandS.Defaults
import HandS.TupAny
import HandS.Wide
import HandS.Deep
import HandS.IsInst
import HandS.Flow
import HandS.Style
import HandS.TryOnly
import HandS.Iter
import HandS.Zip
import HandS.WordsExc
import HandS.ExcOwn
import HandS.ExcIs
import HandS.SetFor
import KE.KDflt
import PyProof.ExcBaseAll.ValueError
import PyProof.FitsInt
import PyProof.StrLawsRepr
import PySem.Challenge.RW_namescopied_k01_whole_circles_great_and
set_option Elab.async false
set_option linter.all false
set_option maxRecDepth 100000
/-! A small machine over plain data: what the program's text comes to, step by step. -/
namespace NC
open PySem

/-- plain data; lst: a list that is never written again -/
inductive D where
  | non | bl (b : Bool) | int (i : Int) | str (x : Str) | tup (l : List D) | lst (l : List D)
  deriving Inhabited

mutual
def D.py : D → PyData
  | .non => .none
  | .bl b => .bool b
  | .int i => .int i
  | .str x => .str x
  | .tup l => .tuple (D.pys l)
  | .lst l => .list (D.pys l)
def D.pys : List D → List PyData
  | [] => []
  | d :: r => d.py :: D.pys r
end

inductive BO where
  | add | sub | mul | fdiv | mod | pow
  deriving DecidableEq
inductive CO where
  | eq | ne | lt | le | gt | ge | inn | nin | isn | notn
  deriving DecidableEq
/-- what a for walks -/
inductive IK where
  | seq | rng | enm | zip
  deriving DecidableEq
/-- types asked by isinstance -/
inductive Ty where
  | int | bool | str | tuple | list | dict
  deriving DecidableEq
inductive Bi where
  | len | abs | int | repr | str | tuple | list | min2 | max2 | min | max | sum | all | any | sorted | ord
  | isi (t : Ty)
  deriving DecidableEq
inductive Me where
  | index | count | join | split
  deriving DecidableEq
/-- targets -/
inductive TG where
  | v (i : Nat) | t (l : List TG)
mutual
/-- expressions -/
inductive E where
  | var (i : Nat)
  | fz (i : Nat)
  | con (d : D)
  | glob (g : Nat)
  | bin (o : BO) (a b : E)
  | neg (a : E)
  | cmp (o : CO) (a b : E)
  | chain (o p : CO) (a b c : E)
  | and (a b : E) | or (a b : E) | not (a : E)
  | ite (c : T) (a b : E)
  | tup (l : List E)
  | ldisp (n : Bool) (l : List E)
  | ix (a i : E)
  | sl (a : E) (lo hi : Option E)
  | call (f : Nat) (l : List E)
  | callv (i : Nat)
  | lcall (f : Nat) (e : E)
  | bi (b : Bi) (l : List E)
  | me (m : Me) (o : E) (l : List E)
  | app (o e : E)
  | comp (n : Bool) (t : TG) (k : IK) (l : List E) (c : Option T) (e : E)
  | exis (i : Nat) (c : Nat)
/-- tests -/
inductive T where
  | e (a : E) | and (a b : T) | or (a b : T) | not (a : T)
end
/-- statements -/
inductive S where
  | asg (t : TG) (e : E)
  | par (is : List Nat) (l : List E)
  | sub (o i e : E)
  | ex (e : E)
  | ite (c : T) (a b : List S)
  | fo (t : TG) (k : IK) (l : List E) (b : List S)
  | wh (c : T) (b : List S)
  | ret (e : E) | retn | brk | cont | pass
  | raise (c : Nat)
  | tri (b : List S) (c : Nat) (v : Option Nat) (h : List S)

/-- values: data, a place in the store, a lambda with what it sees, an exception (its class) -/
inductive W where
  | d (x : D) | loc (n : Nat) | clo (e : E) (ρ : List (Option W)) | exn (c : Nat) | scr (l : List D)
abbrev Rho := List (Option W)
inductive Cell where
  | lst (l : List D) | dead
abbrev Sto := List Cell

inductive Out (α : Type) where
  | stuck | ok (a : α) (st : Sto) | exc (c : Nat) (st : Sto)
def Out.bind {α β : Type} (o : Out α) (f : α → Sto → Out β) : Out β := match o with
  | .stuck => .stuck
  | .ok a st => f a st
  | .exc c st => .exc c st
inductive Fl where
  | nx | rt (w : W) | bk | ct
inductive OutS where
  | stuck | ok (f : Fl) (ρ : Rho) (st : Sto) | exc (c : Nat) (ρ : Rho) (st : Sto)
def Out.toS {α : Type} (o : Out α) (ρ : Rho) (f : α → Sto → OutS) : OutS := match o with
  | .stuck => .stuck
  | .ok a st => f a st
  | .exc c st => .exc c ρ st
def ofO {α : Type} (o : Option α) (st : Sto) : Out α := match o with
  | some a => .ok a st
  | none => .stuck

/-! ### operations on data -/
def mulOk (i j : Int) : Bool := decide (i.natAbs.log2 + j.natAbs.log2 < 1000000) || decide (-18446744073709551616 < i ∧ i < 18446744073709551616) || decide (-18446744073709551616 < j ∧ j < 18446744073709551616)
def divOk (j : Int) : Bool := decide (0 < j) && decide (j.natAbs.log2 < 9000)
def powOk (i j : Int) : Bool := decide (0 ≤ j) && decide (j ≤ 1000000) && decide (i.natAbs < 18446744073709551616)
def lenOk (n : Nat) : Bool := decide (n ≤ 16777216)
def binD : BO → D → D → Option D
  | .add, .int i, .int j => some (.int (i + j))
  | .add, .str x, .str y => if lenOk (x.length + y.length) then some (.str (x ++ y)) else none
  | .add, .tup a, .tup b => if lenOk (a.length + b.length) then some (.tup (a ++ b)) else none
  | .add, .lst a, .lst b => if lenOk (a.length + b.length) then some (.lst (a ++ b)) else none
  | .sub, .int i, .int j => some (.int (i - j))
  | .mul, .int i, .int j => if mulOk i j then some (.int (i * j)) else none
  | .mul, .lst a, .int j => if decide (0 ≤ j) && decide (j < 1000000) && lenOk (a.length * j.toNat) then some (.lst ((List.replicate j.toNat a).flatten)) else none
  | .fdiv, .int i, .int j => if divOk j then some (.int (i / j)) else none
  | .mod, .int i, .int j => if decide (0 < j) then some (.int (i % j)) else none
  | .pow, .int i, .int j => if powOk i j then some (.int (i ^ j.toNat)) else none
  | _, _, _ => none
def shapedD (d : D) : Bool := PySem.SeqAt.shaped d.py
def eqD : D → D → Option Bool
  | .str x, .str y => some (decide (x = y))
  | .int i, .int j => some (decide (i = j))
  | a, b => if shapedD a && shapedD b then some (PyData.eqv a.py b.py) else none
def flatD : D → Bool
  | .non | .bl _ | .int _ | .str _ => true
  | _ => false
def strLt (x y : Str) : Bool := decide (x.cps.toList < y.cps.toList)
def intsOf : List D → Option (List Int)
  | [] => some []
  | .int i :: r => (intsOf r).map (i :: ·)
  | _ => none
def isNon : D → Bool
  | .non => true
  | _ => false
def cmpD : CO → D → D → Option Bool
  | .eq, a, b => eqD a b
  | .ne, a, b => (eqD a b).map (!·)
  | .lt, .int i, .int j => some (decide (i < j))
  | .le, .int i, .int j => some (decide (i ≤ j))
  | .gt, .int i, .int j => some (decide (j < i))
  | .ge, .int i, .int j => some (decide (j ≤ i))
  | .isn, a, .non => some (isNon a)
  | .notn, a, .non => some (!isNon a)
  | .isn, .bl a, .bl b => some (decide (a = b))
  | .notn, .bl a, .bl b => some (!decide (a = b))
  | .lt, .str x, .str y => some (strLt x y)
  | .lt, .tup a, .tup b => match intsOf a, intsOf b with
    | some ns, some ms => some (HT.lexLt ns ms)
    | _, _ => none
  | .inn, .str x, .str y => match x.cps.toList with
    | [c] => some (decide (c ∈ y.cps.toList))
    | _ => none
  | .nin, .str x, .str y => match x.cps.toList with
    | [c] => some (!decide (c ∈ y.cps.toList))
    | _ => none
  | .inn, a, .lst l => if shapedD a && shapedD (.lst l) then some (l.any fun b => PyData.eqv b.py a.py) else none
  | .inn, a, .tup l => if shapedD a && shapedD (.tup l) then some (l.any fun b => PyData.eqv b.py a.py) else none
  | .nin, a, .lst l => if shapedD a && shapedD (.lst l) then some (!(l.any fun b => PyData.eqv b.py a.py)) else none
  | .nin, a, .tup l => if shapedD a && shapedD (.tup l) then some (!(l.any fun b => PyData.eqv b.py a.py)) else none
  | _, _, _ => none
def truD : D → Option Bool
  | .bl b => some b
  | .non => some false
  | .int i => some (i != 0)
  | .str x => if lenOk x.length then some (x.length != 0) else none
  | .tup l => some (!l.isEmpty)
  | .lst l => some (!l.isEmpty)
end NC

set_option maxRecDepth 100000
namespace NC
open PySem

/-! ### calls of built-ins on data -/
def tyD : D → Ty → Bool
  | .int _, .int => true
  | .bl _, .int => true
  | .bl _, .bool => true
  | .str _, .str => true
  | .tup _, .tuple => true
  | .lst _, .list => true
  | _, _ => false
def maxL (i : Int) : List Int → Int
  | [] => i
  | j :: r => maxL (if j > i then j else i) r
def minL (i : Int) : List Int → Int
  | [] => i
  | j :: r => minL (if j < i then j else i) r
def blsOf : List D → Option (List Bool)
  | [] => some []
  | .bl i :: r => (blsOf r).map (i :: ·)
  | _ => none
def showOk (d : D) : Bool := d.py.showable && lenOk d.py.shown.length && decide (d.py.depth ≤ 60)
def seqOf : D → Option (List D)
  | .tup l => some l
  | .lst l => some l
  | _ => none
def biD : Bi → List D → Option D
  | .len, [.str x] => if lenOk x.length then some (.int x.length) else none
  | .len, [.tup l] => some (.int l.length)
  | .len, [.lst l] => some (.int l.length)
  | .abs, [.int i] => some (.int (if i < 0 then -i else i))
  | .int, [.int i] => some (.int i)
  | .int, [.bl b] => some (.int (if b then 1 else 0))
  | .repr, [d] => if showOk d then some (.str d.py.shown) else none
  | .tuple, [.lst l] => some (.tup l)
  | .tuple, [.tup l] => some (.tup l)
  | .max2, [.int i, .int j] => some (.int (if j > i then j else i))
  | .min2, [.int i, .int j] => some (.int (if j < i then j else i))
  | .max, [.lst l] => match intsOf l with
    | some (i :: r) => some (.int (maxL i r))
    | _ => none
  | .min, [.lst l] => match intsOf l with
    | some (i :: r) => some (.int (minL i r))
    | _ => none
  | .sum, [.lst l] => (intsOf l).map fun ns => .int ns.sum
  | .all, [.lst l] => (blsOf l).map fun bs => .bl (bs.all id)
  | .any, [.lst l] => (blsOf l).map fun bs => .bl (bs.any id)
  | .isi t, [d] => some (.bl (tyD d t))
  | _, _ => none

/-! ### places -/
def atD (l : List D) (i : Int) : Option D := L2.atI l i
def ixD : D → D → Option D
  | .tup l, .int i => atD l i
  | .lst l, .int i => atD l i
  | .str x, .int i => if lenOk x.length then (L2.atI x.cps.toList i).map fun c => .str ⟨#[c]⟩ else none
  | _, _ => none
def cutD (xs : List D) (lo hi : Option Int) : List D := (xs.drop (HT.sIx xs.length 0 lo)).take (HT.sIx xs.length xs.length hi - HT.sIx xs.length 0 lo)
def slD : D → Option Int → Option Int → Option D
  | .tup l, lo, hi => some (.tup (cutD l lo hi))
  | .lst l, lo, hi => some (.lst (cutD l lo hi))
  | _, _, _ => none
def meD : Me → D → List D → Option D
  | .count, .lst l, [.bl b] => (blsOf l).map fun bs => .int (bs.count b : Nat)
  | .index, .lst l, [.bl b] => match blsOf l with
    | some bs => if bs.idxOf b < bs.length then some (.int (bs.idxOf b : Nat)) else none
    | none => none
  | _, _, _ => none

def recv : Me → D → Bool
  | .count, .lst _ => true
  | .index, .lst _ => true
  | .join, .str _ => true
  | .split, .str _ => true
  | _, _ => false
/-! ### evaluation -/
/-- what the calls come to: functions by number, lambdas; constants of the modules; the turns that a while may take -/
structure Orc where
  fn : Nat → List W → Sto → Out W
  cl : E → Rho → Sto → Out W
  gl : Nat → Option D
  wh : Nat
  sub : Nat → Nat → Option Bool
  lok : Bool

/-- no lambda, no error -/
def W.pl : W → Bool
  | .clo _ _ => false
  | .exn _ => false
  | _ => true
/-- a value's data, where it is a list in the store as it stands -/
def W.get (w : W) (st : Sto) : Option D := match w with
  | .d x => some x
  | .loc n => match st[n]? with
    | some (.lst l) => some (.lst l)
    | _ => none
  | _ => none
/-- .. for a slice: the script, too -/
def W.getS (w : W) (st : Sto) : Option D := match w with
  | .scr l => some (.lst l)
  | x => x.get st
def gets : List W → Sto → Option (List D)
  | [], _ => some []
  | w :: r, st => match w.get st with
    | some d => (gets r st).map (d :: ·)
    | none => none
mutual
def setT : TG → D → Rho → Option Rho
  | .v i, d, ρ => if i < ρ.length then some (ρ.set i (some (.d d))) else none
  | .t l, .tup ds, ρ => setTs l ds ρ
  | .t l, .lst ds, ρ => setTs l ds ρ
  | _, _, _ => none
def setTs : List TG → List D → Rho → Option Rho
  | [], [], ρ => some ρ
  | t :: r, d :: ds, ρ => match setT t d ρ with
    | some ρ' => setTs r ds ρ'
    | none => none
  | _, _, _ => none
end
/-- a value to a name; data to places -/
def setW : TG → W → Rho → Option Rho
  | .v i, w, ρ => if i < ρ.length then some (ρ.set i (some w)) else none
  | t, .d x, ρ => setT t x ρ
  | _, _, _ => none
mutual
def D.beq : D → D → Bool
  | .non, .non => true
  | .bl a, .bl b => a == b
  | .int i, .int j => decide (i = j)
  | .str x, .str y => decide (x = y)
  | .tup a, .tup b => D.beqs a b
  | .lst a, .lst b => D.beqs a b
  | _, _ => false
def D.beqs : List D → List D → Bool
  | [], [] => true
  | a :: r, b :: s => D.beq a b && D.beqs r s
  | _, _ => false
end
mutual
theorem D.beq_eq : ∀ {a b : D}, D.beq a b = true → a = b
  | .non, b, h => by cases b <;> first | rfl | (simp [D.beq] at h)
  | .bl _, b, h => by cases b <;> first | (simp [D.beq] at h; done) | (simp only [D.beq, beq_iff_eq] at h; rw [h])
  | .int _, b, h => by cases b <;> first | (simp [D.beq] at h; done) | (simp only [D.beq, decide_eq_true_eq] at h; rw [h])
  | .str _, b, h => by cases b <;> first | (simp [D.beq] at h; done) | (simp only [D.beq, decide_eq_true_eq] at h; rw [h])
  | .tup l, b, h => by
    cases b with
    | tup m => rw [D.beqs_eq (a := l) (b := m) (by simpa only [D.beq] using h)]
    | _ => simp [D.beq] at h
  | .lst l, b, h => by
    cases b with
    | lst m => rw [D.beqs_eq (a := l) (b := m) (by simpa only [D.beq] using h)]
    | _ => simp [D.beq] at h
theorem D.beqs_eq : ∀ {a b : List D}, D.beqs a b = true → a = b
  | [], [], _ => rfl
  | [], _ :: _, h => by simp [D.beqs] at h
  | _ :: _, [], h => by simp [D.beqs] at h
  | a :: r, b :: s, h => by
    simp only [D.beqs, Bool.and_eq_true] at h
    rw [D.beq_eq h.1, D.beqs_eq h.2]
end
mutual
theorem D.beq_refl : ∀ a : D, D.beq a a = true
  | .non => rfl
  | .bl b => by simp [D.beq]
  | .int i => by simp [D.beq]
  | .str x => by simp [D.beq]
  | .tup l => by simp only [D.beq]; exact D.beqs_refl l
  | .lst l => by simp only [D.beq]; exact D.beqs_refl l
theorem D.beqs_refl : ∀ a : List D, D.beqs a a = true
  | [] => rfl
  | a :: r => by simp only [D.beqs, D.beq_refl a, D.beqs_refl r, Bool.and_self]
end
/-- the place holds this list still -/
def stays (n : Nat) (l : List D) (st : Sto) : Bool := match st[n]? with
  | some (.lst m) => D.beqs m l
  | _ => false
/-- what is walked: the items; a list in the store has to stay as it is -/
structure Walk where
  its : List D
  at_ : Option Nat
def Walk.ok (k : Walk) (st : Sto) : Bool := match k.at_ with
  | none => true
  | some n => stays n k.its st
def rangeD (a : Int) (n : Nat) : List D := (List.range n).map fun i => .int (a + (i : Nat))
def rngOk (i : Int) : Bool := decide (-4611686018427387904 ≤ i) && decide (i < 4611686018427387904)
def pairs : Nat → List D → List D
  | _, [] => []
  | i, d :: r => .tup [.int i, d] :: pairs (i + 1) r
def zipD : List D → List D → List D
  | a :: r, b :: s => .tup [a, b] :: zipD r s
  | _, _ => []
def walkSeq (w : W) (st : Sto) : Option Walk := match w with
  | .loc n => match st[n]? with
    | some (.lst l) => some ⟨l, some n⟩
    | _ => none
  | .d (.lst l) => some ⟨l, none⟩
  | .d (.tup l) => some ⟨l, none⟩
  | .d (.str x) => some ⟨x.cps.toList.map fun c => .str ⟨#[c]⟩, none⟩
  | _ => none
def walkRng : List W → Option Walk
  | [.d (.int n)] => if rngOk n then some ⟨rangeD 0 n.toNat, none⟩ else none
  | [.d (.int a), .d (.int b)] => if rngOk a && rngOk b then some ⟨rangeD a (b - a).toNat, none⟩ else none
  | _ => none
def walkEnm : W → Option Walk
  | .d (.lst l) => some ⟨pairs 0 l, none⟩
  | _ => none
def walkZip : W → W → Option Walk
  | .d (.lst l), .d (.lst m) => some ⟨zipD l m, none⟩
  | .d (.tup l), .d (.tup m) => some ⟨zipD l m, none⟩
  | _, _ => none
def walkOf : IK → List W → Sto → Option Walk
  | .seq, [w], st => walkSeq w st
  | .rng, ws, _ => walkRng ws
  | .enm, [w], _ => walkEnm w
  | .zip, [w, u], _ => walkZip w u
  | _, _, _ => none
/-- over the items: f makes of an item a state, or ends it -/
def loopS (k : Walk) (f : D → Rho → Sto → OutS) : List D → Rho → Sto → OutS
  | [], ρ, st => if k.ok st then .ok .nx ρ st else .stuck
  | d :: r, ρ, st => if k.ok st then match f d ρ st with
    | .ok .nx ρ' st' => loopS k f r ρ' st'
    | .ok .ct ρ' st' => loopS k f r ρ' st'
    | .ok .bk ρ' st' => .ok .nx ρ' st'
    | o => o
    else .stuck
def loopC (k : Walk) (f : D → Sto → Out (Option D)) : List D → List D → Sto → Out (List D)
  | [], acc, st => if k.ok st then .ok acc st else .stuck
  | d :: r, acc, st => if k.ok st then match f d st with
    | .ok (some x) st' => if decide (acc.length < 16777216) then loopC k f r (acc ++ [x]) st' else .stuck
    | .ok none st' => loopC k f r acc st'
    | .stuck => .stuck
    | .exc _ _ => .stuck
    else .stuck
def whileS (c : Rho → Sto → Out Bool) (f : Rho → Sto → OutS) : Nat → Rho → Sto → OutS
  | 0, _, _ => .stuck
  | n + 1, ρ, st => (c ρ st).toS ρ fun b st1 => if b then match f ρ st1 with
    | .ok .nx ρ' st' => whileS c f n ρ' st'
    | .ok .ct ρ' st' => whileS c f n ρ' st'
    | .ok .bk ρ' st' => .ok .nx ρ' st'
    | o => o
    else .ok .nx ρ st1
def wipeR (ρ : Rho) : List Nat → Rho
  | [] => ρ
  | v :: vs => (wipeR ρ vs).set v none
mutual
def TG.vs : TG → List Nat
  | .v i => [i]
  | .t l => TG.vss l
def TG.vss : List TG → List Nat
  | [] => []
  | g :: r => TG.vs g ++ TG.vss r
end
def freshL (n : Bool) (l : List D) (st : Sto) : Out W := if n then .ok (.loc st.length) (st ++ [.lst l]) else .ok (.d (.lst l)) st
def oneD (o : Out W) : Out D := o.bind fun w st => match w with
  | .d x => .ok x st
  | _ => .stuck
mutual
def evE (C : Orc) : E → Rho → Sto → Out W
  | .var i, ρ, st => match ρ[i]? with
    | some (some w) => .ok w st
    | _ => .stuck
  | .fz i, ρ, st => match ρ[i]? with
    | some (some (.loc n)) => match st[n]? with
      | some (.lst l) => .ok (.d (.lst l)) (st.set n .dead)
      | _ => .stuck
    | some (some (.d x)) => .ok (.d x) st
    | _ => .stuck
  | .con d, _, st => .ok (.d d) st
  | .glob g, _, st => match C.gl g with
    | some d => .ok (.d d) st
    | none => .stuck
  | .bin o a b, ρ, st => (evE C a ρ st).bind fun x s1 => (evE C b ρ s1).bind fun y s2 => match x.get s2, y.get s2 with
    | some u, some v => ofO ((binD o u v).map .d) s2
    | _, _ => .stuck
  | .neg a, ρ, st => (evE C a ρ st).bind fun x s1 => match x with
    | .d (.int i) => .ok (.d (.int (-i))) s1
    | _ => .stuck
  | .cmp o a b, ρ, st => (evE C a ρ st).bind fun x s1 => (evE C b ρ s1).bind fun y s2 => match x.get s2, y.get s2 with
    | some u, some v => ofO ((cmpD o u v).map fun z => .d (.bl z)) s2
    | _, _ => .stuck
  | .chain o p a b c, ρ, st => (evE C a ρ st).bind fun x s1 => (evE C b ρ s1).bind fun y s2 => match x.get s2, y.get s2 with
    | some u, some v => match cmpD o u v with
      | some true => (evE C c ρ s2).bind fun z s3 => match y.get s3, z.get s3 with
        | some v, some w => ofO ((cmpD p v w).map fun z => .d (.bl z)) s3
        | _, _ => .stuck
      | some false => .ok (.d (.bl false)) s2
      | none => .stuck
    | _, _ => .stuck
  | .and a b, ρ, st => (evE C a ρ st).bind fun x s1 => match x with
    | .d (.bl true) => evE C b ρ s1
    | .d (.bl false) => .ok (.d (.bl false)) s1
    | _ => .stuck
  | .or a b, ρ, st => (evE C a ρ st).bind fun x s1 => match x with
    | .d (.bl true) => .ok (.d (.bl true)) s1
    | .d (.bl false) => evE C b ρ s1
    | _ => .stuck
  | .not a, ρ, st => (evE C a ρ st).bind fun x s1 => match x with
    | .d (.bl b) => .ok (.d (.bl (!b))) s1
    | _ => .stuck
  | .ite c a b, ρ, st => (evT C c ρ st).bind fun k s1 => if k then evE C a ρ s1 else evE C b ρ s1
  | .tup l, ρ, st => (evEs C l ρ st).bind fun ws s1 => match gets ws s1 with
    | some ds => if ws.all (fun | .d _ => true | _ => false) && lenOk ds.length then .ok (.d (.tup ds)) s1 else .stuck
    | none => .stuck
  | .ldisp n l, ρ, st => (evEs C l ρ st).bind fun ws s1 => match gets ws s1 with
    | some ds => if ws.all (fun | .d _ => true | _ => false) && lenOk ds.length then freshL n ds s1 else .stuck
    | none => .stuck
  | .ix a i, ρ, st => (evE C a ρ st).bind fun x s1 => (evE C i ρ s1).bind fun y s2 => match x.get s2, y.get s2 with
    | some u, some v => ofO ((ixD u v).map .d) s2
    | _, _ => .stuck
  | .sl a lo hi, ρ, st => (evE C a ρ st).bind fun x s1 => (evO C lo ρ s1).bind fun i s2 => (evO C hi ρ s2).bind fun j s3 => match x.getS s3 with
    | some u => ofO ((slD u i j).map .d) s3
    | none => .stuck
  | .call f l, ρ, st => (evEs C l ρ st).bind fun ws s1 => if ws.all W.pl then C.fn f ws s1 else .stuck
  | .callv i, ρ, st => match ρ[i]? with
    | some (some (.clo e ρ')) => (C.cl e ρ' st).bind fun y s1 => if y.pl then .ok y s1 else .stuck
    | _ => .stuck
  | .lcall f e, ρ, st => if C.lok then C.fn f [.clo e ρ] st else .stuck
  | .bi b l, ρ, st => (evEs C l ρ st).bind fun ws s1 => match gets ws s1 with
    | some ds => ofO ((biD b ds).map .d) s1
    | none => .stuck
  | .me m o l, ρ, st => (evE C o ρ st).bind fun x s1 => match x.get s1 with
    | some u0 => if recv m u0 then (evEs C l ρ s1).bind fun ws s2 => match x.get s2, gets ws s2 with
      | some u, some ds => ofO ((meD m u ds).map .d) s2
      | _, _ => .stuck
      else .stuck
    | none => .stuck
  | .app o e, ρ, st => (evE C o ρ st).bind fun x s1 => match x with
    | .loc n => match s1[n]? with
      | some (.lst _) => (evE C e ρ s1).bind fun y s2 => match y, s2[n]? with
        | .d d, some (.lst l) => if decide (l.length < 16777216) then .ok (.d .non) (s2.set n (.lst (l ++ [d]))) else .stuck
        | _, _ => .stuck
      | _ => .stuck
    | _ => .stuck
  | .comp n t k l c e, ρ, st => (evEs C l ρ st).bind fun ws s1 => match walkOf k ws s1 with
    | some q => (loopC q (fun d s => match setT t d (wipeR ρ t.vs) with
        | some ρ' => (match c with | some c => evT C c ρ' s | none => .ok true s).bind fun b s' => if b then (oneD (evE C e ρ' s')).bind fun x s'' => .ok (some x) s'' else .ok none s'
        | none => .stuck) q.its [] s1).bind fun ds s2 => freshL n ds s2
    | none => .stuck
  | .exis i c, ρ, st => match ρ[i]? with
    | some (some (.exn c0)) => match C.sub c0 c with
      | some b => .ok (.d (.bl b)) st
      | none => .stuck
    | _ => .stuck
def evO (C : Orc) : Option E → Rho → Sto → Out (Option Int)
  | none, _, st => .ok none st
  | some e, ρ, st => (evE C e ρ st).bind fun w s1 => match w with
    | .d (.int i) => .ok (some i) s1
    | _ => .stuck
def evEs (C : Orc) : List E → Rho → Sto → Out (List W)
  | [], _, st => .ok [] st
  | e :: r, ρ, st => (evE C e ρ st).bind fun w s1 => (evEs C r ρ s1).bind fun ws s2 => .ok (w :: ws) s2
/-- a test -/
def evT (C : Orc) : T → Rho → Sto → Out Bool
  | .and a b, ρ, st => (evT C a ρ st).bind fun k s1 => if k then evT C b ρ s1 else .ok false s1
  | .or a b, ρ, st => (evT C a ρ st).bind fun k s1 => if k then .ok true s1 else evT C b ρ s1
  | .not a, ρ, st => (evT C a ρ st).bind fun k s1 => .ok (!k) s1
  | .e a, ρ, st => (evE C a ρ st).bind fun w s1 => match w.get s1 with
    | some d => ofO (truD d) s1
    | none => .stuck
end

/-! ### statements -/
def setL : List Nat → List W → Rho → Option Rho
  | [], [], ρ => some ρ
  | i :: r, w :: ws, ρ => if i < ρ.length then setL r ws (ρ.set i (some w)) else none
  | _, _, _ => none
def noExn (ρ : Rho) : Bool := ρ.all fun
  | some (.exn _) => false
  | _ => true
/-- behind an except suite: its name is gone -/
def unset (i : Nat) : OutS → OutS
  | .ok (.rt y) ρ st => if y.pl then .ok (.rt y) ρ st else .stuck
  | .ok f ρ st => if noExn (ρ.set i none) then .ok f (ρ.set i none) st else .stuck
  | _ => .stuck
def unsetN : OutS → OutS
  | .exc _ _ _ => .stuck
  | o => o
mutual
def evS (C : Orc) : S → Rho → Sto → OutS
  | .asg t e, ρ, st => (evE C e ρ st).toS ρ fun w s1 => match setW t w ρ with
    | some ρ' => .ok .nx ρ' s1
    | none => .stuck
  | .par is l, ρ, st => (evEs C l ρ st).toS ρ fun ws s1 => match setL is ws ρ with
    | some ρ' => .ok .nx ρ' s1
    | none => .stuck
  | .sub o i e, ρ, st => (evE C e ρ st).toS ρ fun d s1 => (evE C o ρ s1).toS ρ fun w s2 => (evE C i ρ s2).toS ρ fun k s3 => match d, w, k with
    | .d d, .loc n, .d (.int j) => match s3[n]? with
      | some (.lst l) => match L2.ixN l.length j with
        | some m => .ok .nx ρ (s3.set n (.lst (l.set m d)))
        | none => .stuck
      | _ => .stuck
    | _, _, _ => .stuck
  | .ex e, ρ, st => (evE C e ρ st).toS ρ fun _ s1 => .ok .nx ρ s1
  | .ite c a b, ρ, st => (evT C c ρ st).toS ρ fun k s1 => if k then evSs C a ρ s1 else evSs C b ρ s1
  | .fo t k l b, ρ, st => (evEs C l ρ st).toS ρ fun ws s1 => match walkOf k ws s1 with
    | some q => loopS q (fun d ρ s => match setT t d ρ with
        | some ρ' => evSs C b ρ' s
        | none => .stuck) q.its ρ s1
    | none => .stuck
  | .wh c b, ρ, st => whileS (evT C c) (evSs C b) C.wh ρ st
  | .ret e, ρ, st => (evE C e ρ st).toS ρ fun w s1 => .ok (.rt w) ρ s1
  | .retn, ρ, st => .ok (.rt (.d .non)) ρ st
  | .brk, ρ, st => .ok .bk ρ st
  | .cont, ρ, st => .ok .ct ρ st
  | .pass, ρ, st => .ok .nx ρ st
  | .raise c, ρ, st => .exc c ρ st
  | .tri b c v h, ρ, st => match evSs C b ρ st with
    | .exc c0 ρ' s1 => match C.sub c0 c with
      | some true => match v with
        | some i => if i < ρ'.length then unset i (evSs C h (ρ'.set i (some (.exn c0))) s1) else .stuck
        | none => unsetN (evSs C h ρ' s1)
      | some false => .exc c0 ρ' s1
      | none => .stuck
    | o => o
def evSs (C : Orc) : List S → Rho → Sto → OutS
  | [], ρ, st => .ok .nx ρ st
  | s :: r, ρ, st => match evS C s ρ st with
    | .ok .nx ρ' s1 => evSs C r ρ' s1
    | o => o
end
/-- a def: how many parameters, how many names, its body -/
structure Fd where
  np : Nat
  nn : Nat
  body : List S
def W.old (n : Nat) : W → Bool
  | .d _ => true
  | .loc k => decide (k < n)
  | _ => false
def finF (n : Nat) : OutS → Out W
  | .ok .nx _ st => .ok (.d .non) (st.take n)
  | .ok (.rt w) _ st => if w.old n then .ok w (st.take n) else if w.pl then .ok w st else .stuck
  | .exc c _ st => .exc c (st.take n)
  | _ => .stuck
def start (nn : Nat) (ws : List W) : Rho := ws.map some ++ List.replicate (nn - ws.length) none
def orc (fs : Nat → Option Fd) (gl : Nat → Option D) (wh : Nat) (sub : Nat → Nat → Option Bool) : Nat → Orc
  | 0 => ⟨fun _ _ _ => .stuck, fun _ _ _ => .stuck, gl, wh, sub, false⟩
  | n + 1 => ⟨fun f ws st => match fs f with
      | some fd => if ws.length = fd.np then finF st.length (evSs (orc fs gl wh sub n) fd.body (start fd.nn ws) st) else .stuck
      | none => .stuck, fun e ρ st => evE (orc fs gl wh sub n) e ρ st, gl, wh, sub, n != 0⟩
end NC

set_option maxRecDepth 100000
/-! what stands for what -/
namespace NC
open PySem PySem.Spec PyProof.Rows L2

/-- the lists that are not written again; where the store's places lie; the heap -/
structure Wd where
  F : Addr → Prop
  m : List Addr
  H : Hp
  T : List (Addr × Str)
def FzL (w : Wd) (a : Addr) (vs : List V) : Prop := w.F a ∧ w.H a = some (.lst vs)
mutual
inductive RD (K : PySem.W.Frag) (w : Wd) : D → V → Prop
  | non : RD K w .non .non
  | bl (b : Bool) : RD K w (.bl b) (.bl b)
  | int (i : Int) : RD K w (.int i) (.int i)
  | str (x : Str) : RD K w (.str x) (.str x)
  | tup {a : Addr} {vs : List V} {ds : List D} : SqT K w.H a vs → RDs K w ds vs → RD K w (.tup ds) (.ref a)
  | lst {a : Addr} {vs : List V} {ds : List D} : FzL w a vs → RDs K w ds vs → RD K w (.lst ds) (.ref a)
inductive RDs (K : PySem.W.Frag) (w : Wd) : List D → List V → Prop
  | nil : RDs K w [] []
  | cons {d : D} {v : V} {ds : List D} {vs : List V} : RD K w d v → RDs K w ds vs → RDs K w (d :: ds) (v :: vs)
end
structure Le0 (w w' : Wd) : Prop where
  F : ∀ a, w.F a → w'.F a
  h : ∀ a, w.F a → w'.H a = w.H a
  t : ∀ a xs, w.H a = some (.tup xs) → w'.H a = some (.tup xs)
  z : ∀ a o u, w.H a = some (.frz o u) → w'.H a = some (.frz o u)
structure Le (w w' : Wd) : Prop extends Le0 w w' where
  m : ∃ l, w'.m = w.m ++ l ∧ ∀ b ∈ l, w.H b = none
  n : ∀ a, w'.H a = none → w.H a = none
  k : ∀ a o, w.H a = some o → a ∉ w.m → (∀ ps, o ≠ .tbl ps) → w'.H a = some o
  f : ∀ a, w.H a ≠ none → a ∉ w.m → w'.F a → w.F a
  tt : w'.T = w.T
theorem Le.refl (w : Wd) : Le w w := ⟨⟨fun _ h => h, fun _ _ => rfl, fun _ _ h => h, fun _ _ _ h => h⟩, ⟨[], by simp, fun _ h => nomatch h⟩, fun _ h => h, fun _ _ h _ _ => h, fun _ _ _ h => h, rfl⟩
theorem Le.out {w w1 : Wd} (a : Le w w1) {x : Addr} (h : w.H x ≠ none) (hm : x ∉ w.m) : x ∉ w1.m := fun z => by
  obtain ⟨l, e, f⟩ := a.m
  rw [e] at z
  rcases List.mem_append.mp z with z | z
  · exact hm z
  · exact h (f x z)
theorem Le.trans {w w1 w2 : Wd} (a : Le w w1) (b : Le w1 w2) : Le w w2 where
  F := fun x h => b.F x (a.F x h)
  h := fun x h => (b.h x (a.F x h)).trans (a.h x h)
  t := fun x xs h => b.t x xs (a.t x xs h)
  z := fun x o u h => b.z x o u (a.z x o u h)
  m := by
    obtain ⟨l, e, f⟩ := a.m
    obtain ⟨l', e', f'⟩ := b.m
    refine ⟨l ++ l', by rw [e', e, List.append_assoc], fun c hc => ?_⟩
    rcases List.mem_append.mp hc with hc | hc
    · exact f c hc
    · exact a.n c (f' c hc)
  n := fun x h => a.n x (b.n x h)
  k := fun x o h hm hn => b.k x o (a.k x o h hm hn) (a.out (by rw [h]; exact fun z => nomatch z) hm) hn
  tt := b.tt.trans a.tt
  f := fun x h hm hF => a.f x h hm (b.f x (fun z => h (a.n x z)) (a.out h hm) hF)
section
variable {K : PySem.W.Frag} {w w' : Wd}
theorem sqT_le (l : Le0 w w') {a : Addr} {vs : List V} (h : SqT K w.H a vs) : SqT K w'.H a vs := by
  rcases h with (h | ⟨o, h⟩) | h
  · exact .inl (.inl (l.t _ _ h))
  · exact .inl (.inr ⟨o, l.z _ _ _ h⟩)
  · exact .inr h
theorem fzL_le (l : Le0 w w') {a : Addr} {vs : List V} (h : FzL w a vs) : FzL w' a vs := ⟨l.F _ h.1, (l.h _ h.1).trans h.2⟩
theorem FzL.sq {a : Addr} {vs : List V} (h : FzL w a vs) : SqL K w.H a vs := .inl (.inl h.2)
mutual
theorem RD.le (l : Le0 w w') : ∀ {d : D} {v : V}, RD K w d v → RD K w' d v
  | _, _, .non => .non
  | _, _, .bl b => .bl b
  | _, _, .int i => .int i
  | _, _, .str x => .str x
  | _, _, .tup h r => .tup (sqT_le l h) (RDs.le l r)
  | _, _, .lst h r => .lst (fzL_le l h) (RDs.le l r)
theorem RDs.le (l : Le0 w w') : ∀ {ds : List D} {vs : List V}, RDs K w ds vs → RDs K w' ds vs
  | _, _, .nil => .nil
  | _, _, .cons r s => .cons (RD.le l r) (RDs.le l s)
end
theorem RDs.length : ∀ {ds : List D} {vs : List V}, RDs K w ds vs → ds.length = vs.length
  | _, _, .nil => rfl
  | _, _, .cons _ s => by rw [List.length_cons, List.length_cons, RDs.length s]
theorem RDs.get : ∀ {ds : List D} {vs : List V} {i : Nat} {d : D}, RDs K w ds vs → ds[i]? = some d → ∃ v, vs[i]? = some v ∧ RD K w d v
  | _, _, 0, _, .cons r _, e => ⟨_, rfl, by cases e; exact r⟩
  | _, _, i + 1, _, .cons _ s, e => RDs.get (i := i) s e
  | _, _, 0, _, .nil, e => by cases e
  | _, _, _ + 1, _, .nil, e => by cases e
theorem RDs.getv : ∀ {ds : List D} {vs : List V} {i : Nat} {v : V}, RDs K w ds vs → vs[i]? = some v → ∃ d, ds[i]? = some d ∧ RD K w d v
  | _, _, 0, _, .cons r _, e => ⟨_, rfl, by cases e; exact r⟩
  | _, _, i + 1, _, .cons _ s, e => RDs.getv (i := i) s e
  | _, _, 0, _, .nil, e => by cases e
  | _, _, _ + 1, _, .nil, e => by cases e
theorem RDs.app : ∀ {ds es : List D} {vs us : List V}, RDs K w ds vs → RDs K w es us → RDs K w (ds ++ es) (vs ++ us)
  | _, _, _, _, .nil, q => q
  | _, _, _, _, .cons r s, q => .cons r (RDs.app s q)
theorem RDs.take : ∀ {ds : List D} {vs : List V} (n : Nat), RDs K w ds vs → RDs K w (ds.take n) (vs.take n)
  | _, _, 0, _ => .nil
  | _, _, n + 1, .cons r s => .cons r (RDs.take n s)
  | _, _, _ + 1, .nil => .nil
theorem RDs.drop : ∀ {ds : List D} {vs : List V} (n : Nat), RDs K w ds vs → RDs K w (ds.drop n) (vs.drop n)
  | _, _, 0, q => q
  | _, _, n + 1, .cons _ s => RDs.drop n s
  | _, _, _ + 1, .nil => .nil
theorem RDs.set : ∀ {ds : List D} {vs : List V} (n : Nat) {d : D} {v : V}, RDs K w ds vs → RD K w d v → RDs K w (ds.set n d) (vs.set n v)
  | _, _, 0, _, _, .cons _ s, q => .cons q s
  | _, _, n + 1, _, _, .cons r s, q => .cons r (RDs.set n s q)
  | _, _, _, _, _, .nil, _ => .nil
theorem RDs.one {d : D} {v : V} (r : RD K w d v) : RDs K w [d] [v] := .cons r .nil
end

/-- what a lambda, a caught error stands for here -/
structure Ck where
  cl : Wd → E → Rho → V → Prop
  xn : Nat → V → Prop
  T : List (Addr × Str)
  mono : ∀ w w' e ρ v, Le w w' → cl w e ρ v → cl w' e ρ v
def noCk (T : List (Addr × Str)) : Ck := ⟨fun _ _ _ _ => False, fun _ _ => False, T, fun _ _ _ _ _ _ h => h⟩
def RW (K : PySem.W.Frag) (k : Ck) (w : Wd) : W → V → Prop
  | .d x, v => RD K w x v
  | .loc n, v => ∃ a, w.m[n]? = some a ∧ v = .ref a
  | .clo e ρ, v => k.cl w e ρ v
  | .exn c, v => k.xn c v
  | .scr l, v => ∃ a vs, v = .ref a ∧ ((∃ o, w.H a = some (.frz o (.lst vs))) ∨ ∀ H, SqL K H a vs) ∧ RDs K w l vs
inductive RWs (K : PySem.W.Frag) (k : Ck) (w : Wd) : List W → List V → Prop
  | nil : RWs K k w [] []
  | cons {x : W} {v : V} {xs : List W} {vs : List V} : RW K k w x v → RWs K k w xs vs → RWs K k w (x :: xs) (v :: vs)
structure RE (K : PySem.W.Frag) (k : Ck) (w : Wd) (ρ : Rho) (σ : L2.St) : Prop where
  len : ρ.length = σ.length
  at_ : ∀ (i : Nat) x, ρ[i]? = some (some x) → ∃ v, σ[i]? = some (some v) ∧ RW K k w x v
  tt : w.T = k.T
def CellOk (K : PySem.W.Frag) (w : Wd) : Cell → Addr → Prop
  | .lst l, a => ¬ w.F a ∧ ∃ vs, w.H a = some (.lst vs) ∧ RDs K w l vs
  | .dead, _ => True
structure OKS (K : PySem.W.Frag) (w : Wd) (st : Sto) : Prop where
  len : w.m.length = st.length
  inj : ∀ (i j : Nat) a, w.m[i]? = some a → w.m[j]? = some a → i = j
  tr : ∀ (i : Nat) a, w.m[i]? = some a → ∃ vs, w.H a = some (.lst vs)
  fz : ∀ a, w.F a → ∃ vs, w.H a = some (.lst vs)
  cel : ∀ (i : Nat) a c, w.m[i]? = some a → st[i]? = some c → CellOk K w c a
  tab : LamX.Tabs w.T w.H
theorem OKS.fzn {K : PySem.W.Frag} {w : Wd} {st : Sto} (o : OKS K w st) (a : Addr) (h : w.F a) : w.H a ≠ none := fun z => by
  obtain ⟨vs, e⟩ := o.fz a h
  rw [z] at e
  cases e
theorem OKS.trn {K : PySem.W.Frag} {w : Wd} {st : Sto} (o : OKS K w st) (i : Nat) (a : Addr) (h : w.m[i]? = some a) : w.H a ≠ none := fun z => by
  obtain ⟨vs, e⟩ := o.tr i a h
  rw [z] at e
  cases e
section
variable {K : PySem.W.Frag} {k : Ck} {w w' : Wd}
theorem RW.le (l : Le w w') {x : W} {v : V} (h : RW K k w x v) : RW K k w' x v := by
  cases x with
  | d x => exact RD.le l.toLe0 h
  | loc n =>
    obtain ⟨a, h1, h2⟩ := h
    obtain ⟨q, e, _⟩ := l.m
    refine ⟨a, ?_, h2⟩
    rw [e, List.getElem?_append_left (List.getElem?_eq_some_iff.mp h1).1]
    exact h1
  | clo e ρ => exact k.mono _ _ _ _ _ l h
  | exn c => exact h
  | scr q =>
    obtain ⟨a, vs, e, h1, h2⟩ := h
    refine ⟨a, vs, e, ?_, RDs.le l.toLe0 h2⟩
    rcases h1 with ⟨o, h1⟩ | h1
    · exact .inl ⟨o, l.z _ _ _ h1⟩
    · exact .inr h1
theorem RWs.le (l : Le w w') : ∀ {xs : List W} {vs : List V}, RWs K k w xs vs → RWs K k w' xs vs
  | _, _, .nil => .nil
  | _, _, .cons r s => .cons (r.le l) (RWs.le l s)
theorem RWs.length : ∀ {xs : List W} {vs : List V}, RWs K k w xs vs → xs.length = vs.length
  | _, _, .nil => rfl
  | _, _, .cons _ s => by rw [List.length_cons, List.length_cons, RWs.length s]
theorem RE.le (l : Le w w') {ρ : Rho} {σ : L2.St} (h : RE K k w ρ σ) : RE K k w' ρ σ := ⟨h.len, fun i x e =>
  let ⟨v, e1, r⟩ := h.at_ i x e
  ⟨v, e1, r.le l⟩, l.tt.trans h.tt⟩
theorem RE.set {ρ : Rho} {σ : L2.St} (h : RE K k w ρ σ) (i : Nat) {x : W} {v : V} (r : RW K k w x v) : RE K k w (ρ.set i (some x)) (σ.set i (some v)) := by
  refine ⟨by simpa using h.len, fun j y e => ?_, h.tt⟩
  by_cases hj : i = j
  · subst hj
    have hi : i < ρ.length := by
      have := (List.getElem?_eq_some_iff.mp e).1
      simpa using this
    rw [List.getElem?_set_self hi] at e
    cases e
    exact ⟨v, List.getElem?_set_self (by rw [← h.len]; exact hi), r⟩
  · rw [List.getElem?_set_ne hj] at e ⊢
    exact h.at_ j y e
theorem wipe_get (σ : L2.St) {i : Nat} : ∀ {vs : List Nat}, i ∉ vs → (wipe σ vs)[i]? = σ[i]?
  | [], _ => rfl
  | v :: vs, h => by
    unfold wipe
    rw [List.getElem?_set_ne (fun e => h (by simp [e])), wipe_get σ (fun z => h (by simp [z]))]
theorem RE.wipe {ρ : Rho} {σ : L2.St} (h : RE K k w ρ σ) : ∀ vs : List Nat, RE K k w (wipeR ρ vs) (L2.wipe σ vs)
  | [] => h
  | v :: vs => by
    have ih := RE.wipe h vs
    unfold wipeR L2.wipe
    refine ⟨by simpa using ih.len, fun j y e => ?_, ih.tt⟩
    by_cases hj : v = j
    · subst hj
      have hi : v < (wipeR ρ vs).length := by
        have := (List.getElem?_eq_some_iff.mp e).1
        simpa using this
      rw [List.getElem?_set_self hi] at e
      cases e
    · rw [List.getElem?_set_ne hj] at e ⊢
      exact ih.at_ j y e
/-- a value's data, as it stands -/
inductive RG (K : PySem.W.Frag) (w : Wd) : D → V → Prop
  | of {d : D} {v : V} : RD K w d v → RG K w d v
  | lst {a : Addr} {vs : List V} {ds : List D} : w.H a = some (.lst vs) → RDs K w ds vs → RG K w (.lst ds) (.ref a)
inductive RGs (K : PySem.W.Frag) (w : Wd) : List D → List V → Prop
  | nil : RGs K w [] []
  | cons {d : D} {v : V} {ds : List D} {vs : List V} : RG K w d v → RGs K w ds vs → RGs K w (d :: ds) (v :: vs)
theorem OKS.at_ {st : Sto} (o : OKS K w st) {n : Nat} {a : Addr} {l : List D} (h : w.m[n]? = some a) (e : st[n]? = some (.lst l)) : ¬ w.F a ∧ ∃ vs, w.H a = some (.lst vs) ∧ RDs K w l vs := o.cel n a _ h e
theorem RW.get {st : Sto} (o : OKS K w st) {x : W} {v : V} {d : D} (h : RW K k w x v) (e : x.get st = some d) : RG K w d v := by
  cases x with
  | d x =>
    cases e
    exact .of h
  | loc n =>
    obtain ⟨a, h1, rfl⟩ := h
    simp only [W.get] at e
    split at e
    · rename_i l q
      cases e
      obtain ⟨_, vs, h2, h3⟩ := o.at_ h1 q
      exact .lst h2 h3
    · cases e
  | clo _ _ => cases e
  | exn _ => cases e
  | scr _ => cases e
/-- a list that is read alone -/
inductive RS (K : PySem.W.Frag) (w : Wd) : D → V → Prop
  | of {d : D} {v : V} : RG K w d v → RS K w d v
  | lst {a : Addr} {vs : List V} {ds : List D} : SqL K w.H a vs → RDs K w ds vs → RS K w (.lst ds) (.ref a)
theorem RW.getS {st : Sto} (o : OKS K w st) {x : W} {v : V} {d : D} (h : RW K k w x v) (e : x.getS st = some d) : RS K w d v := by
  cases x with
  | scr l =>
    cases e
    obtain ⟨a, vs, rfl, h1, h2⟩ := h
    refine .lst ?_ h2
    rcases h1 with ⟨o, h1⟩ | h1
    · exact .inl (.inr ⟨o, h1⟩)
    · exact h1 _
  | d x => exact .of (RW.get o h e)
  | loc n => exact .of (RW.get o h e)
  | clo _ _ => cases e
  | exn _ => cases e
theorem RWs.gets {st : Sto} (o : OKS K w st) : ∀ {xs : List W} {vs : List V} {ds : List D}, RWs K k w xs vs → gets xs st = some ds → RGs K w ds vs
  | _, _, _, .nil, e => by
    cases e
    exact .nil
  | x :: xs, _, _, .cons r s, e => by
    unfold NC.gets at e
    split at e
    · rename_i d q
      cases q2 : NC.gets xs st with
      | none =>
        rw [q2] at e
        cases e
      | some ds =>
        rw [q2] at e
        cases e
        exact .cons (RW.get o r q) (RWs.gets o s q2)
    · cases e
/-- as the layer has it -/
theorem RG.lst_h {ds : List D} {v : V} (h : RG K w (.lst ds) v) : ∃ a vs, v = .ref a ∧ w.H a = some (.lst vs) ∧ RDs K w ds vs := by
  cases h with
  | of h =>
    cases h with
    | lst h r => exact ⟨_, _, rfl, h.2, r⟩
  | lst h r => exact ⟨_, _, rfl, h, r⟩
theorem RG.lst_sq {ds : List D} {v : V} (h : RG K w (.lst ds) v) : ∃ a vs, v = .ref a ∧ SqL K w.H a vs ∧ RDs K w ds vs := by
  cases h with
  | of h =>
    cases h with
    | lst h r => exact ⟨_, _, rfl, h.sq, r⟩
  | lst h r => exact ⟨_, _, rfl, .inl (.inl h), r⟩
theorem RG.tup_sq {ds : List D} {v : V} (h : RG K w (.tup ds) v) : ∃ a vs, v = .ref a ∧ SqT K w.H a vs ∧ RDs K w ds vs := by
  cases h with
  | of h =>
    cases h with
    | tup h r => exact ⟨_, _, rfl, h, r⟩
theorem RG.intv {i : Int} {v : V} (h : RG K w (.int i) v) : v = .int i := by
  cases h with
  | of h => cases h; rfl
theorem RG.blv {i : Bool} {v : V} (h : RG K w (.bl i) v) : v = .bl i := by
  cases h with
  | of h => cases h; rfl
theorem RG.strv {i : Str} {v : V} (h : RG K w (.str i) v) : v = .str i := by
  cases h with
  | of h => cases h; rfl
theorem RG.nonv {v : V} (h : RG K w .non v) : v = .non := by
  cases h with
  | of h => cases h; rfl
mutual
theorem RD.dp : ∀ {d : D} {v : V}, RD K w d v → Dp K w.H v d.py
  | _, _, .non => by unfold D.py; exact .non
  | _, _, .bl b => by unfold D.py; exact .bl b
  | _, _, .int i => by unfold D.py; exact .int i
  | _, _, .str x => by unfold D.py; exact .str x
  | _, _, .tup h r => by unfold D.py; exact .tup h (RDs.dp r)
  | _, _, .lst h r => by unfold D.py; exact .lst h.sq (RDs.dp r)
theorem RDs.dp : ∀ {ds : List D} {vs : List V}, RDs K w ds vs → DpAll K w.H vs (D.pys ds)
  | _, _, .nil => by unfold D.pys; exact .nil
  | _, _, .cons r s => by unfold D.pys; exact .cons (RD.dp r) (RDs.dp s)
end
theorem RG.dp {d : D} {v : V} (h : RG K w d v) : Dp K w.H v d.py := by
  cases h with
  | of h => exact h.dp
  | lst h r => unfold D.py; exact .lst (.inl (.inl h)) r.dp
end
end NC

set_option maxRecDepth 100000
/-! worlds that grow; readings -/
namespace NC
open PySem PySem.Spec PyProof.Rows L2
section
variable {K : PySem.W.Frag} {k : Ck} {w w' : Wd} {st : Sto} {p : Addr} {o : HO}
theorem upd_nn {H : Hp} {a p : Addr} {o : HO} (h : H a ≠ none) : upd H p o a ≠ none := by
  by_cases e : a = p
  · rw [e, upd_same]
    exact fun z => nomatch z
  · rwa [upd_ne e]
theorem tabs_upd {T : List (Addr × Str)} {H : Hp} {p : Addr} {o : HO} (t : LamX.Tabs T H) (h : H p = none ∨ ∃ vs, H p = some (.lst vs)) : LamX.Tabs T (upd H p o) := by
  intro q hq
  obtain ⟨ps, h1, h2, h3⟩ := t q hq
  have ne : ∀ {b u}, H b = some u → (∀ vs, u ≠ .lst vs) → b ≠ p := fun {b u} e n z => by
    rw [z] at e
    rcases h with h | ⟨vs, h⟩
    · rw [h] at e
      cases e
    · rw [h] at e
      exact n vs (Option.some.inj e).symm
  refine ⟨ps, (upd_ne (ne h1 fun vs z => by cases z)).trans h1, h2, fun pos cv hc => ?_⟩
  obtain ⟨c, e1, e2⟩ := h3 pos cv hc
  exact ⟨c, e1, (upd_ne (ne e2 fun vs z => by unfold LamX.CodeO at z; cases z)).trans e2⟩
/-- something new -/
def Wd.grow (w : Wd) (p : Addr) (o : HO) : Wd := { w with H := upd w.H p o }
theorem grow_le (ok : OKS K w st) (hp : w.H p = none) : Le w (w.grow p o) where
  F := fun _ h => h
  h := fun a h => upd_ne fun e => ok.fzn a h (by rw [e]; exact hp)
  t := fun a xs h => (upd_ne (ne_of_none h hp)).trans h
  z := fun a o u h => (upd_ne (ne_of_none h hp)).trans h
  m := ⟨[], by simp [Wd.grow], fun _ h => nomatch h⟩
  k := fun a u h _ _ => (upd_ne (ne_of_none h hp)).trans h
  f := fun _ _ _ h => h
  tt := rfl
  n := fun a h => by
    by_cases e : a = p
    · rw [e]; exact hp
    · have h' : upd w.H p o a = none := h
      rwa [upd_ne e] at h'
theorem grow_ok (ok : OKS K w st) (hp : w.H p = none) : OKS K (w.grow p o) st where
  len := ok.len
  inj := ok.inj
  tr := fun i a h => let ⟨vs, e⟩ := ok.tr i a h; ⟨vs, (upd_ne (ne_of_none e hp)).trans e⟩
  fz := fun a h => let ⟨vs, e⟩ := ok.fz a h; ⟨vs, (upd_ne (ne_of_none e hp)).trans e⟩
  tab := tabs_upd ok.tab (.inl hp)
  cel := fun i a c h e => by
    have q := ok.cel i a c h e
    cases c with
    | dead => trivial
    | lst l =>
      obtain ⟨q1, vs, q2, q3⟩ := q
      exact ⟨q1, vs, (upd_ne (ne_of_none q2 hp)).trans q2, RDs.le (grow_le ok hp).toLe0 q3⟩
/-- this one is not written again -/
def Wd.frz (w : Wd) (p : Addr) : Wd := { w with F := fun a => a = p ∨ w.F a }
theorem frz_le0 (w : Wd) (p : Addr) : Le0 w (w.frz p) := ⟨fun _ h => .inr h, fun _ _ => rfl, fun _ _ h => h, fun _ _ _ h => h⟩
/-- .. of a list that was not there at w0, or that is in the store there -/
theorem frz_le {w0 : Wd} (l : Le w0 w) (hp : w0.H p = none ∨ p ∈ w0.m) : Le w0 (w.frz p) :=
  ⟨⟨fun a h => .inr (l.F a h), l.h, l.t, l.z⟩, l.m, l.n, l.k, fun a h hm hF => by
    rcases hF with e | hF
    · rw [e] at h hm
      exact hp.elim (fun z => absurd z h) fun z => absurd z hm
    · exact l.f a h hm hF, l.tt⟩
theorem frz_ok (ok : OKS K w st) (hp : ∃ vs, w.H p = some (.lst vs)) (hm : ∀ (i : Nat) c, w.m[i]? = some p → st[i]? = some c → c = .dead) : OKS K (w.frz p) st where
  len := ok.len
  inj := ok.inj
  tr := ok.tr
  fz := fun a h => h.elim (fun e => by rw [e]; exact hp) (ok.fz a)
  tab := ok.tab
  cel := fun i a c h e => by
    have q := ok.cel i a c h e
    cases c with
    | dead => trivial
    | lst l =>
      obtain ⟨q1, vs, q2, q3⟩ := q
      refine ⟨fun z => ?_, vs, q2, RDs.le (frz_le0 w p) q3⟩
      rcases z with z | z
      · rw [z] at h
        cases hm i _ h e
      · exact q1 z
/-- a new list that is not written again -/
theorem new_frz (ok : OKS K w st) (hp : w.H p = none) {ds : List D} {vs : List V} (r : RDs K w ds vs) :
    ∃ w', w'.H = upd w.H p (.lst vs) ∧ Le w w' ∧ OKS K w' st ∧ RD K w' (.lst ds) (.ref p) := by
  have l1 : Le w (w.grow p (.lst vs)) := grow_le ok hp
  have ok1 : OKS K (w.grow p (.lst vs)) st := grow_ok ok hp
  have e1 : (w.grow p (.lst vs)).H p = some (.lst vs) := upd_same
  refine ⟨(w.grow p (.lst vs)).frz p, rfl, frz_le l1 (.inl hp), frz_ok ok1 ⟨_, e1⟩ (fun i c h _ => absurd hp (ok.trn i p h)), ?_⟩
  exact .lst ⟨.inl rfl, e1⟩ (RDs.le (frz_le l1 (.inl hp)).toLe0 r)
/-- a new tuple -/
theorem new_tup (ok : OKS K w st) (hp : w.H p = none) {ds : List D} {vs : List V} (r : RDs K w ds vs) :
    ∃ w', w'.H = upd w.H p (.tup vs) ∧ Le w w' ∧ OKS K w' st ∧ RD K w' (.tup ds) (.ref p) :=
  ⟨w.grow p (.tup vs), rfl, grow_le ok hp, grow_ok ok hp, .tup (.inl (.inl upd_same)) (RDs.le (grow_le ok hp).toLe0 r)⟩
/-- a new list in the store -/
theorem new_loc (ok : OKS K w st) (hp : w.H p = none) {ds : List D} {vs : List V} (r : RDs K w ds vs) :
    ∃ w', w'.H = upd w.H p (.lst vs) ∧ Le w w' ∧ OKS K w' (st ++ [.lst ds]) ∧ RW K k w' (.loc st.length) (.ref p) := by
  have l1 : Le w (w.grow p (.lst vs)) := grow_le ok hp
  have ok1 : OKS K (w.grow p (.lst vs)) st := grow_ok ok hp
  have e1 : (w.grow p (.lst vs)).H p = some (.lst vs) := upd_same
  let w2 : Wd := { w.grow p (.lst vs) with m := w.m ++ [p] }
  have l2 : Le0 (w.grow p (.lst vs)) w2 := ⟨fun _ h => h, fun _ _ => rfl, fun _ _ h => h, fun _ _ _ h => h⟩
  have l12 : Le w w2 := ⟨⟨l1.F, l1.h, l1.t, l1.z⟩, ⟨[p], rfl, fun b hb => by rw [List.mem_singleton.mp hb]; exact hp⟩, l1.n, l1.k, l1.f, l1.tt⟩
  have hl : w.m.length = st.length := ok.len
  have old : ∀ (i : Nat) a, (w.m ++ [p])[i]? = some a → (w.m[i]? = some a ∧ i < w.m.length) ∨ (i = w.m.length ∧ a = p) := fun i a h => by
    by_cases hi : i < w.m.length
    · rw [List.getElem?_append_left hi] at h
      exact .inl ⟨h, hi⟩
    · rw [List.getElem?_append_right (by omega)] at h
      have h2 := (List.getElem?_eq_some_iff.mp h).1
      have h3 : i - w.m.length = 0 := by simpa using h2
      rw [h3] at h
      exact .inr ⟨by omega, by simpa using h.symm⟩
  have np : ∀ (i : Nat), w.m[i]? ≠ some p := fun i e => ok.trn i p e hp
  refine ⟨w2, rfl, l12, ⟨?_, fun i j a h1 h2 => ?_, fun i a h => ?_, ok1.fz, fun i a c h e => ?_, ok1.tab⟩, p, ?_, rfl⟩
  · show (w.m ++ [p]).length = (st ++ [Cell.lst ds]).length
    rw [List.length_append, List.length_append, hl]
    rfl
  · rcases old i a h1 with ⟨h1, _⟩ | ⟨h1, e1⟩ <;> rcases old j a h2 with ⟨h2, _⟩ | ⟨h2, e2⟩
    · exact ok.inj i j a h1 h2
    · exact absurd (e2 ▸ h1) (np i)
    · exact absurd (e1 ▸ h2) (np j)
    · omega
  · rcases old i a h with ⟨h, _⟩ | ⟨_, e⟩
    · exact ok1.tr i a h
    · rw [e]
      exact ⟨vs, e1⟩
  · rcases old i a h with ⟨h, hi⟩ | ⟨h, e2⟩
    · rw [List.getElem?_append_left (by omega)] at e
      have q := ok1.cel i a c h e
      cases c with
      | dead => trivial
      | lst l =>
        obtain ⟨q1, us, q2, q3⟩ := q
        exact ⟨q1, us, q2, RDs.le l2 q3⟩
    · rw [h, hl, List.getElem?_append_right (Nat.le_refl _), Nat.sub_self] at e
      cases e
      rw [e2]
      exact ⟨fun z => ok.fzn p z hp, vs, e1, RDs.le l12.toLe0 r⟩
  · show (w.m ++ [p])[st.length]? = some p
    rw [← hl, List.getElem?_append_right (Nat.le_refl _), Nat.sub_self]
    rfl
theorem fresh_out (ok : OKS K w st) (hp : w.H p = none) {ds : List D} {vs : List V} (r : RDs K w ds vs) (n : Bool) :
    ∃ w' x st', freshL n ds st = .ok x st' ∧ w'.H = upd w.H p (.lst vs) ∧ Le w w' ∧ OKS K w' st' ∧ RW K k w' x (.ref p) := by
  cases n with
  | true =>
    obtain ⟨w', h1, h2, h3, h4⟩ := new_loc (k := k) ok hp r
    exact ⟨w', _, _, rfl, h1, h2, h3, h4⟩
  | false =>
    obtain ⟨w', h1, h2, h3, h4⟩ := new_frz ok hp r
    exact ⟨w', _, _, rfl, h1, h2, h3, h4⟩
/-- a list that was made on the way -/
theorem adopt {w0 : Wd} (l0 : Le w0 w) (h0 : w0.H p = none) (ok : OKS K w st) (nF : ¬ w.F p) (nm : p ∉ w.m) {ds : List D} {vs : List V} (hp : w.H p = some (.lst vs)) (r : RDs K w ds vs) (n : Bool) :
    ∃ w' x st', freshL n ds st = .ok x st' ∧ w'.H = w.H ∧ Le w0 w' ∧ OKS K w' st' ∧ RW K k w' x (.ref p) := by
  cases n with
  | false =>
    exact ⟨w.frz p, _, _, rfl, rfl, frz_le l0 (.inl h0), frz_ok ok ⟨_, hp⟩ (fun i c h _ => absurd (List.mem_of_getElem? h) nm), .lst ⟨.inl rfl, hp⟩ (RDs.le (frz_le0 w p) r)⟩
  | true =>
    let w2 : Wd := { w with m := w.m ++ [p] }
    have l2 : Le0 w w2 := ⟨fun _ h => h, fun _ _ => rfl, fun _ _ h => h, fun _ _ _ h => h⟩
    have hl : w.m.length = st.length := ok.len
    obtain ⟨l, e, f⟩ := l0.m
    have l02 : Le w0 w2 := ⟨⟨l0.F, l0.h, l0.t, l0.z⟩, ⟨l ++ [p], by show w.m ++ [p] = _; rw [e, List.append_assoc], fun b hb => ?_⟩, l0.n, l0.k, l0.f, l0.tt⟩
    have old : ∀ (i : Nat) a, (w.m ++ [p])[i]? = some a → (w.m[i]? = some a ∧ i < w.m.length) ∨ (i = w.m.length ∧ a = p) := fun i a h => by
      by_cases hi : i < w.m.length
      · rw [List.getElem?_append_left hi] at h
        exact .inl ⟨h, hi⟩
      · rw [List.getElem?_append_right (by omega)] at h
        have h2 := (List.getElem?_eq_some_iff.mp h).1
        have h3 : i - w.m.length = 0 := by simpa using h2
        rw [h3] at h
        exact .inr ⟨by omega, by simpa using h.symm⟩
    have np : ∀ (i : Nat), w.m[i]? ≠ some p := fun i e => nm (List.mem_of_getElem? e)
    refine ⟨w2, _, _, rfl, rfl, l02, ⟨?_, fun i j a h1 h2 => ?_, fun i a h => ?_, ok.fz, fun i a c h e => ?_, ok.tab⟩, p, ?_, rfl⟩
    · show (w.m ++ [p]).length = (st ++ [Cell.lst ds]).length
      rw [List.length_append, List.length_append, hl]
      rfl
    · rcases old i a h1 with ⟨h1, _⟩ | ⟨h1, e1⟩ <;> rcases old j a h2 with ⟨h2, _⟩ | ⟨h2, e2⟩
      · exact ok.inj i j a h1 h2
      · exact absurd (e2 ▸ h1) (np i)
      · exact absurd (e1 ▸ h2) (np j)
      · omega
    · rcases old i a h with ⟨h, _⟩ | ⟨_, e⟩
      · exact ok.tr i a h
      · rw [e]
        exact ⟨vs, hp⟩
    · rcases old i a h with ⟨h, hi⟩ | ⟨h, e2⟩
      · rw [List.getElem?_append_left (by omega)] at e
        have q := ok.cel i a c h e
        cases c with
        | dead => trivial
        | lst l =>
          obtain ⟨q1, us, q2, q3⟩ := q
          exact ⟨q1, us, q2, RDs.le l2 q3⟩
      · rw [h, hl, List.getElem?_append_right (Nat.le_refl _), Nat.sub_self] at e
        cases e
        rw [e2]
        exact ⟨nF, vs, hp, RDs.le l2 r⟩
    · show (w.m ++ [p])[st.length]? = some p
      rw [← hl, List.getElem?_append_right (Nat.le_refl _), Nat.sub_self]
      rfl
    · rcases List.mem_append.mp hb with hb | hb
      · exact f b hb
      · rw [List.mem_singleton.mp hb]
        exact h0
/-- the list that is being made grows -/
theorem bump {w0 : Wd} (l0 : Le w0 w) (h0 : w0.H p = none) (ok : OKS K w st) (nF : ¬ w.F p) (nm : p ∉ w.m) {vs us : List V} (hp : w.H p = some (.lst vs)) :
    Le0 w (w.grow p (.lst us)) ∧ Le w0 (w.grow p (.lst us)) ∧ OKS K (w.grow p (.lst us)) st := by
  have l1 : Le0 w (w.grow p (.lst us)) := ⟨fun _ h => h, fun a h => upd_ne fun e => nF (e ▸ h), fun a xs h => (upd_ne fun (e : a = p) => by rw [e, hp] at h; cases h).trans h, fun a o u h => (upd_ne fun (e : a = p) => by rw [e, hp] at h; cases h).trans h⟩
  refine ⟨l1, ⟨⟨l0.F, fun a h => (l1.h a (l0.F a h)).trans (l0.h a h), fun a xs h => l1.t a xs (l0.t a xs h), fun a o u h => l1.z a o u (l0.z a o u h)⟩, l0.m, fun a h => ?_, fun a o h hm hn => (upd_ne (ne_of_none h h0)).trans (l0.k a o h hm hn), l0.f, l0.tt⟩, ⟨ok.len, ok.inj, fun i a h => let ⟨vs, e⟩ := ok.tr i a h; ⟨vs, (upd_ne fun (z : a = p) => nm (by rw [← z]; exact List.mem_of_getElem? h)).trans e⟩, fun a h => let ⟨vs, e⟩ := ok.fz a h; ⟨vs, (upd_ne fun (z : a = p) => nF (by rw [← z]; exact h)).trans e⟩, fun i a c h e => ?_, tabs_upd ok.tab (.inr ⟨_, hp⟩)⟩⟩
  · by_cases e : a = p
    · rw [e]
      exact h0
    · have h' : upd w.H p (.lst us) a = none := h
      rw [upd_ne e] at h'
      exact l0.n a h'
  · have q := ok.cel i a c h e
    cases c with
    | dead => trivial
    | lst l =>
      obtain ⟨q1, vs', q2, q3⟩ := q
      exact ⟨q1, vs', (upd_ne fun (e : a = p) => nm (by rw [← e]; exact List.mem_of_getElem? h)).trans q2, RDs.le l1 q3⟩
/-- a list in the store is written -/
theorem wr_ok (ok : OKS K w st) {n : Nat} {a : Addr} {l ds : List D} {us : List V} (hm : w.m[n]? = some a) (hs : st[n]? = some (.lst l)) (r : RDs K w ds us) :
    ∃ w', w'.H = upd w.H a (.lst us) ∧ Le w w' ∧ OKS K w' (st.set n (.lst ds)) := by
  obtain ⟨q1, vs, q2, q3⟩ := ok.at_ hm hs
  have le : Le w (w.grow a (.lst us)) := by
    refine ⟨⟨fun _ h => h, fun b h => upd_ne fun e => q1 (e ▸ h), fun b xs h => (upd_ne ?_).trans h, fun b o u h => (upd_ne ?_).trans h⟩, ⟨[], by simp [Wd.grow], fun _ h => nomatch h⟩, fun b h => ?_, fun b o h hb _ => (upd_ne fun (e : b = a) => hb (by rw [e]; exact List.mem_of_getElem? hm)).trans h, fun _ _ _ h => h, rfl⟩
    · intro e
      rw [e, q2] at h
      cases h
    · intro e
      rw [e, q2] at h
      cases h
    · by_cases e : b = a
      · have h' : upd w.H a (.lst us) b = none := h
        rw [e, upd_same] at h'
        cases h'
      · have h' : upd w.H a (.lst us) b = none := h
        rwa [upd_ne e] at h'
  refine ⟨w.grow a (.lst us), rfl, le, ⟨by simpa [Wd.grow] using ok.len, ok.inj, fun i b h => (if z : b = a then ⟨us, by rw [z]; exact upd_same⟩ else let ⟨vs, e⟩ := ok.tr i b h; ⟨vs, (upd_ne z).trans e⟩), fun b h => let ⟨vs, e⟩ := ok.fz b h; ⟨vs, (upd_ne fun (z : b = a) => q1 (by rw [← z]; exact h)).trans e⟩, fun i b c h e => ?_, tabs_upd ok.tab (.inr ⟨_, q2⟩)⟩⟩
  by_cases hi : n = i
  · subst hi
    have hb : a = b := Option.some.inj (hm.symm.trans h)
    subst hb
    have hn : n < st.length := (List.getElem?_eq_some_iff.mp hs).1
    rw [List.getElem?_set_self hn] at e
    cases e
    exact ⟨q1, us, upd_same, RDs.le le.toLe0 r⟩
  · rw [List.getElem?_set_ne hi] at e
    have q := ok.cel i b c h e
    cases c with
    | dead => trivial
    | lst l' =>
      obtain ⟨z1, vs', z2, z3⟩ := q
      refine ⟨z1, vs', (upd_ne (fun (eb : b = a) => hi (ok.inj n i a hm (by rw [← eb]; exact h)))).trans z2, RDs.le le.toLe0 z3⟩
/-- a list of the store is written no more -/
theorem kill_ok (ok : OKS K w st) {n : Nat} {a : Addr} {l : List D} (hm : w.m[n]? = some a) (hs : st[n]? = some (.lst l)) :
    ∃ w', w'.H = w.H ∧ Le w w' ∧ OKS K w' (st.set n .dead) ∧ RD K w' (.lst l) (.ref a) := by
  obtain ⟨q1, vs, q2, q3⟩ := ok.at_ hm hs
  have ok1 : OKS K w (st.set n .dead) := by
    refine ⟨by simpa using ok.len, ok.inj, ok.tr, ok.fz, fun i b c h e => ?_, ok.tab⟩
    by_cases hi : n = i
    · subst hi
      rw [List.getElem?_set_self (List.getElem?_eq_some_iff.mp hs).1] at e
      cases e
      trivial
    · rw [List.getElem?_set_ne hi] at e
      exact ok.cel i b c h e
  refine ⟨w.frz a, rfl, frz_le (Le.refl w) (.inr (List.mem_of_getElem? hm)), frz_ok ok1 ⟨_, q2⟩ fun i c h e => ?_, .lst ⟨.inl rfl, q2⟩ (RDs.le (frz_le0 w a) q3)⟩
  have hi : n = i := ok.inj n i a hm h
  subst hi
  rw [List.getElem?_set_self (List.getElem?_eq_some_iff.mp hs).1] at e
  cases e
  rfl
end

/-! ### readings -/
def Post {α : Type} (o : Out α) (q : α → Sto → Prop) (x : Nat → Sto → Prop) : Prop := match o with
  | .stuck => False
  | .ok a st => q a st
  | .exc c st => x c st
theorem Post.bind {α β : Type} {o : Out α} {f : α → Sto → Out β} {q : β → Sto → Prop} {x : Nat → Sto → Prop} (h : Post (o.bind f) q x) : Post o (fun a st => Post (f a st) q x) x := by
  cases o <;> exact h
theorem Post.imp {α : Type} {o : Out α} {q q' : α → Sto → Prop} {x x' : Nat → Sto → Prop} (h : Post o q x) (h1 : ∀ a st, q a st → q' a st) (h2 : ∀ c st, x c st → x' c st) : Post o q' x' := by
  cases o with
  | stuck => exact h
  | ok a st => exact h1 a st h
  | exc c st => exact h2 c st h
theorem Post.ofO {α : Type} {o : Option α} {st : Sto} {q : α → Sto → Prop} {x : Nat → Sto → Prop} (h : Post (NC.ofO o st) q x) : ∃ a, o = some a ∧ q a st := by
  cases o with
  | none => exact h.elim
  | some a => exact ⟨a, rfl, h⟩
/-- what is wanted of an error: its class's number, the slots, the heap -/
abbrev WN := Nat → L2.St → Hp → Prop
def okV (K : PySem.W.Frag) (k : Ck) (w : Wd) (Q : VK) : W → Sto → Prop := fun x st => ∀ w' v, Le w w' → OKS K w' st → RW K k w' x v → Q v w'.H
def okVs (K : PySem.W.Frag) (k : Ck) (w : Wd) (Q : List V → Hp → Prop) : List W → Sto → Prop := fun x st => ∀ w' v, Le w w' → OKS K w' st → RWs K k w' x v → Q v w'.H
def okB (K : PySem.W.Frag) (w : Wd) (Q : Bool → Hp → Prop) : Bool → Sto → Prop := fun b st => ∀ w', Le w w' → OKS K w' st → Q b w'.H
def exW (K : PySem.W.Frag) (w : Wd) (x : Nat → Hp → Prop) : Nat → Sto → Prop := fun c st => ∀ w', Le w w' → OKS K w' st → x c w'.H
/-- it is as ρ and st tell -/
structure At (K : PySem.W.Frag) (k : Ck) (ρ : Rho) (st : Sto) (σ : L2.St) (w : Wd) : Prop where
  ok : OKS K w st
  re : RE K k w ρ σ
def tEv (K : PySem.W.Frag) (k : Ck) (C : Orc) (e : E) (x : WN) : TE := fun σ H Q => ∃ w ρ st, w.H = H ∧ At K k ρ st σ w ∧ Post (evE C e ρ st) (okV K k w Q) (exW K w fun c H => x c σ H)
def tEvs (K : PySem.W.Frag) (k : Ck) (C : Orc) (es : List E) (x : WN) : TA := fun σ H Q => ∃ w ρ st, w.H = H ∧ At K k ρ st σ w ∧ Post (evEs C es ρ st) (okVs K k w Q) (exW K w fun c H => x c σ H)
def tTv (K : PySem.W.Frag) (k : Ck) (C : Orc) (c : T) (x : WN) : TT := fun σ H Q => ∃ w ρ st, w.H = H ∧ At K k ρ st σ w ∧ Post (evT C c ρ st) (okB K w Q) (exW K w fun c H => x c σ H)
section
variable {K : PySem.W.Frag} {k : Ck} {w w' : Wd} {st : Sto} {Q : VK} {x : Nat → Hp → Prop}
theorem At.le {ρ : Rho} {st' : Sto} {σ : L2.St} (a : At K k ρ st σ w) (l : Le w w') (ok : OKS K w' st') : At K k ρ st' σ w' := ⟨ok, a.re.le l⟩
theorem okV.le {a : W} (l : Le w w') (h : okV K k w Q a st) : okV K k w' Q a st := fun w2 v l2 => h w2 v (l.trans l2)
theorem okVs.le {Q : List V → Hp → Prop} {a : List W} (l : Le w w') (h : okVs K k w Q a st) : okVs K k w' Q a st := fun w2 v l2 => h w2 v (l.trans l2)
theorem okB.le {Q : Bool → Hp → Prop} {a : Bool} (l : Le w w') (h : okB K w Q a st) : okB K w' Q a st := fun w2 l2 => h w2 (l.trans l2)
theorem exW.le {c : Nat} (l : Le w w') (h : exW K w x c st) : exW K w' x c st := fun w2 l2 => h w2 (l.trans l2)
/-- a part of an expression, then the rest -/
theorem part {C : Orc} {e : E} {ρ : Rho} {σ : L2.St} {X' : WN} {Q : VK} {f : W → Sto → Out α} {q : α → Sto → Prop} (a : At K k ρ st σ w) (p : Post ((evE C e ρ st).bind f) q (exW K w fun c H => X' c σ H))
    (h : ∀ w1 v x s1, Le w w1 → At K k ρ s1 σ w1 → RW K k w1 x v → Post (f x s1) q (exW K w fun c H => X' c σ H) → Q v w1.H) : tEv K k C e X' σ w.H Q :=
  ⟨w, ρ, st, rfl, a, (Post.bind p).imp (fun x s1 z w1 v l o r => h w1 v x s1 l (a.le l o) r z) fun _ _ z => z⟩
theorem parts {C : Orc} {es : List E} {ρ : Rho} {σ : L2.St} {X' : WN} {Q : List V → Hp → Prop} {f : List W → Sto → Out α} {q : α → Sto → Prop} (a : At K k ρ st σ w) (p : Post ((evEs C es ρ st).bind f) q (exW K w fun c H => X' c σ H))
    (h : ∀ w1 v x s1, Le w w1 → At K k ρ s1 σ w1 → RWs K k w1 x v → Post (f x s1) q (exW K w fun c H => X' c σ H) → Q v w1.H) : tEvs K k C es X' σ w.H Q :=
  ⟨w, ρ, st, rfl, a, (Post.bind p).imp (fun x s1 z w1 v l o r => h w1 v x s1 l (a.le l o) r z) fun _ _ z => z⟩
theorem partT {C : Orc} {e : T} {ρ : Rho} {σ : L2.St} {X' : WN} {Q : Bool → Hp → Prop} {f : Bool → Sto → Out α} {q : α → Sto → Prop} (a : At K k ρ st σ w) (p : Post ((evT C e ρ st).bind f) q (exW K w fun c H => X' c σ H))
    (h : ∀ w1 b s1, Le w w1 → At K k ρ s1 σ w1 → Post (f b s1) q (exW K w fun c H => X' c σ H) → Q b w1.H) : tTv K k C e X' σ w.H Q :=
  ⟨w, ρ, st, rfl, a, (Post.bind p).imp (fun x s1 z w1 l o => h w1 x s1 l (a.le l o) z) fun _ _ z => z⟩
theorem exW.le' {P : Nat → Hp → Prop} {o : Out α} {q : α → Sto → Prop} (l : Le w w') (h : Post o q (exW K w P)) : Post o q (exW K w' P) := h.imp (fun _ _ z => z) fun _ _ z => z.le l
end
end NC

set_option maxRecDepth 100000
/-! operations -/
namespace NC
open PySem PySem.Spec PyProof.Rows L2
def bop : BO → Operator
  | .add => .Add | .sub => .Sub | .mul => .Mult | .fdiv => .FloorDiv | .mod => .Mod | .pow => .Pow
def cop : CO → CmpOp
  | .eq => .Eq | .ne => .NotEq | .lt => .Lt | .le => .LtE | .gt => .Gt | .ge => .GtE | .inn => .In | .nin => .NotIn | .isn => .Is | .notn => .IsNot
theorem lenOk_of {n : Nat} (h : lenOk n = true) : n ≤ sizeLine := by
  unfold lenOk at h
  rw [sizeLine_eq]
  exact of_decide_eq_true h
theorem len_lt {n : Nat} (h : n < 16777216) : n < sizeLine := by
  rw [sizeLine_eq]
  exact h
section
variable {X : Cx} {k : Ck} {w : Wd} {st : Sto}
def rBin (K : PySem.W.Frag) (o : BO) : R2 := fun x y H Q => ∃ w st u v z, w.H = H ∧ OKS K w st ∧ RG K w u x ∧ RG K w v y ∧ binD o u v = some z ∧ ∀ w' r, Le w w' → OKS K w' st → RD K w' z r → Q r w'.H
theorem RDs.rep {K : PySem.W.Frag} {ds : List D} {vs : List V} (h : RDs K w ds vs) : ∀ n : Nat, RDs K w (List.replicate n ds).flatten (List.replicate n vs).flatten
  | 0 => .nil
  | n + 1 => by
    rw [List.replicate_succ, List.replicate_succ, List.flatten_cons, List.flatten_cons]
    exact RDs.app h (RDs.rep h n)
theorem op_bin (o : BO) : OpR X (binaryOp (bop o)) (rBin X.K o) := by
  intro pins s σ H x y v u Q I rx ry h
  obtain ⟨w, st, d, e, z, rfl, ok, hd, he, hz, q⟩ := h
  unfold binD at hz
  split at hz
  · cases hz
    cases hd.intv
    cases he.intv
    exact op_add pins s σ _ _ _ v u Q I rx ry ⟨_, _, rfl, rfl, q w _ (Le.refl w) ok (.int _)⟩
  · split at hz
    · rename_i hl
      cases hz
      cases hd.strv
      cases he.strv
      exact op_add_str pins s σ _ _ _ v u Q I rx ry ⟨_, _, rfl, rfl, lenOk_of hl, q w _ (Le.refl w) ok (.str _)⟩
    · cases hz
  · split at hz
    · rename_i hl
      cases hz
      obtain ⟨a, xs, rfl, sa, ra⟩ := hd.tup_sq
      obtain ⟨b, ys, rfl, sb, rb⟩ := he.tup_sq
      refine op_catA pins s σ _ _ _ v u Q I rx ry ⟨a, b, xs, ys, rfl, rfl, sa, sb, ?_, fun e1 => ?_, fun _ e2 => ?_, fun _ _ p hp => ?_⟩
      · rw [← ra.length, ← rb.length]
        exact lenOk_of hl
      · subst e1
        cases ra
        exact q w _ (Le.refl w) ok (.tup sb rb)
      · subst e2
        cases rb
        rw [List.append_nil] at q
        exact q w _ (Le.refl w) ok (.tup sa ra)
      · obtain ⟨w', e1, l1, ok1, r1⟩ := new_tup ok hp (ra.app rb)
        rw [← e1]
        exact q w' _ l1 ok1 r1
    · cases hz
  · split at hz
    · rename_i hl
      cases hz
      obtain ⟨a, xs, rfl, sa, ra⟩ := hd.lst_h
      obtain ⟨b, ys, rfl, sb, rb⟩ := he.lst_h
      refine op_cat pins s σ _ _ _ v u Q I rx ry ⟨a, b, xs, ys, rfl, rfl, sa, sb, ?_, fun p hp => ?_⟩
      · rw [← ra.length, ← rb.length]
        exact lenOk_of hl
      · obtain ⟨w', e1, l1, ok1, r1⟩ := new_frz ok hp (ra.app rb)
        rw [← e1]
        exact q w' _ l1 ok1 r1
    · cases hz
  · cases hz
    cases hd.intv
    cases he.intv
    exact op_sub pins s σ _ _ _ v u Q I rx ry ⟨_, _, rfl, rfl, q w _ (Le.refl w) ok (.int _)⟩
  · split at hz
    · rename_i i j hm
      cases hz
      cases hd.intv
      cases he.intv
      unfold mulOk at hm
      simp only [Bool.or_eq_true, decide_eq_true_eq] at hm
      rcases hm with (hm | hm) | hm
      · exact op_mulW pins s σ _ _ _ v u Q I rx ry ⟨_, _, rfl, rfl, hm, q w _ (Le.refl w) ok (.int _)⟩
      · exact op_mul pins s σ _ _ _ v u Q I rx ry ⟨_, _, rfl, rfl, .inl hm, q w _ (Le.refl w) ok (.int _)⟩
      · exact op_mul pins s σ _ _ _ v u Q I rx ry ⟨_, _, rfl, rfl, .inr hm, q w _ (Le.refl w) ok (.int _)⟩
    · cases hz
  · split at hz
    · rename_i l j hm
      cases hz
      simp only [Bool.and_eq_true, decide_eq_true_eq] at hm
      obtain ⟨a, xs, rfl, sa, ra⟩ := hd.lst_h
      cases he.intv
      refine op_rep pins s σ _ _ _ v u Q I rx ry ⟨a, j, xs, rfl, rfl, sa, by omega, by omega, ?_, fun p hp => ?_⟩
      · rw [← ra.length]
        exact lenOk_of hm.2
      · obtain ⟨w', e1, l1, ok1, r1⟩ := new_frz ok hp (ra.rep j.toNat)
        rw [← e1]
        exact q w' _ l1 ok1 r1
    · cases hz
  · split at hz
    · rename_i i j hm
      cases hz
      cases hd.intv
      cases he.intv
      unfold divOk at hm
      simp only [Bool.and_eq_true, decide_eq_true_eq] at hm
      exact op_fdivW pins s σ _ _ _ v u Q I rx ry ⟨_, _, rfl, rfl, ⟨hm.1, hm.2⟩, q w _ (Le.refl w) ok (.int _)⟩
    · cases hz
  · split at hz
    · rename_i i j hm
      cases hz
      cases hd.intv
      cases he.intv
      exact op_mod pins s σ _ _ _ v u Q I rx ry ⟨_, _, rfl, rfl, of_decide_eq_true hm, q w _ (Le.refl w) ok (.int _)⟩
    · cases hz
  · split at hz
    · rename_i i j hm
      cases hz
      cases hd.intv
      cases he.intv
      unfold powOk at hm
      simp only [Bool.and_eq_true, decide_eq_true_eq] at hm
      exact op_pow pins s σ _ _ _ v u Q I rx ry ⟨_, _, rfl, rfl, ⟨hm.1.1, hm.1.2, hm.2⟩, q w _ (Le.refl w) ok (.int _)⟩
    · cases hz
  · cases hz
def rCmp (K : PySem.W.Frag) (o : CO) : R2 := fun x y H Q => ∃ w u v z, w.H = H ∧ RG K w u x ∧ RG K w v y ∧ cmpD o u v = some z ∧ Q (.bl z) H
theorem isNon_v {K : PySem.W.Frag} {d : D} {v : V} (h : RG K w d v) : decide (v = .non) = isNon d := by
  cases h with
  | of h => cases h <;> rfl
  | lst h r => rfl
theorem pys_any (d : D) : ∀ l : List D, ((D.pys l).any fun z => PyData.eqv z d.py) = l.any fun b => PyData.eqv b.py d.py
  | [] => rfl
  | a :: r => by
    unfold D.pys
    rw [List.any_cons, List.any_cons, pys_any d r]
theorem ints_vs {K : PySem.W.Frag} {w : Wd} : ∀ {ds : List D} {vs : List V} {ns : List Int}, intsOf ds = some ns → RDs K w ds vs → vs = ns.map V.int
  | [], _, _, e, .nil => by
    cases e
    rfl
  | .int i :: r, _, _, e, .cons h t => by
    unfold intsOf at e
    cases q : intsOf r with
    | none =>
      rw [q] at e
      cases e
    | some ms =>
      rw [q] at e
      cases e
      cases h
      rw [ints_vs q t]
      rfl
  | .non :: _, _, _, e, _ => by cases e
  | .bl _ :: _, _, _, e, _ => by cases e
  | .str _ :: _, _, _, e, _ => by cases e
  | .tup _ :: _, _, _, e, _ => by cases e
  | .lst _ :: _, _, _, e, _ => by cases e
theorem one_sign {x : Str} {c : Nat} (h : x.cps.toList = [c]) : x = ⟨#[c]⟩ := by
  cases x with
  | mk a =>
    have e : a = #[c] := by
      have := congrArg List.toArray h
      simpa using this
    rw [e]
theorem op_cmp (o : CO) (hu : X.A.units + 65 < cLine) : OpR X (compareOp (cop o)) (rCmp X.K o) := by
  intro pins s σ H x y v u Q I rx ry h
  obtain ⟨w, d, e, z, rfl, hd, he, hz, q⟩ := h
  have hu2 : X.A.units + 64 < cLine := by omega
  unfold cmpD at hz
  split at hz
  · obtain ⟨z', hz, rfl⟩ : ∃ z', eqD d e = some z' ∧ z' = z := ⟨z, hz, rfl⟩
    unfold eqD at hz
    split at hz
    · cases hz
      cases hd.strv
      cases he.strv
      refine op_eq pins s σ _ _ _ v u Q I rx ry ⟨rfl, ?_⟩
      simpa using q
    · cases hz
      cases hd.intv
      cases he.intv
      refine op_eq pins s σ _ _ _ v u Q I rx ry ⟨rfl, ?_⟩
      simpa using q
    · split at hz
      · rename_i hs
        cases hz
        rw [Bool.and_eq_true] at hs
        exact op_eqD hu2 pins s σ _ _ _ v u Q I rx ry ⟨_, _, hd.dp, he.dp, hs.1, hs.2, q⟩
      · cases hz
  · obtain ⟨z', hq, rfl⟩ := Option.map_eq_some_iff.mp hz
    clear hz
    unfold eqD at hq
    split at hq
    · obtain rfl := Option.some.inj hq
      cases hd.strv
      cases he.strv
      refine op_ne pins s σ _ _ _ v u Q I rx ry ⟨rfl, ?_⟩
      simpa using q
    · obtain rfl := Option.some.inj hq
      cases hd.intv
      cases he.intv
      refine op_ne pins s σ _ _ _ v u Q I rx ry ⟨rfl, ?_⟩
      simpa using q
    · split at hq
      · rename_i hs
        obtain rfl := Option.some.inj hq
        rw [Bool.and_eq_true] at hs
        exact op_neD hu2 pins s σ _ _ _ v u Q I rx ry ⟨_, _, hd.dp, he.dp, hs.1, hs.2, q⟩
      · cases hq
  · cases hz
    cases hd.intv
    cases he.intv
    exact op_lt pins s σ _ _ _ v u Q I rx ry ⟨_, _, rfl, rfl, q⟩
  · cases hz
    cases hd.intv
    cases he.intv
    exact op_le pins s σ _ _ _ v u Q I rx ry ⟨_, _, rfl, rfl, q⟩
  · cases hz
    cases hd.intv
    cases he.intv
    exact op_gt pins s σ _ _ _ v u Q I rx ry ⟨_, _, rfl, rfl, q⟩
  · cases hz
    cases hd.intv
    cases he.intv
    exact op_ge pins s σ _ _ _ v u Q I rx ry ⟨_, _, rfl, rfl, q⟩
  · cases hz
    cases he.nonv
    refine op_isN pins s σ _ _ _ v u Q I rx ry ⟨rfl, ?_⟩
    rw [isNon_v hd]
    exact q
  · cases hz
    cases he.nonv
    refine op_notN pins s σ _ _ _ v u Q I rx ry ⟨rfl, ?_⟩
    rw [isNon_v hd]
    exact q
  · cases hz
    cases hd.blv
    cases he.blv
    exact op_isBl pins s σ _ _ _ v u Q I rx ry ⟨_, _, rfl, rfl, q⟩
  · cases hz
    cases hd.blv
    cases he.blv
    exact op_notBl pins s σ _ _ _ v u Q I rx ry ⟨_, _, rfl, rfl, q⟩
  · cases hz
    cases hd.strv
    cases he.strv
    exact op_lt_str pins s σ _ _ _ v u Q I rx ry ⟨_, _, rfl, rfl, q⟩
  · split at hz
    · rename_i a b _ _ ns ms e1 e2
      cases hz
      obtain ⟨p, xs, rfl, sa, ra⟩ := hd.tup_sq
      obtain ⟨p2, ys, rfl, sb, rb⟩ := he.tup_sq
      rw [ints_vs e1 ra] at sa
      rw [ints_vs e2 rb] at sb
      exact op_ltT (by omega) pins s σ _ _ _ v u Q I rx ry ⟨_, _, _, _, rfl, rfl, sa, sb, q⟩
    · cases hz
  · split at hz
    · rename_i c e1
      cases hz
      cases hd.strv
      cases he.strv
      exact op_in_sign pins s σ _ _ _ v u Q I rx ry ⟨c, _, by rw [← one_sign e1], rfl, q⟩
    · cases hz
  · split at hz
    · rename_i c e1
      cases hz
      cases hd.strv
      cases he.strv
      exact op_notIn_sign pins s σ _ _ _ v u Q I rx ry ⟨c, _, by rw [← one_sign e1], rfl, q⟩
    · cases hz
  · split at hz
    · rename_i hs
      cases hz
      rw [Bool.and_eq_true] at hs
      have hp := he.dp
      unfold D.py at hp
      have s2 := hs.2
      unfold shapedD D.py at s2
      refine op_inD hu pins s σ _ _ _ v u Q I rx ry ⟨_, _, hd.dp, hp, hs.1, s2, ?_⟩
      rw [pys_any]
      exact q
    · cases hz
  · split at hz
    · rename_i hs
      cases hz
      rw [Bool.and_eq_true] at hs
      have hp := he.dp
      unfold D.py at hp
      have s2 := hs.2
      unfold shapedD D.py at s2
      obtain ⟨as, r1⟩ := Dp.reads I _ _ _ hd.dp rx
      obtain ⟨bs, r2⟩ := Dp.reads I _ _ _ hp ry
      refine SeqAt.in_tuple_reads r2 r1 (SeqAt.canLay_of_shaped s2) (SeqAt.canLay_of_shaped hs.1) (room_in_shaped hs.1 hu) ⟨.bl _, _, I, rfl, ?_⟩
      rw [pys_any]
      exact q
    · cases hz
  · split at hz
    · rename_i hs
      cases hz
      rw [Bool.and_eq_true] at hs
      have hp := he.dp
      unfold D.py at hp
      have s2 := hs.2
      unfold shapedD D.py at s2
      refine op_notInD hu pins s σ _ _ _ v u Q I rx ry ⟨_, _, hd.dp, hp, hs.1, s2, ?_⟩
      rw [pys_any]
      exact q
    · cases hz
  · split at hz
    · rename_i hs
      cases hz
      rw [Bool.and_eq_true] at hs
      have hp := he.dp
      unfold D.py at hp
      have s2 := hs.2
      unfold shapedD D.py at s2
      obtain ⟨as, r1⟩ := Dp.reads I _ _ _ hd.dp rx
      obtain ⟨bs, r2⟩ := Dp.reads I _ _ _ hp ry
      refine SeqAt.notIn_tuple_reads r2 r1 (SeqAt.canLay_of_shaped s2) (SeqAt.canLay_of_shaped hs.1) (room_in_shaped hs.1 hu) ⟨.bl _, _, I, rfl, ?_⟩
      rw [pys_any]
      exact q
    · cases hz
  · cases hz
end
end NC

set_option maxRecDepth 100000
/-! built-ins, places -/
namespace NC
open PySem PySem.Spec PyProof.Rows L2
mutual
theorem py_nod : ∀ d : D, d.py.hasDict = false
  | .non => by simp [D.py, PyData.hasDict]
  | .bl _ => by simp [D.py, PyData.hasDict]
  | .int _ => by simp [D.py, PyData.hasDict]
  | .str _ => by simp [D.py, PyData.hasDict]
  | .tup l => by
    simp only [D.py, PyData.hasDict]
    exact pys_nod l
  | .lst l => by
    simp only [D.py, PyData.hasDict]
    exact pys_nod l
theorem pys_nod : ∀ l : List D, PyData.hasDictAll (D.pys l) = false
  | [] => by simp [D.pys, PyData.hasDictAll]
  | d :: r => by simp only [D.pys, PyData.hasDictAll, py_nod d, pys_nod r, Bool.or_self]
end
section
variable {X : Cx} {k : Ck} {w : Wd} {st : Sto}
theorem max_is : ∀ (i : Int) (r : List Int) (m : Int), (m = i ∨ m ∈ r) → (i ≤ m ∧ ∀ y ∈ r, y ≤ m) → maxL i r = m
  | i, [], m, h1, h2 => by
    rcases h1 with e | e
    · exact e.symm
    · cases e
  | i, j :: r, m, h1, h2 => by
    show maxL (if j > i then j else i) r = m
    have hj : j ≤ m := h2.2 j List.mem_cons_self
    refine max_is _ r m ?_ ⟨?_, fun y hy => h2.2 y (List.mem_cons_of_mem _ hy)⟩
    · split
      · rcases h1 with e | e
        · left; omega
        · rcases List.mem_cons.mp e with e | e
          · exact .inl e
          · exact .inr e
      · rcases h1 with e | e
        · exact .inl e
        · rcases List.mem_cons.mp e with e | e
          · left; omega
          · exact .inr e
    · split <;> omega
theorem min_is : ∀ (i : Int) (r : List Int) (m : Int), (m = i ∨ m ∈ r) → (m ≤ i ∧ ∀ y ∈ r, m ≤ y) → minL i r = m
  | i, [], m, h1, h2 => by
    rcases h1 with e | e
    · exact e.symm
    · cases e
  | i, j :: r, m, h1, h2 => by
    show minL (if j < i then j else i) r = m
    have hj : m ≤ j := h2.2 j List.mem_cons_self
    refine min_is _ r m ?_ ⟨?_, fun y hy => h2.2 y (List.mem_cons_of_mem _ hy)⟩
    · split
      · rcases h1 with e | e
        · left; omega
        · rcases List.mem_cons.mp e with e | e
          · exact .inl e
          · exact .inr e
      · rcases h1 with e | e
        · exact .inl e
        · rcases List.mem_cons.mp e with e | e
          · left; omega
          · exact .inr e
    · split <;> omega
theorem bls_vs {K : PySem.W.Frag} {w : Wd} : ∀ {ds : List D} {vs : List V} {ns : List Bool}, blsOf ds = some ns → RDs K w ds vs → vs = ns.map V.bl
  | [], _, _, e, .nil => by
    cases e
    rfl
  | .bl i :: r, _, _, e, .cons h t => by
    unfold blsOf at e
    cases q : blsOf r with
    | none =>
      rw [q] at e
      cases e
    | some ms =>
      rw [q] at e
      cases e
      cases h
      rw [bls_vs q t]
      rfl
  | .non :: _, _, _, e, _ => by cases e
  | .int _ :: _, _, _, e, _ => by cases e
  | .str _ :: _, _, _, e, _ => by cases e
  | .tup _ :: _, _, _, e, _ => by cases e
  | .lst _ :: _, _, _, e, _ => by cases e
/-- the name of a built-in, its value -/
def biN : Bi → Str
  | .len => "len" | .abs => "abs" | .int => "int" | .repr => "repr" | .str => "str" | .tuple => "tuple" | .list => "list" | .min2 => "min" | .max2 => "max" | .min => "min" | .max => "max"
  | .sum => "sum" | .all => "all" | .any => "any" | .sorted => "sorted" | .ord => "ord" | .isi _ => "isinstance"
def biV : Bi → Value
  | .len => .builtin "len" | .abs => .builtin "abs" | .int => .type "int" | .repr => .builtin "repr" | .str => .type "str" | .tuple => .type "tuple" | .list => .type "list" | .min2 => .builtin "min" | .max2 => .builtin "max"
  | .min => .builtin "min" | .max => .builtin "max" | .sum => .builtin "sum" | .all => .builtin "all" | .any => .builtin "any" | .sorted => .builtin "sorted" | .ord => .builtin "ord" | .isi _ => .builtin "isinstance"
/-- the arguments beside the data: a type for isinstance -/
def tyN : Ty → String
  | .int => "int" | .bool => "bool" | .str => "str" | .tuple => "tuple" | .list => "list" | .dict => "dict"
def biX : Bi → List V
  | .isi t => [.ty (tyN t)]
  | _ => []
def rBi (K : PySem.W.Frag) (b : Bi) : List V → Hp → VK → Prop := fun xs H Q => ∃ w st ds vs z, w.H = H ∧ xs = vs ++ biX b ∧ OKS K w st ∧ RGs K w ds vs ∧ biD b ds = some z ∧ ∀ w' r, Le w w' → OKS K w' st → RD K w' z r → Q r w'.H
theorem RGs.one {K : PySem.W.Frag} {w : Wd} {d : D} {vs : List V} (h : RGs K w [d] vs) : ∃ v, vs = [v] ∧ RG K w d v := by
  cases h with
  | cons h t =>
    cases t
    exact ⟨_, rfl, h⟩
theorem RGs.two {K : PySem.W.Frag} {w : Wd} {d e : D} {vs : List V} (h : RGs K w [d, e] vs) : ∃ v u, vs = [v, u] ∧ RG K w d v ∧ RG K w e u := by
  cases h with
  | cons h t =>
    cases t with
    | cons h2 t =>
      cases t
      exact ⟨_, _, rfl, h, h2⟩
/-- a list or a tuple of ints -/
theorem RG.seq_ints {K : PySem.W.Frag} {w : Wd} {d : D} {l : List D} {ns : List Int} {v : V} (h : RG K w d v) (e : seqOf d = some l) (e2 : intsOf l = some ns) : ∃ a, v = .ref a ∧ (SqL K w.H a (ns.map V.int) ∨ SqT K w.H a (ns.map V.int)) := by
  unfold seqOf at e
  split at e
  · cases e
    obtain ⟨a, vs, rfl, s, r⟩ := h.tup_sq
    rw [ints_vs e2 r] at s
    exact ⟨a, rfl, .inr s⟩
  · cases e
    obtain ⟨a, vs, rfl, s, r⟩ := h.lst_sq
    rw [ints_vs e2 r] at s
    exact ⟨a, rfl, .inl s⟩
  · cases e
theorem RG.tyx {K : PySem.W.Frag} {w : Wd} {d : D} {v : V} (h : RG K w d v) : ∃ n, TyX K w.H v (.type n) ∧ ∀ t, kitB n (tyN t) = some (tyD d t) := by
  cases h with
  | of h =>
    cases h with
    | non => exact ⟨_, .base .non, fun t => by cases t <;> decide +kernel⟩
    | bl b => exact ⟨_, .base (.bl b), fun t => by cases t <;> (simp only [tyD]; decide +kernel)⟩
    | int i => exact ⟨_, .base (.int i), fun t => by cases t <;> (simp only [tyD]; decide +kernel)⟩
    | str x => exact ⟨_, .base (.str x), fun t => by cases t <;> (simp only [tyD]; decide +kernel)⟩
    | tup h r =>
      refine ⟨"tuple", ?_, fun t => by cases t <;> (simp only [tyD]; decide +kernel)⟩
      rcases h with (h | ⟨o, h⟩) | ⟨o, _, _, h1, h2, _⟩
      · exact .base (.tup h)
      · exact .fTuple h
      · exact .kTuple h1 h2
    | lst h r => exact ⟨_, .base (.lst h.2), fun t => by cases t <;> (simp only [tyD]; decide +kernel)⟩
  | lst h r => exact ⟨_, .base (.lst h), fun t => by cases t <;> (simp only [tyD]; decide +kernel)⟩
theorem repr_dp {pins : List (Addr × Obj)} {s : Shared} {σ : L2.St} {H : Hp} {d : D} {v : V} {u : Value} {Q : VK} (I : Inv X pins σ H s) (hd : Dp X.K H v d.py) (r : RelV v u) (hs : showOk d = true) (hg : X.A.guards = some []) (hu : X.A.units + 64 < cLine) (q : Q (.str d.py.shown) H) :
    wpAny (model X.prog X.w) X.A (call (.builtin "repr") [u]) (EP X pins σ Q) X.xe s := by
  unfold showOk at hs
  simp only [Bool.and_eq_true, decide_eq_true_eq] at hs
  obtain ⟨⟨s1, s2⟩, s3⟩ := hs
  have s2 := lenOk_of s2
  cases d with
  | non =>
    simp only [D.py] at hd
    cases hd
    cases r
    refine PySem.P.repr_of_none ⟨.str _, H, I.tok _, ⟨_, rfl⟩, ?_⟩
    simpa only [D.py, PyData.shown] using q
  | bl b =>
    simp only [D.py] at hd
    cases hd
    cases r
    refine PySem.P.repr_of_bool ⟨.str _, H, I.tok _, ⟨_, rfl⟩, ?_⟩
    simpa only [D.py, PyData.shown] using q
  | int i =>
    simp only [D.py] at hd
    cases hd
    obtain ⟨t, rfl⟩ := r
    refine PySem.P.repr_of_int (by simpa [D.py, PyData.showable] using s1) ⟨.str _, H, I.tok _, ⟨_, rfl⟩, ?_⟩
    simpa only [D.py, PyData.shown] using q
  | str x =>
    simp only [D.py] at hd
    cases hd
    obtain ⟨t, rfl⟩ := r
    refine PySem.P.repr_of_str ⟨.str _, H, I.tok _, ⟨_, rfl⟩, ?_⟩ (by simpa only [D.py, PyData.shown] using s2)
    simpa only [D.py, PyData.shown] using q
  | tup l =>
    obtain ⟨as, rd⟩ := Dp.reads I _ _ _ hd r
    simp only [D.py] at hd
    cases hd
    cases r
    exact repr_of_reads' rd s1 (PyData.noDict_hsm (py_nod _)) hg (by omega) (fun _ _ e => e) (fun h' u tk hk => ⟨.str _, H, I.kept hk, ⟨_, rfl⟩, q⟩) s2
  | lst l =>
    obtain ⟨as, rd⟩ := Dp.reads I _ _ _ hd r
    simp only [D.py] at hd
    cases hd
    cases r
    exact repr_of_reads' rd s1 (PyData.noDict_hsm (py_nod _)) hg (by omega) (fun _ _ e => e) (fun h' u tk hk => ⟨.str _, H, I.kept hk, ⟨_, rfl⟩, q⟩) s2
theorem op_bi (b : Bi) (hc : X.calm = true) (hg : X.A.guards = some []) (hu : X.A.units + 64 < cLine) : CallR X (biV b) (rBi X.K b) := by
  intro pins s σ H xs us Q I r h
  obtain ⟨w, st, ds, vs, z, rfl, rfl, ok, hd, hz, q⟩ := h
  unfold biD at hz
  split at hz
  · -- len of a text
    split at hz
    · rename_i x hl
      cases hz
      obtain ⟨v, rfl, h1⟩ := hd.one
      cases h1.strv
      exact call_len pins s σ _ _ us Q I r ⟨_, _, rfl, ⟨lenOk_of hl, rfl⟩, q w _ (Le.refl w) ok (.int _)⟩
    · cases hz
  · cases hz
    obtain ⟨v, rfl, h1⟩ := hd.one
    obtain ⟨a, xs, rfl, sa, ra⟩ := h1.tup_sq
    rw [ra.length] at q
    exact call_len pins s σ _ _ us Q I r ⟨_, _, rfl, .inr ⟨xs, sa, rfl⟩, q w _ (Le.refl w) ok (.int _)⟩
  · cases hz
    obtain ⟨v, rfl, h1⟩ := hd.one
    obtain ⟨a, xs, rfl, sa, ra⟩ := h1.lst_sq
    rw [ra.length] at q
    exact call_len pins s σ _ _ us Q I r ⟨_, _, rfl, .inl ⟨xs, sa, rfl⟩, q w _ (Le.refl w) ok (.int _)⟩
  · cases hz
    obtain ⟨v, rfl, h1⟩ := hd.one
    cases h1.intv
    exact call_abs pins s σ _ _ us Q I r ⟨_, rfl, q w _ (Le.refl w) ok (.int _)⟩
  · cases hz
    obtain ⟨v, rfl, h1⟩ := hd.one
    cases h1.intv
    exact call_int1 pins s σ _ _ us Q I r (.inl ⟨_, rfl, q w _ (Le.refl w) ok (.int _)⟩)
  · cases hz
    obtain ⟨v, rfl, h1⟩ := hd.one
    cases h1.blv
    exact call_int1 pins s σ _ _ us Q I r (.inr ⟨_, rfl, q w _ (Le.refl w) ok (.int _)⟩)
  · split at hz
    · rename_i d hl
      cases hz
      obtain ⟨v, rfl, h1⟩ := hd.one
      obtain ⟨u, rfl, r1⟩ := vals1 r
      exact repr_dp I h1.dp r1 hl hg hu (q w _ (Le.refl w) ok (.str _))
    · cases hz
  · cases hz
    obtain ⟨v, rfl, h1⟩ := hd.one
    obtain ⟨a, xs, rfl, sa, ra⟩ := h1.lst_sq
    refine call_tuple_of pins s σ _ _ us Q I r ⟨a, xs, rfl, .inl ⟨sa, fun p hp => ?_⟩⟩
    obtain ⟨w', e1, l1, ok1, r1⟩ := new_tup ok hp ra
    rw [← e1]
    exact q w' _ l1 ok1 r1
  · cases hz
    obtain ⟨v, rfl, h1⟩ := hd.one
    obtain ⟨a, xs, rfl, sa, ra⟩ := h1.tup_sq
    exact call_tuple_of pins s σ _ _ us Q I r ⟨a, xs, rfl, .inr ⟨sa, q w _ (Le.refl w) ok (.tup sa ra)⟩⟩
  · cases hz
    obtain ⟨v, u, rfl, h1, h2⟩ := hd.two
    cases h1.intv
    cases h2.intv
    exact call_max2 hc pins s σ _ _ us Q I r ⟨_, _, rfl, q w _ (Le.refl w) ok (.int _)⟩
  · cases hz
    obtain ⟨v, u, rfl, h1, h2⟩ := hd.two
    cases h1.intv
    cases h2.intv
    exact call_min2 hc pins s σ _ _ us Q I r ⟨_, _, rfl, q w _ (Le.refl w) ok (.int _)⟩
  · split at hz
    · rename_i l i rr e2
      cases hz
      obtain ⟨v, rfl, h1⟩ := hd.one
      obtain ⟨a, xs, rfl, sa, ra⟩ := h1.lst_sq
      rw [ints_vs e2 ra] at sa
      refine cr_max hc pins s σ _ _ us Q I r ⟨a, _, rfl, sa, by simp, fun m hm hle => ?_⟩
      rw [max_is i rr m (by simpa using hm) ⟨hle i List.mem_cons_self, fun y hy => hle y (List.mem_cons_of_mem _ hy)⟩] at q
      exact q w _ (Le.refl w) ok (.int _)
    · cases hz
  · split at hz
    · rename_i l i rr e2
      cases hz
      obtain ⟨v, rfl, h1⟩ := hd.one
      obtain ⟨a, xs, rfl, sa, ra⟩ := h1.lst_sq
      rw [ints_vs e2 ra] at sa
      refine cr_min hc pins s σ _ _ us Q I r ⟨a, _, rfl, sa, by simp, fun m hm hle => ?_⟩
      rw [min_is i rr m (by simpa using hm) ⟨hle i List.mem_cons_self, fun y hy => hle y (List.mem_cons_of_mem _ hy)⟩] at q
      exact q w _ (Le.refl w) ok (.int _)
    · cases hz
  · rename_i l
    cases e2 : intsOf l with
    | none =>
      rw [e2] at hz
      cases hz
    | some ns =>
      rw [e2] at hz
      cases hz
      obtain ⟨v, rfl, h1⟩ := hd.one
      obtain ⟨a, xs, rfl, sa, ra⟩ := h1.lst_sq
      rw [ints_vs e2 ra] at sa
      exact cr_sum hc pins s σ _ _ us Q I r ⟨a, ns, rfl, sa, q w _ (Le.refl w) ok (.int _)⟩
  · rename_i l
    cases e2 : blsOf l with
    | none =>
      rw [e2] at hz
      cases hz
    | some bs =>
      rw [e2] at hz
      cases hz
      obtain ⟨v, rfl, h1⟩ := hd.one
      obtain ⟨a, xs, rfl, sa, ra⟩ := h1.lst_sq
      rw [bls_vs e2 ra] at sa
      exact cr_all hc pins s σ _ _ us Q I r ⟨a, bs, rfl, sa, q w _ (Le.refl w) ok (.bl _)⟩
  · rename_i l
    cases e2 : blsOf l with
    | none =>
      rw [e2] at hz
      cases hz
    | some bs =>
      rw [e2] at hz
      cases hz
      obtain ⟨v, rfl, h1⟩ := hd.one
      obtain ⟨a, xs, rfl, sa, ra⟩ := h1.lst_sq
      rw [bls_vs e2 ra] at sa
      exact cr_any hc pins s σ _ _ us Q I r ⟨a, bs, rfl, sa, q w _ (Le.refl w) ok (.bl _)⟩
  · rename_i t d
    cases hz
    obtain ⟨v, rfl, h1⟩ := hd.one
    obtain ⟨n, h2, h3⟩ := h1.tyx
    exact call_isi pins s σ _ _ us Q I r ⟨v, .ty (tyN t), _, _, _, rfl, .ty _, h2, kit_ty (h3 t), q w _ (Le.refl w) ok (.bl _)⟩
  · cases hz
end
end NC

set_option maxRecDepth 100000
/-! expressions -/
namespace NC
open PySem PySem.Spec PyProof.Rows L2
section
variable {X : Cx} {w : Wd} {st : Sto}
def rIxd (K : PySem.W.Frag) : R2 := fun x y H Q => ∃ w st u v z, w.H = H ∧ OKS K w st ∧ RG K w u x ∧ RG K w v y ∧ ixD u v = some z ∧ ∀ w' r, Le w w' → OKS K w' st → RD K w' z r → Q r w'.H
theorem atD_v {K : PySem.W.Frag} {ds : List D} {vs : List V} {i : Int} {d : D} (r : RDs K w ds vs) (h : atD ds i = some d) : ∃ v, atI vs i = some v ∧ RD K w d v := by
  unfold atD atI at h
  unfold atI
  rw [← r.length]
  cases e : ixN ds.length i with
  | none =>
    rw [e] at h
    cases h
  | some j =>
    rw [e] at h
    obtain ⟨v, h1, h2⟩ := r.get (i := j) h
    exact ⟨v, h1, h2⟩
theorem ix_d : IxR X (rIxd X.K) := by
  have go : IxR X (fun x y H Q => rIx X.K x y H Q) := ix_seq
  intro value slice pins s σ H x y v u Q I rx ry h hss
  obtain ⟨w, st, d, e, z, rfl, ok, hd, he, hz, q⟩ := h
  unfold ixD at hz
  split at hz
  · obtain ⟨a, xs, rfl, sa, ra⟩ := hd.tup_sq
    cases he.intv
    obtain ⟨y, h1, h2⟩ := atD_v ra hz
    exact go value slice pins s σ _ _ _ v u Q I rx ry (.inr (.inl ⟨a, xs, _, y, rfl, rfl, sa, h1, q w _ (Le.refl w) ok h2⟩)) hss
  · obtain ⟨a, xs, rfl, sa, ra⟩ := hd.lst_sq
    cases he.intv
    obtain ⟨y, h1, h2⟩ := atD_v ra hz
    exact go value slice pins s σ _ _ _ v u Q I rx ry (.inl ⟨a, xs, _, y, rfl, rfl, sa, h1, q w _ (Le.refl w) ok h2⟩) hss
  · split at hz
    · rename_i hl
      cases hd.strv
      cases he.intv
      obtain ⟨c, h1, rfl⟩ := Option.map_eq_some_iff.mp hz
      exact go value slice pins s σ _ _ _ v u Q I rx ry (.inr (.inr ⟨_, _, c, rfl, rfl, lenOk_of hl, h1, q w _ (Le.refl w) ok (.str _)⟩)) hss
    · cases hz
  · cases hz
theorem cut_r {K : PySem.W.Frag} {ds : List D} {vs : List V} (r : RDs K w ds vs) (lo hi : Option Int) : RDs K w (cutD ds lo hi) (cutV vs lo hi) := by
  unfold cutD cutV
  rw [← r.length]
  exact (r.drop _).take _
def rSld (K : PySem.W.Frag) : V → Option Int → Option Int → Hp → VK → Prop := fun x lo hi H Q => ∃ w st u z, w.H = H ∧ OKS K w st ∧ RS K w u x ∧ slD u lo hi = some z ∧ ∀ w' r, Le w w' → OKS K w' st → RD K w' z r → Q r w'.H
theorem sl_d : SlR X (rSld X.K) := by
  intro pins s σ H x v vl vu lo hi sl Q I rx hs pl pu h
  obtain ⟨w, st, d, z, rfl, ok, hd, hz, q⟩ := h
  unfold slD at hz
  split at hz
  · cases hz
    cases hd with
    | of hd =>
      obtain ⟨a, xs, rfl, sa, ra⟩ := hd.tup_sq
      refine sl_tupA pins s σ _ _ v vl vu lo hi sl Q I rx hs pl pu ⟨a, xs, rfl, sa, fun e => ?_, fun _ p hp => ?_⟩
      · refine q w _ (Le.refl w) ok (.tup sa ?_)
        have hc := cut_r ra lo hi
        have e2 : cutV xs lo hi = xs := by
          unfold cutV
          rw [e.1, e.2, Nat.sub_zero, List.drop_zero, List.take_length]
        rw [e2] at hc
        exact hc
      · obtain ⟨w', e1, l1, ok1, r1⟩ := new_tup ok hp (cut_r ra lo hi)
        rw [← e1]
        exact q w' _ l1 ok1 r1
  · cases hz
    rename_i l
    have hq : ∃ a xs, x = .ref a ∧ SqL X.K w.H a xs ∧ RDs X.K w l xs := by
      cases hd with
      | of hd => exact hd.lst_sq
      | lst h r => exact ⟨_, _, rfl, h, r⟩
    obtain ⟨a, xs, rfl, sa, ra⟩ := hq
    refine sl_list pins s σ _ _ v vl vu lo hi sl Q I rx hs pl pu ⟨a, xs, rfl, sa, fun p hp => ?_⟩
    obtain ⟨w', e1, l1, ok1, r1⟩ := new_frz ok hp (cut_r ra lo hi)
    rw [← e1]
    exact q w' _ l1 ok1 r1
  · cases hz
end
section
variable {X : Cx} {k : Ck} {C : Orc} {x : WN} {p : Pos}
theorem x_var {n : Str} {i : Nat} (hN : X.N[i]? = some n) (hv : Vis X.env.scope n) (hd : (n == ("__debug__" : Str)) = false) (hcd : (n == ("__classdict__" : Str)) = false) : PE X (.Name n p) (tEv X.K k C (.var i) x) := by
  refine ⟨fun pins s σ H Q I h => ?_⟩
  obtain ⟨w, ρ, st, rfl, a, q⟩ := h
  simp only [evE] at q
  split at q
  · rename_i y e
    obtain ⟨v, e1, r⟩ := a.re.at_ _ _ e
    exact (pe_var hN hv hd hcd).run pins s σ _ Q I ⟨v, e1, q w v (Le.refl w) a.ok r⟩
  · exact q.elim
theorem x_fz {n : Str} {i : Nat} (hN : X.N[i]? = some n) (hv : Vis X.env.scope n) (hd : (n == ("__debug__" : Str)) = false) (hcd : (n == ("__classdict__" : Str)) = false) : PE X (.Name n p) (tEv X.K k C (.fz i) x) := by
  refine ⟨fun pins s σ H Q I h => ?_⟩
  obtain ⟨w, ρ, st, rfl, a, q⟩ := h
  simp only [evE] at q
  split at q
  · rename_i m e
    obtain ⟨v, e1, r⟩ := a.re.at_ _ _ e
    split at q
    · rename_i l e2
      obtain ⟨b, h1, rfl⟩ := r
      obtain ⟨w', e3, l3, ok3, r3⟩ := kill_ok a.ok h1 e2
      refine (pe_var hN hv hd hcd).run pins s σ _ Q I ⟨.ref b, e1, ?_⟩
      rw [← e3]
      exact q w' _ l3 ok3 r3
    · exact q.elim
  · rename_i y e
    obtain ⟨v, e1, r⟩ := a.re.at_ _ _ e
    exact (pe_var hN hv hd hcd).run pins s σ _ Q I ⟨v, e1, q w v (Le.refl w) a.ok r⟩
  · exact q.elim
theorem x_con {e : Expr} {d : D} {v : V} (h : PE X e (tC v)) (r : ∀ w, RD X.K w d v) : PE X e (tEv X.K k C (.con d) x) := by
  refine ⟨fun pins s σ H Q I h' => ?_⟩
  obtain ⟨w, ρ, st, rfl, a, q⟩ := h'
  exact h.run pins s σ _ Q I (q w v (Le.refl w) a.ok (r w))
theorem x_glob {n : Str} {g : Nat} {v : V} {u : Value} {d : D} (hg : Gl X n) (hm : X.mg n = some u) (r : RelV v u) (hd : (n == ("__debug__" : Str)) = false) (hq : C.gl g = some d) (hr : ∀ w, RD X.K w d v) : PE X (.Name n p) (tEv X.K k C (.glob g) x) := by
  refine ⟨fun pins s σ H Q I h' => ?_⟩
  obtain ⟨w, ρ, st, rfl, a, q⟩ := h'
  simp only [evE, hq] at q
  exact (pe_glob hg hm r hd).run pins s σ _ Q I (q w v (Le.refl w) a.ok (hr w))
theorem x_bin {a b : E} {a' b' : Expr} (o : BO) (ha : PE X a' (tEv X.K k C a x)) (hb : PE X b' (tEv X.K k C b x)) : PE X (.BinOp a' (bop o) b' p) (tEv X.K k C (.bin o a b) x) := by
  refine ⟨fun pins s σ H Q I h => ?_⟩
  obtain ⟨w, ρ, st, rfl, at_, q⟩ := h
  simp only [evE] at q
  refine (pe_op (op_bin o) ha hb).run pins s σ _ Q I ?_
  refine part at_ q fun w1 v1 x1 s1 l1 a1 r1 q1 => ?_
  refine part a1 (exW.le' l1 q1) fun w2 v2 x2 s2 l2 a2 r2 q2 => ?_
  split at q2
  · rename_i u v e1 e2
    obtain ⟨z, e3, q3⟩ := q2.ofO
    obtain ⟨y, e4, rfl⟩ := Option.map_eq_some_iff.mp e3
    exact ⟨w2, s2, u, v, y, rfl, a2.ok, (r1.le l2).get a2.ok e1, r2.get a2.ok e2, e4, fun w' r l ok rr => q3 w' r ((l1.trans l2).trans l) ok rr⟩
  · exact q2.elim
theorem x_neg {a : E} {a' : Expr} (ha : PE X a' (tEv X.K k C a x)) : PE X (.UnaryOp .USub a' p) (tEv X.K k C (.neg a) x) := by
  refine ⟨fun pins s σ H Q I h => ?_⟩
  obtain ⟨w, ρ, st, rfl, at_, q⟩ := h
  simp only [evE] at q
  refine (pe_un un_neg ha).run pins s σ _ Q I ?_
  refine part at_ q fun w1 v1 x1 s1 l1 a1 r1 q1 => ?_
  split at q1
  · rename_i i
    cases r1
    exact ⟨i, rfl, q1 w1 _ l1 a1.ok (.int _)⟩
  · exact q1.elim
theorem cmp_core {a b : E} {o : CO} {w : Wd} {ρ : Rho} {st : Sto} {σ : L2.St} {Q : VK} {P : W → Sto → Prop} (at_ : At X.K k ρ st σ w) (q : Post (evE C (.cmp o a b) ρ st) P (exW X.K w fun c H => x c σ H))
    (h : ∀ y w2 s2, P (.d (.bl y)) s2 → Le w w2 → OKS X.K w2 s2 → Q (.bl y) w2.H) : tOp (rCmp X.K o) (tEv X.K k C a x) (tEv X.K k C b x) σ w.H Q := by
  simp only [evE] at q
  refine part at_ q fun w1 v1 x1 s1 l1 a1 r1 q1 => ?_
  refine part a1 (exW.le' l1 q1) fun w2 v2 x2 s2 l2 a2 r2 q2 => ?_
  split at q2
  · rename_i u v e1 e2
    obtain ⟨z, e3, q3⟩ := q2.ofO
    obtain ⟨y, e4, rfl⟩ := Option.map_eq_some_iff.mp e3
    exact ⟨w2, u, v, y, rfl, (r1.le l2).get a2.ok e1, r2.get a2.ok e2, e4, h y w2 s2 q3 (l1.trans l2) a2.ok⟩
  · exact q2.elim
theorem x_cmp {a b : E} {a' b' : Expr} (o : CO) (hu : X.A.units + 65 < cLine) (hm : behindInMarks (cop o) b' = false) (ha : PE X a' (tEv X.K k C a x)) (hb : PE X b' (tEv X.K k C b x)) :
    PE X (.Compare a' [cop o] [b'] p) (tEv X.K k C (.cmp o a b) x) := by
  refine ⟨fun pins s σ H Q I h => ?_⟩
  obtain ⟨w, ρ, st, rfl, at_, q⟩ := h
  exact (pe_cmpR (op_cmp o hu) ha hb hm).run pins s σ _ Q I (cmp_core at_ q fun y w2 s2 z l ok => z w2 _ l ok (.bl _))
/-- a value that is told true or false -/
theorem post_t {a : E} {w : Wd} {ρ : Rho} {st : Sto} {Q : Bool → Hp → Prop} {y : Nat → Hp → Prop} (q : Post (evT C (.e a) ρ st) (okB X.K w Q) (exW X.K w y)) :
    Post (evE C a ρ st) (fun z s1 => ∃ d b, z.get s1 = some d ∧ truD d = some b ∧ okB X.K w Q b s1) (exW X.K w y) := by
  simp only [evT] at q
  refine (Post.bind q).imp (fun z s1 q1 => ?_) fun _ _ z => z
  split at q1
  · rename_i d e
    obtain ⟨b, e3, q3⟩ := q1.ofO
    exact ⟨d, b, e, e3, q3⟩
  · exact q1.elim
theorem t_cmp {a b : E} {a' b' : Expr} (o : CO) (hu : X.A.units + 65 < cLine) (hm : behindInMarks (cop o) b' = false) (ha : PE X a' (tEv X.K k C a x)) (hb : PE X b' (tEv X.K k C b x)) :
    PT X (.Compare a' [cop o] [b'] p) (tTv X.K k C (.e (.cmp o a b)) x) := by
  refine ⟨fun pins s σ H Q I h => ?_⟩
  obtain ⟨w, ρ, st, rfl, at_, q⟩ := h
  refine (pt_cmpR (op_cmp o hu) ha hb hm).run pins s σ _ Q I (cmp_core at_ (post_t q) fun y w2 s2 z l ok => ?_)
  obtain ⟨d, b, e1, e2, z⟩ := z
  cases e1
  cases e2
  exact ⟨_, rfl, z w2 l ok⟩
theorem chain_core {a b c : E} {o o2 : CO} {w : Wd} {ρ : Rho} {st : Sto} {σ : L2.St} {Q : VK} {P : W → Sto → Prop} (at_ : At X.K k ρ st σ w) (q : Post (evE C (.chain o o2 a b c) ρ st) P (exW X.K w fun c H => x c σ H))
    (h : ∀ y w2 s2, P (.d (.bl y)) s2 → Le w w2 → OKS X.K w2 s2 → Q (.bl y) w2.H) : tChain (rCmp X.K o) (rCmp X.K o2) (tEv X.K k C a x) (tEv X.K k C b x) (tEv X.K k C c x) σ w.H Q := by
  simp only [evE] at q
  refine part at_ q fun w1 v1 x1 s1 l1 a1 r1 q1 => ?_
  refine part a1 (exW.le' l1 q1) fun w2 v2 x2 s2 l2 a2 r2 q2 => ?_
  split at q2
  · rename_i u v e1 e2
    split at q2
    · rename_i e3
      refine ⟨w2, u, v, true, rfl, (r1.le l2).get a2.ok e1, r2.get a2.ok e2, e3, true, rfl, ?_⟩
      rw [if_pos rfl]
      refine part a2 (exW.le' l2 q2) fun w3 v3 x3 s3 l3 a3 r3 q3 => ?_
      split at q3
      · rename_i u' v' e4 e5
        obtain ⟨z, e6, q4⟩ := q3.ofO
        obtain ⟨y, e7, rfl⟩ := Option.map_eq_some_iff.mp e6
        exact ⟨w3, u', v', y, rfl, (r2.le l3).get a3.ok e4, r3.get a3.ok e5, e7, h y w3 s3 q4 ((l1.trans l2).trans l3) a3.ok⟩
      · exact q3.elim
    · rename_i e3
      refine ⟨w2, u, v, false, rfl, (r1.le l2).get a2.ok e1, r2.get a2.ok e2, e3, false, rfl, ?_⟩
      rw [if_neg Bool.false_ne_true]
      exact h false w2 s2 q2 (l1.trans l2) a2.ok
    · exact q2.elim
  · exact q2.elim
theorem x_chain {a b c : E} {a' b' c' : Expr} (o o2 : CO) (hu : X.A.units + 65 < cLine) (hm : behindInMarks (cop o2) c' = false) (ha : PE X a' (tEv X.K k C a x)) (hb : PE X b' (tEv X.K k C b x)) (hc : PE X c' (tEv X.K k C c x)) :
    PE X (.Compare a' [cop o, cop o2] [b', c'] p) (tEv X.K k C (.chain o o2 a b c) x) := by
  refine ⟨fun pins s σ H Q I h => ?_⟩
  obtain ⟨w, ρ, st, rfl, at_, q⟩ := h
  exact (pe_chain (op_cmp o hu) (op_cmp o2 hu) ha hb hc hm).run pins s σ _ Q I (chain_core at_ q fun y w2 s2 z l ok => z w2 _ l ok (.bl _))
theorem t_chain {a b c : E} {a' b' c' : Expr} (o o2 : CO) (hu : X.A.units + 65 < cLine) (hm : behindInMarks (cop o2) c' = false) (ha : PE X a' (tEv X.K k C a x)) (hb : PE X b' (tEv X.K k C b x)) (hc : PE X c' (tEv X.K k C c x)) :
    PT X (.Compare a' [cop o, cop o2] [b', c'] p) (tTv X.K k C (.e (.chain o o2 a b c)) x) := by
  refine ⟨fun pins s σ H Q I h => ?_⟩
  obtain ⟨w, ρ, st, rfl, at_, q⟩ := h
  refine (pt_chain (op_cmp o hu) (op_cmp o2 hu) ha hb hc hm).run pins s σ _ Q I (chain_core at_ (post_t q) fun y w2 s2 z l ok => ?_)
  obtain ⟨d, b, e1, e2, z⟩ := z
  cases e1
  cases e2
  exact ⟨_, rfl, z w2 l ok⟩
theorem nat_nz (n : Nat) : (n != 0) = ((n : Int) != 0) := by
  cases n with
  | zero => rfl
  | succ n =>
    have h1 : (n + 1 != 0) = true := by simp
    have h2 : (((n + 1 : Nat) : Int) != 0) = true := by
      simp only [bne_iff_ne, ne_eq]
      omega
    rw [h1, h2]
theorem tru_v {K : PySem.W.Frag} {w : Wd} {d : D} {v : V} {b : Bool} (h : RG K w d v) (e : truD d = some b) : TruV K v w.H b := by
  unfold truD at e
  split at e
  · cases e
    cases h.blv
    rfl
  · cases e
    cases h.nonv
    rfl
  · cases e
    cases h.intv
    rfl
  · split at e
    · rename_i hl
      cases e
      cases h.strv
      exact ⟨lenOk_of hl, nat_nz _⟩
    · cases e
  · cases e
    obtain ⟨a, xs, rfl, sa, ra⟩ := h.tup_sq
    refine .inr (.inl ⟨xs, sa, ?_⟩)
    cases ra <;> rfl
  · cases e
    obtain ⟨a, xs, rfl, sa, ra⟩ := h.lst_sq
    refine .inl ⟨xs, sa, ?_⟩
    cases ra <;> rfl
theorem t_e {a : E} {a' : Expr} (ha : PE X a' (tEv X.K k C a x)) (he : ∀ whole, isTrue a' X.env whole = (do let v ← whole; standAt a'.pos; holding [v] (truthy v))) : PT X a' (tTv X.K k C (.e a) x) := by
  refine ⟨fun pins s σ H Q I h => ?_⟩
  obtain ⟨w, ρ, st, rfl, at_, q⟩ := h
  refine (pt_truth ha he).run pins s σ _ Q I ⟨w, ρ, st, rfl, at_, (post_t q).imp (fun z s1 ⟨d, b, e1, e2, q1⟩ w' v l ok r => ?_) fun _ _ z => z⟩
  exact ⟨b, tru_v (r.get ok e1) e2, q1 w' l ok⟩
theorem t_not {a : T} {a' : Expr} (ha : PT X a' (tTv X.K k C a x)) : PT X (.UnaryOp .Not a' p) (tTv X.K k C (.not a) x) := by
  refine ⟨fun pins s σ H Q I h => ?_⟩
  obtain ⟨w, ρ, st, rfl, at_, q⟩ := h
  simp only [evT] at q
  exact (pt_not ha).run pins s σ _ Q I (partT at_ q fun w1 b s1 l1 a1 q1 => q1 w1 l1 a1.ok)
theorem t_and {a b : T} {a' b' : Expr} {r : List Expr} (ha : PT X a' (tTv X.K k C a x)) (hb : PW X (.BoolOp .And (b' :: r) p) (tTv X.K k C b x)) : PW X (.BoolOp .And (a' :: b' :: r) p) (tTv X.K k C (.and a b) x) := by
  refine ⟨fun wh pins s σ H Q I h => ?_⟩
  obtain ⟨w, ρ, st, rfl, at_, q⟩ := h
  simp only [evT] at q
  refine (pw_and ha hb).run wh pins s σ _ Q I (partT at_ q fun w1 c s1 l1 a1 q1 => ?_)
  cases c with
  | true => exact ⟨w1, ρ, s1, rfl, a1, exW.le' l1 (q1.imp (fun _ _ z => z.le l1) fun _ _ z => z)⟩
  | false => exact q1 w1 l1 a1.ok
theorem t_or {a b : T} {a' b' : Expr} {r : List Expr} (ha : PT X a' (tTv X.K k C a x)) (hb : PW X (.BoolOp .Or (b' :: r) p) (tTv X.K k C b x)) : PW X (.BoolOp .Or (a' :: b' :: r) p) (tTv X.K k C (.or a b) x) := by
  refine ⟨fun wh pins s σ H Q I h => ?_⟩
  obtain ⟨w, ρ, st, rfl, at_, q⟩ := h
  simp only [evT] at q
  refine (pw_or ha hb).run wh pins s σ _ Q I (partT at_ q fun w1 c s1 l1 a1 q1 => ?_)
  cases c with
  | true => exact q1 w1 l1 a1.ok
  | false => exact ⟨w1, ρ, s1, rfl, a1, exW.le' l1 (q1.imp (fun _ _ z => z.le l1) fun _ _ z => z)⟩
/-! values by and, or, not -/
theorem x_and {a b : E} {a' b' : Expr} {r : List Expr} (ha : PE X a' (tEv X.K k C a x)) (hb : PE X (.BoolOp .And (b' :: r) p) (tEv X.K k C b x)) : PE X (.BoolOp .And (a' :: b' :: r) p) (tEv X.K k C (.and a b) x) := by
  refine ⟨fun pins s σ H Q I h => ?_⟩
  obtain ⟨w, ρ, st, rfl, at_, q⟩ := h
  simp only [evE] at q
  refine (pe_and ha hb).run pins s σ _ Q I (part at_ q fun w1 v1 x1 s1 l1 a1 r1 q1 => ?_)
  split at q1
  · cases r1
    exact ⟨true, rfl, w1, ρ, s1, rfl, a1, exW.le' l1 (q1.imp (fun _ _ z => z.le l1) fun _ _ z => z)⟩
  · cases r1
    exact ⟨false, rfl, q1 w1 _ l1 a1.ok (.bl _)⟩
  · exact q1.elim
theorem x_or {a b : E} {a' b' : Expr} {r : List Expr} (ha : PE X a' (tEv X.K k C a x)) (hb : PE X (.BoolOp .Or (b' :: r) p) (tEv X.K k C b x)) : PE X (.BoolOp .Or (a' :: b' :: r) p) (tEv X.K k C (.or a b) x) := by
  refine ⟨fun pins s σ H Q I h => ?_⟩
  obtain ⟨w, ρ, st, rfl, at_, q⟩ := h
  simp only [evE] at q
  refine (pe_or ha hb).run pins s σ _ Q I (part at_ q fun w1 v1 x1 s1 l1 a1 r1 q1 => ?_)
  split at q1
  · cases r1
    exact ⟨true, rfl, q1 w1 _ l1 a1.ok (.bl _)⟩
  · cases r1
    exact ⟨false, rfl, w1, ρ, s1, rfl, a1, exW.le' l1 (q1.imp (fun _ _ z => z.le l1) fun _ _ z => z)⟩
  · exact q1.elim
theorem x_not {a : E} {a' : Expr} (ha : PE X a' (tEv X.K k C a x)) : PE X (.UnaryOp .Not a' p) (tEv X.K k C (.not a) x) := by
  refine ⟨fun pins s σ H Q I h => ?_⟩
  obtain ⟨w, ρ, st, rfl, at_, q⟩ := h
  simp only [evE] at q
  refine (pe_not ha).run pins s σ _ Q I (part at_ q fun w1 v1 x1 s1 l1 a1 r1 q1 => ?_)
  split at q1
  · cases r1
    exact ⟨_, rfl, q1 w1 _ l1 a1.ok (.bl _)⟩
  · exact q1.elim
theorem x_ite {c : T} {a b : E} {c' a' b' : Expr} (hc : PT X c' (tTv X.K k C c x)) (ha : PE X a' (tEv X.K k C a x)) (hb : PE X b' (tEv X.K k C b x)) : PE X (.IfExp c' a' b' p) (tEv X.K k C (.ite c a b) x) := by
  refine ⟨fun pins s σ H Q I h => ?_⟩
  obtain ⟨w, ρ, st, rfl, at_, q⟩ := h
  simp only [evE] at q
  refine (pe_ifExp hc ha hb).run pins s σ _ Q I (partT at_ q fun w1 c s1 l1 a1 q1 => ?_)
  cases c with
  | true => exact ⟨w1, ρ, s1, rfl, a1, exW.le' l1 (q1.imp (fun _ _ z => z.le l1) fun _ _ z => z)⟩
  | false => exact ⟨w1, ρ, s1, rfl, a1, exW.le' l1 (q1.imp (fun _ _ z => z.le l1) fun _ _ z => z)⟩
/-! argument lists, displays -/
theorem x_nil : PA X [] (tEvs X.K k C [] x) := by
  refine ⟨fun pos pins s σ H Q I h => ?_⟩
  obtain ⟨w, ρ, st, rfl, at_, q⟩ := h
  exact pa_nil.run pos pins s σ _ Q I (q w [] (Le.refl w) at_.ok .nil)
theorem x_cons {a : E} {es : List E} {a' : Expr} {es' : List Expr} (ha : PE X a' (tEv X.K k C a x)) (hs : PA X es' (tEvs X.K k C es x)) (he : starEach (a' :: es') X.env = (false, eval a' X.env) :: starEach es' X.env) :
    PA X (a' :: es') (tEvs X.K k C (a :: es) x) := by
  refine ⟨fun pos pins s σ H Q I h => ?_⟩
  obtain ⟨w, ρ, st, rfl, at_, q⟩ := h
  simp only [evEs] at q
  refine (pa_cons ha hs he).run pos pins s σ _ Q I (part at_ q fun w1 v1 x1 s1 l1 a1 r1 q1 => ?_)
  refine parts a1 (exW.le' l1 q1) fun w2 v2 x2 s2 l2 a2 r2 q2 => ?_
  exact q2 w2 _ (l1.trans l2) a2.ok (.cons (r1.le l2) r2)
theorem all_d {K : PySem.W.Frag} {st : Sto} : ∀ {ws : List W} {vs : List V} {ds : List D}, RWs K k w ws vs → gets ws st = some ds → (ws.all fun | .d _ => true | _ => false) = true → RDs K w ds vs
  | [], _, _, .nil, e, _ => by
    cases e
    exact .nil
  | .d y :: r, _, _, .cons h t, e, e2 => by
    simp only [gets, W.get] at e
    cases q : gets r st with
    | none =>
      rw [q] at e
      cases e
    | some ds =>
      rw [q] at e
      cases e
      exact .cons h (all_d t q (by simpa using e2))
  | .loc _ :: _, _, _, _, _, e2 => by simp at e2
  | .clo _ _ :: _, _, _, _, _, e2 => by simp at e2
  | .exn _ :: _, _, _, _, _, e2 => by simp at e2
  | .scr _ :: _, _, _, _, _, e2 => by simp at e2
theorem x_tup {es : List E} {es' : List Expr} {z} (hs : PA X es' (tEvs X.K k C es x)) : PE X (.Tuple es' z p) (tEv X.K k C (.tup es) x) := by
  refine ⟨fun pins s σ H Q I h => ?_⟩
  obtain ⟨w, ρ, st, rfl, at_, q⟩ := h
  simp only [evE] at q
  refine (pe_tup hs).run pins s σ _ Q I (parts at_ q fun w1 v1 x1 s1 l1 a1 r1 q1 => ?_)
  split at q1
  · rename_i ds e
    split at q1
    · rename_i hl
      rw [Bool.and_eq_true] at hl
      have rd := all_d r1 e hl.1
      refine ⟨by rw [← rd.length]; exact lenOk_of hl.2, fun p hp => ?_⟩
      obtain ⟨w', e1, l2, ok2, r2⟩ := new_tup a1.ok hp rd
      rw [← e1]
      exact q1 w' _ (l1.trans l2) ok2 r2
    · exact q1.elim
  · exact q1.elim
theorem x_lst {es : List E} {es' : List Expr} (n : Bool) (hs : PA X es' (tEvs X.K k C es x)) : PE X (.List es' p) (tEv X.K k C (.ldisp n es) x) := by
  refine ⟨fun pins s σ H Q I h => ?_⟩
  obtain ⟨w, ρ, st, rfl, at_, q⟩ := h
  simp only [evE] at q
  refine (pe_lst hs).run pins s σ _ Q I (parts at_ q fun w1 v1 x1 s1 l1 a1 r1 q1 => ?_)
  split at q1
  · rename_i ds e
    split at q1
    · rename_i hl
      rw [Bool.and_eq_true] at hl
      have rd := all_d r1 e hl.1
      refine ⟨by rw [← rd.length]; exact lenOk_of hl.2, fun p hp => ?_⟩
      obtain ⟨w', y, s2, e0, e1, l2, ok2, r2⟩ := fresh_out (k := k) a1.ok hp rd n
      rw [e0] at q1
      rw [← e1]
      exact q1 w' _ (l1.trans l2) ok2 r2
    · exact q1.elim
  · exact q1.elim
theorem x_ix {a i : E} {a' i' : Expr} (ha : PE X a' (tEv X.K k C a x)) (hi : PE X i' (tEv X.K k C i x)) (hs : PlainIx i') : PE X (.Subscript a' i' p) (tEv X.K k C (.ix a i) x) := by
  refine ⟨fun pins s σ H Q I h => ?_⟩
  obtain ⟨w, ρ, st, rfl, at_, q⟩ := h
  simp only [evE] at q
  refine (pe_ix ix_d ha hi hs).run pins s σ _ Q I ?_
  refine part at_ q fun w1 v1 x1 s1 l1 a1 r1 q1 => ?_
  refine part a1 (exW.le' l1 q1) fun w2 v2 x2 s2 l2 a2 r2 q2 => ?_
  split at q2
  · rename_i u v e1 e2
    obtain ⟨z, e3, q3⟩ := q2.ofO
    obtain ⟨y, e4, rfl⟩ := Option.map_eq_some_iff.mp e3
    exact ⟨w2, s2, u, v, y, rfl, a2.ok, (r1.le l2).get a2.ok e1, r2.get a2.ok e2, e4, fun w' r l ok rr => q3 w' r ((l1.trans l2).trans l) ok rr⟩
  · exact q2.elim
end
end NC

set_option maxRecDepth 100000
/-! slices, targets, what is walked, comprehensions -/
namespace NC
open PySem PySem.Spec PyProof.Rows L2
section
variable {X : Cx} {k : Ck} {C : Orc} {x : WN} {p : Pos}
def tOv (K : PySem.W.Frag) (k : Ck) (C : Orc) (e : Option E) (x : WN) : TO := fun σ H Q => ∃ w ρ st, w.H = H ∧ At K k ρ st σ w ∧ Post (evO C e ρ st) (fun i s1 => ∀ w', Le w w' → OKS K w' s1 → Q i w'.H) (exW K w fun c H => x c σ H)
theorem o_none : PO X none (tOv X.K k C none x) := by
  refine ⟨fun pins s σ H Q I h => ?_⟩
  obtain ⟨w, ρ, st, rfl, a, q⟩ := h
  exact po_none.run pins s σ _ Q I (q w (Le.refl w) a.ok)
theorem o_some {e : E} {e' : Expr} (he : PE X e' (tEv X.K k C e x)) : PO X (some e') (tOv X.K k C (some e) x) := by
  refine ⟨fun pins s σ H Q I h => ?_⟩
  obtain ⟨w, ρ, st, rfl, a, q⟩ := h
  simp only [evO] at q
  refine (po_some he).run pins s σ _ Q I (part a q fun w1 v1 x1 s1 l1 a1 r1 q1 => ?_)
  split at q1
  · cases r1
    exact ⟨_, rfl, q1 w1 l1 a1.ok⟩
  · exact q1.elim
theorem partO {e : Option E} {w : Wd} {st : Sto} {ρ : Rho} {σ : L2.St} {Q : Option Int → Hp → Prop} {f : Option Int → Sto → Out α} {q : α → Sto → Prop} (a : At X.K k ρ st σ w) (p : Post ((evO C e ρ st).bind f) q (exW X.K w fun c H => x c σ H))
    (h : ∀ w1 b s1, Le w w1 → At X.K k ρ s1 σ w1 → Post (f b s1) q (exW X.K w fun c H => x c σ H) → Q b w1.H) : tOv X.K k C e x σ w.H Q :=
  ⟨w, ρ, st, rfl, a, (Post.bind p).imp (fun x s1 z w1 l o => h w1 x s1 l (a.le l o) z) fun _ _ z => z⟩
theorem x_sl {a : E} {lo hi : Option E} {a' : Expr} {lo' hi' : Option Expr} {p2 : Pos} (ha : PE X a' (tEv X.K k C a x)) (hl : PO X lo' (tOv X.K k C lo x)) (hh : PO X hi' (tOv X.K k C hi x)) :
    PE X (.Subscript a' (.Slice lo' hi' none p2) p) (tEv X.K k C (.sl a lo hi) x) := by
  refine ⟨fun pins s σ H Q I h => ?_⟩
  obtain ⟨w, ρ, st, rfl, at_, q⟩ := h
  simp only [evE] at q
  refine (pe_slice sl_d ha hl hh).run pins s σ _ Q I (part at_ q fun w1 v1 x1 s1 l1 a1 r1 q1 => ?_)
  refine partO a1 (exW.le' l1 q1) fun w2 i s2 l2 a2 q2 => ?_
  refine partO a2 (exW.le' l2 q2) fun w3 j s3 l3 a3 q3 => ?_
  split at q3
  · rename_i u e1
    obtain ⟨z, e3, q4⟩ := q3.ofO
    obtain ⟨y, e4, rfl⟩ := Option.map_eq_some_iff.mp e3
    exact ⟨w3, s3, u, y, rfl, a3.ok, (r1.le (l2.trans l3)).getS a3.ok e1, e4, fun w' r l ok rr => q4 w' r (((l1.trans l2).trans l3).trans l) ok rr⟩
  · exact q3.elim

/-! targets -/
def gT (K : PySem.W.Frag) (k : Ck) (t : NC.TG) : L2.TG := fun v σ H Q => ∃ w ρ st d ρ', w.H = H ∧ At K k ρ st σ w ∧ RD K w d v ∧ setT t d ρ = some ρ' ∧
  ∀ σ', At K k ρ' st σ' w → (∀ vs : List Nat, (∀ i ∈ t.vs, i ∈ vs) → L2.wipe σ' vs = L2.wipe σ vs) → Q σ' H
def gTs (K : PySem.W.Frag) (k : Ck) (t : List NC.TG) : L2.TGs := fun v σ H Q => ∃ w ρ st d ρ', w.H = H ∧ At K k ρ st σ w ∧ RDs K w d v ∧ setTs t d ρ = some ρ' ∧
  ∀ σ', At K k ρ' st σ' w → (∀ vs : List Nat, (∀ i ∈ TG.vss t, i ∈ vs) → L2.wipe σ' vs = L2.wipe σ vs) → Q σ' H
theorem wipe_set {σ : L2.St} {i : Nat} {y : Option V} : ∀ {vs : List Nat}, i ∈ vs → L2.wipe (σ.set i y) vs = L2.wipe σ vs
  | v :: vs, h => by
    unfold L2.wipe
    by_cases hv : i ∈ vs
    · rw [wipe_set hv]
    · have e : v = i := by
        rcases List.mem_cons.mp h with z | z
        · exact z.symm
        · exact absurd z hv
      subst e
      have sw : ∀ (us : List Nat), v ∉ us → L2.wipe (σ.set v y) us = (L2.wipe σ us).set v y := by
        intro us
        induction us with
        | nil => intro _; rfl
        | cons u us ih =>
          intro hu
          unfold L2.wipe
          rw [ih (fun z => hu (by simp [z])), List.set_comm _ _ (fun z => hu (by simp [z]))]
      rw [sw vs hv, List.set_set]
theorem g_v {n : Str} {i : Nat} (hN : X.N.Nodup) (hi : X.N[i]? = some n) (hx : Loc X.env.scope n) (hf : X.fn n = true ∨ X.env.scope.names.lookup n = some .local) : PG X (.Name n p) (gT X.K k (.v i)) := by
  refine ⟨fun pins s σ H v u Q I r h => ?_⟩
  obtain ⟨w, ρ, st, d, ρ', rfl, a, rd, e, q⟩ := h
  refine (pg_name hN hi hx hf).run pins s σ _ v u Q I r ?_
  unfold setT at e
  split at e
  · cases e
    refine q _ ⟨a.ok, a.re.set i rd⟩ fun vs hv => wipe_set (hv i ?_)
    simp [TG.vs]
  · cases e
theorem g_t {ts : List NC.TG} {es : List Expr} {z} (hc : X.calm = true) (h : PGs X es (gTs X.K k ts)) (hl : es.length = ts.length) (hn : (assignEach es X.env).length = es.length) (hst : (assignEach es X.env).findIdx? (·.1) = none) :
    PG X (.Tuple es z p) (gT X.K k (.t ts)) := by
  refine ⟨fun pins s σ H v u Q I r h' => ?_⟩
  obtain ⟨w, ρ, st, d, ρ', rfl, a, rd, e, q⟩ := h'
  have hlen : ∀ (ts : List NC.TG) (ds : List D) (ρ ρ' : Rho), setTs ts ds ρ = some ρ' → ts.length = ds.length := by
    intro ts
    induction ts with
    | nil =>
      intro ds ρ ρ' h
      cases ds with
      | nil => rfl
      | cons _ _ => simp [setTs] at h
    | cons t ts ih =>
      intro ds ρ ρ' h
      cases ds with
      | nil => simp [setTs] at h
      | cons d ds =>
        simp only [setTs] at h
        split at h
        · rw [List.length_cons, List.length_cons, ih _ _ _ h]
        · cases h
  cases d with
  | lst ds =>
    cases rd with
    | lst sq rr =>
      have e2 : setTs ts ds ρ = some ρ' := by simpa only [setT] using e
      refine (pg_lst hc h hn hst).run pins s σ _ _ u Q I r ⟨_, _, rfl, sq.sq, ?_, w, ρ, st, ds, ρ', rfl, a, rr, e2, fun σ' a' hv => q σ' a' fun vs hh => hv vs ?_⟩
      · rw [← rr.length, hl, hlen _ _ _ _ e2]
      · intro i hi
        exact hh i (by simpa only [TG.vs] using hi)
  | tup ds =>
    cases rd with
    | tup sq rr =>
      have e2 : setTs ts ds ρ = some ρ' := by simpa only [setT] using e
      refine (pg_tup hc h hn hst).run pins s σ _ _ u Q I r ⟨_, _, rfl, sq, ?_, w, ρ, st, ds, ρ', rfl, a, rr, e2, fun σ' a' hv => q σ' a' fun vs hh => hv vs ?_⟩
      · rw [← rr.length, hl, hlen _ _ _ _ e2]
      · intro i hi
        exact hh i (by simpa only [TG.vs] using hi)
  | _ => simp [setT] at e
theorem g_nil : PGs X [] (gTs X.K k []) := by
  refine ⟨fun pins s σ H vs us Q I r h => ?_⟩
  obtain ⟨w, ρ, st, d, ρ', rfl, a, rd, e, q⟩ := h
  cases d with
  | nil =>
    cases rd
    cases e
    exact pgs_nil.run pins s σ _ _ us Q I r ⟨rfl, q σ a fun _ _ => rfl⟩
  | cons _ _ => simp [setTs] at e
theorem g_cons {t : NC.TG} {ts : List NC.TG} {e : Expr} {es : List Expr} (h1 : PG X e (gT X.K k t)) (h2 : PGs X es (gTs X.K k ts)) (hs : (assignEach (e :: es) X.env).map (·.2) = assign e X.env :: (assignEach es X.env).map (·.2)) : PGs X (e :: es) (gTs X.K k (t :: ts)) := by
  refine ⟨fun pins s σ H vs us Q I r h => ?_⟩
  obtain ⟨w, ρ, st, d, ρ', rfl, a, rd, e, q⟩ := h
  cases d with
  | nil => simp [setTs] at e
  | cons d ds =>
    cases rd with
    | cons r1 rs =>
      simp only [setTs] at e
      split at e
      · rename_i ρ1 e1
        refine (pgs_cons h1 h2 hs).run pins s σ _ _ us Q I r ⟨_, _, rfl, w, ρ, st, d, ρ1, rfl, a, r1, e1, fun σ1 a1 w1 => ⟨w, ρ1, st, ds, ρ', rfl, a1, rs, e, fun σ2 a2 w2 => q σ2 a2 fun vs hv => ?_⟩⟩
        rw [w2 vs fun i hi => hv i ?_, w1 vs fun i hi => hv i ?_]
        · simp only [TG.vss, List.mem_append]
          exact .inl hi
        · simp only [TG.vss, List.mem_append]
          exact .inr hi
      · cases e

/-! what is walked -/
/-- the iterator gives the items, one by one -/
def Rz (K : PySem.W.Frag) (J : It) (q : Walk) (w1 : Wd) : Prop := ∀ w2 s2, Le w1 w2 → OKS K w2 s2 → q.ok s2 = true →
  (∀ (i : Nat) d, q.its[i]? = some d → J.go i w2.H ∧ ∀ v H', J.yld i w2.H v H' → ∃ w3, w3.H = H' ∧ Le w2 w3 ∧ OKS K w3 s2 ∧ RD K w3 d v) ∧ ∀ i, q.its.length ≤ i → J.stop i w2.H
/-- what the walked thing's evaluation is to bring -/
def wkP (K : PySem.W.Frag) (k : IK) (w : Wd) (R : It → Hp → Prop) : List W → Sto → Prop := fun ws s1 => ∃ q, walkOf k ws s1 = some q ∧ ∀ w1 J, Le w w1 → OKS K w1 s1 → Rz K J q w1 → R J w1.H
theorem rz_l {K : PySem.W.Frag} {w : Wd} {a : Addr} {vs : List V} {ds : List D} (h : FzL w a vs) (r : RDs K w ds vs) : Rz K (Itl K a) ⟨ds, none⟩ w := by
  intro w2 s2 l ok _
  have h2 := (fzL_le l.toLe0 h).2
  refine ⟨fun i d e => ?_, fun i hi => ⟨vs, .inl (.inl h2), by rw [← r.length]; exact hi⟩⟩
  obtain ⟨v, e1, r1⟩ := (RDs.le l.toLe0 r).get e
  refine ⟨⟨vs, v, .inl (.inl h2), e1⟩, fun v' H' hy => ?_⟩
  obtain ⟨rfl, hy⟩ := hy
  have e3 := hy vs (.inl (.inl h2))
  rw [e1] at e3
  cases e3
  exact ⟨w2, rfl, Le.refl w2, ok, r1⟩
theorem rz_t {K : PySem.W.Frag} {w : Wd} {a : Addr} {vs : List V} {ds : List D} (h : SqT K w.H a vs) (r : RDs K w ds vs) : Rz K (Itt K a) ⟨ds, none⟩ w := by
  intro w2 s2 l ok _
  have h2 := sqT_le l.toLe0 h
  refine ⟨fun i d e => ?_, fun i hi => ⟨vs, h2, by rw [← r.length]; exact hi⟩⟩
  obtain ⟨v, e1, r1⟩ := (RDs.le l.toLe0 r).get e
  refine ⟨⟨vs, v, h2, e1⟩, fun v' H' hy => ?_⟩
  obtain ⟨rfl, hy⟩ := hy
  have e3 := hy vs h2
  rw [e1] at e3
  cases e3
  exact ⟨w2, rfl, Le.refl w2, ok, r1⟩
theorem rz_c {K : PySem.W.Frag} {w : Wd} {a : Addr} {n : Nat} {ds : List D} (h : w.m[n]? = some a) : Rz K (Itl K a) ⟨ds, some n⟩ w := by
  intro w2 s2 l ok hq
  have hm : w2.m[n]? = some a := by
    obtain ⟨q, e, _⟩ := l.m
    rw [e, List.getElem?_append_left (List.getElem?_eq_some_iff.mp h).1]
    exact h
  have hs : s2[n]? = some (.lst ds) := by
    have hq : stays n ds s2 = true := hq
    unfold stays at hq
    split at hq
    · rename_i m e
      rw [e, D.beqs_eq hq]
    · cases hq
  obtain ⟨_, vs, h2, r⟩ := ok.at_ hm hs
  refine ⟨fun i d e => ?_, fun i hi => ⟨vs, .inl (.inl h2), by rw [← r.length]; exact hi⟩⟩
  obtain ⟨v, e1, r1⟩ := r.get e
  refine ⟨⟨vs, v, .inl (.inl h2), e1⟩, fun v' H' hy => ?_⟩
  obtain ⟨rfl, hy⟩ := hy
  have e3 := hy vs (.inl (.inl h2))
  rw [e1] at e3
  cases e3
  exact ⟨w2, rfl, Le.refl w2, ok, r1⟩
theorem rz_s {K : PySem.W.Frag} {w : Wd} (z : Str) : Rz K (Its z) ⟨z.cps.toList.map fun c => .str ⟨#[c]⟩, none⟩ w := by
  intro w2 s2 l ok _
  refine ⟨fun i d e => ?_, fun i hi => show z.cps.size ≤ i by simpa using hi⟩
  have e : (z.cps.toList.map fun c => D.str ⟨#[c]⟩)[i]? = some d := e
  rw [List.getElem?_map, Option.map_eq_some_iff] at e
  obtain ⟨c, e1, rfl⟩ := e
  have e1 : z.cps[i]? = some c := by simpa using e1
  refine ⟨(Array.getElem?_eq_some_iff.mp e1).1, fun v H' hy => ?_⟩
  obtain ⟨rfl, c', e2, rfl⟩ := hy
  rw [e1] at e2
  cases e2
  exact ⟨w2, rfl, Le.refl w2, ok, .str _⟩
theorem rz_r {K : PySem.W.Frag} {w : Wd} (lo : Int) (n : Nat) : Rz K (Itr lo n) ⟨rangeD lo n, none⟩ w := by
  intro w2 s2 l ok _
  refine ⟨fun i d e => ?_, fun i hi => show n ≤ i by simpa [rangeD] using hi⟩
  have e : (rangeD lo n)[i]? = some d := e
  unfold rangeD at e
  rw [List.getElem?_map, Option.map_eq_some_iff] at e
  obtain ⟨c, e1, rfl⟩ := e
  obtain ⟨e2, e3⟩ := List.getElem?_eq_some_iff.mp e1
  rw [List.getElem_range] at e3
  subst e3
  refine ⟨show i < n by simpa using e2, fun v H' hy => ?_⟩
  obtain ⟨rfl, rfl⟩ := hy
  exact ⟨w2, rfl, Le.refl w2, ok, .int _⟩
theorem pairs_get : ∀ (l : List D) (j i : Nat) (d : D), (pairs j l)[i]? = some d → ∃ y, l[i]? = some y ∧ d = .tup [.int ((j + i : Nat) : Int), y]
  | [], _, _, _, h => by simp [pairs] at h
  | y :: r, j, 0, d, h => by
    simp only [pairs, List.getElem?_cons_zero, Option.some.injEq] at h
    exact ⟨y, rfl, h.symm⟩
  | y :: r, j, i + 1, d, h => by
    simp only [pairs, List.getElem?_cons_succ] at h
    obtain ⟨z, h1, h2⟩ := pairs_get r (j + 1) i d h
    exact ⟨z, h1, by rw [h2, show j + 1 + i = j + (i + 1) by omega]⟩
theorem pairs_len : ∀ (l : List D) (j : Nat), (pairs j l).length = l.length
  | [], _ => rfl
  | _ :: r, j => by simp only [pairs, List.length_cons, pairs_len r (j + 1)]
theorem rz_e {K : PySem.W.Frag} {w : Wd} {a : Addr} {vs : List V} {ds : List D} (h : FzL w a vs) (r : RDs K w ds vs) : Rz K (Ite K a) ⟨pairs 0 ds, none⟩ w := by
  intro w2 s2 l ok _
  have h2 := (fzL_le l.toLe0 h).2
  refine ⟨fun i d e => ?_, fun i hi => ⟨vs, .inl (.inl h2), by rw [← r.length]; simpa [pairs_len] using hi⟩⟩
  obtain ⟨y, e0, rfl⟩ := pairs_get ds 0 i d e
  obtain ⟨v, e1, r1⟩ := (RDs.le l.toLe0 r).get e0
  refine ⟨⟨vs, v, .inl (.inl h2), e1⟩, fun v' H' hy => ?_⟩
  obtain ⟨T, z, rfl, hT, rfl, hy⟩ := hy
  have e3 := hy vs (.inl (.inl h2))
  rw [e1] at e3
  cases e3
  obtain ⟨w3, h1, h3, h4, h5⟩ := new_tup (vs := [.int (i : Nat), v]) (ds := [.int ((0 + i : Nat) : Int), y]) ok hT (.cons (by rw [Nat.zero_add]; exact .int _) (.cons r1 .nil))
  exact ⟨w3, h1, h3, h4, h5⟩
theorem zip_get : ∀ (l m : List D) (i : Nat) (d : D), (zipD l m)[i]? = some d → ∃ y z, l[i]? = some y ∧ m[i]? = some z ∧ d = .tup [y, z]
  | [], _, _, _, h => by simp [zipD] at h
  | _ :: _, [], _, _, h => by simp [zipD] at h
  | y :: r, z :: q, 0, d, h => by
    simp only [zipD, List.getElem?_cons_zero, Option.some.injEq] at h
    exact ⟨y, z, rfl, rfl, h.symm⟩
  | y :: r, z :: q, i + 1, d, h => by
    simp only [zipD, List.getElem?_cons_succ] at h
    exact zip_get r q i d h
theorem zip_len : ∀ (l m : List D), (zipD l m).length = min l.length m.length
  | [], _ => by simp [zipD]
  | _ :: _, [] => by simp [zipD]
  | _ :: r, _ :: q => by
    simp only [zipD, List.length_cons, zip_len r q]
    omega
theorem rz_zl {K : PySem.W.Frag} {w : Wd} {a b : Addr} {vs us : List V} {ds es : List D} (h : FzL w a vs) (r : RDs K w ds vs) (h' : FzL w b us) (r' : RDs K w es us) : Rz K (Itz K a b) ⟨zipD ds es, none⟩ w := by
  intro w2 s2 l ok _
  have h2 : SqL K w2.H a vs := .inl (.inl (fzL_le l.toLe0 h).2)
  have h3 : SqL K w2.H b us := .inl (.inl (fzL_le l.toLe0 h').2)
  refine ⟨fun i d e => ?_, fun i hi => ⟨vs, us, h2, h3, ?_⟩⟩
  · obtain ⟨y, z, e0, e1, rfl⟩ := zip_get ds es i d e
    obtain ⟨v, e2, r1⟩ := (RDs.le l.toLe0 r).get e0
    obtain ⟨u, e3, r2⟩ := (RDs.le l.toLe0 r').get e1
    refine ⟨⟨vs, us, v, u, h2, h3, e2, e3⟩, fun v' H' hy => ?_⟩
    obtain ⟨T, y', z', rfl, hT, rfl, hy1, hy2⟩ := hy
    have e4 := hy1 vs h2
    have e5 := hy2 us h3
    rw [e2] at e4
    rw [e3] at e5
    cases e4
    cases e5
    obtain ⟨w3, h1, h3, h4, h5⟩ := new_tup (vs := [v, u]) (ds := [y, z]) ok hT (.cons r1 (.cons r2 .nil))
    exact ⟨w3, h1, h3, h4, h5⟩
  · have hi : (zipD ds es).length ≤ i := hi
    rw [zip_len] at hi
    rw [← r.length, ← r'.length]
    omega

theorem RW.fz {K : PySem.W.Frag} {w : Wd} {l : List D} {v : V} (h : RW K k w (.d (.lst l)) v) : ∃ a vs, v = .ref a ∧ FzL w a vs ∧ RDs K w l vs := by
  cases h with
  | lst h r => exact ⟨_, _, rfl, h, r⟩
/-- one evaluated, then the rest -/
theorem post_one {e : E} {ρ : Rho} {st : Sto} {P : List W → Sto → Prop} {y : Nat → Sto → Prop} (q : Post (evEs C [e] ρ st) P y) : Post (evE C e ρ st) (fun z s1 => P [z] s1) y := by
  simp only [evEs] at q
  exact (Post.bind q).imp (fun z s1 h => h) fun _ _ h => h
theorem i_seq {tg : Expr} {e : E} {e' : Expr} {w : Wd} {ρ : Rho} {st : Sto} {σ : L2.St} {R : It → Hp → Prop} (he : PE X e' (tEv X.K k C e x)) (a : At X.K k ρ st σ w)
    (q : Post (evEs C [e] ρ st) (wkP X.K .seq w R) (exW X.K w fun c H => x c σ H)) : ∃ wi, PI X tg e' wi ∧ wi σ w.H R := by
  have q := post_one q
  cases ee : evE C e ρ st with
  | stuck =>
    rw [ee] at q
    exact q.elim
  | exc c s1 =>
    refine ⟨_, pi_list he, w, ρ, st, rfl, a, ?_⟩
    rw [ee] at q ⊢
    exact q
  | ok z s1 =>
    have q0 := q
    rw [ee] at q0
    obtain ⟨qq, hw, hR⟩ := q0
    simp only [walkOf] at hw
    unfold walkSeq at hw
    split at hw
    · split at hw
      · rename_i n _ l e2
        cases hw
        refine ⟨_, pi_list he, w, ρ, st, rfl, a, ?_⟩
        rw [ee]
        intro w1 v l1 ok1 r1
        obtain ⟨b, h1, rfl⟩ := r1
        obtain ⟨_, vs, h2, _⟩ := ok1.at_ h1 e2
        exact ⟨b, rfl, ⟨vs, .inl (.inl h2)⟩, hR w1 _ l1 ok1 (rz_c h1)⟩
      · cases hw
    · cases hw
      refine ⟨_, pi_list he, w, ρ, st, rfl, a, ?_⟩
      rw [ee]
      intro w1 v l1 ok1 r1
      obtain ⟨b, vs, rfl, h1, h2⟩ := r1.fz
      exact ⟨b, rfl, ⟨vs, h1.sq⟩, hR w1 _ l1 ok1 (rz_l h1 h2)⟩
    · cases hw
      refine ⟨_, pi_tup he, w, ρ, st, rfl, a, ?_⟩
      rw [ee]
      intro w1 v l1 ok1 r1
      cases r1 with
      | tup h1 h2 => exact ⟨_, rfl, ⟨_, h1⟩, hR w1 _ l1 ok1 (rz_t h1 h2)⟩
    · cases hw
      refine ⟨_, pi_str he, w, ρ, st, rfl, a, ?_⟩
      rw [ee]
      intro w1 v l1 ok1 r1
      cases r1
      exact ⟨_, rfl, hR w1 _ l1 ok1 (rz_s _)⟩
    · cases hw
theorem evs_one {e : E} {w : Wd} {ρ : Rho} {st : Sto} {σ : L2.St} {Q : List V → Hp → Prop} {P : List W → Sto → Prop} (a : At X.K k ρ st σ w) (q : Post (evEs C [e] ρ st) P (exW X.K w fun c H => x c σ H))
    (h : ∀ z s1, P [z] s1 → ∀ w1 v, Le w w1 → OKS X.K w1 s1 → RW X.K k w1 z v → Q [v] w1.H) : tEvs X.K k C [e] x σ w.H Q := by
  refine ⟨w, ρ, st, rfl, a, ?_⟩
  simp only [evEs] at q ⊢
  cases ee : evE C e ρ st with
  | stuck =>
    rw [ee] at q
    exact q.elim
  | exc c s1 =>
    rw [ee] at q
    exact q
  | ok z s1 =>
    rw [ee] at q
    intro w1 vs l1 ok1 r1
    cases r1 with
    | cons r1 rs =>
      cases rs
      exact h z s1 q w1 _ l1 ok1 r1
theorem evs_two {e f : E} {w : Wd} {ρ : Rho} {st : Sto} {σ : L2.St} {Q : List V → Hp → Prop} {P : List W → Sto → Prop} (a : At X.K k ρ st σ w) (q : Post (evEs C [e, f] ρ st) P (exW X.K w fun c H => x c σ H))
    (h : ∀ z y s1, P [z, y] s1 → ∀ w1 v u, Le w w1 → OKS X.K w1 s1 → RW X.K k w1 z v → RW X.K k w1 y u → Q [v, u] w1.H) : tEvs X.K k C [e, f] x σ w.H Q := by
  refine ⟨w, ρ, st, rfl, a, ?_⟩
  simp only [evEs] at q ⊢
  cases ee : evE C e ρ st with
  | stuck =>
    rw [ee] at q
    exact q.elim
  | exc c s1 =>
    rw [ee] at q
    exact q
  | ok z s1 =>
    rw [ee] at q
    simp only [Out.bind] at q ⊢
    cases ef : evE C f ρ s1 with
    | stuck =>
      rw [ef] at q
      exact q.elim
    | exc c s2 =>
      rw [ef] at q
      exact q
    | ok y s2 =>
      rw [ef] at q
      intro w1 vs l1 ok1 r1
      cases r1 with
      | cons r1 rs =>
        cases rs with
        | cons r2 rs =>
          cases rs
          exact h z y s2 q w1 _ _ l1 ok1 r1 r2
theorem i_rng1 {tg : Expr} {e : E} {e' : Expr} {w : Wd} {ρ : Rho} {st : Sto} {σ : L2.St} {R : It → Hp → Prop} {p1 p2 : Pos} (he : PA X [e'] (tEvs X.K k C [e] x)) (a : At X.K k ρ st σ w) (hg : Gl X "range") (hm : X.mg "range" = none) (hs : starEach [e'] X.env = [(false, eval e' X.env)])
    (q : Post (evEs C [e] ρ st) (wkP X.K .rng w R) (exW X.K w fun c H => x c σ H)) : ∃ wi, PI X tg (.Call (.Name "range" p1) [e'] [] p2) wi ∧ wi σ w.H R := by
  refine ⟨_, pi_range1 hg hm he hs, evs_one a q fun z s1 ⟨qq, hw, hR⟩ w1 v l1 ok1 r1 => ?_⟩
  simp only [walkOf] at hw
  unfold walkRng at hw
  split at hw
  · rename_i n e1
    split at hw
    · rename_i hn
      cases hw
      cases e1
      unfold rngOk at hn
      simp only [Bool.and_eq_true, decide_eq_true_eq] at hn
      cases r1
      exact ⟨n, rfl, by omega, by omega, hR w1 (Itr 0 n.toNat) l1 ok1 (rz_r 0 n.toNat)⟩
    · cases hw
  · rename_i e1
    cases e1
  · cases hw
theorem i_rng2 {tg : Expr} {e f : E} {e' f' : Expr} {w : Wd} {ρ : Rho} {st : Sto} {σ : L2.St} {R : It → Hp → Prop} {p1 p2 : Pos} (he : PA X [e', f'] (tEvs X.K k C [e, f] x)) (a : At X.K k ρ st σ w) (hg : Gl X "range") (hm : X.mg "range" = none) (hs : starEach [e', f'] X.env = [(false, eval e' X.env), (false, eval f' X.env)]) (hs2 : starEach [f'] X.env = [(false, eval f' X.env)])
    (q : Post (evEs C [e, f] ρ st) (wkP X.K .rng w R) (exW X.K w fun c H => x c σ H)) : ∃ wi, PI X tg (.Call (.Name "range" p1) [e', f'] [] p2) wi ∧ wi σ w.H R := by
  refine ⟨_, pi_range2 hg hm he hs hs2, evs_two a q fun z y s1 ⟨qq, hw, hR⟩ w1 v u l1 ok1 r1 r2 => ?_⟩
  simp only [walkOf] at hw
  unfold walkRng at hw
  split at hw
  · rename_i e1
    cases e1
  · rename_i i j e1
    split at hw
    · rename_i hn
      cases hw
      cases e1
      unfold rngOk at hn
      simp only [Bool.and_eq_true, decide_eq_true_eq] at hn
      cases r1
      cases r2
      exact ⟨i, j, rfl, ⟨by omega, by omega, by omega, by omega⟩, hR w1 (Itr i (j - i).toNat) l1 ok1 (rz_r i (j - i).toNat)⟩
    · cases hw
  · cases hw
theorem i_enm {es : List Expr} {kk : Nat} {tp : Pos} {e : E} {e' : Expr} {w : Wd} {ρ : Rho} {st : Sto} {σ : L2.St} {R : It → Hp → Prop} {p1 p2 : Pos} (he : PA X [e'] (tEvs X.K k C [e] x)) (a : At X.K k ρ st σ w) (hg : Gl X "enumerate") (hm : X.mg "enumerate" = none) (hs : starEach [e'] X.env = [(false, eval e' X.env)])
    (q : Post (evEs C [e] ρ st) (wkP X.K .enm w R) (exW X.K w fun c H => x c σ H)) : ∃ wi, PI X (.Tuple es kk tp) (.Call (.Name "enumerate" p1) [e'] [] p2) wi ∧ wi σ w.H R := by
  refine ⟨_, pi_enum hg hm he hs, evs_one a q fun z s1 ⟨qq, hw, hR⟩ w1 v l1 ok1 r1 => ?_⟩
  simp only [walkOf] at hw
  unfold walkEnm at hw
  split at hw
  · cases hw
    obtain ⟨b, vs, rfl, h1, h2⟩ := r1.fz
    exact ⟨b, vs, rfl, h1.sq, hR w1 _ l1 ok1 (rz_e h1 h2)⟩
  · cases hw
end
end NC

set_option maxRecDepth 100000
/-! zip, comprehensions, calls of built-ins -/
namespace NC
open PySem PySem.Spec PyProof.Rows L2 RZ
section
variable {X : Cx} {k : Ck} {C : Orc} {x : WN} {p : Pos}
theorem rz_zt {K : PySem.W.Frag} {w : Wd} {a b : Addr} {vs us : List V} {ds es : List D} (h : SqT K w.H a vs) (r : RDs K w ds vs) (h' : SqT K w.H b us) (r' : RDs K w es us) : Rz K (ItzT K a b) ⟨zipD ds es, none⟩ w := by
  intro w2 s2 l ok _
  have h2 : SqT K w2.H a vs := sqT_le l.toLe0 h
  have h3 : SqT K w2.H b us := sqT_le l.toLe0 h'
  refine ⟨fun i d e => ?_, fun i hi => ⟨vs, us, h2, h3, ?_⟩⟩
  · obtain ⟨y, z, e0, e1, rfl⟩ := zip_get ds es i d e
    obtain ⟨v, e2, r1⟩ := (RDs.le l.toLe0 r).get e0
    obtain ⟨u, e3, r2⟩ := (RDs.le l.toLe0 r').get e1
    refine ⟨⟨vs, us, v, u, h2, h3, e2, e3⟩, fun v' H' hy => ?_⟩
    obtain ⟨T, y', z', rfl, hT, rfl, hy1, hy2⟩ := hy
    have e4 := hy1 vs h2
    have e5 := hy2 us h3
    rw [e2] at e4
    rw [e3] at e5
    cases e4
    cases e5
    obtain ⟨w3, h1, h3, h4, h5⟩ := new_tup (vs := [v, u]) (ds := [y, z]) ok hT (.cons r1 (.cons r2 .nil))
    exact ⟨w3, h1, h3, h4, h5⟩
  · have hi : (zipD ds es).length ≤ i := hi
    rw [zip_len] at hi
    rw [← r.length, ← r'.length]
    omega
theorem i_zip {es : List Expr} {kk : Nat} {tp : Pos} {e f : E} {e' f' : Expr} {w : Wd} {ρ : Rho} {st : Sto} {σ : L2.St} {R : It → Hp → Prop} {p1 p2 : Pos} (he : PA X [e', f'] (tEvs X.K k C [e, f] x)) (a : At X.K k ρ st σ w) (hg : Gl X "zip") (hm : X.mg "zip" = none)
    (hs : starEach [e', f'] X.env = (false, eval e' X.env) :: starEach [f'] X.env) (hpl : (backTo p2 (starEach [f'] X.env)).any (·.1) = false)
    (q : Post (evEs C [e, f] ρ st) (wkP X.K .zip w R) (exW X.K w fun c H => x c σ H)) : ∃ wi, PI X (.Tuple es kk tp) (.Call (.Name "zip" p1) [e', f'] [] p2) wi ∧ wi σ w.H R := by
  refine ⟨_, pi_zipA hg hm he hs hpl, evs_two a q fun z y s1 ⟨qq, hw, hR⟩ w1 v u l1 ok1 r1 r2 => ?_⟩
  simp only [walkOf] at hw
  unfold walkZip at hw
  split at hw
  · cases hw
    obtain ⟨b, vs, rfl, h1, h2⟩ := r1.fz
    obtain ⟨c, us, rfl, h3, h4⟩ := r2.fz
    exact ⟨b, c, vs, us, rfl, .inl ⟨h1.sq, h3.sq, hR w1 _ l1 ok1 (rz_zl h1 h2 h3 h4)⟩⟩
  · cases hw
    cases r1 with
    | tup h1 h2 =>
      cases r2 with
      | tup h3 h4 => exact ⟨_, _, _, _, rfl, .inr ⟨h1, h3, hR w1 _ l1 ok1 (rz_zt h1 h2 h3 h4)⟩⟩
  · cases hw
/-- what is walked, from its evaluation -/
def Wk (X : Cx) (k : Ck) (C : Orc) (x : WN) (ik : IK) (es : List E) (tg iter : Expr) : Prop := ∀ (w : Wd) (ρ : Rho) (st : Sto) (σ : L2.St) (R : It → Hp → Prop), At X.K k ρ st σ w → Post (evEs C es ρ st) (wkP X.K ik w R) (exW X.K w fun c H => x c σ H) → ∃ wi, PI X tg iter wi ∧ wi σ w.H R
/-- a turn of a comprehension -/
def compF (C : Orc) (t : NC.TG) (c : Option T) (e : E) (ρ : Rho) : D → Sto → Out (Option D) := fun d s => match setT t d (wipeR ρ t.vs) with
  | some ρ' => (match c with | some c => evT C c ρ' s | none => .ok true s).bind fun b s' => if b then (oneD (evE C e ρ' s')).bind fun x s'' => .ok (some x) s'' else .ok none s'
  | none => .stuck
theorem evE_comp (C : Orc) (n : Bool) (t : NC.TG) (ik : IK) (es : List E) (c : Option T) (e : E) (ρ : Rho) (st : Sto) : evE C (.comp n t ik es c e) ρ st = (evEs C es ρ st).bind fun ws s1 => match walkOf ik ws s1 with
    | some q => (loopC q (compF C t c e ρ) q.its [] s1).bind fun ds s2 => freshL n ds s2
    | none => .stuck := by
  cases c with
  | none =>
    simp only [evE]
    congr
  | some c =>
    simp only [evE]
    congr
theorem wipe_idem (σ : L2.St) : ∀ vs : List Nat, L2.wipe (L2.wipe σ vs) vs = L2.wipe σ vs := by
  have key : ∀ (us vs : List Nat) (σ : L2.St), (∀ i ∈ us, i ∈ vs) → L2.wipe (L2.wipe σ us) vs = L2.wipe σ vs := by
    intro us
    induction us with
    | nil => intro vs σ _; rfl
    | cons u us ih =>
      intro vs σ h
      show L2.wipe ((L2.wipe σ us).set u none) vs = _
      rw [wipe_set (h u List.mem_cons_self), ih vs σ fun i hi => h i (List.mem_cons_of_mem _ hi)]
  exact fun vs => key vs vs σ fun _ h => h
def noX : WN := fun _ _ _ => False
/-- the tests' reading -/
def ttOf (K : PySem.W.Frag) (k : Ck) (C : Orc) : Option T → TT
  | none => tYes
  | some c => tTv K k C c noX
/-- the parts of a comprehension's block -/
structure Blk (X : Cx) (k : Ck) (C : Orc) (t : NC.TG) (c : Option T) (e : E) (tg elt : Expr) (ifs : List Expr) (scope : Scope) (own : List (Str × Nat)) : Prop where
  ok : BlkOk X.N X.env.scope scope own
  own : own.map (·.2) = t.vs
  g : ∀ (s : Shared) (H : Hp) (D : Addr) (cl : List (Str × Addr)) (fp : List Addr), PG (X.blk s H scope (compEnvC scope cl D X.env) fp) tg (gT X.K k t)
  t : ∀ (s : Shared) (H : Hp) (D : Addr) (cl : List (Str × Addr)) (fp : List Addr), PTs (X.blk s H scope (compEnvC scope cl D X.env) fp) ifs (ttOf X.K k C c)
  e : ∀ (s : Shared) (H : Hp) (D : Addr) (cl : List (Str × Addr)) (fp : List Addr), PE (X.blk s H scope (compEnvC scope cl D X.env) fp) elt (tEv X.K k C e noX)
theorem comp_core {n : Bool} {t : NC.TG} {ik : IK} {es : List E} {c : Option T} {e : E} {tg iter elt : Expr} {ifs : List Expr} {scope : Scope} {own : List (Str × Nat)} (hi : Wk X k C x ik es tg iter) (B : Blk X k C t c e tg elt ifs scope own)
    {w : Wd} {ρ : Rho} {st : Sto} {σ : L2.St} {Q : VK} (at_ : At X.K k ρ st σ w) (q : Post (evE C (.comp n t ik es c e) ρ st) (okV X.K k w Q) (exW X.K w fun c H => x c σ H)) :
    ∃ wi, PI X tg iter wi ∧ tLc wi (gT X.K k t) (ttOf X.K k C c) (tEv X.K k C e noX) (own.map (·.2)) σ w.H Q := by
  have hown := B.own
  rw [evE_comp] at q
  suffices hq : Post (evEs C es ρ st) (wkP X.K ik w fun J H1 => ∀ D, H1 D = none → ∃ W : Nat → Nat → Hp → Prop, (∃ m, W 0 m (upd H1 D (.lst []))) ∧ ∀ i m H, W i m H →
      (J.stop i H ∧ Q (.ref D) H) ∨ (J.go i H ∧ ∃ Nx : Hp → Prop, (∀ H', Nx H' → ∃ m', m' < m ∧ W (i + 1) m' H') ∧ ∀ y H', J.yld i H y H' → gT X.K k t y (L2.wipe σ (own.map (·.2))) H' fun σ2 H2 => L2.wipe σ2 (own.map (·.2)) = L2.wipe σ (own.map (·.2)) ∧ ttOf X.K k C c σ2 H2 fun b H3 =>
        if b = true then tEv X.K k C e noX σ2 H3 fun y H4 => ∃ acc, H4 D = some (.lst acc) ∧ acc.length < sizeLine ∧ Nx (upd H4 D (.lst (acc ++ [y]))) else Nx H3)) (exW X.K w fun c H => x c σ H) by
    exact hi w ρ st σ _ at_ hq
  refine (Post.bind q).imp (fun ws s1 q1 => ?_) fun _ _ z => z
  split at q1
  · rename_i qq hw
    refine ⟨qq, hw, fun w1 J l1 ok1 rz D hD => ?_⟩
    have a1 : At X.K k ρ s1 σ w1 := at_.le l1 ok1
    rw [hown]
    let Pv : Nat → Hp → Prop := fun i H => i ≤ qq.its.length ∧ ∃ w2 s2 acc accv, w2.H = H ∧ Le w1 w2 ∧ OKS X.K w2 s2 ∧ ¬ w2.F D ∧ D ∉ w2.m ∧ w2.H D = some (.lst accv) ∧ RDs X.K w2 acc accv ∧
      Post ((loopC qq (compF C t c e ρ) (qq.its.drop i) acc s2).bind fun ds s2 => freshL n ds s2) (okV X.K k w Q) (exW X.K w fun c H => x c σ H)
    refine ⟨fun i m H => m = qq.its.length - i ∧ Pv i H, ⟨_, rfl, Nat.zero_le _, w1.grow D (.lst []), s1, [], [], rfl, grow_le ok1 hD, grow_ok ok1 hD, fun z => ok1.fzn D z hD, fun z => ?_, upd_same, .nil, ?_⟩, ?_⟩
    · obtain ⟨i, hi⟩ := List.mem_iff_getElem?.mp z
      exact ok1.trn i D hi hD
    · rw [List.drop_zero]
      exact q1
    rintro i m H ⟨rfl, hle, w2, s2, acc, accv, rfl, l2, ok2, nF, nm, hD2, ra, q2⟩
    have rz2 := rz w2 s2 l2 ok2
    by_cases hi : i < qq.its.length
    · -- a turn
      obtain ⟨d, hd⟩ : ∃ d, qq.its[i]? = some d := ⟨_, List.getElem?_eq_getElem hi⟩
      have hdrop : qq.its.drop i = d :: qq.its.drop (i + 1) := by
        rw [List.drop_eq_getElem_cons hi]
        have := (List.getElem?_eq_some_iff.mp hd).2
        rw [this]
      rw [hdrop] at q2
      unfold loopC at q2
      split at q2
      · rename_i hok
        obtain ⟨rzg, _⟩ := rz2 hok
        obtain ⟨hgo, hy⟩ := rzg i d hd
        refine .inr ⟨hgo, Pv (i + 1), fun H' hx => ⟨qq.its.length - (i + 1), by omega, rfl, hx⟩, fun v H' hyl => ?_⟩
        obtain ⟨w3, rfl, l3, ok3, r3⟩ := hy v H' hyl
        have stay : ∀ {w' : Wd}, Le w2 w' → w'.H D = some (.lst accv) ∧ ¬ w'.F D ∧ D ∉ w'.m := fun {w'} l => by
          have nn : w2.H D ≠ none := by
            rw [hD2]
            exact fun z => nomatch z
          exact ⟨l.k D _ hD2 nm (fun _ z => nomatch z), fun z => nF (l.f D nn nm z), l.out nn nm⟩
        cases es : setT t d (wipeR ρ t.vs) with
        | none =>
          unfold compF at q2
          rw [es] at q2
          exact q2.elim
        | some ρ' =>
          unfold compF at q2
          rw [es] at q2
          simp only [] at q2
          refine ⟨w3, wipeR ρ t.vs, s2, d, ρ', rfl, ⟨ok3, ((a1.re.le (l2.trans l3)).wipe t.vs)⟩, r3, es, fun σ' a' hw => ⟨?_, ?_⟩⟩
          · rw [hw t.vs fun _ h => h]
            exact wipe_idem σ t.vs
          -- the tests, then the item
          have item : ∀ (w4 : Wd) (s4 : Sto), Le w3 w4 → OKS X.K w4 s4 → Post ((match ((oneD (evE C e ρ' s4)).bind fun x s'' => .ok (some x) s'' : Out (Option NC.D)) with
              | .ok (some x) st' => if decide (acc.length < 16777216) then loopC qq (compF C t c e ρ) (qq.its.drop (i + 1)) (acc ++ [x]) st' else .stuck
              | .ok none st' => loopC qq (compF C t c e ρ) (qq.its.drop (i + 1)) acc st'
              | .stuck => .stuck
              | .exc _ _ => .stuck : Out (List NC.D)).bind fun ds s2 => freshL n ds s2) (okV X.K k w Q) (exW X.K w fun c H => x c σ H) →
              tEv X.K k C e noX σ' w4.H fun y H4 => ∃ acc, H4 D = some (.lst acc) ∧ acc.length < sizeLine ∧ Pv (i + 1) (upd H4 D (.lst (acc ++ [y]))) := by
            intro w4 s4 l4 ok4 q4
            refine ⟨w4, ρ', s4, rfl, ⟨ok4, a'.re.le l4⟩, ?_⟩
            cases ee : evE C e ρ' s4 with
            | stuck =>
              rw [ee] at q4
              exact q4.elim
            | exc c s5 =>
              rw [ee] at q4
              exact q4.elim
            | ok y s5 =>
              rw [ee] at q4
              intro w5 v5 l5 ok5 r5
              cases y with
              | d z =>
                have q4 : Post ((if decide (acc.length < 16777216) then loopC qq (compF C t c e ρ) (qq.its.drop (i + 1)) (acc ++ [z]) s5 else .stuck : Out (List NC.D)).bind fun ds s2 => freshL n ds s2) (okV X.K k w Q) (exW X.K w fun c H => x c σ H) := q4
                by_cases hlen : decide (acc.length < 16777216) = true
                · rw [if_pos hlen] at q4
                  obtain ⟨h1, h2, h3⟩ := stay ((l3.trans l4).trans l5)
                  obtain ⟨b0, b1, b2⟩ := bump (us := accv ++ [v5]) (((l2.trans l3).trans l4).trans l5) hD ok5 h2 h3 h1
                  refine ⟨accv, h1, ?_, hi, _, s5, acc ++ [z], accv ++ [v5], rfl, b1, b2, h2, h3, upd_same, ?_, q4⟩
                  · rw [← ra.length]
                    exact len_lt (of_decide_eq_true hlen)
                  · exact RDs.le b0 (RDs.app (RDs.le (((l3.trans l4).trans l5)).toLe0 ra) (.one r5))
                · rw [if_neg hlen] at q4
                  exact q4.elim
              | loc _ => exact q4.elim
              | clo _ _ => exact q4.elim
              | exn _ => exact q4.elim
              | scr _ => exact q4.elim
          cases c with
          | none =>
            exact item w3 s2 (Le.refl w3) ok3 q2
          | some c =>
            refine ⟨w3, ρ', s2, rfl, a', ?_⟩
            simp only [] at q2
            cases et : evT C c ρ' s2 with
            | stuck =>
              rw [et] at q2
              exact q2.elim
            | exc c s5 =>
              rw [et] at q2
              exact q2.elim
            | ok b s4 =>
              rw [et] at q2
              intro w4 l4 ok4
              cases b with
              | true =>
                rw [if_pos rfl]
                exact item w4 s4 l4 ok4 q2
              | false =>
                rw [if_neg Bool.false_ne_true]
                obtain ⟨h1, h2, h3⟩ := stay (l3.trans l4)
                exact ⟨hi, w4, s4, acc, accv, rfl, (l2.trans l3).trans l4, ok4, h2, h3, h1, RDs.le (l3.trans l4).toLe0 ra, q2⟩
      · exact q2.elim
    · have e0 : i = qq.its.length := by omega
      have hdrop : qq.its.drop i = [] := List.drop_eq_nil_of_le (by omega)
      rw [hdrop] at q2
      unfold loopC at q2
      split at q2
      · rename_i hok
        obtain ⟨_, rzs⟩ := rz2 hok
        obtain ⟨w3, y, s3, e3, h3, l3, ok3, r3⟩ := adopt (k := k) l2 hD ok2 nF nm hD2 ra n
        refine .inl ⟨rzs i (by omega), ?_⟩
        have q3 : Post (freshL n acc s2) (okV X.K k w Q) (exW X.K w fun c H => x c σ H) := q2
        rw [e3] at q3
        rw [← h3]
        exact q3 w3 _ (l1.trans l3) ok3 r3
      · exact q2.elim
  · exact q1.elim
theorem x_comp {n : Bool} {t : NC.TG} {ik : IK} {es : List E} {c : Option T} {e : E} {tg iter elt : Expr} {ifs : List Expr} {scope : Scope} {own : List (Str × Nat)} (hc : X.calm = true) (hN : X.N.Nodup) (hi : Wk X k C x ik es tg iter) (B : Blk X k C t c e tg elt ifs scope own)
    (hs : ∀ y, foldedSetIterable iter X.env y = pure y) : PE X (.ListComp elt [⟨tg, iter, ifs, 0⟩] scope p) (tEv X.K k C (.comp n t ik es c e) x) := by
  refine ⟨fun pins s σ H Q I h => ?_⟩
  obtain ⟨w, ρ, st, rfl, at_, q⟩ := h
  obtain ⟨wi, h1, h2⟩ := comp_core hi B at_ q
  exact (pe_lc hc hN h1 B.ok B.g B.t B.e hs).run pins s σ _ Q I h2
end
end NC

set_option maxRecDepth 100000
/-! calls -/
namespace NC
open PySem PySem.Spec PyProof.Rows L2
def plainE : Expr → Bool
  | .Starred .. => false
  | _ => true
theorem star_c {e : Expr} {es : List Expr} {env : PySem.Env} (h : plainE e = true) : starEach (e :: es) env = (false, eval e env) :: starEach es env := by
  cases e <;> first | rfl | cases h
theorem star_any {env : PySem.Env} {p : Pos} : ∀ {es : List Expr}, es.all plainE = true → (backTo p (starEach es env)).any (·.1) = false
  | [], _ => rfl
  | e :: es, h => by
    rw [List.all_cons, Bool.and_eq_true] at h
    rw [star_c h.1]
    show (false || (backTo p (starEach es env)).any (·.1)) = false
    rw [star_any h.2]
    rfl
theorem star_all {env : PySem.Env} {p : Pos} : ∀ {es : List Expr}, es.all plainE = true → (backTo p (starEach es env)).all (fun y => !y.1) = true
  | [], _ => rfl
  | e :: es, h => by
    rw [List.all_cons, Bool.and_eq_true] at h
    rw [star_c h.1]
    show (true && (backTo p (starEach es env)).all (fun y => !y.1)) = true
    rw [star_all h.2]
    rfl
section
variable {X : Cx} {k : Ck} {C : Orc} {x : WN} {p : Pos}
/-- the arguments, then what stands behind them -/
def tEvX (K : PySem.W.Frag) (k : Ck) (C : Orc) (es : List E) (x : WN) (vs : List V) : TA := fun σ H Q => tEvs K k C es x σ H fun us H1 => Q (us ++ vs) H1
theorem pax_nil (es : List Expr) (h : PA X es (tEvs X.K k C l x)) : PA X es (tEvX X.K k C l x []) := ⟨fun pos pins s σ H Q I q => by
  refine h.run pos pins s σ H Q I ?_
  simpa only [tEvX, List.append_nil] using q⟩
theorem bi_ok {b : Bi} {l : List E} {w : Wd} {ρ : Rho} {st : Sto} {σ : L2.St} {Q : VK} (at_ : At X.K k ρ st σ w) (q : Post (evE C (.bi b l) ρ st) (okV X.K k w Q) (exW X.K w fun c H => x c σ H)) :
    tCB (rBi X.K b) (tEvX X.K k C l x (biX b)) σ w.H Q := by
  simp only [evE] at q
  refine parts at_ q fun w1 v1 x1 s1 l1 a1 r1 q1 => ?_
  split at q1
  · rename_i ds e
    obtain ⟨z, e3, q3⟩ := q1.ofO
    obtain ⟨y, e4, rfl⟩ := Option.map_eq_some_iff.mp e3
    exact ⟨w1, s1, ds, v1, y, rfl, rfl, a1.ok, r1.gets a1.ok e, e4, fun w' r l ok rr => q3 w' r (l1.trans l) ok rr⟩
  · exact q1.elim
theorem x_bi {b : Bi} {l : List E} {e' : Expr} {es' : List Expr} {p1 : Pos} (hc : X.calm = true) (hgd : X.A.guards = some []) (hu : X.A.units + 64 < cLine) (hg : Gl X (biN b)) (hm : X.mg (biN b) = none) (ha : PA X (e' :: es') (tEvX X.K k C l x (biX b))) (hp : (e' :: es').all plainE = true) :
    PE X (.Call (.Name (biN b) p1) (e' :: es') [] p) (tEv X.K k C (.bi b l) x) := by
  refine ⟨fun pins s σ H Q I h => ?_⟩
  obtain ⟨w, ρ, st, rfl, at_, q⟩ := h
  have h2 := bi_ok at_ q
  have ob := op_bi (X := X) b hc hgd hu
  rw [List.all_cons, Bool.and_eq_true] at hp
  have hs := star_c (es := es') (env := X.env) hp.1
  have hpl := star_any (env := X.env) (p := p) hp.2
  cases b with
  | len => exact (pe_callB ob hg hm (by decide +kernel) ha (by decide) (by decide) hs hpl).run pins s σ _ Q I h2
  | abs => exact (pe_callB ob hg hm (by decide +kernel) ha (by decide) (by decide) hs hpl).run pins s σ _ Q I h2
  | int => exact (pe_callTy ob hg hm (by decide +kernel) ha (by decide) (by decide) hs hpl).run pins s σ _ Q I h2
  | repr => exact (pe_callB ob hg hm (by decide +kernel) ha (by decide) (by decide) hs hpl).run pins s σ _ Q I h2
  | str => exact (pe_callTy ob hg hm (by decide +kernel) ha (by decide) (by decide) hs hpl).run pins s σ _ Q I h2
  | tuple => exact (pe_callTy ob hg hm (by decide +kernel) ha (by decide) (by decide) hs hpl).run pins s σ _ Q I h2
  | list => exact (pe_callTy ob hg hm (by decide +kernel) ha (by decide) (by decide) hs hpl).run pins s σ _ Q I h2
  | min2 => exact (pe_callB ob hg hm (by decide +kernel) ha (by decide) (by decide) hs hpl).run pins s σ _ Q I h2
  | max2 => exact (pe_callB ob hg hm (by decide +kernel) ha (by decide) (by decide) hs hpl).run pins s σ _ Q I h2
  | min => exact (pe_callB ob hg hm (by decide +kernel) ha (by decide) (by decide) hs hpl).run pins s σ _ Q I h2
  | max => exact (pe_callB ob hg hm (by decide +kernel) ha (by decide) (by decide) hs hpl).run pins s σ _ Q I h2
  | sum => exact (pe_callB ob hg hm (by decide +kernel) ha (by decide) (by decide) hs hpl).run pins s σ _ Q I h2
  | all => exact (pe_callB ob hg hm (by decide +kernel) ha (by decide) (by decide) hs hpl).run pins s σ _ Q I h2
  | any => exact (pe_callB ob hg hm (by decide +kernel) ha (by decide) (by decide) hs hpl).run pins s σ _ Q I h2
  | sorted => exact (pe_callB ob hg hm (by decide +kernel) ha (by decide) (by decide) hs hpl).run pins s σ _ Q I h2
  | ord => exact (pe_callB ob hg hm (by decide +kernel) ha (by decide) (by decide) hs hpl).run pins s σ _ Q I h2
  | isi t => exact (pe_callB ob hg hm (show bootBuiltins "isinstance" = some (.builtin "isinstance") by decide +kernel) ha (show ("isinstance" : Str) ≠ "__name__" by decide) (show (("isinstance" : Str) == ("__debug__" : Str)) = false by decide) hs hpl).run pins s σ _ Q I h2
/-- o.append(e) -/
theorem x_app {o e : E} {o' e' : Expr} {ap : Pos} (ho : PE X o' (tEv X.K k C o x)) (he : PE X e' (tEv X.K k C e x)) (hp : plainE e' = true) (hb : attributeBase o' "append" X.env (eval o' X.env) = eval o' X.env) (hl : (ap.endLine == p.line) = true) :
    PE X (.Call (.Attribute o' "append" ap) [e'] [] p) (tEv X.K k C (.app o e) x) := by
  refine ⟨fun pins s σ H Q I h => ?_⟩
  obtain ⟨w, ρ, st, rfl, at_, q⟩ := h
  simp only [evE] at q
  have hs := star_c (es := []) (env := X.env) hp
  have ha : PA X [e'] (tCons (tEv X.K k C e x) tNil) := pa_cons he pa_nil hs
  refine (pe_bm PySem.F.plainAttrs_list PySem.F.slot_list_append PySem.F.type_list_append mt_append ho ha hb (by rw [hs]; rfl) hl hs rfl).run pins s σ _ Q I ?_
  refine part at_ q fun w1 v1 x1 s1 l1 a1 r1 q1 => ?_
  split at q1
  · rename_i n
    split at q1
    · rename_i l0 hl0
      obtain ⟨b, h1, rfl⟩ := r1
      obtain ⟨_, vs0, h20, _⟩ := a1.ok.at_ h1 hl0
      refine ⟨.inl ⟨rfl, _, .inl (.inl h20)⟩, part a1 (exW.le' l1 q1) fun w2 v2 x2 s2 l2 a2 r2 q3 => ?_⟩
      split at q3
      · rename_i d l hl2
        split at q3
        · rename_i hlen
          obtain ⟨b', h1', e'⟩ := RW.le (K := X.K) (k := k) (x := .loc n) (v := .ref b) l2 ⟨b, h1, rfl⟩
          cases e'
          obtain ⟨_, vs, h2, h3⟩ := a2.ok.at_ h1' hl2
          refine ⟨b, vs, v2, rfl, rfl, h2, ?_, ?_⟩
          · rw [← h3.length]
            exact len_lt (of_decide_eq_true hlen)
          · obtain ⟨w', e1, l3, ok3⟩ := wr_ok a2.ok h1' hl2 (h3.app (.one r2))
            rw [← e1]
            exact q3 w' _ ((l1.trans l2).trans l3) ok3 .non
        · exact q3.elim
      · exact q3.elim
    · exact q1.elim
  · exact q1.elim
end
end NC

set_option maxRecDepth 100000
/-! defs and their calls -/
namespace NC
open PySem PySem.Spec PyProof.Rows L2
/-- a def's promise, where nothing is being shown around it -/
structure FnG (P : Program) (w : World) (K : PySem.W.Frag) (mg : Str → Option Value) (base : Heap) (lv : Nat) (f : Addr) (fd : FuncData) (ps : List Str) (sp : Sp) : Prop where
  len : ∀ vs H Q E, sp vs H Q E → vs.length = ps.length
  run : ∀ (A : Around) (outer : List PySem.Env) (s : Shared) (H : Hp) (us : List Value) (vs : List V) (Q : VK) (E : XK), A.guards = some [] → Room lv A → Env0 P w K mg base A outer s H → BindsTo s fd ⟨us, []⟩ (ps.zip us) → Vals vs us → sp vs H Q E →
    codeAny (model P w) A (.call (.ref f) ⟨us, []⟩) (CR (L2.CX P w) outer P w H s Q E) s
theorem guards_deeper {A : Around} {env : PySem.Env} (h : A.guards = some []) : (A.deeper env).guards = some [] := h
section
variable {P : Program} {w : World} {K : PySem.W.Frag} {mg : Str → Option Value} {base : Heap}
theorem fnG_of {lv : Nat} {name qual : Str} {st : Stmt} {f : Addr} {fd : FuncData} {N ps : List Str} {sp : Sp} (F : Fun K name qual st f fd) (S : FnScope N ps (defScope st)) (len : ∀ vs H Q E, sp vs H Q E → vs.length = ps.length)
    (hbody : ∀ (cdv : Value) (A : Around) (outer : List PySem.Env) (s : Shared) (H : Hp) (vs : List V) (Q : VK) (E : XK), fd.code = cdv → A.guards = some [] → Room lv (A.deeper (envOfC qual (defScope st) s.heap.objs.size f cdv)) → sp vs H Q E →
      ∃ t, PSs (cxOf (L2.CX P w) P w K mg base N qual (defScope st) f cdv A outer s H E) (defBody st) t ∧ t { nx := fun _ H' => Q .non H', rt := Q } (L2.start N vs) H) : FnG P w K mg base (lv + 1) f fd ps sp := by
  obtain ⟨oc, od, kV, doc, pm, an, cdv, ct, osl, rfl, lk, hcd⟩ := F.ex
  constructor
  · exact len
  · intro A outer s H us vs Q E hgd hr e0 hb r hsp
    have hlen := len _ _ _ _ hsp
    have keepB : ∀ b o, base.get? b = some o → s.heap.get? b = some o := fun b o e => (e0.bs b o e).1
    have inS : K.In s.heap := e0.mod.kin.keeps keepB
    have noLim : s.heap.NoLimit := e0.mod.nolimit.keeps keepB
    refine codeAny_call_function hr.depth (inS _ _ lk) rfl S.co S.gen rfl (PySem.W.codeRec_of inS hcd) (hb _ _ _ _ ?_)
    have kinds : ∀ y ∈ ps.zip us, (defScope st).names.lookup y.1 = some .local ∨ ((defScope st).names.lookup y.1 = some .cell ∧ ((cellsFrom (s.heap.objs.size + 1) (defScope st).names []).lookup y.1).isSome = true) := by
      intro y hy
      cases S.par y.1 (List.of_mem_zip (show (y.1, y.2) ∈ ps.zip us from hy)).1 with
      | inl q => exact .inl q
      | inr q => exact .inr ⟨q, PySem.W.cellsFrom_some _ _ _ (.inl q)⟩
    refine wpAny_newFunctionEnv_cells S.kind kinds fun env he s1 inn => ?_
    subst he
    refine ⟨noLim.keeps inn.toInCall.keep, codeAny_func ?_⟩
    obtain ⟨t, ht, hq⟩ := hbody cdv A outer s H vs Q E rfl hgd (hr.deeper _) hsp
    have I0 := inv_start (CX := L2.CX P w) (E := E) S hr.hd e0 hlen r inn
    refine wpAny_mono (ht.run [] s1 (L2.start N vs) H _ I0 hq) (fun fl s' hs => ?_) (fun e s' hs => hs)
    cases fl with
    | ret u =>
      obtain ⟨v, σ', H', J, rv, q⟩ := hs
      exact ⟨v, H', J.os, J.bare, J.base, J.hok, rv, q⟩
    | next =>
      obtain ⟨σ', H', J, q⟩ := hs
      exact ⟨.non, H', J.os, J.bare, J.base, J.hok, rfl, q⟩
    | brk =>
      obtain ⟨_, _, _, q⟩ := hs
      exact q.elim
    | cont =>
      obtain ⟨_, _, _, q⟩ := hs
      exact q.elim
end
section
variable {X : Cx} {k : Ck} {C : Orc} {x : WN} {p : Pos}
theorem runG {lv : Nat} {f : Addr} {fd : FuncData} {ps : List Str} {sp : Sp} {W0 : WX} {pins : List (Addr × Obj)} {σ : L2.St} {H : Hp} {s : Shared} {Q : VK} {us : List Value} {vs : List V} (F : FnG X.prog X.w X.K X.mg X.base lv f fd ps sp) (hgd : X.A.guards = some []) (hr : Room lv X.A)
    (hb : Binds X.K fd ps []) (tk : Takes X W0) (I : Inv X pins σ H s) (r : Vals vs us) (h : sp vs H Q (WE W0 σ)) : wpAny (model X.prog X.w) X.A (call (.ref f) us) (EP X pins σ Q) X.xe s := by
  have hlen : us.length = ps.length := by
    rw [← r.length]
    exact F.len _ _ _ _ h
  have bd := hb s us I.kIn (by simpa using hlen)
  rw [List.append_nil] at bd
  refine wpAny_call (codeAny_mono (F.run X.A X.stack s H us vs Q (WE W0 σ) hgd hr I.env0 bd r h) fun res s' hq => ?_)
  match res, hq with
  | .error e, hq => exact passAt tk σ pins H s e s' I hq
  | .ok (.ret u), hq => exact I.after hq
  | .ok .next, hq => exact hq.elim
  | .ok .brk, hq => exact hq.elim
  | .ok .cont, hq => exact hq.elim
/-- an error by its class's number -/
def wOf (cc : Nat → Value) (x : WN) : WX := fun cls d σ H => ∃ c, cls = cc c ∧ d = none ∧ x c σ H
def spF (K : PySem.W.Frag) (T : List (Addr × Str)) (C : Orc) (cc : Nat → Value) (f : Nat) : Sp := fun vs H Q E => ∃ w ws st, w.H = H ∧ w.T = T ∧ OKS K w st ∧ RWs K (noCk T) w ws vs ∧ Post (C.fn f ws st) (okV K (noCk T) w Q) (exW K w fun c H => E (cc c) none H)
theorem RW.pl {T : List (Addr × Str)} {K : PySem.W.Frag} {w : Wd} {y : W} {v : V} (h : RW K k w y v) (e : y.pl = true) : RW K (noCk T) w y v := by
  cases y with
  | d _ => exact h
  | loc _ => exact h
  | scr _ => exact h
  | clo _ _ => cases e
  | exn _ => cases e
theorem RWs.pl {T : List (Addr × Str)} {K : PySem.W.Frag} {w : Wd} : ∀ {ys : List W} {vs : List V}, RWs K k w ys vs → ys.all W.pl = true → RWs K (noCk T) w ys vs
  | _, _, .nil, _ => .nil
  | _, _, .cons r t, e => by
    rw [List.all_cons, Bool.and_eq_true] at e
    exact .cons (r.pl e.1) (RWs.pl t e.2)
theorem RW.wk {T : List (Addr × Str)} {K : PySem.W.Frag} {w : Wd} {y : W} {v : V} (h : RW K (noCk T) w y v) : RW K k w y v := by
  cases y with
  | d _ => exact h
  | loc _ => exact h
  | scr _ => exact h
  | clo _ _ => exact False.elim h
  | exn _ => exact False.elim h
theorem x_call {lv f : Nat} {n : Str} {a : Addr} {fd : FuncData} {ps : List Str} {cc : Nat → Value} {l : List E} {es' : List Expr} {p1 : Pos} (F : FnG X.prog X.w X.K X.mg X.base lv a fd ps (spF X.K k.T C cc f)) (hgd : X.A.guards = some []) (hr : Room lv X.A) (hb : Binds X.K fd ps [])
    (tk : Takes X (wOf cc x)) (hg : Gl X n) (hm : X.mg n = some (.ref a)) (hk : PySem.W.keepIn X.K (.ref a) = true) (hdb : (n == ("__debug__" : Str)) = false) (ha : PA X es' (tEvs X.K k C l x)) (hp : es'.all plainE = true) (hl2 : es'.length = l.length) :
    PE X (.Call (.Name n p1) es' [] p) (tEv X.K k C (.call f l) x) := by
  refine ⟨fun pins s σ H Q I h => ?_⟩
  obtain ⟨w, ρ, st, rfl, at_, q⟩ := h
  simp only [evE] at q
  -- the call, once the arguments are there
  have fin : ∀ (w1 : Wd) (v1 : List V) (x1 : List W) (s1 : Sto), Le w w1 → At X.K k ρ s1 σ w1 → RWs X.K k w1 x1 v1 → Post (if x1.all W.pl then C.fn f x1 s1 else .stuck) (okV X.K k w Q) (exW X.K w fun c H => x c σ H) → spF X.K k.T C cc f v1 w1.H Q (WE (wOf cc x) σ) := by
    intro w1 v1 x1 s1 l1 a1 r1 q1
    split at q1
    · rename_i hpl
      refine ⟨w1, x1, s1, rfl, a1.re.tt, a1.ok, r1.pl hpl, q1.imp (fun y s2 h2 w2 v2 l2 ok2 r2 => h2 w2 v2 (l1.trans l2) ok2 r2.wk) fun c s2 h2 w2 l2 ok2 => ⟨c, rfl, rfl, h2 w2 (l1.trans l2) ok2⟩⟩
    · exact q1.elim
  refine wpAny_Call_Name_kw (ld_glob I hg hm ?_ hdb)
  cases es' with
  | nil =>
    refine PySem.W.callWith_K0 I.kIn hk ?_
    have el : l = [] := by
      cases l with
      | nil => rfl
      | cons _ _ => simp at hl2
    subst el
    simp only [evEs, Out.bind] at q
    exact runG (us := []) F hgd hr hb tk I .nil (fin w [] [] st (Le.refl w) at_ .nil q)
  | cons e es =>
    rw [List.all_cons, Bool.and_eq_true] at hp
    refine PySem.W.callWith_K (h₀ := X.base) I.ok.mod.kin hk ?_ (star_c hp.1) (star_any hp.2)
    have hq : tEvs X.K k C l x σ w.H fun vs H1 => spF X.K k.T C cc f vs H1 Q (WE (wOf cc x) σ) := parts at_ q fun w1 v1 x1 s1 l1 a1 r1 q1 => fin w1 v1 x1 s1 l1 a1 r1 q1
    refine thn (ha.run p pins s σ _ _ I hq) fun us s1 ⟨vs, H1, I1, r1, q1⟩ => ⟨I1.kIn, ?_⟩
    exact runG F hgd hr hb tk I1 r1 q1
end
end NC

set_option maxRecDepth 100000
/-! statements -/
namespace NC
open PySem PySem.Spec PyProof.Rows L2
def PostS (K : PySem.W.Frag) (k : Ck) (w : Wd) (o : OutS) (D : Ends) (x : WN) : Prop := match o with
  | .stuck => False
  | .ok .nx ρ st => ∀ w' σ', Le w w' → At K k ρ st σ' w' → D.nx σ' w'.H
  | .ok (.rt y) _ st => ∀ w' v, Le w w' → OKS K w' st → RW K k w' y v → D.rt v w'.H
  | .ok .bk ρ st => ∀ w' σ', Le w w' → At K k ρ st σ' w' → D.bk σ' w'.H
  | .ok .ct ρ st => ∀ w' σ', Le w w' → At K k ρ st σ' w' → D.ct σ' w'.H
  | .exc c ρ st => ∀ w' σ', Le w w' → At K k ρ st σ' w' → x c σ' w'.H
def tSv (K : PySem.W.Frag) (k : Ck) (C : Orc) (s : S) (x : WN) : TS := fun D σ H => ∃ w ρ st, w.H = H ∧ At K k ρ st σ w ∧ PostS K k w (evS C s ρ st) D x
def tSs (K : PySem.W.Frag) (k : Ck) (C : Orc) (l : List S) (x : WN) : TS := fun D σ H => ∃ w ρ st, w.H = H ∧ At K k ρ st σ w ∧ PostS K k w (evSs C l ρ st) D x
section
variable {K : PySem.W.Frag} {k : Ck} {w w' : Wd} {D : Ends} {x : WN}
theorem PostS.le {o : OutS} (l : Le w w') (h : PostS K k w o D x) : PostS K k w' o D x := by
  cases o with
  | stuck => exact h
  | exc c ρ st => exact fun w2 σ2 l2 => h w2 σ2 (l.trans l2)
  | ok f ρ st =>
    cases f with
    | nx => exact fun w2 σ2 l2 => h w2 σ2 (l.trans l2)
    | bk => exact fun w2 σ2 l2 => h w2 σ2 (l.trans l2)
    | ct => exact fun w2 σ2 l2 => h w2 σ2 (l.trans l2)
    | rt y => exact fun w2 σ2 l2 => h w2 σ2 (l.trans l2)
theorem PostS.of {α : Type} {o : Out α} {ρ : Rho} {st : Sto} {σ : L2.St} {f : α → Sto → OutS} (a : At K k ρ st σ w) (h : PostS K k w (o.toS ρ f) D x) : Post o (fun y s1 => PostS K k w (f y s1) D x) (exW K w fun c H => x c σ H) := by
  cases o with
  | stuck => exact h
  | ok y s1 => exact h
  | exc c s1 => exact fun w2 l2 ok2 => h w2 σ l2 ⟨ok2, a.re.le l2⟩
end
section
variable {X : Cx} {k : Ck} {C : Orc} {x : WN} {p : Pos}
/-- an expression's value, then the rest -/
theorem spart {e : E} {w : Wd} {ρ : Rho} {st : Sto} {σ : L2.St} {D : Ends} {Q : VK} {f : W → Sto → OutS} (a : At X.K k ρ st σ w) (h : PostS X.K k w ((evE C e ρ st).toS ρ f) D x)
    (g : ∀ w1 v y s1, Le w w1 → At X.K k ρ s1 σ w1 → RW X.K k w1 y v → PostS X.K k w (f y s1) D x → Q v w1.H) : tEv X.K k C e x σ w.H Q :=
  ⟨w, ρ, st, rfl, a, (h.of a).imp (fun y s1 z w1 v l o r => g w1 v y s1 l (a.le l o) r z) fun _ _ z => z⟩
theorem spartT {e : T} {w : Wd} {ρ : Rho} {st : Sto} {σ : L2.St} {D : Ends} {Q : Bool → Hp → Prop} {f : Bool → Sto → OutS} (a : At X.K k ρ st σ w) (h : PostS X.K k w ((evT C e ρ st).toS ρ f) D x)
    (g : ∀ w1 b s1, Le w w1 → At X.K k ρ s1 σ w1 → PostS X.K k w (f b s1) D x → Q b w1.H) : tTv X.K k C e x σ w.H Q :=
  ⟨w, ρ, st, rfl, a, (h.of a).imp (fun y s1 z w1 l o => g w1 y s1 l (a.le l o) z) fun _ _ z => z⟩
/-- targets that may take a place of the store -/
def gW (K : PySem.W.Frag) (k : Ck) (t : NC.TG) : L2.TG := fun v σ H Q => ∃ w ρ st y ρ', w.H = H ∧ At K k ρ st σ w ∧ RW K k w y v ∧ setW t y ρ = some ρ' ∧ ∀ σ', At K k ρ' st σ' w → Q σ' H
theorem gw_v {n : Str} {i : Nat} (hN : X.N.Nodup) (hi : X.N[i]? = some n) (hx : Loc X.env.scope n) (hf : X.fn n = true ∨ X.env.scope.names.lookup n = some .local) : PG X (.Name n p) (gW X.K k (.v i)) := by
  refine ⟨fun pins s σ H v u Q I r h => ?_⟩
  obtain ⟨w, ρ, st, y, ρ', rfl, a, rd, e, q⟩ := h
  refine (pg_name hN hi hx hf).run pins s σ _ v u Q I r ?_
  simp only [setW] at e
  split at e
  · cases e
    exact q _ ⟨a.ok, a.re.set i rd⟩
  · cases e
theorem gw_t {ts : List NC.TG} {tg : Expr} (h : PG X tg (gT X.K k (.t ts))) : PG X tg (gW X.K k (.t ts)) := by
  refine ⟨fun pins s σ H v u Q I r h' => ?_⟩
  obtain ⟨w, ρ, st, y, ρ', rfl, a, rd, e, q⟩ := h'
  refine h.run pins s σ _ v u Q I r ?_
  cases y with
  | d z => exact ⟨w, ρ, st, z, ρ', rfl, a, rd, by simpa only [setW] using e, fun σ' a' _ => q σ' a'⟩
  | _ => simp [setW] at e
theorem s_asg {t : NC.TG} {e : E} {tg e' : Expr} (he : PE X e' (tEv X.K k C e x)) (hg : PG X tg (gW X.K k t)) (hs : swapsWithSole [tg] e' p.line X.env = pure false) (hw : swappedStores [tg] e' X.env = pure none) (h1 : (assignEach [tg] X.env).map (·.2) = [assign tg X.env]) :
    PS X (.Assign [tg] e' p) (tSv X.K k C (.asg t e) x) := by
  refine ⟨fun pins s σ H D I h => ?_⟩
  obtain ⟨w, ρ, st, rfl, at_, q⟩ := h
  simp only [evS] at q
  refine (ps_asg he hg hs hw h1).run pins s σ _ D I (spart at_ q fun w1 v1 y s1 l1 a1 r1 q1 => ?_)
  split at q1
  · rename_i ρ' e1
    exact ⟨w1, ρ, s1, y, ρ', rfl, a1, r1, e1, fun σ' a' => q1 w1 σ' l1 a'⟩
  · exact q1.elim
/-- name = [..] on one line -/
theorem s_asgLc {i : Nat} {y : Str} {py : Pos} {n : Bool} {t : NC.TG} {ik : IK} {es : List E} {c : Option T} {e : E} {tg iter elt : Expr} {ifs : List Expr} {scope : Scope} {own : List (Str × Nat)} {lp : Pos} (hc : X.calm = true) (hN : X.N.Nodup) (hy : X.N[i]? = some y) (hyl : X.env.scope.names.lookup y = some .local)
    (hsw : swapsWith (.ListComp elt [⟨tg, iter, ifs, 0⟩] scope lp) (some (.Name y py)) p.line X.env = pure true) (hi : Wk X k C x ik es tg iter) (B : Blk X k C t c e tg elt ifs scope own) (hs : ∀ y, foldedSetIterable iter X.env y = pure y) :
    PS X (.Assign [.Name y py] (.ListComp elt [⟨tg, iter, ifs, 0⟩] scope lp) p) (tSv X.K k C (.asg (.v i) (.comp n t ik es c e)) x) := by
  refine ⟨fun pins s σ H D I h => ?_⟩
  obtain ⟨w, ρ, st, rfl, at_, q⟩ := h
  have q : PostS X.K k w ((evE C (.comp n t ik es c e) ρ st).toS ρ fun w s1 => match setW (.v i) w ρ with
    | some ρ' => .ok .nx ρ' s1
    | none => .stuck) D x := q
  have q2 : Post (evE C (.comp n t ik es c e) ρ st) (okV X.K k w fun v H1 => D.nx (σ.set i (some v)) H1) (exW X.K w fun c H => x c σ H) := (q.of at_).imp (fun y s1 q1 w1 v l1 ok1 r1 => by
    simp only [setW] at q1
    split at q1
    · rename_i ρ' e1
      split at e1
      · cases e1
        exact q1 w1 _ l1 ⟨ok1, (at_.re.le l1).set i r1⟩
      · cases e1
    · exact q1.elim) fun _ _ z => z
  obtain ⟨wi, h1, h2⟩ := comp_core hi B at_ q2
  exact (ps_setLc hc hN hy hyl hsw h1 B.ok B.g B.t B.e hs).run pins s σ _ D I h2
theorem s_ex {e : E} {e' : Expr} (he : PE X e' (tEv X.K k C e x)) (hs : swapsWith e' none p.line X.env = pure false) : PS X (.Expr e' p) (tSv X.K k C (.ex e) x) := by
  refine ⟨fun pins s σ H D I h => ?_⟩
  obtain ⟨w, ρ, st, rfl, at_, q⟩ := h
  simp only [evS] at q
  exact (ps_expr he hs).run pins s σ _ D I (spart at_ q fun w1 v1 y s1 l1 a1 r1 q1 => q1 w1 σ l1 a1)
theorem s_ret {e : E} {e' : Expr} (he : PE X e' (tEv X.K k C e x)) : PS X (.Return (some e') p) (tSv X.K k C (.ret e) x) := by
  refine ⟨fun pins s σ H D I h => ?_⟩
  obtain ⟨w, ρ, st, rfl, at_, q⟩ := h
  simp only [evS] at q
  exact (ps_ret he).run pins s σ _ D I (spart at_ q fun w1 v1 y s1 l1 a1 r1 q1 => q1 w1 v1 l1 a1.ok r1)
theorem s_retn : PS X (.Return none p) (tSv X.K k C .retn x) := by
  refine ⟨fun pins s σ H D I h => ?_⟩
  obtain ⟨w, ρ, st, rfl, at_, q⟩ := h
  exact ps_retN.run pins s σ _ D I (q w _ (Le.refl w) at_.ok .non)
theorem s_pass : PS X (.Pass p) (tSv X.K k C .pass x) := by
  refine ⟨fun pins s σ H D I h => ?_⟩
  obtain ⟨w, ρ, st, rfl, at_, q⟩ := h
  exact ps_pass.run pins s σ _ D I (q w σ (Le.refl w) at_)
theorem s_brk : PS X (.Break p) (tSv X.K k C .brk x) := by
  refine ⟨fun pins s σ H D I h => ?_⟩
  obtain ⟨w, ρ, st, rfl, at_, q⟩ := h
  exact ps_break.run pins s σ _ D I (q w σ (Le.refl w) at_)
theorem s_cont : PS X (.Continue p) (tSv X.K k C .cont x) := by
  refine ⟨fun pins s σ H D I h => ?_⟩
  obtain ⟨w, ρ, st, rfl, at_, q⟩ := h
  exact ps_continue.run pins s σ _ D I (q w σ (Le.refl w) at_)
theorem s_ite {c : T} {a b : List S} {c' : Expr} {a' b' : List Stmt} (hc : PT X c' (tTv X.K k C c x)) (ha : PSs X a' (tSs X.K k C a x)) (hb : PSs X b' (tSs X.K k C b x)) : PS X (.If c' a' b' p) (tSv X.K k C (.ite c a b) x) := by
  refine ⟨fun pins s σ H D I h => ?_⟩
  obtain ⟨w, ρ, st, rfl, at_, q⟩ := h
  simp only [evS] at q
  refine (ps_if hc ha hb).run pins s σ _ D I (spartT at_ q fun w1 b s1 l1 a1 q1 => ?_)
  cases b with
  | true => exact ⟨w1, ρ, s1, rfl, a1, q1.le l1⟩
  | false => exact ⟨w1, ρ, s1, rfl, a1, q1.le l1⟩
theorem s_nil : PSs X [] (tSs X.K k C [] x) := by
  refine ⟨fun pins s σ H D I h => ?_⟩
  obtain ⟨w, ρ, st, rfl, at_, q⟩ := h
  exact pss_nil.run pins s σ _ D I (q w σ (Le.refl w) at_)
theorem s_cons {a : S} {l : List S} {a' : Stmt} {l' : List Stmt} (ha : PS X a' (tSv X.K k C a x)) (hl : PSs X l' (tSs X.K k C l x)) : PSs X (a' :: l') (tSs X.K k C (a :: l) x) := by
  refine ⟨fun pins s σ H D I h => ?_⟩
  obtain ⟨w, ρ, st, rfl, at_, q⟩ := h
  simp only [evSs] at q
  refine (pss_cons ha hl).run pins s σ _ D I ⟨w, ρ, st, rfl, at_, ?_⟩
  cases e : evS C a ρ st with
  | stuck =>
    rw [e] at q
    exact q
  | exc c ρ' s1 =>
    rw [e] at q
    exact q
  | ok f ρ' s1 =>
    rw [e] at q
    cases f with
    | nx => exact fun w1 σ1 l1 a1 => ⟨w1, ρ', s1, rfl, a1, q.le l1⟩
    | rt y => exact q
    | bk => exact q
    | ct => exact q
/-- a for -/
theorem s_for {t : NC.TG} {ik : IK} {es : List E} {b : List S} {tg iter : Expr} {b' : List Stmt} (hp : PassesOwn (model X.prog X.w) X.A X.env X.xe) (hc : X.calm = true) (hi : Wk X k C x ik es tg iter) (hg : PG X tg (gT X.K k t)) (hb : PSs X b' (tSs X.K k C b x)) (hs : ∀ y, foldedSetIterable iter X.env y = pure y) :
    PS X (.For tg iter b' [] p) (tSv X.K k C (.fo t ik es b) x) := by
  refine ⟨fun pins s σ H D I h => ?_⟩
  obtain ⟨w, ρ, st, rfl, at_, q⟩ := h
  simp only [evS] at q
  generalize hf : (fun d ρ s => match setT t d ρ with
      | some ρ' => evSs C b ρ' s
      | none => .stuck : NC.D → Rho → Sto → OutS) = f at q
  suffices hq : Post (evEs C es ρ st) (wkP X.K ik w fun J H1 => ∃ W : Nat → Nat → L2.St → Hp → Prop, (∃ m, W 0 m σ H1) ∧ ∀ i m σ H, W i m σ H →
      (J.stop i H ∧ D.nx σ H) ∨ (J.go i H ∧ ∃ N : L2.St → Hp → Prop, (∀ σ' H', N σ' H' → ∃ m', m' < m ∧ W (i + 1) m' σ' H') ∧ ∀ y H', J.yld i H y H' → gT X.K k t y σ H' fun σ2 H2 => tSs X.K k C b x { D with nx := N, ct := N, bk := D.nx } σ2 H2)) (exW X.K w fun c H => x c σ H) by
    obtain ⟨wi, h1, h2⟩ := hi w ρ st σ _ at_ hq
    exact (ps_for hp hc h1 hg hb hs).run pins s σ _ D I h2
  refine (q.of at_).imp (fun ws s1 q1 => ?_) fun _ _ z => z
  split at q1
  · rename_i qq hw
    refine ⟨qq, hw, fun w1 J l1 ok1 rz => ?_⟩
    let Pv : Nat → L2.St → Hp → Prop := fun i σ H => i ≤ qq.its.length ∧ ∃ w2 ρ2 s2, w2.H = H ∧ Le w1 w2 ∧ At X.K k ρ2 s2 σ w2 ∧ PostS X.K k w (loopS qq f (qq.its.drop i) ρ2 s2) D x
    refine ⟨fun i m σ H => m = qq.its.length - i ∧ Pv i σ H, ⟨_, rfl, Nat.zero_le _, w1, ρ, s1, rfl, Le.refl w1, at_.le l1 ok1, by rw [List.drop_zero]; exact q1⟩, ?_⟩
    rintro i m σ2 H ⟨rfl, hle, w2, ρ2, s2, rfl, l2, a2, q2⟩
    have rz2 := rz w2 s2 l2 a2.ok
    by_cases hi : i < qq.its.length
    · obtain ⟨d, hd⟩ : ∃ d, qq.its[i]? = some d := ⟨_, List.getElem?_eq_getElem hi⟩
      have hdrop : qq.its.drop i = d :: qq.its.drop (i + 1) := by
        rw [List.drop_eq_getElem_cons hi]
        have := (List.getElem?_eq_some_iff.mp hd).2
        rw [this]
      rw [hdrop] at q2
      unfold loopS at q2
      split at q2
      · rename_i hok
        obtain ⟨rzg, _⟩ := rz2 hok
        obtain ⟨hgo, hy⟩ := rzg i d hd
        refine .inr ⟨hgo, Pv (i + 1), fun σ' H' hx => ⟨qq.its.length - (i + 1), by omega, rfl, hx⟩, fun v H' hyl => ?_⟩
        obtain ⟨w3, rfl, l3, ok3, r3⟩ := hy v H' hyl
        cases es : setT t d ρ2 with
        | none =>
          rw [← hf] at q2
          simp only [es] at q2
          exact q2.elim
        | some ρ' =>
          refine ⟨w3, ρ2, s2, d, ρ', rfl, a2.le l3 ok3, r3, es, fun σ' a' _ => ⟨w3, ρ', s2, rfl, a', ?_⟩⟩
          have ef : f d ρ2 s2 = evSs C b ρ' s2 := by
            rw [← hf]
            simp only [es]
          rw [ef] at q2
          have next : ∀ {w4 : Wd} {ρ4 : Rho} {s4 : Sto} {σ4 : L2.St}, Le w3 w4 → At X.K k ρ4 s4 σ4 w4 → PostS X.K k w (loopS qq f (qq.its.drop (i + 1)) ρ4 s4) D x → Pv (i + 1) σ4 w4.H := fun {w4 ρ4 s4 σ4} l4 a4 q4 => ⟨hi, w4, ρ4, s4, rfl, (l2.trans l3).trans l4, a4, q4⟩
          have lw : Le w w3 := (l1.trans l2).trans l3
          cases eb : evSs C b ρ' s2 with
          | stuck =>
            rw [eb] at q2
            exact q2.elim
          | exc c ρ4 s4 =>
            rw [eb] at q2
            exact fun w4 σ4 l4 a4 => q2 w4 σ4 (lw.trans l4) a4
          | ok fl ρ4 s4 =>
            rw [eb] at q2
            cases fl with
            | nx => exact fun w4 σ4 l4 a4 => next l4 a4 q2
            | ct => exact fun w4 σ4 l4 a4 => next l4 a4 q2
            | bk => exact fun w4 σ4 l4 a4 => q2 w4 σ4 (lw.trans l4) a4
            | rt y => exact fun w4 σ4 l4 a4 => q2 w4 σ4 (lw.trans l4) a4
      · exact q2.elim
    · have hdrop : qq.its.drop i = [] := List.drop_eq_nil_of_le (by omega)
      rw [hdrop] at q2
      unfold loopS at q2
      split at q2
      · rename_i hok
        exact .inl ⟨(rz2 hok).2 i (by omega), q2 w2 σ2 (l1.trans l2) a2⟩
      · exact q2.elim
  · exact q1.elim
/-- a while -/
theorem s_while {c : T} {b : List S} {c' : Expr} {b' : List Stmt} (hp : PassesOwn (model X.prog X.w) X.A X.env X.xe) (hc : PT X c' (tTv X.K k C c x)) (hb : PSs X b' (tSs X.K k C b x)) : PS X (.While c' b' [] p) (tSv X.K k C (.wh c b) x) := by
  refine ⟨fun pins s σ H D I h => ?_⟩
  obtain ⟨w, ρ, st, rfl, at_, q⟩ := h
  simp only [evS] at q
  let Pv : Nat → L2.St → Hp → Prop := fun n σ H => ∃ w2 ρ2 s2, w2.H = H ∧ At X.K k ρ2 s2 σ w2 ∧ PostS X.K k w2 (whileS (evT C c) (evSs C b) n ρ2 s2) D x
  refine (ps_while hp hc hb).run pins s σ _ D I ⟨Pv, ⟨C.wh, w, ρ, st, rfl, at_, q⟩, ?_⟩
  rintro n σ2 H ⟨w2, ρ2, s2, rfl, a2, q2⟩
  cases n with
  | zero => exact q2.elim
  | succ n =>
    unfold whileS at q2
    refine spartT (w := w2) a2 q2 fun w3 v s3 l3 a3 q3 => ?_
    cases v with
    | false =>
      rw [if_neg Bool.false_ne_true] at q3 ⊢
      exact q3 w3 σ2 l3 a3
    | true =>
      rw [if_pos rfl] at q3 ⊢
      refine ⟨Pv n, fun σ' H' hx => ⟨n, Nat.lt_succ_self n, hx⟩, w3, ρ2, s3, rfl, a3, ?_⟩
      cases eb : evSs C b ρ2 s3 with
      | stuck =>
        rw [eb] at q3
        exact q3.elim
      | exc c ρ4 s4 =>
        rw [eb] at q3
        exact fun w4 σ4 l4 a4 => q3 w4 σ4 (l3.trans l4) a4
      | ok fl ρ4 s4 =>
        rw [eb] at q3
        cases fl with
        | nx => exact fun w4 σ4 l4 a4 => ⟨w4, ρ4, s4, rfl, a4, q3.le (l3.trans l4)⟩
        | ct => exact fun w4 σ4 l4 a4 => ⟨w4, ρ4, s4, rfl, a4, q3.le (l3.trans l4)⟩
        | bk => exact fun w4 σ4 l4 a4 => q3 w4 σ4 (l3.trans l4) a4
        | rt y => exact fun w4 σ4 l4 a4 => q3 w4 σ4 (l3.trans l4) a4
/-- o[i] = e -/
theorem s_sub {o i e : E} {o' i' e' : Expr} {tp : Pos} (ho : PE X o' (tEv X.K k C o x)) (hi : PE X i' (tEv X.K k C i x)) (he : PE X e' (tEv X.K k C e x)) (ha : ∀ v, assign (.Subscript o' i' tp) X.env v = (do
      let ov ← holding [v] (eval o' X.env)
      let iv ← holding [v, ov] (eval i' X.env)
      standAt tp
      holding [v, ov, iv] (setItem ov iv v)
      release [v, ov, iv] [])) (hs : swapsWithSole [.Subscript o' i' tp] e' p.line X.env = pure false) (hw : swappedStores [.Subscript o' i' tp] e' X.env = pure none) :
    PS X (.Assign [.Subscript o' i' tp] e' p) (tSv X.K k C (.sub o i e) x) := by
  refine ⟨fun pins s σ H D I h => ?_⟩
  obtain ⟨w, ρ, st, rfl, at_, q⟩ := h
  simp only [evS] at q
  refine (ps_asg he (pg_sub ho hi set_list ha) hs hw rfl).run pins s σ _ D I (spart at_ q fun w1 v1 y s1 l1 a1 r1 q1 => ?_)
  refine spart a1 (q1.le l1) fun w2 v2 y2 s2 l2 a2 r2 q2 => ?_
  refine spart a2 (q2.le l2) fun w3 v3 y3 s3 l3 a3 r3 q3 => ?_
  split at q3
  · rename_i d n j
    split at q3
    · rename_i l hl
      split at q3
      · rename_i m hm
        cases r3
        obtain ⟨b, h1, rfl⟩ := r2.le l3
        obtain ⟨_, vs, h2, h3⟩ := a3.ok.at_ h1 hl
        refine ⟨b, vs, j, m, rfl, rfl, h2, by rw [← h3.length]; exact hm, ?_⟩
        obtain ⟨w', e1, l4, ok4⟩ := wr_ok a3.ok h1 hl (h3.set m (RD.le (l2.trans l3).toLe0 r1))
        rw [← e1]
        exact q3 w' σ (l3.trans l4) (a3.le l4 ok4)
      · exact q3.elim
    · exact q3.elim
  · exact q3.elim
/-- raise C() -/
theorem pmk_own0 {A : Addr} {bmB : List Value} {B newId initId : String} {n : Str} {p p2 : Pos} (F : ExcBaseFacts B newId initId bmB) (hx : PySem.W.excIn X.K A bmB newId = true) (hm : X.mg n = some (.ref A)) (hk : PySem.W.keepIn X.K (.ref A) = true) (r : Raises X (.ref A)) (hg : Gl X n) (hd : (n == ("__debug__" : Str)) = false) :
    PMk X (.Call (.Name n p) [] [] p2) (fun _ H Q => Q (.ref A) none H) := by
  intro pins s σ H Q I h
  refine wpAny_Call_Name_kw (ld_glob I hg hm (PySem.W.callWith_K0 I.kIn hk ?_) hd)
  obtain ⟨bm, N, nm, qn, bs, hdct, sn, sub, ab, col, dd, k0, k1, k2, k3, k5, mN, hC, hN, hni, T⟩ := exc_obj I.kIn hx
  refine wpAny_call_exc_subT F T hC hN hni (fun h' e hm => ?_) (by rw [sizeLine_eq]; exact Nat.zero_le _)
  exact mk_of I hm r h (I.hok.gone hm.new)
theorem s_raise {c : Nat} {cc : Nat → Value} {A : Addr} {e' : Expr} (hc : X.calm = true) (tk : Takes X (wOf cc x)) (hcc : cc c = .ref A) (he : PMk X e' (fun _ H Q => Q (.ref A) none H)) : PS X (.Raise (some e') none p) (tSv X.K k C (.raise c) x) := by
  refine ⟨fun pins s σ H D I h => ?_⟩
  obtain ⟨w, ρ, st, rfl, at_, q⟩ := h
  exact (ps_raise hc tk he).run pins s σ _ D I ⟨c, hcc.symm, rfl, q w σ (Le.refl w) at_⟩
end
end NC

set_option maxRecDepth 100000
/-! several targets; errors caught -/
namespace NC
open PySem PySem.Spec PyProof.Rows L2
section
variable {X : Cx} {k : Ck} {C : Orc} {x : WN} {p : Pos}
def gNs (K : PySem.W.Frag) (k : Ck) (is : List Nat) : L2.TGs := fun v σ H Q => ∃ w ρ st ws ρ', w.H = H ∧ At K k ρ st σ w ∧ RWs K k w ws v ∧ setL is ws ρ = some ρ' ∧ ∀ σ', At K k ρ' st σ' w → Q σ' H
theorem gn_nil : PGs X [] (gNs X.K k []) := by
  refine ⟨fun pins s σ H vs us Q I r h => ?_⟩
  obtain ⟨w, ρ, st, ws, ρ', rfl, a, rd, e, q⟩ := h
  cases rd with
  | nil =>
    cases e
    exact pgs_nil.run pins s σ _ _ us Q I r ⟨rfl, q σ a⟩
  | cons _ _ => simp [setL] at e
theorem gn_cons {i : Nat} {is : List Nat} {n : Str} {es : List Expr} (hN : X.N.Nodup) (hi : X.N[i]? = some n) (hx : Loc X.env.scope n) (hf : X.fn n = true ∨ X.env.scope.names.lookup n = some .local) (h2 : PGs X es (gNs X.K k is)) : PGs X (.Name n p :: es) (gNs X.K k (i :: is)) := by
  refine ⟨fun pins s σ H vs us Q I r h => ?_⟩
  obtain ⟨w, ρ, st, ws, ρ', rfl, a, rd, e, q⟩ := h
  cases rd with
  | nil => simp [setL] at e
  | cons r1 rs =>
    simp only [setL] at e
    split at e
    · refine (pgs_cons (pg_name hN hi hx hf) h2).run pins s σ _ _ us Q I r ⟨_, _, rfl, ?_⟩
      exact ⟨w, _, st, _, ρ', rfl, ⟨a.ok, a.re.set i r1⟩, rs, e, q⟩
    · cases e
theorem setL_len : ∀ {is : List Nat} {ws : List W} {ρ ρ' : Rho}, setL is ws ρ = some ρ' → is.length = ws.length
  | [], [], _, _, _ => rfl
  | [], _ :: _, _, _, h => by simp [setL] at h
  | _ :: _, [], _, _, h => by simp [setL] at h
  | i :: r, w :: ws, ρ, ρ', h => by
    simp only [setL] at h
    split at h
    · rw [List.length_cons, List.length_cons, setL_len h]
    · cases h
theorem s_parT {is : List Nat} {l : List E} {ts es : List Expr} {kt k2 : Nat} {pt p2 : Pos} (hc : X.calm = true) (hg : PGs X ts (gNs X.K k is)) (hl : ts.length = is.length) (hn : (assignEach ts X.env).length = ts.length) (hst : (assignEach ts X.env).findIdx? (·.1) = none) (he : PA X es (tEvs X.K k C l x))
    (hsz : l.length < 100) (hel : ∀ ws ρ st s1, evEs C l ρ st = .ok ws s1 → ws.length = l.length)
    (hw : swappedStores [.Tuple ts kt pt] (.Tuple es k2 p2) X.env = pure none) : PS X (.Assign [.Tuple ts kt pt] (.Tuple es k2 p2) p) (tSv X.K k C (.par is l) x) := by
  refine ⟨fun pins s σ H D I h => ?_⟩
  obtain ⟨w, ρ, st, rfl, at_, q⟩ := h
  simp only [evS] at q
  refine (ps_asg (pe_tup he) (pg_tup hc hg hn hst) rfl hw rfl).run pins s σ _ D I ⟨w, ρ, st, rfl, at_, ?_⟩
  cases ee : evEs C l ρ st with
  | stuck =>
    rw [ee] at q
    exact q
  | exc c s1 =>
    rw [ee] at q
    exact fun w2 l2 ok2 => q w2 σ l2 ⟨ok2, at_.re.le l2⟩
  | ok ws s1 =>
    rw [ee] at q
    intro w1 v1 l1 ok1 r1
    have hlen := hel ws ρ st s1 ee
    have q : PostS X.K k w (match setL is ws ρ with
      | some ρ' => .ok .nx ρ' s1
      | none => .stuck) D x := q
    split at q
    · rename_i ρ' e1
      refine ⟨by rw [← r1.length, hlen, sizeLine_eq]; omega, fun b hb => ?_⟩
      have l2 : Le w1 (w1.grow b (.tup v1)) := grow_le ok1 hb
      refine ⟨b, v1, rfl, .inl (.inl upd_same), ?_, w1.grow b (.tup v1), ρ, s1, ws, ρ', rfl, ⟨grow_ok ok1 hb, at_.re.le (l1.trans l2)⟩, r1.le l2, e1, fun σ' a' => q _ σ' (l1.trans l2) a'⟩
      rw [← r1.length, hl, setL_len e1]
    · exact q.elim
/-- a, b = e, f with plain local names -/
theorem par_post {is : List Nat} {l : List E} {w : Wd} {ρ : Rho} {st : Sto} {σ : L2.St} {D : Ends} {Q : List V → Hp → Prop} (a : At X.K k ρ st σ w) (q : PostS X.K k w (evS C (.par is l) ρ st) D x)
    (h : ∀ w1 v1 ws s1 ρ', Le w w1 → At X.K k ρ s1 σ w1 → RWs X.K k w1 ws v1 → setL is ws ρ = some ρ' → (∀ σ', At X.K k ρ' s1 σ' w1 → D.nx σ' w1.H) → Q v1 w1.H) : tEvs X.K k C l x σ w.H Q := by
  simp only [evS] at q
  refine ⟨w, ρ, st, rfl, a, ?_⟩
  cases ee : evEs C l ρ st with
  | stuck =>
    rw [ee] at q
    exact q
  | exc c s1 =>
    rw [ee] at q
    exact fun w2 l2 ok2 => q w2 σ l2 ⟨ok2, a.re.le l2⟩
  | ok ws s1 =>
    rw [ee] at q
    intro w1 v1 l1 ok1 r1
    have q : PostS X.K k w (match setL is ws ρ with
      | some ρ' => .ok .nx ρ' s1
      | none => .stuck) D x := q
    split at q
    · rename_i ρ' e1
      exact h w1 v1 ws s1 ρ' l1 (a.le l1 ok1) r1 e1 fun σ' a' => q w1 σ' l1 a'
    · exact q.elim
theorem s_par2 {i j : Nat} {l : List E} {n m : Str} {a b : Expr} {px py pt p2 : Pos} {kt k2 : Nat} (hc : X.calm = true) (hN : X.N.Nodup) (hi : X.N[i]? = some n) (hj : X.N[j]? = some m) (hij : i ≠ j) (hx : X.env.scope.names.lookup n = some .local) (hy : X.env.scope.names.lookup m = some .local) (he : PA X [a, b] (tEvs X.K k C l x))
    (hw : swappedStores [.Tuple [.Name n px, .Name m py] kt pt] (.Tuple [a, b] k2 p2) X.env = pure (some [n, m])) : PS X (.Assign [.Tuple [.Name n px, .Name m py] kt pt] (.Tuple [a, b] k2 p2) p) (tSv X.K k C (.par [i, j] l) x) := by
  refine ⟨fun pins s σ H D I h => ?_⟩
  obtain ⟨w, ρ, st, rfl, at_, q⟩ := h
  refine (ps_par hc hN hi hj hij hx hy he hw).run pins s σ _ D I (par_post at_ q fun w1 v1 ws s1 ρ' l1 a1 r1 e1 q1 => ?_)
  have hlen := setL_len e1
  cases r1 with
  | nil => simp at hlen
  | cons r1 rs =>
    cases rs with
    | nil => simp at hlen
    | cons r2 rs =>
      cases rs with
      | cons _ _ => simp at hlen
      | nil =>
        refine ⟨_, _, rfl, q1 _ ?_⟩
        simp only [setL] at e1
        split at e1
        · split at e1
          · cases e1
            exact ⟨a1.ok, (a1.re.set i r1).set j r2⟩
          · cases e1
        · cases e1
theorem s_par3 {i j g : Nat} {l : List E} {n m o : Str} {a b c : Expr} {px py pz pt p2 : Pos} {kt k2 : Nat} (hc : X.calm = true) (hN : X.N.Nodup) (hi : X.N[i]? = some n) (hj : X.N[j]? = some m) (hg : X.N[g]? = some o) (hij : i ≠ j) (hig : i ≠ g) (hjg : j ≠ g) (hx : X.env.scope.names.lookup n = some .local) (hy : X.env.scope.names.lookup m = some .local)
    (hz : X.env.scope.names.lookup o = some .local) (he : PA X [a, b, c] (tEvs X.K k C l x))
    (hw : swappedStores [.Tuple [.Name n px, .Name m py, .Name o pz] kt pt] (.Tuple [a, b, c] k2 p2) X.env = pure (some [n, m, o])) : PS X (.Assign [.Tuple [.Name n px, .Name m py, .Name o pz] kt pt] (.Tuple [a, b, c] k2 p2) p) (tSv X.K k C (.par [i, j, g] l) x) := by
  refine ⟨fun pins s σ H D I h => ?_⟩
  obtain ⟨w, ρ, st, rfl, at_, q⟩ := h
  refine (ps_par3 hc hN hi hj hg hij hig hjg hx hy hz he hw).run pins s σ _ D I (par_post at_ q fun w1 v1 ws s1 ρ' l1 a1 r1 e1 q1 => ?_)
  have hlen := setL_len e1
  cases r1 with
  | nil => simp at hlen
  | cons r1 rs =>
    cases rs with
    | nil => simp at hlen
    | cons r2 rs =>
      cases rs with
      | nil => simp at hlen
      | cons r3 rs =>
        cases rs with
        | cons _ _ => simp at hlen
        | nil =>
          refine ⟨_, _, _, rfl, q1 _ ?_⟩
          simp only [setL] at e1
          split at e1
          · split at e1
            · split at e1
              · cases e1
                exact ⟨a1.ok, ((a1.re.set i r1).set j r2).set g r3⟩
              · cases e1
            · cases e1
          · cases e1
/-! errors caught -/
def ckS (k : Ck) (a : Addr) (c0 : Nat) : Ck := ⟨k.cl, fun c v => c = c0 ∧ v = .ref a, k.T, k.mono⟩
theorem RW.toS {K : PySem.W.Frag} {w : Wd} {y : W} {v : V} {a : Addr} {c0 : Nat} (hk : ∀ c v, ¬ k.xn c v) (h : RW K k w y v) : RW K (ckS k a c0) w y v := by
  cases y with
  | d _ => exact h
  | loc _ => exact h
  | scr _ => exact h
  | clo _ _ => exact h
  | exn c => exact (hk c v h).elim
theorem RW.ofS {K : PySem.W.Frag} {w : Wd} {y : W} {v : V} {a : Addr} {c0 : Nat} (he : ∀ c, y ≠ .exn c) (h : RW K (ckS k a c0) w y v) : RW K k w y v := by
  cases y with
  | d _ => exact h
  | loc _ => exact h
  | scr _ => exact h
  | clo _ _ => exact h
  | exn c => exact (he c rfl).elim
theorem unset_at {K : PySem.W.Frag} {w : Wd} {ρ : Rho} {st : Sto} {σ : L2.St} {a : Addr} {c0 i : Nat} (h : At K (ckS k a c0) ρ st σ w) (e : noExn (ρ.set i none) = true) : At K k (ρ.set i none) st (σ.set i none) w := by
  refine ⟨h.ok, by simpa using h.re.len, fun j y hy => ?_, h.re.tt⟩
  have hne : ∀ c, y ≠ .exn c := fun c z => by
    have hm := List.mem_of_getElem? hy
    have := List.all_eq_true.mp e _ hm
    rw [z] at this
    cases this
  by_cases hj : i = j
  · subst hj
    have hi : i < ρ.length := by
      have := (List.getElem?_eq_some_iff.mp hy).1
      simpa using this
    rw [List.getElem?_set_self hi] at hy
    cases hy
  · rw [List.getElem?_set_ne hj] at hy ⊢
    obtain ⟨v, e1, r⟩ := h.re.at_ j y hy
    exact ⟨v, e1, r.ofS hne⟩
/-- try: b except A as n: h -/
theorem s_tryAs {cc : Nat → Value} {c i : Nat} {b h : List S} {n cn : Str} {b' h' : List Stmt} {b0 : Stmt} {np hp : Pos} (hs : X.stack = X.env :: X.outer) (hf : X.env.frame = some X.env.locals) (hN : X.N.Nodup) (hi : X.N[i]? = some n) (hln : X.env.kindOf n = some .local) (hc : Names X cn (cc c)) (tk : Takes X (wOf cc x))
    (hk : ∀ c v, ¬ k.xn c v) (hsub : ∀ c0 b, C.sub c0 c = some b → PySem.W.exmOne X.K (cc c0) (cc c) = some b)
    (hb : ∀ (y : WN) (pn : List (Addr × Obj)) (xe : Value → Shared → Prop), Takes (X.tr pn xe) (wOf cc y) → PassesOwn (model X.prog X.w) X.A X.env xe → PSs (X.tr pn xe) b' (tSs X.K k C b y))
    (hh : ∀ (a : Addr) (oe : Obj) (c0 : Nat) (pn : List (Addr × Obj)), C.sub c0 c = some true → Zc (cc c0) none oe → (∃ vs, oe.data = .fields vs) → PSs (X.suite a ((a, oe) :: pn)) (b0 :: h') (tSs X.K (ckS k a c0) C h noX)) :
    PS X (.Try b' [.ExceptHandler (some (.Name cn np)) (some n) (b0 :: h') hp] [] [] p) (tSv X.K k C (.tri b c (some i) h) x) := by
  refine ⟨fun pins s σ H D I h0 => ?_⟩
  obtain ⟨w, ρ, st, rfl, at_, q⟩ := h0
  simp only [evS] at q
  let ts : Addr → Value → Option Addr → TS := fun a cls d D σ H => ∃ c0, cls = cc c0 ∧ d = none ∧ C.sub c0 c = some true ∧ tSs X.K (ckS k a c0) C h noX D σ H
  have hsu : ∀ (a : Addr) (oe : Obj) (cls : Value) (d : Option Addr) (pn : List (Addr × Obj)), Zc cls d oe → (∃ vs, oe.data = .fields vs) → PSs (X.suite a ((a, oe) :: pn)) (b0 :: h') (ts a cls d) := by
    intro a oe cls d pn hz hv
    refine ⟨fun pins s σ H D I hq => ?_⟩
    obtain ⟨c0, rfl, rfl, hsb, hq⟩ := hq
    exact (hh a oe c0 pn hsb hz hv).run pins s σ H D I hq
  refine (ps_try_as hs hf hN hi hln hc tk (tb := fun W => tSs X.K k C b fun c σ H => W (cc c) none σ H) (fun W pn xe tk' ps => hb _ pn xe (tk'.imp fun cls d σ H ⟨c, e1, e2, z⟩ => by rw [e1, e2]; exact z) ps) hsu).run pins s σ _ D I ⟨w, ρ, st, rfl, at_, ?_⟩
  cases eb : evSs C b ρ st with
  | stuck =>
    rw [eb] at q
    exact q
  | ok f ρ1 s1 =>
    rw [eb] at q
    cases f <;> exact q
  | exc c0 ρ1 s1 =>
    rw [eb] at q
    intro w1 σ1 l1 a1
    cases es : C.sub c0 c with
    | none =>
      simp only [es] at q
      exact q.elim
    | some bb =>
      simp only [es] at q
      refine ⟨bb, hsub c0 bb es, fun ht a ha => ?_, fun ht => ?_⟩
      · subst ht
        simp only [] at q
        split at q
        · rename_i hlt
          have aS : At X.K (ckS k a c0) (ρ1.set i (some (.exn c0))) s1 (σ1.set i (some (.ref a))) w1 := ⟨a1.ok, RE.set ⟨a1.re.len, fun j y hy => let ⟨v, e1, r⟩ := a1.re.at_ j y hy; ⟨v, e1, r.toS hk⟩, a1.re.tt⟩ i (x := .exn c0) ⟨rfl, rfl⟩⟩
          refine ⟨c0, rfl, rfl, es, w1, _, s1, rfl, aS, ?_⟩
          cases eh : evSs C h (ρ1.set i (some (.exn c0))) s1 with
          | stuck =>
            rw [eh] at q
            exact q
          | exc c ρ2 s2 =>
            rw [eh] at q
            exact q.elim
          | ok f ρ2 s2 =>
            rw [eh] at q
            cases f with
            | rt y =>
              simp only [unset] at q
              split at q
              · rename_i hpl
                intro w2 v2 l2 ok2 r2
                refine q w2 v2 (l1.trans l2) ok2 (r2.ofS fun c z => ?_)
                rw [z] at hpl
                cases hpl
              · exact q.elim
            | nx =>
              simp only [unset] at q
              split at q
              · rename_i hne
                exact fun w2 σ2 l2 a2 => q w2 _ (l1.trans l2) (unset_at a2 hne)
              · exact q.elim
            | bk =>
              simp only [unset] at q
              split at q
              · rename_i hne
                exact fun w2 σ2 l2 a2 => q w2 _ (l1.trans l2) (unset_at a2 hne)
              · exact q.elim
            | ct =>
              simp only [unset] at q
              split at q
              · rename_i hne
                exact fun w2 σ2 l2 a2 => q w2 _ (l1.trans l2) (unset_at a2 hne)
              · exact q.elim
        · exact q.elim
      · subst ht
        exact ⟨c0, rfl, rfl, q w1 σ1 l1 a1⟩
end
end NC

set_option maxRecDepth 100000
/-! except without a name, isinstance of the caught, methods of lists -/
namespace NC
open PySem PySem.Spec PyProof.Rows L2
section
variable {X : Cx} {k : Ck} {C : Orc} {x : WN} {p : Pos}
theorem s_tryOnly {cc : Nat → Value} {c : Nat} {b h : List S} {cn : Str} {b' h' : List Stmt} {b0 : Stmt} {np hp : Pos} (hs : X.stack = X.env :: X.outer) (hf : X.env.frame = some X.env.locals) (hc : Names X cn (cc c)) (tk : Takes X (wOf cc x))
    (hsub : ∀ c0 b, C.sub c0 c = some b → PySem.W.exmOne X.K (cc c0) (cc c) = some b)
    (hb : ∀ (y : WN) (pn : List (Addr × Obj)) (xe : Value → Shared → Prop), Takes (X.tr pn xe) (wOf cc y) → PassesOwn (model X.prog X.w) X.A X.env xe → PSs (X.tr pn xe) b' (tSs X.K k C b y))
    (hh : ∀ (a : Addr) (oe : Obj) (pn : List (Addr × Obj)), PSs (X.suite a ((a, oe) :: pn)) (b0 :: h') (tSs X.K k C h noX)) :
    PS X (.Try b' [.ExceptHandler (some (.Name cn np)) none (b0 :: h') hp] [] [] p) (tSv X.K k C (.tri b c none h) x) := by
  refine ⟨fun pins s σ H D I h0 => ?_⟩
  obtain ⟨w, ρ, st, rfl, at_, q⟩ := h0
  simp only [evS] at q
  let ts : Addr → Value → Option Addr → TS := fun a cls d D σ H => tSs X.K k C h noX D σ H
  refine (ps_try_only hs hf hc tk (tb := fun W => tSs X.K k C b fun c σ H => W (cc c) none σ H) (ts := ts) (fun W pn xe tk' ps => hb _ pn xe (tk'.imp fun cls d σ H ⟨c, e1, e2, z⟩ => by rw [e1, e2]; exact z) ps) (fun a oe cls d pn hz hv => hh a oe pn)).run pins s σ _ D I ⟨w, ρ, st, rfl, at_, ?_⟩
  cases eb : evSs C b ρ st with
  | stuck =>
    rw [eb] at q
    exact q
  | ok f ρ1 s1 =>
    rw [eb] at q
    cases f <;> exact q
  | exc c0 ρ1 s1 =>
    rw [eb] at q
    intro w1 σ1 l1 a1
    cases es : C.sub c0 c with
    | none =>
      simp only [es] at q
      exact q.elim
    | some bb =>
      simp only [es] at q
      refine ⟨bb, hsub c0 bb es, fun ht a ha => ?_, fun ht => ?_⟩
      · subst ht
        simp only [] at q
        refine ⟨w1, _, s1, rfl, a1, ?_⟩
        cases eh : evSs C h ρ1 s1 with
        | stuck =>
          rw [eh] at q
          exact q
        | exc c ρ2 s2 =>
          rw [eh] at q
          exact q.elim
        | ok f ρ2 s2 =>
          rw [eh] at q
          have q : PostS X.K k w (.ok f ρ2 s2) D x := q
          have q := PostS.le l1 q
          cases f <;> exact q
      · subst ht
        exact ⟨c0, rfl, rfl, q w1 σ1 l1 a1⟩
/-- isinstance(e, c), e what the suite holds -/
theorem x_exis {cc : Nat → Value} {a : Addr} {oe : Obj} {c0 c i : Nat} {A0 : Addr} {pn : List (Addr × Obj)} {n cn : Str} {np cp fp : Pos} {kk : Ck} (EC : ExcC X.K A0) (hcc : cc c0 = .ref A0) (hz : Zc (cc c0) none oe) (hv : ∃ vs, oe.data = .fields vs)
    (hN : X.N[i]? = some n) (hvs : Vis X.env.scope n) (hd : (n == ("__debug__" : Str)) = false) (hcd : (n == ("__classdict__" : Str)) = false) (hg : Gl X "isinstance") (hm : X.mg "isinstance" = none)
    {v : V} (hcn : PE (X.suite a ((a, oe) :: pn)) (.Name cn cp) (tC v)) (hv2 : ∀ u, RelV v u → u = cc c) (hsub : ∀ b, C.sub c0 c = some b → PySem.W.kitOne X.K (cc c0) (cc c) = some b) :
    PE (X.suite a ((a, oe) :: pn)) (.Call (.Name "isinstance" fp) [.Name n np, .Name cn cp] [] p) (tEv X.K (ckS kk a c0) C (.exis i c) x) := by
  refine ⟨fun pins s σ H Q I h => ?_⟩
  obtain ⟨w, ρ, st, rfl, at_, q⟩ := h
  simp only [evE] at q
  split at q
  · rename_i c1 e1
    split at q
    · rename_i b eb
      obtain ⟨u, e2, r⟩ := at_.re.at_ _ _ e1
      obtain ⟨rfl, rfl⟩ := r
      have pa : PA (X.suite a ((a, oe) :: pn)) [.Name n np, .Name cn cp] (tCons (tVar i) (tCons (tC v) tNil)) := pa_cons (pe_var hN hvs hd hcd) (pa_cons hcn pa_nil rfl) rfl
      rw [hcc] at hz hsub
      refine (pe_callB (call_isE EC hz hv) hg hm (show bootBuiltins "isinstance" = some (.builtin "isinstance") by decide +kernel) pa (by decide) (by decide) rfl rfl).run pins s σ _ Q I ?_
      exact ⟨_, e2, v, cc c, b, rfl, hv2, hsub b eb, q w _ (Le.refl w) at_.ok (.bl _)⟩
    · exact q.elim
  · exact q.elim
end
/-! ### methods of lists -/
def eqb (k : Bool) (v : Value) : Bool := match v with
  | .bool n => n == k
  | _ => false
theorem blsOf_ok {K : PySem.W.Frag} {w : Wd} : ∀ {ds : List D} {vs : List V} {bs : List Bool}, RDs K w ds vs → blsOf ds = some bs → vs = bs.map V.bl
  | [], _, _, .nil, e => by cases e; rfl
  | .bl b :: r, _, bs, .cons h t, e => by
    cases q : blsOf r with
    | none =>
      simp only [blsOf, q] at e
      cases e
    | some bs' =>
      simp only [blsOf, q, Option.map_some, Option.some.injEq] at e
      subst e
      cases h
      rw [blsOf_ok t q] <;> rfl
  | .non :: r, _, _, _, e => by simp [blsOf] at e
  | .int _ :: r, _, _, _, e => by simp [blsOf] at e
  | .str _ :: r, _, _, _, e => by simp [blsOf] at e
  | .tup _ :: r, _, _, _, e => by simp [blsOf] at e
  | .lst _ :: r, _, _, _, e => by simp [blsOf] at e
section
variable {X : Cx}
def rCntB (K : PySem.W.Frag) : V → List V → Hp → VK → Prop := fun x xs H Q => ∃ (p : Addr) (ns : List Bool) (k : Bool), x = .ref p ∧ xs = [.bl k] ∧ SqL K H p (ns.map V.bl) ∧ Q (.int (ns.count k : Nat)) H
theorem flat_bls : ∀ bs : List Bool, (bs.map V.bl).all flatV = true
  | [] => rfl
  | _ :: r => by
    show (true && (r.map V.bl).all flatV) = true
    rw [flat_bls r] <;> rfl
theorem cnt_b {k : Bool} : ∀ {ns : List Bool} {us : List Value}, Vals (ns.map V.bl) us → us.countP (eqU (.bl k)) = ns.count k
  | [], [], _ => rfl
  | b :: r, u :: us, .cons h t => by
    have ih := cnt_b (k := k) t
    cases h
    rw [List.countP_cons, List.count_cons, ih]
    cases b <;> cases k <;> rfl
theorem mt_countB : MtR X "list.count" (rCntB X.K) := by
  intro pins s σ H x xs v us Q I rx rxs h
  obtain ⟨p, ns, k, rfl, rfl, hs, q⟩ := h
  cases rx
  obtain ⟨u, rfl, ru⟩ := rxs.one
  obtain ⟨its, rv, ⟨⟨cls, dd, data, sl⟩, n, ho, hc, hdn, hd⟩, hlen⟩ := I.list hs
  simp only at hc hd
  subst hc hd
  refine call_meets PySem.F.slot_list_count ⟨_, ho, rfl⟩ PySem.F.entry_list_count (PySem.F.args_list_count_2 _ _)
    (SeqAt.list_countAt p its.toArray n dd sl u (eqU (.bl k))) ⟨ho, fun y hy => mem_eqAt ru rfl rv (flat_bls ns) y (by simpa using hy), ?_⟩
  have ec : its.toArray.toList.countP (eqU (.bl k)) = ns.count k := cnt_b rv
  refine ⟨.int (ns.count k : Nat), H, I.tok _, ⟨s.toks, ?_⟩, q⟩
  show Value.int ((its.toArray.toList.countP (eqU (.bl k)) : Nat) : Int) s.toks = Value.int ((ns.count k : Nat) : Int) s.toks
  rw [ec]
end
def meN : Me → Str
  | .index => "index"
  | .count => "count"
  | .join => "join"
  | .split => "split"
section
variable {X : Cx} {k : Ck} {C : Orc} {x : WN} {p : Pos}
theorem idx_le {b : Bool} : ∀ {bs : List Bool} (m : Nat) (h : m < bs.length), bs[m] = b → bs.idxOf b ≤ m
  | c :: r, 0, h, e => by
    have e : c = b := e
    rw [e, List.idxOf_cons_self]
    exact Nat.le_refl 0
  | c :: r, m + 1, h, e => by
    rw [List.idxOf_cons]
    cases q : (c == b) with
    | true => exact Nat.zero_le _
    | false =>
      have := idx_le (bs := r) m (by simpa using h) (by simpa using e)
      show r.idxOf b + 1 ≤ m + 1
      omega
theorem idx_b {bs : List Bool} {b : Bool} (h : bs.idxOf b < bs.length) : (bs.map V.bl)[bs.idxOf b]? = some (.bl b) ∧ ∀ (m : Nat) z, m < bs.idxOf b → (bs.map V.bl)[m]? = some z → eqV z (.bl b) = false := by
  refine ⟨?_, fun m z hm hz => ?_⟩
  · rw [List.getElem?_map, List.getElem?_eq_getElem h, List.getElem_idxOf h] <;> rfl
  · have hml : m < bs.length := by omega
    rw [List.getElem?_map, List.getElem?_eq_getElem hml] at hz
    obtain rfl := Option.some.inj hz
    have hne : bs[m] ≠ b := fun e => by
      have h2 : bs.idxOf b ≤ m := by
        exact idx_le m hml e
      omega
    show eqV (.bl bs[m]) (.bl b) = false
    cases hb : bs[m] <;> cases b <;> first | rfl | (exfalso; exact hne hb)
theorem x_meB {m : Me} {o e : E} {o' e' : Expr} {ap : Pos} (ho : PE X o' (tEv X.K k C o x)) (he : PE X e' (tEv X.K k C e x)) (hp : plainE e' = true) (hb : attributeBase o' (meN m) X.env (eval o' X.env) = eval o' X.env) (hl : (ap.endLine == p.line) = true) (hm : m = .count ∨ m = .index) :
    PE X (.Call (.Attribute o' (meN m) ap) [e'] [] p) (tEv X.K k C (.me m o [e]) x) := by
  refine ⟨fun pins s σ H Q I h => ?_⟩
  obtain ⟨w, ρ, st, rfl, at_, q⟩ := h
  simp only [evE] at q
  have hs := star_c (es := []) (env := X.env) hp
  have ha : PA X [e'] (tEvs X.K k C [e] x) := x_cons he x_nil hs
  have key : ∀ (m : Me) (Q2 : VK), (m = .count ∨ m = .index) → Post ((evE C o ρ st).bind fun x s1 => match x.get s1 with
    | some u0 => if recv m u0 then (evEs C [e] ρ s1).bind fun ws s2 => match x.get s2, gets ws s2 with
      | some u, some ds => ofO ((meD m u ds).map W.d) s2
      | _, _ => .stuck
      else .stuck
    | none => .stuck) (okV X.K k w Q) (exW X.K w fun c H => x c σ H) → tBM X.K "list" (fun x xs H Q => ∃ (p : Addr) (ns : List Bool) (b : Bool) (z : D), x = .ref p ∧ xs = [.bl b] ∧ SqL X.K H p (ns.map V.bl) ∧ (∃ l, blsOf l = some ns ∧ meD m (.lst l) [.bl b] = some z) ∧ ∀ r, (∀ w, RD X.K w z r) → Q r H) (tEv X.K k C o x) (tEvs X.K k C [e] x) σ w.H Q := by
    intro m Q2 hm q
    refine part at_ q fun w1 v1 x1 s1 l1 a1 r1 q1 => ?_
    split at q1
    · rename_i u0 e0
      split at q1
      · rename_i hr
        refine ⟨?_, ?_⟩
        · have g := r1.get a1.ok e0
          have hl : ∃ l, u0 = .lst l := by
            rcases hm with rfl | rfl <;> (cases u0 <;> first | exact ⟨_, rfl⟩ | cases hr)
          obtain ⟨l, rfl⟩ := hl
          obtain ⟨a, vs, rfl, h, _⟩ := g.lst_sq
          exact .inl ⟨rfl, vs, h⟩
        · refine parts a1 (exW.le' l1 q1) fun w2 v2 x2 s2 l2 a2 r2 q2 => ?_
          split at q2
          · rename_i u ds e1 e2
            obtain ⟨z, e3, q3⟩ := q2.ofO
            obtain ⟨y, e4, rfl⟩ := Option.map_eq_some_iff.mp e3
            have hz : ∃ l b bs, u = .lst l ∧ ds = [.bl b] ∧ blsOf l = some bs := by
              rcases hm with rfl | rfl
              · unfold meD at e4
                split at e4 <;> first | (cases e4; done) | skip
                · rename_i l b _ 
                  cases qb : blsOf l with
                  | none => rw [qb] at e4; cases e4
                  | some bs => exact ⟨l, b, bs, rfl, rfl, qb⟩
                · rename_i hh
                  cases hh
              · unfold meD at e4
                split at e4 <;> first | (cases e4; done) | skip
                · rename_i hh
                  cases hh
                · rename_i l b _
                  cases qb : blsOf l with
                  | none => rw [qb] at e4; cases e4
                  | some bs => exact ⟨l, b, bs, rfl, rfl, qb⟩
            obtain ⟨l, b, bs, rfl, rfl, eb⟩ := hz
            obtain ⟨a, vs, rfl, h, rr⟩ := ((r1.le l2).get a2.ok e1).lst_sq
            have g2 := r2.gets a2.ok e2
            cases g2 with
            | cons g t =>
              cases t
              have := g.blv
              subst this
              rw [blsOf_ok rr eb] at h
              exact ⟨a, bs, b, y, rfl, rfl, h, ⟨l, eb, e4⟩, fun r hr => q3 w2 r ((l1.trans l2)) a2.ok (hr _)⟩
          · exact q2.elim
      · exact q1.elim
    · exact q1.elim
  have kq := key m Q hm q
  rcases hm with rfl | rfl
  · have mt : MtR X "list.count" (fun y ys H Q => ∃ (p : Addr) (ns : List Bool) (b : Bool) (z : D), y = .ref p ∧ ys = [.bl b] ∧ SqL X.K H p (ns.map V.bl) ∧ (∃ l, blsOf l = some ns ∧ meD .count (.lst l) [.bl b] = some z) ∧ ∀ r, (∀ w, RD X.K w z r) → Q r H) := by
      intro pins s σ H y ys v us Q I rx rxs h
      obtain ⟨p, ns, b, z, rfl, rfl, hs, ⟨l, eb, ez⟩, q⟩ := h
      refine mt_countB pins s σ H _ _ v us Q I rx rxs ⟨p, ns, b, rfl, rfl, hs, q _ fun w => ?_⟩
      simp only [meD, eb, Option.map_some, Option.some.injEq] at ez
      subst ez
      exact .int _
    exact (pe_bm PySem.F.plainAttrs_list PySem.F.slot_list_count PySem.F.type_list_count mt ho ha hb (by rw [hs]; rfl) hl hs rfl).run pins s σ _ Q I kq
  · have mt : MtR X "list.index" (fun y ys H Q => ∃ (p : Addr) (ns : List Bool) (b : Bool) (z : D), y = .ref p ∧ ys = [.bl b] ∧ SqL X.K H p (ns.map V.bl) ∧ (∃ l, blsOf l = some ns ∧ meD .index (.lst l) [.bl b] = some z) ∧ ∀ r, (∀ w, RD X.K w z r) → Q r H) := by
      intro pins s σ H y ys v us Q I rx rxs h
      obtain ⟨p, ns, b, z, rfl, rfl, hs, ⟨l, eb, ez⟩, q⟩ := h
      simp only [meD, eb] at ez
      split at ez
      · rename_i hlt
        cases ez
        obtain ⟨h1, h2⟩ := idx_b hlt
        exact mt_index pins s σ H _ _ v us Q I rx rxs ⟨p, _, .bl b, ns.idxOf b, .bl b, rfl, rfl, hs, rfl, flat_bls ns, h1, by cases b <;> rfl, h2, q _ fun w => .int _⟩
      · cases ez
    exact (pe_bm PySem.F.plainAttrs_list PySem.F.slot_list_index PySem.F.type_list_index mt ho ha hb (by rw [hs]; rfl) hl hs rfl).run pins s σ _ Q I kq
end
end NC

set_option maxRecDepth 100000
/-! lambdas -/
namespace NC
open PySem PySem.Spec PyProof.Rows L2
/-! ### a table of code objects grows -/
def Wd.tbl (w : Wd) (P c' : Addr) (q : Str) (us : Array Value) : Wd := { w with H := upd (upd w.H P (.tbl us)) c' (LamX.CodeO c' q) }
section
variable {K : PySem.W.Frag} {w : Wd} {st : Sto} {P c' : Addr} {q : Str} {ps us : Array Value}
theorem tbl_ne (hP : w.H P = some (.tbl ps)) {a : Addr} {o : HO} (h : w.H a = some o) (n : ∀ us, o ≠ .tbl us) : a ≠ P := fun e => by
  rw [e, hP] at h
  exact n ps (Option.some.inj h).symm
theorem tbl_at (hP : w.H P = some (.tbl ps)) (hc : w.H c' = none) {a : Addr} {o : HO} (h : w.H a = some o) (n : ∀ us, o ≠ .tbl us) : (w.tbl P c' q us).H a = some o :=
  (upd_ne (ne_of_none h hc)).trans ((upd_ne (tbl_ne hP h n)).trans h)
theorem tbl_le (ok : OKS K w st) (hP : w.H P = some (.tbl ps)) (hc : w.H c' = none) : Le w (w.tbl P c' q us) where
  F := fun _ h => h
  h := fun a h => by
    obtain ⟨vs, e⟩ := ok.fz a h
    rw [e]
    exact tbl_at hP hc e fun _ z => nomatch z
  t := fun a xs h => tbl_at hP hc h fun _ z => nomatch z
  z := fun a o u h => tbl_at hP hc h fun _ z => nomatch z
  m := ⟨[], by simp [Wd.tbl], fun _ h => nomatch h⟩
  n := fun a h => by
    by_cases e : a = c'
    · rw [e]
      exact hc
    · have h1 : upd (upd w.H P (.tbl us)) c' (LamX.CodeO c' q) a = none := h
      rw [upd_ne e] at h1
      by_cases e2 : a = P
      · rw [e2, upd_same] at h1
        cases h1
      · rwa [upd_ne e2] at h1
  k := fun a o h _ n => tbl_at hP hc h n
  f := fun _ _ _ h => h
  tt := rfl
theorem tbl_ok (ok : OKS K w st) (hP : w.H P = some (.tbl ps)) (hc : w.H c' = none) (ht : LamX.Tabs w.T (w.tbl P c' q us).H) : OKS K (w.tbl P c' q us) st where
  len := ok.len
  inj := ok.inj
  tr := fun i a h => let ⟨vs, e⟩ := ok.tr i a h; ⟨vs, tbl_at hP hc e fun _ z => nomatch z⟩
  fz := fun a h => let ⟨vs, e⟩ := ok.fz a h; ⟨vs, tbl_at hP hc e fun _ z => nomatch z⟩
  cel := fun i a c h e => by
    have z := ok.cel i a c h e
    cases c with
    | dead => trivial
    | lst l =>
      obtain ⟨q1, vs, q2, q3⟩ := z
      exact ⟨q1, vs, tbl_at hP hc q2 (fun _ z => nomatch z), RDs.le (tbl_le ok hP hc).toLe0 q3⟩
  tab := ht
end
/-! ### a lambda is made -/
/-- its parameters: none, or one with a whole number -/
structure LamP (N : List Str) (scope : Scope) (params : Arguments) : Prop where
  ex : params = ⟨[], [], none, [], [], none, []⟩ ∨ ∃ (g : Arg) (i : Int) (kd : Nat) (p : Pos), params = ⟨[], [g], none, [], [], none, [.Constant (.int i) kd p]⟩ ∧ scope.names.lookup g.arg = some .local ∧ g.arg ∉ N
/-- no name of its own that is used -/
structure LamN (N : List Str) (sc scope : Scope) : Prop where
  kind : scope.kind = .function
  co : scope.isCoroutine = false
  gen : scope.isGenerator = false
  own : ∀ y ∈ scope.names, y.2 ≠ .cell ∧ (y.2 = .local → y.1 ∉ N)
  free : ∀ y ∈ scope.names, y.2 = .free → sc.names.lookup y.1 = some .cell ∨ sc.names.lookup y.1 = some .free
def FdIs (fd : FuncData) (q : Str) (params : Arguments) (body : Expr) (scope : Scope) (cl : List (Str × Addr)) (c' : Addr) : Prop := ∃ dV doc pm ctv, fd = PySem.W.kdv_fn "<lambda>" q params (.expr body) scope cl dV doc pm (.ref c') ctv
section
variable {X : Cx} {pins : List (Addr × Obj)} {σ : L2.St} {s : Shared} {w : Wd} {st : Sto}
theorem LamN.has {X : Cx} {N : List Str} {scope : Scope} (L : LamN N X.env.scope scope) (ok : X.Ok) : ∀ y ∈ scope.names, y.2 = .free → ∃ c, X.env.cells.lookup y.1 = some c := fun y hy e => by
  rcases L.free y hy e with k | k
  · exact ok.has _ (.inl k)
  · exact ok.has _ (.inr k)
/-- makeFunction behind the defaults -/
theorem mk_tail {c P : Addr} {q : Str} {params : Arguments} {body : Expr} {scope : Scope} {dV : Value} {pos : Pos} {E : Value → Shared → Prop} {Q : Value → Shared → Prop} (I : Inv X pins σ w.H s) (ok : OKS X.K w st) (TB : LamX.TabB X.base X.mg c P) (hcode : X.env.code = .ref c)
    (hm : (P, q) ∈ w.T) (hu : ∀ p ∈ w.T, p.1 = P → p.2 = q) (hfree : ∀ y ∈ scope.names, y.2 = .free → ∃ c, X.env.cells.lookup y.1 = some c)
    (h : ∀ (f c' : Addr) (fd : FuncData) (w' : Wd) (s' : Shared), Inv X pins σ w'.H s' → Le w w' → OKS X.K w' st → (∃ doc pm ctv, fd = PySem.W.kdv_fn "<lambda>" q params (.expr body) scope (cloFrom X.env.cells scope.names []) dV doc pm (.ref c') ctv) →
      s'.heap.get? f = some { cls := .type "function", data := .func fd } → w'.H f = none → f ∉ frs X.stack → w'.H c' = some (LamX.CodeO c' q) → c' ∉ w'.m → (∀ b o, s.heap.get? b = some o → w.H b = none → s'.heap.get? b = some o ∧ w'.H b = none) → Q (.ref f) s') :
    wpAny (model X.prog X.w) X.A (makeTail "<lambda>" q params (.expr body) scope X.env dV .none none pos pos.line) Q E s := by
  obtain ⟨ps, hP, ht, ha⟩ := ok.tab _ hm
  have hBu : s.heap.BuiltinsAt X.mg P := TB.bm.keeps I.bk
  have hPs : s.heap.get? P = some { cls := .none, data := .fields ps } := I.hok P _ hP
  have offFr : ∀ f, s.heap.objs.size ≤ f → f ∉ frs X.stack := fun f hf z => by
    cases List.mem_cons.mp (I.stkSub _ z) with
    | inl e =>
      have below := I.lt
      rw [← e] at below
      exact absurd below (Nat.not_lt.mpr hf)
    | inr e => exact I.nofs hf e
  have lts : ∀ {b o}, s.heap.get? b = some o → b < s.heap.objs.size := fun e => Heap.lt_size e
  cases hc : codeAmong pos ps.toList with
  | none =>
    refine PySem.W.kdv_makeTail (mg := X.mg) (c := c) (P := P) (ps := ps) (closure_ok hfree) I.ok.glob (I.mod.glob.keeps I.bk) hcode (TB.code.keeps I.bk) hPs ht hc TB.gP hBu fun c' ctv doc h' tk hx hge hlt hrec htb => ?_
    obtain ⟨cx, oc, vs, tk2, ex, hoc, hdat, hname⟩ := hrec
    cases ex
    have hsize : s.heap.objs.size ≤ h'.objs.size := Nat.le_trans hge (Nat.le_of_lt hlt)
    have nC : w.H c' = none := I.hok.fresh hge
    have I1 := LamX.inv_table (t' := tk) (more := #[rawInt pos.line, rawInt pos.col, .ref c']) (h' := h'.push (PySem.W.kdv_obj "<lambda>" q params (.expr body) scope (cloFrom X.env.cells scope.names []) dV doc ((X.mg "__name__").getD .none) c' ctv)) I hP
      (fun b o hb e => Heap.get?_push_of_some _ (hx b o hb e)) (Heap.get?_push_of_some _ htb) hge ⟨oc, vs, tk2, Heap.get?_push_of_some _ hoc, hdat, hname⟩
    have hApp : (ps ++ #[rawInt pos.line, rawInt pos.col, .ref c']).toList = ps.toList ++ [rawInt pos.line, rawInt pos.col, .ref c'] := by simp
    have hT : LamX.Tabs w.T (w.tbl P c' q (ps ++ #[rawInt pos.line, rawInt pos.col, .ref c'])).H := fun p hp => by
      have keepC : ∀ {c0 : Addr} {q0 : Str}, w.H c0 = some (LamX.CodeO c0 q0) → (w.tbl P c' q (ps ++ #[rawInt pos.line, rawInt pos.col, .ref c'])).H c0 = some (LamX.CodeO c0 q0) := fun e => tbl_at hP nC e LamX.codeO_ne
      by_cases hb : p.1 = P
      · rw [hu p hp hb, hb]
        refine ⟨_, (upd_ne (ne_of_none hP nC)).trans upd_same, by rw [hApp]; exact PySem.TriplesOk_snoc _ _ _ _ ht, fun p' cv hcv => ?_⟩
        rw [hApp] at hcv
        rcases LamX.among_app _ ht hcv with z | z
        · obtain ⟨cz, ez, hz⟩ := ha p' cv z
          exact ⟨cz, ez, keepC hz⟩
        · exact ⟨c', z, upd_same⟩
      · obtain ⟨ps', a1, a2, a3⟩ := ok.tab p hp
        refine ⟨ps', (upd_ne (ne_of_none a1 nC)).trans ((upd_ne hb).trans a1), a2, fun p' cv hcv => ?_⟩
        obtain ⟨cz, ez, hz⟩ := a3 p' cv hcv
        exact ⟨cz, ez, keepC hz⟩
    refine h h'.objs.size c' _ (w.tbl P c' q (ps ++ #[rawInt pos.line, rawInt pos.col, .ref c'])) _ I1 (tbl_le ok hP nC) (tbl_ok ok hP nC hT) ⟨doc, _, ctv, rfl⟩ (Heap.get?_push_size _ rfl) ?_ (offFr _ hsize) upd_same (fun z => ?_) fun b o e n => ?_
    · have ne1 : h'.objs.size ≠ c' := Nat.ne_of_gt hlt
      have ne2 : h'.objs.size ≠ P := Nat.ne_of_gt (Nat.lt_of_lt_of_le (Heap.lt_size hPs) hsize)
      show upd (upd w.H P _) c' _ _ = none
      rw [upd_ne ne1, upd_ne ne2]
      exact I.hok.fresh hsize
    · obtain ⟨i, hi⟩ := List.mem_iff_getElem?.mp z
      exact ok.trn i c' hi nC
    · have nb : b ≠ P := fun z => by
        rw [z, hP] at n
        cases n
      have nb2 : b ≠ c' := Nat.ne_of_lt (Nat.lt_of_lt_of_le (lts e) hge)
      refine ⟨Heap.get?_push_of_some _ (hx b o nb e), ?_⟩
      show upd (upd w.H P _) c' _ b = none
      rw [upd_ne nb2, upd_ne nb]
      exact n
  | some cv =>
    obtain ⟨c', e, hco⟩ := ha pos cv hc
    subst e
    refine PySem.W.kdv_makeTailHit (mg := X.mg) (c := c) (P := P) (ps := ps) (closure_ok hfree) I.ok.glob (I.mod.glob.keeps I.bk) hcode (TB.code.keeps I.bk) hPs ht hc hBu fun ctv doc h' tk hx hsize => ?_
    have I1 : Inv X pins σ w.H { s with heap := h'.push { cls := .type "function", data := .func (PySem.W.kdv_fn "<lambda>" q params (.expr body) scope (cloFrom X.env.cells scope.names []) dV doc ((X.mg "__name__").getD .none) (.ref c') ctv) }, toks := tk } := I.kept fun b o e => Heap.get?_push_of_some _ (hx b o e)
    refine h h'.objs.size c' _ w _ I1 (Le.refl w) ok ⟨doc, _, ctv, rfl⟩ (Heap.get?_push_size _ rfl) (I.hok.fresh hsize) (offFr _ hsize) hco (fun z => ?_) fun b o e n => ⟨Heap.get?_push_of_some _ (hx b o e), n⟩
    obtain ⟨i, hi⟩ := List.mem_iff_getElem?.mp z
    obtain ⟨vs, e⟩ := ok.tr i c' hi
    rw [hco] at e
    unfold LamX.CodeO at e
    cases e
end
end NC

set_option maxRecDepth 100000
/-! lambdas made and called -/
namespace NC
open PySem PySem.Spec PyProof.Rows L2
section
variable {X : Cx} {pins : List (Addr × Obj)} {σ : L2.St} {s : Shared} {w : Wd} {st : Sto}
/-- the names that a call of it binds -/
def LamB (N : List Str) (scope : Scope) (bs : List (Str × Value)) : Prop := ∀ y ∈ bs, scope.names.lookup y.1 = some .local ∧ y.1 ∉ N
theorem lam_mk {c P : Addr} {q : Str} {params : Arguments} {body : Expr} {scope : Scope} {pos : Pos} {E : Value → Shared → Prop} {Q : Value → Shared → Prop} (I : Inv X pins σ w.H s) (ok : OKS X.K w st) (TB : LamX.TabB X.base X.mg c P) (hcode : X.env.code = .ref c)
    (hq : q = X.env.qual ++ "<lambda>") (hm : (P, q) ∈ w.T) (hu : ∀ p ∈ w.T, p.1 = P → p.2 = q) (hfree : ∀ y ∈ scope.names, y.2 = .free → ∃ c, X.env.cells.lookup y.1 = some c) (hp : LamP X.N scope params)
    (h : ∀ (f c' : Addr) (fd : FuncData) (bs : List (Str × Value)) (w' : Wd) (s' : Shared), Inv X pins σ w'.H s' → Le w w' → OKS X.K w' st → FdIs fd q params body scope (cloFrom X.env.cells scope.names []) c' → LamB X.N scope bs →
      s'.heap.get? f = some { cls := .type "function", data := .func fd } → w'.H f = none → f ∉ frs X.stack → w'.H c' = some (LamX.CodeO c' q) → c' ∉ w'.m →
      (∀ s2 : Shared, (∀ b o, s'.heap.get? b = some o → w'.H b = none → b ∉ frs X.stack → s2.heap.get? b = some o) → BindsTo s2 fd ⟨[], []⟩ bs) → Q (.ref f) s') :
    wpAny (model X.prog X.w) X.A (eval (.Lambda params body scope pos) X.env) Q E s := by
  subst hq
  rcases hp.ex with e | ⟨g, i, kd, p, e, hl, hn⟩
  · subst e
    refine PySem.W.kla_eval rfl ?_
    rw [makeFunction_eq]
    simp only [List.zip_nil_right, List.filterMap_nil, List.isEmpty_nil, if_true, pure_bind]
    refine mk_tail I ok TB hcode hm hu hfree fun f c' fd w' s' I' l' ok' ⟨doc, pm, ctv, hfd⟩ hf hfn hfr hc hcm hk => ?_
    refine h f c' fd [] w' s' I' l' ok' ⟨_, doc, pm, ctv, hfd⟩ (fun _ hy => nomatch hy) hf hfn hfr hc hcm fun s2 _ => ?_
    subst hfd
    exact .of_eq rfl
  · subst e
    refine PySem.W.kdv_lam rfl rfl ?_
    refine PySem.W.kdv_all1 (wpAny_Constant_int (PySem.W.kdv_all0 ?_))
    rw [makeFunction_eq]
    simp only [List.zip_nil_right, List.filterMap_nil, List.isEmpty_nil, List.isEmpty_cons, if_true, pure_bind, Bool.false_eq_true, if_false]
    refine wpAny_bind (wpAny_newTextTuple ?_)
    have I1 : Inv X pins σ w.H { s with heap := s.heap.push { cls := .type "tuple", data := .seq [Value.int i s.toks].toArray }, toks := s.toks + 1 } := I.kept fun b o e => Heap.get?_push_of_some _ e
    have hT0 : (s.heap.push { cls := .type "tuple", data := .seq [Value.int i s.toks].toArray }).get? s.heap.objs.size = some { cls := .type "tuple", data := .seq [Value.int i s.toks].toArray } := Heap.get?_push_size _ rfl
    have nT0 : w.H s.heap.objs.size = none := I.hok.fresh (Nat.le_refl _)
    have fT0 : s.heap.objs.size ∉ frs X.stack := fun z => by
      rcases List.mem_cons.mp (I.stkSub _ z) with e | e
      · have h1 := I.lt
        rw [← e] at h1
        exact Nat.lt_irrefl _ h1
      · exact I.nofs (Nat.le_refl _) e
    refine mk_tail I1 ok TB hcode hm hu hfree fun f c' fd w' s' I' l' ok' ⟨doc, pm, ctv, hfd⟩ hf hfn hfr hc hcm hk => ?_
    refine h f c' fd [(g.arg, Value.int i s.toks)] w' s' I' l' ok' ⟨_, doc, pm, ctv, hfd⟩ (fun y hy => by
      rw [List.mem_singleton.mp hy]
      exact ⟨hl, hn⟩) hf hfn hfr hc hcm fun s2 hs2 => ?_
    subst hfd
    obtain ⟨k1, k2⟩ := hk _ _ hT0 nT0
    have hT2 := hs2 _ _ k1 k2 fT0
    refine BindsTo.of_defaults rfl hT2 rfl rfl ?_
    simp
end
/-! ### the call -/
section
variable {X : Cx} {pins : List (Addr × Obj)} {σ : L2.St} {H HZ : Hp} {s s1 : Shared}
/-- a cell that the lambda sees is one that its maker sees -/
theorem clo_up {scope : Scope} (L : LamN X.N X.env.scope scope) (ok : X.Ok) {y : Str} {c : Addr} (e : (cloFrom X.env.cells scope.names []).lookup y = some c) : X.env.cells.lookup y = some c := by
  cases cloFrom_mem (PySem.mem_of_lookup e) with
  | inl z => cases z
  | inr z =>
    obtain ⟨d, hd⟩ := L.has ok _ z.1 rfl
    have hd' : X.env.cells.lookup y = some d := hd
    have ed : c = d := by
      rw [z.2, hd'] <;> rfl
    rw [ed]
    exact hd'
theorem clo_has {scope : Scope} {y : Str} (hl : scope.names.lookup y = some .free) : ∃ c, (cloFrom X.env.cells scope.names []).lookup y = some c :=
  mem_lookup (cloFrom_has (acc := []) (PySem.mem_of_lookup hl))
theorem lam_ok {A : Around} {outer : List PySem.Env} {E : XK} {scope : Scope} {f c' : Addr} (ok : X.Ok) (L : LamN X.N X.env.scope scope) (e0 : Env0 X.prog X.w X.K X.mg X.base A outer s1 HZ) (hd : A.handled = none) : (LamX.lamCx X A outer s1 HZ E scope f c').Ok where
  mod := e0.mod
  kind := L.kind
  glob := rfl
  blt := rfl
  above := Nat.le_refl _
  inj := fun y z c a b => ok.inj y z c (clo_up L ok a) (clo_up L ok b)
  has := fun y hy => by
    have hy' : scope.names.lookup y = some .cell ∨ scope.names.lookup y = some .free := hy
    cases hy' with
    | inl q => exact absurd rfl (L.own (y, _) (PySem.mem_of_lookup q)).1
    | inr q => exact clo_has q
  cab := fun _ _ z => nomatch (show false = true from z)
  hd := fun _ => hd
  frames := Around.frames_deeper e0.frames
  stk := .inr ⟨rfl, rfl⟩
  exf := fun b z => nomatch (show b ∈ ([] : List Addr) from z)
  bs := e0.bs
  bsz := e0.bsz
  noex := fun b _ _ z => nomatch (show b ∈ ([] : List Addr) from z)
  exfs := fun b z => nomatch (show b ∈ ([] : List Addr) from z)
  funs := e0.funs
  frf := e0.frf
theorem lam_start3 {A : Around} {outer : List PySem.Env} {E : XK} {scope : Scope} {f c' : Addr} {g1 : Heap} {tk : Nat} {bs : List (Str × Value)} (I : Inv X pins σ H s) (L : LamN X.N X.env.scope scope) (hbs : LamB X.N scope bs) (e0 : Env0 X.prog X.w X.K X.mg X.base A outer s1 HZ) (hd : A.handled = none)
    (un : Un (frs X.stack) [] H HZ s.heap s1.heap) (hns : g1.Ns s1.heap.objs.size fun y => bs.reverse.lookup y) (up : ∀ b o, s1.heap.get? b = some o → g1.get? b = some o) :
    Inv (LamX.lamCx X A outer s1 HZ E scope f c') [] σ HZ { s1 with heap := g1, toks := tk } := by
  -- the maker's cells stand as they stood
  have same : ∀ {c : Addr} {v : Option Value}, H c = none → s.heap.IsCell c v → g1.IsCell c v := by
    intro c v n hc
    obtain ⟨o, ho, hdat⟩ := hc
    obtain ⟨sl, hs⟩ := un.any ho n (fun z => nomatch z)
    exact ⟨_, up _ _ hs, hdat⟩
  constructor
  case ok => exact lam_ok I.ok L e0 hd
  case os => rfl
  case bare => exact e0.bare
  case base => exact Un.kept up
  case free => exact e0.hok.fresh (Nat.le_refl _)
  case pin => exact fun q hq => nomatch (show q ∈ ([] : List (Addr × Obj)) from hq)
  case hok => exact e0.hok.kept up
  case len => exact I.len
  case cell =>
    intro y c e
    have e' := clo_up L I.ok e
    obtain ⟨v, hv⟩ := I.cell y c e'
    exact ⟨v, same (I.freeC y c e') hv⟩
  case freeC =>
    intro y c e
    have e' := clo_up L I.ok e
    obtain ⟨v, o, ho, _⟩ := I.cell y c e'
    exact un.free c o ho (I.freeC y c e') (fun z => nomatch z)
  case loc =>
    refine ⟨_, hns, fun i y v hN hσ hvis => ?_⟩
    have hin : y ∈ X.N := List.mem_of_getElem? hN
    have hvis' : Vis scope y := hvis
    obtain hk | hk | hk := hvis'
    · exact absurd hin ((L.own (y, _) (PySem.mem_of_lookup hk)).2 rfl)
    · exact absurd rfl (L.own (y, _) (PySem.mem_of_lookup hk)).1
    · have hfree := L.free (y, _) (PySem.mem_of_lookup hk) rfl
      obtain ⟨m0, _, hloc⟩ := I.loc
      obtain ⟨u, ru, hlook⟩ := hloc i y v hN hσ (hfree.elim (fun q => .inr (.inl q)) fun q => .inr (.inr q))
      obtain ⟨d, hd2⟩ := clo_has (X := X) hk
      have hd3 := clo_up L I.ok hd2
      refine ⟨u, ru, .inr ⟨.inr hk, d, hd2, ?_⟩⟩
      cases hlook with
      | inl q =>
        have q1 : X.env.scope.names.lookup y = some .local := q.1
        have hfree' : X.env.scope.names.lookup y = some .cell ∨ X.env.scope.names.lookup y = some .free := hfree
        rw [q1] at hfree'
        cases hfree' <;> rename_i z <;> cases z
      | inr q =>
        obtain ⟨_, d2, e2, hcell⟩ := q
        have e3 : d = d2 := Option.some.inj (hd3.symm.trans e2)
        subst e3
        exact same (I.freeC y d hd3) hcell
/-- what the lambda stands for in the def that got it -/
def kLam (K : PySem.W.Frag) (k : Ck) (e : E) (ρ : Rho) (σ : L2.St) (f c' : Addr) (q : Str) : Ck where
  cl := fun w e' ρ' v => e' = e ∧ ρ' = ρ ∧ v = .ref f ∧ RE K k w ρ σ ∧ w.H c' = some (LamX.CodeO c' q) ∧ c' ∉ w.m
  xn := fun _ _ => False
  T := k.T
  mono := fun w w' e' ρ' v l ⟨h1, h2, h3, h4, h5, h6⟩ => ⟨h1, h2, h3, h4.le l, l.k _ _ h5 h6 LamX.codeO_ne, l.out (by rw [h5]; exact fun z => nomatch z) h6⟩
theorem lam_act {Ng : List Str} {qg : Str} {sg : Scope} {g f c' : Addr} {cdg : Value} {params : Arguments} {body : Expr} {scope : Scope} {lv i : Nat} {a q : Str} {fd : FuncData} {bs : List (Str × Value)} {pn : List (Addr × Obj)} {xe : Value → Shared → Prop} {Eg : XK} {cc : Nat → Value} {y : WN} {p1 p2 : Pos}
    {k : Ck} {C Cb : Orc} {e : E} {ρ : Rho} (I : Inv X pins σ H s) (hq : q = X.env.qual ++ "<lambda>") (L : LamN X.N X.env.scope scope) (hbs : LamB X.N scope bs) (hfd : FdIs fd q params body scope (cloFrom X.env.cells scope.names []) c') (hf : s.heap.get? f = some { cls := .type "function", data := .func fd }) (hfn : H f = none) (hfr : f ∉ frs X.stack)
    (hbind : ∀ s2 : Shared, (∀ b o, s.heap.get? b = some o → H b = none → b ∉ frs X.stack → s2.heap.get? b = some o) → BindsTo s2 fd ⟨[], []⟩ bs) (hC : ∀ e ρ st, C.cl e ρ st = evE Cb e ρ st)
    (tk : Takes ((cxOf (L2.CX X.prog X.w) X.prog X.w X.K X.mg X.base Ng qg sg g cdg X.A X.stack s H Eg).tr pn xe) (wOf cc y)) (hr : Room (lv + 1) (X.A.deeper (envOfC qg sg s.heap.objs.size g cdg)))
    (hbody : ∀ (A : Around) (outer : List PySem.Env) (s : Shared) (H : Hp) (E : XK) (x : WN), A.guards = X.A.guards → Room lv (A.deeper (LamX.lamEnv X scope s.heap.objs.size f c')) → Takes (LamX.lamCx X A outer s H E scope f c') (wOf cc x) → PE (LamX.lamCx X A outer s H E scope f c') body (tEv X.K k Cb e x))
    (hN : Ng[i]? = some a) (hv : Vis sg a) (hd : (a == ("__debug__" : Str)) = false) (hcd : (a == ("__classdict__" : Str)) = false) :
    PE ((cxOf (L2.CX X.prog X.w) X.prog X.w X.K X.mg X.base Ng qg sg g cdg X.A X.stack s H Eg).tr pn xe) (.Call (.Name a p1) [] [] p2) (tEv X.K (kLam X.K k e ρ σ f c' q) C (.callv i) y) := by
  subst hq
  obtain ⟨dV, doc, pm, ctv, rfl⟩ := hfd
  refine ⟨fun pinsZ sZ σZ HZ Q IZ h => ?_⟩
  obtain ⟨w, ρZ, st, rfl, at_, post⟩ := h
  simp only [evE] at post
  split at post
  case h_2 => exact post.elim
  rename_i e0 ρ0 er
  obtain ⟨v0, es, ⟨rfl, rfl, rfl, re, hco, hcm⟩⟩ := at_.re.at_ _ _ er
  refine wpAny_Call_Name_kw (thn ((pe_var (pos := p1) (i := i) hN hv hd hcd).run pinsZ sZ σZ w.H (fun v H1 => v = .ref f ∧ H1 = w.H) IZ ⟨.ref f, es, rfl, rfl⟩) fun u s1 ⟨v, H1, I1, r1, q1⟩ => ?_)
  obtain ⟨ev, eH⟩ := q1
  subst ev
  rw [eH] at I1
  obtain rfl : u = Value.ref f := r1
  have of1 := I1.base.keep f _ hf hfn hfr (fun z => nomatch (show f ∈ ([] : List Addr) from z))
  refine PySem.W.callWith_F0 ⟨_, _, _, _, of1⟩ ?_
  have un : Un (frs X.stack) [] H w.H s.heap s1.heap := I1.base
  obtain ⟨⟨oc, vs, t, hoc, hdc, hvc⟩, _, _⟩ := I1.hok c' _ hco
  have bd := hbind s1 fun b o e1 e2 e3 => un.keep b o e1 e2 e3 (fun z => nomatch (show b ∈ ([] : List Addr) from z))
  have rc : codeAny (model X.prog X.w) (X.A.deeper (envOfC qg sg s.heap.objs.size g cdg)) (.call (.ref f) ⟨[], []⟩) (CR (L2.CX X.prog X.w) (envOfC qg sg s.heap.objs.size g cdg :: X.stack) X.prog X.w w.H s1 Q (WE (wOf cc y) σZ)) s1 := by
    refine PySem.W.kla_callFunE hr.depth of1 rfl L.co L.gen rfl ⟨c', oc, vs, t, rfl, hoc, hdc, hvc⟩ ?_
    refine bd _ _ _ _ (wpAny_newFunctionEnv (fun y hy => (L.own y hy).1) (fun y hy => (hbs y hy).1) (fun h₁ hns hsb => ⟨I1.nolimit.fresh _ hsb, ?_⟩) L.kind)
    show codeAny _ _ (.expr body (LamX.lamEnv X scope s1.heap.objs.size f c')) _ _
    have kp : ∀ b o, s1.heap.get? b = some o → h₁.get? b = some o := fun b o e => hsb.extBut b o (Nat.ne_of_lt (Heap.lt_size e)) (Heap.get?_push_of_some _ e)
    have J : Inv (LamX.lamCx X (X.A.deeper (envOfC qg sg s.heap.objs.size g cdg)) (envOfC qg sg s.heap.objs.size g cdg :: X.stack) s1 w.H (WE (wOf cc y) σZ) scope f c') [] σ w.H { s1 with heap := h₁, toks := s1.toks + bs.length } :=
      lam_start3 I L hbs I1.env0 hr.hd un hns kp
    have tk2 : Takes (LamX.lamCx X (X.A.deeper (envOfC qg sg s.heap.objs.size g cdg)) (envOfC qg sg s.heap.objs.size g cdg :: X.stack) s1 w.H (WE (wOf cc y) σZ) scope f c') (wOf cc fun c _ H => y c σZ H) := by
      refine (takes_of (E := WE (wOf cc y) σZ) rfl rfl rfl rfl).imp fun cls d σ H h => ?_
      exact h
    have hpost : Post (evE Cb e0 ρ0 st) (okV X.K k w Q) (exW X.K w fun c H => y c σZ H) := by
      rw [hC] at post
      refine (Post.bind post).imp (fun z st1 hz => ?_) fun _ _ z => z
      split at hz
      · rename_i hpl
        exact fun w2 v2 l2 ok2 r2 => hz w2 v2 l2 ok2 ((r2.pl (T := k.T) hpl).wk)
      · exact hz.elim
    have hb := (hbody (X.A.deeper (envOfC qg sg s.heap.objs.size g cdg)) (envOfC qg sg s.heap.objs.size g cdg :: X.stack) s1 w.H (WE (wOf cc y) σZ) (fun c _ H => y c σZ H) rfl (hr.deeper _) tk2).run [] _ _ w.H Q J ⟨w, ρ0, st, rfl, ⟨at_.ok, re⟩, hpost⟩
    exact PySem.W.kla_codeExpr (wpAny_mono hb (fun v s' hq => by
        obtain ⟨w', H', J', rv, q⟩ := hq
        exact ⟨w', H', J'.os, J'.bare, J'.base, J'.hok, rv, q⟩) fun e s' hq => hq)
  have hx : PassesAt (L2.CX X.prog X.w) ((cxOf (L2.CX X.prog X.w) X.prog X.w X.K X.mg X.base Ng qg sg g cdg X.A X.stack s H Eg).tr pn xe) σZ (WE (wOf cc y) σZ) := passAt tk σZ
  refine wpAny_call (codeAny_mono rc fun r s' hq => ?_)
  cases r with
  | error e => exact hx pinsZ w.H s1 e s' I1 hq
  | ok fl =>
    cases fl with
    | ret u => exact I1.after hq
    | next => exact False.elim hq
    | brk => exact False.elim hq
    | cont => exact False.elim hq
end
end NC

set_option maxRecDepth 100000
/-! the end of a def; a def that gets a lambda -/
namespace NC
open PySem PySem.Spec PyProof.Rows L2
section
variable {K : PySem.W.Frag} {k k2 : Ck} {w w' : Wd} {st st' : Sto}
theorem take_get {α : Type} {l : List α} {n i : Nat} {a : α} (h : (l.take n)[i]? = some a) : l[i]? = some a ∧ i < n := by
  rw [List.getElem?_take] at h
  split at h
  · exact ⟨h, by assumption⟩
  · cases h
/-- the store is as long as at first -/
theorem trunc {n : Nat} (l : Le w w') (ok : OKS K w' st') (hn : w.m.length = n) : ∃ w2, w2.H = w'.H ∧ Le w w2 ∧ OKS K w2 (st'.take n) ∧ Le0 w' w2 ∧ w2.m = w.m ∧ w2.m = w'.m.take n := by
  obtain ⟨q, e, f⟩ := l.m
  have em : w'.m.take n = w.m := by
    rw [e, ← hn, List.take_left']
    rfl
  refine ⟨{ w' with m := w.m }, rfl, ⟨⟨l.F, l.h, l.t, l.z⟩, ⟨[], by simp, fun _ h => nomatch h⟩, l.n, l.k, l.f, l.tt⟩, ?_, ⟨fun _ h => h, fun _ _ => rfl, fun _ _ h => h, fun _ _ _ h => h⟩, rfl, em.symm⟩
  have up : ∀ {i : Nat} {a : Addr}, w.m[i]? = some a → w'.m[i]? = some a ∧ i < n := fun {i a} h => by
    rw [← em] at h
    exact take_get h
  refine ⟨?_, fun i j a h1 h2 => ok.inj i j a (up h1).1 (up h2).1, fun i a h => ok.tr i a (up h).1, ok.fz, fun i a c h e => ?_, ok.tab⟩
  · show w.m.length = (st'.take n).length
    have h1 : w.m.length ≤ w'.m.length := by rw [e, List.length_append]; omega
    rw [List.length_take, ← ok.len]
    omega
  · have z := ok.cel i a c (up h).1 (take_get e).1
    cases c with
    | dead => trivial
    | lst l =>
      obtain ⟨q1, vs, q2, q3⟩ := z
      exact ⟨q1, vs, q2, RDs.le (w := w') (w' := { w' with m := w.m }) ⟨fun _ h => h, fun _ _ => rfl, fun _ _ h => h, fun _ _ _ h => h⟩ q3⟩
theorem fin_post {o : OutS} {Q : VK} {x : Nat → Hp → Prop} {n : Nat} (hn : w.m.length = n) (h : Post (finF n o) (okV K k2 w Q) (exW K w x)) : PostS K k w o { nx := fun _ H' => Q .non H', rt := Q } fun c _ H => x c H := by
  cases o with
  | stuck => exact h.elim
  | exc c ρ st =>
    intro w1 σ1 l1 a1
    obtain ⟨w2, e2, l2, ok2, _⟩ := trunc l1 a1.ok hn
    rw [← e2]
    exact h w2 l2 ok2
  | ok f ρ st =>
    cases f with
    | nx =>
      intro w1 σ1 l1 a1
      obtain ⟨w2, e2, l2, ok2, _⟩ := trunc l1 a1.ok hn
      show Q .non w1.H
      rw [← e2]
      exact h w2 _ l2 ok2 .non
    | bk => exact h.elim
    | ct => exact h.elim
    | rt y =>
      intro w1 v l1 ok1 r1
      simp only [finF] at h
      split at h
      · rename_i ho
        obtain ⟨w2, e2, l2, ok2, z2, em, _⟩ := trunc l1 ok1 hn
        show Q v w1.H
        rw [← e2]
        refine h w2 v l2 ok2 ?_
        cases y with
        | d y => exact RD.le z2 r1
        | loc j =>
          obtain ⟨a, h1, h2⟩ := r1
          refine ⟨a, ?_, h2⟩
          obtain ⟨q, e, _⟩ := l1.m
          have hj : j < w.m.length := by
            rw [hn]
            exact of_decide_eq_true ho
          rw [em, ← h1, e, List.getElem?_append_left hj]
        | clo _ _ => cases ho
        | exn _ => cases ho
        | scr _ => cases ho
      · split at h
        · rename_i hp
          exact h w1 v l1 ok1 ((r1.pl (T := k2.T) hp).wk)
        · exact h.elim
/-- the slots at first -/
theorem re_start {N : List Str} {ws : List W} {vs : List V} (h : RWs K k w ws vs) (hl : vs.length ≤ N.length) (ht : w.T = k.T) : RE K k w (start N.length ws) (L2.start N vs) := by
  have hlen := h.length
  have get : ∀ {ws : List W} {vs : List V}, RWs K k w ws vs → ∀ (i : Nat) y, ws[i]? = some y → ∃ v, vs[i]? = some v ∧ RW K k w y v := by
    intro ws vs h
    induction h with
    | nil => intro i y e; cases i <;> cases e
    | cons r t ih =>
      intro i y e
      cases i with
      | zero =>
        cases e
        exact ⟨_, rfl, r⟩
      | succ i => exact ih i y e
  refine ⟨?_, fun i y e => ?_, ht⟩
  · show (ws.map some ++ List.replicate (N.length - ws.length) none).length = (L2.start N vs).length
    unfold L2.start
    simp [hlen]
  · unfold start at e
    by_cases hi : i < ws.length
    · rw [List.getElem?_append_left (by simpa using hi), List.getElem?_map] at e
      obtain ⟨y', e1, e2⟩ := Option.map_eq_some_iff.mp e
      cases e2
      obtain ⟨v, e3, r⟩ := get h i y e1
      refine ⟨v, ?_, r⟩
      unfold L2.start
      rw [List.getElem?_append_left (by simpa [← hlen] using hi), List.getElem?_map, e3]
      rfl
    · rw [List.getElem?_append_right (by simpa using hi)] at e
      have := List.mem_of_getElem? e
      have := (List.mem_replicate.mp this).2
      cases this
end
section
variable {P : Program} {w0 : World} {K : PySem.W.Frag} {mg : Str → Option Value} {base : Heap} {T : List (Addr × Str)} {C C' : Orc} {cc : Nat → Value}
/-- a def by its body's soundness -/
theorem fn_sound {lv f : Nat} {name : Str} {st : Stmt} {a : Addr} {fd : FuncData} {N ps : List Str} {b : List S} (F : L2.Fun K name name st a fd) (S : FnScope N ps (defScope st)) (hps : ps.length ≤ N.length)
    (hC : ∀ ws s, C.fn f ws s = if ws.length = ps.length then finF s.length (evSs C' b (start N.length ws) s) else .stuck)
    (hbody : ∀ (cdv : Value) (A : Around) (outer : List PySem.Env) (s : Shared) (H : Hp) (E : XK) (x : WN), A.guards = some [] → Room lv (A.deeper (envOfC name (defScope st) s.heap.objs.size a cdv)) → fd.code = cdv → Takes (cxOf (L2.CX P w0) P w0 K mg base N name (defScope st) a cdv A outer s H E) (wOf cc x) →
      PSs (cxOf (L2.CX P w0) P w0 K mg base N name (defScope st) a cdv A outer s H E) (defBody st) (tSs K (noCk T) C' b x)) : FnG P w0 K mg base (lv + 1) a fd ps (spF K T C cc f) := by
  have len : ∀ vs H Q E, spF K T C cc f vs H Q E → vs.length = ps.length := fun vs H Q E h => by
    obtain ⟨w, ws, s, _, _, _, r, q⟩ := h
    rw [hC] at q
    split at q
    · rename_i e
      rw [← r.length, e]
    · exact q.elim
  refine fnG_of F S len fun cdv A outer s H vs Q E hcd hgd hr hsp => ⟨_, hbody cdv A outer s H E (fun c _ H => E (cc c) none H) hgd hr hcd ?_, ?_⟩
  · exact (takes_of (E := E) rfl rfl rfl rfl).imp fun cls d σ H h => by
      obtain ⟨c, rfl, rfl, h⟩ := h
      exact h
  · obtain ⟨w, ws, s1, rfl, ht, ok, r, q⟩ := hsp
    rw [hC] at q
    split at q
    · rename_i e
      refine ⟨w, _, s1, rfl, ⟨ok, re_start r (by rw [← r.length, e]; exact hps) ht⟩, ?_⟩
      exact fin_post ok.len q
    · exact q.elim
end
end NC

set_option maxRecDepth 100000
/-! a def that gets a lambda -/
namespace NC
open PySem PySem.Spec PyProof.Rows L2
section
variable {X : Cx} {k : Ck} {C C' Cb : Orc} {x : WN} {p : Pos}
theorem x_lcall {lv f : Nat} {g pa q : Str} {stG : Stmt} {ga c P : Addr} {fdG : FuncData} {Ng : List Str} {bG : List S} {e : E} {cc : Nat → Value} {params : Arguments} {body : Expr} {scope : Scope} {lpos p1 : Pos} (F : L2.Fun X.K g g stG ga fdG) (Sg : FnScope Ng [pa] (defScope stG)) (hNl : 1 ≤ Ng.length) (hb : Binds X.K fdG [pa] [])
    (hg : Gl X g) (hm : X.mg g = some (.ref ga)) (hdb : (g == ("__debug__" : Str)) = false) (hfn : ∀ e ρ st, C.fn f [.clo e ρ] st = finF st.length (evSs C' bG (start Ng.length [.clo e ρ]) st)) (hC' : ∀ e ρ st, C'.cl e ρ st = evE Cb e ρ st)
    (hgd : X.A.guards = some []) (hr : Room (lv + 2) X.A) (TB : LamX.TabB X.base X.mg c P) (hcode : X.env.code = .ref c) (hq : q = X.env.qual ++ "<lambda>") (hmT : (P, q) ∈ k.T) (hu : ∀ p ∈ k.T, p.1 = P → p.2 = q) (L : LamN X.N X.env.scope scope) (hp : LamP X.N scope params) (tk : Takes X (wOf cc x))
    (hN0 : Ng[0]? = some pa) (hv0 : Vis (defScope stG) pa) (hd0 : (pa == ("__debug__" : Str)) = false) (hcd0 : (pa == ("__classdict__" : Str)) = false)
    (hbody : ∀ (A : Around) (outer : List PySem.Env) (s : Shared) (H : Hp) (E : XK) (f c' : Addr) (x : WN), A.guards = some [] → Room lv (A.deeper (LamX.lamEnv X scope s.heap.objs.size f c')) → Takes (LamX.lamCx X A outer s H E scope f c') (wOf cc x) → PE (LamX.lamCx X A outer s H E scope f c') body (tEv X.K k Cb e x))
    (hG : ∀ (cdv : Value) (f c' : Addr) (ρ : Rho) (σ : L2.St) (s : Shared) (H : Hp) (E : XK) (y : WN), fdG.code = cdv → Room (lv + 1) (X.A.deeper (envOfC g (defScope stG) s.heap.objs.size ga cdv)) →
      Takes (cxOf (L2.CX X.prog X.w) X.prog X.w X.K X.mg X.base Ng g (defScope stG) ga cdv X.A X.stack s H E) (wOf cc y) →
      (∀ (y' : WN) (pn : List (Addr × Obj)) (xe : Value → Shared → Prop) (p1 p2 : Pos), Takes ((cxOf (L2.CX X.prog X.w) X.prog X.w X.K X.mg X.base Ng g (defScope stG) ga cdv X.A X.stack s H E).tr pn xe) (wOf cc y') →
        PE ((cxOf (L2.CX X.prog X.w) X.prog X.w X.K X.mg X.base Ng g (defScope stG) ga cdv X.A X.stack s H E).tr pn xe) (.Call (.Name pa p1) [] [] p2) (tEv X.K (kLam X.K k e ρ σ f c' q) C' (.callv 0) y')) →
      PSs (cxOf (L2.CX X.prog X.w) X.prog X.w X.K X.mg X.base Ng g (defScope stG) ga cdv X.A X.stack s H E) (defBody stG) (tSs X.K (kLam X.K k e ρ σ f c' q) C' bG y)) :
    PE X (.Call (.Name g p1) [.Lambda params body scope lpos] [] p) (tEv X.K k C (.lcall f e) x) := by
  refine ⟨fun pins s σ H Q I h => ?_⟩
  obtain ⟨w, ρ, st, rfl, at_, post⟩ := h
  simp only [evE] at post
  split at post
  case isFalse => exact post.elim
  rw [hfn] at post
  refine wpAny_Call_Name_kw (ld_glob I hg hm ?_ hdb)
  refine PySem.W.callWith_K (h₀ := X.base) I.ok.mod.kin F.kp ?_ (by rfl) (by rfl)
  show wpAny _ _ (spliced ((false, eval (.Lambda params body scope lpos) X.env) :: backTo p (starEach [] X.env))) _ _ s
  refine Calls.spliced_cons (lam_mk (q := q) I at_.ok TB hcode hq (by rw [at_.re.tt]; exact hmT) (by rw [at_.re.tt]; exact hu) (L.has I.ok) hp fun f' c' fd bs w' s' I' l' ok' hfd hbs hf hfn' hfr hco hcm hbind => ?_)
  refine Calls.spliced_nil ⟨I'.kIn, ?_⟩
  have F0 := F
  obtain ⟨⟨oc, od, kV, doc, pm, an, cdv, ct, osl, hfdG, lk, hcd⟩, kp⟩ := F
  subst hfdG
  have rc : codeAny (model X.prog X.w) X.A (.call (.ref ga) ⟨[.ref f'], []⟩) (CR (L2.CX X.prog X.w) X.stack X.prog X.w w'.H s' Q (WE (wOf cc x) σ)) s' := by
    refine LamX.run_ofS (k := lv + 1) (N := Ng) (ps := [pa]) (us := [.ref f']) (vs := [.ref f']) lk hcd Sg hr I'.env0 (hb s' [.ref f'] I'.kIn rfl) (.cons rfl .nil) rfl fun hr' => ?_
    refine ⟨_, hG cdv f' c' ρ σ s' w'.H (WE (wOf cc x) σ) (fun c _ H => x c σ H) rfl hr' ?_ ?_, w', start Ng.length [.clo e ρ], st, rfl, ⟨ok', ?_⟩, ?_⟩
    · exact (takes_of (E := WE (wOf cc x) σ) rfl rfl rfl rfl).imp fun cls d σ H h => h
    · intro y' pn xe p1 p2 tk'
      exact lam_act (lv := lv) (i := 0) (pn := pn) (xe := xe) I' hq L hbs hfd hf hfn' hfr hbind hC' tk' hr' (fun A outer s H E x hg2 hr2 tk2 => hbody A outer s H E f' c' x (hg2.trans hgd) hr2 tk2) hN0 hv0 hd0 hcd0
    · refine re_start (.cons ?_ .nil) (by simpa using hNl) (l'.tt.trans at_.re.tt)
      exact ⟨rfl, rfl, rfl, at_.re.le l', hco, hcm⟩
    · refine fin_post (k2 := k) ok'.len ?_
      exact post.imp (fun y s1 h => okV.le l' h) fun c s1 h => exW.le l' h
  refine wpAny_call (codeAny_mono rc fun r s2 hq2 => ?_)
  cases r with
  | error e => exact passAt tk σ pins w'.H s' e s2 I' hq2
  | ok fl =>
    cases fl with
    | ret u => exact I'.after hq2
    | next => exact False.elim hq2
    | brk => exact False.elim hq2
    | cont => exact False.elim hq2
end
end NC

set_option maxRecDepth 100000
/-! the check of a text against its program's text -/
namespace NC
open PySem PySem.Spec PyProof.Rows L2
/-- a def -/
structure FI where
  name : Str
  ps : List Str
  N : List Str
  st : Stmt
  fd : Fd
  lam : Bool
  hof : Bool
/-- a program -/
structure Pr where
  fns : List FI
  gls : List (Str × D)
  exs : List Str
  bns : List Str
  subs : List (List Bool)
  wh : Nat
def Pr.sub (p : Pr) (a b : Nat) : Option Bool := match p.subs[a]? with
  | some r => r[b]?
  | none => none
def Pr.fn (p : Pr) (f : Nat) : Option Fd := (p.fns[f]?).map (·.fd)
def Pr.gl (p : Pr) (g : Nat) : Option D := (p.gls[g]?).map (·.2)
def Pr.orc (p : Pr) (n : Nat) : Orc := NC.orc p.fn p.gl p.wh p.sub n
/-- where a text stands -/
structure CK where
  N : List Str
  sc : Scope
  fnb : Str → Bool
  calm : Bool
  stm : Bool
  lam : Option Str
  cv : Option Str
  itr : Bool
  exn : Bool
  xk : Bool
def okN (n : Str) : Bool := !(n == ("__debug__" : Str)) && !(n == ("__classdict__" : Str))
def visB (sc : Scope) (n : Str) : Bool := match sc.names.lookup n with
  | some .local => true
  | some .cell => true
  | some .free => true
  | _ => false
def CK.slot (c : CK) (i : Nat) (n : Str) : Bool := decide (c.N[i]? = some n) && (visB c.sc n && okN n)
def CK.stor (c : CK) (i : Nat) (n : Str) : Bool := decide (c.N[i]? = some n) && (decide (c.sc.names.lookup n = some .local) || (decide (c.sc.names.lookup n = some .cell) && c.fnb n))
def CK.glb (c : CK) (n : Str) : Bool := decide (c.sc.names.lookup n = some .globalImplicit) && okN n
def conB : D → Const → Bool
  | .non, .none => true
  | .bl b, .bool c => b == c
  | .int i, .int j => decide (i = j)
  | .str x, .str y => decide (x = y)
  | _, _ => false
def plainIxB : Expr → Bool
  | .Slice .. => false
  | _ => true
def noSuperB : Expr → Bool
  | .Call (.Name _ _) [] [] _ => false
  | _ => true
def isCompB : Expr → Bool
  | .ListComp .. => true
  | .SetComp .. => true
  | .DictComp .. => true
  | _ => false
def isSetB : Expr → Bool
  | .Set .. => true
  | _ => false
def plainTB : Expr → Bool
  | .UnaryOp .Not _ _ => false
  | .BoolOp .. => false
  | .IfExp .. => false
  | .Compare .. => false
  | _ => true
def nameB : Expr → Bool
  | .Name .. => true
  | _ => false
/-- whether the target lets its value go first -/
def swB (sc : Scope) (tg e : Expr) : Option Bool := match e with
  | .ListComp _ _ s _ => match tg with
    | .Name t pos => if sc.kind = .function then some (decide (sc.names.lookup t = some .local) && pos.line == e.pos.line && !(s.names.any fun (n, k) => n == t && (k == .local || k == .cell))) else none
    | _ => some false
  | .SetComp .. => none
  | .DictComp .. => none
  | _ => some false
/-- whether a tuple of values goes to the names without a tuple -/
def stB (sc : Scope) (ts vs : List Expr) : Option (Option (List Str)) :=
  if sc.kind = .function then
    if !(ts.length == 2 || ts.length == 3) || vs.length != ts.length then some none
    else if vs.any fun | .Starred .. => true | _ => false then none
    else
      let line := (ts.head?.map (·.pos.line)).getD 0
      let names := ts.filterMap fun
        | .Name id pos => if sc.names.lookup id == some .local && pos.line == line then some id else none
        | _ => none
      if names.length != ts.length || names.eraseDups.length != names.length then some none
      else if vs.all (foldedForSure 8) then some none
      else if vs.all (constantsAlone 8) then none
      else some (some names)
  else none
inductive Qy where
  | e (a : E) (b : Expr) | es (a : List E) (b : List Expr) | t (a : T) (b : Expr) | w (a : T) (b : Expr)
  | g (a : NC.TG) (b : Expr) | gs (a : List NC.TG) (b : List Expr) | gn (a : List Nat) (b : List Expr)
  | o (a : Option E) (b : Option Expr) | wk (k : IK) (l : List E) (tg iter : Expr)
  | s (a : S) (b : Stmt) | ss (a : List S) (b : List Stmt)
def lamNB (N : List Str) (sc scope : Scope) : Bool :=
  decide (scope.kind = .function) && (!scope.isCoroutine && (!scope.isGenerator && scope.names.all fun y => !decide (y.2 = .cell) && ((!decide (y.2 = .local) || !decide (y.1 ∈ N)) && (!decide (y.2 = .free) || (decide (sc.names.lookup y.1 = some .cell) || decide (sc.names.lookup y.1 = some .free))))))
def lamPB (N : List Str) (scope : Scope) : Arguments → Bool
  | ⟨[], [], none, [], [], none, []⟩ => true
  | ⟨[], [g], none, [], [], none, [.Constant (.int _) _ _]⟩ => decide (scope.names.lookup g.arg = some .local) && !decide (g.arg ∈ N)
  | _ => false
def fnCK (f : FI) : CK := ⟨f.N, defScope f.st, fun _ => true, true, true, if f.lam then some f.name else none, none, false, false, false⟩
def CK.blk (c : CK) (scope : Scope) : CK := ⟨c.N, relS scope c.sc, fun x => scope.names.lookup x == some .cell, c.calm, false, none, none, false, false, c.xk⟩
def CK.lamc (c : CK) (scope : Scope) : CK := ⟨c.N, scope, fun _ => false, true, false, none, none, false, false, c.xk⟩
def CK.try_ (c : CK) : CK := { c with itr := true, exn := false }
def CK.suite (c : CK) (x : Bool) : CK := { c with calm := false, stm := false, lam := none, cv := none, itr := false, exn := x, xk := x || c.xk }
def ownOf (N : List Str) : List Nat → List (Str × Nat)
  | [] => []
  | i :: r => ((N[i]?).getD Str.empty, i) :: ownOf N r
def Pr.bn (p : Pr) (c : CK) (n : Str) : Bool := c.glb n && decide (n ∈ p.bns)
def chk (p : Pr) : Nat → CK → Qy → Bool
  | 0, _, _ => false
  | n + 1, c, .e a b => match b with
   | .BoolOp _ [x] _ => chk p n c (.e a x)
   | b => match a with
    | .var i => match b with
      | .Name x _ => c.slot i x
      | _ => false
    | .fz i => match b with
      | .Name x _ => c.slot i x
      | _ => false
    | .con d => match b with
      | .Constant k _ _ => conB d k
      | _ => false
    | .glob g => match b with
      | .Name x _ => decide ((p.gls[g]?).map (·.1) = some x) && c.glb x
      | _ => false
    | .bin o a1 a2 => match b with
      | .BinOp x op y _ => decide (op = bop o) && (chk p n c (.e a1 x) && chk p n c (.e a2 y))
      | _ => false
    | .neg a1 => match b with
      | .UnaryOp .USub x _ => chk p n c (.e a1 x)
      | _ => false
    | .cmp o a1 a2 => match b with
      | .Compare x [op] [y] _ => decide (op = cop o) && (!behindInMarks op y && (chk p n c (.e a1 x) && chk p n c (.e a2 y)))
      | _ => false
    | .chain o o2 a1 a2 a3 => match b with
      | .Compare x [op, op2] [y, z] _ => decide (op = cop o) && (decide (op2 = cop o2) && (!behindInMarks op2 z && (chk p n c (.e a1 x) && (chk p n c (.e a2 y) && chk p n c (.e a3 z)))))
      | _ => false
    | .and a1 a2 => match b with
      | .BoolOp .And (x :: y :: r) q => chk p n c (.e a1 x) && chk p n c (.e a2 (.BoolOp .And (y :: r) q))
      | _ => false
    | .or a1 a2 => match b with
      | .BoolOp .Or (x :: y :: r) q => chk p n c (.e a1 x) && chk p n c (.e a2 (.BoolOp .Or (y :: r) q))
      | _ => false
    | .not a1 => match b with
      | .UnaryOp .Not x _ => chk p n c (.e a1 x)
      | _ => false
    | .ite t a1 a2 => match b with
      | .IfExp x y z _ => chk p n c (.t t x) && (chk p n c (.e a1 y) && chk p n c (.e a2 z))
      | _ => false
    | .tup l => match b with
      | .Tuple es _ _ => chk p n c (.es l es)
      | _ => false
    | .ldisp _ l => match b with
      | .List es _ => chk p n c (.es l es)
      | _ => false
    | .ix a1 a2 => match b with
      | .Subscript x y _ => plainIxB y && (chk p n c (.e a1 x) && chk p n c (.e a2 y))
      | _ => false
    | .sl a1 lo hi => match b with
      | .Subscript x (.Slice l h none _) _ => chk p n c (.e a1 x) && (chk p n c (.o lo l) && chk p n c (.o hi h))
      | _ => false
    | .call f l => match b with
      | .Call (.Name x _) es [] _ => match p.fns[f]? with
        | some fi => c.calm && (!fi.hof && (decide (fi.name = x) && (c.glb x && (es.all plainE && (decide (es.length = l.length) && chk p n c (.es l es))))))
        | none => false
      | _ => false
    | .callv i => match b with
      | .Call (.Name x _) [] [] _ => decide (i = 0) && (c.itr && decide (c.cv = some x))
      | _ => false
    | .lcall f a1 => match b with
      | .Call (.Name x _) [.Lambda params body scope _] [] _ => match p.fns[f]? with
        | some fi => c.calm && (decide (fi.name = x) && (c.glb x && (c.lam.isSome && (lamNB c.N c.sc scope && (lamPB c.N scope params && (chk p n (c.lamc scope) (.e a1 body) && (match fi.ps with
          | [pa] => okN pa && (decide (fi.N[0]? = some pa) && (visB (defScope fi.st) pa && chk p n { fnCK fi with cv := some pa } (.ss fi.fd.body (defBody fi.st))))
          | _ => false)))))))
        | none => false
      | _ => false
    | .bi f l => match b with
      | .Call (.Name x _) (e1 :: es) [] _ => c.calm && (decide (x = biN f) && (p.bn c x && ((e1 :: es).all plainE && (match f with
        | .isi t => match l, es with
          | [a1], [.Name y _] => chk p n c (.e a1 e1) && (decide (y = Str.ofString (tyN t)) && p.bn c y)
          | _, _ => false
        | _ => chk p n c (.es l (e1 :: es))))))
      | _ => false
    | .me m o l => match b with
      | .Call (.Attribute o' at_ ap) [e1] [] q => match l with
        | [a1] => (decide (m = .count) || decide (m = .index)) && (decide (at_ = meN m) && (noSuperB o' && ((ap.endLine == q.line) && (plainE e1 && (chk p n c (.e o o') && chk p n c (.e a1 e1))))))
        | _ => false
      | _ => false
    | .app o a1 => match b with
      | .Call (.Attribute o' at_ ap) [e1] [] q => decide (at_ = ("append" : Str)) && (noSuperB o' && ((ap.endLine == q.line) && (plainE e1 && (chk p n c (.e o o') && chk p n c (.e a1 e1)))))
      | _ => false
    | .comp _ t ik l ct a1 => match b with
      | .ListComp elt [⟨tg, iter, ifs, 0⟩] scope _ => c.calm && (!isSetB iter && (chk p n c (.wk ik l tg iter) && (blkC c.N c.sc scope (ownOf c.N t.vs) && (chk p n (c.blk scope) (.g t tg) && (chk p n (c.blk scope) (.e a1 elt) && (match ct, ifs with
          | none, [] => true
          | some ct, [i] => chk p n (c.blk scope) (.t ct i)
          | _, _ => false))))))
      | _ => false
    | .exis i k => match b with
      | .Call (.Name x _) [.Name y _, .Name z _] [] _ => c.exn && (decide (x = ("isinstance" : Str)) && (p.bn c x && (c.slot i y && (decide (p.exs[k]? = some z) && c.glb z))))
      | _ => false
  | n + 1, c, .es a b => match a, b with
    | [], [] => true
    | a1 :: l, x :: es => plainE x && (chk p n c (.e a1 x) && chk p n c (.es l es))
    | _, _ => false
  | n + 1, c, .t a b => match a with
    | .not a1 => match b with
      | .UnaryOp .Not x _ => chk p n c (.t a1 x)
      | _ => false
    | .and _ _ => chk p n c (.w a b)
    | .or _ _ => chk p n c (.w a b)
    | .e a1 => match b with
      | .Compare x ops ys q => match a1 with
        | .cmp o a2 a3 => match ops, ys with
          | [op], [y] => decide (op = cop o) && (!behindInMarks op y && (chk p n c (.e a2 x) && chk p n c (.e a3 y)))
          | _, _ => false
        | .chain o o2 a2 a3 a4 => match ops, ys with
          | [op, op2], [y, z] => decide (op = cop o) && (decide (op2 = cop o2) && (!behindInMarks op2 z && (chk p n c (.e a2 x) && (chk p n c (.e a3 y) && chk p n c (.e a4 z)))))
          | _, _ => false
        | _ => false
      | b => plainTB b && chk p n c (.e a1 b)
  | n + 1, c, .w a b => match b with
    | .BoolOp _ [x] _ => chk p n c (.t a x)
    | .BoolOp .And (x :: y :: r) q => match a with
      | .and a1 a2 => chk p n c (.t a1 x) && chk p n c (.w a2 (.BoolOp .And (y :: r) q))
      | _ => false
    | .BoolOp .Or (x :: y :: r) q => match a with
      | .or a1 a2 => chk p n c (.t a1 x) && chk p n c (.w a2 (.BoolOp .Or (y :: r) q))
      | _ => false
    | _ => false
  | n + 1, c, .g a b => match a with
    | .v i => match b with
      | .Name x _ => c.stor i x
      | _ => false
    | .t l => match b with
      | .Tuple es _ _ => c.calm && (es.all plainE && (decide (es.length = l.length) && chk p n c (.gs l es)))
      | _ => false
  | n + 1, c, .gs a b => match a, b with
    | [], [] => true
    | a1 :: l, x :: es => plainE x && (chk p n c (.g a1 x) && chk p n c (.gs l es))
    | _, _ => false
  | n + 1, c, .gn a b => match a, b with
    | [], [] => true
    | i :: l, .Name x _ :: es => c.stor i x && chk p n c (.gn l es)
    | _, _ => false
  | n + 1, c, .o a b => match a, b with
    | none, none => true
    | some a, some b => chk p n c (.e a b)
    | _, _ => false
  | n + 1, c, .wk k l tg iter => match k with
    | .seq => match l with
      | [a1] => chk p n c (.e a1 iter)
      | _ => false
    | .rng => match iter with
      | .Call (.Name x _) es [] _ => decide (x = ("range" : Str)) && (p.bn c x && (es.all plainE && (chk p n c (.es l es) && (match l, es with
        | [_], [_] => true
        | [_, _], [_, _] => true
        | _, _ => false))))
      | _ => false
    | .enm => match iter, tg, l with
      | .Call (.Name x _) [e1] [] _, .Tuple .., [_] => decide (x = ("enumerate" : Str)) && (p.bn c x && (plainE e1 && chk p n c (.es l [e1])))
      | _, _, _ => false
    | .zip => match iter, tg, l with
      | .Call (.Name x _) [e1, e2] [] _, .Tuple .., [_, _] => decide (x = ("zip" : Str)) && (p.bn c x && (plainE e1 && (plainE e2 && chk p n c (.es l [e1, e2]))))
      | _, _, _ => false
  | n + 1, c, .s a b => match a with
    | .asg t a1 => match b with
      | .Assign [tg] e1 _ => match swB c.sc tg e1 with
        | some false => (match tg, e1 with | .Tuple .., .Tuple .. => false | .List .., _ => false | .Starred .., _ => false | _, _ => true) && (chk p n c (.e a1 e1) && chk p n c (.g t tg))
        | some true => c.calm && (match t, tg, a1, e1 with
          | .v i, .Name y _, .comp _ t ik l ct a2, .ListComp elt [⟨tg, iter, ifs, 0⟩] scope _ => decide (c.N[i]? = some y) && (!isSetB iter && (chk p n c (.wk ik l tg iter) && (blkC c.N c.sc scope (ownOf c.N t.vs) && (chk p n (c.blk scope) (.g t tg) && (chk p n (c.blk scope) (.e a2 elt) && (match ct, ifs with
            | none, [] => true
            | some ct, [i] => chk p n (c.blk scope) (.t ct i)
            | _, _ => false))))))
          | _, _, _, _ => false)
        | none => false
      | _ => false
    | .par is l => match b with
      | .Assign [.Tuple ts _ _] (.Tuple es _ _) _ => c.calm && (chk p n c (.es l es) && (match stB c.sc ts es with
        | some none => chk p n c (.gn is ts) && (ts.all plainE && (decide (ts.length = is.length) && decide (l.length < 100)))
        | some (some _) => match is, ts, es with
          | [i, j], [.Name x _, .Name y _], [_, _] => decide (c.N[i]? = some x) && (decide (c.N[j]? = some y) && (decide (i ≠ j) && (decide (c.sc.names.lookup x = some .local) && decide (c.sc.names.lookup y = some .local))))
          | [i, j, k], [.Name x _, .Name y _, .Name z _], [_, _, _] => decide (c.N[i]? = some x) && (decide (c.N[j]? = some y) && (decide (c.N[k]? = some z) && (decide (i ≠ j) && (decide (i ≠ k) && (decide (j ≠ k) && (decide (c.sc.names.lookup x = some .local) && (decide (c.sc.names.lookup y = some .local) && decide (c.sc.names.lookup z = some .local))))))))
          | _, _, _ => false
        | none => false))
      | _ => false
    | .sub a1 a2 a3 => match b with
      | .Assign [.Subscript x y _] e1 _ => plainIxB y && (!isCompB e1 && (chk p n c (.e a1 x) && (chk p n c (.e a2 y) && chk p n c (.e a3 e1))))
      | _ => false
    | .ex a1 => match b with
      | .Expr e1 _ => !isCompB e1 && chk p n c (.e a1 e1)
      | _ => false
    | .ite t a1 a2 => match b with
      | .If x y z _ => chk p n c (.t t x) && (chk p n c (.ss a1 y) && chk p n c (.ss a2 z))
      | _ => false
    | .fo t k l a1 => match b with
      | .For tg iter y [] _ => c.calm && (c.stm && (!isSetB iter && (chk p n c (.wk k l tg iter) && (chk p n c (.g t tg) && chk p n c (.ss a1 y)))))
      | _ => false
    | .wh t a1 => match b with
      | .While x y [] _ => c.stm && (chk p n c (.t t x) && chk p n c (.ss a1 y))
      | _ => false
    | .ret a1 => match b with
      | .Return (some e1) _ => chk p n c (.e a1 e1)
      | _ => false
    | .retn => match b with
      | .Return none _ => true
      | _ => false
    | .brk => match b with
      | .Break _ => true
      | _ => false
    | .cont => match b with
      | .Continue _ => true
      | _ => false
    | .pass => match b with
      | .Pass _ => true
      | _ => false
    | .raise k => match b with
      | .Raise (some (.Call (.Name x _) [] [] _)) none _ => c.calm && (decide (p.exs[k]? = some x) && c.glb x)
      | _ => false
    | .tri a1 k v a2 => match b with
      | .Try y [.ExceptHandler (some (.Name x _)) nm (z :: h) _] [] [] _ => c.stm && (decide (p.exs[k]? = some x) && (c.glb x && (chk p n c.try_ (.ss a1 y) && (match v, nm with
        | some i, some m => !c.xk && (decide (c.N[i]? = some m) && (decide (c.sc.names.lookup m = some .local) && chk p n (c.suite true) (.ss a2 (z :: h))))
        | none, none => chk p n (c.suite false) (.ss a2 (z :: h))
        | _, _ => false))))
      | _ => false
  | n + 1, c, .ss a b => match a, b with
    | [], [] => true
    | a1 :: l, x :: es => chk p n c (.s a1 x) && chk p n c (.ss l es)
    | _, _ => false
def argsB (ps : List Str) : Arguments → Bool
  | ⟨[], gs, none, [], [], none, []⟩ => decide (gs.map (·.arg) = ps)
  | _ => false
def FI.ok (f : FI) : Bool := C8.scC f.N f.ps (defScope f.st) && (decide (f.ps.length ≤ f.N.length) && (decide (f.fd.np = f.ps.length) && (decide (f.fd.nn = f.N.length) && (argsB f.ps (defArgs f.st) && decide (f.ps.length ≤ 10)))))
def Pr.ok (p : Pr) (fuel : Nat) : Bool := p.fns.all fun f => f.ok && (f.hof || chk p fuel (fnCK f) (.ss f.fd.body (defBody f.st)))
end NC

set_option maxRecDepth 100000
/-! what the check leans on -/
namespace NC
open PySem PySem.Spec PyProof.Rows L2
structure PF (p : Pr) (T : List (Addr × Str)) (cc : Nat → Value) (ad : Nat → Addr) (K : PySem.W.Frag) (mg : Str → Option Value) (base : Heap) : Prop where
  fn : ∀ (i : Nat) (fi : FI), p.fns[i]? = some fi → ∃ fd, L2.Fun K fi.name fi.name fi.st (ad i) fd ∧ mg fi.name = some (.ref (ad i)) ∧ (fi.lam = true → ∃ c P, fd.code = .ref c ∧ LamX.TabB base mg c P ∧ (P, (fi.name ++ ".<locals>.") ++ "<lambda>") ∈ T ∧ ∀ q ∈ T, q.1 = P → q.2 = (fi.name ++ ".<locals>.") ++ "<lambda>")
  gl : ∀ (g : Nat) (n : Str) (d : D), p.gls[g]? = some (n, d) → ∃ v u, mg n = some u ∧ RelV v u ∧ ∀ w, RD K w d v
  bn : ∀ n ∈ p.bns, mg n = none
  xc : ∀ (i : Nat) (n : Str), p.exs[i]? = some n → ∃ A, cc i = .ref A ∧ mg n = some (.ref A) ∧ PySem.W.excIn K A He.veBase "ValueError.__new__" = true ∧ PySem.W.keepIn K (.ref A) = true ∧ PySem.W.subIn K (.ref A) (.type "BaseException") = some true ∧ PySem.W.typeIn K (.ref A) = some (.type "type") ∧ ExcC K A
  sb : ∀ a b r, p.sub a b = some r → PySem.W.exmOne K (cc a) (cc b) = some r ∧ PySem.W.kitOne K (cc a) (cc b) = some r ∧ a < p.exs.length
structure GX (p : Pr) (T : List (Addr × Str)) (cc : Nat → Value) (ad : Nat → Addr) (lv : Nat) (c : CK) (X : Cx) (k : Ck) (x : WN) : Prop where
  pf : PF p T cc ad X.K X.mg X.base
  kT : k.T = T
  kx : c.xk = false → ∀ c v, ¬ k.xn c v
  N : X.N = c.N
  nd : X.N.Nodup
  sc : X.env.scope = c.sc
  fnb : X.fn = c.fnb
  un : X.A.units + 65 < cLine
  gd : X.A.guards = some []
  tk : Takes X (wOf cc x)
  cal : c.calm = true → X.calm = true ∧ Room lv X.A
  own : c.stm = true → PassesOwn (model X.prog X.w) X.A X.env X.xe ∧ X.stack = X.env :: X.outer ∧ X.env.frame = some X.env.locals ∧ X.env.scope.kind = .function
  lam : ∀ n, c.lam = some n → X.env.qual = n ++ ".<locals>." ∧ ∃ cd P, X.env.code = .ref cd ∧ LamX.TabB X.base X.mg cd P ∧ (P, X.env.qual ++ "<lambda>") ∈ T ∧ ∀ q ∈ T, q.1 = P → q.2 = X.env.qual ++ "<lambda>"
  cv : ∀ a, c.cv = some a → ∀ (y : WN) (pn : List (Addr × Obj)) (xe : Value → Shared → Prop) (p1 p2 : Pos), Takes (X.tr pn xe) (wOf cc y) → PE (X.tr pn xe) (.Call (.Name a p1) [] [] p2) (tEv X.K k (p.orc lv) (.callv 0) y)
  cvi : ∀ a, c.cv = some a → c.itr = true → ∀ p1 p2 : Pos, PE X (.Call (.Name a p1) [] [] p2) (tEv X.K k (p.orc lv) (.callv 0) x)
  ex : c.exn = true → ∃ (Y : Cx) (a : Addr) (oe : Obj) (c0 : Nat) (pn : List (Addr × Obj)) (kk : Ck) (A0 : Addr), X = Y.suite a ((a, oe) :: pn) ∧ k = ckS kk a c0 ∧ cc c0 = .ref A0 ∧ ExcC X.K A0 ∧ Zc (cc c0) none oe ∧ ∃ vs, oe.data = .fields vs
def Snd (X : Cx) (k : Ck) (C : Orc) (x : WN) : Qy → Prop
  | .e a b => PE X b (tEv X.K k C a x)
  | .es a b => PA X b (tEvs X.K k C a x) ∧ b.length = a.length
  | .t a b => PT X b (tTv X.K k C a x)
  | .w a b => PW X b (tTv X.K k C a x)
  | .g a b => PG X b (gT X.K k a)
  | .gs a b => PGs X b (gTs X.K k a)
  | .gn a b => PGs X b (gNs X.K k a)
  | .o a b => PO X b (tOv X.K k C a x)
  | .wk i l tg iter => Wk X k C x i l tg iter
  | .s a b => PS X b (tSv X.K k C a x)
  | .ss a b => PSs X b (tSs X.K k C a x)
section
variable {p : Pr} {T : List (Addr × Str)} {cc : Nat → Value} {ad : Nat → Addr} {lv : Nat} {c : CK} {X : Cx} {k : Ck} {x : WN}
theorem okN_ok {n : Str} (h : okN n = true) : (n == ("__debug__" : Str)) = false ∧ (n == ("__classdict__" : Str)) = false := by
  unfold okN at h
  simpa only [Bool.and_eq_true, Bool.not_eq_true'] using h
theorem vis_ok {sc : Scope} {n : Str} (h : visB sc n = true) : Vis sc n := by
  unfold visB at h
  split at h
  · exact .inl (by assumption)
  · exact .inr (.inl (by assumption))
  · exact .inr (.inr (by assumption))
  · cases h
theorem GX.slot (G : GX p T cc ad lv c X k x) {i : Nat} {n : Str} (h : c.slot i n = true) : X.N[i]? = some n ∧ Vis X.env.scope n ∧ (n == ("__debug__" : Str)) = false ∧ (n == ("__classdict__" : Str)) = false := by
  unfold CK.slot at h
  simp only [Bool.and_eq_true, decide_eq_true_eq] at h
  rw [G.N, G.sc]
  exact ⟨h.1, vis_ok h.2.1, okN_ok h.2.2⟩
theorem GX.stor (G : GX p T cc ad lv c X k x) {i : Nat} {n : Str} (h : c.stor i n = true) : X.N[i]? = some n ∧ Loc X.env.scope n ∧ (X.fn n = true ∨ X.env.scope.names.lookup n = some .local) := by
  unfold CK.stor at h
  simp only [Bool.and_eq_true, Bool.or_eq_true, decide_eq_true_eq] at h
  rw [G.N, G.sc, G.fnb]
  rcases h with ⟨h1, h2 | ⟨h2, h3⟩⟩
  · exact ⟨h1, .inl h2, .inr h2⟩
  · exact ⟨h1, .inr h2, .inl h3⟩
theorem GX.glb (G : GX p T cc ad lv c X k x) {n : Str} (h : c.glb n = true) : Gl X n ∧ (n == ("__debug__" : Str)) = false := by
  unfold CK.glb at h
  simp only [Bool.and_eq_true, decide_eq_true_eq] at h
  refine ⟨?_, (okN_ok h.2).1⟩
  show X.env.scope.names.lookup n = _
  rw [G.sc]
  exact h.1
theorem GX.bn (G : GX p T cc ad lv c X k x) {n : Str} (h : p.bn c n = true) : Gl X n ∧ X.mg n = none := by
  unfold Pr.bn at h
  simp only [Bool.and_eq_true, decide_eq_true_eq] at h
  exact ⟨(G.glb h.1).1, G.pf.bn n h.2⟩
theorem con_ok {K : PySem.W.Frag} {X : Cx} {k : Ck} {C : Orc} {x : WN} {d : D} {q : Const} {j : Nat} {pos : Pos} (h : conB d q = true) : PE X (.Constant q j pos) (tEv X.K k C (.con d) x) := by
  cases d <;> cases q <;> first | (cases h; done) | skip
  · exact x_con pe_non fun _ => .non
  · rename_i b b2
    have e : b = b2 := by simpa [conB] using h
    subst e
    exact x_con pe_bl fun _ => .bl _
  · rename_i b b2
    have e : b = b2 := of_decide_eq_true h
    subst e
    exact x_con pe_int fun _ => .int _
  · rename_i b b2
    have e : b = b2 := of_decide_eq_true h
    subst e
    exact x_con pe_str fun _ => .str _
theorem plainIx_ok {b : Expr} (h : plainIxB b = true) : PlainIx b := by
  intro o i
  cases b <;> first | rfl | cases h
theorem noSuper_ok {o : Expr} {at_ : Str} {env : PySem.Env} {wh : Sem Value} (h : noSuperB o = true) : attributeBase o at_ env wh = wh := by
  unfold noSuperB at h
  unfold attributeBase
  split at h
  · cases h
  · rename_i hn
    split
    · rename_i pos id q
      exact absurd rfl (hn _ _ _)
    · rfl
theorem notSet_ok {i : Expr} {env : PySem.Env} (h : isSetB i = false) : ∀ y, foldedSetIterable i env y = pure y := by
  intro y
  cases i <;> first | rfl | cases h
theorem plainT_ok {b : Expr} {env : PySem.Env} (h : plainTB b = true) : ∀ whole, isTrue b env whole = (do let v ← whole; standAt b.pos; holding [v] (truthy v)) := by
  intro wh
  cases b <;> first | rfl | (cases h; done) | skip
  rename_i op _ _
  cases op <;> first | rfl | cases h
theorem aeach_c {e : Expr} {es : List Expr} {env : PySem.Env} (h : plainE e = true) : assignEach (e :: es) env = (false, assign e env) :: assignEach es env := by
  cases e <;> first | rfl | cases h
theorem aeach_len {env : PySem.Env} : ∀ {es : List Expr}, es.all plainE = true → (assignEach es env).length = es.length ∧ (assignEach es env).findIdx? (·.1) = none
  | [], _ => ⟨rfl, rfl⟩
  | e :: es, h => by
    rw [List.all_cons, Bool.and_eq_true] at h
    obtain ⟨h1, h2⟩ := aeach_len (env := env) h.2
    rw [aeach_c h.1]
    refine ⟨by rw [List.length_cons, List.length_cons, h1], ?_⟩
    rw [List.findIdx?_cons]
    simp [h2]
theorem lamN_ok {N : List Str} {sc scope : Scope} (h : lamNB N sc scope = true) : LamN N sc scope := by
  unfold lamNB at h
  simp only [Bool.and_eq_true, Bool.or_eq_true, Bool.not_eq_true', decide_eq_true_eq, decide_eq_false_iff_not, List.all_eq_true] at h
  obtain ⟨h1, h2, h3, h4⟩ := h
  refine ⟨h1, h2, h3, fun y hy => ⟨(h4 y hy).1, fun e => ?_⟩, fun y hy e => ?_⟩
  · rcases (h4 y hy).2.1 with z | z
    · exact absurd e z
    · exact z
  · rcases (h4 y hy).2.2 with z | z
    · exact absurd e z
    · exact z
theorem lamP_ok {N : List Str} {scope : Scope} {params : Arguments} (h : lamPB N scope params = true) : LamP N scope params := by
  unfold lamPB at h
  split at h
  · exact ⟨.inl rfl⟩
  · simp only [Bool.and_eq_true, Bool.not_eq_true', decide_eq_true_eq, decide_eq_false_iff_not] at h
    exact ⟨.inr ⟨_, _, _, _, rfl, h.1, h.2⟩⟩
  · cases h
theorem lookup_app {α : Type} {n : Str} {v : α} : ∀ {pre l : List (Str × α)}, (∀ y ∈ pre, y.1 ≠ n) → (pre ++ (n, v) :: l).lookup n = some v
  | [], l, _ => by simp
  | (m, u) :: pre, l, h => by
    have h1 : (n == m) = false := beq_eq_false_iff_ne.mpr fun e => h (m, u) List.mem_cons_self e.symm
    show (match n == m with | true => some u | false => (pre ++ (n, v) :: l).lookup n) = some v
    rw [h1]
    exact lookup_app fun y hy => h y (List.mem_cons_of_mem _ hy)
theorem zip_lk : ∀ (ps : List Str) (us : List Value) (pre : List (Str × Value)), us.length = ps.length → ps.Nodup → (∀ y ∈ pre, y.1 ∉ ps) →
    ps.filterMap (fun n => ((pre ++ ps.zip us).lookup n).map fun x => (n, x)) = ps.zip us ∧ ps.filter (fun n => ((pre ++ ps.zip us).lookup n).isNone) = []
  | [], _, _, _, _, _ => by simp
  | _ :: _, [], _, h, _, _ => by simp at h
  | p :: ps, u :: us, pre, h, nd, hp => by
    have nd' := List.nodup_cons.mp nd
    have e1 : (pre ++ (p, u) :: ps.zip us).lookup p = some u := lookup_app fun y hy e => hp y hy (by rw [e]; exact List.mem_cons_self)
    have ih := zip_lk ps us (pre ++ [(p, u)]) (by simpa using h) nd'.2 (fun y hy => by
      rcases List.mem_append.mp hy with z | z
      · exact fun q => hp y z (List.mem_cons_of_mem _ q)
      · rw [List.mem_singleton.mp z]
        exact nd'.1)
    have e2 : pre ++ [(p, u)] ++ ps.zip us = pre ++ (p, u) :: ps.zip us := by simp
    rw [e2] at ih
    show ((p :: ps).filterMap fun n => ((pre ++ (p, u) :: ps.zip us).lookup n).map fun x => (n, x)) = (p, u) :: ps.zip us ∧ (p :: ps).filter (fun n => ((pre ++ (p, u) :: ps.zip us).lookup n).isNone) = []
    rw [List.filterMap_cons, List.filter_cons, e1]
    exact ⟨by show (p, u) :: _ = _; rw [ih.1], by simpa using ih.2⟩
theorem args_x {gs : List Arg} {us : List Value} {fd : FuncData} (hp : fd.params = ⟨[], gs, none, [], [], none, []⟩) (hd : fd.defaults = .none) (hl : us.length = gs.length) (nd : (gs.map (·.arg)).Nodup) : bindArgs fd ⟨us, []⟩ = pure ((gs.map (·.arg)).zip us) := by
  obtain ⟨h1, h2⟩ := zip_lk (gs.map (·.arg)) us [] (by simpa using hl) nd (fun _ h => nomatch h)
  rw [List.nil_append] at h1 h2
  have e1 : notAStandIn Value.none = pure () := rfl
  unfold bindArgs
  rw [hp, hd]
  simp [hl, seqItems?, e1]
  have h3 : List.take gs.length (List.map (fun x => x.arg) gs) = List.map (fun x => x.arg) gs := List.take_of_length_le (by simp)
  rw [if_neg (by simpa [h3] using h2)]
  rw [← List.filterMap_map]
  rw [h1]
theorem argsB_ok {ps : List Str} {a : Arguments} (h : argsB ps a = true) : ∃ gs, a = ⟨[], gs, none, [], [], none, []⟩ ∧ gs.map (·.arg) = ps := by
  unfold argsB at h
  split at h
  · exact ⟨_, rfl, of_decide_eq_true h⟩
  · cases h
theorem st_ok {sc : Scope} {ts vs : List Expr} {env : PySem.Env} {r : Option (List Str)} {k1 k2 : Nat} {p1 p2 : Pos} (hs : env.scope = sc) (h : stB sc ts vs = some r) : swappedStores [.Tuple ts k1 p1] (.Tuple vs k2 p2) env = pure r := by
  unfold stB at h
  split at h
  case isFalse => cases h
  rename_i hk
  have hb : env.blockKind = .function := by
    unfold Env.blockKind
    rw [hs, hk]
    rfl
  have hko : ∀ t, env.kindOf t = sc.names.lookup t := fun t => by
    show env.scope.names.lookup t = _
    rw [hs]
  have hnn : ((ScopeKind.function != ScopeKind.function)) = false := rfl
  unfold swappedStores
  simp only [hb, hko, hnn, Bool.or_false]
  split at h
  · rename_i q
    cases h
    simp only [q]
    rfl
  · rename_i q
    have q' : (!(ts.length == 2 || ts.length == 3) || vs.length != ts.length) = false := by simpa using q
    rw [q']
    rw [if_neg Bool.false_ne_true]
    dsimp only at h
    split at h
    · cases h
    · rename_i q1
      refine Eq.trans (if_neg q1) ?_
      split at h
      · rename_i q2
        cases h
        exact if_pos q2
      · rename_i q2
        refine Eq.trans (if_neg q2) ?_
        split at h
        · rename_i q3
          cases h
          exact if_pos q3
        · rename_i q3
          refine Eq.trans (if_neg q3) ?_
          split at h
          · cases h
          · rename_i q4
            refine Eq.trans (if_neg q4) ?_
            cases h
            rfl
theorem sw_ok {sc : Scope} {tg e : Expr} {env : PySem.Env} {ln : Nat} {b : Bool} (hs : env.scope = sc) (h : swB sc tg e = some b) : swapsWith e (some tg) ln env = pure b := by
  cases e <;> first | (cases h; rfl) | (cases h; done) | skip
  rename_i elt gens s pos
  cases tg with
  | Name t q =>
    unfold swB at h
    simp only at h
    split at h
    · rename_i hk
      cases h
      unfold swapsWith
      have hb : env.blockKind = .function := by
        unfold Env.blockKind
        rw [hs, hk]
        rfl
      have hko : env.kindOf t = sc.names.lookup t := by
        show env.scope.names.lookup t = _
        rw [hs]
      have e0 : (List.lookup t sc.names == some NameKind.local) = decide (sc.names.lookup t = some .local) := by
        cases h : List.lookup t sc.names with
        | none => rfl
        | some k => cases k <;> rfl
      have hff : (ScopeKind.function == ScopeKind.function) = true := rfl
      simp only [hb, hko, e0, hff, Bool.true_and]
    · cases h
  | _ => cases h; rfl
theorem args_ok {K : PySem.W.Frag} {fi : FI} {a : Addr} {fd : FuncData} (F : L2.Fun K fi.name fi.name fi.st a fd) (h : argsB fi.ps (defArgs fi.st) = true) (nd : fi.ps.Nodup) : Binds K fd fi.ps [] := by
  obtain ⟨gs, e1, e2⟩ := argsB_ok h
  refine L2.Fun.binds F fun kV doc pm an cdv ct us hus => ?_
  rw [← e2] at hus ⊢
  exact args_x (by show defArgs fi.st = _; exact e1) rfl (by simpa using hus) (by rw [e2]; exact nd)
end
end NC

set_option maxRecDepth 100000
/-! the check is sound -/
namespace NC
open PySem PySem.Spec PyProof.Rows L2
section
variable {p : Pr} {T : List (Addr × Str)} {cc : Nat → Value} {ad : Nat → Addr}
def AllX (p : Pr) (T : List (Addr × Str)) (cc : Nat → Value) (ad : Nat → Addr) (lv : Nat) : Prop := ∀ (fuel : Nat) (c : CK) (X : Cx) (k : Ck) (x : WN) (q : Qy), GX p T cc ad lv c X k x → chk p fuel c q = true → Snd X k (p.orc lv) x q
def FnsOk (p : Pr) (T : List (Addr × Str)) (cc : Nat → Value) (ad : Nat → Addr) (lv : Nat) : Prop := ∀ (P : Program) (w0 : World) (K : PySem.W.Frag) (mg : Str → Option Value) (base : Heap), PF p T cc ad K mg base → ∀ (i : Nat) (fi : FI) (fd : FuncData), p.fns[i]? = some fi → fi.hof = false →
  L2.Fun K fi.name fi.name fi.st (ad i) fd → FnG P w0 K mg base lv (ad i) fd fi.ps (spF K T (p.orc lv) cc i)
theorem fi_ok {fi : FI} (h : fi.ok = true) : FnScope fi.N fi.ps (defScope fi.st) ∧ fi.ps.length ≤ fi.N.length ∧ fi.fd.np = fi.ps.length ∧ fi.fd.nn = fi.N.length ∧ argsB fi.ps (defArgs fi.st) = true := by
  unfold FI.ok at h
  simp only [Bool.and_eq_true, decide_eq_true_eq] at h
  obtain ⟨h1, h2, h3, h4, h5, _⟩ := h
  exact ⟨C8.fnScope_by h1, h2, h3, h4, h5⟩
theorem fi_nd {fi : FI} (S : FnScope fi.N fi.ps (defScope fi.st)) : fi.ps.Nodup := by
  rw [← S.pre]
  exact List.Nodup.sublist (List.take_sublist _ _) S.nd
section
variable {P : Program} {w0 : World} {K : PySem.W.Frag} {mg : Str → Option Value} {base : Heap} {lv : Nat}
theorem gx_fn {i : Nat} {fi : FI} {fd : FuncData} {cdv : Value} {A : Around} {outer : List PySem.Env} {s : Shared} {H : Hp} {E : XK} {k : Ck} {x : WN} (pf : PF p T cc ad K mg base) (S : FnScope fi.N fi.ps (defScope fi.st))
    (hl : fi.lam = true → ∃ c P, fd.code = .ref c ∧ LamX.TabB base mg c P ∧ (P, (fi.name ++ ".<locals>.") ++ "<lambda>") ∈ T ∧ ∀ q ∈ T, q.1 = P → q.2 = (fi.name ++ ".<locals>.") ++ "<lambda>") (hk : k.T = T) (hkx : ∀ c v, ¬ k.xn c v) (cvo : Option Str)
    (hcv : ∀ a, cvo = some a → ∀ (y : WN) (pn : List (Addr × Obj)) (xe : Value → Shared → Prop) (p1 p2 : Pos), Takes ((cxOf (L2.CX P w0) P w0 K mg base fi.N fi.name (defScope fi.st) (ad i) cdv A outer s H E).tr pn xe) (wOf cc y) →
      PE ((cxOf (L2.CX P w0) P w0 K mg base fi.N fi.name (defScope fi.st) (ad i) cdv A outer s H E).tr pn xe) (.Call (.Name a p1) [] [] p2) (tEv K k (p.orc lv) (.callv 0) y))
    (hcd : fd.code = cdv) (hgd : A.guards = some []) (hr : Room lv (A.deeper (envOfC fi.name (defScope fi.st) s.heap.objs.size (ad i) cdv))) (tk : Takes (cxOf (L2.CX P w0) P w0 K mg base fi.N fi.name (defScope fi.st) (ad i) cdv A outer s H E) (wOf cc x)) :
    GX p T cc ad lv { fnCK fi with cv := cvo } (cxOf (L2.CX P w0) P w0 K mg base fi.N fi.name (defScope fi.st) (ad i) cdv A outer s H E) k x where
  pf := pf
  kT := hk
  kx := fun _ => hkx
  N := rfl
  nd := S.nd
  sc := rfl
  fnb := rfl
  un := by have := hr.un; show (A.deeper _).units + 65 < cLine; omega
  gd := hgd
  tk := tk
  cal := fun _ => ⟨rfl, hr⟩
  own := fun _ => ⟨passes_of rfl, rfl, rfl, S.kind⟩
  lam := fun n hn => by
    have hn : (if fi.lam then some fi.name else none) = some n := hn
    split at hn
    · rename_i h1
      cases hn
      obtain ⟨c, P', h2, h3, h4, h5⟩ := hl h1
      exact ⟨rfl, c, P', hcd.symm.trans h2, h3, h4, h5⟩
    · cases hn
  cv := hcv
  cvi := fun _ _ h => nomatch (show false = true from h)
  ex := fun h => nomatch (show false = true from h)
theorem fns_zero : FnsOk p T cc ad 0 := fun P w0 K mg base pf i fi fd hi hh F =>
  ⟨fun vs H Q E ⟨_, _, _, _, _, _, _, q⟩ => q.elim, fun A outer s H us vs Q E _ _ _ _ _ ⟨_, _, _, _, _, _, _, q⟩ => q.elim⟩
theorem orc_fn {n i : Nat} {fi : FI} (hi : p.fns[i]? = some fi) (ws : List W) (st : Sto) : (p.orc (n + 1)).fn i ws st = if ws.length = fi.fd.np then finF st.length (evSs (p.orc n) fi.fd.body (start fi.fd.nn ws) st) else .stuck := by
  show (match p.fn i with
    | some fd => if ws.length = fd.np then finF st.length (evSs (p.orc n) fd.body (start fd.nn ws) st) else .stuck
    | none => .stuck) = _
  have e : p.fn i = some fi.fd := by
    unfold Pr.fn
    rw [hi]
    rfl
  rw [e]
theorem fns_succ {F0 : Nat} (hok : p.ok F0 = true) (ih : AllX p T cc ad lv) : FnsOk p T cc ad (lv + 1) := by
  intro P w0 K mg base pf i fi fd hi hh F
  have hfi := List.all_eq_true.mp hok fi (List.mem_of_getElem? hi)
  rw [hh, Bool.false_or, Bool.and_eq_true] at hfi
  obtain ⟨S, h1, h2, h3, h4⟩ := fi_ok hfi.1
  obtain ⟨fd', F', gm, hl⟩ := pf.fn i fi hi
  have efd : fd = fd' := by
    obtain ⟨⟨oc, od, kV, doc, pm, an, cdv, ct, osl, e1, lk, _⟩, _⟩ := F
    obtain ⟨⟨oc', od', kV', doc', pm', an', cdv', ct', osl', e1', lk', _⟩, _⟩ := F'
    rw [lk] at lk'
    cases lk'
    rfl
  subst efd
  refine fn_sound (C' := p.orc lv) (b := fi.fd.body) F S h1 (fun ws s => ?_) fun cdv A outer s H E x hgd hr hcd tk => ?_
  · rw [orc_fn hi, h2, h3]
  · exact ih F0 (fnCK fi) _ _ x (.ss fi.fd.body (defBody fi.st)) (gx_fn pf S hl (k := noCk T) rfl (fun _ _ h => h) none (fun _ h => nomatch h) hcd hgd hr tk) hfi.2
end
end
end NC

set_option maxRecDepth 100000
set_option maxHeartbeats 4000000
/-! the check is sound, expressions -/
namespace NC
open PySem PySem.Spec PyProof.Rows L2
section
variable {p : Pr} {T : List (Addr × Str)} {cc : Nat → Value} {ad : Nat → Addr} {lv : Nat} {c : CK} {X : Cx} {k : Ck} {x : WN}
abbrev IHn (p : Pr) (T : List (Addr × Str)) (cc : Nat → Value) (ad : Nat → Addr) (lv n : Nat) : Prop := ∀ (c : CK) (X : Cx) (k : Ck) (x : WN) (q : Qy), GX p T cc ad lv c X k x → chk p n c q = true → Snd X k (p.orc lv) x q
theorem takesF (X : Cx) : Takes X (wOf cc noX) := LamX.takes0.imp fun cls d σ H ⟨_, _, _, z⟩ => z
theorem GX.blk (G : GX p T cc ad lv c X k x) (s : Shared) (H : Hp) (scope : Scope) (D : Addr) (cl : List (Str × Addr)) (fp : List Addr) : GX p T cc ad lv (c.blk scope) (X.blk s H scope (compEnvC scope cl D X.env) fp) k noX where
  pf := G.pf
  kT := G.kT
  kx := G.kx
  N := G.N
  nd := G.nd
  sc := by
    show relabel scope X.env = relS scope c.sc
    rw [← G.sc]
    rfl
  fnb := rfl
  un := G.un
  gd := G.gd
  tk := takesF _
  cal := fun h => G.cal h
  own := fun h => nomatch (show false = true from h)
  lam := fun n h => nomatch (show none = some n from h)
  cv := fun a h => nomatch (show none = some a from h)
  cvi := fun a h => nomatch (show none = some a from h)
  ex := fun h => nomatch (show false = true from h)
theorem pax_ty {C : Orc} {a : E} {e1 : Expr} {t : Ty} {q : Pos} (ha : PE X e1 (tEv X.K k C a x)) (hp : plainE e1 = true) (hg : Gl X (Str.ofString (tyN t))) (hm : X.mg (Str.ofString (tyN t)) = none) : PA X [e1, .Name (Str.ofString (tyN t)) q] (tEvX X.K k C [a] x [.ty (tyN t)]) := by
  have hn : PE X (.Name (Str.ofString (tyN t)) q) (tC (.ty (tyN t))) := by
    cases t <;> exact pe_bltn hg hm (by decide +kernel) rfl (by decide) (by decide)
  refine ⟨fun pos pins s σ H Q I h => ?_⟩
  refine (pa_cons ha (pa_cons hn pa_nil rfl) (star_c hp)).run pos pins s σ H Q I ?_
  obtain ⟨w, ρ, st, e, at_, q⟩ := h
  subst e
  exact ⟨w, ρ, st, rfl, at_, (post_one q).imp (fun z s1 hz w1 v l1 ok1 r1 => hz w1 [v] l1 ok1 (.cons r1 .nil)) fun _ _ z => z⟩
theorem own_map {N : List Str} : ∀ is : List Nat, (ownOf N is).map (·.2) = is
  | [] => rfl
  | i :: r => by
    show i :: (ownOf N r).map (·.2) = _
    rw [own_map r]
theorem gx_lam {m : Nat} {scope : Scope} {A : Around} {outer : List PySem.Env} {s : Shared} {H : Hp} {E : XK} {f c' : Addr} {y : WN} (G : GX p T cc ad lv c X k x) (hgd : A.guards = some []) (hr : Room m (A.deeper (LamX.lamEnv X scope s.heap.objs.size f c'))) (tk : Takes (LamX.lamCx X A outer s H E scope f c') (wOf cc y)) :
    GX p T cc ad m (c.lamc scope) (LamX.lamCx X A outer s H E scope f c') k y where
  pf := G.pf
  kT := G.kT
  kx := G.kx
  N := G.N
  nd := G.nd
  sc := rfl
  fnb := rfl
  un := by have := hr.un; show (A.deeper _).units + 65 < cLine; omega
  gd := hgd
  tk := tk
  cal := fun _ => ⟨rfl, hr⟩
  own := fun h => nomatch (show false = true from h)
  lam := fun n h => nomatch (show none = some n from h)
  cv := fun a h => nomatch (show none = some a from h)
  cvi := fun a h => nomatch (show none = some a from h)
  ex := fun h => nomatch (show false = true from h)
theorem snd_lcall {n m f : Nat} {a1 : E} {fi : FI} {pa : Str} {params : Arguments} {body : Expr} {scope : Scope} {lpos p1 p2 : Pos} (ih : ∀ j, j < m + 2 → AllX p T cc ad j) {F0 : Nat} (hok : p.ok F0 = true) (G : GX p T cc ad (m + 2) c X k x) (hi : p.fns[f]? = some fi) (h0 : c.calm = true) (h2 : c.glb fi.name = true) (h3 : c.lam.isSome = true)
    (h4 : lamNB c.N c.sc scope = true) (h5 : lamPB c.N scope params = true) (h6 : chk p n (c.lamc scope) (.e a1 body) = true) (hps : fi.ps = [pa]) (h8 : okN pa = true) (h9 : fi.N[0]? = some pa) (h10 : visB (defScope fi.st) pa = true) (h11 : chk p n { fnCK fi with cv := some pa } (.ss fi.fd.body (defBody fi.st)) = true) :
    PE X (.Call (.Name fi.name p1) [.Lambda params body scope lpos] [] p2) (tEv X.K k (p.orc (m + 2)) (.lcall f a1) x) := by
  obtain ⟨fd, F, hm, hl⟩ := G.pf.fn f fi hi
  have hfi := List.all_eq_true.mp hok fi (List.mem_of_getElem? hi)
  rw [Bool.and_eq_true] at hfi
  obtain ⟨S, k1, k2, k3, hb⟩ := fi_ok hfi.1
  obtain ⟨h12, h13⟩ := G.glb h2
  have nd := fi_nd S
  have hbd := args_ok F hb nd
  rw [hps] at S hbd k2
  obtain ⟨nm, hnm⟩ := Option.isSome_iff_exists.mp h3
  obtain ⟨hq, cd, P, hcode, TB, hmT, hu⟩ := G.lam nm hnm
  rw [← G.N, ← G.sc] at h4
  rw [← G.N] at h5
  refine x_lcall (lv := m) (C := p.orc (m + 2)) (C' := p.orc (m + 1)) (Cb := p.orc m) (bG := fi.fd.body) (cc := cc) F S (by
    cases hN : fi.N with
    | nil => rw [hN] at h9; cases h9
    | cons _ _ => simp) hbd h12 hm h13 (fun e ρ st => ?_) (fun e ρ st => rfl) G.gd (G.cal h0).2 TB hcode rfl (by rw [G.kT]; exact hmT) (by rw [G.kT]; exact hu) (lamN_ok h4) (lamP_ok h5) G.tk h9 (vis_ok h10) (okN_ok h8).1 (okN_ok h8).2
    (fun A outer s H E f' c' y hgd hr tk => ih m (by omega) n (c.lamc scope) _ k y (.e a1 body) (gx_lam G hgd hr tk) h6)
    (fun cdv f' c' ρ σ s H E y hcd hr tk act => ?_)
  · rw [orc_fn hi, k2, k3]
    rfl
  · exact ih (m + 1) (by omega) n { fnCK fi with cv := some pa } _ _ y (.ss fi.fd.body (defBody fi.st)) (gx_fn G.pf (by rw [hps]; exact S) hl (k := kLam X.K k a1 ρ σ f' c' _) G.kT (fun _ _ h => h) (some pa) (fun a ha y pn xe p1 p2 tk' => by
      cases ha
      exact act y pn xe p1 p2 tk') hcd G.gd hr tk) h11
/-- an expression -/
theorem snd_e {n : Nat} (hfn : FnsOk p T cc ad lv) (ih : ∀ m, m < lv → AllX p T cc ad m) {F0 : Nat} (hok : p.ok F0 = true) (IH : IHn p T cc ad lv n) (G : GX p T cc ad lv c X k x) {a : E} {b : Expr} (h : chk p (n + 1) c (.e a b) = true) : PE X b (tEv X.K k (p.orc lv) a x) := by
  simp only [chk] at h
  split at h
  · exact pe_one (IH c X k x (.e a _) G h)
  · cases a with
    | var i =>
      dsimp only at h
      split at h
      · obtain ⟨h1, h2, h3, h4⟩ := G.slot h
        exact x_var h1 h2 h3 h4
      · cases h
    | fz i =>
      dsimp only at h
      split at h
      · obtain ⟨h1, h2, h3, h4⟩ := G.slot h
        exact x_fz h1 h2 h3 h4
      · cases h
    | con d =>
      dsimp only at h
      split at h
      · exact con_ok (K := X.K) h
      · cases h
    | glob g =>
      dsimp only at h
      split at h
      · simp only [Bool.and_eq_true, decide_eq_true_eq] at h
        obtain ⟨h1, h2⟩ := h
        obtain ⟨⟨n1, d⟩, e1, e2⟩ := Option.map_eq_some_iff.mp h1
        cases e2
        obtain ⟨v, u, h3, h4, h5⟩ := G.pf.gl g _ d e1
        obtain ⟨h6, h7⟩ := G.glb h2
        have hq : (p.orc lv).gl g = some d := by
          have e : p.gl g = some d := by
            unfold Pr.gl
            rw [e1]
            rfl
          cases lv <;> exact e
        exact x_glob h6 h3 h4 h7 hq h5
      · cases h
    | bin o a1 a2 =>
      dsimp only at h
      split at h
      · simp only [Bool.and_eq_true, decide_eq_true_eq] at h
        obtain ⟨rfl, h1, h2⟩ := h
        exact x_bin o (IH c X k x (.e _ _) G h1) (IH c X k x (.e _ _) G h2)
      · cases h
    | neg a1 =>
      dsimp only at h
      split at h
      · exact x_neg (IH c X k x (.e _ _) G h)
      · cases h
    | cmp o a1 a2 =>
      dsimp only at h
      split at h
      · simp only [Bool.and_eq_true, decide_eq_true_eq, Bool.not_eq_true'] at h
        obtain ⟨rfl, h0, h1, h2⟩ := h
        exact x_cmp o G.un h0 (IH c X k x (.e _ _) G h1) (IH c X k x (.e _ _) G h2)
      · cases h
    | chain o o2 a1 a2 a3 =>
      dsimp only at h
      split at h
      · simp only [Bool.and_eq_true, decide_eq_true_eq, Bool.not_eq_true'] at h
        obtain ⟨rfl, rfl, h0, h1, h2, h3⟩ := h
        exact x_chain o o2 G.un h0 (IH c X k x (.e _ _) G h1) (IH c X k x (.e _ _) G h2) (IH c X k x (.e _ _) G h3)
      · cases h
    | and a1 a2 =>
      dsimp only at h
      split at h
      · simp only [Bool.and_eq_true] at h
        exact x_and (IH c X k x (.e _ _) G h.1) (IH c X k x (.e _ _) G h.2)
      · cases h
    | or a1 a2 =>
      dsimp only at h
      split at h
      · simp only [Bool.and_eq_true] at h
        exact x_or (IH c X k x (.e _ _) G h.1) (IH c X k x (.e _ _) G h.2)
      · cases h
    | not a1 =>
      dsimp only at h
      split at h
      · exact x_not (IH c X k x (.e _ _) G h)
      · cases h
    | ite t a1 a2 =>
      dsimp only at h
      split at h
      · simp only [Bool.and_eq_true] at h
        exact x_ite (IH c X k x (.t _ _) G h.1) (IH c X k x (.e _ _) G h.2.1) (IH c X k x (.e _ _) G h.2.2)
      · cases h
    | tup l =>
      dsimp only at h
      split at h
      · exact x_tup (IH c X k x (.es _ _) G h).1
      · cases h
    | ldisp m l =>
      dsimp only at h
      split at h
      · exact x_lst m (IH c X k x (.es _ _) G h).1
      · cases h
    | ix a1 a2 =>
      dsimp only at h
      split at h
      · simp only [Bool.and_eq_true] at h
        exact x_ix (IH c X k x (.e _ _) G h.2.1) (IH c X k x (.e _ _) G h.2.2) (plainIx_ok h.1)
      · cases h
    | sl a1 lo hi =>
      dsimp only at h
      split at h
      · simp only [Bool.and_eq_true] at h
        exact x_sl (IH c X k x (.e _ _) G h.1) (IH c X k x (.o _ _) G h.2.1) (IH c X k x (.o _ _) G h.2.2)
      · cases h
    | call f l =>
      dsimp only at h
      split at h
      · split at h
        · rename_i fi hi
          simp only [Bool.and_eq_true, decide_eq_true_eq, Bool.not_eq_true'] at h
          obtain ⟨h0, h1, rfl, h3, h4, h5, h6⟩ := h
          obtain ⟨fd, F, hm, _⟩ := G.pf.fn f fi hi
          have hfi := List.all_eq_true.mp hok fi (List.mem_of_getElem? hi)
          rw [Bool.and_eq_true] at hfi
          obtain ⟨S, _, _, _, hb⟩ := fi_ok hfi.1
          obtain ⟨h7, h8⟩ := G.glb h3
          have hF := hfn X.prog X.w X.K X.mg X.base G.pf f fi fd hi h1 F
          rw [← G.kT] at hF
          exact x_call hF G.gd (G.cal h0).2 (args_ok F hb (fi_nd S)) G.tk h7 hm F.kp h8 (IH c X k x (.es _ _) G h6).1 h4 h5
        · cases h
      · cases h
    | callv i =>
      dsimp only at h
      split at h
      · simp only [Bool.and_eq_true, decide_eq_true_eq] at h
        obtain ⟨rfl, h1, h2⟩ := h
        exact G.cvi _ h2 h1 _ _
      · cases h
    | lcall f a1 =>
      dsimp only at h
      split at h
      · split at h
        · rename_i fi hi
          simp only [Bool.and_eq_true, decide_eq_true_eq] at h
          obtain ⟨h0, rfl, h2, h3, h4, h5, h6, h7⟩ := h
          split at h7
          · rename_i pa hps
            simp only [Bool.and_eq_true, decide_eq_true_eq] at h7
            obtain ⟨h8, h9, h10, h11⟩ := h7
            match lv, ih, G with
            | 0, _, _ => exact ⟨fun pins s σ H Q I ⟨w, ρ, st, _, _, q⟩ => q.elim⟩
            | 1, _, _ => exact ⟨fun pins s σ H Q I ⟨w, ρ, st, _, _, q⟩ => q.elim⟩
            | m + 2, ih, G => exact snd_lcall ih hok G hi h0 h2 h3 h4 h5 h6 hps h8 h9 h10 h11
          · cases h7
        · cases h
      · cases h
    | bi f l =>
      dsimp only at h
      split at h
      · simp only [Bool.and_eq_true, decide_eq_true_eq] at h
        obtain ⟨h0, rfl, h1, h2, h3⟩ := h
        obtain ⟨h4, h5⟩ := G.bn h1
        have hu : X.A.units + 64 < cLine := by have := G.un; omega
        cases f with
        | isi t =>
          dsimp only at h3
          split at h3
          · simp only [Bool.and_eq_true, decide_eq_true_eq] at h3
            obtain ⟨h6, rfl, h7⟩ := h3
            obtain ⟨h8, h9⟩ := G.bn h7
            rw [List.all_cons, Bool.and_eq_true] at h2
            exact x_bi (b := .isi t) (G.cal h0).1 G.gd hu h4 h5 (pax_ty (IH c X k x (.e _ _) G h6) h2.1 h8 h9) (by rw [List.all_cons, h2.1, h2.2]; rfl)
          · cases h3
        | _ => exact x_bi (G.cal h0).1 G.gd hu h4 h5 (pax_nil _ (IH c X k x (.es _ _) G h3).1) h2
      · cases h
    | me m o l =>
      dsimp only at h
      split at h
      · split at h
        · simp only [Bool.and_eq_true, Bool.or_eq_true, decide_eq_true_eq] at h
          obtain ⟨h0, rfl, h1, h2, h3, h4, h5⟩ := h
          exact x_meB (IH c X k x (.e _ _) G h4) (IH c X k x (.e _ _) G h5) h3 (noSuper_ok h1) h2 h0
        · cases h
      · cases h
    | app o a1 =>
      dsimp only at h
      split at h
      · simp only [Bool.and_eq_true, decide_eq_true_eq] at h
        obtain ⟨rfl, h1, h2, h3, h4, h5⟩ := h
        exact x_app (IH c X k x (.e _ _) G h4) (IH c X k x (.e _ _) G h5) h3 (noSuper_ok h1) h2
      · cases h
    | comp m t ik l ct a1 =>
      dsimp only at h
      split at h
      · simp only [Bool.and_eq_true, Bool.not_eq_true'] at h
        obtain ⟨h0, h1, h2, h3, h4, h5, h6⟩ := h
        rw [← G.N, ← G.sc] at h3
        refine x_comp (G.cal h0).1 G.nd (IH c X k x (.wk _ _ _ _) G h2) (own := ownOf c.N t.vs) ⟨by rw [← G.N]; exact blkOk_by h3, own_map _, fun s H D cl fp => IH _ _ _ _ (.g _ _) (G.blk s H _ D cl fp) h4, fun s H D cl fp => ?_, fun s H D cl fp => IH _ _ _ _ (.e _ _) (G.blk s H _ D cl fp) h5⟩ (notSet_ok h1)
        split at h6
        · exact pts_nil
        · exact pts_one (IH _ _ _ _ (.t _ _) (G.blk s H _ D cl fp) h6)
        · cases h6
      · cases h
    | exis i k0 =>
      dsimp only at h
      split at h
      · simp only [Bool.and_eq_true, decide_eq_true_eq] at h
        obtain ⟨h0, rfl, h1, h2, h3, h4⟩ := h
        obtain ⟨h5, h6⟩ := G.bn h1
        obtain ⟨h7, h8, h9, h10⟩ := G.slot h2
        obtain ⟨h11, h12⟩ := G.glb h4
        obtain ⟨A1, e1, e2, _⟩ := G.pf.xc _ _ h3
        obtain ⟨Y, a, oe, c0, pn, kk, A0, rfl, rfl, e3, EC, hz, hv⟩ := G.ex h0
        refine x_exis (v := .ref A1) EC e3 hz hv h7 h8 h9 h10 h5 h6 (pe_glob h11 e2 rfl h12) (fun u r => ?_) fun b hb => ?_
        · rw [e1]
          exact r
        · have hb' : p.sub c0 k0 = some b := by cases lv <;> exact hb
          exact (G.pf.sb _ _ _ hb').2.1
      · cases h
end
end NC

set_option maxRecDepth 100000
set_option maxHeartbeats 4000000
/-! the check is sound, the rest -/
namespace NC
open PySem PySem.Spec PyProof.Rows L2
section
variable {p : Pr} {T : List (Addr × Str)} {cc : Nat → Value} {ad : Nat → Addr} {lv : Nat} {c : CK} {X : Cx} {k : Ck} {x : WN} {n : Nat}
theorem GX.try_ (G : GX p T cc ad lv c X k x) {y : WN} {pn : List (Addr × Obj)} {xe : Value → Shared → Prop} (hs : c.stm = true) (tk : Takes (X.tr pn xe) (wOf cc y)) (po : PassesOwn (model X.prog X.w) X.A X.env xe) : GX p T cc ad lv c.try_ (X.tr pn xe) k y where
  pf := G.pf
  kT := G.kT
  kx := G.kx
  N := G.N
  nd := G.nd
  sc := G.sc
  fnb := G.fnb
  un := G.un
  gd := G.gd
  tk := tk
  cal := G.cal
  own := fun _ => ⟨po, (G.own hs).2⟩
  lam := G.lam
  cv := G.cv
  cvi := fun a h _ p1 p2 => G.cv a h y pn xe p1 p2 tk
  ex := fun h => nomatch (show false = true from h)
theorem GX.suiteN (G : GX p T cc ad lv c X k x) {a : Addr} {oe : Obj} {pn : List (Addr × Obj)} : GX p T cc ad lv (c.suite false) (X.suite a ((a, oe) :: pn)) k noX where
  pf := G.pf
  kT := G.kT
  kx := G.kx
  N := G.N
  nd := G.nd
  sc := G.sc
  fnb := G.fnb
  un := G.un
  gd := G.gd
  tk := takesF _
  cal := fun h => nomatch (show false = true from h)
  own := fun h => nomatch (show false = true from h)
  lam := fun n h => nomatch (show none = some n from h)
  cv := fun a h => nomatch (show none = some a from h)
  cvi := fun a h => nomatch (show none = some a from h)
  ex := fun h => nomatch (show false = true from h)
theorem GX.suiteY (G : GX p T cc ad lv c X k x) {a : Addr} {oe : Obj} {c0 c1 : Nat} {pn : List (Addr × Obj)} (hsb : p.sub c0 c1 = some true) (hz : Zc (cc c0) none oe) (hv : ∃ vs, oe.data = .fields vs) : GX p T cc ad lv (c.suite true) (X.suite a ((a, oe) :: pn)) (ckS k a c0) noX where
  pf := G.pf
  kT := G.kT
  kx := fun h => nomatch (show true = false from h)
  N := G.N
  nd := G.nd
  sc := G.sc
  fnb := G.fnb
  un := G.un
  gd := G.gd
  tk := takesF _
  cal := fun h => nomatch (show false = true from h)
  own := fun h => nomatch (show false = true from h)
  lam := fun n h => nomatch (show none = some n from h)
  cv := fun a h => nomatch (show none = some a from h)
  cvi := fun a h => nomatch (show none = some a from h)
  ex := fun _ => by
    obtain ⟨_, _, hl⟩ := G.pf.sb _ _ _ hsb
    obtain ⟨A, e1, _, _, _, _, _, e2⟩ := G.pf.xc c0 _ (List.getElem?_eq_getElem hl)
    exact ⟨X, a, oe, c0, pn, k, A, rfl, rfl, e1, e2, hz, hv⟩
theorem snd_t (IH : IHn p T cc ad lv n) (G : GX p T cc ad lv c X k x) {a : NC.T} {b : Expr} (h : chk p (n + 1) c (.t a b) = true) : PT X b (tTv X.K k (p.orc lv) a x) := by
  simp only [chk] at h
  cases a with
  | not a1 =>
    dsimp only at h
    split at h
    · exact t_not (IH c X k x (.t _ _) G h)
    · cases h
  | and a1 a2 => exact (IH c X k x (.w _ _) G h).pt
  | or a1 a2 => exact (IH c X k x (.w _ _) G h).pt
  | e a1 =>
    dsimp only at h
    split at h
    · split at h
      · split at h
        · simp only [Bool.and_eq_true, decide_eq_true_eq, Bool.not_eq_true'] at h
          obtain ⟨rfl, h0, h1, h2⟩ := h
          exact t_cmp _ G.un h0 (IH c X k x (.e _ _) G h1) (IH c X k x (.e _ _) G h2)
        · cases h
      · split at h
        · simp only [Bool.and_eq_true, decide_eq_true_eq, Bool.not_eq_true'] at h
          obtain ⟨rfl, rfl, h0, h1, h2, h3⟩ := h
          exact t_chain _ _ G.un h0 (IH c X k x (.e _ _) G h1) (IH c X k x (.e _ _) G h2) (IH c X k x (.e _ _) G h3)
        · cases h
      · cases h
    · simp only [Bool.and_eq_true] at h
      exact t_e (IH c X k x (.e _ _) G h.2) (plainT_ok h.1)
theorem snd_w (IH : IHn p T cc ad lv n) (G : GX p T cc ad lv c X k x) {a : NC.T} {b : Expr} (h : chk p (n + 1) c (.w a b) = true) : PW X b (tTv X.K k (p.orc lv) a x) := by
  simp only [chk] at h
  split at h
  · rename_i op _ _
    cases op with
    | And => exact pw_and1 (IH c X k x (.t _ _) G h)
    | Or => exact pw_or1 (IH c X k x (.t _ _) G h)
  · split at h
    · simp only [Bool.and_eq_true] at h
      exact t_and (IH c X k x (.t _ _) G h.1) (IH c X k x (.w _ _) G h.2)
    · cases h
  · split at h
    · simp only [Bool.and_eq_true] at h
      exact t_or (IH c X k x (.t _ _) G h.1) (IH c X k x (.w _ _) G h.2)
    · cases h
  · cases h
theorem snd_es (IH : IHn p T cc ad lv n) (G : GX p T cc ad lv c X k x) {a : List E} {b : List Expr} (h : chk p (n + 1) c (.es a b) = true) : PA X b (tEvs X.K k (p.orc lv) a x) ∧ b.length = a.length := by
  simp only [chk] at h
  split at h
  · exact ⟨x_nil, rfl⟩
  · simp only [Bool.and_eq_true] at h
    obtain ⟨h1, h2⟩ := IH c X k x (.es _ _) G h.2.2
    exact ⟨x_cons (IH c X k x (.e _ _) G h.2.1) h1 (star_c h.1), by rw [List.length_cons, List.length_cons, h2]⟩
  · cases h
theorem snd_g (IH : IHn p T cc ad lv n) (G : GX p T cc ad lv c X k x) {a : NC.TG} {b : Expr} (h : chk p (n + 1) c (.g a b) = true) : PG X b (gT X.K k a) := by
  simp only [chk] at h
  cases a with
  | v i =>
    dsimp only at h
    split at h
    · obtain ⟨h1, h2, h3⟩ := G.stor h
      exact g_v G.nd h1 h2 h3
    · cases h
  | t l =>
    dsimp only at h
    split at h
    · simp only [Bool.and_eq_true, decide_eq_true_eq] at h
      obtain ⟨h0, h1, h2, h3⟩ := h
      obtain ⟨h4, h5⟩ := aeach_len (env := X.env) h1
      exact g_t (G.cal h0).1 (IH c X k x (.gs _ _) G h3) h2 h4 h5
    · cases h
theorem snd_gs (IH : IHn p T cc ad lv n) (G : GX p T cc ad lv c X k x) {a : List NC.TG} {b : List Expr} (h : chk p (n + 1) c (.gs a b) = true) : PGs X b (gTs X.K k a) := by
  simp only [chk] at h
  split at h
  · exact g_nil
  · simp only [Bool.and_eq_true] at h
    exact g_cons (IH c X k x (.g _ _) G h.2.1) (IH c X k x (.gs _ _) G h.2.2) (by rw [aeach_c h.1]; rfl)
  · cases h
theorem snd_gn (IH : IHn p T cc ad lv n) (G : GX p T cc ad lv c X k x) {a : List Nat} {b : List Expr} (h : chk p (n + 1) c (.gn a b) = true) : PGs X b (gNs X.K k a) := by
  simp only [chk] at h
  split at h
  · exact gn_nil
  · simp only [Bool.and_eq_true] at h
    obtain ⟨h1, h2, h3⟩ := G.stor h.1
    exact gn_cons G.nd h1 h2 h3 (IH c X k x (.gn _ _) G h.2)
  · cases h
theorem snd_o (IH : IHn p T cc ad lv n) (G : GX p T cc ad lv c X k x) {a : Option E} {b : Option Expr} (h : chk p (n + 1) c (.o a b) = true) : PO X b (tOv X.K k (p.orc lv) a x) := by
  simp only [chk] at h
  split at h
  · exact o_none
  · exact o_some (IH c X k x (.e _ _) G h)
  · cases h
theorem snd_wk (IH : IHn p T cc ad lv n) (G : GX p T cc ad lv c X k x) {i : IK} {l : List E} {tg iter : Expr} (h : chk p (n + 1) c (.wk i l tg iter) = true) : Wk X k (p.orc lv) x i l tg iter := by
  simp only [chk] at h
  intro w ρ st σ R a q
  cases i with
  | seq =>
    dsimp only at h
    split at h
    · exact i_seq (IH c X k x (.e _ _) G h) a q
    · cases h
  | rng =>
    dsimp only at h
    split at h
    · simp only [Bool.and_eq_true, decide_eq_true_eq] at h
      obtain ⟨rfl, h1, h2, h3, h4⟩ := h
      obtain ⟨h5, h6⟩ := G.bn h1
      have hp := (IH c X k x (.es _ _) G h3).1
      split at h4
      · simp only [List.all_cons, List.all_nil, Bool.and_true] at h2
        exact i_rng1 hp a h5 h6 (star_c h2) q
      · simp only [List.all_cons, List.all_nil, Bool.and_true, Bool.and_eq_true] at h2
        exact i_rng2 hp a h5 h6 (by rw [star_c h2.1, star_c h2.2]; rfl) (star_c h2.2) q
      · cases h4
    · cases h
  | enm =>
    dsimp only at h
    split at h
    · simp only [Bool.and_eq_true, decide_eq_true_eq] at h
      obtain ⟨rfl, h1, h2, h3⟩ := h
      obtain ⟨h5, h6⟩ := G.bn h1
      exact i_enm (IH c X k x (.es _ _) G h3).1 a h5 h6 (star_c h2) q
    · cases h
  | zip =>
    dsimp only at h
    split at h
    · simp only [Bool.and_eq_true, decide_eq_true_eq] at h
      obtain ⟨rfl, h1, h2, h3, h4⟩ := h
      obtain ⟨h5, h6⟩ := G.bn h1
      exact i_zip (IH c X k x (.es _ _) G h4).1 a h5 h6 (star_c h2) (by rw [star_c h3]; rfl) q
    · cases h
theorem sw_sub {o i : Expr} {q : Pos} {e : Expr} {env : PySem.Env} {ln : Nat} (h : isCompB e = false) : swapsWithSole [.Subscript o i q] e ln env = pure false := by
  cases e <;> first | rfl | cases h
theorem sw_ex {e : Expr} {env : PySem.Env} {ln : Nat} (h : isCompB e = false) : swapsWith e none ln env = pure false := by
  cases e <;> first | rfl | cases h
theorem st_none {tg e : Expr} {env : PySem.Env} (h : (match tg, e with | .Tuple .., .Tuple .. => false | .List .., _ => false | .Starred .., _ => false | _, _ => true) = true) : swappedStores [tg] e env = pure none ∧ (assignEach [tg] env).map (·.2) = [assign tg env] := by
  cases tg <;> first | (cases h; done) | (constructor <;> rfl) | skip
  cases e <;> first | (cases h; done) | (constructor <;> rfl)
theorem snd_ss (IH : IHn p T cc ad lv n) (G : GX p T cc ad lv c X k x) {a : List S} {b : List Stmt} (h : chk p (n + 1) c (.ss a b) = true) : PSs X b (tSs X.K k (p.orc lv) a x) := by
  simp only [chk] at h
  split at h
  · exact s_nil
  · simp only [Bool.and_eq_true] at h
    exact s_cons (IH c X k x (.s _ _) G h.1) (IH c X k x (.ss _ _) G h.2)
  · cases h
end
end NC

set_option maxRecDepth 100000
set_option maxHeartbeats 4000000
/-! the check is sound, statements; all of it -/
namespace NC
open PySem PySem.Spec PyProof.Rows L2
section
variable {p : Pr} {T : List (Addr × Str)} {cc : Nat → Value} {ad : Nat → Addr} {lv : Nat} {c : CK} {X : Cx} {k : Ck} {x : WN} {n : Nat}
theorem evs_len {C : Orc} : ∀ {l : List E} {ρ : Rho} {st : Sto} {ws : List W} {s1 : Sto}, evEs C l ρ st = .ok ws s1 → ws.length = l.length
  | [], _, _, _, _, h => by
    simp only [evEs] at h
    cases h
    rfl
  | e :: r, ρ, st, ws, s1, h => by
    simp only [evEs] at h
    cases e1 : evE C e ρ st with
    | stuck => rw [e1] at h; cases h
    | exc c s => rw [e1] at h; cases h
    | ok w s =>
      rw [e1] at h
      simp only [Out.bind] at h
      cases e2 : evEs C r ρ s with
      | stuck => rw [e2] at h; cases h
      | exc c s => rw [e2] at h; cases h
      | ok ws2 s2 =>
        rw [e2] at h
        cases h
        rw [List.length_cons, List.length_cons, evs_len e2]
theorem GX.names (G : GX p T cc ad lv c X k x) {i : Nat} {nm : Str} (h : p.exs[i]? = some nm) (hg : c.glb nm = true) : Names X nm (cc i) := by
  obtain ⟨A, e1, e2, _⟩ := G.pf.xc i nm h
  obtain ⟨h1, h2⟩ := G.glb hg
  exact ⟨h1, h2, .inl (by rw [e1]; exact e2)⟩
theorem orc_sub (a b : Nat) : (p.orc lv).sub a b = p.sub a b := by cases lv <;> rfl
theorem stB_two {sc : Scope} {x y : Str} {px py : Pos} {vs : List Expr} {ns : List Str} (h : stB sc [.Name x px, .Name y py] vs = some (some ns)) : ns = [x, y] := by
  unfold stB at h
  split at h
  case isFalse => cases h
  split at h
  · cases h
  split at h
  · cases h
  dsimp only at h
  split at h
  · cases h
  rename_i hlen
  split at h
  · cases h
  split at h
  · cases h
  cases h
  simp only [List.filterMap_cons, List.filterMap_nil] at hlen ⊢
  split at hlen <;> split at hlen <;> simp_all
theorem stB_three {sc : Scope} {x y z : Str} {px py pz : Pos} {vs : List Expr} {ns : List Str} (h : stB sc [.Name x px, .Name y py, .Name z pz] vs = some (some ns)) : ns = [x, y, z] := by
  unfold stB at h
  split at h
  case isFalse => cases h
  split at h
  · cases h
  split at h
  · cases h
  dsimp only at h
  split at h
  · cases h
  rename_i hlen
  split at h
  · cases h
  split at h
  · cases h
  cases h
  simp only [List.filterMap_cons, List.filterMap_nil] at hlen ⊢
  split at hlen <;> split at hlen <;> split at hlen <;> simp_all
theorem swB_local {sc s : Scope} {y : Str} {py lp : Pos} {elt : Expr} {gens : List Comprehension} (h : swB sc (.Name y py) (.ListComp elt gens s lp) = some true) : sc.names.lookup y = some .local := by
  unfold swB at h
  dsimp only at h
  split at h
  · have e := Option.some.inj h
    simp only [Bool.and_eq_true, decide_eq_true_eq] at e
    exact e.1.1
  · cases h
theorem snd_s (IH : IHn p T cc ad lv n) (G : GX p T cc ad lv c X k x) {a : S} {b : Stmt} (h : chk p (n + 1) c (.s a b) = true) : PS X b (tSv X.K k (p.orc lv) a x) := by
  simp only [chk] at h
  cases a with
  | asg t a1 =>
    dsimp only at h
    split at h
    · split at h
      · rename_i hsw
        rw [Bool.and_eq_true, Bool.and_eq_true] at h
        obtain ⟨h1, h2, h3⟩ := h
        obtain ⟨h4, h5⟩ := st_none (env := X.env) h1
        have hg := IH c X k x (.g _ _) G h3
        refine s_asg (IH c X k x (.e _ _) G h2) ?_ (sw_ok G.sc hsw) h4 h5
        · 
          cases t with
          | t l => exact gw_t hg
          | v i =>
            have h3' := h3
            cases n with
            | zero => cases h3
            | succ m =>
              simp only [chk] at h3
              split at h3
              · obtain ⟨k1, k2, k3⟩ := G.stor h3
                exact gw_v G.nd k1 k2 k3
              · cases h3
      · rename_i hsw
        rw [Bool.and_eq_true] at h
        obtain ⟨h0, h⟩ := h
        split at h
        · simp only [Bool.and_eq_true, Bool.not_eq_true', decide_eq_true_eq] at h
          obtain ⟨hy, h1, h2, h3, h4, h5, h6⟩ := h
          rw [← G.N, ← G.sc] at h3
          refine s_asgLc (G.cal h0).1 G.nd (by rw [G.N]; exact hy) (by rw [G.sc]; exact swB_local hsw) (sw_ok G.sc hsw) (IH c X k x (.wk _ _ _ _) G h2) (own := ownOf c.N _) ⟨by rw [← G.N]; exact blkOk_by h3, own_map _, fun s H D cl fp => IH _ _ _ _ (.g _ _) (G.blk s H _ D cl fp) h4, fun s H D cl fp => ?_, fun s H D cl fp => IH _ _ _ _ (.e _ _) (G.blk s H _ D cl fp) h5⟩ (notSet_ok h1)
          split at h6
          · exact pts_nil
          · exact pts_one (IH _ _ _ _ (.t _ _) (G.blk s H _ D cl fp) h6)
          · cases h6
        · cases h
      · cases h
    · cases h
  | par is l =>
    dsimp only at h
    split at h
    · rw [Bool.and_eq_true, Bool.and_eq_true] at h
      obtain ⟨h0, h1, h2⟩ := h
      have hc := (G.cal h0).1
      obtain ⟨he, hel⟩ := IH c X k x (.es _ _) G h1
      split at h2
      · rename_i hst
        simp only [Bool.and_eq_true, decide_eq_true_eq] at h2
        obtain ⟨h3, h4, h5, h6⟩ := h2
        obtain ⟨h7, h8⟩ := aeach_len (env := X.env) h4
        exact s_parT hc (IH c X k x (.gn _ _) G h3) h5 h7 h8 he h6 (fun ws ρ st s1 h => evs_len h) (st_ok G.sc hst)
      · rename_i hst
        split at h2
        · simp only [Bool.and_eq_true, decide_eq_true_eq] at h2
          obtain ⟨h3, h4, h5, h6, h7⟩ := h2
          rw [← G.N] at h3 h4
          rw [← G.sc] at h6 h7
          have e := stB_two hst
          rw [e] at hst
          exact s_par2 hc G.nd h3 h4 h5 h6 h7 he (st_ok G.sc hst)
        · simp only [Bool.and_eq_true, decide_eq_true_eq] at h2
          obtain ⟨h3, h4, h5, h6, h7, h8, h9, h10, h11⟩ := h2
          rw [← G.N] at h3 h4 h5
          rw [← G.sc] at h9 h10 h11
          have e := stB_three hst
          rw [e] at hst
          exact s_par3 hc G.nd h3 h4 h5 h6 h7 h8 h9 h10 h11 he (st_ok G.sc hst)
        · cases h2
      · cases h2
    · cases h
  | sub a1 a2 a3 =>
    dsimp only at h
    split at h
    · simp only [Bool.and_eq_true, Bool.not_eq_true'] at h
      obtain ⟨h1, h2, h3, h4, h5⟩ := h
      refine s_sub (IH c X k x (.e _ _) G h3) (IH c X k x (.e _ _) G h4) (IH c X k x (.e _ _) G h5) (fun v => ?_) (sw_sub h2) rfl
      rename_i o' i' _ _ _
      cases i' <;> first | rfl | cases h1
    · cases h
  | ex a1 =>
    dsimp only at h
    split at h
    · simp only [Bool.and_eq_true, Bool.not_eq_true'] at h
      exact s_ex (IH c X k x (.e _ _) G h.2) (sw_ex h.1)
    · cases h
  | ite t a1 a2 =>
    dsimp only at h
    split at h
    · simp only [Bool.and_eq_true] at h
      exact s_ite (IH c X k x (.t _ _) G h.1) (IH c X k x (.ss _ _) G h.2.1) (IH c X k x (.ss _ _) G h.2.2)
    · cases h
  | fo t i l a1 =>
    dsimp only at h
    split at h
    · simp only [Bool.and_eq_true, Bool.not_eq_true'] at h
      obtain ⟨h0, h1, h2, h3, h4, h5⟩ := h
      exact s_for (G.own h1).1 (G.cal h0).1 (IH c X k x (.wk _ _ _ _) G h3) (IH c X k x (.g _ _) G h4) (IH c X k x (.ss _ _) G h5) (notSet_ok h2)
    · cases h
  | wh t a1 =>
    dsimp only at h
    split at h
    · simp only [Bool.and_eq_true] at h
      obtain ⟨h1, h2, h3⟩ := h
      exact s_while (G.own h1).1 (IH c X k x (.t _ _) G h2) (IH c X k x (.ss _ _) G h3)
    · cases h
  | ret a1 =>
    dsimp only at h
    split at h
    · exact s_ret (IH c X k x (.e _ _) G h)
    · cases h
  | retn =>
    dsimp only at h
    split at h
    · exact s_retn
    · cases h
  | brk =>
    dsimp only at h
    split at h
    · exact s_brk
    · cases h
  | cont =>
    dsimp only at h
    split at h
    · exact s_cont
    · cases h
  | pass =>
    dsimp only at h
    split at h
    · exact s_pass
    · cases h
  | raise j =>
    dsimp only at h
    split at h
    · simp only [Bool.and_eq_true, decide_eq_true_eq] at h
      obtain ⟨h0, h1, h2⟩ := h
      obtain ⟨A, e1, e2, e3, e4, e5, e6, _⟩ := G.pf.xc j _ h1
      obtain ⟨h3, h4⟩ := G.glb h2
      exact s_raise (G.cal h0).1 G.tk e1 (pmk_own0 PySem.F.excBase_ValueError e3 e2 e4 (raises_own e5 e6) h3 h4)
    · cases h
  | tri a1 j v a2 =>
    dsimp only at h
    split at h
    · simp only [Bool.and_eq_true, decide_eq_true_eq] at h
      obtain ⟨h0, h1, h2, h3, h4⟩ := h
      obtain ⟨k1, k2, k3, k4⟩ := G.own h0
      have hn := G.names h1 h2
      have hsub : ∀ c0 b, (p.orc lv).sub c0 j = some b → PySem.W.exmOne X.K (cc c0) (cc j) = some b := fun c0 b hb => (G.pf.sb c0 j b (by rw [← orc_sub (lv := lv)]; exact hb)).1
      split at h4
      · simp only [Bool.and_eq_true, decide_eq_true_eq, Bool.not_eq_true'] at h4
        obtain ⟨h5, h6, h7, h8⟩ := h4
        rw [← G.N] at h6
        rw [← G.sc] at h7
        exact s_tryAs k2 k3 G.nd h6 h7 hn G.tk (G.kx h5) hsub (fun y pn xe tk po => IH c.try_ _ _ y (.ss _ _) (G.try_ h0 tk po) h3) fun a oe c0 pn hsb hz hv => IH (c.suite true) _ _ noX (.ss _ _) (G.suiteY (by rw [← orc_sub (lv := lv)]; exact hsb) hz hv) h8
      · exact s_tryOnly k2 k3 hn G.tk hsub (fun y pn xe tk po => IH c.try_ _ _ y (.ss _ _) (G.try_ h0 tk po) h3) fun a oe pn => IH (c.suite false) _ _ noX (.ss _ _) G.suiteN h4
      · cases h4
    · cases h
theorem all_x {F0 : Nat} (hok : p.ok F0 = true) : ∀ lv, AllX p T cc ad lv := by
  intro lv
  induction lv using Nat.strongRecOn with
  | ind lv ih =>
    have hfn : FnsOk p T cc ad lv := by
      cases lv with
      | zero => exact fns_zero
      | succ m => exact fns_succ hok (ih m (Nat.lt_succ_self m))
    intro fuel
    induction fuel with
    | zero =>
      intro c X k x q G h
      cases h
    | succ n IH =>
      intro c X k x q G h
      cases q with
      | e a b => exact snd_e hfn ih hok IH G h
      | es a b => exact snd_es IH G h
      | t a b => exact snd_t IH G h
      | w a b => exact snd_w IH G h
      | g a b => exact snd_g IH G h
      | gs a b => exact snd_gs IH G h
      | gn a b => exact snd_gn IH G h
      | o a b => exact snd_o IH G h
      | wk i l tg iter => exact snd_wk IH G h
      | s a b => exact snd_s IH G h
      | ss a b => exact snd_ss IH G h
theorem fns_all {F0 : Nat} (hok : p.ok F0 = true) : ∀ lv, FnsOk p T cc ad lv
  | 0 => fns_zero
  | lv + 1 => fns_succ hok (all_x hok lv)
end
end NC

set_option maxRecDepth 100000
/-! the law is called -/
namespace NC
open PySem PySem.Spec PyProof.Rows L2
section
variable {P : Program} {w : World} {K : PySem.W.Frag} {mg mb : Str → Option Value} {lv : Nat} {fa a : Addr} {cs : List (Addr × Addr)} {fd : FuncData} {x : Str} {sp : Sp} {s₁ : Shared} {vs : List Value} {ns : List Int}
/-- the tables, and the script if sc -/
def seenH (cs : List (Addr × Addr)) (a : Addr) (sc : Option HO) : Hp := fun b => if b ∈ cs.map (·.2) then some (.tbl #[]) else if b = a then sc else none
theorem law_call2 (KX : K.In s₁.heap) (hns : s₁.heap.Ns mainGlobals mg) (hb : s₁.heap.Ns builtinsNs mb) (hbb : ∀ x : Str, x ≠ "__name__" → mb x = bootBuiltins x) (hlim : s₁.heap.NoLimit) (hg : s₁.gens = #[])
    (hT : ∀ p ∈ cs, s₁.heap.get? p.2 = some { cls := .none, data := .fields #[] }) (nT : ∀ p ∈ cs, K.lookup p.2 = none) (C : ∀ p ∈ cs, PySem.W.CodeHd s₁.heap p.1 p.2)
    (hbm : ∃ (bm : Addr) (ob : Obj), mg "__builtins__" = some (.ref bm) ∧ bm ≠ builtinsNs ∧ s₁.heap.get? bm = some ob ∧ ob.cls = .type "module" ∧ ob.dict = some builtinsNs ∧ ob.data = .plain)
    (ha : s₁.heap.get? a = some { cls := .type "list", data := .seq vs.toArray }) (hi : IntsAre vs ns) (hl : ns.length ≤ sizeLine) (hr : Room lv callerA)
    (F : ∀ base : Heap, K.In base → base.Ns mainGlobals mg → (∀ p ∈ cs, LamX.TabB base mg p.1 p.2) → FnG P w K mg base lv fa fd [x] sp) (hbind : Binds K fd [x] [])
    (hsp : ∀ H : Hp, (∀ p ∈ cs, H p.2 = some (.tbl #[])) → ((∃ o, H a = some (.frz o (.lst (ns.map V.int)))) ∨ ∀ H, SqL K H a (ns.map V.int)) → sp [.ref a] H (fun v _ => v = .bl true) fun _ _ _ => False)
    (hCX : ∀ H e s', L2.CX P w [] H s₁ (fun _ _ _ => False) e s' → False) :
    codeAny (model P w) callerA (.call (.ref fa) ⟨[.ref a], []⟩) (fun r s' => r = .ok (.ret (.bool true)) ∧ OldK s₁.heap s'.heap ∧ s'.os = s₁.os ∧ AllBare s'.gens) s₁ := by
  have rv := vals_ints hi
  have lenV := hi.length
  have inT : ∀ {p : Addr × Addr}, p ∈ cs → p.2 ∈ cs.map (·.2) := fun hp => List.mem_map.mpr ⟨_, hp, rfl⟩
  have tab : ∀ b : Addr, b ∈ cs.map (·.2) → s₁.heap.get? b = some { cls := .none, data := .fields #[] } := fun b h => by
    obtain ⟨p, hp, rfl⟩ := List.mem_map.mp h
    exact hT p hp
  have aT : a ∉ cs.map (·.2) := fun z => by
    have q := tab a z
    rw [ha] at q
    have q2 : Data.seq vs.toArray _ = Data.fields #[] := congrArg Obj.data (Option.some.inj q)
    cases q2
  obtain ⟨sc, hsc, hS⟩ : ∃ sc : Option HO, ((sc = none ∧ K.lookup a ≠ none) ∨ (K.lookup a = none ∧ sc = some (.frz { cls := .type "list", data := .seq vs.toArray } (.lst (ns.map V.int))))) ∧ ((∃ o, seenH cs a sc a = some (.frz o (.lst (ns.map V.int)))) ∨ ∀ H, SqL K H a (ns.map V.int)) := by
    cases hk : K.lookup a with
    | none =>
      refine ⟨_, .inr ⟨rfl, rfl⟩, .inl ⟨{ cls := .type "list", data := .seq vs.toArray }, ?_⟩⟩
      unfold seenH
      rw [if_neg aT, if_pos rfl]
    | some o =>
      have e := KX a o hk
      rw [ha] at e
      cases e
      exact ⟨none, .inl ⟨rfl, fun z => nomatch z⟩, .inr fun H => .inr ⟨_, vs.toArray, _, hk, rfl, rfl, rfl, by rw [List.size_toArray, lenV]; exact hl, by simpa using rv⟩⟩
  have onT : ∀ p ∈ cs, seenH cs a sc p.2 = some (.tbl #[]) := fun p hp => if_pos (inT hp)
  have off : ∀ {b : Addr}, b ∉ cs.map (·.2) → b ≠ a → seenH cs a sc b = none := fun h1 h2 => by
    unfold seenH
    rw [if_neg h1, if_neg h2]
  have atA : seenH cs a sc a = sc := by
    unfold seenH
    rw [if_neg aT, if_pos rfl]
  have hok : HOk P w (seenH cs a sc) s₁.heap := fun b u z => by
    by_cases h1 : b ∈ cs.map (·.2)
    · have z' := (if_pos h1).symm.trans z
      cases z'
      exact tab b h1
    · by_cases h2 : b = a
      · rw [h2, atA] at z
        rcases hsc with ⟨h3, _⟩ | ⟨_, h3⟩
        · rw [h3] at z
          cases z
        · rw [h3] at z
          cases z
          rw [h2]
          exact ⟨ha, by rw [List.length_map]; exact hl, vs, _, rv, ha⟩
      · rw [off h1 h2] at z
        cases z
  -- objects of other kinds are not seen
  have free : ∀ {b : Addr} {o : Obj}, s₁.heap.get? b = some o → (∀ vs n, o.data ≠ .seq vs n) → o.data ≠ .fields #[] → seenH cs a sc b = none := fun {b o} e h1 h2 => by
    refine off (fun z => ?_) fun z => ?_
    · rw [tab b z] at e
      cases e
      exact h2 rfl
    · rw [z, ha] at e
      cases e
      exact h1 _ _ rfl
  have low : ∀ {b : Addr} {o : Obj}, s₁.heap.get? b = some o → seenH cs a sc b = none → (hidT s₁.heap (seenH cs a sc)).get? b = some o := fun e n => hidT_get e n
  have nsK : ∀ {b : Addr} {m : Str → Option Value}, s₁.heap.Ns b m → (hidT s₁.heap (seenH cs a sc)).Ns b m := fun {b m} ⟨o, es, ep, e, d, r⟩ =>
    ⟨o, es, ep, low e (free e (fun vs n z => by rw [d] at z; cases z) fun z => by rw [d] at z; cases z), d, r⟩
  have KL : K.In (hidT s₁.heap (seenH cs a sc)) := fun b o e => by
    refine low (KX b o e) (?_ : seenH cs a sc b = none)
    by_cases h1 : b ∈ cs.map (·.2)
    · obtain ⟨p, hp, rfl⟩ := List.mem_map.mp h1
      rw [nT p hp] at e
      cases e
    · by_cases h2 : b = a
      · rw [h2, atA]
        rcases hsc with ⟨h3, _⟩ | ⟨h3, _⟩
        · exact h3
        · rw [h2, h3] at e
          cases e
      · exact off h1 h2
  have hM : L2.Mod K mg (hidT s₁.heap (seenH cs a sc)) := ⟨KL, nsK hns, ⟨mb, nsK hb, hbb⟩, let ⟨mc, h1, h2⟩ := hlim; ⟨mc, nsK h1, h2⟩⟩
  obtain ⟨om, em, epm, ome, omd, _⟩ := hns
  have TB : ∀ p ∈ cs, LamX.TabB (hidT s₁.heap (seenH cs a sc)) mg p.1 p.2 := fun p hp => by
    have hTp := hT p hp
    refine ⟨?_, ?_, fun z => ?_⟩
    · obtain ⟨o, us, file, tf, flags, tg, inF, text, tt, e1, r1, r2, r3, r⟩ := C p hp
      refine ⟨o, us, file, tf, flags, tg, inF, text, tt, low e1 (free e1 (fun vs n z => by rw [r2] at z; cases z) fun z => ?_), r1, r2, r3, r⟩
      rw [r2] at z
      cases z
      simp at r3
    · obtain ⟨bm, ob, b1, b2, b3, b4, b5, b6⟩ := hbm
      refine ⟨bm, ob, b1, b2, fun q => ?_, fun q => ?_, low b3 (free b3 (fun vs n z => by rw [b6] at z; cases z) fun z => by rw [b6] at z; cases z), b4, b5, b6⟩
      · rw [q, ome] at b3
        cases b3
        rw [omd] at b6
        cases b6
      · rw [q, hTp] at b3
        cases b3
        cases b6
    · rw [z, hTp] at ome
      cases ome
      cases omd
  have e0 : Env0 P w K mg (hidT s₁.heap (seenH cs a sc)) callerA [] s₁ (seenH cs a sc) := ⟨rfl, hM, fun b o e => of_hidT e, Nat.le_of_eq (hidT_size _ _), trivial, fun b hb => absurd (show b ∈ ([] : List Addr) from hb) (by simp), hok, .of_eq hg⟩
  have bd := hbind s₁ [.ref a] KX rfl
  refine codeAny_mono ((F _ KL hM.glob TB).run callerA [] s₁ (seenH cs a sc) [.ref a] [.ref a] _ _ rfl hr e0 bd (.cons rfl .nil) (hsp _ onT hS)) fun r s' h => ?_
  match r, h with
  | .error e, h => exact (hCX _ e s' h).elim
  | .ok .next, h => exact False.elim h
  | .ok .brk, h => exact False.elim h
  | .ok .cont, h => exact False.elim h
  | .ok (.ret u), h =>
    obtain ⟨v, H', os, bare, un, hok', r', q⟩ := h
    have q' : v = .bl true := q
    subst q'
    obtain rfl : u = Value.bool true := r'
    have same : ∀ b o, b ∉ cs.map (·.2) → s₁.heap.get? b = some o → s'.heap.get? b = some o := fun b o nb e => by
      by_cases h2 : b = a
      · rcases hsc with ⟨h3, _⟩ | ⟨_, h3⟩
        · exact un.keep b o e (by rw [h2, atA, h3]) (fun z => nomatch (show b ∈ ([] : List Addr) from z)) (by simp)
        · have z : seenH cs a sc b = some (.frz { cls := .type "list", data := .seq vs.toArray } (.lst (ns.map V.int))) := by rw [h2, atA, h3]
          obtain ⟨e1, _⟩ := hok b _ z
          obtain ⟨e2, _⟩ := hok' b _ (un.frzs b _ _ z)
          rw [e] at e1
          cases e1
          exact e2
      · exact un.keep b o e (off nb h2) (fun z => nomatch (show b ∈ ([] : List Addr) from z)) (by simp)
    have more : ∀ p ∈ cs, ∃ us : Array Value, s'.heap.get? p.2 = some { cls := .none, data := .fields us } := fun p hp => by
      obtain ⟨us, z⟩ := un.tbls p.2 #[] (onT p hp)
      exact ⟨_, hok' p.2 _ z⟩
    refine ⟨rfl, ⟨fun b o e => ?_, fun b o e => ?_⟩, os, bare⟩
    · by_cases h1 : b ∈ cs.map (·.2)
      · obtain ⟨p, hp, rfl⟩ := List.mem_map.mp h1
        obtain ⟨us, hm⟩ := more p hp
        rw [hT p hp] at e
        cases e
        exact .inr (.inl ⟨((C p hp).tab (hT p hp)).isCodeTable, rfl, #[], us, rfl, by rw [Array.empty_append]; exact hm⟩)
      · exact .inl (same b o h1 e)
    · by_cases h1 : b ∈ cs.map (·.2)
      · obtain ⟨p, hp, rfl⟩ := List.mem_map.mp h1
        obtain ⟨us, hm⟩ := more p hp
        exact ⟨_, hm⟩
      · exact ⟨o, same b o h1 e⟩
end
end NC

set_option maxRecDepth 100000
/-! what the head tells; the law -/
namespace NC
open PySem PySem.Spec PyProof.Rows L2
open He (Fa DefD FnW fnW ga fAd frG asD AlD)
def codeAt (K : PySem.W.Frag) (nm : Str) : Option Addr := match K.lookup (ga K nm) with
  | some ⟨_, _, .func fd, _⟩ => (match fd.code with
    | .ref c => some c
    | _ => none)
  | _ => none
def isStrV : Value → Bool
  | .str _ _ => true
  | _ => false
def isIntV : Value → Bool
  | .int _ _ => true
  | _ => false
def isBoolV : Value → Bool
  | .bool _ => true
  | _ => false
def tabAt (K : PySem.W.Frag) (c : Addr) : Option Addr := match K.lookup c with
  | some ⟨.type t, _, .fields vs, _⟩ => (match vs.getD 11 .none with
    | .ref P => if (decide (t = "code") && (decide (vs[11]? = some (.ref P)) && (isStrV (vs.getD 18 .none) && (isIntV (vs.getD 7 .none) && (isBoolV (vs.getD 9 .none) && (isIntV (vs.getD 10 .none) && decide (c ≠ P))))))) = true then some P else none
    | _ => none)
  | _ => none
theorem tabAt_ok {K : PySem.W.Frag} {h : Heap} {c P : Addr} (X : K.In h) (e : tabAt K c = some P) : PySem.W.CodeHd h c P := by
  unfold tabAt at e
  split at e
  · rename_i t dd vs sl hk
    split at e
    · rename_i P0 h11
      split at e
      · rename_i hc
        cases e
        simp only [Bool.and_eq_true, decide_eq_true_eq] at hc
        obtain ⟨rfl, h1, h2, h3, h4, h5, h6⟩ := hc
        cases e18 : vs.getD 18 .none <;> first | (rw [e18] at h2; cases h2; done) | skip
        cases e7 : vs.getD 7 .none <;> first | (rw [e7] at h3; cases h3; done) | skip
        cases e9 : vs.getD 9 .none <;> first | (rw [e9] at h4; cases h4; done) | skip
        cases e10 : vs.getD 10 .none <;> first | (rw [e10] at h5; cases h5; done) | skip
        exact ⟨_, vs, _, _, _, _, _, _, _, X c _ hk, rfl, rfl, h1, h11, e18, e7, e9, e10, h6⟩
      · cases e
    · cases e
  · cases e
def lamNs (p : Pr) : List Str := (p.fns.filter (·.lam)).map (·.name)
def csOf (p : Pr) (K : PySem.W.Frag) : List (Addr × Addr) := (lamNs p).filterMap fun nm => (codeAt K nm).bind fun c => (tabAt K c).map fun P => (c, P)
def lamQ (nm : Str) : Str := (nm ++ ".<locals>.") ++ "<lambda>"
def TOf (p : Pr) (K : PySem.W.Frag) : List (Addr × Str) := (lamNs p).filterMap fun nm => (codeAt K nm).bind fun c => (tabAt K c).map fun P => (P, lamQ nm)
def cut (Ps : List Addr) (K : PySem.W.Frag) : PySem.W.Frag := K.filter fun q => !(Ps.contains q.1)
theorem mem_lkA {a : Addr} {o : Obj} : ∀ {l : PySem.W.Frag}, l.lookup a = some o → (a, o) ∈ l
  | (b, u) :: r, h => by
    have h2 : (match a == b with | true => some u | false => r.lookup a) = some o := h
    cases q : (a == b) with
    | true =>
      rw [q] at h2
      cases h2
      rw [beq_iff_eq.mp q]
      exact List.mem_cons_self
    | false =>
      rw [q] at h2
      exact List.mem_cons_of_mem _ (mem_lkA h2)
theorem cut_lk {Ps : List Addr} {a : Addr} {o : Obj} : ∀ {K : PySem.W.Frag}, (cut Ps K).lookup a = some o → K.lookup a = some o
  | [], h => h
  | (b, u) :: r, h => by
    unfold cut at h
    rw [List.filter_cons] at h
    split at h
    · show (match a == b with | true => some u | false => r.lookup a) = some o
      have h2 : (match a == b with | true => some u | false => (cut Ps r).lookup a) = some o := h
      cases q : (a == b) with
      | true =>
        rw [q] at h2
        exact h2
      | false =>
        rw [q] at h2
        exact cut_lk h2
    · rename_i hb
      have h3 : (cut Ps r).lookup a = some o := h
      have ha : (cut Ps r).lookup a ≠ none := by rw [h3]; exact fun z => nomatch z
      show (match a == b with | true => some u | false => r.lookup a) = some o
      cases q : (a == b) with
      | true =>
        exfalso
        have e : a = b := beq_iff_eq.mp q
        have hm : (a, o) ∈ cut Ps r := mem_lkA h3
        have := (List.mem_filter.mp hm).2
        rw [e] at this
        exact hb this
      | false => exact cut_lk h3
def cutP (p : Pr) (K0 : PySem.W.Frag) : PySem.W.Frag := cut ((csOf p K0).map (·.2)) K0
theorem cutP_in {p : Pr} {K0 : PySem.W.Frag} {h : Heap} (X : K0.In h) : (cutP p K0).In h := fun a o e => X a o (cut_lk e)
def dOf (f : FI) : DefD := ⟨(f.name, none), f.name, f.name, defArgs f.st, defBody f.st, defScope f.st, [], []⟩
def glB (K : PySem.W.Frag) (x : Str) (d : D) : Bool := match d, PySem.W.nsIn K mainGlobals x with
  | .int i, some (some (.int j _)) => decide (j = i)
  | .str z, some (some (.str y _)) => decide (y = z)
  | .bl b, some (some (.bool c)) => b == c
  | .non, some (some .none) => true
  | _, _ => false
def excB (K : PySem.W.Frag) (D : Addr) : Bool :=
  He.eqO (PySem.W.findIn K (.ref D) "__getattribute__") (some (some (.builtin "BaseException.__getattribute__"))) && (He.eqO (PySem.W.findIn K (.ref D) "__getattr__") (some none) && (decide (PySem.W.subIn K (.ref D) (.type "BaseException") = some true) && (PySem.W.hasDictIn K D &&
    (He.eqO (PySem.W.findIn K (.ref D) "__class__") (some (some (.builtin "object.__class__"))) && (He.eqO (PySem.W.specialIn K (.builtin "object.__class__") "__get__") (some (some (.builtin "getset_descriptor.__get__"))) && (decide (PySem.W.takesIn K (.builtin "object.__class__") = some true) && decide (PySem.W.mroIn K D (.type "object") = some true)))))))
theorem excB_ok {K : PySem.W.Frag} {D : Addr} (h : excB K D = true) : ExcC K D := by
  unfold excB at h
  simp only [Bool.and_eq_true, decide_eq_true_eq] at h
  obtain ⟨h1, h2, h3, h4, h5, h6, h7, h8⟩ := h
  exact ⟨He.eqO_ok h1, He.eqO_ok h2, h3, h4, He.eqO_ok h5, He.eqO_ok h6, h7, h8⟩
def ccP (p : Pr) (K : PySem.W.Frag) (i : Nat) : Value := .ref (ga K ((p.exs[i]?).getD Str.empty))
def adP (p : Pr) (K : PySem.W.Frag) (i : Nat) : Addr := ga K (((p.fns[i]?).map (·.name)).getD Str.empty)
def subB (p : Pr) (K : PySem.W.Frag) : Bool := decide (p.subs.length ≤ p.exs.length) && (p.subs.all (fun r => decide (r.length ≤ p.exs.length)) && (List.range p.exs.length).all fun a => (List.range p.exs.length).all fun b => match p.sub a b with
  | some r => decide (PySem.W.exmOne K (ccP p K a) (ccP p K b) = some r) && decide (PySem.W.kitOne K (ccP p K a) (ccP p K b) = some r)
  | none => true)
def isTab0 : Option Obj → Bool
  | some ⟨.none, none, .fields vs, sl⟩ => vs.isEmpty && sl.isEmpty
  | _ => false
def factsB (p : Pr) (K0 : PySem.W.Frag) : Bool :=
  (p.fns.all fun fi => (Fa.glo fi.name).ok (cutP p K0) && (dOf fi).ok (cutP p K0)) && ((p.bns.all fun x => (Fa.free x).ok (cutP p K0)) && ((p.gls.all fun q => glB (cutP p K0) q.1 q.2) && ((p.exs.all fun x => (Fa.glo x).ok (cutP p K0) && ((Fa.exc x).ok (cutP p K0) && excB (cutP p K0) (ga (cutP p K0) x))) && (subB p (cutP p K0) &&
    (((csOf p (cutP p K0)).all fun q => isTab0 (K0.lookup q.2) && (((cutP p K0).lookup q.2).isNone)) && (decide (((csOf p (cutP p K0)).map (·.2)).Nodup) && ((lamNs p).all fun nm => ((codeAt (cutP p K0) nm).bind (tabAt (cutP p K0))).isSome)))))))
def obs2 (p : Pr) (K0 : PySem.W.Frag) : AlD := (factsB p K0, p.fns.map fun fi => fnW (cutP p K0) (fi.name, none))
def valP (p : Pr) : AlD := (true, p.fns.map fun fi => (dOf fi).val)
def obsP (n : Nat) (p : Pr) (g : Addr → Option Obj) : AlD := obs2 p (frG g (asD g n))
def hookP (n : Nat) (p : Pr) : PySem.W.Hook where
  α := AlD
  obs := fun s => obsP n p s.heap.get?
  val := fun _ => valP p
  says := fun _ h => ∃ K0 : PySem.W.Frag, K0.In h ∧ obs2 p K0 = valP p
  of := fun _ _ e => ⟨_, He.frG_in, e⟩
  keeps := fun _ _ _ ⟨K, hK, c⟩ k => ⟨K, PySem.W.Frag.In.keeps hK k, c⟩
theorem obsP_eq {n : Nat} {p : Pr} {g : Addr → Option Obj} {s : Shared} (h : ∀ a, g a = s.heap.get? a) : obsP n p g = (hookP n p).obs s := by
  have e : g = s.heap.get? := funext h
  rw [e] <;> rfl
theorem cs_tab {p : Pr} {K : PySem.W.Frag} {nm : Str} (hm : nm ∈ lamNs p) {c P : Addr} (h1 : codeAt K nm = some c) (h2 : tabAt K c = some P) : (c, P) ∈ csOf p K ∧ (P, lamQ nm) ∈ TOf p K := by
  constructor <;> refine List.mem_filterMap.mpr ⟨nm, hm, ?_⟩ <;> rw [h1] <;> show Option.map _ (tabAt K c) = _ <;> rw [h2] <;> rfl
theorem t_uq {p : Pr} {K : PySem.W.Frag} : ∀ (l : List Str), ((l.filterMap fun nm => (codeAt K nm).bind fun c => (tabAt K c).map fun P => (c, P)).map (·.2)).Nodup → ∀ q ∈ (l.filterMap fun nm => (codeAt K nm).bind fun c => (tabAt K c).map fun P => (P, lamQ nm)), ∀ nm P, nm ∈ l → (codeAt K nm).bind (tabAt K) = some P → q.1 = P → q.2 = lamQ nm
  | [], _, q, hq, _, _, _, _, _ => by cases hq
  | m :: l, nd, q, hq, nm, P, hm, hP, e => by
    have ih := t_uq (p := p) (K := K) l
    have mem2 : ∀ {m' P'}, m' ∈ l → (codeAt K m').bind (tabAt K) = some P' → P' ∈ (l.filterMap fun nm => (codeAt K nm).bind fun c => (tabAt K c).map fun P => (c, P)).map (·.2) := fun {m' P'} h1 h2 => by
      obtain ⟨c, h3, h4⟩ := Option.bind_eq_some_iff.mp h2
      refine List.mem_map.mpr ⟨(c, P'), List.mem_filterMap.mpr ⟨m', h1, ?_⟩, rfl⟩
      rw [h3]
      show Option.map _ (tabAt K c) = _
      rw [h4]
      rfl
    rw [List.filterMap_cons] at nd hq
    cases hc : (codeAt K m).bind (tabAt K) with
    | none =>
      have e1 : ((codeAt K m).bind fun c => (tabAt K c).map fun P => (c, P)) = none := by
        cases h5 : codeAt K m with
        | none => rfl
        | some c =>
          rw [h5] at hc
          show Option.map _ (tabAt K c) = none
          rw [show tabAt K c = none from hc]
          rfl
      have e2 : ((codeAt K m).bind fun c => (tabAt K c).map fun P => (P, lamQ m)) = none := by
        cases h5 : codeAt K m with
        | none => rfl
        | some c =>
          rw [h5] at hc
          show Option.map _ (tabAt K c) = none
          rw [show tabAt K c = none from hc]
          rfl
      rw [e1] at nd
      rw [e2] at hq
      rcases List.mem_cons.mp hm with rfl | hm
      · rw [hc] at hP
        cases hP
      · exact ih nd q hq nm P hm hP e
    | some P0 =>
      obtain ⟨c0, h5, h6⟩ := Option.bind_eq_some_iff.mp hc
      have e1 : ((codeAt K m).bind fun c => (tabAt K c).map fun P => (c, P)) = some (c0, P0) := by
        rw [h5]
        show Option.map _ (tabAt K c0) = _
        rw [h6]
        rfl
      have e2 : ((codeAt K m).bind fun c => (tabAt K c).map fun P => (P, lamQ m)) = some (P0, lamQ m) := by
        rw [h5]
        show Option.map _ (tabAt K c0) = _
        rw [h6]
        rfl
      rw [e1] at nd
      rw [e2] at hq
      have nd2 := List.nodup_cons.mp (show (P0 :: _ : List Addr).Nodup from nd)
      rcases List.mem_cons.mp hm with rfl | hm
      · rw [hc] at hP
        cases hP
        rcases List.mem_cons.mp hq with rfl | hq
        · rfl
        · exfalso
          obtain ⟨m', h7, h8⟩ := List.mem_filterMap.mp hq
          obtain ⟨c1, h9, h10⟩ := Option.bind_eq_some_iff.mp h8
          obtain ⟨P1, h11, h12⟩ := Option.map_eq_some_iff.mp h10
          refine nd2.1 (mem2 h7 (Option.bind_eq_some_iff.mpr ⟨c1, h9, ?_⟩))
          rw [h11, ← e, ← h12]
      · rcases List.mem_cons.mp hq with rfl | hq
        · exfalso
          have e3 : P0 = P := e
          rw [e3] at nd2
          exact nd2.1 (mem2 hm hP)
        · exact ih nd2.2 q hq nm P hm hP e
section
variable {p : Pr} {K0 : PySem.W.Frag} {h : Heap} {mg : Str → Option Value}
theorem glB_ok {K : PySem.W.Frag} {x : Str} {d : D} (X : K.In h) (G : h.Ns mainGlobals mg) (e : glB K x d = true) : ∃ v u, mg x = some u ∧ RelV v u ∧ ∀ (K' : PySem.W.Frag) w, RD K' w d v := by
  unfold glB at e
  split at e
  · rename_i hk
    have e := of_decide_eq_true e
    subst e
    exact ⟨.int _, _, PySem.W.mg_of X G hk, ⟨_, rfl⟩, fun _ _ => .int _⟩
  · rename_i hk
    have e := of_decide_eq_true e
    subst e
    exact ⟨.str _, _, PySem.W.mg_of X G hk, ⟨_, rfl⟩, fun _ _ => .str _⟩
  · rename_i hk
    have e := beq_iff_eq.mp e
    subst e
    exact ⟨.bl _, _, PySem.W.mg_of X G hk, rfl, fun _ _ => .bl _⟩
  · rename_i hk
    exact ⟨.non, _, PySem.W.mg_of X G hk, rfl, fun _ _ => .non⟩
  · cases e
theorem fun_of {K : PySem.W.Frag} {f : FI} {fd : FuncData} (F : L2.FunD K f.name f.name (defArgs f.st) (defBody f.st) (defScope f.st) [] [] (ga K f.name) fd) : L2.Fun K f.name f.name f.st (ga K f.name) fd := by
  obtain ⟨⟨oc, od, dV, kV, doc, pm, an, cdv, ct, osl, e, lk, hc, hD, _⟩, kp⟩ := F
  rcases hD with ⟨_, hd⟩ | ⟨hd, _⟩
  · subst hd
    exact ⟨⟨oc, od, kV, doc, pm, an, cdv, ct, osl, e, lk, hc⟩, kp⟩
  · exact absurd rfl hd
theorem code_fd {K : PySem.W.Frag} {f : FI} {fd : FuncData} {c : Addr} (F : L2.Fun K f.name f.name f.st (ga K f.name) fd) (hc : codeAt K f.name = some c) : fd.code = .ref c := by
  obtain ⟨⟨oc, od, kV, doc, pm, an, cdv, ct, osl, e, lk, _⟩, _⟩ := F
  unfold codeAt at hc
  rw [lk] at hc
  subst e
  dsimp only at hc ⊢
  split at hc
  · cases hc
    rfl
  · cases hc
theorem fun_at (e : obs2 p K0 = valP p) {i : Nat} {fi : FI} (hi : p.fns[i]? = some fi) : ∃ fd, L2.Fun (cutP p K0) fi.name fi.name fi.st (ga (cutP p K0) fi.name) fd := by
  have f := congrArg (fun z : AlD => z.1) e
  have f2 : p.fns.map (fun fi => fnW (cutP p K0) (fi.name, none)) = p.fns.map fun fi => (dOf fi).val := congrArg (fun z : AlD => z.2) e
  have f : factsB p K0 = true := f
  unfold factsB at f
  simp only [Bool.and_eq_true, List.all_eq_true, decide_eq_true_eq] at f
  obtain ⟨b1, b2⟩ := f.1 fi (List.mem_of_getElem? hi)
  have e1 : fnW (cutP p K0) (fi.name, none) = (dOf fi).val := by
    have e2 : (p.fns.map fun fi => fnW (cutP p K0) (fi.name, none))[i]? = (p.fns.map fun fi => (dOf fi).val)[i]? := by rw [f2]
    rw [List.getElem?_map, List.getElem?_map, hi] at e2
    exact Option.some.inj e2
  obtain ⟨fd, F⟩ := He.DefD.funD (d := dOf fi) e1 b2
  exact ⟨fd, fun_of (f := fi) F⟩
/-- what the law leans on -/
theorem pf_of (X : K0.In h) (G : h.Ns mainGlobals mg) (e : obs2 p K0 = valP p) (base : Heap) (TB : ∀ q ∈ csOf p (cutP p K0), LamX.TabB base mg q.1 q.2) : PF p (TOf p (cutP p K0)) (ccP p (cutP p K0)) (adP p (cutP p K0)) (cutP p K0) mg base := by
  have f := congrArg (fun z : AlD => z.1) e
  have f2 : p.fns.map (fun fi => fnW (cutP p K0) (fi.name, none)) = p.fns.map fun fi => (dOf fi).val := congrArg (fun z : AlD => z.2) e
  have f : factsB p K0 = true := f
  have KX : (cutP p K0).In h := cutP_in X
  unfold factsB at f
  simp only [Bool.and_eq_true, List.all_eq_true, decide_eq_true_eq] at f
  obtain ⟨a1, a2, a3, a4, a5, a6, a7, a8⟩ := f
  refine ⟨fun i fi hi => ?_, fun g n d hg => ?_, fun n hn => ?_, fun i n hn => ?_, fun a b r hr => ?_⟩
  · obtain ⟨b1, b2⟩ := a1 fi (List.mem_of_getElem? hi)
    have e1 : fnW (cutP p K0) (fi.name, none) = (dOf fi).val := by
      have e2 : (p.fns.map fun fi => fnW (cutP p K0) (fi.name, none))[i]? = (p.fns.map fun fi => (dOf fi).val)[i]? := by rw [f2]
      rw [List.getElem?_map, List.getElem?_map, hi] at e2
      exact Option.some.inj e2
    obtain ⟨fd, F⟩ := He.DefD.funD (d := dOf fi) e1 b2
    have F' := fun_of (f := fi) F
    have ha : adP p (cutP p K0) i = ga (cutP p K0) fi.name := by
      unfold adP
      rw [hi]
      rfl
    rw [ha]
    refine ⟨fd, F', He.glo_ok KX G b1, fun hl => ?_⟩
    have hm : fi.name ∈ lamNs p := List.mem_map.mpr ⟨fi, List.mem_filter.mpr ⟨List.mem_of_getElem? hi, hl⟩, rfl⟩
    obtain ⟨P, hP⟩ := Option.isSome_iff_exists.mp (a8 _ hm)
    obtain ⟨c, h1, h2⟩ := Option.bind_eq_some_iff.mp hP
    obtain ⟨h3, h4⟩ := cs_tab hm h1 h2
    exact ⟨c, P, code_fd F' h1, TB _ h3, h4, fun q hq e => t_uq (p := p) _ a7 q hq fi.name P hm hP e⟩
  · obtain ⟨v, u, h1, h2, h3⟩ := glB_ok KX G (a3 (n, d) (List.mem_of_getElem? hg))
    exact ⟨v, u, h1, h2, h3 _⟩
  · exact He.free_ok KX G (a2 n hn)
  · obtain ⟨b1, b2, b3⟩ := a4 n (List.mem_of_getElem? hn)
    obtain ⟨c1, c2, c3, c4⟩ := He.exc_ok b2
    refine ⟨ga (cutP p K0) n, ?_, He.glo_ok KX G b1, c1, c2, c3, c4, excB_ok b3⟩
    unfold ccP
    rw [hn]
    rfl
  · unfold subB at a5
    simp only [Bool.and_eq_true, List.all_eq_true, decide_eq_true_eq, List.mem_range] at a5
    obtain ⟨b1, b2, b3⟩ := a5
    have hr' := hr
    unfold Pr.sub at hr'
    split at hr'
    · rename_i row hrow
      have l1 := (List.getElem?_eq_some_iff.mp hrow).1
      have l2 := (List.getElem?_eq_some_iff.mp hr').1
      have l3 := b2 row (List.mem_of_getElem? hrow)
      have z := b3 a (by omega) b (by omega)
      rw [hr] at z
      simp only [Bool.and_eq_true, decide_eq_true_eq] at z
      exact ⟨z.1, z.2, by omega⟩
    · cases hr'
end
/-- the law holds -/
theorem walk_main {l : PySem.W.OpenLaw} {p : Pr} {n lv F0 i0 : Nat} {q : Program} {loose : List Str} {XP : (Str → Option Value) → Heap → Prop} {d : DefRec} {x : Str} {fl : FI} (hn : l.most = some 63) (hdf : d.params.defaults = []) (hr : Room lv callerA) (hok : p.ok F0 = true) (hi : p.fns[i0]? = some fl) (hh : fl.hof = false) (hps : fl.ps = [x]) (hname : d.name = fl.name)
    (plain : ∀ ns : List Int, ns.length ≤ 63 → (∀ z ∈ ns, Builtin.Int.intBits z ≤ 1048576) → ∃ st, (p.orc lv).fn i0 [.scr (ns.map D.int)] [] = .ok (.d (.bl true)) st) :
    PySem.W.WalkO q loose XP (hookP n p).says l.row.toRowW d [] (fun f vs => PySem.call f vs) := by
  refine Att.attach_callB hn hdf fun w s₀ s₁ mg mb fa o pm cd doc a vs ns G Y ho hd hcd hmg hobj hints hlen hbits hg => ?_
  obtain ⟨K0, X0, e⟩ := Y
  have G1 := G.T.g
  have f : factsB p K0 = true := congrArg (fun z : AlD => z.1) e
  unfold factsB at f
  simp only [Bool.and_eq_true, List.all_eq_true, decide_eq_true_eq] at f
  obtain ⟨_, _, _, _, _, a6, a7, a8⟩ := f
  have KX : (cutP p K0).In s₁.heap := cutP_in X0
  have csm : ∀ q ∈ csOf p (cutP p K0), tabAt (cutP p K0) q.1 = some q.2 := fun q hq => by
    obtain ⟨nm, _, h1⟩ := List.mem_filterMap.mp hq
    obtain ⟨c, _, h2⟩ := Option.bind_eq_some_iff.mp h1
    obtain ⟨P, h3, h4⟩ := Option.map_eq_some_iff.mp h2
    rw [← h4]
    exact h3
  obtain ⟨fd, F⟩ := fun_at e hi
  have hfi := List.all_eq_true.mp hok fl (List.mem_of_getElem? hi)
  rw [Bool.and_eq_true] at hfi
  obtain ⟨S, _, _, _, hb⟩ := fi_ok hfi.1
  have bd := args_ok F hb (fi_nd S)
  rw [hps] at bd
  have ha : adP p (cutP p K0) i0 = ga (cutP p K0) fl.name := by
    unfold adP
    rw [hi]
    rfl
  have hfa : fa = ga (cutP p K0) fl.name := by
    have f : factsB p K0 = true := congrArg (fun z : AlD => z.1) e
    unfold factsB at f
    simp only [Bool.and_eq_true, List.all_eq_true, decide_eq_true_eq] at f
    have g := He.glo_ok KX G1 (f.1 fl (List.mem_of_getElem? hi)).1
    rw [← hname, hmg] at g
    cases g
    rw [hname]
  refine law_call2 (sp := spF (cutP p K0) (TOf p (cutP p K0)) (p.orc lv) (ccP p (cutP p K0)) i0) KX G.T.g G.T.b G.T.builtins G.T.nolimit hg (fun q hq => ?_) (fun q hq => ?_) (fun q hq => tabAt_ok KX (csm q hq)) G.T.bmain hobj hints (Nat.le_trans hlen (by rw [sizeLine_eq]; decide)) hr (fun base hK hns TB => ?_) bd (fun H hH hS => ?_) fun H e s' h => ?_
  · have z := (a6 q hq).1
    have z2 : ∃ vs sl, K0.lookup q.2 = some ⟨.none, none, .fields vs, sl⟩ ∧ vs = #[] ∧ sl = #[] := by
      unfold isTab0 at z
      split at z
      · rename_i vs sl e2
        rw [Bool.and_eq_true] at z
        exact ⟨vs, sl, e2, by simpa using z.1, by simpa using z.2⟩
      · cases z
    obtain ⟨vs, sl, e2, rfl, rfl⟩ := z2
    exact X0 _ _ e2
  · have z := (a6 q hq).2
    simpa using z
  · have pf := pf_of (mg := mg) X0 G1 e base TB
    have z := fns_all hok lv l.prog w (cutP p K0) mg base pf i0 fl fd hi hh (by rw [ha]; exact F)
    rw [ha, hps, ← hfa] at z
    exact z
  · obtain ⟨st, hp⟩ := plain ns hlen hbits
    refine ⟨⟨fun _ => False, [], H, TOf p (cutP p K0)⟩, [.scr (ns.map D.int)], [], rfl, rfl, ⟨rfl, fun i j a h => by simp at h, fun i a h => by simp at h, fun a h => h.elim, fun i a c h => by simp at h, ?_⟩, .cons ?_ .nil, ?_⟩
    · intro q hq
      obtain ⟨nm, hm, h1⟩ := List.mem_filterMap.mp hq
      obtain ⟨c, h2, h3⟩ := Option.bind_eq_some_iff.mp h1
      obtain ⟨P, h4, h5⟩ := Option.map_eq_some_iff.mp h3
      have h6 := hH _ (cs_tab hm h2 h4).1
      rw [← h5]
      exact LamX.TabS.nil h6
    · refine ⟨a, ns.map V.int, rfl, hS, ?_⟩
      clear hS hH hp hbits hlen hints hobj
      induction ns with
      | nil => exact .nil
      | cons z r ih => exact .cons (.int z) ih
    · rw [hp]
      intro w' v l' ok' r'
      cases r'
      rfl
  · obtain ⟨_, _, _, _, _, _, _, _, _, _, _, _, _, z⟩ := h
end NC

set_option maxRecDepth 100000
/-! how long a text is; what is drawn -/
namespace NC
open PySem
mutual
/-- at most so many signs -/
def D.sz : D → Nat
  | .non => 4
  | .bl _ => 5
  | .int i => i.natAbs.log2 + 3
  | .str x => 10 * x.length + 2
  | .tup l => D.szs l + 4
  | .lst l => D.szs l + 4
def D.szs : List D → Nat
  | [] => 0
  | d :: r => D.sz d + 2 + D.szs r
end
mutual
def D.fine : D → Bool
  | .int i => decide (i.natAbs.log2 < 1920)
  | .str x => x.cps.toList.all fun c => decide (c < 4294967296)
  | .tup l => D.fines l
  | .lst l => D.fines l
  | _ => true
def D.fines : List D → Bool
  | [] => true
  | d :: r => D.fine d && D.fines r
end
mutual
def D.dep : D → Nat
  | .tup l => D.deps l + 1
  | .lst l => D.deps l + 1
  | _ => 0
def D.deps : List D → Nat
  | [] => 0
  | d :: r => max (D.dep d) (D.deps r)
end
theorem textFrom_le : ∀ (ts : List Str) (k : Nat) (acc : Str), (textFrom k acc ts).length ≤ acc.length + piled ts
  | [], k, acc => by show acc.length ≤ acc.length + _; omega
  | t :: r, k, acc => by
    have h := textFrom_le r (k + 1) (acc ++ (if k > 0 then ", " else "" : String) ++ t)
    have e : (acc ++ (if k > 0 then ", " else "" : String) ++ t).length = acc.length + (if k > 0 then 2 else 0) + t.length := by
      rw [strLen_append, strLen_append]
      split <;> rfl
    rw [e] at h
    show (textFrom (k + 1) _ r).length ≤ _
    have e2 : piled (t :: r) = t.length + 2 + piled r := by simp [piled]
    rw [e2]
    have hb : (if k > 0 then 2 else 0) ≤ 2 := by split <;> omega
    omega
theorem listText_le (ts : List Str) : (listText ts).length ≤ piled ts + 2 := by
  unfold listText
  rw [strLen_append]
  have h := textFrom_le ts 0 "["
  have e1 : (("[" : String) : Str).length = 1 := rfl
  have e2 : (("]" : String) : Str).length = 1 := rfl
  rw [e1] at h
  rw [e2]
  omega
theorem tupleText_le (ts : List Str) : (tupleText ts).length ≤ piled ts + 4 := by
  unfold tupleText
  rw [strLen_append, strLen_append]
  have e1 : ((("(" : String) : Str)).length = 1 := rfl
  have e3 : (((if ts.length == 1 then ",)" else ")" : String) : Str)).length ≤ 2 := by split <;> decide
  have e4 : (Str.join ", " ts).length ≤ piled ts := by
    cases ts with
    | nil => decide
    | cons a r =>
      have := join_length_add (a :: r) (by simp)
      omega
  rw [e1]
  omega
mutual
theorem shown_le : ∀ d : D, d.fine = true → d.py.shown.length ≤ d.sz
  | .non, _ => by unfold D.py D.sz PyData.shown; decide
  | .bl b, _ => by cases b <;> (unfold D.py D.sz PyData.shown; decide)
  | .int i, _ => by
    unfold D.py D.sz PyData.shown
    have h := int_text_length_le (a := i) (k := i.natAbs.log2 + 1) (by omega) (by omega)
    show (Str.ofString (toString i)).length ≤ _
    rw [ofString_length]
    omega
  | .str x, h => by
    unfold D.py D.sz PyData.shown
    unfold D.fine at h
    simp only [List.all_eq_true, decide_eq_true_eq] at h
    have := PySem.StrLaws.reprText_len x fun c hc => by
      have := h c hc
      show c < 16 ^ 8
      omega
    omega
  | .tup l, h => by
    have h2 : D.fines l = true := by simpa only [D.fine] using h
    unfold D.py D.sz PyData.shown
    have h1 := showns_le l h2
    have h3 := tupleText_le (PyData.shownAll (D.pys l))
    omega
  | .lst l, h => by
    have h2 : D.fines l = true := by simpa only [D.fine] using h
    unfold D.py D.sz PyData.shown
    have h1 := showns_le l h2
    have h3 := listText_le (PyData.shownAll (D.pys l))
    omega
theorem showns_le : ∀ l : List D, D.fines l = true → piled (PyData.shownAll (D.pys l)) ≤ D.szs l
  | [], _ => by unfold D.pys PyData.shownAll D.szs; decide
  | d :: r, h => by
    have h2 : d.fine = true ∧ D.fines r = true := by simpa only [D.fines, Bool.and_eq_true] using h
    unfold D.pys PyData.shownAll D.szs
    have h3 := shown_le d h2.1
    have h4 := showns_le r h2.2
    have e2 : ∀ (t : Str) (r : List Str), piled (t :: r) = t.length + 2 + piled r := fun t r => by simp [piled]
    rw [e2]
    omega
end
mutual
theorem showable_of : ∀ d : D, d.fine = true → d.py.showable = true
  | .non, _ => by unfold D.py PyData.showable; rfl
  | .bl b, _ => by unfold D.py PyData.showable; rfl
  | .int i, h => by unfold D.py PyData.showable; simpa only [D.fine] using h
  | .str x, _ => by unfold D.py PyData.showable; rfl
  | .tup l, h => by
    unfold D.py PyData.showable
    exact showables_of l (by simpa only [D.fine] using h)
  | .lst l, h => by
    unfold D.py PyData.showable
    exact showables_of l (by simpa only [D.fine] using h)
theorem showables_of : ∀ l : List D, D.fines l = true → PyData.showableAll (D.pys l) = true
  | [], _ => by unfold D.pys PyData.showableAll; rfl
  | d :: r, h => by
    have h2 : d.fine = true ∧ D.fines r = true := by simpa only [D.fines, Bool.and_eq_true] using h
    unfold D.pys PyData.showableAll
    rw [showable_of d h2.1, showables_of r h2.2]
    rfl
end
mutual
theorem depth_eq : ∀ d : D, d.py.depth = d.dep
  | .non => by unfold D.py PyData.depth D.dep; rfl
  | .bl b => by unfold D.py PyData.depth D.dep; rfl
  | .int i => by unfold D.py PyData.depth D.dep; rfl
  | .str x => by unfold D.py PyData.depth D.dep; rfl
  | .tup l => by unfold D.py PyData.depth D.dep; rw [depths_eq l]
  | .lst l => by unfold D.py PyData.depth D.dep; rw [depths_eq l]
theorem depths_eq : ∀ l : List D, PyData.depthAll (D.pys l) = D.deps l
  | [] => by unfold D.pys PyData.depthAll D.deps; rfl
  | d :: r => by unfold D.pys PyData.depthAll D.deps; rw [depth_eq d, depths_eq r]
end
/-- a repr is let -/
theorem showOk_of {d : D} (h1 : d.fine = true) (h2 : d.sz ≤ 16777216) (h3 : d.dep ≤ 60) : showOk d = true := by
  unfold showOk
  rw [showable_of d h1, depth_eq]
  have := shown_le d h1
  have e : lenOk d.py.shown.length = true := decide_eq_true (by omega)
  rw [e]
  simpa using h3
theorem log_le {i : Int} {k : Nat} (h : i.natAbs < 2 ^ k) (hk : 0 < k) : i.natAbs.log2 < k := by
  by_cases h0 : i.natAbs = 0
  · rw [h0]
    simpa using hk
  · exact (Nat.log2_lt h0).mpr h
end NC

set_option maxRecDepth 100000
set_option maxHeartbeats 4000000
/-! what is drawn from the script -/
namespace NC
open PySem
/-- the hand: the script's numbers, how far, what is left of one, two seeds -/
structure Hd where
  cells : List Int
  p : Nat
  rest : Int
  seed : Int
  cnt : Int
def Hd.cell (h : Hd) : Cell := .lst [.lst (h.cells.map D.int), .int h.p, .int h.rest, .int h.seed, .int h.cnt]
def Hd.ok (h : Hd) : Prop := 0 ≤ h.rest
theorem mulOk_r {i j : Int} (h : -18446744073709551616 < j ∧ j < 18446744073709551616) : mulOk i j = true := by
  simp [mulOk, h.1, h.2]
theorem mulOk_l {i j : Int} (h : -18446744073709551616 < i ∧ i < 18446744073709551616) : mulOk i j = true := by
  simp [mulOk, h.1, h.2]
theorem atD_nat {l : List D} {p : Nat} (h : p < l.length) : atD l (p : Int) = l[p]? := by
  unfold atD L2.atI L2.ixN
  have h1 : (0 : Int) ≤ p := Int.natCast_nonneg p
  simp [h]
structure DA where
  (c1 c2 c3 m1 e1 c4 c5 m2 d1 c6 m3 d2 c7 m4 d3 : Int)
/-- a number that stands in the text -/
def sm (i : Int) : Bool := decide (0 < i) && decide (i < 9223372036854775808)
def DA.ok (a : DA) : Bool := sm a.c1 && (sm a.c2 && (sm a.c3 && (sm a.m1 && (decide (a.e1 = 18 ∨ a.e1 = 15) && (sm a.c4 && (sm a.c5 && (sm a.m2 && (sm a.d1 && (sm a.c6 && (sm a.m3 && (sm a.d2 && (sm a.c7 && (sm a.m4 && sm a.d3)))))))))))))
def drawA1 (a : DA) : S := (.ite (.and (.e (.cmp .eq (.ix (.var 0) (.con (.int 2))) (.con (.int 0)))) (.e (.cmp .lt (.ix (.var 0) (.con (.int 1))) (.bi .len [(.ix (.var 0) (.con (.int 0)))])))) [(.asg (.v 3) (.ix (.ix (.var 0) (.con (.int 0))) (.ix (.var 0) (.con (.int 1))))), (.sub (.var 0) (.con (.int 1)) (.bin .add (.ix (.var 0) (.con (.int 1))) (.con (.int 1)))), (.sub (.var 0) (.con (.int 3)) (.bin .mod (.bi .int [(.bin .add (.bin .add (.bin .mul (.ix (.var 0) (.con (.int 3))) (.con (.int a.c1))) (.bin .mul (.var 3) (.con (.int a.c2)))) (.con (.int a.c3)))]) (.con (.int a.m1)))), (.ite (.e (.cmp .ge (.var 3) (.bin .pow (.con (.int 10)) (.con (.int a.e1))))) [(.sub (.var 0) (.con (.int 2)) (.var 3))] [])] [])
def drawA2 (a : DA) : List S := [(.ite (.e (.cmp .gt (.ix (.var 0) (.con (.int 2))) (.con (.int 0)))) [(.asg (.v 4) (.bin .mod (.bi .int [(.ix (.var 0) (.con (.int 2)))]) (.var 1))), (.sub (.var 0) (.con (.int 2)) (.bin .fdiv (.ix (.var 0) (.con (.int 2))) (.var 1))), (.ret (.var 4))] []), (.sub (.var 0) (.con (.int 4)) (.bin .add (.ix (.var 0) (.con (.int 4))) (.con (.int 1)))), (.asg (.v 2) (.bin .mod (.bi .int [(.bin .mul (.bi .int [(.bin .add (.ix (.var 0) (.con (.int 3))) (.bin .mul (.con (.int a.c4)) (.ix (.var 0) (.con (.int 4)))))]) (.con (.int a.c5)))]) (.con (.int a.m2)))), (.asg (.v 2) (.bin .mod (.bi .int [(.bin .mul (.var 2) (.bin .add (.bin .fdiv (.var 2) (.con (.int a.d1))) (.con (.int a.c6))))]) (.con (.int a.m3)))), (.asg (.v 2) (.bin .mod (.bi .int [(.bin .mul (.var 2) (.bin .add (.bin .fdiv (.var 2) (.con (.int a.d2))) (.con (.int a.c7))))]) (.con (.int a.m4)))), (.ret (.bin .mod (.bi .int [(.bin .fdiv (.var 2) (.con (.int a.d3)))]) (.var 1)))]
theorem sm_ok {i : Int} (h : sm i = true) : 0 < i ∧ i < 9223372036854775808 := by simpa [sm] using h
theorem log_small {j : Int} (h : j.natAbs < 2 ^ 8999) : j.natAbs.log2 < 9000 := by
  have := log_le (k := 8999) h (by decide)
  omega
theorem p64 : (2 : Nat) ^ 64 = 18446744073709551616 := by decide
theorem divOk_sm {j : Int} (h : 0 < j ∧ j < 9223372036854775808) : divOk j = true := by
  have h1 : j.natAbs < 2 ^ 64 := by
    rw [p64]
    omega
  have h2 := log_le h1 (by decide)
  simp [divOk, h.1]
  omega
theorem at0 {c : Hd} : atD [.lst (c.cells.map D.int), .int c.p, .int c.rest, .int c.seed, .int c.cnt] 0 = some (.lst (c.cells.map D.int)) := rfl
theorem at1 {c : Hd} : atD [.lst (c.cells.map D.int), .int c.p, .int c.rest, .int c.seed, .int c.cnt] 1 = some (.int c.p) := rfl
theorem at2 {c : Hd} : atD [.lst (c.cells.map D.int), .int c.p, .int c.rest, .int c.seed, .int c.cnt] 2 = some (.int c.rest) := rfl
theorem at3 {c : Hd} : atD [.lst (c.cells.map D.int), .int c.p, .int c.rest, .int c.seed, .int c.cnt] 3 = some (.int c.seed) := rfl
theorem at4 {c : Hd} : atD [.lst (c.cells.map D.int), .int c.p, .int c.rest, .int c.seed, .int c.cnt] 4 = some (.int c.cnt) := rfl
theorem i5 {l : List D} (h : l.length = 5) : L2.ixN l.length 0 = some 0 ∧ L2.ixN l.length 1 = some 1 ∧ L2.ixN l.length 2 = some 2 ∧ L2.ixN l.length 3 = some 3 ∧ L2.ixN l.length 4 = some 4 := by
  rw [h]
  exact ⟨rfl, rfl, rfl, rfl, rfl⟩
theorem ix51 : L2.ixN 5 1 = some 1 := rfl
theorem ix52 : L2.ixN 5 2 = some 2 := rfl
theorem ix53 : L2.ixN 5 3 = some 3 := rfl
theorem ix54 : L2.ixN 5 4 = some 4 := rfl
theorem ten18 : (10 : Int) ^ (18 : Int).toNat = 1000000000000000000 := by decide
theorem powOk10 : powOk 10 18 = true ∧ powOk 10 15 = true := by decide +kernel
theorem ten15 : (10 : Int) ^ (15 : Int).toNat = 1000000000000000 := by decide
theorem draw1 (a : DA) (ha : a.ok = true) (C : Orc) (h : Hd) (hk : h.ok) (many : W) (y2 y3 y4 : Option W) (st : Sto) : ∃ (h' : Hd) (z : Option W), h'.ok ∧ evS C (drawA1 a) [some (.loc 0), some many, y2, y3, y4] (h.cell :: st) = .ok .nx [some (.loc 0), some many, y2, z, y4] (h'.cell :: st) := by
  unfold DA.ok at ha
  simp only [Bool.and_eq_true] at ha
  obtain ⟨a1, a2, a3, a4, a5, a6, a7, a8, a9, a10, a11, a12, a13, a14, a15⟩ := ha
  have b1 := sm_ok a1
  have b2 := sm_ok a2
  have b4 := sm_ok a4
  have hr : 0 ≤ h.rest := hk
  by_cases h0 : h.rest = 0
  by_cases h1 : h.p < h.cells.length
  · have g : (h.cells.map D.int)[h.p]? = some (.int h.cells[h.p]) := by simp [h1]
    have g2 : atD (h.cells.map D.int) (h.p : Int) = some (.int h.cells[h.p]) := by rw [atD_nat (by simpa using h1), g]
    have k1 : mulOk h.seed a.c1 = true := mulOk_r ⟨by omega, by omega⟩
    have k2 : mulOk h.cells[h.p] a.c2 = true := mulOk_r ⟨by omega, by omega⟩
    have lt : (h.p : Int) < (h.cells.length : Int) := by omega
    have gp : h.cells[h.p]? = some h.cells[h.p] := List.getElem?_eq_getElem h1
    rcases of_decide_eq_true a5 with e | e
    · by_cases h2 : (1000000000000000000 : Int) ≤ h.cells[h.p]
      · refine ⟨⟨h.cells, h.p + 1, h.cells[h.p], (h.seed * a.c1 + h.cells[h.p] * a.c2 + a.c3) % a.m1, h.cnt⟩, some (.d (.int h.cells[h.p])), ?_, ?_⟩
        · show 0 ≤ h.cells[h.p]
          omega
        · simp [drawA1, NC.start, evSs, evS, evE, evEs, evT, evO, Out.bind, Out.toS, W.get, W.getS, W.pl, W.old, finF, ofO, gets, cmpD, binD, biD, ixD, truD, freshL, lenOk, NC.eqD, Hd.cell, at0, at1, at2, at3, at4, ix51, ix52, ix53, ix54, h0, lt, g2, gp, k1, k2, b4.1, e, powOk10.1, powOk10.2, ten18, ten15, h2, setW, atD, L2.atI, L2.ixN]
      · refine ⟨⟨h.cells, h.p + 1, 0, (h.seed * a.c1 + h.cells[h.p] * a.c2 + a.c3) % a.m1, h.cnt⟩, some (.d (.int h.cells[h.p])), ?_, ?_⟩
        · exact Int.le_refl 0
        · simp [drawA1, NC.start, evSs, evS, evE, evEs, evT, evO, Out.bind, Out.toS, W.get, W.getS, W.pl, W.old, finF, ofO, gets, cmpD, binD, biD, ixD, truD, freshL, lenOk, NC.eqD, Hd.cell, at0, at1, at2, at3, at4, ix51, ix52, ix53, ix54, h0, lt, g2, gp, k1, k2, b4.1, e, powOk10.1, powOk10.2, ten18, ten15, h2, setW, atD, L2.atI, L2.ixN]
    · by_cases h2 : (1000000000000000 : Int) ≤ h.cells[h.p]
      · refine ⟨⟨h.cells, h.p + 1, h.cells[h.p], (h.seed * a.c1 + h.cells[h.p] * a.c2 + a.c3) % a.m1, h.cnt⟩, some (.d (.int h.cells[h.p])), ?_, ?_⟩
        · show 0 ≤ h.cells[h.p]
          omega
        · simp [drawA1, NC.start, evSs, evS, evE, evEs, evT, evO, Out.bind, Out.toS, W.get, W.getS, W.pl, W.old, finF, ofO, gets, cmpD, binD, biD, ixD, truD, freshL, lenOk, NC.eqD, Hd.cell, at0, at1, at2, at3, at4, ix51, ix52, ix53, ix54, h0, lt, g2, gp, k1, k2, b4.1, e, powOk10.1, powOk10.2, ten18, ten15, h2, setW, atD, L2.atI, L2.ixN]
      · refine ⟨⟨h.cells, h.p + 1, 0, (h.seed * a.c1 + h.cells[h.p] * a.c2 + a.c3) % a.m1, h.cnt⟩, some (.d (.int h.cells[h.p])), ?_, ?_⟩
        · exact Int.le_refl 0
        · simp [drawA1, NC.start, evSs, evS, evE, evEs, evT, evO, Out.bind, Out.toS, W.get, W.getS, W.pl, W.old, finF, ofO, gets, cmpD, binD, biD, ixD, truD, freshL, lenOk, NC.eqD, Hd.cell, at0, at1, at2, at3, at4, ix51, ix52, ix53, ix54, h0, lt, g2, gp, k1, k2, b4.1, e, powOk10.1, powOk10.2, ten18, ten15, h2, setW, atD, L2.atI, L2.ixN]
  · refine ⟨h, y3, hk, ?_⟩
    have lt : ¬ (h.p : Int) < (h.cells.length : Int) := by omega
    simp [drawA1, NC.start, evSs, evS, evE, evEs, evT, evO, Out.bind, Out.toS, W.get, W.getS, W.pl, W.old, finF, ofO, gets, cmpD, binD, biD, ixD, truD, freshL, lenOk, NC.eqD, Hd.cell, at0, at1, at2, h0, lt, atD, L2.atI, L2.ixN]
  · refine ⟨h, y3, hk, ?_⟩
    simp [drawA1, NC.start, evSs, evS, evE, evEs, evT, evO, Out.bind, Out.toS, W.get, W.getS, W.pl, W.old, finF, ofO, gets, cmpD, binD, biD, ixD, truD, freshL, lenOk, NC.eqD, Hd.cell, at2, h0, atD, L2.atI, L2.ixN]
theorem draw2 (a : DA) (ha : a.ok = true) (C : Orc) (h : Hd) (hk : h.ok) (many : Int) (hm : 0 < many) (hd : divOk many = true) (y2 y3 y4 : Option W) (st : Sto) : ∃ (r : Int) (h' : Hd) (ρ : Rho), 0 ≤ r ∧ r < many ∧ h'.ok ∧ evSs C (drawA2 a) [some (.loc 0), some (.d (.int many)), y2, y3, y4] (h.cell :: st) = .ok (.rt (.d (.int r))) ρ (h'.cell :: st) := by
  unfold DA.ok at ha
  simp only [Bool.and_eq_true] at ha
  obtain ⟨a1, a2, a3, a4, a5, a6, a7, a8, a9, a10, a11, a12, a13, a14, a15⟩ := ha
  have b6 := sm_ok a6
  have b7 := sm_ok a7
  have b8 := sm_ok a8
  have b9 := sm_ok a9
  have b11 := sm_ok a11
  have b12 := sm_ok a12
  have b14 := sm_ok a14
  have b15 := sm_ok a15
  have hr : 0 ≤ h.rest := hk
  by_cases h0 : 0 < h.rest
  · refine ⟨h.rest % many, ⟨h.cells, h.p, h.rest / many, h.seed, h.cnt⟩, [some (.loc 0), some (.d (.int many)), y2, y3, some (.d (.int (h.rest % many)))], Int.emod_nonneg _ (by omega), Int.emod_lt_of_pos _ hm, Int.ediv_nonneg hr (by omega), ?_⟩
    simp [drawA2, NC.start, evSs, evS, evE, evEs, evT, evO, Out.bind, Out.toS, W.get, W.getS, W.pl, W.old, finF, ofO, gets, cmpD, binD, biD, ixD, truD, freshL, lenOk, NC.eqD, Hd.cell, h0, hm, hd, setW, atD, L2.atI, L2.ixN]
  · let n1 : Int := (h.seed + a.c4 * (h.cnt + 1)) * a.c5 % a.m2
    let n2 : Int := n1 * (n1 / a.d1 + a.c6) % a.m3
    let n3 : Int := n2 * (n2 / a.d2 + a.c7) % a.m4
    have k1 : mulOk a.c4 (h.cnt + 1) = true := mulOk_l ⟨by omega, by omega⟩
    have k2 : mulOk (h.seed + a.c4 * (h.cnt + 1)) a.c5 = true := mulOk_r ⟨by omega, by omega⟩
    have l1 : 0 ≤ n1 := Int.emod_nonneg _ (by omega)
    have l2 : n1 < a.m2 := Int.emod_lt_of_pos _ b8.1
    have l3 : 0 ≤ n2 := Int.emod_nonneg _ (by omega)
    have l4 : n2 < a.m3 := Int.emod_lt_of_pos _ b11.1
    have k3 : mulOk n1 (n1 / a.d1 + a.c6) = true := mulOk_l ⟨by omega, by omega⟩
    have k4 : mulOk n2 (n2 / a.d2 + a.c7) = true := mulOk_l ⟨by omega, by omega⟩
    have q1 := divOk_sm b9
    have q2 := divOk_sm b12
    have q3 := divOk_sm b15
    refine ⟨n3 / a.d3 % many, ⟨h.cells, h.p, h.rest, h.seed, h.cnt + 1⟩, [some (.loc 0), some (.d (.int many)), some (.d (.int n3)), y3, y4], Int.emod_nonneg _ (by omega), Int.emod_lt_of_pos _ hm, hk, ?_⟩
    simp only [n1, n2, n3] at k3 k4 ⊢
    simp [drawA2, NC.start, evSs, evS, evE, evEs, evT, evO, Out.bind, Out.toS, W.get, W.getS, W.pl, W.old, finF, ofO, gets, cmpD, binD, biD, ixD, truD, freshL, lenOk, NC.eqD, Hd.cell, h0, hm, setW, atD, L2.atI, L2.ixN, k1, k2, k3, k4, q1, q2, q3, b8.1, b11.1, b14.1]
/-- a draw -/
theorem draw_spec (a : DA) (ha : a.ok = true) (C : Orc) (h : Hd) (hk : h.ok) (many : Int) (hm : 0 < many) (hd : divOk many = true) (st : Sto) : ∃ (r : Int) (h' : Hd) (ρ : Rho), 0 ≤ r ∧ r < many ∧ h'.ok ∧ evSs C (drawA1 a :: drawA2 a) [some (.loc 0), some (.d (.int many)), none, none, none] (h.cell :: st) = .ok (.rt (.d (.int r))) ρ (h'.cell :: st) := by
  obtain ⟨h1, z, k1, e1⟩ := draw1 a ha C h hk (.d (.int many)) none none none st
  obtain ⟨r, h2, ρ, l1, l2, k2, e2⟩ := draw2 a ha C h1 k1 many hm hd none z none st
  refine ⟨r, h2, ρ, l1, l2, k2, ?_⟩
  rw [evSs, e1]
  exact e2
/-- the def of it -/
theorem draw_fn {p : Pr} {n i : Nat} {fi : FI} {a : DA} (ha : a.ok = true) (hi : p.fns[i]? = some fi) (hb : fi.fd = ⟨2, 5, drawA1 a :: drawA2 a⟩) (h : Hd) (hk : h.ok) (many : Int) (hm : 0 < many) (hd : divOk many = true) (st : Sto) :
    ∃ (r : Int) (h' : Hd), 0 ≤ r ∧ r < many ∧ h'.ok ∧ (p.orc (n + 1)).fn i [.loc 0, .d (.int many)] (h.cell :: st) = .ok (.d (.int r)) (h'.cell :: st) := by
  obtain ⟨r, h', ρ, l1, l2, k, e⟩ := draw_spec a ha (p.orc n) h hk many hm hd st
  refine ⟨r, h', l1, l2, k, ?_⟩
  rw [orc_fn hi, hb]
  show (if 2 = 2 then finF _ (evSs (p.orc n) (drawA1 a :: drawA2 a) [some (.loc 0), some (.d (.int many)), none, none, none] (h.cell :: st)) else .stuck) = _
  rw [if_pos rfl, e]
  simp [finF, W.old]
end NC

set_option maxRecDepth 100000
set_option maxHeartbeats 4000000
/-! the hand, one of some, the same text -/
namespace NC
open PySem
def Draws (p : Pr) (n j : Nat) : Prop := ∀ (h : Hd), h.ok → ∀ many : Int, 0 < many → divOk many = true → ∀ st : Sto, ∃ (r : Int) (h' : Hd), 0 ≤ r ∧ r < many ∧ h'.ok ∧ (p.orc n).fn j [.loc 0, .d (.int many)] (h.cell :: st) = .ok (.d (.int r)) (h'.cell :: st)
theorem loopC_map {k : Walk} (hk : k.at_ = none) {f : D → Sto → Out (Option D)} {g : D → D} {st : Sto} : ∀ (l acc : List D), (∀ d ∈ l, f d st = .ok (some (g d)) st) → acc.length + l.length ≤ 16777216 → loopC k f l acc st = .ok (acc ++ l.map g) st
  | [], acc, _, _ => by simp [loopC, Walk.ok, hk]
  | d :: r, acc, h, hl => by
    rw [List.length_cons] at hl
    have h1 := h d List.mem_cons_self
    have h2 : acc.length < 16777216 := by omega
    simp only [loopC, Walk.ok, hk, if_true, h1, h2, decide_true]
    rw [loopC_map hk r (acc ++ [g d]) (fun d hd => h d (List.mem_cons_of_mem _ hd)) (by simp; omega)]
    simp
def handA (c1 c2 : Int) : List S := [(.asg (.v 1) (.comp false (.v 2) .seq [(.sl (.var 0) none (some (.con (.int 63))))] none (.bi .abs [(.bi .int [(.var 2)])]))), (.ret (.ldisp true [(.var 1), (.con (.int 0)), (.con (.int 0)), (.bin .add (.con (.int c1)) (.bin .mul (.con (.int c2)) (.bi .len [(.var 1)]))), (.con (.int 0))]))]
theorem cut_map (ns : List Int) (lo hi : Option Int) : ∃ ms : List Int, cutD (ns.map D.int) lo hi = ms.map D.int ∧ ms.length ≤ ns.length := by
  unfold cutD
  rw [List.length_map]
  refine ⟨(ns.drop (HT.sIx ns.length 0 lo)).take (HT.sIx ns.length ns.length hi - HT.sIx ns.length 0 lo), by simp, ?_⟩
  simp
  omega
def absI (i : Int) : Int := if i < 0 then -i else i
theorem hand_fn {p : Pr} {n i : Nat} {fi : FI} {c1 c2 : Int} (hc : sm c2 = true) (hi : p.fns[i]? = some fi) (hb : fi.fd = ⟨1, 3, handA c1 c2⟩) (ns : List Int) (hl : ns.length ≤ 63) :
    ∃ h : Hd, h.ok ∧ (p.orc (n + 1)).fn i [.scr (ns.map D.int)] [] = .ok (.loc 0) [h.cell] := by
  obtain ⟨ms, e, hm⟩ := cut_map ns none (some 63)
  have b := sm_ok hc
  have k1 : mulOk c2 ((ms.map absI).length : Int) = true := mulOk_l ⟨by omega, by omega⟩
  have k1' : mulOk c2 (ms.length : Int) = true := mulOk_l ⟨by omega, by omega⟩
  refine ⟨⟨ms.map absI, 0, 0, c1 + c2 * ms.length, 0⟩, Int.le_refl 0, ?_⟩
  have loop : loopC ⟨ms.map D.int, none⟩ (compF (p.orc n) (.v 2) none (.bi .abs [(.bi .int [(.var 2)])]) [some (.scr (ns.map D.int)), none, none]) (ms.map D.int) [] [] = .ok ((ms.map absI).map D.int) [] := by
    have := loopC_map (k := ⟨ms.map D.int, none⟩) rfl (f := compF (p.orc n) (.v 2) none (.bi .abs [(.bi .int [(.var 2)])]) [some (.scr (ns.map D.int)), none, none]) (g := fun d => match d with | .int i => .int (absI i) | d => d) (st := []) (ms.map D.int) [] (fun d hd => by
      obtain ⟨z, _, rfl⟩ := List.mem_map.mp hd
      simp [compF, NC.start, evSs, evS, evE, evEs, evT, evO, Out.bind, Out.toS, W.get, W.getS, W.pl, W.old, finF, ofO, gets, cmpD, binD, biD, ixD, truD, freshL, lenOk, NC.eqD, setT, wipeR, TG.vs, oneD, absI]) (by simp; omega)
    rw [this]
    simp
  have e1 : evE (p.orc n) (.comp false (.v 2) .seq [(.sl (.var 0) none (some (.con (.int 63))))] none (.bi .abs [(.bi .int [(.var 2)])])) [some (.scr (ns.map D.int)), none, none] [] = .ok (.d (.lst ((ms.map absI).map D.int))) [] := by
    rw [evE_comp]
    have e2 : evEs (p.orc n) [(.sl (.var 0) none (some (.con (.int 63))))] [some (.scr (ns.map D.int)), none, none] [] = .ok [.d (.lst (ms.map D.int))] [] := by
      simp [NC.start, evSs, evS, evE, evEs, evT, evO, Out.bind, Out.toS, W.get, W.getS, W.pl, W.old, finF, ofO, gets, cmpD, binD, biD, ixD, truD, freshL, lenOk, NC.eqD, slD, e]
    rw [e2]
    simp only [Out.bind, walkOf, walkSeq]
    rw [loop]
    rfl
  rw [orc_fn hi, hb]
  simp only [handA, evSs, evS]
  show (if 1 = 1 then _ else _) = _
  rw [if_pos rfl]
  have hst : NC.start 3 [W.scr (ns.map D.int)] = [some (.scr (ns.map D.int)), none, none] := rfl
  show finF 0 (match ((evE (p.orc n) _ (NC.start 3 [W.scr (ns.map D.int)]) []).toS _ (fun w s1 => match setW (TG.v 1) w (NC.start 3 [W.scr (ns.map D.int)]) with
    | some ρ' => OutS.ok Fl.nx ρ' s1
    | none => OutS.stuck)) with
    | OutS.ok Fl.nx ρ' s1 => _
    | o => o) = _
  rw [hst, e1]
  simp [NC.start, evSs, evS, evE, evEs, evT, evO, Out.bind, Out.toS, W.get, W.getS, W.pl, W.old, finF, ofO, gets, cmpD, binD, biD, ixD, truD, freshL, lenOk, NC.eqD, setW, Hd.cell, k1']
def someA (j : Nat) : List S := [(.ret (.ix (.var 1) (.call j [(.var 0), (.bi .len [(.var 1)])])))]
def Somes (p : Pr) (n j : Nat) : Prop := ∀ (h : Hd), h.ok → ∀ l : List D, l ≠ [] → l.length < 9000000000000000000 → ∀ st : Sto, ∃ x ∈ l, ∃ h' : Hd, h'.ok ∧ (p.orc n).fn j [.loc 0, .d (.lst l)] (h.cell :: st) = .ok (.d x) (h'.cell :: st)
theorem some_fn {p : Pr} {n i j : Nat} {fi : FI} (hd : Draws p n j) (hi : p.fns[i]? = some fi) (hb : fi.fd = ⟨2, 2, someA j⟩) : Somes p (n + 1) i := by
  intro h hk l hl hs st
  have h0 : 0 < l.length := List.length_pos_iff.mpr hl
  obtain ⟨r, h', l1, l2, k, e⟩ := hd h hk l.length (by omega) (divOk_sm ⟨by omega, by omega⟩) st
  have hr : r.toNat < l.length := by omega
  refine ⟨l[r.toNat], List.getElem_mem hr, h', k, ?_⟩
  rw [orc_fn hi, hb]
  have e2 : atD l r = some l[r.toNat] := by
    have h3 : (r.toNat : Int) = r := by omega
    have h4 := atD_nat hr
    rw [h3] at h4
    rw [h4]
    simp [hr]
  simp [someA, NC.start, evSs, evS, evE, evEs, evT, evO, Out.bind, Out.toS, W.get, W.getS, W.pl, W.old, finF, ofO, gets, cmpD, binD, biD, ixD, truD, freshL, lenOk, NC.eqD, e, e2]
def isA : List S := [(.ret (.cmp .eq (.bi .repr [(.var 0)]) (.bi .repr [(.var 1)])))]
def Iss (p : Pr) (n j : Nat) : Prop := ∀ (a b : D) (st : Sto), showOk a = true → showOk b = true → (p.orc n).fn j [.d a, .d b] st = .ok (.d (.bl (decide (a.py.shown = b.py.shown)))) st
theorem is_fn {p : Pr} {n i : Nat} {fi : FI} (hi : p.fns[i]? = some fi) (hb : fi.fd = ⟨2, 2, isA⟩) : Iss p (n + 1) i := by
  intro a b st ha hb2
  rw [orc_fn hi, hb]
  simp [isA, NC.start, evSs, evS, evE, evEs, evT, evO, Out.bind, Out.toS, W.get, W.getS, W.pl, W.old, finF, ofO, gets, cmpD, binD, biD, ixD, truD, freshL, lenOk, NC.eqD, ha, hb2]
theorem Iss.same {p : Pr} {n j : Nat} (h : Iss p n j) {a : D} (st : Sto) (ha : showOk a = true) : (p.orc n).fn j [.d a, .d a] st = .ok (.d (.bl true)) st := by
  rw [h a a st ha ha]
  simp
theorem loopS_inv {k : Walk} (hk : k.at_ = none) {f : D → Rho → Sto → OutS} {I : Rho → Sto → Prop} : ∀ (l : List D) (ρ : Rho) (st : Sto), (∀ d ∈ l, ∀ ρ st, I ρ st → ∃ ρ' st', f d ρ st = .ok .nx ρ' st' ∧ I ρ' st') → I ρ st → ∃ ρ' st', loopS k f l ρ st = .ok .nx ρ' st' ∧ I ρ' st'
  | [], ρ, st, _, h => ⟨ρ, st, by simp [loopS, Walk.ok, hk], h⟩
  | d :: r, ρ, st, H, h => by
    obtain ⟨ρ1, s1, e1, h1⟩ := H d List.mem_cons_self ρ st h
    obtain ⟨ρ2, s2, e2, h2⟩ := loopS_inv hk r ρ1 s1 (fun d hd => H d (List.mem_cons_of_mem _ hd)) h1
    refine ⟨ρ2, s2, ?_, h2⟩
    simp only [loopS, Walk.ok, hk, if_true, e1]
    exact e2
theorem range_mem {a : Int} {n : Nat} {d : D} (h : d ∈ rangeD a n) : ∃ i : Int, d = .int i ∧ a ≤ i ∧ i < a + n := by
  obtain ⟨j, hj, rfl⟩ := List.mem_map.mp h
  have := List.mem_range.mp hj
  exact ⟨_, rfl, by omega, by omega⟩
/-- for .. in range(e) -/
theorem fo_rng {C : Orc} {i : Nat} {e : E} {b : List S} {ρ : Rho} {st : Sto} {n : Int} {I : Rho → Sto → Prop} (he : evE C e ρ st = .ok (.d (.int n)) st) (hr : rngOk n = true) (h0 : I ρ st) (H : ∀ (j : Int) ρ st, 0 ≤ j → j < n → I ρ st → ∃ ρ' st', i < ρ.length ∧ evSs C b (ρ.set i (some (.d (.int j)))) st = .ok .nx ρ' st' ∧ I ρ' st') :
    ∃ ρ' st', evS C (.fo (.v i) .rng [e] b) ρ st = .ok .nx ρ' st' ∧ I ρ' st' := by
  have hw : walkOf .rng [.d (.int n)] st = some ⟨rangeD 0 n.toNat, none⟩ := by
    simp [walkOf, walkRng, hr]
  obtain ⟨ρ', st', e1, h1⟩ := loopS_inv (k := ⟨rangeD 0 n.toNat, none⟩) rfl (f := fun d ρ s => match setT (.v i) d ρ with
        | some ρ' => evSs C b ρ' s
        | none => .stuck) (I := I) (rangeD 0 n.toNat) ρ st (fun d hd ρ st h => by
    obtain ⟨j, rfl, j0, j1⟩ := range_mem hd
    obtain ⟨ρ', st', hl, e1, h1⟩ := H j ρ st j0 (by omega) h
    exact ⟨ρ', st', by simp [setT, hl, e1], h1⟩) h0
  refine ⟨ρ', st', ?_, h1⟩
  simp only [evS, evEs, he, Out.bind, Out.toS]
  rw [hw]
  exact e1
theorem blsT {α : Type} : ∀ l : List α, blsOf (l.map fun _ => D.bl true) = some (l.map fun _ => true)
  | [] => rfl
  | _ :: r => by
    have ih := blsT r
    simp only [List.map_cons, blsOf, ih]
    rfl
theorem ev_bi1 {C : Orc} {f : Bi} {a : E} {ρ : Rho} {st s : Sto} {v : D} (h : evE C a ρ st = .ok (.d v) s) : evE C (.bi f [a]) ρ st = ofO ((biD f [v]).map .d) s := by
  have e : evE C (.bi f [a]) ρ st = ((evE C a ρ st).bind fun w s1 => (Out.ok ([] : List W) s1).bind fun ws s2 => .ok (w :: ws) s2).bind (fun ws s1 => match gets ws s1 with
    | some ds => ofO ((biD f ds).map .d) s1
    | none => .stuck) := rfl
  rw [e, h]
  rfl
/-- all([.. for .. in range(e)]), each true -/
theorem all_rng {C : Orc} {i : Nat} {e x : E} {ρ : Rho} {st : Sto} {n : Int} (he : evE C e ρ st = .ok (.d (.int n)) st) (hr : rngOk n = true) (hn : n ≤ 16777216) (hi : i < ρ.length) (H : ∀ j : Int, 0 ≤ j → j < n → evE C x ((ρ.set i none).set i (some (.d (.int j)))) st = .ok (.d (.bl true)) st) :
    evE C (.bi .all [.comp false (.v i) .rng [e] none x]) ρ st = .ok (.d (.bl true)) st := by
  have hw : walkOf .rng [.d (.int n)] st = some ⟨rangeD 0 n.toNat, none⟩ := by
    simp [walkOf, walkRng, hr]
  have loop := loopC_map (k := ⟨rangeD 0 n.toNat, none⟩) rfl (f := compF C (.v i) none x ρ) (g := fun _ => .bl true) (st := st) (rangeD 0 n.toNat) [] (fun d hd => by
    obtain ⟨j, rfl, j0, j1⟩ := range_mem hd
    have h := H j j0 (by omega)
    simp only [compF, setT, TG.vs, wipeR]
    have hl : i < (ρ.set i none).length := by simpa using hi
    rw [if_pos hl]
    simp only [Out.bind, if_true, h, oneD]) (by simp [rangeD]; omega)
  have e1 : evE C (.comp false (.v i) .rng [e] none x) ρ st = .ok (.d (.lst ((rangeD 0 n.toNat).map fun _ => .bl true))) st := by
    rw [evE_comp]
    simp only [evEs, he, Out.bind]
    rw [hw]
    simp only []
    rw [loop]
    rfl
  rw [ev_bi1 e1]
  simp [biD, blsT, ofO]
end NC

set_option maxRecDepth 100000
set_option maxHeartbeats 0
namespace K01
open PySem NC
def top (i : Nat) : Stmt := PySem.Challenge.pw_namescopied_k01_whole_circles_great_and.main.body.getD i (.Pass ⟨0, 0, 0, 0⟩)
/-- is_integer -/
def b0 : List S := [(.ret (.and (.bi (.isi .int) [(.var 0)]) (.not (.bi (.isi .bool) [(.var 0)]))))]
def f0 : FI := ⟨"is_integer", [("thing" : Str)], [("thing" : Str)], top 1, ⟨1, 1, b0⟩, false, false⟩
/-- is_within -/
def b1 : List S := [(.ret (.and (.call 0 [(.var 0)]) (.chain .le .le (.var 1) (.var 0) (.var 2))))]
def f1 : FI := ⟨"is_within", [("thing" : Str), ("low" : Str), ("high" : Str)], [("thing" : Str), ("low" : Str), ("high" : Str)], top 2, ⟨3, 3, b1⟩, false, false⟩
/-- check_circle -/
def b2 : List S := [(.ite (.not (.e (.call 1 [(.var 0), (.glob 0), (.glob 1)]))) [(.raise 0)] [])]
def f2 : FI := ⟨"check_circle", [("circle" : Str)], [("circle" : Str)], top 15, ⟨1, 1, b2⟩, false, false⟩
/-- is_serial -/
def b3 : List S := [(.ret (.call 1 [(.var 1), (.con (.int 0)), (.bin .sub (.var 0) (.con (.int 1)))]))]
def f3 : FI := ⟨"is_serial", [("circle" : Str), ("thing" : Str)], [("circle" : Str), ("thing" : Str)], top 16, ⟨2, 2, b3⟩, false, false⟩
/-- check_serial -/
def b4 : List S := [(.ite (.not (.e (.call 3 [(.var 0), (.var 1)]))) [(.raise 1)] [])]
def f4 : FI := ⟨"check_serial", [("circle" : Str), ("serial" : Str)], [("circle" : Str), ("serial" : Str)], top 17, ⟨2, 2, b4⟩, false, false⟩
/-- check_two -/
def b5 : List S := [(.ex (.call 2 [(.var 0)])), (.ex (.call 4 [(.var 0), (.var 1)])), (.ex (.call 4 [(.var 0), (.var 2)]))]
def f5 : FI := ⟨"check_two", [("circle" : Str), ("one" : Str), ("other" : Str)], [("circle" : Str), ("one" : Str), ("other" : Str)], top 18, ⟨3, 3, b5⟩, false, false⟩
/-- half_of -/
def b6 : List S := [(.ret (.bin .fdiv (.bin .sub (.var 0) (.con (.int 1))) (.con (.int 2))))]
def f6 : FI := ⟨"half_of", [("circle" : Str)], [("circle" : Str)], top 19, ⟨1, 1, b6⟩, false, false⟩
/-- half -/
def b7 : List S := [(.ex (.call 2 [(.var 0)])), (.ret (.call 6 [(.var 0)]))]
def f7 : FI := ⟨"half", [("circle" : Str)], [("circle" : Str)], top 20, ⟨1, 1, b7⟩, false, false⟩
/-- steps_on -/
def b8 : List S := [(.ret (.bin .mod (.bin .sub (.var 2) (.var 1)) (.var 0)))]
def f8 : FI := ⟨"steps_on", [("circle" : Str), ("one" : Str), ("other" : Str)], [("circle" : Str), ("one" : Str), ("other" : Str)], top 21, ⟨3, 3, b8⟩, false, false⟩
/-- ahead -/
def b9 : List S := [(.ex (.call 5 [(.var 0), (.var 1), (.var 2)])), (.ret (.call 8 [(.var 0), (.var 1), (.var 2)]))]
def f9 : FI := ⟨"ahead", [("circle" : Str), ("one" : Str), ("other" : Str)], [("circle" : Str), ("one" : Str), ("other" : Str)], top 22, ⟨3, 3, b9⟩, false, false⟩
/-- sort_by -/
def b10 : List S := [(.ite (.e (.cmp .eq (.var 1) (.con (.int 0)))) [(.ret (.glob 2))] []), (.ite (.e (.cmp .le (.var 1) (.call 6 [(.var 0)]))) [(.ret (.glob 3))] []), (.ret (.ite (.e (.cmp .eq (.bin .mul (.con (.int 2)) (.var 1)) (.var 0))) (.glob 5) (.glob 4)))]
def f10 : FI := ⟨"sort_by", [("circle" : Str), ("steps" : Str)], [("circle" : Str), ("steps" : Str)], top 23, ⟨2, 2, b10⟩, false, false⟩
/-- sort_of -/
def b11 : List S := [(.ex (.call 5 [(.var 0), (.var 1), (.var 2)])), (.ret (.call 10 [(.var 0), (.call 8 [(.var 0), (.var 1), (.var 2)])]))]
def f11 : FI := ⟨"sort_of", [("circle" : Str), ("one" : Str), ("other" : Str)], [("circle" : Str), ("one" : Str), ("other" : Str)], top 24, ⟨3, 3, b11⟩, false, false⟩
/-- stepped -/
def b12 : List S := [(.ex (.call 2 [(.var 0)])), (.ex (.call 4 [(.var 0), (.var 1)])), (.ite (.not (.e (.call 0 [(.var 2)]))) [(.raise 2)] []), (.ret (.bin .mod (.bin .add (.var 1) (.var 2)) (.var 0)))]
def f12 : FI := ⟨"stepped", [("circle" : Str), ("serial" : Str), ("number" : Str)], [("circle" : Str), ("serial" : Str), ("number" : Str)], top 25, ⟨3, 3, b12⟩, false, false⟩
/-- _law_hand -/
def b13 : List S := [(.asg (.v 1) (.comp false (.v 2) .seq [(.sl (.var 0) none (some (.con (.int 63))))] none (.bi .abs [(.bi .int [(.var 2)])]))), (.ret (.ldisp true [(.var 1), (.con (.int 0)), (.con (.int 0)), (.bin .add (.con (.int 95011)) (.bin .mul (.con (.int 66)) (.bi .len [(.var 1)]))), (.con (.int 0))]))]
def f13 : FI := ⟨"_law_hand", [("script" : Str)], [("script" : Str), ("cells" : Str), ("cell" : Str)], top 27, ⟨1, 3, b13⟩, false, false⟩
/-- _law_draw -/
def b14 : List S := [(.ite (.and (.e (.cmp .eq (.ix (.var 0) (.con (.int 2))) (.con (.int 0)))) (.e (.cmp .lt (.ix (.var 0) (.con (.int 1))) (.bi .len [(.ix (.var 0) (.con (.int 0)))])))) [(.asg (.v 3) (.ix (.ix (.var 0) (.con (.int 0))) (.ix (.var 0) (.con (.int 1))))), (.sub (.var 0) (.con (.int 1)) (.bin .add (.ix (.var 0) (.con (.int 1))) (.con (.int 1)))), (.sub (.var 0) (.con (.int 3)) (.bin .mod (.bi .int [(.bin .add (.bin .add (.bin .mul (.ix (.var 0) (.con (.int 3))) (.con (.int 69621))) (.bin .mul (.var 3) (.con (.int 40692)))) (.con (.int 79)))]) (.con (.int 2147483629)))), (.ite (.e (.cmp .ge (.var 3) (.bin .pow (.con (.int 10)) (.con (.int 18))))) [(.sub (.var 0) (.con (.int 2)) (.var 3))] [])] []), (.ite (.e (.cmp .gt (.ix (.var 0) (.con (.int 2))) (.con (.int 0)))) [(.asg (.v 4) (.bin .mod (.bi .int [(.ix (.var 0) (.con (.int 2)))]) (.var 1))), (.sub (.var 0) (.con (.int 2)) (.bin .fdiv (.ix (.var 0) (.con (.int 2))) (.var 1))), (.ret (.var 4))] []), (.sub (.var 0) (.con (.int 4)) (.bin .add (.ix (.var 0) (.con (.int 4))) (.con (.int 1)))), (.asg (.v 2) (.bin .mod (.bi .int [(.bin .mul (.bi .int [(.bin .add (.ix (.var 0) (.con (.int 3))) (.bin .mul (.con (.int 7919)) (.ix (.var 0) (.con (.int 4)))))]) (.con (.int 48271)))]) (.con (.int 2147483647)))), (.asg (.v 2) (.bin .mod (.bi .int [(.bin .mul (.var 2) (.bin .add (.bin .fdiv (.var 2) (.con (.int 1009))) (.con (.int 69621))))]) (.con (.int 2147483647)))), (.asg (.v 2) (.bin .mod (.bi .int [(.bin .mul (.var 2) (.bin .add (.bin .fdiv (.var 2) (.con (.int 2003))) (.con (.int 40692))))]) (.con (.int 2147483399)))), (.ret (.bin .mod (.bi .int [(.bin .fdiv (.var 2) (.con (.int 16)))]) (.var 1)))]
def f14 : FI := ⟨"_law_draw", [("hand" : Str), ("many" : Str)], [("hand" : Str), ("many" : Str), ("number" : Str), ("cell" : Str), ("digit" : Str)], top 28, ⟨2, 5, b14⟩, false, false⟩
/-- _law_some -/
def b15 : List S := [(.ret (.ix (.var 1) (.call 14 [(.var 0), (.bi .len [(.var 1)])])))]
def f15 : FI := ⟨"_law_some", [("hand" : Str), ("items" : Str)], [("hand" : Str), ("items" : Str)], top 29, ⟨2, 2, b15⟩, false, false⟩
/-- _law_is -/
def b16 : List S := [(.ret (.cmp .eq (.bi .repr [(.var 0)]) (.bi .repr [(.var 1)])))]
def f16 : FI := ⟨"_law_is", [("came" : Str), ("due" : Str)], [("came" : Str), ("due" : Str)], top 30, ⟨2, 2, b16⟩, false, false⟩
/-- _law_ahead -/
def b17 : List S := [(.ret (.bin .mod (.bi .int [(.bin .sub (.var 2) (.var 1))]) (.var 0)))]
def f17 : FI := ⟨"_law_ahead", [("circle" : Str), ("one" : Str), ("other" : Str)], [("circle" : Str), ("one" : Str), ("other" : Str)], top 31, ⟨3, 3, b17⟩, false, false⟩
/-- _law_sort -/
def b18 : List S := [(.par [3, 4] [(.bin .mod (.bi .int [(.bin .sub (.var 2) (.var 1))]) (.var 0)), (.bin .fdiv (.bin .sub (.var 0) (.con (.int 1))) (.con (.int 2)))]), (.ite (.e (.cmp .eq (.var 3) (.con (.int 0)))) [(.ret (.con (.str "same")))] []), (.ite (.e (.cmp .le (.var 3) (.var 4))) [(.ret (.con (.str "newer")))] []), (.ret (.ite (.e (.cmp .eq (.bin .mul (.con (.int 2)) (.var 3)) (.var 0))) (.con (.str "unclear")) (.con (.str "elder"))))]
def f18 : FI := ⟨"_law_sort", [("circle" : Str), ("one" : Str), ("other" : Str)], [("circle" : Str), ("one" : Str), ("other" : Str), ("steps" : Str), ("most" : Str)], top 32, ⟨3, 5, b18⟩, false, false⟩
/-- _law_great -/
def b19 : List S := [(.asg (.v 1) (.ldisp false [(.con (.int 3)), (.con (.int 4)), (.bin .add (.con (.int 3)) (.call 14 [(.var 0), (.con (.int 30))])), (.bin .pow (.con (.int 10)) (.con (.int 20))), (.bin .sub (.bin .pow (.con (.int 10)) (.con (.int 20))) (.con (.int 1))), (.bin .add (.con (.int 3)) (.call 14 [(.var 0), (.bin .sub (.bin .pow (.con (.int 10)) (.con (.int 20))) (.con (.int 2)))]))])), (.ret (.call 15 [(.var 0), (.var 1)]))]
def f19 : FI := ⟨"_law_great", [("hand" : Str)], [("hand" : Str), ("some" : Str)], top 33, ⟨1, 2, b19⟩, false, false⟩
/-- _law_no_circle -/
def b20 : List S := [(.ret (.call 15 [(.var 0), (.ldisp false [(.con (.int 2)), (.con (.int 0)), (.neg (.con (.int 3))), (.bin .add (.bin .pow (.con (.int 10)) (.con (.int 20))) (.con (.int 1))), (.con (.bl true)), (.con .non), (.con (.str "8")), (.tup [(.con (.int 8))]), (.bin .pow (.con (.int 10)) (.con (.int 39)))])]))]
def f20 : FI := ⟨"_law_no_circle", [("hand" : Str)], [("hand" : Str)], top 34, ⟨1, 1, b20⟩, false, false⟩
/-- _law_no_serial -/
def b21 : List S := [(.ret (.call 15 [(.var 0), (.ldisp false [(.neg (.con (.int 1))), (.var 1), (.bin .add (.var 1) (.con (.int 1))), (.con (.bl true)), (.con .non), (.con (.str "0")), (.tup [(.con (.int 0))]), (.ldisp false [(.con (.int 1))]), (.bin .pow (.con (.int 10)) (.con (.int 39)))])]))]
def f21 : FI := ⟨"_law_no_serial", [("hand" : Str), ("circle" : Str)], [("hand" : Str), ("circle" : Str)], top 35, ⟨2, 2, b21⟩, false, false⟩
/-- _law_word -/
def b22 : List S := [(.tri [(.ex (.callv 0))] 3 (some 1) [(.asg (.v 2) (.ldisp false [(.exis 1 0), (.exis 1 1), (.exis 1 2)])), (.ret (.ite (.e (.cmp .eq (.me .count (.var 2) [(.con (.bl true))]) (.con (.int 1)))) (.ix (.ldisp false [(.con (.str "circle")), (.con (.str "serial")), (.con (.str "number"))]) (.me .index (.var 2) [(.con (.bl true))])) (.con (.str "other"))))]), (.ret (.con (.str "told")))]
def f22 : FI := ⟨"_law_word", [("call" : Str)], [("call" : Str), ("error" : Str), ("flags" : Str)], top 36, ⟨1, 3, b22⟩, false, true⟩
/-- _law_serials -/
def b23 : List S := [(.par [3, 4] [(.call 14 [(.var 0), (.var 1)]), (.bin .fdiv (.bin .sub (.var 1) (.con (.int 1))) (.con (.int 2)))]), (.asg (.v 2) (.call 15 [(.var 0), (.ldisp false [(.con (.int 0)), (.con (.int 1)), (.var 4), (.bin .add (.var 4) (.con (.int 1))), (.bin .sub (.var 1) (.var 4)), (.bin .sub (.var 1) (.con (.int 1))), (.call 14 [(.var 0), (.var 1)])])])), (.ret (.tup [(.var 3), (.bin .mod (.bi .int [(.bin .add (.var 3) (.var 2))]) (.var 1))]))]
def f23 : FI := ⟨"_law_serials", [("hand" : Str), ("circle" : Str)], [("hand" : Str), ("circle" : Str), ("far_now" : Str), ("one" : Str), ("most" : Str)], top 37, ⟨2, 5, b23⟩, false, false⟩
/-- _law_is_pair_right -/
def b24 : List S := [(.par [4, 5] [(.call 11 [(.var 0), (.var 1), (.var 2)]), (.call 11 [(.var 0), (.var 2), (.var 1)])]), (.ite (.not (.e (.call 16 [(.ldisp false [(.var 4), (.var 5)]), (.ldisp false [(.call 18 [(.var 0), (.var 1), (.var 2)]), (.call 18 [(.var 0), (.var 2), (.var 1)])])]))) [(.ret (.con (.bl false)))] []), (.ite (.e (.cmp .nin (.ldisp false [(.var 4), (.var 5)]) (.ldisp false [(.bin .mul (.ldisp false [(.con (.str "same"))]) (.con (.int 2))), (.ldisp false [(.con (.str "newer")), (.con (.str "elder"))]), (.ldisp false [(.con (.str "elder")), (.con (.str "newer"))]), (.bin .mul (.ldisp false [(.con (.str "unclear"))]) (.con (.int 2)))]))) [(.ret (.con (.bl false)))] []), (.asg (.v 3) (.call 17 [(.var 0), (.var 1), (.var 2)])), (.ite (.not (.e (.call 16 [(.ldisp false [(.call 9 [(.var 0), (.var 1), (.var 2)]), (.call 12 [(.var 0), (.var 1), (.var 3)])]), (.ldisp false [(.var 3), (.var 2)])]))) [(.ret (.con (.bl false)))] []), (.ret (.and (.cmp .eq (.call 12 [(.var 0), (.var 2), (.bin .sub (.con (.int 0)) (.var 3))]) (.var 1)) (.cmp .eq (.cmp .eq (.var 4) (.con (.str "newer"))) (.chain .le .le (.con (.int 1)) (.var 3) (.call 7 [(.var 0)])))))]
def f24 : FI := ⟨"_law_is_pair_right", [("circle" : Str), ("one" : Str), ("other" : Str)], [("circle" : Str), ("one" : Str), ("other" : Str), ("steps" : Str), ("there" : Str), ("back" : Str)], top 38, ⟨3, 6, b24⟩, false, false⟩
/-- _law_are_refused -/
def b25 : List S := [(.par [4, 5, 6] [(.call 20 [(.var 0)]), (.call 21 [(.var 0), (.var 1)]), (.call 15 [(.var 0), (.ldisp false [(.con .non), (.con (.str "1")), (.con (.bl true)), (.tup [(.con (.int 1))]), (.ldisp false [(.con (.int 2))])])])]), (.asg (.v 2) (.ldisp true [(.lcall 22 (.call 7 [(.var 4)])), (.lcall 22 (.call 9 [(.var 4), (.var 5), (.var 5)]))])), (.ex (.app (.var 2) (.lcall 22 (.call 9 [(.var 1), (.var 5), (.con (.int 0))])))), (.ex (.app (.var 2) (.lcall 22 (.call 9 [(.var 1), (.con (.int 0)), (.var 5)])))), (.ex (.app (.var 2) (.lcall 22 (.call 11 [(.var 4), (.con (.int 0)), (.con (.int 0))])))), (.ex (.app (.var 2) (.lcall 22 (.call 11 [(.var 1), (.var 5), (.var 5)])))), (.ex (.app (.var 2) (.lcall 22 (.call 11 [(.var 1), (.con (.int 1)), (.var 5)])))), (.ex (.app (.var 2) (.lcall 22 (.call 12 [(.var 4), (.var 5), (.var 6)])))), (.ex (.app (.var 2) (.lcall 22 (.call 12 [(.var 1), (.var 5), (.var 6)])))), (.ex (.app (.var 2) (.lcall 22 (.call 12 [(.var 1), (.con (.int 1)), (.var 6)])))), (.asg (.v 3) (.ldisp false [(.con (.str "circle")), (.con (.str "circle")), (.con (.str "serial")), (.con (.str "serial")), (.con (.str "circle")), (.con (.str "serial")), (.con (.str "serial")), (.con (.str "circle")), (.con (.str "serial")), (.con (.str "number"))])), (.ret (.cmp .eq (.var 2) (.var 3)))]
def f25 : FI := ⟨"_law_are_refused", [("hand" : Str), ("circle" : Str)], [("hand" : Str), ("circle" : Str), ("said" : Str), ("due" : Str), ("bad" : Str), ("off" : Str), ("none" : Str)], top 39, ⟨2, 7, b25⟩, true, false⟩
/-- law -/
def b26 : List S := [(.asg (.v 1) (.call 13 [(.var 0)])), (.fo (.v 2) .rng [(.con (.int 12))] [(.asg (.v 3) (.call 19 [(.var 1)])), (.ite (.not (.e (.call 16 [(.call 7 [(.var 3)]), (.bin .fdiv (.bin .sub (.var 3) (.con (.int 1))) (.con (.int 2)))]))) [(.ret (.con (.bl false)))] []), (.asg (.t [(.v 4), (.v 6)]) (.call 23 [(.var 1), (.var 3)])), (.ite (.not (.e (.call 24 [(.var 3), (.var 4), (.var 6)]))) [(.ret (.con (.bl false)))] []), (.asg (.v 5) (.bin .mul (.call 15 [(.var 1), (.ldisp false [(.con (.int 1)), (.neg (.con (.int 1)))])]) (.call 14 [(.var 1), (.call 15 [(.var 1), (.ldisp false [(.con (.int 9)), (.bin .pow (.con (.int 10)) (.con (.int 20))), (.bin .pow (.con (.int 10)) (.con (.int 39)))])])]))), (.ite (.not (.e (.call 16 [(.call 12 [(.var 3), (.var 4), (.var 5)]), (.bin .mod (.bi .int [(.bin .add (.var 4) (.var 5))]) (.var 3))]))) [(.ret (.con (.bl false)))] [])]), (.asg (.v 3) (.bin .add (.con (.int 3)) (.call 14 [(.var 1), (.con (.int 9))]))), (.fo (.v 4) .rng [(.var 3)] [(.ite (.not (.e (.bi .all [(.comp false (.v 6) .rng [(.var 3)] none (.call 24 [(.var 3), (.var 4), (.var 6)]))]))) [(.ret (.con (.bl false)))] [])]), (.ret (.and (.call 25 [(.var 1), (.call 19 [(.var 1)])]) (.cmp .eq (.call 7 [(.bin .pow (.con (.int 10)) (.con (.int 20)))]) (.con (.int 49999999999999999999)))))]
def f26 : FI := ⟨"law", [("script" : Str)], [("script" : Str), ("hand" : Str), ("turn" : Str), ("circle" : Str), ("one" : Str), ("number" : Str), ("other" : Str)], top 40, ⟨1, 7, b26⟩, false, false⟩
def pr : Pr where
  fns := [f0, f1, f2, f3, f4, f5, f6, f7, f8, f9, f10, f11, f12, f13, f14, f15, f16, f17, f18, f19, f20, f21, f22, f23, f24, f25, f26]
  gls := [("LEAST_CIRCLE", (.int 3)), ("MOST_CIRCLE", (.int 100000000000000000000)), ("SAME", (.str "same")), ("NEWER", (.str "newer")), ("ELDER", (.str "elder")), ("UNCLEAR", (.str "unclear"))]
  exs := [("NoCircle" : Str), ("NoSerial" : Str), ("NoNumber" : Str), ("CopyError" : Str)]
  bns := [("abs" : Str), ("all" : Str), ("bool" : Str), ("int" : Str), ("isinstance" : Str), ("len" : Str), ("range" : Str), ("repr" : Str)]
  subs := [[true, false, false, true], [false, true, false, true], [false, false, true, true], [false, false, false, true]]
  wh := 1000
theorem ok : pr.ok 100 = true := by decide +kernel
abbrev R : PySem.W.OpenRow := PySem.W.OpenLaw.row PySem.Challenge.rw_namescopied_k01_whole_circles_great_and
abbrev qv : Program := PySem.W.view R.prog [40]
def names : List Str := ([("is_integer" : Str), ("is_within" : Str), ("CopyError" : Str), ("NoCircle" : Str), ("NoNumber" : Str), ("NoSerial" : Str), ("LEAST_CIRCLE" : Str), ("MOST_CIRCLE" : Str), ("SAME" : Str), ("NEWER" : Str), ("ELDER" : Str), ("UNCLEAR" : Str), ("check_circle" : Str), ("is_serial" : Str), ("check_serial" : Str), ("check_two" : Str), ("half_of" : Str), ("half" : Str), ("steps_on" : Str), ("ahead" : Str), ("sort_by" : Str), ("sort_of" : Str), ("stepped" : Str), ("_law_hand" : Str), ("_law_draw" : Str), ("_law_some" : Str), ("_law_is" : Str), ("_law_ahead" : Str), ("_law_sort" : Str), ("_law_great" : Str), ("_law_no_circle" : Str), ("_law_no_serial" : Str), ("_law_word" : Str), ("_law_serials" : Str), ("_law_is_pair_right" : Str)] : List Str) ++ ([("_law_are_refused" : Str)] : List Str)
def ob (s : PySem.W.SharedT) : He.AlD := obsP 5 pr (HandSHeadRun.getT s)
theorem ob_eq (s : PySem.W.SharedT) : ob s = (hookP 5 pr).obs s.abs := obsP_eq (HandSHeadRun.getT_eq s)
theorem run (w : World) : HandSHeadRun.RunEq R qv (hookP 5 pr) ob 3000 names w := by
  intro os
  kernel_rfl
end K01

set_option maxRecDepth 100000
set_option maxHeartbeats 0
namespace K01
open PySem NC
variable {n : Nat} {st : Sto}
def intB : D → Bool
  | .int _ => true
  | _ => false
theorem s0 (x : D) : (pr.orc (n + 1)).fn 0 [.d x] st = .ok (.d (.bl (intB x))) st := by
  have e : (pr.orc (n + 1)).fn 0 [.d x] st = .ok (.d (.bl (intB x))) (st.take st.length) := by
    cases x <;> rfl
  rw [e, List.take_length]
def inB : D → Int → Int → Bool
  | .int i, a, b => decide (a ≤ i) && decide (i ≤ b)
  | _, _, _ => false
theorem s1 (x : D) (a b : Int) : (pr.orc (n + 2)).fn 1 [.d x, .d (.int a), .d (.int b)] st = .ok (.d (.bl (inB x a b))) st := by
  rw [orc_fn (fi := f1) rfl]
  cases x with
  | int i => 
    simp [f1, b1, NC.start, evSs, evS, evE, evEs, evT, evO, Out.bind, Out.toS, W.get, W.getS, W.pl, W.old, finF, ofO, gets, cmpD, binD, biD, ixD, truD, freshL, lenOk, NC.eqD, s0, intB, inB]
    by_cases h : a ≤ i <;> simp [h]
  | _ => simp [f1, b1, NC.start, evSs, evS, evE, evEs, evT, evO, Out.bind, Out.toS, W.get, W.getS, W.pl, W.old, finF, ofO, gets, cmpD, binD, biD, ixD, truD, freshL, lenOk, NC.eqD, s0, intB, inB]
theorem gl0 : (pr.orc n).gl 0 = some (.int 3) := by cases n <;> rfl
theorem gl1 : (pr.orc n).gl 1 = some (.int 100000000000000000000) := by cases n <;> rfl
theorem gl2 : (pr.orc n).gl 2 = some (.str "same") := by cases n <;> rfl
theorem gl3 : (pr.orc n).gl 3 = some (.str "newer") := by cases n <;> rfl
theorem gl4 : (pr.orc n).gl 4 = some (.str "elder") := by cases n <;> rfl
theorem gl5 : (pr.orc n).gl 5 = some (.str "unclear") := by cases n <;> rfl
abbrev M : Int := 100000000000000000000
theorem s2 (x : D) : (pr.orc (n + 3)).fn 2 [.d x] st = if inB x 3 M then .ok (.d .non) st else .exc 0 st := by
  rw [orc_fn (fi := f2) rfl]
  cases h : inB x 3 M <;> simp [f2, b2, NC.start, evSs, evS, evE, evEs, evT, evO, Out.bind, Out.toS, W.get, W.getS, W.pl, W.old, finF, ofO, gets, cmpD, binD, biD, ixD, truD, freshL, lenOk, NC.eqD, s1, gl0, gl1, h]
theorem s3 (c : Int) (x : D) : (pr.orc (n + 3)).fn 3 [.d (.int c), .d x] st = .ok (.d (.bl (inB x 0 (c - 1)))) st := by
  rw [orc_fn (fi := f3) rfl]
  simp [f3, b3, NC.start, evSs, evS, evE, evEs, evT, evO, Out.bind, Out.toS, W.get, W.getS, W.pl, W.old, finF, ofO, gets, cmpD, binD, biD, ixD, truD, freshL, lenOk, NC.eqD, s1]
theorem s4 (c : Int) (x : D) : (pr.orc (n + 4)).fn 4 [.d (.int c), .d x] st = if inB x 0 (c - 1) then .ok (.d .non) st else .exc 1 st := by
  rw [orc_fn (fi := f4) rfl]
  cases h : inB x 0 (c - 1) <;> simp [f4, b4, NC.start, evSs, evS, evE, evEs, evT, evO, Out.bind, Out.toS, W.get, W.getS, W.pl, W.old, finF, ofO, gets, cmpD, binD, biD, ixD, truD, freshL, lenOk, NC.eqD, s3, h]
/-- what a check of a circle and two serials ends with: an error's number -/
def cB (x : D) : Option Nat := if inB x 3 M then none else some 0
def two (c a b : D) : Option Nat := match c with
  | .int i => if inB (.int i) 3 M then if inB a 0 (i - 1) then if inB b 0 (i - 1) then none else some 1 else some 1 else some 0
  | _ => some 0
def res (o : Option Nat) (d : D) (st : Sto) : Out W := match o with
  | none => .ok (.d d) st
  | some c => .exc c st
theorem s5 (c a b : D) : (pr.orc (n + 5)).fn 5 [.d c, .d a, .d b] st = res (two c a b) .non st := by
  rw [orc_fn (fi := f5) rfl]
  have bad : inB c 3 M = false → (two c a b = some 0) := fun h => by
    cases c <;> simp_all [two]
  cases h : inB c 3 M with
  | false => simp [f5, b5, NC.start, evSs, evS, evE, evEs, evT, evO, Out.bind, Out.toS, W.get, W.getS, W.pl, W.old, finF, ofO, gets, cmpD, binD, biD, ixD, truD, freshL, lenOk, NC.eqD, s2, h, bad h, res]
  | true =>
    cases c with
    | int i =>
      cases h2 : inB a 0 (i - 1) <;> cases h3 : inB b 0 (i - 1) <;> simp [f5, b5, NC.start, evSs, evS, evE, evEs, evT, evO, Out.bind, Out.toS, W.get, W.getS, W.pl, W.old, finF, ofO, gets, cmpD, binD, biD, ixD, truD, freshL, lenOk, NC.eqD, s2, s4, h, h2, h3, two, res]
    | _ => cases h
theorem divOk2 : divOk 2 = true := by decide +kernel
theorem s6 (c : Int) : (pr.orc (n + 1)).fn 6 [.d (.int c)] st = .ok (.d (.int ((c - 1) / 2))) st := by
  rw [orc_fn (fi := f6) rfl]
  simp [f6, b6, NC.start, evSs, evS, evE, evEs, evT, evO, Out.bind, Out.toS, W.get, W.getS, W.pl, W.old, finF, ofO, gets, cmpD, binD, biD, ixD, truD, freshL, lenOk, NC.eqD, divOk2]
def iOf : D → Int
  | .int i => i
  | _ => 0
theorem s7 (c : D) : (pr.orc (n + 4)).fn 7 [.d c] st = res (cB c) (.int ((iOf c - 1) / 2)) st := by
  rw [orc_fn (fi := f7) rfl]
  cases h : inB c 3 M with
  | false => simp [f7, b7, NC.start, evSs, evS, evE, evEs, evT, evO, Out.bind, Out.toS, W.get, W.getS, W.pl, W.old, finF, ofO, gets, cmpD, binD, biD, ixD, truD, freshL, lenOk, NC.eqD, s2, h, cB, res]
  | true =>
    cases c with
    | int i => simp [f7, b7, NC.start, evSs, evS, evE, evEs, evT, evO, Out.bind, Out.toS, W.get, W.getS, W.pl, W.old, finF, ofO, gets, cmpD, binD, biD, ixD, truD, freshL, lenOk, NC.eqD, s2, s6, h, cB, res, iOf]
    | _ => cases h
theorem s8 (c a b : Int) (h : 0 < c) : (pr.orc (n + 1)).fn 8 [.d (.int c), .d (.int a), .d (.int b)] st = .ok (.d (.int ((b - a) % c))) st := by
  rw [orc_fn (fi := f8) rfl]
  simp [f8, b8, NC.start, evSs, evS, evE, evEs, evT, evO, Out.bind, Out.toS, W.get, W.getS, W.pl, W.old, finF, ofO, gets, cmpD, binD, biD, ixD, truD, freshL, lenOk, NC.eqD, h]
theorem two_none {c a b : D} (h : two c a b = none) : ∃ i j k, c = .int i ∧ a = .int j ∧ b = .int k ∧ 3 ≤ i ∧ i ≤ M ∧ 0 ≤ j ∧ j < i ∧ 0 ≤ k ∧ k < i := by
  cases c with
  | int i =>
    simp only [two] at h
    split at h
    · rename_i h0
      split at h
      · rename_i h1
        split at h
        · rename_i h2
          cases a <;> first | (cases h1; done) | skip
          cases b <;> first | (cases h2; done) | skip
          simp only [inB, Bool.and_eq_true, decide_eq_true_eq] at h0 h1 h2
          exact ⟨_, _, _, rfl, rfl, rfl, h0.1, h0.2, h1.1, by omega, h2.1, by omega⟩
        · cases h
      · cases h
    · cases h
  | _ => cases h
theorem s9 (c a b : D) : (pr.orc (n + 6)).fn 9 [.d c, .d a, .d b] st = res (two c a b) (.int ((iOf b - iOf a) % iOf c)) st := by
  rw [orc_fn (fi := f9) rfl]
  cases h : two c a b with
  | some e => simp [f9, b9, NC.start, evSs, evS, evE, evEs, evT, evO, Out.bind, Out.toS, W.get, W.getS, W.pl, W.old, finF, ofO, gets, cmpD, binD, biD, ixD, truD, freshL, lenOk, NC.eqD, s5, h, res]
  | none =>
    obtain ⟨i, j, k, rfl, rfl, rfl, h1, _⟩ := two_none h
    simp [f9, b9, NC.start, evSs, evS, evE, evEs, evT, evO, Out.bind, Out.toS, W.get, W.getS, W.pl, W.old, finF, ofO, gets, cmpD, binD, biD, ixD, truD, freshL, lenOk, NC.eqD, s5, h, res, iOf, s8 i j k (by omega)]
/-- the word of so many steps -/
def sortS (c s : Int) : Str := if s = 0 then "same" else if s ≤ (c - 1) / 2 then "newer" else if 2 * s = c then "unclear" else "elder"
theorem mul2 (s : Int) : mulOk 2 s = true := by simp [mulOk]
theorem s10 (c s : Int) : (pr.orc (n + 2)).fn 10 [.d (.int c), .d (.int s)] st = .ok (.d (.str (sortS c s))) st := by
  rw [orc_fn (fi := f10) rfl]
  unfold sortS
  by_cases h1 : s = 0
  · simp [f10, b10, NC.start, evSs, evS, evE, evEs, evT, evO, Out.bind, Out.toS, W.get, W.getS, W.pl, W.old, finF, ofO, gets, cmpD, binD, biD, ixD, truD, freshL, lenOk, NC.eqD, h1, gl2]
  · by_cases h2 : s ≤ (c - 1) / 2
    · simp [f10, b10, NC.start, evSs, evS, evE, evEs, evT, evO, Out.bind, Out.toS, W.get, W.getS, W.pl, W.old, finF, ofO, gets, cmpD, binD, biD, ixD, truD, freshL, lenOk, NC.eqD, h1, h2, gl2, gl3, s6]
    · by_cases h3 : 2 * s = c <;> simp [f10, b10, NC.start, evSs, evS, evE, evEs, evT, evO, Out.bind, Out.toS, W.get, W.getS, W.pl, W.old, finF, ofO, gets, cmpD, binD, biD, ixD, truD, freshL, lenOk, NC.eqD, h1, h2, h3, gl2, gl3, gl4, gl5, s6, mul2]
theorem s11 (c a b : D) : (pr.orc (n + 6)).fn 11 [.d c, .d a, .d b] st = res (two c a b) (.str (sortS (iOf c) ((iOf b - iOf a) % iOf c))) st := by
  rw [orc_fn (fi := f11) rfl]
  cases h : two c a b with
  | some e => simp [f11, b11, NC.start, evSs, evS, evE, evEs, evT, evO, Out.bind, Out.toS, W.get, W.getS, W.pl, W.old, finF, ofO, gets, cmpD, binD, biD, ixD, truD, freshL, lenOk, NC.eqD, s5, h, res]
  | none =>
    obtain ⟨i, j, k, rfl, rfl, rfl, h1, _⟩ := two_none h
    simp [f11, b11, NC.start, evSs, evS, evE, evEs, evT, evO, Out.bind, Out.toS, W.get, W.getS, W.pl, W.old, finF, ofO, gets, cmpD, binD, biD, ixD, truD, freshL, lenOk, NC.eqD, s5, h, res, iOf, s8 i j k (by omega), s10]
def one3 (c a x : D) : Option Nat := match c with
  | .int i => if inB (.int i) 3 M then if inB a 0 (i - 1) then if intB x then none else some 2 else some 1 else some 0
  | _ => some 0
theorem s12 (c a x : D) : (pr.orc (n + 6)).fn 12 [.d c, .d a, .d x] st = res (one3 c a x) (.int ((iOf a + iOf x) % iOf c)) st := by
  rw [orc_fn (fi := f12) rfl]
  have bad : inB c 3 M = false → (one3 c a x = some 0) := fun h => by
    cases c <;> simp_all [one3]
  cases h : inB c 3 M with
  | false => simp [f12, b12, NC.start, evSs, evS, evE, evEs, evT, evO, Out.bind, Out.toS, W.get, W.getS, W.pl, W.old, finF, ofO, gets, cmpD, binD, biD, ixD, truD, freshL, lenOk, NC.eqD, s2, h, bad h, res]
  | true =>
    cases c with
    | int i =>
      have hi : 0 < i := by
        simp only [inB, Bool.and_eq_true, decide_eq_true_eq] at h
        omega
      cases h2 : inB a 0 (i - 1) with
      | false => simp [f12, b12, NC.start, evSs, evS, evE, evEs, evT, evO, Out.bind, Out.toS, W.get, W.getS, W.pl, W.old, finF, ofO, gets, cmpD, binD, biD, ixD, truD, freshL, lenOk, NC.eqD, s2, s4, h, h2, one3, res]
      | true =>
        cases a with
        | int j => cases x <;> simp [f12, b12, NC.start, evSs, evS, evE, evEs, evT, evO, Out.bind, Out.toS, W.get, W.getS, W.pl, W.old, finF, ofO, gets, cmpD, binD, biD, ixD, truD, freshL, lenOk, NC.eqD, s0, s2, s4, h, h2, hi, one3, res, intB, iOf]
        | _ => cases h2
    | _ => cases h
/-! the law's own -/
def da : DA := ⟨69621, 40692, 79, 2147483629, 18, 7919, 48271, 2147483647, 1009, 69621, 2147483647, 2003, 40692, 2147483399, 16⟩
theorem d14 : Draws pr (n + 1) 14 := fun h hk many hm hd st => draw_fn (a := da) (by decide +kernel) (fi := f14) rfl rfl h hk many hm hd st
theorem d15 : Somes pr (n + 2) 15 := some_fn (j := 14) d14 (fi := f15) rfl rfl
theorem d16 : Iss pr (n + 1) 16 := is_fn (fi := f16) rfl rfl
theorem s13 (ns : List Int) (hl : ns.length ≤ 63) : ∃ h : Hd, h.ok ∧ (pr.orc (n + 1)).fn 13 [.scr (ns.map D.int)] [] = .ok (.loc 0) [h.cell] :=
  hand_fn (c1 := 95011) (c2 := 66) (by decide +kernel) (fi := f13) rfl rfl ns hl
theorem s17 (c a b : Int) (h : 0 < c) : (pr.orc (n + 1)).fn 17 [.d (.int c), .d (.int a), .d (.int b)] st = .ok (.d (.int ((b - a) % c))) st := by
  rw [orc_fn (fi := f17) rfl]
  simp [f17, b17, NC.start, evSs, evS, evE, evEs, evT, evO, Out.bind, Out.toS, W.get, W.getS, W.pl, W.old, finF, ofO, gets, cmpD, binD, biD, ixD, truD, freshL, lenOk, NC.eqD, h]
theorem s18 (c a b : Int) (h : 0 < c) : (pr.orc (n + 1)).fn 18 [.d (.int c), .d (.int a), .d (.int b)] st = .ok (.d (.str (sortS c ((b - a) % c)))) st := by
  rw [orc_fn (fi := f18) rfl]
  unfold sortS
  by_cases h1 : (b - a) % c = 0
  · simp [f18, b18, NC.start, evSs, evS, evE, evEs, evT, evO, Out.bind, Out.toS, W.get, W.getS, W.pl, W.old, finF, ofO, gets, cmpD, binD, biD, ixD, truD, freshL, lenOk, NC.eqD, h, h1, setL, divOk2]
  · by_cases h2 : (b - a) % c ≤ (c - 1) / 2
    · simp [f18, b18, NC.start, evSs, evS, evE, evEs, evT, evO, Out.bind, Out.toS, W.get, W.getS, W.pl, W.old, finF, ofO, gets, cmpD, binD, biD, ixD, truD, freshL, lenOk, NC.eqD, h, h1, h2, setL, divOk2]
    · by_cases h3 : 2 * ((b - a) % c) = c <;> simp [f18, b18, NC.start, evSs, evS, evE, evEs, evT, evO, Out.bind, Out.toS, W.get, W.getS, W.pl, W.old, finF, ofO, gets, cmpD, binD, biD, ixD, truD, freshL, lenOk, NC.eqD, h, h1, h2, h3, setL, divOk2, mul2]
theorem pw20 : powOk 10 20 = true := by decide +kernel
theorem pw39 : powOk 10 39 = true := by decide +kernel
theorem dv30 : divOk 30 = true := by decide +kernel
theorem dvM : divOk (M - 2) = true := by decide +kernel
theorem s19 (h : Hd) (hk : h.ok) (st : Sto) : ∃ (c : Int) (h' : Hd), 3 ≤ c ∧ c ≤ M ∧ h'.ok ∧ (pr.orc (n + 3)).fn 19 [.loc 0] (h.cell :: st) = .ok (.d (.int c)) (h'.cell :: st) := by
  obtain ⟨r1, h1, l1, l2, k1, e1⟩ := d14 (n := n + 1) h hk 30 (by decide) dv30 st
  obtain ⟨r2, h2, l3, l4, k2, e2⟩ := d14 (n := n + 1) h1 k1 (M - 2) (by decide) dvM st
  obtain ⟨x, hx, h3, k3, e3⟩ := d15 (n := n) h2 k2 [.int 3, .int 4, .int (3 + r1), .int M, .int (M - 1), .int (3 + r2)] (by simp) (by simp) st
  have hc : ∃ c, x = .int c ∧ 3 ≤ c ∧ c ≤ M := by
    simp only [List.mem_cons, List.not_mem_nil, or_false] at hx
    rcases hx with rfl | rfl | rfl | rfl | rfl | rfl <;> refine ⟨_, rfl, ?_, ?_⟩ <;> simp only [M] at * <;> omega
  obtain ⟨c, rfl, c1, c2⟩ := hc
  refine ⟨c, h3, c1, c2, k3, ?_⟩
  rw [orc_fn (fi := f19) rfl]
  simp only [M, Int.reduceSub] at e2 e3
  simp [f19, b19, NC.start, evSs, evS, evE, evEs, evT, evO, Out.bind, Out.toS, W.get, W.getS, W.pl, W.old, finF, ofO, gets, cmpD, binD, biD, ixD, truD, freshL, lenOk, NC.eqD, pw20, e1, e2, e3, setW]
theorem s20 (h : Hd) (hk : h.ok) (st : Sto) : ∃ (x : D) (h' : Hd), inB x 3 M = false ∧ h'.ok ∧ (pr.orc (n + 3)).fn 20 [.loc 0] (h.cell :: st) = .ok (.d x) (h'.cell :: st) := by
  obtain ⟨x, hx, h3, k3, e3⟩ := d15 (n := n) h hk [.int 2, .int 0, .int (-3), .int 100000000000000000001, .bl true, .non, .str "8", .tup [.int 8], .int 1000000000000000000000000000000000000000] (by simp) (by simp) st
  have hc : inB x 3 M = false := by
    simp only [List.mem_cons, List.not_mem_nil, or_false] at hx
    rcases hx with rfl | rfl | rfl | rfl | rfl | rfl | rfl | rfl | rfl <;> decide
  refine ⟨x, h3, hc, k3, ?_⟩
  rw [orc_fn (fi := f20) rfl]
  simp [f20, b20, NC.start, evSs, evS, evE, evEs, evT, evO, Out.bind, Out.toS, W.get, W.getS, W.pl, W.old, finF, ofO, gets, cmpD, binD, biD, ixD, truD, freshL, lenOk, NC.eqD, pw20, pw39, e3]
theorem s21 (h : Hd) (hk : h.ok) (c : Int) (c1 : 3 ≤ c) (c2 : c ≤ M) (st : Sto) : ∃ (x : D) (h' : Hd), inB x 0 (c - 1) = false ∧ h'.ok ∧ (pr.orc (n + 3)).fn 21 [.loc 0, .d (.int c)] (h.cell :: st) = .ok (.d x) (h'.cell :: st) := by
  obtain ⟨x, hx, h3, k3, e3⟩ := d15 (n := n) h hk [.int (-1), .int c, .int (c + 1), .bl true, .non, .str "0", .tup [.int 0], .lst [.int 1], .int 1000000000000000000000000000000000000000] (by simp) (by simp) st
  have hc : inB x 0 (c - 1) = false := by
    simp only [M] at c2
    simp only [List.mem_cons, List.not_mem_nil, or_false] at hx
    rcases hx with rfl | rfl | rfl | rfl | rfl | rfl | rfl | rfl | rfl <;> simp [inB] <;> omega
  refine ⟨x, h3, hc, k3, ?_⟩
  rw [orc_fn (fi := f21) rfl]
  simp [f21, b21, NC.start, evSs, evS, evE, evEs, evT, evO, Out.bind, Out.toS, W.get, W.getS, W.pl, W.old, finF, ofO, gets, cmpD, binD, biD, ixD, truD, freshL, lenOk, NC.eqD, pw20, pw39, e3]
def wordS (c : Nat) : Str := ([("circle" : Str), "serial", "number"][c]?).getD "other"
theorem bs3 : blsOf [.bl true, .bl false, .bl false] = some [true, false, false] ∧ blsOf [.bl false, .bl true, .bl false] = some [false, true, false] ∧ blsOf [.bl false, .bl false, .bl true] = some [false, false, true] := ⟨rfl, rfl, rfl⟩
theorem s22 {e : E} {ρ : Rho} {c : Nat} (hc : c < 3) (h : evE (pr.orc n) e ρ st = .exc c st) : (pr.orc (n + 2)).fn 22 [.clo e ρ] st = .ok (.d (.str (wordS c))) st := by
  rw [orc_fn (fi := f22) rfl]
  have hcl : (pr.orc (n + 1)).cl e ρ st = .exc c st := h
  match c, hc with
  | 0, _ =>
    have q1 : (pr.orc (n + 1)).sub 0 3 = some true := rfl
    have q2 : (pr.orc (n + 1)).sub 0 0 = some true := rfl
    have q3 : (pr.orc (n + 1)).sub 0 1 = some false := rfl
    have q4 : (pr.orc (n + 1)).sub 0 2 = some false := rfl
    simp [f22, b22, NC.start, evSs, evS, evE, evEs, evT, evO, Out.bind, Out.toS, W.get, W.getS, W.pl, W.old, finF, ofO, gets, cmpD, binD, biD, ixD, truD, freshL, lenOk, NC.eqD, hcl, q1, q2, q3, q4, setW, meD, recv, bs3, unset, NC.noExn, wordS, atD, L2.atI, L2.ixN, List.idxOf, List.findIdx, List.findIdx.go]
  | 1, _ =>
    have q1 : (pr.orc (n + 1)).sub 1 3 = some true := rfl
    have q2 : (pr.orc (n + 1)).sub 1 0 = some false := rfl
    have q3 : (pr.orc (n + 1)).sub 1 1 = some true := rfl
    have q4 : (pr.orc (n + 1)).sub 1 2 = some false := rfl
    simp [f22, b22, NC.start, evSs, evS, evE, evEs, evT, evO, Out.bind, Out.toS, W.get, W.getS, W.pl, W.old, finF, ofO, gets, cmpD, binD, biD, ixD, truD, freshL, lenOk, NC.eqD, hcl, q1, q2, q3, q4, setW, meD, recv, bs3, unset, NC.noExn, wordS, atD, L2.atI, L2.ixN, List.idxOf, List.findIdx, List.findIdx.go]
  | 2, _ =>
    have q1 : (pr.orc (n + 1)).sub 2 3 = some true := rfl
    have q2 : (pr.orc (n + 1)).sub 2 0 = some false := rfl
    have q3 : (pr.orc (n + 1)).sub 2 1 = some false := rfl
    have q4 : (pr.orc (n + 1)).sub 2 2 = some true := rfl
    simp [f22, b22, NC.start, evSs, evS, evE, evEs, evT, evO, Out.bind, Out.toS, W.get, W.getS, W.pl, W.old, finF, ofO, gets, cmpD, binD, biD, ixD, truD, freshL, lenOk, NC.eqD, hcl, q1, q2, q3, q4, setW, meD, recv, bs3, unset, NC.noExn, wordS, atD, L2.atI, L2.ixN, List.idxOf, List.findIdx, List.findIdx.go]
theorem dvc {c : Int} (h1 : 3 ≤ c) (h2 : c ≤ M) : divOk c = true := by
  have : c.natAbs < 2 ^ 80 := by
    have e : (2 : Nat) ^ 80 = 1208925819614629174706176 := by decide
    rw [e]
    simp only [M] at h2
    omega
  have h3 := log_le this (by decide)
  simp [divOk]
  omega
theorem s23 (h : Hd) (hk : h.ok) (c : Int) (c1 : 3 ≤ c) (c2 : c ≤ M) (st : Sto) : ∃ (a b : Int) (h' : Hd), 0 ≤ a ∧ a < c ∧ 0 ≤ b ∧ b < c ∧ h'.ok ∧ (pr.orc (n + 3)).fn 23 [.loc 0, .d (.int c)] (h.cell :: st) = .ok (.d (.tup [.int a, .int b])) (h'.cell :: st) := by
  have dc := dvc c1 c2
  obtain ⟨r1, h1, l1, l2, k1, e1⟩ := d14 (n := n + 1) h hk c (by omega) dc st
  obtain ⟨r2, h2, l3, l4, k2, e2⟩ := d14 (n := n + 1) h1 k1 c (by omega) dc st
  obtain ⟨x, hx, h3, k3, e3⟩ := d15 (n := n) h2 k2 [.int 0, .int 1, .int ((c - 1) / 2), .int ((c - 1) / 2 + 1), .int (c - (c - 1) / 2), .int (c - 1), .int r2] (by simp) (by simp) st
  have hc : ∃ y, x = .int y := by
    simp only [List.mem_cons, List.not_mem_nil, or_false] at hx
    rcases hx with rfl | rfl | rfl | rfl | rfl | rfl | rfl <;> exact ⟨_, rfl⟩
  obtain ⟨y, rfl⟩ := hc
  have c0 : 0 < c := by omega
  refine ⟨r1, (r1 + y) % c, h3, l1, l2, Int.emod_nonneg _ (by omega), Int.emod_lt_of_pos _ c0, k3, ?_⟩
  rw [orc_fn (fi := f23) rfl]
  simp [f23, b23, NC.start, evSs, evS, evE, evEs, evT, evO, Out.bind, Out.toS, W.get, W.getS, W.pl, W.old, finF, ofO, gets, cmpD, binD, biD, ixD, truD, freshL, lenOk, NC.eqD, e1, e2, e3, setL, setW, divOk2, c0]
theorem md {x c : Int} (h1 : -c < x) (h2 : x < c) : x % c = if x < 0 then x + c else x := by
  split
  · rw [← Int.add_emod_right, Int.emod_eq_of_lt (by omega) (by omega)]
  · exact Int.emod_eq_of_lt (by omega) h2
theorem md2 {x c : Int} (h1 : 0 ≤ x) (h2 : x < 2 * c) : x % c = if x < c then x else x - c := by
  split
  · exact Int.emod_eq_of_lt h1 (by omega)
  · have h : (x - c) % c = x % c := by simp
    rw [← h]
    exact Int.emod_eq_of_lt (by omega) (by omega)
theorem two_ok {c a b : Int} (c1 : 3 ≤ c) (c2 : c ≤ M) (a1 : 0 ≤ a) (a2 : a < c) (b1 : 0 ≤ b) (b2 : b < c) : two (.int c) (.int a) (.int b) = none := by
  have e1 : inB (.int c) 3 M = true := by simp [inB, c1, c2]
  have e2 : inB (.int a) 0 (c - 1) = true := by simp [inB, a1]; omega
  have e3 : inB (.int b) 0 (c - 1) = true := by simp [inB, b1]; omega
  simp [two, e1, e2, e3]
theorem one_ok {c a b : Int} (c1 : 3 ≤ c) (c2 : c ≤ M) (a1 : 0 ≤ a) (a2 : a < c) : one3 (.int c) (.int a) (.int b) = none := by
  have e1 : inB (.int c) 3 M = true := by simp [inB, c1, c2]
  have e2 : inB (.int a) 0 (c - 1) = true := by simp [inB, a1]; omega
  simp [one3, e1, e2, intB]
theorem cB_ok {c : Int} (c1 : 3 ≤ c) (c2 : c ≤ M) : cB (.int c) = none := by
  have e1 : inB (.int c) 3 M = true := by simp [inB, c1, c2]
  simp [cB, e1]
/-- one of four pairs -/
theorem pairs4 {c s t : Int} (c1 : 3 ≤ c) (h : (s = 0 ∧ t = 0) ∨ (0 < s ∧ s < c ∧ t = c - s)) : (sortS c s = "same" ∧ sortS c t = "same") ∨ (sortS c s = "newer" ∧ sortS c t = "elder") ∨ (sortS c s = "elder" ∧ sortS c t = "newer") ∨ (sortS c s = "unclear" ∧ sortS c t = "unclear") := by
  rcases h with ⟨rfl, rfl⟩ | ⟨h1, h2, rfl⟩
  · exact .inl ⟨by simp [sortS], by simp [sortS]⟩
  · have n1 : ¬ s = 0 := by omega
    have n2 : ¬ c - s = 0 := by omega
    by_cases h3 : s ≤ (c - 1) / 2
    · have h4 : ¬ c - s ≤ (c - 1) / 2 := by omega
      have h5 : ¬ 2 * (c - s) = c := by omega
      exact .inr (.inl ⟨by simp [sortS, n1, h3], by simp [sortS, n2, h4, h5]⟩)
    · by_cases h6 : 2 * s = c
      · have h4 : ¬ c - s ≤ (c - 1) / 2 := by omega
        have h5 : 2 * (c - s) = c := by omega
        exact .inr (.inr (.inr ⟨by simp [sortS, n1, h3, h6], by simp [sortS, n2, h4, h5]⟩))
      · have h4 : c - s ≤ (c - 1) / 2 := by omega
        exact .inr (.inr (.inl ⟨by simp [sortS, n1, h3, h6], by simp [sortS, n2, h4]⟩))
theorem fineI {i : Int} (h1 : -(2 : Int) ^ 200 < i) (h2 : i < 2 ^ 200) : i.natAbs.log2 < 200 := by
  have e : (2 : Int) ^ 200 = 1606938044258990275541962092341162602522202993782792835301376 := by decide
  refine log_le ?_ (by decide)
  have e2 : (2 : Nat) ^ 200 = 1606938044258990275541962092341162602522202993782792835301376 := by decide
  omega
theorem show2 {i j : Int} (h1 : -(2 : Int) ^ 200 < i) (h2 : i < 2 ^ 200) (h3 : -(2 : Int) ^ 200 < j) (h4 : j < 2 ^ 200) : showOk (.lst [.int i, .int j]) = true := by
  have a := fineI h1 h2
  have b := fineI h3 h4
  refine showOk_of ?_ ?_ (by simp [D.dep, D.deps])
  · simp [D.fine, D.fines]
    omega
  · simp [D.sz, D.szs]
    omega
theorem show1 {i : Int} (h1 : -(2 : Int) ^ 200 < i) (h2 : i < 2 ^ 200) : showOk (.int i) = true := by
  have a := fineI h1 h2
  refine showOk_of ?_ ?_ (by simp [D.dep])
  · simp [D.fine]
    omega
  · simp [D.sz]
    omega
theorem eqB (a b : Bool) : NC.eqD (.bl a) (.bl b) = some (a == b) := by cases a <;> cases b <;> decide
theorem eqII (i j : Int) : NC.eqD (.int i) (.int j) = some (decide (i = j)) := rfl
theorem eqSS (i j : Str) : NC.eqD (.str i) (.str j) = some (decide (i = j)) := rfl
theorem cqq (a b : D) : cmpD .eq a b = NC.eqD a b := rfl
theorem cll (i j : Int) : cmpD .le (.int i) (.int j) = some (decide (i ≤ j)) := rfl
theorem big : (2 : Int) ^ 200 = 1606938044258990275541962092341162602522202993782792835301376 := by decide
theorem s24 {c a b : Int} (c1 : 3 ≤ c) (c2 : c ≤ M) (a1 : 0 ≤ a) (a2 : a < c) (b1 : 0 ≤ b) (b2 : b < c) (st : Sto) : (pr.orc (n + 7)).fn 24 [.d (.int c), .d (.int a), .d (.int b)] st = .ok (.d (.bl true)) st := by
  have t1 := two_ok c1 c2 a1 a2 b1 b2
  have t2 := two_ok c1 c2 b1 b2 a1 a2
  have c0 : 0 < c := by omega
  have es : (b - a) % c = if b - a < 0 then b - a + c else b - a := md (by omega) (by omega)
  have et : (a - b) % c = if a - b < 0 then a - b + c else a - b := md (by omega) (by omega)
  have hst : ((b - a) % c = 0 ∧ (a - b) % c = 0) ∨ (0 < (b - a) % c ∧ (b - a) % c < c ∧ (a - b) % c = c - (b - a) % c) := by
    rw [es, et]
    split <;> split <;> omega
  have u0 : 0 ≤ (b - a) % c := Int.emod_nonneg _ (by omega)
  have u1 : (b - a) % c < c := Int.emod_lt_of_pos _ c0
  have v1 : (a + (b - a) % c) % c = b := by
    rw [md2 (by omega) (by omega), es]
    split <;> split <;> omega
  have v2 : (b + (0 - (b - a) % c)) % c = a := by
    rw [md (by omega) (by omega), es]
    split <;> split <;> omega
  have o1 := one_ok (b := (b - a) % c) c1 c2 a1 a2
  have o2 := one_ok (b := 0 - (b - a) % c) c1 c2 b1 b2
  have hc := cB_ok c1 c2
  have sh2 : showOk (.lst [.int ((b - a) % c), .int b]) = true := by
    simp only [M] at c2
    exact show2 (by rw [big]; omega) (by rw [big]; omega) (by rw [big]; omega) (by rw [big]; omega)
  have i2 := (d16 (n := n + 5)).same (a := .lst [.int ((b - a) % c), .int b]) st sh2
  have hn : (sortS c ((b - a) % c) = "newer") ↔ (1 ≤ (b - a) % c ∧ (b - a) % c ≤ (c - 1) / 2) := by
    have q1 : ¬ (Str.ofString "same" = Str.ofString "newer") := by decide +kernel
    have q2 : ¬ (Str.ofString "unclear" = Str.ofString "newer") := by decide +kernel
    have q3 : ¬ (Str.ofString "elder" = Str.ofString "newer") := by decide +kernel
    unfold sortS
    by_cases h1 : (b - a) % c = 0
    · simp [h1, q1]
    · by_cases h2 : (b - a) % c ≤ (c - 1) / 2
      · simp [h1, h2]
        omega
      · by_cases h3 : 2 * ((b - a) % c) = c <;> simp [h1, h2, h3, q2, q3]
  rw [orc_fn (fi := f24) rfl]
  generalize hs : (b - a) % c = s at *
  generalize ht : (a - b) % c = t at *
  have p4 := pairs4 c1 hst
  have w18 := s18 (n := n + 5) (st := st) c a b c0
  have w18' := s18 (n := n + 5) (st := st) c b a c0
  have w11 := s11 (n := n) (st := st) (.int c) (.int a) (.int b)
  have w11' := s11 (n := n) (st := st) (.int c) (.int b) (.int a)
  have w17 := s17 (n := n + 5) (st := st) c a b c0
  have w9 := s9 (n := n) (st := st) (.int c) (.int a) (.int b)
  have w12 := s12 (n := n) (st := st) (.int c) (.int a) (.int s)
  have w12' := s12 (n := n) (st := st) (.int c) (.int b) (.int (0 - s))
  have w7 := s7 (n := n + 2) (st := st) (.int c)
  simp only [iOf, hs, ht, t1, t2, res, o1, o2, hc, v1, v2] at w18 w18' w11 w11' w17 w9 w12 w12' w7
  simp only [Int.zero_sub] at w12'
  rcases p4 with ⟨p, q⟩ | ⟨p, q⟩ | ⟨p, q⟩ | ⟨p, q⟩
  · rw [p] at w18 w11 hn
    rw [q] at w18' w11'
    have i1 := (d16 (n := n + 5)).same (a := .lst [.str "same", .str "same"]) st (by decide +kernel)
    have nn : cmpD .nin (.lst [.str "same", .str "same"]) (.lst [.lst [.str "same", .str "same"], .lst [.str "newer", .str "elder"], .lst [.str "elder", .str "newer"], .lst [.str "unclear", .str "unclear"]]) = some false := by decide +kernel
    have bb : decide ((Str.ofString "same") = Str.ofString "newer") = false := by decide +kernel
    have hh : ¬ (1 ≤ s ∧ s ≤ (c - 1) / 2) := fun z => absurd (hn.mpr z) (by decide +kernel)
    by_cases k1 : 1 ≤ s
    · have k2 : ¬ s ≤ (c - 1) / 2 := fun z => hh ⟨k1, z⟩
      simp [f24, b24, NC.start, evSs, evS, evE, evEs, evT, evO, Out.bind, Out.toS, W.get, W.getS, W.pl, W.old, finF, ofO, gets, cqq, cll, binD, biD, ixD, truD, freshL, lenOk, eqII, eqSS, eqB, w11, w11', setL, setW, w18, w18', i1, nn, w17, w9, w12, w12', i2, w7, bb, eqB, k1, k2]
    · simp [f24, b24, NC.start, evSs, evS, evE, evEs, evT, evO, Out.bind, Out.toS, W.get, W.getS, W.pl, W.old, finF, ofO, gets, cqq, cll, binD, biD, ixD, truD, freshL, lenOk, eqII, eqSS, eqB, w11, w11', setL, setW, w18, w18', i1, nn, w17, w9, w12, w12', i2, w7, bb, eqB, k1]
  · rw [p] at w18 w11 hn
    rw [q] at w18' w11'
    have i1 := (d16 (n := n + 5)).same (a := .lst [.str "newer", .str "elder"]) st (by decide +kernel)
    have nn : cmpD .nin (.lst [.str "newer", .str "elder"]) (.lst [.lst [.str "same", .str "same"], .lst [.str "newer", .str "elder"], .lst [.str "elder", .str "newer"], .lst [.str "unclear", .str "unclear"]]) = some false := by decide +kernel
    have bb : decide ((Str.ofString "newer") = Str.ofString "newer") = true := by decide +kernel
    have hh : 1 ≤ s ∧ s ≤ (c - 1) / 2 := hn.mp rfl
    have k1 := hh.1
    have k2 := hh.2
    simp [f24, b24, NC.start, evSs, evS, evE, evEs, evT, evO, Out.bind, Out.toS, W.get, W.getS, W.pl, W.old, finF, ofO, gets, cqq, cll, binD, biD, ixD, truD, freshL, lenOk, eqII, eqSS, eqB, w11, w11', setL, setW, w18, w18', i1, nn, w17, w9, w12, w12', i2, w7, bb, eqB, k1, k2]
  · rw [p] at w18 w11 hn
    rw [q] at w18' w11'
    have i1 := (d16 (n := n + 5)).same (a := .lst [.str "elder", .str "newer"]) st (by decide +kernel)
    have nn : cmpD .nin (.lst [.str "elder", .str "newer"]) (.lst [.lst [.str "same", .str "same"], .lst [.str "newer", .str "elder"], .lst [.str "elder", .str "newer"], .lst [.str "unclear", .str "unclear"]]) = some false := by decide +kernel
    have bb : decide ((Str.ofString "elder") = Str.ofString "newer") = false := by decide +kernel
    have hh : ¬ (1 ≤ s ∧ s ≤ (c - 1) / 2) := fun z => absurd (hn.mpr z) (by decide +kernel)
    by_cases k1 : 1 ≤ s
    · have k2 : ¬ s ≤ (c - 1) / 2 := fun z => hh ⟨k1, z⟩
      simp [f24, b24, NC.start, evSs, evS, evE, evEs, evT, evO, Out.bind, Out.toS, W.get, W.getS, W.pl, W.old, finF, ofO, gets, cqq, cll, binD, biD, ixD, truD, freshL, lenOk, eqII, eqSS, eqB, w11, w11', setL, setW, w18, w18', i1, nn, w17, w9, w12, w12', i2, w7, bb, eqB, k1, k2]
    · simp [f24, b24, NC.start, evSs, evS, evE, evEs, evT, evO, Out.bind, Out.toS, W.get, W.getS, W.pl, W.old, finF, ofO, gets, cqq, cll, binD, biD, ixD, truD, freshL, lenOk, eqII, eqSS, eqB, w11, w11', setL, setW, w18, w18', i1, nn, w17, w9, w12, w12', i2, w7, bb, eqB, k1]
  · rw [p] at w18 w11 hn
    rw [q] at w18' w11'
    have i1 := (d16 (n := n + 5)).same (a := .lst [.str "unclear", .str "unclear"]) st (by decide +kernel)
    have nn : cmpD .nin (.lst [.str "unclear", .str "unclear"]) (.lst [.lst [.str "same", .str "same"], .lst [.str "newer", .str "elder"], .lst [.str "elder", .str "newer"], .lst [.str "unclear", .str "unclear"]]) = some false := by decide +kernel
    have bb : decide ((Str.ofString "unclear") = Str.ofString "newer") = false := by decide +kernel
    have hh : ¬ (1 ≤ s ∧ s ≤ (c - 1) / 2) := fun z => absurd (hn.mpr z) (by decide +kernel)
    by_cases k1 : 1 ≤ s
    · have k2 : ¬ s ≤ (c - 1) / 2 := fun z => hh ⟨k1, z⟩
      simp [f24, b24, NC.start, evSs, evS, evE, evEs, evT, evO, Out.bind, Out.toS, W.get, W.getS, W.pl, W.old, finF, ofO, gets, cqq, cll, binD, biD, ixD, truD, freshL, lenOk, eqII, eqSS, eqB, w11, w11', setL, setW, w18, w18', i1, nn, w17, w9, w12, w12', i2, w7, bb, eqB, k1, k2]
    · simp [f24, b24, NC.start, evSs, evS, evE, evEs, evT, evO, Out.bind, Out.toS, W.get, W.getS, W.pl, W.old, finF, ofO, gets, cqq, cll, binD, biD, ixD, truD, freshL, lenOk, eqII, eqSS, eqB, w11, w11', setL, setW, w18, w18', i1, nn, w17, w9, w12, w12', i2, w7, bb, eqB, k1]
theorem inB_c {c : Int} (c1 : 3 ≤ c) (c2 : c ≤ M) : inB (.int c) 3 M = true := by simp [inB, c1, c2]
theorem inB_s {c a : Int} (a1 : 0 ≤ a) (a2 : a < c) : inB (.int a) 0 (c - 1) = true := by simp [inB, a1]; omega
abbrev dueL : List D := [.str "circle", .str "circle", .str "serial", .str "serial", .str "circle", .str "serial", .str "serial", .str "circle", .str "serial", .str "number"]
theorem due_eq : NC.eqD (.lst dueL) (.lst dueL) = some true := by decide +kernel
theorem s25 (h : Hd) (hk : h.ok) (c : Int) (c1 : 3 ≤ c) (c2 : c ≤ M) : ∃ h' : Hd, h'.ok ∧ (pr.orc (n + 9)).fn 25 [.loc 0, .d (.int c)] [h.cell] = .ok (.d (.bl true)) [h'.cell] := by
  obtain ⟨bad, h1, hb, k1, e1⟩ := s20 (n := n + 5) h hk []
  obtain ⟨off, h2, ho, k2, e2⟩ := s21 (n := n + 5) h1 k1 c c1 c2 []
  obtain ⟨nn, hx, h3, k3, e3⟩ := d15 (n := n + 6) h2 k2 [.non, .str "1", .bl true, .tup [.int 1], .lst [.int 2]] (by simp) (by simp) []
  have hn : intB nn = false := by
    simp only [List.mem_cons, List.not_mem_nil, or_false] at hx
    rcases hx with rfl | rfl | rfl | rfl | rfl <;> rfl
  have lk : (pr.orc (n + 8)).lok = true := rfl
  have gc := inB_c c1 c2
  have g0 := inB_s (c := c) (a := 0) (by omega) (by omega)
  have g1 := inB_s (c := c) (a := 1) (by omega) (by omega)
  have t1 : ∀ a b, two bad a b = some 0 := fun a b => by cases bad <;> simp_all [two]
  have t2 : two (.int c) off off = some 1 := by simp [two, gc, ho]
  have t3 : two (.int c) off (.int 0) = some 1 := by simp [two, gc, ho]
  have t4 : two (.int c) (.int 0) off = some 1 := by simp [two, gc, ho, g0]
  have t5 : two (.int c) (.int 1) off = some 1 := by simp [two, gc, ho, g1]
  have t6 : ∀ a b, one3 bad a b = some 0 := fun a b => by cases bad <;> simp_all [one3]
  have t7 : one3 (.int c) off nn = some 1 := by simp [one3, gc, ho]
  have t8 : one3 (.int c) (.int 1) nn = some 2 := by simp [one3, gc, g1, hn]
  have t9 : cB bad = some 0 := by simp [cB, hb]
  let R : Option W → Rho := fun y => [some (.loc 0), some (.d (.int c)), y, none, some (.d bad), some (.d off), some (.d nn)]
  have w1 : ∀ y st, (pr.orc (n + 8)).fn 22 [.clo (.call 7 [(.var 4)]) (R y)] st = .ok (.d (.str "circle")) st := fun y st => s22 (n := n + 6) (c := 0) (by decide) (by
    have := s7 (n := n + 2) (st := st) bad
    simp only [t9, res] at this
    simp [NC.start, evSs, evS, evE, evEs, evT, evO, Out.bind, Out.toS, W.get, W.getS, W.pl, W.old, finF, ofO, gets, cmpD, binD, biD, ixD, truD, freshL, lenOk, NC.eqD, R, this])
  have w2 : ∀ y st, (pr.orc (n + 8)).fn 22 [.clo (.call 9 [(.var 4), (.var 5), (.var 5)]) (R y)] st = .ok (.d (.str "circle")) st := fun y st => s22 (n := n + 6) (c := 0) (by decide) (by
    have := s9 (n := n) (st := st) bad off off
    simp only [t1, res] at this
    simp [NC.start, evSs, evS, evE, evEs, evT, evO, Out.bind, Out.toS, W.get, W.getS, W.pl, W.old, finF, ofO, gets, cmpD, binD, biD, ixD, truD, freshL, lenOk, NC.eqD, R, this])
  have w3 : ∀ y st, (pr.orc (n + 8)).fn 22 [.clo (.call 9 [(.var 1), (.var 5), (.con (.int 0))]) (R y)] st = .ok (.d (.str "serial")) st := fun y st => s22 (n := n + 6) (c := 1) (by decide) (by
    have := s9 (n := n) (st := st) (.int c) off (.int 0)
    simp only [t3, res] at this
    simp [NC.start, evSs, evS, evE, evEs, evT, evO, Out.bind, Out.toS, W.get, W.getS, W.pl, W.old, finF, ofO, gets, cmpD, binD, biD, ixD, truD, freshL, lenOk, NC.eqD, R, this])
  have w4 : ∀ y st, (pr.orc (n + 8)).fn 22 [.clo (.call 9 [(.var 1), (.con (.int 0)), (.var 5)]) (R y)] st = .ok (.d (.str "serial")) st := fun y st => s22 (n := n + 6) (c := 1) (by decide) (by
    have := s9 (n := n) (st := st) (.int c) (.int 0) off
    simp only [t4, res] at this
    simp [NC.start, evSs, evS, evE, evEs, evT, evO, Out.bind, Out.toS, W.get, W.getS, W.pl, W.old, finF, ofO, gets, cmpD, binD, biD, ixD, truD, freshL, lenOk, NC.eqD, R, this])
  have w5 : ∀ y st, (pr.orc (n + 8)).fn 22 [.clo (.call 11 [(.var 4), (.con (.int 0)), (.con (.int 0))]) (R y)] st = .ok (.d (.str "circle")) st := fun y st => s22 (n := n + 6) (c := 0) (by decide) (by
    have := s11 (n := n) (st := st) bad (.int 0) (.int 0)
    simp only [t1, res] at this
    simp [NC.start, evSs, evS, evE, evEs, evT, evO, Out.bind, Out.toS, W.get, W.getS, W.pl, W.old, finF, ofO, gets, cmpD, binD, biD, ixD, truD, freshL, lenOk, NC.eqD, R, this])
  have w6 : ∀ y st, (pr.orc (n + 8)).fn 22 [.clo (.call 11 [(.var 1), (.var 5), (.var 5)]) (R y)] st = .ok (.d (.str "serial")) st := fun y st => s22 (n := n + 6) (c := 1) (by decide) (by
    have := s11 (n := n) (st := st) (.int c) off off
    simp only [t2, res] at this
    simp [NC.start, evSs, evS, evE, evEs, evT, evO, Out.bind, Out.toS, W.get, W.getS, W.pl, W.old, finF, ofO, gets, cmpD, binD, biD, ixD, truD, freshL, lenOk, NC.eqD, R, this])
  have w7 : ∀ y st, (pr.orc (n + 8)).fn 22 [.clo (.call 11 [(.var 1), (.con (.int 1)), (.var 5)]) (R y)] st = .ok (.d (.str "serial")) st := fun y st => s22 (n := n + 6) (c := 1) (by decide) (by
    have := s11 (n := n) (st := st) (.int c) (.int 1) off
    simp only [t5, res] at this
    simp [NC.start, evSs, evS, evE, evEs, evT, evO, Out.bind, Out.toS, W.get, W.getS, W.pl, W.old, finF, ofO, gets, cmpD, binD, biD, ixD, truD, freshL, lenOk, NC.eqD, R, this])
  have w8 : ∀ y st, (pr.orc (n + 8)).fn 22 [.clo (.call 12 [(.var 4), (.var 5), (.var 6)]) (R y)] st = .ok (.d (.str "circle")) st := fun y st => s22 (n := n + 6) (c := 0) (by decide) (by
    have := s12 (n := n) (st := st) bad off nn
    simp only [t6, res] at this
    simp [NC.start, evSs, evS, evE, evEs, evT, evO, Out.bind, Out.toS, W.get, W.getS, W.pl, W.old, finF, ofO, gets, cmpD, binD, biD, ixD, truD, freshL, lenOk, NC.eqD, R, this])
  have w9 : ∀ y st, (pr.orc (n + 8)).fn 22 [.clo (.call 12 [(.var 1), (.var 5), (.var 6)]) (R y)] st = .ok (.d (.str "serial")) st := fun y st => s22 (n := n + 6) (c := 1) (by decide) (by
    have := s12 (n := n) (st := st) (.int c) off nn
    simp only [t7, res] at this
    simp [NC.start, evSs, evS, evE, evEs, evT, evO, Out.bind, Out.toS, W.get, W.getS, W.pl, W.old, finF, ofO, gets, cmpD, binD, biD, ixD, truD, freshL, lenOk, NC.eqD, R, this])
  have w10 : ∀ y st, (pr.orc (n + 8)).fn 22 [.clo (.call 12 [(.var 1), (.con (.int 1)), (.var 6)]) (R y)] st = .ok (.d (.str "number")) st := fun y st => s22 (n := n + 6) (c := 2) (by decide) (by
    have := s12 (n := n) (st := st) (.int c) (.int 1) nn
    simp only [t8, res] at this
    simp [NC.start, evSs, evS, evE, evEs, evT, evO, Out.bind, Out.toS, W.get, W.getS, W.pl, W.old, finF, ofO, gets, cmpD, binD, biD, ixD, truD, freshL, lenOk, NC.eqD, R, this])
  simp only [R] at w1 w2 w3 w4 w5 w6 w7 w8 w9 w10
  have dq := due_eq
  refine ⟨h3, k3, ?_⟩
  rw [orc_fn (fi := f25) rfl]
  simp [f25, b25, NC.start, evSs, evS, evE, evEs, evT, evO, Out.bind, Out.toS, W.get, W.getS, W.pl, W.old, finF, ofO, gets, cqq, cll, binD, biD, ixD, truD, freshL, lenOk, eqII, eqSS, eqB, e1, e2, e3, setL, setW, lk, w1, w2, w3, w4, w5, w6, w7, w8, w9, w10, dq]
theorem loop1 (h0 : Hd) (k0 : h0.ok) (sc : W) : ∃ (y2 y3 y4 y5 y6 : Option W) (h : Hd), h.ok ∧ evS (pr.orc (n + 9)) (.fo (.v 2) .rng [(.con (.int 12))] [(.asg (.v 3) (.call 19 [(.var 1)])), (.ite (.not (.e (.call 16 [(.call 7 [(.var 3)]), (.bin .fdiv (.bin .sub (.var 3) (.con (.int 1))) (.con (.int 2)))]))) [(.ret (.con (.bl false)))] []), (.asg (.t [(.v 4), (.v 6)]) (.call 23 [(.var 1), (.var 3)])), (.ite (.not (.e (.call 24 [(.var 3), (.var 4), (.var 6)]))) [(.ret (.con (.bl false)))] []), (.asg (.v 5) (.bin .mul (.call 15 [(.var 1), (.ldisp false [(.con (.int 1)), (.neg (.con (.int 1)))])]) (.call 14 [(.var 1), (.call 15 [(.var 1), (.ldisp false [(.con (.int 9)), (.bin .pow (.con (.int 10)) (.con (.int 20))), (.bin .pow (.con (.int 10)) (.con (.int 39)))])])]))), (.ite (.not (.e (.call 16 [(.call 12 [(.var 3), (.var 4), (.var 5)]), (.bin .mod (.bi .int [(.bin .add (.var 4) (.var 5))]) (.var 3))]))) [(.ret (.con (.bl false)))] [])]) [some sc, some (.loc 0), none, none, none, none, none] [h0.cell] = .ok .nx [some sc, some (.loc 0), y2, y3, y4, y5, y6] [h.cell] := by
  let I : Rho → Sto → Prop := fun ρ st => ∃ (y2 y3 y4 y5 y6 : Option W) (h : Hd), h.ok ∧ ρ = [some sc, some (.loc 0), y2, y3, y4, y5, y6] ∧ st = [h.cell]
  obtain ⟨ρ', st', e, y2, y3, y4, y5, y6, h, hk, rfl, rfl⟩ := fo_rng (C := pr.orc (n + 9)) (i := 2) (e := .con (.int 12)) (n := 12) (I := I) (ρ := [some sc, some (.loc 0), none, none, none, none, none]) (st := [h0.cell]) rfl (by decide) ⟨_, _, _, _, _, h0, k0, rfl, rfl⟩ (b := [(.asg (.v 3) (.call 19 [(.var 1)])), (.ite (.not (.e (.call 16 [(.call 7 [(.var 3)]), (.bin .fdiv (.bin .sub (.var 3) (.con (.int 1))) (.con (.int 2)))]))) [(.ret (.con (.bl false)))] []), (.asg (.t [(.v 4), (.v 6)]) (.call 23 [(.var 1), (.var 3)])), (.ite (.not (.e (.call 24 [(.var 3), (.var 4), (.var 6)]))) [(.ret (.con (.bl false)))] []), (.asg (.v 5) (.bin .mul (.call 15 [(.var 1), (.ldisp false [(.con (.int 1)), (.neg (.con (.int 1)))])]) (.call 14 [(.var 1), (.call 15 [(.var 1), (.ldisp false [(.con (.int 9)), (.bin .pow (.con (.int 10)) (.con (.int 20))), (.bin .pow (.con (.int 10)) (.con (.int 39)))])])]))), (.ite (.not (.e (.call 16 [(.call 12 [(.var 3), (.var 4), (.var 5)]), (.bin .mod (.bi .int [(.bin .add (.var 4) (.var 5))]) (.var 3))]))) [(.ret (.con (.bl false)))] [])]) (fun j ρ st j0 j1 hI => by
    obtain ⟨y2, y3, y4, y5, y6, h, hk, rfl, rfl⟩ := hI
    obtain ⟨c, h1, c1, c2, k1, e1⟩ := s19 (n := n + 6) h hk []
    obtain ⟨a, b, h2, a1, a2, b1, b2, k2, e2⟩ := s23 (n := n + 6) h1 k1 c c1 c2 []
    obtain ⟨x, hx, h3, k3, e3⟩ := d15 (n := n + 7) h2 k2 [.int 1, .int (-1)] (by simp) (by simp) []
    obtain ⟨x2, hx2, h4, k4, e4⟩ := d15 (n := n + 7) h3 k3 [.int 9, .int 100000000000000000000, .int 1000000000000000000000000000000000000000] (by simp) (by simp) []
    have hxi : ∃ i, x = .int i ∧ (i = 1 ∨ i = -1) := by
      simp only [List.mem_cons, List.not_mem_nil, or_false] at hx
      rcases hx with rfl | rfl
      · exact ⟨1, rfl, .inl rfl⟩
      · exact ⟨-1, rfl, .inr rfl⟩
    obtain ⟨i, rfl, hi⟩ := hxi
    have hxm : ∃ m, x2 = .int m ∧ 0 < m ∧ divOk m = true := by
      simp only [List.mem_cons, List.not_mem_nil, or_false] at hx2
      rcases hx2 with rfl | rfl | rfl
      · exact ⟨_, rfl, by decide, by decide +kernel⟩
      · exact ⟨_, rfl, by decide, by decide +kernel⟩
      · exact ⟨_, rfl, by decide, by decide +kernel⟩
    obtain ⟨m, rfl, m0, dm⟩ := hxm
    obtain ⟨r, h5, r0, r1, k5, e5⟩ := d14 (n := n + 8) h4 k4 m m0 dm []
    have mo : mulOk i r = true := mulOk_l (by rcases hi with rfl | rfl <;> decide)
    have w7 := s7 (n := n + 5) (st := [h1.cell]) (.int c)
    have w24 := s24 (n := n + 2) c1 c2 a1 a2 b1 b2 [h2.cell]
    have w12 := s12 (n := n + 3) (st := [h5.cell]) (.int c) (.int a) (.int (i * r))
    simp only [iOf, cB_ok c1 c2, one_ok c1 c2 a1 a2, res] at w7 w12
    have c0 : 0 < c := by omega
    have z1 : 0 ≤ (a + i * r) % c := Int.emod_nonneg _ (by omega)
    have z2 : (a + i * r) % c < c := Int.emod_lt_of_pos _ c0
    simp only [M] at c2
    have i1 := (d16 (n := n + 8)).same (a := .int ((c - 1) / 2)) [h1.cell] (show1 (by rw [big]; omega) (by rw [big]; omega))
    have i2 := (d16 (n := n + 8)).same (a := .int ((a + i * r) % c)) [h5.cell] (show1 (by rw [big]; omega) (by rw [big]; omega))
    refine ⟨[some sc, some (.loc 0), some (.d (.int j)), some (.d (.int c)), some (.d (.int a)), some (.d (.int (i * r))), some (.d (.int b))], [h5.cell], by simp, ?_, _, _, _, _, _, h5, k5, rfl, rfl⟩
    simp [NC.start, evSs, evS, evE, evEs, evT, evO, Out.bind, Out.toS, W.get, W.getS, W.pl, W.old, finF, ofO, gets, cmpD, binD, biD, ixD, truD, freshL, lenOk, NC.eqD, e1, e2, e3, e4, e5, w7, w24, w12, i1, i2, mo, setW, setT, setTs, divOk2, c0, pw20, pw39])
  exact ⟨y2, y3, y4, y5, y6, h, hk, e⟩
theorem loop2 (h : Hd) (sc : W) (y2 y4 y5 y6 : Option W) (c : Int) (c1 : 3 ≤ c) (c2 : c ≤ 11) : ∃ (z4 : Option W), evS (pr.orc (n + 9)) (.fo (.v 4) .rng [(.var 3)] [(.ite (.not (.e (.bi .all [(.comp false (.v 6) .rng [(.var 3)] none (.call 24 [(.var 3), (.var 4), (.var 6)]))]))) [(.ret (.con (.bl false)))] [])]) [some sc, some (.loc 0), y2, some (.d (.int c)), y4, y5, y6] [h.cell] = .ok .nx [some sc, some (.loc 0), y2, some (.d (.int c)), z4, y5, y6] [h.cell] := by
  have cM : c ≤ M := by simp only [M]; omega
  have rc : rngOk c = true := by simp [rngOk]; omega
  let I : Rho → Sto → Prop := fun ρ st => ∃ (y4 : Option W), ρ = [some sc, some (.loc 0), y2, some (.d (.int c)), y4, y5, y6] ∧ st = [h.cell]
  obtain ⟨ρ', st', e, z4, rfl, rfl⟩ := fo_rng (C := pr.orc (n + 9)) (i := 4) (e := .var 3) (n := c) (I := I) (ρ := [some sc, some (.loc 0), y2, some (.d (.int c)), y4, y5, y6]) (st := [h.cell]) rfl rc ⟨_, rfl, rfl⟩ (b := [(.ite (.not (.e (.bi .all [(.comp false (.v 6) .rng [(.var 3)] none (.call 24 [(.var 3), (.var 4), (.var 6)]))]))) [(.ret (.con (.bl false)))] [])]) (fun j ρ st j0 j1 hI => by
    obtain ⟨y4, rfl, rfl⟩ := hI
    refine ⟨[some sc, some (.loc 0), y2, some (.d (.int c)), some (.d (.int j)), y5, y6], [h.cell], by simp, ?_, _, rfl, rfl⟩
    have ea := all_rng (C := pr.orc (n + 9)) (i := 6) (e := .var 3) (x := .call 24 [(.var 3), (.var 4), (.var 6)]) (ρ := [some sc, some (.loc 0), y2, some (.d (.int c)), some (.d (.int j)), y5, y6]) (st := [h.cell]) (n := c) rfl rc (by omega) (by simp) (fun j2 k0 k1 => by
      have w24 := s24 (n := n + 2) c1 cM j0 j1 k0 k1 [h.cell]
      simp [NC.start, evSs, evS, evE, evEs, evT, evO, Out.bind, Out.toS, W.get, W.getS, W.pl, W.old, finF, ofO, gets, cmpD, binD, biD, ixD, truD, freshL, lenOk, NC.eqD, w24])
    have et : evT (pr.orc (n + 9)) (.not (.e (.bi .all [(.comp false (.v 6) .rng [(.var 3)] none (.call 24 [(.var 3), (.var 4), (.var 6)]))]))) [some sc, some (.loc 0), y2, some (.d (.int c)), some (.d (.int j)), y5, y6] [h.cell] = .ok false [h.cell] := by
      simp only [evT, ea, Out.bind, W.get, truD, ofO]
      rfl
    show evSs (pr.orc (n + 9)) _ [some sc, some (.loc 0), y2, some (.d (.int c)), some (.d (.int j)), y5, y6] [h.cell] = _
    simp only [evSs, evS, et, Out.toS]
    rfl)
  exact ⟨z4, e⟩
theorem plain (ns : List Int) (hl : ns.length ≤ 63) (_ : ∀ z ∈ ns, Builtin.Int.intBits z ≤ 1048576) : ∃ st, (pr.orc 12).fn 26 [.scr (ns.map D.int)] [] = .ok (.d (.bl true)) st := by
  obtain ⟨h0, k0, e0⟩ := s13 (n := 10) ns hl
  obtain ⟨y2, y3, y4, y5, y6, h1, k1, e1⟩ := loop1 (n := 2) h0 k0 (.scr (ns.map D.int))
  obtain ⟨r, h2, r0, r1, k2, e2⟩ := d14 (n := 10) h1 k1 9 (by decide) (by decide +kernel) []
  obtain ⟨z4, e3⟩ := loop2 (n := 2) h2 (.scr (ns.map D.int)) y2 y4 y5 y6 (3 + r) (by omega) (by omega)
  obtain ⟨c, h3, c1, c2, k3, e4⟩ := s19 (n := 8) h2 k2 []
  obtain ⟨h4, k4, e5⟩ := s25 (n := 2) h3 k3 c c1 c2
  have w7 := s7 (n := 7) (st := [h4.cell]) (.int M)
  simp only [iOf, cB_ok (c := M) (by decide) (by decide), res] at w7
  refine ⟨[], ?_⟩
  rw [orc_fn (n := 11) (fi := f26) rfl]
  have hst : NC.start 7 [W.scr (ns.map D.int)] = [some (.scr (ns.map D.int)), none, none, none, none, none, none] := rfl
  simp only [f26, b26, hst]
  show finF 0 _ = _
  have a1 : evS (pr.orc 11) (.asg (.v 1) (.call 13 [(.var 0)])) [some (.scr (ns.map D.int)), none, none, none, none, none, none] [] = .ok .nx [some (.scr (ns.map D.int)), some (.loc 0), none, none, none, none, none] [h0.cell] := by
    simp [NC.start, evSs, evS, evE, evEs, evT, evO, Out.bind, Out.toS, W.get, W.getS, W.pl, W.old, finF, ofO, gets, cmpD, binD, biD, ixD, truD, freshL, lenOk, NC.eqD, e0, setW]
  have a2 : evS (pr.orc 11) (.asg (.v 3) (.bin .add (.con (.int 3)) (.call 14 [(.var 1), (.con (.int 9))]))) [some (.scr (ns.map D.int)), some (.loc 0), y2, y3, y4, y5, y6] [h1.cell] = .ok .nx [some (.scr (ns.map D.int)), some (.loc 0), y2, some (.d (.int (3 + r))), y4, y5, y6] [h2.cell] := by
    simp [NC.start, evSs, evS, evE, evEs, evT, evO, Out.bind, Out.toS, W.get, W.getS, W.pl, W.old, finF, ofO, gets, cmpD, binD, biD, ixD, truD, freshL, lenOk, NC.eqD, e2, setW]
  have a3 : evS (pr.orc 11) (.ret (.and (.call 25 [(.var 1), (.call 19 [(.var 1)])]) (.cmp .eq (.call 7 [(.bin .pow (.con (.int 10)) (.con (.int 20)))]) (.con (.int 49999999999999999999))))) [some (.scr (ns.map D.int)), some (.loc 0), y2, some (.d (.int (3 + r))), z4, y5, y6] [h2.cell] = .ok (.rt (.d (.bl true))) [some (.scr (ns.map D.int)), some (.loc 0), y2, some (.d (.int (3 + r))), z4, y5, y6] [h4.cell] := by
    simp only [M, Int.reduceSub] at w7
    simp [NC.start, evSs, evS, evE, evEs, evT, evO, Out.bind, Out.toS, W.get, W.getS, W.pl, W.old, finF, ofO, gets, cmpD, binD, biD, ixD, truD, freshL, lenOk, NC.eqD, e4, e5, w7, pw20]
  simp only [evSs, a1, e1, a2, e3, a3]
  rfl
end K01

set_option maxRecDepth 100000
set_option maxHeartbeats 0
open PySem PySem.W PySem.Calls PyProof.Rows
set_option maxRecDepth 100000 in
set_option maxHeartbeats 0 in
theorem PySem.Challenge.cw_namescopied_k01_whole_circles_great_and_holds : PySem.Challenge.rw_namescopied_k01_whole_circles_great_and.Holds := by
  w_on; o_law
  refine HandSHeadRun.head_any (r := OpenLaw.row PySem.Challenge.rw_namescopied_k01_whole_circles_great_and) (q := K01.qv) (H := NC.hookP 5 K01.pr) (ob := K01.ob) (M := 3000) (loose := K01.names) (d := HandSHeadRun.topDef (OpenLaw.row PySem.Challenge.rw_namescopied_k01_whole_circles_great_and).prog 40) (kwd := []) K01.ob_eq
    (by kernel_rfl) (fun s => by kernel_rfl) K01.run (by kernel_rfl) (by kernel_rfl) (by kernel_rfl) (by rfl) (by first | assumption | decide +kernel) (by decide +kernel) ⟨rfl, rfl, rfl, rfl, rfl, by decide +kernel⟩ ?hw ?hc
  case hw => w_witness2
  case hc => exact NC.walk_main (l := PySem.Challenge.rw_namescopied_k01_whole_circles_great_and) (n := 5) (lv := 12) (F0 := 100) (i0 := 26) (x := "script") (fl := K01.f26) rfl (by kernel_rfl) ⟨rfl, by decide, by decide⟩ K01.ok rfl rfl rfl (by kernel_rfl) K01.plain
