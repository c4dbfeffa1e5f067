import PyProof.Rows.All
import Wide.All
import OpenK.AllK
import Wide.FinOn
import HandS.ForMost
import HandS.Exc
import KE.KDictKeyed
import KE.KeyNested
import HandS.Deep
import HandS.TupAny
import HandS.TupMul
import HandS.Conv
import HandS.Codes
import KE.DataEq
import KE.DataFind
import KE.DataMinMax
import KE.SortData
import HandS.Dict
import HandS.Text
import HandS.More
import HandS.WordsDict
import KE.KDictCopyH
import HandS.TupSets
import HandS.ExcOwn
import HandS.HotCalls
import HandS.TryOnly
import HandS.WordsExc
import HandS.Comp
import HandS.IsInst
import PyProof.AutoSeq1
import HandS.Zip
import HandS.ExcIs
import HandS.Star
import HandS.Style
import PySem.Challenge.RW_topwebs_k07_rankings
set_option linter.all false
/-! PL: a small language with values as trees, and its evaluator. Lists and dicts are values; who may change one is told by flags. -/
namespace PL

/-! ### values -/
inductive PV where
  | non | bl (b : Bool) | int (i : Int) | str (s : List Nat)
  | tup (l : List PV) | lst (l : List PV) | dct (ks vs : List PV) | ins (c : Nat) (ns : List (List Nat)) (vs : List PV)
  | fn (n : Nat)

namespace PV
mutual
def beq : PV → PV → Bool
  | .non, .non => true
  | .bl a, .bl b => a == b
  | .int a, .int b => decide (a = b)
  | .str a, .str b => decide (a = b)
  | .tup a, .tup b => beqs a b
  | .lst a, .lst b => beqs a b
  | .dct a c, .dct b d => beqs a b && beqs c d
  | .ins a c e, .ins b d f => decide (a = b) && decide (c = d) && beqs e f
  | .fn a, .fn b => decide (a = b)
  | _, _ => false
def beqs : List PV → List PV → Bool
  | [], [] => true
  | a :: as, b :: bs => beq a b && beqs as bs
  | _, _ => false
end
mutual
theorem beq_self : ∀ a : PV, beq a a = true
  | .non => rfl
  | .bl a => by simp [beq]
  | .int a => by simp [beq]
  | .str a => by simp [beq]
  | .tup a => by rw [beq]; exact beqs_self a
  | .lst a => by rw [beq]; exact beqs_self a
  | .dct a b => by rw [beq, beqs_self a, beqs_self b]; rfl
  | .ins a b c => by rw [beq, beqs_self c]; simp
  | .fn a => by simp [beq]
theorem beqs_self : ∀ a : List PV, beqs a a = true
  | [] => rfl
  | a :: as => by rw [beqs, beq_self a, beqs_self as]; rfl
end
mutual
theorem eq_of_beq : ∀ a b : PV, beq a b = true → a = b
  | .non, b, h => by cases b <;> simp [beq] at h; rfl
  | .bl a, b, h => by cases b <;> simp [beq] at h; rw [h]
  | .int a, b, h => by cases b <;> simp [beq] at h; rw [h]
  | .str a, b, h => by cases b <;> simp [beq] at h; rw [h]
  | .tup a, b, h => by
    cases b with
    | tup b => rw [beq] at h; rw [eqs_of_beqs a b h]
    | _ => simp [beq] at h
  | .lst a, b, h => by
    cases b with
    | lst b => rw [beq] at h; rw [eqs_of_beqs a b h]
    | _ => simp [beq] at h
  | .dct a c, b, h => by
    cases b with
    | dct b d => rw [beq, Bool.and_eq_true] at h; rw [eqs_of_beqs a b h.1, eqs_of_beqs c d h.2]
    | _ => simp [beq] at h
  | .ins a c e, b, h => by
    cases b with
    | ins b d f =>
      rw [beq, Bool.and_eq_true, Bool.and_eq_true, decide_eq_true_eq, decide_eq_true_eq] at h
      rw [h.1.1, h.1.2, eqs_of_beqs e f h.2]
    | _ => simp [beq] at h
  | .fn a, b, h => by cases b <;> simp [beq] at h; rw [h]
theorem eqs_of_beqs : ∀ a b : List PV, beqs a b = true → a = b
  | [], [], _ => rfl
  | a :: as, b :: bs, h => by
    rw [beqs, Bool.and_eq_true] at h
    rw [eq_of_beq a b h.1, eqs_of_beqs as bs h.2]
  | [], _ :: _, h => by simp [beqs] at h
  | _ :: _, [], h => by simp [beqs] at h
end
instance : DecidableEq PV := fun a b => if h : beq a b = true then .isTrue (eq_of_beq a b h) else .isFalse fun e => h (e ▸ beq_self a)
instance : Inhabited PV := ⟨.non⟩

/-- what may change -/
def isM : PV → Bool
  | .lst _ => true
  | .dct _ _ => true
  | .ins _ _ _ => true
  | _ => false

mutual
/-- plain data: what == and in know -/
def dat : PV → Bool
  | .non => true
  | .bl _ => true
  | .int _ => true
  | .str _ => true
  | .tup l => dats l
  | .lst l => dats l
  | _ => false
def dats : List PV → Bool
  | [] => true
  | a :: l => dat a && dats l
end
mutual
def dep : PV → Nat
  | .tup l => deps l + 1
  | .lst l => deps l + 1
  | _ => 0
def deps : List PV → Nat
  | [] => 0
  | a :: l => max (dep a) (deps l)
end
/-- a bool among numbers -/
def b2i (b : Bool) : Int := if b then 1 else 0
mutual
/-- == of plain data -/
def peq : PV → PV → Bool
  | .non, .non => true
  | .bl a, .bl b => a == b
  | .bl a, .int b => decide (b2i a = b)
  | .int a, .bl b => decide (a = b2i b)
  | .int a, .int b => decide (a = b)
  | .str a, .str b => decide (a = b)
  | .tup a, .tup b => peqs a b
  | .lst a, .lst b => peqs a b
  | _, _ => false
def peqs : List PV → List PV → Bool
  | [], [] => true
  | a :: as, b :: bs => peq a b && peqs as bs
  | _, _ => false
end
mutual
/-- no bool within: == is = -/
def cln : PV → Bool
  | .non => true
  | .int _ => true
  | .str _ => true
  | .tup l => clns l
  | .lst l => clns l
  | _ => false
def clns : List PV → Bool
  | [] => true
  | a :: l => cln a && clns l
end
mutual
theorem peq_cln : ∀ a b : PV, cln a = true → cln b = true → peq a b = decide (a = b)
  | .non, b, _, hb => by cases b <;> simp [peq, cln] at *
  | .int a, b, _, hb => by cases b <;> simp [peq, cln] at *
  | .str a, b, _, hb => by cases b <;> simp [peq, cln] at *
  | .tup a, b, ha, hb => by
    cases b with
    | tup b =>
      rw [cln] at ha hb
      rw [peq, peqs_cln a b ha hb]
      simp
    | _ => simp [peq, cln] at *
  | .lst a, b, ha, hb => by
    cases b with
    | lst b =>
      rw [cln] at ha hb
      rw [peq, peqs_cln a b ha hb]
      simp
    | _ => simp [peq, cln] at *
  | .bl _, _, ha, _ => by simp [cln] at ha
  | .dct _ _, _, ha, _ => by simp [cln] at ha
  | .ins _ _ _, _, ha, _ => by simp [cln] at ha
  | .fn _, _, ha, _ => by simp [cln] at ha
theorem peqs_cln : ∀ a b : List PV, clns a = true → clns b = true → peqs a b = decide (a = b)
  | [], [], _, _ => by simp [peqs]
  | a :: as, b :: bs, ha, hb => by
    rw [clns, Bool.and_eq_true] at ha hb
    rw [peqs, peq_cln a b ha.1 hb.1, peqs_cln as bs ha.2 hb.2]
    simp
  | [], _ :: _, _, _ => by simp [peqs]
  | _ :: _, [], _, _ => by simp [peqs]
end
mutual
theorem dat_cln : ∀ a : PV, cln a = true → dat a = true
  | .non, _ => rfl
  | .int _, _ => rfl
  | .str _, _ => rfl
  | .tup l, h => by rw [dat]; rw [cln] at h; exact dats_clns l h
  | .lst l, h => by rw [dat]; rw [cln] at h; exact dats_clns l h
  | .bl _, h => by simp [cln] at h
  | .dct _ _, h => by simp [cln] at h
  | .ins _ _ _, h => by simp [cln] at h
  | .fn _, h => by simp [cln] at h
theorem dats_clns : ∀ a : List PV, clns a = true → dats a = true
  | [], _ => rfl
  | a :: as, h => by
    rw [clns, Bool.and_eq_true] at h
    rw [dats, dat_cln a h.1, dats_clns as h.2]; rfl
end
end PV
open PV

/-! ### order, sorting -/
namespace PV
mutual
/-- may be put in order, place by place -/
def alk : PV → PV → Bool
  | .non, .non => true
  | .int _, .int _ => true
  | .str _, .str _ => true
  | .tup a, .tup b => alks a b
  | .lst a, .lst b => alks a b
  | _, _ => false
def alks : List PV → List PV → Bool
  | a :: as, b :: bs => alk a b && alks as bs
  | _, _ => true
end
def ltS : List Nat → List Nat → Bool
  | [], [] => false
  | [], _ :: _ => true
  | _ :: _, [] => false
  | a :: as, b :: bs => if a = b then ltS as bs else decide (a < b)
mutual
def plt : PV → PV → Bool
  | .int a, .int b => decide (a < b)
  | .str a, .str b => ltS a b
  | .tup a, .tup b => plts a b
  | .lst a, .lst b => plts a b
  | _, _ => false
def plts : List PV → List PV → Bool
  | [], [] => false
  | [], _ :: _ => true
  | _ :: _, [] => false
  | a :: as, b :: bs => if beq a b then plts as bs else plt a b
end
def isTupC : PV → Bool
  | .tup (_ :: _) => true
  | _ => false
def isOther : PV → Bool
  | .non => false
  | .tup _ => false
  | _ => true
def okSort (l : List PV) : Bool := l.all (fun a => l.all fun b => alk a b) && (l.all isTupC || l.all isOther) && decide (deps l ≤ 8)
def ple (a b : PV) : Bool := !plt b a
def ins1 (a : PV) : List PV → List PV
  | [] => [a]
  | b :: l => if ple a b then a :: b :: l else b :: ins1 a l
def isort : List PV → List PV
  | [] => []
  | a :: l => ins1 a (isort l)
def psort (l : List PV) : Option (List PV) := if okSort l then some (isort l) else none
/-- the first least, the first greatest -/
def pmin : List PV → Option PV
  | [] => none
  | a :: l => some (l.foldl (fun m x => if plt x m then x else m) a)
def pmax : List PV → Option PV
  | [] => none
  | a :: l => some (l.foldl (fun m x => if plt m x then x else m) a)
def dedup : List PV → List PV → List PV
  | acc, [] => acc
  | acc, a :: l => if acc.any (fun b => peq b a) then dedup acc l else dedup (acc ++ [a]) l
end PV

/-! ### the language -/
inductive BOp where
  | add | sub | mul | mod | fdiv | pow | eq | ne | lt | le | gt | ge | inn | nin | cnt | idx | cntT | idxT | get | split | join | mn | mx
  deriving DecidableEq
inductive Bi where
  | len | list | tuple | sorted | sset | all | any | min | max | sum | abs | int | str | dict
  deriving DecidableEq
inductive Ty where
  | int | bool | str | tuple | list
  deriving DecidableEq
inductive ItK where
  | seq | zip | enm | rng
  deriving DecidableEq
inductive Tg where
  | nm (i : Nat) | tp (ts : List Tg)
inductive Ex where
  | const (v : PV) | var (i : Nat)
  | tupd (es : List Ex) | lstd (es : List Ex) | dctn | dct1 (k v : Ex)
  | bin (op : BOp) (a b : Ex) | neg (a : Ex) | nt (a : Ex) | isN (neg : Bool) (a : Ex)
  | and (a b : Ex) | or (a b : Ex) | ch (o1 o2 : BOp) (a b c : Ex) | ife (c a b : Ex)
  | comp (elt : Ex) (t : Tg) (k : ItK) (a b : Ex) (cs : List Ex) (own : List Nat) (hd : Bool)
  | ix (a i : Ex) | sl (a lo hi : Ex) | rev (a : Ex) | fld (a : Ex) (f : List Nat)
  | call (f : Nat) (es : List Ex) | cal (S : List Nat) (g : Ex) (es : List Ex) | bm (op : BOp) (a b : Ex) | mk (c f : Nat) (es : List Ex) | mth (i m : Nat) (es : List Ex)
  | b1 (b : Bi) (a : Ex) | isin (a : Ex) (c : Ty) | rng (tq : Bool) (a b : Ex)
  | app (i : Nat) (a : Ex) | ext (i : Nat) (a : Ex) | pop (i : Nat)
  | appf (i : Nat) (f : List Nat) (a : Ex) | popf (i : Nat) (f : List Nat) | isE (i n : Nat) (b : Bool) | popi (i : Nat) (a : Ex)
inductive St where
  | asg (t : Tg) (e : Ex) | par (is : List Nat) (es : List Ex) | exp (e : Ex) | ife (c : Ex) (a b : List St)
  | whl (c : Ex) (b : List St) | fr (t : Tg) (k : ItK) (a b : Ex) (body : List St) (hd : Bool)
  | ret (e : Ex) | rse (c : Nat) | tr (body : List St) (c i : Nat) | brk | pass
  | sti (i : Nat) (k e : Ex) | stf (i : Nat) (f : List Nat) (e : Ex)
structure FD where
  np : Nat
  ns : Nat
  rb : List Nat
  body : List St
structure Tab where
  fns : Nat → Option FD
  mth : Nat → Nat → Option Nat
  wh : Nat → Nat → Option Nat

/-! ### states and outcomes -/
abbrev Slot := Option (PV × Bool)
abbrev Env := List Slot
inductive Fl where
  | own | frz | al (j : Nat) | alf (j : Nat)
  deriving DecidableEq
inductive R (A : Type) where
  | ok (a : A) (r : Env) | exc (c : Nat) (r : Env) | bad
inductive Flow where
  | nx | rt (v : PV) (f : Fl) | bk
inductive Res where
  | ok (v : PV) (o : Bool) (as : List (PV × Bool)) | exc (c : Nat) (as : List (PV × Bool)) | bad
abbrev Fns := Nat → List (PV × Bool) → Res

def R.bind {A B : Type} (x : R A) (f : A → Env → R B) : R B :=
  match x with
  | .ok a r => f a r
  | .exc c r => .exc c r
  | .bad => .bad
@[simp] theorem R.bind_ok {A B : Type} (a : A) (r : Env) (f : A → Env → R B) : (R.ok a r).bind f = f a r := rfl
@[simp] theorem R.bind_exc {A B : Type} (c : Nat) (r : Env) (f : A → Env → R B) : (R.exc c r : R A).bind f = .exc c r := rfl
@[simp] theorem R.bind_bad {A B : Type} (f : A → Env → R B) : (R.bad : R A).bind f = .bad := rfl
/-- a value or none of it -/
def R.of {A : Type} (x : Option A) (r : Env) : R A :=
  match x with
  | some a => .ok a r
  | none => .bad
@[simp] theorem R.of_some {A : Type} (a : A) (r : Env) : R.of (some a) r = .ok a r := rfl
@[simp] theorem R.of_none {A : Type} (r : Env) : R.of (none : Option A) r = .bad := rfl
def R.chk {A : Type} (b : Bool) (x : R A) : R A := if b then x else .bad
@[simp] theorem R.chk_true {A : Type} (x : R A) : R.chk true x = x := rfl
@[simp] theorem R.chk_false {A : Type} (x : R A) : R.chk false x = .bad := rfl

def get (r : Env) (i : Nat) : Slot := (r[i]?).getD none
/-- the list in slot j is changed no more -/
def frzS (r : Env) (j : Nat) : Option Env :=
  match get r j with
  | some (.lst l, _) => some (r.set j (some (.lst l, false)))
  | _ => none
/-- a value goes where it may be read for ever -/
def sink (v : PV) (f : Fl) (r : Env) : Option Env :=
  if v.isM then
    match v, f with
    | .lst _, .own => some r
    | .lst _, .frz => some r
    | .lst _, .al j => frzS r j
    | _, _ => none
  else some r
/-- a value goes to a name -/
def setS (i : Nat) (v : PV) (f : Fl) (r : Env) : Option Env :=
  if v.isM then
    match f with
    | .own => some (r.set i (some (v, true)))
    | .frz => some (r.set i (some (v, false)))
    | .al j => (frzS r j).map fun r' => r'.set i (some (v, false))
    | .alf _ => none
  else some (r.set i (some (v, true)))
mutual
def assign : Tg → PV → Fl → Env → Option Env
  | .nm i, v, f, r => setS i v f r
  | .tp ts, v, f, r =>
    match v with
    | .tup l => assigns ts l r
    | .lst l => if f = .own then assigns ts l r else none
    | _ => none
def assigns : List Tg → List PV → Env → Option Env
  | [], [], r => some r
  | t :: ts, v :: vs, r => (assign t v .frz r).bind fun r' => assigns ts vs r'
  | _, _, _ => none
end
/-- what was seen of slot j stands -/
def okAl (v : PV) (f : Fl) (r r' : Env) : Bool :=
  if v.isM then
    match f with
    | .al j => decide (get r j = get r' j)
    | .alf _ => false
    | _ => true
  else true

/-- the same for an operator: a list times a number wants a list of its own -/
def okOp (op : BOp) (v : PV) (f : Fl) (r r' : Env) : Bool := okAl v f r r' && (decide (f = .own) || decide (op ≠ .mul) || !v.isM)

/-! ### operations on values -/
def line : Nat := 16777216
def pidx (i : Int) (n : Nat) : Option Nat := if 0 ≤ i then (if i < n then some i.toNat else none) else if -(n : Int) ≤ i then some (i + n).toNat else none
def clampI (i : Int) (n : Nat) : Nat := if i < 0 then (if -(n : Int) ≤ i then (i + n).toNat else 0) else if i ≤ n then i.toNat else n
def cut {A : Type} (lo hi : Option Int) (l : List A) : List A :=
  let a := match lo with | some i => clampI i l.length | none => 0
  let b := match hi with | some i => clampI i l.length | none => l.length
  (l.take b).drop a
def look : List PV → List PV → PV → Option PV
  | k :: ks, v :: vs, x => if peq k x then some v else look ks vs x
  | _, _, _ => none
def put : List PV → List PV → PV → PV → List PV × List PV
  | k :: ks, v :: vs, x, y => if peq k x then (k :: ks, y :: vs) else let p := put ks vs x y; (k :: p.1, v :: p.2)
  | _, _, x, y => ([x], [y])
mutual
def keyT : PV → Bool
  | .non => true
  | .int _ => true
  | .str _ => true
  | .tup l => keyTs l
  | _ => false
def keyTs : List PV → Bool
  | [] => true
  | a :: l => keyT a && keyTs l
end
def isInt : PV → Bool
  | .int _ => true
  | _ => false
def isStr : PV → Bool
  | .str _ => true
  | _ => false
def isTup : PV → Bool
  | .tup _ => true
  | _ => false
/-- a key of a dict: «ints» and texts alone, or tuples alone -/
def okKey (ks : List PV) (x : PV) : Bool :=
  match x with
  | .int _ => ks.all fun k => isInt k || isStr k
  | .str _ => ks.all fun k => isInt k || isStr k
  | .tup l => keyTs l && ks.all isTup && decide (deps l ≤ 6)
  | _ => false
def smallI (i : Int) : Bool := decide (-(2 ^ 64) < i) && decide (i < 2 ^ 64)
def splitS (sep : Nat) : List Nat → List Nat → List (List Nat)
  | acc, [] => [acc.reverse]
  | acc, c :: cs => if c = sep then acc.reverse :: splitS sep [] cs else splitS sep (c :: acc) cs
def strsOf : List PV → Option (List (List Nat))
  | [] => some []
  | .str s :: l => (strsOf l).map (s :: ·)
  | _ => none
def joinS (sep : List Nat) : List (List Nat) → List Nat
  | [] => []
  | [a] => a
  | a :: b :: l => a ++ sep ++ joinS sep (b :: l)
def idxOf : List PV → PV → Nat → Option Nat
  | [], _, _ => none
  | a :: l, x, n => if peq a x then some n else idxOf l x (n + 1)
def binop : BOp → PV → PV → Option PV
  | .add, .int a, .int b => some (.int (a + b))
  | .add, .str a, .str b => if a.length + b.length ≤ line then some (.str (a ++ b)) else none
  | .add, .tup a, .tup b => if a.length + b.length ≤ line then some (.tup (a ++ b)) else none
  | .add, .lst a, .lst b => if a.length + b.length ≤ line then some (.lst (a ++ b)) else none
  | .sub, .int a, .int b => some (.int (a - b))
  | .mul, .int a, .int b => if smallI a || smallI b then some (.int (a * b)) else none
  | .mul, .lst a, .int b => if 0 ≤ b ∧ b < 2 ^ 32 ∧ a.length * b.toNat ≤ line then some (.lst ((List.replicate b.toNat a).flatten)) else none
  | .mul, .tup a, .int b => if 1 ≤ a.length ∧ 2 ≤ b ∧ b ≤ 1000 ∧ a.length ≤ 1000 then some (.tup ((List.replicate b.toNat a).flatten)) else none
  | .mod, .int a, .int b => if 0 < b then some (.int (a % b)) else none
  | .fdiv, .int a, .int b => if 0 < b ∧ b < 1073741824 then some (.int (a / b)) else none
  | .pow, .int a, .int b => if 0 ≤ b ∧ b ≤ 1000 ∧ a.natAbs < 2 ^ 64 then some (.int (a ^ b.toNat)) else none
  | .eq, a, b => if dat a && dat b && decide (dep a ≤ 8) && decide (dep b ≤ 8) then some (.bl (peq a b)) else none
  | .ne, a, b => if dat a && dat b && decide (dep a ≤ 8) && decide (dep b ≤ 8) then some (.bl (!peq a b)) else none
  | .lt, .int a, .int b => some (.bl (decide (a < b)))
  | .le, .int a, .int b => some (.bl (decide (a ≤ b)))
  | .gt, .int a, .int b => some (.bl (decide (b < a)))
  | .ge, .int a, .int b => some (.bl (decide (b ≤ a)))
  | .inn, a, .tup l => if dat a && dats l && decide (dep a ≤ 8) && decide (deps l ≤ 8) then some (.bl (l.any fun x => peq x a)) else none
  | .inn, a, .lst l => if dat a && dats l && decide (dep a ≤ 8) && decide (deps l ≤ 8) then some (.bl (l.any fun x => peq x a)) else none
  | .inn, a, .dct ks _ => if okKey ks a then some (.bl (ks.any fun x => peq x a)) else none
  | .inn, .str [a], .str b => some (.bl (decide (a ∈ b)))
  | .nin, a, .tup l => if dat a && dats l && decide (dep a ≤ 8) && decide (deps l ≤ 8) then some (.bl (!l.any fun x => peq x a)) else none
  | .nin, a, .lst l => if dat a && dats l && decide (dep a ≤ 8) && decide (deps l ≤ 8) then some (.bl (!l.any fun x => peq x a)) else none
  | .nin, a, .dct ks _ => if okKey ks a then some (.bl (!ks.any fun x => peq x a)) else none
  | .nin, .str [a], .str b => some (.bl (!decide (a ∈ b)))
  | .cnt, .lst l, a => if dat a && dats l && decide (dep a ≤ 8) && decide (deps l ≤ 8) then some (.int (l.countP fun x => peq x a)) else none
  | .cntT, .tup l, a => if dat a && dats l && decide (dep a ≤ 8) && decide (deps l ≤ 8) then some (.int (l.countP fun x => peq x a)) else none
  | .idx, .lst l, a => if dat a && dats l && decide (dep a ≤ 8) && decide (deps l ≤ 8) then (idxOf l a 0).map fun (n : Nat) => PV.int (n : Int) else none
  | .idxT, .tup l, a => if dat a && dats l && decide (dep a ≤ 8) && decide (deps l ≤ 8) then (idxOf l a 0).map fun (n : Nat) => PV.int (n : Int) else none
  | .get, .dct ks vs, a => if okKey ks a then some ((look ks vs a).getD .non) else none
  | .split, .str a, .str [c] => if a.length ≤ 1000000 then some (.lst ((splitS c [] a).map .str)) else none
  | .join, .str a, .lst l => (strsOf l).bind fun ss => if (joinS a ss).length ≤ 1000000 then some (.str (joinS a ss)) else none
  | .mn, .int a, .int b => some (.int (if b < a then b else a))
  | .mx, .int a, .int b => some (.int (if b > a then b else a))
  | _, _, _ => none
/-- of what type a method's object must be -/
def tyM : BOp → PV → Bool
  | .cnt, .lst _ => true
  | .idx, .lst _ => true
  | .cntT, .tup _ => true
  | .idxT, .tup _ => true
  | .get, .dct (.int _ :: _) _ => true
  | .split, .str _ => true
  | .join, .str _ => true
  | _, _ => false
def bools : List PV → Option (List Bool)
  | [] => some []
  | .bl b :: l => (bools l).map (b :: ·)
  | _ => none
def «ints» : List PV → Option (List Int)
  | [] => some []
  | .int b :: l => («ints» l).map (b :: ·)
  | _ => none
/-- a list of pairs, as keys and values -/
def pairs : List PV → List PV → List PV → Option (List PV × List PV)
  | [], ks, vs => some (ks, vs)
  | .tup [k, v] :: l, ks, vs => if (isInt k || isStr k) && okKey ks k then let p := put ks vs k v; pairs l p.1 p.2 else none
  | _, _, _ => none
def digits : Nat → List Nat := fun n => (toString n).toList.map Char.toNat
def pair64 : PV → Bool
  | .tup [.int a, .int b] => decide (0 ≤ a) && decide (a < 64) && decide (0 ≤ b) && decide (b < 64)
  | _ => false
def okSetL (l : List PV) : Bool := decide (l.length < 60) && l.all pair64
def okSetT (l : List PV) : Bool := decide (l.length < 60) && (l.all isInt || l.all pair64)
def b1op : Bi → PV → Option PV
  | .len, .tup l => some (.int l.length)
  | .len, .lst l => some (.int l.length)
  | .len, .str s => if s.length ≤ line then some (.int s.length) else none
  | .list, .tup l => some (.lst l)
  | .list, .lst l => some (.lst l)
  | .list, .dct ks _ => some (.lst ks)
  | .tuple, .tup l => some (.tup l)
  | .tuple, .lst l => some (.tup l)
  | .sorted, .lst l => (psort l).map .lst
  | .sorted, .tup l => (psort l).map .lst
  | .sset, .tup l => if okSetT l then some (.lst (isort (dedup [] l))) else none
  | .sset, .lst l => if okSetL l then some (.lst (isort (dedup [] l))) else none
  | .all, .lst l => (bools l).map fun b => .bl (b.all id)
  | .any, .lst l => (bools l).map fun b => .bl (b.any id)
  | .min, .lst l => if okSort l then pmin l else none
  | .min, .tup l => if okSort l then pmin l else none
  | .max, .lst l => if okSort l then pmax l else none
  | .max, .tup l => if okSort l then pmax l else none
  | .sum, .lst l => («ints» l).map fun n => .int n.sum
  | .abs, .int i => some (.int (if i < 0 then -i else i))
  | .int, .int i => some (.int i)
  | .int, .bl b => some (.int (b2i b))
  | .int, .str [c] => if 48 ≤ c ∧ c ≤ 57 then some (.int ((c : Int) - 48)) else none
  | .str, .int i => if 0 ≤ i ∧ i < 10 then some (.str [(48 + i).toNat]) else none
  | .dict, .lst l => (pairs l [] []).map fun p => .dct p.1 p.2
  | _, _ => none
def index : PV → PV → Option PV
  | .tup l, .int i => (pidx i l.length).bind fun n => l[n]?
  | .lst l, .int i => (pidx i l.length).bind fun n => l[n]?
  | .str s, .int i => if 0 ≤ i ∧ s.length ≤ line then (s[i.toNat]?).map fun c => .str [c] else none
  | .dct ks vs, k => if okKey ks k then look ks vs k else none
  | _, _ => none
def optI : PV → Option (Option Int)
  | .non => some none
  | .int i => if -(2 ^ 62) ≤ i ∧ i < 2 ^ 62 then some (some i) else none
  | _ => none
def slice (a lo hi : PV) : Option PV :=
  (optI lo).bind fun l => (optI hi).bind fun h =>
    match a with
    | .tup x => some (.tup (cut l h x))
    | .lst x => some (.lst (cut l h x))
    | _ => none
def tyIs : PV → Ty → Option Bool
  | .int _, t => some (decide (t = .int))
  | .bl _, t => some (decide (t = .int ∨ t = .bool))
  | .non, _ => some false
  | .str _, t => some (decide (t = .str))
  | .tup _, t => some (decide (t = .tuple))
  | .lst _, t => some (decide (t = .list))
  | _, _ => none
def fldOf : List (List Nat) → List PV → List Nat → Option PV
  | n :: ns, v :: vs, f => if n = f then some v else fldOf ns vs f
  | _, _, _ => none
def fldSet : List (List Nat) → List PV → List Nat → PV → List (List Nat) × List PV
  | n :: ns, v :: vs, f, x => if n = f then (n :: ns, x :: vs) else let p := fldSet ns vs f x; (n :: p.1, v :: p.2)
  | _, _, f, x => ([f], [x])

/-! ### calls -/
inductive Arg where
  | val (v : PV) (o : Bool) | bor (j : Nat)
def bors : List Arg → List Nat
  | [] => []
  | .val _ _ :: l => bors l
  | .bor j :: l => j :: bors l
def nodupB : List Nat → Bool
  | [] => true
  | a :: l => !l.contains a && nodupB l
def argVals : List Arg → Env → Option (List (PV × Bool))
  | [], _ => some []
  | .val v o :: l, r => (argVals l r).map ((v, o) :: ·)
  | .bor j :: l, r => (get r j).bind fun p => (argVals l r).map (p :: ·)
def wrBack : List Arg → List (PV × Bool) → Env → Env
  | .bor j :: l, p :: ps, r => wrBack l ps (r.set j (some p))
  | .val _ _ :: l, _ :: ps, r => wrBack l ps r
  | _, _, r => r
/-- a callee runs; the borrowed arguments come back -/
def doCall (P : Fns) (f : Nat) (as : List Arg) (r : Env) : R (PV × Fl) :=
  if nodupB (bors as) then
    match argVals as r with
    | some vs =>
      match P f vs with
      | .ok v o vs' => .ok (v, if o then .own else .frz) (wrBack as vs' r)
      | .exc c vs' => .exc c (wrBack as vs' r)
      | .bad => .bad
    | none => .bad
  else .bad

/-! ### items of what is walked -/
/-- the items; the state in which the walk goes on; the slots that are hidden -/
def seqOf (hd : Bool) (v : PV) (f : Fl) (r : Env) (hs : List (Nat × PV)) : Option (List PV × Env × List (Nat × PV)) :=
  match v with
  | .tup l => some (l, r, hs)
  | .lst l =>
    match f with
    | .own => some (l, r, hs)
    | .frz => some (l, r, hs)
    | .al j => if hd then (if get r j = some (.lst l, true) then some (l, r.set j none, (j, .lst l) :: hs) else none) else (frzS r j).map fun r' => (l, r', hs)
    | .alf _ => none
  | _ => none
def enumT (n : Nat) : List PV → List PV
  | [] => []
  | a :: l => .tup [.int n, a] :: enumT (n + 1) l
def zipT : List PV → List PV → List PV
  | a :: as, b :: bs => .tup [a, b] :: zipT as bs
  | _, _ => []
def rngL (a : Int) : Nat → List PV
  | 0 => []
  | n + 1 => .int a :: rngL (a + 1) n
def rngOk (a b : Int) : Bool := decide (-(2 ^ 30) ≤ a) && decide (a < 2 ^ 30) && decide (-(2 ^ 30) ≤ b) && decide (b < 2 ^ 30) && decide (b - a ≤ 16000000)
def iter (k : ItK) (A B : Env → R (PV × Fl)) (hd : Bool) (r : Env) : R (List PV × List (Nat × PV)) :=
  match k with
  | .seq => (A r).bind fun x r => match seqOf hd x.1 x.2 r [] with
    | some p => .ok (p.1, p.2.2) p.2.1
    | none => .bad
  | .enm => (A r).bind fun x r => match x.1 with
    | .lst _ => match seqOf hd x.1 x.2 r [] with
      | some p => .ok (enumT 0 p.1, p.2.2) p.2.1
      | none => .bad
    | _ => .bad
  | .zip => (A r).bind fun x r1 => (B r1).bind fun y r2 => R.chk (okAl x.1 x.2 r1 r2) (match x.1, y.1 with
    | .lst _, .lst _ => match seqOf hd x.1 x.2 r2 [] with
      | some p => match seqOf hd y.1 y.2 p.2.1 p.2.2 with
        | some q => .ok (zipT p.1 q.1, q.2.2) q.2.1
        | none => .bad
      | none => .bad
    | .tup l, .tup m => .ok (zipT l m, []) r2
    | _, _ => .bad)
  | .rng => (A r).bind fun x r => (B r).bind fun y r => match x.1, y.1 with
    | .int a, .int b => if rngOk a b then .ok (rngL a (b - a).toNat, []) r else .bad
    | _, _ => .bad
/-- the hidden slots come back -/
def unhide : List (Nat × PV) → Env → Option Env
  | [], r => some r
  | (j, v) :: js, r => match get r j with
    | none => unhide js (r.set j (some (v, true)))
    | some _ => none
def wipeS : List Nat → Env → Env
  | [], r => r
  | i :: is, r => wipeS is (r.set i none)
def backS (old : Env) : List Nat → Env → Env
  | [], r => r
  | i :: is, r => backS old is (r.set i (get old i))
/-- a comprehension's turns -/
def compL (g : PV → Env → R (Option PV)) : List PV → List PV → Env → R (List PV)
  | [], acc, r => .ok acc r
  | x :: xs, acc, r =>
    match g x r with
    | .ok (some y) r' => compL g xs (acc ++ [y]) r'
    | .ok none r' => compL g xs acc r'
    | .exc _ _ => .bad
    | .bad => .bad
/-- a for's turns -/
def forL (g : PV → Env → R Flow) : List PV → Env → R Flow
  | [], r => .ok .nx r
  | x :: xs, r =>
    match g x r with
    | .ok .nx r' => forL g xs r'
    | .ok .bk r' => .ok .nx r'
    | .ok (.rt v f) r' => .ok (.rt v f) r'
    | .exc c r' => .exc c r'
    | .bad => .bad
def whileL (c : Env → R Bool) (b : Env → R Flow) : Nat → Env → R Flow
  | 0, _ => .bad
  | n + 1, r =>
    match c r with
    | .ok true r1 =>
      match b r1 with
      | .ok .nx r' => whileL c b n r'
      | .ok .bk r' => .ok .nx r'
      | .ok (.rt v f) r' => .ok (.rt v f) r'
      | .exc c r' => .exc c r'
      | .bad => .bad
    | .ok false r1 => .ok .nx r1
    | .exc c r' => .exc c r'
    | .bad => .bad
def turns : Nat := 5000
/-- a test's answer -/
def asB (x : R (PV × Fl)) : R Bool :=
  x.bind fun p r => match p.1 with
    | .bl b => .ok b r
    | _ => .bad
/-- the list in slot i is changed -/
def modL (i : Nat) (g : List PV → Option (PV × List PV)) (r : Env) : R (PV × Fl) :=
  match get r i with
  | some (.lst l, true) => match g l with
    | some p => .ok (p.1, .frz) (r.set i (some (.lst p.2, true)))
    | none => .bad
  | _ => .bad
def modF (i : Nat) (f : List Nat) (g : List PV → Option (PV × List PV)) (r : Env) : R (PV × Fl) :=
  match get r i with
  | some (.ins c ns vs, true) => match fldOf ns vs f with
    | some (.lst l) => match g l with
      | some p => let q := fldSet ns vs f (.lst p.2); .ok (p.1, .frz) (r.set i (some (.ins c q.1 q.2, true)))
      | none => .bad
    | _ => .bad
  | _ => .bad
def gApp (x : PV) (l : List PV) : Option (PV × List PV) := if l.length < line then some (.non, l ++ [x]) else none
def gExt (xs : List PV) (l : List PV) : Option (PV × List PV) := if l.length + xs.length ≤ line then some (.non, l ++ xs) else none
def gPop (l : List PV) : Option (PV × List PV) := (l.getLast?).map fun x => (x, l.dropLast)
def gPopi (j : Int) (l : List PV) : Option (PV × List PV) := (pidx j l.length).bind fun n => (l[n]?).map fun x => (x, l.eraseIdx n)
/-- a list that is read, not slot i's own -/
def lstOf (i : Nat) (x : PV × Fl) : Option (List PV) :=
  match x.1 with
  | .lst l => if x.2 = .own ∨ x.2 = .frz then some l else none
  | _ => none
def isLst : Slot → Bool
  | some (.lst _, _) => true
  | _ => false

/-! ### expressions -/
section
variable (T : Tab) (P : Fns)
mutual
def ev : Ex → Env → R (PV × Fl)
  | .const v, r => if v.isM then .bad else .ok (v, .own) r
  | .var i, r =>
    match get r i with
    | some (v, o) => .ok (v, if v.isM then (if o then .al i else .frz) else .own) r
    | none => .bad
  | .tupd es, r => (evs es r).bind fun vs r => .ok (.tup vs, .own) r
  | .lstd es, r => (evs es r).bind fun vs r => .ok (.lst vs, .own) r
  | .dctn, r => .ok (.dct [] [], .own) r
  | .dct1 k v, r => (ev k r).bind fun x r1 => (ev v r1).bind fun y r2 => (R.of (sink y.1 y.2 r2) r2).bind fun r3 _ => R.chk (isInt x.1 || isStr x.1) (.ok (.dct [x.1] [y.1], .own) r3)
  | .bin op a b, r => (ev a r).bind fun x r1 => (ev b r1).bind fun y r2 => R.chk (okOp op x.1 x.2 r1 r2) ((R.of (binop op x.1 y.1) r2).bind fun v r => .ok (v, if op = .get then .frz else .own) r)
  | .neg a, r => (ev a r).bind fun x r => match x.1 with
    | .int i => .ok (.int (-i), .own) r
    | _ => .bad
  | .nt a, r => (asB (ev a r)).bind fun b r => .ok (.bl (!b), .own) r
  | .isN n a, r => (ev a r).bind fun x r => .ok (.bl (if n then !decide (x.1 = .non) else decide (x.1 = .non)), .own) r
  | .and a b, r => (asB (ev a r)).bind fun x r => if x then ev b r else .ok (.bl false, .own) r
  | .or a b, r => (asB (ev a r)).bind fun x r => if x then .ok (.bl true, .own) r else ev b r
  | .ch o1 o2 a b c, r => (ev a r).bind fun x r1 => (ev b r1).bind fun y r2 => match x.1, y.1 with
    | .int i, .int j => (asB ((R.of (binop o1 (.int i) (.int j)) r2).bind fun v r => .ok (v, .own) r)).bind fun d r3 =>
      if d then (ev c r3).bind fun z r4 => match z.1 with
        | .int k => (R.of (binop o2 (.int j) (.int k)) r4).bind fun v r => .ok (v, .own) r
        | _ => .bad
      else .ok (.bl false, .own) r3
    | _, _ => .bad
  | .ife c a b, r => (asB (ev c r)).bind fun x r => if x then ev a r else ev b r
  | .comp elt t k a b cs own hd, r =>
    (iter k (fun r => ev a r) (fun r => ev b r) hd r).bind fun p r1 => R.chk (decide (p.1.length ≤ line))
      ((compL (fun x r => (R.of (assign t x .frz (wipeS own r)) r).bind fun r _ => (tests cs r).bind fun c r =>
        if c then (ev elt r).bind fun y r => (R.of (sink y.1 y.2 r) r).bind fun r _ => .ok (some y.1) r else .ok none r) p.1 [] (wipeS own r1)).bind
        fun ys r2 => (R.of (unhide p.2 (backS r1 own r2)) r2).bind fun r3 _ => .ok (.lst ys, .own) r3)
  | .ix a i, r => (ev a r).bind fun x r1 => (ev i r1).bind fun y r2 => R.chk (okAl x.1 x.2 r1 r2) ((R.of (index x.1 y.1) r2).bind fun v r => .ok (v, .frz) r)
  | .sl a lo hi, r => (ev a r).bind fun x r1 => (ev lo r1).bind fun y r => R.chk (optI y.1).isSome ((ev hi r).bind fun z r2 => R.chk (okAl x.1 x.2 r1 r2) ((R.of (slice x.1 y.1 z.1) r2).bind fun v r => .ok (v, .own) r))
  | .rev a, r => (ev a r).bind fun x r => match x.1 with
    | .lst l => .ok (.lst l.reverse, .own) r
    | _ => .bad
  | .fld a f, r => (ev a r).bind fun x r => match x.1 with
    | .ins _ ns vs => match fldOf ns vs f with
      | some v => if v.isM then match x.2 with
          | .al j => .ok (v, .alf j) r
          | _ => .bad
        else .ok (v, .own) r
      | none => .bad
    | _ => .bad
  | .call f es, r => (evA es r).bind fun as r => doCall P f as r
  | .cal S g es, r => (ev g r).bind fun x r => match x.1 with
    | .fn f => R.chk (S.contains f) ((evA es r).bind fun as r => doCall P f as r)
    | _ => .bad
  | .bm op a b, r => (ev a r).bind fun x r1 => R.chk (tyM op x.1) ((ev b r1).bind fun y r2 => R.chk (okOp op x.1 x.2 r1 r2) ((R.of (binop op x.1 y.1) r2).bind fun v r => .ok (v, if op = .get then .frz else .own) r))
  | .mk c f es, r => (evA es r).bind fun as r =>
    if nodupB (bors as) then
      match argVals as r with
      | some vs => match P f ((.ins c [] [], true) :: vs) with
        | .ok .non _ ((v, true) :: vs') => .ok (v, .own) (wrBack as vs' r)
        | .exc d (_ :: vs') => .exc d (wrBack as vs' r)
        | _ => .bad
      | none => .bad
    else .bad
  | .mth i m es, r => (evA es r).bind fun as r =>
    match get r i with
    | some (.ins c _ _, _) => match T.mth c m with
      | some f => doCall P f (.bor i :: as) r
      | none => .bad
    | _ => .bad
  | .b1 b a, r => (ev a r).bind fun x r => (R.of (b1op b x.1) r).bind fun v r => .ok (v, if b = .min ∨ b = .max then .frz else .own) r
  | .isin a c, r => (ev a r).bind fun x r => (R.of (tyIs x.1 c) r).bind fun b r => .ok (.bl b, .own) r
  | .rng tq a b, r => (ev a r).bind fun x r => (ev b r).bind fun y r => match x.1, y.1 with
    | .int i, .int j => if rngOk i j then .ok (if tq then .tup (rngL i (j - i).toNat) else .lst (rngL i (j - i).toNat), .own) r else .bad
    | _, _ => .bad
  | .app i a, r => R.chk (isLst (get r i)) ((ev a r).bind fun x r => (R.of (sink x.1 x.2 r) r).bind fun r _ => modL i (gApp x.1) r)
  | .ext i a, r => R.chk (isLst (get r i)) ((ev a r).bind fun x r => (R.of (lstOf i x) r).bind fun l r => modL i (gExt l) r)
  | .pop i, r => modL i gPop r
  | .appf i f a, r => (ev a r).bind fun x r => (R.of (sink x.1 x.2 r) r).bind fun r _ => modF i f (gApp x.1) r
  | .popf i f, r => modF i f gPop r
  | .isE i n b, r => if get r i = some (.fn n, true) then .ok (.bl b, .own) r else .bad
  | .popi i a, r => R.chk (isLst (get r i)) ((ev a r).bind fun x r => match x.1 with
    | .int j => modL i (gPopi j) r
    | _ => .bad)
def evs : List Ex → Env → R (List PV)
  | [], r => .ok [] r
  | e :: es, r => (ev e r).bind fun x r => (R.of (sink x.1 x.2 r) r).bind fun r _ => (evs es r).bind fun xs r => .ok (x.1 :: xs) r
def tests : List Ex → Env → R Bool
  | [], r => .ok true r
  | e :: es, r => (asB (ev e r)).bind fun b r => if b then tests es r else .ok false r
def evA : List Ex → Env → R (List Arg)
  | [], r => .ok [] r
  | e :: es, r => (ev e r).bind fun x r =>
    if x.1.isM then
      match x.2 with
      | .own => (evA es r).bind fun as r => .ok (.val x.1 true :: as) r
      | .frz => (evA es r).bind fun as r => .ok (.val x.1 false :: as) r
      | .al j => (evA es r).bind fun as r => .ok (.bor j :: as) r
      | .alf _ => .bad
    else (evA es r).bind fun as r => .ok (.val x.1 true :: as) r
end

/-! ### statements -/
/-- x[y] = v -/
def stI (i : Nat) (v y : PV) (r : Env) : R Flow :=
  match get r i with
  | some (.dct ks vs, true) => if okKey ks y && decide (ks.length < line) then .ok .nx (r.set i (some (.dct (put ks vs y v).1 (put ks vs y v).2, true))) else .bad
  | some (.lst l, true) => match y with
    | .int n => match pidx n l.length with
      | some m => .ok .nx (r.set i (some (.lst (l.set m v), true)))
      | none => .bad
    | _ => .bad
  | _ => .bad
/-- one of several values: what is kept of it -/
def parOf (x : PV × Fl) (r : Env) : Option ((PV × Fl) × Env) :=
  if x.1.isM then
    match x.2 with
    | .own => some (x, r)
    | .frz => some (x, r)
    | .al j => (frzS r j).map fun r' => ((x.1, .frz), r')
    | .alf _ => none
  else some ((x.1, .own), r)
/-- several values ahead of several stores -/
def evP : List Ex → Env → R (List (PV × Fl))
  | [], r => .ok [] r
  | e :: es, r => (ev T P e r).bind fun x r => (R.of (parOf x r) r).bind fun p _ => (evP es p.2).bind fun xs r => .ok (p.1 :: xs) r
def setP : List Nat → List (PV × Fl) → Env → Option Env
  | [], [], r => some r
  | i :: is, x :: xs, r => (setS i x.1 x.2 r).bind fun r' => setP is xs r'
  | _, _, _ => none
mutual
def ex : St → Env → R Flow
  | .asg t e, r => (ev T P e r).bind fun x r => (R.of (assign t x.1 x.2 r) r).bind fun r _ => .ok .nx r
  | .par is es, r => (evP T P es r).bind fun xs r => (R.of (setP is xs r) r).bind fun r _ => .ok .nx r
  | .exp e, r => (ev T P e r).bind fun _ r => .ok .nx r
  | .ife c a b, r => (asB (ev T P c r)).bind fun x r => if x then exs a r else exs b r
  | .whl c b, r => whileL (fun r => asB (ev T P c r)) (fun r => exs b r) turns r
  | .fr t k a b body hd, r =>
    (iter k (fun r => ev T P a r) (fun r => ev T P b r) hd r).bind fun p r1 =>
      (forL (fun x r => (R.of (assign t x .frz r) r).bind fun r _ => exs body r) p.1 r1).bind fun fl r2 =>
        (R.of (unhide p.2 r2) r2).bind fun r3 _ => .ok fl r3
  | .ret e, r => (ev T P e r).bind fun x r => .ok (.rt x.1 x.2) r
  | .rse c, r => .exc c r
  | .tr body c i, r =>
    match exs body r with
    | .exc d r' => match T.wh c d with
      | some f => if r'[i]? = some none then (match P f [(.fn 999, true)] with
        | .ok v true _ => if keyT v then .ok (.rt v .own) r' else .bad
        | _ => .bad) else .bad
      | none => .bad
    | x => x
  | .brk, r => .ok .bk r
  | .pass, r => .ok .nx r
  | .sti i k e, r => (ev T P e r).bind fun x r => (R.of (sink x.1 x.2 r) r).bind fun r _ => R.chk (get r i).isSome ((ev T P k r).bind fun y r => stI i x.1 y.1 r)
  | .stf i f e, r => (ev T P e r).bind fun x r =>
    if x.1.isM && decide (x.2 ≠ .own) then .bad else
    match get r i with
    | some (.ins c ns vs, true) => if ns.length < 900 then let q := fldSet ns vs f x.1; .ok .nx (r.set i (some (.ins c q.1 q.2, true))) else .bad
    | _ => .bad
def exs : List St → Env → R Flow
  | [], r => .ok .nx r
  | s :: ss, r =>
    match ex s r with
    | .ok .nx r' => exs ss r'
    | x => x
end
end

/-! ### functions -/
def startE (d : FD) (as : List (PV × Bool)) : Env := as.map some ++ List.replicate (d.ns - d.np) none
/-- what the caller's arguments are behind the call -/
def backA (rb : List Nat) (r : Env) : Nat → List (PV × Bool) → Option (List (PV × Bool))
  | _, [] => some []
  | i, (v, o) :: as =>
    if v.isM then
      if rb.contains i then none else
      match get r i with
      | some (v', o') => if v'.isM then (backA rb r (i + 1) as).map ((v', o') :: ·) else none
      | none => none
    else (backA rb r (i + 1) as).map ((v, o) :: ·)
/-- what a return hands out -/
def retV (d : FD) (v : PV) (f : Fl) (r : Env) : Option (PV × Bool × Env) :=
  if v.isM then
    match f with
    | .own => some (v, true, r)
    | .frz => some (v, false, r)
    | .al j => if j < d.np then (frzS r j).map fun r' => (v, false, r') else some (v, true, r)
    | .alf _ => none
  else some (v, true, r)
def run (T : Tab) : Nat → Fns
  | 0, _, _ => .bad
  | n + 1, f, as =>
    match T.fns f with
    | none => .bad
    | some d =>
      if as.length = d.np then
        match exs T (run T n) d.body (startE d as) with
        | .ok (.rt v f) r => match retV d v f r with
          | some (v, o, r) => match backA d.rb r 0 as with
            | some bs => .ok v o bs
            | none => .bad
          | none => .bad
        | .ok .nx r => match backA d.rb r 0 as with
          | some bs => .ok .non true bs
          | none => .bad
        | .ok .bk _ => .bad
        | .exc c r => match backA d.rb r 0 as with
          | some bs => .exc c bs
          | none => .bad
        | .bad => .bad
      else .bad
end PL

set_option Elab.async false
set_option linter.all false
set_option maxRecDepth 100000
set_option maxHeartbeats 1000000
/-! PL: how values as trees lie in the layer's heap. -/
namespace PL
open PySem L2

/-- a text by its signs -/
def tx (s : List Nat) : Str := ⟨s.toArray⟩
theorem tx_inj {a b : List Nat} (h : tx a = tx b) : a = b := by
  have := congrArg (fun x : Str => x.cps.toList) h
  simpa [tx] using this
theorem tx_len (s : List Nat) : (tx s).length = s.length := by simp [tx, Str.length]

/-- what is written: the text's part, where defs and classes stand -/
structure Cn where
  K : PySem.W.Frag
  P : Program
  w : World
  fnA : Nat → Addr
  clA : Nat → Addr

abbrev AS := Addr → Prop
def none1 : AS := fun _ => False

section
variable (C : Cn)
/-- a list of the written part -/
def KLst (K : PySem.W.Frag) (a : Addr) (xs : List V) : Prop :=
  ∃ (o : Obj) (its : Array Value) (n : Nat), K.lookup a = some o ∧ o.cls = .type "list" ∧ o.dict = none ∧ o.data = .seq its n ∧ its.size ≤ sizeLine ∧ Vals xs its.toList
def KTup (K : PySem.W.Frag) (a : Addr) (xs : List V) : Prop :=
  ∃ (o : Obj) (its : Array Value) (n : Nat), K.lookup a = some o ∧ o.cls = .type "tuple" ∧ o.data = .seq its n ∧ its.size ≤ sizeLine ∧ Vals xs its.toList
mutual
/-- a value that never changes: F are the lists that are changed no more -/
def Imm (F : AS) (H : Hp) : PV → V → Prop
  | .non, u => u = .non
  | .bl b, u => u = .bl b
  | .int i, u => u = .int i
  | .str s, u => u = .str (tx s)
  | .tup l, u => ∃ a xs, u = .ref a ∧ SqT C.K H a xs ∧ Imms F H l xs
  | .lst l, u => ∃ a xs, u = .ref a ∧ ((F a ∧ Rd H a (.lst xs)) ∨ KLst C.K a xs) ∧ Imms F H l xs
  | .fn n, u => u = .ref (C.fnA n)
  | .dct _ _, _ => False
  | .ins _ _ _, _ => False
def Imms (F : AS) (H : Hp) : List PV → List V → Prop
  | [], us => us = []
  | v :: vs, us => ∃ u us', us = u :: us' ∧ Imm F H v u ∧ Imms F H vs us'
end
def keyOf : PV → Option Key
  | .int i => some (.inl i)
  | .str s => some (.inr (tx s))
  | _ => none
/-- entries with int and text keys -/
def KV1 (F : AS) (H : Hp) : List PV → List PV → List (Key × V) → Prop
  | [], [], es => es = []
  | k :: ks, v :: vs, es => ∃ κ u es', es = (κ, u) :: es' ∧ keyOf k = some κ ∧ Imm C F H v u ∧ KV1 F H ks vs es'
  | _, _, _ => False
mutual
/-- a key that is a tuple -/
def nkey : PV → Option NestedKey
  | .non => some .none
  | .int i => some (.num i)
  | .str s => some (.text (tx s))
  | .tup l => (nkeys l).map .tup
  | _ => none
def nkeys : List PV → Option (List NestedKey)
  | [] => some []
  | a :: l => (nkey a).bind fun k => (nkeys l).map (k :: ·)
end
/-- entries with tuple keys -/
def KV2 (F : AS) (H : Hp) : List PV → List PV → List (NestedKey × Addr × Value) → Prop
  | [], [], es => es = []
  | k :: ks, v :: vs, es => ∃ κ b u x es', es = (κ, b, x) :: es' ∧ (nkey k = some κ ∧ κ.depth ≤ 8) ∧ Imm C F H k (.ref b) ∧ RelV u x ∧ Imm C F H v u ∧ KV2 F H ks vs es'
  | _, _, _ => False
/-- the dict's object -/
def phiD (a : Addr) (xs : List (NestedKey × Addr × Value)) (h : Heap) : Prop :=
  ∃ o es ep, h.get? a = some o ∧ o.ExactDict ∧ o.data = .dict es ep ∧ es.toList = xs.map (entryOfKey (nestedKind C.P C.w)) ∧ (xs.map (·.1)).Nodup
def DctRep (F : AS) (H : Hp) (a : Addr) (ks vs : List PV) : Prop :=
  (∃ es, H a = some (.dK es) ∧ KV1 C F H ks vs es) ∨
    (∃ xs, H a = some (.ext (phiD C a xs)) ∧ xs.length ≤ sizeLine ∧ (a == sysModules) = false ∧ KV2 C F H ks vs xs)
/-- a field -/
def OwnF (F : AS) (H : Hp) (v : PV) (u : V) (fp : AS) : Prop :=
  match v with
  | .lst l => ∃ a xs, u = .ref a ∧ H a = some (.lst xs) ∧ Imms C F H l xs ∧ ∀ b, fp b ↔ b = a
  | .dct _ _ => False
  | .ins _ _ _ => False
  | v => Imm C F H v u ∧ ∀ b, ¬ fp b
def OwnFs (F : AS) (H : Hp) : List PV → List V → AS → Prop
  | [], us, fp => us = [] ∧ ∀ b, ¬ fp b
  | v :: vs, us, fp => ∃ u us' f1 f2, us = u :: us' ∧ OwnF C F H v u f1 ∧ OwnFs F H vs us' f2 ∧ (∀ b, fp b ↔ f1 b ∨ f2 b) ∧ ∀ b, f1 b → ¬ f2 b
/-- a value that one name holds alone, the objects that belong to it -/
def Own (F : AS) (H : Hp) (v : PV) (u : V) (fp : AS) : Prop :=
  match v with
  | .lst l => ∃ a xs, u = .ref a ∧ H a = some (.lst xs) ∧ Imms C F H l xs ∧ ∀ b, fp b ↔ b = a
  | .dct ks vs => ∃ a, u = .ref a ∧ DctRep C F H a ks vs ∧ ∀ b, fp b ↔ b = a
  | .ins c ns vs => ∃ a dx fl f, u = .ref a ∧ H a = some (.ins (C.clA c) dx fl) ∧ fl.map (·.1) = ns.map tx ∧ OwnFs C F H vs (fl.map (·.2)) f ∧ ¬ f a ∧ ∀ b, fp b ↔ b = a ∨ f b
  | v => Imm C F H v u ∧ ∀ b, ¬ fp b
end

/-- what may change -/
def MutO : HO → Prop
  | .lst _ => True
  | .dK _ => True
  | .ins _ _ _ => True
  | .ext _ => True
  | _ => False

section
variable {C : Cn} {F F' fp : AS} {H H' : Hp}
/-- from (F, H) to (F', H') all that stands still is kept -/
structure Mono (F : AS) (H : Hp) (F' : AS) (H' : Hp) : Prop where
  f : ∀ a, F a → F' a
  t : ∀ a xs, Rd H a (.tup xs) → Rd H' a (.tup xs)
  l : ∀ a xs, F a → Rd H a (.lst xs) → Rd H' a (.lst xs)
theorem Mono.refl : Mono F H F H := ⟨fun _ h => h, fun _ _ h => h, fun _ _ _ h => h⟩
theorem Mono.trans {F'' : AS} {H'' : Hp} (a : Mono F H F' H') (b : Mono F' H' F'' H'') : Mono F H F'' H'' :=
  ⟨fun x h => b.f x (a.f x h), fun x xs h => b.t x xs (a.t x xs h), fun x xs h r => b.l x xs (a.f x h) (a.l x xs h r)⟩
mutual
theorem Imm.mono (m : Mono F H F' H') : ∀ (v : PV) (u : V), Imm C F H v u → Imm C F' H' v u
  | .non, u, h => by simpa [Imm] using h
  | .bl b, u, h => by simpa [Imm] using h
  | .int i, u, h => by simpa [Imm] using h
  | .str s, u, h => by simpa [Imm] using h
  | .fn n, u, h => by simpa [Imm] using h
  | .dct _ _, u, h => by simp [Imm] at h
  | .ins _ _ _, u, h => by simp [Imm] at h
  | .tup l, u, h => by
    rw [Imm] at h ⊢
    obtain ⟨a, xs, e, r, q⟩ := h
    refine ⟨a, xs, e, ?_, Imms.mono m l xs q⟩
    rcases r with r | r
    · exact .inl (m.t a xs r)
    · exact .inr r
  | .lst l, u, h => by
    rw [Imm] at h ⊢
    obtain ⟨a, xs, e, r, q⟩ := h
    refine ⟨a, xs, e, ?_, Imms.mono m l xs q⟩
    rcases r with ⟨r1, r2⟩ | r
    · exact .inl ⟨m.f a r1, m.l a xs r1 r2⟩
    · exact .inr r
theorem Imms.mono (m : Mono F H F' H') : ∀ (vs : List PV) (us : List V), Imms C F H vs us → Imms C F' H' vs us
  | [], us, h => by simpa [Imms] using h
  | v :: vs, us, h => by
    rw [Imms] at h ⊢
    obtain ⟨u, us', e, h1, h2⟩ := h
    exact ⟨u, us', e, Imm.mono m v u h1, Imms.mono m vs us' h2⟩
end
theorem Imms.length : ∀ {vs : List PV} {us : List V}, Imms C F H vs us → us.length = vs.length
  | [], us, h => by simp [Imms] at h; simp [h]
  | v :: vs, us, h => by
    rw [Imms] at h
    obtain ⟨u, us', e, _, h2⟩ := h
    rw [e, List.length_cons, List.length_cons, Imms.length h2]
theorem Imms.cons_iff {v : PV} {vs : List PV} {u : V} {us : List V} : Imms C F H (v :: vs) (u :: us) ↔ Imm C F H v u ∧ Imms C F H vs us := by
  rw [Imms]
  constructor
  · rintro ⟨u', us', e, h1, h2⟩
    injection e with e1 e2
    subst e1 e2
    exact ⟨h1, h2⟩
  · rintro ⟨h1, h2⟩
    exact ⟨u, us, rfl, h1, h2⟩
theorem Imms.nil_iff {us : List V} : Imms C F H [] us ↔ us = [] := by rw [Imms]
theorem Imms.append : ∀ {vs ws : List PV} {us xs : List V}, Imms C F H vs us → Imms C F H ws xs → Imms C F H (vs ++ ws) (us ++ xs)
  | [], ws, us, xs, h, q => by
    rw [Imms.nil_iff] at h
    subst h
    exact q
  | v :: vs, ws, us, xs, h, q => by
    rw [Imms] at h
    obtain ⟨u, us', rfl, h1, h2⟩ := h
    exact Imms.cons_iff.mpr ⟨h1, Imms.append h2 q⟩
theorem Imms.get : ∀ {vs : List PV} {us : List V} {i : Nat} {v : PV}, Imms C F H vs us → vs[i]? = some v → ∃ u, us[i]? = some u ∧ Imm C F H v u
  | [], us, i, v, h, e => by simp at e
  | w :: vs, us, 0, v, h, e => by
    rw [Imms] at h
    obtain ⟨u, us', rfl, h1, h2⟩ := h
    simp at e
    subst e
    exact ⟨u, rfl, h1⟩
  | w :: vs, us, i + 1, v, h, e => by
    rw [Imms] at h
    obtain ⟨u, us', rfl, h1, h2⟩ := h
    obtain ⟨x, q1, q2⟩ := Imms.get (i := i) h2 (by simpa using e)
    exact ⟨x, by simpa using q1, q2⟩
theorem Imms.set : ∀ {vs : List PV} {us : List V} (i : Nat) {v : PV} {u : V}, Imms C F H vs us → Imm C F H v u → Imms C F H (vs.set i v) (us.set i u)
  | [], us, i, v, u, h, q => by
    rw [Imms.nil_iff] at h
    subst h
    simp [Imms]
  | w :: vs, us, 0, v, u, h, q => by
    rw [Imms] at h
    obtain ⟨x, us', rfl, h1, h2⟩ := h
    exact Imms.cons_iff.mpr ⟨q, h2⟩
  | w :: vs, us, i + 1, v, u, h, q => by
    rw [Imms] at h
    obtain ⟨x, us', rfl, h1, h2⟩ := h
    exact Imms.cons_iff.mpr ⟨h1, Imms.set i h2 q⟩
theorem Imms.take : ∀ {vs : List PV} {us : List V} (n : Nat), Imms C F H vs us → Imms C F H (vs.take n) (us.take n)
  | _, _, 0, _ => by simp [Imms]
  | [], us, n + 1, h => by
    rw [Imms.nil_iff] at h
    subst h
    simp [Imms]
  | w :: vs, us, n + 1, h => by
    rw [Imms] at h
    obtain ⟨x, us', rfl, h1, h2⟩ := h
    exact Imms.cons_iff.mpr ⟨h1, Imms.take n h2⟩
theorem Imms.drop : ∀ {vs : List PV} {us : List V} (n : Nat), Imms C F H vs us → Imms C F H (vs.drop n) (us.drop n)
  | _, _, 0, h => by simpa using h
  | [], us, n + 1, h => by
    rw [Imms.nil_iff] at h
    subst h
    simp [Imms]
  | w :: vs, us, n + 1, h => by
    rw [Imms] at h
    obtain ⟨x, us', rfl, h1, h2⟩ := h
    simpa using Imms.drop n h2
theorem Imms.reverse : ∀ {vs : List PV} {us : List V}, Imms C F H vs us → Imms C F H vs.reverse us.reverse
  | [], us, h => by
    rw [Imms.nil_iff] at h
    subst h
    simp [Imms]
  | w :: vs, us, h => by
    rw [Imms] at h
    obtain ⟨x, us', rfl, h1, h2⟩ := h
    rw [List.reverse_cons, List.reverse_cons]
    exact Imms.append (Imms.reverse h2) (Imms.cons_iff.mpr ⟨h1, by simp [Imms]⟩)
theorem KV1.mono (m : Mono F H F' H') : ∀ (ks vs : List PV) (es : List (Key × V)), KV1 C F H ks vs es → KV1 C F' H' ks vs es
  | [], [], es, h => by simpa [KV1] using h
  | k :: ks, v :: vs, es, h => by
    rw [KV1] at h ⊢
    obtain ⟨κ, u, es', e, h1, h2, h3⟩ := h
    exact ⟨κ, u, es', e, h1, Imm.mono m _ _ h2, KV1.mono m ks vs es' h3⟩
  | [], _ :: _, es, h => by simp [KV1] at h
  | _ :: _, [], es, h => by simp [KV1] at h
theorem KV2.mono (m : Mono F H F' H') : ∀ (ks vs : List PV) (es : List (NestedKey × Addr × Value)), KV2 C F H ks vs es → KV2 C F' H' ks vs es
  | [], [], es, h => by simpa [KV2] using h
  | k :: ks, v :: vs, es, h => by
    rw [KV2] at h ⊢
    obtain ⟨κ, b, u, x, es', e, h1, h2, h3, h4, h5⟩ := h
    exact ⟨κ, b, u, x, es', e, h1, Imm.mono m _ _ h2, h3, Imm.mono m _ _ h4, KV2.mono m ks vs es' h5⟩
  | [], _ :: _, es, h => by simp [KV2] at h
  | _ :: _, [], es, h => by simp [KV2] at h
theorem DctRep.mono {a : Addr} {ks vs : List PV} (m : Mono F H F' H') (ha : ∀ o, H a = some o → H' a = some o) (h : DctRep C F H a ks vs) : DctRep C F' H' a ks vs := by
  rcases h with ⟨es, e, q⟩ | ⟨xs, e, z, n, q⟩
  · exact .inl ⟨es, ha _ e, KV1.mono m _ _ _ q⟩
  · exact .inr ⟨xs, ha _ e, z, n, KV2.mono m _ _ _ q⟩
theorem OwnF.mono {v : PV} {u : V} (m : Mono F H F' H') (ha : ∀ a o, fp a → H a = some o → H' a = some o) (h : OwnF C F H v u fp) : OwnF C F' H' v u fp := by
  unfold OwnF at h ⊢
  cases v with
  | lst l =>
    obtain ⟨a, xs, e, h1, h2, h3⟩ := h
    exact ⟨a, xs, e, ha a _ ((h3 a).mpr rfl) h1, Imms.mono m _ _ h2, h3⟩
  | dct _ _ => exact h
  | ins _ _ _ => exact h
  | _ => exact ⟨Imm.mono m _ _ h.1, h.2⟩
theorem OwnFs.mono (m : Mono F H F' H') : ∀ {vs : List PV} {us : List V} {fp : AS}, (∀ a o, fp a → H a = some o → H' a = some o) → OwnFs C F H vs us fp → OwnFs C F' H' vs us fp
  | [], us, fp, _, h => h
  | v :: vs, us, fp, ha, h => by
    rw [OwnFs] at h ⊢
    obtain ⟨u, us', f1, f2, e, h1, h2, h3, h4⟩ := h
    exact ⟨u, us', f1, f2, e, OwnF.mono m (fun a o q => ha a o ((h3 a).mpr (.inl q))) h1, OwnFs.mono m (fun a o q => ha a o ((h3 a).mpr (.inr q))) h2, h3, h4⟩
theorem Own.mono {v : PV} {u : V} (m : Mono F H F' H') (ha : ∀ a o, fp a → H a = some o → H' a = some o) (h : Own C F H v u fp) : Own C F' H' v u fp := by
  unfold Own at h ⊢
  cases v with
  | lst l =>
    obtain ⟨a, xs, e, h1, h2, h3⟩ := h
    exact ⟨a, xs, e, ha a _ ((h3 a).mpr rfl) h1, Imms.mono m _ _ h2, h3⟩
  | dct ks vs =>
    obtain ⟨a, e, h1, h3⟩ := h
    exact ⟨a, e, h1.mono m (fun o => ha a o ((h3 a).mpr rfl)), h3⟩
  | ins c ns vs =>
    obtain ⟨a, dx, fl, f, e, h1, h2, h3, h4, h5⟩ := h
    exact ⟨a, dx, fl, f, e, ha a _ ((h5 a).mpr (.inl rfl)) h1, h2, OwnFs.mono m (fun b o q => ha b o ((h5 b).mpr (.inr q))) h3, h4, h5⟩
  | _ => exact ⟨Imm.mono m _ _ h.1, h.2⟩
theorem OwnF.trk {v : PV} {u : V} (h : OwnF C F H v u fp) {a : Addr} (ha : fp a) : ∃ o, H a = some o ∧ MutO o := by
  unfold OwnF at h
  cases v with
  | lst l =>
    obtain ⟨b, xs, e, h1, h2, h3⟩ := h
    obtain rfl := (h3 a).mp ha
    exact ⟨_, h1, True.intro⟩
  | dct _ _ => exact h.elim
  | ins _ _ _ => exact h.elim
  | _ => exact absurd ha (h.2 a)
theorem OwnFs.trk : ∀ {vs : List PV} {us : List V} {fp : AS}, OwnFs C F H vs us fp → ∀ {a : Addr}, fp a → ∃ o, H a = some o ∧ MutO o
  | [], us, fp, h, a, ha => absurd ha (h.2 a)
  | v :: vs, us, fp, h, a, ha => by
    rw [OwnFs] at h
    obtain ⟨u, us', f1, f2, e, h1, h2, h3, h4⟩ := h
    rcases (h3 a).mp ha with q | q
    · exact h1.trk q
    · exact OwnFs.trk h2 q
theorem Own.trk {v : PV} {u : V} (h : Own C F H v u fp) {a : Addr} (ha : fp a) : ∃ o, H a = some o ∧ MutO o := by
  unfold Own at h
  cases v with
  | lst l =>
    obtain ⟨b, xs, e, h1, h2, h3⟩ := h
    obtain rfl := (h3 a).mp ha
    exact ⟨_, h1, True.intro⟩
  | dct ks vs =>
    obtain ⟨b, e, h1, h3⟩ := h
    obtain rfl := (h3 a).mp ha
    rcases h1 with ⟨es, e1, _⟩ | ⟨xs, e1, _⟩
    · exact ⟨_, e1, True.intro⟩
    · exact ⟨_, e1, True.intro⟩
  | ins c ns vs =>
    obtain ⟨b, dx, fl, f, e, h1, h2, h3, h4, h5⟩ := h
    rcases (h5 a).mp ha with q | q
    · subst q; exact ⟨_, h1, True.intro⟩
    · exact h3.trk q
  | _ => exact absurd ha (h.2 a)
theorem Own.imm {v : PV} {u : V} (hv : v.isM = false) (h : Own C F H v u fp) : Imm C F H v u ∧ ∀ b, ¬ fp b := by
  unfold Own at h
  cases v <;> first | exact h | (simp [PV.isM] at hv)
theorem Imm.own {v : PV} {u : V} (hv : v.isM = false) (h : Imm C F H v u) : Own C F H v u none1 := by
  unfold Own
  cases v <;> first | exact ⟨h, fun _ z => z⟩ | (simp [PV.isM] at hv)
end
end PL

set_option Elab.async false
set_option linter.all false
set_option maxRecDepth 100000
set_option maxHeartbeats 1000000
namespace PL
open PySem L2

/-! ### states -/
abbrev FP := Nat → AS
structure Rel (C : Cn) (F : AS) (fp : FP) (r : Env) (σ : L2.St) (H : Hp) : Prop where
  len : r.length = σ.length
  sm : ∀ i v o, get r i = some (v, o) → ∃ u, σ[i]? = some (some u) ∧ ((o = true ∧ Own C F H v u (fp i)) ∨ (o = false ∧ Imm C F H v u ∧ ∀ a, ¬ fp i a))
  nn : ∀ i, get r i = none → ∀ a, ¬ fp i a
  dis : ∀ i j a, fp i a → fp j a → i = j
  nof : ∀ i a, fp i a → ¬ F a
  ff : ∀ a, F a → ∃ xs, Rd H a (.lst xs)
/-- nothing of q belongs to a name -/
structure Sep (F : AS) (fp : FP) (q : AS) : Prop where
  d : ∀ i a, q a → ¬ fp i a
  f : ∀ a, q a → ¬ F a
/-- what has happened between two states -/
structure Ext (F : AS) (fp : FP) (H : Hp) (F' : AS) (fp' : FP) (H' : Hp) : Prop where
  keep : ∀ a o, H a = some o → (∀ i, ¬ fp i a) → H' a = some o
  fm : ∀ a, F a → F' a
  fn : ∀ a, F' a → F a ∨ (∃ i, fp i a) ∨ H a = none
  pn : ∀ i a, fp' i a → (∃ j, fp j a) ∨ H a = none

section
variable {C : Cn} {F F' F'' : AS} {fp fp' fp'' : FP} {r r' : Env} {σ : L2.St} {H H' H'' : Hp} {q : AS} {v : PV} {u : V}
theorem Ext.refl : Ext F fp H F fp H := ⟨fun _ _ e _ => e, fun _ h => h, fun _ h => .inl h, fun i a h => .inl ⟨i, h⟩⟩
theorem Ext.trans (a : Ext F fp H F' fp' H') (b : Ext F' fp' H' F'' fp'' H'') : Ext F fp H F'' fp'' H'' := by
  have nn : ∀ x, H' x = none → (∃ i, fp i x) ∨ H x = none := fun x e => by
    by_cases hx : ∃ i, fp i x
    · exact .inl hx
    · cases e1 : H x with
      | none => exact .inr rfl
      | some o =>
        have := a.keep x o e1 fun i hi => hx ⟨i, hi⟩
        rw [e] at this; cases this
  refine ⟨fun x o e n => b.keep x o (a.keep x o e n) fun i hi => ?_, fun x h => b.fm x (a.fm x h), fun x h => ?_, fun i x h => ?_⟩
  · rcases a.pn i x hi with ⟨j, hj⟩ | hn
    · exact n j hj
    · rw [e] at hn; cases hn
  · rcases b.fn x h with h | ⟨i, h⟩ | h
    · exact a.fn x h
    · rcases a.pn i x h with h | h
      · exact .inr (.inl h)
      · exact .inr (.inr h)
    · exact .inr (nn x h)
  · rcases b.pn i x h with ⟨j, h⟩ | h
    · exact a.pn j x h
    · exact nn x h
theorem Ext.none_ (a : Ext F fp H F' fp' H') {x : Addr} (e : H' x = none) : (∃ i, fp i x) ∨ H x = none := by
  by_cases hx : ∃ i, fp i x
  · exact .inl hx
  · cases e1 : H x with
    | none => exact .inr rfl
    | some o =>
      have := a.keep x o e1 fun i hi => hx ⟨i, hi⟩
      rw [e] at this; cases this
theorem Rel.mutO (R : Rel C F fp r σ H) {i : Nat} {a : Addr} (h : fp i a) : ∃ o, H a = some o ∧ MutO o := by
  cases e : get r i with
  | none => exact absurd h (R.nn i e a)
  | some p =>
    obtain ⟨v, o⟩ := p
    obtain ⟨u, _, ⟨_, ow⟩ | ⟨_, _, no⟩⟩ := R.sm i v o e
    · exact ow.trk h
    · exact absurd h (no a)
theorem Rd.notMut {a : Addr} {xs : List V} {o : HO} (h : Rd H a (.tup xs)) (e : H a = some o) : ¬ MutO o := by
  rcases h with h | ⟨ob, h⟩ <;> (rw [e] at h; cases h; exact fun z => z)
theorem Ext.mono (R : Rel C F fp r σ H) (E : Ext F fp H F' fp' H') : Mono F H F' H' := by
  refine ⟨E.fm, fun a xs h => ?_, fun a xs f h => ?_⟩
  · have no : ∀ i, ¬ fp i a := fun i hi => by
      obtain ⟨o, e, m⟩ := R.mutO hi
      exact Rd.notMut h e m
    rcases h with h | ⟨ob, h⟩
    · exact .inl (E.keep a _ h no)
    · exact .inr ⟨ob, E.keep a _ h no⟩
  · have no : ∀ i, ¬ fp i a := fun i hi => R.nof i a hi f
    rcases h with h | ⟨ob, h⟩
    · exact .inl (E.keep a _ h no)
    · exact .inr ⟨ob, E.keep a _ h no⟩
/-- a value that nobody names is carried over -/
theorem Own.held (R : Rel C F fp r σ H) (E : Ext F fp H F' fp' H') (s : Sep F fp q) (h : Own C F H v u q) : Own C F' H' v u q ∧ Sep F' fp' q := by
  refine ⟨h.mono (E.mono R) fun a o qa e => E.keep a o e fun i hi => s.d i a qa hi, ⟨fun i a qa hi => ?_, fun a qa hf => ?_⟩⟩
  · obtain ⟨o, e, _⟩ := h.trk qa
    rcases E.pn i a hi with ⟨j, hj⟩ | hn
    · exact s.d j a qa hj
    · rw [e] at hn; cases hn
  · obtain ⟨o, e, _⟩ := h.trk qa
    rcases E.fn a hf with h | ⟨j, h⟩ | h
    · exact s.f a qa h
    · exact s.d j a qa h
    · rw [e] at h; cases h

/-! ### what is read of a value -/
def ShF (C : Cn) (F : AS) (H : Hp) (v : PV) (u : V) : Prop := ∃ q, OwnF C F H v u q
/-- a value as it stands now -/
def Sh (C : Cn) (F : AS) (H : Hp) (v : PV) (u : V) : Prop :=
  match v with
  | .lst l => ∃ a xs, u = .ref a ∧ SqL C.K H a xs ∧ Imms C F H l xs
  | .dct ks vs => ∃ a, u = .ref a ∧ DctRep C F H a ks vs
  | .ins _ _ _ => ∃ q, Own C F H v u q
  | v => Imm C F H v u
theorem Imm.sh (h : Imm C F H v u) : Sh C F H v u := by
  cases v with
  | lst l =>
    rw [Imm] at h
    obtain ⟨a, xs, e, r, q⟩ := h
    refine ⟨a, xs, e, ?_, q⟩
    rcases r with ⟨_, r⟩ | r
    · exact .inl r
    · exact .inr r
  | dct _ _ => simp [Imm] at h
  | ins _ _ _ => simp [Imm] at h
  | _ => exact h
theorem Own.sh (h : Own C F H v u q) : Sh C F H v u := by
  cases v with
  | lst l =>
    obtain ⟨a, xs, e, h1, h2, _⟩ := h
    exact ⟨a, xs, e, .inl (.inl h1), h2⟩
  | dct ks vs =>
    obtain ⟨a, e, h1, _⟩ := h
    exact ⟨a, e, h1⟩
  | ins _ _ _ => exact ⟨q, h⟩
  | _ => exact h.1
theorem OwnF.sh (h : OwnF C F H v u q) : Sh C F H v u := by
  cases v with
  | lst l =>
    obtain ⟨a, xs, e, h1, h2, _⟩ := h
    exact ⟨a, xs, e, .inl (.inl h1), h2⟩
  | dct _ _ => exact h.elim
  | ins _ _ _ => exact h.elim
  | _ => exact h.1
theorem Sh.imm (hv : v.isM = false) (h : Sh C F H v u) : Imm C F H v u := by
  cases v <;> first | exact h | (simp [PV.isM] at hv)
theorem Rel.sh (R : Rel C F fp r σ H) {i : Nat} {o : Bool} (e : get r i = some (v, o)) : ∃ u, σ[i]? = some (some u) ∧ Sh C F H v u := by
  obtain ⟨u, e1, ⟨_, ow⟩ | ⟨_, im, _⟩⟩ := R.sm i v o e
  · exact ⟨u, e1, ow.sh⟩
  · exact ⟨u, e1, im.sh⟩

/-- the value that an expression hands on -/
def RV (C : Cn) (F : AS) (H : Hp) (r : Env) (σ : L2.St) (v : PV) (f : Fl) (u : V) (q : AS) : Prop :=
  match f with
  | .own => Own C F H v u q
  | .frz => Imm C F H v u ∧ ∀ a, ¬ q a
  | .al j => v.isM = true ∧ get r j = some (v, true) ∧ σ[j]? = some (some u) ∧ ∀ a, ¬ q a
  | .alf j => Sh C F H v u ∧ v.isM = true ∧ ∀ a, ¬ q a
theorem RV.sh {f : Fl} (R : Rel C F fp r σ H) (h : RV C F H r σ v f u q) : Sh C F H v u := by
  cases f with
  | own => exact Own.sh h
  | frz => exact h.1.sh
  | al j =>
    obtain ⟨_, e, e1, _⟩ := h
    obtain ⟨u', e2, s⟩ := R.sh e
    rw [e1] at e2; cases e2
    exact s
  | alf j => exact h.1
/-- ahead of the next expression: it is still as it was -/
theorem RV.keep {f : Fl} (R : Rel C F fp r σ H) (h : RV C F H r σ v f u q) (s : Sep F fp q) (E : Ext F fp H F' fp' H') (R' : Rel C F' fp' r' σ H') (ok : okAl v f r r' = true) : Sh C F' H' v u := by
  cases f with
  | own => exact (Own.held R E s h).1.sh
  | frz => exact (Imm.mono (E.mono R) _ _ h.1).sh
  | al j =>
    obtain ⟨hm, e, e1, _⟩ := h
    simp only [okAl, hm, if_true, decide_eq_true_eq] at ok
    rw [e] at ok
    obtain ⟨u', e2, s⟩ := R'.sh ok.symm
    rw [e1] at e2; cases e2
    exact s
  | alf j =>
    obtain ⟨_, hm, _⟩ := h
    simp [okAl, hm] at ok

/-! ### outcomes -/
def Good {A : Type} (x : R A) (K : A → Env → Prop) (E : Nat → Env → Prop) : Prop :=
  match x with
  | .ok a r => K a r
  | .exc c r => E c r
  | .bad => False
theorem Good.bind {A B : Type} {x : PL.R A} {f : A → Env → PL.R B} {K : B → Env → Prop} {E : Nat → Env → Prop} (h : Good (x.bind f) K E) : Good x (fun a r => Good (f a r) K E) E := by
  cases x <;> exact h
theorem Good.mono {A : Type} {x : PL.R A} {K K' : A → Env → Prop} {E E' : Nat → Env → Prop} (h : Good x K E) (hK : ∀ a r, K a r → K' a r) (hE : ∀ c r, E c r → E' c r) : Good x K' E' := by
  cases x with
  | ok a r => exact hK a r h
  | exc c r => exact hE c r h
  | bad => exact h
theorem Good.chk {A : Type} {b : Bool} {x : PL.R A} {K : A → Env → Prop} {E : Nat → Env → Prop} (h : Good (R.chk b x) K E) : b = true ∧ Good x K E := by
  cases b with
  | true => exact ⟨rfl, h⟩
  | false => exact h.elim
theorem Good.of {A B : Type} {x : Option A} {r : Env} {f : A → Env → PL.R B} {K : B → Env → Prop} {E : Nat → Env → Prop} (h : Good ((R.of x r).bind f) K E) : ∃ a, x = some a ∧ Good (f a r) K E := by
  cases x with
  | none => exact h.elim
  | some a => exact ⟨a, rfl, h⟩
/-- what is wanted of an exception -/
abbrev XW := Nat → Env → AS → FP → L2.St → Hp → Prop
section
variable (C) (Xw : XW)
def OkV (F : AS) (fp : FP) (H : Hp) (σ : L2.St) (Q : VK) (x : PV × Fl) (r' : Env) : Prop :=
  ∀ F' fp' H' u q, Ext F fp H F' fp' H' → Rel C F' fp' r' σ H' → RV C F' H' r' σ x.1 x.2 u q → Sep F' fp' q → (∀ a, q a → (∃ i, fp i a) ∨ H a = none) → Q u H'
def OkX (F : AS) (fp : FP) (H : Hp) (σ : L2.St) (c : Nat) (r' : Env) : Prop :=
  ∀ F' fp' H', Ext F fp H F' fp' H' → Rel C F' fp' r' σ H' → Xw c r' F' fp' σ H'
/-- the reading of an expression by its evaluation -/
def tE (m : Env → R (PV × Fl)) : TE := fun σ H Q => ∃ F fp r, Rel C F fp r σ H ∧ Good (m r) (OkV C F fp H σ Q) (OkX C Xw F fp H σ)
def OkB (F : AS) (fp : FP) (H : Hp) (σ : L2.St) (Q : Bool → Hp → Prop) (b : Bool) (r' : Env) : Prop :=
  ∀ F' fp' H', Ext F fp H F' fp' H' → Rel C F' fp' r' σ H' → Q b H'
def tT (m : Env → R Bool) : TT := fun σ H Q => ∃ F fp r, Rel C F fp r σ H ∧ Good (m r) (OkB C F fp H σ Q) (OkX C Xw F fp H σ)
end
variable {Xw : XW}
theorem OkX.later {c : Nat} (E : Ext F fp H F' fp' H') (h : OkX C Xw F fp H σ c r') : OkX C Xw F' fp' H' σ c r' := fun F'' fp'' H'' e R => h F'' fp'' H'' (E.trans e) R
theorem OkV.later {Q : VK} {x : PV × Fl} (E : Ext F fp H F' fp' H') (h : OkV C F fp H σ Q x r') : OkV C F' fp' H' σ Q x r' := fun F'' fp'' H'' u q e R v s n => h F'' fp'' H'' u q (E.trans e) R v s fun a qa => by
  rcases n a qa with ⟨i, z⟩ | z
  · exact E.pn i a z
  · exact E.none_ z
theorem OkB.later {Q : Bool → Hp → Prop} {x : Bool} (E : Ext F fp H F' fp' H') (h : OkB C F fp H σ Q x r') : OkB C F' fp' H' σ Q x r' := fun F'' fp'' H'' e R => h F'' fp'' H'' (E.trans e) R
theorem OkV.imm {Q : VK} {f : Fl} (R : Rel C F fp r σ H) (h : OkV C F fp H σ Q (v, f) r) (hv : v.isM = false) (hf : f = .own ∨ f = .frz) (i : Imm C F H v u) : Q u H := by
  refine h F fp H u none1 .refl R ?_ ⟨fun _ _ z => z.elim, fun _ z => z.elim⟩ fun _ z => z.elim
  rcases hf with rfl | rfl
  · exact i.own hv
  · exact ⟨i, fun _ z => z⟩
theorem OkV.frz {Q : VK} (R : Rel C F fp r σ H) (h : OkV C F fp H σ Q (v, .frz) r) (i : Imm C F H v u) : Q u H :=
  h F fp H u none1 .refl R ⟨i, fun _ z => z⟩ ⟨fun _ _ z => z.elim, fun _ z => z.elim⟩ fun _ z => z.elim
/-- a new object -/
theorem mono_new {p : Addr} {o : HO} (hp : H p = none) : Mono F H F (upd H p o) := by
  have k : ∀ a x, H a = some x → upd H p o a = some x := fun a x e => by rw [upd_ne (ne_of_none e hp)]; exact e
  refine ⟨fun _ h => h, fun a xs h => ?_, fun a xs _ h => ?_⟩ <;>
  · rcases h with h | ⟨ob, h⟩
    · exact .inl (k a _ h)
    · exact .inr ⟨ob, k a _ h⟩
theorem Rel.new {p : Addr} {o : HO} (R : Rel C F fp r σ H) (hp : H p = none) : Rel C F fp r σ (upd H p o) := by
  have k : ∀ a x, H a = some x → upd H p o a = some x := fun a x e => by rw [upd_ne (ne_of_none e hp)]; exact e
  refine ⟨R.len, fun i v ow e => ?_, R.nn, R.dis, R.nof, fun a h => ?_⟩
  · obtain ⟨u, e1, ⟨h1, h2⟩ | ⟨h1, h2, h3⟩⟩ := R.sm i v ow e
    · exact ⟨u, e1, .inl ⟨h1, h2.mono (mono_new hp) fun a x _ q => k a x q⟩⟩
    · exact ⟨u, e1, .inr ⟨h1, Imm.mono (mono_new hp) _ _ h2, h3⟩⟩
  · obtain ⟨xs, h⟩ := R.ff a h
    rcases h with h | ⟨ob, h⟩
    · exact ⟨xs, .inl (k a _ h)⟩
    · exact ⟨xs, .inr ⟨ob, k a _ h⟩⟩
theorem Ext.new {p : Addr} {o : HO} (hp : H p = none) : Ext F fp H F fp (upd H p o) :=
  ⟨fun a x e _ => by rw [upd_ne (ne_of_none e hp)]; exact e, fun _ h => h, fun _ h => .inl h, fun i a h => .inl ⟨i, h⟩⟩
theorem Rel.notF (R : Rel C F fp r σ H) {p : Addr} (hp : H p = none) : ¬ F p := fun h => by
  obtain ⟨xs, h | ⟨ob, h⟩⟩ := R.ff p h <;> (rw [hp] at h; cases h)
theorem Rel.notP (R : Rel C F fp r σ H) {p : Addr} (hp : H p = none) (i : Nat) : ¬ fp i p := fun h => by
  obtain ⟨o, e, _⟩ := R.mutO h
  rw [hp] at e; cases e
theorem OkV.newTup {Q : VK} {l : List PV} {xs : List V} (R : Rel C F fp r σ H) (h : OkV C F fp H σ Q (.tup l, .own) r) (i : Imms C F H l xs) {p : Addr} (hp : H p = none) : Q (.ref p) (upd H p (.tup xs)) := by
  refine h F fp _ (.ref p) none1 (.new hp) (R.new hp) ?_ ⟨fun _ _ z => z.elim, fun _ z => z.elim⟩ fun _ z => z.elim
  refine Imm.own (v := .tup l) rfl ?_
  rw [Imm]
  exact ⟨p, xs, rfl, .inl (.inl upd_same), Imms.mono (mono_new hp) _ _ i⟩
theorem OkV.newLst {Q : VK} {l : List PV} {xs : List V} (R : Rel C F fp r σ H) (h : OkV C F fp H σ Q (.lst l, .own) r) (i : Imms C F H l xs) {p : Addr} (hp : H p = none) : Q (.ref p) (upd H p (.lst xs)) := by
  refine h F fp _ (.ref p) (fun a => a = p) (.new hp) (R.new hp) ?_ ⟨fun i a z w => ?_, fun a z w => ?_⟩ fun a z => .inr (by rw [z]; exact hp)
  · exact ⟨p, xs, rfl, upd_same, Imms.mono (mono_new hp) _ _ i, fun b => Iff.rfl⟩
  · subst z; exact R.notP hp i w
  · subst z; exact R.notF hp w
end
end PL

set_option Elab.async false
set_option linter.all false
set_option maxRecDepth 100000
set_option maxHeartbeats 1000000
namespace PL
open PySem L2

theorem peW {X : Cx} {e : Expr} {t t' : TE} (h : PE X e t) (w : ∀ σ H Q, t' σ H Q → t σ H Q) : PE X e t' := ⟨fun pins s σ H Q I q => h.run pins s σ H Q I (w σ H Q q)⟩
theorem ptW {X : Cx} {e : Expr} {t t' : TT} (h : PT X e t) (w : ∀ σ H Q, t' σ H Q → t σ H Q) : PT X e t' := ⟨fun pins s σ H Q I q => h.run pins s σ H Q I (w σ H Q q)⟩
theorem psW {X : Cx} {e : Stmt} {t t' : TS} (h : PS X e t) (w : ∀ D σ H, t' D σ H → t D σ H) : PS X e t' := ⟨fun pins s σ H D I q => h.run pins s σ H D I (w D σ H q)⟩
theorem pssW {X : Cx} {e : List Stmt} {t t' : TS} (h : PSs X e t) (w : ∀ D σ H, t' D σ H → t D σ H) : PSs X e t' := ⟨fun pins s σ H D I q => h.run pins s σ H D I (w D σ H q)⟩

section
variable {C : Cn} {Xw : XW} {F F1 F2 : AS} {fp fp1 fp2 : FP} {r r1 r2 : Env} {σ : L2.St} {H H1 H2 : Hp} {q : AS} {v : PV} {u : V}
/-- behind an expression: what is known, what is still to come -/
structure Bh (C : Cn) (Xw : XW) (F : AS) (fp : FP) (H : Hp) (σ : L2.St) (x : PV × Fl) (r1 : Env) (u : V) (F1 : AS) (fp1 : FP) (H1 : Hp) (q : AS) : Prop where
  E : Ext F fp H F1 fp1 H1
  R : Rel C F1 fp1 r1 σ H1
  v : RV C F1 H1 r1 σ x.1 x.2 u q
  s : Sep F1 fp1 q
  n : ∀ a, q a → (∃ i, fp i a) ∨ H a = none
/-- the first expression of a row -/
theorem tE_first {ma : Env → R (PV × Fl)} {f : PV × Fl → Env → R (PV × Fl)} {Q : VK} (h : tE C Xw (fun r => (ma r).bind f) σ H Q) :
    tE C Xw ma σ H fun u H1 => ∃ F fp x r1 F1 fp1 q, Bh C Xw F fp H σ x r1 u F1 fp1 H1 q ∧ Good (f x r1) (OkV C F1 fp1 H1 σ Q) (OkX C Xw F1 fp1 H1 σ) := by
  obtain ⟨F, fp, r, R, g⟩ := h
  refine ⟨F, fp, r, R, g.bind.mono (fun x r1 g1 F1 fp1 H1 u q E R1 v s n => ?_) fun c r' z => z⟩
  exact ⟨F, fp, x, r1, F1, fp1, q, ⟨E, R1, v, s, n⟩, g1.mono (fun _ _ z => z.later E) fun _ _ z => z.later E⟩
theorem tE_next {mb : Env → R (PV × Fl)} {f : PV × Fl → Env → R (PV × Fl)} {Q : VK} (R : Rel C F fp r σ H) (g : Good ((mb r).bind f) (OkV C F fp H σ Q) (OkX C Xw F fp H σ)) :
    tE C Xw mb σ H fun u H1 => ∃ x r1 F1 fp1 q, Bh C Xw F fp H σ x r1 u F1 fp1 H1 q ∧ Good (f x r1) (OkV C F1 fp1 H1 σ Q) (OkX C Xw F1 fp1 H1 σ) := by
  refine ⟨F, fp, r, R, g.bind.mono (fun x r1 g1 F1 fp1 H1 u q E R1 v s n => ?_) fun c r' z => z⟩
  exact ⟨x, r1, F1, fp1, q, ⟨E, R1, v, s, n⟩, g1.mono (fun _ _ z => z.later E) fun _ _ z => z.later E⟩
/-- a whole row that is one expression -/
theorem tE_same {m m' : Env → R (PV × Fl)} {Q : VK} (R : Rel C F fp r σ H) (e : m r = m' r) (g : Good (m r) (OkV C F fp H σ Q) (OkX C Xw F fp H σ)) : tE C Xw m' σ H Q := ⟨F, fp, r, R, e ▸ g⟩

/-! ### the least ones -/
variable {X : Cx} {T : Tab} {P : Fns}
theorem isM_no {i : PV} (hv : i.isM = false) : (if i.isM then (R.bad : R (PV × Fl)) else .ok (i, .own) r) = .ok (i, .own) r := by rw [hv]; rfl
theorem ev_const {e : Expr} {w : V} (he : PE X e (tC w)) (hv : v.isM = false) (hw : ∀ F H, Imm C F H v w) : PE X e (tE C Xw (ev T P (.const v))) := by
  refine peW he fun σ H Q h => ?_
  obtain ⟨F, fp, r, R, g⟩ := h
  rw [ev, isM_no hv] at g
  exact OkV.imm R g hv (.inl rfl) (hw F H)
theorem ev_var {i : Nat} {e : Expr} (he : PE X e (tVar i)) : PE X e (tE C Xw (ev T P (.var i))) := by
  refine peW he fun σ H Q h => ?_
  obtain ⟨F, fp, r, R, g⟩ := h
  rw [ev] at g
  cases e : get r i with
  | none => rw [e] at g; exact g.elim
  | some p =>
    obtain ⟨v, o⟩ := p
    rw [e] at g
    obtain ⟨u, e1, h⟩ := R.sm i v o e
    refine ⟨u, e1, ?_⟩
    cases hm : v.isM with
    | false =>
      simp only [hm, Bool.false_eq_true, if_false] at g
      refine OkV.imm R g hm (.inl rfl) ?_
      rcases h with ⟨_, h⟩ | ⟨_, h, _⟩
      · exact (h.imm hm).1
      · exact h
    | true =>
      simp only [hm, if_true] at g
      rcases h with ⟨ho, h⟩ | ⟨ho, h, _⟩
      · subst ho
        simp only [if_true] at g
        exact g F fp H u none1 .refl R ⟨hm, e, e1, fun _ z => z⟩ ⟨fun _ _ z => z.elim, fun _ z => z.elim⟩ fun _ z => z.elim
      · subst ho
        simp only [Bool.false_eq_true, if_false] at g
        exact OkV.frz R g h

/-! ### two expressions in a row -/
/-- an operation on two values that are read -/
def rB (C : Cn) (op : BOp) : R2 := fun u w H Q => ∃ F fp r σ x y z f, Rel C F fp r σ H ∧ Sh C F H x u ∧ Sh C F H y w ∧ (f = Fl.own → ∃ q, Own C F H x u q) ∧ (f = .own ∨ op ≠ .mul ∨ ∀ l, x ≠ .lst l) ∧ binop op x y = some z ∧ OkV C F fp H σ Q (z, if op = .get then .frz else .own) r
theorem RV.ownK {f : Fl} (R : Rel C F fp r σ H) (h : RV C F H r σ v f u q) (s : Sep F fp q) (E : Ext F fp H F1 fp1 H1) (e : f = .own) : ∃ q, Own C F1 H1 v u q := by
  subst e
  exact ⟨q, (Own.held R E s h).1⟩
theorem two {op : BOp} {ma mb : Env → R (PV × Fl)} {Q : VK}
    (h : tE C Xw (fun r => (ma r).bind fun x r1 => (mb r1).bind fun y r2 => R.chk (okOp op x.1 x.2 r1 r2) ((R.of (binop op x.1 y.1) r2).bind fun v r => .ok (v, if op = .get then .frz else .own) r)) σ H Q) :
    tOp (rB C op) (tE C Xw ma) (tE C Xw mb) σ H Q := by
  obtain ⟨F, fp, r, R, g⟩ := tE_first h
  refine ⟨F, fp, r, R, g.mono (fun x r1 g1 => ?_) fun _ _ z => z⟩
  intro F1 fp1 H1 u q E R1 v s n
  obtain ⟨F0, fp0, x', r1', F1', fp1', q', b1, g2⟩ := g1 F1 fp1 H1 u q E R1 v s n
  obtain ⟨F, fp, r, R, g⟩ := tE_next b1.R g2
  refine ⟨F, fp, r, R, g.mono (fun y r2 g3 => ?_) fun _ _ z => z⟩
  intro F2 fp2 H2 w q2 E2 R2 v2 s2 n2
  obtain ⟨y', r2', F2', fp2', q2', b2, g4⟩ := g3 F2 fp2 H2 w q2 E2 R2 v2 s2 n2
  obtain ⟨ok, g5⟩ := g4.chk
  simp only [okOp, Bool.and_eq_true, Bool.or_eq_true, decide_eq_true_eq] at ok
  obtain ⟨z, hz, g6⟩ := g5.of
  refine ⟨_, _, _, _, _, _, z, x'.2, b2.R, RV.keep b1.R b1.v b1.s b2.E b2.R ok.1, RV.sh b2.R b2.v, RV.ownK b1.R b1.v b1.s b2.E, ?_, hz, g6⟩
  rcases ok.2 with (h | h) | h
  · exact .inl h
  · exact .inr (.inl h)
  · refine .inr (.inr fun l e => ?_)
    rw [e] at h
    simp [PV.isM] at h
end
end PL

set_option Elab.async false
set_option linter.all false
set_option maxRecDepth 100000
set_option maxHeartbeats 1000000
namespace PL
open PySem L2 PV

mutual
/-- a tree as the library's data -/
def toD : PV → PyData
  | .non => .none
  | .bl b => .bool b
  | .int i => .int i
  | .str s => .str (tx s)
  | .tup l => .tuple (toDs l)
  | .lst l => .list (toDs l)
  | _ => .none
def toDs : List PV → List PyData
  | [] => []
  | a :: l => toD a :: toDs l
end
theorem toDs_map : ∀ l : List PV, toDs l = l.map toD
  | [] => by rw [toDs]; rfl
  | a :: l => by rw [toDs, toDs_map l]; rfl
theorem toDs_len (l : List PV) : (toDs l).length = l.length := by rw [toDs_map, List.length_map]
mutual
theorem toD_plain : ∀ v : PV, (toD v).plain = true
  | .non => rfl
  | .bl _ => rfl
  | .int _ => rfl
  | .str _ => rfl
  | .tup l => by rw [toD, PyData.plain]; exact toDs_plain l
  | .lst l => by rw [toD, PyData.plain]; exact toDs_plain l
  | .dct _ _ => rfl
  | .ins _ _ _ => rfl
  | .fn _ => rfl
theorem toDs_plain : ∀ l : List PV, PyData.plainAll (toDs l) = true
  | [] => rfl
  | a :: l => by rw [toDs, PyData.plainAll, toD_plain a, toDs_plain l]; rfl
end
mutual
theorem toD_dep : ∀ v : PV, (toD v).depth = dep v
  | .non => by simp [toD, PyData.depth, dep]
  | .bl _ => by simp [toD, PyData.depth, dep]
  | .int _ => by simp [toD, PyData.depth, dep]
  | .str _ => by simp [toD, PyData.depth, dep]
  | .tup l => by rw [toD, PyData.depth, dep, toDs_dep l]
  | .lst l => by rw [toD, PyData.depth, dep, toDs_dep l]
  | .dct _ _ => by simp [toD, PyData.depth, dep]
  | .ins _ _ _ => by simp [toD, PyData.depth, dep]
  | .fn _ => by simp [toD, PyData.depth, dep]
theorem toDs_dep : ∀ l : List PV, PyData.depthAll (toDs l) = deps l
  | [] => by simp [toDs, PyData.depthAll, deps]
  | a :: l => by rw [toDs, PyData.depthAll, deps, toD_dep a, toDs_dep l]
end
theorem tx_beq (a b : List Nat) : (tx a == tx b) = decide (a = b) := by
  rw [Bool.eq_iff_iff, beq_iff_eq, decide_eq_true_eq]
  exact ⟨tx_inj, fun e => by rw [e]⟩
mutual
theorem toD_eqv : ∀ a b : PV, dat a = true → dat b = true → PyData.eqv (toD a) (toD b) = peq a b
  | .non, b, _, hb => by cases b <;> simp [toD, PyData.eqv, peq, dat] at *
  | .bl a, b, _, hb => by cases b <;> simp [toD, PyData.eqv, peq, dat, b2i] at * <;> first | rfl | (split <;> simp_all [Bool.beq_eq_decide_eq]) | (rw [Bool.eq_iff_iff]; simp)
  | .int a, b, _, hb => by cases b <;> simp [toD, PyData.eqv, peq, dat, b2i] at * <;> first | rfl | (rw [Bool.eq_iff_iff]; simp)
  | .str a, b, _, hb => by
    cases b with
    | str b => simp only [toD, PyData.eqv, peq]; exact tx_beq a b
    | _ => simp [toD, PyData.eqv, peq, dat] at *
  | .tup a, b, ha, hb => by
    cases b with
    | tup b => rw [dat] at ha hb; rw [toD, toD, PyData.eqv, peq]; exact toDs_eqv a b ha hb
    | _ => simp [toD, PyData.eqv, peq, dat] at *
  | .lst a, b, ha, hb => by
    cases b with
    | lst b => rw [dat] at ha hb; rw [toD, toD, PyData.eqv, peq]; exact toDs_eqv a b ha hb
    | _ => simp [toD, PyData.eqv, peq, dat] at *
  | .dct _ _, _, ha, _ => by simp [dat] at ha
  | .ins _ _ _, _, ha, _ => by simp [dat] at ha
  | .fn _, _, ha, _ => by simp [dat] at ha
theorem toDs_eqv : ∀ a b : List PV, dats a = true → dats b = true → PyData.eqvAll (toDs a) (toDs b) = peqs a b
  | [], [], _, _ => by simp [toDs, PyData.eqvAll, peqs]
  | a :: as, b :: bs, ha, hb => by
    rw [dats, Bool.and_eq_true] at ha hb
    rw [toDs, toDs, PyData.eqvAll, peqs, toD_eqv a b ha.1 hb.1, toDs_eqv as bs ha.2 hb.2]
  | [], _ :: _, _, _ => by simp [toDs, PyData.eqvAll, peqs]
  | _ :: _, [], _, _ => by simp [toDs, PyData.eqvAll, peqs]
end
mutual
theorem toD_inj : ∀ a b : PV, dat a = true → dat b = true → toD a = toD b → a = b
  | .non, b, _, hb, e => by cases b <;> simp [toD, dat] at *
  | .bl a, b, _, hb, e => by cases b <;> simp [toD, dat] at * <;> exact e
  | .int a, b, _, hb, e => by cases b <;> simp [toD, dat] at * <;> exact e
  | .str a, b, _, hb, e => by
    cases b with
    | str b => simp only [toD, PyData.str.injEq] at e; rw [tx_inj e]
    | _ => simp [toD, dat] at *
  | .tup a, b, ha, hb, e => by
    cases b with
    | tup b =>
      rw [dat] at ha hb
      simp only [toD, PyData.tuple.injEq] at e
      rw [toDs_inj a b ha hb e]
    | _ => simp [toD, dat] at *
  | .lst a, b, ha, hb, e => by
    cases b with
    | lst b =>
      rw [dat] at ha hb
      simp only [toD, PyData.list.injEq] at e
      rw [toDs_inj a b ha hb e]
    | _ => simp [toD, dat] at *
  | .dct _ _, _, ha, _, _ => by simp [dat] at ha
  | .ins _ _ _, _, ha, _, _ => by simp [dat] at ha
  | .fn _, _, ha, _, _ => by simp [dat] at ha
theorem toDs_inj : ∀ a b : List PV, dats a = true → dats b = true → toDs a = toDs b → a = b
  | [], [], _, _, _ => rfl
  | a :: as, b :: bs, ha, hb, e => by
    rw [dats, Bool.and_eq_true] at ha hb
    rw [toDs, toDs] at e
    injection e with e1 e2
    rw [toD_inj a b ha.1 hb.1 e1, toDs_inj as bs ha.2 hb.2 e2]
  | [], _ :: _, _, _, e => by simp [toDs] at e
  | _ :: _, [], _, _, e => by simp [toDs] at e
end
mutual
theorem alk_alike : ∀ a b : PV, alk a b = true → PySem.W.alike (toD a) (toD b) = true
  | .non, b, h => by cases b <;> simp [alk, toD, PySem.W.alike] at *
  | .int a, b, h => by cases b <;> simp [alk, toD, PySem.W.alike] at *
  | .str a, b, h => by cases b <;> simp [alk, toD, PySem.W.alike] at *
  | .tup a, b, h => by
    cases b with
    | tup b => rw [alk] at h; rw [toD, toD, PySem.W.alike]; exact alks_alike a b h
    | _ => simp [alk] at h
  | .lst a, b, h => by
    cases b with
    | lst b => rw [alk] at h; rw [toD, toD, PySem.W.alike]; exact alks_alike a b h
    | _ => simp [alk] at h
  | .bl _, _, h => by simp [alk] at h
  | .dct _ _, _, h => by simp [alk] at h
  | .ins _ _ _, _, h => by simp [alk] at h
  | .fn _, _, h => by simp [alk] at h
theorem alks_alike : ∀ a b : List PV, alks a b = true → PySem.W.alikeAll (toDs a) (toDs b) = true
  | [], _, _ => by rw [toDs, PySem.W.alikeAll]
  | _ :: _, [], _ => by rw [toDs, toDs, PySem.W.alikeAll]
  | a :: as, b :: bs, h => by
    rw [alks, Bool.and_eq_true] at h
    rw [toDs, toDs, PySem.W.alikeAll, alk_alike a b h.1, alks_alike as bs h.2]; rfl
end
mutual
theorem alk_dat : ∀ a b : PV, alk a b = true → alk a a = true → dat a = true
  | .non, b, h, _ => rfl
  | .int a, b, h, _ => rfl
  | .str a, b, h, _ => rfl
  | .tup a, b, h, q => by rw [alk] at q; rw [dat]; exact alks_dat a q
  | .lst a, b, h, q => by rw [alk] at q; rw [dat]; exact alks_dat a q
  | .bl _, _, h, _ => by simp [alk] at h
  | .dct _ _, _, h, _ => by simp [alk] at h
  | .ins _ _ _, _, h, _ => by simp [alk] at h
  | .fn _, _, h, _ => by simp [alk] at h
theorem alks_dat : ∀ a : List PV, alks a a = true → dats a = true
  | [], _ => rfl
  | a :: as, h => by
    rw [alks, Bool.and_eq_true] at h
    rw [dats, alk_dat a a h.1 h.1, alks_dat as h.2]; rfl
end
mutual
theorem alk_cln : ∀ a : PV, alk a a = true → cln a = true
  | .non, h => rfl
  | .int a, h => rfl
  | .str a, h => rfl
  | .tup a, h => by rw [alk] at h; rw [cln]; exact alks_cln a h
  | .lst a, h => by rw [alk] at h; rw [cln]; exact alks_cln a h
  | .bl _, h => by simp [alk] at h
  | .dct _ _, h => by simp [alk] at h
  | .ins _ _ _, h => by simp [alk] at h
  | .fn _, h => by simp [alk] at h
theorem alks_cln : ∀ a : List PV, alks a a = true → clns a = true
  | [], _ => rfl
  | a :: as, h => by
    rw [alks, Bool.and_eq_true] at h
    rw [clns, alk_cln a h.1, alks_cln as h.2]; rfl
end
theorem ltS_lt : ∀ a b : List Nat, ltS a b = decide (a < b)
  | [], [] => by simp [ltS]
  | [], _ :: _ => by simp [ltS]
  | _ :: _, [] => by simp [ltS]
  | a :: as, b :: bs => by
    rw [ltS, ltS_lt as bs]
    by_cases h : a = b
    · subst h
      simp
    · rw [if_neg h]
      rw [Bool.eq_iff_iff, decide_eq_true_eq, decide_eq_true_eq, List.cons_lt_cons_iff]
      constructor
      · intro q; exact .inl q
      · rintro (q | ⟨q, _⟩)
        · exact q
        · exact absurd q h
mutual
theorem plt_lt : ∀ a b : PV, alk a a = true → alk b b = true → alk a b = true → PySem.W.dataLt (toD a) (toD b) = plt a b
  | .non, b, _, _, h => by
    cases b with
    | non => simp [toD, plt, PySem.W.dataLt, PySem.W.keyToks, PyProof.Rows.lexLt]
    | _ => simp [alk] at h
  | .int a, b, _, _, h => by
    cases b with
    | int b => rw [toD, toD, PySem.W.dataLt_int, plt]
    | _ => simp [alk] at h
  | .str a, b, _, _, h => by
    cases b with
    | str b =>
      rw [toD, toD, PySem.W.dataLt_str, plt, ltS_lt, Bool.eq_iff_iff, decide_eq_true_eq, decide_eq_true_eq]
      simp [tx]
    | _ => simp [alk] at h
  | .tup a, b, ha, hb, h => by
    cases b with
    | tup b => rw [alk] at h ha hb; rw [toD, toD, PySem.W.dataLt_tuple, plt]; exact plts_lt a b ha hb h
    | _ => simp [alk] at h
  | .lst a, b, ha, hb, h => by
    cases b with
    | lst b => rw [alk] at h ha hb; rw [toD, toD, PySem.W.dataLt_list, plt]; exact plts_lt a b ha hb h
    | _ => simp [alk] at h
  | .bl _, _, h, _, _ => by simp [alk] at h
  | .dct _ _, _, h, _, _ => by simp [alk] at h
  | .ins _ _ _, _, h, _, _ => by simp [alk] at h
  | .fn _, _, h, _, _ => by simp [alk] at h
theorem plts_lt : ∀ a b : List PV, alks a a = true → alks b b = true → alks a b = true → PyProof.Rows.lexLt PyProof.Rows.itemOrd (PySem.W.keyToksAll (toDs a)) (PySem.W.keyToksAll (toDs b)) = plts a b
  | [], [], _, _, _ => by rw [toDs]; exact PyProof.Rows.lex_irrefl _
  | [], b :: bs, _, _, _ => by
    rw [toDs, toDs, PySem.W.keyToksAll, PySem.W.keyToksAll, plts]
    simp [PyProof.Rows.lexLt, PyProof.Rows.itemLt]
  | a :: as, [], _, _, _ => by
    rw [toDs, toDs, PySem.W.keyToksAll, PySem.W.keyToksAll, plts]
    simp [PyProof.Rows.lexLt, PyProof.Rows.itemLt]
  | a :: as, b :: bs, ha, hb, h => by
    rw [alks, Bool.and_eq_true] at h ha hb
    rw [toDs, toDs, PySem.W.dataLt_cons (alk_alike a b h.1), plts, plts_lt as bs ha.2 hb.2 h.2, plt_lt a b ha.1 hb.1 h.1,
      toD_eqv a b (alk_dat a a ha.1 ha.1) (alk_dat b b hb.1 hb.1), peq_cln a b (alk_cln a ha.1) (alk_cln b hb.1)]
    by_cases e : a = b
    · subst e; simp [beq_self]
    · have : beq a b = false := by
        cases q : beq a b with
        | false => rfl
        | true => exact absurd (eq_of_beq a b q) e
      simp [e, this]
end

section
variable {C : Cn} {F : AS} {fp : FP} {r : Env} {σ : L2.St} {H : Hp} {X : Cx} {pins : List (Addr × Obj)} {s : Shared}
/-- the written part is the context's own -/
structure Fit (C : Cn) (X : Cx) : Prop where
  K : C.K = X.K
  P : C.P = X.prog
  w : C.w = X.w
theorem SqL.imm {K : PySem.W.Frag} {F : AS} {a : Addr} {xs : List V} (h : (F a ∧ Rd H a (.lst xs)) ∨ KLst K a xs) : SqL K H a xs := by
  rcases h with ⟨_, h⟩ | h
  · exact .inl h
  · exact .inr h
mutual
theorem Imm.reads (f : Fit C X) (I : Inv X pins σ H s) : ∀ (v : PV) (u : V) (x : Value), dat v = true → Imm C F H v u → RelV u x → ∃ as, Reads s.heap x (toD v) as
  | .non, u, x, _, h, q => by
    simp only [Imm] at h; subst h; cases q; exact ⟨_, Reads.none⟩
  | .bl b, u, x, _, h, q => by
    simp only [Imm] at h; subst h; cases q; exact ⟨_, Reads.bool b⟩
  | .int i, u, x, _, h, q => by
    simp only [Imm] at h; subst h; obtain ⟨t, rfl⟩ := q; exact ⟨_, Reads.int i t⟩
  | .str z, u, x, _, h, q => by
    simp only [Imm] at h; subst h; obtain ⟨t, rfl⟩ := q; exact ⟨_, Reads.str (tx z) t⟩
  | .tup l, u, x, d, h, q => by
    rw [Imm] at h
    obtain ⟨a, xs, rfl, h1, h2⟩ := h
    rw [dat] at d
    cases q
    obtain ⟨its, rv, ⟨o, ho, hc, n, hd⟩, _⟩ := I.tuple (f.K ▸ h1)
    obtain ⟨as, hr⟩ := Imms.reads f I l xs its d h2 rv
    exact ⟨_, Reads.tuple ho hc hd hr⟩
  | .lst l, u, x, d, h, q => by
    rw [Imm] at h
    obtain ⟨a, xs, rfl, h1, h2⟩ := h
    rw [dat] at d
    cases q
    obtain ⟨its, rv, ⟨o, n, ho, hc, _, hd⟩, _⟩ := I.list (f.K ▸ SqL.imm h1)
    obtain ⟨as, hr⟩ := Imms.reads f I l xs its d h2 rv
    exact ⟨_, Reads.list ho hc hd hr⟩
  | .dct _ _, _, _, d, _, _ => by simp [dat] at d
  | .ins _ _ _, _, _, d, _, _ => by simp [dat] at d
  | .fn _, _, _, d, _, _ => by simp [dat] at d
theorem Imms.reads (f : Fit C X) (I : Inv X pins σ H s) : ∀ (vs : List PV) (us : List V) (xs : List Value), dats vs = true → Imms C F H vs us → Vals us xs → ∃ as, ReadsAll s.heap xs (toDs vs) as
  | [], us, xs, _, h, q => by
    rw [Imms.nil_iff] at h; subst h; cases q; exact ⟨_, ReadsAll.nil⟩
  | v :: vs, us, xs, d, h, q => by
    rw [Imms] at h
    obtain ⟨u, us', rfl, h1, h2⟩ := h
    rw [dats, Bool.and_eq_true] at d
    cases q with
    | cons q1 q2 =>
      obtain ⟨as, r1⟩ := Imm.reads f I v u _ d.1 h1 q1
      obtain ⟨bs, r2⟩ := Imms.reads f I vs us' _ d.2 h2 q2
      exact ⟨_, ReadsAll.cons r1 r2⟩
end
theorem Sh.reads (f : Fit C X) (I : Inv X pins σ H s) {v : PV} {u : V} {x : Value} (d : dat v = true) (h : Sh C F H v u) (q : RelV u x) : ∃ as, Reads s.heap x (toD v) as := by
  cases v with
  | lst l =>
    obtain ⟨a, xs, rfl, h1, h2⟩ := h
    rw [dat] at d
    cases q
    obtain ⟨its, rv, ⟨o, n, ho, hc, _, hd⟩, _⟩ := I.list (f.K ▸ h1)
    obtain ⟨as, hr⟩ := Imms.reads f I l xs its d h2 rv
    exact ⟨_, Reads.list ho hc hd hr⟩
  | dct _ _ => simp [dat] at d
  | ins _ _ _ => simp [dat] at d
  | _ => exact Imm.reads (F := F) f I _ u x d h q
end
end PL

set_option Elab.async false
set_option linter.all false
set_option maxRecDepth 100000
set_option maxHeartbeats 1000000
namespace PL
open PySem L2 PV PySem.SeqAt

theorem line_eq : line = sizeLine := by rw [sizeLine_eq]; rfl
section
variable {C : Cn} {X : Cx}
theorem fl_own {op : BOp} (h : op ≠ .get) : (if op = .get then Fl.frz else Fl.own) = Fl.own := if_neg h

/-- list + list, whatever they are kept as -/
def rCatL (K : PySem.W.Frag) : R2 := fun x y H Q => ∃ l b xs zs, x = .ref l ∧ y = .ref b ∧ SqL K H l xs ∧ SqL K H b zs ∧ xs.length + zs.length ≤ sizeLine ∧ ∀ p, H p = none → Q (.ref p) (upd H p (.lst (xs ++ zs)))
theorem op_catL : OpR X (binaryOp .Add) (rCatL X.K) := by
  intro pins s σ H x y v u Q I rx ry h
  obtain ⟨l, b, xs, zs, rfl, rfl, hH, hB, hz, q⟩ := h
  cases rx
  cases ry
  obtain ⟨its, r1, p1, _⟩ := I.list hH
  obtain ⟨its2, r2, p2, _⟩ := I.list hB
  obtain ⟨⟨cls, dd, data, sl⟩, ho, hc, n, hd⟩ := id p1.isList
  obtain ⟨⟨cls2, dd2, data2, sl2⟩, ho2, hc2, n2, hd2⟩ := id p2.isList
  simp only at hc hd hc2 hd2
  subst hc hd hc2 hd2
  have e : its.toArray ++ its2.toArray = (its ++ its2).toArray := by simp
  have l1 := r1.length
  have l2 := r2.length
  refine concat_meets ⟨_, ho, rfl⟩ ⟨_, ho2, rfl⟩ noFill_list_add seq_list_add PySem.F.slot_list_add PySem.F.entry_list_add (PySem.F.args_list_add_2 _ _) (PyProof.Rows.list_addW l b its.toArray its2.toArray n n2 dd dd2 sl sl2 (by simp only [List.size_toArray]; omega)) ⟨ho, ho2, ?_⟩
  rw [e]
  exact ⟨.ref _, _, I.lnew (t' := s.toks) (r1.append r2) (by rw [List.length_append]; omega), rfl, q _ I.fresh⟩

theorem opr_add (f : Fit C X) : OpR X (binaryOp .Add) (rB C .add) := by
  intro pins s σ' H u w v x Q I ru rw' h
  obtain ⟨F, fp, r, σ, a, b, z, fl, R, sa, sb, ho, hm, e, g⟩ := h
  rw [fl_own (by decide)] at g
  cases a with
  | int i =>
    cases b with
    | int j =>
      simp only [binop, Option.some.injEq] at e; subst e
      simp only [Sh, Imm] at sa sb; subst sa sb
      exact op_add pins s σ' H _ _ v x Q I ru rw' ⟨i, j, rfl, rfl, OkV.imm R g rfl (.inl rfl) rfl⟩
    | _ => simp [binop] at e
  | str i =>
    cases b with
    | str j =>
      simp only [binop] at e
      split at e
      · rename_i hl
        simp only [Option.some.injEq] at e; subst e
        simp only [Sh, Imm] at sa sb; subst sa sb
        refine op_add_str pins s σ' H _ _ v x Q I ru rw' ⟨tx i, tx j, rfl, rfl, by rw [tx_len, tx_len, ← line_eq]; exact hl, ?_⟩
        exact OkV.imm R g rfl (.inl rfl) (by rw [Imm]; exact congrArg V.str (SX.S_cat i j))
      · cases e
    | _ => simp [binop] at e
  | tup l =>
    cases b with
    | tup m =>
      simp only [binop] at e
      split at e
      · rename_i hl
        simp only [Option.some.injEq] at e; subst e
        simp only [Sh, Imm] at sa sb
        obtain ⟨a1, xs, rfl, h1, i1⟩ := sa
        obtain ⟨b1, ys, rfl, h2, i2⟩ := sb
        have e1 := Imms.length i1
        have e2 := Imms.length i2
        refine op_catA pins s σ' H _ _ v x Q I ru rw' ⟨a1, b1, xs, ys, rfl, rfl, f.K ▸ h1, f.K ▸ h2, by rw [e1, e2, ← line_eq]; exact hl, fun e => ?_, fun _ e => ?_, fun _ _ p hp => ?_⟩
        · subst e
          have : l = [] := List.eq_nil_of_length_eq_zero (by rw [← e1]; rfl)
          subst this
          exact OkV.imm R g rfl (.inl rfl) (by rw [Imm]; exact ⟨b1, ys, rfl, h2, i2⟩)
        · subst e
          have : m = [] := List.eq_nil_of_length_eq_zero (by rw [← e2]; rfl)
          subst this
          exact OkV.imm R g rfl (.inl rfl) (by rw [Imm]; exact ⟨a1, xs, rfl, h1, by rw [List.append_nil]; exact i1⟩)
        · exact OkV.newTup R g (i1.append i2) hp
      · cases e
    | _ => simp [binop] at e
  | lst l =>
    cases b with
    | lst m =>
      simp only [binop] at e
      split at e
      · rename_i hl
        simp only [Option.some.injEq] at e; subst e
        obtain ⟨a1, xs, rfl, h1, i1⟩ := sa
        obtain ⟨b1, ys, rfl, h2, i2⟩ := sb
        have e1 := Imms.length i1
        have e2 := Imms.length i2
        exact op_catL pins s σ' H _ _ v x Q I ru rw' ⟨a1, b1, xs, ys, rfl, rfl, f.K ▸ h1, f.K ▸ h2, by rw [e1, e2, ← line_eq]; exact hl, fun p hp => OkV.newLst R g (i1.append i2) hp⟩
      · cases e
    | _ => simp [binop] at e
  | _ => simp [binop] at e
theorem opr_sub (f : Fit C X) : OpR X (binaryOp .Sub) (rB C .sub) := by
  intro pins s σ' H u w v x Q I ru rw' h
  obtain ⟨F, fp, r, σ, a, b, z, fl, R, sa, sb, ho, hm, e, g⟩ := h
  rw [fl_own (by decide)] at g
  cases a with
  | int i =>
    cases b with
    | int j =>
      simp only [binop, Option.some.injEq] at e; subst e
      simp only [Sh, Imm] at sa sb; subst sa sb
      exact op_sub pins s σ' H _ _ v x Q I ru rw' ⟨i, j, rfl, rfl, OkV.imm R g rfl (.inl rfl) rfl⟩
    | _ => simp [binop] at e
  | _ => simp [binop] at e
theorem smallI_ok {i j : Int} (h : (smallI i || smallI j) = true) : CMul i j := by
  simp only [smallI, Bool.or_eq_true, Bool.and_eq_true, decide_eq_true_eq] at h
  exact h
theorem Imms.rep {F : AS} {H : Hp} {l : List PV} {xs : List V} (h : Imms C F H l xs) : ∀ n : Nat, Imms C F H (List.replicate n l).flatten (List.replicate n xs).flatten
  | 0 => by simp [Imms]
  | n + 1 => by
    rw [List.replicate_succ, List.replicate_succ, List.flatten_cons, List.flatten_cons]
    exact h.append (Imms.rep h n)
theorem opr_mul (f : Fit C X) : OpR X (binaryOp .Mult) (rB C .mul) := by
  intro pins s σ' H u w v x Q I ru rw' h
  obtain ⟨F, fp, r, σ, a, b, z, fl, R, sa, sb, ho, hm, e, g⟩ := h
  rw [fl_own (by decide)] at g
  cases a with
  | int i =>
    cases b with
    | int j =>
      simp only [binop] at e
      split at e
      · rename_i hs
        simp only [Option.some.injEq] at e; subst e
        simp only [Sh, Imm] at sa sb; subst sa sb
        exact op_mul pins s σ' H _ _ v x Q I ru rw' ⟨i, j, rfl, rfl, smallI_ok hs, OkV.imm R g rfl (.inl rfl) rfl⟩
      · cases e
    | _ => simp [binop] at e
  | lst l =>
    cases b with
    | int j =>
      simp only [binop] at e
      split at e
      · rename_i hs
        simp only [Option.some.injEq] at e; subst e
        have hf : fl = .own := by
          rcases hm with h | h | h
          · exact h
          · exact absurd rfl h
          · exact absurd rfl (h l)
        obtain ⟨q, a1, xs, rfl, h1, i1, _⟩ := ho hf
        simp only [Sh, Imm] at sb; subst sb
        have e1 := Imms.length i1
        exact op_rep pins s σ' H _ _ v x Q I ru rw' ⟨a1, j, xs, rfl, rfl, h1, by omega, by omega, by rw [e1, ← line_eq]; exact hs.2.2, fun p hp => OkV.newLst R g (i1.rep _) hp⟩
      · cases e
    | _ => simp [binop] at e
  | tup l =>
    cases b with
    | int j =>
      simp only [binop] at e
      split at e
      · rename_i hs
        simp only [Option.some.injEq] at e; subst e
        simp only [Sh, Imm] at sa sb; subst sb
        obtain ⟨a1, xs, rfl, h1, i1⟩ := sa
        have e1 := Imms.length i1
        refine op_repT pins s σ' H _ _ v x Q I ru rw' ⟨a1, j, xs, rfl, rfl, f.K ▸ h1, ?_, hs.2.1, by omega, by omega, fun p hp => OkV.newTup R g (i1.rep _) hp⟩
        intro e
        rw [e] at e1
        simp at e1
        omega
      · cases e
    | _ => simp [binop] at e
  | _ => simp [binop] at e
theorem opr_mod (f : Fit C X) : OpR X (binaryOp .Mod) (rB C .mod) := by
  intro pins s σ' H u w v x Q I ru rw' h
  obtain ⟨F, fp, r, σ, a, b, z, fl, R, sa, sb, ho, hm, e, g⟩ := h
  rw [fl_own (by decide)] at g
  cases a with
  | int i =>
    cases b with
    | int j =>
      simp only [binop] at e
      split at e
      · rename_i hs
        simp only [Option.some.injEq] at e; subst e
        simp only [Sh, Imm] at sa sb; subst sa sb
        exact op_mod pins s σ' H _ _ v x Q I ru rw' ⟨i, j, rfl, rfl, hs, OkV.imm R g rfl (.inl rfl) rfl⟩
      · cases e
    | _ => simp [binop] at e
  | _ => simp [binop] at e
theorem opr_fdiv (f : Fit C X) : OpR X (binaryOp .FloorDiv) (rB C .fdiv) := by
  intro pins s σ' H u w v x Q I ru rw' h
  obtain ⟨F, fp, r, σ, a, b, z, fl, R, sa, sb, ho, hm, e, g⟩ := h
  rw [fl_own (by decide)] at g
  cases a with
  | int i =>
    cases b with
    | int j =>
      simp only [binop] at e
      split at e
      · rename_i hs
        simp only [Option.some.injEq] at e; subst e
        simp only [Sh, Imm] at sa sb; subst sa sb
        exact op_fdiv pins s σ' H _ _ v x Q I ru rw' ⟨i, j, rfl, rfl, hs, OkV.imm R g rfl (.inl rfl) rfl⟩
      · cases e
    | _ => simp [binop] at e
  | _ => simp [binop] at e
theorem opr_pow (f : Fit C X) : OpR X (binaryOp .Pow) (rB C .pow) := by
  intro pins s σ' H u w v x Q I ru rw' h
  obtain ⟨F, fp, r, σ, a, b, z, fl, R, sa, sb, ho, hm, e, g⟩ := h
  rw [fl_own (by decide)] at g
  cases a with
  | int i =>
    cases b with
    | int j =>
      simp only [binop] at e
      split at e
      · rename_i hs
        simp only [Option.some.injEq] at e; subst e
        simp only [Sh, Imm] at sa sb; subst sa sb
        exact op_pow pins s σ' H _ _ v x Q I ru rw' ⟨i, j, rfl, rfl, ⟨hs.1, by omega, hs.2.2⟩, OkV.imm R g rfl (.inl rfl) rfl⟩
      · cases e
    | _ => simp [binop] at e
  | _ => simp [binop] at e

/-! ### comparisons -/
theorem datC {a b : PV} {z y : PV} (e : (if dat a && dat b && decide (dep a ≤ 8) && decide (dep b ≤ 8) then some y else none) = some z) : (dat a = true ∧ dat b = true ∧ dep a ≤ 8 ∧ dep b ≤ 8) ∧ y = z := by
  split at e
  · rename_i h
    simp only [Bool.and_eq_true, decide_eq_true_eq] at h
    exact ⟨⟨h.1.1.1, h.1.1.2, h.1.2, h.2⟩, Option.some.inj e⟩
  · cases e
theorem opr_eq (f : Fit C X) (hu : X.A.units + 64 < cLine) : OpR X (compareOp .Eq) (rB C .eq) := by
  intro pins s σ' H u w v x Q I ru rw' h
  obtain ⟨F, fp, r, σ, a, b, z, fl, R, sa, sb, ho, hm, e, g⟩ := h
  rw [fl_own (by decide)] at g
  simp only [binop] at e
  obtain ⟨⟨d1, d2, d3, d4⟩, rfl⟩ := datC e
  obtain ⟨as, ra⟩ := Sh.reads f I d1 sa ru
  obtain ⟨bs, rb⟩ := Sh.reads f I d2 sb rw'
  refine PySem.SeqAt.eq_plain ra rb (toD_plain a) (toD_plain b) (by rw [toD_dep, toD_dep]; omega) ?_
  rw [toD_eqv a b d1 d2]
  exact ⟨.bl _, H, I, rfl, OkV.imm R g rfl (.inl rfl) rfl⟩
theorem opr_ne (f : Fit C X) (hu : X.A.units + 64 < cLine) : OpR X (compareOp .NotEq) (rB C .ne) := by
  intro pins s σ' H u w v x Q I ru rw' h
  obtain ⟨F, fp, r, σ, a, b, z, fl, R, sa, sb, ho, hm, e, g⟩ := h
  rw [fl_own (by decide)] at g
  simp only [binop] at e
  obtain ⟨⟨d1, d2, d3, d4⟩, rfl⟩ := datC e
  obtain ⟨as, ra⟩ := Sh.reads f I d1 sa ru
  obtain ⟨bs, rb⟩ := Sh.reads f I d2 sb rw'
  refine PySem.SeqAt.ne_plain ra rb (toD_plain a) (toD_plain b) (by rw [toD_dep, toD_dep]; omega) ?_
  rw [toD_eqv a b d1 d2]
  exact ⟨.bl _, H, I, rfl, OkV.imm R g rfl (.inl rfl) rfl⟩
theorem opr_int {cop : CmpOp} {op : BOp} {p : Int → Int → Bool} (hop : op ≠ .get) (hb : ∀ a b z, binop op a b = some z → ∃ i j, a = .int i ∧ b = .int j ∧ z = .bl (p i j))
    (hr : OpR X (compareOp cop) (rI0 fun i j => .bl (p i j))) : OpR X (compareOp cop) (rB C op) := by
  intro pins s σ' H u w v x Q I ru rw' h
  obtain ⟨F, fp, r, σ, a, b, z, fl, R, sa, sb, ho, hm, e, g⟩ := h
  rw [fl_own hop] at g
  obtain ⟨i, j, rfl, rfl, rfl⟩ := hb a b z e
  simp only [Sh, Imm] at sa sb; subst sa sb
  exact hr pins s σ' H _ _ v x Q I ru rw' ⟨i, j, rfl, rfl, OkV.imm R g rfl (.inl rfl) rfl⟩
theorem opr_lt : OpR X (compareOp .Lt) (rB C .lt) := opr_int (p := fun i j => decide (i < j)) (by decide) (fun a b z e => by cases a <;> cases b <;> simp [binop] at e <;> exact ⟨_, _, rfl, rfl, e.symm⟩) op_lt
theorem opr_le : OpR X (compareOp .LtE) (rB C .le) := opr_int (p := fun i j => decide (i ≤ j)) (by decide) (fun a b z e => by cases a <;> cases b <;> simp [binop] at e <;> exact ⟨_, _, rfl, rfl, e.symm⟩) op_le
theorem opr_gt : OpR X (compareOp .Gt) (rB C .gt) := opr_int (p := fun i j => decide (j < i)) (by decide) (fun a b z e => by cases a <;> cases b <;> simp [binop] at e <;> exact ⟨_, _, rfl, rfl, e.symm⟩) op_gt
theorem opr_ge : OpR X (compareOp .GtE) (rB C .ge) := opr_int (p := fun i j => decide (j ≤ i)) (by decide) (fun a b z e => by cases a <;> cases b <;> simp [binop] at e <;> exact ⟨_, _, rfl, rfl, e.symm⟩) op_ge
end
end PL

set_option Elab.async false
set_option linter.all false
set_option maxRecDepth 100000
set_option maxHeartbeats 1000000
namespace PL
open PySem L2 PV PySem.SeqAt

/-! ### keys -/
theorem keyOf_peq {k x : PV} {a b : Key} (h1 : keyOf k = some a) (h2 : keyOf x = some b) : peq k x = decide (a = b) := by
  cases k <;> simp [keyOf] at h1 <;> cases x <;> simp [keyOf] at h2 <;> subst h1 h2 <;> simp [peq, L2.key_ll]
  · exact ⟨fun e => by rw [e], fun e => tx_inj e⟩
mutual
theorem nkey_peq : ∀ (k x : PV) (a b : NestedKey), nkey k = some a → nkey x = some b → peq k x = decide (a = b)
  | .non, x, a, b, h1, h2 => by cases x <;> simp [nkey] at h1 h2 <;> first | (subst h1 h2; simp [peq]) | (obtain ⟨_, _, rfl⟩ := h2; subst h1; simp [peq])
  | .int i, x, a, b, h1, h2 => by cases x <;> simp [nkey] at h1 h2 <;> first | (subst h1 h2; simp [peq]) | (obtain ⟨_, _, rfl⟩ := h2; subst h1; simp [peq])
  | .str s, x, a, b, h1, h2 => by
    cases x with
    | str t =>
      simp [nkey] at h1 h2
      subst h1 h2
      simp only [peq, NestedKey.text.injEq]
      rw [Bool.eq_iff_iff, decide_eq_true_eq, decide_eq_true_eq]
      exact ⟨fun e => by rw [e], fun e => tx_inj e⟩
    | _ => simp [nkey] at h1 h2 <;> first | (subst h1 h2; simp [peq]) | (obtain ⟨_, _, rfl⟩ := h2; subst h1; simp [peq])
  | .tup l, x, a, b, h1, h2 => by
    simp only [nkey, Option.map_eq_some_iff] at h1
    obtain ⟨as, e1, rfl⟩ := h1
    cases x with
    | tup m =>
      simp only [nkey, Option.map_eq_some_iff] at h2
      obtain ⟨bs, e2, rfl⟩ := h2
      rw [peq, nkeys_peq l m as bs e1 e2]
      simp
    | _ => simp [nkey] at h2 <;> (subst h2; simp [peq])
  | .bl _, _, _, _, h1, _ => by simp [nkey] at h1
  | .lst _, _, _, _, h1, _ => by simp [nkey] at h1
  | .dct _ _, _, _, _, h1, _ => by simp [nkey] at h1
  | .ins _ _ _, _, _, _, h1, _ => by simp [nkey] at h1
  | .fn _, _, _, _, h1, _ => by simp [nkey] at h1
theorem nkeys_peq : ∀ (k x : List PV) (a b : List NestedKey), nkeys k = some a → nkeys x = some b → peqs k x = decide (a = b)
  | [], [], a, b, h1, h2 => by simp [nkeys] at h1 h2; subst h1 h2; simp [peqs]
  | k :: ks, x :: xs, a, b, h1, h2 => by
    simp only [nkeys, Option.bind_eq_some_iff, Option.map_eq_some_iff] at h1 h2
    obtain ⟨a1, e1, a2, e2, rfl⟩ := h1
    obtain ⟨b1, q1, b2, q2, rfl⟩ := h2
    rw [peqs, nkey_peq k x a1 b1 e1 q1, nkeys_peq ks xs a2 b2 e2 q2]
    simp
  | [], x :: xs, a, b, h1, h2 => by
    simp only [nkeys, Option.bind_eq_some_iff, Option.map_eq_some_iff] at h1 h2
    obtain ⟨b1, q1, b2, q2, rfl⟩ := h2
    simp at h1
    subst h1
    simp [peqs]
  | k :: ks, [], a, b, h1, h2 => by
    simp only [nkeys, Option.bind_eq_some_iff, Option.map_eq_some_iff] at h1 h2
    obtain ⟨a1, e1, a2, e2, rfl⟩ := h1
    simp at h2
    subst h2
    simp [peqs]
end
mutual
theorem keyT_nkey : ∀ v : PV, keyT v = true → ∃ κ, nkey v = some κ ∧ κ.depth = dep v
  | .non, _ => ⟨_, rfl, by simp [NestedKey.depth, dep]⟩
  | .int _, _ => ⟨_, rfl, by simp [NestedKey.depth, dep]⟩
  | .str _, _ => ⟨_, rfl, by simp [NestedKey.depth, dep]⟩
  | .tup l, h => by
    rw [keyT] at h
    obtain ⟨κs, e, d⟩ := keyTs_nkeys l h
    exact ⟨.tup κs, by rw [nkey, e]; rfl, by rw [NestedKey.depth, dep, d]⟩
  | .bl _, h => by simp [keyT] at h
  | .lst _, h => by simp [keyT] at h
  | .dct _ _, h => by simp [keyT] at h
  | .ins _ _ _, h => by simp [keyT] at h
  | .fn _, h => by simp [keyT] at h
theorem keyTs_nkeys : ∀ l : List PV, keyTs l = true → ∃ κs, nkeys l = some κs ∧ NestedKey.depthAll κs = deps l
  | [], _ => ⟨[], rfl, by simp [NestedKey.depthAll, deps]⟩
  | a :: l, h => by
    rw [keyTs, Bool.and_eq_true] at h
    obtain ⟨κ, e1, d1⟩ := keyT_nkey a h.1
    obtain ⟨κs, e2, d2⟩ := keyTs_nkeys l h.2
    exact ⟨κ :: κs, by rw [nkeys, e1, e2]; rfl, by rw [NestedKey.depthAll, deps, d1, d2]⟩
end
section
variable {C : Cn} {F : AS} {fp : FP} {r : Env} {σ : L2.St} {H : Hp} {X : Cx} {pins : List (Addr × Obj)} {s : Shared}
mutual
theorem Imm.nested (f : Fit C X) (I : Inv X pins σ H s) : ∀ (v : PV) (u : V) (x : Value) (κ : NestedKey), nkey v = some κ → Imm C F H v u → RelV u x → NestedIs s.heap κ x
  | .non, u, x, κ, d, h, q => by
    simp only [Imm] at h; subst h; cases q; simp [nkey] at d; subst d; exact .none
  | .int i, u, x, κ, d, h, q => by
    simp only [Imm] at h; subst h; obtain ⟨t, rfl⟩ := q; simp [nkey] at d; subst d; exact .int i t
  | .str z, u, x, κ, d, h, q => by
    simp only [Imm] at h; subst h; obtain ⟨t, rfl⟩ := q; simp [nkey] at d; subst d; exact .text _ t
  | .tup l, u, x, κ, d, h, q => by
    rw [Imm] at h
    obtain ⟨a, xs, rfl, h1, h2⟩ := h
    simp only [nkey, Option.map_eq_some_iff] at d
    obtain ⟨κs, e, rfl⟩ := d
    cases q
    obtain ⟨its, rv, ⟨o, ho, hc, n, hd⟩, _⟩ := I.tuple (f.K ▸ h1)
    exact .tup ho hc hd (Imms.nested f I l xs its κs e h2 rv)
  | .bl _, _, _, _, d, _, _ => by simp [nkey] at d
  | .lst _, _, _, _, d, _, _ => by simp [nkey] at d
  | .dct _ _, _, _, _, d, _, _ => by simp [nkey] at d
  | .ins _ _ _, _, _, _, d, _, _ => by simp [nkey] at d
  | .fn _, _, _, _, d, _, _ => by simp [nkey] at d
theorem Imms.nested (f : Fit C X) (I : Inv X pins σ H s) : ∀ (vs : List PV) (us : List V) (xs : List Value) (κs : List NestedKey), nkeys vs = some κs → Imms C F H vs us → Vals us xs → NestedAll s.heap κs xs
  | [], us, xs, κs, d, h, q => by
    rw [Imms.nil_iff] at h; subst h; cases q; simp [nkeys] at d; subst d; exact .nil
  | v :: vs, us, xs, κs, d, h, q => by
    rw [Imms] at h
    obtain ⟨u, us', rfl, h1, h2⟩ := h
    simp only [nkeys, Option.bind_eq_some_iff, Option.map_eq_some_iff] at d
    obtain ⟨κ, e1, κs', e2, rfl⟩ := d
    cases q with
    | cons q1 q2 => exact .cons (Imm.nested f I v u _ κ e1 h1 q1) (Imms.nested f I vs us' _ κs' e2 h2 q2)
end

/-! ### entries -/
theorem KV1.look {x : PV} {κ : Key} (hx : keyOf x = some κ) : ∀ {ks vs : List PV} {es : List (Key × V)}, KV1 C F H ks vs es →
    (∀ v, look ks vs x = some v → ∃ u, valV es κ = some u ∧ Imm C F H v u) ∧ (look ks vs x = none → valV es κ = none) ∧ (ks.any fun k => peq k x) = (valV es κ).isSome
  | [], [], es, h => by
    rw [KV1] at h; subst h
    exact ⟨fun v e => by simp [PL.look] at e, fun _ => rfl, rfl⟩
  | k :: ks, v :: vs, es, h => by
    rw [KV1] at h
    obtain ⟨κ', u, es', rfl, hk, hi, ht⟩ := h
    obtain ⟨i1, i2, i3⟩ := KV1.look hx ht
    have e := keyOf_peq hk hx
    by_cases c : κ' = κ
    · subst c
      rw [decide_eq_true rfl] at e
      refine ⟨fun w q => ?_, fun q => ?_, ?_⟩
      · simp [PL.look, e] at q; subst q
        exact ⟨u, valV_pos rfl, hi⟩
      · simp [PL.look, e] at q
      · rw [List.any_cons, e, valV_pos rfl]; rfl
    · rw [decide_eq_false c] at e
      refine ⟨fun w q => ?_, fun q => ?_, ?_⟩
      · simp [PL.look, e] at q
        rw [valV_neg c]
        exact i1 w q
      · simp [PL.look, e] at q
        rw [valV_neg c]
        exact i2 q
      · rw [List.any_cons, e, valV_neg c, Bool.false_or]; exact i3
  | [], _ :: _, es, h => by simp [KV1] at h
  | _ :: _, [], es, h => by simp [KV1] at h
theorem KV1.len : ∀ {ks vs : List PV} {es : List (Key × V)}, KV1 C F H ks vs es → es.length = ks.length ∧ vs.length = ks.length
  | [], [], es, h => by rw [KV1] at h; subst h; exact ⟨rfl, rfl⟩
  | k :: ks, v :: vs, es, h => by
    rw [KV1] at h
    obtain ⟨κ', u, es', rfl, hk, hi, ht⟩ := h
    obtain ⟨a, b⟩ := KV1.len ht
    simp [a, b]
  | [], _ :: _, es, h => by simp [KV1] at h
  | _ :: _, [], es, h => by simp [KV1] at h
/-- the store, along the list -/
def put1 (κ : Key) (y : V) : List (Key × V) → List (Key × V)
  | [] => [(κ, y)]
  | p :: l => if p.1 = κ then (p.1, y) :: l else p :: put1 κ y l
theorem put1_none {κ : Key} {y : V} : ∀ {es : List (Key × V)}, valV es κ = none → put1 κ y es = es ++ [(κ, y)]
  | [], _ => rfl
  | p :: l, h => by
    have c : ¬ p.1 = κ := fun e => by rw [valV_pos e] at h; cases h
    rw [valV_neg c] at h
    rw [put1, if_neg c, put1_none h]; rfl
theorem map_same {κ : Key} {y : V} : ∀ {es : List (Key × V)}, valV es κ = none → (es.map fun kv => if kv.1 = κ then (kv.1, y) else kv) = es
  | [], _ => rfl
  | p :: l, h => by
    have c : ¬ p.1 = κ := fun e => by rw [valV_pos e] at h; cases h
    rw [valV_neg c] at h
    rw [List.map_cons, if_neg c, map_same h]
theorem put1_eq {κ : Key} {y : V} : ∀ {es : List (Key × V)}, (es.map (·.1)).Nodup → putK es κ y = put1 κ y es
  | [], _ => rfl
  | p :: l, hn => by
    rw [List.map_cons, List.nodup_cons] at hn
    have ih := put1_eq (κ := κ) (y := y) hn.2
    by_cases c : p.1 = κ
    · have nl : valV l κ = none := by
        cases e : valV l κ with
        | none => rfl
        | some z =>
          have : (l.any fun kv => decide (kv.1 = κ)) = true := by rw [valV_any, e]; rfl
          obtain ⟨q, hq, e2⟩ := List.any_eq_true.mp this
          exact absurd (List.mem_map.mpr ⟨q, hq, (of_decide_eq_true e2).trans c.symm⟩) hn.1
      unfold putK
      rw [List.any_cons, decide_eq_true c, Bool.true_or, if_pos rfl, List.map_cons, if_pos c, map_same nl, put1, if_pos c]
    · have e3 : putK (p :: l) κ y = p :: putK l κ y := by
        unfold putK
        rw [List.any_cons, decide_eq_false c, Bool.false_or, List.map_cons, if_neg c]
        split <;> rfl
      rw [e3, ih, put1, if_neg c]
theorem KV1.put {x y : PV} {κ : Key} {u : V} (hx : keyOf x = some κ) (hy : Imm C F H y u) : ∀ {ks vs : List PV} {es : List (Key × V)}, KV1 C F H ks vs es →
    KV1 C F H (PL.put ks vs x y).1 (PL.put ks vs x y).2 (put1 κ u es)
  | [], [], es, h => by
    rw [KV1] at h; subst h
    simp only [PL.put, put1, KV1]
    exact ⟨κ, u, [], rfl, hx, hy, rfl⟩
  | k :: ks, v :: vs, es, h => by
    rw [KV1] at h
    obtain ⟨κ', w, es', rfl, hk, hi, ht⟩ := h
    have e := keyOf_peq hk hx
    by_cases c : κ' = κ
    · rw [decide_eq_true c] at e
      simp only [PL.put, e, if_true, put1, if_pos c, KV1]
      exact ⟨κ', u, es', rfl, hk, hy, ht⟩
    · rw [decide_eq_false c] at e
      simp only [PL.put, e, Bool.false_eq_true, if_false, put1, if_neg c, KV1]
      exact ⟨κ', w, _, rfl, hk, hi, KV1.put hx hy ht⟩
  | [], _ :: _, es, h => by simp [KV1] at h
  | _ :: _, [], es, h => by simp [KV1] at h

theorem KV2.look {x : PV} {κ : NestedKey} (hx : nkey x = some κ) : ∀ {ks vs : List PV} {es : List (NestedKey × Addr × Value)}, KV2 C F H ks vs es →
    (∀ v, look ks vs x = some v → ∃ u b w, atKey es κ = some (b, w) ∧ RelV u w ∧ Imm C F H v u) ∧ (look ks vs x = none → atKey es κ = none) ∧ (ks.any fun k => peq k x) = (atKey es κ).isSome
  | [], [], es, h => by
    rw [KV2] at h; subst h
    exact ⟨fun v e => by simp [PL.look] at e, fun _ => rfl, rfl⟩
  | k :: ks, v :: vs, es, h => by
    rw [KV2] at h
    obtain ⟨κ', b, u, w, es', rfl, hk, hb, hw, hi, ht⟩ := h
    obtain ⟨i1, i2, i3⟩ := KV2.look hx ht
    have e := nkey_peq k x κ' κ hk.1 hx
    have pos : κ' = κ → atKey ((κ', b, w) :: es') κ = some (b, w) := fun c => by simp [atKey, List.find?_cons, c]
    have neg : ¬ κ' = κ → atKey ((κ', b, w) :: es') κ = atKey es' κ := fun c => by simp [atKey, List.find?_cons, c]
    by_cases c : κ' = κ
    · rw [decide_eq_true c] at e
      refine ⟨fun z q => ?_, fun q => ?_, ?_⟩
      · simp [PL.look, e] at q; subst q
        exact ⟨u, b, w, pos c, hw, hi⟩
      · simp [PL.look, e] at q
      · rw [List.any_cons, e, pos c]; rfl
    · rw [decide_eq_false c] at e
      refine ⟨fun z q => ?_, fun q => ?_, ?_⟩
      · simp [PL.look, e] at q
        rw [neg c]
        exact i1 z q
      · simp [PL.look, e] at q
        rw [neg c]
        exact i2 q
      · rw [List.any_cons, e, neg c, Bool.false_or]; exact i3
  | [], _ :: _, es, h => by simp [KV2] at h
  | _ :: _, [], es, h => by simp [KV2] at h
theorem KV2.len : ∀ {ks vs : List PV} {es : List (NestedKey × Addr × Value)}, KV2 C F H ks vs es → es.length = ks.length ∧ vs.length = ks.length
  | [], [], es, h => by rw [KV2] at h; subst h; exact ⟨rfl, rfl⟩
  | k :: ks, v :: vs, es, h => by
    rw [KV2] at h
    obtain ⟨κ', b, u, w, es', rfl, hk, hb, hw, hi, ht⟩ := h
    obtain ⟨a, b⟩ := KV2.len ht
    simp [a, b]
  | [], _ :: _, es, h => by simp [KV2] at h
  | _ :: _, [], es, h => by simp [KV2] at h
def put2 (κ : NestedKey) (b : Addr) (y : Value) : List (NestedKey × Addr × Value) → List (NestedKey × Addr × Value)
  | [] => [(κ, b, y)]
  | p :: l => if p.1 = κ then (p.1, p.2.1, y) :: l else p :: put2 κ b y l
theorem put2_none {κ : NestedKey} {b : Addr} {y : Value} : ∀ {es : List (NestedKey × Addr × Value)}, atKey es κ = none → put2 κ b y es = es ++ [(κ, b, y)]
  | [], _ => rfl
  | p :: l, h => by
    have c : ¬ p.1 = κ := fun e => by simp [atKey, List.find?_cons, e] at h
    have h' : atKey l κ = none := by simpa [atKey, List.find?_cons, c] using h
    rw [put2, if_neg c, put2_none h']; rfl
theorem put2_some {κ : NestedKey} {b : Addr} {y : Value} : ∀ {es : List (NestedKey × Addr × Value)}, (es.map (·.1)).Nodup → (atKey es κ).isSome = true → put2 κ b y es = es.map (putAt κ y)
  | [], _, h => by simp [atKey] at h
  | p :: l, hn, h => by
    rw [List.map_cons, List.nodup_cons] at hn
    by_cases c : p.1 = κ
    · rw [put2, if_pos c, List.map_cons]
      have e1 : putAt κ y p = (p.1, p.2.1, y) := by unfold putAt; rw [if_pos c]
      have e2 : l.map (putAt κ y) = l := by
        have : ∀ q ∈ l, putAt κ y q = q := fun q hq => by
          unfold putAt
          rw [if_neg fun e => hn.1 (List.mem_map.mpr ⟨q, hq, e.trans c.symm⟩)]
        exact (List.map_congr_left this).trans (List.map_id _)
      rw [e1, e2]
    · have h' : (atKey l κ).isSome = true := by simpa [atKey, List.find?_cons, c] using h
      rw [put2, if_neg c, List.map_cons, put2_some hn.2 h']
      unfold putAt
      rw [if_neg c]
theorem put2_eq {κ : NestedKey} {b : Addr} {y : Value} {es : List (NestedKey × Addr × Value)} (hn : (es.map (·.1)).Nodup) : storedH es κ b y = put2 κ b y es := by
  unfold storedH
  cases e : (atKey es κ).isSome with
  | true => rw [if_pos rfl, put2_some hn e]
  | false =>
    rw [if_neg Bool.false_ne_true, put2_none]
    cases q : atKey es κ with
    | none => rfl
    | some p => rw [q] at e; cases e
theorem KV2.put {x y : PV} {κ : NestedKey} {u : V} {b : Addr} {w : Value} (hx : nkey x = some κ) (hdp : κ.depth ≤ 8) (hb : Imm C F H x (.ref b)) (hw : RelV u w) (hy : Imm C F H y u) : ∀ {ks vs : List PV} {es : List (NestedKey × Addr × Value)}, KV2 C F H ks vs es →
    KV2 C F H (PL.put ks vs x y).1 (PL.put ks vs x y).2 (put2 κ b w es)
  | [], [], es, h => by
    rw [KV2] at h; subst h
    simp only [PL.put, put2, KV2]
    exact ⟨κ, b, u, w, [], rfl, ⟨hx, hdp⟩, hb, hw, hy, rfl⟩
  | k :: ks, v :: vs, es, h => by
    rw [KV2] at h
    obtain ⟨κ', b', u', w', es', rfl, hk, hb', hw', hi, ht⟩ := h
    have e := nkey_peq k x κ' κ hk.1 hx
    by_cases c : κ' = κ
    · rw [decide_eq_true c] at e
      simp only [PL.put, e, if_true, put2, if_pos c, KV2]
      exact ⟨κ', b', u, w, es', rfl, hk, hb', hw, hy, ht⟩
    · rw [decide_eq_false c] at e
      simp only [PL.put, e, Bool.false_eq_true, if_false, put2, if_neg c, KV2]
      exact ⟨κ', b', u', w', _, rfl, hk, hb', hw', hi, KV2.put hx hdp hb hw hy ht⟩
  | [], _ :: _, es, h => by simp [KV2] at h
  | _ :: _, [], es, h => by simp [KV2] at h
theorem put_len : ∀ (ks vs : List PV) (x y : PV), (PL.put ks vs x y).1.length ≤ ks.length + 1
  | [], _, x, y => by simp [PL.put]
  | k :: ks, [], x, y => by simp [PL.put]
  | k :: ks, v :: vs, x, y => by
    have := put_len ks vs x y
    simp only [PL.put]
    split <;> simp <;> omega
theorem KV2.keys (f : Fit C X) (I : Inv X pins σ H s) : ∀ {ks vs : List PV} {es : List (NestedKey × Addr × Value)}, KV2 C F H ks vs es → ∀ x ∈ es, (nestedKind X.prog X.w).is s.heap x.1 x.2.1
  | [], [], es, h => by rw [KV2] at h; subst h; intro x hx; cases hx
  | k :: ks, v :: vs, es, h => by
    rw [KV2] at h
    obtain ⟨κ', b, u, w, es', rfl, hk, hb, hw, hi, ht⟩ := h
    intro x hx
    rcases List.mem_cons.mp hx with rfl | hx
    · exact ⟨Imm.nested f I k (.ref b) (.ref b) κ' hk.1 hb rfl, hk.2⟩
    · exact KV2.keys f I ht x hx
  | [], _ :: _, es, h => by simp [KV2] at h
  | _ :: _, [], es, h => by simp [KV2] at h

/-! ### the two kinds of dicts, as the machine has them -/
theorem okKey_case {ks : List PV} {x : PV} (h : okKey ks x = true) : (∃ κ, keyOf x = some κ ∧ ∀ k ∈ ks, isInt k = true ∨ isStr k = true) ∨ ∃ l κ, x = .tup l ∧ nkey x = some κ ∧ κ.depth ≤ 8 ∧ ∀ k ∈ ks, isTup k = true := by
  unfold okKey at h
  cases x with
  | int i =>
    simp only [List.all_eq_true, Bool.or_eq_true] at h
    exact .inl ⟨_, rfl, h⟩
  | str i =>
    simp only [List.all_eq_true, Bool.or_eq_true] at h
    exact .inl ⟨_, rfl, h⟩
  | tup l =>
    simp only [Bool.and_eq_true, List.all_eq_true, decide_eq_true_eq] at h
    obtain ⟨κ, e, d⟩ := keyT_nkey (.tup l) (by rw [keyT]; exact h.1.1)
    refine .inr ⟨l, κ, rfl, e, ?_, h.1.2⟩
    rw [d, dep]; omega
  | _ => simp at h
theorem KV2.not1 {x : PV} {κ : Key} : ∀ {ks vs : List PV} {es : List (NestedKey × Addr × Value)}, (∀ k ∈ ks, isInt k = true ∨ isStr k = true) → KV2 C F H ks vs es → ks = []
  | [], _, _, _, _ => rfl
  | k :: ks, [], es, _, h => by simp [KV2] at h
  | k :: ks, v :: vs, es, hk, h => by
    rw [KV2] at h
    obtain ⟨κ', b, u, w, es', rfl, hk', hb, _⟩ := h
    have := hk k List.mem_cons_self
    cases k <;> simp [isInt, isStr] at this <;> simp [Imm] at hb
theorem KV1.not2 : ∀ {ks vs : List PV} {es : List (Key × V)}, (∀ k ∈ ks, isTup k = true) → KV1 C F H ks vs es → ks = []
  | [], _, _, _, _ => rfl
  | k :: ks, [], es, _, h => by simp [KV1] at h
  | k :: ks, v :: vs, es, hk, h => by
    rw [KV1] at h
    obtain ⟨κ', u, es', rfl, hk', _⟩ := h
    have := hk k List.mem_cons_self
    cases k <;> simp [isTup] at this <;> simp [keyOf] at hk'
/-- an empty dict is of either kind -/
theorem as1 (f : Fit C X) (I : Inv X pins σ H s) {a : Addr} {ks vs : List PV} (h : DctRep C F H a ks vs) (hk : ∀ k ∈ ks, isInt k = true ∨ isStr k = true) :
    ∃ es ws, KV1 C F H ks vs es ∧ es.length ≤ sizeLine ∧ (a == sysModules) = false ∧ KV es ws ∧ s.heap.DictOf (mixKind X.prog X.w) a ws := by
  rcases h with ⟨es, e, q⟩ | ⟨xs, e, z, n, q⟩
  · obtain ⟨z, hd, ws, rel, dd⟩ := dk_of I.hok e
    exact ⟨es, ws, q, z, hd, rel, dd⟩
  · obtain rfl := KV2.not1 (x := .non) (κ := .inl 0) hk q
    cases vs with
    | cons _ _ => simp [KV2] at q
    | nil =>
      rw [KV2] at q
      subst q
      have ph : ObjOk X.prog X.w H s.heap a (.ext (phiD C a [])) := I.hok a _ e
      obtain ⟨⟨o, es, ep, h1, h2, h3, h4, h5⟩, _⟩ := ph
      have e0 : es = #[] := by simpa using h4
      subst e0
      exact ⟨[], [], by rw [KV1], Nat.zero_le _, n, .nil, o, #[], ep, h1, h2, h3, (fun e he => by simp at he), .nil, .nil⟩
theorem as2 (f : Fit C X) (I : Inv X pins σ H s) {a : Addr} {ks vs : List PV} (h : DctRep C F H a ks vs) (hk : ∀ k ∈ ks, isTup k = true) :
    ∃ es, KV2 C F H ks vs es ∧ es.length ≤ sizeLine ∧ (a == sysModules) = false ∧ s.heap.DictOfH (nestedKind X.prog X.w) a es := by
  rcases h with ⟨es, e, q⟩ | ⟨xs, e, z, n, q⟩
  · obtain ⟨z, hd, ws, rel, dd⟩ := dk_of I.hok e
    obtain rfl := KV1.not2 hk q
    cases vs with
    | cons _ _ => simp [KV1] at q
    | nil =>
      rw [KV1] at q
      subst q
      cases rel
      obtain ⟨o, es, ep, h1, h2, h3, h4, h5⟩ := dd
      refine ⟨[], by rw [KV2], Nat.zero_le _, hd, o, es, ep, h1, h2, h3, ?_, fun x hx => by simp at hx, .nil⟩
      obtain ⟨h5, _⟩ := h5
      generalize he : es.toList = l at h5
      cases h5
      rfl
  · have ph : ObjOk X.prog X.w H s.heap a (.ext (phiD C a xs)) := I.hok a _ e
    obtain ⟨⟨o, es, ep, h1, h2, h3, h4, h5⟩, _⟩ := ph
    rw [f.P, f.w] at h4
    exact ⟨xs, q, z, n, o, es, ep, h1, h2, h3, h4, KV2.keys f I q, h5⟩
end
end PL

set_option Elab.async false
set_option linter.all false
set_option maxRecDepth 100000
set_option maxHeartbeats 1000000
namespace PL
open PySem L2 PV PySem.SeqAt PyProof.Rows

section
variable {C : Cn} {F : AS} {fp : FP} {r : Env} {σ : L2.St} {H : Hp} {X : Cx} {pins : List (Addr × Obj)} {s : Shared} {A : Around} {E : Value → Shared → Prop}
variable {a : Addr} {ks vs : List PV} {x v : PV} {y : V} {u : Value}
theorem key1 {κ : Key} (hk : keyOf x = some κ) (hx : Imm C F H x y) : y = kV κ := by
  cases x <;> simp [keyOf] at hk <;> subst hk <;> simpa [Imm, kV] using hx
theorem key2 {κ : NestedKey} {l : List PV} (f : Fit C X) (I : Inv X pins σ H s) (hx : Imm C F H (.tup l) y) (hk : nkey (.tup l) = some κ) (hd : κ.depth ≤ 8) (ry : RelV y u) :
    ∃ b, y = .ref b ∧ u = .ref b ∧ (nestedKind X.prog X.w).is s.heap κ b := by
  have n := Imm.nested f I (.tup l) y u κ hk hx ry
  rw [Imm] at hx
  obtain ⟨b, xs, rfl, h1, h2⟩ := hx
  obtain rfl : u = Value.ref b := ry
  exact ⟨b, rfl, rfl, n, hd⟩
theorem room2 {A : Around} (h : A.units + 9 < cLine) : (nestedKind X.prog X.w).room A.in1 := by
  show A.units + 1 + 8 < cLine
  omega
theorem pl_getItem {Q : Value → Shared → Prop} (f : Fit C X) (hu : A.units + 9 < cLine) (I : Inv X pins σ H s) (h : DctRep C F H a ks vs) (ok : okKey ks x = true) (hx : Imm C F H x y) (ry : RelV y u)
    (hl : look ks vs x = some v) (k : ∀ w' s' uv, Inv X pins σ H s' → RelV uv w' → Imm C F H v uv → Q w' s') : wpAny (model X.prog X.w) A (getItem (.ref a) u) Q E s := by
  rcases okKey_case ok with ⟨κ, hk, hall⟩ | ⟨l, κ, rfl, hk, hd, hall⟩
  · obtain ⟨es, ws, q, z, nd, rel, dd⟩ := as1 f I h hall
    obtain ⟨uv, e1, iv⟩ := (KV1.look hk q).1 v hl
    obtain rfl := key1 hk hx
    obtain ⟨w', hw, rw'⟩ := RelO.some_of (v := uv) (o := valueAt ws κ) (by rw [← e1]; exact rel.val κ)
    exact wpAny_getItem_of (kV_is ry) dd.mapOf hw (k w' _ uv (I.tok _) rw' iv)
  · obtain ⟨es, q, z, nd, dd⟩ := as2 f I h hall
    obtain ⟨b, rfl, rfl, ik⟩ := key2 f I hx hk hd ry
    obtain ⟨uv, b', w', e1, rw', iv⟩ := (KV2.look hk q).1 v hl
    exact wpAny_getItem_heap (room2 hu) ik dd e1 (k w' _ uv (I.tok _) rw' iv)
theorem pl_in {Q : Value → Shared → Prop} (f : Fit C X) (hu : A.units + 9 < cLine) (I : Inv X pins σ H s) (h : DctRep C F H a ks vs) (ok : okKey ks x = true) (hx : Imm C F H x y) (ry : RelV y u)
    (k : ∀ s', Inv X pins σ H s' → Q (.bool (ks.any fun k => peq k x)) s') : wpAny (model X.prog X.w) A (compareOp .In u (.ref a)) Q E s := by
  rcases okKey_case ok with ⟨κ, hk, hall⟩ | ⟨l, κ, rfl, hk, hd, hall⟩
  · obtain ⟨es, ws, q, z, nd, rel, dd⟩ := as1 f I h hall
    obtain rfl := key1 hk hx
    refine wpAny_in_of (kV_is ry) nd dd.mapOf ?_
    rw [← (rel.val κ).isSome_eq, ← (KV1.look hk q).2.2]
    exact k _ (I.tok _)
  · obtain ⟨es, q, z, nd, dd⟩ := as2 f I h hall
    obtain ⟨b, rfl, rfl, ik⟩ := key2 f I hx hk hd ry
    refine wpAny_in_heap (room2 hu) ik nd dd ?_
    rw [← (KV2.look hk q).2.2]
    exact k _ (I.tok _)
theorem pl_notIn {Q : Value → Shared → Prop} (f : Fit C X) (hu : A.units + 9 < cLine) (I : Inv X pins σ H s) (h : DctRep C F H a ks vs) (ok : okKey ks x = true) (hx : Imm C F H x y) (ry : RelV y u)
    (k : ∀ s', Inv X pins σ H s' → Q (.bool (!ks.any fun k => peq k x)) s') : wpAny (model X.prog X.w) A (compareOp .NotIn u (.ref a)) Q E s := by
  rcases okKey_case ok with ⟨κ, hk, hall⟩ | ⟨l, κ, rfl, hk, hd, hall⟩
  · obtain ⟨es, ws, q, z, nd, rel, dd⟩ := as1 f I h hall
    obtain rfl := key1 hk hx
    refine wpAny_notIn_of (kV_is ry) nd dd.mapOf ?_
    rw [← (rel.val κ).isSome_eq, ← (KV1.look hk q).2.2]
    exact k _ (I.tok _)
  · obtain ⟨es, q, z, nd, dd⟩ := as2 f I h hall
    obtain ⟨b, rfl, rfl, ik⟩ := key2 f I hx hk hd ry
    refine wpAny_notIn_heap (room2 hu) ik nd dd ?_
    rw [← (KV2.look hk q).2.2]
    exact k _ (I.tok _)
theorem pl_get {Q : Value → Shared → Prop} (f : Fit C X) (hu : A.units + 9 < cLine) (I : Inv X pins σ H s) (h : DctRep C F H a ks vs) (ok : okKey ks x = true) (hx : Imm C F H x y) (ry : RelV y u)
    (k : ∀ w' s' uv, Inv X pins σ H s' → RelV uv w' → Imm C F H ((look ks vs x).getD .non) uv → Q w' s') : wpAny (model X.prog X.w) A (call (.builtin "dict.get") [.ref a, u]) Q E s := by
  rcases okKey_case ok with ⟨κ, hk, hall⟩ | ⟨l, κ, rfl, hk, hd, hall⟩
  · obtain ⟨es, ws, q, z, nd, rel, dd⟩ := as1 f I h hall
    obtain rfl := key1 hk hx
    refine call_meetsIn PySem.F.slot_dict_get dd.typeIs PySem.F.entry_dict_get (PySem.F.args_dict_get_2 _ _) (meets_dict_get (mixKind X.prog X.w) a (kV_is ry) nd) ⟨_, dd.mapOf, ?_⟩
    cases e : look ks vs x with
    | some v =>
      rw [e] at k
      obtain ⟨uv, e1, iv⟩ := (KV1.look hk q).1 v e
      obtain ⟨w', hw, rw'⟩ := RelO.some_of (v := uv) (o := valueAt ws κ) (by rw [← e1]; exact rel.val κ)
      rw [hw]
      exact k w' _ uv (I.tok _) rw' iv
    | none =>
      rw [e] at k
      have e1 := (KV1.look hk q).2.1 e
      have hw : valueAt ws κ = none := RelO.none_of (by rw [← e1]; exact rel.val κ)
      rw [hw]
      exact k .none _ .non (I.tok _) rfl (by simp [Imm])
  · obtain ⟨es, q, z, nd, dd⟩ := as2 f I h hall
    obtain ⟨b, rfl, rfl, ik⟩ := key2 f I hx hk hd ry
    refine call_meetsIn PySem.F.slot_dict_get dd.typeIs PySem.F.entry_dict_get (PySem.F.args_dict_get_2 _ _) (meetsH_dict_get (nestedKind X.prog X.w) a b nd) ⟨room2 hu, κ, es, ik, dd, ?_⟩
    cases e : look ks vs (.tup l) with
    | some v =>
      rw [e] at k
      obtain ⟨uv, b', w', e1, rw', iv⟩ := (KV2.look hk q).1 v e
      rw [e1]
      exact k w' _ uv (I.tok _) rw' iv
    | none =>
      rw [e] at k
      rw [(KV2.look hk q).2.1 e]
      exact k .none _ .non (I.tok _) rfl (by simp [Imm])
theorem put2_len {κ : NestedKey} {b : Addr} {w : Value} : ∀ (es : List (NestedKey × Addr × Value)), (put2 κ b w es).length ≤ es.length + 1
  | [] => by simp [put2]
  | p :: l => by
    have := put2_len (κ := κ) (b := b) (w := w) l
    simp only [put2]
    split <;> simp <;> omega
/-- the abstract object behind a store -/
theorem pl_setItem {Q : Unit → Shared → Prop} {uv : V} {w : Value} (f : Fit C X) (hu : A.units + 9 < cLine) (I : Inv X pins σ H s) (h : DctRep C F H a ks vs) (ok : okKey ks x = true) (hl : ks.length < line) (hx : Imm C F H x y) (ry : RelV y u)
    (rv : RelV uv w) (iv : Imm C F H v uv) (hF : ¬ F a) (hm : ∃ o, H a = some o ∧ MutO o)
    (k : ∀ s' o, MutO o → Inv X pins σ (upd H a o) s' → (∀ F', Mono F H F' (upd H a o) → DctRep C F' (upd H a o) a (put ks vs x v).1 (put ks vs x v).2) → Q () s') : wpAny (model X.prog X.w) A (setItem (.ref a) u w) Q E s := by
  have mu : Mut (H a) := by
    obtain ⟨o, e, m⟩ := hm
    rw [e]
    cases o <;> first | exact True.intro | exact m.elim
  rw [line_eq] at hl
  rcases okKey_case ok with ⟨κ, hk, hall⟩ | ⟨l, κ, rfl, hk, hd, hall⟩
  · obtain ⟨es, ws, q, z, nd, rel, dd⟩ := as1 f I h hall
    obtain rfl := key1 hk hx
    have hz : ws.length ≤ sizeLine := by rw [← rel.length]; exact z
    have le := (KV1.len q).1
    have hl' : (putK es κ uv).length ≤ sizeLine := by have := length_putK es κ uv; omega
    have ee : putK es κ uv = put1 κ uv es := by
      obtain ⟨_, _, _, _, _, _, _, _, nn⟩ := dd
      exact put1_eq (by rw [rel.keys]; exact nn)
    refine wpAny_setItem_pairs (hsz := hz) (kV_is ry) dd fun h' dd' hs => k _ (.dK (putK es κ uv)) True.intro ?_ fun F' m => .inl ⟨_, upd_same, ?_⟩
    · have he : ∃ q, h'.get? a = some q := let ⟨q, _, _, hq, _⟩ := dd'; ⟨q, hq⟩
      exact d_write I mu hs he (dk_new hl' nd (rel.put κ rv) dd')
    · rw [ee] at m ⊢
      exact KV1.mono m _ _ _ (KV1.put hk iv q)
  · obtain ⟨es, q, z, nd, dd⟩ := as2 f I h hall
    obtain ⟨b, rfl, rfl, ik⟩ := key2 f I hx hk hd ry
    have le := (KV2.len q).1
    have ll : (put2 κ b w es).length ≤ es.length + 1 := put2_len es
    have nn : (es.map (·.1)).Nodup := by obtain ⟨_, _, _, _, _, _, _, _, nn⟩ := dd; exact nn
    refine wpAny_setItem_heap (hsz := z) (room2 hu) ik dd fun h' dd' hs => ?_
    rw [put2_eq nn] at dd'
    obtain ⟨o', es', ep', g1, g2, g3, g4, g5, g6⟩ := dd'
    have ph : phiD C a (put2 κ b w es) h' := ⟨o', es', ep', g1, g2, g3, by rw [f.P, f.w]; exact g4, g6⟩
    refine k _ (.ext (phiD C a (put2 κ b w es))) True.intro ?_ fun F' m => .inr ⟨_, upd_same, by omega, nd, KV2.mono m _ _ _ (KV2.put hk hd hx rv iv q)⟩
    refine d_write I mu hs ⟨o', g1⟩ ⟨ph, ⟨o', g1⟩, fun h1 h2 p st => ?_⟩
    obtain ⟨o, e1, e2, p1, p2⟩ := p
    exact ⟨o, e1, e2, st o p1, p2⟩

/-! ### in, not in -/
theorem datC' {a : PV} {l : List PV} {z y : PV} (e : (if dat a && dats l && decide (dep a ≤ 8) && decide (deps l ≤ 8) then some y else none) = some z) : (dat a = true ∧ dats l = true ∧ dep a ≤ 8 ∧ deps l ≤ 8) ∧ y = z := by
  split at e
  · rename_i h
    simp only [Bool.and_eq_true, decide_eq_true_eq] at h
    exact ⟨⟨h.1.1.1, h.1.1.2, h.1.2, h.2⟩, Option.some.inj e⟩
  · cases e
theorem any_peq {a : PV} (ha : dat a = true) : ∀ {l : List PV}, dats l = true → ((toDs l).any fun y => PyData.eqv y (toD a)) = l.any fun x => peq x a
  | [], _ => rfl
  | b :: l, h => by
    rw [dats, Bool.and_eq_true] at h
    rw [toDs, List.any_cons, List.any_cons, toD_eqv b a h.1 ha, any_peq ha h.2]
theorem okKey_imm {ks : List PV} {x : PV} (h : okKey ks x = true) : x.isM = false := by
  unfold okKey at h
  cases x <;> first | rfl | simp at h

theorem opr_inn (f : Fit C X) (hu : X.A.units + 73 < cLine) : OpR X (compareOp .In) (rB C .inn) := by
  intro pins s σ' H u w v x Q I ru rw' h
  obtain ⟨F, fp, r, σ, a, b, z, fl, R, sa, sb, ho, hm, e, g⟩ := h
  rw [fl_own (by decide)] at g
  cases b with
  | tup l =>
    simp only [binop] at e
    obtain ⟨⟨d1, d2, d3, d4⟩, rfl⟩ := datC' e
    obtain ⟨as, ra⟩ := Sh.reads f I d1 sa ru
    obtain ⟨bs, rb⟩ := Sh.reads f I (v := .tup l) (by rw [dat]; exact d2) sb rw'
    rw [toD] at rb
    refine PySem.SeqAt.in_tuple_data rb ra (toDs_plain l) (toD_plain a) (by rw [toD_dep, toDs_dep]; omega) ?_
    rw [any_peq d1 d2]
    exact ⟨.bl _, H, I, rfl, OkV.imm R g rfl (.inl rfl) rfl⟩
  | lst l =>
    simp only [binop] at e
    obtain ⟨⟨d1, d2, d3, d4⟩, rfl⟩ := datC' e
    obtain ⟨as, ra⟩ := Sh.reads f I d1 sa ru
    obtain ⟨bs, rb⟩ := Sh.reads f I (v := .lst l) (by rw [dat]; exact d2) sb rw'
    rw [toD] at rb
    refine PySem.SeqAt.in_list_data rb ra (toDs_plain l) (toD_plain a) (by rw [toD_dep, toDs_dep]; omega) ?_
    rw [any_peq d1 d2]
    exact ⟨.bl _, H, I, rfl, OkV.imm R g rfl (.inl rfl) rfl⟩
  | dct ks vs =>
    simp only [binop] at e
    split at e
    · rename_i hk
      simp only [Option.some.injEq] at e; subst e
      obtain ⟨d, rfl, hd⟩ := sb
      obtain rfl : x = Value.ref d := rw'
      exact pl_in f (by omega) I hd hk (sa.imm (okKey_imm hk)) ru fun s' I' => ⟨.bl _, H, I', rfl, OkV.imm R g rfl (.inl rfl) rfl⟩
    · cases e
  | str t =>
    cases a with
    | str q =>
      match q with
      | [c] =>
        simp only [binop, Option.some.injEq] at e; subst e
        simp only [Sh, Imm] at sa sb; subst sa sb
        exact op_in_sign pins s σ' H _ _ v x Q I ru rw' ⟨c, tx t, rfl, rfl, OkV.imm R g rfl (.inl rfl) (by simp only [Imm, tx]; congr)⟩
      | [] => simp [binop] at e
      | _ :: _ :: _ => simp [binop] at e
    | _ => simp [binop] at e
  | _ => simp [binop] at e
theorem opr_nin (f : Fit C X) (hu : X.A.units + 73 < cLine) : OpR X (compareOp .NotIn) (rB C .nin) := by
  intro pins s σ' H u w v x Q I ru rw' h
  obtain ⟨F, fp, r, σ, a, b, z, fl, R, sa, sb, ho, hm, e, g⟩ := h
  rw [fl_own (by decide)] at g
  cases b with
  | tup l =>
    simp only [binop] at e
    obtain ⟨⟨d1, d2, d3, d4⟩, rfl⟩ := datC' e
    obtain ⟨as, ra⟩ := Sh.reads f I d1 sa ru
    obtain ⟨bs, rb⟩ := Sh.reads f I (v := .tup l) (by rw [dat]; exact d2) sb rw'
    rw [toD] at rb
    refine PySem.SeqAt.notIn_tuple_data rb ra (toDs_plain l) (toD_plain a) (by rw [toD_dep, toDs_dep]; omega) ?_
    rw [any_peq d1 d2]
    exact ⟨.bl _, H, I, rfl, OkV.imm R g rfl (.inl rfl) rfl⟩
  | lst l =>
    simp only [binop] at e
    obtain ⟨⟨d1, d2, d3, d4⟩, rfl⟩ := datC' e
    obtain ⟨as, ra⟩ := Sh.reads f I d1 sa ru
    obtain ⟨bs, rb⟩ := Sh.reads f I (v := .lst l) (by rw [dat]; exact d2) sb rw'
    rw [toD] at rb
    refine PySem.SeqAt.notIn_list_data rb ra (toDs_plain l) (toD_plain a) (by rw [toD_dep, toDs_dep]; omega) ?_
    rw [any_peq d1 d2]
    exact ⟨.bl _, H, I, rfl, OkV.imm R g rfl (.inl rfl) rfl⟩
  | dct ks vs =>
    simp only [binop] at e
    split at e
    · rename_i hk
      simp only [Option.some.injEq] at e; subst e
      obtain ⟨d, rfl, hd⟩ := sb
      obtain rfl : x = Value.ref d := rw'
      exact pl_notIn f (by omega) I hd hk (sa.imm (okKey_imm hk)) ru fun s' I' => ⟨.bl _, H, I', rfl, OkV.imm R g rfl (.inl rfl) rfl⟩
    · cases e
  | str t =>
    cases a with
    | str q =>
      match q with
      | [c] =>
        simp only [binop, Option.some.injEq] at e; subst e
        simp only [Sh, Imm] at sa sb; subst sa sb
        exact op_notIn_sign pins s σ' H _ _ v x Q I ru rw' ⟨c, tx t, rfl, rfl, OkV.imm R g rfl (.inl rfl) (by simp only [Imm, tx]; congr)⟩
      | [] => simp [binop] at e
      | _ :: _ :: _ => simp [binop] at e
    | _ => simp [binop] at e
  | _ => simp [binop] at e
end
end PL

set_option Elab.async false
set_option linter.all false
set_option maxRecDepth 100000
set_option maxHeartbeats 1000000
namespace PL
open PySem L2 PV PySem.SeqAt PyProof.Rows

/-- a built-in of one value that is read -/
def rC (C : Cn) (b : Bi) : List V → Hp → VK → Prop := fun us H Q => ∃ u F fp r σ x z, us = [u] ∧ Rel C F fp r σ H ∧ Sh C F H x u ∧ b1op b x = some z ∧ OkV C F fp H σ Q (z, if b = .min ∨ b = .max then .frz else .own) r
theorem bi_own {b : Bi} (h : ¬ (b = .min ∨ b = .max)) : (if b = .min ∨ b = .max then Fl.frz else Fl.own) = Fl.own := if_neg h
section
variable {C : Cn} {F : AS} {fp : FP} {r : Env} {σ : L2.St} {H : Hp} {X : Cx}
theorem Sh.tup {l : List PV} {u : V} (h : Sh C F H (.tup l) u) : ∃ a xs, u = .ref a ∧ SqT C.K H a xs ∧ Imms C F H l xs := by simpa only [Sh, Imm] using h
theorem Sh.lst {l : List PV} {u : V} (h : Sh C F H (.lst l) u) : ∃ a xs, u = .ref a ∧ SqL C.K H a xs ∧ Imms C F H l xs := h
theorem cr_len (f : Fit C X) : CallR X (.builtin "len") (rC C .len) := by
  intro pins s σ' H us vs Q I rv h
  obtain ⟨u, F, fp, r, σ, x, z, rfl, R, sx, e, g⟩ := h
  rw [bi_own (by decide)] at g
  cases x with
  | tup l =>
    obtain ⟨a, xs, rfl, h1, i1⟩ := sx.tup
    simp only [b1op, Option.some.injEq] at e; subst e
    refine call_len pins s σ' H _ vs Q I rv ⟨.ref a, xs.length, rfl, .inr ⟨xs, f.K ▸ h1, rfl⟩, ?_⟩
    rw [Imms.length i1]
    exact OkV.imm R g rfl (.inl rfl) rfl
  | lst l =>
    obtain ⟨a, xs, rfl, h1, i1⟩ := sx.lst
    simp only [b1op, Option.some.injEq] at e; subst e
    refine call_len pins s σ' H _ vs Q I rv ⟨.ref a, xs.length, rfl, .inl ⟨xs, f.K ▸ h1, rfl⟩, ?_⟩
    rw [Imms.length i1]
    exact OkV.imm R g rfl (.inl rfl) rfl
  | str t =>
    simp only [b1op] at e
    split at e
    · rename_i hl
      simp only [Option.some.injEq] at e; subst e
      simp only [Sh, Imm] at sx; subst sx
      refine call_len pins s σ' H _ vs Q I rv ⟨.str (tx t), t.length, rfl, ⟨by rw [tx_len, ← line_eq]; exact hl, (tx_len t).symm⟩, ?_⟩
      exact OkV.imm R g rfl (.inl rfl) rfl
    · cases e
  | _ => simp [b1op] at e
theorem KV1.keys {F : AS} {H : Hp} : ∀ {ks vs : List PV} {es : List (Key × V)}, KV1 C F H ks vs es → Imms C F H ks (es.map fun kv => kV kv.1)
  | [], [], es, h => by
    rw [KV1] at h; subst h; simp [Imms]
  | k :: ks, v :: vs, es, h => by
    rw [KV1] at h
    obtain ⟨κ, u, es', rfl, h1, h2, h3⟩ := h
    rw [List.map_cons]
    refine Imms.cons_iff.mpr ⟨?_, KV1.keys h3⟩
    cases k <;> simp [keyOf] at h1 <;> subst h1 <;> simp [Imm, kV]
  | [], _ :: _, es, h => by simp [KV1] at h
  | _ :: _, [], es, h => by simp [KV1] at h
theorem KV2.keyV {F : AS} {H : Hp} : ∀ {ks vs : List PV} {es : List (NestedKey × Addr × Value)}, KV2 C F H ks vs es → Imms C F H ks (es.map fun x => V.ref x.2.1)
  | [], [], es, h => by
    rw [KV2] at h; subst h; simp [Imms]
  | k :: ks, v :: vs, es, h => by
    rw [KV2] at h
    obtain ⟨κ, b, u, x, es', rfl, h1, h2, h3, h4, h5⟩ := h
    rw [List.map_cons]
    exact Imms.cons_iff.mpr ⟨h2, KV2.keyV h5⟩
  | [], _ :: _, es, h => by simp [KV2] at h
  | _ :: _, [], es, h => by simp [KV2] at h
theorem refs_vals {l : List Addr} : Vals (l.map V.ref) (l.map Value.ref) := by
  induction l with
  | nil => exact .nil
  | cons a l ih => exact .cons rfl ih
theorem refs_at {acc : Array Value} {es : Array DictEntry} {xs : List (NestedKey × Addr × Value)} {P : Program} {w : World} {knd : HeapKind P w NestedKey} (he : es.toList = xs.map (entryOfKey knd)) (h : ItemsOf (fun i v => ∃ hi : i < es.size, v = es[i].key) acc es.size) : acc.toList = (xs.map fun x => x.2.1).map Value.ref := by
  apply List.ext_getElem
  · rw [Array.length_toList, h.1, List.length_map, List.length_map, ← Array.length_toList, he, List.length_map]
  · intro i h1 h2
    have hi : i < acc.size := by rw [Array.length_toList] at h1; exact h1
    obtain ⟨hj, q⟩ := h.2 i _ (Array.getElem?_eq_getElem hi)
    rw [Array.getElem_toList, q]
    have e1 : es[i] = (es.toList)[i]'(by rw [Array.length_toList]; exact hj) := (Array.getElem_toList _).symm
    rw [e1]
    simp only [he, List.getElem_map]
    rfl
theorem cr_list (f : Fit C X) (hc : X.calm = true) : CallR X (.type "list") (rC C .list) := by
  intro pins s σ' H us vs Q I rv h
  obtain ⟨u, F, fp, r, σ, x, z, rfl, R, sx, e, g⟩ := h
  rw [bi_own (by decide)] at g
  cases x with
  | tup l =>
    obtain ⟨a, xs, rfl, h1, i1⟩ := sx.tup
    simp only [b1op, Option.some.injEq] at e; subst e
    exact call_list_of pins s σ' H _ vs Q I rv ⟨a, xs, rfl, .inr (f.K ▸ h1), fun p hp => OkV.newLst R g i1 hp⟩
  | lst l =>
    obtain ⟨a, xs, rfl, h1, i1⟩ := sx.lst
    simp only [b1op, Option.some.injEq] at e; subst e
    exact call_list_of pins s σ' H _ vs Q I rv ⟨a, xs, rfl, .inl (f.K ▸ h1), fun p hp => OkV.newLst R g i1 hp⟩
  | dct ks ws =>
    obtain ⟨a, rfl, hd⟩ := sx
    simp only [b1op, Option.some.injEq] at e; subst e
    rcases hd with ⟨es, e1, q⟩ | ⟨es, e1, hz, lo, q⟩
    · exact call_listD hc pins s σ' H _ vs Q I rv ⟨a, es, rfl, .inl e1, fun p hp => OkV.newLst R g q.keys hp⟩
    · obtain ⟨v, rfl, rx⟩ := vals1 rv
      cases rx
      have ph : phiD C a es s.heap := (I.hok a _ e1).1
      obtain ⟨o, en, ep, g1, g2, g3, g4, g5⟩ := ph
      have hen : en.size = es.length := by rw [← Array.length_toList, g4, List.length_map]
      refine PySem.W.kdl_call (PySem.KdlSrc.rawDict (es := en) (ep := ep) lo) (I.ok.hd hc) ⟨o, g1, g2, g3⟩ (by rw [hen]; exact hz) fun h' tk acc c' hk hD hacc => ?_
      have hv : Vals (es.map fun x => V.ref x.2.1) acc.toList := by
        rw [refs_at g4 hacc]
        have := refs_vals (l := es.map fun x => x.2.1)
        rwa [List.map_map] at this
      refine ⟨.ref s.heap.objs.size, upd H s.heap.objs.size (.lst (es.map fun x => V.ref x.2.1)), I.laid (t' := tk) hk (Nat.le_refl _)
        (show ObjOk X.prog X.w _ _ _ (.lst (es.map fun x => V.ref x.2.1)) from ⟨by rw [List.length_map]; exact hz, acc.toList, c', hv, by rw [Array.toArray_toList]; exact hD⟩), rfl, OkV.newLst R g q.keyV (I.hok.fresh (Nat.le_refl _))⟩
  | _ => simp [b1op] at e
theorem cr_tuple (f : Fit C X) : CallR X (.type "tuple") (rC C .tuple) := by
  intro pins s σ' H us vs Q I rv h
  obtain ⟨u, F, fp, r, σ, x, z, rfl, R, sx, e, g⟩ := h
  rw [bi_own (by decide)] at g
  cases x with
  | tup l =>
    obtain ⟨a, xs, rfl, h1, i1⟩ := sx.tup
    simp only [b1op, Option.some.injEq] at e; subst e
    exact call_tuple_of pins s σ' H _ vs Q I rv ⟨a, xs, rfl, .inr ⟨f.K ▸ h1, OkV.imm R g rfl (.inl rfl) (by rw [Imm]; exact ⟨a, xs, rfl, h1, i1⟩)⟩⟩
  | lst l =>
    obtain ⟨a, xs, rfl, h1, i1⟩ := sx.lst
    simp only [b1op, Option.some.injEq] at e; subst e
    exact call_tuple_of pins s σ' H _ vs Q I rv ⟨a, xs, rfl, .inl ⟨f.K ▸ h1, fun p hp => OkV.newTup R g i1 hp⟩⟩
  | _ => simp [b1op] at e
theorem bools_imms {F : AS} {H : Hp} : ∀ {l : List PV} {bs : List Bool} {xs : List V}, bools l = some bs → Imms C F H l xs → xs = bs.map V.bl
  | [], bs, xs, h, i => by
    simp only [bools, Option.some.injEq] at h; subst h
    rw [Imms.nil_iff] at i; subst i; rfl
  | v :: l, bs, xs, h, i => by
    rw [Imms] at i
    obtain ⟨u, us, rfl, i1, i2⟩ := i
    cases v with
    | bl b =>
      simp only [bools, Option.map_eq_some_iff] at h
      obtain ⟨cs, h1, rfl⟩ := h
      simp only [Imm] at i1; subst i1
      rw [bools_imms h1 i2]; rfl
    | _ => simp [bools] at h
theorem ints_imms {F : AS} {H : Hp} : ∀ {l : List PV} {bs : List Int} {xs : List V}, «ints» l = some bs → Imms C F H l xs → xs = bs.map V.int
  | [], bs, xs, h, i => by
    simp only [«ints», Option.some.injEq] at h; subst h
    rw [Imms.nil_iff] at i; subst i; rfl
  | v :: l, bs, xs, h, i => by
    rw [Imms] at i
    obtain ⟨u, us, rfl, i1, i2⟩ := i
    cases v with
    | int b =>
      simp only [«ints», Option.map_eq_some_iff] at h
      obtain ⟨cs, h1, rfl⟩ := h
      simp only [Imm] at i1; subst i1
      rw [ints_imms h1 i2]; rfl
    | _ => simp [«ints»] at h
theorem crb_all (f : Fit C X) (hc : X.calm = true) : CallR X (.builtin "all") (rC C .all) := by
  intro pins s σ' H us vs Q I rv h
  obtain ⟨u, F, fp, r, σ, x, z, rfl, R, sx, e, g⟩ := h
  rw [bi_own (by decide)] at g
  cases x with
  | lst l =>
    obtain ⟨a, xs, rfl, h1, i1⟩ := sx.lst
    simp only [b1op, Option.map_eq_some_iff] at e
    obtain ⟨bs, e1, rfl⟩ := e
    obtain rfl := bools_imms e1 i1
    exact L2.cr_all hc pins s σ' H _ vs Q I rv ⟨a, bs, rfl, f.K ▸ h1, OkV.imm R g rfl (.inl rfl) rfl⟩
  | _ => simp [b1op] at e
theorem crb_any (f : Fit C X) (hc : X.calm = true) : CallR X (.builtin "any") (rC C .any) := by
  intro pins s σ' H us vs Q I rv h
  obtain ⟨u, F, fp, r, σ, x, z, rfl, R, sx, e, g⟩ := h
  rw [bi_own (by decide)] at g
  cases x with
  | lst l =>
    obtain ⟨a, xs, rfl, h1, i1⟩ := sx.lst
    simp only [b1op, Option.map_eq_some_iff] at e
    obtain ⟨bs, e1, rfl⟩ := e
    obtain rfl := bools_imms e1 i1
    exact L2.cr_any hc pins s σ' H _ vs Q I rv ⟨a, bs, rfl, f.K ▸ h1, OkV.imm R g rfl (.inl rfl) rfl⟩
  | _ => simp [b1op] at e
theorem crb_sum (f : Fit C X) (hc : X.calm = true) : CallR X (.builtin "sum") (rC C .sum) := by
  intro pins s σ' H us vs Q I rv h
  obtain ⟨u, F, fp, r, σ, x, z, rfl, R, sx, e, g⟩ := h
  rw [bi_own (by decide)] at g
  cases x with
  | lst l =>
    obtain ⟨a, xs, rfl, h1, i1⟩ := sx.lst
    simp only [b1op, Option.map_eq_some_iff] at e
    obtain ⟨bs, e1, rfl⟩ := e
    obtain rfl := ints_imms e1 i1
    exact L2.cr_sum hc pins s σ' H _ vs Q I rv ⟨a, bs, rfl, f.K ▸ h1, OkV.imm R g rfl (.inl rfl) rfl⟩
  | _ => simp [b1op] at e
theorem crb_abs : CallR X (.builtin "abs") (rC C .abs) := by
  intro pins s σ' H us vs Q I rv h
  obtain ⟨u, F, fp, r, σ, x, z, rfl, R, sx, e, g⟩ := h
  rw [bi_own (by decide)] at g
  cases x with
  | int i =>
    simp only [b1op, Option.some.injEq] at e; subst e
    simp only [Sh, Imm] at sx; subst sx
    exact call_abs pins s σ' H _ vs Q I rv ⟨i, rfl, OkV.imm R g rfl (.inl rfl) rfl⟩
  | _ => simp [b1op] at e
theorem digit_dec : ∀ c, 48 ≤ c → c ≤ 57 → intText? (tx [c]) = some ((c : Int) - 48) := by
  intro c h1 h2
  have : c = 48 ∨ c = 49 ∨ c = 50 ∨ c = 51 ∨ c = 52 ∨ c = 53 ∨ c = 54 ∨ c = 55 ∨ c = 56 ∨ c = 57 := by omega
  rcases this with rfl | rfl | rfl | rfl | rfl | rfl | rfl | rfl | rfl | rfl <;> decide +kernel
theorem crb_int : CallR X (.type "int") (rC C .int) := by
  intro pins s σ' H us vs Q I rv h
  obtain ⟨u, F, fp, r, σ, x, z, rfl, R, sx, e, g⟩ := h
  rw [bi_own (by decide)] at g
  cases x with
  | int i =>
    simp only [b1op, Option.some.injEq] at e; subst e
    simp only [Sh, Imm] at sx; subst sx
    exact call_int1 pins s σ' H _ vs Q I rv (.inl ⟨i, rfl, OkV.imm R g rfl (.inl rfl) rfl⟩)
  | bl i =>
    simp only [b1op, Option.some.injEq] at e; subst e
    simp only [Sh, Imm] at sx; subst sx
    exact call_int1 pins s σ' H _ vs Q I rv (.inr ⟨i, rfl, OkV.imm R g rfl (.inl rfl) rfl⟩)
  | str t =>
    match t with
    | [c] =>
      simp only [b1op] at e
      split at e
      · rename_i hc
        simp only [Option.some.injEq] at e; subst e
        simp only [Sh, Imm] at sx; subst sx
        exact call_int_str pins s σ' H _ vs Q I rv ⟨tx [c], _, rfl, digit_dec c hc.1 hc.2, by rw [tx_len]; simp, OkV.imm R g rfl (.inl rfl) rfl⟩
      · cases e
    | [] => simp [b1op] at e
    | _ :: _ :: _ => simp [b1op] at e
  | _ => simp [b1op] at e
theorem dig_str : ∀ i : Int, 0 ≤ i → i < 10 → (toString i : Str) = tx [(48 + i).toNat] ∧ i.natAbs.log2 < 1920 := by
  intro i h1 h2
  have : i = 0 ∨ i = 1 ∨ i = 2 ∨ i = 3 ∨ i = 4 ∨ i = 5 ∨ i = 6 ∨ i = 7 ∨ i = 8 ∨ i = 9 := by omega
  rcases this with rfl | rfl | rfl | rfl | rfl | rfl | rfl | rfl | rfl | rfl <;> exact ⟨by decide +kernel, by decide +kernel⟩
theorem crb_str : CallR X (.type "str") (rC C .str) := by
  intro pins s σ' H us vs Q I rv h
  obtain ⟨u, F, fp, r, σ, x, z, rfl, R, sx, e, g⟩ := h
  rw [bi_own (by decide)] at g
  cases x with
  | int i =>
    simp only [b1op] at e
    split at e
    · rename_i hi
      simp only [Option.some.injEq] at e; subst e
      simp only [Sh, Imm] at sx; subst sx
      obtain ⟨e1, e2⟩ := dig_str i hi.1 hi.2
      refine call_str_int pins s σ' H _ vs Q I rv ⟨i, rfl, e2, ?_⟩
      rw [e1]
      exact OkV.imm R g rfl (.inl rfl) rfl
    · cases e
  | _ => simp [b1op] at e
end
end PL

set_option Elab.async false
set_option linter.all false
set_option maxRecDepth 100000
set_option maxHeartbeats 1000000
namespace PL
open PySem L2 PV PySem.SeqAt PyProof.Rows
open PySem.W (SortsAt alike dataLt dataLe dataLe_eq EachIs dataKind sortVals)

section
variable {prog : Program} {w : World} {A : Around} {E : Value → Shared → Prop} {s : Shared}
/-- the items of a tuple, gathered -/
theorem pl_collect {l : Addr} {vs : List Value} {Q : List Value → Shared → Prop} (hl : s.heap.IsTuple l vs.toArray)
    (h : Q vs { s with heap := (s.heap.push (seqObj "list" #[] 0)).update s.heap.objs.size (Obj.mapSeq (· ++ vs.toArray)) }) (hsz : vs.length ≤ sizeLine) :
    wpAny (model prog w) A (collect (.ref l)) Q E s := by
  obtain ⟨o, ho, hc, n, hd⟩ := id hl
  unfold collect
  refine wpAny_bind (wpAny_runValue (codeAny_builtin entry_proto_collect' ?_))
  show wpAny _ _ (do again (.builtin "list.__iadd__" ⟨[← newList [], .ref l], []⟩)) _ _ s
  refine wpAny_bind (wpAny_newList (wpAny_pure ⟨Code.quiet_builtin _ (by decide +kernel), codeAny_builtin entry_list_iadd' ?_⟩))
  show wpAny _ _ (Builtin.List.listExtendWith (.ref s.heap.objs.size) (.ref l) (.ref s.heap.objs.size)) _ _ { s with heap := s.heap.push (seqObj "list" #[] 0) }
  unfold Builtin.List.listExtendWith
  have ho' : (s.heap.push (seqObj "list" #[] 0)).get? l = some o := Heap.get?_push_of_some _ ho
  refine wpAny_bind (wpAny_typeOf (T := "tuple") ⟨o, ho', hc⟩ ?_)
  have ht : (Value.type "tuple" == Value.type "tuple") = true := by rfl
  rw [if_pos (by rw [ht]; simp)]
  refine wpAny_bind (listItems_at ho' hd ?_)
  refine wpAny_bind (listItems_at (xs := #[]) (n := 0) (Heap.get?_push_size _ rfl) rfl ?_)
  rw [if_neg (by simp)]
  refine wpAny_bind (listUpdate_at (xs := #[]) (n := 0) (Heap.get?_push_size _ rfl) rfl ?_ (Nat.zero_le _) (by show (#[] ++ vs.toArray).size ≤ sizeLine + 1; simp only [Array.size_append, List.size_toArray, List.length_nil]; omega))
  refine wpAny_pure ?_
  show wpAny (model prog w) A (do
      let o ← load s.heap.objs.size
      match o.data with
      | .seq xs _ => pure xs.toList
      | _ => unsupported "internal:collect") Q E { s with heap := (s.heap.push (seqObj "list" #[] 0)).update s.heap.objs.size (Obj.mapSeq (· ++ vs.toArray)) }
  refine wpAny_bind (wpAny_load (get?_update_seq (Heap.get?_push_size _ rfl) _) ?_)
  show wpAny _ _ (pure ((#[] : Array Value) ++ vs.toArray).toList) Q E _
  rw [show ((#[] : Array Value) ++ vs.toArray).toList = vs by simp]
  exact wpAny_pure h
/-- sorted of a tuple by the sort of the new list -/
theorem pl_sortedT {l : Addr} {vs : List Value} {κ : KeyKind prog w PUnit → Prop} {Q : Value → Shared → Prop} (hl : s.heap.IsTuple l vs.toArray) (hL : vs.length ≤ sizeLine)
    (body : ∀ E' : Value → Shared → Prop, wpAny (model prog w) A.in1.in1 (Builtin.«list.sort» ⟨[.ref (s.heap.objs.size + 1)], []⟩) (fun f s' => f = .done (.ret .none) ∧ Q (.ref (s.heap.objs.size + 1)) s') E' { s with heap := PySem.W.copyHeap s.heap vs }) :
    wpAny (model prog w) A (call (.builtin "sorted") [.ref l]) Q E s := by
  refine Calls.call_function_entry kind_sorted plain_sorted entry_sorted (args_sorted1 _) ?_
  unfold Builtin.«sorted»
  refine wpAny_bind (m := checkCount "sorted" 1 1 _) (wpAny_pure ?_)
  refine wpAny_bind (pl_collect hl ?_ hL)
  refine wpAny_bind (wpAny_newList ?_ hL)
  have hsz : ((s.heap.push (seqObj "list" #[] 0)).update s.heap.objs.size (Obj.mapSeq (· ++ vs.toArray))).objs.size = s.heap.objs.size + 1 := by
    rw [Heap.size_update, size_push']
  show wpAny _ _ _ _ _ { s with heap := PySem.W.copyHeap s.heap vs }
  rw [hsz]
  refine wpAny_bind (wpAny_holding (wpAny_call_entry slot_list_sort ⟨_, PySem.W.copyHeap_at s.heap vs, rfl⟩ entry_list_sort ?body (args_list_sort _)))
  case body =>
    show wpAny (model prog w) A.in1.in1 (Builtin.«list.sort» ⟨[.ref (s.heap.objs.size + 1)], []⟩) _ _ _
    refine wpAny_mono (body _) (fun f s' hf => ?_) fun _ _ e => e
    obtain ⟨rfl, hq⟩ := hf
    exact ⟨_, rfl, wpAny_pure ⟨_, rfl, hq⟩⟩
variable {β : Type} {R : Value → β → Prop} {vs : List Value} {bs : List β} {enc : β → PyData}
theorem pl_sorted_dataT {l : Addr} {Q : Value → Shared → Prop} (hl : s.heap.IsTuple l vs.toArray) (e : EachIs R vs bs) (er : EachIs (fun v b => ∃ as, Reads s.heap v (enc b) as) vs bs) (hal : PySem.W.AllAlike (bs.map enc)) (hk : PySem.W.Sortable (bs.map enc)) (hL : bs.length ≤ sizeLine)
    (hu : ∀ b, b ∈ bs → A.units + 2 + (enc b).depth < cLine) (h : ∀ out, out.length = bs.length → EachIs R out (bs.mergeSort (dataLe false enc)) → Q (.ref (s.heap.objs.size + 1)) { s with heap := sortedAll s.heap vs (List.toArray out) }) :
    wpAny (model prog w) A (call (.builtin "sorted") [.ref l]) Q E s := by
  have er' : EachIs (fun v b => ∃ as, Reads (PySem.W.sortingHeap (PySem.W.copyHeap s.heap vs) (s.heap.objs.size + 1) vs) v (enc b) as) vs bs := er.mono fun _ _ ⟨as, r⟩ => ⟨as, PyProof.Rows.Reads.keeps (fun _ _ => PySem.W.sorting_copy_old) r⟩
  have hL' : vs.length ≤ sizeLine := by rw [e.length]; exact hL
  refine pl_sortedT (κ := fun _ => True) hl hL' fun E' => ?_
  have S := SortsAt.data (prog := prog) (w := w) (A := A.in1.in1) (s := { s with heap := PySem.W.sortingHeap (PySem.W.copyHeap s.heap vs) (s.heap.objs.size + 1) vs }) (PySem.W.each_map (R := fun v d => ∃ as, Reads (PySem.W.sortingHeap (PySem.W.copyHeap s.heap vs) (s.heap.objs.size + 1) vs) v d as) enc er') hal hk (PySem.W.bound_map hu)
  exact PySem.W.list_sort_vals (s := { s with heap := PySem.W.copyHeap s.heap vs }) (PySem.W.copyHeap_at s.heap vs) S hL' ⟨rfl, h _ (by rw [PySem.W.sortVals_length false rfl]; exact e.length) (PySem.W.sortVals_data false e er' hal)⟩
end

/-! ### what may be sorted -/
theorem okSort_all {l : List PV} (h : okSort l = true) : (∀ a ∈ l, ∀ b ∈ l, alk a b = true) ∧ ((∀ a ∈ l, isTupC a = true) ∨ ∀ a ∈ l, isOther a = true) ∧ deps l ≤ 8 := by
  simp only [okSort, Bool.and_eq_true, List.all_eq_true, Bool.or_eq_true, decide_eq_true_eq] at h
  exact ⟨h.1.1, h.1.2, h.2⟩
theorem alikeAll_of {l : List PV} (h : ∀ a ∈ l, ∀ b ∈ l, alk a b = true) : PySem.W.AllAlike (l.map toD) := by
  intro d hd d' hd'
  obtain ⟨a, ha, rfl⟩ := List.mem_map.mp hd
  obtain ⟨b, hb, rfl⟩ := List.mem_map.mp hd'
  exact alk_alike a b (h a ha b hb)
theorem sortable_of {l : List PV} (h : (∀ a ∈ l, isTupC a = true) ∨ ∀ a ∈ l, isOther a = true) (hd : ∀ a ∈ l, dat a = true) : PySem.W.Sortable (l.map toD) := by
  rcases h with h | h
  · refine .inl fun d m => ?_
    obtain ⟨a, ha, rfl⟩ := List.mem_map.mp m
    have q := h a ha
    cases a with
    | tup x =>
      cases x with
      | nil => simp [isTupC] at q
      | cons b t => exact ⟨toD b, toDs t, rfl⟩
    | _ => simp [isTupC] at q
  · refine .inr fun d m => ?_
    obtain ⟨a, ha, rfl⟩ := List.mem_map.mp m
    have q := h a ha
    have q2 := hd a ha
    cases a <;> simp [isOther, dat, toD] at q q2 ⊢
theorem dep_le {l : List PV} {a : PV} (h : a ∈ l) : dep a ≤ deps l := by
  induction l with
  | nil => cases h
  | cons b l ih =>
    rw [deps]
    rcases List.mem_cons.mp h with rfl | h
    · exact Nat.le_max_left _ _
    · exact Nat.le_trans (ih h) (Nat.le_max_right _ _)
theorem dats_of {l : List PV} (h : ∀ a ∈ l, dat a = true) : dats l = true := by
  induction l with
  | nil => rfl
  | cons b l ih =>
    rw [dats, h b List.mem_cons_self, ih fun a m => h a (List.mem_cons_of_mem _ m)]; rfl
/-! ### the sorted list is one -/
theorem ins1_perm (a : PV) : ∀ l, (ins1 a l).Perm (a :: l)
  | [] => .refl _
  | b :: l => by
    rw [ins1]
    split
    · exact .refl _
    · exact ((ins1_perm a l).cons b).trans (List.Perm.swap a b l)
theorem isort_perm : ∀ l, (isort l).Perm l
  | [] => .refl _
  | a :: l => (ins1_perm a _).trans ((isort_perm l).cons a)
/-- the order among what may be sorted -/
structure Ord3 (l : List PV) : Prop where
  tot : ∀ a ∈ l, ∀ b ∈ l, ple a b = true ∨ ple b a = true
  tr : ∀ a ∈ l, ∀ b ∈ l, ∀ c ∈ l, ple a b = true → ple b c = true → ple a c = true
  as : ∀ a ∈ l, ∀ b ∈ l, ple a b = true → ple b a = true → a = b
theorem ins1_sorted {all : List PV} (o : Ord3 all) {a : PV} (ha : a ∈ all) : ∀ {l : List PV}, (∀ b ∈ l, b ∈ all) → l.Pairwise (fun x y => ple x y = true) → (ins1 a l).Pairwise (fun x y => ple x y = true)
  | [], _, _ => List.pairwise_singleton _ _
  | b :: l, h, p => by
    have hb := h b List.mem_cons_self
    obtain ⟨p1, p2⟩ := List.pairwise_cons.mp p
    rw [ins1]
    split
    · rename_i q
      refine List.pairwise_cons.mpr ⟨fun c m => ?_, p⟩
      rcases List.mem_cons.mp m with rfl | m
      · exact q
      · exact o.tr a ha b hb c (h c (List.mem_cons_of_mem _ m)) q (p1 c m)
    · rename_i q
      have q' : ple b a = true := by
        rcases o.tot a ha b hb with z | z
        · exact absurd z q
        · exact z
      refine List.pairwise_cons.mpr ⟨fun c m => ?_, ins1_sorted o ha (fun c m => h c (List.mem_cons_of_mem _ m)) p2⟩
      rcases List.mem_cons.mp ((ins1_perm a l).mem_iff.mp m) with rfl | m
      · exact q'
      · exact p1 c m
theorem isort_sorted {all : List PV} (o : Ord3 all) : ∀ {l : List PV}, (∀ b ∈ l, b ∈ all) → (isort l).Pairwise (fun x y => ple x y = true)
  | [], _ => .nil
  | a :: l, h => ins1_sorted o (h a List.mem_cons_self) (fun b m => h b (List.mem_cons_of_mem _ ((isort_perm l).mem_iff.mp m))) (isort_sorted o fun b m => h b (List.mem_cons_of_mem _ m))
theorem perm_sorted {all : List PV} (o : Ord3 all) : ∀ {l m : List PV}, (∀ b ∈ l, b ∈ all) → l.Perm m → l.Pairwise (fun x y => ple x y = true) → m.Pairwise (fun x y => ple x y = true) → l = m
  | [], m, _, p, _, _ => (List.nil_perm.mp p).symm ▸ rfl
  | a :: l, [], _, p, _, _ => absurd p.symm (by simp)
  | a :: l, b :: m, h, p, p1, p2 => by
    have ha := h a List.mem_cons_self
    have hb : b ∈ all := h b (p.mem_iff.mpr List.mem_cons_self)
    obtain ⟨a1, a2⟩ := List.pairwise_cons.mp p1
    obtain ⟨b1, b2⟩ := List.pairwise_cons.mp p2
    have e : a = b := by
      rcases List.mem_cons.mp (p.mem_iff.mp List.mem_cons_self) with z | z
      · exact z
      · rcases List.mem_cons.mp (p.mem_iff.mpr (List.mem_cons_self (a := b))) with y | y
        · exact y.symm
        · exact o.as a ha b hb (a1 b y) (b1 a z)
    subst e
    rw [perm_sorted o (fun c m => h c (List.mem_cons_of_mem _ m)) (List.Perm.cons_inv p) a2 b2]
mutual
theorem plt_conn : ∀ a b : PV, alk a a = true → alk b b = true → alk a b = true → plt a b = false → plt b a = false → a = b
  | .non, b, _, _, h, _, _ => by cases b <;> simp [alk] at h; rfl
  | .int a, b, _, _, h, p, q => by
    cases b with
    | int b =>
      simp only [plt, decide_eq_false_iff_not] at p q
      have : a = b := by omega
      rw [this]
    | _ => simp [alk] at h
  | .str a, b, _, _, h, p, q => by
    cases b with
    | str b =>
      rw [plt, ltS_lt, decide_eq_false_iff_not] at p q
      rw [List.le_antisymm (List.not_lt.mp q) (List.not_lt.mp p)]
    | _ => simp [alk] at h
  | .tup a, b, ha, hb, h, p, q => by
    cases b with
    | tup b => rw [alk] at h ha hb; rw [plt] at p q; rw [plts_conn a b ha hb h p q]
    | _ => simp [alk] at h
  | .lst a, b, ha, hb, h, p, q => by
    cases b with
    | lst b => rw [alk] at h ha hb; rw [plt] at p q; rw [plts_conn a b ha hb h p q]
    | _ => simp [alk] at h
  | .bl _, _, h, _, _, _, _ => by simp [alk] at h
  | .dct _ _, _, h, _, _, _, _ => by simp [alk] at h
  | .ins _ _ _, _, h, _, _, _, _ => by simp [alk] at h
  | .fn _, _, h, _, _, _, _ => by simp [alk] at h
theorem plts_conn : ∀ a b : List PV, alks a a = true → alks b b = true → alks a b = true → plts a b = false → plts b a = false → a = b
  | [], [], _, _, _, _, _ => rfl
  | [], b :: bs, _, _, _, p, _ => by simp [plts] at p
  | a :: as, [], _, _, _, _, q => by simp [plts] at q
  | a :: as, b :: bs, ha, hb, h, p, q => by
    rw [alks, Bool.and_eq_true] at h ha hb
    rw [plts] at p q
    by_cases e : a = b
    · subst e
      rw [if_pos (beq_self a)] at p q
      rw [plts_conn as bs ha.2 hb.2 h.2 p q]
    · have n1 : ¬ beq a b = true := fun z => e (eq_of_beq a b z)
      have n2 : ¬ beq b a = true := fun z => e (eq_of_beq b a z).symm
      rw [if_neg n1] at p
      rw [if_neg n2] at q
      exact absurd (plt_conn a b ha.1 hb.1 h.1 p q) e
end
theorem ord3_of {l : List PV} (h : ∀ a ∈ l, ∀ b ∈ l, alk a b = true) : Ord3 l := by
  have T := PySem.W.sortLe_total (PyProof.Rows.listOrd PyProof.Rows.itemOrd) false (fun b : PV => PySem.W.keyToks (toD b))
  have e : ∀ a ∈ l, ∀ b ∈ l, PySem.W.sortLe (PyProof.Rows.listOrd PyProof.Rows.itemOrd) false (fun b : PV => PySem.W.keyToks (toD b)) a b = ple a b := fun a ha b hb => by
    show (!dataLt (toD b) (toD a)) = !plt b a
    rw [plt_lt b a (h b hb b hb) (h a ha a ha) (h b hb a ha)]
  refine ⟨fun a ha b hb => ?_, fun a ha b hb c hc p q => ?_, fun a ha b hb p q => ?_⟩
  · have := T.total a b
    rw [e a ha b hb, e b hb a ha] at this
    simpa using this
  · rw [← e a ha b hb] at p
    rw [← e b hb c hc] at q
    rw [← e a ha c hc]
    exact T.trans a b c p q
  · simp only [ple, Bool.not_eq_true'] at p q
    exact plt_conn a b (h a ha a ha) (h b hb b hb) (h a ha b hb) q p
theorem isort_eq {l m : List PV} (h : ∀ a ∈ l, ∀ b ∈ l, alk a b = true) (p : m.Perm l) (s : m.Pairwise (fun x y => ple x y = true)) : m = isort l :=
  perm_sorted (ord3_of h) (fun b q => p.mem_iff.mp q) (p.trans (isort_perm l).symm) s (isort_sorted (ord3_of h) fun b q => q)
section
variable {C : Cn} {F : AS} {fp : FP} {r : Env} {σ : L2.St} {H : Hp} {X : Cx} {pins : List (Addr × Obj)} {s : Shared}
/-- the pairs of a value and what stands for it -/
def Both (C : Cn) (F : AS) (H : Hp) (x : Value) (b : PV × V) : Prop := RelV b.2 x ∧ Imm C F H b.1 b.2
theorem imms_pairs : ∀ {ps : List (PV × V)}, (∀ p ∈ ps, Imm C F H p.1 p.2) → Imms C F H (ps.map (·.1)) (ps.map (·.2))
  | [], _ => by simp [Imms]
  | p :: ps, h => Imms.cons_iff.mpr ⟨h p List.mem_cons_self, imms_pairs fun q m => h q (List.mem_cons_of_mem _ m)⟩
theorem pairs_of : ∀ {l : List PV} {xs : List V} {vs : List Value}, Imms C F H l xs → Vals xs vs → ∃ ps : List (PV × V), ps.map (·.1) = l ∧ ps.map (·.2) = xs ∧ EachIs (Both C F H) vs ps
  | [], xs, vs, i, r => by
    rw [Imms.nil_iff] at i; subst i; cases r
    exact ⟨[], rfl, rfl, .nil⟩
  | v :: l, xs, vs, i, r => by
    rw [Imms] at i
    obtain ⟨u, us, rfl, i1, i2⟩ := i
    cases r with
    | cons r1 r2 =>
      obtain ⟨ps, e1, e2, e3⟩ := pairs_of i2 r2
      exact ⟨(v, u) :: ps, by simp [e1], by simp [e2], .cons ⟨r1, i1⟩ e3⟩
theorem each_reads (f : Fit C X) (I : Inv X pins σ H s) : ∀ {ps : List (PV × V)} {vs : List Value}, (∀ p ∈ ps, dat p.1 = true) → EachIs (Both C F H) vs ps → EachIs (fun v (b : PV × V) => ∃ as, Reads s.heap v (toD b.1) as) vs ps
  | [], _, _, .nil => .nil
  | p :: ps, _, h, .cons a b => .cons (Imm.reads f I p.1 p.2 _ (h p List.mem_cons_self) a.2 a.1) (each_reads f I (fun q m => h q (List.mem_cons_of_mem _ m)) b)
theorem each_vals : ∀ {ps : List (PV × V)} {vs : List Value}, EachIs (Both C F H) vs ps → Vals (ps.map (·.2)) vs ∧ ∀ p ∈ ps, Imm C F H p.1 p.2
  | [], _, .nil => ⟨.nil, fun _ z => nomatch z⟩
  | p :: ps, _, .cons a b => by
    obtain ⟨h1, h2⟩ := each_vals b
    refine ⟨.cons a.1 h1, fun q m => ?_⟩
    rcases List.mem_cons.mp m with rfl | m
    · exact a.2
    · exact h2 q m
theorem sort_eq {ps : List (PV × V)} (h : ∀ p ∈ ps, ∀ q ∈ ps, alk p.1 q.1 = true) : (ps.mergeSort (dataLe false fun b => toD b.1)).map (·.1) = isort (ps.map (·.1)) := by
  have T := PySem.W.sortLe_total (PyProof.Rows.listOrd PyProof.Rows.itemOrd) false (fun b : PV × V => PySem.W.keyToks (toD b.1))
  have hm : ∀ p ∈ ps.map (·.1), ∀ q ∈ ps.map (·.1), alk p q = true := fun p hp q hq => by
    obtain ⟨x, hx, rfl⟩ := List.mem_map.mp hp
    obtain ⟨y, hy, rfl⟩ := List.mem_map.mp hq
    exact h x hx y hy
  refine isort_eq hm ((List.mergeSort_perm ps _).map _) ?_
  have sd : (ps.mergeSort (dataLe false fun b => toD b.1)).Pairwise (fun a b => dataLe false (fun b : PV × V => toD b.1) a b = true) := List.pairwise_mergeSort (le := dataLe false fun b : PV × V => toD b.1) T.trans (fun a b => by rw [Bool.or_eq_true]; exact T.total a b) ps
  refine List.pairwise_map.mpr (List.Pairwise.imp_of_mem (fun {a b} ha hb q => ?_) sd)
  have ha' := (List.mergeSort_perm ps _).mem_iff.mp ha
  have hb' := (List.mergeSort_perm ps _).mem_iff.mp hb
  have e : dataLe false (fun b : PV × V => toD b.1) a b = ple a.1 b.1 := by
    show (!dataLt (toD b.1) (toD a.1)) = !plt b.1 a.1
    rw [plt_lt b.1 a.1 (h b hb' b hb') (h a ha' a ha') (h b hb' a ha')]
  rw [← e]; exact q
theorem sort_data {l : List PV} {xs : List V} (hal : okSort l = true) {vs : List Value} (f : Fit C X) (I : Inv X pins σ H s) (i : Imms C F H l xs) (rv : Vals xs vs) :
    ∃ ps : List (PV × V), ps.map (·.1) = l ∧ ps.length = l.length ∧ EachIs (Both C F H) vs ps ∧ EachIs (fun v (b : PV × V) => ∃ as, Reads s.heap v (toD b.1) as) vs ps ∧ PySem.W.AllAlike (ps.map fun b => toD b.1) ∧ PySem.W.Sortable (ps.map fun b => toD b.1) ∧
      (∀ p ∈ ps, (toD p.1).depth ≤ 8) ∧ (ps.mergeSort (dataLe false fun b => toD b.1)).map (·.1) = isort l := by
  obtain ⟨ps, e1, e2, e3⟩ := pairs_of i rv
  obtain ⟨h1, h2, h3⟩ := okSort_all hal
  have hm : ∀ p ∈ ps, p.1 ∈ l := fun p m => by rw [← e1]; exact List.mem_map.mpr ⟨p, m, rfl⟩
  have hd : ∀ a ∈ l, dat a = true := fun a m => alk_dat a a (h1 a m a m) (h1 a m a m)
  have em : (ps.map fun b => toD b.1) = l.map toD := by rw [← e1, List.map_map]; rfl
  refine ⟨ps, e1, by rw [← e1, List.length_map], e3, each_reads f I (fun p m => hd _ (hm p m)) e3, by rw [em]; exact alikeAll_of h1, by rw [em]; exact sortable_of h2 hd, fun p m => ?_, ?_⟩
  · rw [toD_dep]; exact Nat.le_trans (dep_le (hm p m)) h3
  · rw [sort_eq fun p m q m' => h1 _ (hm p m) _ (hm q m'), e1]
theorem crb_sorted (f : Fit C X) (hu : X.A.units + 64 < cLine) : CallR X (.builtin "sorted") (rC C .sorted) := by
  intro pins s σ' H us vs Q I rv h
  obtain ⟨u, F, fp, r, σ, x, z, rfl, R, sx, e, g⟩ := h
  rw [bi_own (by decide)] at g
  have fin : ∀ {l : List PV} {xs : List V} {its : List Value} {ps : List (PV × V)}, ps.length = l.length → xs.length ≤ sizeLine → Imms C F H l xs → (ps.mergeSort (dataLe false fun b => toD b.1)).map (·.1) = isort l → b1op .sorted (.lst l) = some z →
      ∀ out : List Value, out.length = ps.length → EachIs (Both C F H) out (ps.mergeSort (dataLe false fun b => toD b.1)) → EP X pins σ' Q (.ref (s.heap.objs.size + 1)) { s with heap := sortedAll s.heap its out.toArray } := by
    intro l xs its ps hpl hz i hs ee out ho he
    simp only [b1op, Option.map_eq_some_iff, psort] at ee
    obtain ⟨m, ee, rfl⟩ := ee
    split at ee
    · cases ee
      obtain ⟨v1, v2⟩ := each_vals he
      obtain ⟨ep, he'⟩ := PyProof.Rows.sortedAll_at s.heap its out.toArray
      have hi := imms_pairs v2
      rw [hs] at hi
      refine ⟨.ref _, upd H (s.heap.objs.size + 1) (.lst ((ps.mergeSort (dataLe false fun b => toD b.1)).map (·.2))), I.laid (t' := s.toks) (fun _ _ => PyProof.Rows.sortedAll_old) (Nat.le_succ _) ⟨?_, out, ep, v1, he'⟩, rfl, OkV.newLst R g hi (I.hok.fresh (Nat.le_succ _))⟩
      rw [List.length_map, List.length_mergeSort, hpl, ← Imms.length i]; exact hz
    · cases ee
  cases x with
  | lst l =>
    obtain ⟨a, xs, rfl, h1, i1⟩ := sx.lst
    obtain ⟨v, rfl, rx⟩ := vals1 rv
    cases rx
    obtain ⟨its, ri, pl, hz⟩ := I.list (f.K ▸ h1)
    have hal : okSort l = true := by
      simp only [b1op, Option.map_eq_some_iff, psort] at e
      obtain ⟨m, e, _⟩ := e
      split at e
      · assumption
      · cases e
    obtain ⟨ps, p1, p2, p3, p4, p5, p6, p7, p8⟩ := sort_data hal f I i1 ri
    exact PySem.W.sorted_data pl.isList p3 p4 p5 p6 (by rw [p2, ← Imms.length i1]; exact hz) (fun b m => by have := p7 b m; omega) (fin p2 hz i1 p8 e)
  | tup l =>
    obtain ⟨a, xs, rfl, h1, i1⟩ := sx.tup
    obtain ⟨v, rfl, rx⟩ := vals1 rv
    cases rx
    obtain ⟨its, ri, pl, hz⟩ := I.tuple (f.K ▸ h1)
    have hal : okSort l = true := by
      simp only [b1op, Option.map_eq_some_iff, psort] at e
      obtain ⟨m, e, _⟩ := e
      split at e
      · assumption
      · cases e
    obtain ⟨ps, p1, p2, p3, p4, p5, p6, p7, p8⟩ := sort_data hal f I i1 ri
    exact pl_sorted_dataT pl p3 p4 p5 p6 (by rw [p2, ← Imms.length i1]; exact hz) (fun b m => by have := p7 b m; omega) (fin p2 hz i1 p8 e)
  | _ => simp [b1op] at e
end
end PL

set_option Elab.async false
set_option linter.all false
set_option maxRecDepth 100000
set_option maxHeartbeats 1000000
namespace PL
open PySem L2 PV PySem.SeqAt PyProof.Rows
open PySem.W (alike dataLt EachIs minD maxD)
section
variable {h : Heap}
mutual
theorem reads_one : ∀ (v w : PV) (x : Value) (as bs : List Addr), dat v = true → dat w = true → Reads h x (toD v) as → Reads h x (toD w) bs → v = w
  | .non, w, x, as, bs, _, dw, r, q => by
    rw [toD] at r; cases r
    cases w <;> simp [dat, toD] at dw q <;> first | rfl | cases q
  | .bl b, w, x, as, bs, _, dw, r, q => by
    rw [toD] at r; cases r
    cases w <;> simp [dat, toD] at dw q <;> cases q; rfl
  | .int i, w, x, as, bs, _, dw, r, q => by
    rw [toD] at r; cases r
    cases w <;> simp [dat, toD] at dw q <;> cases q; rfl
  | .str t, w, x, as, bs, _, dw, r, q => by
    rw [toD] at r; cases r
    cases w with
    | str t' =>
      rw [toD] at q
      generalize e : tx t' = z at q
      generalize e' : tx t = z' at q
      cases q
      rw [tx_inj (e'.trans e.symm)]
    | _ => simp [dat, toD] at dw q <;> cases q
  | .tup l, w, x, as, bs, dv, dw, r, q => by
    rw [toD] at r; rw [dat] at dv
    cases r with
    | tuple ho hc hd r' =>
      cases w with
      | tup m =>
        rw [toD] at q; rw [dat] at dw
        cases q with
        | tuple ho' hc' hd' q' =>
          rw [ho] at ho'; cases ho'
          rw [hd] at hd'; cases hd'
          rw [reads_ones l m _ _ _ dv dw r' q']
      | lst m =>
        rw [toD] at q
        cases q with
        | list ho' hc' hd' q' =>
          rw [ho] at ho'; cases ho'
          rw [hc] at hc'; simp at hc'
      | _ => simp [dat, toD] at dw q <;> cases q
  | .lst l, w, x, as, bs, dv, dw, r, q => by
    rw [toD] at r; rw [dat] at dv
    cases r with
    | list ho hc hd r' =>
      cases w with
      | lst m =>
        rw [toD] at q; rw [dat] at dw
        cases q with
        | list ho' hc' hd' q' =>
          rw [ho] at ho'; cases ho'
          rw [hd] at hd'; cases hd'
          rw [reads_ones l m _ _ _ dv dw r' q']
      | tup m =>
        rw [toD] at q
        cases q with
        | tuple ho' hc' hd' q' =>
          rw [ho] at ho'; cases ho'
          rw [hc] at hc'; simp at hc'
      | _ => simp [dat, toD] at dw q <;> cases q
  | .dct _ _, _, _, _, _, dv, _, _, _ => by simp [dat] at dv
  | .ins _ _ _, _, _, _, _, dv, _, _, _ => by simp [dat] at dv
  | .fn _, _, _, _, _, dv, _, _, _ => by simp [dat] at dv
theorem reads_ones : ∀ (vs ws : List PV) (xs : List Value) (as bs : List Addr), dats vs = true → dats ws = true → ReadsAll h xs (toDs vs) as → ReadsAll h xs (toDs ws) bs → vs = ws
  | [], [], _, _, _, _, _, _, _ => rfl
  | [], w :: ws, xs, as, bs, _, _, r, q => by
    simp only [toDs] at r q; cases r; cases q
  | v :: vs, [], xs, as, bs, _, _, r, q => by
    simp only [toDs] at r q; cases q; cases r
  | v :: vs, w :: ws, xs, as, bs, dv, dw, r, q => by
    rw [toDs] at r q
    rw [dats, Bool.and_eq_true] at dv dw
    cases r with
    | cons r1 r2 =>
      cases q with
      | cons q1 q2 => rw [reads_one v w _ _ _ dv.1 dw.1 r1 q1, reads_ones vs ws _ _ _ dv.2 dw.2 r2 q2]
end
end
theorem alikeAll2 {l : List PV} (h : ∀ a ∈ l, ∀ b ∈ l, alk a b = true) (h2 : (∀ a ∈ l, isTupC a = true) ∨ ∀ a ∈ l, isOther a = true) (hd : ∀ a ∈ l, dat a = true) : PySem.W.AlikeAll (toDs l) := by
  rw [toDs_map]
  refine ⟨fun d m d' m' => alikeAll_of h d m d' m', fun d m => ?_⟩
  obtain ⟨a, ha, rfl⟩ := List.mem_map.mp m
  rcases h2 with h2 | h2
  · have q := h2 a ha
    cases a <;> simp [isTupC, toD] at q ⊢
  · have q := h2 a ha
    have q2 := hd a ha
    cases a <;> simp [isOther, toD, dat] at q q2 ⊢
theorem foldl_best {f : PyData → PyData → Bool} {g : PV → PV → Bool} {all : List PV} (hfg : ∀ a ∈ all, ∀ b ∈ all, f (toD a) (toD b) = g a b) : ∀ (l : List PV) (a : PV), a ∈ all → (∀ b ∈ l, b ∈ all) →
    (toDs l).foldl (fun a y => if f y a then y else a) (toD a) = toD (l.foldl (fun m x => if g x m then x else m) a) ∧ l.foldl (fun m x => if g x m then x else m) a ∈ all
  | [], a, ha, _ => ⟨rfl, ha⟩
  | b :: l, a, ha, hl => by
    have hb := hl b List.mem_cons_self
    rw [toDs, List.foldl_cons, List.foldl_cons, hfg b hb a ha]
    cases g b a with
    | true => exact foldl_best hfg l b hb fun c m => hl c (List.mem_cons_of_mem _ m)
    | false => exact foldl_best hfg l a ha fun c m => hl c (List.mem_cons_of_mem _ m)
section
variable {C : Cn} {F : AS} {fp : FP} {r : Env} {σ : L2.St} {H : Hp} {X : Cx}
theorem each_at {ps : List (PV × V)} {vs : List Value} (h : EachIs (Both C F H) vs ps) {i : Nat} {v : Value} (e : vs[i]? = some v) : ∃ p, ps[i]? = some p ∧ Both C F H v p := by
  induction h generalizing i with
  | nil => simp at e
  | cons a b ih =>
    cases i with
    | zero => simp at e; subst e; exact ⟨_, rfl, a⟩
    | succ i => simpa using ih (by simpa using e)
/-- the value that was found is the one of the list -/
theorem best_is {s : Shared} {pins} (f : Fit C X) (I : Inv X pins σ H s) {l : List PV} {xs : List V} {vs : List Value} (i : Imms C F H l xs) (rv : Vals xs vs) (hd : ∀ a ∈ l, dat a = true) {m : PV} (hm : dat m = true) {j : Nat} {v : Value} {h' : Heap} {bs : List Addr}
    (hv : vs[j]? = some v) (hr : Reads h' v (toD m) bs) (hk : ∀ b o, s.heap.get? b = some o → h'.get? b = some o) : ∃ u, RelV u v ∧ Imm C F H m u := by
  obtain ⟨ps, e1, e2, e3⟩ := pairs_of i rv
  obtain ⟨p, hp, b1, b2⟩ := each_at e3 hv
  have hp1 : p.1 ∈ l := by rw [← e1]; exact List.mem_map.mpr ⟨p, List.mem_of_getElem? hp, rfl⟩
  obtain ⟨as, r1⟩ := Imm.reads f I p.1 p.2 v (hd _ hp1) b2 b1
  have := reads_one p.1 m v as bs (hd _ hp1) hm (PyProof.Rows.Reads.keeps hk r1) hr
  subst this
  exact ⟨p.2, b1, b2⟩
theorem crb_minmax (f : Fit C X) (hc : X.calm = true) (hu : X.A.units + 64 < cLine) : CallR X (.builtin "min") (rC C .min) ∧ CallR X (.builtin "max") (rC C .max) := by
  constructor
  · intro pins s σ' H us vs Q I rv h
    obtain ⟨u, F, fp, r, σ, x, z, rfl, R, sx, e, g⟩ := h
    rw [if_pos (.inl rfl)] at g
    have key : ∀ {l : List PV} {xs : List V} {its : List Value}, Imms C F H l xs → Vals xs its → b1op .min (.lst l) = some z → ∃ (x : PyData) (ds : List PyData), toDs l = x :: ds ∧ (∃ as, ReadsAll s.heap its (x :: ds) as) ∧ PySem.W.AlikeAll (x :: ds) ∧ PyData.depthAll (x :: ds) ≤ 8 ∧
        ∀ (i : Nat) v h' tk bs, its.toArray[i]? = some v → Reads h' v (minD x ds) bs → (∀ b o, s.heap.get? b = some o → h'.get? b = some o) → EP X pins σ' Q v { s with heap := h', toks := tk } := by
      intro l xs its i ri ee
      simp only [b1op] at ee
      split at ee
      · rename_i hal
        obtain ⟨h1, h2, h3⟩ := okSort_all hal
        have hd : ∀ a ∈ l, dat a = true := fun a m => alk_dat a a (h1 a m a m) (h1 a m a m)
        cases l with
        | nil => simp [pmin] at ee
        | cons a t =>
          simp only [pmin, Option.some.injEq] at ee
          obtain ⟨b1, b2⟩ := foldl_best (f := dataLt) (g := plt) (all := a :: t) (fun x hx y hy => plt_lt x y (h1 x hx x hx) (h1 y hy y hy) (h1 x hx y hy)) t a List.mem_cons_self fun b m => List.mem_cons_of_mem _ m
          obtain ⟨as, ra⟩ := Imms.reads f I (a :: t) xs its (dats_of hd) i ri
          refine ⟨toD a, toDs t, rfl, ⟨as, ra⟩, ?_, ?_, fun j v h' tk bs hv hr hk => ?_⟩
          · exact alikeAll2 h1 h2 hd
          · have := toDs_dep (a :: t); rw [toDs] at this; rw [this]; exact h3
          · have hr' : Reads h' v (toD z) bs := by rw [← ee, ← b1]; exact hr
            obtain ⟨u, ru, iu⟩ := best_is f I i ri hd (m := z) (by rw [← ee]; exact hd _ b2) (by simpa using hv) hr' hk
            exact ⟨u, H, I.kept hk, ru, OkV.frz R g iu⟩
      · cases ee
    cases x with
    | lst l =>
      obtain ⟨a, xs, rfl, h1, i1⟩ := sx.lst
      obtain ⟨v, rfl, rx⟩ := vals1 rv
      cases rx
      obtain ⟨its, ri, pl, hz⟩ := I.list (f.K ▸ h1)
      obtain ⟨x, ds, e1, ⟨as, e2⟩, e3, e4, e5⟩ := key i1 ri e
      exact PySem.W.min_list_data (I.ok.hd hc) pl.isList e2 e3 (by omega) e5
    | tup l =>
      obtain ⟨a, xs, rfl, h1, i1⟩ := sx.tup
      obtain ⟨v, rfl, rx⟩ := vals1 rv
      cases rx
      obtain ⟨its, ri, pl, hz⟩ := I.tuple (f.K ▸ h1)
      obtain ⟨x, ds, e1, ⟨as, e2⟩, e3, e4, e5⟩ := key i1 ri e
      exact PySem.W.min_tuple_data (I.ok.hd hc) pl e2 e3 (by omega) e5
    | _ => simp [b1op] at e
  · intro pins s σ' H us vs Q I rv h
    obtain ⟨u, F, fp, r, σ, x, z, rfl, R, sx, e, g⟩ := h
    rw [if_pos (.inr rfl)] at g
    have key : ∀ {l : List PV} {xs : List V} {its : List Value}, Imms C F H l xs → Vals xs its → b1op .max (.lst l) = some z → ∃ (x : PyData) (ds : List PyData), toDs l = x :: ds ∧ (∃ as, ReadsAll s.heap its (x :: ds) as) ∧ PySem.W.AlikeAll (x :: ds) ∧ PyData.depthAll (x :: ds) ≤ 8 ∧
        ∀ (i : Nat) v h' tk bs, its.toArray[i]? = some v → Reads h' v (maxD x ds) bs → (∀ b o, s.heap.get? b = some o → h'.get? b = some o) → EP X pins σ' Q v { s with heap := h', toks := tk } := by
      intro l xs its i ri ee
      simp only [b1op] at ee
      split at ee
      · rename_i hal
        obtain ⟨h1, h2, h3⟩ := okSort_all hal
        have hd : ∀ a ∈ l, dat a = true := fun a m => alk_dat a a (h1 a m a m) (h1 a m a m)
        cases l with
        | nil => simp [pmax] at ee
        | cons a t =>
          simp only [pmax, Option.some.injEq] at ee
          obtain ⟨b1, b2⟩ := foldl_best (f := fun y a => dataLt a y) (g := fun x m => plt m x) (all := a :: t) (fun x hx y hy => plt_lt y x (h1 y hy y hy) (h1 x hx x hx) (h1 y hy x hx)) t a List.mem_cons_self fun b m => List.mem_cons_of_mem _ m
          obtain ⟨as, ra⟩ := Imms.reads f I (a :: t) xs its (dats_of hd) i ri
          refine ⟨toD a, toDs t, rfl, ⟨as, ra⟩, ?_, ?_, fun j v h' tk bs hv hr hk => ?_⟩
          · exact alikeAll2 h1 h2 hd
          · have := toDs_dep (a :: t); rw [toDs] at this; rw [this]; exact h3
          · have hr' : Reads h' v (toD z) bs := by rw [← ee, ← b1]; exact hr
            obtain ⟨u, ru, iu⟩ := best_is f I i ri hd (m := z) (by rw [← ee]; exact hd _ b2) (by simpa using hv) hr' hk
            exact ⟨u, H, I.kept hk, ru, OkV.frz R g iu⟩
      · cases ee
    cases x with
    | lst l =>
      obtain ⟨a, xs, rfl, h1, i1⟩ := sx.lst
      obtain ⟨v, rfl, rx⟩ := vals1 rv
      cases rx
      obtain ⟨its, ri, pl, hz⟩ := I.list (f.K ▸ h1)
      obtain ⟨x, ds, e1, ⟨as, e2⟩, e3, e4, e5⟩ := key i1 ri e
      exact PySem.W.max_list_data (I.ok.hd hc) pl.isList e2 e3 (by omega) e5
    | tup l =>
      obtain ⟨a, xs, rfl, h1, i1⟩ := sx.tup
      obtain ⟨v, rfl, rx⟩ := vals1 rv
      cases rx
      obtain ⟨its, ri, pl, hz⟩ := I.tuple (f.K ▸ h1)
      obtain ⟨x, ds, e1, ⟨as, e2⟩, e3, e4, e5⟩ := key i1 ri e
      exact PySem.W.max_tuple_data (I.ok.hd hc) pl e2 e3 (by omega) e5
    | _ => simp [b1op] at e
end
end PL

set_option Elab.async false
set_option linter.all false
set_option maxRecDepth 100000
set_option maxHeartbeats 4000000
namespace PL
open PySem L2 PV PySem.SeqAt PyProof.Rows

/-! ### set(t), t a tuple of tuples of ints -/
section
variable {P : Program} {w : World} {A : Around} {E : Value → Shared → Prop} {s : Shared}
abbrev obS (w : World) : Obj := { cls := .type "set", dict := none, data := .set #[] 0 (.fresh 0 0 (!w.params.followText "set-order")) }
theorem pl_setTT {l : Addr} {items : Array Value} (ks : List (Addr × List Int)) {Q : Value → Shared → Prop} (hh : A.handled = none) (hl : s.heap.IsTuple l items) (hit : items.toList = ks.map fun p => Value.ref p.1)
    (hk : ∀ p ∈ ks, IsT P w s.heap p.2 p.1) (hfew : ks.length < 64) (hu : A.units + 3 < cLine)
    (h : ∀ (h' : Heap) (tk : Nat) L es ep t, SetTR P w h' s.heap.objs.size L es ep t → Got ks ks.length L → (∀ b o, s.heap.get? b = some o → h'.get? b = some o) → Q (.ref s.heap.objs.size) { s with heap := h', toks := tk }) :
    wpAny (model P w) A (call (.type "set") [.ref l]) Q E s := by
  have hisz : items.size = ks.length := by
    rw [← Array.length_toList, hit, List.length_map]
  obtain ⟨c, tl, hmro⟩ := F.called_set.mro
  have hmade := F.called_set.made
  have hsub := F.called_set.sub
  refine wpAny_call (codeAny_of_tree ?_)
  show wpAny _ _ (callAny (.type "set") _) _ _ _
  refine wpAny_pure ⟨Code.quiet_builtin _ (by decide +kernel), codeAny_builtin F.entry_type_call ?_⟩
  rw [Around.under_plain (weight_type_call_type "set" [.ref l] []) rfl]
  have h1 := F.called_set.notType
  have h2 := F.called_set.canCreate
  have hct := F.typeCall_set_1 (.ref l)
  repeat (any_goals (first | assumption | wp_step))
  refine codeAny_mono (code_set_led1 (.ref l) (E := E) (Q₁ := fun obj s₁ => obj = .ref s.heap.objs.size ∧ s₁ = { s with heap := s.heap.push (obS w) }) ⟨rfl, rfl⟩) fun r s₁ hr => ?_
  match r, hr with
  | .error _, hr => exact hr
  | .ok (.ret obj), hr =>
    obtain ⟨rfl, rfl⟩ := hr
    have hS : (s.heap.push (obS w)).get? s.heap.objs.size = some (obS w) := Heap.get?_push_size _ rfl
    have hT : Shared.TypeIs { s with heap := s.heap.push (obS w) } (.ref s.heap.objs.size) "set" := ⟨_, hS, rfl⟩
    have hli := F.called_set.init.lookup
    have hbi := F.called_set.init.bind (.ref s.heap.objs.size)
    repeat (any_goals (first | assumption | wp_step))
    refine codeAny_mono (codeAny_call_builtin (R := wants (fun r s₂ => r = .none ∧ ∃ h' tk L es ep t, s₂ = { s with heap := h', toks := tk } ∧ SetTR P w h' s.heap.objs.size L es ep t ∧ Got ks ks.length L ∧
        (∀ b o, s.heap.get? b = some o → h'.get? b = some o)) E) F.called_set.init.plain F.entry_set_init (check_set_init_1 hT ?_)) fun r₂ s₂ hr₂ => ?_
    · obtain ⟨⟨ocls, odict, odata, oslots⟩, hol, hcl, nl, hdl⟩ := hl
      simp only at hcl hdl
      subst hcl; subst hdl
      have hol' : (s.heap.push (obS w)).get? l = some { cls := .type "tuple", dict := odict, data := .seq items nl, slots := oslots } := Heap.get?_push_of_some _ hol
      have hsls := F.sub_tuple_set
      have hslf := F.sub_tuple_frozenset
      have hne : (Value.type "tuple" == Value.type "dict") = false := by decide
      have hl1 : (s.heap.push (obS w)).IsTuple l items := ⟨_, hol', rfl, nl, rfl⟩
      unfold Builtin.«set.__init__» noKeywords Builtin.Frozenset.updateFrom
      generalize hPI : pyIter = PI
      wp_walk
      subst hPI
      refine wpAny_pyIter_tuple hl1 ?_
      refine wpAny_bind (wpAny_runValue ?_)
      have hlS : l < s.heap.objs.size := Heap.lt_size hol
      have hz : (s.heap.push (obS w)).objs.size = s.heap.objs.size + 1 := Heap.size_push ..
      have hval : ∀ (i : Nat) (v : Value), items[i]? = some v → ∃ p, ks[i]? = some p ∧ v = .ref p.1 := fun i v hv => by
        have q : (ks.map fun p => Value.ref p.1)[i]? = some v := by rw [← hit, Array.getElem?_toList]; exact hv
        rw [List.getElem?_map, Option.map_eq_some_iff] at q
        obtain ⟨p, q1, q2⟩ := q
        exact ⟨p, q1, q2.symm⟩
      have non : ∀ b, s.heap.objs.size ≤ b → s.heap.get? b = none := fun b hb => by
        cases q : s.heap.get? b with
        | none => rfl
        | some o => exact absurd (Heap.lt_size q) (Nat.not_lt.mpr hb)
      have nI : l ≠ (s.heap.push (obS w)).objs.size := by rw [hz]; exact Nat.ne_of_lt (Nat.lt_succ_of_lt hlS)
      refine set_update_tups ((Walks.tuple (show A.in1.in1.in1.handled = none by simp [hh]) _ l nI items).toS) s.heap.objs.size
        (by rw [hz]; simp only [List.mem_cons, List.not_mem_nil, or_false, not_or]; exact ⟨Nat.ne_of_lt (Nat.lt_succ_self _), Nat.ne_of_gt hlS⟩) ks hisz hfew hval s.heap hk (non _ (Nat.le_refl _)) (fun b hb => non b (by rw [List.mem_singleton.mp hb, hz]; exact Nat.le_succ _)) hu (items.size - 0) 0 _ (by omega) (Nat.zero_le _)
        ⟨⟨_, Heap.get?_push_size _ rfl, rfl, rfl⟩, hl1.push _⟩ (fun b o e => Heap.get?_push_of_some _ (Heap.get?_push_of_some _ e)) ?st ?done
      case st =>
        have hg : ((s.heap.push (obS w)).push { cls := .type "tuple_iterator", data := .fields #[.ref l, .int 0 0] }).get? s.heap.objs.size = some (obS w) := Heap.get?_push_of_some _ hS
        exact ⟨[], #[], 0, _, setTR_fresh hg, Got.zero ks⟩
      case done =>
        intro s' L es ep t hm hS' g' hkp
        obtain ⟨h', g2, d', tk', os'⟩ := s'
        obtain rfl : g2 = s.gens := hm.gens
        obtain rfl : d' = s.drawn := hm.drawn
        obtain rfl : os' = s.os := hm.os
        show wpAny _ _ _ _ _ _
        refine wpAny_pure ?_
        show wpAny _ _ (ret Value.none) _ _ _
        rw [hisz] at g'
        exact wpAny_pure ⟨rfl, h', tk', L, es, ep, t, rfl, hS', g', hkp⟩
    · match r₂, hr₂ with
      | .error _, hr₂ => exact hr₂
      | .ok (.ret r), hr₂ =>
        obtain ⟨rfl, h', tk, L, es, ep, t, rfl, hS', g', hk'⟩ := hr₂
        repeat (any_goals (first | assumption | wp_step))
        exact h _ _ _ _ _ _ hS' g' hk'
end

end PL

set_option Elab.async false
set_option linter.all false
set_option maxRecDepth 100000
set_option maxHeartbeats 4000000
namespace PL
open PySem L2 PV PySem.SeqAt PyProof.Rows

/-! ### without doubles -/
theorem any_eq {b : PV} (hb : cln b = true) : ∀ {acc : List PV}, (∀ a ∈ acc, cln a = true) → (acc.any fun a => peq a b) = decide (b ∈ acc)
  | [], _ => rfl
  | a :: acc, h => by
    rw [List.any_cons, any_eq hb fun c m => h c (List.mem_cons_of_mem _ m), peq_cln a b (h a List.mem_cons_self) hb]
    simp only [List.mem_cons, Bool.decide_or, eq_comm]
theorem dedup_spec : ∀ (l acc : List PV), (∀ a ∈ acc, cln a = true) → (∀ a ∈ l, cln a = true) → acc.Nodup → (dedup acc l).Nodup ∧ ∀ x, x ∈ dedup acc l ↔ x ∈ acc ∨ x ∈ l
  | [], acc, _, _, n => ⟨n, fun x => by simp [dedup]⟩
  | a :: l, acc, h1, h2, n => by
    have ha := h2 a List.mem_cons_self
    have hl : ∀ b ∈ l, cln b = true := fun b m => h2 b (List.mem_cons_of_mem _ m)
    rw [dedup, any_eq ha h1]
    by_cases m : a ∈ acc
    · rw [if_pos (by simp [m])]
      obtain ⟨q1, q2⟩ := dedup_spec l acc h1 hl n
      refine ⟨q1, fun x => ?_⟩
      rw [q2, List.mem_cons]
      constructor
      · rintro (z | z)
        · exact .inl z
        · exact .inr (.inr z)
      · rintro (z | rfl | z)
        · exact .inl z
        · exact .inl m
        · exact .inr z
    · rw [if_neg (by simp [m])]
      obtain ⟨q1, q2⟩ := dedup_spec l (acc ++ [a]) (fun b z => by
        rcases List.mem_append.mp z with z | z
        · exact h1 b z
        · rw [List.mem_singleton.mp z]; exact ha) hl (List.nodup_append.mpr ⟨n, by simp, fun x hx y hy => by
          rw [List.mem_singleton] at hy
          rintro rfl
          exact m (hy ▸ hx)⟩)
      refine ⟨q1, fun x => ?_⟩
      rw [q2, List.mem_append, List.mem_singleton, List.mem_cons, or_assoc]
/-- what the set gives, sorted -/
theorem set_is {l m : List PV} (hal : ∀ a ∈ l, ∀ b ∈ l, alk a b = true) (hn : m.Nodup) (hm : ∀ x, x ∈ m ↔ x ∈ l) (hs : m.Pairwise (fun x y => ple x y = true)) : m = isort (dedup [] l) := by
  have hc : ∀ a ∈ l, cln a = true := fun a q => alk_cln a (hal a q a q)
  obtain ⟨d1, d2⟩ := dedup_spec l [] (fun _ z => nomatch z) hc List.nodup_nil
  have d3 : ∀ x, x ∈ dedup [] l ↔ x ∈ l := fun x => by rw [d2]; simp
  refine isort_eq (fun a ha b hb => hal a ((d3 a).mp ha) b ((d3 b).mp hb)) ((List.perm_ext_iff_of_nodup hn d1).mpr fun x => by rw [hm, d3]) hs

/-! ### tuples of two ints -/
abbrev pvT (p : Addr × List Int) : PV := .tup (p.2.map .int)
section
variable {C : Cn} {F : AS} {fp : FP} {r : Env} {σ : L2.St} {H : Hp} {X : Cx}
theorem ints_of : ∀ {l : List PV}, (∀ a ∈ l, isInt a = true) → ∃ ns : List Int, l = ns.map .int
  | [], _ => ⟨[], rfl⟩
  | a :: l, h => by
    obtain ⟨ns, rfl⟩ := ints_of fun b m => h b (List.mem_cons_of_mem _ m)
    have := h a List.mem_cons_self
    cases a with
    | int i => exact ⟨i :: ns, rfl⟩
    | _ => simp [isInt] at this
theorem imms_int {F : AS} {H : Hp} : ∀ {ns : List Int} {xs : List V}, Imms C F H (ns.map .int) xs → xs = ns.map V.int
  | [], xs, h => by rw [List.map_nil, Imms.nil_iff] at h; exact h
  | n :: ns, xs, h => by
    rw [List.map_cons, Imms] at h
    obtain ⟨u, us, rfl, h1, h2⟩ := h
    simp only [Imm] at h1; subst h1
    rw [imms_int h2]; rfl
theorem imms_ints {F : AS} {H : Hp} (ns : List Int) : Imms C F H (ns.map .int) (ns.map V.int) := by
  induction ns with
  | nil => simp [Imms]
  | cons n ns ih => exact Imms.cons_iff.mpr ⟨by simp [Imm], ih⟩
theorem pairs_in {F : AS} {H : Hp} : ∀ {l : List PV} {xs : List V}, (∀ a ∈ l, pair64 a = true) → Imms C F H l xs → ∃ ks : List (Addr × List Int), l = ks.map pvT ∧ xs = ks.map (fun p => V.ref p.1) ∧ (∀ p ∈ ks, SqT C.K H p.1 (p.2.map V.int)) ∧
    ∀ p ∈ ks, ∃ a b : Int, p.2 = [a, b] ∧ 0 ≤ a ∧ a < 64 ∧ 0 ≤ b ∧ b < 64
  | [], xs, _, i => by
    rw [Imms.nil_iff] at i; subst i
    exact ⟨[], rfl, rfl, (fun _ z => nomatch z), (fun _ z => nomatch z)⟩
  | v :: l, xs, h, i => by
    rw [Imms] at i
    obtain ⟨u, us, rfl, i1, i2⟩ := i
    obtain ⟨ks, rfl, rfl, k1, k2⟩ := pairs_in (fun b m => h b (List.mem_cons_of_mem _ m)) i2
    have q := h v List.mem_cons_self
    match v, q, i1 with
    | .tup [.int a, .int b], q, i1 =>
      simp only [pair64, Bool.and_eq_true, decide_eq_true_eq] at q
      rw [Imm] at i1
      obtain ⟨d, ys, rfl, j1, j2⟩ := i1
      have := imms_int (ns := [a, b]) j2
      subst this
      refine ⟨(d, [a, b]) :: ks, rfl, rfl, fun p m => ?_, fun p m => ?_⟩
      · rcases List.mem_cons.mp m with rfl | m
        · exact j1
        · exact k1 p m
      · rcases List.mem_cons.mp m with rfl | m
        · exact ⟨a, b, rfl, q.1.1.1, q.1.1.2, q.1.2, q.2⟩
        · exact k2 p m
theorem ple_pair {x y x' y' : Int} (h : TS.code 64 [x, y] ≤ TS.code 64 [x', y']) (b1 : 0 ≤ x ∧ x < 64) (b2 : 0 ≤ y ∧ y < 64) (b3 : 0 ≤ x' ∧ x' < 64) (b4 : 0 ≤ y' ∧ y' < 64) : ple (.tup [.int x, .int y]) (.tup [.int x', .int y']) = true := by
  rw [code_pair, code_pair] at h
  rw [ple, plt, Bool.not_eq_true', plts]
  by_cases e : x' = x
  · subst e
    rw [if_pos (beq_self _), plts]
    by_cases e2 : y' = y
    · subst e2
      rw [if_pos (beq_self _)]; rfl
    · rw [if_neg (by simp [beq, e2]), plt]; simp only [decide_eq_false_iff_not]; omega
  · rw [if_neg (by simp [beq, e]), plt]; simp only [decide_eq_false_iff_not]; omega
theorem pairs_alk {ks : List (Addr × List Int)} (h : ∀ p ∈ ks, ∃ a b : Int, p.2 = [a, b] ∧ 0 ≤ a ∧ a < 64 ∧ 0 ≤ b ∧ b < 64) : ∀ a ∈ ks.map pvT, ∀ b ∈ ks.map pvT, alk a b = true := by
  intro a ha b hb
  obtain ⟨p, hp, rfl⟩ := List.mem_map.mp ha
  obtain ⟨q, hq, rfl⟩ := List.mem_map.mp hb
  obtain ⟨x, y, e, _⟩ := h p hp
  obtain ⟨x', y', e', _⟩ := h q hq
  simp [pvT, e, e', alk, alks]
/-- the sorted pairs are the list -/
theorem pairs_set {ks L L' : List (Addr × List Int)} (h : ∀ p ∈ ks, ∃ a b : Int, p.2 = [a, b] ∧ 0 ≤ a ∧ a < 64 ∧ 0 ≤ b ∧ b < 64) (hs : ∀ p ∈ L, p ∈ ks) (ha : ∀ p ∈ ks, p.2 ∈ L.map (·.2)) (nd : (L.map (·.2)).Nodup)
    (pm : L'.Perm L) (pw : L'.Pairwise (fun q r => TS.code 64 q.2 ≤ TS.code 64 r.2)) : L'.map pvT = isort (dedup [] (ks.map pvT)) := by
  have inj : ∀ a b : List Int, a.map PV.int = b.map PV.int → a = b := fun a b e => (List.map_inj_right (f := PV.int) (fun x y z => by injection z)).mp e
  have nd' : (L'.map (·.2)).Nodup := ((pm.map (·.2)).nodup_iff).mpr nd
  refine set_is (pairs_alk h) ?_ (fun x => ?_) ?_
  · have : L'.map pvT = (L'.map (·.2)).map fun ns => PV.tup (ns.map .int) := by rw [List.map_map]; rfl
    rw [this]
    refine List.Pairwise.map _ (fun a b n e => n ?_) nd'
    injection e with e
    exact inj a b e
  · constructor
    · intro m
      obtain ⟨p, hp, rfl⟩ := List.mem_map.mp m
      exact List.mem_map.mpr ⟨p, hs p (pm.mem_iff.mp hp), rfl⟩
    · intro m
      obtain ⟨p, hp, rfl⟩ := List.mem_map.mp m
      obtain ⟨q, hq, e⟩ := List.mem_map.mp (ha p hp)
      exact List.mem_map.mpr ⟨q, pm.mem_iff.mpr hq, by simp only [pvT]; rw [e]⟩
  · refine List.pairwise_map.mpr (List.Pairwise.imp_of_mem (fun {p q} hp hq c => ?_) pw)
    obtain ⟨a, b, e, b1, b2, b3, b4⟩ := h p (hs p (pm.mem_iff.mp hp))
    obtain ⟨a', b', e', c1, c2, c3, c4⟩ := h q (hs q (pm.mem_iff.mp hq))
    rw [e, e'] at c
    simp only [pvT, e, e']
    exact ple_pair c ⟨b1, b2⟩ ⟨b3, b4⟩ ⟨c1, c2⟩ ⟨c3, c4⟩
theorem int_set {ns ns' : List Int} (hm : ∀ k, k ∈ ns' ↔ k ∈ ns) (hs : ns'.Pairwise (· < ·)) : ns'.map PV.int = isort (dedup [] (ns.map .int)) := by
  refine set_is (fun a ha b hb => ?_) ?_ (fun x => ?_) ?_
  · obtain ⟨i, _, rfl⟩ := List.mem_map.mp ha
    obtain ⟨j, _, rfl⟩ := List.mem_map.mp hb
    rfl
  · refine List.Pairwise.map _ (fun a b n e => ?_) hs
    injection e with e
    omega
  · constructor
    · intro m
      obtain ⟨p, hp, rfl⟩ := List.mem_map.mp m
      exact List.mem_map.mpr ⟨p, (hm p).mp hp, rfl⟩
    · intro m
      obtain ⟨p, hp, rfl⟩ := List.mem_map.mp m
      exact List.mem_map.mpr ⟨p, (hm p).mpr hp, rfl⟩
  · refine List.Pairwise.map _ (fun a b n => ?_) hs
    simp only [ple, plt, Bool.not_eq_true', decide_eq_false_iff_not]
    omega
def tSS (C : Cn) (ta : TE) : TE := fun σ H Q => ta σ H fun x H1 => rC C .sset [x] H1 Q
theorem imms_pvT {F : AS} {H : Hp} : ∀ {L : List (Addr × List Int)}, (∀ p ∈ L, SqT C.K H p.1 (p.2.map V.int)) → Imms C F H (L.map pvT) (L.map fun p => V.ref p.1)
  | [], _ => by simp [Imms]
  | p :: L, h => Imms.cons_iff.mpr ⟨by rw [Imm]; exact ⟨p.1, _, rfl, h p List.mem_cons_self, imms_ints _⟩, imms_pvT fun q m => h q (List.mem_cons_of_mem _ m)⟩
theorem pe_sset {a : Expr} {ta : TE} {p p2 q pos : Pos} (f : Fit C X) (hc : X.calm = true) (hu : X.A.units + 64 < cLine) (hg : Gl X "sorted") (hm : X.mg "sorted" = none) (hg2 : Gl X "set") (hm2 : X.mg "set" = none) (ha : PE X a ta)
    (na : starEach [a] X.env = (false, eval a X.env) :: starEach [] X.env := by rfl) : PE X (.Call (.Name "sorted" p) [.Call (.Name "set" p2) [a] [] q] [] pos) (tSS C ta) := by
  refine ⟨fun pins s σ H Q I h => ?_⟩
  refine Call_ (ld_blt I hg hm (show bootBuiltins "sorted" = some (.builtin "sorted") by decide +kernel) ?_)
  refine PyProof.Rows.callWith_builtin1 (PyProof.Rows.args_cons ?_ rfl) rfl rfl
  refine Call_ (ld_blt I hg2 hm2 PyProof.Rows.boot_set ?_)
  refine PyProof.Rows.callWith_type1 (PyProof.Rows.args_cons (thn (ha.run pins s σ H _ I h) fun v s1 ⟨x, H1, I1, r1, q1⟩ => PyProof.Rows.args_nil ?_) na) na rfl
  obtain ⟨u, F, fp, r, σ', x', z, hx, R, sx, e, g⟩ := q1
  cases hx
  rw [bi_own (by decide)] at g
  clear h
  -- a list made by sorted is the value
  have fin : ∀ {l : List PV} {xs : List V} {s2 : Shared} {p : Addr} {out : Array Value} {c : Nat}, z = .lst l → Imms C F H1 l xs → Vals xs out.toList → xs.length ≤ sizeLine → (∀ b o, s1.heap.get? b = some o → s2.heap.get? b = some o) → s2.gens = s1.gens → s2.os = s1.os → s1.heap.objs.size ≤ p →
      s2.heap.get? p = some (seqObj "list" out c) → EP X pins σ Q (.ref p) s2 := by
    intro l xs s2 p out c hz i rv hl k hg ho hp hgp
    subst hz
    have hn : H1 p = none := I1.hok.fresh hp
    refine ⟨.ref p, upd H1 p (.lst xs), ?_, rfl, OkV.newLst R g i hn⟩
    refine I1.call' (ch := []) ho (Un.laid k hp hn) (I1.hok.laid k hp ⟨hl, out.toList, c, rv, by simpa using hgp⟩) (by rw [hg]; exact I1.bare) (fun _ z => nomatch z)
  have hp60 : ∀ {ks : List (Addr × List Int)} (hks : ∀ p ∈ ks, SqT C.K H1 p.1 (p.2.map V.int)) (hb : ∀ p ∈ ks, ∃ a b : Int, p.2 = [a, b] ∧ 0 ≤ a ∧ a < 64 ∧ 0 ≤ b ∧ b < 64) (hz : z = .lst (isort (dedup [] (ks.map pvT)))) (hlen : ks.length < 60)
      (h' : Heap) (tk : Nat) L es ep t, SetTR X.prog X.w h' s1.heap.objs.size L es ep t → Got ks ks.length L → (∀ b o, s1.heap.get? b = some o → h'.get? b = some o) →
      wpAny (model X.prog X.w) X.A (call (.builtin "sorted") [.ref s1.heap.objs.size]) (EP X pins σ Q) X.xe { s1 with heap := h', toks := tk } := by
    intro ks hks hb hz hlen h' tk L es ep t RS G k
    have hs : ∀ p ∈ L, p ∈ ks := fun p m => List.mem_of_mem_take (G.sub p m)
    refine sorted_setT (s := { s1 with heap := h', toks := tk }) (d := 2) (B := 64) RS (I1.ok.hd hc) (by decide) (fun p m => ?_) fun s2 p out c L' k2 g2 o2 hp hgp hout pm pw => ?_
    · obtain ⟨a, b, e, b1, b2, b3, b4⟩ := hb p (hs p m)
      rw [e]
      refine ⟨rfl, fun x hx => ?_⟩
      simp only [List.mem_cons, List.not_mem_nil, or_false] at hx
      rcases hx with rfl | rfl
      · exact ⟨b1, b2⟩
      · exact ⟨b3, b4⟩
    · have e := pairs_set hb hs (fun p m => G.all p (by rw [List.take_length]; exact m)) RS.nd pm pw
      have hL : L.length < 64 := RS.few
      refine fin (l := L'.map pvT) (xs := L'.map fun p => V.ref p.1) (by rw [hz, e]) (imms_pvT fun p m => hks p (hs p (pm.mem_iff.mp m))) (by rw [hout]; exact vals_of_refs L') (by rw [List.length_map, pm.length_eq, sizeLine_eq]; omega) (fun b o e => k2 b o (k b o e)) g2 o2 ?_ hgp
      have : s1.heap.objs.size ≤ h'.objs.size := by
        obtain ⟨o, ho, _⟩ := RS.ob
        exact Nat.le_of_lt (Heap.lt_size ho)
      exact Nat.le_trans this hp
  cases x' with
  | lst l =>
    obtain ⟨a, xs, rfl, h1, i1⟩ := sx.lst
    cases r1
    simp only [b1op] at e
    split at e
    · rename_i ok
      simp only [okSetL, Bool.and_eq_true, decide_eq_true_eq, List.all_eq_true] at ok
      cases e
      obtain ⟨its, ri, pl, hz⟩ := I1.list (f.K ▸ h1)
      obtain ⟨ks, rfl, rfl, k1, k2⟩ := pairs_in ok.2 i1
      rw [List.length_map] at ok
      refine call_set_tups (P := X.prog) (w := X.w) ks (I1.ok.hd hc) pl.isList (by simpa using refs_of_vals ri) (fun p hp => I1.isT (f.K ▸ k1 p hp)) (by omega) (by omega) fun h' tk L es ep t RS G k => ?_
      exact PyProof.Rows.args_nil (hp60 k1 k2 rfl ok.1 h' tk L es ep t RS G k)
    · cases e
  | tup l =>
    obtain ⟨a, xs, rfl, h1, i1⟩ := sx.tup
    cases r1
    simp only [b1op] at e
    split at e
    · rename_i ok
      simp only [okSetT, Bool.and_eq_true, decide_eq_true_eq, Bool.or_eq_true, List.all_eq_true] at ok
      cases e
      obtain ⟨its, ri, pl, hz⟩ := I1.tuple (f.K ▸ h1)
      obtain ⟨ol, ok⟩ := ok
      rcases ok with ok | ok
      · obtain ⟨ns, rfl⟩ := ints_of ok
        obtain rfl := imms_int i1
        rw [List.length_map] at ol
        refine call_set_tupI (P := X.prog) (w := X.w) ns (I1.ok.hd hc) pl (by simpa using ri.ints) (by unfold scanBound; omega) fun h' tk c RS hcn k => ?_
        refine PyProof.Rows.args_nil ?_
        refine L2.sorted_set (s := { s1 with heap := h', toks := tk }) RS (I1.ok.hd hc) (by omega) fun s2 p out c ns' k2 g2 o2 hp hgp hI hs hm hlen => ?_
        have hm' : ∀ k, k ∈ ns' ↔ k ∈ ns := fun k => by rw [hm]; simp
        refine fin (l := ns'.map .int) (xs := ns'.map V.int) (by rw [int_set hm' hs]) (imms_ints _) (vals_ints hI) (by rw [List.length_map, sizeLine_eq]; omega) (fun b o e => k2 b o (k b o e)) g2 o2 ?_ hgp
        exact Nat.le_trans (Nat.le_of_lt (SetR.lt RS)) hp
      · obtain ⟨ks, rfl, rfl, k1, k2⟩ := pairs_in ok i1
        rw [List.length_map] at ol
        refine pl_setTT (P := X.prog) (w := X.w) ks (I1.ok.hd hc) pl (by simpa using refs_of_vals ri) (fun p hp => I1.isT (f.K ▸ k1 p hp)) (by omega) (by omega) fun h' tk L es ep t RS G k => ?_
        exact PyProof.Rows.args_nil (hp60 k1 k2 rfl ol h' tk L es ep t RS G k)
    · cases e
  | _ => simp [b1op] at e
theorem OkV.newDct {Q : VK} {ks vs : List PV} {es : List (Key × V)} (R : Rel C F fp r σ H) (h : OkV C F fp H σ Q (.dct ks vs, .own) r) (i : KV1 C F H ks vs es) {p : Addr} (hp : H p = none) : Q (.ref p) (upd H p (.dK es)) := by
  refine h F fp _ (.ref p) (fun a => a = p) (.new hp) (R.new hp) ?_ ⟨fun i a z w => ?_, fun a z w => ?_⟩ fun a z => .inr (by rw [z]; exact hp)
  · exact ⟨p, rfl, .inl ⟨es, upd_same, KV1.mono (mono_new hp) _ _ _ i⟩, fun b => Iff.rfl⟩
  · subst z; exact R.notP hp i w
  · subst z; exact R.notF hp w
theorem put1_mem {κ : Key} {y : V} {x : Key} : ∀ {es : List (Key × V)}, x ∈ (put1 κ y es).map (·.1) → x = κ ∨ x ∈ es.map (·.1)
  | [], h => by simp [put1] at h; exact .inl h
  | p :: l, h => by
    rw [put1] at h
    split at h
    · simp only [List.map_cons, List.mem_cons] at h ⊢
      rcases h with h | h
      · exact .inr (.inl h)
      · exact .inr (.inr h)
    · simp only [List.map_cons, List.mem_cons] at h ⊢
      rcases h with h | h
      · exact .inr (.inl h)
      · rcases put1_mem h with h | h
        · exact .inl h
        · exact .inr (.inr h)
theorem put1_nd {κ : Key} {y : V} : ∀ {es : List (Key × V)}, (es.map (·.1)).Nodup → ((put1 κ y es).map (·.1)).Nodup
  | [], _ => by simp [put1]
  | p :: l, h => by
    rw [List.map_cons, List.nodup_cons] at h
    rw [put1]
    split
    · rw [List.map_cons, List.nodup_cons]; exact h
    · rename_i ne
      rw [List.map_cons, List.nodup_cons]
      refine ⟨fun m => ?_, put1_nd h.2⟩
      rcases put1_mem m with m | m
      · exact ne m
      · exact h.1 m
theorem pairs_kv : ∀ {l ks vs ks' vs' : List PV} {xs : List V} {es : List (Key × V)}, pairs l ks vs = some (ks', vs') → Imms C F H l xs → KV1 C F H ks vs es → (es.map (·.1)).Nodup →
    ∃ (ps : List Addr) (kvs : List (Key × V)), xs = ps.map V.ref ∧ Paired (fun p kv => SqT C.K H p [kV kv.1, kv.2]) ps kvs ∧ KV1 C F H ks' vs' (mergeK es kvs)
  | [], ks, vs, ks', vs', xs, es, h, i, q, nd => by
    simp only [pairs, Option.some.injEq, Prod.mk.injEq] at h
    obtain ⟨rfl, rfl⟩ := h
    rw [Imms.nil_iff] at i; subst i
    exact ⟨[], [], rfl, .nil, q⟩
  | v :: l, ks, vs, ks', vs', xs, es, h, i, q, nd => by
    rw [Imms] at i
    obtain ⟨u, us, rfl, i1, i2⟩ := i
    match v, h, i1 with
    | .tup [k, x], h, i1 =>
      simp only [pairs] at h
      split at h
      · rename_i ok
        rw [Imm] at i1
        obtain ⟨a, ys, rfl, j1, j2⟩ := i1
        rw [Imms] at j2
        obtain ⟨uk, ys', rfl, j3, j4⟩ := j2
        rw [Imms] at j4
        obtain ⟨ux, ys'', rfl, j5, j6⟩ := j4
        rw [Imms.nil_iff] at j6; subst j6
        have hk : ∃ κ, keyOf k = some κ := by
          simp only [Bool.and_eq_true, Bool.or_eq_true] at ok
          cases k <;> simp [isInt, isStr] at ok <;> exact ⟨_, rfl⟩
        obtain ⟨κ, hk⟩ := hk
        obtain rfl := key1 hk j3
        have q' := KV1.put hk j5 q
        obtain ⟨ps, kvs, rfl, p2, p3⟩ := pairs_kv h i2 q' (put1_nd nd)
        refine ⟨a :: ps, (κ, ux) :: kvs, rfl, .cons j1 p2, ?_⟩
        show KV1 C F H ks' vs' (mergeK (putK es κ ux) kvs)
        rw [put1_eq nd]; exact p3
      · cases h
    | .tup [], h, _ => simp [pairs] at h
    | .tup [_], h, _ => simp [pairs] at h
    | .tup (_ :: _ :: _ :: _), h, _ => simp [pairs] at h
    | .non, h, _ => simp [pairs] at h
    | .bl _, h, _ => simp [pairs] at h
    | .int _, h, _ => simp [pairs] at h
    | .str _, h, _ => simp [pairs] at h
    | .lst _, h, _ => simp [pairs] at h
    | .dct _ _, h, _ => simp [pairs] at h
    | .ins _ _ _, h, _ => simp [pairs] at h
    | .fn _, h, _ => simp [pairs] at h
theorem crb_dict (f : Fit C X) (hc : X.calm = true) : CallR X (.type "dict") (rC C .dict) := by
  intro pins s σ' H us vs Q I rv h
  obtain ⟨u, F, fp, r, σ, x, z, rfl, R, sx, e, g⟩ := h
  rw [bi_own (by decide)] at g
  cases x with
  | lst l =>
    obtain ⟨a, xs, rfl, h1, i1⟩ := sx.lst
    simp only [b1op, Option.map_eq_some_iff] at e
    obtain ⟨⟨ks, ws⟩, e, rfl⟩ := e
    obtain ⟨ps, kvs, rfl, p2, p3⟩ := pairs_kv (es := []) e i1 (by rw [KV1]) .nil
    exact call_dictP hc pins s σ' H _ vs Q I rv ⟨a, ps, kvs, rfl, f.K ▸ h1, f.K ▸ p2, fun p hp => OkV.newDct R g p3 hp⟩
  | _ => simp [b1op] at e
end
end PL

set_option Elab.async false
set_option linter.all false
set_option maxRecDepth 100000
set_option maxHeartbeats 1000000
namespace PL
open PySem L2 PV PySem.SeqAt PyProof.Rows

section
variable {C : Cn} {Xw : XW} {X : Cx} {F F1 : AS} {fp fp1 : FP} {r : Env} {σ : L2.St} {H H1 : Hp}
theorem RV.bl {b : Bool} {f : Fl} {u : V} {q : AS} (R : Rel C F fp r σ H) (h : RV C F H r σ (.bl b) f u q) : u = .bl b := by
  have := RV.sh R h
  simpa only [Sh, Imm] using this
/-- a value that is a truth -/
theorem asB_ok {m : Env → R (PV × Fl)} {Q : Bool → Hp → Prop} (h : tT C Xw (fun r => asB (m r)) σ H Q) : tB (tE C Xw m) σ H Q := by
  obtain ⟨F, fp, r, R, g⟩ := h
  refine ⟨F, fp, r, R, g.bind.mono (fun x r1 g1 => ?_) fun _ _ z => z⟩
  intro F1 fp1 H1 u q E R1 v s n
  obtain ⟨x, f⟩ := x
  cases x with
  | bl b => exact ⟨b, RV.bl R1 v, g1 F1 fp1 H1 E R1⟩
  | _ => exact g1.elim
theorem pt_of {e : Expr} {m : Env → R (PV × Fl)} (h : PE X e (tE C Xw m)) (he : ∀ whole, isTrue e X.env whole = (do let v ← whole; standAt e.pos; holding [v] (truthy v)) := by intro _; rfl) : PT X e (tT C Xw fun r => asB (m r)) :=
  ptW (pt_val h he) fun _ _ _ q => asB_ok q
/-- a comparison as a test -/
theorem pt_cmpd {op : BOp} {cop : CmpOp} {a b : Expr} {pos : Pos} {ma mb : Env → R (PV × Fl)} (ho : OpR X (compareOp cop) (rB C op)) (ha : PE X a (tE C Xw ma)) (hb : PE X b (tE C Xw mb)) (hm : behindInMarks cop b = false) :
    PT X (.Compare a [cop] [b] pos) (tT C Xw fun r => asB ((ma r).bind fun x r1 => (mb r1).bind fun y r2 => R.chk (okOp op x.1 x.2 r1 r2) ((R.of (binop op x.1 y.1) r2).bind fun v r => .ok (v, if op = .get then .frz else .own) r))) :=
  ptW (pt_cmpR ho ha hb hm) fun _ _ _ q => two (asB_ok q)
theorem tT_same {m m' : Env → R Bool} (h : ∀ r, m r = m' r) {Q : Bool → Hp → Prop} (q : tT C Xw m σ H Q) : tT C Xw m' σ H Q := by
  have : m = m' := funext h
  rw [← this]; exact q
theorem tE_cast {m m' : Env → R (PV × Fl)} (h : ∀ r, m r = m' r) {Q : VK} (q : tE C Xw m σ H Q) : tE C Xw m' σ H Q := by
  have : m = m' := funext h
  rw [← this]; exact q
theorem pe_cast {e : Expr} {m m' : Env → R (PV × Fl)} (p : PE X e (tE C Xw m')) (h : ∀ r, m r = m' r) : PE X e (tE C Xw m) := peW p fun _ _ _ q => tE_cast h q
theorem pt_cast {e : Expr} {m m' : Env → R Bool} (p : PT X e (tT C Xw m')) (h : ∀ r, m r = m' r) : PT X e (tT C Xw m) := ptW p fun _ _ _ q => tT_same h q
theorem tT_and {ma mb : Env → R Bool} {Q : Bool → Hp → Prop} (h : tT C Xw (fun r => (ma r).bind fun x r => if x then mb r else .ok false r) σ H Q) : tAnd (tT C Xw ma) (tT C Xw mb) σ H Q := by
  obtain ⟨F, fp, r, R, g⟩ := h
  refine ⟨F, fp, r, R, g.bind.mono (fun x r1 g1 => ?_) fun _ _ z => z⟩
  intro F1 fp1 H1 E R1
  cases x with
  | true => exact ⟨F1, fp1, r1, R1, g1.mono (fun _ _ z => z.later E) fun _ _ z => z.later E⟩
  | false => exact g1 F1 fp1 H1 E R1
theorem tT_or {ma mb : Env → R Bool} {Q : Bool → Hp → Prop} (h : tT C Xw (fun r => (ma r).bind fun x r => if x then .ok true r else mb r) σ H Q) : tOr (tT C Xw ma) (tT C Xw mb) σ H Q := by
  obtain ⟨F, fp, r, R, g⟩ := h
  refine ⟨F, fp, r, R, g.bind.mono (fun x r1 g1 => ?_) fun _ _ z => z⟩
  intro F1 fp1 H1 E R1
  cases x with
  | false => exact ⟨F1, fp1, r1, R1, g1.mono (fun _ _ z => z.later E) fun _ _ z => z.later E⟩
  | true => exact g1 F1 fp1 H1 E R1
theorem tT_not {ma : Env → R Bool} {Q : Bool → Hp → Prop} (h : tT C Xw (fun r => (ma r).bind fun x r => .ok (!x) r) σ H Q) : tNot (tT C Xw ma) σ H Q := by
  obtain ⟨F, fp, r, R, g⟩ := h
  refine ⟨F, fp, r, R, g.bind.mono (fun x r1 g1 => ?_) fun _ _ z => z⟩
  exact g1
theorem ptm_and {a b : Expr} {pos : Pos} {rest : List Expr} {ma mb : Env → R Bool} (ha : PT X a (tT C Xw ma)) (hb : PW X (.BoolOp .And (b :: rest) pos) (tT C Xw mb)) :
    PW X (.BoolOp .And (a :: b :: rest) pos) (tT C Xw fun r => (ma r).bind fun x r => if x then mb r else .ok false r) :=
  ⟨fun wh pins s σ H Q I q => (pw_and ha hb).run wh pins s σ H Q I (tT_and q)⟩
theorem ptm_or {a b : Expr} {pos : Pos} {rest : List Expr} {ma mb : Env → R Bool} (ha : PT X a (tT C Xw ma)) (hb : PW X (.BoolOp .Or (b :: rest) pos) (tT C Xw mb)) :
    PW X (.BoolOp .Or (a :: b :: rest) pos) (tT C Xw fun r => (ma r).bind fun x r => if x then .ok true r else mb r) :=
  ⟨fun wh pins s σ H Q I q => (pw_or ha hb).run wh pins s σ H Q I (tT_or q)⟩
theorem ptm_not {a : Expr} {pos : Pos} {ma : Env → R Bool} (ha : PT X a (tT C Xw ma)) : PT X (.UnaryOp .Not a pos) (tT C Xw fun r => (ma r).bind fun x r => .ok (!x) r) := ptW (pt_not ha) fun _ _ _ q => tT_not q
/-! as the evaluator says it -/
variable {T : Tab} {P : Fns}
abbrev bT (T : Tab) (P : Fns) (e : Ex) : Env → R Bool := fun r => asB (ev T P e r)
theorem asB_bl {b : Bool} {f : Fl} {r : Env} : asB (.ok (.bl b, f) r) = .ok b r := rfl
theorem bt_and (a b : Ex) (r : Env) : bT T P (.and a b) r = (bT T P a r).bind fun x r => if x then bT T P b r else .ok false r := by
  show asB (ev T P (.and a b) r) = (asB (ev T P a r)).bind _
  rw [ev]
  cases asB (ev T P a r) with
  | ok x r' => cases x <;> rfl
  | exc c r' => rfl
  | bad => rfl
theorem bt_or (a b : Ex) (r : Env) : bT T P (.or a b) r = (bT T P a r).bind fun x r => if x then .ok true r else bT T P b r := by
  show asB (ev T P (.or a b) r) = (asB (ev T P a r)).bind _
  rw [ev]
  cases asB (ev T P a r) with
  | ok x r' => cases x <;> rfl
  | exc c r' => rfl
  | bad => rfl
theorem bt_not (a : Ex) (r : Env) : bT T P (.nt a) r = (bT T P a r).bind fun x r => .ok (!x) r := by
  show asB (ev T P (.nt a) r) = (asB (ev T P a r)).bind _
  rw [ev]
  cases asB (ev T P a r) with
  | ok x r' => rfl
  | exc c r' => rfl
  | bad => rfl
theorem pt_AND {a b : Expr} {pos : Pos} {rest : List Expr} {ea eb : Ex} (ha : PT X a (tT C Xw (bT T P ea))) (hb : PW X (.BoolOp .And (b :: rest) pos) (tT C Xw (bT T P eb))) : PW X (.BoolOp .And (a :: b :: rest) pos) (tT C Xw (bT T P (.and ea eb))) :=
  ⟨fun wh pins s σ H Q I q => (ptm_and ha hb).run wh pins s σ H Q I (tT_same (bt_and ea eb) q)⟩
theorem pt_OR {a b : Expr} {pos : Pos} {rest : List Expr} {ea eb : Ex} (ha : PT X a (tT C Xw (bT T P ea))) (hb : PW X (.BoolOp .Or (b :: rest) pos) (tT C Xw (bT T P eb))) : PW X (.BoolOp .Or (a :: b :: rest) pos) (tT C Xw (bT T P (.or ea eb))) :=
  ⟨fun wh pins s σ H Q I q => (ptm_or ha hb).run wh pins s σ H Q I (tT_same (bt_or ea eb) q)⟩
theorem pt_NOT {a : Expr} {pos : Pos} {ea : Ex} (ha : PT X a (tT C Xw (bT T P ea))) : PT X (.UnaryOp .Not a pos) (tT C Xw (bT T P (.nt ea))) := pt_cast (ptm_not ha) (bt_not ea)
theorem pt_CMP {op : BOp} {cop : CmpOp} {a b : Expr} {pos : Pos} {ea eb : Ex} (ho : OpR X (compareOp cop) (rB C op)) (ha : PE X a (tE C Xw (ev T P ea))) (hb : PE X b (tE C Xw (ev T P eb))) (hm : behindInMarks cop b = false) :
    PT X (.Compare a [cop] [b] pos) (tT C Xw (bT T P (.bin op ea eb))) := pt_cast (pt_cmpd ho ha hb hm) fun r => by show asB (ev T P (.bin op ea eb) r) = _; rw [ev]
theorem pt_VAL {e : Expr} {x : Ex} (h : PE X e (tE C Xw (ev T P x))) (he : ∀ whole, isTrue e X.env whole = (do let v ← whole; standAt e.pos; holding [v] (truthy v)) := by intro _; rfl) : PT X e (tT C Xw (bT T P x)) := pt_of h he
/-- operators -/
theorem ev_bin {op : BOp} {o : Operator} {a b : Expr} {pos : Pos} {ea eb : Ex} (ho : OpR X (binaryOp o) (rB C op)) (ha : PE X a (tE C Xw (ev T P ea))) (hb : PE X b (tE C Xw (ev T P eb))) : PE X (.BinOp a o b pos) (tE C Xw (ev T P (.bin op ea eb))) :=
  peW (pe_op ho ha hb) fun _ _ _ q => two (tE_cast (fun r => by rw [ev]) q)
theorem ev_cmp {op : BOp} {o : CmpOp} {a b : Expr} {pos : Pos} {ea eb : Ex} (ho : OpR X (compareOp o) (rB C op)) (ha : PE X a (tE C Xw (ev T P ea))) (hb : PE X b (tE C Xw (ev T P eb))) (hm : behindInMarks o b = false) : PE X (.Compare a [o] [b] pos) (tE C Xw (ev T P (.bin op ea eb))) :=
  peW (pe_cmpR ho ha hb hm) fun _ _ _ q => two (tE_cast (fun r => by rw [ev]) q)
/-- and, or, not as values -/
theorem tE_asB {ma : Env → R (PV × Fl)} {f : Bool → Env → R (PV × Fl)} {Q : VK} (h : tE C Xw (fun r => (asB (ma r)).bind f) σ H Q) :
    tE C Xw ma σ H fun x H1 => ∃ b, x = .bl b ∧ tE C Xw (f b) σ H1 Q := by
  obtain ⟨F, fp, r, R, g⟩ := h
  refine ⟨F, fp, r, R, g.bind.bind.mono (fun x r1 g1 => ?_) fun _ _ z => z⟩
  intro F1 fp1 H1 u q E R1 v s n
  obtain ⟨x, fl⟩ := x
  cases x with
  | bl b => exact ⟨b, RV.bl R1 v, F1, fp1, r1, R1, Good.mono (x := f b r1) g1 (fun _ _ z => z.later E) fun _ _ z => z.later E⟩
  | _ => exact g1.elim
theorem ok_bl {b : Bool} {Q : VK} (h : tE C Xw (fun r => .ok (.bl b, .own) r) σ H Q) : Q (.bl b) H := by
  obtain ⟨F, fp, r, R, g⟩ := h
  exact OkV.imm R g rfl (.inl rfl) rfl
theorem ev_and {a b : Expr} {pos : Pos} {rest : List Expr} {ea eb : Ex} (ha : PE X a (tE C Xw (ev T P ea))) (hb : PE X (.BoolOp .And (b :: rest) pos) (tE C Xw (ev T P eb))) : PE X (.BoolOp .And (a :: b :: rest) pos) (tE C Xw (ev T P (.and ea eb))) :=
  peW (pe_and ha hb) fun σ H Q q => by
    have q := tE_asB (tE_cast (m' := fun r => (asB (ev T P ea r)).bind fun x r => if x then ev T P eb r else .ok (.bl false, .own) r) (fun r => by rw [ev]) q)
    obtain ⟨F, fp, r, R, g⟩ := q
    refine ⟨F, fp, r, R, g.mono (fun x r1 g1 F1 fp1 H1 u q E R1 v s n => ?_) fun _ _ z => z⟩
    obtain ⟨b, e, t⟩ := g1 F1 fp1 H1 u q E R1 v s n
    refine ⟨b, e, ?_⟩
    cases b with
    | true => exact t
    | false => exact ok_bl t
theorem ev_or {a b : Expr} {pos : Pos} {rest : List Expr} {ea eb : Ex} (ha : PE X a (tE C Xw (ev T P ea))) (hb : PE X (.BoolOp .Or (b :: rest) pos) (tE C Xw (ev T P eb))) : PE X (.BoolOp .Or (a :: b :: rest) pos) (tE C Xw (ev T P (.or ea eb))) :=
  peW (pe_or ha hb) fun σ H Q q => by
    have q := tE_asB (tE_cast (m' := fun r => (asB (ev T P ea r)).bind fun x r => if x then .ok (.bl true, .own) r else ev T P eb r) (fun r => by rw [ev]) q)
    obtain ⟨F, fp, r, R, g⟩ := q
    refine ⟨F, fp, r, R, g.mono (fun x r1 g1 F1 fp1 H1 u q E R1 v s n => ?_) fun _ _ z => z⟩
    obtain ⟨b, e, t⟩ := g1 F1 fp1 H1 u q E R1 v s n
    refine ⟨b, e, ?_⟩
    cases b with
    | false => exact t
    | true => exact ok_bl t
theorem ev_not {a : Expr} {pos : Pos} {ea : Ex} (ha : PE X a (tE C Xw (ev T P ea))) : PE X (.UnaryOp .Not a pos) (tE C Xw (ev T P (.nt ea))) :=
  peW (pe_not ha) fun σ H Q q => by
    have q := tE_asB (tE_cast (m' := fun r => (asB (ev T P ea r)).bind fun x r => .ok (.bl (!x), .own) r) (fun r => by rw [ev]) q)
    obtain ⟨F, fp, r, R, g⟩ := q
    refine ⟨F, fp, r, R, g.mono (fun x r1 g1 F1 fp1 H1 u q E R1 v s n => ?_) fun _ _ z => z⟩
    obtain ⟨b, e, t⟩ := g1 F1 fp1 H1 u q E R1 v s n
    exact ⟨b, e, ok_bl t⟩
theorem tT_if {mc : Env → R Bool} {ma mb : Env → R (PV × Fl)} {Q : VK} (h : tE C Xw (fun r => (mc r).bind fun x r => if x then ma r else mb r) σ H Q) : tIf (tT C Xw mc) (tE C Xw ma) (tE C Xw mb) σ H Q := by
  obtain ⟨F, fp, r, R, g⟩ := h
  refine ⟨F, fp, r, R, g.bind.mono (fun x r1 g1 => ?_) fun _ _ z => z⟩
  intro F1 fp1 H1 E R1
  cases x with
  | true => exact ⟨F1, fp1, r1, R1, Good.mono (x := ma r1) g1 (fun _ _ z => z.later E) fun _ _ z => z.later E⟩
  | false => exact ⟨F1, fp1, r1, R1, Good.mono (x := mb r1) g1 (fun _ _ z => z.later E) fun _ _ z => z.later E⟩
theorem ev_ife {c a b : Expr} {pos : Pos} {ec ea eb : Ex} (hc : PT X c (tT C Xw (bT T P ec))) (ha : PE X a (tE C Xw (ev T P ea))) (hb : PE X b (tE C Xw (ev T P eb))) : PE X (.IfExp c a b pos) (tE C Xw (ev T P (.ife ec ea eb))) :=
  peW (pe_ifExp hc ha hb) fun _ _ _ q => tT_if (tE_cast (fun r => by rw [ev]) q)
/-- -a -/
theorem ev_neg {a : Expr} {pos : Pos} {ea : Ex} (ha : PE X a (tE C Xw (ev T P ea))) : PE X (.UnaryOp .USub a pos) (tE C Xw (ev T P (.neg ea))) :=
  peW (pe_un un_neg ha) fun σ H Q q => by
    obtain ⟨F, fp, r, R, g⟩ := q
    rw [ev] at g
    refine ⟨F, fp, r, R, g.bind.mono (fun x r1 g1 F1 fp1 H1 u q E R1 v s n => ?_) fun _ _ z => z⟩
    obtain ⟨x, fl⟩ := x
    cases x with
    | int i =>
      have hu : u = .int i := by have := RV.sh R1 v; simpa only [Sh, Imm] using this
      exact ⟨i, hu, OkV.imm R1 (OkV.later E g1) rfl (.inl rfl) rfl⟩
    | _ => exact g1.elim
/-- is None -/
theorem nonV {v : PV} {f : Fl} {u : V} {q : AS} (R : Rel C F fp r σ H) (h : RV C F H r σ v f u q) : decide (u = .non) = decide (v = .non) := by
  have h := RV.sh R h
  cases v with
  | tup l => obtain ⟨a, xs, rfl, _⟩ := Sh.tup h; rfl
  | lst l => obtain ⟨a, xs, rfl, _⟩ := Sh.lst h; rfl
  | dct ks vs => obtain ⟨a, rfl, _⟩ := h; rfl
  | ins c ns vs => obtain ⟨q, a, dx, fl, f, rfl, _⟩ := h; rfl
  | non => simp only [Sh, Imm] at h; subst h; rfl
  | bl b => simp only [Sh, Imm] at h; subst h; rfl
  | int b => simp only [Sh, Imm] at h; subst h; rfl
  | str b => simp only [Sh, Imm] at h; subst h; rfl
  | fn b => simp only [Sh, Imm] at h; subst h; rfl
theorem ev_isN {a : Expr} {j : Nat} {pos pos' : Pos} {ea : Ex} (ha : PE X a (tE C Xw (ev T P ea))) : PE X (.Compare a [.Is] [.Constant .none j pos'] pos) (tE C Xw (ev T P (.isN false ea))) :=
  peW (pe_cmp (pc_isN ha)) fun σ H Q q => by
    obtain ⟨F, fp, r, R, g⟩ := q
    rw [ev] at g
    refine ⟨F, fp, r, R, g.bind.mono (fun x r1 g1 F1 fp1 H1 u q E R1 v s n => ?_) fun _ _ z => z⟩
    show Q (.bl (decide (u = .non))) H1
    rw [nonV R1 v]
    exact OkV.imm R1 (OkV.later E g1) rfl (.inl rfl) rfl
theorem ev_notN {a : Expr} {j : Nat} {pos pos' : Pos} {ea : Ex} (ha : PE X a (tE C Xw (ev T P ea))) : PE X (.Compare a [.IsNot] [.Constant .none j pos'] pos) (tE C Xw (ev T P (.isN true ea))) :=
  peW (pe_cmp (pc_notN ha)) fun σ H Q q => by
    obtain ⟨F, fp, r, R, g⟩ := q
    rw [ev] at g
    refine ⟨F, fp, r, R, g.bind.mono (fun x r1 g1 F1 fp1 H1 u q E R1 v s n => ?_) fun _ _ z => z⟩
    show Q (.bl (!decide (u = .non))) H1
    rw [nonV R1 v]
    exact OkV.imm R1 (OkV.later E g1) rfl (.inl rfl) rfl
/-- is None, as a test -/
theorem pt_ISN {a : Expr} {j : Nat} {pos pos' : Pos} {ea : Ex} (ha : PE X a (tE C Xw (ev T P ea))) : PT X (.Compare a [.Is] [.Constant .none j pos'] pos) (tT C Xw (bT T P (.isN false ea))) :=
  ptW (pt_cmp (pc_isN ha)) fun σ H Q q => by
    obtain ⟨F, fp, r, R, g⟩ := q
    show tIsN _ σ H _
    have g : Good (asB (ev T P (.isN false ea) r)) (OkB C F fp H σ Q) (OkX C Xw F fp H σ) := g
    rw [ev] at g
    refine ⟨F, fp, r, R, g.bind.bind.mono (fun x r1 g1 F1 fp1 H1 u q E R1 v s n => ?_) fun _ _ z => z⟩
    show ∃ c, V.bl (decide (u = .non)) = .bl c ∧ Q c H1
    rw [nonV R1 v]
    exact ⟨_, rfl, g1 F1 fp1 H1 E R1⟩
theorem pt_NOTN {a : Expr} {j : Nat} {pos pos' : Pos} {ea : Ex} (ha : PE X a (tE C Xw (ev T P ea))) : PT X (.Compare a [.IsNot] [.Constant .none j pos'] pos) (tT C Xw (bT T P (.isN true ea))) :=
  ptW (pt_cmp (pc_notN ha)) fun σ H Q q => by
    obtain ⟨F, fp, r, R, g⟩ := q
    show tNotN _ σ H _
    have g : Good (asB (ev T P (.isN true ea) r)) (OkB C F fp H σ Q) (OkX C Xw F fp H σ) := g
    rw [ev] at g
    refine ⟨F, fp, r, R, g.bind.bind.mono (fun x r1 g1 F1 fp1 H1 u q E R1 v s n => ?_) fun _ _ z => z⟩
    show ∃ c, V.bl (!decide (u = .non)) = .bl c ∧ Q c H1
    rw [nonV R1 v]
    exact ⟨_, rfl, g1 F1 fp1 H1 E R1⟩
/-- a built-in of one argument -/
theorem one_arg {b : Bi} {ea : Ex} {Q : VK} (q : tE C Xw (ev T P (.b1 b ea)) σ H Q) : tE C Xw (ev T P ea) σ H fun x H1 => rC C b [x] H1 Q := by
  obtain ⟨F, fp, r, R, g⟩ := q
  rw [ev] at g
  refine ⟨F, fp, r, R, g.bind.mono (fun x r1 g1 F1 fp1 H1 u q E R1 v s n => ?_) fun _ _ z => z⟩
  obtain ⟨z, hz, g2⟩ := Good.of g1
  exact ⟨u, F1, fp1, r1, σ, x.1, z, rfl, R1, RV.sh R1 v, hz, OkV.later E g2⟩
theorem ev_b1 {b : Bi} {x : Str} {bid : String} {a : Expr} {p pos : Pos} {ea : Ex} (hc : CallR X (.builtin bid) (rC C b)) (hg : Gl X x) (hm : X.mg x = none) (hv : bootBuiltins x = some (.builtin bid)) (ha : PE X a (tE C Xw (ev T P ea))) (hn : x ≠ "__name__" := by decide) (hdb : (x == ("__debug__" : Str)) = false := by decide) (hs : starEach [a] X.env = (false, eval a X.env) :: starEach [] X.env := by rfl) :
    PE X (.Call (.Name x p) [a] [] pos) (tE C Xw (ev T P (.b1 b ea))) :=
  peW (pe_callB hc hg hm hv (pa_cons ha pa_nil hs) hn hdb hs) fun _ _ _ q => one_arg q
theorem ev_t1 {b : Bi} {x : Str} {bid : String} {a : Expr} {p pos : Pos} {ea : Ex} (hc : CallR X (.type bid) (rC C b)) (hg : Gl X x) (hm : X.mg x = none) (hv : bootBuiltins x = some (.type bid)) (ha : PE X a (tE C Xw (ev T P ea))) (hn : x ≠ "__name__" := by decide) (hdb : (x == ("__debug__" : Str)) = false := by decide) (hs : starEach [a] X.env = (false, eval a X.env) :: starEach [] X.env := by rfl) :
    PE X (.Call (.Name x p) [a] [] pos) (tE C Xw (ev T P (.b1 b ea))) :=
  peW (pe_callTy hc hg hm hv (pa_cons ha pa_nil hs) hn hdb hs) fun _ _ _ q => one_arg q
theorem ev_sset {a : Expr} {p p2 q pos : Pos} {ea : Ex} (f : Fit C X) (hc : X.calm = true) (hu : X.A.units + 64 < cLine) (hg : Gl X "sorted") (hm : X.mg "sorted" = none) (hg2 : Gl X "set") (hm2 : X.mg "set" = none) (ha : PE X a (tE C Xw (ev T P ea)))
    (na : starEach [a] X.env = (false, eval a X.env) :: starEach [] X.env := by rfl) : PE X (.Call (.Name "sorted" p) [.Call (.Name "set" p2) [a] [] q] [] pos) (tE C Xw (ev T P (.b1 .sset ea))) :=
  peW (pe_sset f hc hu hg hm hg2 hm2 ha na) fun _ _ _ q => one_arg q
end
end PL

set_option Elab.async false
set_option linter.all false
set_option maxRecDepth 100000
set_option maxHeartbeats 1000000
namespace PL
open PySem L2 PV PySem.SeqAt PyProof.Rows

section
variable {C : Cn} {Xw : XW} {X : Cx} {F F1 F2 F0 : AS} {fp fp1 fp2 fp0 : FP} {r r1 r2 r' : Env} {σ : L2.St} {H H1 H2 H0 : Hp} {v : PV} {u : V} {q : AS} {f : Fl}
theorem get_set {r : Env} {i j : Nat} {x : Slot} : get (r.set i x) j = if i = j ∧ i < r.length then x else get r j := by
  unfold get
  rw [List.getElem?_set]
  by_cases h : i = j
  · subst h
    by_cases h2 : i < r.length
    · simp [h2]
    · simp [h2]
  · simp [h]
theorem get_lt {r : Env} {i : Nat} {x : PV × Bool} (h : get r i = some x) : i < r.length := by
  unfold get at h
  cases e : r[i]? with
  | none => rw [e] at h; simp at h
  | some y => exact (List.getElem?_eq_some_iff.mp e).1
/-- the list in slot j is changed no more -/
theorem frz_ok {j : Nat} (R : Rel C F fp r σ H) (h : frzS r j = some r') : ∃ F' fp', Ext F fp H F' fp' H ∧ Rel C F' fp' r' σ H ∧ (∀ a, F' a → F a ∨ fp j a) ∧ (∀ i a, fp' i a → fp i a) ∧ ∃ l o, get r j = some (.lst l, o) ∧ (∀ u, σ[j]? = some (some u) → Imm C F' H (.lst l) u) := by
  unfold frzS at h
  split at h
  · rename_i l o e
    cases h
    obtain ⟨u, e1, h⟩ := R.sm j _ o e
    rcases h with ⟨ho, a, xs, rfl, h1, h2, h3⟩ | ⟨ho, im, no⟩
    · refine ⟨fun b => F b ∨ b = a, fun i b => i ≠ j ∧ fp i b, ?_, ?_, fun b z => ?_, fun i b z => z.2, l, o, e, fun u e2 => ?_⟩
      · refine ⟨fun _ _ e _ => e, fun _ z => .inl z, fun b z => ?_, fun i b z => .inl ⟨i, z.2⟩⟩
        rcases z with z | z
        · exact .inl z
        · exact .inr (.inl ⟨j, (h3 b).mpr z⟩)
      · have m : Mono F H (fun b => F b ∨ b = a) H := ⟨fun _ z => .inl z, fun _ _ z => z, fun _ _ _ z => z⟩
        refine ⟨by rw [List.length_set]; exact R.len, fun i w o' e' => ?_, fun i e' b z => ?_, fun i k b z y => R.dis i k b z.2 y.2, fun i b z y => ?_, fun b z => ?_⟩
        · rw [get_set] at e'
          by_cases c : j = i ∧ j < r.length
          · rw [if_pos c] at e'
            cases e'
            obtain ⟨rfl, _⟩ := c
            refine ⟨_, e1, .inr ⟨rfl, ?_, fun b z => z.1 rfl⟩⟩
            rw [Imm]
            exact ⟨a, xs, rfl, .inl ⟨.inr rfl, .inl h1⟩, Imms.mono m _ _ h2⟩
          · rw [if_neg c] at e'
            have hij : i ≠ j := fun z => c ⟨z.symm, get_lt e⟩
            obtain ⟨u', q1, q2⟩ := R.sm i w o' e'
            refine ⟨u', q1, ?_⟩
            rcases q2 with ⟨ho', ow⟩ | ⟨ho', im, no⟩
            · refine .inl ⟨ho', ?_⟩
              have : (fun b => i ≠ j ∧ fp i b) = fp i := funext fun b => propext ⟨fun z => z.2, fun z => ⟨hij, z⟩⟩
              show Own C _ H w u' (fun b => i ≠ j ∧ fp i b)
              rw [this]
              exact ow.mono m fun _ _ _ z => z
            · exact .inr ⟨ho', Imm.mono m _ _ im, fun b z => no b z.2⟩
        · rw [get_set] at e'
          by_cases c : j = i ∧ j < r.length
          · exact z.1 c.1.symm
          · rw [if_neg c] at e'; exact R.nn i e' b z.2
        · rcases y with y | y
          · exact R.nof i b z.2 y
          · subst y
            exact z.1 (R.dis i j b z.2 ((h3 b).mpr rfl))
        · rcases z with z | z
          · exact R.ff b z
          · subst z; exact ⟨xs, .inl h1⟩
      · rcases z with z | z
        · exact .inl z
        · exact .inr ((h3 b).mpr z)
      · rw [e1] at e2; cases e2
        rw [Imm]
        exact ⟨a, xs, rfl, .inl ⟨.inr rfl, .inl h1⟩, Imms.mono ⟨fun _ z => .inl z, fun _ _ z => z, fun _ _ _ z => z⟩ _ _ h2⟩
    · refine ⟨F, fp, .refl, ?_, fun _ z => .inl z, fun _ _ z => z, l, o, e, fun u' e2 => ?_⟩
      · refine ⟨by rw [List.length_set]; exact R.len, fun i w o' e' => ?_, fun i e' => ?_, R.dis, R.nof, R.ff⟩
        · rw [get_set] at e'
          by_cases c : j = i ∧ j < r.length
          · rw [if_pos c] at e'
            cases e'
            obtain ⟨rfl, _⟩ := c
            exact ⟨u, e1, .inr ⟨rfl, im, no⟩⟩
          · rw [if_neg c] at e'; exact R.sm i w o' e'
        · rw [get_set] at e'
          by_cases c : j = i ∧ j < r.length
          · rw [if_pos c] at e'; cases e'
          · rw [if_neg c] at e'; exact R.nn i e'
      · rw [e1] at e2; cases e2
        exact im
  · cases h
/-- a list of its own is changed no more -/
theorem add_frz {l : List PV} {a : Addr} {xs : List V} (R : Rel C F fp r σ H) (h1 : H a = some (.lst xs)) (h2 : Imms C F H l xs) (s : ∀ i, ¬ fp i a) : Rel C (fun b => F b ∨ b = a) fp r σ H ∧ Imm C (fun b => F b ∨ b = a) H (.lst l) (.ref a) := by
  have m : Mono F H (fun b => F b ∨ b = a) H := ⟨fun _ z => .inl z, fun _ _ z => z, fun _ _ _ z => z⟩
  refine ⟨⟨R.len, fun i w o e => ?_, R.nn, R.dis, fun i b z y => ?_, fun b z => ?_⟩, ?_⟩
  · obtain ⟨u', q1, q2⟩ := R.sm i w o e
    refine ⟨u', q1, ?_⟩
    rcases q2 with ⟨ho', ow⟩ | ⟨ho', im, no⟩
    · exact .inl ⟨ho', ow.mono m fun _ _ _ z => z⟩
    · exact .inr ⟨ho', Imm.mono m _ _ im, no⟩
  · rcases y with y | y
    · exact R.nof i b z y
    · subst y; exact s i z
  · rcases z with z | z
    · exact R.ff b z
    · subst z; exact ⟨xs, .inl h1⟩
  · rw [Imm]
    exact ⟨a, xs, rfl, .inl ⟨.inr rfl, .inl h1⟩, Imms.mono m _ _ h2⟩
/-- a value goes where it may be read for ever -/
theorem sink_ok {x : PV × Fl} (b : Bh C Xw F fp H σ x r1 u F1 fp1 H1 q) (h : sink x.1 x.2 r1 = some r') : ∃ F2 fp2, Ext F fp H F2 fp2 H1 ∧ Rel C F2 fp2 r' σ H1 ∧ Imm C F2 H1 x.1 u ∧ (∀ a, F1 a → F2 a) := by
  obtain ⟨E, R, rv, s, n⟩ := b
  obtain ⟨v, f⟩ := x
  unfold sink at h
  cases hm : v.isM with
  | false =>
    simp only [hm, Bool.false_eq_true, if_false, Option.some.injEq] at h
    subst h
    exact ⟨F1, fp1, E, R, (RV.sh R rv).imm hm, fun _ z => z⟩
  | true =>
    simp only [hm, if_true] at h
    cases v with
    | lst l =>
      cases f with
      | own =>
        cases h
        obtain ⟨a, xs, rfl, h1, h2, h3⟩ := rv
        have qa := (h3 a).mpr rfl
        obtain ⟨R', im⟩ := add_frz R h1 h2 fun i => s.d i a qa
        refine ⟨_, fp1, ⟨E.keep, fun b z => .inl (E.fm b z), fun b z => ?_, E.pn⟩, R', im, fun _ z => .inl z⟩
        rcases z with z | rfl
        · exact E.fn b z
        · rcases n b qa with z | z
          · exact .inr (.inl z)
          · exact .inr (.inr z)
      | frz =>
        cases h
        exact ⟨F1, fp1, E, R, rv.1, fun _ z => z⟩
      | al j =>
        obtain ⟨_, e, e1, _⟩ := rv
        obtain ⟨F2, fp2, E2, R2, _, _, l', o', e', im⟩ := frz_ok R h
        rw [e] at e'; cases e'
        exact ⟨F2, fp2, E.trans E2, R2, im u e1, E2.fm⟩
      | alf j => cases h
    | dct _ _ => cases f <;> simp at h
    | ins _ _ _ => cases f <;> simp at h
    | _ => simp [PV.isM] at hm

/-! ### items of a display -/
def OkL (C : Cn) (F : AS) (fp : FP) (H : Hp) (σ : L2.St) (Q : List V → Hp → Prop) (vs : List PV) (r' : Env) : Prop :=
  ∀ F' fp' H' us, Ext F fp H F' fp' H' → Rel C F' fp' r' σ H' → Imms C F' H' vs us → Q us H'
def tL (C : Cn) (Xw : XW) (m : Env → R (List PV)) : TA := fun σ H Q => ∃ F fp r, Rel C F fp r σ H ∧ Good (m r) (OkL C F fp H σ Q) (OkX C Xw F fp H σ)
theorem paW {es : List Expr} {t t' : TA} (h : PA X es t) (w : ∀ σ H Q, t' σ H Q → t σ H Q) : PA X es t' := ⟨fun pos pins s σ H Q I q => h.run pos pins s σ H Q I (w σ H Q q)⟩
variable {T : Tab} {P : Fns}
theorem evs_nil : PA X [] (tL C Xw (evs T P [])) := paW pa_nil fun σ H Q q => by
  obtain ⟨F, fp, r, R, g⟩ := q
  rw [evs] at g
  exact g F fp H [] .refl R (by simp [Imms])
theorem evs_cons {e : Expr} {es : List Expr} {x : Ex} {xs : List Ex} (he : PE X e (tE C Xw (ev T P x))) (hs : PA X es (tL C Xw (evs T P xs))) (hst : starEach (e :: es) X.env = (false, eval e X.env) :: starEach es X.env := by rfl) : PA X (e :: es) (tL C Xw (evs T P (x :: xs))) :=
  paW (pa_cons he hs hst) fun σ H Q q => by
    obtain ⟨F, fp, r, R, g⟩ := q
    rw [evs] at g
    refine ⟨F, fp, r, R, g.bind.mono (fun y r1 g1 F1 fp1 H1 u q E R1 v s n => ?_) fun _ _ z => z⟩
    obtain ⟨r2, hr, g2⟩ := Good.of g1
    obtain ⟨F2, fp2, E2, R2, im, fm⟩ := sink_ok (Xw := Xw) ⟨E, R1, v, s, n⟩ hr
    refine ⟨F2, fp2, r2, R2, g2.bind.mono (fun ys r3 g3 F3 fp3 H3 us E3 R3 i3 => ?_) fun _ _ z F' fp' H' e' => z F' fp' H' (E2.trans e')⟩
    exact g3 F3 fp3 H3 (u :: us) (E2.trans E3) R3 (Imms.cons_iff.mpr ⟨Imm.mono (E3.mono R2) _ _ im, i3⟩)
theorem Good.mem {A : Type} {x : PL.R A} {K : A → Env → Prop} {E : Nat → Env → Prop} (h : Good x K E) : Good x (fun a r => x = .ok a r ∧ K a r) E := by
  cases x with
  | ok a r => exact ⟨rfl, h⟩
  | exc c r => exact h
  | bad => exact h
theorem bind_ok_inv {A B : Type} {x : PL.R A} {f : A → Env → PL.R B} {b : B} {r : Env} (h : x.bind f = .ok b r) : ∃ a r1, x = .ok a r1 ∧ f a r1 = .ok b r := by
  cases x with
  | ok a r1 => exact ⟨a, r1, rfl, h⟩
  | exc c r1 => cases h
  | bad => cases h
theorem of_ok_inv {A : Type} {x : Option A} {a : A} {r r1 : Env} (h : R.of x r = .ok a r1) : x = some a ∧ r = r1 := by
  cases x with
  | none => cases h
  | some b => cases h; exact ⟨rfl, rfl⟩
theorem evs_len : ∀ {xs : List Ex} {r r' : Env} {ys : List PV}, evs T P xs r = .ok ys r' → ys.length = xs.length
  | [], r, r', ys, h => by rw [evs] at h; cases h; rfl
  | x :: xs, r, r', ys, h => by
    rw [evs] at h
    obtain ⟨a, r1, _, h⟩ := bind_ok_inv h
    obtain ⟨b, r2, _, h⟩ := bind_ok_inv h
    obtain ⟨c, r3, h3, h⟩ := bind_ok_inv h
    cases h
    rw [List.length_cons, List.length_cons, evs_len h3]
theorem ev_tupd {es : List Expr} {xs : List Ex} {x1} {pos : Pos} (h : PA X es (tL C Xw (evs T P xs))) (hn : xs.length ≤ 1000 := by decide) : PE X (.Tuple es x1 pos) (tE C Xw (ev T P (.tupd xs))) :=
  peW (pe_tup h) fun σ H Q q => by
    obtain ⟨F, fp, r, R, g⟩ := q
    rw [ev] at g
    refine ⟨F, fp, r, R, g.bind.mem.mono (fun ys r3 g3 F3 fp3 H3 us E3 R3 i3 => ?_) fun _ _ z => z⟩
    refine ⟨?_, fun p hp => OkV.newTup R3 (OkV.later E3 g3.2) i3 hp⟩
    rw [Imms.length i3, evs_len g3.1, sizeLine_eq]; omega
theorem ev_lstd {es : List Expr} {xs : List Ex} {pos : Pos} (h : PA X es (tL C Xw (evs T P xs))) (hn : xs.length ≤ 1000 := by decide) : PE X (.List es pos) (tE C Xw (ev T P (.lstd xs))) :=
  peW (pe_lst h) fun σ H Q q => by
    obtain ⟨F, fp, r, R, g⟩ := q
    rw [ev] at g
    refine ⟨F, fp, r, R, g.bind.mem.mono (fun ys r3 g3 F3 fp3 H3 us E3 R3 i3 => ?_) fun _ _ z => z⟩
    refine ⟨?_, fun p hp => OkV.newLst R3 (OkV.later E3 g3.2) i3 hp⟩
    rw [Imms.length i3, evs_len g3.1, sizeLine_eq]; omega
theorem ev_dctn {pos : Pos} (e : Expr) (h : PE X e tDNewK) : PE X e (tE C Xw (ev T P .dctn)) :=
  peW h fun σ H Q q => by
    obtain ⟨F, fp, r, R, g⟩ := q
    rw [ev] at g
    exact fun p hp => OkV.newDct R g (by rw [KV1]) hp

/-- a cell that no name holds changes: all stands that stood -/
theorem mono_loose {p : Addr} {es : List (Key × V)} {o : HO} (hp : H p = some (.dK es)) : Mono F H F (upd H p o) := by
  have k : ∀ a x, H a = some x → (∀ es', x ≠ .dK es') → upd H p o a = some x := fun a x e n => by
    rw [upd_ne (fun z : a = p => n es (by rw [z, hp] at e; exact (Option.some.inj e).symm))]; exact e
  refine ⟨fun _ h => h, fun a xs h => ?_, fun a xs _ h => ?_⟩ <;>
  · rcases h with h | ⟨ob, h⟩
    · exact .inl (k a _ h fun _ z => nomatch z)
    · exact .inr ⟨ob, k a _ h fun _ z => nomatch z⟩
theorem Rel.loose {p : Addr} {es : List (Key × V)} {o : HO} (R : Rel C F fp r σ H) (hp : H p = some (.dK es)) (np : ∀ i, ¬ fp i p) : Rel C F fp r σ (upd H p o) := by
  have m : Mono F H F (upd H p o) := mono_loose hp
  refine ⟨R.len, fun i v ow e => ?_, R.nn, R.dis, R.nof, fun a h => ?_⟩
  · obtain ⟨u, e1, ⟨h1, h2⟩ | ⟨h1, h2, h3⟩⟩ := R.sm i v ow e
    · exact ⟨u, e1, .inl ⟨h1, h2.mono m fun a x q e => by rw [upd_ne (fun z : a = p => np i (by rw [← z]; exact q))]; exact e⟩⟩
    · exact ⟨u, e1, .inr ⟨h1, Imm.mono m _ _ h2, h3⟩⟩
  · obtain ⟨xs, q⟩ := R.ff a h
    exact ⟨xs, m.l a xs h q⟩
/-- a dict of one entry -/
theorem ev_dct1 {k v : Expr} {xk xv : Ex} {pos : Pos} (hk : PE X k (tE C Xw (ev T P xk))) (hv : PE X v (tE C Xw (ev T P xv))) : PE X (.Dict [some k] [v] pos) (tE C Xw (ev T P (.dct1 xk xv))) :=
  peW (pe_disp (pps_cons hk hv pps_nil) rfl rfl (by simp) (by show 1 ≤ 15; decide)) fun σ H Q q => by
    obtain ⟨F, fp, r, R, g⟩ := q
    rw [ev] at g
    intro p hp
    have R0 : Rel C F fp r σ (upd H p (.dK [])) := R.new hp
    have E0 : Ext F fp H F fp (upd H p (.dK [])) := .new hp
    refine ⟨F, fp, r, R0, g.bind.mono (fun x r1 g1 F1 fp1 H1 u q E1 R1 v1 s1 n1 => ?_) fun _ _ z => OkX.later E0 z⟩
    refine ⟨F1, fp1, r1, R1, g1.bind.mono (fun y r2 g2 F2 fp2 H2 uy q2 E2 R2 v2 s2 n2 => ?_) fun _ _ z => OkX.later (E0.trans E1) z⟩
    obtain ⟨r3, hr, g3⟩ := Good.of g2
    obtain ⟨F3, fp3, E3, R3, im, _⟩ := sink_ok (Xw := Xw) ⟨E2, R2, v2, s2, n2⟩ hr
    obtain ⟨hi, g4⟩ := g3.chk
    have a1 : ∀ i, ¬ fp1 i p := fun i z => by
      rcases E1.pn i p z with ⟨j, z⟩ | z
      · exact R.notP hp j z
      · rw [upd_same] at z; cases z
    have h1 : H1 p = some (.dK []) := E1.keep p _ upd_same fun i z => R.notP hp i z
    have h2 : H2 p = some (.dK []) := E3.keep p _ h1 a1
    have a3 : ∀ i, ¬ fp3 i p := fun i z => by
      rcases E3.pn i p z with ⟨j, z⟩ | z
      · exact a1 j z
      · rw [h1] at z; cases z
    have f3 : ¬ F3 p := fun z => by
      obtain ⟨xs, w | ⟨ob, w⟩⟩ := R3.ff p z <;> (rw [h2] at w; cases w)
    have E4 := E0.trans (E1.trans E3)
    obtain ⟨κ, ek, eu⟩ : ∃ κ, keyOf x.1 = some κ ∧ u = kV κ := by
      have hm : x.1.isM = false := by
        cases e : x.1 <;> rw [e] at hi <;> simp [isInt, isStr] at hi <;> rfl
      have iu := (RV.sh R1 v1).imm hm
      cases e : x.1 <;> rw [e] at hi iu <;> simp [isInt, isStr] at hi
      · rw [Imm] at iu; exact ⟨_, rfl, iu⟩
      · rw [Imm] at iu; exact ⟨_, rfl, iu⟩
    refine ⟨h2, [(κ, uy)], by rw [eu]; rfl, by show 1 ≤ 15; decide, ?_⟩
    refine g4 F3 fp3 _ (.ref p) (fun a => a = p) ⟨fun a o e n => ?_, E4.fm, E4.fn, E4.pn⟩ (R3.loose h2 a3) ?_ ⟨fun i a z w => a3 i (by rw [← z]; exact w), fun a z w => f3 (by rw [← z]; exact w)⟩ fun a z => .inr (by rw [z]; exact hp)
    · rw [upd_ne (ne_of_none e hp)]; exact E4.keep a o e n
    · refine ⟨p, rfl, .inl ⟨[(κ, uy)], upd_same, ?_⟩, fun b => Iff.rfl⟩
      rw [KV1]
      exact ⟨κ, uy, [], rfl, ek, Imm.mono (mono_loose h2) _ _ im, by rw [KV1]⟩

/-! ### arguments -/
def ArgOk (C : Cn) (F : AS) (H : Hp) (σ : L2.St) (a : Arg) (u : V) (q : AS) : Prop :=
  match a with
  | .val v o => (o = true ∧ Own C F H v u q) ∨ (o = false ∧ Imm C F H v u ∧ ∀ a, ¬ q a)
  | .bor j => σ[j]? = some (some u) ∧ ∀ a, ¬ q a
structure Args (C : Cn) (F : AS) (fp : FP) (H : Hp) (σ : L2.St) (as : List Arg) (us : List V) (qs : FP) : Prop where
  len : us.length = as.length
  ok : ∀ i a, as[i]? = some a → ∃ u, us[i]? = some u ∧ ArgOk C F H σ a u (qs i)
  out : ∀ i, as[i]? = none → ∀ a, ¬ qs i a
  sep : ∀ i, Sep F fp (qs i)
  dis : ∀ i j a, qs i a → qs j a → i = j
def OkA (C : Cn) (F : AS) (fp : FP) (H : Hp) (σ : L2.St) (Q : List V → Hp → Prop) (as : List Arg) (r' : Env) : Prop :=
  ∀ F' fp' H' us qs, Ext F fp H F' fp' H' → Rel C F' fp' r' σ H' → Args C F' fp' H' σ as us qs → (∀ i a, qs i a → (∃ i, fp i a) ∨ H a = none) → Q us H'
def tAr (C : Cn) (Xw : XW) (m : Env → R (List Arg)) : TA := fun σ H Q => ∃ F fp r, Rel C F fp r σ H ∧ Good (m r) (OkA C F fp H σ Q) (OkX C Xw F fp H σ)
theorem ArgOk.trk {a : Arg} (h : ArgOk C F H σ a u q) {b : Addr} (hb : q b) : ∃ o, H b = some o ∧ MutO o := by
  cases a with
  | val v o =>
    rcases h with ⟨_, h⟩ | ⟨_, _, h⟩
    · exact h.trk hb
    · exact absurd hb (h b)
  | bor j => exact absurd hb (h.2 b)
theorem Args.nil : Args C F fp H σ [] [] fun _ => none1 := ⟨rfl, fun i a h => by simp at h, fun _ _ _ z => z, fun _ => ⟨fun _ _ z => z.elim, fun _ z => z.elim⟩, fun _ _ _ z => z.elim⟩
theorem evA_nil : PA X [] (tAr C Xw (evA T P [])) := paW pa_nil fun σ H Q q => by
  obtain ⟨F, fp, r, R, g⟩ := q
  rw [evA] at g
  exact g F fp H [] (fun _ => none1) .refl R .nil fun _ _ z => z.elim
/-- the first argument joins the others -/
theorem Args.cons {a : Arg} {as : List Arg} {us : List V} {qs : FP} (R1 : Rel C F1 fp1 r1 σ H1) (ha : ArgOk C F1 H1 σ a u q) (s : Sep F1 fp1 q) (E : Ext F1 fp1 H1 F2 fp2 H2) (A : Args C F2 fp2 H2 σ as us qs) (n : ∀ i a, qs i a → (∃ i, fp1 i a) ∨ H1 a = none) :
    Args C F2 fp2 H2 σ (a :: as) (u :: us) (fun i => match i with | 0 => q | i + 1 => qs i) := by
  have hd : ∀ i b, q b → ¬ qs i b := fun i b hq hb => by
    obtain ⟨o, e, _⟩ := ha.trk hq
    rcases n i b hb with ⟨j, z⟩ | z
    · exact s.d j b hq z
    · rw [e] at z; cases z
  have hold : ArgOk C F2 H2 σ a u q ∧ Sep F2 fp2 q := by
    cases a with
    | val v o =>
      rcases ha with ⟨ho, h⟩ | ⟨ho, h, no⟩
      · obtain ⟨h1, h2⟩ := Own.held R1 E s h
        exact ⟨.inl ⟨ho, h1⟩, h2⟩
      · exact ⟨.inr ⟨ho, Imm.mono (E.mono R1) _ _ h, no⟩, ⟨fun _ b z => absurd z (no b), fun b z => absurd z (no b)⟩⟩
    | bor j => exact ⟨ha, ⟨fun _ b z => absurd z (ha.2 b), fun b z => absurd z (ha.2 b)⟩⟩
  refine ⟨by simp [A.len], fun i b h => ?_, fun i h => ?_, fun i => ?_, fun i j b hi hj => ?_⟩
  · cases i with
    | zero => simp at h; subst h; exact ⟨u, rfl, hold.1⟩
    | succ i => simpa using A.ok i b (by simpa using h)
  · cases i with
    | zero => simp at h
    | succ i => exact A.out i (by simpa using h)
  · cases i with
    | zero => exact hold.2
    | succ i => exact A.sep i
  · cases i with
    | zero =>
      cases j with
      | zero => rfl
      | succ j => exact absurd hj (hd j b hi)
    | succ i =>
      cases j with
      | zero => exact absurd hi (hd i b hj)
      | succ j => rw [A.dis i j b hi hj]
def argOf (x : PV × Fl) : Option Arg :=
  if x.1.isM then
    match x.2 with
    | .own => some (.val x.1 true)
    | .frz => some (.val x.1 false)
    | .al j => some (.bor j)
    | .alf _ => none
  else some (.val x.1 true)
theorem evA_cons_eq (x : Ex) (xs : List Ex) (r : Env) : evA T P (x :: xs) r = (ev T P x r).bind fun y r => (R.of (argOf y) r).bind fun a r => (evA T P xs r).bind fun as r => .ok (a :: as) r := by
  rw [evA]
  cases ev T P x r with
  | ok y r1 =>
    obtain ⟨v, f⟩ := y
    simp only [R.bind_ok, argOf]
    cases v.isM with
    | true =>
      simp only [if_true]
      cases f <;> rfl
    | false => rfl
  | exc c r1 => rfl
  | bad => rfl
theorem argOf_ok {x : PV × Fl} {a : Arg} (R : Rel C F fp r σ H) (h : RV C F H r σ x.1 x.2 u q) (e : argOf x = some a) : ArgOk C F H σ a u q := by
  obtain ⟨v, f⟩ := x
  unfold argOf at e
  cases hm : v.isM with
  | true =>
    simp only [hm, if_true] at e
    cases f with
    | own => cases e; exact .inl ⟨rfl, h⟩
    | frz => cases e; exact .inr ⟨rfl, h.1, h.2⟩
    | al j => cases e; exact ⟨h.2.2.1, h.2.2.2⟩
    | alf j => cases e
  | false =>
    simp only [hm, Bool.false_eq_true, if_false, Option.some.injEq] at e
    subst e
    refine .inl ⟨rfl, ?_⟩
    cases f with
    | own => exact h
    | frz =>
      have : q = none1 := funext fun b => propext ⟨fun z => h.2 b z, fun z => z.elim⟩
      rw [this]; exact Imm.own hm h.1
    | al j => rw [h.1] at hm; cases hm
    | alf j => rw [h.2.1] at hm; cases hm
theorem evA_cons {e : Expr} {es : List Expr} {x : Ex} {xs : List Ex} (he : PE X e (tE C Xw (ev T P x))) (hs : PA X es (tAr C Xw (evA T P xs))) (hst : starEach (e :: es) X.env = (false, eval e X.env) :: starEach es X.env := by rfl) : PA X (e :: es) (tAr C Xw (evA T P (x :: xs))) :=
  paW (pa_cons he hs hst) fun σ H Q q => by
    obtain ⟨F, fp, r, R, g⟩ := q
    rw [evA_cons_eq] at g
    refine ⟨F, fp, r, R, g.bind.mono (fun y r1 g1 F1 fp1 H1 u q E R1 v s n => ?_) fun _ _ z => z⟩
    obtain ⟨a, ha, g2⟩ := Good.of g1
    have ao := argOf_ok R1 v ha
    refine ⟨F1, fp1, r1, R1, g2.bind.mono (fun as r3 g3 F3 fp3 H3 us qs E3 R3 A3 n3 => ?_) fun _ _ z F' fp' H' e' => z F' fp' H' (E.trans e')⟩
    refine g3 F3 fp3 H3 (u :: us) _ (E.trans E3) R3 (Args.cons R1 ao s E3 A3 n3) fun i b z => ?_
    cases i with
    | zero => exact n b z
    | succ i =>
      rcases n3 i b z with ⟨j, z⟩ | z
      · exact E.pn j b z
      · exact E.none_ z
end
end PL

set_option Elab.async false
set_option linter.all false
set_option maxRecDepth 100000
set_option maxHeartbeats 1000000
namespace PL
open PySem L2 PV PySem.SeqAt PyProof.Rows

/-- a callee's first state: its arguments -/
abbrev RelA (C : Cn) (F : AS) (fp : FP) (vs : List (PV × Bool)) (us : List V) (H : Hp) : Prop := Rel C F fp (vs.map some) (us.map some) H
/-- what a function promises: the evaluator's answer -/
def spF (C : Cn) (P : Fns) (f : Nat) : Sp := fun us H Q E => ∃ F fp vs, RelA C F fp vs us H ∧
  match P f vs with
  | .ok v o vs' => ∀ F' fp' H' u q, Ext F fp H F' fp' H' → RelA C F' fp' vs' us H' → RV C F' H' [] [] v (if o then .own else .frz) u q → Sep F' fp' q → (∀ a, q a → (∃ i, fp i a) ∨ H a = none) → Q u H'
  | .exc c vs' => ∀ F' fp' H', Ext F fp H F' fp' H' → RelA C F' fp' vs' us H' → E (.ref (C.clA c)) none H'
  | .bad => False

section
variable {C : Cn} {Xw : XW} {X : Cx} {F F1 F2 F0 F' : AS} {fp fp1 fp2 fp0 fpA fp' : FP} {r r1 r2 r' : Env} {σ : L2.St} {H H1 H2 H0 H' : Hp} {v : PV} {u : V} {q : AS} {f : Fl}
theorem get_map {vs : List (PV × Bool)} {i : Nat} : get (vs.map some) i = vs[i]? := by
  unfold get
  rw [List.getElem?_map]
  cases vs[i]? <;> rfl
theorem at_map {us : List V} {i : Nat} {u : V} : (us.map some)[i]? = some (some u) ↔ us[i]? = some u := by
  rw [List.getElem?_map]
  cases us[i]? <;> simp
theorem get_some {r : Env} {i : Nat} {x : PV × Bool} : get r i = some x ↔ r[i]? = some (some x) := by
  unfold get
  cases e : r[i]? with
  | none => simp
  | some y => simp
def argIs : Arg → Env → PV × Bool → Prop
  | .val v o, _, p => p = (v, o)
  | .bor j, r, p => get r j = some p
theorem argVals_at : ∀ {as : List Arg} {r : Env} {vs : List (PV × Bool)}, argVals as r = some vs → vs.length = as.length ∧ ∀ (i : Nat) (a : Arg), as[i]? = some a → ∃ p, vs[i]? = some p ∧ argIs a r p
  | [], r, vs, h => by
    simp only [argVals, Option.some.injEq] at h; subst h
    exact ⟨rfl, fun i a h => by simp at h⟩
  | .val v o :: as, r, vs, h => by
    simp only [argVals, Option.map_eq_some_iff] at h
    obtain ⟨ws, h, rfl⟩ := h
    obtain ⟨h1, h2⟩ := argVals_at h
    refine ⟨by simp [h1], fun i a e => ?_⟩
    cases i with
    | zero => simp at e; subst e; exact ⟨_, rfl, rfl⟩
    | succ i => simpa using h2 i a (by simpa using e)
  | .bor j :: as, r, vs, h => by
    simp only [argVals, Option.bind_eq_some_iff, Option.map_eq_some_iff] at h
    obtain ⟨p, hp, ws, h, rfl⟩ := h
    obtain ⟨h1, h2⟩ := argVals_at h
    refine ⟨by simp [h1], fun i a e => ?_⟩
    cases i with
    | zero => simp at e; subst e; exact ⟨p, rfl, hp⟩
    | succ i => simpa using h2 i a (by simpa using e)
theorem bors_mem : ∀ {as : List Arg} {j : Nat}, j ∈ bors as ↔ Arg.bor j ∈ as
  | [], j => by simp [bors]
  | .val v o :: as, j => by rw [bors, bors_mem]; simp
  | .bor k :: as, j => by rw [bors, List.mem_cons, List.mem_cons, bors_mem]; simp
theorem nodupB_at : ∀ {as : List Arg}, nodupB (bors as) = true → ∀ {i k : Nat} {j : Nat}, as[i]? = some (.bor j) → as[k]? = some (.bor j) → i = k
  | [], _, i, k, j, h, _ => by simp at h
  | .val v o :: as, h, i, k, j, h1, h2 => by
    rw [bors] at h
    cases i with
    | zero => simp at h1
    | succ i =>
      cases k with
      | zero => simp at h2
      | succ k => rw [nodupB_at (as := as) (j := j) h (i := i) (k := k) (by simpa using h1) (by simpa using h2)]
  | .bor l :: as, h, i, k, j, h1, h2 => by
    rw [bors, nodupB, Bool.and_eq_true, Bool.not_eq_true'] at h
    have hl : ¬ Arg.bor l ∈ as := fun m => by
      have := h.1
      rw [List.contains_iff_mem.mpr (bors_mem.mpr m)] at this; cases this
    cases i with
    | zero =>
      simp at h1; subst h1
      cases k with
      | zero => rfl
      | succ k => exact absurd (List.mem_of_getElem? (by simpa using h2)) hl
    | succ i =>
      cases k with
      | zero => simp at h2; subst h2; exact absurd (List.mem_of_getElem? (by simpa using h1)) hl
      | succ k => rw [nodupB_at (as := as) (j := j) h.2 (i := i) (k := k) (by simpa using h1) (by simpa using h2)]
/-- behind the call: a borrowed slot holds what came back, the others what they held -/
theorem wrBack_at : ∀ {as : List Arg} {vs : List (PV × Bool)} {r : Env}, nodupB (bors as) = true → vs.length = as.length → (wrBack as vs r).length = r.length ∧ (∀ j : Nat, Arg.bor j ∉ as → get (wrBack as vs r) j = get r j) ∧
    ∀ (i j : Nat), as[i]? = some (Arg.bor j) → j < r.length → get (wrBack as vs r) j = vs[i]?
  | [], vs, r, _, _ => by
    refine ⟨by cases vs <;> rfl, fun j _ => by cases vs <;> rfl, fun i j h => by simp at h⟩
  | .val v o :: as, [], r, _, hl => by simp at hl
  | .val v o :: as, p :: vs, r, h, hl => by
    rw [bors] at h
    obtain ⟨h1, h2, h3⟩ := wrBack_at (vs := vs) (r := r) h (by simpa using hl)
    refine ⟨h1, fun j m => h2 j fun z => m (List.mem_cons_of_mem _ z), fun i j e z => ?_⟩
    cases i with
    | zero => simp at e
    | succ i => exact (h3 i j (by simpa using e) z).trans (by simp)
  | .bor l :: as, [], r, _, hl => by simp at hl
  | .bor l :: as, p :: vs, r, h, hl => by
    rw [bors, nodupB, Bool.and_eq_true, Bool.not_eq_true'] at h
    have hm : ¬ Arg.bor l ∈ as := fun m => by
      have := h.1
      rw [List.contains_iff_mem.mpr (bors_mem.mpr m)] at this; cases this
    obtain ⟨h1, h2, h3⟩ := wrBack_at (vs := vs) (r := r.set l (some p)) h.2 (by simpa using hl)
    rw [wrBack]
    refine ⟨by rw [h1, List.length_set], fun j m => ?_, fun i j e z => ?_⟩
    · rw [h2 j fun z => m (List.mem_cons_of_mem _ z), get_set, if_neg fun z => m (by rw [z.1]; exact List.mem_cons_self)]
    · cases i with
      | zero =>
        simp at e; subst e
        rw [h2 l hm, get_set, if_pos ⟨rfl, z⟩]; rfl
      | succ i =>
        rw [h3 i j (by simpa using e) (by rw [List.length_set]; exact z)]; rfl
/-- the callee's objects: what is lent, what is given -/
def fpArg (as : List Arg) (fp qs : FP) : FP := fun i =>
  match as[i]? with
  | some (.bor j) => fp j
  | some (.val _ _) => qs i
  | none => none1
theorem relA_of {as : List Arg} {us : List V} {qs : FP} {vs : List (PV × Bool)} (R : Rel C F fp r σ H) (A : Args C F fp H σ as us qs) (nd : nodupB (bors as) = true) (hv : argVals as r = some vs) : RelA C F (fpArg as fp qs) vs us H := by
  obtain ⟨l1, l2⟩ := argVals_at hv
  have at_ : ∀ i p, vs[i]? = some p → ∃ a, as[i]? = some a := fun i p e => by
    have : i < as.length := by rw [← l1]; exact (List.getElem?_eq_some_iff.mp e).1
    exact ⟨_, List.getElem?_eq_getElem this⟩
  refine ⟨by rw [List.length_map, List.length_map, l1, A.len], fun i v o e => ?_, fun i e a z => ?_, fun i j a hi hj => ?_, fun i a hi => ?_, R.ff⟩
  · rw [get_map] at e
    obtain ⟨a, ha⟩ := at_ i _ e
    obtain ⟨u, hu, ao⟩ := A.ok i a ha
    obtain ⟨p, hp, q⟩ := l2 i a ha
    rw [e] at hp; cases hp
    refine ⟨u, at_map.mpr hu, ?_⟩
    unfold fpArg
    cases a with
    | val w o' =>
      have q : (v, o) = (w, o') := q
      cases q
      rw [ha]
      exact ao
    | bor j =>
      have q : get r j = some (v, o) := q
      rw [ha]
      obtain ⟨u', e1, h⟩ := R.sm j v o q
      rw [ao.1] at e1; cases e1
      exact h
  · rw [get_map] at e
    unfold fpArg at z
    cases ha : as[i]? with
    | none => rw [ha] at z; exact z
    | some b =>
      obtain ⟨p, hp, _⟩ := l2 i b ha
      rw [e] at hp; cases hp
  · unfold fpArg at hi hj
    cases ha : as[i]? with
    | none => rw [ha] at hi; exact hi.elim
    | some b =>
      cases hb : as[j]? with
      | none => rw [hb] at hj; exact hj.elim
      | some c =>
        rw [ha] at hi; rw [hb] at hj
        cases b with
        | val _ _ =>
          cases c with
          | val _ _ => exact A.dis i j a hi hj
          | bor k => exact absurd hj ((A.sep i).d k a hi)
        | bor l =>
          cases c with
          | val _ _ => exact absurd hi ((A.sep j).d l a hj)
          | bor k =>
            obtain rfl := R.dis l k a hi hj
            exact nodupB_at nd ha hb
  · unfold fpArg at hi
    cases ha : as[i]? with
    | none => rw [ha] at hi; exact hi.elim
    | some b =>
      rw [ha] at hi
      cases b with
      | val _ _ => exact (A.sep i).f a hi
      | bor l => exact R.nof l a hi
/-- the caller's state behind the call -/
theorem call_back {as : List Arg} {us : List V} {qs : FP} {vs vs' : List (PV × Bool)} (R : Rel C F fp r σ H) (A : Args C F fp H σ as us qs) (nd : nodupB (bors as) = true) (hv : argVals as r = some vs) (E : Ext F (fpArg as fp qs) H F' fp' H') (R' : RelA C F' fp' vs' us H')
    (E0 : Ext F0 fp0 H0 F fp H) (n : ∀ i a, qs i a → (∃ i, fp0 i a) ∨ H0 a = none) :
    ∃ fp2, Ext F0 fp0 H0 F' fp2 H' ∧ Rel C F' fp2 (wrBack as vs' r) σ H' ∧ (∀ q : AS, Sep F' fp' q → (∀ a, q a → (∃ i, fpArg as fp qs i a) ∨ H a = none) → Sep F' fp2 q ∧ ∀ a, q a → (∃ i, fp0 i a) ∨ H0 a = none) := by
  have RA := relA_of R A nd hv
  obtain ⟨l1, l2⟩ := argVals_at hv
  have hl : vs'.length = as.length := by
    have := R'.len
    rw [List.length_map, List.length_map, A.len] at this
    exact this
  obtain ⟨w1, w2, w3⟩ := wrBack_at (vs := vs') (r := r) nd hl
  have slot : ∀ (i j : Nat), as[i]? = some (Arg.bor j) → j < r.length := fun i j e => by
    obtain ⟨p, _, q⟩ := l2 i _ e
    exact get_lt q
  -- nothing of the callee is another slot's
  have apart : ∀ i j a, fpArg as fp qs i a → Arg.bor j ∉ as → ¬ fp j a := fun i j a h m z => by
    unfold fpArg at h
    cases ha : as[i]? with
    | none => rw [ha] at h; exact h
    | some b =>
      rw [ha] at h
      cases b with
      | val _ _ => exact (A.sep i).d j a h z
      | bor l =>
        obtain rfl := R.dis l j a h z
        exact m (List.mem_of_getElem? ha)
  have back0 : ∀ a, (∃ i, fpArg as fp qs i a) → (∃ i, fp0 i a) ∨ H0 a = none := fun a ⟨i, h⟩ => by
    unfold fpArg at h
    cases ha : as[i]? with
    | none => rw [ha] at h; exact h.elim
    | some b =>
      rw [ha] at h
      cases b with
      | val _ _ => exact n i a h
      | bor l => exact E0.pn l a h
  refine ⟨fun j a => (∃ i, as[i]? = some (.bor j) ∧ fp' i a) ∨ (Arg.bor j ∉ as ∧ fp j a), ⟨fun a o e no => ?_, fun a h => E.fm a (E0.fm a h), fun a h => ?_, fun j a h => ?_⟩, ⟨by rw [w1]; exact R.len, fun j v o e => ?_, fun j e a h => ?_, fun j k a hj hk => ?_, fun j a hj => ?_, R'.ff⟩, fun q s nq => ⟨⟨fun j a hq hj => ?_, s.f⟩, fun a hq => ?_⟩⟩
  · refine E.keep a o (E0.keep a o e no) fun i hi => ?_
    rcases back0 a ⟨i, hi⟩ with ⟨j, z⟩ | z
    · exact no j z
    · rw [e] at z; cases z
  · rcases E.fn a h with h | h | h
    · exact E0.fn a h
    · rcases back0 a h with z | z
      · exact .inr (.inl z)
      · exact .inr (.inr z)
    · rcases E0.none_ h with z | z
      · exact .inr (.inl z)
      · exact .inr (.inr z)
  · rcases h with ⟨i, _, h⟩ | ⟨_, h⟩
    · rcases E.pn i a h with h | h
      · exact back0 a h
      · exact E0.none_ h
    · exact E0.pn j a h
  · by_cases m : Arg.bor j ∈ as
    · obtain ⟨i, hi⟩ := List.getElem?_of_mem m
      rw [w3 i j hi (slot i j hi)] at e
      obtain ⟨u, hu, h⟩ := R'.sm i v o (by rw [get_map]; exact e)
      obtain ⟨u', hu', ao⟩ := A.ok i _ hi
      rw [at_map] at hu
      rw [hu] at hu'; cases hu'
      refine ⟨u, ao.1, ?_⟩
      have ef : (fun a => (∃ i, as[i]? = some (.bor j) ∧ fp' i a) ∨ (Arg.bor j ∉ as ∧ fp j a)) = fp' i := funext fun a => propext ⟨fun z => by
        rcases z with ⟨k, hk, z⟩ | ⟨z, _⟩
        · rw [nodupB_at nd hi hk]; exact z
        · exact absurd m z, fun z => .inl ⟨i, hi, z⟩⟩
      show (o = true ∧ Own C F' H' v u (fun a => _)) ∨ (o = false ∧ Imm C F' H' v u ∧ ∀ a, ¬ _)
      rw [ef]
      rcases h with ⟨ho, h⟩ | ⟨ho, h, no⟩
      · exact .inl ⟨ho, h⟩
      · refine .inr ⟨ho, h, fun a z => ?_⟩
        rcases z with ⟨k, hk, z⟩ | ⟨z, _⟩
        · rw [← nodupB_at nd hi hk] at z; exact no a z
        · exact absurd m z
    · rw [w2 j m] at e
      obtain ⟨u, hu, h⟩ := R.sm j v o e
      refine ⟨u, hu, ?_⟩
      have ef : (fun a => (∃ i, as[i]? = some (.bor j) ∧ fp' i a) ∨ (Arg.bor j ∉ as ∧ fp j a)) = fp j := funext fun a => propext ⟨fun z => by
        rcases z with ⟨k, hk, z⟩ | ⟨_, z⟩
        · exact absurd (List.mem_of_getElem? hk) m
        · exact z, fun z => .inr ⟨m, z⟩⟩
      rcases h with ⟨ho, h⟩ | ⟨ho, h, no⟩
      · refine .inl ⟨ho, ?_⟩
        show Own C F' H' v u (fun a => _)
        rw [ef]
        exact h.mono (E.mono RA) fun a o ha e => E.keep a o e fun i hi => apart i j a hi m ha
      · refine .inr ⟨ho, Imm.mono (E.mono RA) _ _ h, fun a z => ?_⟩
        rcases z with ⟨k, hk, z⟩ | ⟨_, z⟩
        · exact absurd (List.mem_of_getElem? hk) m
        · exact no a z
  · rcases h with ⟨i, hi, h⟩ | ⟨m, h⟩
    · rw [w3 i j hi (slot i j hi)] at e
      exact R'.nn i (by rw [get_map]; exact e) a h
    · rw [w2 j m] at e
      exact R.nn j e a h
  · rcases hj with ⟨i, hi, hj⟩ | ⟨m, hj⟩ <;> rcases hk with ⟨l, hl, hk⟩ | ⟨m', hk⟩
    · obtain rfl := R'.dis i l a hj hk
      rw [hi] at hl; cases hl; rfl
    · exfalso
      obtain ⟨o, e, _⟩ := R.mutO hk
      rcases E.pn i a hj with ⟨t, z⟩ | z
      · exact apart t k a z m' hk
      · rw [e] at z; cases z
    · exfalso
      obtain ⟨o, e, _⟩ := R.mutO hj
      rcases E.pn l a hk with ⟨t, z⟩ | z
      · exact apart t j a z m hj
      · rw [e] at z; cases z
    · exact R.dis j k a hj hk
  · rcases hj with ⟨i, hi, hj⟩ | ⟨m, hj⟩
    · exact R'.nof i a hj
    · intro z
      obtain ⟨o, e, _⟩ := R.mutO hj
      rcases E.fn a z with z | ⟨t, z⟩ | z
      · exact R.nof j a hj z
      · exact apart t j a z m hj
      · rw [e] at z; cases z
  · rcases hj with ⟨i, hi, hj⟩ | ⟨m, hj⟩
    · exact s.d i a hq hj
    · obtain ⟨o, e, _⟩ := R.mutO hj
      rcases nq a hq with ⟨t, z⟩ | z
      · exact apart t j a z m hj
      · rw [e] at z; cases z
  · rcases nq a hq with z | z
    · exact back0 a z
    · exact E0.none_ z
/-- how X takes exceptions -/
def XOk (C : Cn) (X : Cx) (Xw : XW) (W : WX) : Prop := L2N.Takes X W ∧ ∀ c r F fp σ H, Xw c r F fp σ H → W (.ref (C.clA c)) none σ H
variable {T : Tab} {P : Fns} {W : WX}
/-- a call's reading -/
theorem call_sp {as : List Arg} {us : List V} {qs : FP} {fn : Nat} {Q : VK} (hx : XOk C X Xw W) (R : Rel C F fp r σ H) (A : Args C F fp H σ as us qs) (E0 : Ext F0 fp0 H0 F fp H) (n : ∀ i a, qs i a → (∃ i, fp0 i a) ∨ H0 a = none)
    (g : Good (doCall P fn as r) (OkV C F0 fp0 H0 σ Q) (OkX C Xw F0 fp0 H0 σ)) : spF C P fn us H Q (WE W σ) := by
  unfold doCall at g
  split at g
  · rename_i nd
    split at g
    · rename_i vs hv
      refine ⟨F, fpArg as fp qs, vs, relA_of R A nd hv, ?_⟩
      split at g
      · rename_i v o vs' e
        try rw [e]
        intro F' fp' H' u q E R' rv s nq
        obtain ⟨fp2, E2, R2, hq⟩ := call_back R A nd hv E R' E0 n
        obtain ⟨s2, n2⟩ := hq q s nq
        refine g F' fp2 H' u q E2 R2 ?_ s2 n2
        cases o <;> exact rv
      · rename_i c vs' e
        try rw [e]
        intro F' fp' H' E R'
        obtain ⟨fp2, E2, R2, _⟩ := call_back R A nd hv E R' E0 n
        exact hx.2 _ _ _ _ _ _ (g F' fp2 H' E2 R2)
      · exact g.elim
    · exact g.elim
  · exact g.elim
theorem call_rd {fn : Nat} {m : Env → R (List Arg)} {Q : VK} (hx : XOk C X Xw W) (h : tE C Xw (fun r => (m r).bind fun as r => doCall P fn as r) σ H Q) : tCallS (spF C P fn) (WE W) (tAr C Xw m) σ H Q := by
  obtain ⟨F, fp, r, R, g⟩ := h
  refine ⟨F, fp, r, R, g.bind.mono (fun as r1 g1 F1 fp1 H1 us qs E R1 A n => ?_) fun _ _ z => z⟩
  exact call_sp hx R1 A E n g1
theorem ev_call {k fn : Nat} {f : Addr} {fd : FuncData} {ps : List Str} {x : Str} {e : Expr} {es : List Expr} {p pos : Pos} {xs : List Ex} (hx : XOk C X Xw W) (F : FnOk X.prog X.w X.K X.mg X.base (L2N.CX X.prog X.w) k f fd ps (spF C P fn)) (hr : Room k X.A) (hg : Gl X x) (hm : X.mg x = some (.ref f)) (hk : PySem.W.keepIn X.K (.ref f) = true) (hb : Binds X.K fd ps [])
    (ha : PA X (e :: es) (tAr C Xw (evA T P xs))) (hdb : (x == ("__debug__" : Str)) = false := by decide) (he : starEach (e :: es) X.env = (false, eval e X.env) :: starEach es X.env := by rfl) (hpl : (backTo pos (starEach es X.env)).any (·.1) = false := by rfl) :
    PE X (.Call (.Name x p) (e :: es) [] pos) (tE C Xw (ev T P (.call fn xs))) :=
  peW (pe_callS F hr hg hm hk hb (fun σ => L2N.passAt hx.1 σ) ha hdb he hpl) fun σ H Q q => call_rd hx (tE_cast (fun r => by rw [ev]) q)
end
end PL

set_option Elab.async false
set_option linter.all false
set_option maxRecDepth 100000
set_option maxHeartbeats 1000000
namespace PL
open PySem L2 PV PySem.SeqAt PyProof.Rows

/-- the slots in kp hold what they held -/
def SameK (kp : Nat → Bool) (σ σ' : L2.St) : Prop := σ'.length = σ.length ∧ ∀ i, kp i = true → σ'[i]? = σ[i]?
theorem SameK.refl {kp : Nat → Bool} {σ : L2.St} : SameK kp σ σ := ⟨rfl, fun _ _ => rfl⟩
theorem SameK.trans {kp : Nat → Bool} {σ σ' σ'' : L2.St} (a : SameK kp σ σ') (b : SameK kp σ' σ'') : SameK kp σ σ'' := ⟨b.1.trans a.1, fun i h => (b.2 i h).trans (a.2 i h)⟩
theorem SameK.set {kp : Nat → Bool} {σ : L2.St} {i : Nat} {x : Option V} (h : kp i = false) : SameK kp σ (σ.set i x) := ⟨by rw [List.length_set], fun j hj => by
  rw [List.getElem?_set_ne (by rintro rfl; rw [h] at hj; cases hj)]⟩

section
variable {C : Cn} {kp : Nat → Bool} {Xw : XW} {X : Cx} {F F1 F2 F0 F' : AS} {fp fp1 fp2 fp0 fp' : FP} {r r1 r2 r' : Env} {σ σ' : L2.St} {H H1 H2 H0 H' : Hp} {v : PV} {u : V} {q : AS} {f : Fl} {o : Bool}
/-- a value goes to a slot -/
theorem Rel.put (R : Rel C F fp r σ H) (i : Nat) (h : (o = true ∧ Own C F H v u q) ∨ (o = false ∧ Imm C F H v u ∧ ∀ a, ¬ q a)) (s : Sep F fp q) :
    Rel C F (fun j a => (j = i ∧ q a ∧ i < r.length) ∨ (j ≠ i ∧ fp j a)) (r.set i (some (v, o))) (σ.set i (some u)) H := by
  refine ⟨by rw [List.length_set, List.length_set]; exact R.len, fun j w o' e => ?_, fun j e a z => ?_, fun j k a hj hk => ?_, fun j a hj => ?_, R.ff⟩
  · rw [get_set] at e
    by_cases c : i = j ∧ i < r.length
    · rw [if_pos c] at e
      cases e
      obtain ⟨rfl, hl⟩ := c
      refine ⟨u, by rw [List.getElem?_set_self (by rw [← R.len]; exact hl)], ?_⟩
      have ef : (fun a => (i = i ∧ q a ∧ i < r.length) ∨ (i ≠ i ∧ fp i a)) = q := funext fun a => propext ⟨fun z => by
        rcases z with z | z
        · exact z.2.1
        · exact absurd rfl z.1, fun z => .inl ⟨rfl, z, hl⟩⟩
      rcases h with ⟨ho, h⟩ | ⟨ho, h, no⟩
      · exact .inl ⟨ho, by show Own C F H v u (fun a => _); rw [ef]; exact h⟩
      · refine .inr ⟨ho, h, fun a z => ?_⟩
        rcases z with z | z
        · exact no a z.2.1
        · exact z.1 rfl
    · rw [if_neg c] at e
      have hij : j ≠ i := fun z => c ⟨z.symm, by rw [← z]; exact get_lt e⟩
      obtain ⟨u', q1, q2⟩ := R.sm j w o' e
      refine ⟨u', by rw [List.getElem?_set_ne (Ne.symm hij)]; exact q1, ?_⟩
      have ef : (fun a => (j = i ∧ q a ∧ i < r.length) ∨ (j ≠ i ∧ fp j a)) = fp j := funext fun a => propext ⟨fun z => by
        rcases z with z | z
        · exact absurd z.1 hij
        · exact z.2, fun z => .inr ⟨hij, z⟩⟩
      rcases q2 with ⟨ho, h⟩ | ⟨ho, h, no⟩
      · exact .inl ⟨ho, by show Own C F H w u' (fun a => _); rw [ef]; exact h⟩
      · refine .inr ⟨ho, h, fun a z => ?_⟩
        rcases z with z | z
        · exact hij z.1
        · exact no a z.2
  · rw [get_set] at e
    by_cases c : i = j ∧ i < r.length
    · rw [if_pos c] at e; cases e
    · rw [if_neg c] at e
      rcases z with z | z
      · exact c ⟨z.1.symm, z.2.2⟩
      · exact R.nn j e a z.2
  · rcases hj with hj | hj <;> rcases hk with hk | hk
    · rw [hj.1, hk.1]
    · exact absurd hk.2 (s.d k a hj.2.1)
    · exact absurd hj.2 (s.d j a hk.2.1)
    · exact R.dis j k a hj.2 hk.2
  · rcases hj with hj | hj
    · exact s.f a hj.2.1
    · exact R.nof j a hj.2
theorem Ext.put (E : Ext F0 fp0 H0 F fp H) {i : Nat} {p : Prop} (n : ∀ a, q a → (∃ i, fp0 i a) ∨ H0 a = none) : Ext F0 fp0 H0 F (fun j a => (j = i ∧ q a ∧ p) ∨ (j ≠ i ∧ fp j a)) H :=
  ⟨E.keep, E.fm, E.fn, fun j a z => by
    rcases z with z | z
    · exact n a z.2.1
    · exact E.pn j a z.2⟩
/-- setS, setting a name -/
theorem setS_ok {i : Nat} (R : Rel C F fp r σ H) (rv : RV C F H r σ v f u q) (s : Sep F fp q) (n : ∀ a, q a → (∃ i, fp0 i a) ∨ H0 a = none) (E : Ext F0 fp0 H0 F fp H) (h : setS i v f r = some r') :
    ∃ F' fp', Ext F0 fp0 H0 F' fp' H ∧ Rel C F' fp' r' (σ.set i (some u)) H ∧ ∀ a, F a → F' a := by
  unfold setS at h
  cases hm : v.isM with
  | false =>
    simp only [hm, Bool.false_eq_true, if_false, Option.some.injEq] at h
    subst h
    have ow : Own C F H v u none1 := Imm.own hm ((RV.sh R rv).imm hm)
    exact ⟨F, _, E.put (q := none1) (i := i) (p := i < r.length) (fun _ z => z.elim), R.put i (.inl ⟨rfl, ow⟩) ⟨fun _ _ z => z.elim, fun _ z => z.elim⟩, fun _ z => z⟩
  | true =>
    simp only [hm, if_true] at h
    cases f with
    | own =>
      cases h
      exact ⟨F, _, E.put (i := i) (p := i < r.length) n, R.put i (.inl ⟨rfl, rv⟩) s, fun _ z => z⟩
    | frz =>
      cases h
      exact ⟨F, _, E.put (i := i) (p := i < r.length) n, R.put i (.inr ⟨rfl, rv.1, rv.2⟩) s, fun _ z => z⟩
    | al j =>
      simp only [Option.map_eq_some_iff] at h
      obtain ⟨r2, h, rfl⟩ := h
      obtain ⟨_, e, e1, no⟩ := rv
      obtain ⟨F2, fp2, E2, R2, _, _, l, o, e', im⟩ := frz_ok R h
      rw [e] at e'; cases e'
      have hl : r2.length = r.length := R2.len.trans R.len.symm
      refine ⟨F2, _, (E.trans E2).put (q := none1) (i := i) (p := i < r2.length) (fun _ z => z.elim), R2.put i (.inr ⟨rfl, im u e1, fun _ z => z⟩) ⟨fun _ _ z => z.elim, fun _ z => z.elim⟩, E2.fm⟩
    | alf j => cases h

/-! ### targets -/
def gTL (K : PySem.W.Frag) (n : Nat) (t : TGs) : TG := fun v σ H Q => ∃ a xs, v = .ref a ∧ (SqT K H a xs ∨ SqL K H a xs) ∧ xs.length = n ∧ t xs σ H Q
theorem pg_TL {es : List Expr} {k : Nat} {t : TGs} {n : Nat} {pos : Pos} (hc : X.calm = true) (h : PGs X es t)
    (hn : (assignEach es X.env).length = n := by rfl) (hst : (assignEach es X.env).findIdx? (·.1) = none := by rfl) : PG X (.Tuple es k pos) (gTL X.K n t) := by
  refine ⟨fun pins s σ H v u Q I r hw => ?_⟩
  obtain ⟨a, xs, e1, hq, hl, hw⟩ := hw
  rcases hq with hq | hq
  · exact (pg_tup hc h hn hst).run pins s σ H v u Q I r ⟨a, xs, e1, hq, hl, hw⟩
  · exact (pg_lst hc h hn hst).run pins s σ H v u Q I r ⟨a, xs, e1, hq, hl, hw⟩
mutual
def gT (K : PySem.W.Frag) : Tg → TG
  | .nm i => gName i
  | .tp ts => gTL K ts.length (gTs K ts)
def gTs (K : PySem.W.Frag) : List Tg → TGs
  | [] => gNil
  | t :: ts => gCons (gT K t) (gTs K ts)
end
mutual
def tgK (kp : Nat → Bool) : Tg → Bool
  | .nm i => !kp i
  | .tp ts => tgKs kp ts
def tgKs (kp : Nat → Bool) : List Tg → Bool
  | [] => true
  | t :: ts => tgK kp t && tgKs kp ts
end
theorem assigns_len : ∀ {ts : List Tg} {vs : List PV} {r r' : Env}, assigns ts vs r = some r' → vs.length = ts.length
  | [], [], _, _, _ => rfl
  | [], _ :: _, _, _, h => by simp [assigns] at h
  | _ :: _, [], _, _, h => by simp [assigns] at h
  | t :: ts, v :: vs, r, r', h => by
    rw [assigns, Option.bind_eq_some_iff] at h
    obtain ⟨r1, _, h⟩ := h
    rw [List.length_cons, List.length_cons, assigns_len h]
mutual
theorem assign_ok : ∀ (t : Tg) (v : PV) (f : Fl) (r r' : Env) (σ : L2.St) (F : AS) (fp : FP) (u : V) (q : AS), tgK kp t = true → Rel C F fp r σ H → RV C F H r σ v f u q → Sep F fp q → (∀ a, q a → (∃ i, fp0 i a) ∨ H0 a = none) → Ext F0 fp0 H0 F fp H → PL.assign t v f r = some r' →
    ∀ N : L2.St → Hp → Prop, (∀ σ' F' fp', Ext F0 fp0 H0 F' fp' H → Rel C F' fp' r' σ' H → SameK kp σ σ' → (∀ a, F a → F' a) → N σ' H) → gT C.K t u σ H N
  | .nm i, v, f, r, r', σ, F, fp, u, q, hk, R, rv, s, n, E, h, N, hN => by
    rw [PL.assign] at h
    obtain ⟨F', fp', E', R', fm⟩ := setS_ok (i := i) R rv s n E h
    rw [tgK, Bool.not_eq_true'] at hk
    rw [gT]
    exact hN _ F' fp' E' R' (.set hk) fm
  | .tp ts, v, f, r, r', σ, F, fp, u, q, hk, R, rv, s, n, E, h, N, hN => by
    rw [tgK] at hk
    rw [gT]
    cases v with
    | tup l =>
      rw [PL.assign] at h
      obtain ⟨a, xs, rfl, h1, i1⟩ := (RV.sh R rv).tup
      exact ⟨a, xs, rfl, .inl h1, by rw [Imms.length i1, assigns_len h], assigns_ok ts l r r' σ F fp xs hk R i1 E h N hN⟩
    | lst l =>
      rw [PL.assign] at h
      split at h
      · obtain ⟨a, xs, rfl, h1, i1⟩ := (RV.sh R rv).lst
        exact ⟨a, xs, rfl, .inr h1, by rw [Imms.length i1, assigns_len h], assigns_ok ts l r r' σ F fp xs hk R i1 E h N hN⟩
      · cases h
    | _ => simp [PL.assign] at h
theorem assigns_ok : ∀ (ts : List Tg) (vs : List PV) (r r' : Env) (σ : L2.St) (F : AS) (fp : FP) (us : List V), tgKs kp ts = true → Rel C F fp r σ H → Imms C F H vs us → Ext F0 fp0 H0 F fp H → assigns ts vs r = some r' →
    ∀ N : L2.St → Hp → Prop, (∀ σ' F' fp', Ext F0 fp0 H0 F' fp' H → Rel C F' fp' r' σ' H → SameK kp σ σ' → (∀ a, F a → F' a) → N σ' H) → gTs C.K ts us σ H N
  | [], [], r, r', σ, F, fp, us, hk, R, i, E, h, N, hN => by
    rw [Imms.nil_iff] at i
    rw [assigns] at h
    cases h
    rw [gTs]
    exact ⟨i, hN σ F fp E R .refl fun _ z => z⟩
  | [], _ :: _, r, r', σ, F, fp, us, hk, R, i, E, h, N, hN => by simp [assigns] at h
  | _ :: _, [], r, r', σ, F, fp, us, hk, R, i, E, h, N, hN => by simp [assigns] at h
  | t :: ts, v :: vs, r, r', σ, F, fp, us, hk, R, i, E, h, N, hN => by
    rw [tgKs, Bool.and_eq_true] at hk
    rw [Imms] at i
    obtain ⟨u, us', rfl, i1, i2⟩ := i
    rw [assigns, Option.bind_eq_some_iff] at h
    obtain ⟨r1, h1, h2⟩ := h
    rw [gTs]
    refine ⟨u, us', rfl, assign_ok t v .frz r r1 σ F fp u none1 hk.1 R ⟨i1, fun _ z => z⟩ ⟨fun _ _ z => z.elim, fun _ z => z.elim⟩ (fun _ z => z.elim) E h1 _ fun σ1 F1 fp1 E1 R1 K1 fm => ?_⟩
    exact assigns_ok ts vs r1 r' σ1 F1 fp1 us' hk.2 R1 (Imms.mono ⟨fm, fun _ _ z => z, fun _ _ _ z => z⟩ _ _ i2) E1 h2 N fun σ' F' fp' E' R' K' fm' => hN σ' F' fp' E' R' (K1.trans K') fun a z => fm' a (fm a z)
end

/-! ### what is wanted behind a statement -/
def OkS (C : Cn) (kp : Nat → Bool) (F : AS) (fp : FP) (H : Hp) (σ : L2.St) (D : Ends) (fl : PL.Flow) (r' : Env) : Prop :=
  match fl with
  | .nx => ∀ F' fp' H' σ', Ext F fp H F' fp' H' → Rel C F' fp' r' σ' H' → SameK kp σ σ' → D.nx σ' H'
  | .bk => ∀ F' fp' H' σ', Ext F fp H F' fp' H' → Rel C F' fp' r' σ' H' → SameK kp σ σ' → D.bk σ' H'
  | .rt v f => ∀ F' fp' H' σ' u q, Ext F fp H F' fp' H' → Rel C F' fp' r' σ' H' → SameK kp σ σ' → RV C F' H' r' σ' v f u q → Sep F' fp' q → (∀ a, q a → (∃ i, fp i a) ∨ H a = none) → D.rt u H'
def OkXS (C : Cn) (kp : Nat → Bool) (Xw : XW) (F : AS) (fp : FP) (H : Hp) (σ : L2.St) (c : Nat) (r' : Env) : Prop :=
  ∀ F' fp' H' σ', Ext F fp H F' fp' H' → Rel C F' fp' r' σ' H' → SameK kp σ σ' → Xw c r' F' fp' σ' H'
def tS (C : Cn) (kp : Nat → Bool) (Xw : XW) (m : Env → PL.R PL.Flow) : TS := fun D σ H => ∃ F fp r, Rel C F fp r σ H ∧ Good (m r) (OkS C kp F fp H σ D) (OkXS C kp Xw F fp H σ)
theorem OkS.later {D : Ends} {fl : PL.Flow} (E : Ext F fp H F' fp' H') (K : SameK kp σ σ') (h : OkS C kp F fp H σ D fl r') : OkS C kp F' fp' H' σ' D fl r' := by
  cases fl with
  | nx => exact fun F'' fp'' H'' σ'' e R k => h F'' fp'' H'' σ'' (E.trans e) R (K.trans k)
  | bk => exact fun F'' fp'' H'' σ'' e R k => h F'' fp'' H'' σ'' (E.trans e) R (K.trans k)
  | rt v f => exact fun F'' fp'' H'' σ'' u q e R k rv s n => h F'' fp'' H'' σ'' u q (E.trans e) R (K.trans k) rv s fun a qa => (n a qa).elim (fun ⟨i, z⟩ => E.pn i a z) fun z => E.none_ z
theorem OkXS.later {c : Nat} (E : Ext F fp H F' fp' H') (K : SameK kp σ σ') (h : OkXS C kp Xw F fp H σ c r') : OkXS C kp Xw F' fp' H' σ' c r' := fun F'' fp'' H'' σ'' e R k => h F'' fp'' H'' σ'' (E.trans e) R (K.trans k)
theorem OkXS.ex {c : Nat} (h : OkXS C kp Xw F fp H σ c r') : OkX C Xw F fp H σ c r' := fun F' fp' H' e R => h F' fp' H' σ e R .refl
theorem tS_cast {m m' : Env → PL.R PL.Flow} (h : ∀ r, m r = m' r) {D : Ends} (q : tS C kp Xw m D σ H) : tS C kp Xw m' D σ H := by
  have : m = m' := funext h
  rw [← this]; exact q
def seqR (x : PL.R PL.Flow) (m2 : Env → PL.R PL.Flow) : PL.R PL.Flow :=
  match x with
  | .ok .nx r' => m2 r'
  | x => x
theorem tS_seq {m1 m2 : Env → PL.R PL.Flow} {D : Ends} (h : tS C kp Xw (fun r => seqR (m1 r) m2) D σ H) : tSeq (tS C kp Xw m1) (tS C kp Xw m2) D σ H := by
  obtain ⟨F, fp, r, R, g⟩ := h
  refine ⟨F, fp, r, R, ?_⟩
  have g : Good (seqR (m1 r) m2) (OkS C kp F fp H σ D) (OkXS C kp Xw F fp H σ) := g
  cases e : m1 r with
  | bad => rw [e] at g; exact g
  | exc c r1 => rw [e] at g; exact g
  | ok fl r1 =>
    rw [e] at g
    cases fl with
    | bk => exact g
    | rt v f => exact g
    | nx => exact fun F1 fp1 H1 σ1 E R1 K => ⟨F1, fp1, r1, R1, Good.mono (x := m2 r1) g (fun _ _ z => z.later E K) fun _ _ z => z.later E K⟩
variable {T : Tab} {P : Fns}
theorem exs_nil : PSs X [] (tS C kp Xw (exs T P [])) := pssW pss_nil fun D σ H q => by
  obtain ⟨F, fp, r, R, g⟩ := q
  rw [exs] at g
  exact g F fp H σ .refl R .refl
theorem exs_cons {st : Stmt} {rest : List Stmt} {s : PL.St} {ss : List PL.St} (h1 : PS X st (tS C kp Xw (ex T P s))) (h2 : PSs X rest (tS C kp Xw (exs T P ss))) : PSs X (st :: rest) (tS C kp Xw (exs T P (s :: ss))) :=
  pssW (pss_cons h1 h2) fun D σ H q => tS_seq (tS_cast (fun r => by
    rw [exs]
    cases ex T P s r with
    | ok fl r1 => cases fl <;> rfl
    | exc c r1 => rfl
    | bad => rfl) q)
theorem ex_pass {pos : Pos} : PS X (.Pass pos) (tS C kp Xw (ex T P .pass)) := psW ps_pass fun D σ H q => by
  obtain ⟨F, fp, r, R, g⟩ := q
  rw [ex] at g
  exact g F fp H σ .refl R .refl
theorem ex_brk {pos : Pos} : PS X (.Break pos) (tS C kp Xw (ex T P .brk)) := psW ps_break fun D σ H q => by
  obtain ⟨F, fp, r, R, g⟩ := q
  rw [ex] at g
  exact g F fp H σ .refl R .refl
theorem ex_doc {x j pos pos'} : PS X (.Expr (.Constant (.str x) j pos) pos') (tS C kp Xw (ex T P .pass)) := psW ps_doc fun D σ H q => by
  obtain ⟨F, fp, r, R, g⟩ := q
  rw [ex] at g
  exact g F fp H σ .refl R .refl
theorem ex_exp {e : Expr} {x : Ex} {pos : Pos} (he : PE X e (tE C Xw (ev T P x))) (hs : swapsWith e none pos.line X.env = pure false := by rfl) : PS X (.Expr e pos) (tS C kp Xw (ex T P (.exp x))) := psW (ps_expr he hs) fun D σ H q => by
  obtain ⟨F, fp, r, R, g⟩ := q
  rw [ex] at g
  refine ⟨F, fp, r, R, g.bind.mono (fun x r1 g1 F1 fp1 H1 u q E R1 v s n => ?_) fun _ _ z => z.ex⟩
  exact g1 F1 fp1 H1 σ E R1 .refl
theorem ex_ret {e : Expr} {x : Ex} {pos : Pos} (he : PE X e (tE C Xw (ev T P x))) : PS X (.Return (some e) pos) (tS C kp Xw (ex T P (.ret x))) := psW (ps_ret he) fun D σ H q => by
  obtain ⟨F, fp, r, R, g⟩ := q
  rw [ex] at g
  refine ⟨F, fp, r, R, g.bind.mono (fun x r1 g1 F1 fp1 H1 u q E R1 v s n => ?_) fun _ _ z => z.ex⟩
  exact g1 F1 fp1 H1 σ u q E R1 .refl v s n
theorem ex_retN {pos : Pos} : PS X (.Return none pos) (tS C kp Xw (ex T P (.ret (.const .non)))) := psW ps_retN fun D σ H q => by
  obtain ⟨F, fp, r, R, g⟩ := q
  rw [ex, ev] at g
  exact g F fp H σ .non none1 .refl R .refl (Imm.own (v := .non) rfl (by rw [Imm])) ⟨fun _ _ z => z.elim, fun _ z => z.elim⟩ fun _ z => z.elim
theorem tS_if {mc : Env → PL.R Bool} {ma mb : Env → PL.R PL.Flow} {D : Ends} (h : tS C kp Xw (fun r => (mc r).bind fun x r => if x then ma r else mb r) D σ H) : tIfS (tT C Xw mc) (tS C kp Xw ma) (tS C kp Xw mb) D σ H := by
  obtain ⟨F, fp, r, R, g⟩ := h
  refine ⟨F, fp, r, R, g.bind.mono (fun x r1 g1 F1 fp1 H1 E R1 => ?_) fun _ _ z => z.ex⟩
  cases x with
  | true => exact ⟨F1, fp1, r1, R1, Good.mono (x := ma r1) g1 (fun _ _ z => z.later E .refl) fun _ _ z => z.later E .refl⟩
  | false => exact ⟨F1, fp1, r1, R1, Good.mono (x := mb r1) g1 (fun _ _ z => z.later E .refl) fun _ _ z => z.later E .refl⟩
theorem ex_if {c : Expr} {a b : List Stmt} {pos : Pos} {ec : Ex} {sa sb : List PL.St} (hc : PT X c (tT C Xw (bT T P ec))) (ha : PSs X a (tS C kp Xw (exs T P sa))) (hb : PSs X b (tS C kp Xw (exs T P sb))) : PS X (.If c a b pos) (tS C kp Xw (ex T P (.ife ec sa sb))) :=
  psW (ps_if hc ha hb) fun D σ H q => tS_if (tS_cast (fun r => by rw [ex]) q)
/-- target = value -/
theorem asg_rd {t : Tg} {x : Ex} {D : Ends} (hk : tgK kp t = true) (q : tS C kp Xw (ex T P (.asg t x)) D σ H) : tAsg (tE C Xw (ev T P x)) (gT C.K t) D σ H := by
  obtain ⟨F, fp, r, R, g⟩ := q
  rw [ex] at g
  refine ⟨F, fp, r, R, g.bind.mono (fun x r1 g1 F1 fp1 H1 u q E R1 v s n => ?_) fun _ _ z => z.ex⟩
  obtain ⟨r2, h, g2⟩ := Good.of g1
  exact assign_ok t x.1 x.2 r1 r2 σ F1 fp1 u q hk R1 v s n E h D.nx fun σ' F' fp' E' R' K' _ => g2 F' fp' H1 σ' E' R' K'
theorem ex_set {i : Nat} {x : Str} {e : Expr} {xe : Ex} {pos pos' : Pos} (hk : kp i = false) (hN : X.N.Nodup) (hi : X.N[i]? = some x) (hx : Loc X.env.scope x) (he : PE X e (tE C Xw (ev T P xe))) (hs : swapsWith e (some (.Name x pos')) pos.line X.env = pure false := by rfl) (hf : X.fn x = true ∨ X.env.scope.names.lookup x = some .local := by first | exact .inl rfl | exact .inr rfl | assumption) :
    PS X (.Assign [.Name x pos'] e pos) (tS C kp Xw (ex T P (.asg (.nm i) xe))) :=
  psW (ps_set hN hi hx he hs hf) fun D σ H q => by
    have := asg_rd (t := .nm i) (by rw [tgK, hk]; rfl) q
    rwa [gT] at this
theorem ex_asg {t : Tg} {tg e : Expr} {xe : Ex} {pos : Pos} (f : Fit C X) (hk : tgK kp t = true) (he : PE X e (tE C Xw (ev T P xe))) (hg : PG X tg (gT X.K t)) (hs : swapsWithSole [tg] e pos.line X.env = pure false := by rfl) (hw : swappedStores [tg] e X.env = pure none := by rfl)
    (h1 : (assignEach [tg] X.env).map (·.2) = [PySem.assign tg X.env] := by rfl) : PS X (.Assign [tg] e pos) (tS C kp Xw (ex T P (.asg t xe))) :=
  psW (ps_asg he (f.K ▸ hg) hs hw h1) fun D σ H q => asg_rd hk q
end
end PL

set_option Elab.async false
set_option linter.all false
set_option maxRecDepth 100000
set_option maxHeartbeats 1000000
namespace PL
open PySem L2 PV PySem.SeqAt PyProof.Rows

section
variable {C : Cn} {kp : Nat → Bool} {Xw : XW} {X : Cx} {F F1 F2 F0 F' : AS} {fp fp1 fp2 fp0 fp' : FP} {r r1 r2 r' : Env} {σ σ' : L2.St} {H H1 H2 H0 H' : Hp} {v : PV} {u : V} {q : AS} {f : Fl} {o : Bool}
variable {T : Tab} {P : Fns}
/-! ### while -/
theorem tS_while {mc : Env → PL.R Bool} {mb : Env → PL.R PL.Flow} {D : Ends} {k : Nat} (h : tS C kp Xw (fun r => whileL mc mb k r) D σ H) : tWhile (tT C Xw mc) (tS C kp Xw mb) D σ H := by
  obtain ⟨F, fp, r, R, g⟩ := h
  refine ⟨fun m σ1 H1 => ∃ F1 fp1 r1, Ext F fp H F1 fp1 H1 ∧ SameK kp σ σ1 ∧ Rel C F1 fp1 r1 σ1 H1 ∧ Good (whileL mc mb m r1) (OkS C kp F fp H σ D) (OkXS C kp Xw F fp H σ), ⟨k, F, fp, r, .refl, .refl, R, g⟩, ?_⟩
  rintro m σ1 H1 ⟨F1, fp1, r1, E1, K1, R1, g1⟩
  cases m with
  | zero => exact g1.elim
  | succ k =>
    refine ⟨F1, fp1, r1, R1, ?_⟩
    rw [whileL] at g1
    cases ec : mc r1 with
    | bad => rw [ec] at g1; exact g1
    | exc c r2 => rw [ec] at g1; exact (OkXS.later E1 K1 g1).ex
    | ok b r2 =>
      rw [ec] at g1
      intro F2 fp2 H2 E2 R2
      cases b with
      | false =>
        show D.nx σ1 H2
        exact g1 F2 fp2 H2 σ1 (E1.trans E2) R2 K1
      | true =>
        refine (if_pos rfl).mpr ⟨fun σ3 H3 => ∃ F3 fp3 r3, Ext F fp H F3 fp3 H3 ∧ SameK kp σ σ3 ∧ Rel C F3 fp3 r3 σ3 H3 ∧ Good (whileL mc mb k r3) (OkS C kp F fp H σ D) (OkXS C kp Xw F fp H σ), fun σ' H' h => ⟨k, Nat.lt_succ_self _, h⟩, ?_⟩
        refine ⟨F2, fp2, r2, R2, ?_⟩
        cases eb : mb r2 with
        | bad => simp only [eb] at g1; exact g1
        | exc c r3 => simp only [eb] at g1; exact OkXS.later (E1.trans E2) K1 g1
        | ok fl r3 =>
          simp only [eb] at g1
          cases fl with
          | nx => exact fun F3 fp3 H3 σ3 E3 R3 K3 => ⟨F3, fp3, r3, (E1.trans E2).trans E3, K1.trans K3, R3, g1⟩
          | bk => exact fun F3 fp3 H3 σ3 E3 R3 K3 => g1 F3 fp3 H3 σ3 ((E1.trans E2).trans E3) R3 (K1.trans K3)
          | rt v f => exact OkS.later (D := D) (fl := .rt v f) (E1.trans E2) K1 g1
theorem ex_whl {c : Expr} {body : List Stmt} {ec : Ex} {sb : List PL.St} {pos : Pos} (hp : PassesOwn (model X.prog X.w) X.A X.env X.xe) (hc : PT X c (tT C Xw (bT T P ec))) (hb : PSs X body (tS C kp Xw (exs T P sb))) : PS X (.While c body [] pos) (tS C kp Xw (ex T P (.whl ec sb))) :=
  psW (ps_while hp hc hb) fun D σ H q => tS_while (tS_cast (fun r => by rw [ex]) q)

/-! ### what is walked -/
structure ItOk (C : Cn) (J : It) (ps : List PV) (q : AS) (S : AS → Hp → Prop) : Prop where
  step : ∀ i p F H, S F H → ps[i]? = some p → J.go i H ∧ ∀ x H', J.yld i H x H' → (H' = H ∨ ∃ a xs, H a = none ∧ H' = upd H a (.tup xs)) ∧ Imm C F H' p x
  stop : ∀ F H, S F H → J.stop ps.length H
  stay : ∀ F H F' H', Mono F H F' H' → (∀ a o, q a → H a = some o → H' a = some o) → S F H → S F' H'
theorem seq_at {F : AS} {H : Hp} {l : List PV} {xs : List V} {i : Nat} {p : PV} {x : V} (h : Imms C F H l xs) (e : l[i]? = some p) (e2 : xs[i]? = some x) : Imm C F H p x := by
  obtain ⟨u, h1, h2⟩ := h.get e
  rw [e2] at h1; cases h1
  exact h2
/-- a sequence's items -/
def SqX (K : PySem.W.Frag) (H : Hp) (a : Addr) (xs : List V) (t : Bool) : Prop := if t then SqT K H a xs else SqL K H a xs
theorem itok_tup {a : Addr} {l : List PV} {q : AS} : ItOk C (Itt C.K a) l q (fun F H => ∃ xs, SqT C.K H a xs ∧ Imms C F H l xs) := by
  refine ⟨fun i p F H ⟨xs, h1, h2⟩ e => ?_, fun F H ⟨xs, h1, h2⟩ => ⟨xs, h1, by rw [Imms.length h2]; exact Nat.le_refl _⟩, fun F H F' H' m k ⟨xs, h1, h2⟩ => ⟨xs, ?_, Imms.mono m _ _ h2⟩⟩
  · obtain ⟨x, e1, h3⟩ := h2.get e
    refine ⟨⟨xs, x, h1, e1⟩, fun y H' hy => ?_⟩
    obtain ⟨rfl, hy⟩ := hy
    exact ⟨.inl rfl, seq_at h2 e (hy xs h1)⟩
  · rcases h1 with h1 | h1
    · exact .inl (m.t _ _ h1)
    · exact .inr h1
/-- a list that stands still: of its own (q), frozen, or written -/
def LstS (C : Cn) (F : AS) (H : Hp) (a : Addr) (xs : List V) (q : AS) : Prop := (q a ∧ H a = some (.lst xs)) ∨ (F a ∧ Rd H a (.lst xs)) ∨ KLst C.K a xs
theorem LstS.sq {a : Addr} {xs : List V} {q : AS} (h : LstS C F H a xs q) : SqL C.K H a xs := by
  rcases h with ⟨_, h⟩ | ⟨_, h⟩ | h
  · exact .inl (.inl h)
  · exact .inl h
  · exact .inr h
theorem LstS.stay {a : Addr} {xs : List V} {q : AS} (m : Mono F H F' H') (k : ∀ a o, q a → H a = some o → H' a = some o) (h : LstS C F H a xs q) : LstS C F' H' a xs q := by
  rcases h with ⟨h1, h⟩ | ⟨h1, h⟩ | h
  · exact .inl ⟨h1, k _ _ h1 h⟩
  · exact .inr (.inl ⟨m.f _ h1, m.l _ _ h1 h⟩)
  · exact .inr (.inr h)
theorem itok_lst {a : Addr} {l : List PV} {q : AS} : ItOk C (Itl C.K a) l q (fun F H => ∃ xs, LstS C F H a xs q ∧ Imms C F H l xs) := by
  refine ⟨fun i p F H ⟨xs, h1, h2⟩ e => ?_, fun F H ⟨xs, h1, h2⟩ => ⟨xs, h1.sq, by rw [Imms.length h2]; exact Nat.le_refl _⟩, fun F H F' H' m k ⟨xs, h1, h2⟩ => ⟨xs, h1.stay m k, Imms.mono m _ _ h2⟩⟩
  obtain ⟨x, e1, h3⟩ := h2.get e
  refine ⟨⟨xs, x, h1.sq, e1⟩, fun y H' hy => ?_⟩
  obtain ⟨rfl, hy⟩ := hy
  exact ⟨.inl rfl, seq_at h2 e (hy xs h1.sq)⟩
theorem rngL_get : ∀ (n : Nat) (a : Int) (i : Nat) (p : PV), (rngL a n)[i]? = some p → p = .int (a + i) ∧ i < n
  | 0, a, i, p, h => by simp [rngL] at h
  | n + 1, a, 0, p, h => by simp [rngL] at h; subst h; simp
  | n + 1, a, i + 1, p, h => by
    obtain ⟨h1, h2⟩ := rngL_get n (a + 1) i p (by simpa [rngL] using h)
    refine ⟨?_, by omega⟩
    rw [h1]
    congr 1
    push_cast
    omega
theorem rngL_len : ∀ (n : Nat) (a : Int), (rngL a n).length = n
  | 0, _ => rfl
  | n + 1, a => by rw [rngL, List.length_cons, rngL_len n]
theorem itok_rng {lo : Int} {n : Nat} {q : AS} : ItOk C (Itr lo n) (rngL lo n) q (fun _ _ => True) := by
  refine ⟨fun i p F H _ e => ?_, fun F H _ => ?_, fun _ _ _ _ _ _ h => h⟩
  · obtain ⟨rfl, hi⟩ := rngL_get _ _ _ _ e
    refine ⟨hi, fun x H' hy => ?_⟩
    obtain ⟨rfl, rfl⟩ := hy
    exact ⟨.inl rfl, by rw [Imm]⟩
  · show n ≤ (rngL lo n).length
    rw [rngL_len]; exact Nat.le_refl _

/-! ### for -/
theorem OkXS.exx {c : Nat} (E : Ext F fp H F1 fp1 H1) (h : OkXS C kp Xw F fp H σ c r') : OkX C Xw F1 fp1 H1 σ c r' := (OkXS.later E .refl h).ex
theorem for_rd {J : It} {ps : List PV} {S : AS → Hp → Prop} {t : Tg} {mb : Env → PL.R PL.Flow} {D : Ends} (hk : tgK kp t = true) (I : ItOk C J ps q S) (R1 : Rel C F1 fp1 r1 σ H1) (hs : S F1 H1) (hq : ∀ i a, q a → ¬ fp1 i a)
    (g : Good (forL (fun x r => (R.of (PL.assign t x .frz r) r).bind fun r _ => mb r) ps r1) (OkS C kp F1 fp1 H1 σ D) (OkXS C kp Xw F1 fp1 H1 σ)) :
    ∃ W : Nat → Nat → L2.St → Hp → Prop, (∃ m, W 0 m σ H1) ∧ ∀ i m σ H, W i m σ H →
      (J.stop i H ∧ D.nx σ H) ∨ (J.go i H ∧ ∃ N : L2.St → Hp → Prop, (∀ σ' H', N σ' H' → ∃ m', m' < m ∧ W (i + 1) m' σ' H') ∧ ∀ x H', J.yld i H x H' → gT C.K t x σ H' fun σ2 H2 => tS C kp Xw mb { D with nx := N, ct := N, bk := D.nx } σ2 H2) := by
  refine ⟨fun i m σ2 H2 => m = ps.length - i ∧ i ≤ ps.length ∧ ∃ F2 fp2 r2, Ext F1 fp1 H1 F2 fp2 H2 ∧ SameK kp σ σ2 ∧ Rel C F2 fp2 r2 σ2 H2 ∧ Good (forL (fun x r => (R.of (PL.assign t x .frz r) r).bind fun r _ => mb r) (ps.drop i) r2) (OkS C kp F1 fp1 H1 σ D) (OkXS C kp Xw F1 fp1 H1 σ),
    ⟨ps.length, by simp, Nat.zero_le _, F1, fp1, r1, .refl, .refl, R1, g⟩, ?_⟩
  rintro i m σ2 H2 ⟨rfl, hi, F2, fp2, r2, E2, K2, R2, g2⟩
  have S2 : S F2 H2 := I.stay _ _ _ _ (E2.mono R1) (fun a o qa e => E2.keep a o e fun i hi => hq i a qa hi) hs
  by_cases hlt : i < ps.length
  · have ep : ps[i]? = some ps[i] := List.getElem?_eq_getElem hlt
    obtain ⟨go, yl⟩ := I.step i ps[i] F2 H2 S2 ep
    rw [List.drop_eq_getElem_cons hlt, forL] at g2
    refine .inr ⟨go, fun σ3 H3 => ∃ F3 fp3 r3, Ext F1 fp1 H1 F3 fp3 H3 ∧ SameK kp σ σ3 ∧ Rel C F3 fp3 r3 σ3 H3 ∧ Good (forL (fun x r => (R.of (PL.assign t x .frz r) r).bind fun r _ => mb r) (ps.drop (i + 1)) r3) (OkS C kp F1 fp1 H1 σ D) (OkXS C kp Xw F1 fp1 H1 σ),
      fun σ' H' h => ⟨ps.length - (i + 1), by omega, rfl, hlt, h⟩, fun x H' hy => ?_⟩
    obtain ⟨hH, im⟩ := yl x H' hy
    have hR : Ext F2 fp2 H2 F2 fp2 H' ∧ Rel C F2 fp2 r2 σ2 H' := by
      rcases hH with rfl | ⟨a, xs, ha, rfl⟩
      · exact ⟨.refl, R2⟩
      · exact ⟨.new ha, R2.new ha⟩
    cases ea : PL.assign t ps[i] .frz r2 with
    | none => simp only [ea] at g2; exact g2.elim
    | some r3 =>
      simp only [ea, R.of_some, R.bind_ok] at g2
      refine assign_ok t ps[i] .frz r2 r3 σ2 F2 fp2 x none1 hk hR.2 ⟨im, fun _ z => z⟩ ⟨fun _ _ z => z.elim, fun _ z => z.elim⟩ (fun _ z => z.elim) (E2.trans hR.1) ea _ fun σ4 F4 fp4 E4 R4 K4 _ => ?_
      refine ⟨F4, fp4, r3, R4, ?_⟩
      have K := K2.trans K4
      cases eb : mb r3 with
      | bad => simp only [eb] at g2; exact g2
      | exc c r5 => simp only [eb] at g2; exact OkXS.later E4 K g2
      | ok fl r5 =>
        simp only [eb] at g2
        cases fl with
        | nx => exact fun F5 fp5 H5 σ5 E5 R5 K5 => ⟨F5, fp5, r5, E4.trans E5, K.trans K5, R5, g2⟩
        | bk => exact fun F5 fp5 H5 σ5 E5 R5 K5 => g2 F5 fp5 H5 σ5 (E4.trans E5) R5 (K.trans K5)
        | rt v f => exact OkS.later (D := D) (fl := .rt v f) E4 K g2
  · have e : i = ps.length := by omega
    subst e
    rw [List.drop_length, forL] at g2
    exact .inl ⟨I.stop F2 H2 S2, g2 F2 fp2 H2 σ2 E2 R2 K2⟩
/-- a tuple or a list, walked -/
def iSq (K : PySem.W.Frag) (tl : TE) : TI := fun σ H R => tl σ H fun x H1 => ∃ a, x = .ref a ∧ (((∃ xs, SqT K H1 a xs) ∧ R (Itt K a) H1) ∨ ((∃ xs, SqL K H1 a xs) ∧ R (Itl K a) H1))
theorem pi_sq {tg l : Expr} {tl : TE} (hl : PE X l tl) : PI X tg l (iSq X.K tl) := by
  refine ⟨fun pins s σ H R I h => ?_⟩
  refine thn (hl.run pins s σ H _ I h) fun v s1 ⟨x, H1, I1, r1, a, e, q1⟩ => ?_
  subst e
  cases r1
  have hf : ∀ b ∈ [s1.heap.objs.size], FpOk X pins H1 b := fun b hb => by
    rw [List.mem_singleton.mp hb]
    exact I1.fpOk (Nat.le_refl _) (I1.hok.fresh (Nat.le_refl _))
  rcases q1 with ⟨⟨xs, hq⟩, q⟩ | ⟨⟨xs, hq⟩, q⟩
  · obtain ⟨its, rv, p, hz⟩ := I1.tuple hq
    exact wpAny_pyIter_tuple (show s1.heap.IsTuple a its.toArray from p) ⟨s1.heap.objs.size, [s1.heap.objs.size], _, _, H1, rfl, I1.kept (t' := s1.toks) fun b o e => Heap.get?_push_of_some _ e, turn_tuple a _, ⟨_, Heap.get?_push_size _ rfl, rfl, rfl⟩, hf, q⟩
  · obtain ⟨its, rv, p, hz⟩ := I1.list hq
    exact wpAny_pyIter_list p.isList ⟨s1.heap.objs.size, [s1.heap.objs.size], _, _, H1, rfl, I1.kept (t' := s1.toks) fun b o e => Heap.get?_push_of_some _ e, turn_list a _, ⟨_, Heap.get?_push_size _ rfl, rfl, rfl⟩, hf, q⟩
/-- what comes of the head of a walk -/
structure HeadOk (C : Cn) (F : AS) (fp : FP) (H : Hp) (σ : L2.St) (ps : List PV) (r2 : Env) (u : V) (H1 : Hp) : Prop where
  ex : ∃ (a : Addr) (F2 : AS) (fp2 : FP) (q : AS), u = .ref a ∧ Ext F fp H F2 fp2 H1 ∧ Rel C F2 fp2 r2 σ H1 ∧ (∀ i a, q a → ¬ fp2 i a) ∧
    ((∃ xs, SqT C.K H1 a xs ∧ Imms C F2 H1 ps xs) ∨ ∃ xs, LstS C F2 H1 a xs q ∧ Imms C F2 H1 ps xs)
theorem seqOf_ok {ps : List PV} {hs : List (Nat × PV)} {x : PV × Fl} (b : Bh C Xw F fp H σ x r1 u F1 fp1 H1 q) (h : seqOf false x.1 x.2 r1 [] = some (ps, r2, hs)) : HeadOk C F fp H σ ps r2 u H1 ∧ hs = [] := by
  obtain ⟨E, R, rv, s, n⟩ := b
  obtain ⟨v, f⟩ := x
  cases v with
  | tup l =>
    simp only [seqOf, Option.some.injEq, Prod.mk.injEq] at h
    obtain ⟨rfl, rfl, rfl⟩ := h
    obtain ⟨a, xs, rfl, h1, i1⟩ := (RV.sh R rv).tup
    exact ⟨⟨a, F1, fp1, none1, rfl, E, R, fun _ _ z => z.elim, .inl ⟨xs, h1, i1⟩⟩, rfl⟩
  | lst l =>
    simp only [seqOf] at h
    cases f with
    | own =>
      simp only [Option.some.injEq, Prod.mk.injEq] at h
      obtain ⟨rfl, rfl, rfl⟩ := h
      obtain ⟨a, xs, rfl, h1, i1, h3⟩ := rv
      exact ⟨⟨a, F1, fp1, q, rfl, E, R, fun i b z => s.d i b z, .inr ⟨xs, .inl ⟨(h3 a).mpr rfl, h1⟩, i1⟩⟩, rfl⟩
    | frz =>
      simp only [Option.some.injEq, Prod.mk.injEq] at h
      obtain ⟨rfl, rfl, rfl⟩ := h
      have im := rv.1
      simp only [Imm] at im
      obtain ⟨a, xs, rfl, h1, i1⟩ := im
      exact ⟨⟨a, F1, fp1, none1, rfl, E, R, fun _ _ z => z.elim, .inr ⟨xs, .inr h1, i1⟩⟩, rfl⟩
    | al j =>
      simp only [Bool.false_eq_true, if_false, Option.map_eq_some_iff, Prod.mk.injEq] at h
      obtain ⟨r3, h, rfl, rfl, rfl⟩ := h
      obtain ⟨_, e, e1, no⟩ := rv
      obtain ⟨F2, fp2, E2, R2, _, _, l', o', e', im⟩ := frz_ok R h
      rw [e] at e'; cases e'
      have im := im u e1
      simp only [Imm] at im
      obtain ⟨a, xs, rfl, h1, i1⟩ := im
      exact ⟨⟨a, F2, fp2, none1, rfl, E.trans E2, R2, fun _ _ z => z.elim, .inr ⟨xs, .inr h1, i1⟩⟩, rfl⟩
    | alf j => simp at h
  | _ => simp [seqOf] at h
/-- for over a sequence -/
theorem ex_for {tg iter : Expr} {body : List Stmt} {pos : Pos} {t : Tg} {xi xb : Ex} {sb : List PL.St} (f : Fit C X) (hp : PassesOwn (model X.prog X.w) X.A X.env X.xe) (hc : X.calm = true) (hk : tgK kp t = true) (hi : PE X iter (tE C Xw (ev T P xi))) (hg : PG X tg (gT X.K t))
    (hb : PSs X body (tS C kp Xw (exs T P sb))) (hs : ∀ x, foldedSetIterable iter X.env x = pure x := by intro _; rfl) : PS X (.For tg iter body [] pos) (tS C kp Xw (ex T P (.fr t .seq xi xb sb false))) :=
  psW (ps_for hp hc (pi_sq hi) (f.K ▸ hg) hb hs) fun D σ H q => by
    obtain ⟨F, fp, r, R, g⟩ := q
    rw [ex, PL.iter] at g
    refine ⟨F, fp, r, R, g.bind.bind.mono (fun x r1 g1 F1 fp1 H1 u q E R1 v s n => ?_) fun _ _ z => z.ex⟩
    cases es : seqOf false x.1 x.2 r1 [] with
    | none => simp only [es] at g1; exact g1.elim
    | some p =>
      obtain ⟨ps, r2, hs'⟩ := p
      obtain ⟨⟨a, F2, fp2, q2, hu, E2, R2, hq, hd⟩, rfl⟩ := seqOf_ok (Xw := Xw) ⟨E, R1, v, s, n⟩ es
      simp only [es] at g1
      have g1 : Good ((forL (fun x r => (PL.R.of (PL.assign t x .frz r) r).bind fun r _ => exs T P sb r) ps r2).bind fun fl r2 => (PL.R.of (unhide [] r2) r2).bind fun r3 _ => .ok fl r3) (OkS C kp F fp H σ D) (OkXS C kp Xw F fp H σ) := g1
      have g2 : Good (forL (fun x r => (PL.R.of (PL.assign t x .frz r) r).bind fun r _ => exs T P sb r) ps r2) (OkS C kp F2 fp2 H1 σ D) (OkXS C kp Xw F2 fp2 H1 σ) :=
        g1.bind.mono (fun fl r3 z => OkS.later (D := D) E2 .refl z) fun c r3 z => OkXS.later E2 .refl z
      refine ⟨a, hu, ?_⟩
      rcases hd with ⟨xs, h1, i1⟩ | ⟨xs, h1, i1⟩
      · exact .inl ⟨⟨xs, f.K ▸ h1⟩, f.K ▸ for_rd hk itok_tup R2 ⟨xs, h1, i1⟩ hq g2⟩
      · exact .inr ⟨⟨xs, f.K ▸ h1.sq⟩, f.K ▸ for_rd hk itok_lst R2 ⟨xs, h1, i1⟩ hq g2⟩
end
end PL

set_option Elab.async false
set_option linter.all false
set_option maxRecDepth 100000
set_option maxHeartbeats 1000000
namespace PL
open PySem L2 PV PySem.SeqAt PyProof.Rows

section
variable {C : Cn} {kp : Nat → Bool} {Xw : XW} {X : Cx} {F F1 F2 F0 F' : AS} {fp fp1 fp2 fp0 fp' : FP} {r r1 r2 r' : Env} {σ σ' : L2.St} {H H1 H2 H0 H' : Hp} {v : PV} {u : V} {q : AS} {f : Fl} {o : Bool}
variable {T : Tab} {P : Fns}
theorem RV.int {i : Int} {f : Fl} {u : V} {q : AS} (R : Rel C F fp r σ H) (h : RV C F H r σ (.int i) f u q) : u = .int i := by
  have := RV.sh R h
  simpa only [Sh, Imm] using this
/-- the two bounds of a range -/
theorem two_ints {A : Type} {xa xb : Ex} {f : Int → Int → Env → PL.R A} {K : A → Env → Prop} {Ee : Nat → Env → Prop} {Q : List V → Hp → Prop} (R : Rel C F fp r σ H) (hE : ∀ c r', Ee c r' → OkX C Xw F fp H σ c r')
    (g : Good ((ev T P xa r).bind fun x r => (ev T P xb r).bind fun y r => match x.1, y.1 with | .int a, .int b => f a b r | _, _ => .bad) K Ee)
    (hQ : ∀ a b r1 F1 fp1 H1, Ext F fp H F1 fp1 H1 → Rel C F1 fp1 r1 σ H1 → Good (f a b r1) K Ee → Q [.int a, .int b] H1) :
    tCons (tE C Xw (ev T P xa)) (tCons (tE C Xw (ev T P xb)) tNil) σ H Q := by
  refine ⟨F, fp, r, R, g.bind.mono (fun x r1 g1 F1 fp1 H1 u q E R1 v s n => ?_) hE⟩
  refine ⟨F1, fp1, r1, R1, g1.bind.mono (fun y r2 g2 F2 fp2 H2 w q2 E2 R2 v2 s2 n2 => ?_) fun _ _ z => (hE _ _ z).later E⟩
  obtain ⟨x, fx⟩ := x
  obtain ⟨y, fy⟩ := y
  cases x with
  | int a =>
    cases y with
    | int b =>
      show Q [u, w] H2
      rw [RV.int R1 v, RV.int R2 v2]
      exact hQ a b r2 F2 fp2 H2 (E.trans E2) R2 g2
    | _ => exact g2.elim
  | _ => exact g2.elim
theorem one_int {A : Type} {xb : Ex} {f : Int → Env → PL.R A} {K : A → Env → Prop} {Ee : Nat → Env → Prop} {Q : List V → Hp → Prop} (R : Rel C F fp r σ H) (hE : ∀ c r', Ee c r' → OkX C Xw F fp H σ c r')
    (g : Good ((ev T P xb r).bind fun y r => match y.1 with | .int b => f b r | _ => .bad) K Ee)
    (hQ : ∀ b r1 F1 fp1 H1, Ext F fp H F1 fp1 H1 → Rel C F1 fp1 r1 σ H1 → Good (f b r1) K Ee → Q [.int b] H1) :
    tCons (tE C Xw (ev T P xb)) tNil σ H Q := by
  refine ⟨F, fp, r, R, g.bind.mono (fun x r1 g1 F1 fp1 H1 u q E R1 v s n => ?_) hE⟩
  obtain ⟨x, fx⟩ := x
  cases x with
  | int b =>
    show Q [u] H1
    rw [RV.int R1 v]
    exact hQ b r1 F1 fp1 H1 E R1 g1
  | _ => exact g1.elim
theorem rngOk_b {a b : Int} (h : rngOk a b = true) : -(2 ^ 30) ≤ a ∧ a < 2 ^ 30 ∧ -(2 ^ 30) ≤ b ∧ b < 2 ^ 30 ∧ b - a ≤ 16000000 := by
  simp only [rngOk, Bool.and_eq_true, decide_eq_true_eq] at h
  exact ⟨h.1.1.1.1, h.1.1.1.2, h.1.1.2, h.1.2, h.2⟩
theorem const_int {i : Int} {r : Env} : ev T P (.const (.int i)) r = .ok (.int i, .own) r := by rw [ev]; rfl
/-- a range's items in a loop -/
theorem rng_body {t : Tg} {sb : List PL.St} {D : Ends} {a b : Int} (hk : tgK kp t = true) (E : Ext F fp H F1 fp1 H1) (R1 : Rel C F1 fp1 r1 σ H1)
    (g : Good (if rngOk a b then PL.R.ok (rngL a (b - a).toNat, ([] : List (Nat × PV))) r1 else .bad) (fun p r1 => Good ((forL (fun x r => (PL.R.of (PL.assign t x .frz r) r).bind fun r _ => exs T P sb r) p.1 r1).bind fun fl r2 => (PL.R.of (unhide p.2 r2) r2).bind fun r3 _ => .ok fl r3) (OkS C kp F fp H σ D) (OkXS C kp Xw F fp H σ)) (OkXS C kp Xw F fp H σ)) :
    rngOk a b = true ∧ ∃ W : Nat → Nat → L2.St → Hp → Prop, (∃ m, W 0 m σ H1) ∧ ∀ i m σ H, W i m σ H →
      ((Itr a (b - a).toNat).stop i H ∧ D.nx σ H) ∨ ((Itr a (b - a).toNat).go i H ∧ ∃ N : L2.St → Hp → Prop, (∀ σ' H', N σ' H' → ∃ m', m' < m ∧ W (i + 1) m' σ' H') ∧ ∀ x H', (Itr a (b - a).toNat).yld i H x H' → gT C.K t x σ H' fun σ2 H2 => tS C kp Xw (exs T P sb) { D with nx := N, ct := N, bk := D.nx } σ2 H2) := by
  split at g
  · rename_i ok
    refine ⟨ok, ?_⟩
    have g1 : Good ((forL (fun x r => (PL.R.of (PL.assign t x .frz r) r).bind fun r _ => exs T P sb r) (rngL a (b - a).toNat) r1).bind fun fl r2 => (PL.R.of (unhide [] r2) r2).bind fun r3 _ => .ok fl r3) (OkS C kp F fp H σ D) (OkXS C kp Xw F fp H σ) := g
    have g2 : Good (forL (fun x r => (PL.R.of (PL.assign t x .frz r) r).bind fun r _ => exs T P sb r) (rngL a (b - a).toNat) r1) (OkS C kp F1 fp1 H1 σ D) (OkXS C kp Xw F1 fp1 H1 σ) :=
      g1.bind.mono (fun fl r3 z => OkS.later (D := D) E .refl z) fun c r3 z => OkXS.later E .refl z
    exact for_rd hk (itok_rng (q := none1)) R1 True.intro (fun _ _ z => z.elim) g2
  · exact g.elim
/-- for i in range(a, b) -/
theorem ex_for2 {tg ea eb : Expr} {body : List Stmt} {p pos pos' : Pos} {t : Tg} {xa xb : Ex} {sb : List PL.St} (f : Fit C X) (hp : PassesOwn (model X.prog X.w) X.A X.env X.xe) (hc : X.calm = true) (hk : tgK kp t = true) (hg' : Gl X "range") (hm : X.mg "range" = none) (ha : PE X ea (tE C Xw (ev T P xa))) (hb' : PE X eb (tE C Xw (ev T P xb))) (hg : PG X tg (gT X.K t))
    (hb : PSs X body (tS C kp Xw (exs T P sb))) (hs1 : starEach [ea, eb] X.env = [(false, eval ea X.env), (false, eval eb X.env)] := by rfl) (hs2 : starEach [eb] X.env = [(false, eval eb X.env)] := by rfl) (hs : ∀ x, foldedSetIterable (.Call (.Name "range" p) [ea, eb] [] pos') X.env x = pure x := by intro _; rfl) : PS X (.For tg (.Call (.Name "range" p) [ea, eb] [] pos') body [] pos) (tS C kp Xw (ex T P (.fr t .rng xa xb sb false))) :=
  psW (ps_for hp hc (pi_range2 hg' hm (pa_cons ha (pa_cons hb' pa_nil (by rw [hs2]; rfl)) (by rw [hs1, hs2])) hs1 hs2) (f.K ▸ hg) hb hs) fun D σ H q => by
    obtain ⟨F, fp, r, R, g⟩ := q
    rw [ex, PL.iter] at g
    unfold tFor iRng2
    refine two_ints (Xw := Xw) R (fun c r' z => OkXS.ex z) g.bind fun a b r1 F1 fp1 H1 E R1 g1 => ?_
    obtain ⟨ok, h⟩ := rng_body hk E R1 g1
    obtain ⟨b1, b2, b3, b4, b5⟩ := rngOk_b ok
    exact ⟨a, b, rfl, ⟨by omega, by omega, by omega, by omega⟩, h⟩
theorem eq0 {xb : Ex} {r : Env} : ((ev T P xb r).bind fun y r => match PV.int 0, y.1 with | .int a, .int b => if rngOk a b then PL.R.ok (rngL a (b - a).toNat, ([] : List (Nat × PV))) r else .bad | _, _ => .bad) =
    (ev T P xb r).bind fun y r => match y.1 with | .int b => if rngOk 0 b then PL.R.ok (rngL 0 (b - 0).toNat, ([] : List (Nat × PV))) r else .bad | _ => .bad := by
  congr 1
  funext y r
  cases y.1 <;> rfl
/-- for i in range(b) -/
theorem ex_for1 {tg eb : Expr} {body : List Stmt} {p pos pos' : Pos} {t : Tg} {xb : Ex} {sb : List PL.St} (f : Fit C X) (hp : PassesOwn (model X.prog X.w) X.A X.env X.xe) (hc : X.calm = true) (hk : tgK kp t = true) (hg' : Gl X "range") (hm : X.mg "range" = none) (hb' : PE X eb (tE C Xw (ev T P xb))) (hg : PG X tg (gT X.K t))
    (hb : PSs X body (tS C kp Xw (exs T P sb))) (hs1 : starEach [eb] X.env = [(false, eval eb X.env)] := by rfl) (hs : ∀ x, foldedSetIterable (.Call (.Name "range" p) [eb] [] pos') X.env x = pure x := by intro _; rfl) : PS X (.For tg (.Call (.Name "range" p) [eb] [] pos') body [] pos) (tS C kp Xw (ex T P (.fr t .rng (.const (.int 0)) xb sb false))) :=
  psW (ps_for hp hc (pi_range1 hg' hm (pa_cons hb' pa_nil (by rw [hs1]; rfl)) hs1) (f.K ▸ hg) hb hs) fun D σ H q => by
    obtain ⟨F, fp, r, R, g⟩ := q
    rw [ex, PL.iter] at g
    simp only [const_int, PL.R.bind_ok] at g
    unfold tFor iRng1
    refine one_int (Xw := Xw) (f := fun b r => if rngOk 0 b then PL.R.ok (rngL 0 (b - 0).toNat, ([] : List (Nat × PV))) r else .bad) R (fun c r' z => OkXS.ex z) (eq0 ▸ g.bind) fun b r1 F1 fp1 H1 E R1 g1 => ?_
    obtain ⟨ok, h⟩ := rng_body hk E R1 g1
    obtain ⟨b1, b2, b3, b4, b5⟩ := rngOk_b ok
    rw [Int.sub_zero] at h
    exact ⟨b, rfl, by omega, by omega, h⟩
end
end PL

set_option Elab.async false
set_option linter.all false
set_option maxRecDepth 100000
set_option maxHeartbeats 1000000
namespace PL
open PySem L2 PV PySem.SeqAt PyProof.Rows

theorem backA_at {rb : List Nat} {r : Env} : ∀ {as bs : List (PV × Bool)} {i : Nat}, backA rb r i as = some bs → bs.length = as.length ∧ ∀ k v o, as[k]? = some (v, o) →
    (v.isM = true ∧ rb.contains (i + k) = false ∧ ∃ v' o', get r (i + k) = some (v', o') ∧ v'.isM = true ∧ bs[k]? = some (v', o')) ∨ (v.isM = false ∧ bs[k]? = some (v, o))
  | [], bs, i, h => by
    simp only [backA, Option.some.injEq] at h; subst h
    exact ⟨rfl, fun k v o e => by simp at e⟩
  | (v, o) :: as, bs, i, h => by
    rw [backA] at h
    split at h
    · rename_i hm
      split at h
      · cases h
      · rename_i hrb
        split at h
        · rename_i v' o' eg
          split at h
          · rename_i hm'
            rw [Option.map_eq_some_iff] at h
            obtain ⟨cs, h, rfl⟩ := h
            obtain ⟨h1, h2⟩ := backA_at h
            refine ⟨by simp [h1], fun k w p e => ?_⟩
            cases k with
            | zero =>
              simp at e
              obtain ⟨rfl, rfl⟩ := e
              exact .inl ⟨hm, by simpa using hrb, v', o', eg, hm', rfl⟩
            | succ k =>
              have := h2 k w p (by simpa using e)
              rw [show i + 1 + k = i + (k + 1) by omega] at this
              simpa using this
          · cases h
        · cases h
    · rename_i hm
      rw [Option.map_eq_some_iff] at h
      obtain ⟨cs, h, rfl⟩ := h
      obtain ⟨h1, h2⟩ := backA_at h
      refine ⟨by simp [h1], fun k w p e => ?_⟩
      cases k with
      | zero =>
        simp at e
        obtain ⟨rfl, rfl⟩ := e
        exact .inr ⟨by simpa using hm, rfl⟩
      | succ k =>
        have := h2 k w p (by simpa using e)
        rw [show i + 1 + k = i + (k + 1) by omega] at this
        simpa using this

section
variable {C : Cn} {kp : Nat → Bool} {Xw : XW} {X : Cx} {F F1 F2 F0 F' : AS} {fp fp1 fp2 fp0 fp' : FP} {r r1 r2 r' : Env} {σ σ' : L2.St} {H H1 H2 H0 H' : Hp} {v : PV} {u : V} {q : AS} {f : Fl} {o : Bool}
variable {T : Tab} {P : Fns}
/-- the slots that are kept: parameters that are not set anew -/
def keepI (d : FD) (i : Nat) : Bool := decide (i < d.np) && !d.rb.contains i
/-- a function's first state -/
theorem rel_start {d : FD} {ws : List (PV × Bool)} {vs : List V} {N : List Str} (R : RelA C F fp ws vs H) (hn : N.length = d.ns) (hw : ws.length = d.np) : Rel C F fp (startE d ws) (L2.start N vs) H := by
  have hl : ws.length = vs.length := by simpa using R.len
  have g1 : ∀ i x, get (startE d ws) i = some x → get (ws.map some) i = some x ∧ i < ws.length := fun i x e => by
    unfold startE get at e
    by_cases hi : i < ws.length
    · rw [List.getElem?_append_left (by simpa using hi)] at e
      exact ⟨e, hi⟩
    · rw [List.getElem?_append_right (by simpa using hi), List.getElem?_replicate] at e
      split at e <;> simp at e
  have g0 : ∀ i, get (startE d ws) i = none → get (ws.map some) i = none := fun i e => by
    by_cases hi : i < ws.length
    · unfold startE get at e
      rw [List.getElem?_append_left (by simpa using hi)] at e
      exact e
    · unfold get
      rw [List.getElem?_eq_none (by simpa using hi)]; rfl
  refine ⟨by unfold startE L2.start; simp only [List.length_append, List.length_map, List.length_replicate]; omega, fun i v o e => ?_, fun i e => R.nn i (g0 i e), R.dis, R.nof, R.ff⟩
  obtain ⟨e1, hi⟩ := g1 i _ e
  obtain ⟨u, hu, h⟩ := R.sm i v o e1
  refine ⟨u, ?_, h⟩
  unfold L2.start
  rw [List.getElem?_append_left (by simp; omega)]
  exact hu
theorem start_at {N : List Str} {vs : List V} {i : Nat} {u : V} (h : vs[i]? = some u) : (L2.start N vs)[i]? = some (some u) := by
  have : i < vs.length := (List.getElem?_eq_some_iff.mp h).1
  unfold L2.start
  rw [List.getElem?_append_left (by simpa using this)]
  exact at_map.mpr h
/-- what is the callee's own of its parameters -/
def fpBack (d : FD) (ws : List (PV × Bool)) (fp : FP) : FP := fun i a => (∃ v o, ws[i]? = some (v, o) ∧ v.isM = true) ∧ fp i a
theorem rel_back {d : FD} {ws bs : List (PV × Bool)} {vs : List V} {N : List Str} (R0 : RelA C F fp ws vs H) (hw : ws.length = d.np) (E : Ext F fp H F' fp' H') (R' : Rel C F' fp' r' σ' H') (K : SameK (keepI d) (L2.start N vs) σ') (hb : backA d.rb r' 0 ws = some bs) :
    RelA C F' (fpBack d ws fp') bs vs H' ∧ Ext F fp H F' (fpBack d ws fp') H' := by
  obtain ⟨l1, l2⟩ := backA_at hb
  have hl : ws.length = vs.length := by simpa using R0.len
  refine ⟨⟨by rw [List.length_map, List.length_map, l1, hl], fun i v o e => ?_, fun i e a z => ?_, fun i j a hi hj => R'.dis i j a hi.2 hj.2, fun i a hi => R'.nof i a hi.2, R'.ff⟩, ⟨E.keep, E.fm, E.fn, fun i a h => E.pn i a h.2⟩⟩
  · rw [get_map] at e
    have hi : i < ws.length := by rw [← l1]; exact (List.getElem?_eq_some_iff.mp e).1
    obtain ⟨⟨w, p⟩, ew⟩ : ∃ x, ws[i]? = some x := ⟨_, List.getElem?_eq_getElem hi⟩
    obtain ⟨u0, hu0, h0⟩ := R0.sm i w p (by rw [get_map]; exact ew)
    rcases l2 i w p ew with ⟨hm, hrb, v', o', eg, hm', eb⟩ | ⟨hm, eb⟩
    · rw [e] at eb; cases eb
      rw [Nat.zero_add] at eg hrb
      obtain ⟨u, hu, h⟩ := R'.sm i v o eg
      have hk : keepI d i = true := by
        unfold keepI
        rw [hrb]
        simp only [Bool.not_false, Bool.and_true, decide_eq_true_eq]
        omega
      rw [K.2 i hk, start_at (at_map.mp hu0)] at hu
      cases hu
      refine ⟨u0, hu0, ?_⟩
      have ef : fpBack d ws fp' i = fp' i := funext fun a => propext ⟨fun z => z.2, fun z => ⟨⟨w, p, ew, hm⟩, z⟩⟩
      rw [ef]
      exact h
    · rw [e] at eb; cases eb
      refine ⟨u0, hu0, ?_⟩
      have no : ∀ a, ¬ fpBack d ws fp' i a := fun a ⟨⟨w', p', e', m'⟩, _⟩ => by
        rw [ew] at e'; cases e'
        rw [hm] at m'; cases m'
      have ef : fpBack d ws fp' i = none1 := funext fun a => propext ⟨fun z => no a z, fun z => z.elim⟩
      rw [ef]
      rcases h0 with ⟨ho, h⟩ | ⟨ho, h, _⟩
      · exact .inl ⟨ho, Imm.own hm (Imm.mono (E.mono R0) _ _ (h.imm hm).1)⟩
      · exact .inr ⟨ho, Imm.mono (E.mono R0) _ _ h, fun _ z => z.elim⟩
  · rw [get_map] at e
    obtain ⟨⟨w, p, ew, _⟩, _⟩ := z
    have : i < bs.length := by rw [l1]; exact (List.getElem?_eq_some_iff.mp ew).1
    rw [List.getElem?_eq_getElem this] at e
    cases e
/-- what a return hands out -/
theorem ret_ok {d : FD} {o : Bool} {v' : PV} {ws : List (PV × Bool)} (hw : ws.length = d.np) (R : Rel C F' fp' r σ' H') (E : Ext F fp H F' fp' H') (rv : RV C F' H' r σ' v f u q) (s : Sep F' fp' q) (n : ∀ a, q a → (∃ i, fp i a) ∨ H a = none) (h : retV d v f r = some (v', o, r')) :
    v' = v ∧ ∃ F2 fp2 q2, Ext F fp H F2 fp2 H' ∧ Rel C F2 fp2 r' σ' H' ∧ RV C F2 H' [] [] v (if o then .own else .frz) u q2 ∧ Sep F2 (fpBack d ws fp2) q2 ∧ ∀ a, q2 a → (∃ i, fp i a) ∨ H a = none := by
  unfold retV at h
  cases hm : v.isM with
  | false =>
    simp only [hm, Bool.false_eq_true, if_false, Option.some.injEq, Prod.mk.injEq] at h
    obtain ⟨rfl, rfl, rfl⟩ := h
    exact ⟨rfl, F', fp', none1, E, R, Imm.own hm ((RV.sh R rv).imm hm), ⟨fun _ _ z => z.elim, fun _ z => z.elim⟩, fun _ z => z.elim⟩
  | true =>
    simp only [hm, if_true] at h
    cases f with
    | own =>
      simp only [Option.some.injEq, Prod.mk.injEq] at h
      obtain ⟨rfl, rfl, rfl⟩ := h
      exact ⟨rfl, F', fp', q, E, R, rv, ⟨fun i a z y => s.d i a z y.2, s.f⟩, n⟩
    | frz =>
      simp only [Option.some.injEq, Prod.mk.injEq] at h
      obtain ⟨rfl, rfl, rfl⟩ := h
      exact ⟨rfl, F', fp', q, E, R, rv, ⟨fun i a z y => s.d i a z y.2, s.f⟩, n⟩
    | al j =>
      obtain ⟨_, e, e1, no⟩ := rv
      simp only at h
      split at h
      · simp only [Option.map_eq_some_iff, Prod.mk.injEq] at h
        obtain ⟨r2, h, rfl, rfl, rfl⟩ := h
        obtain ⟨F2, fp2, E2, R2, _, _, l, o, e', im⟩ := frz_ok R h
        rw [e] at e'; cases e'
        exact ⟨rfl, F2, fp2, none1, E.trans E2, R2, ⟨im u e1, fun _ z => z⟩, ⟨fun _ _ z => z.elim, fun _ z => z.elim⟩, fun _ z => z.elim⟩
      · rename_i hj
        simp only [Option.some.injEq, Prod.mk.injEq] at h
        obtain ⟨rfl, rfl, rfl⟩ := h
        obtain ⟨u', e2, ⟨_, ow⟩ | ⟨hf, _⟩⟩ := R.sm j v true e
        · rw [e1] at e2; cases e2
          refine ⟨rfl, F', fp', fp' j, E, R, ow, ⟨fun i a z y => ?_, R.nof j⟩, fun a z => E.pn j a z⟩
          obtain rfl := R.dis j i a z y.2
          obtain ⟨⟨w, p, ew, _⟩, _⟩ := y
          have := (List.getElem?_eq_some_iff.mp ew).1
          omega
        · cases hf
    | alf j => simp at h
theorem sp_len {n fn : Nat} {d : FD} {ws : List (PV × Bool)} (hT : T.fns fn = some d) (h : run T (n + 1) fn ws ≠ .bad) : ws.length = d.np := by
  by_cases e : ws.length = d.np
  · exact e
  · exact absurd (by rw [run, hT]; simp only; rw [if_neg e]) h
theorem sp_vs {C : Cn} {n fn : Nat} {d : FD} {vs : List V} {H : Hp} {Q : VK} {E : XK} (hT : T.fns fn = some d) (h : spF C (run T (n + 1)) fn vs H Q E) : vs.length = d.np := by
  obtain ⟨F, fp, ws, R, g⟩ := h
  have hl : ws.length = vs.length := by simpa using R.len
  rw [← hl]
  refine sp_len hT (n := n) fun e => ?_
  rw [e] at g
  exact g
/-- the answer of a function, by its body -/
theorem fn_core {C : Cn} {ps N : List Str} {n fn : Nat} {d : FD} {H : Hp} {vs : List V} {Q : VK} {E : XK} (hT : T.fns fn = some d) (hp : ps.length = d.np) (hn : N.length = d.ns) (h : spF C (run T (n + 1)) fn vs H Q E) :
    tS C (keepI d) (fun c _ _ _ _ H => E (.ref (C.clA c)) none H) (exs T (run T n) d.body) { nx := fun _ H' => Q .non H', rt := Q } (L2.start N vs) H := by
  obtain ⟨F, fp, ws, R, g⟩ := h
  have hw : ws.length = d.np := (sp_len hT (by intro e; rw [e] at g; exact g))
  refine ⟨F, fp, startE d ws, rel_start R hn hw, ?_⟩
  rw [run, hT] at g
  simp only [if_pos hw] at g
  cases e : exs T (run T n) d.body (startE d ws) with
  | bad => rw [e] at g; exact g
  | exc c r =>
    rw [e] at g
    simp only at g
    cases eb : backA d.rb r 0 ws with
    | none => rw [eb] at g; exact g.elim
    | some bs =>
      rw [eb] at g
      intro F' fp' H' σ' E' R' K'
      obtain ⟨R2, E2⟩ := rel_back R hw E' R' K' eb
      exact g F' _ H' E2 R2
  | ok fl r =>
    rw [e] at g
    cases fl with
    | bk => exact g.elim
    | nx =>
      simp only at g
      cases eb : backA d.rb r 0 ws with
      | none => rw [eb] at g; exact g.elim
      | some bs =>
        rw [eb] at g
        intro F' fp' H' σ' E' R' K'
        obtain ⟨R2, E2⟩ := rel_back R hw E' R' K' eb
        exact g F' _ H' .non none1 E2 R2 (Imm.own (v := .non) rfl (by rw [Imm])) ⟨fun _ _ z => z.elim, fun _ z => z.elim⟩ fun _ z => z.elim
    | rt v fl =>
      simp only at g
      cases er : retV d v fl r with
      | none => rw [er] at g; exact g.elim
      | some p =>
        obtain ⟨v', o, r2⟩ := p
        rw [er] at g
        simp only at g
        cases eb : backA d.rb r2 0 ws with
        | none => rw [eb] at g; exact g.elim
        | some bs =>
          rw [eb] at g
          intro F' fp' H' σ' u q E' R' K' rv s' n'
          obtain ⟨rfl, F2, fp2, q2, E2, R2, rv2, s2, n2⟩ := ret_ok (ws := ws) hw R' E' rv s' n' er
          obtain ⟨R3, E3⟩ := rel_back R hw E2 R2 K' eb
          exact g F2 _ H' u q2 E3 R3 rv2 s2 n2
/-- a function's step -/
theorem fn_step {C : Cn} {mg : Str → Option Value} {base : Heap} {x qual : Str} {st : Stmt} {fa : Addr} {fd : FuncData} {N ps : List Str} {k n fn : Nat} {d : FD} (hT : T.fns fn = some d) (F : Fun C.K x qual st fa fd) (S : FnScope N ps (defScope st)) (hp : ps.length = d.np) (hn : N.length = d.ns)
    (hbody : ∀ (cdv : Value) (A : Around) (outer : List PySem.Env) (s : Shared) (H : Hp) (E : XK) (X : Cx), X = cxOf (L2N.CX C.P C.w) C.P C.w C.K mg base N qual (defScope st) fa cdv A outer s H E → Room k X.A → XOk C X (fun c _ _ _ _ H => E (.ref (C.clA c)) none H) (fun cls d _ H => E cls d H) → PassesOwn (model X.prog X.w) X.A X.env X.xe →
      PSs X (defBody st) (tS C (keepI d) (fun c _ _ _ _ H => E (.ref (C.clA c)) none H) (exs T (run T n) d.body))) :
    FnOk C.P C.w C.K mg base (L2N.CX C.P C.w) (k + 1) fa fd ps (spF C (run T (n + 1)) fn) := by
  obtain ⟨oc, od, kV, doc, pm, an, cdv, ct, osl, rfl, lk, hcd⟩ := F.ex
  exact fn_of lk hcd S (fun vs H Q E h => (sp_vs hT h).trans hp.symm) fun A outer s H vs Q E hr h =>
    ⟨_, hbody cdv A outer s H E _ rfl hr ⟨L2N.takes_of rfl rfl rfl rfl, fun c r F fp σ H h => h⟩ (passes_of rfl), fn_core hT hp hn h⟩
end
end PL

set_option Elab.async false
set_option linter.all false
set_option maxRecDepth 100000
set_option maxHeartbeats 1000000
namespace PL
open PySem L2 PV PySem.SeqAt PyProof.Rows

section
variable {C : Cn} {kp : Nat → Bool} {Xw : XW} {X : Cx} {F F1 F2 F0 F' : AS} {fp fp1 fp2 fp0 fp' : FP} {r r1 r2 r' : Env} {σ σ' : L2.St} {H H1 H2 H0 H' : Hp} {v : PV} {u : V} {q : AS} {f : Fl} {o : Bool}
variable {T : Tab} {P : Fns}
/-- an operation of two read values -/
def rO (C : Cn) (op : PV → PV → Option PV) (fl : Fl) : R2 := fun u w H Q => ∃ F fp r σ x y z, Rel C F fp r σ H ∧ Sh C F H x u ∧ Sh C F H y w ∧ op x y = some z ∧ OkV C F fp H σ Q (z, fl) r
theorem two_rd {op : PV → PV → Option PV} {fl : Fl} {ma mb : Env → PL.R (PV × Fl)} {Q : VK}
    (h : tE C Xw (fun r => (ma r).bind fun x r1 => (mb r1).bind fun y r2 => R.chk (okAl x.1 x.2 r1 r2) ((R.of (op x.1 y.1) r2).bind fun v r => .ok (v, fl) r)) σ H Q) :
    tOp (rO C op fl) (tE C Xw ma) (tE C Xw mb) σ H Q := by
  obtain ⟨F, fp, r, R, g⟩ := tE_first h
  refine ⟨F, fp, r, R, g.mono (fun x r1 g1 => ?_) fun _ _ z => z⟩
  intro F1 fp1 H1 u q E R1 v s n
  obtain ⟨F0, fp0, x', r1', F1', fp1', q', b1, g2⟩ := g1 F1 fp1 H1 u q E R1 v s n
  obtain ⟨F, fp, r, R, g⟩ := tE_next b1.R g2
  refine ⟨F, fp, r, R, g.mono (fun y r2 g3 => ?_) fun _ _ z => z⟩
  intro F2 fp2 H2 w q2 E2 R2 v2 s2 n2
  obtain ⟨y', r2', F2', fp2', q2', b2, g4⟩ := g3 F2 fp2 H2 w q2 E2 R2 v2 s2 n2
  obtain ⟨ok, g5⟩ := g4.chk
  obtain ⟨z, hz, g6⟩ := g5.of
  exact ⟨_, _, _, _, _, _, z, b2.R, RV.keep b1.R b1.v b1.s b2.E b2.R ok, RV.sh b2.R b2.v, hz, g6⟩
theorem pidx_ix (n : Nat) (i : Int) : ixN n i = pidx i n := rfl
theorem atI_imms {l : List PV} {xs : List V} {i : Int} {z : PV} (i1 : Imms C F H l xs) (e : ((pidx i l.length).bind fun n => l[n]?) = some z) : ∃ w, atI xs i = some w ∧ Imm C F H z w := by
  rw [Option.bind_eq_some_iff] at e
  obtain ⟨n, e1, e2⟩ := e
  obtain ⟨w, h1, h2⟩ := i1.get e2
  exact ⟨w, by unfold atI; rw [Imms.length i1, pidx_ix, e1]; exact h1, h2⟩
theorem dct_type {pins : List (Addr × Obj)} {s : Shared} {a : Addr} {ks vs : List PV} (I : Inv X pins σ H s) (h : DctRep C F H a ks vs) : s.TypeIs (.ref a) "dict" := by
  rcases h with ⟨es, e, _⟩ | ⟨xs, e, _, _, _⟩
  · obtain ⟨_, _, ws, _, o, es', ep, h1, h2, _⟩ := (show ObjOk X.prog X.w H s.heap a (.dK es) from I.hok a _ e)
    exact ⟨o, h1, h2.1⟩
  · obtain ⟨o, en, ep, h1, h2, _⟩ := (I.hok a _ e).1
    exact ⟨o, h1, h2.1⟩
theorem ixr_ix (f : Fit C X) (hu : X.A.units + 64 < cLine) : IxR X (rO C index .frz) := by
  intro value slice pins s σ' H u w v x Q I ru rw' h hs
  obtain ⟨F, fp, r, σ, a, b, z, R, sa, sb, e, g⟩ := h
  cases a with
  | tup l =>
    cases b with
    | int i =>
      simp only [index] at e
      obtain ⟨p, xs, rfl, h1, i1⟩ := sa.tup
      simp only [Sh, Imm] at sb; subst sb
      obtain ⟨y, e1, im⟩ := atI_imms i1 e
      exact ix_tup value slice pins s σ' H _ _ v x Q I ru rw' ⟨p, xs, i, y, rfl, rfl, f.K ▸ h1, e1, OkV.frz R g im⟩ hs
    | _ => simp [index] at e
  | lst l =>
    cases b with
    | int i =>
      simp only [index] at e
      obtain ⟨p, xs, rfl, h1, i1⟩ := sa.lst
      simp only [Sh, Imm] at sb; subst sb
      obtain ⟨y, e1, im⟩ := atI_imms i1 e
      exact ix_list value slice pins s σ' H _ _ v x Q I ru rw' ⟨p, xs, i, y, rfl, rfl, f.K ▸ h1, e1, OkV.frz R g im⟩ hs
    | _ => simp [index] at e
  | str t =>
    cases b with
    | int i =>
      simp only [index] at e
      split at e
      · rename_i h0
        rw [Option.map_eq_some_iff] at e
        obtain ⟨c, e, rfl⟩ := e
        simp only [Sh, Imm] at sa sb; subst sa sb
        have hl : i.toNat < t.length := (List.getElem?_eq_some_iff.mp e).1
        refine ix_str value slice pins s σ' H _ _ v x Q I ru rw' ⟨tx t, i, c, rfl, rfl, by rw [tx_len, ← line_eq]; exact h0.2, ?_, OkV.frz R g (by rw [Imm]; rfl)⟩ hs
        have : (tx t).cps.toList = t := by simp [tx]
        rw [this]
        unfold atI ixN
        rw [if_pos h0.1, if_pos (by omega)]
        exact e
      · cases e
    | _ => simp [index] at e
  | dct ks vs =>
    simp only [index] at e
    split at e
    · rename_i ok
      obtain ⟨d, rfl, hd⟩ := sa
      have hx := sb.imm (okKey_imm ok)
      obtain rfl : v = Value.ref d := ru
      exact tail_any (dct_type I hd) PySem.F.slot_dict_getitem.lookup (pl_getItem f (by omega) I hd ok hx rw' e fun w' s' uv I' r' im => ⟨uv, H, I', r', OkV.frz R g im⟩) hs
    · cases e
  | _ => simp [index] at e
theorem ev_ix {a b : Expr} {pos : Pos} {ea eb : Ex} (f : Fit C X) (hu : X.A.units + 64 < cLine) (ha : PE X a (tE C Xw (ev T P ea))) (hb : PE X b (tE C Xw (ev T P eb))) (hs : PlainIx b := by intro _ _; rfl) : PE X (.Subscript a b pos) (tE C Xw (ev T P (.ix ea eb))) :=
  peW (pe_ix (ixr_ix f hu) ha hb hs) fun _ _ _ q => two_rd (tE_cast (fun r => by rw [ev]) q)
/-! ### slices -/
theorem clamp_sIx (n d : Nat) (i : Option Int) : HT.sIx n d i = (match i with | some i => clampI i n | none => d) := by
  cases i with
  | none => rfl
  | some i =>
    show (if i < 0 then (i + (n : Int)).toNat else min i.toNat n) = clampI i n
    unfold clampI
    split
    · split
      · rfl
      · omega
    · split
      · omega
      · omega
theorem cut_eq {A : Type} (lo hi : Option Int) (l : List A) : cut lo hi l = (l.take (HT.sIx l.length l.length hi)).drop (HT.sIx l.length 0 lo) := by
  cases lo <;> cases hi <;> simp only [cut, clamp_sIx]
theorem cut_imms {l : List PV} {xs : List V} (lo hi : Option Int) (i : Imms C F H l xs) : Imms C F H (cut lo hi l) (cutV xs lo hi) := by
  have e : cutV xs lo hi = ((xs.take (HT.sIx xs.length xs.length hi)).drop (HT.sIx xs.length 0 lo)) := by
    unfold cutV
    rw [List.drop_take]
  rw [e, cut_eq, Imms.length i]
  exact (i.take _).drop _
def rSl (C : Cn) : V → Option Int → Option Int → Hp → VK → Prop := fun u lo hi H Q => ∃ F fp r σ x z, Rel C F fp r σ H ∧ Sh C F H x u ∧ (match x with | .tup l => some (PV.tup (cut lo hi l)) | .lst l => some (.lst (cut lo hi l)) | _ => none) = some z ∧ OkV C F fp H σ Q (z, .own) r
theorem slr_sl (f : Fit C X) : SlR X (rSl C) := by
  intro pins s σ' H u v vl vu lo hi sl Q I ru hs pl pu h
  obtain ⟨F, fp, r, σ, x, z, R, sx, e, g⟩ := h
  cases x with
  | tup l =>
    simp only [Option.some.injEq] at e; subst e
    obtain ⟨a, xs, rfl, h1, i1⟩ := sx.tup
    have ic := cut_imms lo hi i1
    refine sl_tupA pins s σ' H _ v vl vu lo hi sl Q I ru hs pl pu ⟨a, xs, rfl, f.K ▸ h1, fun hw => ?_, fun _ p hp => OkV.newTup R g ic hp⟩
    have e2 : cut lo hi l = l := by
      rw [Imms.length i1] at hw
      rw [cut_eq, hw.1, hw.2, List.take_length, List.drop_zero]
    rw [e2] at g
    exact OkV.imm R g rfl (.inl rfl) (by rw [Imm]; exact ⟨a, xs, rfl, h1, i1⟩)
  | lst l =>
    simp only [Option.some.injEq] at e; subst e
    obtain ⟨a, xs, rfl, h1, i1⟩ := sx.lst
    exact sl_list pins s σ' H _ v vl vu lo hi sl Q I ru hs pl pu ⟨a, xs, rfl, f.K ▸ h1, fun p hp => OkV.newLst R g (cut_imms lo hi i1) hp⟩
  | _ => cases e
/-- a bound of a slice: an expression, or none -/
def tPO (C : Cn) (Xw : XW) (m : Env → PL.R (PV × Fl)) : TO := fun σ H Q => ∃ F fp r, Rel C F fp r σ H ∧ Good (m r) (fun x r' => ∀ F' fp' H', Ext F fp H F' fp' H' → Rel C F' fp' r' σ H' → ∃ o, optI x.1 = some o ∧ Q o H') (OkX C Xw F fp H σ)
theorem poW {e : Option Expr} {t t' : TO} (h : PO X e t) (w : ∀ σ H Q, t' σ H Q → t σ H Q) : PO X e t' := ⟨fun pins s σ H Q I q => h.run pins s σ H Q I (w σ H Q q)⟩
theorem po_no : PO X none (tPO C Xw (ev T P (.const .non))) := poW po_none fun σ H Q q => by
  obtain ⟨F, fp, r, R, g⟩ := q
  rw [ev] at g
  obtain ⟨o, h1, h2⟩ := g F fp H .refl R
  cases h1
  exact h2
theorem po_ex {e : Expr} {x : Ex} (he : PE X e (tE C Xw (ev T P x))) (hn : ∀ r, ∀ y r', ev T P x r = .ok y r' → y.1 ≠ .non) : PO X (some e) (tPO C Xw (ev T P x)) := poW (po_some he) fun σ H Q q => by
  obtain ⟨F, fp, r, R, g⟩ := q
  refine ⟨F, fp, r, R, g.mem.mono (fun x r1 g1 F1 fp1 H1 u q E R1 v s n => ?_) fun _ _ z => z⟩
  obtain ⟨g0, g1⟩ := g1
  obtain ⟨o, h1, h2⟩ := g1 F1 fp1 H1 E R1
  obtain ⟨x, fx⟩ := x
  cases x with
  | non => exact absurd rfl (hn r _ _ g0)
  | int i =>
    simp only [optI] at h1
    split at h1
    · cases h1
      exact ⟨i, RV.int R1 v, h2⟩
    · cases h1
  | _ => simp [optI] at h1
end
end PL

set_option Elab.async false
set_option linter.all false
set_option maxRecDepth 100000
set_option maxHeartbeats 1000000
namespace PL
open PySem L2 PV PySem.SeqAt PyProof.Rows

/-! ### slots hidden, slots back -/
theorem wipeS_get : ∀ (own : List Nat) (r : Env) (j : Nat), (wipeS own r).length = r.length ∧ get (wipeS own r) j = if j ∈ own then none else get r j
  | [], r, j => ⟨rfl, by simp [wipeS]⟩
  | i :: own, r, j => by
    obtain ⟨h1, h2⟩ := wipeS_get own (r.set i none) j
    rw [wipeS]
    refine ⟨by rw [h1, List.length_set], ?_⟩
    rw [h2, get_set]
    by_cases hj : j ∈ own
    · simp [hj]
    · rw [if_neg hj]
      by_cases hi : i = j
      · subst hi
        rw [if_pos (List.mem_cons_self)]
        by_cases hl : i < r.length
        · rw [if_pos ⟨rfl, hl⟩]
        · rw [if_neg fun z => hl z.2]
          cases e : get r i with
          | none => rfl
          | some x => exact absurd (get_lt e) hl
      · rw [if_neg fun z => hi z.1, if_neg]
        simp [hj, Ne.symm hi]
theorem backS_get (old : Env) : ∀ (own : List Nat) (r : Env) (j : Nat), old.length = r.length → (backS old own r).length = r.length ∧ get (backS old own r) j = if j ∈ own then get old j else get r j
  | [], r, j, _ => ⟨rfl, by simp [backS]⟩
  | i :: own, r, j, hl => by
    obtain ⟨h1, h2⟩ := backS_get old own (r.set i (get old i)) j (by rw [List.length_set]; exact hl)
    rw [backS]
    refine ⟨by rw [h1, List.length_set], ?_⟩
    rw [h2, get_set]
    by_cases hj : j ∈ own
    · simp [hj]
    · rw [if_neg hj]
      by_cases hi : i = j
      · subst hi
        rw [if_pos (List.mem_cons_self)]
        by_cases hl' : i < r.length
        · rw [if_pos ⟨rfl, hl'⟩]
        · rw [if_neg fun z => hl' z.2]
          cases e : get r i with
          | none =>
            cases e' : get old i with
            | none => rfl
            | some x => exact absurd (hl ▸ get_lt e') hl'
          | some x => exact absurd (get_lt e) hl'
      · rw [if_neg fun z => hi z.1, if_neg]
        simp [hj, Ne.symm hi]
theorem unhide_none : ∀ {hs : List (Nat × PV)} {r r3 : Env}, unhide hs r = some r3 → ∀ p ∈ hs, get r p.1 = none
  | [], r, r3, _, p, hp => nomatch hp
  | (j, v) :: hs, r, r3, h, p, hp => by
    rw [unhide] at h
    split at h
    · rename_i e
      rcases List.mem_cons.mp hp with rfl | hp
      · exact e
      · have := unhide_none h p hp
        rw [get_set] at this
        by_cases c : j = p.1 ∧ j < r.length
        · rw [if_pos c] at this; cases this
        · rw [if_neg c] at this; exact this
    · cases h
theorem unhide_get : ∀ {hs : List (Nat × PV)} {r r3 : Env}, unhide hs r = some r3 → r3.length = r.length ∧ (∀ j, (∀ v, (j, v) ∉ hs) → get r3 j = get r j) ∧ ∀ j v, (j, v) ∈ hs → j < r.length → get r3 j = some (v, true)
  | [], r, r3, h => by
    rw [unhide] at h; cases h
    exact ⟨rfl, fun _ _ => rfl, fun _ _ z => nomatch z⟩
  | (i, w) :: hs, r, r3, h => by
    rw [unhide] at h
    split at h
    · rename_i e
      obtain ⟨h1, h2, h3⟩ := unhide_get h
      rw [List.length_set] at h1 h3
      refine ⟨h1, fun j hj => ?_, fun j v hj hl => ?_⟩
      · rw [h2 j fun v z => hj v (List.mem_cons_of_mem _ z), get_set, if_neg]
        rintro ⟨rfl, _⟩
        exact hj w List.mem_cons_self
      · rcases List.mem_cons.mp hj with z | z
        · obtain ⟨rfl, rfl⟩ : j = i ∧ v = w := by
            injection z with z1 z2
            exact ⟨z1, z2⟩
          by_cases m : ∃ v', (j, v') ∈ hs
          · obtain ⟨v', m⟩ := m
            have := unhide_none h _ m
            rw [get_set, if_pos ⟨rfl, hl⟩] at this
            cases this
          · rw [h2 j fun v' z => m ⟨v', z⟩, get_set, if_pos ⟨rfl, hl⟩]
        · exact h3 j v z hl
    · cases h
def hidS : List (Nat × PV) → Env → Env
  | [], r => r
  | p :: hs, r => hidS hs (r.set p.1 none)

section
variable {C : Cn} {kp : Nat → Bool} {Xw : XW} {X : Cx} {F F1 F2 F0 F' : AS} {fp fp1 fp2 fp0 fp' : FP} {r r1 r2 r3 rB r' : Env} {σ σ' : L2.St} {H H1 H2 H0 H' : Hp} {v : PV} {u : V} {q : AS} {f : Fl} {o : Bool}
variable {T : Tab} {P : Fns}
/-- some slots forgotten -/
theorem Rel.hide (R : Rel C F fp r σ H) {L : Nat → Prop} [DecidablePred L] (hl : rB.length = r.length) (hg : ∀ j, get rB j = if L j then none else get r j) (hs : ∀ j, ¬ L j → σ'[j]? = σ[j]?) (hsl : σ'.length = σ.length) : Rel C F (fun j a => ¬ L j ∧ fp j a) rB σ' H := by
  refine ⟨by rw [hl, hsl]; exact R.len, fun j v o e => ?_, fun j e a z => ?_, fun i j a x y => R.dis i j a x.2 y.2, fun j a z => R.nof j a z.2, R.ff⟩
  · rw [hg] at e
    by_cases h : L j
    · rw [if_pos h] at e; cases e
    · rw [if_neg h] at e
      obtain ⟨u, h1, h2⟩ := R.sm j v o e
      have ef : (fun a => ¬ L j ∧ fp j a) = fp j := funext fun a => propext ⟨fun z => z.2, fun z => ⟨h, z⟩⟩
      refine ⟨u, by rw [hs j h]; exact h1, ?_⟩
      rcases h2 with ⟨ho, h2⟩ | ⟨ho, h2, no⟩
      · exact .inl ⟨ho, by show Own C F H v u (fun a => _); rw [ef]; exact h2⟩
      · exact .inr ⟨ho, h2, fun a z => no a z.2⟩
  · rw [hg, if_neg z.1] at e
    exact R.nn j e a z.2
/-- the forgotten slots back -/
theorem Rel.back (R1 : Rel C F1 fp1 r1 σ H1) {L : Nat → Prop} [DecidablePred L] (RB : Rel C F1 (fun j a => ¬ L j ∧ fp1 j a) rB σ' H1) (E : Ext F1 (fun j a => ¬ L j ∧ fp1 j a) H1 F2 fp2 H2) (R2 : Rel C F2 fp2 r2 σ' H2)
    (hs : ∀ j, ¬ L j → σ'[j]? = σ[j]?) (hsl : σ'.length = σ.length) (hl : r3.length = r2.length) (hg : ∀ j, get r3 j = if L j then get r1 j else get r2 j) :
    Ext F1 fp1 H1 F2 (fun j a => (L j ∧ fp1 j a) ∨ (¬ L j ∧ fp2 j a)) H2 ∧ Rel C F2 (fun j a => (L j ∧ fp1 j a) ∨ (¬ L j ∧ fp2 j a)) r3 σ H2 := by
  have keep : ∀ j a o, L j → fp1 j a → H1 a = some o → H2 a = some o := fun j a o lj ha e => E.keep a o e fun i hi => hi.1 (R1.dis i j a hi.2 ha ▸ lj)
  have apart : ∀ j a, L j → fp1 j a → ¬ F2 a ∧ ∀ k, ¬ fp2 k a := fun j a lj ha => by
    obtain ⟨o, e, _⟩ := R1.mutO ha
    refine ⟨fun z => ?_, fun k z => ?_⟩
    · rcases E.fn a z with z | ⟨i, z⟩ | z
      · exact R1.nof j a ha z
      · exact z.1 (R1.dis i j a z.2 ha ▸ lj)
      · rw [e] at z; cases z
    · rcases E.pn k a z with ⟨i, z⟩ | z
      · exact z.1 (R1.dis i j a z.2 ha ▸ lj)
      · rw [e] at z; cases z
  refine ⟨⟨fun a o e no => E.keep a o e fun i hi => no i hi.2, E.fm, fun a z => ?_, fun j a z => ?_⟩, ⟨?_, fun j v o e => ?_, fun j e a z => ?_, fun i j a x y => ?_, fun j a z => ?_, R2.ff⟩⟩
  · rcases E.fn a z with z | ⟨i, z⟩ | z
    · exact .inl z
    · exact .inr (.inl ⟨i, z.2⟩)
    · exact .inr (.inr z)
  · rcases z with z | z
    · exact .inl ⟨j, z.2⟩
    · rcases E.pn j a z.2 with ⟨i, z⟩ | z
      · exact .inl ⟨i, z.2⟩
      · exact .inr z
  · rw [hl, ← hsl]; exact R2.len
  · rw [hg] at e
    by_cases h : L j
    · rw [if_pos h] at e
      obtain ⟨u, h1, h2⟩ := R1.sm j v o e
      have ef : (fun a => (L j ∧ fp1 j a) ∨ (¬ L j ∧ fp2 j a)) = fp1 j := funext fun a => propext ⟨fun z => by
        rcases z with z | z
        · exact z.2
        · exact absurd h z.1, fun z => .inl ⟨h, z⟩⟩
      refine ⟨u, h1, ?_⟩
      rcases h2 with ⟨ho, h2⟩ | ⟨ho, h2, no⟩
      · refine .inl ⟨ho, ?_⟩
        show Own C F2 H2 v u (fun a => _)
        rw [ef]
        exact h2.mono (E.mono RB) fun a o ha e => keep j a o h ha e
      · refine .inr ⟨ho, Imm.mono (E.mono RB) _ _ h2, fun a z => ?_⟩
        rcases z with z | z
        · exact no a z.2
        · exact z.1 h
    · rw [if_neg h] at e
      obtain ⟨u, h1, h2⟩ := R2.sm j v o e
      have ef : (fun a => (L j ∧ fp1 j a) ∨ (¬ L j ∧ fp2 j a)) = fp2 j := funext fun a => propext ⟨fun z => by
        rcases z with z | z
        · exact absurd z.1 h
        · exact z.2, fun z => .inr ⟨h, z⟩⟩
      refine ⟨u, by rw [← hs j h]; exact h1, ?_⟩
      rcases h2 with ⟨ho, h2⟩ | ⟨ho, h2, no⟩
      · exact .inl ⟨ho, by show Own C F2 H2 v u (fun a => _); rw [ef]; exact h2⟩
      · refine .inr ⟨ho, h2, fun a z => ?_⟩
        rcases z with z | z
        · exact h z.1
        · exact no a z.2
  · rw [hg] at e
    rcases z with z | z
    · rw [if_pos z.1] at e; exact R1.nn j e a z.2
    · rw [if_neg z.1] at e; exact R2.nn j e a z.2
  · rcases x with x | x <;> rcases y with y | y
    · exact R1.dis i j a x.2 y.2
    · exact absurd y.2 ((apart i a x.1 x.2).2 j)
    · exact absurd x.2 ((apart j a y.1 y.2).2 i)
    · exact R2.dis i j a x.2 y.2
  · rcases z with z | z
    · exact (apart j a z.1 z.2).1
    · exact R2.nof j a z.2
theorem wipe_get : ∀ (vs : List Nat) (σ : L2.St) (j : Nat), (j ∉ vs → (wipe σ vs)[j]? = σ[j]?) ∧ (j ∈ vs → j < σ.length → (wipe σ vs)[j]? = some none)
  | [], σ, j => ⟨fun _ => rfl, fun z => nomatch z⟩
  | v :: vs, σ, j => by
    obtain ⟨h1, h2⟩ := wipe_get vs σ j
    rw [wipe]
    refine ⟨fun m => ?_, fun m hl => ?_⟩
    · rw [List.getElem?_set_ne fun (z : v = j) => m (by rw [← z]; exact List.mem_cons_self), h1 fun z => m (List.mem_cons_of_mem _ z)]
    · by_cases e : v = j
      · subst e
        rw [List.getElem?_set_self (by rw [wipe_length]; exact hl)]
      · rw [List.getElem?_set_ne e]
        rcases List.mem_cons.mp m with z | z
        · exact absurd z.symm e
        · exact h2 z hl
theorem wipe_same {vs : List Nat} {σ2 : L2.St} (hl : σ2.length = σ.length) (h : ∀ j, j ∉ vs → σ2[j]? = (wipe σ vs)[j]?) : wipe σ2 vs = wipe σ vs := by
  apply List.ext_getElem?
  intro j
  by_cases m : j ∈ vs
  · by_cases hj : j < σ.length
    · rw [(wipe_get vs σ2 j).2 m (by omega), (wipe_get vs σ j).2 m hj]
    · rw [List.getElem?_eq_none (by rw [wipe_length]; omega), List.getElem?_eq_none (by rw [wipe_length]; omega)]
  · rw [(wipe_get vs σ2 j).1 m, h j m]
/-- the new list held aside grows -/
theorem grow_ok {D : Addr} {acc : List PV} {accV : List V} {y : PV} {uy : V} (R : Rel C F fp r σ H) (hD : H D = some (.lst accV)) (i : Imms C F H acc accV) (nf : ¬ F D) (np : ∀ i, ¬ fp i D) (iy : Imm C F H y uy) :
    Rel C F fp r σ (upd H D (.lst (accV ++ [uy]))) ∧ Imms C F (upd H D (.lst (accV ++ [uy]))) (acc ++ [y]) (accV ++ [uy]) ∧ Mono F H F (upd H D (.lst (accV ++ [uy]))) := by
  have nt : ∀ a xs, Rd H a (.tup xs) → a ≠ D := fun a xs h z => by
    subst z
    rcases h with h | ⟨ob, h⟩ <;> (rw [hD] at h; cases h)
  have m : Mono F H F (upd H D (.lst (accV ++ [uy]))) := by
    refine ⟨fun _ z => z, fun a xs h => ?_, fun a xs hf h => ?_⟩
    · have := nt a xs h
      rcases h with h | ⟨ob, h⟩
      · exact .inl (by rw [upd_ne this]; exact h)
      · exact .inr ⟨ob, by rw [upd_ne this]; exact h⟩
    · have : a ≠ D := fun z => nf (z ▸ hf)
      rcases h with h | ⟨ob, h⟩
      · exact .inl (by rw [upd_ne this]; exact h)
      · exact .inr ⟨ob, by rw [upd_ne this]; exact h⟩
  refine ⟨⟨R.len, fun j v o e => ?_, R.nn, R.dis, R.nof, fun a h => ?_⟩, Imms.append (Imms.mono m _ _ i) (Imms.cons_iff.mpr ⟨Imm.mono m _ _ iy, by simp [Imms]⟩), m⟩
  · obtain ⟨u, h1, h2⟩ := R.sm j v o e
    refine ⟨u, h1, ?_⟩
    rcases h2 with ⟨ho, h2⟩ | ⟨ho, h2, no⟩
    · exact .inl ⟨ho, h2.mono m fun a o ha e => by rw [upd_ne (fun (z : a = D) => np j (by rw [← z]; exact ha))]; exact e⟩
    · exact .inr ⟨ho, Imm.mono m _ _ h2, no⟩
  · obtain ⟨xs, h1⟩ := R.ff a h
    exact ⟨xs, m.l a xs h h1⟩
/-- no exception leaves a comprehension's turn -/
abbrev XF : XW := fun _ _ _ _ _ _ => False
def turnC (T : Tab) (P : Fns) (elt : Ex) (t : Tg) (cs : List Ex) (own : List Nat) (x : PV) (r : Env) : PL.R (Option PV) :=
  (PL.R.of (PL.assign t x .frz (wipeS own r)) r).bind fun r _ => (tests T P cs r).bind fun c r => if c then (ev T P elt r).bind fun y r => (PL.R.of (sink y.1 y.2 r) r).bind fun r _ => .ok (some y.1) r else .ok none r
theorem compL_step {g : PV → Env → PL.R (Option PV)} {x : PV} {xs acc : List PV} {r : Env} {K : List PV → Env → Prop} {Ee : Nat → Env → Prop} (h : Good (compL g (x :: xs) acc r) K Ee) :
    Good (g x r) (fun y r' => match y with | some y => Good (compL g xs (acc ++ [y]) r') K Ee | none => Good (compL g xs acc r') K Ee) fun _ _ => False := by
  rw [compL] at h
  cases e : g x r with
  | bad => rw [e] at h; exact h
  | exc c r' => rw [e] at h; exact h
  | ok y r' =>
    rw [e] at h
    cases y with
    | none => exact h
    | some y => exact h
theorem comp_core {J : It} {ps : List PV} {S : AS → Hp → Prop} {t : Tg} {elt : Ex} {cs : List Ex} {own : List Nat} {hs : List (Nat × PV)} {r1h : Env} {Q : VK} (hk : tgK (fun i => !own.contains i) t = true) (I : ItOk C J ps q S) (R1 : Rel C F1 fp1 r1 σ H1) (hS : S F1 H1)
    (hq : ∀ i a, q a → ¬ (¬ (i ∈ own ∨ i ∈ hs.map (·.1)) ∧ fp1 i a)) (hsv : ∀ p ∈ hs, get r1 p.1 = some (p.2, true)) (hl1 : r1h.length = r1.length) (hg1 : ∀ j, get r1h j = if j ∈ hs.map (·.1) then none else get r1 j) (E0 : Ext F0 fp0 H0 F1 fp1 H1) (hlen : ps.length ≤ line)
    (g : Good ((compL (turnC T P elt t cs own) ps [] (wipeS own r1h)).bind fun ys r2 => (PL.R.of (unhide hs (backS r1h own r2)) r2).bind fun r3 _ => .ok (.lst ys, .own) r3) (OkV C F0 fp0 H0 σ Q) (OkX C Xw F0 fp0 H0 σ)) :
    ∀ D, H1 D = none → ∃ W : Nat → Nat → Hp → Prop, (∃ m, W 0 m (upd H1 D (.lst []))) ∧ ∀ i m H, W i m H →
      (J.stop i H ∧ Q (.ref D) H) ∨ (J.go i H ∧ ∃ Nx : Hp → Prop, (∀ H', Nx H' → ∃ m', m' < m ∧ W (i + 1) m' H') ∧ ∀ x H', J.yld i H x H' → gT C.K t x (wipe σ own) H' fun σ2 H2 => wipe σ2 own = wipe σ own ∧ tT C XF (tests T P cs) σ2 H2 fun b H3 =>
        if b = true then tE C XF (ev T P elt) σ2 H3 fun y H4 => ∃ acc, H4 D = some (.lst acc) ∧ acc.length < sizeLine ∧ Nx (upd H4 D (.lst (acc ++ [y]))) else Nx H3) := by
  intro D hD
  have hwl : ∀ r : Env, (wipeS own r).length = r.length := fun r => (wipeS_get own r 0).1
  have hwg : ∀ (r : Env) j, get (wipeS own r) j = if j ∈ own then none else get r j := fun r j => (wipeS_get own r j).2
  have hsl : (wipe σ own).length = σ.length := wipe_length σ own
  have hso : ∀ j, ¬ (j ∈ own ∨ j ∈ hs.map (·.1)) → (wipe σ own)[j]? = σ[j]? := fun j h => (wipe_get own σ j).1 fun z => h (.inl z)
  have RB : Rel C F1 (fun j a => ¬ (j ∈ own ∨ j ∈ hs.map (·.1)) ∧ fp1 j a) (wipeS own r1h) (wipe σ own) H1 := by
    refine R1.hide (L := fun j => j ∈ own ∨ j ∈ hs.map (·.1)) (by rw [hwl, hl1]) (fun j => ?_) hso hsl
    rw [hwg, hg1]
    by_cases h1 : j ∈ own
    · rw [if_pos h1, if_pos (.inl h1)]
    · rw [if_neg h1]
      by_cases h2 : j ∈ hs.map (·.1)
      · rw [if_pos h2, if_pos (.inr h2)]
      · rw [if_neg h2, if_neg (by rintro (z | z); exact h1 z; exact h2 z)]
  generalize hfB : (fun (j : Nat) (a : Addr) => ¬ (j ∈ own ∨ j ∈ hs.map (·.1)) ∧ fp1 j a) = fpB at RB
  have hqB : ∀ i a, q a → ¬ fpB i a := fun i a z => by rw [← hfB]; exact hq i a z
  let Inv2 : Nat → Hp → Prop := fun i H2 => ∃ F2 fp2 r2 acc accV, Ext F1 fpB H1 F2 fp2 H2 ∧ r2.length = σ.length ∧ Rel C F2 fp2 (wipeS own r2) (wipe σ own) H2 ∧ H2 D = some (.lst accV) ∧ Imms C F2 H2 acc accV ∧ ¬ F2 D ∧ (∀ i, ¬ fp2 i D) ∧ acc.length ≤ i ∧
    Good (compL (turnC T P elt t cs own) (ps.drop i) acc r2) (fun ys r2 => Good ((PL.R.of (unhide hs (backS r1h own r2)) r2).bind fun r3 _ => PL.R.ok (PV.lst ys, Fl.own) r3) (OkV C F0 fp0 H0 σ Q) (OkX C Xw F0 fp0 H0 σ)) (OkX C Xw F0 fp0 H0 σ)
  refine ⟨fun i m H2 => m = ps.length - i ∧ i ≤ ps.length ∧ Inv2 i H2, ⟨ps.length, by simp, Nat.zero_le _, F1, fpB, wipeS own r1h, [], [], .new hD, by rw [hwl, hl1]; exact R1.len, ?_, upd_same, by simp [Imms], RB.notF hD, RB.notP hD, Nat.le_refl _, g.bind⟩, ?_⟩
  · have e : wipeS own (wipeS own r1h) = wipeS own r1h := by
      apply List.ext_getElem?
      intro j
      have h1 := hwg (wipeS own r1h) j
      have h2 := hwg r1h j
      have hj : get (wipeS own (wipeS own r1h)) j = get (wipeS own r1h) j := by
        rw [h1]
        by_cases m : j ∈ own
        · rw [if_pos m, h2, if_pos m]
        · rw [if_neg m]
      unfold get at hj
      have l1 : (wipeS own (wipeS own r1h)).length = (wipeS own r1h).length := hwl _
      by_cases hlt : j < (wipeS own r1h).length
      · rw [List.getElem?_eq_getElem hlt, List.getElem?_eq_getElem (by rw [l1]; exact hlt)] at hj ⊢
        simpa using hj
      · rw [List.getElem?_eq_none (by omega), List.getElem?_eq_none (by omega)]
    rw [e]
    exact RB.new hD
  rintro i m H2 ⟨rfl, hi, F2, fp2, r2, acc, accV, E2, hl2, R2, hD2, i2, nF, nP, hacc, g2⟩
  have S2 : S F2 H2 := I.stay _ _ _ _ (E2.mono RB) (fun a o qa e => E2.keep a o e fun i hi => hqB i a qa hi) hS
  by_cases hlt : i < ps.length
  · have ep : ps[i]? = some ps[i] := List.getElem?_eq_getElem hlt
    obtain ⟨go, yl⟩ := I.step i ps[i] F2 H2 S2 ep
    rw [List.drop_eq_getElem_cons hlt] at g2
    have g3 := compL_step g2
    refine .inr ⟨go, Inv2 (i + 1), fun H' h => ⟨ps.length - (i + 1), by omega, rfl, hlt, h⟩, fun x H' hy => ?_⟩
    obtain ⟨hH, im⟩ := yl x H' hy
    have hR : Ext F2 fp2 H2 F2 fp2 H' ∧ Rel C F2 fp2 (wipeS own r2) (wipe σ own) H' := by
      rcases hH with rfl | ⟨a, xs, ha, rfl⟩
      · exact ⟨.refl, R2⟩
      · exact ⟨.new ha, R2.new ha⟩
    unfold turnC at g3
    obtain ⟨r3, ea, g4⟩ := Good.of g3
    refine assign_ok (kp := fun i => !own.contains i) t ps[i] .frz (wipeS own r2) r3 (wipe σ own) F2 fp2 x none1 hk hR.2 ⟨im, fun _ z => z⟩ ⟨fun _ _ z => z.elim, fun _ z => z.elim⟩ (fun _ z => z.elim) hR.1 ea _ fun σ2 F3 fp3 E3 R3 K3 _ => ?_
    have hw2 : wipe σ2 own = wipe σ own := wipe_same (by rw [K3.1, hsl]) fun j m => K3.2 j (by simp [m])
    refine ⟨hw2, F3, fp3, r3, R3, g4.bind.mono (fun b r4 g5 F4 fp4 H4 E4 R4 => ?_) fun _ _ z => z.elim⟩
    -- what stands of the new list
    have held : ∀ {F5 : AS} {fp5 : FP} {H5 : Hp}, Ext F2 fp2 H2 F5 fp5 H5 → H5 D = some (.lst accV) ∧ Imms C F5 H5 acc accV ∧ ¬ F5 D ∧ ∀ i, ¬ fp5 i D := fun {F5 fp5 H5} E => by
      refine ⟨E.keep D _ hD2 nP, Imms.mono (E.mono R2) _ _ i2, fun z => ?_, fun k z => ?_⟩
      · rcases E.fn D z with z | ⟨j, z⟩ | z
        · exact nF z
        · exact nP j z
        · rw [hD2] at z; cases z
      · rcases E.pn k D z with ⟨j, z⟩ | z
        · exact nP j z
        · rw [hD2] at z; cases z
    have again : ∀ {F5 : AS} {fp5 : FP} {r5 : Env} {H5 : Hp}, Rel C F5 fp5 r5 σ2 H5 → r5.length = σ.length ∧ Rel C F5 (fun j a => ¬ j ∈ own ∧ fp5 j a) (wipeS own r5) (wipe σ own) H5 := fun {F5 fp5 r5 H5} R5 => by
      have l5 : r5.length = σ.length := by rw [R5.len, K3.1, hsl]
      refine ⟨l5, R5.hide (L := fun j => j ∈ own) (hwl r5) (fun j => hwg r5 j) (fun j h => ?_) (by rw [hsl, K3.1, hsl])⟩
      rw [← hw2]
      exact (wipe_get own σ2 j).1 h
    have E24 : Ext F2 fp2 H2 F4 fp4 H4 := E3.trans E4
    cases b with
    | false =>
      simp only [Bool.false_eq_true, if_false] at g5 ⊢
      obtain ⟨d1, d2, d3, d4⟩ := held E24
      obtain ⟨l5, R5⟩ := again R4
      refine ⟨F4, _, r4, acc, accV, ?_, l5, R5, d1, d2, d3, fun i z => d4 i z.2, by omega, g5⟩
      have E := E2.trans E24
      exact ⟨E.keep, E.fm, E.fn, fun j a z => E.pn j a z.2⟩
    | true =>
      simp only [if_true] at g5 ⊢
      refine ⟨F4, fp4, r4, R4, g5.bind.mono (fun y r5 g6 F5 fp5 H5 u q5 E5 R5 v5 s5 n5 => ?_) fun _ _ z => z.elim⟩
      obtain ⟨r6, hr6, g7⟩ := Good.of g6
      obtain ⟨F6, fp6, E6, R6, im6, _⟩ := sink_ok (Xw := XF) ⟨E5, R5, v5, s5, n5⟩ hr6
      have E26 : Ext F2 fp2 H2 F6 fp6 H5 := E24.trans E6
      obtain ⟨d1, d2, d3, d4⟩ := held E26
      have la : accV.length = acc.length := Imms.length i2
      refine ⟨accV, d1, by rw [la, ← line_eq]; omega, ?_⟩
      obtain ⟨R7, i7, m7⟩ := grow_ok R6 d1 d2 d3 d4 im6
      obtain ⟨l8, R8⟩ := again R7
      refine ⟨F6, _, r6, acc ++ [y.1], accV ++ [u], ?_, l8, R8, upd_same, i7, d3, fun i z => d4 i z.2, by simp; omega, g7⟩
      have E := E2.trans E26
      refine ⟨fun a o e no => ?_, E.fm, E.fn, fun j a z => E.pn j a z.2⟩
      rw [upd_ne (fun (z : a = D) => by rw [z, hD] at e; cases e)]
      exact E.keep a o e no
  · have e : i = ps.length := by omega
    subst e
    refine .inl ⟨I.stop F2 H2 S2, ?_⟩
    rw [List.drop_length, compL] at g2
    obtain ⟨r4, hu, g3⟩ := Good.of (show Good ((PL.R.of (unhide hs (backS r1h own r2)) r2).bind fun r3 _ => PL.R.ok (PV.lst acc, Fl.own) r3) (OkV C F0 fp0 H0 σ Q) (OkX C Xw F0 fp0 H0 σ) from g2)
    have hl1' : r1h.length = r2.length := by rw [hl1, R1.len, hl2]
    obtain ⟨u1, u2, u3⟩ := unhide_get hu
    have hb1 : ∀ j, (backS r1h own r2).length = r2.length ∧ get (backS r1h own r2) j = if j ∈ own then get r1h j else get r2 j := fun j => backS_get r1h own r2 j hl1'
    have hg4 : ∀ j, get r4 j = if j ∈ own ∨ j ∈ hs.map (·.1) then get r1 j else get (wipeS own r2) j := fun j => by
      by_cases h2 : j ∈ hs.map (·.1)
      · rw [if_pos (.inr h2)]
        obtain ⟨p, hp, e⟩ := List.mem_map.mp h2
        have e1 := hsv p hp
        have hj : p.1 < (backS r1h own r2).length := by rw [(hb1 0).1, ← hl1', hl1]; exact get_lt e1
        rw [← e, e1]
        exact u3 p.1 p.2 hp hj
      · rw [u2 j fun v z => h2 (List.mem_map.mpr ⟨(j, v), z, rfl⟩), (hb1 j).2, hwg]
        by_cases h1 : j ∈ own
        · rw [if_pos h1, if_pos (.inl h1), hg1, if_neg h2]
        · rw [if_neg h1, if_neg (by rintro (z | z); exact h1 z; exact h2 z), if_neg h1]
    subst hfB
    obtain ⟨E9, R9⟩ := R1.back (L := fun j => j ∈ own ∨ j ∈ hs.map (·.1)) RB E2 R2 hso hsl (r3 := r4) (by rw [u1, (hb1 0).1, hwl]) hg4
    refine g3 F2 _ H2 (.ref D) (fun a => a = D) (E0.trans E9) R9 ⟨D, accV, rfl, hD2, i2, fun b => Iff.rfl⟩ ⟨fun j a z w => ?_, fun a z => by rw [z]; exact nF⟩ fun a z => ?_
    · subst z
      rcases w with w | w
      · exact R1.notP hD j w.2
      · exact nP j w.2
    · subst z
      exact E0.none_ hD
end
end PL

set_option Elab.async false
set_option linter.all false
set_option maxRecDepth 100000
set_option maxHeartbeats 1000000
namespace PL
open PySem L2 PV PySem.SeqAt PyProof.Rows

section
variable {C : Cn} {kp : Nat → Bool} {Xw : XW} {X : Cx} {F F1 F2 F0 F' : AS} {fp fp1 fp2 fp0 fp' : FP} {r r1 r2 r3 rB r' : Env} {σ σ' : L2.St} {H H1 H2 H0 H' : Hp} {v : PV} {u : V} {q : AS} {f : Fl} {o : Bool}
variable {T : Tab} {P : Fns}
theorem pts0 : PTs X [] (tT C Xw (tests T P [])) := ⟨fun pins s σ H Q I q => pts_nil.run pins s σ H Q I (by
  obtain ⟨F, fp, r, R, g⟩ := q
  rw [tests] at g
  exact g F fp H .refl R)⟩
theorem pts1 {c : Expr} {e : Ex} (h : PT X c (tT C Xw (bT T P e))) : PTs X [c] (tT C Xw (tests T P [e])) := ⟨fun pins s σ H Q I q => (pts_one h).run pins s σ H Q I (tT_same (fun r => by
  show tests T P [e] r = asB (ev T P e r)
  rw [tests]
  cases asB (ev T P e r) with
  | ok b r' => cases b <;> rfl
  | exc c r' => rfl
  | bad => rfl) q)⟩
/-- the head of a comprehension's walk -/
structure HeadC (C : Cn) (F : AS) (fp : FP) (H : Hp) (σ : L2.St) (ps : List PV) (r1h : Env) (hs : List (Nat × PV)) (u : V) (H1 : Hp) : Prop where
  ex : ∃ (a : Addr) (F2 : AS) (fp2 : FP) (r2 : Env) (q : AS), u = .ref a ∧ Ext F fp H F2 fp2 H1 ∧ Rel C F2 fp2 r2 σ H1 ∧ (∀ p ∈ hs, get r2 p.1 = some (p.2, true)) ∧ r1h.length = r2.length ∧ (∀ j, get r1h j = if j ∈ hs.map (·.1) then none else get r2 j) ∧ (∀ i a, q a → i ∉ hs.map (·.1) → ¬ fp2 i a) ∧
    ((∃ xs, SqT C.K H1 a xs ∧ Imms C F2 H1 ps xs) ∨ ∃ xs, LstS C F2 H1 a xs q ∧ Imms C F2 H1 ps xs)
theorem seqOf_c {hd : Bool} {ps : List PV} {r1h : Env} {hs : List (Nat × PV)} {x : PV × Fl} (b : Bh C Xw F fp H σ x r1 u F1 fp1 H1 q) (h : seqOf hd x.1 x.2 r1 [] = some (ps, r1h, hs)) : HeadC C F fp H σ ps r1h hs u H1 := by
  have plain : seqOf false x.1 x.2 r1 [] = some (ps, r1h, hs) → HeadC C F fp H σ ps r1h hs u H1 := fun h => by
    obtain ⟨⟨a, F2, fp2, q2, hu, E2, R2, hq, hd⟩, rfl⟩ := seqOf_ok b h
    exact ⟨a, F2, fp2, r1h, q2, hu, E2, R2, (fun _ z => nomatch z), rfl, fun j => by simp, fun i a z _ => hq i a z, hd⟩
  cases hd with
  | false => exact plain h
  | true =>
    obtain ⟨v, f⟩ := x
    cases v with
    | lst l =>
      cases f with
      | al j =>
        simp only [seqOf, if_true] at h
        split at h
        · rename_i ej
          simp only [Option.some.injEq, Prod.mk.injEq] at h
          obtain ⟨rfl, rfl, rfl⟩ := h
          obtain ⟨E, R, rv, s, n⟩ := b
          obtain ⟨_, e, e1, no⟩ := rv
          obtain ⟨u', e2, ⟨_, ow⟩ | ⟨hf, _⟩⟩ := R.sm j _ true ej
          · rw [e1] at e2; cases e2
            obtain ⟨a, xs, rfl, h1, i1, h3⟩ := ow
            refine ⟨a, F1, fp1, r1, fp1 j, rfl, E, R, fun p hp => ?_, by rw [List.length_set], fun k => ?_, fun i b z m y => ?_, .inr ⟨xs, .inl ⟨(h3 a).mpr rfl, h1⟩, i1⟩⟩
            · rw [List.mem_singleton.mp hp]; exact ej
            · rw [get_set]
              by_cases hk : j = k
              · subst hk
                rw [if_pos ⟨rfl, get_lt ej⟩, if_pos (by simp)]
              · rw [if_neg fun z => hk z.1, if_neg (by simp; exact fun z => hk z.symm)]
            · obtain rfl := R.dis j i b z y
              exact m (by simp)
          · cases hf
        · cases h
      | _ => exact plain (by simpa [seqOf] using h)
    | _ => exact plain (by simpa [seqOf] using h)
theorem comp_seq {t : Tg} {elt xa xb : Ex} {cs : List Ex} {own : List Nat} {hd : Bool} {Q : VK} (f : Fit C X) (hk : tgK (fun i => !own.contains i) t = true) (q : tE C Xw (ev T P (.comp elt t .seq xa xb cs own hd)) σ H Q) :
    tLc (iSq X.K (tE C Xw (ev T P xa))) (gT X.K t) (tT C XF (tests T P cs)) (tE C XF (ev T P elt)) own σ H Q := by
  obtain ⟨F, fp, r, R, g⟩ := q
  rw [ev, PL.iter] at g
  refine ⟨F, fp, r, R, g.bind.bind.mono (fun x r1 g1 F1 fp1 H1 u q E R1 v s n => ?_) fun _ _ z => z⟩
  cases es : seqOf hd x.1 x.2 r1 [] with
  | none => simp only [es] at g1; exact g1.elim
  | some p =>
    obtain ⟨ps, r1h, hs⟩ := p
    simp only [es] at g1
    have g1 : Good (PL.R.chk (decide (ps.length ≤ line)) ((compL (turnC T P elt t cs own) ps [] (wipeS own r1h)).bind fun ys r2 => (PL.R.of (unhide hs (backS r1h own r2)) r2).bind fun r3 _ => PL.R.ok (PV.lst ys, Fl.own) r3)) (OkV C F fp H σ Q) (OkX C Xw F fp H σ) := g1
    obtain ⟨hl, g2⟩ := g1.chk
    obtain ⟨a, F2, fp2, r2, q2, hu, E2, R2, hsv, hl1, hg1, hq, hd⟩ := (seqOf_c (Xw := Xw) ⟨E, R1, v, s, n⟩ es).ex
    refine ⟨a, hu, ?_⟩
    rw [← f.K]
    rcases hd with ⟨xs, h1, i1⟩ | ⟨xs, h1, i1⟩
    · exact .inl ⟨⟨xs, h1⟩, comp_core hk (itok_tup (q := none1)) R2 ⟨xs, h1, i1⟩ (fun _ _ z => z.elim) hsv hl1 hg1 E2 (by simpa using hl) g2⟩
    · exact .inr ⟨⟨xs, h1.sq⟩, comp_core hk itok_lst R2 ⟨xs, h1, i1⟩ (fun i a z w => hq i a z (fun m => w.1 (.inr m)) w.2) hsv hl1 hg1 E2 (by simpa using hl) g2⟩
theorem ev_comp {elt tg iter : Expr} {ifs : List Expr} {scope : Scope} {own : List (Str × Nat)} {pos : Pos} {t : Tg} {xe xa xb : Ex} {cs : List Ex} {hd : Bool} (f : Fit C X) (hc : X.calm = true) (hN : X.N.Nodup) (ok : BlkOk X.N X.env.scope scope own) (hk : tgK (fun i => !(own.map (·.2)).contains i) t = true)
    (hi : PE X iter (tE C Xw (ev T P xa)))
    (hg : ∀ (s : Shared) (H : Hp) (D : Addr) (cl : List (Str × Addr)) (fp : List Addr), PG (X.blk s H scope (compEnvC scope cl D X.env) fp) tg (gT X.K t)) (ht : ∀ (s : Shared) (H : Hp) (D : Addr) (cl : List (Str × Addr)) (fp : List Addr), PTs (X.blk s H scope (compEnvC scope cl D X.env) fp) ifs (tT C XF (tests T P cs)))
    (he : ∀ (s : Shared) (H : Hp) (D : Addr) (cl : List (Str × Addr)) (fp : List Addr), PE (X.blk s H scope (compEnvC scope cl D X.env) fp) elt (tE C XF (ev T P xe))) (hs : ∀ x, foldedSetIterable iter X.env x = pure x := by intro _; rfl) :
    PE X (.ListComp elt [⟨tg, iter, ifs, 0⟩] scope pos) (tE C Xw (ev T P (.comp xe t .seq xa xb cs (own.map (·.2)) hd))) :=
  peW (pe_lc hc hN (pi_sq hi) ok hg ht he hs) fun _ _ _ q => comp_seq f hk q
theorem comp_rng {t : Tg} {elt : Ex} {cs : List Ex} {own : List Nat} {Q : VK} {a b : Int} (hk : tgK (fun i => !own.contains i) t = true) (E : Ext F fp H F1 fp1 H1) (R1 : Rel C F1 fp1 r1 σ H1)
    (g : Good (if rngOk a b then PL.R.ok (rngL a (b - a).toNat, ([] : List (Nat × PV))) r1 else .bad) (fun p r1 => Good (R.chk (decide (p.1.length ≤ line)) ((compL (turnC T P elt t cs own) p.1 [] (wipeS own r1)).bind fun ys r2 => (PL.R.of (unhide p.2 (backS r1 own r2)) r2).bind fun r3 _ => PL.R.ok (PV.lst ys, Fl.own) r3)) (OkV C F fp H σ Q) (OkX C Xw F fp H σ)) (OkX C Xw F fp H σ)) :
    rngOk a b = true ∧ ∀ D, H1 D = none → ∃ W : Nat → Nat → Hp → Prop, (∃ m, W 0 m (upd H1 D (.lst []))) ∧ ∀ i m H, W i m H →
      ((Itr a (b - a).toNat).stop i H ∧ Q (.ref D) H) ∨ ((Itr a (b - a).toNat).go i H ∧ ∃ Nx : Hp → Prop, (∀ H', Nx H' → ∃ m', m' < m ∧ W (i + 1) m' H') ∧ ∀ x H', (Itr a (b - a).toNat).yld i H x H' → gT C.K t x (wipe σ own) H' fun σ2 H2 => wipe σ2 own = wipe σ own ∧ tT C XF (tests T P cs) σ2 H2 fun b H3 =>
        if b = true then tE C XF (ev T P elt) σ2 H3 fun y H4 => ∃ acc, H4 D = some (.lst acc) ∧ acc.length < sizeLine ∧ Nx (upd H4 D (.lst (acc ++ [y]))) else Nx H3) := by
  split at g
  · rename_i ok
    refine ⟨ok, ?_⟩
    obtain ⟨hl, g2⟩ := (show Good (R.chk _ _) _ _ from g).chk
    exact comp_core (r1h := r1) (hs := []) hk (itok_rng (q := none1)) R1 True.intro (fun _ _ z => z.elim) (fun _ z => nomatch z) rfl (fun j => by simp) E (by simpa using hl) g2
  · exact g.elim
theorem ev_comp2 {elt tg ea eb : Expr} {ifs : List Expr} {scope : Scope} {own : List (Str × Nat)} {p pos pos' : Pos} {t : Tg} {xe xa xb : Ex} {cs : List Ex} (f : Fit C X) (hc : X.calm = true) (hN : X.N.Nodup) (ok : BlkOk X.N X.env.scope scope own) (hk : tgK (fun i => !(own.map (·.2)).contains i) t = true)
    (hg' : Gl X "range") (hm : X.mg "range" = none) (ha : PE X ea (tE C Xw (ev T P xa))) (hb' : PE X eb (tE C Xw (ev T P xb)))
    (hg : ∀ (s : Shared) (H : Hp) (D : Addr) (cl : List (Str × Addr)) (fp : List Addr), PG (X.blk s H scope (compEnvC scope cl D X.env) fp) tg (gT X.K t)) (ht : ∀ (s : Shared) (H : Hp) (D : Addr) (cl : List (Str × Addr)) (fp : List Addr), PTs (X.blk s H scope (compEnvC scope cl D X.env) fp) ifs (tT C XF (tests T P cs)))
    (he : ∀ (s : Shared) (H : Hp) (D : Addr) (cl : List (Str × Addr)) (fp : List Addr), PE (X.blk s H scope (compEnvC scope cl D X.env) fp) elt (tE C XF (ev T P xe)))
    (hs1 : starEach [ea, eb] X.env = [(false, eval ea X.env), (false, eval eb X.env)] := by rfl) (hs2 : starEach [eb] X.env = [(false, eval eb X.env)] := by rfl) (hs : ∀ x, foldedSetIterable (.Call (.Name "range" p) [ea, eb] [] pos') X.env x = pure x := by intro _; rfl) :
    PE X (.ListComp elt [⟨tg, .Call (.Name "range" p) [ea, eb] [] pos', ifs, 0⟩] scope pos) (tE C Xw (ev T P (.comp xe t .rng xa xb cs (own.map (·.2)) false))) :=
  peW (pe_lc hc hN (pi_range2 hg' hm (pa_cons ha (pa_cons hb' pa_nil (by rw [hs2]; rfl)) (by rw [hs1, hs2])) hs1 hs2) ok hg ht he hs) fun σ H Q q => by
    obtain ⟨F, fp, r, R, g⟩ := q
    rw [ev, PL.iter] at g
    unfold tLc iRng2
    refine two_ints (Xw := Xw) R (fun c r' z => z) g.bind fun a b r1 F1 fp1 H1 E R1 g1 => ?_
    obtain ⟨ok, h⟩ := comp_rng hk E R1 g1
    obtain ⟨b1, b2, b3, b4, b5⟩ := rngOk_b ok
    rw [f.K] at h
    exact ⟨a, b, rfl, ⟨by omega, by omega, by omega, by omega⟩, h⟩
theorem ev_comp1 {elt tg eb : Expr} {ifs : List Expr} {scope : Scope} {own : List (Str × Nat)} {p pos pos' : Pos} {t : Tg} {xe xb : Ex} {cs : List Ex} (f : Fit C X) (hc : X.calm = true) (hN : X.N.Nodup) (ok : BlkOk X.N X.env.scope scope own) (hk : tgK (fun i => !(own.map (·.2)).contains i) t = true)
    (hg' : Gl X "range") (hm : X.mg "range" = none) (hb' : PE X eb (tE C Xw (ev T P xb)))
    (hg : ∀ (s : Shared) (H : Hp) (D : Addr) (cl : List (Str × Addr)) (fp : List Addr), PG (X.blk s H scope (compEnvC scope cl D X.env) fp) tg (gT X.K t)) (ht : ∀ (s : Shared) (H : Hp) (D : Addr) (cl : List (Str × Addr)) (fp : List Addr), PTs (X.blk s H scope (compEnvC scope cl D X.env) fp) ifs (tT C XF (tests T P cs)))
    (he : ∀ (s : Shared) (H : Hp) (D : Addr) (cl : List (Str × Addr)) (fp : List Addr), PE (X.blk s H scope (compEnvC scope cl D X.env) fp) elt (tE C XF (ev T P xe)))
    (hs1 : starEach [eb] X.env = [(false, eval eb X.env)] := by rfl) (hs : ∀ x, foldedSetIterable (.Call (.Name "range" p) [eb] [] pos') X.env x = pure x := by intro _; rfl) :
    PE X (.ListComp elt [⟨tg, .Call (.Name "range" p) [eb] [] pos', ifs, 0⟩] scope pos) (tE C Xw (ev T P (.comp xe t .rng (.const (.int 0)) xb cs (own.map (·.2)) false))) :=
  peW (pe_lc hc hN (pi_range1 hg' hm (pa_cons hb' pa_nil (by rw [hs1]; rfl)) hs1) ok hg ht he hs) fun σ H Q q => by
    obtain ⟨F, fp, r, R, g⟩ := q
    rw [ev, PL.iter] at g
    simp only [const_int, PL.R.bind_ok] at g
    unfold tLc iRng1
    refine one_int (Xw := Xw) (f := fun b r => if rngOk 0 b then PL.R.ok (rngL 0 (b - 0).toNat, ([] : List (Nat × PV))) r else .bad) R (fun c r' z => z) (eq0 ▸ g.bind) fun b r1 F1 fp1 H1 E R1 g1 => ?_
    obtain ⟨ok, h⟩ := comp_rng hk E R1 g1
    obtain ⟨b1, b2, b3, b4, b5⟩ := rngOk_b ok
    rw [Int.sub_zero, f.K] at h
    exact ⟨b, rfl, by omega, by omega, h⟩
end
end PL

set_option Elab.async false
set_option linter.all false
set_option maxRecDepth 100000
set_option maxHeartbeats 1000000
namespace PL
open PySem L2 PV PySem.SeqAt PyProof.Rows

section
variable {C : Cn} {kp : Nat → Bool} {Xw : XW} {X : Cx} {F F1 F2 F0 F' : AS} {fp fp1 fp2 fp0 fp' : FP} {r r1 r2 r3 rB r' : Env} {σ σ' : L2.St} {H H1 H2 H0 H' : Hp} {v : PV} {u : V} {q : AS} {f : Fl} {o : Bool}
variable {T : Tab} {P : Fns} {W : WX}
/-- an object of a slot's is changed -/
theorem mono_upd {a : Addr} {o' : HO} (hm : ∃ o, H a = some o ∧ MutO o) (nF : ¬ F a) : Mono F H F (upd H a o') := by
  obtain ⟨o, e, m⟩ := hm
  refine ⟨fun _ z => z, fun b xs h => ?_, fun b xs hf h => ?_⟩
  · have : b ≠ a := fun z => Rd.notMut h (z ▸ e) m
    rcases h with h | ⟨ob, h⟩
    · exact .inl (by rw [upd_ne this]; exact h)
    · exact .inr ⟨ob, by rw [upd_ne this]; exact h⟩
  · have : b ≠ a := fun z => nF (z ▸ hf)
    rcases h with h | ⟨ob, h⟩
    · exact .inl (by rw [upd_ne this]; exact h)
    · exact .inr ⟨ob, by rw [upd_ne this]; exact h⟩
theorem Rel.upd {i : Nat} {a : Addr} {o' : HO} {w : PV} (R : Rel C F fp r σ H) (hi : fp i a) (hu : σ[i]? = some (some u)) (h : Mono F H F (upd H a o') → Own C F (upd H a o') w u (fp i)) : Rel C F fp (r.set i (some (w, true))) σ (upd H a o') ∧ Ext F fp H F fp (upd H a o') := by
  have m := mono_upd (o' := o') (R.mutO hi) (R.nof i a hi)
  refine ⟨⟨by rw [List.length_set]; exact R.len, fun j x p e => ?_, fun j e b z => ?_, R.dis, R.nof, fun b z => ?_⟩, ⟨fun b x e no => by rw [upd_ne (fun (z : b = a) => no i (by rw [z]; exact hi))]; exact e, fun _ z => z, fun _ z => .inl z, fun j b z => .inl ⟨j, z⟩⟩⟩
  · rw [get_set] at e
    by_cases c : i = j ∧ i < r.length
    · rw [if_pos c] at e; cases e
      obtain ⟨rfl, _⟩ := c
      exact ⟨u, hu, .inl ⟨rfl, h m⟩⟩
    · rw [if_neg c] at e
      obtain ⟨u', h1, h2⟩ := R.sm j x p e
      refine ⟨u', h1, ?_⟩
      have hj : ∀ b, fp j b → b ≠ a := fun b hb z => by
        subst z
        obtain rfl := R.dis j i b hb hi
        exact c ⟨rfl, get_lt e⟩
      rcases h2 with ⟨ho, h2⟩ | ⟨ho, h2, no⟩
      · exact .inl ⟨ho, h2.mono m fun b x hb e => by rw [upd_ne (hj b hb)]; exact e⟩
      · exact .inr ⟨ho, Imm.mono m _ _ h2, no⟩
  · rw [get_set] at e
    by_cases c : i = j ∧ i < r.length
    · rw [if_pos c] at e; cases e
    · rw [if_neg c] at e; exact R.nn j e b z
  · obtain ⟨xs, h1⟩ := R.ff b z
    exact ⟨xs, m.l b xs z h1⟩
/-- the list in a slot, changed -/
theorem modL_ok {i : Nat} {g : List PV → Option (PV × List PV)} {p : PV × Fl} (R : Rel C F fp r σ H) (h : modL i g r = .ok p r') : ∃ l z l' a xs, get r i = some (.lst l, true) ∧ g l = some (z, l') ∧ p = (z, .frz) ∧ σ[i]? = some (some (.ref a)) ∧ H a = some (.lst xs) ∧ Imms C F H l xs ∧ ¬ F a ∧
    ∀ xs', (Mono F H F (upd H a (.lst xs')) → Imms C F (upd H a (.lst xs')) l' xs') → Rel C F fp r' σ (upd H a (.lst xs')) ∧ Ext F fp H F fp (upd H a (.lst xs')) := by
  unfold modL at h
  split at h
  · rename_i l e
    split at h
    · rename_i p' eg
      injection h with h1 h2
      subst h1 h2
      obtain ⟨u, hu, ⟨_, ow⟩ | ⟨hf, _⟩⟩ := R.sm i _ true e
      · obtain ⟨a, xs, rfl, h1, i1, h3⟩ := ow
        have hi := (h3 a).mpr rfl
        exact ⟨l, p'.1, p'.2, a, xs, e, eg, rfl, hu, h1, i1, R.nof i a hi, fun xs' im => R.upd hi hu fun m => ⟨a, xs', rfl, upd_same, im m, h3⟩⟩
      · cases hf
    · cases h
  · cases h
theorem isLst_ty {i : Nat} (f : Fit C X) (R : Rel C F fp r σ H) (h : isLst (get r i) = true) : ∃ x, σ[i]? = some (some x) ∧ tyV X.K "list" x H := by
  unfold isLst at h
  split at h
  · rename_i l o e
    obtain ⟨u, hu, sh⟩ := R.sh e
    obtain ⟨a, xs, rfl, h1, i1⟩ := sh.lst
    exact ⟨_, hu, .inl ⟨rfl, xs, f.K ▸ h1⟩⟩
  · cases h
/-- xs.append(e) -/
theorem ev_app {i : Nat} {o e : Expr} {apos cpos : Pos} {x : Ex} (f : Fit C X) (ho : PE X o (tVar i)) (ha : PE X e (tE C Xw (ev T P x)))
    (hbase : attributeBase o "append" X.env (eval o X.env) = eval o X.env := by rfl)
    (hfew : ((backTo cpos (starEach [e] X.env)).all (fun x => !x.1) && (backToKw cpos (keywordEach [] X.env)).all (fun x => x.1.isSome)
      && decide (([e] : List Expr).length + ([] : List Keyword).length + (if ([] : List Keyword).isEmpty then 0 else 1) < 30)) = true := by rfl)
    (hline : (apos.endLine == cpos.line) = true := by rfl) (hs : starEach [e] X.env = (false, eval e X.env) :: starEach [] X.env := by rfl) :
    PE X (.Call (.Attribute o "append" apos) [e] [] cpos) (tE C Xw (ev T P (.app i x))) :=
  peW (pe_bm PySem.F.plainAttrs_list PySem.F.slot_list_append PySem.F.type_list_append mt_append ho (pa_cons ha pa_nil hs) hbase hfew hline hs) fun σ H Q q => by
    obtain ⟨F, fp, r, R, g⟩ := q
    rw [ev] at g
    obtain ⟨hl, g⟩ := g.chk
    obtain ⟨y, hy, ty⟩ := isLst_ty f R hl
    refine ⟨y, hy, ty, F, fp, r, R, g.bind.mono (fun z r1 g1 F1 fp1 H1 u q E R1 v s n => ?_) fun _ _ z => z⟩
    obtain ⟨r2, hr, g2⟩ := Good.of g1
    obtain ⟨F2, fp2, E2, R2, im, _⟩ := sink_ok (Xw := Xw) ⟨E, R1, v, s, n⟩ hr
    cases em : modL i (gApp z.1) r2 with
    | bad => rw [em] at g2; exact g2.elim
    | exc c r3 => unfold modL at em; split at em <;> first | (split at em <;> cases em) | cases em
    | ok p r3 =>
      rw [em] at g2
      obtain ⟨l, w, l', a, xs, e1, eg, rfl, hu, h1, i1, nF, fin⟩ := modL_ok R2 em
      rw [hy] at hu; cases hu
      unfold gApp at eg
      split at eg
      · rename_i hlt
        simp only [Option.some.injEq, Prod.mk.injEq] at eg
        obtain ⟨rfl, rfl⟩ := eg
        obtain ⟨R3, E3⟩ := fin (xs ++ [u]) fun m => Imms.append (Imms.mono m _ _ i1) (Imms.cons_iff.mpr ⟨Imm.mono m _ _ im, by simp [Imms]⟩)
        exact ⟨a, xs, u, rfl, rfl, h1, by rw [Imms.length i1, ← line_eq]; exact hlt, OkV.frz R3 (OkV.later (E2.trans E3) g2) (by rw [Imm])⟩
      · cases eg
/-- a list goes behind another one, whatever its slots are -/
theorem ext_any (l b : Addr) (xs ys : Array Value) (n m : Nat) (dd : Option Addr) (sl : Array (Option Value)) (h0 : ¬(!xs.isEmpty && Builtin.List.listTooLong (xs.size + ys.size)) = true) (h1 : xs.size ≤ sizeLine) (h2 : xs.size + ys.size ≤ sizeLine + 1) :
    Meets (Builtin.«list.extend» ⟨[.ref l, .ref b], []⟩) (fun _ R s => s.heap.get? l = some { cls := .type "list", dict := none, data := .seq xs n, slots := #[] } ∧
      s.heap.get? b = some { cls := .type "list", dict := dd, data := .seq ys m, slots := sl } ∧ R (.ok (.ret Value.none)) { s with heap := s.heap.update l (Obj.mapSeq fun x => x ++ ys), toks := s.toks }) :=
  .of_wp fun prog w A R s ⟨hl, hb, h⟩ => by
    obtain ⟨hp, g, d, tk, os⟩ := s
    have i1 := PySem.AutoSeq1.idx_int
    have i2 := PySem.AutoSeq1.sub_tuple_tuple
    have i3 := PySem.AutoSeq1.sub_list_list
    have i4 := PySem.AutoSeq1.sub_tuple_list
    have i5 := PySem.AutoSeq1.sub_list_tuple
    have hz : (xs ++ ys).size ≤ sizeLine + 1 := by rw [Array.size_append]; exact h2
    wp_walk using (wpAny_updateSeq hl rfl (hz := h1) (_hz' := hz)), PySem.AutoSeq1.wpAny_loadPart' hl, PySem.AutoSeq1.wpAny_loadPart' hb
    exact ⟨_, rfl, h⟩
def rExtS (K : PySem.W.Frag) : V → List V → Hp → VK → Prop := fun x vs H Q => ∃ l b xs zs, x = .ref l ∧ vs = [.ref b] ∧ H l = some (.lst xs) ∧ SqL K H b zs ∧ xs.length + zs.length ≤ sizeLine ∧ Q .non (upd H l (.lst (xs ++ zs)))
theorem mt_extS : MtM X "list.extend" (rExtS X.K) := by
  intro pins s σ H x vs v us Q I rx rv ⟨l, b, xs, zs, e1, e2, hH, hB, hz, q⟩
  subst e1 e2
  cases rx
  obtain ⟨u, rfl, ru⟩ := rv.one
  cases ru
  obtain ⟨z, its, n, r, hl, e⟩ := I.lstM hH
  obtain ⟨ys, r2, ⟨⟨cls, dd, data, sl⟩, m, ho, hc, hdn, hdt⟩, _⟩ := I.list hB
  simp only at hc hdt
  subst hc hdt
  have l2 := r2.length
  have sz : its.toArray.size + ys.toArray.size ≤ sizeLine := by rw [List.size_toArray, List.size_toArray]; omega
  have nl : ¬ (!its.toArray.isEmpty && Builtin.List.listTooLong (its.toArray.size + ys.toArray.size)) = true := by
    rw [notLongL sz, Bool.and_false]; exact Bool.false_ne_true
  refine call_meets PySem.F.slot_list_extend ⟨_, e, rfl⟩ PySem.F.entry_list_extend (PySem.F.args_list_extend_2 _ _) (ext_any l b its.toArray ys.toArray n m dd sl nl (by rw [List.size_toArray]; omega) (by omega)) ⟨e, ho, ?_⟩
  exact ⟨.non, _, I.lset (its' := its ++ ys) hH e (by simp) (r.append r2) (by rw [List.length_append]; omega), rfl, q⟩
/-- xs.extend(e) -/
theorem ev_ext {i : Nat} {o e : Expr} {apos cpos : Pos} {x : Ex} (f : Fit C X) (ho : PE X o (tVar i)) (ha : PE X e (tE C Xw (ev T P x)))
    (hbase : attributeBase o "extend" X.env (eval o X.env) = eval o X.env := by rfl)
    (hfew : ((backTo cpos (starEach [e] X.env)).all (fun x => !x.1) && (backToKw cpos (keywordEach [] X.env)).all (fun x => x.1.isSome)
      && decide (([e] : List Expr).length + ([] : List Keyword).length + (if ([] : List Keyword).isEmpty then 0 else 1) < 30)) = true := by rfl)
    (hline : (apos.endLine == cpos.line) = true := by rfl) (hs : starEach [e] X.env = (false, eval e X.env) :: starEach [] X.env := by rfl) :
    PE X (.Call (.Attribute o "extend" apos) [e] [] cpos) (tE C Xw (ev T P (.ext i x))) :=
  peW (pe_bm PySem.F.plainAttrs_list PySem.F.slot_list_extend PySem.F.type_list_extend mt_extS ho (pa_cons ha pa_nil hs) hbase hfew hline hs) fun σ H Q q => by
    obtain ⟨F, fp, r, R, g⟩ := q
    rw [ev] at g
    obtain ⟨hl, g⟩ := g.chk
    obtain ⟨y, hy, ty⟩ := isLst_ty f R hl
    refine ⟨y, hy, ty, F, fp, r, R, g.bind.mono (fun z r1 g1 F1 fp1 H1 u q E R1 v s n => ?_) fun _ _ z => z⟩
    obtain ⟨zs, hz, g2⟩ := Good.of g1
    obtain ⟨zv, zf⟩ := z
    cases zv with
    | lst l0 =>
      simp only [lstOf] at hz
      split at hz
      · rename_i hf
        cases hz
        have hb : ∃ b zsV, u = .ref b ∧ SqL C.K H1 b zsV ∧ Imms C F1 H1 zs zsV := (RV.sh R1 v).lst
        obtain ⟨b, zsV, rfl, hb1, ib⟩ := hb
        cases em : modL i (gExt zs) r1 with
        | bad => rw [em] at g2; exact g2.elim
        | exc c r3 => unfold modL at em; split at em <;> first | (split at em <;> cases em) | cases em
        | ok p r3 =>
          rw [em] at g2
          obtain ⟨l, w, l', a, xs, e1, eg, rfl, hu, h1, i1, nF, fin⟩ := modL_ok R1 em
          rw [hy] at hu; cases hu
          unfold gExt at eg
          split at eg
          · rename_i hlt
            simp only [Option.some.injEq, Prod.mk.injEq] at eg
            obtain ⟨rfl, rfl⟩ := eg
            obtain ⟨R3, E3⟩ := fin (xs ++ zsV) fun m => Imms.append (Imms.mono m _ _ i1) (Imms.mono m _ _ ib)
            exact ⟨a, b, xs, zsV, rfl, rfl, h1, f.K ▸ hb1, by rw [Imms.length i1, Imms.length ib, ← line_eq]; exact hlt, OkV.frz R3 (OkV.later (E.trans E3) g2) (by rw [Imm])⟩
          · cases eg
      · cases hz
    | _ => simp [lstOf] at hz
/-- xs.pop() -/
theorem ev_pop {i : Nat} {o : Expr} {apos cpos : Pos} (f : Fit C X) (ho : PE X o (tVar i)) (hbase : attributeBase o "pop" X.env (eval o X.env) = eval o X.env := by rfl) (hline : (apos.endLine == cpos.line) = true := by rfl) :
    PE X (.Call (.Attribute o "pop" apos) [] [] cpos) (tE C Xw (ev T P (.pop i))) :=
  peW (pe_bm0 PySem.F.plainAttrs_list PySem.F.slot_list_pop PySem.F.type_list_pop mt_pop ho hbase hline) fun σ H Q q => by
    obtain ⟨F, fp, r, R, g⟩ := q
    rw [ev] at g
    cases em : modL i gPop r with
    | bad => rw [em] at g; exact g.elim
    | exc c r3 => unfold modL at em; split at em <;> first | (split at em <;> cases em) | cases em
    | ok p r3 =>
      rw [em] at g
      obtain ⟨l, w, l', a, xs, e1, eg, rfl, hu, h1, i1, nF, fin⟩ := modL_ok R em
      unfold gPop at eg
      rw [Option.map_eq_some_iff] at eg
      obtain ⟨y, hy, eg⟩ := eg
      simp only [Prod.mk.injEq] at eg
      obtain ⟨rfl, rfl⟩ := eg
      rw [List.getLast?_eq_getElem?] at hy
      obtain ⟨uy, hy1, iy⟩ := i1.get hy
      rw [← Imms.length i1] at hy1
      obtain ⟨R3, E3⟩ := fin xs.dropLast fun m => by
        have t := (Imms.mono m _ _ i1).take (l.length - 1)
        have e2 : xs.dropLast = xs.take (l.length - 1) := by rw [List.dropLast_eq_take, Imms.length i1]
        rw [← e2, ← List.dropLast_eq_take] at t
        exact t
      exact ⟨_, hu, .inl ⟨rfl, xs, .inl (.inl h1)⟩, a, xs, uy, rfl, rfl, h1, hy1, OkV.frz R3 (OkV.later E3 g) (Imm.mono (mono_upd ⟨_, h1, True.intro⟩ nF) _ _ iy)⟩
/-- raise X('..') -/
theorem ex_rse {c : Nat} {e : Expr} {pos : Pos} (hx : XOk C X Xw W) (hc : X.calm = true) (he : L2N.PMk X e (fun _ H Q => Q (.ref (C.clA c)) none H)) : PS X (.Raise (some e) none pos) (tS C kp Xw (ex T P (.rse c))) :=
  psW (L2N.ps_raise hc hx.1 he) fun D σ H q => by
    obtain ⟨F, fp, r, R, g⟩ := q
    rw [ex] at g
    exact hx.2 c r F fp σ H (g F fp H σ .refl R .refl)
/-- min(a, b), max(a, b) -/
theorem ev_mm {op : BOp} {a b : Expr} {nm : Str} {bid : String} {p pos : Pos} {ea eb : Ex} {g : Int → Int → Int} (hop : op = .mn ∨ op = .mx) (hc : CallR X (.builtin bid) (fun xs H Q => ∃ i j, xs = [.int i, .int j] ∧ Q (.int (g i j)) H)) (hgo : ∀ i j, binop op (.int i) (.int j) = some (.int (g i j)))
    (hg : Gl X nm) (hm : X.mg nm = none) (hv : bootBuiltins nm = some (.builtin bid)) (ha : PE X a (tE C Xw (ev T P ea))) (hb : PE X b (tE C Xw (ev T P eb))) (hn : nm ≠ "__name__" := by decide) (hdb : (nm == ("__debug__" : Str)) = false := by decide)
    (hs1 : starEach [a, b] X.env = (false, eval a X.env) :: starEach [b] X.env := by rfl) (hs2 : starEach [b] X.env = (false, eval b X.env) :: starEach [] X.env := by rfl) (hpl : (backTo pos (starEach [b] X.env)).any (·.1) = false := by rfl) :
    PE X (.Call (.Name nm p) [a, b] [] pos) (tE C Xw (ev T P (.bin op ea eb))) :=
  peW (pe_callB hc hg hm hv (pa_cons ha (pa_cons hb pa_nil hs2) hs1) hn hdb hs1 hpl) fun σ H Q q => by
    have h := two (tE_cast (m' := fun r => (ev T P ea r).bind fun x r1 => (ev T P eb r1).bind fun y r2 => R.chk (okOp op x.1 x.2 r1 r2) ((R.of (binop op x.1 y.1) r2).bind fun v r => .ok (v, if op = .get then .frz else .own) r)) (fun r => by rw [ev]) q)
    obtain ⟨F, fp, r, R, g0⟩ := h
    refine ⟨F, fp, r, R, g0.mono (fun x r1 g1 F1 fp1 H1 u q E R1 v s n => ?_) fun _ _ z => z⟩
    obtain ⟨F2, fp2, r2, R2, g2⟩ := g1 F1 fp1 H1 u q E R1 v s n
    refine ⟨F2, fp2, r2, R2, g2.mono (fun y r3 g3 F3 fp3 H3 w q3 E3 R3 v3 s3 n3 => ?_) fun _ _ z => z⟩
    obtain ⟨F4, fp4, r4, σ4, x4, y4, z4, fl, R4, sa, sb, _, _, e, g4⟩ := g3 F3 fp3 H3 w q3 E3 R3 v3 s3 n3
    have hne : op ≠ .get := by rcases hop with rfl | rfl <;> decide
    rw [fl_own hne] at g4
    have : ∃ i j, x4 = .int i ∧ y4 = .int j := by
      rcases hop with rfl | rfl <;> (cases x4 <;> cases y4 <;> simp [binop] at e <;> exact ⟨_, _, rfl, rfl⟩)
    obtain ⟨i, j, rfl, rfl⟩ := this
    rw [hgo] at e; cases e
    simp only [Sh, Imm] at sa sb
    exact ⟨i, j, by rw [sa, sb], OkV.imm R4 g4 rfl (.inl rfl) rfl⟩
end
end PL

set_option Elab.async false
set_option linter.all false
set_option maxRecDepth 100000
set_option maxHeartbeats 1000000
namespace PL
open PySem L2 PV PySem.SeqAt PyProof.Rows

section
variable {C : Cn} {kp : Nat → Bool} {Xw : XW} {X : Cx} {F F1 F2 F0 F' : AS} {fp fp1 fp2 fp0 fp' : FP} {r r1 r2 r3 rB r' : Env} {σ σ' : L2.St} {H H1 H2 H0 H' : Hp} {v : PV} {u : V} {q : AS} {f : Fl} {o : Bool}
variable {T : Tab} {P : Fns} {W : WX}
/-! ### slices -/
theorem po_nn {e : Expr} {x : Ex} (he : PE X e (tE C Xw (ev T P x))) : PO X (some e) (tPO C Xw (ev T P (.neg (.neg x)))) := poW (po_some he) fun σ H Q q => by
  obtain ⟨F, fp, r, R, g⟩ := q
  rw [ev, ev] at g
  refine ⟨F, fp, r, R, g.bind.bind.mono (fun x r1 g1 F1 fp1 H1 u q E R1 v s n => ?_) fun _ _ z => z⟩
  obtain ⟨x, fx⟩ := x
  cases x with
  | int i =>
    obtain ⟨o, h1, h2⟩ := g1 F1 fp1 H1 E R1
    simp only [optI] at h1
    split at h1
    · cases h1
      rw [Int.neg_neg] at h2
      exact ⟨i, RV.int R1 v, h2⟩
    · cases h1
  | _ => exact g1.elim
theorem ev_sl {e : Expr} {lo hi : Option Expr} {p2 pos : Pos} {xe xl xh : Ex} (f : Fit C X) (he : PE X e (tE C Xw (ev T P xe))) (hl : PO X lo (tPO C Xw (ev T P xl))) (hh : PO X hi (tPO C Xw (ev T P xh))) : PE X (.Subscript e (.Slice lo hi none p2) pos) (tE C Xw (ev T P (.sl xe xl xh))) :=
  peW (pe_slice (slr_sl f) he hl hh) fun σ H Q q => by
    obtain ⟨F, fp, r, R, g⟩ := q
    rw [ev] at g
    refine ⟨F, fp, r, R, g.bind.mono (fun x r1 g1 F1 fp1 H1 u q E R1 v s n => ?_) fun _ _ z => z⟩
    refine ⟨F1, fp1, r1, R1, g1.bind.mono (fun y r2 g2 F2 fp2 H2 E2 R2 => ?_) fun _ _ z => z.later E⟩
    obtain ⟨hsome, g2⟩ := g2.chk
    cases ho : optI y.1 with
    | none => rw [ho] at hsome; cases hsome
    | some lo' =>
      refine ⟨lo', rfl, F2, fp2, r2, R2, g2.bind.mono (fun z r3 g3 F3 fp3 H3 E3 R3 => ?_) fun _ _ z => z.later (E.trans E2)⟩
      obtain ⟨ok, g4⟩ := g3.chk
      obtain ⟨w, hw, g5⟩ := Good.of g4
      unfold slice at hw
      rw [ho, Option.bind_some, Option.bind_eq_some_iff] at hw
      obtain ⟨hi', hh', hw⟩ := hw
      refine ⟨hi', hh', F3, fp3, r3, σ, x.1, w, R3, RV.keep R1 v s (E2.trans E3) R3 ok, ?_, OkV.later ((E.trans E2).trans E3) g5⟩
      revert hw
      generalize x.1 = xv
      intro hw
      cases xv <;> first | exact hw | simp at hw
/-! ### list(range), tuple(range) -/
theorem rgV_imms {F : AS} {H : Hp} (a b : Int) : Imms C F H (rngL a (b - a).toNat) (rgV a b) := by
  have key : ∀ (n : Nat) (a : Int), Imms C F H (rngL a n) ((List.range n).map fun i => V.int (a + (i : Nat))) := by
    intro n
    induction n with
    | zero => intro a; simp [rngL, Imms]
    | succ n ih =>
      intro a
      rw [rngL, List.range_succ_eq_map, List.map_cons, List.map_map]
      refine Imms.cons_iff.mpr ⟨by simp [Imm], ?_⟩
      have e : ((fun i : Nat => V.int (a + (i : Nat))) ∘ Nat.succ) = fun i : Nat => V.int (a + 1 + (i : Nat)) := by
        funext i
        simp only [Function.comp]
        congr 1
        push_cast
        omega
      rw [e]
      exact ih (a + 1)
  exact key _ a
theorem rng_rd {tq : Bool} {xa xb : Ex} {Q : VK} (q : tE C Xw (ev T P (.rng tq xa xb)) σ H Q) :
    tRg2 (tE C Xw (ev T P xa)) (tE C Xw (ev T P xb)) σ H fun a b H1 => RgOk a b ∧ ∀ p, H1 p = none → Q (.ref p) (upd H1 p (if tq then .tup (rgV a b) else .lst (rgV a b))) := by
  obtain ⟨F, fp, r, R, g⟩ := q
  rw [ev] at g
  refine ⟨F, fp, r, R, g.bind.mono (fun x r1 g1 F1 fp1 H1 u q E R1 v s n => ?_) fun _ _ z => z⟩
  refine ⟨F1, fp1, r1, R1, g1.bind.mono (fun y r2 g2 F2 fp2 H2 w q2 E2 R2 v2 s2 n2 => ?_) fun _ _ z => z.later E⟩
  obtain ⟨x, fx⟩ := x
  obtain ⟨y, fy⟩ := y
  cases x with
  | int a =>
    cases y with
    | int b =>
      simp only at g2
      split at g2
      · rename_i ok
        obtain ⟨b1, b2, b3, b4, b5⟩ := rngOk_b ok
        refine ⟨a, b, RV.int R1 v, RV.int R2 v2, ⟨by omega, by omega, by omega, by omega, by omega⟩, fun p hp => ?_⟩
        have g3 := OkV.later (E.trans E2) (show OkV C F fp H σ Q _ r2 from g2)
        cases tq with
        | true => exact OkV.newTup R2 g3 (rgV_imms a b) hp
        | false => exact OkV.newLst R2 g3 (rgV_imms a b) hp
      · exact g2.elim
    | _ => exact g2.elim
  | _ => exact g2.elim
theorem rng_rd1 {tq : Bool} {xb : Ex} {Q : VK} (q : tE C Xw (ev T P (.rng tq (.const (.int 0)) xb)) σ H Q) :
    tRg1 (tE C Xw (ev T P xb)) σ H fun a b H1 => RgOk a b ∧ ∀ p, H1 p = none → Q (.ref p) (upd H1 p (if tq then .tup (rgV a b) else .lst (rgV a b))) := by
  obtain ⟨F, fp, r, R, g⟩ := q
  rw [ev] at g
  simp only [const_int, PL.R.bind_ok] at g
  refine ⟨F, fp, r, R, g.bind.mono (fun y r2 g2 F2 fp2 H2 w q2 E2 R2 v2 s2 n2 => ?_) fun _ _ z => z⟩
  obtain ⟨y, fy⟩ := y
  cases y with
  | int b =>
    simp only at g2
    split at g2
    · rename_i ok
      obtain ⟨b1, b2, b3, b4, b5⟩ := rngOk_b ok
      refine ⟨b, RV.int R2 v2, ⟨by omega, by omega, by omega, by omega, by omega⟩, fun p hp => ?_⟩
      have g3 := OkV.later E2 (show OkV C F fp H σ Q _ r2 from g2)
      cases tq with
      | true => exact OkV.newTup R2 g3 (rgV_imms 0 b) hp
      | false => exact OkV.newLst R2 g3 (rgV_imms 0 b) hp
    · exact g2.elim
  | _ => exact g2.elim
theorem prgW {e : Expr} {t t' : L2.St → Hp → (Int → Int → Hp → Prop) → Prop} (h : PRg X e t) (w : ∀ σ H Q, t' σ H Q → t σ H Q) : PRg X e t' := fun pins s σ H Q I q => h pins s σ H Q I (w σ H Q q)
theorem ev_lrng2 {a b : Expr} {p p2 pos pos2 : Pos} {xa xb : Ex} (hc : X.calm = true) (hg : Gl X "list") (hm : X.mg "list" = none) (hg2 : Gl X "range") (hm2 : X.mg "range" = none) (ha : PE X a (tE C Xw (ev T P xa))) (hb : PE X b (tE C Xw (ev T P xb)))
    (na : starEach [a, b] X.env = (false, eval a X.env) :: starEach [b] X.env := by rfl) (nb : starEach [b] X.env = (false, eval b X.env) :: starEach [] X.env := by rfl) (hp : (backTo pos2 (starEach [b] X.env)).any (·.1) = false := by rfl) (ne : starEach [.Call (.Name "range" p2) [a, b] [] pos2] X.env = (false, eval (.Call (.Name "range" p2) [a, b] [] pos2) X.env) :: starEach [] X.env := by rfl) :
    PE X (.Call (.Name "list" p) [.Call (.Name "range" p2) [a, b] [] pos2] [] pos) (tE C Xw (ev T P (.rng false xa xb))) :=
  peW (pe_listRg hc hg hm (prg_2 hg2 hm2 ha hb na nb hp) ne) fun _ _ _ q => rng_rd q
theorem ev_lrng1 {b : Expr} {p p2 pos pos2 : Pos} {xb : Ex} (hc : X.calm = true) (hg : Gl X "list") (hm : X.mg "list" = none) (hg2 : Gl X "range") (hm2 : X.mg "range" = none) (hb : PE X b (tE C Xw (ev T P xb)))
    (nb : starEach [b] X.env = (false, eval b X.env) :: starEach [] X.env := by rfl) (ne : starEach [.Call (.Name "range" p2) [b] [] pos2] X.env = (false, eval (.Call (.Name "range" p2) [b] [] pos2) X.env) :: starEach [] X.env := by rfl) :
    PE X (.Call (.Name "list" p) [.Call (.Name "range" p2) [b] [] pos2] [] pos) (tE C Xw (ev T P (.rng false (.const (.int 0)) xb))) :=
  peW (pe_listRg hc hg hm (prg_1 hg2 hm2 hb nb) ne) fun _ _ _ q => rng_rd1 q
theorem ev_trng2 {a b : Expr} {p p2 pos pos2 : Pos} {xa xb : Ex} (hc : X.calm = true) (hg : Gl X "tuple") (hm : X.mg "tuple" = none) (hg2 : Gl X "range") (hm2 : X.mg "range" = none) (ha : PE X a (tE C Xw (ev T P xa))) (hb : PE X b (tE C Xw (ev T P xb)))
    (na : starEach [a, b] X.env = (false, eval a X.env) :: starEach [b] X.env := by rfl) (nb : starEach [b] X.env = (false, eval b X.env) :: starEach [] X.env := by rfl) (hp : (backTo pos2 (starEach [b] X.env)).any (·.1) = false := by rfl) (ne : starEach [.Call (.Name "range" p2) [a, b] [] pos2] X.env = (false, eval (.Call (.Name "range" p2) [a, b] [] pos2) X.env) :: starEach [] X.env := by rfl) :
    PE X (.Call (.Name "tuple" p) [.Call (.Name "range" p2) [a, b] [] pos2] [] pos) (tE C Xw (ev T P (.rng true xa xb))) :=
  peW (pe_tupRg hc hg hm (prg_2 hg2 hm2 ha hb na nb hp) ne) fun _ _ _ q => rng_rd q
theorem ev_trng1 {b : Expr} {p p2 pos pos2 : Pos} {xb : Ex} (hc : X.calm = true) (hg : Gl X "tuple") (hm : X.mg "tuple" = none) (hg2 : Gl X "range") (hm2 : X.mg "range" = none) (hb : PE X b (tE C Xw (ev T P xb)))
    (nb : starEach [b] X.env = (false, eval b X.env) :: starEach [] X.env := by rfl) (ne : starEach [.Call (.Name "range" p2) [b] [] pos2] X.env = (false, eval (.Call (.Name "range" p2) [b] [] pos2) X.env) :: starEach [] X.env := by rfl) :
    PE X (.Call (.Name "tuple" p) [.Call (.Name "range" p2) [b] [] pos2] [] pos) (tE C Xw (ev T P (.rng true (.const (.int 0)) xb))) :=
  peW (pe_tupRg hc hg hm (prg_1 hg2 hm2 hb nb) ne) fun _ _ _ q => rng_rd1 q
/-! ### isinstance(x, T) -/
def tyN : Ty → String
  | .int => "int" | .bool => "bool" | .str => "str" | .tuple => "tuple" | .list => "list"
theorem sh_ty {x : PV} {b : Bool} {c : Ty} (f : Fit C X) (h : Sh C F H x u) (e : tyIs x c = some b) : ∃ t, TyX X.K H u (.type t) ∧ kitB t (tyN c) = some b := by
  cases x with
  | non => simp only [tyIs, Option.some.injEq] at e; subst e; simp only [Sh, Imm] at h; subst h; exact ⟨_, .base .non, by cases c <;> decide +kernel⟩
  | bl y => simp only [tyIs, Option.some.injEq] at e; subst e; simp only [Sh, Imm] at h; subst h; exact ⟨_, .base (.bl y), by cases c <;> decide +kernel⟩
  | int y => simp only [tyIs, Option.some.injEq] at e; subst e; simp only [Sh, Imm] at h; subst h; exact ⟨_, .base (.int y), by cases c <;> decide +kernel⟩
  | str y => simp only [tyIs, Option.some.injEq] at e; subst e; simp only [Sh, Imm] at h; subst h; exact ⟨_, .base (.str _), by cases c <;> decide +kernel⟩
  | tup l =>
    simp only [tyIs, Option.some.injEq] at e; subst e
    obtain ⟨a, xs, rfl, h1, i1⟩ := h.tup
    refine ⟨"tuple", ?_, by cases c <;> decide +kernel⟩
    rw [f.K] at h1
    rcases h1 with (h1 | ⟨ob, h1⟩) | ⟨o, its, n, h1, h2, _⟩
    · exact .base (.tup h1)
    · exact .fTuple h1
    · exact .kTuple h1 h2
  | lst l =>
    simp only [tyIs, Option.some.injEq] at e; subst e
    obtain ⟨a, xs, rfl, h1, i1⟩ := h.lst
    refine ⟨"list", ?_, by cases c <;> decide +kernel⟩
    rw [f.K] at h1
    rcases h1 with (h1 | ⟨ob, h1⟩) | ⟨o, its, n, h1, h2, _⟩
    · exact .base (.lst h1)
    · exact .base (.frz h1)
    · exact .kList h1 h2
  | _ => simp [tyIs] at e
theorem ev_isin {a : Expr} {nm : Str} {c : Ty} {p p2 pos : Pos} {ea : Ex} (f : Fit C X) (hg : Gl X "isinstance") (hm : X.mg "isinstance" = none) (hv : bootBuiltins "isinstance" = some (.builtin "isinstance")) (hg2 : Gl X nm) (hm2 : X.mg nm = none) (hv2 : bootBuiltins nm = some (.type (tyN c))) (ha : PE X a (tE C Xw (ev T P ea)))
    (hn2 : nm ≠ "__name__" := by decide) (hd2 : (nm == ("__debug__" : Str)) = false := by decide)
    (hs1 : starEach [a, .Name nm p2] X.env = (false, eval a X.env) :: starEach [.Name nm p2] X.env := by rfl) (hs2 : starEach [.Name nm p2] X.env = (false, eval (.Name nm p2) X.env) :: starEach [] X.env := by rfl) (hpl : (backTo pos (starEach [.Name nm p2] X.env)).any (·.1) = false := by rfl) :
    PE X (.Call (.Name "isinstance" p) [a, .Name nm p2] [] pos) (tE C Xw (ev T P (.isin ea c))) :=
  peW (pe_callB call_isi hg hm hv (pa_cons ha (pa_cons (pe_bltn (v := .ty (tyN c)) hg2 hm2 hv2 rfl hn2 hd2) pa_nil hs2) hs1) (by decide) (by decide) hs1 hpl) fun σ H Q q => by
    obtain ⟨F, fp, r, R, g⟩ := q
    rw [ev] at g
    refine ⟨F, fp, r, R, g.bind.mono (fun x r1 g1 F1 fp1 H1 u q E R1 v s n => ?_) fun _ _ z => z⟩
    obtain ⟨b, hb, g2⟩ := Good.of g1
    obtain ⟨t, ht, hk⟩ := sh_ty f (RV.sh R1 v) hb
    exact ⟨u, .ty (tyN c), .type t, .type (tyN c), b, rfl, .ty _, ht, kit_ty hk, OkV.imm R1 (OkV.later E g2) rfl (.inl rfl) (by rw [Imm])⟩
/-! ### stores -/
/-- a dict's or a list's item is set -/
def rSet (C : Cn) (x y : V) (w : PV) (wu : V) (H : Hp) (Q : Hp → Prop) : Prop := ∃ F fp r σ i k, Rel C F fp r σ H ∧ σ[i]? = some (some x) ∧ Sh C F H k y ∧ Imm C F H w wu ∧
  match get r i with
  | some (.dct ks vs, true) => okKey ks k = true ∧ ks.length < line ∧ ∀ H', (∃ o, H' = upd H (match x with | .ref a => a | _ => 0) o) → Rel C F fp (r.set i (some (.dct (put ks vs k w).1 (put ks vs k w).2, true))) σ H' → Ext F fp H F fp H' → Q H'
  | some (.lst l, true) => match k with
    | .int n => match pidx n l.length with
      | some m => ∀ H', Rel C F fp (r.set i (some (.lst (l.set m w), true))) σ H' → Ext F fp H F fp H' → Q H'
      | none => False
    | _ => False
  | _ => False
theorem pset_pl {w : PV} (f : Fit C X) (hu : X.A.units + 64 < cLine) : PSet X (fun x y wu H Q => rSet C x y w wu H Q) := by
  intro pins s σ' H o i v ov iv u Q I ro ri rv h
  obtain ⟨F, fp, r, σ, j, k, R, hj, sk, iw, h⟩ := h
  split at h
  · rename_i ks vs e
    obtain ⟨ok, hl, h⟩ := h
    obtain ⟨u', e1, ⟨_, ow⟩ | ⟨hf, _⟩⟩ := R.sm j _ true e
    · rw [hj] at e1; cases e1
      obtain ⟨a, rfl, hd, h3⟩ := ow
      obtain rfl : ov = Value.ref a := ro
      have hi := (h3 a).mpr rfl
      refine pl_setItem f (by omega) I hd ok hl (sk.imm (okKey_imm ok)) ri rv iw (R.nof j a hi) (R.mutO hi) fun s' o mo I' hD => ?_
      obtain ⟨R', E'⟩ := R.upd (o' := o) (w := .dct (put ks vs k w).1 (put ks vs k w).2) hi hj fun m => ⟨a, rfl, hD F m, h3⟩
      exact ⟨_, I', h _ ⟨o, rfl⟩ R' E'⟩
    · cases hf
  · rename_i l e
    split at h
    · rename_i n
      split at h
      · rename_i m em
        obtain ⟨u', e1, ⟨_, ow⟩ | ⟨hf, _⟩⟩ := R.sm j _ true e
        · rw [hj] at e1; cases e1
          obtain ⟨a, xs, rfl, h1, i1, h3⟩ := ow
          have hi := (h3 a).mpr rfl
          simp only [Sh, Imm] at sk; subst sk
          refine set_list pins s σ' H _ _ v ov iv u Q I ro ri rv ⟨a, xs, n, m, rfl, rfl, h1, by rw [pidx_ix, Imms.length i1]; exact em, ?_⟩
          obtain ⟨R', E'⟩ := R.upd (o' := .lst (xs.set m v)) (w := .lst (l.set m w)) hi hj fun mm => ⟨a, _, rfl, upd_same, Imms.set m (Imms.mono mm _ _ i1) (Imm.mono mm _ _ iw), h3⟩
          exact h _ R' E'
        · cases hf
      · exact h.elim
    · exact h.elim
  · exact h.elim
end
end PL

set_option Elab.async false
set_option linter.all false
set_option maxRecDepth 100000
set_option maxHeartbeats 1000000
namespace PL
open PySem L2 PV PySem.SeqAt PyProof.Rows

section
variable {C : Cn} {kp : Nat → Bool} {Xw : XW} {X : Cx} {F F1 F2 F0 F' : AS} {fp fp1 fp2 fp0 fp' : FP} {r r1 r2 r3 rB r' : Env} {σ σ' : L2.St} {H H1 H2 H0 H' : Hp} {v : PV} {u : V} {q : AS} {f : Fl} {o : Bool}
variable {T : Tab} {P : Fns} {W : WX}
theorem pset_ex (f : Fit C X) (hu : X.A.units + 64 < cLine) : PSet X (fun x y wu H Q => ∃ w, rSet C x y w wu H Q) := by
  intro pins s σ' H o i v ov iv u Q I ro ri rv h
  obtain ⟨w, h⟩ := h
  exact pset_pl (w := w) f hu pins s σ' H o i v ov iv u Q I ro ri rv h
/-- x[k] = e -/
theorem ex_sti {i : Nat} {o k e : Expr} {tpos pos : Pos} {xk xe : Ex} (f : Fit C X) (hu : X.A.units + 64 < cLine) (ho : PE X o (tVar i)) (hk : PE X k (tE C Xw (ev T P xk))) (he : PE X e (tE C Xw (ev T P xe)))
    (ha : ∀ v, PySem.assign (.Subscript o k tpos) X.env v = (do
      let ov ← holding [v] (eval o X.env)
      let iv ← holding [v, ov] (eval k X.env)
      standAt tpos
      holding [v, ov, iv] (setItem ov iv v)
      release [v, ov, iv] []) := by intro _; rfl) (hs : swapsWithSole [.Subscript o k tpos] e pos.line X.env = pure false := by rfl) (hw : swappedStores [.Subscript o k tpos] e X.env = pure none := by rfl)
    (h1 : (assignEach [.Subscript o k tpos] X.env).map (·.2) = [PySem.assign (.Subscript o k tpos) X.env] := by rfl) :
    PS X (.Assign [.Subscript o k tpos] e pos) (tS C kp Xw (ex T P (.sti i xk xe))) :=
  psW (ps_asg he (pg_sub ho hk (pset_ex f hu) ha) hs hw h1) fun D σ H q => by
    obtain ⟨F, fp, r, R, g⟩ := q
    rw [ex] at g
    refine ⟨F, fp, r, R, g.bind.mono (fun x r1 g1 F1 fp1 H1 u q E R1 v s n => ?_) fun _ _ z => z.ex⟩
    obtain ⟨r2, hr, g2⟩ := Good.of g1
    obtain ⟨F2, fp2, E2, R2, im, _⟩ := sink_ok (Xw := Xw) ⟨E, R1, v, s, n⟩ hr
    obtain ⟨hi, g3⟩ := g2.chk
    obtain ⟨⟨w0, o0⟩, ew⟩ := Option.isSome_iff_exists.mp hi
    obtain ⟨xv, hx, _⟩ := R2.sm i w0 o0 ew
    refine ⟨xv, hx, F2, fp2, r2, R2, g3.bind.mono (fun y r3 g4 F3 fp3 H3 uy q3 E3 R3 v3 s3 n3 => ?_) fun _ _ z => z.exx E2⟩
    refine ⟨x.1, F3, fp3, r3, σ, i, y.1, R3, hx, RV.sh R3 v3, Imm.mono (E3.mono R2) _ _ im, ?_⟩
    unfold stI at g4
    split at g4
    · rename_i ks vs e
      try rw [e]
      split at g4
      · rename_i ok
        simp only [Bool.and_eq_true, decide_eq_true_eq] at ok
        exact ⟨ok.1, ok.2, fun H' _ R' E' => g4 F3 fp3 H' σ ((E2.trans E3).trans E') R' .refl⟩
      · exact g4.elim
    · rename_i l e
      try rw [e]
      split at g4
      · rename_i n hn
        try rw [hn]
        split at g4
        · rename_i m em
          try simp only [em]
          exact fun H' R' E' => g4 F3 fp3 H' σ ((E2.trans E3).trans E') R' .refl
        · exact g4.elim
      · exact g4.elim
    · exact g4.elim
/-! ### a, b = x, y -/
def OkP (C : Cn) (F : AS) (fp : FP) (H : Hp) (σ : L2.St) (Q : List V → Hp → Prop) (xs : List (PV × Fl)) (r' : Env) : Prop :=
  ∀ F' fp' H' us (qs : FP), Ext F fp H F' fp' H' → Rel C F' fp' r' σ H' → us.length = xs.length → (∀ (i : Nat) x, xs[i]? = some x → ∃ u, us[i]? = some u ∧ (x.2 = .own ∨ x.2 = .frz) ∧ RV C F' H' [] [] x.1 x.2 u (qs i)) → (∀ i, Sep F' fp' (qs i)) → (∀ i j a, qs i a → qs j a → i = j) → (∀ i a, qs i a → (∃ i, fp i a) ∨ H a = none) → (∀ i, xs.length ≤ i → ∀ a, ¬ qs i a) → Q us H'
def tP (C : Cn) (Xw : XW) (m : Env → PL.R (List (PV × Fl))) : TA := fun σ H Q => ∃ F fp r, Rel C F fp r σ H ∧ Good (m r) (OkP C F fp H σ Q) (OkX C Xw F fp H σ)
theorem parOf_ok {x y : PV × Fl} (E : Ext F fp H F1 fp1 H1) (R : Rel C F1 fp1 r1 σ H1) (rv : RV C F1 H1 r1 σ x.1 x.2 u q) (s : Sep F1 fp1 q) (n : ∀ a, q a → (∃ i, fp i a) ∨ H a = none) (h : parOf x r1 = some (y, r2)) :
    ∃ F2 fp2 q2, Ext F fp H F2 fp2 H1 ∧ Rel C F2 fp2 r2 σ H1 ∧ (y.2 = .own ∨ y.2 = .frz) ∧ RV C F2 H1 [] [] y.1 y.2 u q2 ∧ Sep F2 fp2 q2 ∧ ∀ a, q2 a → (∃ i, fp i a) ∨ H a = none := by
  obtain ⟨v, f⟩ := x
  unfold parOf at h
  cases hm : v.isM with
  | false =>
    simp only [hm, Bool.false_eq_true, if_false, Option.some.injEq, Prod.mk.injEq] at h
    obtain ⟨rfl, rfl⟩ := h
    exact ⟨F1, fp1, none1, E, R, .inl rfl, Imm.own hm ((RV.sh R rv).imm hm), ⟨fun _ _ z => z.elim, fun _ z => z.elim⟩, fun _ z => z.elim⟩
  | true =>
    simp only [hm, if_true] at h
    cases f with
    | own =>
      simp only [Option.some.injEq, Prod.mk.injEq] at h
      obtain ⟨rfl, rfl⟩ := h
      exact ⟨F1, fp1, q, E, R, .inl rfl, rv, s, n⟩
    | frz =>
      simp only [Option.some.injEq, Prod.mk.injEq] at h
      obtain ⟨rfl, rfl⟩ := h
      exact ⟨F1, fp1, q, E, R, .inr rfl, rv, s, n⟩
    | al j =>
      simp only [Option.map_eq_some_iff, Prod.mk.injEq] at h
      obtain ⟨r3, h, rfl, rfl⟩ := h
      obtain ⟨_, e, e1, no⟩ := rv
      obtain ⟨F2, fp2, E2, R2, _, _, l, o, e', im⟩ := frz_ok R h
      rw [e] at e'; cases e'
      exact ⟨F2, fp2, none1, E.trans E2, R2, .inr rfl, ⟨im u e1, fun _ z => z⟩, ⟨fun _ _ z => z.elim, fun _ z => z.elim⟩, fun _ z => z.elim⟩
    | alf j => simp at h
theorem evP_nil : PA X [] (tP C Xw (evP T P [])) := paW pa_nil fun σ H Q q => by
  obtain ⟨F, fp, r, R, g⟩ := q
  rw [evP] at g
  exact g F fp H [] (fun _ => none1) .refl R rfl (fun i x h => by simp at h) (fun _ => ⟨fun _ _ z => z.elim, fun _ z => z.elim⟩) (fun _ _ _ z => z.elim) (fun _ _ z => z.elim) fun _ _ _ z => z
theorem RV.carry {y : PV × Fl} (R : Rel C F fp r σ H) (hf : y.2 = .own ∨ y.2 = .frz) (rv : RV C F H [] [] y.1 y.2 u q) (s : Sep F fp q) (E : Ext F fp H F' fp' H') : RV C F' H' [] [] y.1 y.2 u q ∧ Sep F' fp' q := by
  obtain ⟨v, f⟩ := y
  rcases hf with rfl | rfl
  · exact Own.held R E s rv
  · exact ⟨⟨Imm.mono (E.mono R) _ _ rv.1, rv.2⟩, ⟨fun _ a z => absurd z (rv.2 a), fun a z => absurd z (rv.2 a)⟩⟩
theorem RV.trk' {y : PV × Fl} (hf : y.2 = .own ∨ y.2 = .frz) (rv : RV C F H [] [] y.1 y.2 u q) {a : Addr} (ha : q a) : ∃ o, H a = some o := by
  obtain ⟨v, f⟩ := y
  rcases hf with rfl | rfl
  · obtain ⟨o, e, _⟩ := Own.trk rv ha
    exact ⟨o, e⟩
  · exact absurd ha (rv.2 a)
theorem evP_cons {e : Expr} {es : List Expr} {x : Ex} {xs : List Ex} (he : PE X e (tE C Xw (ev T P x))) (hs : PA X es (tP C Xw (evP T P xs))) (hst : starEach (e :: es) X.env = (false, eval e X.env) :: starEach es X.env := by rfl) : PA X (e :: es) (tP C Xw (evP T P (x :: xs))) :=
  paW (pa_cons he hs hst) fun σ H Q q => by
    obtain ⟨F, fp, r, R, g⟩ := q
    rw [evP] at g
    refine ⟨F, fp, r, R, g.bind.mono (fun y r1 g1 F1 fp1 H1 u q E R1 v s n => ?_) fun _ _ z => z⟩
    obtain ⟨p, hp, g2⟩ := Good.of g1
    obtain ⟨y', r2⟩ := p
    obtain ⟨F2, fp2, q2, E2, R2, hf, rv2, s2, n2⟩ := parOf_ok E R1 v s n hp
    refine ⟨F2, fp2, r2, R2, g2.bind.mono (fun as r3 g3 F3 fp3 H3 us qs E3 R3 hl hx hsep hdis hn hout => ?_) fun _ _ z F' fp' H' e' => z F' fp' H' (E2.trans e')⟩
    obtain ⟨rv3, s3⟩ := RV.carry R2 hf rv2 s2 E3
    have hd : ∀ i b, q2 b → ¬ qs i b := fun i b hq hb => by
      obtain ⟨o, e⟩ := RV.trk' hf rv2 hq
      rcases hn i b hb with ⟨j, z⟩ | z
      · exact s2.d j b hq z
      · rw [e] at z; cases z
    refine g3 F3 fp3 H3 (u :: us) (fun i => match i with | 0 => q2 | i + 1 => qs i) (E2.trans E3) R3 (by simp [hl]) (fun i x h => ?_) (fun i => ?_) (fun i j b hi hj => ?_) (fun i b z => ?_) fun i hi b z => ?_
    · cases i with
      | zero => simp at h; subst h; exact ⟨u, rfl, hf, rv3⟩
      | succ i => simpa using hx i x (by simpa using h)
    · cases i with
      | zero => exact s3
      | succ i => exact hsep i
    · cases i with
      | zero =>
        cases j with
        | zero => rfl
        | succ j => exact absurd hj (hd j b hi)
      | succ i =>
        cases j with
        | zero => exact absurd hi (hd i b hj)
        | succ j => rw [hdis i j b hi hj]
    · cases i with
      | zero => exact n2 b z
      | succ i =>
        rcases hn i b z with ⟨j, z⟩ | z
        · exact E2.pn j b z
        · exact E2.none_ z
    · cases i with
      | zero => simp at hi
      | succ i => exact hout i (by simpa using hi) b z
/-- a kept value goes to a name -/
theorem setS_put {i : Nat} {y : PV × Fl} (hf : y.2 = .own ∨ y.2 = .frz) (rv : RV C F H [] [] y.1 y.2 u q) (h : setS i y.1 y.2 r = some r') : ∃ o q', r' = r.set i (some (y.1, o)) ∧ ((o = true ∧ Own C F H y.1 u q') ∨ (o = false ∧ Imm C F H y.1 u ∧ ∀ a, ¬ q' a)) ∧ ∀ a, q' a → q a := by
  obtain ⟨v, f⟩ := y
  unfold setS at h
  cases hm : v.isM with
  | false =>
    simp only [hm, Bool.false_eq_true, if_false, Option.some.injEq] at h
    refine ⟨true, none1, h.symm, .inl ⟨rfl, Imm.own hm ?_⟩, fun _ z => z.elim⟩
    rcases hf with rfl | rfl
    · exact (Own.imm hm rv).1
    · exact rv.1
  | true =>
    simp only [hm, if_true] at h
    rcases hf with rfl | rfl
    · simp only [Option.some.injEq] at h
      exact ⟨true, q, h.symm, .inl ⟨rfl, rv⟩, fun _ z => z⟩
    · simp only [Option.some.injEq] at h
      exact ⟨false, q, h.symm, .inr ⟨rfl, rv.1, rv.2⟩, fun _ z => z⟩
theorem ex_par2 {i j : Nat} {x y : Str} {a b : Expr} {px py pt pos : Pos} {kt k2 pt2} {xa xb : Ex} (hki : kp i = false) (hkj : kp j = false) (hc : X.calm = true) (hN : X.N.Nodup) (hi : X.N[i]? = some x) (hj : X.N[j]? = some y) (hij : i ≠ j)
    (hx : X.env.scope.names.lookup x = some .local) (hy : X.env.scope.names.lookup y = some .local) (ha : PA X [a, b] (tP C Xw (evP T P [xa, xb])))
    (hw : swappedStores [.Tuple [.Name x px, .Name y py] kt pt] (.Tuple [a, b] k2 pt2) X.env = pure (some [x, y]))
    (hs : swapsWithSole [.Tuple [.Name x px, .Name y py] kt pt] (.Tuple [a, b] k2 pt2) pos.line X.env = pure false := by rfl) :
    PS X (.Assign [.Tuple [.Name x px, .Name y py] kt pt] (.Tuple [a, b] k2 pt2) pos) (tS C kp Xw (ex T P (.par [i, j] [xa, xb]))) :=
  psW (ps_par hc hN hi hj hij hx hy ha hw hs) fun D σ H q => by
    obtain ⟨F, fp, r, R, g⟩ := q
    rw [ex] at g
    refine ⟨F, fp, r, R, g.bind.mono (fun ps r1 g1 F1 fp1 H1 us qs E R1 hl hx hsep hdis hn _ => ?_) fun _ _ z => z.ex⟩
    obtain ⟨r2, hr, g2⟩ := Good.of g1
    match ps, hr, hl, hx with
    | [], hr, hl, hx => simp [setP] at hr
    | [_], hr, hl, hx => simp [setP] at hr
    | _ :: _ :: _ :: _, hr, hl, hx => simp [setP] at hr
    | [y1, y2], hr, hl, hx =>
      obtain ⟨u1, e1, f1, v1⟩ := hx 0 y1 rfl
      obtain ⟨u2, e2, f2, v2⟩ := hx 1 y2 rfl
      match us, hl, e1, e2 with
      | [w1, w2], hl, e1, e2 =>
        simp at e1 e2; subst e1 e2
        rw [setP, Option.bind_eq_some_iff] at hr
        obtain ⟨r3, h3, hr⟩ := hr
        rw [setP, Option.bind_eq_some_iff] at hr
        obtain ⟨r4, h4, hr⟩ := hr
        rw [setP] at hr; cases hr
        obtain ⟨o1, q1, rfl, k1, m1⟩ := setS_put f1 v1 h3
        obtain ⟨o2, q2, rfl, k2, m2⟩ := setS_put f2 v2 h4
        have s1 : Sep F1 fp1 q1 := ⟨fun i a z => (hsep 0).d i a (m1 a z), fun a z => (hsep 0).f a (m1 a z)⟩
        have R2 := R1.put i k1 s1
        have E2 := E.put (i := i) (q := q1) (p := i < r1.length) fun a z => hn 0 a (m1 a z)
        have s2 : Sep F1 (fun j a => (j = i ∧ q1 a ∧ i < r1.length) ∨ (j ≠ i ∧ fp1 j a)) q2 := ⟨fun k a z w => by
          rcases w with w | w
          · exact absurd (hdis 0 1 a (m1 a w.2.1) (m2 a z)) (by decide)
          · exact (hsep 1).d k a (m2 a z) w.2, fun a z => (hsep 1).f a (m2 a z)⟩
        have R3 := R2.put j k2 s2
        have E3 := E2.put (i := j) (q := q2) (p := j < (r1.set i (some (y1.1, o1))).length) fun a z => hn 1 a (m2 a z)
        exact ⟨w1, w2, rfl, g2 F1 _ H1 _ E3 R3 ((SameK.set hki).trans (SameK.set hkj))⟩
/-- several values to several names, one after the other -/
theorem setP_ok : ∀ (is : List Nat) (ps : List (PV × Fl)) (r r' : Env) (σ : L2.St) (fp : FP) (us : List V) (qs : FP), (∀ i ∈ is, kp i = false) → Rel C F fp r σ H → us.length = ps.length → (∀ (i : Nat) x, ps[i]? = some x → ∃ u, us[i]? = some u ∧ (x.2 = .own ∨ x.2 = .frz) ∧ RV C F H [] [] x.1 x.2 u (qs i)) →
    (∀ i, Sep F fp (qs i)) → (∀ i j a, qs i a → qs j a → i = j) → (∀ i a, qs i a → (∃ i, fp0 i a) ∨ H0 a = none) → Ext F0 fp0 H0 F fp H → setP is ps r = some r' →
    ∀ N : L2.St → Hp → Prop, (∀ σ' fp', Ext F0 fp0 H0 F fp' H → Rel C F fp' r' σ' H → SameK kp σ σ' → N σ' H) → gTs C.K (is.map .nm) us σ H N
  | [], [], r, r', σ, fp, us, qs, hk, R, hl, hx, hs, hd, hn, E, h, N, hN => by
    rw [setP] at h; cases h
    rw [List.map_nil, gTs]
    exact ⟨List.eq_nil_of_length_eq_zero hl, hN σ fp E R .refl⟩
  | [], _ :: _, r, r', σ, fp, us, qs, hk, R, hl, hx, hs, hd, hn, E, h, N, hN => by simp [setP] at h
  | _ :: _, [], r, r', σ, fp, us, qs, hk, R, hl, hx, hs, hd, hn, E, h, N, hN => by simp [setP] at h
  | i :: is, y :: ps, r, r', σ, fp, us, qs, hk, R, hl, hx, hs, hd, hn, E, h, N, hN => by
    rw [setP, Option.bind_eq_some_iff] at h
    obtain ⟨r1, h1, h2⟩ := h
    match us, hl, hx with
    | [], hl, hx => simp at hl
    | u :: us, hl, hx =>
      obtain ⟨u0, e0, f0, v0⟩ := hx 0 y rfl
      simp at e0; subst e0
      obtain ⟨o1, q1, rfl, k1, m1⟩ := setS_put f0 v0 h1
      have s1 : Sep F fp q1 := ⟨fun i a z => (hs 0).d i a (m1 a z), fun a z => (hs 0).f a (m1 a z)⟩
      have R2 := R.put i k1 s1
      have E2 := E.put (i := i) (q := q1) (p := i < r.length) fun a z => hn 0 a (m1 a z)
      rw [List.map_cons, gTs, gT]
      refine ⟨u, us, rfl, setP_ok is ps _ r' _ _ us (fun i => qs (i + 1)) (fun i m => hk i (List.mem_cons_of_mem _ m)) R2 (by simpa using hl) (fun i x e => ?_) (fun k => ?_) (fun i j a z w => by have := hd _ _ a z w; omega) (fun i a z => hn _ a z) E2 h2 N fun σ' fp' E' R' K' => hN σ' fp' E' R' ((SameK.set (hk i List.mem_cons_self)).trans K')⟩
      · simpa using hx (i + 1) x (by simpa using e)
      · refine ⟨fun j a z w => ?_, (hs (k + 1)).f⟩
        rcases w with w | w
        · have := hd _ _ a (m1 a w.2.1) z
          omega
        · exact (hs (k + 1)).d j a z w.2
theorem setP_len : ∀ {is : List Nat} {ps : List (PV × Fl)} {r r' : Env}, setP is ps r = some r' → ps.length = is.length
  | [], [], _, _, _ => rfl
  | [], _ :: _, _, _, h => by simp [setP] at h
  | _ :: _, [], _, _, h => by simp [setP] at h
  | i :: is, y :: ps, r, r', h => by
    rw [setP, Option.bind_eq_some_iff] at h
    obtain ⟨r1, _, h⟩ := h
    rw [List.length_cons, List.length_cons, setP_len h]
/-- a, b, .. = x, y, .. by a tuple that is made -/
theorem ex_parC {tgs es : List Expr} {pt pos : Pos} {kt k2 pt2} {is : List Nat} {xs : List Ex} (f : Fit C X) (hki : ∀ i ∈ is, kp i = false) (hn : is.length ≤ 1000) (ha : PA X es (tP C Xw (evP T P xs)))
    (hg : PG X (.Tuple tgs kt pt) (gT X.K (.tp (is.map .nm))))
    (hs : swapsWithSole [.Tuple tgs kt pt] (.Tuple es k2 pt2) pos.line X.env = pure false := by rfl) (hw : swappedStores [.Tuple tgs kt pt] (.Tuple es k2 pt2) X.env = pure none := by rfl)
    (h1 : (assignEach [.Tuple tgs kt pt] X.env).map (·.2) = [PySem.assign (.Tuple tgs kt pt) X.env] := by rfl) :
    PS X (.Assign [.Tuple tgs kt pt] (.Tuple es k2 pt2) pos) (tS C kp Xw (ex T P (.par is xs))) :=
  psW (ps_asg (pe_tup ha) hg hs hw h1) fun D σ H q => by
    obtain ⟨F, fp, r, R, g⟩ := q
    rw [ex] at g
    refine ⟨F, fp, r, R, g.bind.mono (fun ps r1 g1 F1 fp1 H1 us qs E R1 hl hx hsep hdis hn' hout => ?_) fun _ _ z => z.ex⟩
    obtain ⟨r2, hr, g2⟩ := Good.of g1
    have hpl := setP_len hr
    refine ⟨by rw [hl, hpl, sizeLine_eq]; omega, fun p hp => ?_⟩
    have En : Ext F1 fp1 H1 F1 fp1 (upd H1 p (.tup us)) := .new hp
    rw [gT, ← f.K]
    refine ⟨p, us, rfl, .inl (.inl (.inl upd_same)), by rw [hl, hpl, List.length_map], ?_⟩
    exact setP_ok is ps r1 r2 σ fp1 us qs hki (R1.new hp) hl (fun i x e => by
      obtain ⟨u, h1, h2, h3⟩ := hx i x e
      exact ⟨u, h1, h2, (RV.carry R1 h2 h3 (hsep i) En).1⟩) hsep hdis hn' (E.trans En) hr D.nx fun σ' fp' E' R' K' => g2 F1 fp' _ σ' E' R' K'
end
end PL

set_option Elab.async false
set_option linter.all false
set_option maxRecDepth 100000
set_option maxHeartbeats 1000000
namespace PL
open PySem L2 PV PySem.SeqAt PyProof.Rows
section
variable {C : Cn} {kp : Nat → Bool} {Xw : XW} {X : Cx} {T : Tab} {P : Fns} {W : WX} {pos : Pos}
theorem ev_int {i : Int} {k : Nat} : PE X (.Constant (.int i) k pos) (tE C Xw (ev T P (.const (.int i)))) := ev_const (w := .int i) pe_int rfl fun _ _ => by rw [Imm]
theorem ev_str {x : Str} {s : List Nat} {k : Nat} (h : x = tx s) : PE X (.Constant (.str x) k pos) (tE C Xw (ev T P (.const (.str s)))) := ev_const (w := .str x) pe_str rfl fun _ _ => by rw [Imm, h]
theorem ev_bool {b : Bool} {k : Nat} : PE X (.Constant (.bool b) k pos) (tE C Xw (ev T P (.const (.bl b)))) := ev_const (w := .bl b) pe_bl rfl fun _ _ => by rw [Imm]
theorem ev_none {k : Nat} : PE X (.Constant .none k pos) (tE C Xw (ev T P (.const .non))) := ev_const (w := .non) pe_non rfl fun _ _ => by rw [Imm]
/-- a constant of the module -/
theorem ev_gint {x : Str} {i : Int} {t : Tok} (hg : Gl X x) (hm : X.mg x = some (.int i t)) (hd : (x == ("__debug__" : Str)) = false := by decide) : PE X (.Name x pos) (tE C Xw (ev T P (.const (.int i)))) := ev_const (w := .int i) (pe_glob hg hm ⟨_, rfl⟩ hd) rfl fun _ _ => by rw [Imm]
theorem ev_gfn {x : Str} {n : Nat} (hg : Gl X x) (hm : X.mg x = some (.ref (C.fnA n))) (hd : (x == ("__debug__" : Str)) = false := by decide) : PE X (.Name x pos) (tE C Xw (ev T P (.const (.fn n)))) := ev_const (w := .ref (C.fnA n)) (pe_glob hg hm rfl hd) rfl fun _ _ => by rw [Imm]
abbrev wF : WX := fun _ _ _ _ => False
theorem xF : XOk C X XF wF := ⟨fun u s' ⟨_, _, _, _, _, _, _, _, _, _, _, _, _, _, _, _, w⟩ => w.elim, fun _ _ _ _ _ _ h => h⟩
/-! ### a op b op c -/
structure ChK (X : Cx) (op : BOp) (cop : CmpOp) (p : Int → Int → Bool) : Prop where
  o : OpR X (compareOp cop) (rI0 fun i j => .bl (p i j))
  b : ∀ i j, binop op (.int i) (.int j) = some (.bl (p i j))
theorem chk_lt : ChK X .lt .Lt fun i j => decide (i < j) := ⟨op_lt, fun _ _ => rfl⟩
theorem chk_le : ChK X .le .LtE fun i j => decide (i ≤ j) := ⟨op_le, fun _ _ => rfl⟩
theorem chk_gt : ChK X .gt .Gt fun i j => decide (j < i) := ⟨op_gt, fun _ _ => rfl⟩
theorem chk_ge : ChK X .ge .GtE fun i j => decide (j ≤ i) := ⟨op_ge, fun _ _ => rfl⟩
theorem ch_rd {op1 op2 : BOp} {p1 p2 : Int → Int → Bool} {xa xb xc : Ex} {σ : L2.St} {H : Hp} {Q : VK} (h1 : ∀ i j, binop op1 (.int i) (.int j) = some (.bl (p1 i j))) (h2 : ∀ i j, binop op2 (.int i) (.int j) = some (.bl (p2 i j))) (q : tE C Xw (ev T P (.ch op1 op2 xa xb xc)) σ H Q) :
    tChain (rI0 fun i j => .bl (p1 i j)) (rI0 fun i j => .bl (p2 i j)) (tE C Xw (ev T P xa)) (tE C Xw (ev T P xb)) (tE C Xw (ev T P xc)) σ H Q := by
  obtain ⟨F, fp, r, R, g⟩ := q
  rw [ev] at g
  refine ⟨F, fp, r, R, g.bind.mono (fun x r1 g1 F1 fp1 H1 u q E R1 v s n => ?_) fun _ _ z => z⟩
  refine ⟨F1, fp1, r1, R1, g1.bind.mono (fun y r2 g2 F2 fp2 H2 w q2 E2 R2 v2 s2 n2 => ?_) fun _ _ z => z.later E⟩
  obtain ⟨x, fx⟩ := x
  obtain ⟨y, fy⟩ := y
  cases x with
  | int i =>
    cases y with
    | int j =>
      simp only [h1, PL.R.of_some, PL.R.bind_ok, asB] at g2
      refine ⟨i, j, RV.int R1 v, RV.int R2 v2, p1 i j, rfl, ?_⟩
      cases hp : p1 i j with
      | false =>
        simp only [hp, Bool.false_eq_true, if_false] at g2 ⊢
        exact OkV.imm R2 (OkV.later (E.trans E2) g2) rfl (.inl rfl) rfl
      | true =>
        simp only [hp, if_true] at g2 ⊢
        refine ⟨F2, fp2, r2, R2, g2.bind.mono (fun z r3 g3 F3 fp3 H3 w3 q3 E3 R3 v3 s3 n3 => ?_) fun _ _ z => z.later (E.trans E2)⟩
        obtain ⟨z, fz⟩ := z
        cases z with
        | int k =>
          simp only [h2, PL.R.of_some, PL.R.bind_ok] at g3
          exact ⟨j, k, RV.int R2 v2, RV.int R3 v3, OkV.imm R3 (OkV.later ((E.trans E2).trans E3) g3) rfl (.inl rfl) rfl⟩
        | _ => exact g3.elim
    | _ => exact g2.elim
  | _ => exact g2.elim
theorem ev_ch {op1 op2 : BOp} {c1 c2 : CmpOp} {p1 p2 : Int → Int → Bool} {a b c : Expr} {xa xb xc : Ex} (k1 : ChK X op1 c1 p1) (k2 : ChK X op2 c2 p2) (ha : PE X a (tE C Xw (ev T P xa))) (hb : PE X b (tE C Xw (ev T P xb))) (hc : PE X c (tE C Xw (ev T P xc)))
    (hm : lastMarks [c1, c2] [b, c] = false := by with_unfolding_all rfl) : PE X (.Compare a [c1, c2] [b, c] pos) (tE C Xw (ev T P (.ch op1 op2 xa xb xc))) := peW (pe_chain k1.o k2.o ha hb hc hm) fun _ _ _ q => ch_rd k1.b k2.b q
theorem pt_CH {op1 op2 : BOp} {c1 c2 : CmpOp} {p1 p2 : Int → Int → Bool} {a b c : Expr} {xa xb xc : Ex} (k1 : ChK X op1 c1 p1) (k2 : ChK X op2 c2 p2) (ha : PE X a (tE C Xw (ev T P xa))) (hb : PE X b (tE C Xw (ev T P xb))) (hc : PE X c (tE C Xw (ev T P xc)))
    (hm : lastMarks [c1, c2] [b, c] = false := by with_unfolding_all rfl) : PT X (.Compare a [c1, c2] [b, c] pos) (tT C Xw (bT T P (.ch op1 op2 xa xb xc))) := ptW (pt_chain k1.o k2.o ha hb hc hm) fun _ _ _ q => ch_rd k1.b k2.b (asB_ok q)
/-! ### small things for the terms -/
theorem hu73 {k : Nat} {A : Around} (h : Room k A) : A.units + 73 < cLine := by have := h.un; omega
theorem boot_isi : bootBuiltins "isinstance" = some (.builtin "isinstance") := by decide +kernel
theorem gtT {tg : Expr} (t : Tg) {g : TG} (h : PG X tg g) (e : g = gT X.K t := by first | rfl | (simp only [gT, gTs, List.map]; rfl)) : PG X tg (gT X.K t) := e ▸ h
end
end PL

set_option Elab.async false
set_option linter.all false
set_option maxRecDepth 100000
set_option maxHeartbeats 1000000
namespace PL
open PySem L2 PV PySem.SeqAt PyProof.Rows
section
variable {C : Cn} {kp : Nat → Bool} {Xw : XW} {X : Cx} {T : Tab} {P : Fns} {W : WX} {pos : Pos} {σ : L2.St} {H : Hp}
theorem comp_r2 {t : Tg} {elt xa xb : Ex} {cs : List Ex} {own : List Nat} {Q : VK} (f : Fit C X) (hk : tgK (fun i => !own.contains i) t = true) (q : tE C Xw (ev T P (.comp elt t .rng xa xb cs own false)) σ H Q) :
    tLc (iRng2 (tCons (tE C Xw (ev T P xa)) (tCons (tE C Xw (ev T P xb)) tNil))) (gT X.K t) (tT C XF (tests T P cs)) (tE C XF (ev T P elt)) own σ H Q := by
  obtain ⟨F, fp, r, R, g⟩ := q
  rw [ev, PL.iter] at g
  unfold tLc iRng2
  refine two_ints (Xw := Xw) R (fun c r' z => z) g.bind fun a b r1 F1 fp1 H1 E R1 g1 => ?_
  obtain ⟨ok, h⟩ := comp_rng hk E R1 g1
  obtain ⟨b1, b2, b3, b4, b5⟩ := rngOk_b ok
  rw [f.K] at h
  exact ⟨a, b, rfl, ⟨by omega, by omega, by omega, by omega⟩, h⟩
theorem comp_r1 {t : Tg} {elt xb : Ex} {cs : List Ex} {own : List Nat} {Q : VK} (f : Fit C X) (hk : tgK (fun i => !own.contains i) t = true) (q : tE C Xw (ev T P (.comp elt t .rng (.const (.int 0)) xb cs own false)) σ H Q) :
    tLc (iRng1 (tCons (tE C Xw (ev T P xb)) tNil)) (gT X.K t) (tT C XF (tests T P cs)) (tE C XF (ev T P elt)) own σ H Q := by
  obtain ⟨F, fp, r, R, g⟩ := q
  rw [ev, PL.iter] at g
  simp only [const_int, PL.R.bind_ok] at g
  unfold tLc iRng1
  refine one_int (Xw := Xw) (f := fun b r => if rngOk 0 b then PL.R.ok (rngL 0 (b - 0).toNat, ([] : List (Nat × PV))) r else .bad) R (fun c r' z => z) (eq0 ▸ g.bind) fun b r1 F1 fp1 H1 E R1 g1 => ?_
  obtain ⟨ok, h⟩ := comp_rng hk E R1 g1
  obtain ⟨b1, b2, b3, b4, b5⟩ := rngOk_b ok
  rw [Int.sub_zero, f.K] at h
  exact ⟨b, rfl, by omega, by omega, h⟩
/-- y = [..], on one line -/
theorem ex_lc {i : Nat} {y : Str} {py : Pos} {elt tg iter : Expr} {ifs : List Expr} {scope : Scope} {own : List (Str × Nat)} {pos spos : Pos} {t : Tg} {xe xa xb : Ex} {cs : List Ex} {hd : Bool} (hki : kp i = false) (hy : X.N[i]? = some y) (hyl : X.env.scope.names.lookup y = some .local)
    (hsw : swapsWith (.ListComp elt [⟨tg, iter, ifs, 0⟩] scope pos) (some (.Name y py)) spos.line X.env = pure true) (f : Fit C X) (hc : X.calm = true) (hN : X.N.Nodup) (ok : BlkOk X.N X.env.scope scope own) (hk : tgK (fun i => !(own.map (·.2)).contains i) t = true)
    (hi : PE X iter (tE C Xw (ev T P xa)))
    (hg : ∀ (s : Shared) (H : Hp) (D : Addr) (cl : List (Str × Addr)) (fp : List Addr), PG (X.blk s H scope (compEnvC scope cl D X.env) fp) tg (gT X.K t)) (ht : ∀ (s : Shared) (H : Hp) (D : Addr) (cl : List (Str × Addr)) (fp : List Addr), PTs (X.blk s H scope (compEnvC scope cl D X.env) fp) ifs (tT C XF (tests T P cs)))
    (he : ∀ (s : Shared) (H : Hp) (D : Addr) (cl : List (Str × Addr)) (fp : List Addr), PE (X.blk s H scope (compEnvC scope cl D X.env) fp) elt (tE C XF (ev T P xe))) (hs : ∀ x, foldedSetIterable iter X.env x = pure x := by intro _; rfl) :
    PS X (.Assign [.Name y py] (.ListComp elt [⟨tg, iter, ifs, 0⟩] scope pos) spos) (tS C kp Xw (ex T P (.asg (.nm i) (.comp xe t .seq xa xb cs (own.map (·.2)) hd)))) :=
  psW (ps_setLc hc hN hy hyl hsw (pi_sq hi) ok hg ht he hs) fun D σ H q => by
    have := asg_rd (t := .nm i) (by rw [tgK, hki]; rfl) q
    rw [gT] at this
    exact comp_seq f hk this
theorem ex_lc2 {i : Nat} {y : Str} {py : Pos} {elt tg ea eb : Expr} {ifs : List Expr} {scope : Scope} {own : List (Str × Nat)} {p pos' pos spos : Pos} {t : Tg} {xe xa xb : Ex} {cs : List Ex} (hki : kp i = false) (hy : X.N[i]? = some y) (hyl : X.env.scope.names.lookup y = some .local)
    (hsw : swapsWith (.ListComp elt [⟨tg, .Call (.Name "range" p) [ea, eb] [] pos', ifs, 0⟩] scope pos) (some (.Name y py)) spos.line X.env = pure true) (f : Fit C X) (hc : X.calm = true) (hN : X.N.Nodup) (ok : BlkOk X.N X.env.scope scope own) (hk : tgK (fun i => !(own.map (·.2)).contains i) t = true)
    (hg' : Gl X "range") (hm : X.mg "range" = none) (ha : PE X ea (tE C Xw (ev T P xa))) (hb' : PE X eb (tE C Xw (ev T P xb)))
    (hg : ∀ (s : Shared) (H : Hp) (D : Addr) (cl : List (Str × Addr)) (fp : List Addr), PG (X.blk s H scope (compEnvC scope cl D X.env) fp) tg (gT X.K t)) (ht : ∀ (s : Shared) (H : Hp) (D : Addr) (cl : List (Str × Addr)) (fp : List Addr), PTs (X.blk s H scope (compEnvC scope cl D X.env) fp) ifs (tT C XF (tests T P cs)))
    (he : ∀ (s : Shared) (H : Hp) (D : Addr) (cl : List (Str × Addr)) (fp : List Addr), PE (X.blk s H scope (compEnvC scope cl D X.env) fp) elt (tE C XF (ev T P xe)))
    (hs1 : starEach [ea, eb] X.env = [(false, eval ea X.env), (false, eval eb X.env)] := by rfl) (hs2 : starEach [eb] X.env = [(false, eval eb X.env)] := by rfl) (hs : ∀ x, foldedSetIterable (.Call (.Name "range" p) [ea, eb] [] pos') X.env x = pure x := by intro _; rfl) :
    PS X (.Assign [.Name y py] (.ListComp elt [⟨tg, .Call (.Name "range" p) [ea, eb] [] pos', ifs, 0⟩] scope pos) spos) (tS C kp Xw (ex T P (.asg (.nm i) (.comp xe t .rng xa xb cs (own.map (·.2)) false)))) :=
  psW (ps_setLc hc hN hy hyl hsw (pi_range2 hg' hm (pa_cons ha (pa_cons hb' pa_nil (by rw [hs2]; rfl)) (by rw [hs1, hs2])) hs1 hs2) ok hg ht he hs) fun D σ H q => by
    have := asg_rd (t := .nm i) (by rw [tgK, hki]; rfl) q
    rw [gT] at this
    exact comp_r2 f hk this
theorem ex_lc1 {i : Nat} {y : Str} {py : Pos} {elt tg eb : Expr} {ifs : List Expr} {scope : Scope} {own : List (Str × Nat)} {p pos' pos spos : Pos} {t : Tg} {xe xb : Ex} {cs : List Ex} (hki : kp i = false) (hy : X.N[i]? = some y) (hyl : X.env.scope.names.lookup y = some .local)
    (hsw : swapsWith (.ListComp elt [⟨tg, .Call (.Name "range" p) [eb] [] pos', ifs, 0⟩] scope pos) (some (.Name y py)) spos.line X.env = pure true) (f : Fit C X) (hc : X.calm = true) (hN : X.N.Nodup) (ok : BlkOk X.N X.env.scope scope own) (hk : tgK (fun i => !(own.map (·.2)).contains i) t = true)
    (hg' : Gl X "range") (hm : X.mg "range" = none) (hb' : PE X eb (tE C Xw (ev T P xb)))
    (hg : ∀ (s : Shared) (H : Hp) (D : Addr) (cl : List (Str × Addr)) (fp : List Addr), PG (X.blk s H scope (compEnvC scope cl D X.env) fp) tg (gT X.K t)) (ht : ∀ (s : Shared) (H : Hp) (D : Addr) (cl : List (Str × Addr)) (fp : List Addr), PTs (X.blk s H scope (compEnvC scope cl D X.env) fp) ifs (tT C XF (tests T P cs)))
    (he : ∀ (s : Shared) (H : Hp) (D : Addr) (cl : List (Str × Addr)) (fp : List Addr), PE (X.blk s H scope (compEnvC scope cl D X.env) fp) elt (tE C XF (ev T P xe)))
    (hs1 : starEach [eb] X.env = [(false, eval eb X.env)] := by rfl) (hs : ∀ x, foldedSetIterable (.Call (.Name "range" p) [eb] [] pos') X.env x = pure x := by intro _; rfl) :
    PS X (.Assign [.Name y py] (.ListComp elt [⟨tg, .Call (.Name "range" p) [eb] [] pos', ifs, 0⟩] scope pos) spos) (tS C kp Xw (ex T P (.asg (.nm i) (.comp xe t .rng (.const (.int 0)) xb cs (own.map (·.2)) false)))) :=
  psW (ps_setLc hc hN hy hyl hsw (pi_range1 hg' hm (pa_cons hb' pa_nil (by rw [hs1]; rfl)) hs1) ok hg ht he hs) fun D σ H q => by
    have := asg_rd (t := .nm i) (by rw [tgK, hki]; rfl) q
    rw [gT] at this
    exact comp_r1 f hk this
end
end PL

set_option Elab.async false
set_option linter.all false
set_option maxRecDepth 100000
set_option maxHeartbeats 1000000
namespace PL
open PySem L2 PV PySem.SeqAt PyProof.Rows
def lstA (l : List Addr) (n : Nat) : Addr := (l[n]?).getD 0
def lstF (l : List FuncData) (d : FuncData) (n : Nat) : FuncData := (l[n]?).getD d
section
variable {C : Cn} {mg : Str → Option Value} {base : Heap} {T : Tab}
theorem fn_zero {k i : Nat} {f : Addr} {fd : FuncData} {ps : List Str} : FnOk C.P C.w C.K mg base (L2N.CX C.P C.w) k f fd ps (spF C (run T 0) i) :=
  ⟨fun _ _ _ _ ⟨_, _, _, _, h⟩ => h.elim, fun _ _ _ _ _ _ _ _ _ _ _ _ _ ⟨_, _, _, _, h⟩ => h.elim⟩
/-- what law(script) promises -/
def spLaw (K : PySem.W.Frag) : Sp := fun vs H Q _ => ∃ (a : Addr) (ns : List Int), vs = [.ref a] ∧ SqL K H a (ns.map V.int) ∧ ns.length ≤ 63 ∧ ∀ H', Q (.bl true) H'
/-- the law's answer at every script -/
def LawIs (T : Tab) (n i : Nat) : Prop := ∀ ns : List Int, ns.length ≤ 63 → ∃ o bs, run T n i [(.lst (ns.map .int), false)] = .ok (.bl true) o bs
theorem law_imp {k n i : Nat} {f : Addr} {fd : FuncData} {ps : List Str} (h : LawIs T n i) (F : FnOk C.P C.w C.K mg base (L2N.CX C.P C.w) k f fd ps (spF C (run T n) i)) : FnOk C.P C.w C.K mg base (L2N.CX C.P C.w) k f fd ps (spLaw C.K) :=
  F.imp fun vs H Q E ⟨a, ns, hv, hs, hl, q⟩ => by
    subst hv
    obtain ⟨o, bs, e⟩ := h ns hl
    refine ⟨fun b => b = a ∧ ∃ xs, Rd H b (.lst xs), fun _ => none1, [(.lst (ns.map .int), false)], ⟨rfl, fun j v p ej => ?_, fun _ _ _ z => z, fun _ _ _ z => z.elim, fun _ _ z => z.elim, fun b hb => hb.2⟩, ?_⟩
    · cases j with
      | zero =>
        have : get ([(PV.lst (ns.map .int), false)].map some) 0 = some (.lst (ns.map .int), false) := rfl
        rw [this] at ej
        cases ej
        refine ⟨.ref a, rfl, .inr ⟨rfl, ?_, fun _ z => z⟩⟩
        rw [Imm]
        refine ⟨a, ns.map V.int, rfl, ?_, imms_ints ns⟩
        rcases hs with hs | ⟨ob, its, m, h1, h2, h3, h4, h5, h6⟩
        · exact .inl ⟨⟨rfl, _, hs⟩, hs⟩
        · exact .inr ⟨ob, its, m, h1, h2, h3, h4, h5, h6⟩
      | succ j => simp [get] at ej
    · rw [e]
      intro F' fp' H' u q' E' R' rv s n'
      have : u = .bl true := by
        cases o with
        | true => exact (Own.imm (v := .bl true) rfl rv).1
        | false => exact rv.1
      rw [this]
      exact q H'
theorem walkL {l : PySem.W.OpenLaw} {q : Program} {loose : List Str} {XP : (Str → Option Value) → Heap → Prop} {YP : World → Heap → Prop} {d : DefRec} {K : Params → PySem.W.Frag} {k : Nat} {x : Str} (hn : l.most = some 63) (hdf : d.params.defaults = []) (hr : Room k callerA)
    (hY : ∀ (w : World) (h : Heap), YP w h → (K w.params).In h)
    (F : ∀ (w : World) (mg : Str → Option Value) (fa : Addr) (h : Heap), (K w.params).In h → h.Ns mainGlobals mg → mg d.name = some (.ref fa) →
      ∃ fd : FuncData, (∀ (s : Shared) (u : Value), BindsTo s fd ⟨[u], []⟩ [(x, u)]) ∧ ∀ base : Heap, (K w.params).In base → base.Ns mainGlobals mg → FnOk l.prog w (K w.params) mg base (L2N.CX l.prog w) k fa fd [x] (spLaw (K w.params))) :
    PySem.W.WalkO q loose XP YP l.row.toRowW d [] (fun f vs => PySem.call f vs) :=
  L2.walk_of (n := 63) (k := k) (x := x) (CX := fun w => L2N.CX l.prog w) (sp := fun w => spLaw (K w.params)) hn (by decide) hdf hr hY F (fun _ _ a ns hl _ hS => ⟨a, ns, rfl, hS, hl, fun _ => rfl⟩) fun _ _ _ _ _ ⟨_, _, _, _, _, _, _, _, _, _, _, _, z⟩ => z
end
end PL

set_option Elab.async false
set_option linter.all false
set_option maxRecDepth 100000
set_option maxHeartbeats 1000000
namespace PL
open PySem L2 PV PySem.SeqAt PyProof.Rows

section
variable {C : Cn} {kp : Nat → Bool} {Xw : XW} {X : Cx} {F F1 F2 F0 F' : AS} {fp fp1 fp2 fp0 fp' : FP} {r r1 r2 r' : Env} {σ σ' : L2.St} {H H1 H2 H0 H' : Hp} {v : PV} {u : V} {q : AS} {f : Fl} {o : Bool}
variable {T : Tab} {P : Fns}
/-! ### enumerate and zip -/
theorem enumT_len : ∀ (l : List PV) (k : Nat), (enumT k l).length = l.length
  | [], _ => rfl
  | a :: l, k => by rw [enumT, List.length_cons, enumT_len l, List.length_cons]
theorem enumT_get : ∀ (l : List PV) (k i : Nat) (p : PV), (enumT k l)[i]? = some p → ∃ a, l[i]? = some a ∧ p = .tup [.int ((k + i : Nat) : Int), a]
  | [], k, i, p, h => by simp [enumT] at h
  | a :: l, k, 0, p, h => by
    simp [enumT] at h
    exact ⟨a, rfl, h.symm⟩
  | a :: l, k, i + 1, p, h => by
    obtain ⟨b, h1, h2⟩ := enumT_get l (k + 1) i p (by simpa [enumT] using h)
    exact ⟨b, by simpa using h1, by rw [h2]; congr 3; omega⟩
theorem zipT_len : ∀ (l m : List PV), (zipT l m).length = min l.length m.length
  | [], m => by simp [zipT]
  | a :: l, [] => by simp [zipT]
  | a :: l, b :: m => by rw [zipT, List.length_cons, zipT_len l m, List.length_cons, List.length_cons]; omega
theorem zipT_get : ∀ (l m : List PV) (i : Nat) (p : PV), (zipT l m)[i]? = some p → ∃ a b, l[i]? = some a ∧ m[i]? = some b ∧ p = .tup [a, b]
  | [], m, i, p, h => by simp [zipT] at h
  | a :: l, [], i, p, h => by simp [zipT] at h
  | a :: l, b :: m, 0, p, h => by
    simp [zipT] at h
    exact ⟨a, b, rfl, rfl, h.symm⟩
  | a :: l, b :: m, i + 1, p, h => by
    obtain ⟨x, y, h1, h2, h3⟩ := zipT_get l m i p (by simpa [zipT] using h)
    exact ⟨x, y, by simpa using h1, by simpa using h2, h3⟩
theorem pair_new {a b : PV} {x y : V} {p : Addr} (hp : H p = none) (ha : Imm C F H a x) (hb : Imm C F H b y) : Imm C F (upd H p (.tup [x, y])) (.tup [a, b]) (.ref p) := by
  rw [Imm]
  exact ⟨p, [x, y], rfl, .inl (.inl upd_same), Imms.cons_iff.mpr ⟨Imm.mono (mono_new hp) _ _ ha, Imms.cons_iff.mpr ⟨Imm.mono (mono_new hp) _ _ hb, by simp [Imms]⟩⟩⟩
theorem itok_enm {a : Addr} {l : List PV} {q : AS} : ItOk C (Ite C.K a) (enumT 0 l) q (fun F H => ∃ xs, LstS C F H a xs q ∧ Imms C F H l xs) := by
  refine ⟨fun i p F H ⟨xs, h1, h2⟩ e => ?_, fun F H ⟨xs, h1, h2⟩ => ⟨xs, h1.sq, by rw [Imms.length h2, enumT_len]; exact Nat.le_refl _⟩, fun F H F' H' m k ⟨xs, h1, h2⟩ => ⟨xs, h1.stay m k, Imms.mono m _ _ h2⟩⟩
  obtain ⟨b, e1, rfl⟩ := enumT_get _ _ _ _ e
  obtain ⟨x, e2, h3⟩ := h2.get e1
  refine ⟨⟨xs, x, h1.sq, e2⟩, fun y H' hy => ?_⟩
  obtain ⟨T, x', rfl, hT, rfl, hx⟩ := hy
  refine ⟨.inr ⟨T, _, hT, rfl⟩, pair_new hT ?_ (seq_at h2 e1 (hx xs h1.sq))⟩
  rw [Imm, Nat.zero_add]
theorem itok_zip {a b : Addr} {l m : List PV} {q : AS} : ItOk C (Itz C.K a b) (zipT l m) q (fun F H => ∃ xs ys, LstS C F H a xs q ∧ Imms C F H l xs ∧ LstS C F H b ys q ∧ Imms C F H m ys) := by
  refine ⟨fun i p F H ⟨xs, ys, h1, h2, h3, h4⟩ e => ?_, fun F H ⟨xs, ys, h1, h2, h3, h4⟩ => ⟨xs, ys, h1.sq, h3.sq, by rw [Imms.length h2, Imms.length h4, zipT_len]; omega⟩, fun F H F' H' m k ⟨xs, ys, h1, h2, h3, h4⟩ => ⟨xs, ys, h1.stay m k, Imms.mono m _ _ h2, h3.stay m k, Imms.mono m _ _ h4⟩⟩
  obtain ⟨c, d, e1, e2, rfl⟩ := zipT_get _ _ _ _ e
  obtain ⟨x, e3, _⟩ := h2.get e1
  obtain ⟨y, e4, _⟩ := h4.get e2
  refine ⟨⟨xs, ys, x, y, h1.sq, h3.sq, e3, e4⟩, fun z H' hz => ?_⟩
  obtain ⟨T, x', y', rfl, hT, rfl, hx, hy⟩ := hz
  exact ⟨.inr ⟨T, _, hT, rfl⟩, pair_new hT (seq_at h2 e1 (hx xs h1.sq)) (seq_at h4 e2 (hy ys h3.sq))⟩
theorem itok_zipT {a b : Addr} {l m : List PV} {q : AS} : ItOk C (RZ.ItzT C.K a b) (zipT l m) q (fun F H => ∃ xs ys, SqT C.K H a xs ∧ Imms C F H l xs ∧ SqT C.K H b ys ∧ Imms C F H m ys) := by
  have st : ∀ {F H F' H' a xs}, Mono F H F' H' → SqT C.K H a xs → SqT C.K H' a xs := fun m h => by
    rcases h with h | h
    · exact .inl (m.t _ _ h)
    · exact .inr h
  refine ⟨fun i p F H ⟨xs, ys, h1, h2, h3, h4⟩ e => ?_, fun F H ⟨xs, ys, h1, h2, h3, h4⟩ => ⟨xs, ys, h1, h3, by rw [Imms.length h2, Imms.length h4, zipT_len]; omega⟩, fun F H F' H' m k ⟨xs, ys, h1, h2, h3, h4⟩ => ⟨xs, ys, st m h1, Imms.mono m _ _ h2, st m h3, Imms.mono m _ _ h4⟩⟩
  obtain ⟨c, d, e1, e2, rfl⟩ := zipT_get _ _ _ _ e
  obtain ⟨x, e3, _⟩ := h2.get e1
  obtain ⟨y, e4, _⟩ := h4.get e2
  refine ⟨⟨xs, ys, x, y, h1, h3, e3, e4⟩, fun z H' hz => ?_⟩
  obtain ⟨T, x', y', rfl, hT, rfl, hx, hy⟩ := hz
  exact ⟨.inr ⟨T, _, hT, rfl⟩, pair_new hT (seq_at h2 e1 (hx xs h1)) (seq_at h4 e2 (hy ys h3))⟩
/-- what comes of the head of a walk over a list -/
theorem seqOf_lst {ps l : List PV} {hs : List (Nat × PV)} {x : PV × Fl} (hl : x.1 = .lst l) (b : Bh C Xw F fp H σ x r1 u F1 fp1 H1 q) (h : seqOf false x.1 x.2 r1 [] = some (ps, r2, hs)) :
    (∃ (a : Addr) (F2 : AS) (fp2 : FP) (q2 : AS), u = .ref a ∧ Ext F fp H F2 fp2 H1 ∧ Rel C F2 fp2 r2 σ H1 ∧ (∀ i a, q2 a → ¬ fp2 i a) ∧ ∃ xs, LstS C F2 H1 a xs q2 ∧ Imms C F2 H1 ps xs) ∧ hs = [] := by
  obtain ⟨E, R, rv, s, n⟩ := b
  obtain ⟨v, f⟩ := x
  cases hl
  simp only [seqOf] at h
  cases f with
  | own =>
    simp only [Option.some.injEq, Prod.mk.injEq] at h
    obtain ⟨rfl, rfl, rfl⟩ := h
    obtain ⟨a, xs, rfl, h1, i1, h3⟩ := rv
    exact ⟨⟨a, F1, fp1, q, rfl, E, R, fun i b z => s.d i b z, xs, .inl ⟨(h3 a).mpr rfl, h1⟩, i1⟩, rfl⟩
  | frz =>
    simp only [Option.some.injEq, Prod.mk.injEq] at h
    obtain ⟨rfl, rfl, rfl⟩ := h
    have im := rv.1
    simp only [Imm] at im
    obtain ⟨a, xs, rfl, h1, i1⟩ := im
    exact ⟨⟨a, F1, fp1, none1, rfl, E, R, fun _ _ z => z.elim, xs, .inr h1, i1⟩, rfl⟩
  | al j =>
    simp only [Bool.false_eq_true, if_false, Option.map_eq_some_iff, Prod.mk.injEq] at h
    obtain ⟨r3, h, rfl, rfl, rfl⟩ := h
    obtain ⟨_, e, e1, no⟩ := rv
    obtain ⟨F2, fp2, E2, R2, _, _, l', o', e', im⟩ := frz_ok R h
    rw [e] at e'; cases e'
    have im := im u e1
    simp only [Imm] at im
    obtain ⟨a, xs, rfl, h1, i1⟩ := im
    exact ⟨⟨a, F2, fp2, none1, rfl, E.trans E2, R2, fun _ _ z => z.elim, xs, .inr h1, i1⟩, rfl⟩
  | alf j => simp at h
/-- for i, x in enumerate(list) -/
theorem ex_for_enm {e : Expr} {elts : List Expr} {kk : Nat} {p pos2 tpos pos : Pos} {body : List Stmt} {t : Tg} {xi xb : Ex} {sb : List PL.St} (f : Fit C X) (hp : PassesOwn (model X.prog X.w) X.A X.env X.xe) (hc : X.calm = true) (hk : tgK kp t = true)
    (hg0 : Gl X "enumerate") (hm : X.mg "enumerate" = none) (hi : PE X e (tE C Xw (ev T P xi))) (hg : PG X (.Tuple elts kk tpos) (gT X.K t)) (hb : PSs X body (tS C kp Xw (exs T P sb)))
    (h1 : starEach [e] X.env = [(false, eval e X.env)] := by rfl) (hs : ∀ x, foldedSetIterable (.Call (.Name "enumerate" p) [e] [] pos2) X.env x = pure x := by intro _; rfl) :
    PS X (.For (.Tuple elts kk tpos) (.Call (.Name "enumerate" p) [e] [] pos2) body [] pos) (tS C kp Xw (ex T P (.fr t .enm xi xb sb false))) :=
  psW (ps_for hp hc (pi_enum hg0 hm (pa_cons hi pa_nil h1) h1) (f.K ▸ hg) hb hs) fun D σ H q => by
    obtain ⟨F, fp, r, R, g⟩ := q
    rw [ex, PL.iter] at g
    refine ⟨F, fp, r, R, g.bind.bind.mono (fun x r1 g1 F1 fp1 H1 u q E R1 v s n => ?_) fun _ _ z => z.ex⟩
    cases el : x.1 with
    | lst l =>
      simp only [el] at g1
      cases es : seqOf false (.lst l) x.2 r1 [] with
      | none => simp only [es] at g1; exact g1.elim
      | some p =>
        obtain ⟨ps, r2, hs'⟩ := p
        obtain ⟨⟨a, F2, fp2, q2, hu, E2, R2, hq, xs, h2, i1⟩, rfl⟩ := seqOf_lst (Xw := Xw) el ⟨E, R1, v, s, n⟩ (by rw [el]; exact es)
        simp only [es] at g1
        have g1 : Good ((forL (fun x r => (PL.R.of (PL.assign t x .frz r) r).bind fun r _ => exs T P sb r) (enumT 0 ps) r2).bind fun fl r2 => (PL.R.of (unhide [] r2) r2).bind fun r3 _ => .ok fl r3) (OkS C kp F fp H σ D) (OkXS C kp Xw F fp H σ) := g1
        have g2 : Good (forL (fun x r => (PL.R.of (PL.assign t x .frz r) r).bind fun r _ => exs T P sb r) (enumT 0 ps) r2) (OkS C kp F2 fp2 H1 σ D) (OkXS C kp Xw F2 fp2 H1 σ) :=
          g1.bind.mono (fun fl r3 z => OkS.later (D := D) E2 .refl z) fun c r3 z => OkXS.later E2 .refl z
        exact ⟨a, xs, by rw [hu], f.K ▸ h2.sq, f.K ▸ for_rd hk itok_enm R2 ⟨xs, h2, i1⟩ hq g2⟩
    | _ => simp only [el] at g1; exact g1.elim
end
end PL

set_option Elab.async false
set_option linter.all false
set_option maxRecDepth 100000
set_option maxHeartbeats 1000000
namespace PL
open PySem L2 PV PySem.SeqAt PyProof.Rows

section
variable {C : Cn} {kp : Nat → Bool} {Xw : XW} {X : Cx} {F F1 F2 F0 F' : AS} {fp fp1 fp2 fp0 fp' : FP} {r r1 r2 r' : Env} {σ σ' : L2.St} {H H1 H2 H0 H' : Hp} {v : PV} {u : V} {q : AS} {f : Fl} {o : Bool}
/-- a list that is held, weaker than RV: its slot may be frozen by now -/
def RZl (C : Cn) (F : AS) (fp : FP) (H : Hp) (r : Env) (σ : L2.St) (l : List PV) (f : Fl) (u : V) (q : AS) : Prop :=
  match f with
  | .own => Own C F H (.lst l) u q ∧ Sep F fp q
  | .frz => Imm C F H (.lst l) u
  | .al j => (∃ o, get r j = some (.lst l, o)) ∧ σ[j]? = some (some u)
  | .alf _ => False
theorem RZl.of {l : List PV} (hf : ∀ j, f ≠ .alf j) (h : RV C F H r σ (.lst l) f u q) (s : Sep F fp q) : RZl C F fp H r σ l f u q := by
  cases f with
  | own => exact ⟨h, s⟩
  | frz => exact h.1
  | al j => exact ⟨⟨_, h.2.1⟩, h.2.2.1⟩
  | alf j => exact hf j rfl
theorem RZl.carry {l : List PV} (R : Rel C F fp r σ H) (E : Ext F fp H F' fp' H') (k : ∀ j o, f = .al j → get r j = some (.lst l, o) → ∃ o', get r' j = some (.lst l, o')) (h : RZl C F fp H r σ l f u q) : RZl C F' fp' H' r' σ l f u q := by
  cases f with
  | own => exact Own.held R E h.2 h.1
  | frz => exact Imm.mono (E.mono R) _ _ h
  | al j =>
    obtain ⟨⟨o, e⟩, e1⟩ := h
    exact ⟨k j o rfl e, e1⟩
  | alf j => exact h
theorem frzS_get {j i : Nat} {l : List PV} {o : Bool} (h : frzS r j = some r') (e : get r i = some (.lst l, o)) : ∃ o', get r' i = some (.lst l, o') := by
  unfold frzS at h
  split at h
  · rename_i l' o' e'
    cases h
    rw [get_set]
    by_cases c : j = i ∧ j < r.length
    · rw [if_pos c]
      obtain ⟨rfl, _⟩ := c
      rw [e'] at e; cases e
      exact ⟨_, rfl⟩
    · rw [if_neg c]; exact ⟨o, e⟩
  · cases h
theorem RZl.seq {l ps : List PV} {hs : List (Nat × PV)} (R : Rel C F fp r σ H) (h : RZl C F fp H r σ l f u q) (e : seqOf false (.lst l) f r [] = some (ps, r2, hs)) :
    ∃ (a : Addr) (F2 : AS) (fp2 : FP) (q2 : AS) (xs : List V), u = .ref a ∧ Ext F fp H F2 fp2 H ∧ Rel C F2 fp2 r2 σ H ∧ (∀ i a, q2 a → ¬ fp2 i a) ∧ LstS C F2 H a xs q2 ∧ Imms C F2 H ps xs ∧ hs = [] ∧
      (∀ a, q2 a → ∃ o, H a = some o) ∧ ∀ j o m, get r j = some (.lst m, o) → ∃ o', get r2 j = some (.lst m, o') := by
  simp only [seqOf] at e
  cases f with
  | own =>
    simp only [Option.some.injEq, Prod.mk.injEq] at e
    obtain ⟨rfl, rfl, rfl⟩ := e
    obtain ⟨⟨a, xs, rfl, h1, i1, h3⟩, s⟩ := h
    exact ⟨a, F, fp, q, xs, rfl, .refl, R, fun i b z => s.d i b z, .inl ⟨(h3 a).mpr rfl, h1⟩, i1, rfl, fun b z => ⟨.lst xs, (h3 b).mp z ▸ h1⟩, fun j o m z => ⟨o, z⟩⟩
  | frz =>
    simp only [Option.some.injEq, Prod.mk.injEq] at e
    obtain ⟨rfl, rfl, rfl⟩ := e
    have im : Imm C F H (.lst l) u := h
    simp only [Imm] at im
    obtain ⟨a, xs, rfl, h1, i1⟩ := im
    exact ⟨a, F, fp, none1, xs, rfl, .refl, R, fun _ _ z => z.elim, .inr h1, i1, rfl, fun _ z => z.elim, fun j o m z => ⟨o, z⟩⟩
  | al j =>
    simp only [Bool.false_eq_true, if_false, Option.map_eq_some_iff, Prod.mk.injEq] at e
    obtain ⟨r3, hf, rfl, rfl, rfl⟩ := e
    obtain ⟨⟨o, e⟩, e1⟩ := h
    obtain ⟨F2, fp2, E2, R2, _, _, l', o', e', im⟩ := frz_ok R hf
    rw [e] at e'; cases e'
    have im := im u e1
    simp only [Imm] at im
    obtain ⟨a, xs, rfl, h1, i1⟩ := im
    exact ⟨a, F2, fp2, none1, xs, rfl, E2, R2, fun _ _ z => z.elim, .inr h1, i1, rfl, fun _ z => z.elim, fun i o m z => frzS_get hf z⟩
  | alf j => simp at e
variable {T : Tab} {P : Fns}
theorem LstS.or {a : Addr} {xs : List V} {q q' : AS} (m : ∀ a, q a → q' a) (h : LstS C F H a xs q) : LstS C F H a xs q' := by
  rcases h with ⟨h1, h⟩ | h
  · exact .inl ⟨m _ h1, h⟩
  · exact .inr h
theorem tupAt {l : List PV} {a : Addr} {f : Fl} {r : Env} (R : Rel C F fp r σ H) (rv : RV C F H r σ (.tup l) f u q) : ∃ a xs, u = .ref a ∧ SqT C.K H a xs ∧ Imms C F H l xs := (RV.sh R rv).tup
end
end PL

set_option Elab.async false
set_option linter.all false
set_option maxRecDepth 100000
set_option maxHeartbeats 1000000
namespace PL
open PySem L2 PV PySem.SeqAt PyProof.Rows

section
variable {C : Cn} {kp : Nat → Bool} {Xw : XW} {X : Cx} {F F1 F2 F0 F' : AS} {fp fp1 fp2 fp0 fp' : FP} {r r1 r2 r' : Env} {σ σ' : L2.St} {H H1 H2 H0 H' : Hp} {v : PV} {u : V} {q : AS} {f : Fl} {o : Bool}
variable {T : Tab} {P : Fns}
/-- for x, y in zip(a, b) -/
theorem ex_for_zip {e e2 : Expr} {elts : List Expr} {kk : Nat} {p pos2 tpos pos : Pos} {body : List Stmt} {t : Tg} {xi xj : Ex} {sb : List PL.St} (f : Fit C X) (hp : PassesOwn (model X.prog X.w) X.A X.env X.xe) (hc : X.calm = true) (hk : tgK kp t = true)
    (hg0 : Gl X "zip") (hm : X.mg "zip" = none) (hi : PE X e (tE C Xw (ev T P xi))) (hj : PE X e2 (tE C Xw (ev T P xj))) (hg : PG X (.Tuple elts kk tpos) (gT X.K t)) (hb : PSs X body (tS C kp Xw (exs T P sb)))
    (h1 : starEach [e, e2] X.env = (false, eval e X.env) :: starEach [e2] X.env := by rfl) (h2 : starEach [e2] X.env = [(false, eval e2 X.env)] := by rfl) (h3 : (backTo pos2 (starEach [e2] X.env)).any (·.1) = false := by rfl) (hs : ∀ x, foldedSetIterable (.Call (.Name "zip" p) [e, e2] [] pos2) X.env x = pure x := by intro _; rfl) :
    PS X (.For (.Tuple elts kk tpos) (.Call (.Name "zip" p) [e, e2] [] pos2) body [] pos) (tS C kp Xw (ex T P (.fr t .zip xi xj sb false))) :=
  psW (ps_for hp hc (RZ.pi_zipA hg0 hm (pa_cons hi (pa_cons hj pa_nil h2) h1) h1 h3) (f.K ▸ hg) hb hs) fun D σ H q => by
    obtain ⟨F, fp, r, R, g⟩ := q
    rw [ex, PL.iter] at g
    refine ⟨F, fp, r, R, g.bind.bind.mono (fun x r1 g1 F1 fp1 H1 u q E1 R1 v1 s1 n1 => ?_) fun _ _ z => z.ex⟩
    refine ⟨F1, fp1, r1, R1, g1.bind.mono (fun y r2 g2 F2 fp2 H2 w q2 E2 R2 v2 s2 n2 => ?_) fun _ _ z => OkXS.exx E1 z⟩
    obtain ⟨al, g3⟩ := g2.chk
    show ∃ a b xs ys, [u, w] = [.ref a, .ref b] ∧ _
    cases ex1 : x.1 with
    | tup l =>
      cases ey1 : y.1 with
      | tup m =>
        simp only [ex1, ey1] at g3
        have gf : Good (forL (fun x r => (PL.R.of (PL.assign t x .frz r) r).bind fun r _ => exs T P sb r) (zipT l m) r2) (OkS C kp F fp H σ D) (OkXS C kp Xw F fp H σ) :=
          Good.mono (Good.bind (K := OkS C kp F fp H σ D) g3) (fun fl r3 z => z) fun c r3 z => z
        rw [ex1] at v1
        rw [ey1] at v2
        have E12 := E1.trans E2
        have i1 := Imm.mono (E2.mono R1) _ _ ((RV.sh R1 v1).imm rfl)
        have i2 := (RV.sh R2 v2).imm rfl
        simp only [Imm] at i1 i2
        obtain ⟨a, xs, rfl, a1, a2⟩ := i1
        obtain ⟨b, ys, rfl, b1, b2⟩ := i2
        refine ⟨a, b, xs, ys, rfl, .inr ⟨f.K ▸ a1, f.K ▸ b1, f.K ▸ for_rd (q := none1) hk itok_zipT R2 ⟨xs, ys, a1, a2, b1, b2⟩ (fun _ _ z => z.elim) ?_⟩⟩
        exact gf.mono (fun fl r3 z => OkS.later (D := D) E12 .refl z) fun c r3 z => OkXS.later E12 .refl z
      | _ => simp only [ex1, ey1] at g3; exact g3.elim
    | lst l =>
      cases ey1 : y.1 with
      | lst m =>
        simp only [ex1, ey1] at g3
        rw [ex1] at v1 al
        rw [ey1] at v2
        have E12 := E1.trans E2
        cases es : seqOf false (.lst l) x.2 r2 [] with
        | none => simp only [es] at g3; exact g3.elim
        | some p =>
          obtain ⟨ps, r3, hs'⟩ := p
          simp only [es] at g3
          cases es2 : seqOf false (.lst m) y.2 r3 hs' with
          | none => simp only [es2] at g3; exact g3.elim
          | some p2 =>
            obtain ⟨ps2, r4, hs2⟩ := p2
            simp only [es2] at g3
            have nx : ∀ j, x.2 ≠ .alf j := fun j z => by rw [z] at al; simp [okAl, PV.isM] at al
            have z1 : RZl C F2 fp2 H2 r2 σ l x.2 u q := RZl.carry R1 E2 (fun j o ej e => by
              rw [ej] at al
              simp only [okAl, PV.isM, if_true, decide_eq_true_eq] at al
              exact ⟨o, by rw [← al]; exact e⟩) (RZl.of nx v1 s1)
            obtain ⟨a, F3, fp3, q3, xs, rfl, E3, R3, n3, L3, I3, rfl, t3, k3⟩ := z1.seq R2 es
            have ny : ∀ j, y.2 ≠ .alf j := fun j z => by rw [z] at es2; simp [seqOf] at es2
            have z2 : RZl C F3 fp3 H2 r3 σ m y.2 w q2 := RZl.carry R2 E3 (fun j o _ e => k3 j o m e) (RZl.of ny v2 s2)
            obtain ⟨b, F4, fp4, q4, ys, rfl, E4, R4, n4, L4, I4, rfl, t4, k4⟩ := z2.seq R3 es2
            have E14 := (E12.trans E3).trans E4
            have gf : Good (forL (fun x r => (PL.R.of (PL.assign t x .frz r) r).bind fun r _ => exs T P sb r) (zipT ps ps2) r4) (OkS C kp F4 fp4 H2 σ D) (OkXS C kp Xw F4 fp4 H2 σ) :=
              Good.mono (Good.bind (K := OkS C kp F fp H σ D) g3) (fun fl r3 z => OkS.later (D := D) E14 .refl z) fun c r3 z => OkXS.later E14 .refl z
            have L3' : LstS C F4 H2 a xs (fun c => q3 c ∨ q4 c) := (L3.stay (E4.mono R3) fun a o _ e => e).or fun _ z => .inl z
            have L4' : LstS C F4 H2 b ys (fun c => q3 c ∨ q4 c) := L4.or fun _ z => .inr z
            refine ⟨a, b, xs, ys, rfl, .inl ⟨f.K ▸ L3'.sq, f.K ▸ L4'.sq, f.K ▸ for_rd hk itok_zip R4 ⟨xs, ys, L3', Imms.mono (E4.mono R3) _ _ I3, L4', I4⟩ (fun i c z w => ?_) gf⟩⟩
            rcases z with z | z
            · rcases E4.pn i c w with ⟨j, z'⟩ | z'
              · exact n3 j c z z'
              · obtain ⟨o, e⟩ := t3 c z
                rw [e] at z'; cases z'
            · exact n4 i c z w
      | _ => simp only [ex1, ey1] at g3; exact g3.elim
    | _ => simp only [ex1] at g3; exact g3.elim
end
end PL

set_option Elab.async false
set_option linter.all false
set_option maxRecDepth 100000
set_option maxHeartbeats 1000000
namespace PL
open PySem L2 PV PySem.SeqAt PyProof.Rows
open L2H (Hot1 PinOk RoomH cxH)
/-! ### the function that a handler calls -/
/-- what a function promises where the exception p is handled -/
structure FnE (P : Program) (w : World) (K : PySem.W.Frag) (mg : Str → Option Value) (base : Heap) (CX : CXT) (k : Nat) (f : Addr) (fd : FuncData) (ps : List Str) (p : Addr × Obj) (sp : Sp) : Prop where
  len : ∀ ws H Q E, sp ws H Q E → ws.length = ps.length
  go : ∀ (A : Around) (out : List PySem.Env) (s : Shared) (H : Hp) (as : PySem.Args) (zs : List Value) (ws : List V) (Q : VK) (E : XK), RoomH k A → Hot1 A p → PinOk out H s p → Env0 P w K mg base A out s H →
    BindsTo s fd as (ps.zip zs) → Vals ws zs → sp ws H Q E → codeAny (model P w) A (.call (.ref f) as) (CR CX out P w H s Q E) s
theorem fnE_of {CX : CXT} {P : Program} {w : World} {K : PySem.W.Frag} {mg : Str → Option Value} {base : Heap} {k : Nat} {f : Addr} {nm qn : Str} {pr : Arguments} {bd : List Stmt} {sc : Scope} {dV kV doc pm cdv ct oc : Value} {an od : Option Addr}
    {sl : Array (Option Value)} {N ps : List Str} {sp : Sp} {p : Addr × Obj} (lk : K.lookup f = some ⟨oc, od, .func (PySem.W.fnOf nm qn pr bd sc dV kV doc pm an cdv ct), sl⟩) (hcd : PySem.W.codeIn K cdv qn = true) (S : FnScope N ps sc)
    (len : ∀ ws H Q E, sp ws H Q E → ws.length = ps.length)
    (hb : ∀ (A : Around) (out : List PySem.Env) (s : Shared) (H : Hp) (ws : List V) (Q : VK) (E : XK), Hot1 A p → RoomH k (A.deeper (envOfC qn sc s.heap.objs.size f cdv)) → sp ws H Q E →
      ∃ t, PSs (cxH CX P w K mg base N qn sc f cdv A out s H E p) bd t ∧ t { nx := fun _ H' => Q .non H', rt := Q } (L2.start N ws) H) :
    FnE P w K mg base CX (k + 1) f (PySem.W.fnOf nm qn pr bd sc dV kV doc pm an cdv ct) ps p sp :=
  ⟨len, fun A out s H as zs ws Q E hr hot hp e0 bt rv hs => by
    have knd : ∀ y ∈ ps.zip zs, sc.names.lookup y.1 = some .local ∨ (sc.names.lookup y.1 = some .cell ∧ ((cellsFrom (s.heap.objs.size + 1) sc.names []).lookup y.1).isSome = true) := by
      rintro ⟨n, v⟩ hy
      cases S.par n (List.of_mem_zip hy).1 with
      | inl q => exact .inl q
      | inr q => exact .inr ⟨q, PySem.W.cellsFrom_some _ _ _ (.inl q)⟩
    have kx : K.In s.heap := e0.mod.kin.keeps fun b o e => (e0.bs b o e).1
    refine codeAny_call_function hr.depth (kx _ _ lk) rfl S.co S.gen rfl (PySem.W.codeRec_of kx hcd) (bt _ _ _ _ (wpAny_newFunctionEnv_cells S.kind knd fun env he s1 x => ?_))
    subst he
    refine ⟨(e0.mod.nolimit.keeps fun b o e => (e0.bs b o e).1).keeps x.toInCall.keep, codeAny_func ?_⟩
    obtain ⟨t, ht, hq⟩ := hb A out s H ws Q E hot (hr.deeper _) hs
    refine wpAny_mono (ht.run [] s1 (L2.start N ws) H _ (L2H.inv_startH S hp e0 (len _ _ _ _ hs) rv x) hq) (fun fl s' q => ?_) fun e s' q => q
    have fin : ∀ {σ' : L2.St} {H' : Hp} {v : V} {u : Value}, Inv (cxH CX P w K mg base N qn sc f cdv A out s H E p) [] σ' H' s' → RelV v u → Q v H' → CE out P w H s Q u s' := by
      intro σ' H' v u J rv q
      exact ⟨v, H', J.os, J.bare, J.base, J.hok, rv, q⟩
    cases fl with
    | next => obtain ⟨σ', H', J, q⟩ := q; exact fin (v := V.non) (u := Value.none) J rfl q
    | ret u => obtain ⟨v, σ', H', J, rv, q⟩ := q; exact fin J rv q
    | brk => obtain ⟨_, _, _, z⟩ := q; exact z.elim
    | cont => obtain ⟨_, _, _, z⟩ := q; exact z.elim⟩
/-- f(e), where p is handled -/
theorem pe_callE {X : Cx} {CX : CXT} {k : Nat} {f : Addr} {fd : FuncData} {ps : List Str} {sp : Sp} {p : Addr × Obj} {x : Str} {e : Expr} {q pos : Pos} {t : TA} {E : L2.St → XK} (hF : ∀ ws H Q E, sp ws H Q E → FnE X.prog X.w X.K X.mg X.base CX k f fd ps p sp) (hr : RoomH k X.A) (hot : Hot1 X.A p) (hp : p ∈ X.pn) (hg : Gl X x) (hm : X.mg x = some (.ref f)) (hk : PySem.W.keepIn X.K (.ref f) = true) (hb : Binds X.K fd ps [])
    (hx : ∀ σ, PassesAt CX X σ (E σ)) (ha : PA X [e] t) (hdb : (x == ("__debug__" : Str)) = false := by decide) (he : starEach [e] X.env = (false, eval e X.env) :: starEach [] X.env := by rfl) (hpl : (backTo pos (starEach [] X.env)).any (·.1) = false := by rfl) :
    PE X (.Call (.Name x q) [e] [] pos) (tCallS sp E t) :=
  ⟨fun pins s σ H Q I h => wpAny_Call_Name_kw (ld_glob I hg hm (PySem.W.callWith_K (h₀ := X.base) I.ok.mod.kin hk (thn (ha.run pos pins s σ H _ I h) fun us s1 ⟨vs, H1, J, r, z⟩ => ⟨J.kIn, by
    have F := hF _ _ _ _ z
    have P1 := J.pin p (List.mem_append_left _ hp)
    have hl : us.length = ps.length := r.length.symm.trans (F.len _ _ _ _ z)
    have b := hb s1 us J.kIn (by simpa using hl)
    rw [List.append_nil] at b
    have po : PinOk X.stack H1 s1 p := ⟨P1.1, P1.2.1, fun hm => (List.mem_cons.mp (J.stkSub p.1 hm)).elim P1.2.2.1 P1.2.2.2.1, P1.2.2.2.2⟩
    refine wpAny_call (codeAny_mono (F.go X.A X.stack s1 H1 ⟨us, []⟩ us vs Q (E σ) hr hot po J.env0 b r z) fun r s' w => ?_)
    match r with
    | .error e => exact hx σ pins H1 s1 e s' J w
    | .ok (.ret u) => exact J.after w⟩) he hpl) hdb)⟩
/-! ### isinstance of the handled exception -/
theorem cr_isE {X : Cx} {a D : Addr} {oe : Obj} (C : ExcC X.K D) (hp : (a, oe) ∈ X.pn) (hz : L2.Zc (.ref D) none oe) (hf : ∃ vs, oe.data = .fields vs) : CallR X (.builtin "isinstance") (rIsE X.K D a) := by
  intro pins s σ H xs us Q I r ⟨c, cv, b, e1, hcv, e, q⟩
  subst e1
  cases r with
  | cons rx rr => cases rr with
    | cons rt rr =>
      cases rr; cases rx
      rw [hcv _ rt]
      obtain ⟨vs, hv⟩ := hf
      have G : s.heap.get? a = some oe := (I.pin (a, oe) (List.mem_append_left _ hp)).1
      have J : PySem.W.InstAt s.heap a oe D none := by
        cases oe
        obtain ⟨h1, h2⟩ := hz
        cases h1; cases h2; cases hv
        exact ⟨G, rfl, rfl, trivial⟩
      exact PySem.W.kia_one (PySem.W.handS_kitx_exc C.hg C.hk C.hs C.hd C.ha C.hn C.ht C.hm) I.kIn J e (fun z => nomatch z) fun tk => ⟨.bl b, H, I.kept (t' := tk) fun _ _ z => z, rfl, q⟩
/-- the constants with the exception at a -/
def Cn.withE (C : Cn) (a : Addr) : Cn := { C with fnA := fun n => if n = 999 then a else C.fnA n }
section
variable {C : Cn} {kp : Nat → Bool} {Xw : XW} {X : Cx} {F F' F2 : AS} {fp fp' fp2 : FP} {r r' : Env} {σ σ' : L2.St} {H H' H2 : Hp} {v : PV} {u : V} {q : AS} {T : Tab} {P : Fns} {W : WX}
theorem ev_isE {i : Nat} {a D : Addr} {oe : Obj} {x nm : Str} {v : V} {cv : Value} {b : Bool} {p p1 p2 pos : Pos} (hA : C.fnA 999 = a) (E : ExcC X.K D) (hp : (a, oe) ∈ X.pn) (hz : L2.Zc (.ref D) none oe) (hf : ∃ vs, oe.data = .fields vs)
    (hg : Gl X "isinstance") (hm : X.mg "isinstance" = none) (hv : bootBuiltins "isinstance" = some (.builtin "isinstance")) (he : PE X (.Name x p1) (tVar i)) (hc : PE X (.Name nm p2) (L2.tC v)) (hcv : ∀ u, RelV v u → u = cv) (hk : PySem.W.kitOne X.K (.ref D) cv = some b)
    (hs1 : starEach [.Name x p1, .Name nm p2] X.env = (false, eval (.Name x p1) X.env) :: starEach [.Name nm p2] X.env := by rfl) (hs2 : starEach [.Name nm p2] X.env = (false, eval (.Name nm p2) X.env) :: starEach [] X.env := by rfl) (hpl : (backTo pos (starEach [.Name nm p2] X.env)).any (·.1) = false := by rfl) :
    PE X (.Call (.Name "isinstance" p) [.Name x p1, .Name nm p2] [] pos) (tE C Xw (ev T P (.isE i 999 b))) :=
  peW (pe_callB (cr_isE E hp hz hf) hg hm hv (pa_cons he (pa_cons hc pa_nil hs2) hs1) (by decide) (by decide) hs1 hpl) fun σ H Q q => by
    obtain ⟨F, fp, r, R, g⟩ := q
    rw [ev] at g
    split at g
    · rename_i e
      obtain ⟨w, e1, h⟩ := R.sm i _ _ e
      have hw : w = .ref a := by
        rcases h with ⟨_, h⟩ | ⟨h, _⟩
        · have := (Own.imm (v := .fn 999) rfl h).1
          rw [Imm] at this
          rw [this, hA]
        · cases h
      subst hw
      exact ⟨_, e1, v, cv, b, rfl, hcv, hk, OkV.imm R g rfl (.inl rfl) (by rw [Imm])⟩
    · exact g.elim
/-! ### try -/
mutual
theorem imm_cn {C C' : Cn} (hK : C.K = C'.K) : ∀ (v : PV) (u : V), keyT v = true → Imm C F H v u → Imm C' F H v u
  | .non, u, _, h => by simpa [Imm] using h
  | .int i, u, _, h => by simpa [Imm] using h
  | .str s, u, _, h => by simpa [Imm] using h
  | .tup l, u, k, h => by
    rw [keyT] at k
    rw [Imm] at h ⊢
    obtain ⟨a, xs, e, ht, hi⟩ := h
    exact ⟨a, xs, e, hK ▸ ht, imms_cn hK l xs k hi⟩
  | .bl _, u, k, h => by simp [keyT] at k
  | .lst _, u, k, h => by simp [keyT] at k
  | .dct _ _, u, k, h => by simp [keyT] at k
  | .ins _ _ _, u, k, h => by simp [keyT] at k
  | .fn _, u, k, h => by simp [keyT] at k
theorem imms_cn {C C' : Cn} (hK : C.K = C'.K) : ∀ (vs : List PV) (us : List V), keyTs vs = true → Imms C F H vs us → Imms C' F H vs us
  | [], us, _, h => by simpa [Imms] using h
  | v :: vs, us, k, h => by
    rw [keyTs, Bool.and_eq_true] at k
    rw [Imms] at h ⊢
    obtain ⟨u, us', e, h1, h2⟩ := h
    exact ⟨u, us', e, imm_cn hK v u k.1 h1, imms_cn hK vs us' k.2 h2⟩
end
theorem keyT_notM {v : PV} (h : keyT v = true) : v.isM = false := by cases v <;> first | rfl | simp [keyT] at h
theorem rel_hot {i : Nat} {x : Option V} (R : Rel C F' fp' r' σ' H') (E2 : Ext F' (fun _ => none1) H' F2 fp2 H2) (hff : ∀ a, F2 a → ∃ xs, Rd H2 a (.lst xs)) (hn : r'[i]? = some none) : Ext F' fp' H' F2 fp' H2 ∧ Rel C F2 fp' r' (σ'.set i x) H2 := by
  have kp : ∀ a o, H' a = some o → H2 a = some o := fun a o e => E2.keep a o e fun _ z => z
  have E : Ext F' fp' H' F2 fp' H2 := ⟨fun a o e _ => kp a o e, E2.fm, fun a z => by
    rcases E2.fn a z with h | ⟨_, h⟩ | h
    · exact .inl h
    · exact h.elim
    · exact .inr (.inr h), fun j a z => .inl ⟨j, z⟩⟩
  have m := E.mono R
  refine ⟨E, ⟨by rw [List.length_set]; exact R.len, fun j v o e => ?_, R.nn, R.dis, fun j a z f => ?_, hff⟩⟩
  · have ne : i ≠ j := fun z => by
      subst z
      unfold get at e
      rw [hn] at e
      cases e
    obtain ⟨u, e1, h⟩ := R.sm j v o e
    refine ⟨u, by rw [List.getElem?_set_ne ne]; exact e1, ?_⟩
    rcases h with ⟨ho, h⟩ | ⟨ho, h, no⟩
    · exact .inl ⟨ho, h.mono m fun a o _ e => kp a o e⟩
    · exact .inr ⟨ho, Imm.mono m _ _ h, no⟩
  · rcases E2.fn a f with h | ⟨_, h⟩ | h
    · exact R.nof j a z h
    · exact h
    · obtain ⟨o, e, _⟩ := R.mutO z
      rw [h] at e; cases e
/-- what the handler's call promises -/
def spE (C : Cn) (T : Tab) (P : Fns) (c : Nat) (a : Addr) (cls : Value) (d : Option Addr) : Sp := fun us H Q E => ∃ k f', cls = .ref (C.clA k) ∧ d = none ∧ T.wh c k = some f' ∧ spF (C.withE a) P f' us H Q E
/-- try: body except x as n: return f(n) -/
theorem ex_tr {x n fnm : Str} {c i k : Nat} {cv : Value} {body : List Stmt} {np q p1 p2 pos2 pos' pos : Pos} {b : List PL.St} {f : Addr} {fd : FuncData} {ps : List Str} (F0 : Fit C X) (hx : XOk C X Xw W) (hs : X.stack = X.env :: X.outer) (hfr : X.env.frame = some X.env.locals)
    (hN : X.N.Nodup) (hi : X.N[i]? = some n) (hln : X.env.kindOf n = some .local) (hv : ∀ a pn, PE (X.suite a pn) (.Name n p2) (tVar i)) (hc : Names X x cv) (hr : Room k X.A) (hki : kp i = false)
    (hexm : ∀ d f', T.wh c d = some f' → PySem.W.exmOne X.K (.ref (C.clA d)) cv = some true)
    (hF : ∀ d f' a oe, T.wh c d = some f' → L2N.Zn (.ref (C.clA d)) none oe → (∃ vs, oe.data = .fields vs) → FnE X.prog X.w X.K X.mg X.base (L2N.CX X.prog X.w) k f fd ps (a, oe) (spF (C.withE a) P f'))
    (hg : Gl X fnm) (hm : X.mg fnm = some (.ref f)) (hk : PySem.W.keepIn X.K (.ref f) = true) (hb : L2.Binds X.K fd ps [])
    (hbody : ∀ (Xw' : XW) (W' : WX) (pn : List (Addr × Obj)) (xe : Value → Shared → Prop), XOk C (X.tr pn xe) Xw' W' → PassesOwn (model X.prog X.w) X.A X.env xe → PSs (X.tr pn xe) body (tS C kp Xw' (exs T P b)))
    (hdb : (fnm == ("__debug__" : Str)) = false := by decide) (he : ∀ a pn, starEach [Expr.Name n p2] (X.suite a pn).env = (false, eval (.Name n p2) X.env) :: starEach [] X.env := by intros; rfl) (hpl : (backTo p1 (starEach [] X.env)).any (·.1) = false := by rfl) :
    PS X (.Try body [.ExceptHandler (some (.Name x np)) (some n) [.Return (some (.Call (.Name fnm q) [.Name n p2] [] p1)) pos2] pos'] [] [] pos) (tS C kp Xw (ex T P (.tr b c i))) := by
  have sui : ∀ (a : Addr) (oe : Obj) (cls : Value) (d : Option Addr) (pn : List (Addr × Obj)), L2N.Zn cls d oe → (∃ vs, oe.data = .fields vs) →
      PSs (X.suite a ((a, oe) :: pn)) [.Return (some (.Call (.Name fnm q) [.Name n p2] [] p1)) pos2] (tSeq (tRet (tCallS (spE C T P c a cls d) (fun _ _ _ _ => False) (tCons (tVar i) tNil))) tNext) := fun a oe cls d pn hz hfl =>
    pss_cons (ps_ret (pe_callE (X := X.suite a ((a, oe) :: pn)) (p := (a, oe)) (k := k) (CX := L2N.CX X.prog X.w) (f := f) (fd := fd) (ps := ps) (fun ws H Q E ⟨d', f', e1, e2, e3, z⟩ => by
        have F := hF d' f' a oe e3 (by rw [← e1, ← e2]; exact hz) hfl
        exact ⟨fun ws H Q E ⟨d2, f2, g1, g2, g3, z⟩ => ((hF d2 f2 a oe g3 (by rw [← g1, ← g2]; exact hz) hfl).len ws H Q E z), fun A out s H as zs ws Q E h1 h2 h3 h4 h5 h6 ⟨d2, f2, g1, g2, g3, z⟩ =>
          (hF d2 f2 a oe g3 (by rw [← g1, ← g2]; exact hz) hfl).go A out s H as zs ws Q E h1 h2 h3 h4 h5 h6 z⟩)
      (L2H.roomH_of hr |> fun r => ⟨r.dp, r.un⟩) ⟨rfl, by obtain ⟨vs, hv⟩ := hfl; exact ⟨vs, hv, hz.2.2 vs hv⟩⟩ List.mem_cons_self hg hm hk hb (fun σ pins H s e s' _ z => by
        obtain ⟨_, _, _, _, _, _, _, _, _, _, _, _, z⟩ := z
        exact z.elim) (pa_cons (hv a _) pa_nil (he a _)) hdb (he a _) hpl)) pss_nil
  refine psW (L2N.ps_try_as hs hfr hN hi hln hc hx.1 (fun W' pn xe tk po => hbody (fun c r F fp σ H => W' (.ref (C.clA c)) none σ H) W' pn xe ⟨tk, fun _ _ _ _ _ _ h => h⟩ po) sui) fun D σ H h => ?_
  obtain ⟨F, fp, r, R, g⟩ := h
  refine ⟨F, fp, r, R, ?_⟩
  rw [ex] at g
  cases e : exs T P b r with
  | bad => rw [e] at g; exact g
  | ok fl r' => rw [e] at g; exact g
  | exc d r' =>
    rw [e] at g
    simp only at g
    cases e1 : T.wh c d with
    | none => rw [e1] at g; exact g.elim
    | some f' =>
      rw [e1] at g
      simp only at g
      by_cases hn : r'[i]? = some none
      · rw [if_pos hn] at g
        cases e2 : P f' [(.fn 999, true)] with
        | bad => rw [e2] at g; exact g.elim
        | exc _ _ => rw [e2] at g; exact g.elim
        | ok v o bs =>
          rw [e2] at g
          cases o with
          | false => exact g.elim
          | true =>
            simp only at g
            split at g
            · rename_i kt
              intro F' fp' H' σ' E' R' K'
              refine ⟨true, hexm d f' e1, fun _ a ha => ?_, fun z => by cases z⟩
              refine ⟨.ref a, ?_, d, f', rfl, rfl, e1, F', (fun _ => none1), [(.fn 999, true)], ⟨rfl, fun j v o ej => ?_, fun _ _ _ z => z, fun _ _ _ z => z.elim, fun _ _ z => z.elim, R'.ff⟩, ?_⟩
              · have : i < σ'.length := by rw [← R'.len]; exact (List.getElem?_eq_some_iff.mp hn).1
                rw [List.getElem?_set_self this]
              · cases j with
                | zero =>
                  have : get ([(PV.fn 999, true)].map some) 0 = some (.fn 999, true) := rfl
                  rw [this] at ej
                  cases ej
                  exact ⟨.ref a, rfl, .inl ⟨rfl, Imm.own rfl (by rw [Imm]; simp [Cn.withE])⟩⟩
                | succ j => simp [get] at ej
              · rw [e2]
                intro F2 fp2 H2 u qq E2 R2 rv s2 n2
                have hm : v.isM = false := keyT_notM kt
                have im : Imm C F2 H2 v u := imm_cn (C := C.withE a) (C' := C) rfl v u kt (Own.imm hm rv).1
                obtain ⟨E3, R3⟩ := rel_hot (i := i) (x := some (.ref a)) R' E2 R2.ff hn
                exact g F2 fp' H2 _ u none1 (E'.trans E3) R3 (K'.trans (.set hki)) (Imm.own hm im) ⟨fun _ _ z => z.elim, fun _ z => z.elim⟩ fun _ z => z.elim
            · exact g.elim
      · rw [if_neg hn] at g; exact g.elim
end
end PL

set_option Elab.async false
set_option linter.all false
set_option maxRecDepth 100000
set_option maxHeartbeats 1000000
namespace PL
open PySem L2 PV PySem.SeqAt PyProof.Rows
open L2H (Hot1 PinOk RoomH cxH)
section
variable {C : Cn} {kp : Nat → Bool} {Xw : XW} {X : Cx} {F F' F2 : AS} {fp fp' fp2 : FP} {r r' : Env} {σ σ' : L2.St} {H H' H2 : Hp} {v : PV} {u : V} {q : AS} {T : Tab} {P : Fns} {W : WX}
/-! ### what is never asked -/
theorem ev_no {e : Expr} : PE X e (tE C Xw (ev T P (.const (.lst [])))) := ⟨fun pins s σ H Q I h => by
  obtain ⟨F, fp, r, R, g⟩ := h
  rw [ev] at g
  exact g.elim⟩
/-! ### methods of one argument -/
def rM (C : Cn) (op : BOp) : V → List V → Hp → VK → Prop := fun x xs H Q => ∃ y, xs = [y] ∧ rB C op x y H Q
theorem ev_bm {op : BOp} {id Ty : String} {name : Str} {o e : Expr} {apos cpos : Pos} {ea eb : Ex} (pa : PlainAttrs Ty) (slot : PySem.Slot Ty name id) (hty : typeOf (.builtin id) = pure (.type "method_descriptor")) (hm : MtR X id (rM C op))
    (hT : ∀ F H v u, Sh C F H v u → tyM op v = true → tyV X.K Ty u H) (ho : PE X o (tE C Xw (ev T P ea))) (he : PE X e (tE C Xw (ev T P eb)))
    (hbase : attributeBase o name X.env (eval o X.env) = eval o X.env := by rfl)
    (hfew : ((backTo cpos (starEach [e] X.env)).all (fun x => !x.1) && (backToKw cpos (keywordEach [] X.env)).all (fun x => x.1.isSome)
      && decide (([e] : List Expr).length + ([] : List Keyword).length + (if ([] : List Keyword).isEmpty then 0 else 1) < 30)) = true := by rfl)
    (hline : (apos.endLine == cpos.line) = true := by rfl) (hs : starEach [e] X.env = (false, eval e X.env) :: starEach [] X.env := by rfl) :
    PE X (.Call (.Attribute o name apos) [e] [] cpos) (tE C Xw (ev T P (.bm op ea eb))) :=
  peW (pe_bm pa slot hty hm ho (pa_cons he pa_nil hs) hbase hfew hline hs) fun σ H Q h => by
    obtain ⟨F, fp, r, R, g⟩ := tE_first (tE_cast (fun r => by rw [ev]) h)
    refine ⟨F, fp, r, R, g.mono (fun x r1 g1 => ?_) fun _ _ z => z⟩
    intro F1 fp1 H1 u q E R1 v s n
    obtain ⟨F0, fp0, x', r1', F1', fp1', q', b1, g2⟩ := g1 F1 fp1 H1 u q E R1 v s n
    obtain ⟨ty, g2⟩ := g2.chk
    refine ⟨hT _ _ _ _ (RV.sh b1.R b1.v) ty, ?_⟩
    obtain ⟨F, fp, r, R, g⟩ := tE_next b1.R g2
    refine ⟨F, fp, r, R, g.mono (fun y r2 g3 => ?_) fun _ _ z => z⟩
    intro F2 fp2 H2 w q2 E2 R2 v2 s2 n2
    obtain ⟨y', r2', F2', fp2', q2', b2, g4⟩ := g3 F2 fp2 H2 w q2 E2 R2 v2 s2 n2
    obtain ⟨ok, g5⟩ := g4.chk
    simp only [okOp, Bool.and_eq_true, Bool.or_eq_true, decide_eq_true_eq] at ok
    obtain ⟨z, hz, g6⟩ := g5.of
    refine ⟨_, rfl, _, _, _, _, _, _, z, x'.2, b2.R, RV.keep b1.R b1.v b1.s b2.E b2.R ok.1, RV.sh b2.R b2.v, RV.ownK b1.R b1.v b1.s b2.E, ?_, hz, g6⟩
    rcases ok.2 with (h | h) | h
    · exact .inl h
    · exact .inr (.inl h)
    · refine .inr (.inr fun l e => ?_)
      rw [e] at h
      simp [PV.isM] at h
theorem ty_lst (f : Fit C X) {op : BOp} (ho : op = .cnt ∨ op = .idx) : ∀ F H v u, Sh C F H v u → tyM op v = true → tyV X.K "list" u H := fun F H v u sh ty => by
  have : ∃ l, v = .lst l := by rcases ho with rfl | rfl <;> (cases v <;> first | exact ⟨_, rfl⟩ | simp [tyM] at ty)
  obtain ⟨l, rfl⟩ := this
  obtain ⟨a, xs, rfl, h1, _⟩ := sh.lst
  exact .inl ⟨rfl, xs, f.K ▸ h1⟩
theorem mt_cnt (f : Fit C X) (hu : X.A.units + 73 < cLine) : MtR X "list.count" (rM C .cnt) := by
  intro pins s σ' H u xs w us Q I ru rxs h
  obtain ⟨y, rfl, F, fp, r, σ, a, b, z, fl, R, sa, sb, ho, hm, e, g⟩ := h
  obtain ⟨x, rfl, rx⟩ := rxs.one
  rw [fl_own (by decide)] at g
  cases a with
  | lst l =>
    simp only [binop] at e
    obtain ⟨⟨d1, d2, d3, d4⟩, rfl⟩ := datC' e
    obtain ⟨p, ys, rfl, h1, i1⟩ := sa.lst
    cases ru
    obtain ⟨its, rv, pl, _⟩ := I.list (show SqL X.K H p ys from f.K ▸ h1)
    obtain ⟨as, ra⟩ := Imms.reads f I l ys its d2 i1 rv
    obtain ⟨bs, rb⟩ := Sh.reads f I d1 sb rx
    refine count_list_data (vs := its.toArray) pl.isList (by simpa using ra) rb (toDs_plain l) (toD_plain b) (by rw [toD_dep, toDs_dep]; omega) ?_
    refine ⟨.int _, H, I.tok _, ⟨_, rfl⟩, OkV.imm R g rfl (.inl rfl) ?_⟩
    rw [Imm]
    have ec : ∀ l, dats l = true → (toDs l).countP (fun y => PyData.eqv y (toD b)) = l.countP fun x => peq x b := by
      intro l
      induction l with
      | nil => intro _; simp [toDs]
      | cons c l ih =>
        intro d
        rw [dats, Bool.and_eq_true] at d
        have e1 := any_peq (l := [c]) d1 (by simp [dats, d.1])
        simp only [toDs, List.any_cons, List.any_nil, Bool.or_false] at e1
        rw [toDs, List.countP_cons, List.countP_cons, ih d.2, e1]
    rw [ec l d2]
  | _ => simp [binop] at e
theorem mt_idx (f : Fit C X) (hu : X.A.units + 73 < cLine) : MtR X "list.index" (rM C .idx) := by
  intro pins s σ' H u xs w us Q I ru rxs h
  obtain ⟨y, rfl, F, fp, r, σ, a, b, z, fl, R, sa, sb, ho, hm, e, g⟩ := h
  obtain ⟨x, rfl, rx⟩ := rxs.one
  rw [fl_own (by decide)] at g
  cases a with
  | lst l =>
    simp only [binop] at e
    obtain ⟨⟨d1, d2, d3, d4⟩, e⟩ : (dat b = true ∧ dats l = true ∧ dep b ≤ 8 ∧ deps l ≤ 8) ∧ (idxOf l b 0).map (fun (n : Nat) => PV.int (n : Int)) = some z := by
      split at e
      · rename_i h
        simp only [Bool.and_eq_true, decide_eq_true_eq] at h
        exact ⟨⟨h.1.1.1, h.1.1.2, h.1.2, h.2⟩, e⟩
      · cases e
    obtain ⟨j, hj, rfl⟩ := Option.map_eq_some_iff.mp e
    obtain ⟨p, ys, rfl, h1, i1⟩ := sa.lst
    cases ru
    obtain ⟨its, rv, pl, hlen⟩ := I.list (show SqL X.K H p ys from f.K ▸ h1)
    obtain ⟨as, ra⟩ := Imms.reads f I l ys its d2 i1 rv
    obtain ⟨bs, rb⟩ := Sh.reads f I d1 sb rx
    obtain ⟨⟨cls, dd, data, sls⟩, n, hob, hc, hdn, hdt⟩ := pl
    simp only at hc hdt
    subst hc hdt
    have dp : ∀ (l : List PV) (i : Nat), dats l = true → idxOf l b i = some j → ∃ k, j = i + k ∧ dataPlace (toDs l) (toD b) = some k := by
      intro l
      induction l with
      | nil => intro i _ h; simp [idxOf] at h
      | cons c l ih =>
        intro i d h
        rw [dats, Bool.and_eq_true] at d
        have e1 := any_peq (l := [c]) d1 (by simp [dats, d.1])
        simp only [toDs, List.any_cons, List.any_nil, Bool.or_false] at e1
        rw [idxOf] at h
        by_cases hp : peq c b = true
        · rw [if_pos hp] at h; cases h
          refine ⟨0, rfl, ?_⟩
          unfold dataPlace
          rw [toDs, List.findIdx?_cons, e1, hp]; rfl
        · rw [if_neg hp] at h
          obtain ⟨k, e2, e3⟩ := ih (i + 1) d.2 h
          refine ⟨k + 1, by omega, ?_⟩
          unfold dataPlace at e3 ⊢
          rw [toDs, List.findIdx?_cons, e1, (by simpa using hp : peq c b = false), e3]; rfl
    obtain ⟨k, e2, e3⟩ := dp l 0 d2 hj
    rw [Nat.zero_add] at e2; subst e2
    have ra' : ReadsAll s.heap its.toArray.toList (toDs l) as := by simpa using ra
    obtain ⟨hjl, hit, hno⟩ := hit_at ra' (toDs_plain l) e3
    have hz : its.length ≤ sizeLine := by
      have := rv.length
      first | omega | (rw [← this]; exact hlen)
    have hs : (j : Int) < 2 ^ 63 - 1 := by
      have := sizeLine_eq
      have h2 : j < its.length := by simpa using hjl
      omega
    exact call_meets PySem.F.slot_list_index ⟨_, hob, rfl⟩ PySem.F.entry_list_index (PySem.F.args_list_index_2 _ _)
      (list_indexAt p its.toArray n dd sls x (fun u => PyData.eqv (readOf s.heap u) (toD b)) j hjl hs hit hno)
      ⟨hob, items_plain ra' rb (toDs_plain l) (toD_plain b) (by rw [toD_dep, toDs_dep]; omega), ⟨.int (j : Nat), H, I.tok _, ⟨_, rfl⟩, OkV.imm R g rfl (.inl rfl) (by rw [Imm])⟩⟩
  | _ => simp [binop] at e
theorem ty_dct (f : Fit C X) : ∀ F H v u, Sh C F H v u → tyM .get v = true → tyV X.K "dict" u H := fun F H v u sh ty => by
  have : ∃ i ks vs, v = .dct (.int i :: ks) vs := by
    cases v <;> first | (simp [tyM] at ty; done) | skip
    rename_i ks vs
    cases ks with
    | nil => simp [tyM] at ty
    | cons k ks => cases k <;> first | exact ⟨_, _, _, rfl⟩ | simp [tyM] at ty
  obtain ⟨i, ks, vs, rfl⟩ := this
  obtain ⟨d, rfl, hd⟩ := sh
  rcases hd with ⟨es, hd, _⟩ | ⟨es, _, _, _, hk⟩
  · exact .inr (.inr (.inl ⟨rfl, .inl ⟨es, hd⟩⟩))
  · exfalso
    cases vs with
    | nil => simp [KV2] at hk
    | cons v vs =>
      rw [KV2] at hk
      obtain ⟨κ, b, u, x, es', _, _, im, _⟩ := hk
      simp [Imm] at im
theorem mt_get1 (f : Fit C X) (hu : X.A.units + 9 < cLine) : MtR X "dict.get" (rM C .get) := by
  intro pins s σ' H u xs w us Q I ru rxs h
  obtain ⟨y, rfl, F, fp, r, σ, a, b, z, fl, R, sa, sb, ho, hm, e, g⟩ := h
  obtain ⟨x, rfl, rx⟩ := rxs.one
  cases a with
  | dct ks vs =>
    simp only [binop] at e
    split at e
    · rename_i hk
      simp only [Option.some.injEq] at e; subst e
      obtain ⟨d, rfl, hd⟩ := sa
      obtain rfl : w = Value.ref d := ru
      exact pl_get f hu I hd hk (sb.imm (okKey_imm hk)) rx fun w' s' uv I' rv iv => ⟨uv, H, I', rv, OkV.frz R g iv⟩
    · cases e
  | _ => simp [binop] at e
/-! ### the call of a picked function -/
structure Pick (C : Cn) (X : Cx) (P : Fns) (k n : Nat) : Prop where
  ex : ∃ (fd : FuncData) (ps : List Str), FnOk X.prog X.w X.K X.mg X.base (L2N.CX X.prog X.w) k (C.fnA n) fd ps (spF C P n) ∧ L2.Binds X.K fd ps []
  kp : PySem.W.keepIn X.K (.ref (C.fnA n)) = true
theorem ev_cal {k : Nat} {S : List Nat} {fe e : Expr} {es : List Expr} {pos : Pos} {g : Ex} {xs : List Ex} (hx : XOk C X Xw W) (hr : Room k X.A) (hS : ∀ n, S.contains n = true → Pick C X P k n) (hf : PE X fe (tE C Xw (ev T P g))) (ha : PA X (e :: es) (tAr C Xw (evA T P xs)))
    (ht : eval (.Call fe (e :: es) [] pos) X.env = (do callWith pos (← eval fe X.env) [] (backTo pos (starEach (e :: es) X.env)) (backToKw pos (keywordEach [] X.env))) := by rfl)
    (he : starEach (e :: es) X.env = (false, eval e X.env) :: starEach es X.env := by rfl) (hpl : (backTo pos (starEach es X.env)).any (·.1) = false := by rfl) : PE X (.Call fe (e :: es) [] pos) (tE C Xw (ev T P (.cal S g xs))) := by
  refine ⟨fun pins s σ H Q I h => ?_⟩
  have h2 := tE_first (tE_cast (m' := fun r => (ev T P g r).bind fun x r => match x.1 with
    | .fn f => R.chk (S.contains f) ((evA T P xs r).bind fun as r => doCall P f as r)
    | _ => .bad) (fun r => by first | (rw [ev]; done) | (rw [ev]; rfl)) h)
  refine PyProof.Rows.Call_ (thn (hf.run pins s σ H _ I h2) fun u s1 ⟨y, H1, I1, ry, F0, fp0, x, r1, F1, fp1, q, b, gd⟩ => ?_) ht
  obtain ⟨xv, xf⟩ := x
  cases xv with
  | fn n =>
    simp only at gd
    obtain ⟨hn, gd⟩ := gd.chk
    obtain ⟨⟨fd, ps, hF, hb⟩, hk⟩ := hS n hn
    have hy : y = .ref (C.fnA n) := by
      have := (RV.sh b.R b.v).imm (v := .fn n) rfl
      rw [Imm] at this; exact this
    subst hy
    obtain rfl : u = Value.ref (C.fnA n) := ry
    have q2 : tCallS (spF C P n) (WE W) (tAr C Xw (evA T P xs)) σ H1 Q := call_rd hx ⟨F1, fp1, r1, b.R, gd⟩
    refine PySem.W.callWith_K (h₀ := X.base) I1.ok.mod.kin hk (thn (ha.run pos pins s1 σ H1 _ I1 q2) fun us s2 ⟨vs, H2, I2, r, z⟩ => ⟨I2.kIn, ?_⟩) he hpl
    exact run_fnS hF hr hb (fun pins H s e s' I w => L2N.passAt hx.1 σ pins H s e s' I w) I2 r z
  | _ => exact gd.elim
end
/-! ### a step of the handler's function -/
theorem fn_stepE {T : Tab} {C : Cn} {mg : Str → Option Value} {base : Heap} {x qual : Str} {st : Stmt} {fa : Addr} {fd : FuncData} {N ps : List Str} {k n fn : Nat} {d : FD} {p : Addr × Obj} (hT : T.fns fn = some d) (F : Fun C.K x qual st fa fd) (S : FnScope N ps (defScope st)) (hp : ps.length = d.np) (hn : N.length = d.ns)
    (hbody : ∀ (cdv : Value) (A : Around) (outer : List PySem.Env) (s : Shared) (H : Hp) (E : XK) (X : Cx), X = cxH (L2N.CX C.P C.w) C.P C.w C.K mg base N qual (defScope st) fa cdv A outer s H E p → RoomH k X.A →
      PSs X (defBody st) (tS (C.withE p.1) (keepI d) (fun c _ _ _ _ H => E (.ref ((C.withE p.1).clA c)) none H) (exs T (run T n) d.body))) :
    FnE C.P C.w C.K mg base (L2N.CX C.P C.w) (k + 1) fa fd ps p (spF (C.withE p.1) (run T (n + 1)) fn) := by
  obtain ⟨oc, od, kV, doc, pm, an, cdv, ct, osl, rfl, lk, hcd⟩ := F.ex
  exact fnE_of lk hcd S (fun vs H Q E h => (sp_vs hT h).trans hp.symm) fun A outer s H vs Q E hot hr h => ⟨_, hbody cdv A outer s H E _ rfl hr, fn_core hT hp hn h⟩
end PL

set_option Elab.async false
set_option linter.all false
set_option maxRecDepth 100000
set_option maxHeartbeats 1000000
namespace PL
open PySem L2 PV PySem.SeqAt PyProof.Rows
open L2H (Hot1 PinOk RoomH cxH)
section
variable {C : Cn} {kp : Nat → Bool} {Xw : XW} {X : Cx} {F F1 F2 F0 F' : AS} {fp fp1 fp2 fp0 fp' : FP} {r r1 r2 r' : Env} {σ σ' : L2.St} {H H1 H2 H0 H' : Hp} {v : PV} {u : V} {q : AS} {T : Tab} {P : Fns} {W : WX}
theorem comp_enm {t : Tg} {elt xa xb : Ex} {cs : List Ex} {own : List Nat} {Q : VK} (f : Fit C X) (hk : tgK (fun i => !own.contains i) t = true) (g0 : tE C Xw (ev T P (.comp elt t .enm xa xb cs own false)) σ H Q) :
    tLc (iEnum X.K (tCons (tE C Xw (ev T P xa)) tNil)) (gT X.K t) (tT C XF (tests T P cs)) (tE C XF (ev T P elt)) own σ H Q := by
  obtain ⟨F, fp, r, R, g⟩ := g0
  rw [ev, PL.iter] at g
  refine ⟨F, fp, r, R, g.bind.bind.mono (fun x r1 g1 F1 fp1 H1 u q E R1 v s n => ?_) fun _ _ z => z⟩
  cases el : x.1 with
  | lst l =>
    simp only [el] at g1
    cases es : seqOf false (.lst l) x.2 r1 [] with
    | none => simp only [es] at g1; exact g1.elim
    | some p =>
      obtain ⟨ps, r2, hs'⟩ := p
      obtain ⟨⟨a, F2, fp2, q2, hu, E2, R2, hq, xs, h2, i1⟩, rfl⟩ := seqOf_lst (Xw := Xw) el ⟨E, R1, v, s, n⟩ (by rw [el]; exact es)
      simp only [es] at g1
      have g1 : Good (PL.R.chk (decide ((enumT 0 ps).length ≤ line)) ((compL (turnC T P elt t cs own) (enumT 0 ps) [] (wipeS own r2)).bind fun ys r3 => (PL.R.of (unhide [] (backS r2 own r3)) r3).bind fun r4 _ => PL.R.ok (PV.lst ys, Fl.own) r4)) (OkV C F fp H σ Q) (OkX C Xw F fp H σ) := g1
      obtain ⟨hl, g2⟩ := g1.chk
      refine ⟨a, xs, by rw [hu], f.K ▸ h2.sq, ?_⟩
      rw [← f.K]
      exact comp_core (r1h := r2) (hs := []) hk itok_enm R2 ⟨xs, h2, i1⟩ (fun i c z w => hq i c z w.2) (fun _ z => nomatch z) rfl (fun j => by simp) E2 (by simpa using hl) g2
  | _ => simp only [el] at g1; exact g1.elim
theorem comp_zip {t : Tg} {elt xa xb : Ex} {cs : List Ex} {own : List Nat} {Q : VK} (f : Fit C X) (hk : tgK (fun i => !own.contains i) t = true) (g0 : tE C Xw (ev T P (.comp elt t .zip xa xb cs own false)) σ H Q) :
    tLc (RZ.iZipA X.K (tCons (tE C Xw (ev T P xa)) (tCons (tE C Xw (ev T P xb)) tNil))) (gT X.K t) (tT C XF (tests T P cs)) (tE C XF (ev T P elt)) own σ H Q := by
  obtain ⟨F, fp, r, R, g⟩ := g0
  rw [ev, PL.iter] at g
  refine ⟨F, fp, r, R, g.bind.bind.mono (fun x r1 g1 F1 fp1 H1 u q E1 R1 v1 s1 n1 => ?_) fun _ _ z => z⟩
  refine ⟨F1, fp1, r1, R1, g1.bind.mono (fun y r2 g2 F2 fp2 H2 w q2 E2 R2 v2 s2 n2 => ?_) fun _ _ z => z.later E1⟩
  obtain ⟨al, g3⟩ := g2.chk
  show ∃ a b xs ys, [u, w] = [.ref a, .ref b] ∧ _
  cases ex1 : x.1 with
  | tup l =>
    cases ey1 : y.1 with
    | tup m =>
      simp only [ex1, ey1] at g3
      have g3 : Good (PL.R.chk (decide ((zipT l m).length ≤ line)) ((compL (turnC T P elt t cs own) (zipT l m) [] (wipeS own r2)).bind fun ys r3 => (PL.R.of (unhide [] (backS r2 own r3)) r3).bind fun r4 _ => PL.R.ok (PV.lst ys, Fl.own) r4)) (OkV C F fp H σ Q) (OkX C Xw F fp H σ) := g3
      obtain ⟨hl, g4⟩ := g3.chk
      rw [ex1] at v1
      rw [ey1] at v2
      have i1 := Imm.mono (E2.mono R1) _ _ ((RV.sh R1 v1).imm rfl)
      have i2 := (RV.sh R2 v2).imm rfl
      simp only [Imm] at i1 i2
      obtain ⟨a, xs, rfl, a1, a2⟩ := i1
      obtain ⟨b, ys, rfl, b1, b2⟩ := i2
      refine ⟨a, b, xs, ys, rfl, .inr ⟨f.K ▸ a1, f.K ▸ b1, ?_⟩⟩
      rw [← f.K]
      exact comp_core (q := none1) (r1h := r2) (hs := []) hk itok_zipT R2 ⟨xs, ys, a1, a2, b1, b2⟩ (fun _ _ z => z.elim) (fun _ z => nomatch z) rfl (fun j => by simp) (E1.trans E2) (by simpa using hl) g4
    | _ => simp only [ex1, ey1] at g3; exact g3.elim
  | lst l =>
    cases ey1 : y.1 with
    | lst m =>
      simp only [ex1, ey1] at g3
      rw [ex1] at v1 al
      rw [ey1] at v2
      have E12 := E1.trans E2
      cases es : seqOf false (.lst l) x.2 r2 [] with
      | none => simp only [es] at g3; exact g3.elim
      | some p =>
        obtain ⟨ps, r3, hs'⟩ := p
        simp only [es] at g3
        cases es2 : seqOf false (.lst m) y.2 r3 hs' with
        | none => simp only [es2] at g3; exact g3.elim
        | some p2 =>
          obtain ⟨ps2, r4, hs2⟩ := p2
          simp only [es2] at g3
          have nx : ∀ j, x.2 ≠ .alf j := fun j z => by rw [z] at al; simp [okAl, PV.isM] at al
          have z1 : RZl C F2 fp2 H2 r2 σ l x.2 u q := RZl.carry R1 E2 (fun j o ej e => by
            rw [ej] at al
            simp only [okAl, PV.isM, if_true, decide_eq_true_eq] at al
            exact ⟨o, by rw [← al]; exact e⟩) (RZl.of nx v1 s1)
          obtain ⟨a, F3, fp3, q3, xs, rfl, E3, R3, n3, L3, I3, rfl, t3, k3⟩ := z1.seq R2 es
          have ny : ∀ j, y.2 ≠ .alf j := fun j z => by rw [z] at es2; simp [seqOf] at es2
          have z2 : RZl C F3 fp3 H2 r3 σ m y.2 w q2 := RZl.carry R2 E3 (fun j o _ e => k3 j o m e) (RZl.of ny v2 s2)
          obtain ⟨b, F4, fp4, q4, ys, rfl, E4, R4, n4, L4, I4, rfl, t4, k4⟩ := z2.seq R3 es2
          have g3 : Good (PL.R.chk (decide ((zipT ps ps2).length ≤ line)) ((compL (turnC T P elt t cs own) (zipT ps ps2) [] (wipeS own r4)).bind fun ys r5 => (PL.R.of (unhide [] (backS r4 own r5)) r5).bind fun r6 _ => PL.R.ok (PV.lst ys, Fl.own) r6)) (OkV C F fp H σ Q) (OkX C Xw F fp H σ) := g3
          obtain ⟨hl, g4⟩ := g3.chk
          have L3' : LstS C F4 H2 a xs (fun c => q3 c ∨ q4 c) := (L3.stay (E4.mono R3) fun a o _ e => e).or fun _ z => .inl z
          have L4' : LstS C F4 H2 b ys (fun c => q3 c ∨ q4 c) := L4.or fun _ z => .inr z
          refine ⟨a, b, xs, ys, rfl, .inl ⟨f.K ▸ L3'.sq, f.K ▸ L4'.sq, ?_⟩⟩
          rw [← f.K]
          refine comp_core (r1h := r4) (hs := []) hk itok_zip R4 ⟨xs, ys, L3', Imms.mono (E4.mono R3) _ _ I3, L4', I4⟩ (fun i c z w => ?_) (fun _ z => nomatch z) rfl (fun j => by simp) ((E12.trans E3).trans E4) (by simpa using hl) g4
          rcases z with z | z
          · rcases E4.pn i c w.2 with ⟨j, z'⟩ | z'
            · exact n3 j c z z'
            · obtain ⟨o, e⟩ := t3 c z
              rw [e] at z'; cases z'
          · exact n4 i c z w.2
    | _ => simp only [ex1, ey1] at g3; exact g3.elim
  | _ => simp only [ex1] at g3; exact g3.elim
theorem ev_comp_enm {elt e : Expr} {elts : List Expr} {kk : Nat} {tpos p pos2 pos : Pos} {ifs : List Expr} {scope : Scope} {own : List (Str × Nat)} {t : Tg} {xe xa xb : Ex} {cs : List Ex} (f : Fit C X) (hc : X.calm = true) (hN : X.N.Nodup) (ok : BlkOk X.N X.env.scope scope own) (hk : tgK (fun i => !(own.map (·.2)).contains i) t = true)
    (hg' : Gl X "enumerate") (hm : X.mg "enumerate" = none) (hi : PE X e (tE C Xw (ev T P xa)))
    (hg : ∀ (s : Shared) (H : Hp) (D : Addr) (cl : List (Str × Addr)) (fp : List Addr), PG (X.blk s H scope (compEnvC scope cl D X.env) fp) (.Tuple elts kk tpos) (gT X.K t)) (ht : ∀ (s : Shared) (H : Hp) (D : Addr) (cl : List (Str × Addr)) (fp : List Addr), PTs (X.blk s H scope (compEnvC scope cl D X.env) fp) ifs (tT C XF (tests T P cs)))
    (he : ∀ (s : Shared) (H : Hp) (D : Addr) (cl : List (Str × Addr)) (fp : List Addr), PE (X.blk s H scope (compEnvC scope cl D X.env) fp) elt (tE C XF (ev T P xe))) (hs1 : starEach [e] X.env = [(false, eval e X.env)] := by rfl) (hs : ∀ x, foldedSetIterable (.Call (.Name "enumerate" p) [e] [] pos2) X.env x = pure x := by intro _; rfl) :
    PE X (.ListComp elt [⟨.Tuple elts kk tpos, .Call (.Name "enumerate" p) [e] [] pos2, ifs, 0⟩] scope pos) (tE C Xw (ev T P (.comp xe t .enm xa xb cs (own.map (·.2)) false))) :=
  peW (pe_lc hc hN (pi_enum hg' hm (pa_cons hi pa_nil hs1) hs1) ok hg ht he hs) fun _ _ _ q => comp_enm f hk q
theorem ev_comp_zip {elt e e2 : Expr} {elts : List Expr} {kk : Nat} {tpos p pos2 pos : Pos} {ifs : List Expr} {scope : Scope} {own : List (Str × Nat)} {t : Tg} {xe xa xb : Ex} {cs : List Ex} (f : Fit C X) (hc : X.calm = true) (hN : X.N.Nodup) (ok : BlkOk X.N X.env.scope scope own) (hk : tgK (fun i => !(own.map (·.2)).contains i) t = true)
    (hg' : Gl X "zip") (hm : X.mg "zip" = none) (hi : PE X e (tE C Xw (ev T P xa))) (hj : PE X e2 (tE C Xw (ev T P xb)))
    (hg : ∀ (s : Shared) (H : Hp) (D : Addr) (cl : List (Str × Addr)) (fp : List Addr), PG (X.blk s H scope (compEnvC scope cl D X.env) fp) (.Tuple elts kk tpos) (gT X.K t)) (ht : ∀ (s : Shared) (H : Hp) (D : Addr) (cl : List (Str × Addr)) (fp : List Addr), PTs (X.blk s H scope (compEnvC scope cl D X.env) fp) ifs (tT C XF (tests T P cs)))
    (he : ∀ (s : Shared) (H : Hp) (D : Addr) (cl : List (Str × Addr)) (fp : List Addr), PE (X.blk s H scope (compEnvC scope cl D X.env) fp) elt (tE C XF (ev T P xe))) (h1 : starEach [e, e2] X.env = (false, eval e X.env) :: starEach [e2] X.env := by rfl) (h2 : starEach [e2] X.env = [(false, eval e2 X.env)] := by rfl) (h3 : (backTo pos2 (starEach [e2] X.env)).any (·.1) = false := by rfl) (hs : ∀ x, foldedSetIterable (.Call (.Name "zip" p) [e, e2] [] pos2) X.env x = pure x := by intro _; rfl) :
    PE X (.ListComp elt [⟨.Tuple elts kk tpos, .Call (.Name "zip" p) [e, e2] [] pos2, ifs, 0⟩] scope pos) (tE C Xw (ev T P (.comp xe t .zip xa xb cs (own.map (·.2)) false))) :=
  peW (pe_lc hc hN (RZ.pi_zipA hg' hm (pa_cons hi (pa_cons hj pa_nil h2) h1) h1 h3) ok hg ht he hs) fun _ _ _ q => comp_zip f hk q
theorem ex_lc_enm {i : Nat} {y : Str} {py spos : Pos} {elt e : Expr} {elts : List Expr} {kk : Nat} {tpos p pos2 pos : Pos} {ifs : List Expr} {scope : Scope} {own : List (Str × Nat)} {t : Tg} {xe xa xb : Ex} {cs : List Ex} (hki : kp i = false) (hy : X.N[i]? = some y) (hyl : X.env.scope.names.lookup y = some .local)
    (hsw : swapsWith (.ListComp elt [⟨.Tuple elts kk tpos, .Call (.Name "enumerate" p) [e] [] pos2, ifs, 0⟩] scope pos) (some (.Name y py)) spos.line X.env = pure true) (f : Fit C X) (hc : X.calm = true) (hN : X.N.Nodup) (ok : BlkOk X.N X.env.scope scope own) (hk : tgK (fun i => !(own.map (·.2)).contains i) t = true)
    (hg' : Gl X "enumerate") (hm : X.mg "enumerate" = none) (hi : PE X e (tE C Xw (ev T P xa)))
    (hg : ∀ (s : Shared) (H : Hp) (D : Addr) (cl : List (Str × Addr)) (fp : List Addr), PG (X.blk s H scope (compEnvC scope cl D X.env) fp) (.Tuple elts kk tpos) (gT X.K t)) (ht : ∀ (s : Shared) (H : Hp) (D : Addr) (cl : List (Str × Addr)) (fp : List Addr), PTs (X.blk s H scope (compEnvC scope cl D X.env) fp) ifs (tT C XF (tests T P cs)))
    (he : ∀ (s : Shared) (H : Hp) (D : Addr) (cl : List (Str × Addr)) (fp : List Addr), PE (X.blk s H scope (compEnvC scope cl D X.env) fp) elt (tE C XF (ev T P xe))) (hs1 : starEach [e] X.env = [(false, eval e X.env)] := by rfl) (hs : ∀ x, foldedSetIterable (.Call (.Name "enumerate" p) [e] [] pos2) X.env x = pure x := by intro _; rfl) :
    PS X (.Assign [.Name y py] (.ListComp elt [⟨.Tuple elts kk tpos, .Call (.Name "enumerate" p) [e] [] pos2, ifs, 0⟩] scope pos) spos) (tS C kp Xw (ex T P (.asg (.nm i) (.comp xe t .enm xa xb cs (own.map (·.2)) false)))) :=
  psW (ps_setLc hc hN hy hyl hsw (pi_enum hg' hm (pa_cons hi pa_nil hs1) hs1) ok hg ht he hs) fun D σ H q => by
    have := asg_rd (t := .nm i) (by rw [tgK, hki]; rfl) q
    rw [gT] at this
    exact comp_enm f hk this
theorem ex_lc_zip {i : Nat} {y : Str} {py spos : Pos} {elt e e2 : Expr} {elts : List Expr} {kk : Nat} {tpos p pos2 pos : Pos} {ifs : List Expr} {scope : Scope} {own : List (Str × Nat)} {t : Tg} {xe xa xb : Ex} {cs : List Ex} (hki : kp i = false) (hy : X.N[i]? = some y) (hyl : X.env.scope.names.lookup y = some .local)
    (hsw : swapsWith (.ListComp elt [⟨.Tuple elts kk tpos, .Call (.Name "zip" p) [e, e2] [] pos2, ifs, 0⟩] scope pos) (some (.Name y py)) spos.line X.env = pure true) (f : Fit C X) (hc : X.calm = true) (hN : X.N.Nodup) (ok : BlkOk X.N X.env.scope scope own) (hk : tgK (fun i => !(own.map (·.2)).contains i) t = true)
    (hg' : Gl X "zip") (hm : X.mg "zip" = none) (hi : PE X e (tE C Xw (ev T P xa))) (hj : PE X e2 (tE C Xw (ev T P xb)))
    (hg : ∀ (s : Shared) (H : Hp) (D : Addr) (cl : List (Str × Addr)) (fp : List Addr), PG (X.blk s H scope (compEnvC scope cl D X.env) fp) (.Tuple elts kk tpos) (gT X.K t)) (ht : ∀ (s : Shared) (H : Hp) (D : Addr) (cl : List (Str × Addr)) (fp : List Addr), PTs (X.blk s H scope (compEnvC scope cl D X.env) fp) ifs (tT C XF (tests T P cs)))
    (he : ∀ (s : Shared) (H : Hp) (D : Addr) (cl : List (Str × Addr)) (fp : List Addr), PE (X.blk s H scope (compEnvC scope cl D X.env) fp) elt (tE C XF (ev T P xe))) (h1 : starEach [e, e2] X.env = (false, eval e X.env) :: starEach [e2] X.env := by rfl) (h2 : starEach [e2] X.env = [(false, eval e2 X.env)] := by rfl) (h3 : (backTo pos2 (starEach [e2] X.env)).any (·.1) = false := by rfl) (hs : ∀ x, foldedSetIterable (.Call (.Name "zip" p) [e, e2] [] pos2) X.env x = pure x := by intro _; rfl) :
    PS X (.Assign [.Name y py] (.ListComp elt [⟨.Tuple elts kk tpos, .Call (.Name "zip" p) [e, e2] [] pos2, ifs, 0⟩] scope pos) spos) (tS C kp Xw (ex T P (.asg (.nm i) (.comp xe t .zip xa xb cs (own.map (·.2)) false)))) :=
  psW (ps_setLc hc hN hy hyl hsw (RZ.pi_zipA hg' hm (pa_cons hi (pa_cons hj pa_nil h2) h1) h1 h3) ok hg ht he hs) fun D σ H q => by
    have := asg_rd (t := .nm i) (by rw [tgK, hki]; rfl) q
    rw [gT] at this
    exact comp_zip f hk this
/-- a list turned round -/
theorem ev_rev {e : Expr} {k : Nat} {p1 p2 p3 pos : Pos} {xa : Ex} (f : Fit C X) (he : PE X e (tE C Xw (ev T P xa))) : PE X (.Subscript e (.Slice none none (some (.UnaryOp .USub (.Constant (.int 1) k p1) p2)) p3) pos) (tE C Xw (ev T P (.rev xa))) :=
  peW (pe_revL he) fun σ H Q h => by
    obtain ⟨F, fp, r, R, g⟩ := h
    rw [ev] at g
    refine ⟨F, fp, r, R, g.bind.mono (fun x r1 g1 F1 fp1 H1 u q E R1 v s n => ?_) fun _ _ z => z⟩
    obtain ⟨x, xf⟩ := x
    cases x with
    | lst l =>
      obtain ⟨a, xs, rfl, h1, i1⟩ := (RV.sh R1 v).lst
      refine ⟨a, xs, rfl, f.K ▸ h1, fun p np => ?_⟩
      exact OkV.newLst R1 (OkV.later E g1) (by
        have : ∀ (l : List PV) (xs : List V), Imms C F1 H1 l xs → Imms C F1 H1 l.reverse xs.reverse := fun l => by
          induction l with
          | nil => intro xs h; rw [Imms] at h; subst h; simp [Imms]
          | cons y l ih =>
            intro xs h
            rw [Imms] at h
            obtain ⟨w, ws, rfl, h1, h2⟩ := h
            rw [List.reverse_cons, List.reverse_cons]
            exact (ih ws h2).append (by rw [Imms]; exact ⟨w, [], rfl, h1, by rw [Imms]⟩)
        exact this l xs i1) np
    | _ => exact g1.elim
theorem pick_nil {k : Nat} : ∀ n, ([] : List Nat).contains n = true → Pick C X P k n := fun n h => by simp at h
theorem pick_cons {k m : Nat} {S : List Nat} (h : Pick C X P k m) (t : ∀ n, S.contains n = true → Pick C X P k n) : ∀ n, (m :: S).contains n = true → Pick C X P k n := fun n e => by
  rw [List.contains_cons, Bool.or_eq_true] at e
  rcases e with e | e
  · rw [eq_of_beq e]; exact h
  · exact t n e
end
theorem fnE_zero {C : Cn} {mg : Str → Option Value} {base : Heap} {T : Tab} {k i : Nat} {f : Addr} {fd : FuncData} {ps : List Str} {p : Addr × Obj} {C' : Cn} : FnE C.P C.w C.K mg base (L2N.CX C.P C.w) k f fd ps p (spF C' (run T 0) i) :=
  ⟨fun _ _ _ _ ⟨_, _, _, _, h⟩ => h.elim, fun _ _ _ _ _ _ _ _ _ _ _ _ _ _ _ ⟨_, _, _, _, h⟩ => h.elim⟩
theorem hu9 {k : Nat} {A : Around} (h : Room k A) : A.units + 9 < cLine := by have := h.un; omega
theorem hh73 {k : Nat} {A : Around} (h : RoomH k A) : A.units + 73 < cLine := by have := h.un; omega
theorem hh64 {k : Nat} {A : Around} (h : RoomH k A) : A.units + 64 < cLine := by have := h.un; omega
theorem ko_get {K : PySem.W.Frag} {v : Value} {l : List Addr} {bs : List (Option Bool)} (j : Nat) {a : Addr} {b : Option Bool} (h : l.map (fun c => PySem.W.kitOne K v (.ref c)) = bs) (hj : l[j]? = some a ∧ bs[j]? = some b) : PySem.W.kitOne K v (.ref a) = b := by
  have := congrArg (fun z => z[j]?) h
  simp only [List.getElem?_map, hj.1, hj.2, Option.map_some, Option.some.injEq] at this
  exact this
end PL

set_option linter.all false
namespace PL
open PV
def d_is_whole : FD := ⟨3, 3, [], [.ret (.and (.isin (.var 0) .int) (.and (.nt (.isin (.var 0) .bool)) (.ch .le .le (.var 1) (.var 0) (.var 2))))]⟩
def d_is_tie : FD := ⟨2, 2, [], [.ife (.or (.nt (.isin (.var 0) .tuple)) (.or (.bin .ne (.b1 .len (.var 0)) (.const (.int 2))) (.nt (.call 0 [.ix (.var 0) (.const (.int 1)), .const (.int 1), .bin .sub (.var 1) (.const (.int 1))])))) [.ret (.const (.bl false))] [], .ret (.call 0 [.ix (.var 0) (.const (.int 0)), .const (.int 0), .bin .sub (.ix (.var 0) (.const (.int 1))) (.const (.int 1))])]⟩
def d_is_web : FD := ⟨1, 2, [], [.ife (.or (.nt (.isin (.var 0) .tuple)) (.or (.bin .ne (.b1 .len (.var 0)) (.const (.int 2))) (.nt (.call 0 [.ix (.var 0) (.const (.int 0)), .const (.int 1), .const (.int 8)])))) [.ret (.const (.bl false))] [], .ife (.or (.nt (.isin (.ix (.var 0) (.const (.int 1))) .tuple)) (.nt (.b1 .all (.comp (.call 1 [.var 1, .ix (.var 0) (.const (.int 0))]) (.nm 1) .seq (.ix (.var 0) (.const (.int 1))) (.const .non) [] [1] false)))) [.ret (.const (.bl false))] [], .ret (.bin .eq (.b1 .list (.ix (.var 0) (.const (.int 1)))) (.b1 .sset (.ix (.var 0) (.const (.int 1)))))]⟩
def d_need_web : FD := ⟨1, 1, [], [.ife (.nt (.call 2 [.var 0])) [.rse 0] []]⟩
def d_are_places : FD := ⟨2, 3, [], [.ife (.or (.nt (.isin (.var 1) .tuple)) (.nt (.b1 .all (.comp (.call 0 [.var 2, .const (.int 0), .bin .sub (.ix (.var 0) (.const (.int 0))) (.const (.int 1))]) (.nm 2) .seq (.var 1) (.const .non) [] [2] true)))) [.ret (.const (.bl false))] [], .ret (.bin .eq (.b1 .list (.var 1)) (.b1 .sset (.var 1)))]⟩
def d_need_places : FD := ⟨2, 2, [], [.ife (.nt (.call 4 [.var 0, .var 1])) [.rse 3] []]⟩
def d_beside : FD := ⟨2, 4, [], [.ret (.comp (.bin .sub (.bin .add (.var 2) (.var 3)) (.var 1)) (.tp [.nm 2, .nm 3]) .seq (.ix (.var 0) (.const (.int 1))) (.const .non) [.bin .inn (.var 1) (.tupd [.var 2, .var 3])] [2, 3] false)]⟩
def d_piece_of : FD := ⟨3, 7, [], [.asg (.nm 3) (.dct1 (.var 2) (.const (.bl true))), .asg (.nm 4) (.lstd [.var 2]), .whl (.bin .ne (.var 4) (.lstd [])) [.asg (.nm 5) (.pop 4), .fr (.nm 6) .seq (.call 6 [.var 0, .var 5]) (.const .non) [.ife (.and (.bin .inn (.var 6) (.var 1)) (.bin .nin (.var 6) (.var 3))) [.sti 3 (.var 6) (.const (.bl true)), .exp (.app 4 (.var 6))] []] false], .ret (.b1 .tuple (.b1 .sorted (.b1 .list (.var 3))))]⟩
def d_pieces_in : FD := ⟨2, 6, [], [.asg (.nm 2) (.lstd []), .asg (.nm 3) (.b1 .list (.var 1)), .whl (.bin .ne (.var 3) (.lstd [])) [.asg (.nm 4) (.call 7 [.var 0, .var 1, .ix (.var 3) (.const (.int 0))]), .exp (.app 2 (.var 4)), .asg (.nm 3) (.comp (.var 5) (.nm 5) .seq (.var 3) (.const .non) [.bin .nin (.var 5) (.var 4)] [5] true)], .ret (.var 2)]⟩
def d_pieces : FD := ⟨2, 2, [], [.exp (.call 3 [.var 0]), .exp (.call 5 [.var 0, .var 1]), .ret (.call 8 [.var 0, .var 1])]⟩
def d_without : FD := ⟨2, 3, [], [.ret (.b1 .tuple (.comp (.var 2) (.nm 2) .seq (.var 0) (.const .non) [.bin .ne (.var 2) (.var 1)] [2] true))]⟩
def d_above : FD := ⟨2, 4, [], [.asg (.nm 2) (.lstd []), .asg (.nm 3) (.ix (.var 0) (.var 1)), .whl (.isN true (.var 3)) [.exp (.app 2 (.var 3)), .asg (.nm 3) (.ix (.var 0) (.var 3))], .ret (.var 2)]⟩
def d_is_bare_tree : FD := ⟨2, 6, [], [.ife (.or (.nt (.isin (.var 1) .tuple)) (.bin .ne (.b1 .len (.var 1)) (.ix (.var 0) (.const (.int 0))))) [.ret (.const (.bl false))] [], .ife (.nt (.b1 .all (.comp (.or (.isN false (.var 5)) (.call 0 [.var 5, .const (.int 0), .bin .sub (.ix (.var 0) (.const (.int 0))) (.const (.int 1))])) (.nm 5) .seq (.var 1) (.const .non) [] [5] true))) [.ret (.const (.bl false))] [], .fr (.nm 2) .rng (.const (.int 0)) (.ix (.var 0) (.const (.int 0))) [.asg (.nm 3) (.var 2), .fr (.nm 4) .rng (.const (.int 0)) (.ix (.var 0) (.const (.int 0))) [.ife (.isN true (.var 3)) [.asg (.nm 3) (.ix (.var 1) (.var 3))] []] false, .ife (.isN true (.var 3)) [.ret (.const (.bl false))] []] false, .ret (.const (.bl true))]⟩
def d_is_tree_of : FD := ⟨2, 4, [], [.ife (.nt (.call 12 [.var 0, .var 1])) [.ret (.const (.bl false))] [], .ret (.b1 .all (.comp (.or (.bin .inn (.var 2) (.call 11 [.var 1, .var 3])) (.bin .inn (.var 3) (.call 11 [.var 1, .var 2]))) (.tp [.nm 2, .nm 3]) .seq (.ix (.var 0) (.const (.int 1))) (.const .non) [] [2, 3] false))]⟩
def d_is_tree : FD := ⟨2, 2, [], [.exp (.call 3 [.var 0]), .ret (.call 13 [.var 0, .var 1])]⟩
def d_need_tree : FD := ⟨2, 2, [], [.exp (.call 3 [.var 0]), .ife (.nt (.call 13 [.var 0, .var 1])) [.rse 1] []]⟩
def d_height_of : FD := ⟨1, 2, [], [.ret (.b1 .max (.comp (.bin .add (.const (.int 1)) (.b1 .len (.call 11 [.var 0, .var 1]))) (.nm 1) .rng (.const (.int 0)) (.b1 .len (.var 0)) [] [1] false))]⟩
def d_height : FD := ⟨2, 2, [], [.exp (.call 15 [.var 0, .var 1]), .ret (.call 16 [.var 1])]⟩
def d_below : FD := ⟨3, 4, [], [.ret (.comp (.var 3) (.nm 3) .rng (.const (.int 0)) (.ix (.var 0) (.const (.int 0))) [.bin .eq (.ix (.var 1) (.var 3)) (.var 2)] [3] false)]⟩
def d_tied_above : FD := ⟨3, 4, [], [.ret (.comp (.var 3) (.nm 3) .seq (.call 11 [.var 1, .var 2]) (.const .non) [.bin .inn (.var 3) (.call 6 [.var 0, .var 2])] [3] false)]⟩
def d_stable_below : FD := ⟨4, 7, [], [.asg (.nm 4) (.const (.int 1)), .fr (.nm 5) .seq (.call 18 [.var 0, .var 1, .var 2]) (.const .non) [.asg (.nm 4) (.bin .mul (.var 4) (.call 20 [.var 0, .var 1, .var 5, .var 3]))] false, .ife (.nt (.b1 .any (.comp (.ix (.var 3) (.var 5)) (.nm 5) .seq (.call 19 [.var 0, .var 1, .var 2]) (.const .non) [] [5] false))) [.sti 3 (.var 2) (.const (.bl true)), .asg (.nm 6) (.const (.int 1)), .fr (.nm 5) .seq (.call 18 [.var 0, .var 1, .var 2]) (.const .non) [.asg (.nm 6) (.bin .mul (.var 6) (.call 20 [.var 0, .var 1, .var 5, .var 3]))] false, .asg (.nm 4) (.bin .add (.var 4) (.var 6)), .sti 3 (.var 2) (.const (.bl false))] [], .ret (.var 4)]⟩
def d_stable_sets : FD := ⟨2, 5, [], [.exp (.call 15 [.var 0, .var 1]), .asg (.nm 2) (.b1 .dict (.comp (.tupd [.var 4, .const (.bl false)]) (.nm 4) .rng (.const (.int 0)) (.ix (.var 0) (.const (.int 0))) [] [4] false)), .asg (.nm 3) (.const (.int 1)), .fr (.nm 4) .seq (.call 18 [.var 0, .var 1, .const .non]) (.const .non) [.asg (.nm 3) (.bin .mul (.var 3) (.call 20 [.var 0, .var 1, .var 4, .var 2]))] false, .ret (.var 3)]⟩
def d_coloured_below : FD := ⟨5, 10, [], [.asg (.nm 5) (.comp (.ix (.var 3) (.var 8)) (.nm 8) .seq (.call 19 [.var 0, .var 1, .var 2]) (.const .non) [] [8] false), .asg (.nm 6) (.const (.int 0)), .fr (.nm 7) .rng (.const (.int 0)) (.var 4) [.ife (.bin .nin (.var 7) (.var 5)) [.sti 3 (.var 2) (.var 7), .asg (.nm 9) (.const (.int 1)), .fr (.nm 8) .seq (.call 18 [.var 0, .var 1, .var 2]) (.const .non) [.asg (.nm 9) (.bin .mul (.var 9) (.call 22 [.var 0, .var 1, .var 8, .var 3, .var 4]))] false, .asg (.nm 6) (.bin .add (.var 6) (.var 9))] []] false, .ret (.var 6)]⟩
def d_colourings : FD := ⟨3, 5, [], [.exp (.call 15 [.var 0, .var 1]), .ife (.nt (.call 0 [.var 2, .const (.int 0), .const (.int 5)])) [.rse 5] [], .asg (.nm 3) (.const (.int 1)), .fr (.nm 4) .seq (.call 18 [.var 0, .var 1, .const .non]) (.const .non) [.asg (.nm 3) (.bin .mul (.var 3) (.call 22 [.var 0, .var 1, .var 4, .dctn, .var 2]))] false, .ret (.var 3)]⟩
def d_depth_of : FD := ⟨3, 6, [], [.ife (.bin .eq (.var 1) (.tupd [])) [.ret (.const (.int 0))] [], .ife (.bin .nin (.var 1) (.var 2)) [.asg (.nm 3) (.call 8 [.var 0, .var 1]), .ife (.bin .gt (.b1 .len (.var 3)) (.const (.int 1))) [.sti 2 (.var 1) (.b1 .max (.comp (.call 24 [.var 0, .var 4, .var 2]) (.nm 4) .seq (.var 3) (.const .non) [] [4] true))] [.sti 2 (.var 1) (.bin .add (.const (.int 1)) (.b1 .min (.comp (.call 24 [.var 0, .call 10 [.var 1, .var 5], .var 2]) (.nm 5) .seq (.var 1) (.const .non) [] [5] false)))]] [], .ret (.ix (.var 2) (.var 1))]⟩
def d_every : FD := ⟨1, 1, [], [.ret (.rng true (.const (.int 0)) (.ix (.var 0) (.const (.int 0))))]⟩
def d_least_height : FD := ⟨1, 1, [], [.exp (.call 3 [.var 0]), .ret (.call 24 [.var 0, .call 25 [.var 0], .dctn])]⟩
def d_depth : FD := ⟨2, 2, [], [.exp (.call 3 [.var 0]), .exp (.call 5 [.var 0, .var 1]), .ret (.call 24 [.var 0, .var 1, .dctn])]⟩
def d_top_of : FD := ⟨3, 5, [], [.asg (.nm 3) (.bin .sub (.call 24 [.var 0, .var 1, .var 2]) (.const (.int 1))), .ret (.ix (.comp (.var 4) (.nm 4) .seq (.var 1) (.const .non) [.bin .eq (.call 24 [.var 0, .call 10 [.var 1, .var 4], .var 2]) (.var 3)] [4] false) (.const (.int 0)))]⟩
def d_plant : FD := ⟨5, 7, [], [.fr (.nm 5) .seq (.call 8 [.var 0, .var 1]) (.const .non) [.asg (.nm 6) (.call 28 [.var 0, .var 5, .var 3]), .sti 4 (.var 6) (.var 2), .exp (.call 29 [.var 0, .call 10 [.var 5, .var 6], .var 6, .var 3, .var 4])] false]⟩
def d_least_tree : FD := ⟨1, 3, [], [.exp (.call 3 [.var 0]), .asg (.nm 1) (.dctn), .exp (.call 29 [.var 0, .call 25 [.var 0], .const .non, .dctn, .var 1]), .ret (.b1 .tuple (.comp (.ix (.var 1) (.var 2)) (.nm 2) .rng (.const (.int 0)) (.ix (.var 0) (.const (.int 0))) [] [2] false))]⟩
def d_prove : FD := ⟨5, 8, [], [.ife (.bin .nin (.tupd [.var 1, .var 2]) (.var 4)) [.sti 4 (.tupd [.var 1, .var 2]) (.const (.bl true)), .ife (.bin .gt (.var 2) (.const (.int 1))) [.fr (.nm 5) .seq (.var 1) (.const .non) [.asg (.nm 6) (.comp (.var 7) (.nm 7) .seq (.call 8 [.var 0, .call 10 [.var 1, .var 5]]) (.const .non) [.bin .ge (.call 24 [.var 0, .var 7, .var 3]) (.bin .sub (.var 2) (.const (.int 1)))] [7] false), .exp (.call 31 [.var 0, .ix (.var 6) (.const (.int 0)), .bin .sub (.var 2) (.const (.int 1)), .var 3, .var 4])] false] []] []]⟩
def d_paper : FD := ⟨1, 6, [], [.exp (.call 3 [.var 0]), .asg (.nm 1) (.dctn), .asg (.nm 2) (.call 24 [.var 0, .call 25 [.var 0], .var 1]), .asg (.nm 3) (.comp (.var 5) (.nm 5) .seq (.call 8 [.var 0, .call 25 [.var 0]]) (.const .non) [.bin .eq (.call 24 [.var 0, .var 5, .var 1]) (.var 2)] [5] false), .asg (.nm 4) (.dctn), .exp (.call 31 [.var 0, .ix (.var 3) (.const (.int 0)), .var 2, .var 1, .var 4]), .ret (.b1 .sorted (.b1 .list (.var 4)))]⟩
def d_is_row : FD := ⟨2, 2, [], [.ife (.or (.nt (.isin (.var 1) .tuple)) (.or (.bin .ne (.b1 .len (.var 1)) (.const (.int 2))) (.nt (.call 4 [.var 0, .ix (.var 1) (.const (.int 0))])))) [.ret (.const (.bl false))] [], .ife (.or (.nt (.call 0 [.ix (.var 1) (.const (.int 1)), .const (.int 1), .const (.int 8)])) (.bin .eq (.ix (.var 1) (.const (.int 0))) (.tupd []))) [.ret (.const (.bl false))] [], .ret (.bin .eq (.b1 .len (.call 8 [.var 0, .ix (.var 1) (.const (.int 0))])) (.const (.int 1)))]⟩
def d_is_within : FD := ⟨2, 3, [], [.ret (.b1 .all (.comp (.bin .inn (.var 2) (.var 1)) (.nm 2) .seq (.var 0) (.const .non) [] [2] true))]⟩
def d_is_paper : FD := ⟨3, 8, [], [.exp (.call 3 [.var 0]), .ife (.nt (.call 0 [.var 1, .const (.int 1), .const (.int 8)])) [.rse 5] [], .ife (.or (.nt (.isin (.var 2) .list)) (.nt (.b1 .all (.comp (.call 33 [.var 0, .var 7]) (.nm 7) .seq (.var 2) (.const .non) [] [7] true)))) [.ret (.const (.bl false))] [], .ife (.nt (.b1 .any (.comp (.bin .ge (.ix (.var 7) (.const (.int 1))) (.var 1)) (.nm 7) .seq (.var 2) (.const .non) [] [7] true))) [.ret (.const (.bl false))] [], .fr (.tp [.nm 3, .nm 4]) .seq (.var 2) (.const .non) [.ife (.bin .gt (.var 4) (.const (.int 1))) [.fr (.nm 5) .seq (.var 3) (.const .non) [.asg (.nm 6) (.call 10 [.var 3, .var 5]), .ife (.nt (.b1 .any (.comp (.and (.bin .ge (.ix (.var 7) (.const (.int 1))) (.bin .sub (.var 4) (.const (.int 1)))) (.call 34 [.ix (.var 7) (.const (.int 0)), .var 6])) (.nm 7) .seq (.var 2) (.const .non) [] [7] true))) [.ret (.const (.bl false))] []] false] []] false, .ret (.const (.bl true))]⟩
def d_are_ranks : FD := ⟨2, 6, [], [.ife (.or (.nt (.isin (.var 1) .tuple)) (.bin .ne (.b1 .len (.var 1)) (.ix (.var 0) (.const (.int 0))))) [.ret (.const (.bl false))] [], .ife (.nt (.b1 .all (.comp (.call 0 [.var 5, .const (.int 1), .const (.int 8)]) (.nm 5) .seq (.var 1) (.const .non) [] [5] true))) [.ret (.const (.bl false))] [], .fr (.nm 2) .rng (.const (.int 0)) (.ix (.var 0) (.const (.int 0))) [.asg (.nm 3) (.comp (.var 4) (.nm 4) .rng (.const (.int 0)) (.ix (.var 0) (.const (.int 0))) [.bin .le (.ix (.var 1) (.var 4)) (.ix (.var 1) (.var 2))] [4] false), .ife (.b1 .any (.comp (.bin .eq (.ix (.var 1) (.var 4)) (.ix (.var 1) (.var 2))) (.nm 4) .seq (.call 7 [.var 0, .var 3, .var 2]) (.const .non) [.bin .ne (.var 4) (.var 2)] [4] false)) [.ret (.const (.bl false))] []] false, .ret (.const (.bl true))]⟩
def d_is_ranking : FD := ⟨2, 2, [], [.exp (.call 3 [.var 0]), .ret (.call 36 [.var 0, .var 1])]⟩
def d_ranking : FD := ⟨2, 4, [], [.exp (.call 15 [.var 0, .var 1]), .asg (.nm 2) (.call 16 [.var 1]), .ret (.b1 .tuple (.comp (.bin .sub (.var 2) (.b1 .len (.call 11 [.var 1, .var 3]))) (.nm 3) .rng (.const (.int 0)) (.ix (.var 0) (.const (.int 0))) [] [3] false))]⟩
def d_grow : FD := ⟨5, 8, [], [.fr (.nm 5) .seq (.call 8 [.var 0, .var 2]) (.const .non) [.asg (.nm 6) (.ix (.b1 .max (.comp (.tupd [.ix (.var 1) (.var 7), .var 7]) (.nm 7) .seq (.var 5) (.const .non) [] [7] true)) (.const (.int 1))), .sti 4 (.var 6) (.var 3), .exp (.call 39 [.var 0, .var 1, .call 10 [.var 5, .var 6], .var 6, .var 4])] false]⟩
def d_tree_of : FD := ⟨2, 4, [], [.exp (.call 3 [.var 0]), .ife (.nt (.call 36 [.var 0, .var 1])) [.rse 2] [], .asg (.nm 2) (.dctn), .exp (.call 39 [.var 0, .var 1, .rng true (.const (.int 0)) (.ix (.var 0) (.const (.int 0))), .const .non, .var 2]), .ret (.b1 .tuple (.comp (.ix (.var 2) (.var 3)) (.nm 3) .rng (.const (.int 0)) (.ix (.var 0) (.const (.int 0))) [] [3] false))]⟩
def d_need_place : FD := ⟨2, 2, [], [.ife (.nt (.call 0 [.var 1, .const (.int 0), .bin .sub (.ix (.var 0) (.const (.int 0))) (.const (.int 1))])) [.rse 4] []]⟩
def d_tie_of : FD := ⟨3, 3, [], [.exp (.call 41 [.var 0, .var 1]), .exp (.call 41 [.var 0, .var 2]), .ife (.bin .eq (.var 1) (.var 2)) [.rse 4] [], .ret (.tupd [.bin .mn (.var 1) (.var 2), .bin .mx (.var 1) (.var 2)])]⟩
def d_with_tie : FD := ⟨3, 4, [], [.exp (.call 3 [.var 0]), .asg (.nm 3) (.call 42 [.var 0, .var 1, .var 2]), .ife (.bin .inn (.var 3) (.ix (.var 0) (.const (.int 1)))) [.rse 9] [], .ret (.tupd [.ix (.var 0) (.const (.int 0)), .b1 .tuple (.b1 .sorted (.bin .add (.ix (.var 0) (.const (.int 1))) (.tupd [.var 3])))])]⟩
def d_without_tie : FD := ⟨3, 5, [], [.exp (.call 3 [.var 0]), .asg (.nm 3) (.call 42 [.var 0, .var 1, .var 2]), .ife (.bin .nin (.var 3) (.ix (.var 0) (.const (.int 1)))) [.rse 9] [], .ret (.tupd [.ix (.var 0) (.const (.int 0)), .b1 .tuple (.comp (.var 4) (.nm 4) .seq (.ix (.var 0) (.const (.int 1))) (.const .non) [.bin .ne (.var 4) (.var 3)] [4] false)])]⟩
def d_lowered : FD := ⟨2, 2, [], [.ret (.bin .sub (.var 0) (.b1 .int (.bin .gt (.var 0) (.var 1))))]⟩
def d_without_place : FD := ⟨2, 5, [], [.exp (.call 3 [.var 0]), .exp (.call 41 [.var 0, .var 1]), .ife (.bin .eq (.ix (.var 0) (.const (.int 0))) (.const (.int 1))) [.rse 4] [], .asg (.nm 2) (.comp (.tupd [.call 45 [.var 3, .var 1], .call 45 [.var 4, .var 1]]) (.tp [.nm 3, .nm 4]) .seq (.ix (.var 0) (.const (.int 1))) (.const .non) [.bin .nin (.var 1) (.tupd [.var 3, .var 4])] [3, 4] false), .ret (.tupd [.bin .sub (.ix (.var 0) (.const (.int 0))) (.const (.int 1)), .b1 .tuple (.var 2)])]⟩
def d_with_place : FD := ⟨1, 1, [], [.exp (.call 3 [.var 0]), .ife (.bin .eq (.ix (.var 0) (.const (.int 0))) (.const (.int 8))) [.rse 11] [], .ret (.tupd [.bin .add (.ix (.var 0) (.const (.int 0))) (.const (.int 1)), .ix (.var 0) (.const (.int 1))])]⟩
def d_drawn_together : FD := ⟨3, 12, [], [.exp (.call 3 [.var 0]), .asg (.nm 3) (.call 42 [.var 0, .var 1, .var 2]), .ife (.bin .nin (.var 3) (.ix (.var 0) (.const (.int 1)))) [.rse 9] [], .asg (.tp [.nm 5, .nm 6]) (.var 3), .asg (.nm 4) (.dctn), .fr (.tp [.nm 7, .nm 8]) .seq (.ix (.var 0) (.const (.int 1))) (.const .non) [.asg (.tp [.nm 9, .nm 10]) (.comp (.call 45 [.ife (.bin .eq (.var 11) (.var 6)) (.var 5) (.var 11), .var 6]) (.nm 11) .seq (.tupd [.var 7, .var 8]) (.const .non) [] [11] false), .ife (.bin .ne (.var 9) (.var 10)) [.sti 4 (.tupd [.bin .mn (.var 9) (.var 10), .bin .mx (.var 9) (.var 10)]) (.const (.bl true))] []] false, .ret (.tupd [.bin .sub (.ix (.var 0) (.const (.int 0))) (.const (.int 1)), .b1 .tuple (.b1 .sorted (.b1 .list (.var 4)))])]⟩
def d_first_ways : FD := ⟨2, 7, [], [.asg (.nm 2) (.dct1 (.var 1) (.tupd [.var 1])), .asg (.nm 3) (.lstd [.var 1]), .whl (.bin .ne (.var 3) (.lstd [])) [.asg (.nm 4) (.lstd []), .fr (.nm 5) .seq (.var 3) (.const .non) [.fr (.nm 6) .seq (.b1 .sorted (.call 6 [.var 0, .var 5])) (.const .non) [.ife (.bin .nin (.var 6) (.var 2)) [.sti 2 (.var 6) (.bin .add (.ix (.var 2) (.var 5)) (.tupd [.var 6])), .exp (.app 4 (.var 6))] []] false] false, .asg (.nm 3) (.var 4)], .ret (.var 2)]⟩
def d_least_way : FD := ⟨3, 3, [], [.exp (.call 3 [.var 0]), .exp (.call 41 [.var 0, .var 1]), .exp (.call 41 [.var 0, .var 2]), .ret (.bm .get (.call 49 [.var 0, .var 1]) (.var 2))]⟩
def d_widest : FD := ⟨1, 5, [], [.exp (.call 3 [.var 0]), .asg (.nm 1) (.tupd [.const (.int 0), .tupd [.const (.int 0), .const (.int 0)]]), .fr (.nm 2) .rng (.const (.int 0)) (.ix (.var 0) (.const (.int 0))) [.asg (.nm 3) (.call 49 [.var 0, .var 2]), .fr (.nm 4) .seq (.b1 .sorted (.b1 .list (.var 3))) (.const .non) [.ife (.bin .gt (.bin .sub (.b1 .len (.ix (.var 3) (.var 4))) (.const (.int 1))) (.ix (.var 1) (.const (.int 0)))) [.asg (.nm 1) (.tupd [.bin .sub (.b1 .len (.ix (.var 3) (.var 4))) (.const (.int 1)), .tupd [.var 2, .var 4]])] []] false] false, .ret (.var 1)]⟩
def d_many_pieces : FD := ⟨3, 3, [], [.ret (.b1 .len (.call 8 [.tupd [.ix (.var 0) (.const (.int 0)), .var 1], .var 2]))]⟩
def d_bridges : FD := ⟨1, 6, [], [.exp (.call 3 [.var 0]), .asg (.nm 1) (.rng true (.const (.int 0)) (.ix (.var 0) (.const (.int 0)))), .asg (.nm 2) (.call 52 [.var 0, .ix (.var 0) (.const (.int 1)), .var 1]), .asg (.nm 3) (.lstd []), .fr (.nm 4) .seq (.ix (.var 0) (.const (.int 1))) (.const .non) [.ife (.bin .gt (.call 52 [.var 0, .b1 .tuple (.comp (.var 5) (.nm 5) .seq (.ix (.var 0) (.const (.int 1))) (.const .non) [.bin .ne (.var 5) (.var 4)] [5] false), .var 1]) (.var 2)) [.exp (.app 3 (.var 4))] []] false, .ret (.var 3)]⟩
def d_cuts : FD := ⟨1, 6, [], [.exp (.call 3 [.var 0]), .asg (.nm 1) (.lstd []), .fr (.nm 2) .seq (.call 8 [.var 0, .rng true (.const (.int 0)) (.ix (.var 0) (.const (.int 0)))]) (.const .non) [.fr (.nm 3) .seq (.var 2) (.const .non) [.asg (.nm 4) (.b1 .tuple (.comp (.var 5) (.nm 5) .seq (.var 2) (.const .non) [.bin .ne (.var 5) (.var 3)] [5] true)), .ife (.bin .gt (.call 52 [.var 0, .ix (.var 0) (.const (.int 1)), .var 4]) (.const (.int 1))) [.exp (.app 1 (.var 3))] []] false] false, .ret (.b1 .sorted (.var 1))]⟩
def d_has_ring : FD := ⟨1, 1, [], [.exp (.call 3 [.var 0]), .ret (.bin .gt (.b1 .len (.ix (.var 0) (.const (.int 1)))) (.bin .sub (.ix (.var 0) (.const (.int 0))) (.call 52 [.var 0, .ix (.var 0) (.const (.int 1)), .rng true (.const (.int 0)) (.ix (.var 0) (.const (.int 0)))])))]⟩
def d_web_text : FD := ⟨1, 3, [], [.exp (.call 3 [.var 0]), .ret (.bin .add (.bin .add (.b1 .str (.ix (.var 0) (.const (.int 0)))) (.const (.str [58]))) (.const (.lst [])))]⟩
def d_tree_text : FD := ⟨2, 3, [], [.exp (.call 15 [.var 0, .var 1]), .ret (.const (.lst []))]⟩
def d_need_small : FD := ⟨1, 1, [], [.exp (.call 3 [.var 0]), .ife (.bin .gt (.ix (.var 0) (.const (.int 0))) (.const (.int 5))) [.rse 11] []]⟩
def d_trees_of : FD := ⟨1, 6, [], [.asg (.nm 1) (.lstd [.tupd []]), .fr (.nm 2) .rng (.const (.int 0)) (.ix (.var 0) (.const (.int 0))) [.asg (.nm 3) (.lstd []), .fr (.nm 4) .seq (.var 1) (.const .non) [.exp (.ext 3 (.comp (.bin .add (.var 4) (.tupd [.var 5])) (.nm 5) .seq (.bin .add (.lstd [.const .non]) (.rng false (.const (.int 0)) (.ix (.var 0) (.const (.int 0))))) (.const .non) [.bin .ne (.var 5) (.var 2)] [5] false))] false, .asg (.nm 1) (.var 3)] false, .ret (.comp (.var 4) (.nm 4) .seq (.var 1) (.const .non) [.call 13 [.var 0, .var 4]] [4] true)]⟩
def d_how_many : FD := ⟨1, 1, [], [.exp (.call 61 [.var 0]), .ret (.b1 .len (.call 62 [.var 0]))]⟩
def d_by_height : FD := ⟨1, 4, [], [.exp (.call 61 [.var 0]), .asg (.nm 1) (.comp (.call 16 [.var 2]) (.nm 2) .seq (.call 62 [.var 0]) (.const .non) [] [2] false), .ret (.comp (.bm .cnt (.var 1) (.var 3)) (.nm 3) .rng (.const (.int 1)) (.bin .add (.ix (.var 0) (.const (.int 0))) (.const (.int 1))) [] [3] false)]⟩
def d_top_places : FD := ⟨1, 5, [], [.exp (.call 61 [.var 0]), .asg (.nm 1) (.call 62 [.var 0]), .asg (.nm 2) (.b1 .min (.comp (.call 16 [.var 4]) (.nm 4) .seq (.var 1) (.const .non) [] [4] true)), .asg (.nm 3) (.dctn), .fr (.nm 4) .seq (.var 1) (.const .non) [.ife (.and (.bin .eq (.call 16 [.var 4]) (.var 2)) (.bin .eq (.const (.lst [])) (.const (.int 1)))) [.sti 3 (.const (.lst [])) (.const (.bl true))] []] false, .ret (.b1 .sorted (.b1 .list (.var 3)))]⟩
def d_sets_of : FD := ⟨1, 4, [], [.asg (.nm 1) (.lstd [.tupd []]), .fr (.nm 2) .rng (.const (.int 0)) (.ix (.var 0) (.const (.int 0))) [.asg (.nm 1) (.bin .add (.var 1) (.comp (.bin .add (.var 3) (.tupd [.var 2])) (.nm 3) .seq (.var 1) (.const .non) [] [3] true))] false, .ret (.var 1)]⟩
def d_greatest : FD := ⟨1, 2, [], [.ret (.ix (.b1 .min (.comp (.tupd [.bin .sub (.const (.int 0)) (.b1 .len (.var 1)), .var 1]) (.nm 1) .seq (.var 0) (.const .non) [] [1] true)) (.const (.int 1)))]⟩
def d_is_group : FD := ⟨2, 4, [], [.ret (.b1 .all (.comp (.b1 .all (.comp (.or (.bin .eq (.var 3) (.var 2)) (.bin .inn (.var 3) (.call 6 [.var 0, .var 2]))) (.nm 3) .seq (.var 1) (.const .non) [] [3] true)) (.nm 2) .seq (.var 1) (.const .non) [] [2] false))]⟩
def d_greatest_group : FD := ⟨1, 2, [], [.exp (.call 3 [.var 0]), .ret (.call 67 [.comp (.var 1) (.nm 1) .seq (.call 66 [.var 0]) (.const .non) [.call 68 [.var 0, .var 1]] [1] false])]⟩
def d_is_stable : FD := ⟨2, 4, [], [.ret (.nt (.b1 .any (.comp (.and (.bin .inn (.var 2) (.var 1)) (.bin .inn (.var 3) (.var 1))) (.tp [.nm 2, .nm 3]) .seq (.ix (.var 0) (.const (.int 1))) (.const .non) [] [2, 3] false)))]⟩
def d_greatest_stable : FD := ⟨1, 2, [], [.exp (.call 3 [.var 0]), .ret (.call 67 [.comp (.var 1) (.nm 1) .seq (.call 66 [.var 0]) (.const .non) [.call 70 [.var 0, .var 1]] [1] false])]⟩
def d_row_of : FD := ⟨3, 3, [], [.ife (.bin .nin (.tupd [.var 0, .var 1]) (.var 2)) [.sti 2 (.tupd [.var 0, .var 1]) (.call 73 [.var 0, .var 1, .var 2])] [], .ret (.ix (.var 2) (.tupd [.var 0, .var 1]))]⟩
def d_parted_row : FD := ⟨3, 14, [], [.ife (.bin .eq (.var 1) (.tupd [])) [.ret (.bin .add (.bin .mul (.lstd [.const (.int 0)]) (.var 0)) (.lstd [.const (.int 1)]))] [], .asg (.tp [.tp [.nm 9, .nm 10], .nm 4]) (.tupd [.ix (.var 1) (.const (.int 0)), .sl (.var 1) (.neg (.neg (.const (.int 1)))) (.const .non)]), .asg (.nm 3) (.dctn), .fr (.tp [.nm 5, .nm 6]) .seq (.var 4) (.const .non) [.asg (.tp [.nm 11, .nm 12]) (.comp (.ife (.bin .eq (.var 13) (.var 10)) (.var 9) (.var 13)) (.nm 13) .seq (.tupd [.var 5, .var 6]) (.const .non) [] [13] false), .asg (.tp [.nm 11, .nm 12]) (.comp (.bin .sub (.var 13) (.b1 .int (.bin .gt (.var 13) (.var 10)))) (.nm 13) .seq (.tupd [.var 11, .var 12]) (.const .non) [] [13] false), .ife (.bin .ne (.var 11) (.var 12)) [.sti 3 (.tupd [.bin .mn (.var 11) (.var 12), .bin .mx (.var 11) (.var 12)]) (.const (.bl true))] []] false, .par [7, 8] [.call 72 [.var 0, .var 4, .var 2], .bin .add (.call 72 [.bin .sub (.var 0) (.const (.int 1)), .b1 .tuple (.b1 .sorted (.b1 .list (.var 3))), .var 2]) (.lstd [.const (.int 0)])], .ret (.comp (.bin .sub (.var 5) (.var 6)) (.tp [.nm 5, .nm 6]) .zip (.var 7) (.var 8) [] [5, 6] false)]⟩
def d_worth : FD := ⟨2, 4, [], [.asg (.nm 2) (.const (.int 0)), .fr (.nm 3) .seq (.rev (.var 0)) (.const .non) [.asg (.nm 2) (.bin .add (.bin .mul (.var 2) (.var 1)) (.var 3))] false, .ret (.var 2)]⟩
def d_fewest_colours : FD := ⟨1, 3, [], [.exp (.call 3 [.var 0]), .asg (.nm 1) (.call 72 [.ix (.var 0) (.const (.int 0)), .ix (.var 0) (.const (.int 1)), .dctn]), .asg (.nm 2) (.const (.int 1)), .whl (.bin .eq (.call 74 [.var 1, .var 2]) (.const (.int 0))) [.asg (.nm 2) (.bin .add (.var 2) (.const (.int 1)))], .ret (.var 2)]⟩
def d_colour_row : FD := ⟨1, 1, [], [.exp (.call 3 [.var 0]), .ret (.b1 .list (.call 72 [.ix (.var 0) (.const (.int 0)), .ix (.var 0) (.const (.int 1)), .dctn]))]⟩
def progF : Nat → Option FD
  | 0 => some d_is_whole
  | 1 => some d_is_tie
  | 2 => some d_is_web
  | 3 => some d_need_web
  | 4 => some d_are_places
  | 5 => some d_need_places
  | 6 => some d_beside
  | 7 => some d_piece_of
  | 8 => some d_pieces_in
  | 9 => some d_pieces
  | 10 => some d_without
  | 11 => some d_above
  | 12 => some d_is_bare_tree
  | 13 => some d_is_tree_of
  | 14 => some d_is_tree
  | 15 => some d_need_tree
  | 16 => some d_height_of
  | 17 => some d_height
  | 18 => some d_below
  | 19 => some d_tied_above
  | 20 => some d_stable_below
  | 21 => some d_stable_sets
  | 22 => some d_coloured_below
  | 23 => some d_colourings
  | 24 => some d_depth_of
  | 25 => some d_every
  | 26 => some d_least_height
  | 27 => some d_depth
  | 28 => some d_top_of
  | 29 => some d_plant
  | 30 => some d_least_tree
  | 31 => some d_prove
  | 32 => some d_paper
  | 33 => some d_is_row
  | 34 => some d_is_within
  | 35 => some d_is_paper
  | 36 => some d_are_ranks
  | 37 => some d_is_ranking
  | 38 => some d_ranking
  | 39 => some d_grow
  | 40 => some d_tree_of
  | 41 => some d_need_place
  | 42 => some d_tie_of
  | 43 => some d_with_tie
  | 44 => some d_without_tie
  | 45 => some d_lowered
  | 46 => some d_without_place
  | 47 => some d_with_place
  | 48 => some d_drawn_together
  | 49 => some d_first_ways
  | 50 => some d_least_way
  | 51 => some d_widest
  | 52 => some d_many_pieces
  | 53 => some d_bridges
  | 54 => some d_cuts
  | 55 => some d_has_ring
  | 56 => some d_web_text
  | 59 => some d_tree_text
  | 61 => some d_need_small
  | 62 => some d_trees_of
  | 63 => some d_how_many
  | 64 => some d_by_height
  | 65 => some d_top_places
  | 66 => some d_sets_of
  | 67 => some d_greatest
  | 68 => some d_is_group
  | 69 => some d_greatest_group
  | 70 => some d_is_stable
  | 71 => some d_greatest_stable
  | 72 => some d_row_of
  | 73 => some d_parted_row
  | 74 => some d_worth
  | 75 => some d_fewest_colours
  | 76 => some d_colour_row
  | _ => none
class HasF (T : Tab) (i : Nat) : Prop where eq : T.fns i = progF i
def d_L1_cell_at : FD := ⟨2, 2, [], [.ife (.bin .lt (.var 1) (.b1 .len (.var 0))) [.ret (.ix (.var 0) (.var 1))] [], .ife (.bin .eq (.var 0) (.lstd [])) [.ret (.const (.int 0))] [], .ret (.bin .add (.bin .mul (.ix (.var 0) (.bin .mod (.var 1) (.b1 .len (.var 0)))) (.const (.int 31))) (.var 1))]⟩
def d_L1_mixed : FD := ⟨3, 4, [], [.asg (.nm 3) (.bin .mod (.bin .mul (.bin .add (.bin .add (.call 100 [.var 0, .var 1]) (.bin .mul (.const (.int 7919)) (.var 1))) (.const (.int 1))) (.const (.int 48271))) (.const (.int 2147483647))), .ret (.bin .mod (.bin .mod (.bin .add (.bin .add (.bin .mul (.var 3) (.var 3)) (.bin .mul (.const (.int 7)) (.var 3))) (.var 1)) (.const (.int 2147483629))) (.var 2))]⟩
def d_L1_draw : FD := ⟨3, 3, [], [.exp (.app 1 (.const (.int 0))), .ret (.call 101 [.var 0, .b1 .len (.var 1), .var 2])]⟩
def d_L1_pick : FD := ⟨3, 3, [], [.ret (.ix (.var 2) (.call 102 [.var 0, .var 1, .b1 .len (.var 2)]))]⟩
def d_L1_web : FD := ⟨3, 8, [], [.asg (.nm 3) (.bin .add (.const (.int 1)) (.call 102 [.var 0, .var 1, .var 2])), .asg (.nm 4) (.call 102 [.var 0, .var 1, .const (.int 6)]), .asg (.nm 5) (.lstd []), .fr (.nm 6) .rng (.const (.int 0)) (.var 3) [.fr (.nm 7) .rng (.const (.int 0)) (.var 6) [.ife (.bin .lt (.call 102 [.var 0, .var 1, .const (.int 6)]) (.var 4)) [.exp (.app 5 (.tupd [.var 7, .var 6]))] []] false] false, .ife (.bin .eq (.call 102 [.var 0, .var 1, .const (.int 3)]) (.const (.int 0))) [.exp (.ext 5 (.comp (.tupd [.var 7, .bin .add (.var 7) (.const (.int 1))]) (.nm 7) .rng (.const (.int 0)) (.bin .sub (.var 3) (.const (.int 1))) [] [7] false))] [], .ret (.tupd [.var 3, .b1 .tuple (.b1 .sset (.var 5))])]⟩
def d_L1_tied : FD := ⟨3, 3, [], [.ret (.bin .inn (.tupd [.bin .mn (.var 1) (.var 2), .bin .mx (.var 1) (.var 2)]) (.ix (.var 0) (.const (.int 1))))]⟩
def d_L1_pieces : FD := ⟨2, 8, [], [.asg (.nm 2) (.lstd []), .fr (.nm 3) .seq (.var 1) (.const .non) [.asg (.nm 4) (.comp (.var 6) (.nm 6) .seq (.var 2) (.const .non) [.b1 .any (.comp (.call 105 [.var 0, .var 3, .var 7]) (.nm 7) .seq (.var 6) (.const .non) [] [7] true)] [6] true), .asg (.nm 2) (.comp (.var 6) (.nm 6) .seq (.var 2) (.const .non) [.bin .nin (.var 6) (.var 4)] [6] true), .asg (.nm 5) (.lstd [.var 3]), .fr (.nm 6) .seq (.var 4) (.const .non) [.exp (.ext 5 (.var 6))] false, .exp (.app 2 (.b1 .sorted (.var 5)))] false, .ret (.b1 .sorted (.comp (.b1 .tuple (.var 6)) (.nm 6) .seq (.var 2) (.const .non) [] [6] true))]⟩
def d_L1_up : FD := ⟨2, 3, [1], [.asg (.nm 2) (.lstd []), .whl (.and (.isN true (.ix (.var 0) (.var 1))) (.bin .le (.b1 .len (.var 2)) (.b1 .len (.var 0)))) [.asg (.nm 1) (.ix (.var 0) (.var 1)), .exp (.app 2 (.var 1))], .ret (.var 2)]⟩
def d_L1_plant : FD := ⟨6, 9, [], [.fr (.nm 6) .seq (.call 106 [.var 2, .var 3]) (.const .non) [.asg (.nm 7) (.call 103 [.var 0, .var 1, .var 6]), .sti 5 (.var 7) (.var 4), .exp (.call 108 [.var 0, .var 1, .var 2, .b1 .tuple (.comp (.var 8) (.nm 8) .seq (.var 6) (.const .non) [.bin .ne (.var 8) (.var 7)] [8] true), .var 7, .var 5])] false]⟩
def d_L1_tree : FD := ⟨3, 7, [], [.asg (.nm 3) (.dctn), .exp (.call 108 [.var 0, .var 1, .var 2, .rng true (.const (.int 0)) (.ix (.var 2) (.const (.int 0))), .const .non, .var 3]), .asg (.nm 4) (.comp (.ix (.var 3) (.var 6)) (.nm 6) .rng (.const (.int 0)) (.ix (.var 2) (.const (.int 0))) [] [6] false), .asg (.nm 5) (.comp (.var 6) (.nm 6) .rng (.const (.int 0)) (.ix (.var 2) (.const (.int 0))) [.isN false (.ix (.var 4) (.var 6))] [6] false), .ife (.and (.bin .gt (.b1 .len (.var 5)) (.const (.int 1))) (.bin .eq (.call 102 [.var 0, .var 1, .const (.int 2)]) (.const (.int 0)))) [.sti 4 (.ix (.var 5) (.const (.int 1))) (.ix (.var 5) (.const (.int 0)))] [], .ret (.b1 .tuple (.var 4))]⟩
def d_L1_depth : FD := ⟨3, 8, [], [.ife (.bin .nin (.var 1) (.var 2)) [.ife (.bin .eq (.var 1) (.tupd [])) [.sti 2 (.var 1) (.const (.int 0))] [.asg (.nm 3) (.call 106 [.var 0, .var 1]), .ife (.bin .gt (.b1 .len (.var 3)) (.const (.int 1))) [.sti 2 (.var 1) (.b1 .max (.comp (.call 110 [.var 0, .var 6, .var 2]) (.nm 6) .seq (.var 3) (.const .non) [] [6] true))] [.asg (.nm 4) (.comp (.bin .add (.sl (.var 1) (.const .non) (.neg (.neg (.var 5)))) (.sl (.var 1) (.neg (.neg (.bin .add (.var 5) (.const (.int 1))))) (.const .non))) (.nm 5) .rng (.const (.int 0)) (.b1 .len (.var 1)) [] [5] false), .sti 2 (.var 1) (.bin .add (.const (.int 1)) (.b1 .min (.comp (.call 110 [.var 0, .var 7, .var 2]) (.nm 7) .seq (.var 4) (.const .non) [] [7] true)))]]] [], .ret (.ix (.var 2) (.var 1))]⟩
def lawF1 : Nat → Option FD
  | 100 => some d_L1_cell_at
  | 101 => some d_L1_mixed
  | 102 => some d_L1_draw
  | 103 => some d_L1_pick
  | 104 => some d_L1_web
  | 105 => some d_L1_tied
  | 106 => some d_L1_pieces
  | 107 => some d_L1_up
  | 108 => some d_L1_plant
  | 109 => some d_L1_tree
  | 110 => some d_L1_depth
  | _ => none
class HasL1 (T : Tab) (i : Nat) : Prop where eq : T.fns i = lawF1 i
def d_L2_cell_at : FD := ⟨2, 2, [], [.ife (.bin .lt (.var 1) (.b1 .len (.var 0))) [.ret (.ix (.var 0) (.var 1))] [], .ife (.bin .eq (.var 0) (.lstd [])) [.ret (.const (.int 0))] [], .ret (.bin .add (.bin .mul (.ix (.var 0) (.bin .mod (.var 1) (.b1 .len (.var 0)))) (.const (.int 31))) (.var 1))]⟩
def d_L2_mixed : FD := ⟨3, 4, [], [.asg (.nm 3) (.bin .mod (.bin .add (.bin .add (.bin .mul (.call 100 [.var 0, .var 1]) (.const (.int 1103515245))) (.bin .mul (.const (.int 7919)) (.var 1))) (.const (.int 12345))) (.const (.int 2147483647))), .ret (.bin .mod (.bin .mod (.bin .mod (.bin .pow (.var 3) (.const (.int 5))) (.const (.int 2147483647))) (.const (.int 999983))) (.var 2))]⟩
def d_L2_draw : FD := ⟨3, 3, [], [.exp (.app 1 (.const (.int 0))), .ret (.call 101 [.var 0, .b1 .len (.var 1), .var 2])]⟩
def d_L2_pick : FD := ⟨3, 3, [], [.ret (.ix (.var 2) (.call 102 [.var 0, .var 1, .b1 .len (.var 2)]))]⟩
def d_L2_web : FD := ⟨3, 8, [], [.asg (.nm 3) (.bin .add (.const (.int 1)) (.call 102 [.var 0, .var 1, .var 2])), .asg (.nm 4) (.call 103 [.var 0, .var 1, .lstd [.const (.int 2), .const (.int 3), .const (.int 4), .const (.int 6), .const (.int 8)]]), .asg (.nm 5) (.tupd []), .fr (.nm 6) .rng (.const (.int 0)) (.var 3) [.fr (.nm 7) .rng (.bin .add (.var 6) (.const (.int 1))) (.var 3) [.ife (.bin .lt (.call 102 [.var 0, .var 1, .const (.int 10)]) (.var 4)) [.asg (.nm 5) (.bin .add (.var 5) (.tupd [.tupd [.var 6, .var 7]]))] []] false] false, .ret (.tupd [.var 3, .var 5])]⟩
def d_L2_beside : FD := ⟨2, 3, [], [.ret (.comp (.var 2) (.nm 2) .rng (.const (.int 0)) (.ix (.var 0) (.const (.int 0))) [.or (.bin .inn (.tupd [.var 1, .var 2]) (.ix (.var 0) (.const (.int 1)))) (.bin .inn (.tupd [.var 2, .var 1]) (.ix (.var 0) (.const (.int 1))))] [2] false)]⟩
def d_L2_pieces : FD := ⟨2, 9, [], [.par [2, 3] [.b1 .list (.var 1), .lstd []], .whl (.bin .ne (.var 2) (.lstd [])) [.par [4, 5] [.lstd [], .lstd [.ix (.var 2) (.const (.int 0))]], .whl (.bin .ne (.var 5) (.lstd [])) [.asg (.nm 6) (.pop 5), .ife (.bin .nin (.var 6) (.var 4)) [.exp (.app 4 (.var 6)), .exp (.ext 5 (.comp (.var 8) (.nm 8) .seq (.call 105 [.var 0, .var 6]) (.const .non) [.bin .inn (.var 8) (.var 1)] [8] false))] []], .exp (.app 3 (.b1 .tuple (.b1 .sorted (.var 4)))), .asg (.nm 2) (.comp (.var 7) (.nm 7) .seq (.var 2) (.const .non) [.bin .nin (.var 7) (.var 4)] [7] true)], .ret (.var 3)]⟩
def d_L2_odd : FD := ⟨2, 3, [], [.asg (.nm 2) (.lstd [.const .non, .const (.int 5), .tupd [], .tupd [.const (.int 0), .tupd []], .tupd [.const (.int 9), .tupd []], .tupd [.const (.int 2), .tupd [.tupd [.const (.int 1), .const (.int 0)]]], .tupd [.const (.int 2), .tupd [.tupd [.const (.int 0), .const (.int 2)]]], .tupd [.const (.int 2), .tupd [.tupd [.const (.int 0), .const (.int 0)]]], .tupd [.const (.int 3), .tupd [.tupd [.const (.int 1), .const (.int 2)], .tupd [.const (.int 0), .const (.int 1)]]]]), .ret (.call 103 [.var 0, .var 1, .bin .add (.var 2) (.lstd [.tupd [.const (.int 2), .tupd [.tupd [.const (.int 0), .const (.int 1)], .tupd [.const (.int 0), .const (.int 1)]]], .lstd [.const (.int 2), .tupd []], .tupd [.const (.int 2), .lstd [.tupd [.const (.int 0), .const (.int 1)]]], .tupd [.const (.bl true), .tupd []], .const (.str [50, 58, 32, 48, 45, 49])])])]⟩
def lawF2 : Nat → Option FD
  | 100 => some d_L2_cell_at
  | 101 => some d_L2_mixed
  | 102 => some d_L2_draw
  | 103 => some d_L2_pick
  | 104 => some d_L2_web
  | 105 => some d_L2_beside
  | 106 => some d_L2_pieces
  | 107 => some d_L2_odd
  | _ => none
class HasL2 (T : Tab) (i : Nat) : Prop where eq : T.fns i = lawF2 i
end PL

set_option linter.all false
set_option maxRecDepth 100000
namespace PQ
open PL
open PV
/-! ## running a function, row by row -/
abbrev nI (n : Nat) : PV := .int (n : Int)
def finR (d : FD) (as : List (PV × Bool)) : R Flow → Res
  | .ok (.rt v f) r => match retV d v f r with
    | some (v, o, r) => match backA d.rb r 0 as with
      | some bs => .ok v o bs
      | none => .bad
    | none => .bad
  | .ok .nx r => match backA d.rb r 0 as with
    | some bs => .ok .non true bs
    | none => .bad
  | .ok .bk _ => .bad
  | .exc c r => match backA d.rb r 0 as with
    | some bs => .exc c bs
    | none => .bad
  | .bad => .bad
theorem run_of {T : Tab} {n f : Nat} {d : FD} {as : List (PV × Bool)} (h : T.fns f = some d) (hl : as.length = d.np) :
    run T (n + 1) f as = finR d as (exs T (run T n) d.body (startE d as)) := by
  rw [run, h]; dsimp only; rw [if_pos hl]; rfl
theorem run_has {T : Tab} {n f : Nat} {d : FD} {as : List (PV × Bool)} [h : HasF T f] (hd : progF f = some d) (hl : as.length = d.np) :
    run T (n + 1) f as = finR d as (exs T (run T n) d.body (startE d as)) := run_of (h.eq.trans hd) hl
/-- what goes on with a value; simp does not look into it -/
class Kn (A B : Type) where
  f : A → Env → R B
class Kv (A : Type) where
  v : A
class Kw (A : Type) where
  v : A
class Ks where
  f : Env → R Flow
def bnd {A B : Type} (x : R A) [k : Kn A B] : R B := x.bind k.f
@[simp] theorem bnd_ok {A B : Type} (a : A) (r : Env) (k : Kn A B) : @bnd A B (.ok a r) k = k.f a r := by unfold bnd; rfl
@[simp] theorem bnd_exc {A B : Type} (c : Nat) (r : Env) (k : Kn A B) : @bnd A B (.exc c r) k = .exc c r := by unfold bnd; rfl
@[simp] theorem bnd_bad {A B : Type} (k : Kn A B) : @bnd A B .bad k = .bad := by unfold bnd; rfl
def sqR (x : R Flow) [k : Ks] : R Flow :=
  match x with
  | .ok .nx r => k.f r
  | x => x
@[simp] theorem sqR_nx (r : Env) (k : Ks) : @sqR (.ok .nx r) k = k.f r := by unfold sqR; rfl
@[simp] theorem sqR_rt (v : PV) (f : Fl) (r : Env) (k : Ks) : @sqR (.ok (.rt v f) r) k = .ok (.rt v f) r := by unfold sqR; rfl
@[simp] theorem sqR_bk (r : Env) (k : Ks) : @sqR (.ok .bk r) k = .ok .bk r := by unfold sqR; rfl
@[simp] theorem sqR_exc (c : Nat) (r : Env) (k : Ks) : @sqR (.exc c r) k = .exc c r := by unfold sqR; rfl
@[simp] theorem sqR_bad (k : Ks) : @sqR .bad k = .bad := by unfold sqR; rfl
/-- a chain's second half -/
def chB (T : Tab) (P : Fns) (o2 : BOp) (c : Ex) (j : Int) (d : Bool) (r : Env) : R (PV × Fl) :=
  if d then bnd (ev T P c r) (k := ⟨fun z r4 => match z.1 with
    | .int k => bnd (R.of (binop o2 (.int j) (.int k)) r4) (k := ⟨fun v r => .ok (v, .own) r⟩)
    | _ => .bad⟩)
  else .ok (.bl false, .own) r
/-- a choice: the test first -/
def iteR {A : Type} (b : Bool) [x : Kv (R A)] [y : Kw (R A)] : R A := if b then x.v else y.v
@[simp] theorem iteR_t {A : Type} (x : Kv (R A)) (y : Kw (R A)) : @iteR A true x y = x.v := by unfold iteR; rfl
@[simp] theorem iteR_f {A : Type} (x : Kv (R A)) (y : Kw (R A)) : @iteR A false x y = y.v := by unfold iteR; rfl
/-- a comprehension's turn -/
def turC (T : Tab) (P : Fns) (elt : Ex) (t : Tg) (cs : List Ex) (own : List Nat) (x : PV) (r : Env) : R (Option PV) :=
  bnd (R.of (assign t x .frz (wipeS own r)) r) (k := ⟨fun r _ => bnd (tests T P cs r) (k := ⟨fun c r => iteR c (x := ⟨bnd (ev T P elt r) (k := ⟨fun y r => bnd (R.of (sink y.1 y.2 r) r) (k := ⟨fun r _ => .ok (some y.1) r⟩)⟩)⟩) (y := ⟨.ok none r⟩)⟩)⟩)
def compEv (T : Tab) (P : Fns) (elt : Ex) (t : Tg) (cs : List Ex) (own : List Nat) (xs : List PV) (hid : List (Nat × PV)) (r1 : Env) : R (PV × Fl) :=
  bnd (compL (turC T P elt t cs own) xs [] (wipeS own r1)) (k := ⟨fun ys r2 => bnd (R.of (unhide hid (backS r1 own r2)) r2) (k := ⟨fun r3 _ => .ok (.lst ys, .own) r3⟩)⟩)
def turF (T : Tab) (P : Fns) (t : Tg) (body : List St) (x : PV) (r : Env) : R Flow :=
  bnd (R.of (assign t x .frz r) r) (k := ⟨fun r _ => exs T P body r⟩)
def forEv (T : Tab) (P : Fns) (t : Tg) (body : List St) (xs : List PV) (hid : List (Nat × PV)) (r1 : Env) : R Flow :=
  bnd (forL (turF T P t body) xs r1) (k := ⟨fun fl r2 => bnd (R.of (unhide hid r2) r2) (k := ⟨fun r3 _ => .ok fl r3⟩)⟩)
def whlEv (T : Tab) (P : Fns) (c : Ex) (b : List St) (n : Nat) (r : Env) : R Flow :=
  whileL (fun r => asB (ev T P c r)) (fun r => exs T P b r) n r
section
variable (T : Tab) (P : Fns)
/-- what is walked -/
def iterV (T : Tab) (P : Fns) (k : ItK) (a b : Ex) (hd : Bool) (r : Env) : R (List PV × List (Nat × PV)) := iter k (fun r => ev T P a r) (fun r => ev T P b r) hd r
@[simp] theorem iterV_seq (a b : Ex) (hd : Bool) (r : Env) : iterV T P .seq a b hd r = bnd (ev T P a r) (k := ⟨fun x r => bnd (R.of (seqOf hd x.1 x.2 r []) r) (k := ⟨fun p _ => .ok (p.1, p.2.2) p.2.1⟩)⟩) := by
  unfold iterV iter; dsimp only
  cases ev T P a r with
  | ok x r1 => rw [bnd_ok]; simp only [R.bind_ok]; cases seqOf hd x.1 x.2 r1 [] <;> rfl
  | exc c r1 => rfl
  | bad => rfl
@[simp] theorem iterV_rng (a b : Ex) (hd : Bool) (r : Env) : iterV T P .rng a b hd r = bnd (ev T P a r) (k := ⟨fun x r => bnd (ev T P b r) (k := ⟨fun y r => match x.1, y.1 with
    | .int a, .int b => if rngOk a b then .ok (rngL a (b - a).toNat, []) r else .bad
    | _, _ => .bad⟩)⟩) := rfl
@[simp] theorem iterV_enm (a b : Ex) (hd : Bool) (r : Env) : iterV T P .enm a b hd r = bnd (ev T P a r) (k := ⟨fun x r => match x.1 with
    | .lst _ => bnd (R.of (seqOf hd x.1 x.2 r []) r) (k := ⟨fun p _ => .ok (enumT 0 p.1, p.2.2) p.2.1⟩)
    | _ => .bad⟩) := by
  unfold iterV iter; dsimp only
  cases ev T P a r with
  | ok x r1 =>
    obtain ⟨v, f⟩ := x
    rw [bnd_ok]; simp only [R.bind_ok]
    cases v <;> simp only
    case lst l => cases seqOf hd (.lst l) f r1 [] <;> rfl
  | exc c r1 => rfl
  | bad => rfl
@[simp] theorem ev_const_ (v : PV) (r : Env) : ev T P (.const v) r = if v.isM then .bad else .ok (v, .own) r := by rw [ev]
@[simp] theorem ev_var_ (i : Nat) (r : Env) : ev T P (.var i) r = match get r i with
    | some (v, o) => .ok (v, if v.isM then (if o then .al i else .frz) else .own) r
    | none => .bad := by first | (rw [ev]; done) | (rw [ev]; rfl)
@[simp] theorem ev_tupd_ (es : List Ex) (r : Env) : ev T P (.tupd es) r = bnd (evs T P es r) (k := ⟨fun vs r => .ok (.tup vs, .own) r⟩) := by first | (rw [ev]; done) | (rw [ev]; rfl)
@[simp] theorem ev_lstd_ (es : List Ex) (r : Env) : ev T P (.lstd es) r = bnd (evs T P es r) (k := ⟨fun vs r => .ok (.lst vs, .own) r⟩) := by first | (rw [ev]; done) | (rw [ev]; rfl)
@[simp] theorem ev_dctn_ (r : Env) : ev T P .dctn r = .ok (.dct [] [], .own) r := by rw [ev]
@[simp] theorem ev_dct1_ (k v : Ex) (r : Env) : ev T P (.dct1 k v) r = bnd (ev T P k r) (k := ⟨fun x r1 => bnd (ev T P v r1) (k := ⟨fun y r2 => bnd (R.of (sink y.1 y.2 r2) r2) (k := ⟨fun r3 _ => R.chk (isInt x.1 || isStr x.1) (.ok (.dct [x.1] [y.1], .own) r3)⟩)⟩)⟩) := by first | (rw [ev]; done) | (rw [ev]; rfl)
@[simp] theorem ev_bin_ (op : BOp) (a b : Ex) (r : Env) : ev T P (.bin op a b) r = bnd (ev T P a r) (k := ⟨fun x r1 => bnd (ev T P b r1) (k := ⟨fun y r2 => R.chk (okOp op x.1 x.2 r1 r2) (bnd (R.of (binop op x.1 y.1) r2) (k := ⟨fun v r => .ok (v, if op = .get then .frz else .own) r⟩))⟩)⟩) := by first | (rw [ev]; done) | (rw [ev]; rfl)
@[simp] theorem ev_neg_ (a : Ex) (r : Env) : ev T P (.neg a) r = bnd (ev T P a r) (k := ⟨fun x r => match x.1 with
    | .int i => .ok (.int (-i), .own) r
    | _ => .bad⟩) := by first | (rw [ev]; done) | (rw [ev]; rfl)
@[simp] theorem ev_nt_ (a : Ex) (r : Env) : ev T P (.nt a) r = bnd (asB (ev T P a r)) (k := ⟨fun b r => .ok (.bl (!b), .own) r⟩) := by first | (rw [ev]; done) | (rw [ev]; rfl)
@[simp] theorem ev_isN_ (n : Bool) (a : Ex) (r : Env) : ev T P (.isN n a) r = bnd (ev T P a r) (k := ⟨fun x r => .ok (.bl (if n then !decide (x.1 = .non) else decide (x.1 = .non)), .own) r⟩) := by first | (rw [ev]; done) | (rw [ev]; rfl)
@[simp] theorem ev_and_ (a b : Ex) (r : Env) : ev T P (.and a b) r = bnd (asB (ev T P a r)) (k := ⟨fun x r => iteR x (x := ⟨ev T P b r⟩) (y := ⟨.ok (.bl false, .own) r⟩)⟩) := by first | (rw [ev]; done) | (rw [ev]; rfl)
@[simp] theorem ev_or_ (a b : Ex) (r : Env) : ev T P (.or a b) r = bnd (asB (ev T P a r)) (k := ⟨fun x r => iteR x (x := ⟨.ok (.bl true, .own) r⟩) (y := ⟨ev T P b r⟩)⟩) := by first | (rw [ev]; done) | (rw [ev]; rfl)
@[simp] theorem ev_ife_ (c a b : Ex) (r : Env) : ev T P (.ife c a b) r = bnd (asB (ev T P c r)) (k := ⟨fun x r => iteR x (x := ⟨ev T P a r⟩) (y := ⟨ev T P b r⟩)⟩) := by first | (rw [ev]; done) | (rw [ev]; rfl)
@[simp] theorem ev_ch_ (o1 o2 : BOp) (a b c : Ex) (r : Env) : ev T P (.ch o1 o2 a b c) r = bnd (ev T P a r) (k := ⟨fun x r1 => bnd (ev T P b r1) (k := ⟨fun y r2 => match x.1, y.1 with
    | .int i, .int j => bnd (asB (bnd (R.of (binop o1 (.int i) (.int j)) r2) (k := ⟨fun v r => .ok (v, .own) r⟩))) (k := ⟨fun d r3 => chB T P o2 c j d r3⟩)
    | _, _ => .bad⟩)⟩) := by first | (rw [ev]; done) | (rw [ev]; rfl)
@[simp] theorem ev_comp_ (elt : Ex) (t : Tg) (k : ItK) (a b : Ex) (cs : List Ex) (own : List Nat) (hd : Bool) (r : Env) : ev T P (.comp elt t k a b cs own hd) r =
    bnd (iterV T P k a b hd r) (k := ⟨fun p r1 => R.chk (decide (p.1.length ≤ line)) (compEv T P elt t cs own p.1 p.2 r1)⟩) := by first | (rw [ev]; done) | (rw [ev]; rfl)
@[simp] theorem ev_ix_ (a i : Ex) (r : Env) : ev T P (.ix a i) r = bnd (ev T P a r) (k := ⟨fun x r1 => bnd (ev T P i r1) (k := ⟨fun y r2 => R.chk (okAl x.1 x.2 r1 r2) (bnd (R.of (index x.1 y.1) r2) (k := ⟨fun v r => .ok (v, .frz) r⟩))⟩)⟩) := by first | (rw [ev]; done) | (rw [ev]; rfl)
@[simp] theorem ev_sl_ (a lo hi : Ex) (r : Env) : ev T P (.sl a lo hi) r = bnd (ev T P a r) (k := ⟨fun x r1 => bnd (ev T P lo r1) (k := ⟨fun y r => R.chk (optI y.1).isSome (bnd (ev T P hi r) (k := ⟨fun z r2 => R.chk (okAl x.1 x.2 r1 r2) (bnd (R.of (slice x.1 y.1 z.1) r2) (k := ⟨fun v r => .ok (v, .own) r⟩))⟩))⟩)⟩) := by first | (rw [ev]; done) | (rw [ev]; rfl)
@[simp] theorem ev_rev_ (a : Ex) (r : Env) : ev T P (.rev a) r = bnd (ev T P a r) (k := ⟨fun x r => match x.1 with
    | .lst l => .ok (.lst l.reverse, .own) r
    | _ => .bad⟩) := by first | (rw [ev]; done) | (rw [ev]; rfl)
@[simp] theorem ev_call_ (f : Nat) (es : List Ex) (r : Env) : ev T P (.call f es) r = bnd (evA T P es r) (k := ⟨fun as r => doCall P f as r⟩) := by first | (rw [ev]; done) | (rw [ev]; rfl)
@[simp] theorem ev_cal_ (S : List Nat) (g : Ex) (es : List Ex) (r : Env) : ev T P (.cal S g es) r = bnd (ev T P g r) (k := ⟨fun x r => match x.1 with
    | .fn f => R.chk (S.contains f) (bnd (evA T P es r) (k := ⟨fun as r => doCall P f as r⟩))
    | _ => .bad⟩) := by first | (rw [ev]; done) | (rw [ev]; rfl)
@[simp] theorem ev_bm_ (op : BOp) (a b : Ex) (r : Env) : ev T P (.bm op a b) r = bnd (ev T P a r) (k := ⟨fun x r1 => R.chk (tyM op x.1) (bnd (ev T P b r1) (k := ⟨fun y r2 => R.chk (okOp op x.1 x.2 r1 r2) (bnd (R.of (binop op x.1 y.1) r2) (k := ⟨fun v r => .ok (v, if op = .get then .frz else .own) r⟩))⟩))⟩) := by first | (rw [ev]; done) | (rw [ev]; rfl)
@[simp] theorem ev_isE_ (i n : Nat) (b : Bool) (r : Env) : ev T P (.isE i n b) r = if get r i = some (.fn n, true) then .ok (.bl b, .own) r else .bad := by rw [ev]
@[simp] theorem ev_popi_ (i : Nat) (a : Ex) (r : Env) : ev T P (.popi i a) r = R.chk (isLst (get r i)) (bnd (ev T P a r) (k := ⟨fun x r => match x.1 with
    | .int j => modL i (gPopi j) r
    | _ => .bad⟩)) := by first | (rw [ev]; done) | (rw [ev]; rfl)
@[simp] theorem ev_b1_ (b : Bi) (a : Ex) (r : Env) : ev T P (.b1 b a) r = bnd (ev T P a r) (k := ⟨fun x r => bnd (R.of (b1op b x.1) r) (k := ⟨fun v r => .ok (v, if b = .min ∨ b = .max then .frz else .own) r⟩)⟩) := by first | (rw [ev]; done) | (rw [ev]; rfl)
@[simp] theorem ev_isin_ (a : Ex) (c : Ty) (r : Env) : ev T P (.isin a c) r = bnd (ev T P a r) (k := ⟨fun x r => bnd (R.of (tyIs x.1 c) r) (k := ⟨fun b r => .ok (.bl b, .own) r⟩)⟩) := by first | (rw [ev]; done) | (rw [ev]; rfl)
@[simp] theorem ev_rng_ (tq : Bool) (a b : Ex) (r : Env) : ev T P (.rng tq a b) r = bnd (ev T P a r) (k := ⟨fun x r => bnd (ev T P b r) (k := ⟨fun y r => match x.1, y.1 with
    | .int i, .int j => if rngOk i j then .ok (if tq then .tup (rngL i (j - i).toNat) else .lst (rngL i (j - i).toNat), .own) r else .bad
    | _, _ => .bad⟩)⟩) := by first | (rw [ev]; done) | (rw [ev]; rfl)
@[simp] theorem ev_app_ (i : Nat) (a : Ex) (r : Env) : ev T P (.app i a) r = R.chk (isLst (get r i)) (bnd (ev T P a r) (k := ⟨fun x r => bnd (R.of (sink x.1 x.2 r) r) (k := ⟨fun r _ => modL i (gApp x.1) r⟩)⟩)) := by first | (rw [ev]; done) | (rw [ev]; rfl)
@[simp] theorem ev_ext_ (i : Nat) (a : Ex) (r : Env) : ev T P (.ext i a) r = R.chk (isLst (get r i)) (bnd (ev T P a r) (k := ⟨fun x r => bnd (R.of (lstOf i x) r) (k := ⟨fun l r => modL i (gExt l) r⟩)⟩)) := by first | (rw [ev]; done) | (rw [ev]; rfl)
@[simp] theorem ev_pop_ (i : Nat) (r : Env) : ev T P (.pop i) r = modL i gPop r := by rw [ev]
@[simp] theorem evs_nil_ (r : Env) : evs T P [] r = .ok [] r := by rw [evs]
@[simp] theorem evs_cons_ (e : Ex) (es : List Ex) (r : Env) : evs T P (e :: es) r = bnd (ev T P e r) (k := ⟨fun x r => bnd (R.of (sink x.1 x.2 r) r) (k := ⟨fun r _ => bnd (evs T P es r) (k := ⟨fun xs r => .ok (x.1 :: xs) r⟩)⟩)⟩) := by first | (rw [evs]; done) | (rw [evs]; rfl)
@[simp] theorem tests_nil_ (r : Env) : tests T P [] r = .ok true r := by rw [tests]
@[simp] theorem tests_cons_ (e : Ex) (es : List Ex) (r : Env) : tests T P (e :: es) r = bnd (asB (ev T P e r)) (k := ⟨fun b r => iteR b (x := ⟨tests T P es r⟩) (y := ⟨.ok false r⟩)⟩) := by first | (rw [tests]; done) | (rw [tests]; rfl)
def argOf (x : PV × Fl) : Option Arg :=
  if x.1.isM then match x.2 with
    | .own => some (.val x.1 true)
    | .frz => some (.val x.1 false)
    | .al j => some (.bor j)
    | .alf _ => none
  else some (.val x.1 true)
@[simp] theorem evA_nil_ (r : Env) : evA T P [] r = .ok [] r := by rw [evA]
@[simp] theorem evA_cons_ (e : Ex) (es : List Ex) (r : Env) : evA T P (e :: es) r = bnd (ev T P e r) (k := ⟨fun x r => bnd (R.of (argOf x) r) (k := ⟨fun a _ => bnd (evA T P es r) (k := ⟨fun as r => .ok (a :: as) r⟩)⟩)⟩) := by
  rw [evA]; congr 1; funext x r; obtain ⟨v, f⟩ := x
  unfold argOf; dsimp only
  cases v.isM
  · rfl
  · cases f <;> rfl
@[simp] theorem evP_nil_ (r : Env) : evP T P [] r = .ok [] r := by rw [evP]
@[simp] theorem evP_cons_ (e : Ex) (es : List Ex) (r : Env) : evP T P (e :: es) r = bnd (ev T P e r) (k := ⟨fun x r => bnd (R.of (parOf x r) r) (k := ⟨fun p _ => bnd (evP T P es p.2) (k := ⟨fun xs r => .ok (p.1 :: xs) r⟩)⟩)⟩) := by first | (rw [evP]; done) | (rw [evP]; rfl)
@[simp] theorem ex_asg_ (t : Tg) (e : Ex) (r : Env) : ex T P (.asg t e) r = bnd (ev T P e r) (k := ⟨fun x r => bnd (R.of (assign t x.1 x.2 r) r) (k := ⟨fun r _ => .ok .nx r⟩)⟩) := by first | (rw [ex]; done) | (rw [ex]; rfl)
@[simp] theorem ex_par_ (is : List Nat) (es : List Ex) (r : Env) : ex T P (.par is es) r = bnd (evP T P es r) (k := ⟨fun xs r => bnd (R.of (setP is xs r) r) (k := ⟨fun r _ => .ok .nx r⟩)⟩) := by first | (rw [ex]; done) | (rw [ex]; rfl)
@[simp] theorem ex_exp_ (e : Ex) (r : Env) : ex T P (.exp e) r = bnd (ev T P e r) (k := ⟨fun _ r => .ok .nx r⟩) := by first | (rw [ex]; done) | (rw [ex]; rfl)
@[simp] theorem ex_ife_ (c : Ex) (a b : List St) (r : Env) : ex T P (.ife c a b) r = bnd (asB (ev T P c r)) (k := ⟨fun x r => iteR x (x := ⟨exs T P a r⟩) (y := ⟨exs T P b r⟩)⟩) := by first | (rw [ex]; done) | (rw [ex]; rfl)
@[simp] theorem ex_whl_ (c : Ex) (b : List St) (r : Env) : ex T P (.whl c b) r = whlEv T P c b turns r := by first | (rw [ex]; done) | (rw [ex]; rfl)
@[simp] theorem ex_fr_ (t : Tg) (k : ItK) (a b : Ex) (body : List St) (hd : Bool) (r : Env) : ex T P (.fr t k a b body hd) r = bnd (iterV T P k a b hd r) (k := ⟨fun p r1 => forEv T P t body p.1 p.2 r1⟩) := by first | (rw [ex]; done) | (rw [ex]; rfl)
@[simp] theorem ex_ret_ (e : Ex) (r : Env) : ex T P (.ret e) r = bnd (ev T P e r) (k := ⟨fun x r => .ok (.rt x.1 x.2) r⟩) := by first | (rw [ex]; done) | (rw [ex]; rfl)
@[simp] theorem ex_rse_ (c : Nat) (r : Env) : ex T P (.rse c) r = .exc c r := by rw [ex]
def trR (T : Tab) (P : Fns) (c i : Nat) (x : R Flow) : R Flow := match x with
    | .exc d r' => match T.wh c d with
      | some f => if r'[i]? = some none then (match P f [(.fn 999, true)] with
        | .ok v true _ => if keyT v then .ok (.rt v .own) r' else .bad
        | _ => .bad) else .bad
      | none => .bad
    | x => x
@[simp] theorem trR_ok (c i : Nat) (fl : Flow) (r : Env) : trR T P c i (.ok fl r) = .ok fl r := rfl
@[simp] theorem ex_tr_ (body : List St) (c i : Nat) (r : Env) : ex T P (.tr body c i) r = trR T P c i (exs T P body r) := by first | (rw [ex]; done) | (rw [ex]; rfl)
@[simp] theorem ex_brk_ (r : Env) : ex T P .brk r = .ok .bk r := by rw [ex]
@[simp] theorem ex_pass_ (r : Env) : ex T P .pass r = .ok .nx r := by rw [ex]
@[simp] theorem ex_sti_ (i : Nat) (k e : Ex) (r : Env) : ex T P (.sti i k e) r = bnd (ev T P e r) (k := ⟨fun x r => bnd (R.of (sink x.1 x.2 r) r) (k := ⟨fun r _ => R.chk (get r i).isSome (bnd (ev T P k r) (k := ⟨fun y r => stI i x.1 y.1 r⟩))⟩)⟩) := by first | (rw [ex]; done) | (rw [ex]; rfl)
@[simp] theorem exs_nil_ (r : Env) : exs T P [] r = .ok .nx r := by rw [exs]
@[simp] theorem exs_cons_ (s : St) (ss : List St) (r : Env) : exs T P (s :: ss) r = sqR (ex T P s r) (k := ⟨fun r => exs T P ss r⟩) := by first | (rw [exs]; done) | (rw [exs]; rfl)
@[simp] theorem asB_ok (b : Bool) (f : Fl) (r : Env) : asB (.ok (.bl b, f) r) = .ok b r := rfl
@[simp] theorem get0 (a : Slot) (l : Env) : get (a :: l) 0 = a := by simp [PL.get]
@[simp] theorem getS (a : Slot) (l : Env) (n : Nat) : get (a :: l) (n + 1) = get l n := by simp [PL.get]
end
/-! ## values that do not change, flags -/
section
@[simp] theorem isM_non : isM .non = false := by simp [isM]
@[simp] theorem isM_bl (b : Bool) : isM (.bl b) = false := by simp [isM]
@[simp] theorem isM_int (i : Int) : isM (.int i) = false := by simp [isM]
@[simp] theorem isM_str (i : List Nat) : isM (.str i) = false := by simp [isM]
@[simp] theorem isM_tup (i : List PV) : isM (.tup i) = false := by simp [isM]
@[simp] theorem isM_fn (i : Nat) : isM (.fn i) = false := by simp [isM]
@[simp] theorem isM_lst (i : List PV) : isM (.lst i) = true := by simp [isM]
@[simp] theorem isM_dct (k i : List PV) : isM (.dct k i) = true := by simp [isM]
@[simp] theorem isM_ins (c : Nat) (n : List (List Nat)) (i : List PV) : isM (.ins c n i) = true := by simp [isM]
@[simp] theorem okAl_no {v : PV} (h : v.isM = false) (f : Fl) (r r' : Env) : okAl v f r r' = true := by simp [okAl, h]
@[simp] theorem okAl_own (v : PV) (r r' : Env) : okAl v .own r r' = true := by simp [okAl]
@[simp] theorem okAl_frz (v : PV) (r r' : Env) : okAl v .frz r r' = true := by simp [okAl]
@[simp] theorem okAl_al (v : PV) (j : Nat) (r : Env) : okAl v (.al j) r r = true := by simp [okAl]
theorem okAl_al2 (v : PV) (j : Nat) (r r' : Env) (h : get r j = get r' j) : okAl v (.al j) r r' = true := by simp [okAl, h]
@[simp] theorem okOp_no {op : BOp} {v : PV} (h : v.isM = false) (f : Fl) (r r' : Env) : okOp op v f r r' = true := by simp [okOp, h]
@[simp] theorem okOp_own (op : BOp) (v : PV) (r r' : Env) : okOp op v .own r r' = true := by simp [okOp]
@[simp] theorem okOp_ne {op : BOp} (h : op ≠ .mul) (v : PV) (f : Fl) (r r' : Env) : okOp op v f r r' = okAl v f r r' := by simp [okOp, h]
@[simp] theorem sink_no {v : PV} (h : v.isM = false) (f : Fl) (r : Env) : sink v f r = some r := by simp [sink, h]
@[simp] theorem sink_own (l : List PV) (r : Env) : sink (.lst l) .own r = some r := rfl
@[simp] theorem sink_frz (l : List PV) (r : Env) : sink (.lst l) .frz r = some r := rfl
@[simp] theorem sink_al (l : List PV) (j : Nat) (r : Env) : sink (.lst l) (.al j) r = frzS r j := rfl
@[simp] theorem setS_no {v : PV} (h : v.isM = false) (i : Nat) (f : Fl) (r : Env) : setS i v f r = some (r.set i (some (v, true))) := by simp [setS, h]
@[simp] theorem setS_own (v : PV) (i : Nat) (r : Env) : setS i v .own r = some (r.set i (some (v, true))) := by simp [setS]
@[simp] theorem setS_frzL (l : List PV) (i : Nat) (r : Env) : setS i (.lst l) .frz r = some (r.set i (some (.lst l, false))) := rfl
@[simp] theorem setS_alL (l : List PV) (i j : Nat) (r : Env) : setS i (.lst l) (.al j) r = (frzS r j).map fun r' => r'.set i (some (.lst l, false)) := rfl
@[simp] theorem assign_nm (i : Nat) (v : PV) (f : Fl) (r : Env) : assign (.nm i) v f r = setS i v f r := by rw [assign]
@[simp] theorem assign_tpT (ts : List Tg) (l : List PV) (f : Fl) (r : Env) : assign (.tp ts) (.tup l) f r = assigns ts l r := by rw [assign]
@[simp] theorem assign_tpL (ts : List Tg) (l : List PV) (r : Env) : assign (.tp ts) (.lst l) .own r = assigns ts l r := by rw [assign]; rfl
@[simp] theorem assigns_nil (r : Env) : assigns [] [] r = some r := by rw [assigns]
@[simp] theorem assigns_cons (t : Tg) (ts : List Tg) (v : PV) (vs : List PV) (r : Env) : assigns (t :: ts) (v :: vs) r = (assign t v .frz r).bind fun r' => assigns ts vs r' := by rw [assigns]
@[simp] theorem argOf_no {v : PV} (h : v.isM = false) (f : Fl) : argOf (v, f) = some (.val v true) := by simp [argOf, h]
@[simp] theorem argOf_ownL (l : List PV) : argOf (.lst l, .own) = some (.val (.lst l) true) := rfl
@[simp] theorem argOf_frzL (l : List PV) : argOf (.lst l, .frz) = some (.val (.lst l) false) := rfl
@[simp] theorem argOf_alL (l : List PV) (j : Nat) : argOf (.lst l, .al j) = some (.bor j) := rfl
@[simp] theorem argOf_ownD (l m : List PV) : argOf (.dct l m, .own) = some (.val (.dct l m) true) := rfl
@[simp] theorem argOf_alD (l m : List PV) (j : Nat) : argOf (.dct l m, .al j) = some (.bor j) := rfl
@[simp] theorem retV_no (d : FD) {v : PV} (h : v.isM = false) (f : Fl) (r : Env) : retV d v f r = some (v, true, r) := by simp [retV, h]
@[simp] theorem retV_own (d : FD) (v : PV) (r : Env) : retV d v .own r = some (v, true, r) := by simp [retV]
@[simp] theorem retV_frzL (d : FD) (l : List PV) (r : Env) : retV d (.lst l) .frz r = some (.lst l, false, r) := rfl
theorem retV_alL (d : FD) (l : List PV) (j : Nat) (r : Env) : retV d (.lst l) (.al j) r = if j < d.np then (frzS r j).map fun r' => (.lst l, false, r') else some (.lst l, true, r) := rfl
@[simp] theorem backA_nil (rb : List Nat) (r : Env) (i : Nat) : backA rb r i [] = some [] := by rw [backA]
@[simp] theorem backA_no {v : PV} (h : v.isM = false) (rb : List Nat) (r : Env) (i : Nat) (o : Bool) (as : List (PV × Bool)) : backA rb r i ((v, o) :: as) = (backA rb r (i + 1) as).map ((v, o) :: ·) := by rw [backA]; simp [h]
theorem backA_M {v : PV} (h : v.isM = true) (rb : List Nat) (r : Env) (i : Nat) (o : Bool) (as : List (PV × Bool)) : backA rb r i ((v, o) :: as) = if rb.contains i then none else match get r i with
    | some (v', o') => if v'.isM then (backA rb r (i + 1) as).map ((v', o') :: ·) else none
    | none => none := by rw [backA]; simp only [h, if_true]; try rfl
@[simp] theorem backA_lst (l : List PV) (rb : List Nat) (r : Env) (i : Nat) (o : Bool) (as : List (PV × Bool)) : backA rb r i ((.lst l, o) :: as) = if rb.contains i then none else match get r i with
    | some (v', o') => if v'.isM then (backA rb r (i + 1) as).map ((v', o') :: ·) else none
    | none => none := backA_M rfl _ _ _ _ _
@[simp] theorem backA_dct (l m : List PV) (rb : List Nat) (r : Env) (i : Nat) (o : Bool) (as : List (PV × Bool)) : backA rb r i ((.dct l m, o) :: as) = if rb.contains i then none else match get r i with
    | some (v', o') => if v'.isM then (backA rb r (i + 1) as).map ((v', o') :: ·) else none
    | none => none := backA_M rfl _ _ _ _ _
/-- a callee's answer comes back -/
def backR (as : List Arg) (r : Env) : Res → R (PV × Fl)
  | .ok v o vs' => .ok (v, if o then .own else .frz) (wrBack as vs' r)
  | .exc c vs' => .exc c (wrBack as vs' r)
  | .bad => .bad
@[simp] theorem backR_ok (as : List Arg) (r : Env) (v : PV) (o : Bool) (vs' : List (PV × Bool)) : backR as r (.ok v o vs') = .ok (v, if o then .own else .frz) (wrBack as vs' r) := rfl
@[simp] theorem backR_exc (as : List Arg) (r : Env) (c : Nat) (vs' : List (PV × Bool)) : backR as r (.exc c vs') = .exc c (wrBack as vs' r) := rfl
/-- the call, when the arguments are known -/
def callR (P : Fns) (f : Nat) (as : List Arg) (r : Env) : Option (List (PV × Bool)) → R (PV × Fl)
  | some vs => backR as r (P f vs)
  | none => .bad
@[simp] theorem callR_some (P : Fns) (f : Nat) (as : List Arg) (r : Env) (vs : List (PV × Bool)) : callR P f as r (some vs) = backR as r (P f vs) := rfl
@[simp] theorem doCall_ (P : Fns) (f : Nat) (as : List Arg) (r : Env) : doCall P f as r = if nodupB (bors as) then callR P f as r (argVals as r) else .bad := by
  unfold doCall
  split
  · cases argVals as r with
    | none => rfl
    | some vs => simp only [callR_some]; cases P f vs <;> rfl
  · rfl
@[simp] theorem bors_nil : bors [] = [] := rfl
@[simp] theorem bors_val (v : PV) (o : Bool) (l : List Arg) : bors (.val v o :: l) = bors l := rfl
@[simp] theorem bors_bor (j : Nat) (l : List Arg) : bors (.bor j :: l) = j :: bors l := rfl
@[simp] theorem nodupB_nil : nodupB [] = true := rfl
@[simp] theorem nodupB_cons (a : Nat) (l : List Nat) : nodupB (a :: l) = (!l.contains a && nodupB l) := rfl
@[simp] theorem argVals_nil (r : Env) : argVals [] r = some [] := rfl
@[simp] theorem argVals_val (v : PV) (o : Bool) (l : List Arg) (r : Env) : argVals (.val v o :: l) r = (argVals l r).map ((v, o) :: ·) := rfl
@[simp] theorem argVals_bor (j : Nat) (l : List Arg) (r : Env) : argVals (.bor j :: l) r = (get r j).bind fun p => (argVals l r).map (p :: ·) := rfl
@[simp] theorem wrBack_nil (vs : List (PV × Bool)) (r : Env) : wrBack [] vs r = r := by cases vs <;> rfl
@[simp] theorem wrBack_val (v : PV) (o : Bool) (l : List Arg) (p : PV × Bool) (ps : List (PV × Bool)) (r : Env) : wrBack (.val v o :: l) (p :: ps) r = wrBack l ps r := by rw [wrBack]
@[simp] theorem wrBack_bor (j : Nat) (l : List Arg) (p : PV × Bool) (ps : List (PV × Bool)) (r : Env) : wrBack (.bor j :: l) (p :: ps) r = wrBack l ps (r.set j (some p)) := by rw [wrBack]
@[simp] theorem finR_rt (d : FD) (as : List (PV × Bool)) (v : PV) (f : Fl) (r : Env) : finR d as (.ok (.rt v f) r) = match retV d v f r with
    | some (v, o, r) => match backA d.rb r 0 as with
      | some bs => .ok v o bs
      | none => .bad
    | none => .bad := rfl
@[simp] theorem finR_nx (d : FD) (as : List (PV × Bool)) (r : Env) : finR d as (.ok .nx r) = match backA d.rb r 0 as with
    | some bs => .ok .non true bs
    | none => .bad := rfl
@[simp] theorem finR_exc (d : FD) (as : List (PV × Bool)) (c : Nat) (r : Env) : finR d as (.exc c r) = match backA d.rb r 0 as with
    | some bs => .exc c bs
    | none => .bad := rfl
@[simp] theorem asB_exc (c : Nat) (r : Env) : asB (.exc c r) = .exc c r := rfl
@[simp] theorem startE_ (d : FD) (as : List (PV × Bool)) : startE d as = as.map some ++ List.replicate (d.ns - d.np) none := rfl
@[simp] theorem frzS_at (r : Env) (j : Nat) (l : List PV) (o : Bool) (h : get r j = some (.lst l, o)) : frzS r j = some (r.set j (some (.lst l, false))) := by simp [frzS, h]
end
/-! ## turns -/
theorem wipeS_len (own : List Nat) : ∀ r : Env, (wipeS own r).length = r.length := by
  induction own with
  | nil => intro r; rfl
  | cons i is ih => intro r; rw [wipeS, ih, List.length_set]
theorem wipeS_idem (own : List Nat) (r : Env) : wipeS own (wipeS own r) = wipeS own r := by
  have hget : ∀ (own : List Nat) (r : Env) (j : Nat), (wipeS own r)[j]? = if j ∈ own ∧ j < r.length then some none else r[j]? := by
    intro own
    induction own with
    | nil => intro r j; simp [wipeS]
    | cons i is ih =>
      intro r j; rw [wipeS, ih, List.length_set, List.getElem?_set]
      by_cases h1 : j ∈ is <;> by_cases h2 : i = j <;> by_cases h3 : j < r.length <;> simp [h1, h2, h3, eq_comm]
      all_goals (try subst h2) <;> simp_all
  apply List.ext_getElem?; intro j
  rw [hget, hget, wipeS_len]; split <;> rfl
theorem backS_get (old : Env) : ∀ (own : List Nat) (r : Env) (j : Nat), (backS old own r)[j]? = if j ∈ own ∧ j < r.length then some (get old j) else r[j]? := by
  intro own
  induction own with
  | nil => intro r j; simp [backS]
  | cons i is ih =>
    intro r j; rw [backS, ih, List.length_set, List.getElem?_set]
    by_cases h1 : j ∈ is <;> by_cases h2 : i = j <;> by_cases h3 : j < r.length <;> simp [h1, h2, h3, eq_comm]
    all_goals (try subst h2) <;> simp_all
end PQ

set_option linter.all false
set_option maxRecDepth 100000
namespace PQ
open PL
open PV
/-! ## draws -/
theorem dats_ints : ∀ ns : List Int, dats (ns.map .int) = true
  | [] => rfl
  | n :: ns => by rw [List.map_cons, dats, dats_ints ns]; rfl
theorem deps_ints : ∀ ns : List Int, deps (ns.map .int) = 0
  | [] => rfl
  | n :: ns => by rw [List.map_cons, deps, deps_ints ns]; rfl
/-- a script -/
def scr (ns : List Int) : PV := .lst (ns.map .int)
/-- the list that counts draws -/
def town (k : Nat) : PV := .lst (List.replicate k (.int 0))
@[simp] theorem isM_scr (ns : List Int) : isM (scr ns) = true := by simp [scr]
@[simp] theorem isM_town (k : Nat) : isM (town k) = true := by simp [town]
@[simp] theorem argOf_scr (ns : List Int) : argOf (scr ns, .frz) = some (.val (scr ns) false) := by simp [scr]
@[simp] theorem argOf_town (k j : Nat) : argOf (town k, .al j) = some (.bor j) := by simp [town]
@[simp] theorem backA_scr (ns : List Int) (rb : List Nat) (r : Env) (i : Nat) (o : Bool) (as : List (PV × Bool)) : backA rb r i ((scr ns, o) :: as) = if rb.contains i then none else match PL.get r i with
    | some (v', o') => if v'.isM then (backA rb r (i + 1) as).map ((v', o') :: ·) else none
    | none => none := backA_M (isM_scr ns) _ _ _ _ _
@[simp] theorem backA_town (k : Nat) (rb : List Nat) (r : Env) (i : Nat) (o : Bool) (as : List (PV × Bool)) : backA rb r i ((town k, o) :: as) = if rb.contains i then none else match PL.get r i with
    | some (v', o') => if v'.isM then (backA rb r (i + 1) as).map ((v', o') :: ·) else none
    | none => none := backA_M (isM_town k) _ _ _ _ _
theorem small_of {d : Int} (h0 : 0 ≤ d) (h1 : d < 2147483647) : smallI d = true := by
  simp [smallI]; omega
theorem run_cell {T : Tab} (hT : T.fns 100 = some d_L1_cell_at) (n : Nat) (ns : List Int) (k : Nat) :
    ∃ i : Int, run T (n + 1) 100 [(scr ns, false), (.int k, true)] = .ok (.int i) true [(scr ns, false), (.int k, true)] := by
  unfold scr
  rw [run_of (d := d_L1_cell_at) hT rfl]
  by_cases h : k < ns.length
  · refine ⟨ns[k], ?_⟩
    simp [d_L1_cell_at, b1op, binop, h, index, pidx, binop]
  · have hk : ¬ (k : Int) < 0 := by omega
    by_cases h2 : ns = []
    · subst h2
      refine ⟨0, ?_⟩
      simp [d_L1_cell_at, b1op, binop, index, pidx, dat, dats, dep, deps, peq, peqs, hk]
    · have hl : 0 < ns.length := List.length_pos_iff.mpr h2
      have hp : peqs (ns.map .int) [] = false := by cases ns with | nil => exact absurd rfl h2 | cons => rfl
      have hm : k % ns.length < ns.length := Nat.mod_lt _ hl
      have e1 : ((k : Int) % (ns.length : Int)) = ((k % ns.length : Nat) : Int) := by simp
      refine ⟨ns[k % ns.length] * 31 + k, ?_⟩
      have s31 : smallI 31 = true := by decide
      simp [d_L1_cell_at, b1op, binop, h, index, pidx, dat, dats, dep, deps, peq, peqs, dats_ints, deps_ints, hp, hl, s31, e1, hm, -Int.natCast_emod]
theorem cell_same : d_L2_cell_at = d_L1_cell_at := rfl
theorem run_mixed1 {T : Tab} [h0 : HasL1 T 100] [h1 : HasL1 T 101] (n : Nat) (ns : List Int) (k m : Nat) (hm : 0 < m) :
    ∃ d : Nat, d < m ∧ run T (n + 2) 101 [(scr ns, false), (.int k, true), (.int m, true)] = .ok (.int d) true [(scr ns, false), (.int k, true), (.int m, true)] := by
  obtain ⟨c, hc⟩ := run_cell (T := T) h0.eq n ns k
  generalize hd : ((c + 7919 * (k : Int) + 1) * 48271) % 2147483647 = d
  have d0 : 0 ≤ d := by omega
  have d1 : d < 2147483647 := by omega
  have e0 : 0 ≤ (d * d + 7 * d + k) % 2147483629 % (m : Int) := Int.emod_nonneg _ (by omega)
  have e1 : (d * d + 7 * d + k) % 2147483629 % (m : Int) < m := Int.emod_lt_of_pos _ (by omega)
  refine ⟨((d * d + 7 * d + k) % 2147483629 % (m : Int)).toNat, by omega, ?_⟩
  rw [Int.toNat_of_nonneg e0, run_of (d := d_L1_mixed) h1.eq rfl]
  have s1 : smallI 7919 = true := by decide
  have s2 : smallI 48271 = true := by decide
  have s3 : smallI d = true := small_of d0 d1
  have s4 : smallI 7 = true := by decide
  simp [d_L1_mixed, b1op, binop, index, pidx, hc, s1, s2, s3, s4, hd, hm, -Int.natCast_emod]
theorem run_mixed2 {T : Tab} [h0 : HasL2 T 100] [h1 : HasL2 T 101] (n : Nat) (ns : List Int) (k m : Nat) (hm : 0 < m) :
    ∃ d : Nat, d < m ∧ run T (n + 2) 101 [(scr ns, false), (.int k, true), (.int m, true)] = .ok (.int d) true [(scr ns, false), (.int k, true), (.int m, true)] := by
  obtain ⟨c, hc⟩ := run_cell (T := T) (h0.eq.trans rfl) n ns k
  generalize hd : ((c * 1103515245 + 7919 * (k : Int) + 12345)) % 2147483647 = d
  have d0 : 0 ≤ d := by omega
  have d1 : d < 2147483647 := by omega
  have e0 : 0 ≤ d ^ 5 % 2147483647 % 999983 % (m : Int) := Int.emod_nonneg _ (by omega)
  have e1 : d ^ 5 % 2147483647 % 999983 % (m : Int) < m := Int.emod_lt_of_pos _ (by omega)
  refine ⟨(d ^ 5 % 2147483647 % 999983 % (m : Int)).toNat, by omega, ?_⟩
  rw [Int.toNat_of_nonneg e0, run_of (d := d_L2_mixed) h1.eq rfl]
  have s1 : smallI 7919 = true := by decide
  have s2 : smallI 1103515245 = true := by decide
  have s3 : d.natAbs < 18446744073709551616 := by omega
  simp [d_L2_mixed, b1op, binop, index, pidx, hc, s1, s2, s3, hd, hm, -Int.natCast_emod]
end PQ

set_option linter.all false
set_option maxRecDepth 100000
namespace PQ
open PL
open PV
class HasDraw (T : Tab) : Prop where
  mix : ∀ (n : Nat) (ns : List Int) (k m : Nat), 0 < m → ∃ d : Nat, d < m ∧ run T (n + 2) 101 [(scr ns, false), (.int k, true), (.int m, true)] = .ok (.int d) true [(scr ns, false), (.int k, true), (.int m, true)]
  dr : T.fns 102 = some d_L1_draw
instance {T : Tab} [HasL1 T 100] [HasL1 T 101] [h : HasL1 T 102] : HasDraw T := ⟨fun n ns k m h => run_mixed1 n ns k m h, h.eq⟩
instance {T : Tab} [HasL2 T 100] [HasL2 T 101] [h : HasL2 T 102] : HasDraw T := ⟨fun n ns k m h => run_mixed2 n ns k m h, h.eq⟩
class HasPick (T : Tab) : Prop where
  pk : T.fns 103 = some d_L1_pick
instance {T : Tab} [h : HasL1 T 103] : HasPick T := ⟨h.eq⟩
instance {T : Tab} [h : HasL2 T 103] : HasPick T := ⟨h.eq⟩
theorem replicate_snoc {A : Type} (k : Nat) (a : A) : List.replicate k a ++ [a] = List.replicate (k + 1) a := by
  rw [List.replicate_succ']
theorem run_draw {T : Tab} [hD : HasDraw T] (n : Nat) (ns : List Int) (k m : Nat) (hm : 0 < m) (hk : k < 1000000) :
    ∃ d : Nat, d < m ∧ run T (n + 3) 102 [(scr ns, false), (town k, true), (.int m, true)] = .ok (.int d) true [(scr ns, false), (town (k + 1), true), (.int m, true)] := by
  obtain ⟨d, hd, e⟩ := hD.mix n ns (k + 1) m hm
  refine ⟨d, hd, ?_⟩
  rw [run_of (d := d_L1_draw) hD.dr rfl]
  have hk2 : k < line := by unfold line; omega
  have c1 : ((k : Int) + 1) = ((k + 1 : Nat) : Int) := by omega
  have t1 : PV.lst (List.replicate k (.int 0) ++ [.int 0]) = town (k + 1) := by rw [replicate_snoc]; rfl
  have m1 : modL 1 (gApp (.int 0)) [some (scr ns, false), some (town k, true), some (.int m, true)] = .ok (.non, .frz) [some (scr ns, false), some (town (k + 1), true), some (.int m, true)] := by
    rw [← t1]; simp [town, modL, gApp, hk2]
  have m2 : b1op .len (town (k + 1)) = some (.int ((k + 1 : Nat) : Int)) := by simp [town, b1op]
  have m3 : isLst (some (town k, true)) = true := by simp [town, isLst]
  simp [d_L1_draw, m1, m2, m3, e, -Int.natCast_add]
/-- the flag of a value that is told -/
def flg (v : PV) : Bool := !v.isM
theorem retV_ix (d : FD) (v : PV) (h : v.isM = true → ∃ l, v = .lst l) (r : Env) : retV d v .frz r = some (v, flg v, r) := by
  by_cases hm : v.isM = true
  · obtain ⟨l, rfl⟩ := h hm
    rfl
  · simp [retV, flg, hm]
theorem run_pick {T : Tab} [hD : HasDraw T] [hP : HasPick T] (n : Nat) (ns : List Int) (k : Nat) (L : List PV) (o : Bool) (hL : L ≠ []) (hm : ∀ v ∈ L, v.isM = true → ∃ l, v = .lst l) (hk : k < 1000000) :
    ∃ v ∈ L, run T (n + 4) 103 [(scr ns, false), (town k, true), (.lst L, o)] = .ok v (flg v) [(scr ns, false), (town (k + 1), true), (.lst L, o)] := by
  obtain ⟨d, hd, e⟩ := run_draw (T := T) n ns k L.length (List.length_pos_iff.mpr hL) hk
  refine ⟨L[d], List.getElem_mem hd, ?_⟩
  rw [run_of (d := d_L1_pick) hP.pk rfl]
  have h1 : (d : Int) < L.length := by omega
  cases o <;> simp [d_L1_pick, b1op, binop, e, index, pidx, h1, okAl_al2, retV_ix _ _ (hm _ (List.getElem_mem hd)), hd]
theorem run_pickT {T : Tab} [hD : HasDraw T] [hP : HasPick T] (n : Nat) (ns : List Int) (k : Nat) (L : List PV) (hL : L ≠ []) (hm : ∀ v ∈ L, v.isM = true → ∃ l, v = .lst l) (hk : k < 1000000) :
    ∃ v ∈ L, run T (n + 4) 103 [(scr ns, false), (town k, true), (.tup L, true)] = .ok v (flg v) [(scr ns, false), (town (k + 1), true), (.tup L, true)] := by
  obtain ⟨d, hd, e⟩ := run_draw (T := T) n ns k L.length (List.length_pos_iff.mpr hL) hk
  refine ⟨L[d], List.getElem_mem hd, ?_⟩
  rw [run_of (d := d_L1_pick) hP.pk rfl]
  have h1 : (d : Int) < L.length := by omega
  simp [d_L1_pick, b1op, binop, e, index, pidx, h1, okAl_al2, retV_ix _ _ (hm _ (List.getElem_mem hd)), hd]
/-- what may be drawn as no web -/
def odds : List PV := [.non, .int 5, .tup [], .tup [.int 0, .tup []], .tup [.int 9, .tup []], .tup [.int 2, .tup [.tup [.int 1, .int 0]]], .tup [.int 2, .tup [.tup [.int 0, .int 2]]], .tup [.int 2, .tup [.tup [.int 0, .int 0]]],
  .tup [.int 3, .tup [.tup [.int 1, .int 2], .tup [.int 0, .int 1]]], .tup [.int 2, .tup [.tup [.int 0, .int 1], .tup [.int 0, .int 1]]], .lst [.int 2, .tup []], .tup [.int 2, .lst [.tup [.int 0, .int 1]]], .tup [.bl true, .tup []], .str [50, 58, 32, 48, 45, 49]]
theorem run_odd {T : Tab} [HasDraw T] [HasPick T] [h : HasL2 T 107] (n : Nat) (ns : List Int) (k : Nat) (hk : k < 1000000) :
    ∃ v ∈ odds, run T (n + 5) 107 [(scr ns, false), (town k, true)] = .ok v (flg v) [(scr ns, false), (town (k + 1), true)] := by
  obtain ⟨v, hv, e⟩ := run_pick (T := T) n ns k odds true (by simp [odds]) (by simp [odds]) hk
  refine ⟨v, hv, ?_⟩
  rw [run_of (d := d_L2_odd) h.eq rfl]
  have hv2 : v.isM = true → ∃ l, v = .lst l := (by simp [odds] : ∀ v ∈ odds, v.isM = true → ∃ l, v = .lst l) v hv
  unfold odds at e
  simp [d_L2_odd, binop, line, e]
  have : retV d_L2_odd v (if flg v = true then Fl.own else Fl.frz) = fun r => some (v, flg v, r) := by
    funext r
    by_cases hm : v.isM = true
    · obtain ⟨l, rfl⟩ := hv2 hm
      rfl
    · simp [retV, flg, hm]
  unfold d_L2_odd at this
  rw [this]; simp
end PQ

set_option linter.all false
set_option maxRecDepth 100000
namespace PQ
open PL
open PV
/-- a law's end: True is told, the script stands -/
def told (x : R Flow) : Option (Bool × Slot) :=
  match x with
  | .ok (.rt (.bl b) f) r => some (b, get r 0)
  | _ => none
theorem fin_told {d : FD} {x : R Flow} {ns : List Int} (hd : d.rb = []) (h : told x = some (true, some (scr ns, false))) : ∃ o bs, finR d [(scr ns, false)] x = .ok (.bl true) o bs := by
  unfold told at h
  split at h
  · rename_i b f r
    simp only [Option.some.injEq, Prod.mk.injEq] at h
    obtain ⟨rfl, h⟩ := h
    refine ⟨true, [(scr ns, false)], ?_⟩
    simp [hd, h]
  · cases h

/-- a row of statements whose state is kept -/
theorem exs_append (T : Tab) (P : Fns) : ∀ (a b : List St) (r : Env), exs T P (a ++ b) r = sqR (exs T P a r) (k := ⟨fun r => exs T P b r⟩)
  | [], b, r => by simp
  | s :: a, b, r => by
    rw [List.cons_append, exs_cons_, exs_cons_]
    cases ex T P s r with
    | ok fl r' => cases fl <;> simp [exs_append T P a b]
    | exc c r' => simp
    | bad => simp
end PQ

set_option linter.all false
set_option maxRecDepth 100000
namespace PQ
open PL
open PV
/-! ## order -/
/-- values of a kind that are told apart and put in order -/
class Enc (A : Type) where
  enc : A → PV
  lt : A → A → Bool
  irr : ∀ a, lt a a = false
  tr : ∀ a b c, lt a b = true → lt b c = true → lt a c = true
  tot : ∀ a b, a ≠ b → lt a b = true ∨ lt b a = true
  peq_ : ∀ a b, peq (enc a) (enc b) = true ↔ a = b
  plt_ : ∀ a b, plt (enc a) (enc b) = lt a b
section
variable {A : Type} [E : Enc A]
def Sor (l : List A) : Prop := l.Pairwise fun a b => E.lt a b = true
theorem Sor.nodup {l : List A} (h : Sor l) : l.Nodup := List.Pairwise.imp (fun {a b} h e => by subst e; rw [E.irr] at h; cases h) h
theorem Sor.ext : ∀ {l m : List A}, Sor l → Sor m → (∀ x, x ∈ l ↔ x ∈ m) → l = m
  | [], [], _, _, _ => rfl
  | [], b :: m, _, _, h => absurd ((h b).mpr List.mem_cons_self) (by simp)
  | a :: l, [], _, _, h => absurd ((h a).mp List.mem_cons_self) (by simp)
  | a :: l, b :: m, hl, hm, h => by
    unfold Sor at hl hm
    rw [List.pairwise_cons] at hl hm
    have e : a = b := by
      rcases List.mem_cons.mp ((h a).mp List.mem_cons_self) with e | e
      · exact e
      · rcases List.mem_cons.mp ((h b).mpr List.mem_cons_self) with e2 | e2
        · exact e2.symm
        · have := E.tr _ _ _ (hl.1 b e2) (hm.1 a e)
          rw [E.irr] at this; cases this
    subst e
    have hla : a ∉ l := fun z => by have := hl.1 a z; rw [E.irr] at this; cases this
    have hma : a ∉ m := fun z => by have := hm.1 a z; rw [E.irr] at this; cases this
    rw [Sor.ext hl.2 hm.2 fun x => ?_]
    have hx := h x
    constructor
    · intro z
      rcases List.mem_cons.mp (hx.mp (List.mem_cons_of_mem _ z)) with e | e
      · exact absurd (e ▸ z) hla
      · exact e
    · intro z
      rcases List.mem_cons.mp (hx.mpr (List.mem_cons_of_mem _ z)) with e | e
      · exact absurd (e ▸ z) hma
      · exact e
def insT (a : A) : List A → List A
  | [] => [a]
  | b :: l => if E.lt b a then b :: insT a l else a :: b :: l
def srtT : List A → List A
  | [] => []
  | a :: l => insT a (srtT l)
theorem mem_insT {a x : A} : ∀ {l : List A}, x ∈ insT a l ↔ x = a ∨ x ∈ l
  | [] => by simp [insT]
  | b :: l => by
    unfold insT
    split
    · rw [List.mem_cons, mem_insT, List.mem_cons]; constructor
      · rintro (h | h | h) <;> simp [h]
      · rintro (h | h | h) <;> simp [h]
    · rw [List.mem_cons]
theorem mem_srtT {x : A} : ∀ {l : List A}, x ∈ srtT l ↔ x ∈ l
  | [] => by simp [srtT]
  | a :: l => by unfold srtT; rw [mem_insT, mem_srtT, List.mem_cons]
theorem insT_sor {a : A} : ∀ {l : List A}, Sor l → a ∉ l → Sor (insT a l)
  | [], _, _ => by unfold insT Sor; simp
  | b :: l, h, n => by
    unfold Sor at h; rw [List.pairwise_cons] at h
    have nb : a ≠ b := fun e => n (e ▸ List.mem_cons_self)
    unfold insT
    split
    · rename_i hb
      unfold Sor; rw [List.pairwise_cons]
      refine ⟨fun x hx => ?_, insT_sor h.2 fun z => n (List.mem_cons_of_mem _ z)⟩
      rcases mem_insT.mp hx with rfl | hx
      · exact hb
      · exact h.1 x hx
    · rename_i hb
      have hab : E.lt a b = true := by
        rcases E.tot a b nb with h | h
        · exact h
        · exact absurd h hb
      unfold Sor; rw [List.pairwise_cons, List.pairwise_cons]
      refine ⟨fun x hx => ?_, h⟩
      rcases List.mem_cons.mp hx with rfl | hx
      · exact hab
      · exact E.tr _ _ _ hab (h.1 x hx)
theorem srtT_sor : ∀ {l : List A}, l.Nodup → Sor (srtT l)
  | [], _ => by unfold srtT Sor; simp
  | a :: l, h => by
    rw [List.nodup_cons] at h
    unfold srtT
    exact insT_sor (srtT_sor h.2) fun z => h.1 (mem_srtT.mp z)
theorem srtT_id {l : List A} (h : Sor l) : srtT l = l := Sor.ext (srtT_sor h.nodup) h fun x => mem_srtT
theorem ins1_map (a : A) : ∀ l : List A, ins1 (E.enc a) (l.map E.enc) = (insT a l).map E.enc
  | [] => rfl
  | b :: l => by
    rw [List.map_cons, ins1, insT]
    unfold ple
    rw [E.plt_]
    cases E.lt b a <;> simp [ins1_map a l]
theorem isort_map : ∀ l : List A, isort (l.map E.enc) = (srtT l).map E.enc
  | [] => rfl
  | a :: l => by rw [List.map_cons, isort, isort_map l, ins1_map, srtT]
theorem any_map_enc (a : A) (l : List A) : ((l.map E.enc).any fun b => peq b (E.enc a)) = true ↔ a ∈ l := by
  rw [List.any_eq_true]
  constructor
  · rintro ⟨x, hx, h⟩
    obtain ⟨b, hb, rfl⟩ := List.mem_map.mp hx
    rw [(E.peq_ b a).mp h] at hb; exact hb
  · intro h
    exact ⟨_, List.mem_map.mpr ⟨a, h, rfl⟩, (E.peq_ a a).mpr rfl⟩
variable [DecidableEq A]
theorem any_enc (a : A) (l : List A) : ((l.map E.enc).any fun b => peq b (E.enc a)) = decide (a ∈ l) := by
  rw [Bool.eq_iff_iff, any_map_enc]; simp
def ddT : List A → List A → List A
  | acc, [] => acc
  | acc, a :: l => if a ∈ acc then ddT acc l else ddT (acc ++ [a]) l
theorem dedup_map : ∀ (l acc : List A), dedup (acc.map E.enc) (l.map E.enc) = (ddT acc l).map E.enc
  | [], acc => rfl
  | a :: l, acc => by
    rw [List.map_cons, dedup, ddT, any_enc]
    by_cases h : a ∈ acc
    · simp only [h, decide_true, if_true]; exact dedup_map l acc
    · simp only [h, decide_false, if_false, Bool.false_eq_true]
      rw [← dedup_map l (acc ++ [a]), List.map_append]; rfl
theorem mem_ddT {x : A} : ∀ {l acc : List A}, x ∈ ddT acc l ↔ x ∈ acc ∨ x ∈ l
  | [], acc => by simp [ddT]
  | a :: l, acc => by
    unfold ddT
    split
    · rename_i h
      rw [mem_ddT, List.mem_cons]; constructor
      · rintro (z | z) <;> simp [z]
      · rintro (z | z | z)
        · exact .inl z
        · exact .inl (z ▸ h)
        · exact .inr z
    · rw [mem_ddT, List.mem_append, List.mem_cons]; simp [or_assoc]
theorem ddT_nodup : ∀ {l acc : List A}, acc.Nodup → (ddT acc l).Nodup
  | [], acc, h => h
  | a :: l, acc, h => by
    unfold ddT
    split
    · exact ddT_nodup h
    · rename_i n
      refine ddT_nodup (List.nodup_append.mpr ⟨h, by simp, fun x hx y hy => ?_⟩)
      rw [List.mem_singleton.mp hy]
      rintro rfl; exact n hx
/-- sorted(set(..)) -/
def sset (l : List A) : List A := srtT (ddT [] l)
theorem sset_map (l : List A) : isort (dedup [] (l.map E.enc)) = (sset l).map E.enc := by
  have := dedup_map l ([] : List A)
  rw [List.map_nil] at this
  rw [this, isort_map]; rfl
theorem mem_sset {x : A} {l : List A} : x ∈ sset l ↔ x ∈ l := by unfold sset; rw [mem_srtT, mem_ddT]; simp
theorem sset_sor (l : List A) : Sor (sset l) := srtT_sor (ddT_nodup List.nodup_nil)
theorem sset_id {l : List A} (h : Sor l) : sset l = l := Sor.ext (sset_sor l) h fun x => mem_sset
end
/-! ## kinds -/
instance encN : Enc Nat where
  enc := nI
  lt := fun a b => decide (a < b)
  irr := by simp
  tr := by intro a b c; simp; omega
  tot := by intro a b; simp; omega
  peq_ := by intro a b; simp [peq]; omega
  plt_ := by intro a b; simp [plt]
def eP (t : Nat × Nat) : PV := .tup [nI t.1, nI t.2]
theorem beq_nI (a b : Nat) : PV.beq (nI a) (nI b) = decide (a = b) := by
  by_cases h : a = b <;> simp [PV.beq, h]
  omega
instance encP : Enc (Nat × Nat) where
  enc := eP
  lt := fun a b => decide (a.1 < b.1) || (decide (a.1 = b.1) && decide (a.2 < b.2))
  irr := by simp
  tr := by intro a b c; simp; omega
  tot := by intro a b h; have : a.1 ≠ b.1 ∨ a.2 ≠ b.2 := by
              by_cases h1 : a.1 = b.1
              · exact .inr fun h2 => h (Prod.ext h1 h2)
              · exact .inl h1
            simp; omega
  peq_ := by intro a b; simp [eP, peq, peqs, Prod.ext_iff]; omega
  plt_ := by
    intro a b
    simp only [eP, plt, plts, beq_nI]
    by_cases h : a.1 = b.1
    · simp [h]
      by_cases h2 : a.2 = b.2 <;> simp [h2]
    · simp [h]
def eL (l : List Nat) : PV := .tup (l.map nI)
def ltL : List Nat → List Nat → Bool
  | [], [] => false
  | [], _ :: _ => true
  | _ :: _, [] => false
  | a :: as, b :: bs => if a = b then ltL as bs else decide (a < b)
theorem ltL_irr : ∀ a, ltL a a = false
  | [] => rfl
  | a :: as => by simp [ltL, ltL_irr as]
theorem ltL_tr : ∀ a b c, ltL a b = true → ltL b c = true → ltL a c = true
  | [], _, [], _, h => by rename_i b _; cases b <;> simp [ltL] at *
  | [], _, _ :: _, _, _ => rfl
  | _ :: _, [], _, h, _ => by simp [ltL] at h
  | _ :: _, _ :: _, [], _, h => by simp [ltL] at h
  | a :: as, b :: bs, c :: cs, h1, h2 => by
    simp only [ltL] at *
    by_cases e1 : a = b <;> by_cases e2 : b = c
    · subst e1 e2; simp at *; exact ltL_tr as bs cs h1 h2
    · subst e1; simp [e2] at *; exact h2
    · subst e2; simp [e1] at *; exact h1
    · have : a ≠ c := by simp [e1, e2] at *; omega
      simp [e1, e2, this] at *; omega
theorem ltL_tot : ∀ a b, a ≠ b → ltL a b = true ∨ ltL b a = true
  | [], [], h => absurd rfl h
  | [], _ :: _, _ => .inl rfl
  | _ :: _, [], _ => .inr rfl
  | a :: as, b :: bs, h => by
    simp only [ltL]
    by_cases e : a = b
    · subst e; simp; exact ltL_tot as bs fun z => h (by rw [z])
    · have : b ≠ a := fun z => e z.symm
      simp [e, this]; omega
theorem peqs_map : ∀ a b : List Nat, peqs (a.map nI) (b.map nI) = true ↔ a = b
  | [], [] => by simp [peqs]
  | [], _ :: _ => by simp [peqs]
  | _ :: _, [] => by simp [peqs]
  | a :: as, b :: bs => by simp [peqs, peq, peqs_map as bs]; omega
theorem plts_map : ∀ a b : List Nat, plts (a.map nI) (b.map nI) = ltL a b
  | [], [] => rfl
  | [], _ :: _ => rfl
  | _ :: _, [] => rfl
  | a :: as, b :: bs => by
    simp only [List.map_cons, plts, ltL, beq_nI, plts_map as bs, plt]
    by_cases e : a = b <;> simp [e]
instance encL : Enc (List Nat) where
  enc := eL
  lt := ltL
  irr := ltL_irr
  tr := ltL_tr
  tot := ltL_tot
  peq_ := by intro a b; simp only [eL, peq]; exact peqs_map a b
  plt_ := by intro a b; simp only [eL, plt]; exact plts_map a b
theorem enc_N : (encN.enc : Nat → PV) = nI := rfl
theorem enc_P : (encP.enc : Nat × Nat → PV) = eP := rfl
theorem enc_L : (encL.enc : List Nat → PV) = eL := rfl
end PQ

set_option linter.all false
set_option maxRecDepth 100000
namespace PQ
open PL
open PV
/-! ## turns of loops -/
theorem turC_wipe {T : Tab} {P : Fns} {elt : Ex} {t : Tg} {cs : List Ex} {own : List Nat} {x : PV} {r r' : Env} (h : wipeS own r = wipeS own r') : turC T P elt t cs own x r = turC T P elt t cs own x r' := by
  unfold turC
  rw [h]
  cases assign t x .frz (wipeS own r') <;> unfold bnd <;> rfl
theorem backS_of {own : List Nat} {r r' : Env} (h : wipeS own r' = wipeS own r) : backS r own r' = r := by
  have hl : r'.length = r.length := by rw [← wipeS_len own r', h, wipeS_len]
  have hget : ∀ (own : List Nat) (r : Env) (j : Nat), (wipeS own r)[j]? = if j ∈ own ∧ j < r.length then some none else r[j]? := by
    intro own
    induction own with
    | nil => intro r j; simp [wipeS]
    | cons i is ih =>
      intro r j; rw [wipeS, ih, List.length_set, List.getElem?_set]
      by_cases h1 : j ∈ is <;> by_cases h2 : i = j <;> by_cases h3 : j < r.length <;> simp [h1, h2, h3, eq_comm]
      all_goals (try subst h2) <;> simp_all
  apply List.ext_getElem?; intro j
  rw [backS_get]
  have e := congrArg (fun l => l[j]?) h
  simp only [hget] at e
  by_cases hj : j < r.length
  · by_cases ho : j ∈ own
    · rw [if_pos ⟨ho, by omega⟩]
      unfold PL.get
      rw [List.getElem?_eq_getElem hj]; rfl
    · rw [if_neg (fun z => ho z.1), if_neg (fun z => ho z.1)] at e
      rw [if_neg (fun z => ho z.1), e]
  · rw [if_neg (fun z => hj (by omega)), List.getElem?_eq_none (by omega), List.getElem?_eq_none (by omega)]
theorem compL_pure {A : Type} {T : Tab} {P : Fns} {elt : Ex} {t : Tg} {cs : List Ex} {own : List Nat} {r0 : Env} {enc : A → PV} {h : A → Option PV} : ∀ (L : List A) (acc : List PV) (r : Env), wipeS own r = r0 →
    (∀ x ∈ L, ∃ r', turC T P elt t cs own (enc x) r0 = .ok (h x) r' ∧ wipeS own r' = r0) →
    ∃ r', compL (turC T P elt t cs own) (L.map enc) acc r = .ok (acc ++ L.filterMap h) r' ∧ wipeS own r' = r0
  | [], acc, r, hr, _ => ⟨r, by simp [compL], hr⟩
  | x :: L, acc, r, hr, H => by
    obtain ⟨r', e, hw⟩ := H x List.mem_cons_self
    have h0 : wipeS own r0 = r0 := by rw [← hr]; exact wipeS_idem own r
    rw [← turC_wipe (r := r) (by rw [hr, h0])] at e
    rw [List.map_cons, compL, e]
    cases ho : h x with
    | none =>
      obtain ⟨r2, e2, hw2⟩ := compL_pure L acc r' hw fun y hy => H y (List.mem_cons_of_mem _ hy)
      exact ⟨r2, by simp only [List.filterMap_cons, ho]; exact e2, hw2⟩
    | some y =>
      obtain ⟨r2, e2, hw2⟩ := compL_pure L (acc ++ [y]) r' hw fun y hy => H y (List.mem_cons_of_mem _ hy)
      exact ⟨r2, by simp only [List.filterMap_cons, ho]; rw [e2]; simp, hw2⟩
/-- a comprehension whose turns leave all as it is -/
theorem comp_p {A : Type} {T : Tab} {P : Fns} {elt : Ex} {t : Tg} {cs : List Ex} {own : List Nat} {r1 : Env} {enc : A → PV} (h : A → Option PV) {L : List A}
    (H : ∀ x ∈ L, ∃ r', turC T P elt t cs own (enc x) (wipeS own r1) = .ok (h x) r' ∧ wipeS own r' = wipeS own r1) : compEv T P elt t cs own (L.map enc) [] r1 = .ok (.lst (L.filterMap h), .own) r1 := by
  unfold compEv
  obtain ⟨r', e, hw⟩ := compL_pure (r0 := wipeS own r1) L [] (wipeS own r1) (wipeS_idem own r1) H
  rw [e]
  simp [bnd, unhide, backS_of hw]
/-- the same, its list hidden -/
theorem comp_h {A : Type} {T : Tab} {P : Fns} {elt : Ex} {t : Tg} {cs : List Ex} {own : List Nat} {r1 : Env} {enc : A → PV} {j : Nat} {v : PV} (h : A → Option PV) {L : List A} (hj : PL.get r1 j = none)
    (H : ∀ x ∈ L, ∃ r', turC T P elt t cs own (enc x) (wipeS own r1) = .ok (h x) r' ∧ wipeS own r' = wipeS own r1) : compEv T P elt t cs own (L.map enc) [(j, v)] r1 = .ok (.lst (L.filterMap h), .own) (r1.set j (some (v, true))) := by
  unfold compEv
  obtain ⟨r', e, hw⟩ := compL_pure (r0 := wipeS own r1) L [] (wipeS own r1) (wipeS_idem own r1) H
  rw [e]
  simp [bnd, unhide, backS_of hw, hj]
/-- a comprehension whose turns change something -/
theorem compL_rel {A : Type} {g : PV → Env → R (Option PV)} {enc : A → PV} (I : List A → List PV → Env → Prop) {L : List A} (step : ∀ pre a post acc r, L = pre ++ a :: post → I pre acc r → ∃ o r', g (enc a) r = .ok o r' ∧ I (pre ++ [a]) (acc ++ o.toList) r') :
    ∀ (post pre : List A) (acc : List PV) (r : Env), L = pre ++ post → I pre acc r → ∃ ys r', compL g (post.map enc) acc r = .ok ys r' ∧ I L ys r'
  | [], pre, acc, r, hL, h => ⟨acc, r, rfl, by rw [hL, List.append_nil]; exact h⟩
  | a :: post, pre, acc, r, hL, h => by
    obtain ⟨o, r', e, h'⟩ := step pre a post acc r hL h
    rw [List.map_cons, compL, e]
    cases o with
    | none =>
      rw [Option.toList_none, List.append_nil] at h'
      exact compL_rel I step post (pre ++ [a]) acc r' (by simp [hL]) h'
    | some y => exact compL_rel I step post (pre ++ [a]) (acc ++ [y]) r' (by simp [hL]) h'
theorem comp_r {A : Type} {T : Tab} {P : Fns} {elt : Ex} {t : Tg} {cs : List Ex} {own : List Nat} {r1 : Env} {enc : A → PV} (I : List A → List PV → Env → Prop) {L : List A} (h0 : I [] [] (wipeS own r1))
    (step : ∀ pre a post acc r, L = pre ++ a :: post → I pre acc r → ∃ o r', turC T P elt t cs own (enc a) r = .ok o r' ∧ I (pre ++ [a]) (acc ++ o.toList) r') :
    ∃ ys r', compEv T P elt t cs own (L.map enc) [] r1 = .ok (.lst ys, .own) (backS r1 own r') ∧ I L ys r' := by
  obtain ⟨ys, r', e, h⟩ := compL_rel I step L [] [] _ rfl h0
  refine ⟨ys, r', ?_, h⟩
  unfold compEv
  rw [e]
  simp [bnd, unhide]
/-- for -/
theorem for_r {A : Type} {T : Tab} {P : Fns} {t : Tg} {body : List St} {enc : A → PV} (I : List A → Env → Prop) (Q : PV → Fl → Env → Prop) {L : List A}
    (step : ∀ pre a post r, L = pre ++ a :: post → I pre r → (∃ r', turF T P t body (enc a) r = .ok .nx r' ∧ I (pre ++ [a]) r') ∨ (∃ v f r', turF T P t body (enc a) r = .ok (.rt v f) r' ∧ Q v f r')) {r : Env} (h : I [] r) :
    (∃ r', forEv T P t body (L.map enc) [] r = .ok .nx r' ∧ I L r') ∨ (∃ v f r', forEv T P t body (L.map enc) [] r = .ok (.rt v f) r' ∧ Q v f r') := by
  have : ∀ (post pre : List A) (r : Env), L = pre ++ post → I pre r → (∃ r', forL (turF T P t body) (post.map enc) r = .ok .nx r' ∧ I L r') ∨ (∃ v f r', forL (turF T P t body) (post.map enc) r = .ok (.rt v f) r' ∧ Q v f r') := by
    intro post
    induction post with
    | nil => intro pre r hL h; exact .inl ⟨r, rfl, by rw [hL, List.append_nil]; exact h⟩
    | cons a post ih =>
      intro pre r hL h
      rcases step pre a post r hL h with ⟨r', e, h'⟩ | ⟨v, f, r', e, q⟩
      · rw [List.map_cons, forL, e]
        exact ih (pre ++ [a]) r' (by simp [hL]) h'
      · rw [List.map_cons, forL, e]
        exact .inr ⟨v, f, r', rfl, q⟩
  unfold forEv
  rcases this L [] r rfl h with ⟨r', e, h'⟩ | ⟨v, f, r', e, q⟩
  · exact .inl ⟨r', by rw [e]; simp [bnd, unhide], h'⟩
  · exact .inr ⟨v, f, r', by rw [e]; simp [bnd, unhide], q⟩
/-- for, without a return -/
theorem for_n {A : Type} {T : Tab} {P : Fns} {t : Tg} {body : List St} {enc : A → PV} (I : List A → Env → Prop) {L : List A}
    (step : ∀ pre a post r, L = pre ++ a :: post → I pre r → ∃ r', turF T P t body (enc a) r = .ok .nx r' ∧ I (pre ++ [a]) r') {r : Env} (h : I [] r) :
    ∃ r', forEv T P t body (L.map enc) [] r = .ok .nx r' ∧ I L r' := by
  rcases for_r I (fun _ _ _ => False) (fun pre a post r hL h => .inl (step pre a post r hL h)) h with h | ⟨_, _, _, _, h⟩
  · exact h
  · exact h.elim
/-- while -/
theorem whl_r {T : Tab} {P : Fns} {c : Ex} {b : List St} (I : Nat → Env → Prop) (J : Env → Prop)
    (step : ∀ m r, I m r → (∃ r', asB (ev T P c r) = .ok false r' ∧ J r') ∨ (∃ r1 r' m', asB (ev T P c r) = .ok true r1 ∧ exs T P b r1 = .ok .nx r' ∧ I m' r' ∧ m' < m)) : ∀ (n m : Nat) (r : Env), I m r → m < n →
    ∃ r', whlEv T P c b n r = .ok .nx r' ∧ J r'
  | 0, m, r, _, h => absurd h (Nat.not_lt_zero _)
  | n + 1, m, r, h, hm => by
    unfold whlEv whileL
    rcases step m r h with ⟨r', e, h'⟩ | ⟨r1, r', m', e, e2, h', lt⟩
    · simp only [e]
      exact ⟨r', rfl, h'⟩
    · simp only [e, e2]
      exact whl_r I J step n m' r' h' (by omega)
theorem rngL_map : ∀ (a n : Nat), rngL (a : Int) n = (List.range' a n).map nI
  | a, 0 => rfl
  | a, n + 1 => by
    rw [rngL, List.range'_succ, List.map_cons]
    have := rngL_map (a + 1) n
    rw [show ((a + 1 : Nat) : Int) = (a : Int) + 1 from by omega] at this
    rw [this]
theorem rngL0 (n : Nat) : rngL 0 n = (List.range n).map nI := by rw [List.range_eq_range']; exact rngL_map 0 n
theorem rngOk_of {a b : Nat} (ha : a < 1000) (hb : b < 1000) : rngOk (a : Int) (b : Int) = true := by simp [rngOk]; omega
theorem rngOk_0 {b : Nat} (hb : b < 1000) : rngOk 0 (b : Int) = true := by simp [rngOk]; omega
end PQ

set_option linter.all false
set_option maxRecDepth 100000
namespace PQ
open PL
open PV
/-! ## webs -/
structure W where
  many : Nat
  ties : List (Nat × Nat)
def eW (w : W) : PV := .tup [nI w.many, .tup (w.ties.map eP)]
structure W.Ok (w : W) : Prop where
  lo : 1 ≤ w.many
  hi : w.many ≤ 8
  ties : ∀ t ∈ w.ties, t.1 < t.2 ∧ t.2 < w.many
  sor : Sor w.ties
theorem nodup_len : ∀ (n : Nat) (l : List Nat), l.Nodup → (∀ x ∈ l, x < n) → l.length ≤ n
  | 0, [], _, _ => Nat.le_refl _
  | 0, a :: l, _, h => absurd (h a List.mem_cons_self) (Nat.not_lt_zero _)
  | n + 1, l, hn, h => by
    have h1 := nodup_len n (l.erase n) (hn.erase n) fun x hx => by
      have h2 := (hn.mem_erase_iff).mp hx
      have := h x h2.2
      have := h2.1
      omega
    by_cases hm : n ∈ l
    · rw [List.length_erase_of_mem hm] at h1; omega
    · rw [List.erase_of_not_mem hm] at h1; omega
theorem pair_code {a b c d : Nat} (h1 : a < b) (h2 : b < 8) (h3 : c < d) (h4 : d < 8) (e : b * (b - 1) / 2 + a = d * (d - 1) / 2 + c) : a = c ∧ b = d := by
  have hb : b = 0 ∨ b = 1 ∨ b = 2 ∨ b = 3 ∨ b = 4 ∨ b = 5 ∨ b = 6 ∨ b = 7 := by omega
  have hd : d = 0 ∨ d = 1 ∨ d = 2 ∨ d = 3 ∨ d = 4 ∨ d = 5 ∨ d = 6 ∨ d = 7 := by omega
  rcases hb with rfl | rfl | rfl | rfl | rfl | rfl | rfl | rfl <;> rcases hd with rfl | rfl | rfl | rfl | rfl | rfl | rfl | rfl <;> simp at e ⊢ <;> omega
theorem pair_lt {a b : Nat} (h1 : a < b) (h2 : b < 8) : b * (b - 1) / 2 + a < 28 := by
  have hb : b = 0 ∨ b = 1 ∨ b = 2 ∨ b = 3 ∨ b = 4 ∨ b = 5 ∨ b = 6 ∨ b = 7 := by omega
  rcases hb with rfl | rfl | rfl | rfl | rfl | rfl | rfl | rfl <;> simp <;> omega
theorem ties_len {l : List (Nat × Nat)} (hn : l.Nodup) (h : ∀ t ∈ l, t.1 < t.2 ∧ t.2 < 8) : l.length ≤ 28 := by
  rw [← List.length_map (f := fun t : Nat × Nat => t.2 * (t.2 - 1) / 2 + t.1)]
  refine nodup_len 28 _ ?_ fun x hx => ?_
  · refine List.pairwise_map.mpr (List.Pairwise.imp_of_mem (fun {a b} ha hb hab e => ?_) hn)
    obtain ⟨e1, e2⟩ := pair_code (h a ha).1 (h a ha).2 (h b hb).1 (h b hb).2 e
    exact hab (Prod.ext e1 e2)
  · obtain ⟨t, ht, rfl⟩ := List.mem_map.mp hx
    exact pair_lt (h t ht).1 (h t ht).2
theorem W.Ok.len {w : W} (h : w.Ok) : w.ties.length ≤ 28 := ties_len h.sor.nodup fun t ht => ⟨(h.ties t ht).1, by have := (h.ties t ht).2; have := h.hi; omega⟩
/-- whether a thing is a whole number within bounds -/
def isWhole : PV → Int → Int → Bool
  | .int i, a, b => decide (a ≤ i) && decide (i ≤ b)
  | _, _, _ => false
/-- of what the program may ask the type -/
def tyOk : PV → Bool
  | .dct _ _ => false
  | .ins _ _ _ => false
  | .fn _ => false
  | _ => true
@[simp] theorem tyOk_int (i : Int) : tyOk (.int i) = true := by simp [tyOk]
@[simp] theorem tyOk_non : tyOk .non = true := by simp [tyOk]
@[simp] theorem tyOk_bl (b : Bool) : tyOk (.bl b) = true := by simp [tyOk]
@[simp] theorem tyOk_str (s : List Nat) : tyOk (.str s) = true := by simp [tyOk]
@[simp] theorem tyOk_tup (l : List PV) : tyOk (.tup l) = true := by simp [tyOk]
theorem run_is_whole {T : Tab} [HasF T 0] (n : Nat) (v : PV) (a b : Int) (hv : v.isM = false) (ht : tyOk v = true) :
    run T (n + 1) 0 [(v, true), (.int a, true), (.int b, true)] = .ok (.bl (isWhole v a b)) true [(v, true), (.int a, true), (.int b, true)] := by
  rw [run_has (d := d_is_whole) rfl rfl]
  cases v <;> first | (simp [tyOk] at ht; done) | (simp [isM] at hv; done) | simp [d_is_whole, tyIs, isWhole, binop, chB]
  case int i => by_cases h : a ≤ i <;> simp [h, binop, chB]
@[simp] theorem isWhole_nI (n : Nat) (a b : Int) : isWhole (nI n) a b = (decide (a ≤ n) && decide ((n : Int) ≤ b)) := rfl
theorem run_is_tie {T : Tab} [HasF T 0] [HasF T 1] (n : Nat) (t : Nat × Nat) (m : Nat) (h : t.1 < t.2) (h2 : t.2 < m) :
    run T (n + 2) 1 [(eP t, true), (nI m, true)] = .ok (.bl true) true [(eP t, true), (nI m, true)] := by
  rw [run_has (d := d_is_tie) rfl rfl]
  have e1 : (1 : Int) ≤ t.2 := by omega
  have e2 : (t.2 : Int) ≤ m - 1 := by omega
  have e3 : (t.1 : Int) ≤ t.2 - 1 := by omega
  have e0 : (0 : Int) ≤ t.1 := by omega
  simp [d_is_tie, eP, tyIs, b1op, binop, dat, dep, peq, index, pidx, run_is_whole, isWhole, e0, e1, e2, e3]
theorem bools_true : ∀ n : Nat, bools (List.replicate n (.bl true)) = some (List.replicate n true)
  | 0 => rfl
  | n + 1 => by rw [List.replicate_succ, bools, bools_true n]; rfl
theorem dats_enc {A : Type} [E : Enc A] (h : ∀ a : A, dat (E.enc a) = true) : ∀ l : List A, dats (l.map E.enc) = true
  | [] => rfl
  | a :: l => by rw [List.map_cons, dats, h a, dats_enc h l]; rfl
theorem deps_enc {A : Type} [E : Enc A] {k : Nat} (h : ∀ a : A, dep (E.enc a) ≤ k) : ∀ l : List A, deps (l.map E.enc) ≤ k
  | [] => Nat.zero_le _
  | a :: l => by rw [List.map_cons, deps]; exact Nat.max_le.mpr ⟨h a, deps_enc h l⟩
theorem peqs_enc {A : Type} [E : Enc A] : ∀ a b : List A, peqs (a.map E.enc) (b.map E.enc) = true ↔ a = b
  | [], [] => by simp [peqs]
  | [], _ :: _ => by simp [peqs]
  | _ :: _, [] => by simp [peqs]
  | a :: as, b :: bs => by simp [peqs, E.peq_, peqs_enc as bs]
theorem datP (t : Nat × Nat) : dat (eP t) = true := by simp [eP, dat, dats]
theorem depP (t : Nat × Nat) : dep (eP t) = 1 := by simp [eP, dep, deps]
theorem datN (t : Nat) : dat (nI t) = true := rfl
theorem depN (t : Nat) : dep (nI t) = 0 := by simp [dep]
theorem datL (t : List Nat) : dat (eL t) = true := by
  show dat (eL t) = true
  rw [eL, dat]; exact dats_enc (E := encN) datN t
theorem depL (t : List Nat) : dep (eL t) ≤ 1 := by
  show dep (eL t) ≤ 1
  rw [eL, dep]; have := deps_enc (E := encN) (k := 0) (fun a => Nat.le_of_eq (depN a)) t
  exact Nat.succ_le_succ this
theorem allP64 {l : List (Nat × Nat)} (h : ∀ t ∈ l, t.1 < 64 ∧ t.2 < 64) : (l.map eP).all pair64 = true := by
  rw [List.all_eq_true]
  intro x hx
  obtain ⟨t, ht, rfl⟩ := List.mem_map.mp hx
  have := h t ht
  simp [eP, pair64]
  exact ⟨by omega, by omega⟩
/-- list(x) == sorted(set(x)), of ties -/
theorem sset_ties {l : List (Nat × Nat)} (hl : l.length < 60) (h : ∀ t ∈ l, t.1 < 64 ∧ t.2 < 64) : b1op .sset (.tup (l.map eP)) = some (.lst ((sset l).map eP)) := by
  have e : okSetT (l.map eP) = true := by unfold okSetT; rw [allP64 h]; simp; exact hl
  show (if okSetT (l.map eP) then some (PV.lst (isort (dedup [] (l.map eP)))) else none) = _
  rw [if_pos e]; exact congrArg (fun l => some (PV.lst l)) (sset_map l)
theorem sset_tiesL {l : List (Nat × Nat)} (hl : l.length < 60) (h : ∀ t ∈ l, t.1 < 64 ∧ t.2 < 64) : b1op .sset (.lst (l.map eP)) = some (.lst ((sset l).map eP)) := by
  have e : okSetL (l.map eP) = true := by unfold okSetL; rw [allP64 h]; simp; exact hl
  show (if okSetL (l.map eP) then some (PV.lst (isort (dedup [] (l.map eP)))) else none) = _
  rw [if_pos e]; exact congrArg (fun l => some (PV.lst l)) (sset_map l)
theorem sset_places {l : List Nat} (hl : l.length < 60) : b1op .sset (.tup (l.map nI)) = some (.lst ((sset l).map nI)) := by
  have e : okSetT (l.map nI) = true := by
    unfold okSetT
    have : (l.map nI).all isInt = true := by rw [List.all_eq_true]; intro x hx; obtain ⟨t, _, rfl⟩ := List.mem_map.mp hx; rfl
    rw [this]; simp; exact hl
  show (if okSetT (l.map nI) then some (PV.lst (isort (dedup [] (l.map nI)))) else none) = _
  rw [if_pos e]; exact congrArg (fun l => some (PV.lst l)) (sset_map l)
/-- == of two lists of ties, of places -/
theorem eq_ties (a b : List (Nat × Nat)) : binop .eq (.lst (a.map eP)) (.lst (b.map eP)) = some (.bl (decide (a = b))) := by
  have h1 := deps_enc (E := encP) (k := 1) (fun a => Nat.le_of_eq (depP a))
  have e : peqs (a.map eP) (b.map eP) = decide (a = b) := by rw [Bool.eq_iff_iff]; exact (peqs_enc a b).trans (by simp)
  have ha : deps (a.map eP) ≤ 1 := h1 a
  have hb : deps (b.map eP) ≤ 1 := h1 b
  have da : dats (a.map eP) = true := dats_enc (E := encP) datP a
  have db : dats (b.map eP) = true := dats_enc (E := encP) datP b
  simp [binop, dat, da, db, dep, peq, e]; omega
theorem eq_places (a b : List Nat) : binop .eq (.lst (a.map nI)) (.lst (b.map nI)) = some (.bl (decide (a = b))) := by
  have h1 := deps_enc (E := encN) (k := 0) (fun a => Nat.le_of_eq (depN a))
  have e : peqs (a.map nI) (b.map nI) = decide (a = b) := by rw [Bool.eq_iff_iff]; exact (peqs_enc a b).trans (by simp)
  have ha : deps (a.map nI) ≤ 0 := h1 a
  have hb : deps (b.map nI) ≤ 0 := h1 b
  have da : dats (a.map nI) = true := dats_enc (E := encN) datN a
  have db : dats (b.map nI) = true := dats_enc (E := encN) datN b
  simp [binop, dat, da, db, dep, peq, e]; omega
theorem filterMap_const {A B : Type} (b : B) : ∀ l : List A, l.filterMap (fun _ => some b) = List.replicate l.length b
  | [] => rfl
  | a :: l => by simp [filterMap_const b l, List.replicate_succ]
theorem run_is_web {T : Tab} [HasF T 0] [HasF T 1] [HasF T 2] (n : Nat) (w : W) (h : w.Ok) : run T (n + 3) 2 [(eW w, true)] = .ok (.bl true) true [(eW w, true)] := by
  rw [run_has (d := d_is_web) rfl rfl]
  have e1 : (1 : Int) ≤ w.many := by have := h.lo; omega
  have e2 : (w.many : Int) ≤ 8 := by have := h.hi; omega
  have hl : w.ties.length ≤ line := by have := h.len; unfold line; omega
  have hc : ∀ env : Env, PL.get env 0 = some (eW w, true) → env.length = 2 → compEv T (run T (n + 2)) (.call 1 [.var 1, .ix (.var 0) (.const (.int 0))]) (.nm 1) [] [1] (w.ties.map eP) [] [some (eW w, true), none] = .ok (.lst (w.ties.filterMap fun _ => some (PV.bl true)), .own) [some (eW w, true), none] := fun env _ _ => by
    refine comp_p (fun _ => some (.bl true)) fun t ht => ⟨[some (eW w, true), some (eP t, true)], ?_, by simp [wipeS]⟩
    have ht := h.ties t ht
    have hm : (eP t).isM = false := by simp [eP]
    simp [turC, wipeS, hm, eW, index, pidx, run_is_tie n t w.many ht.1 ht.2]
  have hc := hc [some (eW w, true), none] rfl rfl
  have h64 : ∀ t ∈ w.ties, t.1 < 64 ∧ t.2 < 64 := fun t ht => by have := h.ties t ht; have := h.hi; omega
  have hs := sset_ties (l := w.ties) (by have := h.len; omega) h64
  rw [sset_id h.sor] at hs
  have he := eq_ties w.ties w.ties
  rw [filterMap_const] at hc
  unfold eW at hc ⊢
  simp [d_is_web, tyIs, b1op, binop, dat, dats, dep, deps, peq, index, pidx, run_is_whole, isWhole, e1, e2, seqOf, hl, hc, bools_true]
  unfold b1op at hs
  simp at hs
  simp [hs, he]
end PQ

set_option linter.all false
set_option maxRecDepth 100000
namespace PQ
open PL
open PV
/-! ## operations -/
@[simp] theorem natI (a b : Nat) : ((a : Int) = (b : Int)) = (a = b) := by rw [eq_iff_iff]; omega
section
@[simp] theorem bo_add (a b : Int) : binop .add (.int a) (.int b) = some (.int (a + b)) := by simp [binop]
@[simp] theorem bo_sub (a b : Int) : binop .sub (.int a) (.int b) = some (.int (a - b)) := by simp [binop]
@[simp] theorem bo_lt (a b : Int) : binop .lt (.int a) (.int b) = some (.bl (decide (a < b))) := by simp [binop]
@[simp] theorem bo_le (a b : Int) : binop .le (.int a) (.int b) = some (.bl (decide (a ≤ b))) := by simp [binop]
@[simp] theorem bo_gt (a b : Int) : binop .gt (.int a) (.int b) = some (.bl (decide (b < a))) := by simp [binop]
@[simp] theorem bo_ge (a b : Int) : binop .ge (.int a) (.int b) = some (.bl (decide (b ≤ a))) := by simp [binop]
@[simp] theorem bo_eqI (a b : Int) : binop .eq (.int a) (.int b) = some (.bl (decide (a = b))) := by simp [binop, dat, dep, peq]
@[simp] theorem bo_neI (a b : Int) : binop .ne (.int a) (.int b) = some (.bl (!decide (a = b))) := by simp [binop, dat, dep, peq]
@[simp] theorem bo_mn (a b : Int) : binop .mn (.int a) (.int b) = some (.int (if b < a then b else a)) := by simp [binop]
@[simp] theorem bo_mx (a b : Int) : binop .mx (.int a) (.int b) = some (.int (if b > a then b else a)) := by simp [binop]
theorem bo_addT (a b : List PV) (h : a.length + b.length ≤ line) : binop .add (.tup a) (.tup b) = some (.tup (a ++ b)) := by simp [binop, h]
theorem bo_addL (a b : List PV) (h : a.length + b.length ≤ line) : binop .add (.lst a) (.lst b) = some (.lst (a ++ b)) := by simp [binop, h]
@[simp] theorem b1_lenT (l : List PV) : b1op .len (.tup l) = some (.int l.length) := by simp [b1op]
@[simp] theorem b1_lenL (l : List PV) : b1op .len (.lst l) = some (.int l.length) := by simp [b1op]
@[simp] theorem b1_listT (l : List PV) : b1op .list (.tup l) = some (.lst l) := by simp [b1op]
@[simp] theorem b1_listL (l : List PV) : b1op .list (.lst l) = some (.lst l) := by simp [b1op]
@[simp] theorem b1_listD (l m : List PV) : b1op .list (.dct l m) = some (.lst l) := by simp [b1op]
@[simp] theorem b1_tupT (l : List PV) : b1op .tuple (.tup l) = some (.tup l) := by simp [b1op]
@[simp] theorem b1_tupL (l : List PV) : b1op .tuple (.lst l) = some (.tup l) := by simp [b1op]
@[simp] theorem b1_all (l : List PV) : b1op .all (.lst l) = (bools l).map fun b => .bl (b.all id) := by simp [b1op]
@[simp] theorem b1_any (l : List PV) : b1op .any (.lst l) = (bools l).map fun b => .bl (b.any id) := by simp [b1op]
@[simp] theorem b1_intB (b : Bool) : b1op .int (.bl b) = some (.int (b2i b)) := by simp [b1op]
@[simp] theorem b1_intI (b : Int) : b1op .int (.int b) = some (.int b) := by simp [b1op]
@[simp] theorem ix_T0 (a : PV) (l : List PV) : index (.tup (a :: l)) (.int 0) = some a := by simp [index, pidx]
@[simp] theorem ix_T1 (a b : PV) (l : List PV) : index (.tup (a :: b :: l)) (.int 1) = some b := by
  have : (1 : Int) < (l.length : Int) + 1 + 1 := by omega
  simp [index, pidx, this]
@[simp] theorem ix_L0 (a : PV) (l : List PV) : index (.lst (a :: l)) (.int 0) = some a := by simp [index, pidx]
theorem ix_TM {A : Type} (f : A → PV) (l : List A) (i : Nat) (h : i < l.length) : index (.tup (l.map f)) (nI i) = some (f l[i]) := by simp [index, pidx, h]
theorem ix_LM {A : Type} (f : A → PV) (l : List A) (i : Nat) (h : i < l.length) : index (.lst (l.map f)) (nI i) = some (f l[i]) := by simp [index, pidx, h]
@[simp] theorem ty_int (i : Int) (t : Ty) : tyIs (.int i) t = some (decide (t = .int)) := by simp [tyIs]
@[simp] theorem ty_bl (i : Bool) (t : Ty) : tyIs (.bl i) t = some (decide (t = .int ∨ t = .bool)) := by simp [tyIs]
@[simp] theorem ty_non (t : Ty) : tyIs .non t = some false := by simp [tyIs]
@[simp] theorem ty_str (i : List Nat) (t : Ty) : tyIs (.str i) t = some (decide (t = .str)) := by simp [tyIs]
@[simp] theorem ty_tup (i : List PV) (t : Ty) : tyIs (.tup i) t = some (decide (t = .tuple)) := by simp [tyIs]
@[simp] theorem ty_lst (i : List PV) (t : Ty) : tyIs (.lst i) t = some (decide (t = .list)) := by simp [tyIs]
@[simp] theorem seqT (hd : Bool) (l : List PV) (f : Fl) (r : Env) (hs : List (Nat × PV)) : seqOf hd (.tup l) f r hs = some (l, r, hs) := by simp [seqOf]
@[simp] theorem seqLo (hd : Bool) (l : List PV) (r : Env) (hs : List (Nat × PV)) : seqOf hd (.lst l) .own r hs = some (l, r, hs) := by simp [seqOf]
@[simp] theorem seqLf (hd : Bool) (l : List PV) (r : Env) (hs : List (Nat × PV)) : seqOf hd (.lst l) .frz r hs = some (l, r, hs) := by simp [seqOf]
theorem seqLh (l : List PV) (j : Nat) (r : Env) (hs : List (Nat × PV)) (h : PL.get r j = some (.lst l, true)) : seqOf true (.lst l) (.al j) r hs = some (l, r.set j none, (j, .lst l) :: hs) := by simp [seqOf, h]
theorem seqLa (l : List PV) (j : Nat) (r : Env) (hs : List (Nat × PV)) : seqOf false (.lst l) (.al j) r hs = (frzS r j).map fun r' => (l, r', hs) := by simp [seqOf]
end
theorem dats_N (l : List Nat) : dats (l.map nI) = true := dats_enc (E := encN) datN l
theorem deps_N (l : List Nat) : deps (l.map nI) = 0 := Nat.le_zero.mp (deps_enc (E := encN) (k := 0) (fun a => Nat.le_of_eq (depN a)) l)
theorem any_N (a : Nat) (l : List Nat) : ((l.map nI).any fun x => peq x (.int (a : Int))) = decide (a ∈ l) := by rw [Bool.eq_iff_iff]; exact (any_map_enc (E := encN) a l).trans (by simp)
theorem any_P (a : Nat × Nat) (l : List (Nat × Nat)) : ((l.map eP).any fun x => peq x (eP a)) = decide (a ∈ l) := by rw [Bool.eq_iff_iff]; exact (any_map_enc (E := encP) a l).trans (by simp)
@[simp] theorem inn_T (a : Nat) (l : List Nat) : binop .inn (.int (a : Int)) (.tup (l.map nI)) = some (.bl (decide (a ∈ l))) := by simp [binop, dat, dep, dats_N, deps_N, any_N, -List.any_map]
@[simp] theorem inn_L (a : Nat) (l : List Nat) : binop .inn (.int (a : Int)) (.lst (l.map nI)) = some (.bl (decide (a ∈ l))) := by simp [binop, dat, dep, dats_N, deps_N, any_N, -List.any_map]
@[simp] theorem nin_T (a : Nat) (l : List Nat) : binop .nin (.int (a : Int)) (.tup (l.map nI)) = some (.bl (!decide (a ∈ l))) := by simp [binop, dat, dep, dats_N, deps_N, any_N, -List.any_map]
@[simp] theorem nin_L (a : Nat) (l : List Nat) : binop .nin (.int (a : Int)) (.lst (l.map nI)) = some (.bl (!decide (a ∈ l))) := by simp [binop, dat, dep, dats_N, deps_N, any_N, -List.any_map]
@[simp] theorem inn_2 (p a b : Nat) : binop .inn (.int (p : Int)) (.tup [.int (a : Int), .int (b : Int)]) = some (.bl (decide (a = p) || decide (b = p))) := by
  simp [binop, dat, dep, dats, deps, peq]
@[simp] theorem nin_2 (p a b : Nat) : binop .nin (.int (p : Int)) (.tup [.int (a : Int), .int (b : Int)]) = some (.bl (!(decide (a = p) || decide (b = p)))) := by
  simp [binop, dat, dep, dats, deps, peq]
theorem okKeyN (l : List Nat) (a : Nat) : okKey (l.map nI) (.int (a : Int)) = true := by simp [okKey, isInt]
@[simp] theorem inn_D (a : Nat) (l : List Nat) (vs : List PV) : binop .inn (.int (a : Int)) (.dct (l.map nI) vs) = some (.bl (decide (a ∈ l))) := by simp [binop, okKeyN, any_N, -List.any_map]
@[simp] theorem nin_D (a : Nat) (l : List Nat) (vs : List PV) : binop .nin (.int (a : Int)) (.dct (l.map nI) vs) = some (.bl (!decide (a ∈ l))) := by simp [binop, okKeyN, any_N, -List.any_map]
/-! ## functions of webs -/
theorem run_need_web {T : Tab} [HasF T 0] [HasF T 1] [HasF T 2] [HasF T 3] (n : Nat) (w : W) (h : w.Ok) : run T (n + 4) 3 [(eW w, true)] = .ok .non true [(eW w, true)] := by
  rw [run_has (d := d_need_web) rfl rfl]
  have e := run_is_web (T := T) n w h
  unfold eW at e ⊢
  simp [d_need_web, e]
/-- the places tied to one -/
def besideL (w : W) (p : Nat) : List Nat := w.ties.filterMap fun t => if t.1 = p ∨ t.2 = p then some (t.1 + t.2 - p) else none
theorem run_beside {T : Tab} [HasF T 6] (n : Nat) (w : W) (p : Nat) (h : w.ties.length ≤ line) : run T (n + 1) 6 [(eW w, true), (nI p, true)] = .ok (.lst ((besideL w p).map nI)) true [(eW w, true), (nI p, true)] := by
  rw [run_has (d := d_beside) rfl rfl]
  have hc : compEv T (run T n) (.bin .sub (.bin .add (.var 2) (.var 3)) (.var 1)) (.tp [.nm 2, .nm 3]) [.bin .inn (.var 1) (.tupd [.var 2, .var 3])] [2, 3] (w.ties.map eP) [] [some (eW w, true), some (nI p, true), none, none] =
      .ok (.lst ((besideL w p).map nI), .own) [some (eW w, true), some (nI p, true), none, none] := by
    rw [comp_p (fun t : Nat × Nat => if t.1 = p ∨ t.2 = p then some (nI (t.1 + t.2 - p)) else none) fun t ht => ⟨[some (eW w, true), some (nI p, true), some (nI t.1, true), some (nI t.2, true)], ?_, by simp [wipeS]⟩]
    · unfold besideL
      rw [List.map_filterMap]
      congr 3
      apply congrArg (fun f => List.filterMap f w.ties)
      funext t
      split <;> rfl
    · by_cases e1 : t.1 = p <;> by_cases e2 : t.2 = p <;> simp [turC, wipeS, eW, eP, e1, e2] <;> omega
  unfold eW at hc ⊢
  simp [d_beside, h, hc]
/-- places without one -/
def withoutL (l : List Nat) (p : Nat) : List Nat := l.filter fun q => decide (q ≠ p)
theorem run_without {T : Tab} [HasF T 10] (n : Nat) (l : List Nat) (p : Nat) (h : l.length ≤ line) : run T (n + 1) 10 [(eL l, true), (nI p, true)] = .ok (eL (withoutL l p)) true [(eL l, true), (nI p, true)] := by
  rw [run_has (d := d_without) rfl rfl]
  have hc : compEv T (run T n) (.var 2) (.nm 2) [.bin .ne (.var 2) (.var 1)] [2] (l.map nI) [] [some (eL l, true), some (nI p, true), none] = .ok (.lst ((withoutL l p).map nI), .own) [some (eL l, true), some (nI p, true), none] := by
    rw [comp_p (fun q : Nat => if q ≠ p then some (nI q) else none) fun q hq => ⟨[some (eL l, true), some (nI p, true), some (nI q, true)], ?_, by simp [wipeS]⟩]
    · unfold withoutL
      rw [← List.filterMap_eq_filter, List.map_filterMap]
      congr 3
      apply congrArg (fun f => List.filterMap f l)
      funext q
      by_cases e : q = p <;> simp [e, Option.guard]
    · by_cases e : q = p
      · subst e; simp [turC, wipeS, eL]
      · have : ¬ (q : Int) = p := by omega
        simp [turC, wipeS, eL, e]
  unfold eL at hc ⊢
  simp [d_without, h, hc]
end PQ

set_option linter.all false
set_option maxRecDepth 100000
namespace PQ
open PL
open PV
/-! ## webs that a law draws -/
theorem range'_pre {a n : Nat} {pre post : List Nat} {x : Nat} (h : List.range' a n = pre ++ x :: post) : x = a + pre.length ∧ pre.length < n ∧ (∀ y ∈ pre, a ≤ y ∧ y < x) := by
  have hl := congrArg List.length h
  simp at hl
  have hx := congrArg (fun l => l[pre.length]?) h
  simp only [List.getElem?_range', List.getElem?_append_right (Nat.le_refl _), Nat.sub_self, List.getElem?_cons_zero] at hx
  have hx2 : x = a + pre.length := by
    by_cases c : pre.length < n
    · simp [c] at hx; omega
    · omega
  refine ⟨hx2, by omega, fun y hy => ?_⟩
  obtain ⟨i, hi, rfl⟩ := List.getElem_of_mem hy
  have hy2 := congrArg (fun l => l[i]?) h
  simp only [List.getElem?_append_left hi, List.getElem?_eq_getElem hi] at hy2
  rw [List.getElem?_range' (by omega)] at hy2
  simp at hy2
  omega
theorem Sor.snoc {l : List (Nat × Nat)} {t : Nat × Nat} (h : Sor l) (ht : ∀ s ∈ l, s.1 < t.1 ∨ (s.1 = t.1 ∧ s.2 < t.2)) : Sor (l ++ [t]) := by
  unfold Sor at *
  rw [List.pairwise_append]
  refine ⟨h, by simp, fun a ha b hb => ?_⟩
  rw [List.mem_singleton.mp hb]
  have := ht a ha
  show (decide (a.1 < t.1) || (decide (a.1 = t.1) && decide (a.2 < t.2))) = true
  simp; omega
theorem run_web2 {T : Tab} [HasDraw T] [HasPick T] [h4 : HasL2 T 104] (n : Nat) (ns : List Int) (k m : Nat) (hm : 0 < m) (hm8 : m ≤ 8) (hk : k < 900000) :
    ∃ (w : W) (k' : Nat), w.Ok ∧ w.many ≤ m ∧ k' ≤ k + 100 ∧ run T (n + 5) 104 [(scr ns, false), (town k, true), (nI m, true)] = .ok (eW w) true [(scr ns, false), (town k', true), (nI m, true)] := by
  obtain ⟨d, hd, e1⟩ := run_draw (T := T) (n + 1) ns k m hm (by omega)
  obtain ⟨v, hv, e2⟩ := run_pick (T := T) n ns (k + 1) [.int 2, .int 3, .int 4, .int 6, .int 8] true (by simp) (by simp) (by omega)
  obtain ⟨sh, rfl⟩ : ∃ s : Int, v = .int s := by
    simp at hv; rcases hv with rfl | rfl | rfl | rfl | rfl <;> exact ⟨_, rfl⟩
  -- the inner loop
  have inner : ∀ (one k1 : Nat) (L : List (Nat × Nat)) (x7 : Slot), one < d + 1 → k1 ≤ k + 2 + 8 * one → Sor L → (∀ t ∈ L, t.1 < t.2 ∧ t.2 < d + 1 ∧ t.1 < one) →
      ∃ k2 L2 x7', forEv T (run T (n + 4)) (.nm 7) [.ife (.bin .lt (.call 102 [.var 0, .var 1, .const (.int 10)]) (.var 4)) [.asg (.nm 5) (.bin .add (.var 5) (.tupd [.tupd [.var 6, .var 7]]))] []] ((List.range' (one + 1) (d + 1 - (one + 1))).map nI) []
        [some (scr ns, false), some (town k1, true), some (nI m, true), some (nI (d + 1), true), some (.int sh, true), some (.tup (L.map eP), true), some (nI one, true), x7] =
        .ok .nx [some (scr ns, false), some (town k2, true), some (nI m, true), some (nI (d + 1), true), some (.int sh, true), some (.tup (L2.map eP), true), some (nI one, true), x7'] ∧ k2 ≤ k1 + 8 ∧ Sor L2 ∧ (∀ t ∈ L2, t.1 < t.2 ∧ t.2 < d + 1 ∧ t.1 < one + 1) := by
    intro one k1 L x7 h1 hk1 hs hL
    obtain ⟨r', e, k2, L2, x, rfl, i1, i2, i3⟩ := for_n (T := T) (P := run T (n + 4)) (t := .nm 7) (enc := nI) (L := List.range' (one + 1) (d + 1 - (one + 1)))
      (body := [.ife (.bin .lt (.call 102 [.var 0, .var 1, .const (.int 10)]) (.var 4)) [.asg (.nm 5) (.bin .add (.var 5) (.tupd [.tupd [.var 6, .var 7]]))] []])
      (fun pre r => ∃ k2 L2 x, r = [some (scr ns, false), some (town k2, true), some (nI m, true), some (nI (d + 1), true), some (.int sh, true), some (.tup (L2.map eP), true), some (nI one, true), x] ∧ k2 ≤ k1 + pre.length ∧ Sor L2 ∧
        (∀ t ∈ L2, t.1 < t.2 ∧ t.2 < d + 1 ∧ (t.1 < one ∨ (t.1 = one ∧ t.2 < one + 1 + pre.length))))
      (fun pre a post r hsp ⟨k2, L2, x, hr, i1, i2, i3⟩ => by
        subst hr
        obtain ⟨ha, hlen, _⟩ := range'_pre hsp
        obtain ⟨dd, _, e3⟩ := run_draw (T := T) (n + 1) ns k2 10 (by decide) (by omega)
        have e3' : run T (n + 4) 102 [(scr ns, false), (town k2, true), (.int 10, true)] = _ := e3
        have hl2 : L2.length + 1 ≤ line := by
          have := ties_len i2.nodup fun t ht => ⟨(i3 t ht).1, by have := (i3 t ht).2.1; omega⟩
          unfold line; omega
        by_cases hc : (dd : Int) < sh
        · refine ⟨[some (scr ns, false), some (town (k2 + 1), true), some (nI m, true), some (nI (d + 1), true), some (.int sh, true), some (.tup ((L2 ++ [(one, a)]).map eP), true), some (nI one, true), some (nI a, true)], ?_, k2 + 1, L2 ++ [(one, a)], _, rfl, by simp; omega, i2.snoc fun s hs => ?_, fun t ht => ?_⟩
          · simp [turF, e3', hc, bo_addT, hl2, eP]
          · have := (i3 s hs).2.2
            omega
          · rcases List.mem_append.mp ht with ht | ht
            · have := i3 t ht; simp; omega
            · rw [List.mem_singleton.mp ht]; simp; omega
        · refine ⟨[some (scr ns, false), some (town (k2 + 1), true), some (nI m, true), some (nI (d + 1), true), some (.int sh, true), some (.tup (L2.map eP), true), some (nI one, true), some (nI a, true)], ?_, k2 + 1, L2, _, rfl, by simp; omega, i2, fun t ht => ?_⟩
          · simp [turF, e3', hc]
          · have := i3 t ht; simp; omega)
      ⟨k1, L, x7, rfl, by simp, hs, fun t ht => by have := hL t ht; simp; omega⟩
    refine ⟨k2, L2, x, e, ?_, i2, fun t ht => ?_⟩
    · simp at i1; omega
    · have := i3 t ht; simp at this; omega
  obtain ⟨r', e, k2, L2, x6, x7, rfl, i1, i2, i3⟩ := for_n (T := T) (P := run T (n + 4)) (t := .nm 6) (enc := nI) (L := List.range (d + 1))
    (body := [.fr (.nm 7) .rng (.bin .add (.var 6) (.const (.int 1))) (.var 3) [.ife (.bin .lt (.call 102 [.var 0, .var 1, .const (.int 10)]) (.var 4)) [.asg (.nm 5) (.bin .add (.var 5) (.tupd [.tupd [.var 6, .var 7]]))] []] false])
    (fun pre r => ∃ k2 L2 x6 x7, r = [some (scr ns, false), some (town k2, true), some (nI m, true), some (nI (d + 1), true), some (.int sh, true), some (.tup (L2.map eP), true), x6, x7] ∧ k2 ≤ k + 2 + 8 * pre.length ∧ Sor L2 ∧
      (∀ t ∈ L2, t.1 < t.2 ∧ t.2 < d + 1 ∧ t.1 < pre.length))
    (fun pre a post r hsp ⟨k2, L2, x6, x7, hr, i1, i2, i3⟩ => by
      subst hr
      rw [List.range_eq_range'] at hsp
      obtain ⟨ha, hlen, _⟩ := range'_pre hsp
      rw [Nat.zero_add] at ha; subst ha
      obtain ⟨k3, L3, x7', e, j1, j2, j3⟩ := inner pre.length k2 L2 x7 (by omega) i1 i2 i3
      have c1 : ((pre.length : Int) + 1) = ((pre.length + 1 : Nat) : Int) := by omega
      have c2 : (((d + 1 : Nat) : Int) - ((pre.length + 1 : Nat) : Int)).toNat = d + 1 - (pre.length + 1) := by omega
      have ro := rngOk_of (a := pre.length + 1) (b := d + 1) (by omega) (by omega)
      refine ⟨_, ?_, k3, L3, some (nI pre.length, true), x7', rfl, by simp; omega, j2, fun t ht => by have := j3 t ht; simp; omega⟩
      rw [Nat.add_sub_add_right] at e
      simp [turF, c1, -Int.natCast_add, ro, c2, rngL_map, e])
    (r := [some (scr ns, false), some (town (k + 2), true), some (nI m, true), some (nI (d + 1), true), some (.int sh, true), some (.tup [], true), none, none])
    ⟨k + 2, [], none, none, rfl, by simp, by simp [Sor], by simp⟩
  refine ⟨⟨d + 1, L2⟩, k2, ⟨by show 1 ≤ d + 1; omega, by show d + 1 ≤ 8; omega, fun t ht => ⟨(i3 t ht).1, (i3 t ht).2.1⟩, i2⟩, by show d + 1 ≤ m; omega, by simp at i1; omega, ?_⟩
  rw [run_of (d := d_L2_web) (h4.eq.trans rfl) rfl]
  have c1 : (1 + (d : Int)) = ((d + 1 : Nat) : Int) := by omega
  have c2 : (((d + 1 : Nat) : Int) - 0).toNat = d + 1 := by omega
  have ro := rngOk_0 (b := d + 1) (by omega)
  simp [d_L2_web, e1, e2, c1, -Int.natCast_add, flg, ro, rngL0, e, eW]
end PQ

set_option linter.all false
set_option maxRecDepth 100000
namespace PQ
open PL
open PV
/-! ## webs changed -/
@[simp] theorem isM_eP (t : Nat × Nat) : (eP t).isM = false := by simp [eP]
@[simp] theorem isM_eL (t : List Nat) : (eL t).isM = false := by simp [eL]
@[simp] theorem isM_eW (t : W) : (eW t).isM = false := by simp [eW]
@[simp] theorem eW_0 (w : W) : index (eW w) (.int 0) = some (nI w.many) := by simp [eW]
@[simp] theorem eW_1 (w : W) : index (eW w) (.int 1) = some (.tup (w.ties.map eP)) := by simp [eW]
theorem isWhole_some {v : PV} {b : Nat} (h : isWhole v 0 ((b : Int) - 1) = true) : ∃ p : Nat, v = nI p ∧ p < b := by
  cases v <;> simp [isWhole] at h
  rename_i i
  exact ⟨i.toNat, by rw [nI, Int.toNat_of_nonneg h.1], by omega⟩
theorem isWhole_nat (p b : Nat) : isWhole (nI p) 0 ((b : Int) - 1) = decide (p < b) := by
  simp [isWhole]; omega
theorem run_need_place {T : Tab} [HasF T 0] [HasF T 41] (n : Nat) (w : W) (v : PV) (hv : v.isM = false) (ht : tyOk v = true) : run T (n + 2) 41 [(eW w, true), (v, true)] =
    if isWhole v 0 ((w.many : Int) - 1) then .ok .non true [(eW w, true), (v, true)] else .exc 4 [(eW w, true), (v, true)] := by
  rw [run_has (d := d_need_place) rfl rfl]
  unfold eW
  cases h : isWhole v 0 ((w.many : Int) - 1) <;> simp [d_need_place, run_is_whole, hv, ht, h]
theorem run_tie_of {T : Tab} [HasF T 0] [HasF T 41] [HasF T 42] (n : Nat) (w : W) (a b : Nat) (ha : a < w.many) (hb : b < w.many) : run T (n + 3) 42 [(eW w, true), (nI a, true), (nI b, true)] =
    if a = b then .exc 4 [(eW w, true), (nI a, true), (nI b, true)] else .ok (eP (min a b, max a b)) true [(eW w, true), (nI a, true), (nI b, true)] := by
  rw [run_has (d := d_tie_of) rfl rfl]
  have e1 := run_need_place (T := T) n w (nI a) (by simp) (by simp)
  have e2 := run_need_place (T := T) n w (nI b) (by simp) (by simp)
  rw [isWhole_nat, if_pos (by simpa using ha)] at e1
  rw [isWhole_nat, if_pos (by simpa using hb)] at e2
  by_cases h : a = b
  · subst h; simp [d_tie_of, e1, e2]
  · simp [d_tie_of, e1, e2, h, eP]
    constructor
    · by_cases c : b < a <;> simp [c] <;> omega
    · by_cases c : a < b <;> simp [c] <;> omega
theorem run_tie_of_no {T : Tab} [HasF T 0] [HasF T 41] [HasF T 42] (n : Nat) (w : W) (v u : PV) (hv : v.isM = false) (ht : tyOk v = true) (hu : u.isM = false) (hs : tyOk u = true)
    (h : isWhole v 0 ((w.many : Int) - 1) = false ∨ isWhole u 0 ((w.many : Int) - 1) = false) : run T (n + 3) 42 [(eW w, true), (v, true), (u, true)] = .exc 4 [(eW w, true), (v, true), (u, true)] := by
  rw [run_has (d := d_tie_of) rfl rfl]
  have e1 := run_need_place (T := T) n w v hv ht
  have e2 := run_need_place (T := T) n w u hu hs
  have hw : (eW w).isM = false := by simp [eW]
  cases h1 : isWhole v 0 ((w.many : Int) - 1)
  · rw [h1] at e1
    simp [d_tie_of, e1, hv, hu, hw]
  · rw [h1] at e1 h
    simp at h
    rw [h] at e2
    simp [d_tie_of, e1, e2, hv, hu, hw]
theorem psort_P (l : List (Nat × Nat)) : psort (l.map eP) = some ((srtT l).map eP) := by
  have h1 : okSort (l.map eP) = true := by
    unfold okSort
    have a1 : ((l.map eP).all fun a => (l.map eP).all fun b => alk a b) = true := by
      rw [List.all_eq_true]; intro x hx
      rw [List.all_eq_true]; intro y hy
      obtain ⟨s, _, rfl⟩ := List.mem_map.mp hx
      obtain ⟨t, _, rfl⟩ := List.mem_map.mp hy
      simp [eP, alk, alks]
    have a2 : (l.map eP).all isTupC = true := by
      rw [List.all_eq_true]; intro x hx
      obtain ⟨s, _, rfl⟩ := List.mem_map.mp hx
      rfl
    have a3 : deps (l.map eP) ≤ 1 := deps_enc (E := encP) (k := 1) (fun a => Nat.le_of_eq (depP a)) l
    rw [a1, a2]; simp; omega
  unfold psort
  rw [if_pos h1]; exact congrArg some (isort_map (E := encP) l)
theorem psort_N (l : List Nat) : psort (l.map nI) = some ((srtT l).map nI) := by
  have h1 : okSort (l.map nI) = true := by
    unfold okSort
    have a1 : ((l.map nI).all fun a => (l.map nI).all fun b => alk a b) = true := by
      rw [List.all_eq_true]; intro x hx
      rw [List.all_eq_true]; intro y hy
      obtain ⟨s, _, rfl⟩ := List.mem_map.mp hx
      obtain ⟨t, _, rfl⟩ := List.mem_map.mp hy
      rfl
    have a2 : (l.map nI).all isOther = true := by
      rw [List.all_eq_true]; intro x hx
      obtain ⟨s, _, rfl⟩ := List.mem_map.mp hx
      rfl
    rw [a1, a2, deps_N]; simp
  unfold psort
  rw [if_pos h1]; exact congrArg some (isort_map (E := encN) l)
@[simp] theorem b1_sortLP (l : List (Nat × Nat)) : b1op .sorted (.lst (l.map eP)) = some (.lst ((srtT l).map eP)) := by simp [b1op, psort_P]
@[simp] theorem b1_sortTP (l : List (Nat × Nat)) : b1op .sorted (.tup (l.map eP)) = some (.lst ((srtT l).map eP)) := by simp [b1op, psort_P]
@[simp] theorem b1_sortLN (l : List Nat) : b1op .sorted (.lst (l.map nI)) = some (.lst ((srtT l).map nI)) := by simp [b1op, psort_N]
@[simp] theorem b1_sortTN (l : List Nat) : b1op .sorted (.tup (l.map nI)) = some (.lst ((srtT l).map nI)) := by simp [b1op, psort_N]
theorem dats_P (l : List (Nat × Nat)) : dats (l.map eP) = true := dats_enc (E := encP) datP l
theorem deps_P (l : List (Nat × Nat)) : deps (l.map eP) ≤ 1 := deps_enc (E := encP) (k := 1) (fun a => Nat.le_of_eq (depP a)) l
@[simp] theorem inn_TP (a : Nat × Nat) (l : List (Nat × Nat)) : binop .inn (eP a) (.tup (l.map eP)) = some (.bl (decide (a ∈ l))) := by
  have := deps_P l
  have h : deps (l.map eP) ≤ 8 := by omega
  simp [binop, datP, depP, dats_P, h, any_P, -List.any_map]
@[simp] theorem nin_TP (a : Nat × Nat) (l : List (Nat × Nat)) : binop .nin (eP a) (.tup (l.map eP)) = some (.bl (!decide (a ∈ l))) := by
  have := deps_P l
  have h : deps (l.map eP) ≤ 8 := by omega
  simp [binop, datP, depP, dats_P, h, any_P, -List.any_map]
@[simp] theorem bo_eqP (a b : Nat × Nat) : binop .eq (eP a) (eP b) = some (.bl (decide (a = b))) := by
  have : peq (eP a) (eP b) = decide (a = b) := by rw [Bool.eq_iff_iff]; exact (encP.peq_ a b).trans (by simp)
  simp [binop, datP, depP, this]
@[simp] theorem bo_neP (a b : Nat × Nat) : binop .ne (eP a) (eP b) = some (.bl (!decide (a = b))) := by
  have : peq (eP a) (eP b) = decide (a = b) := by rw [Bool.eq_iff_iff]; exact (encP.peq_ a b).trans (by simp)
  simp [binop, datP, depP, this]
def tieOf (a b : Nat) : Nat × Nat := (min a b, max a b)
def W.plus (w : W) (t : Nat × Nat) : W := ⟨w.many, srtT (w.ties ++ [t])⟩
def W.less (w : W) (t : Nat × Nat) : W := ⟨w.many, w.ties.filter fun s => decide (s ≠ t)⟩
theorem tieOf_ok {a b m : Nat} (ha : a < m) (hb : b < m) (h : a ≠ b) : (tieOf a b).1 < (tieOf a b).2 ∧ (tieOf a b).2 < m := by unfold tieOf; simp only; omega
theorem W.Ok.plus {w : W} (h : w.Ok) {t : Nat × Nat} (h1 : t.1 < t.2) (h2 : t.2 < w.many) (hn : t ∉ w.ties) : (w.plus t).Ok := by
  refine ⟨h.lo, h.hi, fun s hs => ?_, srtT_sor ?_⟩
  · rcases List.mem_append.mp (mem_srtT.mp hs) with z | z
    · exact h.ties s z
    · rw [List.mem_singleton.mp z]; exact ⟨h1, h2⟩
  · refine List.nodup_append.mpr ⟨h.sor.nodup, by simp, fun x hx y hy => ?_⟩
    rw [List.mem_singleton.mp hy]; rintro rfl; exact hn hx
theorem W.Ok.less {w : W} (h : w.Ok) (t : Nat × Nat) : (w.less t).Ok :=
  ⟨h.lo, h.hi, fun s hs => h.ties s (List.mem_filter.mp hs).1, List.Pairwise.filter _ h.sor⟩
theorem run_with_tie {T : Tab} [HasF T 0] [HasF T 1] [HasF T 2] [HasF T 3] [HasF T 41] [HasF T 42] [HasF T 43] (n : Nat) (w : W) (hw : w.Ok) (a b : Nat) (ha : a < w.many) (hb : b < w.many) (hab : a ≠ b) : run T (n + 5) 43 [(eW w, true), (nI a, true), (nI b, true)] =
    if tieOf a b ∈ w.ties then .exc 9 [(eW w, true), (nI a, true), (nI b, true)] else .ok (eW (w.plus (tieOf a b))) true [(eW w, true), (nI a, true), (nI b, true)] := by
  rw [run_has (d := d_with_tie) rfl rfl]
  have e1 := run_need_web (T := T) n w hw
  have e2 := run_tie_of (T := T) (n + 1) w a b ha hb
  rw [if_neg hab] at e2
  have hl : w.ties.length + 1 ≤ line := by have := hw.len; unfold line; omega
  by_cases h : tieOf a b ∈ w.ties
  · unfold tieOf at h ⊢
    simp [d_with_tie, e1, e2, h]
  · have e3 : binop .add (.tup (w.ties.map eP)) (.tup [eP (tieOf a b)]) = some (.tup ((w.ties ++ [tieOf a b]).map eP)) := by
      rw [bo_addT _ _ (by simpa using hl)]; simp
    unfold tieOf at h e3 ⊢
    rw [if_neg h]
    simp [d_with_tie, e1, e2, h, e3, -List.map_append]
    rfl
theorem run_without_tie {T : Tab} [HasF T 0] [HasF T 1] [HasF T 2] [HasF T 3] [HasF T 41] [HasF T 42] [HasF T 44] (n : Nat) (w : W) (hw : w.Ok) (a b : Nat) (ha : a < w.many) (hb : b < w.many) (hab : a ≠ b) : run T (n + 5) 44 [(eW w, true), (nI a, true), (nI b, true)] =
    if tieOf a b ∈ w.ties then .ok (eW (w.less (tieOf a b))) true [(eW w, true), (nI a, true), (nI b, true)] else .exc 9 [(eW w, true), (nI a, true), (nI b, true)] := by
  rw [run_has (d := d_without_tie) rfl rfl]
  have e1 := run_need_web (T := T) n w hw
  have e2 := run_tie_of (T := T) (n + 1) w a b ha hb
  rw [if_neg hab] at e2
  have hl : w.ties.length ≤ line := by have := hw.len; unfold line; omega
  by_cases h : tieOf a b ∈ w.ties
  · rw [if_pos h]
    have hc : compEv T (run T (n + 4)) (.var 4) (.nm 4) [.bin .ne (.var 4) (.var 3)] [4] (w.ties.map eP) [] [some (eW w, true), some (nI a, true), some (nI b, true), some (eP (tieOf a b), true), none] =
        .ok (.lst ((w.less (tieOf a b)).ties.map eP), .own) [some (eW w, true), some (nI a, true), some (nI b, true), some (eP (tieOf a b), true), none] := by
      rw [comp_p (fun q : Nat × Nat => if q ≠ tieOf a b then some (eP q) else none) fun q hq => ⟨[some (eW w, true), some (nI a, true), some (nI b, true), some (eP (tieOf a b), true), some (eP q, true)], ?_, by simp [wipeS]⟩]
      · unfold W.less
        rw [← List.filterMap_eq_filter, List.map_filterMap]
        congr 3
        apply congrArg (fun f => List.filterMap f w.ties)
        funext q
        by_cases e : q = tieOf a b <;> simp [e, Option.guard]
      · by_cases e : q = tieOf a b
        · subst e; simp [turC, wipeS]
        · simp [turC, wipeS, e]
    unfold tieOf at h hc ⊢
    simp [d_without_tie, e1, e2, h, hl, hc]
    rfl
  · rw [if_neg h]
    unfold tieOf at h
    simp [d_without_tie, e1, e2, h]
end PQ

set_option linter.all false
set_option maxRecDepth 100000
namespace PQ
open PL
open PV
def lowN (p g : Nat) : Nat := if g < p then p - 1 else p
theorem run_lowered {T : Tab} [HasF T 45] (n : Nat) (p g : Nat) : run T (n + 1) 45 [(nI p, true), (nI g, true)] = .ok (nI (lowN p g)) true [(nI p, true), (nI g, true)] := by
  rw [run_has (d := d_lowered) rfl rfl]
  unfold lowN
  by_cases h : g < p
  · have h2 : (g : Int) < p := by omega
    have h3 : ((p - 1 : Nat) : Int) = (p : Int) - 1 := by omega
    simp [d_lowered, h, h2, h3, b2i]
  · have h2 : ¬ (g : Int) < p := by omega
    simp [d_lowered, h, h2, b2i]
def W.drop (w : W) (g : Nat) : W := ⟨w.many - 1, (w.ties.filter fun t => decide (t.1 ≠ g ∧ t.2 ≠ g)).map fun t => (lowN t.1 g, lowN t.2 g)⟩
def W.grow (w : W) : W := ⟨w.many + 1, w.ties⟩
theorem W.Ok.grow {w : W} (h : w.Ok) (h8 : w.many < 8) : w.grow.Ok := ⟨by have := h.lo; show 1 ≤ w.many + 1; omega, h8, fun t ht => ⟨(h.ties t ht).1, Nat.lt_succ_of_lt (h.ties t ht).2⟩, h.sor⟩
theorem lowN_lt {a b g : Nat} (h : a < b) (ha : a ≠ g) (hb : b ≠ g) : lowN a g < lowN b g := by unfold lowN; split <;> split <;> omega
theorem W.Ok.drop {w : W} (h : w.Ok) {g : Nat} (hg : g < w.many) (h1 : w.many ≠ 1) : (w.drop g).Ok := by
  refine ⟨by have := h.lo; show 1 ≤ w.many - 1; omega, by have := h.hi; show w.many - 1 ≤ 8; omega, fun t ht => ?_, ?_⟩
  · obtain ⟨s, hs, rfl⟩ := List.mem_map.mp ht
    obtain ⟨hs, hne⟩ := List.mem_filter.mp hs
    simp at hne
    have := h.ties s hs
    refine ⟨lowN_lt this.1 hne.1 hne.2, ?_⟩
    show lowN s.2 g < w.many - 1
    unfold lowN; split <;> omega
  · unfold Sor W.drop
    rw [List.pairwise_map]
    refine List.Pairwise.imp_of_mem (fun {a b} ha hb hab => ?_) (List.Pairwise.filter _ h.sor)
    have ha := (List.mem_filter.mp ha).2
    have hb := (List.mem_filter.mp hb).2
    simp at ha hb
    have hab : (decide (a.1 < b.1) || (decide (a.1 = b.1) && decide (a.2 < b.2))) = true := hab
    show (decide (lowN a.1 g < lowN b.1 g) || (decide (lowN a.1 g = lowN b.1 g) && decide (lowN a.2 g < lowN b.2 g))) = true
    simp at hab ⊢
    rcases hab with z | z
    · exact .inl (lowN_lt z ha.1 hb.1)
    · exact .inr ⟨by rw [z.1], lowN_lt z.2 ha.2 hb.2⟩
theorem run_without_place {T : Tab} [HasF T 0] [HasF T 1] [HasF T 2] [HasF T 3] [HasF T 41] [HasF T 45] [HasF T 46] (n : Nat) (w : W) (hw : w.Ok) (g : Nat) (hg : g < w.many) : run T (n + 5) 46 [(eW w, true), (nI g, true)] =
    if w.many = 1 then .exc 4 [(eW w, true), (nI g, true)] else .ok (eW (w.drop g)) true [(eW w, true), (nI g, true)] := by
  rw [run_has (d := d_without_place) rfl rfl]
  have e1 := run_need_web (T := T) n w hw
  have e2 := run_need_place (T := T) (n + 2) w (nI g) (by simp) (by simp)
  rw [isWhole_nat, if_pos (by simpa using hg)] at e2
  have hl : w.ties.length ≤ line := by have := hw.len; unfold line; omega
  by_cases h : w.many = 1
  · have h' : (w.many : Int) = 1 := by omega
    simp [d_without_place, e1, e2, h, h']
  · have h' : ¬ (w.many : Int) = 1 := by omega
    have hc : compEv T (run T (n + 4)) (.tupd [.call 45 [.var 3, .var 1], .call 45 [.var 4, .var 1]]) (.tp [.nm 3, .nm 4]) [.bin .nin (.var 1) (.tupd [.var 3, .var 4])] [3, 4] (w.ties.map eP) [] [some (eW w, true), some (nI g, true), none, none, none] =
        .ok (.lst ((w.drop g).ties.map eP), .own) [some (eW w, true), some (nI g, true), none, none, none] := by
      rw [comp_p (fun t : Nat × Nat => if t.1 ≠ g ∧ t.2 ≠ g then some (eP (lowN t.1 g, lowN t.2 g)) else none) fun t ht => ⟨[some (eW w, true), some (nI g, true), none, some (nI t.1, true), some (nI t.2, true)], ?_, by simp [wipeS]⟩]
      · unfold W.drop
        rw [← List.filterMap_eq_filter, List.map_filterMap, List.map_filterMap]
        congr 3
        apply congrArg (fun f => List.filterMap f w.ties)
        funext q
        by_cases e : q.1 = g <;> by_cases e' : q.2 = g <;> simp [e, e', Option.guard]
      · by_cases e : t.1 = g <;> by_cases e' : t.2 = g <;> simp [turC, wipeS, eP, e, e', run_lowered]
    have c1 : ((w.many - 1 : Nat) : Int) = (w.many : Int) - 1 := by have := hw.lo; omega
    rw [if_neg h]
    simp [d_without_place, e1, e2, h', hl, hc]
    simp [eW, W.drop, c1]
theorem run_with_place {T : Tab} [HasF T 0] [HasF T 1] [HasF T 2] [HasF T 3] [HasF T 47] (n : Nat) (w : W) (hw : w.Ok) : run T (n + 5) 47 [(eW w, true)] =
    if w.many = 8 then .exc 11 [(eW w, true)] else .ok (eW w.grow) true [(eW w, true)] := by
  rw [run_has (d := d_with_place) rfl rfl]
  have e1 := run_need_web (T := T) n w hw
  by_cases h : w.many = 8
  · have h' : (w.many : Int) = 8 := by omega
    simp [d_with_place, e1, h, h']
  · have h' : ¬ (w.many : Int) = 8 := by omega
    rw [if_neg h]
    simp [d_with_place, e1, h']
    simp [eW, W.grow]
/-! ## refusals -/
def refd (k : Nat) : PV := .tup [.str [114, 101, 102, 117, 115, 101, 100], .int (k : Int)]
@[simp] theorem isM_refd (k : Nat) : (refd k).isM = false := by simp [refd]
theorem keyT_refd (k : Nat) : keyT (refd k) = true := by simp [refd, keyT, keyTs]
theorem trR_exc {T : Tab} {P : Fns} {i d f : Nat} {r : Env} {bs : List (PV × Bool)} (h1 : T.wh 13 d = some f) (h2 : P f [(.fn 999, true)] = .ok (refd d) true bs) (h3 : r[i]? = some none) :
    trR T P 13 i (.exc d r) = .ok (.rt (refd d) .own) r := by
  unfold trR
  simp only [h1, h3, if_true, h2, keyT_refd]
end PQ

set_option linter.all false
set_option maxRecDepth 100000
namespace PQ
open PL
open PV
/-! ## no places -/
structure NoPl (w : W) (v : PV) : Prop where
  m : v.isM = false
  t : tyOk v = true
  n : isWhole v 0 ((w.many : Int) - 1) = false
section
variable {T : Tab} [HasF T 0] [HasF T 1] [HasF T 2] [HasF T 3] [HasF T 41] [HasF T 42]
theorem run_wt_no [HasF T 43] (n : Nat) (w : W) (hw : w.Ok) (v u : PV) (hv : v.isM = false) (ht : tyOk v = true) (hu : u.isM = false) (hs : tyOk u = true) (h : isWhole v 0 ((w.many : Int) - 1) = false ∨ isWhole u 0 ((w.many : Int) - 1) = false) :
    run T (n + 5) 43 [(eW w, true), (v, true), (u, true)] = .exc 4 [(eW w, true), (v, true), (u, true)] := by
  rw [run_has (d := d_with_tie) rfl rfl]
  simp [d_with_tie, run_need_web n w hw, run_tie_of_no (n + 1) w v u hv ht hu hs h, hv, hu]
theorem run_wot_no [HasF T 44] (n : Nat) (w : W) (hw : w.Ok) (v u : PV) (hv : v.isM = false) (ht : tyOk v = true) (hu : u.isM = false) (hs : tyOk u = true) (h : isWhole v 0 ((w.many : Int) - 1) = false ∨ isWhole u 0 ((w.many : Int) - 1) = false) :
    run T (n + 5) 44 [(eW w, true), (v, true), (u, true)] = .exc 4 [(eW w, true), (v, true), (u, true)] := by
  rw [run_has (d := d_without_tie) rfl rfl]
  simp [d_without_tie, run_need_web n w hw, run_tie_of_no (n + 1) w v u hv ht hu hs h, hv, hu]
theorem run_dt_no [HasF T 48] (n : Nat) (w : W) (hw : w.Ok) (v u : PV) (hv : v.isM = false) (ht : tyOk v = true) (hu : u.isM = false) (hs : tyOk u = true) (h : isWhole v 0 ((w.many : Int) - 1) = false ∨ isWhole u 0 ((w.many : Int) - 1) = false) :
    run T (n + 5) 48 [(eW w, true), (v, true), (u, true)] = .exc 4 [(eW w, true), (v, true), (u, true)] := by
  rw [run_has (d := d_drawn_together) rfl rfl]
  simp [d_drawn_together, run_need_web n w hw, run_tie_of_no (n + 1) w v u hv ht hu hs h, hv, hu]
theorem run_wop_no [HasF T 46] (n : Nat) (w : W) (hw : w.Ok) (v : PV) (h : NoPl w v) : run T (n + 5) 46 [(eW w, true), (v, true)] = .exc 4 [(eW w, true), (v, true)] := by
  rw [run_has (d := d_without_place) rfl rfl]
  have e2 := run_need_place (T := T) (n + 2) w v h.m h.t
  rw [h.n] at e2
  simp [d_without_place, run_need_web n w hw, e2, h.m]
end
/-- what a law draws as no place -/
def oddPl (w : W) : List PV := [.non, .int (-1), nI w.many, .bl true, .str [48], .tup [.int 0]]
theorem oddPl_no (w : W) (v : PV) (h : v ∈ oddPl w) : NoPl w v := by
  simp [oddPl] at h
  rcases h with rfl | rfl | rfl | rfl | rfl | rfl <;> exact ⟨by simp, by simp, by simp [isWhole]; try omega⟩
end PQ

set_option linter.all false
set_option maxRecDepth 100000
namespace PQ
open PL
open PV
instance : DecidableEq W := fun a b => if h : a.many = b.many ∧ a.ties = b.ties then .isTrue (by cases a; cases b; obtain ⟨h1, h2⟩ := h; cases h1; cases h2; rfl) else .isFalse (fun e => h (by rw [e]; exact ⟨rfl, rfl⟩))
theorem peqW (a b : W) : peq (eW a) (eW b) = decide (a = b) := by
  rw [Bool.eq_iff_iff]
  have e := peqs_enc (E := encP) a.ties b.ties
  have e' : peqs (a.ties.map eP) (b.ties.map eP) = true ↔ a.ties = b.ties := e
  cases a; cases b
  simp [eW, peq, peqs, e'] at *
theorem datW (w : W) : dat (eW w) = true := by
  have hd : dats (w.ties.map eP) = true := dats_P _
  simp [eW, dat, dats, hd]
theorem depW (w : W) : dep (eW w) ≤ 3 := by
  have hp : deps (w.ties.map eP) ≤ 1 := deps_P _
  simp [eW, dep, deps]; omega
@[simp] theorem bo_eqW (a b : W) : binop .eq (eW a) (eW b) = some (.bl (decide (a = b))) := by
  have h1 := depW a; have h2 := depW b
  have h3 : dep (eW a) ≤ 8 := by omega
  have h4 : dep (eW b) ≤ 8 := by omega
  simp [binop, datW, h3, h4, peqW]
@[simp] theorem bo_neW (a b : W) : binop .ne (eW a) (eW b) = some (.bl (!decide (a = b))) := by
  have h1 := depW a; have h2 := depW b
  have h3 : dep (eW a) ≤ 8 := by omega
  have h4 : dep (eW b) ≤ 8 := by omega
  simp [binop, datW, h3, h4, peqW]
@[simp] theorem parOf_no {v : PV} (h : v.isM = false) (f : Fl) (r : Env) : parOf (v, f) r = some ((v, .own), r) := by simp [parOf, h]
@[simp] theorem parOf_ownL (l : List PV) (r : Env) : parOf (.lst l, .own) r = some ((.lst l, .own), r) := by simp [parOf]
@[simp] theorem setP_nil (r : Env) : setP [] [] r = some r := by simp [setP]
@[simp] theorem setP_cons (i : Nat) (is : List Nat) (x : PV × Fl) (xs : List (PV × Fl)) (r : Env) : setP (i :: is) (x :: xs) r = (setS i x.1 x.2 r).bind fun r' => setP is xs r' := by simp [setP]
@[simp high] theorem bo_mnN (a b : Nat) : binop .mn (.int (a : Int)) (.int (b : Int)) = some (.int ((min a b : Nat) : Int)) := by
  rw [bo_mn]; congr 2; split <;> omega
@[simp high] theorem bo_mxN (a b : Nat) : binop .mx (.int (a : Int)) (.int (b : Int)) = some (.int ((max a b : Nat) : Int)) := by
  rw [bo_mx]; congr 2; split <;> omega
theorem fm_if {A B : Type} (p : A → Prop) [DecidablePred p] (f : A → B) : ∀ l : List A, (l.filterMap fun a => if p a then some (f a) else none) = (l.filter fun a => decide (p a)).map f
  | [] => rfl
  | a :: l => by by_cases h : p a <;> simp [h, fm_if p f l]
theorem tieOf_comm (a b : Nat) : tieOf b a = tieOf a b := by unfold tieOf; rw [Nat.min_comm, Nat.max_comm]
theorem W.ext' {a b : W} (h1 : a.many = b.many) (h2 : a.ties = b.ties) : a = b := by cases a; cases b; cases h1; cases h2; rfl
theorem less_plus {w : W} (hw : w.Ok) (t : Nat × Nat) : (w.less t).plus t = ⟨w.many, sset (w.ties ++ [t])⟩ := by
  refine W.ext' rfl (Sor.ext (srtT_sor ?_) (sset_sor _) fun x => ?_)
  · refine List.nodup_append.mpr ⟨Sor.nodup (E := encP) (List.Pairwise.filter _ hw.sor), by simp, fun x hx y hy => ?_⟩
    rw [List.mem_singleton.mp hy]
    rintro rfl
    have := (List.mem_filter.mp hx).2
    simp at this
  · show x ∈ srtT ((w.ties.filter fun s => decide (s ≠ t)) ++ [t]) ↔ x ∈ sset (w.ties ++ [t])
    rw [mem_srtT, mem_sset, List.mem_append, List.mem_append]
    rw [List.mem_filter]
    by_cases e : x = t <;> simp [e]
theorem plus_eq {w : W} (hw : w.Ok) {t : Nat × Nat} (h : t ∉ w.ties) : w.plus t = ⟨w.many, sset (w.ties ++ [t])⟩ := by
  refine W.ext' rfl (Sor.ext (srtT_sor ?_) (sset_sor _) fun x => ?_)
  · refine List.nodup_append.mpr ⟨hw.sor.nodup, by simp, fun x hx y hy => ?_⟩
    rw [List.mem_singleton.mp hy]
    rintro rfl; exact h hx
  · show x ∈ srtT (w.ties ++ [t]) ↔ x ∈ sset (w.ties ++ [t])
    rw [mem_srtT, mem_sset]
theorem more_less {w : W} (hw : w.Ok) (t : Nat × Nat) : W.less ⟨w.many, sset (w.ties ++ [t])⟩ t = w.less t := by
  refine W.ext' rfl (Sor.ext (List.Pairwise.filter _ (sset_sor _)) (List.Pairwise.filter _ hw.sor) fun x => ?_)
  show x ∈ (sset (w.ties ++ [t])).filter _ ↔ x ∈ w.ties.filter _
  rw [List.mem_filter, List.mem_filter, mem_sset, List.mem_append]
  by_cases e : x = t <;> simp [e]
theorem more_ok {w : W} (hw : w.Ok) {t : Nat × Nat} (h1 : t.1 < t.2) (h2 : t.2 < w.many) : W.Ok ⟨w.many, sset (w.ties ++ [t])⟩ :=
  ⟨hw.lo, hw.hi, fun s hs => by
    rcases List.mem_append.mp (mem_sset.mp hs) with z | z
    · exact hw.ties s z
    · rw [List.mem_singleton.mp z]; exact ⟨h1, h2⟩, sset_sor _⟩
theorem lowN_id {p g : Nat} (h : p < g) : lowN p g = p := by unfold lowN; rw [if_neg (by omega)]
theorem drop_of {w v : W} (hw : w.Ok) (hv : Sor v.ties) (hm : v.many = w.many + 1) (h : ∀ x, x ∈ v.ties ↔ x ∈ w.ties ∨ (x = (0, w.many) ∧ x ∈ v.ties)) : v.drop w.many = w := by
  have e : (v.ties.filter fun t => decide (t.1 ≠ w.many ∧ t.2 ≠ w.many)) = w.ties := by
    refine Sor.ext (List.Pairwise.filter _ hv) hw.sor fun x => ?_
    rw [List.mem_filter]
    constructor
    · rintro ⟨h1, h2⟩
      rcases (h x).mp h1 with z | ⟨z, _⟩
      · exact z
      · subst z; simp at h2
    · intro z
      refine ⟨(h x).mpr (.inl z), ?_⟩
      have := hw.ties x z
      simp; omega
  refine W.ext' (by show v.many - 1 = w.many; omega) ?_
  show ((v.ties.filter fun t => decide (t.1 ≠ w.many ∧ t.2 ≠ w.many)).map fun t => (lowN t.1 w.many, lowN t.2 w.many)) = w.ties
  rw [e]
  have : ∀ l : List (Nat × Nat), (∀ t ∈ l, t.1 < t.2 ∧ t.2 < w.many) → (l.map fun t => (lowN t.1 w.many, lowN t.2 w.many)) = l := by
    intro l
    induction l with
    | nil => intro _; rfl
    | cons t l ih =>
      intro h
      have ht := h t List.mem_cons_self
      rw [List.map_cons, ih fun s hs => h s (List.mem_cons_of_mem _ hs), lowN_id (by omega), lowN_id ht.2]
  exact this _ hw.ties
/-- a law's own places tied to one -/
def besL (w : W) (p : Nat) : List Nat := (List.range w.many).filter fun q => decide ((p, q) ∈ w.ties ∨ (q, p) ∈ w.ties)
theorem run_L2beside {T : Tab} [h : HasL2 T 105] (n : Nat) (w : W) (p : Nat) (hm : w.many ≤ 8) : run T (n + 1) 105 [(eW w, true), (nI p, true)] = .ok (.lst ((besL w p).map nI)) true [(eW w, true), (nI p, true)] := by
  rw [run_of (d := d_L2_beside) (h.eq.trans rfl) rfl]
  have hc : compEv T (run T n) (.var 2) (.nm 2) [.or (.bin .inn (.tupd [.var 1, .var 2]) (.ix (.var 0) (.const (.int 1)))) (.bin .inn (.tupd [.var 2, .var 1]) (.ix (.var 0) (.const (.int 1))))] [2] ((List.range w.many).map nI) [] [some (eW w, true), some (nI p, true), none] =
      .ok (.lst ((besL w p).map nI), .own) [some (eW w, true), some (nI p, true), none] := by
    rw [comp_p (fun q : Nat => if (p, q) ∈ w.ties ∨ (q, p) ∈ w.ties then some (nI q) else none) fun q hq => ⟨[some (eW w, true), some (nI p, true), some (nI q, true)], ?_, by simp [wipeS]⟩]
    · unfold besL
      rw [← List.filterMap_eq_filter, List.map_filterMap]
      congr 3
      apply congrArg (fun f => List.filterMap f (List.range w.many))
      funext q
      by_cases e : (p, q) ∈ w.ties ∨ (q, p) ∈ w.ties <;> simp [e, Option.guard]
    · have i1 : binop .inn (.tup [.int (p : Int), .int (q : Int)]) (.tup (w.ties.map eP)) = some (.bl (decide ((p, q) ∈ w.ties))) := inn_TP (p, q) w.ties
      have i2 : binop .inn (.tup [.int (q : Int), .int (p : Int)]) (.tup (w.ties.map eP)) = some (.bl (decide ((q, p) ∈ w.ties))) := inn_TP (q, p) w.ties
      by_cases e1 : (p, q) ∈ w.ties <;> by_cases e2 : (q, p) ∈ w.ties <;> simp [turC, wipeS, i1, i2, e1, e2]
  have ro := rngOk_0 (b := w.many) (by omega)
  have hl : w.many ≤ line := by unfold line; omega
  simp [d_L2_beside, ro, rngL0, hl, hc]
end PQ

set_option linter.all false
set_option maxRecDepth 100000
namespace PQ
open PL
open PV
/-! ## what hangs together -/
def adj (w : W) (a b : Nat) : Prop := (a, b) ∈ w.ties ∨ (b, a) ∈ w.ties
instance (w : W) (a b : Nat) : Decidable (adj w a b) := by unfold adj; infer_instance
theorem adj_sym {w : W} {a b : Nat} (h : adj w a b) : adj w b a := Or.symm h
inductive Cn (w : W) (P : List Nat) (a : Nat) : Nat → Prop
  | refl : Cn w P a a
  | step {b c : Nat} : Cn w P a b → adj w b c → c ∈ P → Cn w P a c
theorem Cn.trans {w : W} {P : List Nat} {a b c : Nat} (h1 : Cn w P a b) (h2 : Cn w P b c) : Cn w P a c := by
  induction h2 with
  | refl => exact h1
  | step _ h3 h4 ih => exact ih.step h3 h4
theorem Cn.mem {w : W} {P : List Nat} {a b : Nat} (h : Cn w P a b) (ha : a ∈ P) : b ∈ P := by
  cases h with
  | refl => exact ha
  | step _ _ h => exact h
theorem Cn.sym {w : W} {P : List Nat} {a b : Nat} (h : Cn w P a b) (ha : a ∈ P) : Cn w P b a := by
  induction h with
  | refl => exact .refl
  | step h1 h2 h3 ih => exact (Cn.refl.step (adj_sym h2) (h1.mem ha)).trans ih
theorem Cn.mono {w : W} {P Q : List Nat} {a b : Nat} (h : Cn w P a b) (s : ∀ x ∈ P, x ∈ Q) : Cn w Q a b := by
  induction h with
  | refl => exact .refl
  | step _ h2 h3 ih => exact ih.step h2 (s _ h3)
open Classical in
noncomputable def cls (w : W) (P : List Nat) (a : Nat) : List Nat := P.filter fun b => decide (Cn w P a b)
theorem mem_cls {w : W} {P : List Nat} {a b : Nat} : b ∈ cls w P a ↔ b ∈ P ∧ Cn w P a b := by
  unfold cls; rw [List.mem_filter]; simp
theorem cls_sor {w : W} {P : List Nat} (h : Sor P) (a : Nat) : Sor (cls w P a) := List.Pairwise.filter _ h
theorem cls_self {w : W} {P : List Nat} {a : Nat} (h : a ∈ P) : a ∈ cls w P a := mem_cls.mpr ⟨h, .refl⟩
theorem cls_eq {w : W} {P : List Nat} (hs : Sor P) {a b : Nat} (ha : a ∈ P) (h : Cn w P a b) : cls w P a = cls w P b :=
  Sor.ext (cls_sor hs a) (cls_sor hs b) fun x => by
    rw [mem_cls, mem_cls]
    exact ⟨fun z => ⟨z.1, (h.sym ha).trans z.2⟩, fun z => ⟨z.1, h.trans z.2⟩⟩
theorem cls_inj {w : W} {P : List Nat} {a b : Nat} (hb : b ∈ P) (h : cls w P a = cls w P b) : Cn w P a b := by
  have := cls_self (w := w) hb
  rw [← h] at this
  exact (mem_cls.mp this).2
/-- the pieces -/
noncomputable def pcs (w : W) (P : List Nat) : List (List Nat) := sset (P.map (cls w P))
theorem mem_pcs {w : W} {P : List Nat} {x : List Nat} : x ∈ pcs w P ↔ ∃ a ∈ P, cls w P a = x := by
  unfold pcs; rw [mem_sset, List.mem_map]
theorem pcs_sor (w : W) (P : List Nat) : Sor (pcs w P) := sset_sor _
theorem mem_beside {w : W} (hw : w.Ok) {p q : Nat} : q ∈ besideL w p ↔ adj w p q := by
  unfold besideL adj
  rw [List.mem_filterMap]
  constructor
  · rintro ⟨t, ht, h⟩
    have := hw.ties t ht
    split at h
    · rename_i c
      simp only [Option.some.injEq] at h
      rcases c with c | c
      · left
        have : t = (p, q) := Prod.ext c (by show t.2 = q; omega)
        exact this ▸ ht
      · right
        have : t = (q, p) := Prod.ext (by show t.1 = q; omega) c
        exact this ▸ ht
    · cases h
  · rintro (h | h)
    · exact ⟨_, h, by simp⟩
    · have := hw.ties _ h
      refine ⟨_, h, ?_⟩
      simp
theorem adj_lt {w : W} (hw : w.Ok) {p q : Nat} (h : adj w p q) : p < w.many ∧ q < w.many := by
  rcases h with h | h
  · have := hw.ties _ h; simp at this; omega
  · have := hw.ties _ h; simp at this; omega
theorem beside_len {w : W} (hw : w.Ok) (p : Nat) : (besideL w p).length ≤ 28 := by
  have := List.length_filterMap_le (fun t : Nat × Nat => if t.1 = p ∨ t.2 = p then some (t.1 + t.2 - p) else none) w.ties
  have := hw.len
  unfold besideL; omega
theorem nodup_sub {A : Type} [DecidableEq A] : ∀ (l m : List A), l.Nodup → (∀ x ∈ l, x ∈ m) → l.length ≤ m.length
  | [], m, _, _ => Nat.zero_le _
  | a :: l, m, h, s => by
    rw [List.nodup_cons] at h
    have ha := s a List.mem_cons_self
    have := nodup_sub l (m.erase a) h.2 fun x hx => (List.mem_erase_of_ne (fun e => h.1 (by rw [← e]; exact hx))).mpr (s x (List.mem_cons_of_mem _ hx))
    rw [List.length_erase_of_mem ha] at this
    have : 0 < m.length := List.length_pos_of_mem ha
    simp; omega
/-! ## a piece, by steps -/
/-- what stands while a piece is met -/
structure Met (w : W) (P : List Nat) (a : Nat) (met row : List Nat) : Prop where
  nd : met.Nodup
  st : a ∈ met
  cn : ∀ x ∈ met, Cn w P a x
  rw : ∀ x ∈ row, x ∈ met
  cl : ∀ x ∈ met, x ∉ row → ∀ y, adj w x y → y ∈ P → y ∈ met
theorem Met.done {w : W} {P : List Nat} {a : Nat} {met : List Nat} (h : Met w P a met []) (ha : a ∈ P) (hs : Sor P) : srtT met = cls w P a := by
  refine Sor.ext (srtT_sor h.nd) (cls_sor hs a) fun x => ?_
  rw [mem_srtT, mem_cls]
  refine ⟨fun z => ⟨(h.cn x z).mem ha, h.cn x z⟩, fun z => ?_⟩
  have : ∀ y, Cn w P a y → y ∈ met := fun y c => by
    induction c with
    | refl => exact h.st
    | step _ h2 h3 ih => exact h.cl _ ih (by simp) _ h2 h3
  exact this x z.2
/-- one place's neighbours are met -/
theorem put_new : ∀ (ks : List Nat) (vs : List PV) (x : Nat) (y : PV), ks.length = vs.length → x ∉ ks → put (ks.map nI) vs (nI x) y = ((ks ++ [x]).map nI, vs ++ [y])
  | [], [], x, y, _, _ => by simp [put]
  | k :: ks, v :: vs, x, y, hl, hn => by
    have hk : ¬ k = x := fun e => hn (by simp [e])
    have := put_new ks vs x y (by simpa using hl) (fun z => hn (by simp [z]))
    simp [put, peq, hk, this]
  | [], _ :: _, _, _, h, _ => by simp at h
  | _ :: _, [], _, _, h, _ => by simp at h
def trus (l : List Nat) : List PV := l.map fun _ => .bl true
end PQ

set_option linter.all false
set_option maxRecDepth 100000
namespace PQ
open PL
open PV
/-! ## piece_of -/
theorem lst_ne_nil (l : List Nat) : binop .ne (.lst (l.map nI)) (.lst []) = some (.bl (decide (l ≠ []))) := by
  cases l with
  | nil => rfl
  | cons a l =>
    have h1 := dats_N (a :: l)
    have h2 := deps_N (a :: l)
    rw [List.map_cons] at h1 h2
    simp [binop, dat, dats, dep, deps, peq, peqs, h1, h2] at *
    try simp [h1, h2]
/-- one neighbour -/
theorem piece_turn {T : Tab} {n : Nat} {w : W} {P : List Nat} {a here : Nat} (y : Nat) (met row : List Nat) (x6 : Slot) (hm : met.length < line) (hr : row.length < line) :
    turF T (run T n) (.nm 6) [.ife (.and (.bin .inn (.var 6) (.var 1)) (.bin .nin (.var 6) (.var 3))) [.sti 3 (.var 6) (.const (.bl true)), .exp (.app 4 (.var 6))] []] (nI y)
      [some (eW w, true), some (eL P, true), some (nI a, true), some (.dct (met.map nI) (trus met), true), some (.lst (row.map nI), true), some (nI here, true), x6] =
    if y ∈ P ∧ y ∉ met then .ok .nx [some (eW w, true), some (eL P, true), some (nI a, true), some (.dct ((met ++ [y]).map nI) (trus (met ++ [y])), true), some (.lst ((row ++ [y]).map nI), true), some (nI here, true), some (nI y, true)]
    else .ok .nx [some (eW w, true), some (eL P, true), some (nI a, true), some (.dct (met.map nI) (trus met), true), some (.lst (row.map nI), true), some (nI here, true), some (nI y, true)] := by
  unfold eL
  by_cases h1 : y ∈ P
  · by_cases h2 : y ∈ met
    · simp [turF, h1, h2]
    · have hp := put_new met (trus met) y (.bl true) (by simp [trus]) h2
      have hk := okKeyN met y
      have ht : trus met ++ [.bl true] = trus (met ++ [y]) := by simp [trus]
      rw [if_pos ⟨h1, h2⟩]
      simp [turF, h1, h2, stI, hk, hp, ht, hm, isLst, modL, gApp, hr]
  · simp [turF, h1]
theorem run_piece_of {T : Tab} [HasF T 6] [HasF T 7] (n : Nat) (w : W) (hw : w.Ok) (P : List Nat) (hP : Sor P) (hl : P.length ≤ 8) (a : Nat) (ha : a ∈ P) :
    run T (n + 2) 7 [(eW w, true), (eL P, true), (nI a, true)] = .ok (eL (cls w P a)) true [(eW w, true), (eL P, true), (nI a, true)] := by
  rw [run_has (d := d_piece_of) rfl rfl]
  have wl : w.ties.length ≤ line := by have := hw.len; unfold line; omega
  have big : ∀ {met row : List Nat}, Met w P a met row → met.length ≤ 8 := fun {met row} h => by
    have := nodup_sub met P h.nd fun x hx => (h.cn x hx).mem ha
    omega
  -- the inner loop
  have inner : ∀ (here : Nat) (met row : List Nat) (x6 : Slot), Met w P a met (here :: row) → row.length ≤ 100 →
      ∃ (add : List Nat) (x6' : Slot), forEv T (run T (n + 1)) (.nm 6) [.ife (.and (.bin .inn (.var 6) (.var 1)) (.bin .nin (.var 6) (.var 3))) [.sti 3 (.var 6) (.const (.bl true)), .exp (.app 4 (.var 6))] []] ((besideL w here).map nI) []
        [some (eW w, true), some (eL P, true), some (nI a, true), some (.dct (met.map nI) (trus met), true), some (.lst (row.map nI), true), some (nI here, true), x6] =
        .ok .nx [some (eW w, true), some (eL P, true), some (nI a, true), some (.dct ((met ++ add).map nI) (trus (met ++ add)), true), some (.lst ((row ++ add).map nI), true), some (nI here, true), x6'] ∧ Met w P a (met ++ add) (row ++ add) := by
    intro here met row x6 hM hrl
    obtain ⟨r', e, add, x6', rfl, i1, i2, i3, i4⟩ := for_n (T := T) (P := run T (n + 1)) (t := .nm 6) (enc := nI) (L := besideL w here)
      (body := [.ife (.and (.bin .inn (.var 6) (.var 1)) (.bin .nin (.var 6) (.var 3))) [.sti 3 (.var 6) (.const (.bl true)), .exp (.app 4 (.var 6))] []])
      (fun pre r => ∃ add x, r = [some (eW w, true), some (eL P, true), some (nI a, true), some (.dct ((met ++ add).map nI) (trus (met ++ add)), true), some (.lst ((row ++ add).map nI), true), some (nI here, true), x] ∧
        (met ++ add).Nodup ∧ (∀ x ∈ add, adj w here x ∧ x ∈ P) ∧ (∀ y ∈ pre, y ∈ P → y ∈ met ++ add) ∧ add.length ≤ pre.length)
      (fun pre y post r hsp ⟨add, x, hr, i1, i2, i3, i4⟩ => by
        subst hr
        have hy : adj w here y := (mem_beside hw).mp (by rw [hsp]; simp)
        have hpl : pre.length ≤ 28 := by
          have := congrArg List.length hsp
          have := beside_len hw here
          simp at *; omega
        have hml : (met ++ add).length < line := by
          have := big hM
          unfold line; simp; omega
        have hrl2 : (row ++ add).length < line := by unfold line; simp; omega
        rw [piece_turn y (met ++ add) (row ++ add) x hml hrl2]
        by_cases c : y ∈ P ∧ y ∉ met ++ add
        · rw [if_pos c]
          refine ⟨_, rfl, add ++ [y], _, by rw [← List.append_assoc, ← List.append_assoc], ?_, ?_, ?_, by simp; omega⟩
          · rw [← List.append_assoc]
            refine List.nodup_append.mpr ⟨i1, by simp, fun z hz u hu => ?_⟩
            rw [List.mem_singleton.mp hu]; rintro rfl; exact c.2 hz
          · intro z hz
            rcases List.mem_append.mp hz with hz | hz
            · exact i2 z hz
            · rw [List.mem_singleton.mp hz]; exact ⟨hy, c.1⟩
          · intro z hz zp
            rw [← List.append_assoc]
            rcases List.mem_append.mp hz with hz | hz
            · exact List.mem_append_left _ (i3 z hz zp)
            · rw [List.mem_singleton.mp hz]; simp
        · rw [if_neg c]
          refine ⟨_, rfl, add, _, rfl, i1, i2, ?_, by simp; omega⟩
          intro z hz zp
          rcases List.mem_append.mp hz with hz | hz
          · exact i3 z hz zp
          · rw [List.mem_singleton.mp hz] at zp ⊢
            by_cases d : y ∈ met ++ add
            · exact d
            · exact absurd ⟨zp, d⟩ c)
      (r := [some (eW w, true), some (eL P, true), some (nI a, true), some (.dct (met.map nI) (trus met), true), some (.lst (row.map nI), true), some (nI here, true), x6])
      ⟨[], x6, by simp, by simpa using hM.nd, by simp, by simp, by simp⟩
    refine ⟨add, x6', e, ⟨i1, List.mem_append_left _ hM.st, fun x hx => ?_, fun x hx => ?_, fun x hx hn y hxy hyP => ?_⟩⟩
    · rcases List.mem_append.mp hx with hx | hx
      · exact hM.cn x hx
      · exact (hM.cn here (hM.rw here (by simp))).step (i2 x hx).1 (i2 x hx).2
    · rcases List.mem_append.mp hx with hx | hx
      · exact List.mem_append_left _ (hM.rw x (by simp [hx]))
      · exact List.mem_append_right _ hx
    · rcases List.mem_append.mp hx with hx | hx
      · by_cases eh : x = here
        · subst eh; exact i3 y ((mem_beside hw).mpr hxy) hyP
        · refine List.mem_append_left _ (hM.cl x hx (fun z => ?_) y hxy hyP)
          rcases List.mem_cons.mp z with z | z
          · exact eh z
          · exact hn (List.mem_append_left _ z)
      · exact absurd (List.mem_append_right _ hx) hn
  -- the outer loop
  obtain ⟨r', e, met, x5, x6, rfl, hM⟩ := whl_r (T := T) (P := run T (n + 1)) (c := .bin .ne (.var 4) (.lstd []))
    (b := [.asg (.nm 5) (.pop 4), .fr (.nm 6) .seq (.call 6 [.var 0, .var 5]) (.const .non) [.ife (.and (.bin .inn (.var 6) (.var 1)) (.bin .nin (.var 6) (.var 3))) [.sti 3 (.var 6) (.const (.bl true)), .exp (.app 4 (.var 6))] []] false])
    (fun m r => ∃ met row x5 x6, r = [some (eW w, true), some (eL P, true), some (nI a, true), some (.dct (met.map nI) (trus met), true), some (.lst (row.map nI), true), x5, x6] ∧ Met w P a met row ∧ m = 2 * (8 - met.length) + row.length ∧ row.length ≤ met.length)
    (fun r => ∃ met x5 x6, r = [some (eW w, true), some (eL P, true), some (nI a, true), some (.dct (met.map nI) (trus met), true), some (.lst [], true), x5, x6] ∧ Met w P a met [])
    (fun m r ⟨met, row, x5, x6, hr, hM, hm, hrl⟩ => by
      subst hr
      have hne := lst_ne_nil row
      rcases List.eq_nil_or_concat row with rfl | ⟨row', here, rfl⟩
      · rw [List.map_nil] at hne
        exact .inl ⟨_, by simp [hne], met, x5, x6, rfl, hM⟩
      · right
        rw [List.concat_eq_append] at *
        have hM' : Met w P a met (here :: row') := ⟨hM.nd, hM.st, hM.cn, fun x hx => hM.rw x (by simp at hx ⊢; exact hx.symm), fun x hx hn => hM.cl x hx (by simp at hn ⊢; exact ⟨hn.2, hn.1⟩)⟩
        have hb := big hM'
        simp only [List.length_append, List.length_cons, List.length_nil] at hrl hm
        obtain ⟨add, x6', ei, hM2⟩ := inner here met row' x6 hM' (by omega)
        have hb2 := big hM2
        simp only [List.length_append] at hb2
        have hpop : modL 4 gPop [some (eW w, true), some (eL P, true), some (nI a, true), some (.dct (met.map nI) (trus met), true), some (.lst ((row' ++ [here]).map nI), true), x5, x6] =
            .ok (nI here, .frz) [some (eW w, true), some (eL P, true), some (nI a, true), some (.dct (met.map nI) (trus met), true), some (.lst (row'.map nI), true), x5, x6] := by simp [modL, gPop]
        have hbs := run_beside (T := T) n w here wl
        have hll : (besideL w here).length ≤ line := by have := beside_len hw here; unfold line; omega
        refine ⟨[some (eW w, true), some (eL P, true), some (nI a, true), some (.dct (met.map nI) (trus met), true), some (.lst ((row' ++ [here]).map nI), true), x5, x6], [some (eW w, true), some (eL P, true), some (nI a, true), some (.dct ((met ++ add).map nI) (trus (met ++ add)), true), some (.lst ((row' ++ add).map nI), true), some (nI here, true), x6'], 2 * (8 - (met ++ add).length) + (row' ++ add).length, ?_, ?_, ⟨met ++ add, row' ++ add, some (nI here, true), x6', rfl, hM2, rfl, by simp; omega⟩, by simp; omega⟩
        · simp [hne, -List.map_append]
        · simp [hpop, hbs, ei, -List.map_append]) 5000 15 [some (eW w, true), some (eL P, true), some (nI a, true), some (.dct [nI a] [.bl true], true), some (.lst [nI a], true), none, none]
    ⟨[a], [a], none, none, rfl, ⟨by simp, by simp, fun x hx => by rw [List.mem_singleton.mp hx]; exact .refl, fun x hx => hx, fun x hx hn => absurd hx hn⟩, rfl, by simp⟩ (by decide)
  have e' : whlEv T (run T (n + 1)) (.bin .ne (.var 4) (.lstd [])) [.asg (.nm 5) (.pop 4), .fr (.nm 6) .seq (.call 6 [.var 0, .var 5]) (.const .non) [.ife (.and (.bin .inn (.var 6) (.var 1)) (.bin .nin (.var 6) (.var 3))) [.sti 3 (.var 6) (.const (.bl true)), .exp (.app 4 (.var 6))] []] false] turns _ = _ := e
  have hd := hM.done ha hP
  simp [d_piece_of, isInt, e', hd]
  rfl
end PQ

set_option linter.all false
set_option maxRecDepth 100000
namespace PQ
open PL
open PV
/-! ## pieces_in -/
theorem Sor.head_min {l : List Nat} {a : Nat} (h : Sor l) (ha : a ∈ l) (hm : ∀ b ∈ l, a ≤ b) : ∃ t, l = a :: t := by
  cases l with
  | nil => simp at ha
  | cons b l =>
    unfold Sor at h
    rw [List.pairwise_cons] at h
    rcases List.mem_cons.mp ha with rfl | h2
    · exact ⟨l, rfl⟩
    · have h3 : decide (b < a) = true := h.1 a h2
      have := hm b List.mem_cons_self
      simp at h3; omega
structure Mde (w : W) (P : List Nat) (made : List (List Nat)) (left : List Nat) : Prop where
  so : Sor made
  cl : ∀ x ∈ made, ∃ a ∈ P, x = cls w P a
  lf : left = P.filter fun p => decide (∀ x ∈ made, p ∉ x)
  hd : ∀ x ∈ made, ∃ h t, x = h :: t ∧ ∀ p ∈ left, h < p
theorem Mde.done {w : W} {P : List Nat} {made : List (List Nat)} (hP : Sor P) (h : Mde w P made []) : made = pcs w P := by
  refine Sor.ext h.so (pcs_sor w P) fun x => ?_
  rw [mem_pcs]
  constructor
  · intro z
    obtain ⟨a, ha, e⟩ := h.cl x z
    exact ⟨a, ha, e.symm⟩
  · rintro ⟨a, ha, rfl⟩
    have : ¬ ∀ x ∈ made, a ∉ x := fun z => by
      have : a ∈ P.filter fun p => decide (∀ x ∈ made, p ∉ x) := List.mem_filter.mpr ⟨ha, by simpa using z⟩
      rw [← h.lf] at this; simp at this
    simp only [Classical.not_forall, Classical.not_not] at this
    obtain ⟨x, hx, hax⟩ := this
    obtain ⟨c, hc, rfl⟩ := h.cl x hx
    rw [← cls_eq hP hc (mem_cls.mp hax).2]; exact hx
theorem Mde.next {w : W} {P : List Nat} {made : List (List Nat)} {a : Nat} {rest : List Nat} (hP : Sor P) (h : Mde w P made (a :: rest)) : a ∈ P ∧ Mde w P (made ++ [cls w P a]) ((a :: rest).filter fun p => decide (p ∉ cls w P a)) := by
  have hl : ∀ p, p ∈ a :: rest ↔ p ∈ P ∧ ∀ x ∈ made, p ∉ x := fun p => by rw [h.lf, List.mem_filter]; simp
  have haP := ((hl a).mp List.mem_cons_self).1
  have hsl : Sor (a :: rest) := by rw [h.lf]; exact List.Pairwise.filter _ hP
  have hmin : ∀ b ∈ a :: rest, a ≤ b := fun b hb => by
    rcases List.mem_cons.mp hb with rfl | hb
    · exact Nat.le_refl _
    · unfold Sor at hsl; rw [List.pairwise_cons] at hsl
      have h3 : decide (a < b) = true := hsl.1 b hb
      simp at h3; omega
  have hcm : ∀ b ∈ cls w P a, b ∈ a :: rest := fun b hb => by
    obtain ⟨hbP, hc⟩ := mem_cls.mp hb
    refine (hl b).mpr ⟨hbP, fun x hx hbx => ?_⟩
    obtain ⟨c, hcP, rfl⟩ := h.cl x hx
    have hca := (mem_cls.mp hbx).2.trans (hc.sym haP)
    exact ((hl a).mp List.mem_cons_self).2 _ hx (mem_cls.mpr ⟨haP, hca⟩)
  obtain ⟨t, ht⟩ := Sor.head_min (cls_sor hP a) (cls_self haP) fun b hb => hmin b (hcm b hb)
  refine ⟨haP, ⟨?_, fun x hx => ?_, ?_, fun x hx => ?_⟩⟩
  · unfold Sor; rw [List.pairwise_append]
    refine ⟨h.so, by simp, fun x hx y hy => ?_⟩
    rw [List.mem_singleton.mp hy]
    obtain ⟨hh, tt, e, hlt⟩ := h.hd x hx
    have := hlt a List.mem_cons_self
    rw [e, ht]
    show ltL (hh :: tt) (a :: t) = true
    have ne : ¬ hh = a := by omega
    simp [ltL, ne, this]
  · rcases List.mem_append.mp hx with hx | hx
    · exact h.cl x hx
    · rw [List.mem_singleton.mp hx]; exact ⟨a, haP, rfl⟩
  · rw [h.lf, List.filter_filter]
    apply List.filter_congr
    intro p _
    rw [Bool.eq_iff_iff]
    simp
    constructor
    · rintro ⟨h1, h2⟩ x (hx | rfl)
      · exact h2 x hx
      · exact h1
    · intro h3
      exact ⟨h3 _ (.inr rfl), fun x hx => h3 x (.inl hx)⟩
  · rcases List.mem_append.mp hx with hx | hx
    · obtain ⟨hh, tt, e, hlt⟩ := h.hd x hx
      exact ⟨hh, tt, e, fun p hp => hlt p (List.mem_filter.mp hp).1⟩
    · rw [List.mem_singleton.mp hx]
      refine ⟨a, t, ht, fun p hp => ?_⟩
      obtain ⟨h1, h2⟩ := List.mem_filter.mp hp
      have := hmin p h1
      have ne : p ≠ a := fun e => by subst e; simp at h2; exact h2 (cls_self haP)
      omega
theorem run_pieces_in {T : Tab} [HasF T 6] [HasF T 7] [HasF T 8] (n : Nat) (w : W) (hw : w.Ok) (P : List Nat) (hP : Sor P) (hl : P.length ≤ 8) :
    run T (n + 3) 8 [(eW w, true), (eL P, true)] = .ok (.lst ((pcs w P).map eL)) true [(eW w, true), (eL P, true)] := by
  rw [run_has (d := d_pieces_in) rfl rfl]
  obtain ⟨r', e, made, x4, x5, rfl, hM⟩ := whl_r (T := T) (P := run T (n + 2)) (c := .bin .ne (.var 3) (.lstd []))
    (b := [.asg (.nm 4) (.call 7 [.var 0, .var 1, .ix (.var 3) (.const (.int 0))]), .exp (.app 2 (.var 4)), .asg (.nm 3) (.comp (.var 5) (.nm 5) .seq (.var 3) (.const .non) [.bin .nin (.var 5) (.var 4)] [5] true)])
    (fun m r => ∃ made left x4 x5, r = [some (eW w, true), some (eL P, true), some (.lst (made.map eL), true), some (.lst (left.map nI), true), x4, x5] ∧ Mde w P made left ∧ m = left.length ∧ made.length + left.length ≤ P.length)
    (fun r => ∃ made x4 x5, r = [some (eW w, true), some (eL P, true), some (.lst (made.map eL), true), some (.lst [], true), x4, x5] ∧ Mde w P made [])
    (fun m r ⟨made, left, x4, x5, hr, hM, hm, hlen⟩ => by
      subst hr
      have hne := lst_ne_nil left
      cases left with
      | nil =>
        rw [List.map_nil] at hne
        exact .inl ⟨_, by simp [hne], made, x4, x5, rfl, hM⟩
      | cons a rest =>
        right
        obtain ⟨haP, hM2⟩ := hM.next hP
        have hp := run_piece_of (T := T) n w hw P hP hl a haP
        have hml : made.length < line := by unfold line; simp at hlen; omega
        have happ : ∀ x3 x4 x5 : Slot, modL 2 (gApp (eL (cls w P a))) [some (eW w, true), some (eL P, true), some (.lst (made.map eL), true), x3, x4, x5] =
            .ok (.non, .frz) [some (eW w, true), some (eL P, true), some (.lst ((made ++ [cls w P a]).map eL), true), x3, x4, x5] := fun x3 x4 x5 => by simp [modL, gApp, hml]
        have hc : compEv T (run T (n + 2)) (.var 5) (.nm 5) [.bin .nin (.var 5) (.var 4)] [5] ((a :: rest).map nI) [(3, .lst ((a :: rest).map nI))] [some (eW w, true), some (eL P, true), some (.lst ((made ++ [cls w P a]).map eL), true), none, some (eL (cls w P a), true), x5] =
            .ok (.lst ((a :: rest).filterMap fun q => if q ∉ cls w P a then some (nI q) else none), .own) ([some (eW w, true), some (eL P, true), some (.lst ((made ++ [cls w P a]).map eL), true), none, some (eL (cls w P a), true), x5].set 3 (some (.lst ((a :: rest).map nI), true))) :=
          comp_h (fun q : Nat => if q ∉ cls w P a then some (nI q) else none) (by simp) fun q hq => ⟨[some (eW w, true), some (eL P, true), some (.lst ((made ++ [cls w P a]).map eL), true), none, some (eL (cls w P a), true), some (nI q, true)], by
            by_cases c : q ∈ cls w P a <;> simp [turC, wipeS, eL, c], by simp [wipeS]⟩
        rw [fm_if] at hc
        have hsl : ∀ x2 : Slot, seqOf true (.lst ((a :: rest).map nI)) (.al 3) [some (eW w, true), some (eL P, true), x2, some (.lst ((a :: rest).map nI), true), some (eL (cls w P a), true), x5] [] = some ((a :: rest).map nI, [some (eW w, true), some (eL P, true), x2, none, some (eL (cls w P a), true), x5], [(3, .lst ((a :: rest).map nI))]) := fun x2 => by
          rw [seqLh _ _ _ _ (by simp)]; simp
        have hll : (a :: rest).length ≤ line := by unfold line; simp at hlen ⊢; omega
        refine ⟨[some (eW w, true), some (eL P, true), some (.lst (made.map eL), true), some (.lst ((a :: rest).map nI), true), x4, x5], [some (eW w, true), some (eL P, true), some (.lst ((made ++ [cls w P a]).map eL), true), some (.lst (((a :: rest).filter fun q => decide (q ∉ cls w P a)).map nI), true), some (eL (cls w P a), true), x5], _, ?_, ?_, ⟨made ++ [cls w P a], _, _, _, rfl, hM2, rfl, ?_⟩, ?_⟩
        · simp [hne, -List.map_cons]
        · have i0 : index (.lst ((a :: rest).map nI)) (.int 0) = some (nI a) := by simp
          have hll' := hll
          rw [List.length_cons] at hll'
          simp [hp, i0, isLst, happ, hsl, hll', hc, -List.map_cons, -List.map_append, -List.filter_cons]
        · have h1 : a ∈ cls w P a := cls_self haP
          have h2 : ((a :: rest).filter fun q => decide (q ∉ cls w P a)).length ≤ rest.length := by
            rw [List.filter_cons_of_neg (by simpa using h1)]; exact List.length_filter_le _ _
          simp only [List.length_append, List.length_cons, List.length_nil] at hlen ⊢; omega
        · have h1 : a ∈ cls w P a := cls_self haP
          have h2 : ((a :: rest).filter fun q => decide (q ∉ cls w P a)).length ≤ rest.length := by
            rw [List.filter_cons_of_neg (by simpa using h1)]; exact List.length_filter_le _ _
          simp only [List.length_cons] at hm; omega) 5000 P.length [some (eW w, true), some (eL P, true), some (.lst [], true), some (.lst (P.map nI), true), none, none]
    ⟨[], P, none, none, rfl, ⟨by simp [Sor], by simp, by rw [List.filter_eq_self.mpr (by simp)], by simp⟩, rfl, by simp⟩ (by omega)
  have e' : whlEv T (run T (n + 2)) (.bin .ne (.var 3) (.lstd [])) [.asg (.nm 4) (.call 7 [.var 0, .var 1, .ix (.var 3) (.const (.int 0))]), .exp (.app 2 (.var 4)), .asg (.nm 3) (.comp (.var 5) (.nm 5) .seq (.var 3) (.const .non) [.bin .nin (.var 5) (.var 4)] [5] true)] turns _ = _ := e
  have hd := hM.done hP
  subst hd
  unfold eL at *
  simp [d_pieces_in, e', retV_alL]
end PQ

set_option linter.all false
set_option maxRecDepth 100000
namespace PQ
open PL
open PV
/-! ## places -/
theorem all_filterMap_true {A : Type} (p : A → Bool) : ∀ l : List A, (∀ a ∈ l, p a = true) → bools (l.map fun a => PV.bl (p a)) = some (l.map p) ∧ ((l.map p).all id) = true
  | [], _ => ⟨rfl, rfl⟩
  | a :: l, h => by
    obtain ⟨h1, h2⟩ := all_filterMap_true p l fun x hx => h x (List.mem_cons_of_mem _ hx)
    have := h a List.mem_cons_self
    constructor
    · rw [List.map_cons, bools, h1]; rfl
    · rw [List.map_cons, List.all_cons, h2, this]; rfl
theorem fm_some {A B : Type} (f : A → B) : ∀ l : List A, (l.filterMap fun a => some (f a)) = l.map f
  | [] => rfl
  | a :: l => by simp [fm_some f l]
theorem run_are_places {T : Tab} [HasF T 0] [HasF T 4] (n : Nat) (w : W) (P : List Nat) (hs : Sor P) (hm : ∀ p ∈ P, p < w.many) (h8 : w.many ≤ 8) : run T (n + 2) 4 [(eW w, true), (eL P, true)] = .ok (.bl true) true [(eW w, true), (eL P, true)] := by
  rw [run_has (d := d_are_places) rfl rfl]
  have hl : P.length ≤ 8 := nodup_len 8 P hs.nodup fun x hx => by have := hm x hx; omega
  have hll : P.length ≤ line := by unfold line; omega
  have hc : compEv T (run T (n + 1)) (.call 0 [.var 2, .const (.int 0), .bin .sub (.ix (.var 0) (.const (.int 0))) (.const (.int 1))]) (.nm 2) [] [2] (P.map nI) [] [some (eW w, true), some (eL P, true), none] =
      .ok (.lst (P.map fun p => PV.bl (decide (p < w.many))), .own) [some (eW w, true), some (eL P, true), none] := by
    rw [comp_p (fun p : Nat => some (PV.bl (decide (p < w.many)))) fun p hp => ⟨[some (eW w, true), some (eL P, true), some (nI p, true)], ?_, by simp [wipeS]⟩]
    · rw [fm_some]
    · have e := run_is_whole (T := T) n (nI p) 0 ((w.many : Int) - 1) (by simp) (by simp)
      rw [isWhole_nat] at e
      simp [turC, wipeS, e]
  obtain ⟨b1, b2⟩ := all_filterMap_true (fun p => decide (p < w.many)) P fun p hp => by simpa using hm p hp
  have s1 := sset_places (l := P) (by omega)
  rw [sset_id hs] at s1
  have q1 := eq_places P P
  unfold eL at *
  have b3 : (P.all fun p => decide (p < w.many)) = true := by rw [List.all_eq_true]; intro p hp; simpa using hm p hp
  simp [d_are_places, hll, hc, b1, s1, q1, b3]
theorem run_need_places {T : Tab} [HasF T 0] [HasF T 4] [HasF T 5] (n : Nat) (w : W) (P : List Nat) (hs : Sor P) (hm : ∀ p ∈ P, p < w.many) (h8 : w.many ≤ 8) : run T (n + 3) 5 [(eW w, true), (eL P, true)] = .ok .non true [(eW w, true), (eL P, true)] := by
  rw [run_has (d := d_need_places) rfl rfl]
  simp [d_need_places, run_are_places n w P hs hm h8]
theorem places_len {w : W} (hw : w.Ok) {P : List Nat} (hs : Sor P) (hm : ∀ p ∈ P, p < w.many) : P.length ≤ 8 := nodup_len 8 P hs.nodup fun x hx => by have := hm x hx; have := hw.hi; omega
theorem run_pieces {T : Tab} [HasF T 0] [HasF T 1] [HasF T 2] [HasF T 3] [HasF T 4] [HasF T 5] [HasF T 6] [HasF T 7] [HasF T 8] [HasF T 9] (n : Nat) (w : W) (hw : w.Ok) (P : List Nat) (hs : Sor P) (hm : ∀ p ∈ P, p < w.many) :
    run T (n + 5) 9 [(eW w, true), (eL P, true)] = .ok (.lst ((pcs w P).map eL)) true [(eW w, true), (eL P, true)] := by
  rw [run_has (d := d_pieces) rfl rfl]
  simp [d_pieces, run_need_web n w hw, run_need_places (n + 1) w P hs hm hw.hi, run_pieces_in (n + 1) w hw P hs (places_len hw hs hm)]
theorem range_sor (n : Nat) : Sor (List.range n) := by
  have : List.Pairwise (fun a b : Nat => a < b) (List.range n) := List.pairwise_lt_range
  exact List.Pairwise.imp (fun {a b} h => by show decide (a < b) = true; simpa using h) this
theorem run_every {T : Tab} [HasF T 25] (n : Nat) (w : W) (h8 : w.many ≤ 8) : run T (n + 1) 25 [(eW w, true)] = .ok (eL (List.range w.many)) true [(eW w, true)] := by
  rw [run_has (d := d_every) rfl rfl]
  have ro := rngOk_0 (b := w.many) (by omega)
  simp [d_every, ro, rngL0, eL]
/-! ## the least height -/
def maxL : List Nat → Nat
  | [] => 0
  | a :: l => l.foldl max a
def minL : List Nat → Nat
  | [] => 0
  | a :: l => l.foldl min a
theorem foldl_max_N : ∀ (l : List Nat) (a : Nat), (l.map nI).foldl (fun m x => if plt m x then x else m) (nI a) = nI (l.foldl max a)
  | [], a => rfl
  | b :: l, a => by
    rw [List.map_cons, List.foldl_cons, List.foldl_cons]
    have : (if plt (nI a) (nI b) = true then nI b else nI a) = nI (max a b) := by
      by_cases h : a < b
      · simp [plt, h, Nat.max_eq_right (Nat.le_of_lt h)]
      · simp [plt, h, Nat.max_eq_left (Nat.le_of_not_lt h)]
    rw [this, foldl_max_N l]
theorem foldl_min_N : ∀ (l : List Nat) (a : Nat), (l.map nI).foldl (fun m x => if plt x m then x else m) (nI a) = nI (l.foldl min a)
  | [], a => rfl
  | b :: l, a => by
    rw [List.map_cons, List.foldl_cons, List.foldl_cons]
    have : (if plt (nI b) (nI a) = true then nI b else nI a) = nI (min a b) := by
      by_cases h : b < a
      · simp [plt, h, Nat.min_eq_right (Nat.le_of_lt h)]
      · simp [plt, h, Nat.min_eq_left (Nat.le_of_not_lt h)]
    rw [this, foldl_min_N l]
theorem okSort_N (l : List Nat) : okSort (l.map nI) = true := by
  have := psort_N l
  unfold psort at this
  split at this
  · assumption
  · cases this
theorem b1_maxN (l : List Nat) (h : l ≠ []) : b1op .max (.lst (l.map nI)) = some (nI (maxL l)) := by
  cases l with
  | nil => exact absurd rfl h
  | cons a l =>
    have h1 := okSort_N (a :: l)
    rw [List.map_cons] at h1 ⊢
    simp [b1op, h1, pmax, foldl_max_N, maxL]
theorem b1_minN (l : List Nat) (h : l ≠ []) : b1op .min (.lst (l.map nI)) = some (nI (minL l)) := by
  cases l with
  | nil => exact absurd rfl h
  | cons a l =>
    have h1 := okSort_N (a :: l)
    rw [List.map_cons] at h1 ⊢
    simp [b1op, h1, pmin, foldl_min_N, minL]
noncomputable def tdF (w : W) : Nat → List Nat → Nat
  | 0, _ => 0
  | n + 1, P => if P = [] then 0 else if 1 < (pcs w P).length then maxL ((pcs w P).map (tdF w n)) else 1 + minL (P.map fun p => tdF w n (withoutL P p))
noncomputable def td (w : W) (P : List Nat) : Nat := tdF w (P.length + 1) P
theorem without_len {P : List Nat} {p : Nat} (h : p ∈ P) : (withoutL P p).length < P.length := by
  unfold withoutL
  refine Nat.lt_of_le_of_ne (List.length_filter_le _ _) fun e => ?_
  have := (List.length_filter_eq_length_iff.mp e) p h
  simp at this
theorem without_sor {P : List Nat} (h : Sor P) (p : Nat) : Sor (withoutL P p) := List.Pairwise.filter _ h
theorem mem_without {P : List Nat} {p x : Nat} : x ∈ withoutL P p ↔ x ∈ P ∧ x ≠ p := by unfold withoutL; rw [List.mem_filter]; simp
theorem pcs_len {w : W} {P : List Nat} (hP : Sor P) (h : 1 < (pcs w P).length) {x : List Nat} (hx : x ∈ pcs w P) : x.length < P.length := by
  obtain ⟨a, ha, rfl⟩ := mem_pcs.mp hx
  refine Nat.lt_of_le_of_ne (List.length_filter_le _ _) fun e => ?_
  have all : ∀ b ∈ P, Cn w P a b := fun b hb => by
    have := (List.length_filter_eq_length_iff.mp e) b hb
    simpa using this
  have one : ∀ y ∈ pcs w P, y = cls w P a := fun y hy => by
    obtain ⟨b, hb, rfl⟩ := mem_pcs.mp hy
    exact (cls_eq hP ha (all b hb)).symm
  have nd := (pcs_sor w P).nodup
  have : (pcs w P).length ≤ [cls w P a].length := nodup_sub _ _ nd fun y hy => by simp [one y hy]
  simp at this; omega
theorem pcs_subs {w : W} {P x : List Nat} (hP : Sor P) (hx : x ∈ pcs w P) : Sor x ∧ (∀ p ∈ x, p ∈ P) ∧ x ≠ [] := by
  obtain ⟨a, ha, rfl⟩ := mem_pcs.mp hx
  exact ⟨cls_sor hP a, fun p hp => (mem_cls.mp hp).1, fun e => by have := cls_self (w := w) ha; rw [e] at this; simp at this⟩
theorem tdF_stable (w : W) : ∀ (n m : Nat) (P : List Nat), Sor P → P.length < n → P.length < m → tdF w n P = tdF w m P
  | 0, _, _, _, h, _ => absurd h (Nat.not_lt_zero _)
  | _ + 1, 0, _, _, _, h => absurd h (Nat.not_lt_zero _)
  | n + 1, m + 1, P, hs, h1, h2 => by
    rw [tdF, tdF]
    by_cases e : P = []
    · rw [if_pos e, if_pos e]
    · rw [if_neg e, if_neg e]
      by_cases c : 1 < (pcs w P).length
      · rw [if_pos c, if_pos c]
        congr 1
        refine List.map_congr_left fun x hx => ?_
        have := pcs_len hs c hx
        exact tdF_stable w n m x (pcs_subs hs hx).1 (by omega) (by omega)
      · rw [if_neg c, if_neg c]
        congr 2
        refine List.map_congr_left fun p hp => ?_
        have := without_len hp
        exact tdF_stable w n m _ (without_sor hs p) (by omega) (by omega)
theorem td_eq (w : W) {P : List Nat} (hs : Sor P) : td w P = if P = [] then 0 else if 1 < (pcs w P).length then maxL ((pcs w P).map (td w)) else 1 + minL (P.map fun p => td w (withoutL P p)) := by
  unfold td
  rw [tdF]
  by_cases e : P = []
  · rw [if_pos e, if_pos e]
  · rw [if_neg e, if_neg e]
    by_cases c : 1 < (pcs w P).length
    · rw [if_pos c, if_pos c]
      congr 1
      refine List.map_congr_left fun x hx => ?_
      have := pcs_len hs c hx
      exact tdF_stable w _ _ x (pcs_subs hs hx).1 (by omega) (by omega)
    · rw [if_neg c, if_neg c]
      congr 2
      refine List.map_congr_left fun p hp => ?_
      have := without_len hp
      exact tdF_stable w _ _ _ (without_sor hs p) (by omega) (by omega)
end PQ

set_option linter.all false
set_option maxRecDepth 100000
namespace PQ
open PL
open PV
/-! ## depth_of -/
/-- what is known: places and their least height -/
def kS (K : List (List Nat × Nat)) : List PV := K.map fun e => eL e.1
def vS (K : List (List Nat × Nat)) : List PV := K.map fun e => nI e.2
structure KV (w : W) (K : List (List Nat × Nat)) : Prop where
  nd : (K.map (·.1)).Nodup
  ok : ∀ e ∈ K, e.2 = td w e.1 ∧ Sor e.1 ∧ ∀ x ∈ e.1, x < 8
def subs : List Nat → List (List Nat)
  | [] => [[]]
  | a :: l => subs l ++ (subs l).map (a :: ·)
theorem subs_len : ∀ l, (subs l).length = 2 ^ l.length
  | [] => rfl
  | a :: l => by rw [subs, List.length_append, List.length_map, subs_len l, List.length_cons, Nat.pow_succ]; omega
theorem mem_subs : ∀ (m l : List Nat), Sor l → Sor m → (∀ x ∈ l, x ∈ m) → l ∈ subs m
  | [], l, _, _, h => by
    cases l with
    | nil => simp [subs]
    | cons a l => exact absurd (h a List.mem_cons_self) (by simp)
  | a :: m, l, hl, hm, h => by
    have hm' := hm
    unfold Sor at hm'
    rw [List.pairwise_cons] at hm'
    rw [subs, List.mem_append]
    by_cases ha : a ∈ l
    · right
      obtain ⟨t, rfl⟩ := Sor.head_min hl ha fun b hb => by
        rcases List.mem_cons.mp (h b hb) with rfl | hb
        · exact Nat.le_refl _
        · have h3 : decide (a < b) = true := hm'.1 b hb
          simp at h3; omega
      have hl' := hl
      unfold Sor at hl'
      rw [List.pairwise_cons] at hl'
      refine List.mem_map.mpr ⟨t, mem_subs m t hl'.2 hm'.2 fun x hx => ?_, rfl⟩
      rcases List.mem_cons.mp (h x (List.mem_cons_of_mem _ hx)) with rfl | hb
      · have h3 : decide (x < x) = true := hl'.1 x hx
        simp at h3
      · exact hb
    · left
      refine mem_subs m l hl hm'.2 fun x hx => ?_
      rcases List.mem_cons.mp (h x hx) with rfl | hb
      · exact absurd hx ha
      · exact hb
theorem KV.len {w : W} {K : List (List Nat × Nat)} (h : KV w K) : K.length ≤ 256 := by
  have := nodup_sub (K.map (·.1)) (subs (List.range 8)) h.nd fun x hx => by
    obtain ⟨e, he, rfl⟩ := List.mem_map.mp hx
    exact mem_subs _ _ (h.ok e he).2.1 (range_sor 8) fun x hx => List.mem_range.mpr ((h.ok e he).2.2 x hx)
  rw [List.length_map, subs_len] at this
  simpa using this
theorem keyTs_N : ∀ l : List Nat, keyTs (l.map nI) = true
  | [] => rfl
  | a :: l => by rw [List.map_cons, keyTs, keyTs_N l]; rfl
theorem okKey_K (K : List (List Nat × Nat)) (P : List Nat) : okKey (kS K) (eL P) = true := by
  have h1 : (kS K).all isTup = true := by
    rw [List.all_eq_true]; intro x hx
    obtain ⟨e, _, rfl⟩ := List.mem_map.mp hx
    rfl
  simp [okKey, eL, keyTs_N, h1, deps_N]
theorem peqL (a b : List Nat) : peq (eL a) (eL b) = decide (a = b) := by rw [Bool.eq_iff_iff]; exact (encL.peq_ a b).trans (by simp)
theorem any_K (K : List (List Nat × Nat)) (P : List Nat) : ((kS K).any fun x => peq x (eL P)) = decide (P ∈ K.map (·.1)) := by
  induction K with
  | nil => rfl
  | cons e K ih =>
    have e1 : kS (e :: K) = eL e.1 :: kS K := rfl
    rw [e1, List.any_cons, ih, peqL, Bool.eq_iff_iff, List.map_cons, Bool.or_eq_true, decide_eq_true_eq, decide_eq_true_eq, decide_eq_true_eq, List.mem_cons]
    exact ⟨fun h => h.imp Eq.symm id, fun h => h.imp Eq.symm id⟩
theorem nin_K (K : List (List Nat × Nat)) (P : List Nat) (vs : List PV) : binop .nin (eL P) (.dct (kS K) vs) = some (.bl (!decide (P ∈ K.map (·.1)))) := by
  have h := any_K K P
  have h2 := okKey_K K P
  show (if okKey (kS K) (eL P) then some (PV.bl (!(kS K).any fun x => peq x (eL P))) else none) = _
  rw [if_pos h2, h]
theorem look_K (P : List Nat) : ∀ (K : List (List Nat × Nat)) (v : Nat), (K.map (·.1)).Nodup → (P, v) ∈ K → look (kS K) (vS K) (eL P) = some (nI v)
  | [], v, _, h => by simp at h
  | e :: K, v, hn, h => by
    rw [List.map_cons, List.nodup_cons] at hn
    show (if peq (eL e.1) (eL P) then some (nI e.2) else look (kS K) (vS K) (eL P)) = _
    rw [peqL]
    by_cases c : e.1 = P
    · rw [if_pos (by simpa using c)]
      rcases List.mem_cons.mp h with rfl | h
      · rfl
      · exact absurd (List.mem_map.mpr ⟨_, h, c.symm⟩) hn.1
    · rw [if_neg (by simpa using c)]
      rcases List.mem_cons.mp h with rfl | h
      · exact absurd rfl c
      · exact look_K P K v hn.2 h
theorem put_K (P : List Nat) (v : Nat) : ∀ (K : List (List Nat × Nat)), P ∉ K.map (·.1) → put (kS K) (vS K) (eL P) (nI v) = (kS (K ++ [(P, v)]), vS (K ++ [(P, v)]))
  | [], _ => by simp [kS, vS, put]
  | e :: K, h => by
    rw [List.map_cons, List.mem_cons, not_or] at h
    have ih := put_K P v K h.2
    have h1 : peq (eL e.1) (eL P) = false := by rw [peqL]; simp; exact fun z => h.1 z.symm
    show put (eL e.1 :: kS K) (nI e.2 :: vS K) (eL P) (nI v) = _
    rw [put, h1]
    simp only [ih]; rfl
theorem put_same (P : List Nat) (v : Nat) : ∀ (K : List (List Nat × Nat)), P ∈ K.map (·.1) → (∀ e ∈ K, e.1 = P → e.2 = v) → put (kS K) (vS K) (eL P) (nI v) = (kS K, vS K)
  | [], h, _ => by simp at h
  | e :: K, h, hv => by
    show put (eL e.1 :: kS K) (nI e.2 :: vS K) (eL P) (nI v) = (eL e.1 :: kS K, nI e.2 :: vS K)
    by_cases c : e.1 = P
    · have h1 : peq (eL e.1) (eL P) = true := by rw [peqL]; simpa using c
      rw [put, h1, hv e List.mem_cons_self c]; rfl
    · have h1 : peq (eL e.1) (eL P) = false := by rw [peqL]; simpa using c
      rw [List.map_cons, List.mem_cons] at h
      have ih := put_same P v K (h.resolve_left fun z => c z.symm) fun e he => hv e (List.mem_cons_of_mem _ he)
      rw [put, h1]
      simp only [ih]; rfl
theorem KV.put {w : W} {K : List (List Nat × Nat)} (h : KV w K) {P : List Nat} (hs : Sor P) (h8 : ∀ x ∈ P, x < 8) (hn : P ∉ K.map (·.1)) : KV w (K ++ [(P, td w P)]) := by
  refine ⟨?_, fun e he => ?_⟩
  · rw [List.map_append]
    refine List.nodup_append.mpr ⟨h.nd, by simp, fun x hx y hy => ?_⟩
    simp at hy; subst hy
    rintro rfl; exact hn hx
  · rcases List.mem_append.mp he with he | he
    · exact h.ok e he
    · rw [List.mem_singleton.mp he]; exact ⟨rfl, hs, h8⟩
/-- a comprehension whose turns change something, its list hidden -/
theorem comp_rh {A : Type} {T : Tab} {P : Fns} {elt : Ex} {t : Tg} {cs : List Ex} {own : List Nat} {r1 : Env} {enc : A → PV} {j : Nat} {v : PV} (I : List A → List PV → Env → Prop) {L : List A} (h0 : I [] [] (wipeS own r1))
    (step : ∀ pre a post acc r, L = pre ++ a :: post → I pre acc r → ∃ o r', turC T P elt t cs own (enc a) r = .ok o r' ∧ I (pre ++ [a]) (acc ++ o.toList) r')
    (hj : ∀ r' acc, I L acc r' → PL.get (backS r1 own r') j = none) :
    ∃ ys r', compEv T P elt t cs own (L.map enc) [(j, v)] r1 = .ok (.lst ys, .own) ((backS r1 own r').set j (some (v, true))) ∧ I L ys r' := by
  obtain ⟨ys, r', e, h⟩ := compL_rel I step L [] [] _ rfl h0
  refine ⟨ys, r', ?_, h⟩
  unfold compEv
  rw [e]
  simp [bnd, unhide, hj r' ys h]
theorem eqE_nil (P : List Nat) : binop .eq (eL P) (.tup []) = some (.bl (decide (P = []))) := by
  have h1 := dats_N P
  have h2 := deps_N P
  cases P with
  | nil => rfl
  | cons a l =>
    unfold eL
    simp [binop, dat, h1, dep, h2, peq, peqs]
    rw [List.map_cons] at h1 h2
    simp [dats, deps] at h1 h2 ⊢
    try simp [h1, h2]
theorem run_depth_of {T : Tab} [HasF T 6] [HasF T 7] [HasF T 8] [HasF T 10] [HasF T 24] (w : W) (hw : w.Ok) : ∀ (m n : Nat) (P : List Nat) (K : List (List Nat × Nat)), P.length ≤ m → Sor P → (∀ x ∈ P, x < 8) → KV w K →
    ∃ K', KV w K' ∧ run T (n + m + 4) 24 [(eW w, true), (eL P, true), (.dct (kS K) (vS K), true)] = .ok (nI (td w P)) true [(eW w, true), (eL P, true), (.dct (kS K') (vS K'), true)] := by
  intro m
  induction m with
  | zero =>
    intro n P K hm hs h8 hK
    have : P = [] := List.eq_nil_of_length_eq_zero (by omega)
    subst this
    refine ⟨K, hK, ?_⟩
    have h0 : td w [] = 0 := by rw [td_eq w hs]; simp
    rw [run_has (d := d_depth_of) rfl rfl]
    have e0 := eqE_nil []
    simp [d_depth_of, e0, h0]
  | succ m ih =>
    intro n P K hm hs h8 hK
    have hl : P.length ≤ 8 := nodup_len 8 P hs.nodup h8
    have hll : P.length ≤ line := by unfold line; omega
    have e0 := eqE_nil P
    have e1 := nin_K K P (vS K)
    rw [show n + (m + 1) + 4 = (n + m + 4) + 1 from by omega, run_has (d := d_depth_of) rfl rfl]
    by_cases hP : P = []
    · subst hP
      refine ⟨K, hK, ?_⟩
      have h0 : td w [] = 0 := by rw [td_eq w hs]; simp
      simp [d_depth_of, e0, h0]
    · by_cases hin : P ∈ K.map (·.1)
      · refine ⟨K, hK, ?_⟩
        obtain ⟨e, he, rfl⟩ := List.mem_map.mp hin
        have e2 := look_K e.1 K e.2 hK.nd he
        rw [(hK.ok e he).1] at e2
        have e3 : index (.dct (kS K) (vS K)) (eL e.1) = some (nI (td w e.1)) := by
          show (if okKey (kS K) (eL e.1) then look (kS K) (vS K) (eL e.1) else none) = _
          rw [if_pos (okKey_K K e.1), e2]
        simp [d_depth_of, e0, hP, e1, hin, e3]
      · have hpi := run_pieces_in (T := T) (n + m + 1) w hw P hs hl
        -- what the ends share
        have fin : ∀ (K1 : List (List Nat × Nat)) (x3 x4 x5 : Slot), KV w K1 → ∃ K', KV w K' ∧ stI 2 (nI (td w P)) (eL P) [some (eW w, true), some (eL P, true), some (.dct (kS K1) (vS K1), true), x3, x4, x5] = .ok .nx [some (eW w, true), some (eL P, true), some (.dct (kS K') (vS K'), true), x3, x4, x5] ∧ index (.dct (kS K') (vS K')) (eL P) = some (nI (td w P)) := by
          intro K1 x3 x4 x5 h1
          have hk := okKey_K K1 P
          have hlen : (kS K1).length < line := by
            have := h1.len
            unfold kS line; simp; omega
          by_cases c : P ∈ K1.map (·.1)
          · have hv : ∀ e ∈ K1, e.1 = P → e.2 = td w P := fun e he hp => by rw [(h1.ok e he).1, hp]
            obtain ⟨e, he, hp⟩ := List.mem_map.mp c
            refine ⟨K1, h1, ?_, ?_⟩
            · have hp := put_same P (td w P) K1 c hv
              simp [stI, hk, hlen, hp]
            · show (if okKey _ (eL P) then look _ _ (eL P) else none) = _
              rw [if_pos (okKey_K _ P)]
              exact look_K P _ _ h1.nd (by rw [← hv e he hp, ← hp]; exact he)
          · refine ⟨K1 ++ [(P, td w P)], h1.put hs h8 c, ?_, ?_⟩
            · have hp := put_K P (td w P) K1 c
              simp [stI, hk, hlen, hp]
            · show (if okKey _ (eL P) then look _ _ (eL P) else none) = _
              rw [if_pos (okKey_K _ P)]
              exact look_K P _ _ (h1.put hs h8 c).nd (by simp)
        have hps : (pcs w P).length ≤ line := by
          have := nodup_sub (pcs w P) (subs P) (pcs_sor w P).nodup fun x hx => mem_subs _ _ (pcs_subs hs hx).1 hs (pcs_subs hs hx).2.1
          rw [subs_len] at this
          have : (2 : Nat) ^ P.length ≤ 2 ^ 8 := Nat.pow_le_pow_right (by decide) hl
          unfold line; omega
        by_cases hc : 1 < (pcs w P).length
        · -- pieces
          obtain ⟨ys, r', e, K1, acc, x4, hr, hK1, hys, ha⟩ := comp_rh (T := T) (P := run T (n + m + 4)) (elt := .call 24 [.var 0, .var 4, .var 2]) (t := .nm 4) (cs := []) (own := [4]) (enc := eL) (L := pcs w P) (j := 3) (v := .lst ((pcs w P).map eL))
            (r1 := [some (eW w, true), some (eL P, true), some (.dct (kS K) (vS K), true), none, none, none])
            (fun pre acc r => ∃ K1 a2 x4, r = [some (eW w, true), some (eL P, true), some (.dct (kS K1) (vS K1), true), none, x4, none] ∧ KV w K1 ∧ acc = a2.map nI ∧ a2 = pre.map (td w))
            ⟨K, [], none, by simp [wipeS], hK, rfl, rfl⟩
            (fun pre x post acc r hsp ⟨K1, a2, x4, hr, hK1, hacc, ha2⟩ => by
              subst hr
              have hx : x ∈ pcs w P := by rw [hsp]; simp
              have hxs := pcs_subs hs hx
              have hxl := pcs_len hs hc hx
              obtain ⟨K2, hK2, e2⟩ := ih n x K1 (by omega) hxs.1 (fun y hy => h8 y (hxs.2.1 y hy)) hK1
              refine ⟨some (nI (td w x)), _, ?_, K2, a2 ++ [td w x], some (eL x, true), rfl, hK2, by rw [hacc]; simp, by rw [ha2]; simp⟩
              simp [turC, wipeS, e2])
            (fun r' acc ⟨K1, a2, x4, hr, _⟩ => by subst hr; simp [backS])
          subst hr
          have hmx : maxL ((pcs w P).map (td w)) = td w P := by rw [td_eq w hs, if_neg hP, if_pos hc]
          obtain ⟨K', hK', e3, e4⟩ := fin K1 (some (.lst ((pcs w P).map eL), true)) none none hK1
          refine ⟨K', hK', ?_⟩
          have hne : acc ≠ [] := by rw [ha]; intro z; rw [List.map_eq_nil_iff] at z; rw [z] at hc; simp at hc
          have mx := b1_maxN acc hne
          rw [ha, hmx] at mx
          rw [hys, ha] at e
          have hsl : seqOf true (.lst ((pcs w P).map eL)) (.al 3) [some (eW w, true), some (eL P, true), some (.dct (kS K) (vS K), true), some (.lst ((pcs w P).map eL), true), none, none] [] = some ((pcs w P).map eL, [some (eW w, true), some (eL P, true), some (.dct (kS K) (vS K), true), none, none, none], [(3, .lst ((pcs w P).map eL))]) := by
            rw [seqLh _ _ _ _ (by simp)]; simp
          have hc' : (1 : Int) < (pcs w P).length := by omega
          simp [backS] at e
          simp at mx
          simp [d_depth_of, e0, hP, e1, hin, hpi, hc', hsl, hps, e, mx, e3, e4]
        · -- one piece
          obtain ⟨ys, r', e, K1, acc, x5, hr, hK1, hys, ha⟩ := comp_r (T := T) (P := run T (n + m + 4)) (elt := .call 24 [.var 0, .call 10 [.var 1, .var 5], .var 2]) (t := .nm 5) (cs := []) (own := [5]) (enc := nI) (L := P)
            (r1 := [some (eW w, true), some (eL P, true), some (.dct (kS K) (vS K), true), some (.lst ((pcs w P).map eL), true), none, none])
            (fun pre acc r => ∃ K1 a2 x5, r = [some (eW w, true), some (eL P, true), some (.dct (kS K1) (vS K1), true), some (.lst ((pcs w P).map eL), true), none, x5] ∧ KV w K1 ∧ acc = a2.map nI ∧ a2 = pre.map fun p => td w (withoutL P p))
            ⟨K, [], none, by simp [wipeS], hK, rfl, rfl⟩
            (fun pre x post acc r hsp ⟨K1, a2, x5, hr, hK1, hacc, ha2⟩ => by
              subst hr
              have hx : x ∈ P := by rw [hsp]; simp
              have hxl := without_len hx
              obtain ⟨K2, hK2, e2⟩ := ih n (withoutL P x) K1 (by omega) (without_sor hs x) (fun y hy => h8 y (mem_without.mp hy).1) hK1
              have e3 := run_without (T := T) (n + m + 3) P x hll
              refine ⟨some (nI (td w (withoutL P x))), _, ?_, K2, a2 ++ [td w (withoutL P x)], some (nI x, true), rfl, hK2, by rw [hacc]; simp, by rw [ha2]; simp⟩
              simp [turC, wipeS, e2, e3])
          subst hr
          have hmx : 1 + minL (P.map fun p => td w (withoutL P p)) = td w P := by rw [td_eq w hs, if_neg hP, if_neg hc]
          obtain ⟨K', hK', e3, e4⟩ := fin K1 (some (.lst ((pcs w P).map eL), true)) none none hK1
          refine ⟨K', hK', ?_⟩
          have hne : acc ≠ [] := by rw [ha]; intro z; rw [List.map_eq_nil_iff] at z; exact hP z
          have mx := b1_minN acc hne
          rw [ha] at mx
          rw [hys, ha] at e
          have hc' : ¬ (1 : Int) < (pcs w P).length := by omega
          have hmi : (1 : Int) + (minL (P.map fun p => td w (withoutL P p)) : Nat) = ((td w P : Nat) : Int) := by rw [← hmx]; omega
          have ixP : ∀ r : Env, ∀ f : Fl, seqOf false (eL P) f r [] = some (P.map nI, r, []) := fun r f => by simp [eL]
          simp [backS] at e
          simp at mx
          simp [d_depth_of, e0, hP, e1, hin, hpi, hc', ixP, hll, e, mx, hmi, e3, e4]
end PQ

set_option linter.all false
set_option maxRecDepth 100000
namespace PQ
open PL
open PV
section
variable {T : Tab} [HasF T 0] [HasF T 1] [HasF T 2] [HasF T 3] [HasF T 6] [HasF T 7] [HasF T 8] [HasF T 10] [HasF T 24]
theorem KV.nil (w : W) : KV w [] := ⟨by simp, by simp⟩
noncomputable def lh (w : W) : Nat := td w (List.range w.many)
theorem run_least_height [HasF T 25] [HasF T 26] (n : Nat) (w : W) (hw : w.Ok) : run T (n + 13) 26 [(eW w, true)] = .ok (nI (lh w)) true [(eW w, true)] := by
  rw [run_has (d := d_least_height) rfl rfl]
  have h8 : ∀ x ∈ List.range w.many, x < 8 := fun x hx => by have := List.mem_range.mp hx; have := hw.hi; omega
  obtain ⟨K', _, e⟩ := run_depth_of (T := T) w hw 8 n (List.range w.many) [] (by rw [List.length_range]; exact hw.hi) (range_sor _) h8 (KV.nil w)
  have e' : run T (n + 12) 24 [(eW w, true), (eL (List.range w.many), true), (.dct [] [], true)] = _ := e
  simp [d_least_height, run_need_web (n + 8) w hw, run_every (n + 11) w hw.hi, e', lh]
theorem run_depth [HasF T 4] [HasF T 5] [HasF T 27] (n : Nat) (w : W) (hw : w.Ok) (P : List Nat) (hs : Sor P) (hm : ∀ p ∈ P, p < w.many) : run T (n + 13) 27 [(eW w, true), (eL P, true)] = .ok (nI (td w P)) true [(eW w, true), (eL P, true)] := by
  rw [run_has (d := d_depth) rfl rfl]
  have h8 : ∀ x ∈ P, x < 8 := fun x hx => by have := hm x hx; have := hw.hi; omega
  obtain ⟨K', _, e⟩ := run_depth_of (T := T) w hw 8 n P [] (places_len hw hs hm) hs h8 (KV.nil w)
  have e' : run T (n + 12) 24 [(eW w, true), (eL P, true), (.dct [] [], true)] = _ := e
  simp [d_depth, run_need_web (n + 8) w hw, run_need_places (n + 9) w P hs hm hw.hi, e']
end
/-! ## the first family's webs -/
theorem run_web1 {T : Tab} [HasDraw T] [h4 : HasL1 T 104] (n : Nat) (ns : List Int) (k m : Nat) (hm : 0 < m) (hm8 : m ≤ 8) (hk : k < 900000) :
    ∃ (w : W) (k' : Nat), w.Ok ∧ w.many ≤ m ∧ k' ≤ k + 100 ∧ run T (n + 4) 104 [(scr ns, false), (town k, true), (nI m, true)] = .ok (eW w) true [(scr ns, false), (town k', true), (nI m, true)] := by
  obtain ⟨d, hd, e1⟩ := run_draw (T := T) n ns k m hm (by omega)
  obtain ⟨den, _, e2⟩ := run_draw (T := T) n ns (k + 1) 6 (by decide) (by omega)
  have inner : ∀ (o k1 : Nat) (L : List (Nat × Nat)) (x7 : Slot), o < d + 1 → k1 ≤ k + 2 + 8 * o → L.Nodup → (∀ t ∈ L, t.1 < t.2 ∧ t.2 < o) →
      ∃ (k2 : Nat) (L2 : List (Nat × Nat)) (x7' : Slot), forEv T (run T (n + 3)) (.nm 7) [.ife (.bin .lt (.call 102 [.var 0, .var 1, .const (.int 6)]) (.var 4)) [.exp (.app 5 (.tupd [.var 7, .var 6]))] []] ((List.range o).map nI) []
        [some (scr ns, false), some (town k1, true), some (nI m, true), some (nI (d + 1), true), some (nI den, true), some (.lst (L.map eP), true), some (nI o, true), x7] =
        .ok .nx [some (scr ns, false), some (town k2, true), some (nI m, true), some (nI (d + 1), true), some (nI den, true), some (.lst (L2.map eP), true), some (nI o, true), x7'] ∧ k2 ≤ k1 + 8 ∧ L2.Nodup ∧ (∀ t ∈ L2, t.1 < t.2 ∧ t.2 < o + 1) := by
    intro o k1 L x7 h1 hk1 hs hL
    obtain ⟨r', e, k2, L2, x, rfl, i1, i2, i3⟩ := for_n (T := T) (P := run T (n + 3)) (t := .nm 7) (enc := nI) (L := List.range o)
      (body := [.ife (.bin .lt (.call 102 [.var 0, .var 1, .const (.int 6)]) (.var 4)) [.exp (.app 5 (.tupd [.var 7, .var 6]))] []])
      (fun pre r => ∃ (k2 : Nat) (L2 : List (Nat × Nat)) (x : Slot), r = [some (scr ns, false), some (town k2, true), some (nI m, true), some (nI (d + 1), true), some (nI den, true), some (.lst (L2.map eP), true), some (nI o, true), x] ∧ k2 ≤ k1 + pre.length ∧ L2.Nodup ∧
        (∀ t ∈ L2, t.1 < t.2 ∧ (t.2 < o ∨ (t.2 = o ∧ t.1 < pre.length))))
      (fun pre a post r hsp ⟨k2, L2, x, hr, i1, i2, i3⟩ => by
        subst hr
        rw [List.range_eq_range'] at hsp
        obtain ⟨ha, hlen, _⟩ := range'_pre hsp
        rw [Nat.zero_add] at ha; subst ha
        obtain ⟨dd, _, e3⟩ := run_draw (T := T) n ns k2 6 (by decide) (by omega)
        have e3' : run T (n + 3) 102 [(scr ns, false), (town k2, true), (.int 6, true)] = _ := e3
        have hl2 : L2.length < line := by
          have := ties_len i2 fun t ht => ⟨(i3 t ht).1, by have := (i3 t ht).2; omega⟩
          unfold line; omega
        by_cases hc : (dd : Int) < den
        · have happ : modL 5 (gApp (.tup [nI pre.length, nI o])) [some (scr ns, false), some (town (k2 + 1), true), some (nI m, true), some (nI (d + 1), true), some (nI den, true), some (.lst (L2.map eP), true), some (nI o, true), some (nI pre.length, true)] =
              .ok (.non, .frz) [some (scr ns, false), some (town (k2 + 1), true), some (nI m, true), some (nI (d + 1), true), some (nI den, true), some (.lst ((L2 ++ [(pre.length, o)]).map eP), true), some (nI o, true), some (nI pre.length, true)] := by
            simp [modL, gApp, hl2, eP]
          refine ⟨[some (scr ns, false), some (town (k2 + 1), true), some (nI m, true), some (nI (d + 1), true), some (nI den, true), some (.lst ((L2 ++ [(pre.length, o)]).map eP), true), some (nI o, true), some (nI pre.length, true)], ?_, k2 + 1, L2 ++ [(pre.length, o)], _, rfl, by simp; omega, ?_, fun t ht => ?_⟩
          · simp [turF, e3', hc, isLst, happ, -List.map_append]
          · refine List.nodup_append.mpr ⟨i2, by simp, fun x hx y hy => ?_⟩
            rw [List.mem_singleton.mp hy]
            rintro rfl
            have := i3 _ hx; simp at this
          · rcases List.mem_append.mp ht with ht | ht
            · have := i3 t ht; simp; omega
            · rw [List.mem_singleton.mp ht]; simp; omega
        · refine ⟨[some (scr ns, false), some (town (k2 + 1), true), some (nI m, true), some (nI (d + 1), true), some (nI den, true), some (.lst (L2.map eP), true), some (nI o, true), some (nI pre.length, true)], ?_, k2 + 1, L2, _, rfl, by simp; omega, i2, fun t ht => ?_⟩
          · simp [turF, e3', hc]
          · have := i3 t ht; simp; omega)
      (r := [some (scr ns, false), some (town k1, true), some (nI m, true), some (nI (d + 1), true), some (nI den, true), some (.lst (L.map eP), true), some (nI o, true), x7])
      ⟨k1, L, x7, rfl, by simp, hs, fun t ht => by have := hL t ht; simp; omega⟩
    refine ⟨k2, L2, x, e, ?_, i2, fun t ht => ?_⟩
    · simp at i1; omega
    · have := i3 t ht; simp at this; omega
  obtain ⟨r', e, k2, L2, x6, x7, rfl, i1, i2, i3⟩ := for_n (T := T) (P := run T (n + 3)) (t := .nm 6) (enc := nI) (L := List.range (d + 1))
    (body := [.fr (.nm 7) .rng (.const (.int 0)) (.var 6) [.ife (.bin .lt (.call 102 [.var 0, .var 1, .const (.int 6)]) (.var 4)) [.exp (.app 5 (.tupd [.var 7, .var 6]))] []] false])
    (fun pre r => ∃ (k2 : Nat) (L2 : List (Nat × Nat)) (x6 x7 : Slot), r = [some (scr ns, false), some (town k2, true), some (nI m, true), some (nI (d + 1), true), some (nI den, true), some (.lst (L2.map eP), true), x6, x7] ∧ k2 ≤ k + 2 + 8 * pre.length ∧ L2.Nodup ∧
      (∀ t ∈ L2, t.1 < t.2 ∧ t.2 < pre.length))
    (fun pre a post r hsp ⟨k2, L2, x6, x7, hr, i1, i2, i3⟩ => by
      subst hr
      rw [List.range_eq_range'] at hsp
      obtain ⟨ha, hlen, _⟩ := range'_pre hsp
      rw [Nat.zero_add] at ha; subst ha
      obtain ⟨k3, L3, x7', e, j1, j2, j3⟩ := inner pre.length k2 L2 x7 (by omega) i1 i2 i3
      have ro := rngOk_0 (b := pre.length) (by omega)
      refine ⟨_, ?_, k3, L3, some (nI pre.length, true), x7', rfl, by simp; omega, j2, fun t ht => by have := j3 t ht; simp; omega⟩
      simp [turF, ro, rngL0, e])
    (r := [some (scr ns, false), some (town (k + 2), true), some (nI m, true), some (nI (d + 1), true), some (nI den, true), some (.lst [], true), none, none])
    ⟨k + 2, [], none, none, rfl, by simp, by simp, by simp⟩
  simp only [List.length_range] at i1 i3
  obtain ⟨dr, _, e3⟩ := run_draw (T := T) n ns k2 3 (by decide) (by omega)
  have e3' : run T (n + 3) 102 [(scr ns, false), (town k2, true), (.int 3, true)] = _ := e3
  have hL2 := ties_len i2 fun t ht => ⟨(i3 t ht).1, by have := (i3 t ht).2; omega⟩
  -- the line, perhaps
  obtain ⟨L3, hL3, hL3m, ev⟩ : ∃ L3 : List (Nat × Nat), L3.length < 60 ∧ (∀ t ∈ L3, t.1 < t.2 ∧ t.2 < d + 1) ∧
      ex T (run T (n + 3)) (.ife (.bin .eq (.call 102 [.var 0, .var 1, .const (.int 3)]) (.const (.int 0))) [.exp (.ext 5 (.comp (.tupd [.var 7, .bin .add (.var 7) (.const (.int 1))]) (.nm 7) .rng (.const (.int 0)) (.bin .sub (.var 3) (.const (.int 1))) [] [7] false))] [])
        [some (scr ns, false), some (town k2, true), some (nI m, true), some (nI (d + 1), true), some (nI den, true), some (.lst (L2.map eP), true), x6, x7] =
      .ok .nx [some (scr ns, false), some (town (k2 + 1), true), some (nI m, true), some (nI (d + 1), true), some (nI den, true), some (.lst (L3.map eP), true), x6, x7] := by
    by_cases h0 : (dr : Int) = 0
    · have hc : compEv T (run T (n + 3)) (.tupd [.var 7, .bin .add (.var 7) (.const (.int 1))]) (.nm 7) [] [7] ((List.range d).map nI) [] [some (scr ns, false), some (town (k2 + 1), true), some (nI m, true), some (nI (d + 1), true), some (nI den, true), some (.lst (L2.map eP), true), x6, x7] =
          .ok (.lst (((List.range d).map fun p => (p, p + 1)).map eP), .own) [some (scr ns, false), some (town (k2 + 1), true), some (nI m, true), some (nI (d + 1), true), some (nI den, true), some (.lst (L2.map eP), true), x6, x7] := by
        rw [comp_p (fun p : Nat => some (eP (p, p + 1))) fun p hp => ⟨[some (scr ns, false), some (town (k2 + 1), true), some (nI m, true), some (nI (d + 1), true), some (nI den, true), some (.lst (L2.map eP), true), x6, some (nI p, true)], ?_, by simp [wipeS]⟩]
        · rw [fm_some, List.map_map]; rfl
        · simp [turC, wipeS, eP]
      have hll : d ≤ line := by unfold line; omega
      have ro := rngOk_0 (b := d) (by omega)
      have c1 : (((d + 1 : Nat) : Int) - 1) = (d : Int) := by omega
      have hext : (L2.map eP).length + (((List.range d).map fun p => (p, p + 1)).map eP).length ≤ line := by simp; unfold line; omega
      have hmod : modL 5 (gExt (((List.range d).map fun p => (p, p + 1)).map eP)) [some (scr ns, false), some (town (k2 + 1), true), some (nI m, true), some (nI (d + 1), true), some (nI den, true), some (.lst (L2.map eP), true), x6, x7] =
          .ok (.non, .frz) [some (scr ns, false), some (town (k2 + 1), true), some (nI m, true), some (nI (d + 1), true), some (nI den, true), some (.lst ((L2 ++ (List.range d).map fun p => (p, p + 1)).map eP), true), x6, x7] := by
        simp only [modL, getS, get0, gExt, hext, if_true, List.map_append]; rfl
      refine ⟨L2 ++ (List.range d).map fun p => (p, p + 1), by simp; omega, fun t ht => ?_, ?_⟩
      · rcases List.mem_append.mp ht with ht | ht
        · have := i3 t ht; omega
        · obtain ⟨p, hp, rfl⟩ := List.mem_map.mp ht
          have := List.mem_range.mp hp
          simp; omega
      · simp [e3', h0, c1, -Int.natCast_add, ro, rngL0, hll, hc, lstOf, isLst, hmod, -List.map_map, -List.map_append]
    · refine ⟨L2, by omega, fun t ht => by have := i3 t ht; omega, ?_⟩
      have h0' : ¬ dr = 0 := by omega
      simp [e3', h0']
  refine ⟨⟨d + 1, sset L3⟩, k2 + 1, ⟨by show 1 ≤ d + 1; omega, by show d + 1 ≤ 8; omega, fun t ht => hL3m t (mem_sset.mp ht), sset_sor _⟩, by show d + 1 ≤ m; omega, by omega, ?_⟩
  rw [run_of (d := d_L1_web) (h4.eq.trans rfl) rfl]
  have c1 : (1 + (d : Int)) = ((d + 1 : Nat) : Int) := by omega
  have ro := rngOk_0 (b := d + 1) (by omega)
  have hs := sset_tiesL hL3 fun t ht => by have := hL3m t ht; omega
  have e2' : run T (n + 3) 102 [(scr ns, false), (town (k + 1), true), (.int 6, true)] = _ := e2
  have hb : d_L1_web.body = d_L1_web.body.take 4 ++ (d_L1_web.body.getD 4 .pass :: d_L1_web.body.drop 5) := rfl
  have s1 : exs T (run T (n + 3)) (d_L1_web.body.take 4) [some (scr ns, false), some (town k, true), some (nI m, true), none, none, none, none, none] =
      .ok .nx [some (scr ns, false), some (town k2, true), some (nI m, true), some (nI (d + 1), true), some (nI den, true), some (.lst (L2.map eP), true), x6, x7] := by
    simp [d_L1_web, e1, e2', c1, -Int.natCast_add, ro, rngL0, e]
  have ev' : ex T (run T (n + 3)) (d_L1_web.body.getD 4 .pass) _ = _ := ev
  rw [hb, exs_append]
  have hst : startE d_L1_web [(scr ns, false), (town k, true), (nI m, true)] = [some (scr ns, false), some (town k, true), some (nI m, true), none, none, none, none, none] := rfl
  rw [hst, s1]
  simp only [sqR_nx, exs_cons_]
  rw [ev']
  simp [d_L1_web, hs, eW]
end PQ

set_option linter.all false
set_option maxRecDepth 100000
namespace PQ
open PL
open PV
/-! ## the first family's pieces -/
theorem tieOf_adj {w : W} (hw : w.Ok) (a b : Nat) : tieOf a b ∈ w.ties ↔ adj w a b := by
  unfold tieOf adj
  constructor
  · intro h
    by_cases c : a ≤ b
    · rw [Nat.min_eq_left c, Nat.max_eq_right c] at h; exact .inl h
    · rw [Nat.min_eq_right (by omega), Nat.max_eq_left (by omega)] at h; exact .inr h
  · rintro (h | h)
    · have := (hw.ties _ h).1
      rw [Nat.min_eq_left (Nat.le_of_lt this), Nat.max_eq_right (Nat.le_of_lt this)]; exact h
    · have := (hw.ties _ h).1
      rw [Nat.min_eq_right (Nat.le_of_lt this), Nat.max_eq_left (Nat.le_of_lt this)]; exact h
theorem run_tied {T : Tab} [h : HasL1 T 105] (n : Nat) (w : W) (hw : w.Ok) (a b : Nat) : run T (n + 1) 105 [(eW w, true), (nI a, true), (nI b, true)] = .ok (.bl (decide (adj w a b))) true [(eW w, true), (nI a, true), (nI b, true)] := by
  rw [run_of (d := d_L1_tied) (h.eq.trans rfl) rfl]
  have i1 : binop .inn (.tup [nI (min a b), nI (max a b)]) (.tup (w.ties.map eP)) = some (.bl (decide (tieOf a b ∈ w.ties))) := inn_TP (tieOf a b) w.ties
  rw [show decide (tieOf a b ∈ w.ties) = decide (adj w a b) from by rw [decide_eq_decide]; exact tieOf_adj hw a b] at i1
  simp [d_L1_tied, i1]
theorem bools_map {A : Type} (p : A → Bool) : ∀ l : List A, bools (l.map fun a => PV.bl (p a)) = some (l.map p)
  | [] => rfl
  | a :: l => by rw [List.map_cons, bools, bools_map p l]; rfl
/-- a list of places, as a list -/
def eM (l : List Nat) : PV := .lst (l.map nI)
theorem datM (l : List Nat) : dat (eM l) = true := by unfold eM; rw [dat]; exact dats_N l
theorem depM (l : List Nat) : dep (eM l) = 1 := by unfold eM; rw [dep, deps_N]
theorem datsM : ∀ M : List (List Nat), dats (M.map eM) = true
  | [] => rfl
  | a :: M => by rw [List.map_cons, dats, datM, datsM M]; rfl
theorem depsM : ∀ M : List (List Nat), deps (M.map eM) ≤ 1
  | [] => Nat.zero_le _
  | a :: M => by rw [List.map_cons, deps, depM]; exact Nat.max_le.mpr ⟨Nat.le_refl _, depsM M⟩
theorem peqM (a b : List Nat) : peq (eM a) (eM b) = decide (a = b) := by
  rw [Bool.eq_iff_iff]
  unfold eM
  rw [peq]
  exact (peqs_map a b).trans (by simp)
theorem anyM (a : List Nat) : ∀ M : List (List Nat), ((M.map eM).any fun x => peq x (eM a)) = decide (a ∈ M)
  | [] => by simp
  | b :: M => by
    rw [List.map_cons, List.any_cons, anyM a M, peqM, Bool.eq_iff_iff, Bool.or_eq_true, decide_eq_true_eq, decide_eq_true_eq, decide_eq_true_eq, List.mem_cons]
    exact ⟨fun h => h.imp Eq.symm id, fun h => h.imp Eq.symm id⟩
theorem nin_M (a : List Nat) (M : List (List Nat)) : binop .nin (eM a) (.lst (M.map eM)) = some (.bl (!decide (a ∈ M))) := by
  have h := depsM M
  have h2 : deps (M.map eM) ≤ 8 := by omega
  have h3 : dep (eM a) ≤ 8 := by rw [depM]; omega
  show (if dat (eM a) && dats (M.map eM) && decide (dep (eM a) ≤ 8) && decide (deps (M.map eM) ≤ 8) then some (PV.bl (!(M.map eM).any fun x => peq x (eM a))) else none) = _
  rw [datM, datsM, anyM, decide_eq_true h2, decide_eq_true h3]; rfl
theorem alks_N : ∀ a b : List Nat, alks (a.map nI) (b.map nI) = true
  | [], _ => by simp [alks]
  | _ :: _, [] => by simp [alks]
  | a :: as, b :: bs => by rw [List.map_cons, List.map_cons, alks, alks_N as bs]; rfl
theorem psort_L (M : List (List Nat)) (h : ∀ x ∈ M, x ≠ []) : psort (M.map eL) = some ((srtT M).map eL) := by
  have h1 : okSort (M.map eL) = true := by
    unfold okSort
    have a1 : ((M.map eL).all fun a => (M.map eL).all fun b => alk a b) = true := by
      rw [List.all_eq_true]; intro x hx
      rw [List.all_eq_true]; intro y hy
      obtain ⟨s, _, rfl⟩ := List.mem_map.mp hx
      obtain ⟨t, _, rfl⟩ := List.mem_map.mp hy
      unfold eL; rw [alk]; exact alks_N s t
    have a2 : (M.map eL).all isTupC = true := by
      rw [List.all_eq_true]; intro x hx
      obtain ⟨s, hs, rfl⟩ := List.mem_map.mp hx
      cases s with
      | nil => exact absurd rfl (h _ hs)
      | cons a s => rfl
    have a3 : deps (M.map eL) ≤ 1 := deps_enc (E := encL) (k := 1) depL M
    rw [a1, a2]; simp; omega
  unfold psort
  rw [if_pos h1]; exact congrArg some (isort_map (E := encL) M)
theorem nodup_flat : ∀ M : List (List Nat), (∀ x ∈ M, x.Nodup) → M.Pairwise (fun x y => ∀ b, b ∈ x → b ∈ y → False) → M.flatten.Nodup
  | [], _, _ => by simp
  | x :: M, h1, h2 => by
    rw [List.pairwise_cons] at h2
    rw [List.flatten_cons]
    refine List.nodup_append.mpr ⟨h1 x List.mem_cons_self, nodup_flat M (fun y hy => h1 y (List.mem_cons_of_mem _ hy)) h2.2, fun a ha b hb => ?_⟩
    rintro rfl
    obtain ⟨y, hy, hb⟩ := List.mem_flatten.mp hb
    exact h2.1 y hy a ha hb
/-- the classes among the places so far -/
structure Cls (w : W) (P : List Nat) (M : List (List Nat)) : Prop where
  nd : M.Nodup
  mem : ∀ x, x ∈ M ↔ ∃ a ∈ P, x = cls w P a
/-- whether a piece is tied to a place -/
def isNear (w : W) (p : Nat) (x : List Nat) : Bool := x.any fun o => decide (adj w p o)
theorem near_iff {w : W} {p : Nat} {x : List Nat} : isNear w p x = true ↔ ∃ o ∈ x, adj w p o := by unfold isNear; simp
theorem Cls.step {w : W} {P : List Nat} {M : List (List Nat)} {p : Nat} (hs : Sor (P ++ [p])) (h : Cls w P M) :
    Cls w (P ++ [p]) ((M.filter fun x => decide (x ∉ M.filter (isNear w p))) ++ [srtT ([p] ++ (M.filter (isNear w p)).flatten)]) := by
  have hsP : Sor P := (List.pairwise_append.mp hs).1
  have hpP : p ∉ P := fun z => by
    have := (List.pairwise_append.mp hs).2.2 p z p (by simp)
    have h3 : decide (p < p) = true := this
    simp at h3
  have sub : ∀ x ∈ P, x ∈ P ++ [p] := fun x hx => List.mem_append_left _ hx
  have cl : ∀ x ∈ M, ∀ b ∈ x, b ∈ P := fun x hx b hb => by
    obtain ⟨a, _, rfl⟩ := (h.mem x).mp hx
    exact (mem_cls.mp hb).1
  have cs : ∀ x ∈ M, ∀ b ∈ x, ∀ c ∈ P, adj w b c → c ∈ x := fun x hx b hb c hc hbc => by
    obtain ⟨a, _, rfl⟩ := (h.mem x).mp hx
    exact mem_cls.mpr ⟨hc, (mem_cls.mp hb).2.step hbc hc⟩
  have inn : ∀ b ∈ P, ∃ x ∈ M, b ∈ x := fun b hb => ⟨_, (h.mem _).mpr ⟨b, hb, rfl⟩, cls_self hb⟩
  have con : ∀ x ∈ M, ∀ b ∈ x, ∀ c ∈ x, Cn w P b c := fun x hx b hb c hc => by
    obtain ⟨a, ha, rfl⟩ := (h.mem x).mp hx
    exact ((mem_cls.mp hb).2.sym ha).trans (mem_cls.mp hc).2
  have one : ∀ x ∈ M, ∀ y ∈ M, ∀ b, b ∈ x → b ∈ y → x = y := fun x hx y hy b hbx hby => by
    obtain ⟨a, ha, rfl⟩ := (h.mem x).mp hx
    obtain ⟨c, hc, rfl⟩ := (h.mem y).mp hy
    rw [cls_eq hsP ha (mem_cls.mp hbx).2, cls_eq hsP hc (mem_cls.mp hby).2]
  have fromP : ∀ b, Cn w (P ++ [p]) p b ↔ b = p ∨ ∃ x ∈ M, isNear w p x = true ∧ b ∈ x := fun b => by
    constructor
    · intro c
      induction c with
      | refl => exact .inl rfl
      | @step b' c' _ h2 h3 ih =>
        rcases List.mem_append.mp h3 with h4 | h4
        · right
          rcases ih with e | ⟨x, hx, hn, hb⟩
          · obtain ⟨x, hx, hc⟩ := inn c' h4
            rw [e] at h2
            exact ⟨x, hx, near_iff.mpr ⟨c', hc, h2⟩, hc⟩
          · exact ⟨x, hx, hn, cs x hx b' hb c' h4 h2⟩
        · exact .inl (List.mem_singleton.mp h4)
    · rintro (rfl | ⟨x, hx, hn, hb⟩)
      · exact .refl
      · obtain ⟨o, ho, hpo⟩ := near_iff.mp hn
        exact (Cn.refl.step hpo (sub o (cl x hx o ho))).trans ((con x hx o ho b hb).mono sub)
  have fromX : ∀ x ∈ M, isNear w p x = false → ∀ a ∈ x, ∀ b, Cn w (P ++ [p]) a b ↔ b ∈ x := fun x hx hn a ha b => by
    constructor
    · intro c
      induction c with
      | refl => exact ha
      | @step b' c' _ h2 h3 ih =>
        rcases List.mem_append.mp h3 with h3 | h3
        · exact cs x hx b' ih c' h3 h2
        · rw [List.mem_singleton.mp h3] at h2
          have := near_iff.mpr ⟨b', ih, adj_sym h2⟩
          rw [hn] at this; cases this
    · intro hb
      exact (con x hx a ha b hb).mono sub
  have xs : ∀ x ∈ M, Sor x := fun x hx => by
    obtain ⟨a, _, rfl⟩ := (h.mem x).mp hx
    exact cls_sor hsP a
  have old : ∀ x ∈ M, isNear w p x = false → ∀ a ∈ x, x = cls w (P ++ [p]) a := fun x hx hn a ha =>
    Sor.ext (xs x hx) (cls_sor hs a) fun b => by
      rw [mem_cls, fromX x hx hn a ha b]
      exact ⟨fun z => ⟨sub b (cl x hx b z), z⟩, fun z => z.2⟩
  have ndf : ([p] ++ (M.filter (isNear w p)).flatten).Nodup := by
    refine List.nodup_append.mpr ⟨by simp, ?_, fun a ha b hb => ?_⟩
    · refine nodup_flat _ (fun x hx => Sor.nodup (xs x (List.mem_filter.mp hx).1)) ?_
      have : (M.filter (isNear w p)).Pairwise fun x y => x ≠ y := h.nd.filter _
      refine List.Pairwise.imp_of_mem (fun {x y} hx hy hxy => ?_) this
      intro b hbx hby
      exact hxy (one x (List.mem_filter.mp hx).1 y (List.mem_filter.mp hy).1 b hbx hby)
    · rw [List.mem_singleton.mp ha]
      rintro rfl
      obtain ⟨x, hx, hb⟩ := List.mem_flatten.mp hb
      exact hpP (cl x (List.mem_filter.mp hx).1 _ hb)
  have new : srtT ([p] ++ (M.filter (isNear w p)).flatten) = cls w (P ++ [p]) p :=
    Sor.ext (srtT_sor ndf) (cls_sor hs p) fun b => by
      rw [mem_srtT, mem_cls, fromP b, List.mem_append, List.mem_singleton, List.mem_flatten]
      constructor
      · rintro (rfl | ⟨x, hx, hb⟩)
        · exact ⟨by simp, .inl rfl⟩
        · obtain ⟨hx, hn⟩ := List.mem_filter.mp hx
          exact ⟨sub b (cl x hx b hb), .inr ⟨x, hx, hn, hb⟩⟩
      · rintro ⟨_, rfl | ⟨x, hx, hn, hb⟩⟩
        · exact .inl rfl
        · exact .inr ⟨x, List.mem_filter.mpr ⟨hx, hn⟩, hb⟩
  have far : ∀ x, x ∈ (M.filter fun x => decide (x ∉ M.filter (isNear w p))) ↔ x ∈ M ∧ isNear w p x = false := fun x => by
    rw [List.mem_filter]
    constructor
    · rintro ⟨h1, h2⟩
      refine ⟨h1, ?_⟩
      cases e : isNear w p x with
      | false => rfl
      | true => simp [List.mem_filter, h1, e] at h2
    · rintro ⟨h1, h2⟩
      exact ⟨h1, by simp [List.mem_filter, h2]⟩
  rw [new]
  refine ⟨List.nodup_append.mpr ⟨h.nd.filter _, by simp, fun x hx y hy => ?_⟩, fun x => ?_⟩
  · rw [List.mem_singleton.mp hy]
    rintro rfl
    have := cl _ ((far _).mp hx).1 p (cls_self (by simp))
    exact hpP this
  · rw [List.mem_append, far, List.mem_singleton]
    constructor
    · rintro (⟨hx, hn⟩ | rfl)
      · obtain ⟨a, ha, e⟩ := (h.mem x).mp hx
        have hax : a ∈ x := by rw [e]; exact cls_self ha
        exact ⟨a, sub a ha, old x hx hn a hax⟩
      · exact ⟨p, by simp, rfl⟩
    · rintro ⟨a, ha, rfl⟩
      rcases List.mem_append.mp ha with ha | ha
      · obtain ⟨x, hx, hax⟩ := inn a ha
        cases e : isNear w p x with
        | false => left; rw [← old x hx e a hax]; exact ⟨hx, e⟩
        | true =>
          right
          exact (cls_eq hs (by simp) ((fromP a).mpr (.inr ⟨x, hx, e, hax⟩))).symm
      · rw [List.mem_singleton.mp ha]; exact .inr rfl
theorem Cls.done {w : W} {P : List Nat} {M : List (List Nat)} (h : Cls w P M) : srtT M = pcs w P :=
  Sor.ext (srtT_sor h.nd) (pcs_sor w P) fun x => by
    rw [mem_srtT, mem_pcs, h.mem]
    exact ⟨fun ⟨a, ha, e⟩ => ⟨a, ha, e.symm⟩, fun ⟨a, ha, e⟩ => ⟨a, ha, e.symm⟩⟩
end PQ

set_option linter.all false
set_option maxRecDepth 100000
namespace PQ
open PL
open PV
@[simp] theorem isM_eM (l : List Nat) : (eM l).isM = true := by simp [eM]
theorem setS_eM (i : Nat) (l : List Nat) (r : Env) : setS i (eM l) .frz r = some (r.set i (some (eM l, false))) := by unfold eM; simp
theorem run_L1pieces {T : Tab} [HasL1 T 105] [h6 : HasL1 T 106] (n : Nat) (w : W) (hw : w.Ok) (P : List Nat) (hP : Sor P) (hl : P.length ≤ 8) :
    run T (n + 2) 106 [(eW w, true), (eL P, true)] = .ok (.lst ((pcs w P).map eL)) true [(eW w, true), (eL P, true)] := by
  rw [run_of (d := d_L1_pieces) (h6.eq.trans rfl) rfl]
  obtain ⟨r', e, M, x3, x4, x5, x6, rfl, hC, hML⟩ := for_n (T := T) (P := run T (n + 1)) (t := .nm 3) (enc := nI) (L := P)
    (body := [.asg (.nm 4) (.comp (.var 6) (.nm 6) .seq (.var 2) (.const .non) [.b1 .any (.comp (.call 105 [.var 0, .var 3, .var 7]) (.nm 7) .seq (.var 6) (.const .non) [] [7] true)] [6] true), .asg (.nm 2) (.comp (.var 6) (.nm 6) .seq (.var 2) (.const .non) [.bin .nin (.var 6) (.var 4)] [6] true), .asg (.nm 5) (.lstd [.var 3]), .fr (.nm 6) .seq (.var 4) (.const .non) [.exp (.ext 5 (.var 6))] false, .exp (.app 2 (.b1 .sorted (.var 5)))])
    (fun pre r => ∃ (M : List (List Nat)) (x3 x4 x5 x6 : Slot), r = [some (eW w, true), some (eL P, true), some (.lst (M.map eM), true), x3, x4, x5, x6, none] ∧ Cls w pre M ∧ M.length ≤ pre.length)
    (fun pre p post r hsp ⟨M, x3, x4, x5, x6, hr, hC, hML⟩ => by
      subst hr
      have hs : Sor (pre ++ [p]) := by
        rw [show P = (pre ++ [p]) ++ post from by rw [hsp]; simp] at hP
        exact (List.pairwise_append.mp hP).1
      have hpl : pre.length + 1 ≤ 8 := by
        have := congrArg List.length hsp
        simp at this; omega
      have hsP : Sor pre := (List.pairwise_append.mp hs).1
      have hxl : ∀ x ∈ M, x.length ≤ 8 := fun x hx => by
        obtain ⟨a, _, rfl⟩ := (hC.mem x).mp hx
        have : (cls w pre a).length ≤ pre.length := List.length_filter_le _ _
        omega
      have hMl : M.length ≤ line := by unfold line; omega
      have hC2 := hC.step hs
      -- near
      have hc1 : compEv T (run T (n + 1)) (.var 6) (.nm 6) [.b1 .any (.comp (.call 105 [.var 0, .var 3, .var 7]) (.nm 7) .seq (.var 6) (.const .non) [] [7] true)] [6] (M.map eM) [(2, .lst (M.map eM))] [some (eW w, true), some (eL P, true), none, some (nI p, true), x4, x5, x6, none] =
          .ok (.lst ((M.filter (isNear w p)).map eM), .own) [some (eW w, true), some (eL P, true), some (.lst (M.map eM), true), some (nI p, true), x4, x5, x6, none] := by
        rw [comp_h (fun x : List Nat => if isNear w p x = true then some (eM x) else none) (by simp) fun x hx => ⟨[some (eW w, true), some (eL P, true), none, some (nI p, true), x4, x5, some (eM x, false), none], ?_, by simp [wipeS]⟩]
        · rw [fm_if]; simp
        · have hi : compEv T (run T (n + 1)) (.call 105 [.var 0, .var 3, .var 7]) (.nm 7) [] [7] (x.map nI) [] [some (eW w, true), some (eL P, true), none, some (nI p, true), x4, x5, some (eM x, false), none] =
              .ok (.lst (x.map fun o => PV.bl (decide (adj w p o))), .own) [some (eW w, true), some (eL P, true), none, some (nI p, true), x4, x5, some (eM x, false), none] := by
            rw [comp_p (fun o : Nat => some (PV.bl (decide (adj w p o)))) fun o ho => ⟨[some (eW w, true), some (eL P, true), none, some (nI p, true), x4, x5, some (eM x, false), some (nI o, true)], ?_, by simp [wipeS]⟩]
            · rw [fm_some]
            · have := run_tied (T := T) n w hw p o
              simp [turC, wipeS, this]
          have hb := bools_map (fun o => decide (adj w p o)) x
          have hxx : x.length ≤ line := by have := hxl x hx; unfold line; omega
          have sq : ∀ r : Env, seqOf true (eM x) .frz r [] = some (x.map nI, r, []) := fun r => by unfold eM; simp
          have sk : ∀ r : Env, sink (eM x) .frz r = some r := fun r => by unfold eM; simp
          have nn : ((x.map fun o => decide (adj w p o)).any id) = isNear w p x := by unfold isNear; rw [List.any_map]; rfl
          cases hn : isNear w p x <;> rw [hn] at nn <;> simp [turC, wipeS, setS_eM, sq, hxx, hi, hb, nn, sk, -List.any_map]
      -- far
      have hc2 : compEv T (run T (n + 1)) (.var 6) (.nm 6) [.bin .nin (.var 6) (.var 4)] [6] (M.map eM) [(2, .lst (M.map eM))] [some (eW w, true), some (eL P, true), none, some (nI p, true), some (.lst ((M.filter (isNear w p)).map eM), true), x5, x6, none] =
          .ok (.lst ((M.filter fun x => decide (x ∉ M.filter (isNear w p))).map eM), .own) [some (eW w, true), some (eL P, true), some (.lst (M.map eM), true), some (nI p, true), some (.lst ((M.filter (isNear w p)).map eM), true), x5, x6, none] := by
        rw [comp_h (fun x : List Nat => if x ∉ M.filter (isNear w p) then some (eM x) else none) (by simp) fun x hx => ⟨[some (eW w, true), some (eL P, true), none, some (nI p, true), some (.lst ((M.filter (isNear w p)).map eM), true), x5, some (eM x, false), none], ?_, by simp [wipeS]⟩]
        · rw [fm_if]; simp
        · have hi := nin_M x (M.filter (isNear w p))
          have sk : ∀ r : Env, sink (eM x) .frz r = some r := fun r => by unfold eM; simp
          by_cases c : x ∈ M.filter (isNear w p)
          · rw [decide_eq_true c] at hi
            simp [turC, wipeS, setS_eM, hi, c, sk, -List.mem_filter]
          · rw [decide_eq_false c] at hi
            simp [turC, wipeS, setS_eM, hi, c, sk, -List.mem_filter]
      have hNl : ∀ x ∈ M.filter (isNear w p), x.length ≤ 8 := fun x hx => hxl x (List.mem_filter.mp hx).1
      have hNn : (M.filter (isNear w p)).length ≤ 8 := by have := List.length_filter_le (isNear w p) M; omega
      generalize hN : M.filter (isNear w p) = N at *
      generalize hF : (M.filter fun x => decide (x ∉ N)) = F at *
      have hFl : F.length ≤ M.length := by rw [← hF]; exact List.length_filter_le _ _
      -- joined
      obtain ⟨r', e, x6', rfl⟩ := for_n (T := T) (P := run T (n + 1)) (t := .nm 6) (enc := eM) (L := N) (body := [.exp (.ext 5 (.var 6))])
        (fun pre r => ∃ x6 : Slot, r = [some (eW w, true), some (eL P, true), some (.lst (F.map eM), true), some (nI p, true), some (.lst (N.map eM), false), some (.lst (([p] ++ pre.flatten).map nI), true), x6, none])
        (fun pre2 x post2 r hsp2 ⟨x6, hr⟩ => by
          subst hr
          have hxN : x ∈ N := by rw [hsp2]; simp
          have hlen : (([p] ++ pre2.flatten).map nI).length + (x.map nI).length ≤ line := by
            have h1 : pre2.flatten.length ≤ 8 * pre2.length := by
              have : ∀ l : List (List Nat), (∀ y ∈ l, y.length ≤ 8) → l.flatten.length ≤ 8 * l.length := by
                intro l
                induction l with
                | nil => intro _; simp
                | cons y l ih =>
                  intro h
                  have := h y (by simp)
                  have := ih fun z hz => h z (by simp [hz])
                  simp only [List.flatten_cons, List.length_append, List.length_cons]; omega
              exact this pre2 fun y hy => hNl y (by rw [hsp2]; simp [hy])
            have h2 := hNl x hxN
            have h3 := congrArg List.length hsp2
            simp only [List.length_append, List.length_cons] at h3
            simp only [List.length_map, List.length_append, List.length_cons, List.length_nil]
            unfold line; omega
          have hmod : modL 5 (gExt (x.map nI)) [some (eW w, true), some (eL P, true), some (.lst (F.map eM), true), some (nI p, true), some (.lst (N.map eM), false), some (.lst (([p] ++ pre2.flatten).map nI), true), some (eM x, false), none] =
              .ok (.non, .frz) [some (eW w, true), some (eL P, true), some (.lst (F.map eM), true), some (nI p, true), some (.lst (N.map eM), false), some (.lst (([p] ++ (pre2 ++ [x]).flatten).map nI), true), some (eM x, false), none] := by
            simp only [modL, getS, get0, gExt, hlen, if_true]
            simp
          have lo : lstOf 5 (eM x, Fl.frz) = some (x.map nI) := by simp [lstOf, eM]
          refine ⟨_, ?_, some (eM x, false), rfl⟩
          simp at hmod
          simp [turF, setS_eM, isLst, lo, hmod])
        (r := [some (eW w, true), some (eL P, true), some (.lst (F.map eM), true), some (nI p, true), some (.lst (N.map eM), false), some (.lst [nI p], true), x6, none])
        ⟨x6, by simp⟩
      have hsrt : b1op .sorted (.lst (([p] ++ N.flatten).map nI)) = some (eM (srtT ([p] ++ N.flatten))) := by rw [b1_sortLN]; rfl
      have happ : modL 2 (gApp (.lst ((srtT (p :: N.flatten)).map nI))) [some (eW w, true), some (eL P, true), some (.lst (F.map eM), true), some (nI p, true), some (.lst (N.map eM), false), some (.lst ((p :: N.flatten).map nI), true), x6', none] =
          .ok (.non, .frz) [some (eW w, true), some (eL P, true), some (.lst ((F ++ [srtT (p :: N.flatten)]).map eM), true), some (nI p, true), some (.lst (N.map eM), false), some (.lst ((p :: N.flatten).map nI), true), x6', none] := by
        have : F.length < line := by unfold line; omega
        simp [modL, gApp, this, eM]
      have sk : ∀ r : Env, sink (eM (srtT ([p] ++ N.flatten))) .own r = some r := fun r => by unfold eM; simp
      refine ⟨[some (eW w, true), some (eL P, true), some (.lst ((F ++ [srtT ([p] ++ N.flatten)]).map eM), true), some (nI p, true), some (.lst (N.map eM), false), some (.lst (([p] ++ N.flatten).map nI), true), x6', none], ?_, F ++ [srtT ([p] ++ N.flatten)], _, _, _, _, rfl, hC2, by simp; omega⟩
      have sq1 : ∀ x3 x4 x5 x6 : Slot, seqOf true (.lst (M.map eM)) (.al 2) [some (eW w, true), some (eL P, true), some (.lst (M.map eM), true), x3, x4, x5, x6, none] [] = some (M.map eM, [some (eW w, true), some (eL P, true), none, x3, x4, x5, x6, none], [(2, .lst (M.map eM))]) := fun x3 x4 x5 x6 => by
        rw [seqLh _ _ _ _ (by simp)]; simp
      have sq2 : ∀ x5 x6 : Slot, seqOf false (.lst (N.map eM)) (.al 4) [some (eW w, true), some (eL P, true), some (.lst (F.map eM), true), some (nI p, true), some (.lst (N.map eM), true), x5, x6, none] [] = some (N.map eM, [some (eW w, true), some (eL P, true), some (.lst (F.map eM), true), some (nI p, true), some (.lst (N.map eM), false), x5, x6, none], []) := fun x5 x6 => by
        rw [seqLa, frzS_at _ 4 (N.map eM) true (by simp)]; simp
      simp [turF, sq1, hMl, hc1, hc2, sq2, e, isLst, hsrt, sk, happ, -List.map_append, -List.map_cons, -List.map_flatten, -List.singleton_append, -List.cons_append])
    (r := [some (eW w, true), some (eL P, true), some (.lst [], true), none, none, none, none, none])
    ⟨[], none, none, none, none, rfl, ⟨by simp, by simp⟩, by simp⟩
  have hMn : ∀ x ∈ M, x ≠ [] := fun x hx => by
    obtain ⟨a, ha, rfl⟩ := (hC.mem x).mp hx
    exact fun e => by have := cls_self (w := w) ha; rw [e] at this; simp at this
  have hc3 : compEv T (run T (n + 1)) (.b1 .tuple (.var 6)) (.nm 6) [] [6] (M.map eM) [(2, .lst (M.map eM))] [some (eW w, true), some (eL P, true), none, x3, x4, x5, x6, none] =
      .ok (.lst (M.map eL), .own) [some (eW w, true), some (eL P, true), some (.lst (M.map eM), true), x3, x4, x5, x6, none] := by
    rw [comp_h (fun x : List Nat => some (eL x)) (by simp) fun x hx => ⟨[some (eW w, true), some (eL P, true), none, x3, x4, x5, some (eM x, false), none], ?_, by simp [wipeS]⟩]
    · rw [fm_some]; simp
    · have bt : b1op .tuple (eM x) = some (eL x) := by unfold eM eL; simp
      simp [turC, wipeS, setS_eM, bt]
  have sq3 : seqOf true (.lst (M.map eM)) (.al 2) [some (eW w, true), some (eL P, true), some (.lst (M.map eM), true), x3, x4, x5, x6, none] [] = some (M.map eM, [some (eW w, true), some (eL P, true), none, x3, x4, x5, x6, none], [(2, .lst (M.map eM))]) := by
    rw [seqLh _ _ _ _ (by simp)]; simp
  have hps : b1op .sorted (.lst (M.map eL)) = some (.lst ((pcs w P).map eL)) := by
    show (psort (M.map eL)).map PV.lst = _
    rw [psort_L M hMn, hC.done]; rfl
  have hMl : M.length ≤ line := by unfold line; omega
  have sqP : ∀ r : Env, seqOf false (eL P) .own r [] = some (P.map nI, r, []) := fun r => by unfold eL; simp
  simp [d_L1_pieces, sqP, e, sq3, hMl, hc3, hps]
end PQ

set_option linter.all false
set_option maxRecDepth 100000
namespace PQ
open PL
open PV
/-! ## the first family's own height -/
theorem cut_take {A : Type} (l : List A) (i : Nat) (h : i ≤ l.length) : cut none (some (i : Int)) l = l.take i := by
  have : clampI (i : Int) l.length = i := by
    unfold clampI
    rw [if_neg (by omega), if_pos (by omega)]
    exact Int.toNat_natCast i
  simp [cut, this]
theorem cut_drop {A : Type} (l : List A) (i : Nat) (h : i ≤ l.length) : cut (some (i : Int)) none l = l.drop i := by
  have : clampI (i : Int) l.length = i := by
    unfold clampI
    rw [if_neg (by omega), if_pos (by omega)]
    exact Int.toNat_natCast i
  simp [cut, this]
theorem optI_N {i : Nat} (h : i < 1000) : optI (.int (i : Int)) = some (some (i : Int)) := by
  have e : (2 : Int) ^ 62 = 4611686018427387904 := by decide
  rw [optI, e, if_pos ⟨by omega, by omega⟩]
theorem slice_to (P : List Nat) (i : Nat) (h : i ≤ P.length) (h2 : i < 1000) : slice (eL P) .non (.int (i : Int)) = some (eL (P.take i)) := by
  have e2 := cut_take (P.map nI) i (by simpa using h)
  have o1 : optI .non = some none := by simp [optI]
  simp only [slice, o1, optI_N h2, Option.bind_some, eL, e2, List.map_take]
theorem slice_from (P : List Nat) (i : Nat) (h : i ≤ P.length) (h2 : i < 1000) : slice (eL P) (.int (i : Int)) .non = some (eL (P.drop i)) := by
  have e2 := cut_drop (P.map nI) i (by simpa using h)
  have o1 : optI .non = some none := by simp [optI]
  simp only [slice, o1, optI_N h2, Option.bind_some, eL, e2, List.map_drop]
theorem take_drop_without : ∀ (P : List Nat) (i : Nat) (h : i < P.length), P.Nodup → P.take i ++ P.drop (i + 1) = withoutL P P[i]
  | [], i, h, _ => absurd h (Nat.not_lt_zero _)
  | a :: P, 0, h, hn => by
    rw [List.nodup_cons] at hn
    have : withoutL P a = P := by
      unfold withoutL
      rw [List.filter_eq_self]
      intro x hx
      simp; rintro rfl; exact hn.1 hx
    show P = withoutL (a :: P) a
    unfold withoutL at this ⊢
    rw [List.filter_cons_of_neg (by simp), this]
  | a :: P, i + 1, h, hn => by
    rw [List.nodup_cons] at hn
    have hi : i < P.length := by simpa using h
    have ih := take_drop_without P i hi hn.2
    have hne : a ≠ P[i] := fun e => hn.1 (e ▸ List.getElem_mem hi)
    show a :: (P.take i ++ P.drop (i + 1)) = withoutL (a :: P) P[i]
    rw [ih]
    unfold withoutL
    rw [List.filter_cons_of_pos (by simpa using hne)]
theorem run_L1depth {T : Tab} [HasL1 T 105] [HasL1 T 106] [h10 : HasL1 T 110] (w : W) (hw : w.Ok) : ∀ (m n : Nat) (P : List Nat) (K : List (List Nat × Nat)), P.length ≤ m → Sor P → (∀ x ∈ P, x < 8) → KV w K →
    ∃ K', KV w K' ∧ P ∈ K'.map (·.1) ∧ run T (n + m + 4) 110 [(eW w, true), (eL P, true), (.dct (kS K) (vS K), true)] = .ok (nI (td w P)) true [(eW w, true), (eL P, true), (.dct (kS K') (vS K'), true)] := by
  intro m
  induction m with
  | zero =>
    intro n P K hm hs h8 hK
    have : P = [] := List.eq_nil_of_length_eq_zero (by omega)
    subst this
    have e0 := eqE_nil []
    have e1 := nin_K K [] (vS K)
    have h0 : td w [] = 0 := by rw [td_eq w hs]; simp
    rw [show n + 0 + 4 = (n + 3) + 1 from by omega, run_of (d := d_L1_depth) (h10.eq.trans rfl) rfl]
    by_cases hin : ([] : List Nat) ∈ K.map (·.1)
    · refine ⟨K, hK, hin, ?_⟩
      obtain ⟨e, he, hp⟩ := List.mem_map.mp hin
      have e2 := look_K [] K e.2 hK.nd (by rw [← hp]; exact he)
      rw [(hK.ok e he).1, hp, h0] at e2
      have e3 : index (.dct (kS K) (vS K)) (eL []) = some (nI 0) := by
        show (if okKey (kS K) (eL []) then look (kS K) (vS K) (eL []) else none) = _
        rw [if_pos (okKey_K K []), e2]
      simp [d_L1_depth, e1, hin, e3, h0]
    · have hp : put (kS K) (vS K) (eL []) (.int 0) = _ := put_K [] 0 K hin
      have hK2 := hK.put hs h8 hin
      rw [h0] at hK2
      have hk := okKey_K K []
      have hlen : (kS K).length < line := by have := hK.len; unfold kS line; simp; omega
      have e4 : index (.dct (kS (K ++ [([], 0)])) (vS (K ++ [([], 0)]))) (eL []) = some (.int 0) := by
        show (if okKey _ (eL []) then look _ _ (eL []) else none) = _
        rw [if_pos (okKey_K _ [])]
        exact look_K [] _ 0 hK2.nd (by simp)
      refine ⟨_, hK2, by simp, ?_⟩
      try simp at hp
      simp [d_L1_depth, e0, e1, hin, stI, hk, hlen, hp, e4, h0]
  | succ m ih =>
    intro n P K hm hs h8 hK
    have hl : P.length ≤ 8 := nodup_len 8 P hs.nodup h8
    have hll : P.length ≤ line := by unfold line; omega
    have e0 := eqE_nil P
    have e1 := nin_K K P (vS K)
    rw [show n + (m + 1) + 4 = (n + m + 4) + 1 from by omega, run_of (d := d_L1_depth) (h10.eq.trans rfl) rfl]
    by_cases hin : P ∈ K.map (·.1)
    · refine ⟨K, hK, hin, ?_⟩
      obtain ⟨e, he, rfl⟩ := List.mem_map.mp hin
      have e2 := look_K e.1 K e.2 hK.nd he
      rw [(hK.ok e he).1] at e2
      have e3 : index (.dct (kS K) (vS K)) (eL e.1) = some (nI (td w e.1)) := by
        show (if okKey (kS K) (eL e.1) then look (kS K) (vS K) (eL e.1) else none) = _
        rw [if_pos (okKey_K K e.1), e2]
      simp [d_L1_depth, e1, hin, e3]
    · -- what the ends share
      have fin : ∀ (K1 : List (List Nat × Nat)) (x3 x4 x5 x6 x7 : Slot), KV w K1 → ∃ K', KV w K' ∧ P ∈ K'.map (·.1) ∧ stI 2 (nI (td w P)) (eL P) [some (eW w, true), some (eL P, true), some (.dct (kS K1) (vS K1), true), x3, x4, x5, x6, x7] = .ok .nx [some (eW w, true), some (eL P, true), some (.dct (kS K') (vS K'), true), x3, x4, x5, x6, x7] ∧ index (.dct (kS K') (vS K')) (eL P) = some (nI (td w P)) := by
        intro K1 x3 x4 x5 x6 x7 h1
        have hk := okKey_K K1 P
        have hlen : (kS K1).length < line := by
          have := h1.len
          unfold kS line; simp; omega
        by_cases c : P ∈ K1.map (·.1)
        · have hv : ∀ e ∈ K1, e.1 = P → e.2 = td w P := fun e he hp => by rw [(h1.ok e he).1, hp]
          obtain ⟨e, he, hp⟩ := List.mem_map.mp c
          refine ⟨K1, h1, c, ?_, ?_⟩
          · have hp := put_same P (td w P) K1 c hv
            simp [stI, hk, hlen, hp]
          · show (if okKey _ (eL P) then look _ _ (eL P) else none) = _
            rw [if_pos (okKey_K _ P)]
            exact look_K P _ _ h1.nd (by rw [← hv e he hp, ← hp]; exact he)
        · refine ⟨K1 ++ [(P, td w P)], h1.put hs h8 c, by simp, ?_, ?_⟩
          · have hp := put_K P (td w P) K1 c
            simp [stI, hk, hlen, hp]
          · show (if okKey _ (eL P) then look _ _ (eL P) else none) = _
            rw [if_pos (okKey_K _ P)]
            exact look_K P _ _ (h1.put hs h8 c).nd (by simp)
      by_cases hP : P = []
      · subst hP
        have h0 : td w [] = 0 := by rw [td_eq w hs]; simp
        obtain ⟨K', hK', hi, e3, e4⟩ := fin K none none none none none hK
        rw [h0] at e3 e4
        refine ⟨K', hK', hi, ?_⟩
        have e3' : stI 2 (.int 0) (eL []) _ = _ := e3
        have e4' : index _ (eL []) = some (.int 0) := e4
        simp [d_L1_depth, e0, e1, hin, e3', e4', h0]
      · have hpi := run_L1pieces (T := T) (n + m + 2) w hw P hs hl
        have hps : (pcs w P).length ≤ line := by
          have := nodup_sub (pcs w P) (subs P) (pcs_sor w P).nodup fun x hx => mem_subs _ _ (pcs_subs hs hx).1 hs (pcs_subs hs hx).2.1
          rw [subs_len] at this
          have : (2 : Nat) ^ P.length ≤ 2 ^ 8 := Nat.pow_le_pow_right (by decide) hl
          unfold line; omega
        by_cases hc : 1 < (pcs w P).length
        · obtain ⟨ys, r', e, K1, acc, x6, hr, hK1, hys, ha⟩ := comp_rh (T := T) (P := run T (n + m + 4)) (elt := .call 110 [.var 0, .var 6, .var 2]) (t := .nm 6) (cs := []) (own := [6]) (enc := eL) (L := pcs w P) (j := 3) (v := .lst ((pcs w P).map eL))
            (r1 := [some (eW w, true), some (eL P, true), some (.dct (kS K) (vS K), true), none, none, none, none, none])
            (fun pre acc r => ∃ K1 a2 x6, r = [some (eW w, true), some (eL P, true), some (.dct (kS K1) (vS K1), true), none, none, none, x6, none] ∧ KV w K1 ∧ acc = a2.map nI ∧ a2 = pre.map (td w))
            ⟨K, [], none, by simp [wipeS], hK, rfl, rfl⟩
            (fun pre x post acc r hsp ⟨K1, a2, x6, hr, hK1, hacc, ha2⟩ => by
              subst hr
              have hx : x ∈ pcs w P := by rw [hsp]; simp
              have hxs := pcs_subs hs hx
              have hxl := pcs_len hs hc hx
              obtain ⟨K2, hK2, _, e2⟩ := ih n x K1 (by omega) hxs.1 (fun y hy => h8 y (hxs.2.1 y hy)) hK1
              refine ⟨some (nI (td w x)), _, ?_, K2, a2 ++ [td w x], some (eL x, true), rfl, hK2, by rw [hacc]; simp, by rw [ha2]; simp⟩
              simp [turC, wipeS, e2])
            (fun r' acc ⟨K1, a2, x6, hr, _⟩ => by subst hr; simp [backS])
          subst hr
          have hmx : maxL ((pcs w P).map (td w)) = td w P := by rw [td_eq w hs, if_neg hP, if_pos hc]
          obtain ⟨K', hK', hi, e3, e4⟩ := fin K1 (some (.lst ((pcs w P).map eL), true)) none none none none hK1
          refine ⟨K', hK', hi, ?_⟩
          have hne : acc ≠ [] := by rw [ha]; intro z; rw [List.map_eq_nil_iff] at z; rw [z] at hc; simp at hc
          have mx := b1_maxN acc hne
          rw [ha, hmx] at mx
          rw [hys, ha] at e
          have hsl : seqOf true (.lst ((pcs w P).map eL)) (.al 3) [some (eW w, true), some (eL P, true), some (.dct (kS K) (vS K), true), some (.lst ((pcs w P).map eL), true), none, none, none, none] [] = some ((pcs w P).map eL, [some (eW w, true), some (eL P, true), some (.dct (kS K) (vS K), true), none, none, none, none, none], [(3, .lst ((pcs w P).map eL))]) := by
            rw [seqLh _ _ _ _ (by simp)]; simp
          have hc' : (1 : Int) < (pcs w P).length := by omega
          simp [backS] at e
          simp at mx
          simp [d_L1_depth, e0, hP, e1, hin, hpi, hc', hsl, hps, e, mx, e3, e4]
        · -- one piece
          have hc1 : compEv T (run T (n + m + 4)) (.bin .add (.sl (.var 1) (.const .non) (.neg (.neg (.var 5)))) (.sl (.var 1) (.neg (.neg (.bin .add (.var 5) (.const (.int 1))))) (.const .non))) (.nm 5) [] [5] ((List.range P.length).map nI) [] [some (eW w, true), some (eL P, true), some (.dct (kS K) (vS K), true), some (.lst ((pcs w P).map eL), true), none, none, none, none] =
              .ok (.lst ((P.map fun p => withoutL P p).map eL), .own) [some (eW w, true), some (eL P, true), some (.dct (kS K) (vS K), true), some (.lst ((pcs w P).map eL), true), none, none, none, none] := by
            rw [comp_p (fun i : Nat => some (eL (P.take i ++ P.drop (i + 1)))) fun i hi => ⟨[some (eW w, true), some (eL P, true), some (.dct (kS K) (vS K), true), some (.lst ((pcs w P).map eL), true), none, some (nI i, true), none, none], ?_, by simp [wipeS]⟩]
            · rw [fm_some]
              congr 3
              apply List.ext_getElem
              · simp
              · intro i h1 h2
                simp at h1 ⊢
                rw [take_drop_without P i h1 hs.nodup]
            · have hi := List.mem_range.mp hi
              have s1 := slice_to P i (by omega) (by omega)
              have s2 := slice_from P (i + 1) (by omega) (by omega)
              have o1 : (optI (.int (i : Int))).isSome = true := by rw [optI_N (by omega)]; rfl
              have c1 : ((i : Int) + 1) = ((i + 1 : Nat) : Int) := by omega
              have o2 : (optI (.int ((i + 1 : Nat) : Int))).isSome = true := by rw [optI_N (by omega)]; rfl
              have o3 : (optI .non).isSome = true := rfl
              have a1 : binop .add (eL (P.take i)) (eL (P.drop (i + 1))) = some (eL (P.take i ++ P.drop (i + 1))) := by
                unfold eL
                rw [bo_addT _ _ (by simp; unfold line; omega), List.map_append]
              simp [turC, wipeS, c1, -Int.natCast_add, o1, o2, o3, s1, s2, a1]
          obtain ⟨ys, r', e, K1, acc, x7, hr, hK1, hys, ha⟩ := comp_rh (T := T) (P := run T (n + m + 4)) (elt := .call 110 [.var 0, .var 7, .var 2]) (t := .nm 7) (cs := []) (own := [7]) (enc := eL) (L := P.map fun p => withoutL P p) (j := 4) (v := .lst ((P.map fun p => withoutL P p).map eL))
            (r1 := [some (eW w, true), some (eL P, true), some (.dct (kS K) (vS K), true), some (.lst ((pcs w P).map eL), true), none, none, none, none])
            (fun pre acc r => ∃ K1 a2 x7, r = [some (eW w, true), some (eL P, true), some (.dct (kS K1) (vS K1), true), some (.lst ((pcs w P).map eL), true), none, none, none, x7] ∧ KV w K1 ∧ acc = a2.map nI ∧ a2 = pre.map (td w))
            ⟨K, [], none, by simp [wipeS], hK, rfl, rfl⟩
            (fun pre x post acc r hsp ⟨K1, a2, x7, hr, hK1, hacc, ha2⟩ => by
              subst hr
              have hx : x ∈ P.map fun p => withoutL P p := by rw [hsp]; simp
              obtain ⟨p, hp, rfl⟩ := List.mem_map.mp hx
              have hxl := without_len hp
              obtain ⟨K2, hK2, _, e2⟩ := ih n (withoutL P p) K1 (by omega) (without_sor hs p) (fun y hy => h8 y (mem_without.mp hy).1) hK1
              refine ⟨some (nI (td w (withoutL P p))), _, ?_, K2, a2 ++ [td w (withoutL P p)], some (eL (withoutL P p), true), rfl, hK2, by rw [hacc]; simp, by rw [ha2]; simp⟩
              simp [turC, wipeS, e2])
            (fun r' acc ⟨K1, a2, x7, hr, _⟩ => by subst hr; simp [backS])
          subst hr
          have hmx : 1 + minL ((P.map fun p => withoutL P p).map (td w)) = td w P := by
            rw [td_eq w hs, if_neg hP, if_neg hc, List.map_map]; rfl
          obtain ⟨K', hK', hi, e3, e4⟩ := fin K1 (some (.lst ((pcs w P).map eL), true)) (some (.lst ((P.map fun p => withoutL P p).map eL), true)) none none none hK1
          refine ⟨K', hK', hi, ?_⟩
          have hne : acc ≠ [] := by rw [ha]; intro z; rw [List.map_eq_nil_iff, List.map_eq_nil_iff] at z; exact hP z
          have mx := b1_minN acc hne
          rw [ha] at mx
          rw [hys, ha] at e
          generalize hR : (P.map fun p => withoutL P p) = Rs at *
          have hRl : Rs.length ≤ line := by rw [← hR]; simpa using hll
          have hc' : ¬ (1 : Int) < (pcs w P).length := by omega
          have hmi : (1 : Int) + (minL (Rs.map (td w)) : Nat) = ((td w P : Nat) : Int) := by rw [← hmx]; omega
          have hsl : seqOf true (.lst (Rs.map eL)) (.al 4) [some (eW w, true), some (eL P, true), some (.dct (kS K) (vS K), true), some (.lst ((pcs w P).map eL), true), some (.lst (Rs.map eL), true), none, none, none] [] = some (Rs.map eL, [some (eW w, true), some (eL P, true), some (.dct (kS K) (vS K), true), some (.lst ((pcs w P).map eL), true), none, none, none, none], [(4, .lst (Rs.map eL))]) := by
            rw [seqLh _ _ _ _ (by simp)]; simp
          have lenP : b1op .len (eL P) = some (.int (P.length : Int)) := by unfold eL; simp
          have ro := rngOk_0 (b := P.length) (by omega)
          simp [backS] at e
          simp at mx
          simp [d_L1_depth, e0, hP, e1, hin, hpi, hc', lenP, ro, rngL0, hll, hc1, hsl, hRl, e, mx, hmi, e3, e4]
end PQ

set_option linter.all false
set_option maxRecDepth 100000
namespace PQ
open PL
open PV
/-! ## what are no places -/
def oddPs (w : W) : List PV := [.non, .lst [.int 0], .tup [.int 0, .int 0], .tup [nI w.many], .tup [.int (-1)], .tup [.bl true], .tup [.int 1, .int 0], .tup [.str [48]], .tup [.non], .int 0]
theorem run_are_tup {T : Tab} [HasF T 0] [HasF T 4] (n : Nat) (w : W) (l : List PV) (hl : l.length ≤ 8) (hm : ∀ v ∈ l, v.isM = false ∧ tyOk v = true) (hf : (l.all fun v => isWhole v 0 ((w.many : Int) - 1)) = false) : run T (n + 2) 4 [(eW w, true), (.tup l, true)] = .ok (.bl false) true [(eW w, true), (.tup l, true)] := by
  rw [run_has (d := d_are_places) rfl rfl]
  have hll : l.length ≤ line := by unfold line; omega
  have hc : compEv T (run T (n + 1)) (.call 0 [.var 2, .const (.int 0), .bin .sub (.ix (.var 0) (.const (.int 0))) (.const (.int 1))]) (.nm 2) [] [2] (l.map id) [] [some (eW w, true), some (.tup l, true), none] =
      .ok (.lst (l.map fun v => PV.bl (isWhole v 0 ((w.many : Int) - 1))), .own) [some (eW w, true), some (.tup l, true), none] := by
    rw [comp_p (fun v : PV => some (PV.bl (isWhole v 0 ((w.many : Int) - 1)))) fun v hv => ⟨[some (eW w, true), some (.tup l, true), some (v, true)], ?_, by simp [wipeS]⟩]
    · rw [fm_some]
    · have e := run_is_whole (T := T) n v 0 ((w.many : Int) - 1) (hm v hv).1 (hm v hv).2
      simp [turC, wipeS, e, (hm v hv).1]
  rw [List.map_id] at hc
  have hb := bools_map (fun v => isWhole v 0 ((w.many : Int) - 1)) l
  have ha : ((l.map fun v => isWhole v 0 ((w.many : Int) - 1)).all id) = false := by rw [List.all_map]; exact hf
  simp [d_are_places, hll, hc, hb, ha, -List.all_map]
theorem run_are_two {T : Tab} [HasF T 0] [HasF T 4] (n : Nat) (w : W) (a b : Nat) (hb : b ≤ a) (ha : a < 8) : run T (n + 2) 4 [(eW w, true), (.tup [nI a, nI b], true)] = .ok (.bl false) true [(eW w, true), (.tup [nI a, nI b], true)] := by
  by_cases hf : ([nI a, nI b].all fun v => isWhole v 0 ((w.many : Int) - 1)) = false
  · exact run_are_tup n w _ (by simp) (by simp) hf
  · rw [run_has (d := d_are_places) rfl rfl]
    have hll : 2 ≤ line := by decide
    have hf : ([nI a, nI b].all fun v => isWhole v 0 ((w.many : Int) - 1)) = true := by simpa using hf
    have hc : compEv T (run T (n + 1)) (.call 0 [.var 2, .const (.int 0), .bin .sub (.ix (.var 0) (.const (.int 0))) (.const (.int 1))]) (.nm 2) [] [2] ([nI a, nI b].map id) [] [some (eW w, true), some (.tup [nI a, nI b], true), none] =
        .ok (.lst ([nI a, nI b].map fun v => PV.bl (isWhole v 0 ((w.many : Int) - 1))), .own) [some (eW w, true), some (.tup [nI a, nI b], true), none] := by
      rw [comp_p (fun v : PV => some (PV.bl (isWhole v 0 ((w.many : Int) - 1)))) fun v hv => ⟨[some (eW w, true), some (.tup [nI a, nI b], true), some (v, true)], ?_, by simp [wipeS]⟩]
      · rw [fm_some]
      · have hm : v.isM = false ∧ tyOk v = true := by simp at hv; rcases hv with rfl | rfl <;> simp
        have e := run_is_whole (T := T) n v 0 ((w.many : Int) - 1) hm.1 hm.2
        simp [turC, wipeS, e, hm.1]
    rw [List.map_id] at hc
    have wa : isWhole (nI a) 0 ((w.many : Int) - 1) = true := List.all_eq_true.mp hf _ (by simp)
    have wb : isWhole (nI b) 0 ((w.many : Int) - 1) = true := List.all_eq_true.mp hf _ (by simp)
    have hb' : bools [.bl true, .bl true] = some [true, true] := rfl
    have s1 := sset_places (l := [a, b]) (by simp)
    have q1 := eq_places [a, b] (sset [a, b])
    have ne : ¬ [a, b] = sset [a, b] := fun e => by
      have h := sset_sor (E := encN) [a, b]
      rw [← e] at h
      unfold Sor at h
      simp at h
      have h3 : decide (a < b) = true := h
      simp at h3; omega
    rw [decide_eq_false ne] at q1
    simp only [List.map_cons, List.map_nil, wa, wb] at s1 q1 hc
    simp [d_are_places, hll, hc, hb', s1, q1]
theorem run_np {T : Tab} [HasF T 0] [HasF T 4] [HasF T 5] (n : Nat) (w : W) (v : PV) (h : v ∈ oddPs w) : run T (n + 3) 5 [(eW w, true), (v, flg v)] = .exc 3 [(eW w, true), (v, flg v)] := by
  rw [run_has (d := d_need_places) rfl rfl]
  have e : run T (n + 2) 4 [(eW w, true), (v, flg v)] = .ok (.bl false) true [(eW w, true), (v, flg v)] := by
    simp only [oddPs, List.mem_cons, List.not_mem_nil, or_false] at h
    rcases h with rfl | rfl | rfl | rfl | rfl | rfl | rfl | rfl | rfl | rfl
    · rw [run_has (d := d_are_places) rfl rfl]; simp [d_are_places, flg]
    · rw [run_has (d := d_are_places) rfl rfl]; simp [d_are_places, flg]
    · exact run_are_two n w 0 0 (by decide) (by decide)
    · exact run_are_tup n w _ (by simp) (by simp) (by simp [isWhole]; try omega)
    · exact run_are_tup n w _ (by simp) (by simp) (by simp [isWhole])
    · exact run_are_tup n w _ (by simp) (by simp) (by simp [isWhole])
    · exact run_are_two n w 1 0 (by decide) (by decide)
    · exact run_are_tup n w _ (by simp) (by simp) (by simp [isWhole])
    · exact run_are_tup n w _ (by simp) (by simp) (by simp [isWhole])
    · rw [run_has (d := d_are_places) rfl rfl]; simp [d_are_places, flg]
  have hv : v.isM = true → ∃ l, v = .lst l := (by simp [oddPs] : ∀ v ∈ oddPs w, v.isM = true → ∃ l, v = .lst l) v h
  by_cases hm : v.isM = true
  · obtain ⟨l, rfl⟩ := hv hm
    have : flg (.lst l) = false := rfl
    rw [this] at e ⊢
    simp [d_need_places, e]
  · have hm : v.isM = false := by simpa using hm
    have : flg v = true := by simp [flg, hm]
    rw [this] at e ⊢
    simp [d_need_places, e, hm]
end PQ

set_option linter.all false
set_option maxRecDepth 100000
namespace PQ
open PL
open PV
/-! ## more of pieces -/
theorem datsL (M : List (List Nat)) : dats (M.map eL) = true := dats_enc (E := encL) datL M
theorem depsL (M : List (List Nat)) : deps (M.map eL) ≤ 1 := deps_enc (E := encL) (k := 1) depL M
theorem eq_LL (A B : List (List Nat)) : binop .eq (.lst (A.map eL)) (.lst (B.map eL)) = some (.bl (decide (A = B))) ∧ binop .ne (.lst (A.map eL)) (.lst (B.map eL)) = some (.bl (!decide (A = B))) := by
  have e : peqs (A.map eL) (B.map eL) = decide (A = B) := by rw [Bool.eq_iff_iff]; exact (peqs_enc (E := encL) A B).trans (by simp)
  have ha := depsL A
  have hb := depsL B
  have h1 : deps (A.map eL) + 1 ≤ 8 := by omega
  have h2 : deps (B.map eL) + 1 ≤ 8 := by omega
  constructor <;> simp [binop, dat, datsL, dep, h1, h2, peq, e]
theorem ints_N : ∀ l : List Nat, «ints» (l.map nI) = some (l.map fun n : Nat => (n : Int))
  | [] => rfl
  | a :: l => by rw [List.map_cons, «ints», ints_N l]; rfl
theorem sum_cast : ∀ l : List Nat, (l.map fun n : Nat => (n : Int)).sum = ((l.sum : Nat) : Int)
  | [] => rfl
  | a :: l => by rw [List.map_cons, List.sum_cons, sum_cast l, List.sum_cons]; omega
theorem b1_sumN (l : List Nat) : b1op .sum (.lst (l.map nI)) = some (.int ((l.sum : Nat) : Int)) := by
  simp [b1op, ints_N, sum_cast]
theorem pcs_flat (w : W) {P : List Nat} (hP : Sor P) : ((pcs w P).map List.length).sum = P.length := by
  have hmem : ∀ x ∈ pcs w P, ∃ a ∈ P, cls w P a = x := fun x hx => mem_pcs.mp hx
  have nd : (pcs w P).flatten.Nodup := by
    refine nodup_flat _ (fun x hx => Sor.nodup (pcs_subs hP hx).1) ?_
    have h : (pcs w P).Pairwise fun x y => x ≠ y := (pcs_sor w P).nodup
    refine List.Pairwise.imp_of_mem (fun {x y} hx hy hxy b hbx hby => hxy ?_) h
    obtain ⟨a, ha, rfl⟩ := hmem x hx
    obtain ⟨c, hc, rfl⟩ := hmem y hy
    rw [cls_eq hP ha (mem_cls.mp hbx).2, cls_eq hP hc (mem_cls.mp hby).2]
  have h1 := nodup_sub (pcs w P).flatten P nd fun b hb => by
    obtain ⟨x, hx, hb⟩ := List.mem_flatten.mp hb
    exact (pcs_subs hP hx).2.1 b hb
  have h2 := nodup_sub P (pcs w P).flatten hP.nodup fun b hb => List.mem_flatten.mpr ⟨_, mem_pcs.mpr ⟨b, hb, rfl⟩, cls_self hb⟩
  rw [← List.length_flatten]; omega
theorem cls_in {w : W} {P : List Nat} {a b c : Nat} (ha : a ∈ P) (hb : b ∈ cls w P a) (h : Cn w P b c) : Cn w (cls w P a) b c := by
  induction h with
  | refl => exact .refl
  | @step d e h1 h2 h3 ih => exact ih.step h2 (mem_cls.mpr ⟨h3, (mem_cls.mp hb).2.trans (h1.step h2 h3)⟩)
theorem pcs_piece {w : W} {P x : List Nat} (hP : Sor P) (hx : x ∈ pcs w P) : pcs w x = [x] := by
  obtain ⟨a, ha, rfl⟩ := mem_pcs.mp hx
  have hs := cls_sor (w := w) hP a
  have one : ∀ b ∈ cls w P a, cls w (cls w P a) b = cls w P a := fun b hb =>
    Sor.ext (cls_sor hs b) hs fun c => by
      rw [mem_cls]
      refine ⟨fun z => z.1, fun hc => ⟨hc, cls_in ha hb ?_⟩⟩
      exact ((mem_cls.mp hb).2.sym ha).trans (mem_cls.mp hc).2
  refine Sor.ext (pcs_sor w _) (by simp [Sor]) fun y => ?_
  rw [mem_pcs, List.mem_singleton]
  constructor
  · rintro ⟨b, hb, rfl⟩; exact one b hb
  · rintro rfl; exact ⟨a, cls_self ha, one a (cls_self ha)⟩
theorem pcs_apart {w : W} {P x : List Nat} {b c : Nat} (hx : x ∈ pcs w P) (hb : b ∈ x) (hc : c ∈ P) (hn : c ∉ x) : ¬ adj w b c := fun h => by
  obtain ⟨a, ha, rfl⟩ := mem_pcs.mp hx
  exact hn (mem_cls.mpr ⟨hc, (mem_cls.mp hb).2.step h hc⟩)
theorem pcs_nil (w : W) : pcs w [] = [] := rfl
def enumL : Nat → List (List Nat) → List (Nat × List Nat)
  | _, [] => []
  | n, x :: l => (n, x) :: enumL (n + 1) l
def eE (t : Nat × List Nat) : PV := .tup [nI t.1, eL t.2]
theorem enumT_map : ∀ (n : Nat) (M : List (List Nat)), enumT n (M.map eL) = (enumL n M).map eE
  | _, [] => rfl
  | n, x :: M => by
    rw [List.map_cons, enumT, enumL, List.map_cons, enumT_map (n + 1) M]; rfl
theorem mem_enumL : ∀ (n : Nat) (M : List (List Nat)) (t : Nat × List Nat), t ∈ enumL n M → t.2 ∈ M
  | _, [], t, h => by simp [enumL] at h
  | n, x :: M, t, h => by
    rcases List.mem_cons.mp h with rfl | h
    · simp
    · exact List.mem_cons_of_mem _ (mem_enumL (n + 1) M t h)
/-- a list without its last item -/
theorem slice_init (l : List PV) (v : PV) (hl : l.length < 1000) : slice (.lst (l ++ [v])) .non (.int (-1)) = some (.lst l) := by
  have o1 : optI .non = some none := by simp [optI]
  have o2 : optI (.int (-1)) = some (some (-1)) := by
    have e : (2 : Int) ^ 62 = 4611686018427387904 := by decide
    rw [optI, e, if_pos ⟨by omega, by omega⟩]
  have c : clampI (-1) (l ++ [v]).length = l.length := by
    unfold clampI
    rw [if_pos (by omega), if_pos (by simp; omega)]
    simp; omega
  simp only [slice, o1, o2, Option.bind_some, cut, c]
  simp
end PQ

set_option linter.all false
set_option maxRecDepth 100000
namespace PQ
open PL
open PV
/-! ## first_ways, as far as the place itself -/
structure Fd (s : Nat) (ks : List Nat) (V : List (List Nat)) : Prop where
  hd : ∃ a b, ks = s :: a ∧ V = [s] :: b
  nd : ks.Nodup
  lt : ∀ x ∈ ks, x < 8
  ln : V.length = ks.length
  vl : ∀ v ∈ V, v.length ≤ ks.length
theorem Fd.big {s : Nat} {ks : List Nat} {V : List (List Nat)} (h : Fd s ks V) : ks.length ≤ 8 := nodup_len 8 ks h.nd h.lt
theorem Fd.put {s : Nat} {ks : List Nat} {V : List (List Nat)} (h : Fd s ks V) {y : Nat} (hy : y ∉ ks) (h8 : y < 8) {v : List Nat} (hv : v ∈ V) : Fd s (ks ++ [y]) (V ++ [v ++ [y]]) := by
  obtain ⟨a, b, e1, e2⟩ := h.hd
  refine ⟨⟨a ++ [y], b ++ [v ++ [y]], by rw [e1]; rfl, by rw [e2]; rfl⟩, ?_, fun x hx => ?_, by simp [h.ln], fun u hu => ?_⟩
  · refine List.nodup_append.mpr ⟨h.nd, by simp, fun x hx z hz => ?_⟩
    simp at hz; subst hz
    rintro rfl; exact hy hx
  · rcases List.mem_append.mp hx with hx | hx
    · exact h.lt x hx
    · rw [List.mem_singleton.mp hx]; exact h8
  · have := h.vl v hv
    rcases List.mem_append.mp hu with hu | hu
    · have := h.vl u hu
      simp; omega
    · rw [List.mem_singleton.mp hu]; simp; omega
theorem look_N (p : Nat) : ∀ (ks : List Nat) (V : List (List Nat)), V.length = ks.length → p ∈ ks → ∃ v ∈ V, look (ks.map nI) (V.map eL) (nI p) = some (eL v)
  | [], _, _, h => by simp at h
  | k :: ks, [], h, _ => by simp at h
  | k :: ks, v :: V, h, hp => by
    show ∃ u ∈ v :: V, (if peq (nI k) (nI p) then some (eL v) else look (ks.map nI) (V.map eL) (nI p)) = some (eL u)
    have e : peq (nI k) (nI p) = decide (k = p) := by rw [Bool.eq_iff_iff]; exact (encN.peq_ k p).trans (by simp)
    rw [e]
    by_cases c : k = p
    · exact ⟨v, by simp, by rw [if_pos (by simpa using c)]⟩
    · obtain ⟨u, hu, e2⟩ := look_N p ks V (by simpa using h) ((List.mem_cons.mp hp).resolve_left fun z => c z.symm)
      exact ⟨u, by simp [hu], by rw [if_neg (by simpa using c), e2]⟩
theorem insT_len (a : Nat) : ∀ l : List Nat, (insT a l).length = l.length + 1
  | [] => rfl
  | b :: l => by unfold insT; split <;> simp [insT_len a l]
theorem srtT_len : ∀ l : List Nat, (srtT l).length = l.length
  | [] => rfl
  | a :: l => by rw [srtT, insT_len, srtT_len l]; rfl
theorem ways_turn {T : Tab} {P : Fns} {w : W} {s here : Nat} (y : Nat) (ks later : List Nat) (V : List (List Nat)) (x3 x6 : Slot) (hF : Fd s ks V) (hh : here ∈ ks) (hr : later.length < line) :
    ∃ u ∈ V, turF T P (.nm 6) [.ife (.bin .nin (.var 6) (.var 2)) [.sti 2 (.var 6) (.bin .add (.ix (.var 2) (.var 5)) (.tupd [.var 6])), .exp (.app 4 (.var 6))] []] (nI y)
      [some (eW w, true), some (nI s, true), some (.dct (ks.map nI) (V.map eL), true), x3, some (.lst (later.map nI), true), some (nI here, true), x6] =
    if y ∉ ks then .ok .nx [some (eW w, true), some (nI s, true), some (.dct ((ks ++ [y]).map nI) ((V ++ [u ++ [y]]).map eL), true), x3, some (.lst ((later ++ [y]).map nI), true), some (nI here, true), some (nI y, true)]
    else .ok .nx [some (eW w, true), some (nI s, true), some (.dct (ks.map nI) (V.map eL), true), x3, some (.lst (later.map nI), true), some (nI here, true), some (nI y, true)] := by
  obtain ⟨u, hu, e⟩ := look_N here ks V hF.ln hh
  refine ⟨u, hu, ?_⟩
  have hb := hF.big
  have hul := hF.vl u hu
  by_cases h : y ∈ ks
  · simp [turF, h]
  · have hk := okKeyN ks here
    have hk2 := okKeyN ks y
    have ei : index (.dct (ks.map nI) (V.map eL)) (nI here) = some (eL u) := by
      show (if okKey _ _ then look _ _ _ else none) = _
      rw [if_pos hk, e]
    have ha : binop .add (eL u) (.tup [nI y]) = some (eL (u ++ [y])) := by
      unfold eL
      rw [bo_addT _ _ (by simp; unfold line; omega)]
      simp
    have hp := put_new ks (V.map eL) y (eL (u ++ [y])) (by simp [hF.ln]) h
    have hm : ks.length < line := by unfold line; omega
    rw [if_pos h]
    simp [turF, h, ei, ha, stI, hk2, hp, hm, isLst, modL, gApp, hr]
theorem run_first_ways {T : Tab} [HasF T 6] [HasF T 49] (n : Nat) (w : W) (hw : w.Ok) (s : Nat) (hs : s < w.many) :
    ∃ ks V, Fd s ks V ∧ run T (n + 2) 49 [(eW w, true), (nI s, true)] = .ok (.dct (ks.map nI) (V.map eL)) true [(eW w, true), (nI s, true)] := by
  have wl : w.ties.length ≤ line := by have := hw.len; unfold line; omega
  have h8 := hw.hi
  have hmany : ∀ {p q : Nat}, q ∈ besideL w p → q < 8 := fun {p q} h => by have := (adj_lt hw ((mem_beside hw).mp h)).2; omega
  obtain ⟨r', e, ks, V, x3, x4, x5, x6, rfl, hF⟩ := whl_r (T := T) (P := run T (n + 1)) (c := .bin .ne (.var 3) (.lstd []))
    (b := [.asg (.nm 4) (.lstd []), .fr (.nm 5) .seq (.var 3) (.const .non) [.fr (.nm 6) .seq (.b1 .sorted (.call 6 [.var 0, .var 5])) (.const .non) [.ife (.bin .nin (.var 6) (.var 2)) [.sti 2 (.var 6) (.bin .add (.ix (.var 2) (.var 5)) (.tupd [.var 6])), .exp (.app 4 (.var 6))] []] false] false, .asg (.nm 3) (.var 4)])
    (fun m r => ∃ ks V level f3 x4 x5 x6, r = [some (eW w, true), some (nI s, true), some (.dct (ks.map nI) (V.map eL), true), some (.lst (level.map nI), f3), x4, x5, x6] ∧ Fd s ks V ∧ (∀ x ∈ level, x ∈ ks) ∧ level.length ≤ 8 ∧ m = 8 - ks.length + (if level = [] then 0 else 1))
    (fun r => ∃ ks V x3 x4 x5 x6, r = [some (eW w, true), some (nI s, true), some (.dct (ks.map nI) (V.map eL), true), x3, x4, x5, x6] ∧ Fd s ks V)
    (fun m r ⟨ks, V, level, f3, x4, x5, x6, hr, hF, hL, hl8, hm⟩ => by
      subst hr
      have hne := lst_ne_nil level
      by_cases hl : level = []
      · subst hl
        rw [List.map_nil] at hne
        exact .inl ⟨[some (eW w, true), some (nI s, true), some (.dct (ks.map nI) (V.map eL), true), some (.lst [], f3), x4, x5, x6], by cases f3 <;> simp [hne], ks, V, _, _, _, _, rfl, hF⟩
      · right
        have hb := hF.big
        have hll : level.length ≤ line := by unfold line; omega
        obtain ⟨r', e, a1, a2, y5, y6, rfl, hF2⟩ := for_n (T := T) (P := run T (n + 1)) (t := .nm 5) (enc := nI) (L := level)
          (body := [.fr (.nm 6) .seq (.b1 .sorted (.call 6 [.var 0, .var 5])) (.const .non) [.ife (.bin .nin (.var 6) (.var 2)) [.sti 2 (.var 6) (.bin .add (.ix (.var 2) (.var 5)) (.tupd [.var 6])), .exp (.app 4 (.var 6))] []] false])
          (fun pre r => ∃ (a1 : List Nat) (a2 : List (List Nat)) (y5 y6 : Slot), r = [some (eW w, true), some (nI s, true), some (.dct ((ks ++ a1).map nI) ((V ++ a2).map eL), true), some (.lst (level.map nI), false), some (.lst (a1.map nI), true), y5, y6] ∧ Fd s (ks ++ a1) (V ++ a2))
          (fun pre here post r hsp ⟨a1, a2, y5, y6, hr, hF1⟩ => by
            subst hr
            have hh : here ∈ ks := hL here (by rw [hsp]; simp)
            have hbs := run_beside (T := T) n w here wl
            have hsl : (srtT (besideL w here)).length ≤ line := by
              have h1 := beside_len hw here
              have h2 := srtT_len (besideL w here)
              unfold line; omega
            obtain ⟨r', e, b1, b2, z6, rfl, hF3⟩ := for_n (T := T) (P := run T (n + 1)) (t := .nm 6) (enc := nI) (L := srtT (besideL w here))
              (body := [.ife (.bin .nin (.var 6) (.var 2)) [.sti 2 (.var 6) (.bin .add (.ix (.var 2) (.var 5)) (.tupd [.var 6])), .exp (.app 4 (.var 6))] []])
              (fun pre r => ∃ (b1 : List Nat) (b2 : List (List Nat)) (z6 : Slot), r = [some (eW w, true), some (nI s, true), some (.dct ((ks ++ b1).map nI) ((V ++ b2).map eL), true), some (.lst (level.map nI), false), some (.lst (b1.map nI), true), some (nI here, true), z6] ∧ Fd s (ks ++ b1) (V ++ b2))
              (fun pre2 y post2 r hsp2 ⟨b1, b2, z6, hr, hFb⟩ => by
                subst hr
                have hy8 : y < 8 := hmany (p := here) (mem_srtT.mp (by rw [hsp2]; simp))
                have hbb := hFb.big
                obtain ⟨u, hu, e⟩ := ways_turn (T := T) (P := run T (n + 1)) (w := w) (here := here) y (ks ++ b1) b1 (V ++ b2) (some (.lst (level.map nI), false)) z6 hFb (List.mem_append_left _ hh) (by simp at hbb; unfold line; omega)
                rw [e]
                by_cases c : y ∉ ks ++ b1
                · rw [if_pos c]
                  exact ⟨_, rfl, b1 ++ [y], b2 ++ [u ++ [y]], _, by rw [List.append_assoc, List.append_assoc], by rw [← List.append_assoc, ← List.append_assoc]; exact hFb.put c hy8 hu⟩
                · rw [if_neg c]
                  exact ⟨_, rfl, b1, b2, _, rfl, hFb⟩)
              (r := [some (eW w, true), some (nI s, true), some (.dct ((ks ++ a1).map nI) ((V ++ a2).map eL), true), some (.lst (level.map nI), false), some (.lst (a1.map nI), true), some (nI here, true), y6])
              ⟨a1, a2, y6, rfl, hF1⟩
            refine ⟨_, ?_, b1, b2, some (nI here, true), z6, rfl, hF3⟩
            simp [turF, hbs, hsl, e, -List.map_append])
          (r := [some (eW w, true), some (nI s, true), some (.dct (ks.map nI) (V.map eL), true), some (.lst (level.map nI), false), some (.lst [], true), x5, x6])
          ⟨[], [], x5, x6, by simp, by simpa using hF⟩
        have hb2 := hF2.big
        simp only [List.length_append] at hb2
        refine ⟨[some (eW w, true), some (nI s, true), some (.dct (ks.map nI) (V.map eL), true), some (.lst (level.map nI), f3), x4, x5, x6], [some (eW w, true), some (nI s, true), some (.dct ((ks ++ a1).map nI) ((V ++ a2).map eL), true), some (.lst (a1.map nI), false), some (.lst (a1.map nI), false), y5, y6], _, ?_, ?_, ⟨ks ++ a1, V ++ a2, a1, false, _, _, _, rfl, hF2, fun x hx => List.mem_append_right _ hx, by omega, rfl⟩, ?_⟩
        · cases f3 <;> simp [hne, hl]
        · have fz : frzS [some (eW w, true), some (nI s, true), some (.dct ((ks ++ a1).map nI) ((V ++ a2).map eL), true), some (.lst (level.map nI), false), some (.lst (a1.map nI), true), y5, y6] 4 = some [some (eW w, true), some (nI s, true), some (.dct ((ks ++ a1).map nI) ((V ++ a2).map eL), true), some (.lst (level.map nI), false), some (.lst (a1.map nI), false), y5, y6] := by
            rw [frzS_at _ 4 (a1.map nI) true (by simp)]; simp
          cases f3
          · simp [fz, hll, e, -List.map_append]
          · have sq : ∀ x4 x5 x6 : Slot, seqOf false (.lst (level.map nI)) (.al 3) [some (eW w, true), some (nI s, true), some (.dct (ks.map nI) (V.map eL), true), some (.lst (level.map nI), true), x4, x5, x6] [] = some (level.map nI, [some (eW w, true), some (nI s, true), some (.dct (ks.map nI) (V.map eL), true), some (.lst (level.map nI), false), x4, x5, x6], []) := fun x4 x5 x6 => by
              rw [seqLa, frzS_at _ 3 (level.map nI) true (by simp)]; simp
            simp [fz, sq, hll, e, -List.map_append]
        · rw [hm, if_neg hl]
          by_cases ca : a1 = []
          · rw [if_pos ca, ca]; simp
          · rw [if_neg ca]
            have := List.length_pos_iff.mpr ca
            simp; omega) 5000 8 [some (eW w, true), some (nI s, true), some (.dct [nI s] [eL [s]], true), some (.lst [nI s], true), none, none, none]
    ⟨[s], [[s]], [s], true, none, none, none, by simp, ⟨⟨[], [], rfl, rfl⟩, by simp, by simp; omega, rfl, by simp⟩, by simp, by simp, by simp⟩ (by decide)
  refine ⟨ks, V, hF, ?_⟩
  rw [run_has (d := d_first_ways) rfl rfl]
  have e' : whlEv T (run T (n + 1)) (.bin .ne (.var 3) (.lstd [])) [.asg (.nm 4) (.lstd []), .fr (.nm 5) .seq (.var 3) (.const .non) [.fr (.nm 6) .seq (.b1 .sorted (.call 6 [.var 0, .var 5])) (.const .non) [.ife (.bin .nin (.var 6) (.var 2)) [.sti 2 (.var 6) (.bin .add (.ix (.var 2) (.var 5)) (.tupd [.var 6])), .exp (.app 4 (.var 6))] []] false] false, .asg (.nm 3) (.var 4)] turns _ = _ := e
  have e0 : eL [s] = .tup [nI s] := rfl
  rw [e0] at e'
  simp [d_first_ways, isInt, e']
  first | rfl | simp [retV]
theorem run_least_self {T : Tab} [HasF T 0] [HasF T 1] [HasF T 2] [HasF T 3] [HasF T 41] [HasF T 6] [HasF T 49] [HasF T 50] (n : Nat) (w : W) (hw : w.Ok) (s : Nat) (hs : s < w.many) :
    run T (n + 5) 50 [(eW w, true), (nI s, true), (nI s, true)] = .ok (eL [s]) true [(eW w, true), (nI s, true), (nI s, true)] := by
  obtain ⟨ks, V, hF, e⟩ := run_first_ways (T := T) (n + 2) w hw s hs
  obtain ⟨a, b, e1, e2⟩ := hF.hd
  subst e1 e2
  have h1 := run_need_web (T := T) n w hw
  have h2 := run_need_place (T := T) (n + 2) w (nI s) (by simp) (by simp)
  rw [isWhole_nat, decide_eq_true hs] at h2
  have hk := okKeyN (s :: a) s
  have hl : look ((s :: a).map nI) (([s] :: b).map eL) (nI s) = some (eL [s]) := by
    have e : peq (nI s) (nI s) = true := by rw [Bool.eq_iff_iff]; exact (encN.peq_ s s).trans (by simp)
    show (if peq (nI s) (nI s) then some (eL [s]) else _) = _
    rw [if_pos e]
  have hg : binop .get (.dct ((s :: a).map nI) (([s] :: b).map eL)) (nI s) = some (eL [s]) := by
    show (if okKey _ _ then some ((look _ _ _).getD .non) else none) = _
    rw [if_pos hk, hl]; rfl
  have ht : tyM .get (.dct ((s :: a).map nI) (([s] :: b).map eL)) = true := rfl
  rw [run_has (d := d_least_way) rfl rfl]
  rw [if_pos rfl] at h2
  generalize (s :: a).map nI = KS at *
  generalize ([s] :: b).map eL = VS at *
  simp [d_least_way, h1, h2, e, hg, ht, okOp]
end PQ

set_option linter.all false
set_option maxRecDepth 100000
namespace PQ
open PL
open PV
/-! ## heights, told by cuts and splits: plain mathematics -/
inductive Ht (R : Nat → Nat → Prop) : (Nat → Prop) → Nat → Prop
  | nil {P : Nat → Prop} {n : Nat} : (∀ x, ¬ P x) → Ht R P n
  | cut {P : Nat → Prop} {n : Nat} (p : Nat) : P p → Ht R (fun x => P x ∧ x ≠ p) n → Ht R P (n + 1)
  | split {P : Nat → Prop} {n : Nat} (A : Nat → Prop) : (∀ x y, P x → P y → A x → ¬ A y → ¬ R x y) → Ht R (fun x => P x ∧ A x) n → Ht R (fun x => P x ∧ ¬ A x) n → Ht R P n
/-- what branch sets must be -/
structure Br (R R' : Nat → Nat → Prop) (P Q : Nat → Prop) (B : Nat → Nat → Prop) : Prop where
  ne : ∀ y, Q y → ∃ x, B y x
  sub : ∀ y x, Q y → B y x → P x
  dis : ∀ x y z, Q y → Q z → B y x → B z x → y = z
  cn : ∀ y, Q y → ∀ (A : Nat → Prop) x z, B y x → B y z → A x → ¬ A z → ∃ u v, B y u ∧ B y v ∧ R u v ∧ A u ∧ ¬ A v
  ed : ∀ y z, Q y → Q z → y ≠ z → R' y z → ∃ u v, B y u ∧ B z v ∧ R u v
theorem Ht.minor {R R' : Nat → Nat → Prop} {B : Nat → Nat → Prop} {P : Nat → Prop} {n : Nat} (h : Ht R P n) : ∀ {Q : Nat → Prop} {m : Nat}, n ≤ m → Br R R' P Q B → Ht R' Q m := by
  induction h with
  | nil h => exact fun {Q m} hm b => .nil fun y hy => by obtain ⟨x, hx⟩ := b.ne y hy; exact h x (b.sub y x hy hx)
  | @cut P n p hp h ih =>
    intro Q m hm b
    by_cases c : ∃ y, Q y ∧ B y p
    · obtain ⟨y, hy, hb⟩ := c
      obtain ⟨m, rfl⟩ : ∃ k, m = k + 1 := ⟨m - 1, by omega⟩
      refine .cut y hy (ih (by omega) ⟨fun z hz => b.ne z hz.1, fun z x hz hx => ⟨b.sub z x hz.1 hx, fun e => ?_⟩, fun x u v hu hv => b.dis x u v hu.1 hv.1, fun z hz => b.cn z hz.1, fun u v hu hv => b.ed u v hu.1 hv.1⟩)
      subst e
      exact hz.2 (b.dis _ _ _ hz.1 hy hx hb)
    · exact ih (by omega) ⟨b.ne, fun z x hz hx => ⟨b.sub z x hz hx, fun e => c ⟨z, hz, e ▸ hx⟩⟩, b.dis, b.cn, b.ed⟩
  | @split P n A hA h1 h2 ih1 ih2 =>
    intro Q m hm b
    have all : ∀ y, Q y → (∃ x, B y x ∧ A x) → ∀ z, B y z → A z := fun y hy ⟨x, hx, ha⟩ z hz => Classical.byContradiction fun hn => by
      obtain ⟨u, v, hu, hv, hr, hau, hav⟩ := b.cn y hy A x z hx hz ha hn
      exact hA u v (b.sub y u hy hu) (b.sub y v hy hv) hau hav hr
    refine .split (fun y => ∃ x, B y x ∧ A x) (fun y z hy hz ay az hr => ?_) (ih1 hm ⟨fun y hy => b.ne y hy.1, fun y x hy hx => ⟨b.sub y x hy.1 hx, all y hy.1 hy.2 x hx⟩, fun x y z hy hz => b.dis x y z hy.1 hz.1, fun y hy => b.cn y hy.1, fun y z hy hz => b.ed y z hy.1 hz.1⟩)
      (ih2 hm ⟨fun y hy => b.ne y hy.1, fun y x hy hx => ⟨b.sub y x hy.1 hx, fun ax => hy.2 ⟨x, hx, ax⟩⟩, fun x y z hy hz => b.dis x y z hy.1 hz.1, fun y hy => b.cn y hy.1, fun y z hy hz => b.ed y z hy.1 hz.1⟩)
    by_cases e : y = z
    · subst e; exact az ay
    · obtain ⟨u, v, hu, hv, huv⟩ := b.ed y z hy hz e hr
      exact hA u v (b.sub y u hy hu) (b.sub z v hz hv) (all y hy ay u hu) (fun av => az ⟨v, hv, av⟩) huv
/-- fewer places, fewer ties -/
theorem Ht.mono {R R' : Nat → Nat → Prop} {P Q : Nat → Prop} {n m : Nat} (h : Ht R P n) (hm : n ≤ m) (s : ∀ x, Q x → P x) (r : ∀ x y, Q x → Q y → R' x y → R x y) : Ht R' Q m :=
  h.minor (B := fun y x => y = x) hm ⟨fun y _ => ⟨y, rfl⟩, fun y x hy e => e ▸ s y hy, fun x y z _ _ e1 e2 => e1.trans e2.symm,
    fun y _ A x z e1 e2 a na => absurd (e2 ▸ e1 ▸ a) na, fun y z hy hz _ hr => ⟨y, z, rfl, rfl, r y z hy hz hr⟩⟩
/-- other names -/
theorem Ht.names {R R' : Nat → Nat → Prop} {P Q : Nat → Prop} {n : Nat} (f : Nat → Nat) (h : Ht R P n) (g : ∀ y, Q y → P (f y)) (inj : ∀ y z, Q y → Q z → f y = f z → y = z) (r : ∀ x y, Q x → Q y → R' x y → R (f x) (f y)) : Ht R' Q n :=
  h.minor (B := fun y x => x = f y) (Nat.le_refl n) ⟨fun y _ => ⟨_, rfl⟩, fun y x hy e => e ▸ g y hy, fun x y z hy hz e1 e2 => inj y z hy hz (e1.symm.trans e2),
    fun y _ A x z e1 e2 a na => absurd (e2 ▸ e1 ▸ a) na, fun y z hy hz _ hr => ⟨_, _, rfl, rfl, r y z hy hz hr⟩⟩
theorem Ht.pos {R : Nat → Nat → Prop} {P : Nat → Prop} {n : Nat} (h : Ht R P n) : ∀ x, P x → 1 ≤ n := by
  induction h with
  | nil h => exact fun x hx => absurd hx (h x)
  | cut p hp h ih => exact fun x hx => by omega
  | split A hA h1 h2 ih1 ih2 =>
    intro x hx
    by_cases c : A x
    · exact ih1 x ⟨hx, c⟩
    · exact ih2 x ⟨hx, c⟩
theorem Ht.one {R : Nat → Nat → Prop} {P : Nat → Prop} (p : Nat) (h : ∀ x, P x → x = p) {n : Nat} (hn : 1 ≤ n) : Ht R P n := by
  obtain ⟨n, rfl⟩ : ∃ k, n = k + 1 := ⟨n - 1, by omega⟩
  by_cases c : P p
  · exact .cut p c (.nil fun x hx => hx.2 (h x hx.1))
  · exact .nil fun x hx => c (h x hx ▸ hx)
theorem maxL_le {l : List Nat} {n : Nat} : maxL l ≤ n ↔ ∀ x ∈ l, x ≤ n := by
  have f : ∀ (l : List Nat) (a : Nat), l.foldl max a ≤ n ↔ a ≤ n ∧ ∀ x ∈ l, x ≤ n := by
    intro l
    induction l with
    | nil => intro a; simp
    | cons b l ih => intro a; rw [List.foldl_cons, ih]; simp [Nat.max_le, and_assoc]
  cases l with
  | nil => simp [maxL]
  | cons a l =>
    show l.foldl max a ≤ n ↔ _
    rw [f]; simp
theorem minL_le {l : List Nat} {x : Nat} (h : x ∈ l) : minL l ≤ x := by
  have f : ∀ (l : List Nat) (a : Nat), l.foldl min a ≤ a ∧ ∀ x ∈ l, l.foldl min a ≤ x := by
    intro l
    induction l with
    | nil => intro a; simp
    | cons b l ih =>
      intro a
      have := ih (min a b)
      rw [List.foldl_cons]
      refine ⟨by omega, fun x hx => ?_⟩
      rcases List.mem_cons.mp hx with rfl | hx
      · omega
      · exact this.2 x hx
  cases l with
  | nil => simp at h
  | cons a l =>
    show l.foldl min a ≤ x
    rcases List.mem_cons.mp h with rfl | h
    · exact (f l x).1
    · exact (f l a).2 x h
theorem minL_mem {l : List Nat} (h : l ≠ []) : minL l ∈ l := by
  have f : ∀ (l : List Nat) (a : Nat), l.foldl min a ∈ a :: l := by
    intro l
    induction l with
    | nil => intro a; simp
    | cons b l ih =>
      intro a
      have := ih (min a b)
      rw [List.foldl_cons]
      rcases List.mem_cons.mp this with e | e
      · rw [e]
        by_cases c : a ≤ b
        · simp [Nat.min_eq_left c]
        · simp [Nat.min_eq_right (Nat.le_of_not_le c)]
      · simp [e]
  cases l with
  | nil => exact absurd rfl h
  | cons a l => exact f l a
theorem one_piece {w : W} {P : List Nat} (hs : Sor P) (hc : ¬ 1 < (pcs w P).length) {a b : Nat} (ha : a ∈ P) (hb : b ∈ P) : Cn w P a b := by
  have h1 : cls w P a ∈ pcs w P := mem_pcs.mpr ⟨a, ha, rfl⟩
  have h2 : cls w P b ∈ pcs w P := mem_pcs.mpr ⟨b, hb, rfl⟩
  refine cls_inj hb ?_
  generalize pcs w P = M at *
  match M, h1, h2, hc with
  | [x], h1, h2, _ => exact (List.mem_singleton.mp h1).trans (List.mem_singleton.mp h2).symm
  | x :: y :: l, _, _, hc => exact absurd (by simp) hc
theorem Ht_td (w : W) : ∀ (n : Nat) (P : List Nat) (m : Nat), Sor P → P.length ≤ n → Ht (adj w) (· ∈ P) m → td w P ≤ m := by
  intro n
  induction n with
  | zero =>
    intro P m hs hl _
    have : P = [] := List.eq_nil_of_length_eq_zero (by omega)
    subst this
    rw [td_eq w hs]; simp
  | succ n ih =>
    intro P m hs hl h
    rw [td_eq w hs]
    by_cases e : P = []
    · rw [if_pos e]; omega
    · rw [if_neg e]
      by_cases c : 1 < (pcs w P).length
      · rw [if_pos c, maxL_le]
        intro t ht
        obtain ⟨x, hx, rfl⟩ := List.mem_map.mp ht
        have := pcs_len hs c hx
        have sx := pcs_subs hs hx
        exact ih x m sx.1 (by omega) (h.mono (Nat.le_refl _) sx.2.1 fun _ _ _ _ z => z)
      · rw [if_neg c]
        have key : ∀ (S : Nat → Prop) (m : Nat), Ht (adj w) S m → (∀ x, S x ↔ x ∈ P) → 1 + minL (P.map fun p => td w (withoutL P p)) ≤ m := by
          intro S m h
          induction h with
          | nil h => exact fun hS => absurd (List.eq_nil_iff_forall_not_mem.mpr fun x hx => h x ((hS x).mpr hx)) e
          | @cut S m p hp h ih2 =>
            intro hS
            have hpP := (hS p).mp hp
            have hlen := without_len hpP
            have h1 := ih (withoutL P p) m (without_sor hs p) (by omega) (h.mono (Nat.le_refl _) (fun x hx => by have := mem_without.mp hx; exact ⟨(hS x).mpr this.1, this.2⟩) fun _ _ _ _ z => z)
            have h2 := minL_le (List.mem_map.mpr ⟨p, hpP, rfl⟩ : td w (withoutL P p) ∈ P.map fun p => td w (withoutL P p))
            omega
          | @split S m A hA h1 h2 ih1 ih2 =>
            intro hS
            have cn : ∀ a b, Cn w P a b → a ∈ P → A a → A b := by
              intro a b hab ha hAa
              induction hab with
              | refl => exact hAa
              | step h3 h4 h5 ih3 => exact Classical.byContradiction fun hn => hA _ _ ((hS _).mpr (h3.mem ha)) ((hS _).mpr h5) ih3 hn h4
            by_cases ca : ∃ a ∈ P, A a
            · obtain ⟨a, ha, haA⟩ := ca
              exact ih1 fun x => ⟨fun z => (hS x).mp z.1, fun z => ⟨(hS x).mpr z, cn a x (one_piece hs c ha z) ha haA⟩⟩
            · exact ih2 fun x => ⟨fun z => (hS x).mp z.1, fun z => ⟨(hS x).mpr z, fun za => ca ⟨x, z, za⟩⟩⟩
        exact key _ m h fun x => Iff.rfl
theorem td_Ht (w : W) : ∀ (n : Nat) (P : List Nat), Sor P → P.length ≤ n → Ht (adj w) (· ∈ P) (td w P) := by
  intro n
  induction n with
  | zero =>
    intro P hs hl
    have : P = [] := List.eq_nil_of_length_eq_zero (by omega)
    subst this
    exact .nil (by simp)
  | succ n ih =>
    intro P hs hl
    by_cases e : P = []
    · subst e; exact .nil (by simp)
    · have heq := td_eq w hs
      rw [if_neg e] at heq
      by_cases c : 1 < (pcs w P).length
      · rw [if_pos c] at heq
        have hle : ∀ x ∈ pcs w P, td w x ≤ td w P := fun x hx => by
          rw [heq]; exact (maxL_le.mp (Nat.le_refl _)) _ (List.mem_map.mpr ⟨x, hx, rfl⟩)
        have all : ∀ L : List (List Nat), (∀ x ∈ L, x ∈ pcs w P) → Ht (adj w) (fun y => ∃ x ∈ L, y ∈ x) (td w P) := by
          intro L
          induction L with
          | nil => intro _; exact .nil (by simp)
          | cons x L ihL =>
            intro hL
            have hx := hL x (by simp)
            have sx := pcs_subs hs hx
            refine .split (· ∈ x) (fun u v hu hv au av => ?_) ?_ ?_
            · obtain ⟨y, hy, hv⟩ := hv
              exact pcs_apart hx au ((pcs_subs hs (hL y hy)).2.1 v hv) av
            · have := pcs_len hs c hx
              exact (ih x sx.1 (by omega)).mono (hle x hx) (fun y hy => hy.2) fun _ _ _ _ z => z
            · refine (ihL fun y hy => hL y (by simp [hy])).mono (Nat.le_refl _) (fun y hy => ?_) fun _ _ _ _ z => z
              obtain ⟨⟨z, hz, hyz⟩, hn⟩ := hy
              rcases List.mem_cons.mp hz with rfl | hz
              · exact absurd hyz hn
              · exact ⟨z, hz, hyz⟩
        exact (all (pcs w P) fun x hx => hx).mono (Nat.le_refl _) (fun y hy => ⟨_, mem_pcs.mpr ⟨y, hy, rfl⟩, cls_self hy⟩) fun _ _ _ _ z => z
      · rw [if_neg c] at heq
        have hm := minL_mem (l := P.map fun p => td w (withoutL P p)) (by simpa using e)
        obtain ⟨p, hp, hpe⟩ := List.mem_map.mp hm
        have hlen := without_len hp
        rw [heq, ← hpe, Nat.add_comm]
        exact .cut p hp ((ih (withoutL P p) (without_sor hs p) (by omega)).mono (Nat.le_refl _) (fun y hy => mem_without.mpr hy) fun _ _ _ _ z => z)
theorem td_le (w : W) {P : List Nat} (hs : Sor P) {n : Nat} : td w P ≤ n ↔ Ht (adj w) (· ∈ P) n :=
  ⟨fun h => (td_Ht w P.length P hs (Nat.le_refl _)).mono h (fun _ z => z) fun _ _ _ _ z => z, Ht_td w P.length P n hs (Nat.le_refl _)⟩
end PQ

set_option linter.all false
set_option maxRecDepth 100000
namespace PQ
open PL
open PV
/-! ## drawn_together -/
def nmD (a b x : Nat) : Nat := lowN (if x = b then a else x) b
def drawF (a b : Nat) (t : Nat × Nat) : Option (Nat × Nat) := if nmD a b t.1 = nmD a b t.2 then none else some (tieOf (nmD a b t.1) (nmD a b t.2))
def W.draw (w : W) (a b : Nat) : W := ⟨w.many - 1, sset (w.ties.filterMap (drawF a b))⟩
def trP (D : List (Nat × Nat)) : List PV := D.map fun _ => .bl true
theorem peqPP (a b : Nat × Nat) : peq (eP a) (eP b) = decide (a = b) := by rw [Bool.eq_iff_iff]; exact (encP.peq_ a b).trans (by simp)
theorem put_P (x : Nat × Nat) : ∀ D : List (Nat × Nat), put (D.map eP) (trP D) (eP x) (.bl true) = if x ∈ D then (D.map eP, trP D) else ((D ++ [x]).map eP, trP (D ++ [x]))
  | [] => by simp [put, trP]
  | d :: D => by
    have ih := put_P x D
    have e : trP (d :: D) = .bl true :: trP D := rfl
    rw [List.map_cons, e, put, peqPP]
    by_cases c : d = x
    · subst c; simp
    · have c' : ¬ x = d := fun e => c e.symm
      rw [ih]
      by_cases h : x ∈ D
      · simp [c, c', h]
      · simp [c, c', h, trP]
theorem okKey_P (D : List (Nat × Nat)) (x : Nat × Nat) : okKey (D.map eP) (eP x) = true := by
  have h1 : (D.map eP).all isTup = true := by
    rw [List.all_eq_true]; intro y hy
    obtain ⟨e, _, rfl⟩ := List.mem_map.mp hy
    rfl
  unfold eP at h1 ⊢
  simp [okKey, keyTs, keyT, h1, deps, dep]
theorem run_drawn_together {T : Tab} [HasF T 0] [HasF T 1] [HasF T 2] [HasF T 3] [HasF T 41] [HasF T 42] [HasF T 45] [HasF T 48] (n : Nat) (w : W) (hw : w.Ok) (a b : Nat) (ha : a < w.many) (hb : b < w.many) (hab : a ≠ b) (ht : tieOf a b ∈ w.ties) :
    run T (n + 5) 48 [(eW w, true), (nI a, true), (nI b, true)] = .ok (eW (w.draw (min a b) (max a b))) true [(eW w, true), (nI a, true), (nI b, true)] := by
  rw [run_has (d := d_drawn_together) rfl rfl]
  have e1 := run_need_web (T := T) n w hw
  have e2 := run_tie_of (T := T) (n + 1) w a b ha hb
  rw [if_neg hab] at e2
  have hl : w.ties.length ≤ line := by have := hw.len; unfold line; omega
  have hin := nin_TP (tieOf a b) w.ties
  rw [decide_eq_true ht] at hin
  generalize hp : min a b = p at *
  generalize hq : max a b = q at *
  have ht2 : tieOf a b = (p, q) := by rw [← hp, ← hq]; rfl
  try rw [ht2] at hin
  try rw [ht2] at e2
  have hpq : p < q := by omega
  have l2 : 2 ≤ line := by decide
  have ePQ : eP (p, q) = .tup [nI p, nI q] := rfl
  obtain ⟨r', e, D, x7, x8, x9, x10, x11, rfl, hD, hDm, _⟩ := for_n (T := T) (P := run T (n + 4)) (t := .tp [.nm 7, .nm 8]) (enc := eP) (L := w.ties)
    (body := [.asg (.tp [.nm 9, .nm 10]) (.comp (.call 45 [.ife (.bin .eq (.var 11) (.var 6)) (.var 5) (.var 11), .var 6]) (.nm 11) .seq (.tupd [.var 7, .var 8]) (.const .non) [] [11] false), .ife (.bin .ne (.var 9) (.var 10)) [.sti 4 (.tupd [.bin .mn (.var 9) (.var 10), .bin .mx (.var 9) (.var 10)]) (.const (.bl true))] []])
    (fun pre r => ∃ (D : List (Nat × Nat)) (x7 x8 x9 x10 x11 : Slot), r = [some (eW w, true), some (nI a, true), some (nI b, true), some (eP (p, q), true), some (.dct (D.map eP) (trP D), true), some (nI p, true), some (nI q, true), x7, x8, x9, x10, x11] ∧
      D.Nodup ∧ (∀ x, x ∈ D ↔ x ∈ pre.filterMap (drawF p q)) ∧ D.length ≤ pre.length)
    (fun pre t post r hsp ⟨D, x7, x8, x9, x10, x11, hr, hD, hDm, hDl⟩ => by
      subst hr
      have hpl : pre.length ≤ 28 := by
        have := congrArg List.length hsp
        have := hw.len
        simp at *; omega
      have hc : compEv T (run T (n + 4)) (.call 45 [.ife (.bin .eq (.var 11) (.var 6)) (.var 5) (.var 11), .var 6]) (.nm 11) [] [11] ([t.1, t.2].map nI) [] [some (eW w, true), some (nI a, true), some (nI b, true), some (eP (p, q), true), some (.dct (D.map eP) (trP D), true), some (nI p, true), some (nI q, true), some (nI t.1, true), some (nI t.2, true), x9, x10, x11] =
          .ok (.lst ([t.1, t.2].map fun x => nI (nmD p q x)), .own) [some (eW w, true), some (nI a, true), some (nI b, true), some (eP (p, q), true), some (.dct (D.map eP) (trP D), true), some (nI p, true), some (nI q, true), some (nI t.1, true), some (nI t.2, true), x9, x10, x11] := by
        rw [comp_p (fun x : Nat => some (nI (nmD p q x))) fun x hx => ⟨[some (eW w, true), some (nI a, true), some (nI b, true), some (eP (p, q), true), some (.dct (D.map eP) (trP D), true), some (nI p, true), some (nI q, true), some (nI t.1, true), some (nI t.2, true), x9, x10, some (nI x, true)], ?_, by simp [wipeS]⟩]
        · rw [fm_some]
        · by_cases c : x = q
          · subst c; simp [turC, wipeS, run_lowered, nmD]
          · have c' : ¬ (x : Int) = q := by omega
            simp [turC, wipeS, run_lowered, nmD, c, c']
      simp only [List.map_cons, List.map_nil, ePQ] at hc
      by_cases c : nmD p q t.1 = nmD p q t.2
      · refine ⟨[some (eW w, true), some (nI a, true), some (nI b, true), some (eP (p, q), true), some (.dct (D.map eP) (trP D), true), some (nI p, true), some (nI q, true), some (nI t.1, true), some (nI t.2, true), some (nI (nmD p q t.1), true), some (nI (nmD p q t.2), true), x11], ?_, D, _, _, _, _, _, rfl, hD, ?_, by simp; omega⟩
        · simp [turF, eP, l2, hc, c]
        · intro x; rw [hDm, List.filterMap_append]; simp [drawF, c]
      · have hk := okKey_P D (tieOf (nmD p q t.1) (nmD p q t.2))
        have hpt := put_P (tieOf (nmD p q t.1) (nmD p q t.2)) D
        have hm : D.length < line := by unfold line; omega
        have eT : eP (tieOf (nmD p q t.1) (nmD p q t.2)) = .tup [nI (min (nmD p q t.1) (nmD p q t.2)), nI (max (nmD p q t.1) (nmD p q t.2))] := rfl
        rw [eT] at hk hpt
        generalize hx : tieOf (nmD p q t.1) (nmD p q t.2) = x at *
        have hst : stI 4 (.bl true) (.tup [nI (min (nmD p q t.1) (nmD p q t.2)), nI (max (nmD p q t.1) (nmD p q t.2))]) [some (eW w, true), some (nI a, true), some (nI b, true), some (.tup [nI p, nI q], true), some (.dct (D.map eP) (trP D), true), some (nI p, true), some (nI q, true), some (nI t.1, true), some (nI t.2, true), some (nI (nmD p q t.1), true), some (nI (nmD p q t.2), true), x11] =
            .ok .nx [some (eW w, true), some (nI a, true), some (nI b, true), some (.tup [nI p, nI q], true), some (.dct ((if x ∈ D then D else D ++ [x]).map eP) (trP (if x ∈ D then D else D ++ [x])), true), some (nI p, true), some (nI q, true), some (nI t.1, true), some (nI t.2, true), some (nI (nmD p q t.1), true), some (nI (nmD p q t.2), true), x11] := by
          by_cases hxD : x ∈ D
          · rw [if_pos hxD] at hpt; rw [if_pos hxD]; simp [stI, hk, hm, hpt]
          · rw [if_neg hxD] at hpt; rw [if_neg hxD]; simp [stI, hk, hm, hpt]
        refine ⟨[some (eW w, true), some (nI a, true), some (nI b, true), some (eP (p, q), true), some (.dct ((if x ∈ D then D else D ++ [x]).map eP) (trP (if x ∈ D then D else D ++ [x])), true), some (nI p, true), some (nI q, true), some (nI t.1, true), some (nI t.2, true), some (nI (nmD p q t.1), true), some (nI (nmD p q t.2), true), x11], ?_, _, _, _, _, _, _, rfl, ?_, ?_, ?_⟩
        · have c' : ¬ (nmD p q t.1 : Int) = nmD p q t.2 := by omega
          simp [turF, eP, l2, hc, c, c', hst]
        · split
          · exact hD
          · rename_i h
            refine List.nodup_append.mpr ⟨hD, by simp, fun y hy z hz => ?_⟩
            simp at hz; subst hz
            rintro rfl; exact h hy
        · intro y
          rw [List.filterMap_append]
          have hf : drawF p q t = some x := by unfold drawF; rw [if_neg c, hx]
          rw [List.filterMap_cons, hf, List.mem_append, ← hDm]
          split
          · rename_i h
            constructor
            · exact .inl
            · rintro (z | z)
              · exact z
              · simp at z; exact z ▸ h
          · simp
        · split <;> simp <;> omega)
    (r := [some (eW w, true), some (nI a, true), some (nI b, true), some (eP (p, q), true), some (.dct [] [], true), some (nI p, true), some (nI q, true), none, none, none, none, none])
    ⟨[], none, none, none, none, none, rfl, by simp, by simp, by simp⟩
  have hs : srtT D = sset (w.ties.filterMap (drawF p q)) := Sor.ext (srtT_sor hD) (sset_sor _) fun x => by rw [mem_srtT, mem_sset, hDm]
  have c1 : ((w.many - 1 : Nat) : Int) = (w.many : Int) - 1 := by have := hw.lo; omega
  rw [ePQ] at e hin e2
  simp [d_drawn_together, e1, e2, hin, hl, e, hs]
  simp [eW, W.draw, c1]
end PQ

set_option linter.all false
set_option maxRecDepth 100000
namespace PQ
open PL
open PV
/-! ## what changes do to heights -/
theorem td_sub {w w' : W} {P Q : List Nat} (hP : Sor P) (hQ : Sor Q) (s : ∀ x ∈ Q, x ∈ P) (r : ∀ x y, x ∈ Q → y ∈ Q → adj w' x y → adj w x y) : td w' Q ≤ td w P :=
  (td_le w' hQ).mpr (((td_le w hP).mp (Nat.le_refl _)).mono (Nat.le_refl _) s r)
theorem td_without {w : W} {P : List Nat} (hP : Sor P) (p : Nat) : td w (withoutL P p) ≤ td w P ∧ td w P ≤ td w (withoutL P p) + 1 := by
  refine ⟨td_sub hP (without_sor hP p) (fun x hx => (mem_without.mp hx).1) fun _ _ _ _ z => z, ?_⟩
  by_cases h : p ∈ P
  · exact (td_le w hP).mpr (.cut p h (((td_le w (without_sor hP p)).mp (Nat.le_refl _)).mono (Nat.le_refl _) (fun y hy => mem_without.mpr hy) fun _ _ _ _ z => z))
  · have : withoutL P p = P := Sor.ext (without_sor hP p) hP fun x => by rw [mem_without]; exact ⟨fun z => z.1, fun z => ⟨z, fun e => h (e ▸ z)⟩⟩
    rw [this]; omega
theorem td_len (w : W) : ∀ (n : Nat) (P : List Nat), Sor P → P.length ≤ n → td w P ≤ n := by
  intro n
  induction n with
  | zero =>
    intro P hP hl
    have : P = [] := List.eq_nil_of_length_eq_zero (by omega)
    subst this
    exact (td_le w hP).mpr (.nil (by simp))
  | succ n ih =>
    intro P hP hl
    cases P with
    | nil => exact (td_le w hP).mpr (.nil (by simp))
    | cons a P =>
      have h1 := (td_without (w := w) hP a).2
      have h2 := without_len (P := a :: P) (p := a) (by simp)
      have h3 := ih (withoutL (a :: P) a) (without_sor hP a) (by omega)
      omega
theorem td_pos {w : W} {P : List Nat} (hP : Sor P) {p : Nat} (hp : p ∈ P) : 1 ≤ td w P := ((td_le w hP).mp (Nat.le_refl _)).pos p hp
theorem lh_le_many (w : W) : lh w ≤ w.many := td_len w _ _ (range_sor _) (by simp)
/-- a place more -/
theorem lh_grow {w : W} (hw : w.Ok) : lh w.grow = lh w := by
  apply Nat.le_antisymm
  · refine (td_le w.grow (range_sor _)).mpr (.split (fun x => x < w.many) (fun x y _ _ hx hy h => ?_) ?_ ?_)
    · exact hy (adj_lt hw h).2
    · exact ((td_le w (range_sor _)).mp (Nat.le_refl _)).mono (Nat.le_refl _) (fun x hx => List.mem_range.mpr hx.2) fun _ _ _ _ z => z
    · refine .one w.many (fun x hx => ?_) (td_pos (range_sor _) (List.mem_range.mpr (by have := hw.lo; omega) : 0 ∈ List.range w.many))
      have h1 := List.mem_range.mp hx.1
      have : w.grow.many = w.many + 1 := rfl
      have := hx.2
      omega
  · exact td_sub (range_sor _) (range_sor _) (fun x hx => by have := List.mem_range.mp hx; exact List.mem_range.mpr (by show x < w.many + 1; omega)) fun _ _ _ _ z => z
/-- a tie less -/
theorem adj_less {w : W} {t : Nat × Nat} {x y : Nat} (h : adj (w.less t) x y) : adj w x y := by
  unfold adj W.less at *
  exact h.imp (fun z => (List.mem_filter.mp z).1) fun z => (List.mem_filter.mp z).1
theorem less_adj {w : W} {t : Nat × Nat} {x y : Nat} (h : adj w x y) (h1 : (x, y) ≠ t) (h2 : (y, x) ≠ t) : adj (w.less t) x y := by
  unfold adj W.less at *
  exact h.imp (fun z => List.mem_filter.mpr ⟨z, by simpa using h1⟩) fun z => List.mem_filter.mpr ⟨z, by simpa using h2⟩
theorem td_less (w : W) (t : Nat × Nat) {P : List Nat} (hP : Sor P) : td (w.less t) P ≤ td w P ∧ td w P ≤ td (w.less t) P + 1 := by
  refine ⟨td_sub hP hP (fun _ z => z) fun _ _ _ _ z => adj_less z, ?_⟩
  have h1 := (td_without (w := w) hP t.1).2
  have h2 : td w (withoutL P t.1) ≤ td (w.less t) P := td_sub hP (without_sor hP _) (fun x hx => (mem_without.mp hx).1) fun x y hx hy h =>
    less_adj h (fun e => (mem_without.mp hx).2 (by rw [← e])) (fun e => (mem_without.mp hy).2 (by rw [← e]))
  omega
/-- a place less -/
theorem lowN_inj {x y g : Nat} (hx : x ≠ g) (hy : y ≠ g) (h : lowN x g = lowN y g) : x = y := by
  rcases Nat.lt_trichotomy x y with c | c | c
  · have := lowN_lt c hx hy; omega
  · exact c
  · have := lowN_lt c hy hx; omega
theorem adj_drop {w : W} {g x y : Nat} (hx : x ≠ g) (hy : y ≠ g) : adj (w.drop g) (lowN x g) (lowN y g) ↔ adj w x y := by
  have key : ∀ x y, x ≠ g → y ≠ g → ((lowN x g, lowN y g) ∈ (w.drop g).ties ↔ (x, y) ∈ w.ties) := by
    intro x y hx hy
    unfold W.drop
    rw [List.mem_map]
    constructor
    · rintro ⟨t, ht, e⟩
      obtain ⟨h1, h2⟩ := List.mem_filter.mp ht
      simp at h2 e
      have a := lowN_inj h2.1 hx e.1
      have b := lowN_inj h2.2 hy e.2
      have : t = (x, y) := Prod.ext a b
      exact this ▸ h1
    · intro h
      exact ⟨(x, y), List.mem_filter.mpr ⟨h, by simp [hx, hy]⟩, rfl⟩
  unfold adj
  rw [key x y hx hy, key y x hy hx]
/-- the place that had a number -/
def upN (x g : Nat) : Nat := if x < g then x else x + 1
theorem lowN_up (x g : Nat) : lowN (upN x g) g = x ∧ upN x g ≠ g := by unfold lowN upN; split <;> split <;> omega
theorem lh_drop {w : W} (hw : w.Ok) {g : Nat} (hg : g < w.many) : lh (w.drop g) = td w (withoutL (List.range w.many) g) := by
  have hm : (w.drop g).many = w.many - 1 := rfl
  apply Nat.le_antisymm
  · refine (td_le _ (range_sor _)).mpr (((td_le w (without_sor (range_sor _) g)).mp (Nat.le_refl _)).names (fun x => upN x g) (fun y hy => ?_) (fun y z _ _ e => ?_) fun x y _ _ h => ?_)
    · have := List.mem_range.mp hy
      refine mem_without.mpr ⟨List.mem_range.mpr ?_, (lowN_up y g).2⟩
      show upN y g < _
      unfold upN; split <;> omega
    · have := congrArg (fun x => lowN x g) e
      simpa [(lowN_up _ g).1] using this
    · have := adj_drop (w := w) (lowN_up x g).2 (lowN_up y g).2
      rw [(lowN_up x g).1, (lowN_up y g).1] at this
      exact this.mp h
  · refine (td_le _ (without_sor (range_sor _) g)).mpr (((td_le (w.drop g) (range_sor _)).mp (Nat.le_refl _)).names (fun x => lowN x g) (fun y hy => ?_) (fun y z hy hz e => lowN_inj (mem_without.mp hy).2 (mem_without.mp hz).2 e) fun x y hx hy h => (adj_drop (mem_without.mp hx).2 (mem_without.mp hy).2).mpr h)
    have h1 := mem_without.mp hy
    have h2 := List.mem_range.mp h1.1
    refine List.mem_range.mpr ?_
    show lowN y g < _
    unfold lowN; split <;> omega
/-- two tied places made one -/
theorem adj_draw {w : W} {a b y z : Nat} (h : adj (w.draw a b) y z) : ∃ u v, nmD a b u = y ∧ nmD a b v = z ∧ adj w u v := by
  have key : ∀ y z, (y, z) ∈ (w.draw a b).ties → ∃ u v, nmD a b u = y ∧ nmD a b v = z ∧ adj w u v := by
    intro y z h
    unfold W.draw at h
    rw [mem_sset, List.mem_filterMap] at h
    obtain ⟨t, ht, e⟩ := h
    unfold drawF at e
    split at e
    · cases e
    · simp [tieOf] at e
      rcases Nat.le_total (nmD a b t.1) (nmD a b t.2) with c | c
      · rw [Nat.min_eq_left c, Nat.max_eq_right c] at e
        exact ⟨t.1, t.2, e.1, e.2, .inl ht⟩
      · rw [Nat.min_eq_right c, Nat.max_eq_left c] at e
        exact ⟨t.2, t.1, e.1, e.2, .inr ht⟩
  rcases h with h | h
  · exact key y z h
  · obtain ⟨u, v, h1, h2, h3⟩ := key z y h
    exact ⟨v, u, h2, h1, adj_sym h3⟩
theorem nmD_eq {a b x y : Nat} (hab : a < b) (h : nmD a b x = nmD a b y) : x = y ∨ (x = a ∧ y = b) ∨ (x = b ∧ y = a) := by
  unfold nmD at h
  by_cases cx : x = b
  · by_cases cy : y = b
    · exact .inl (cx.trans cy.symm)
    · rw [if_pos cx, if_neg cy] at h
      have := lowN_inj (by omega) cy h
      exact .inr (.inr ⟨cx, this.symm⟩)
  · by_cases cy : y = b
    · rw [if_neg cx, if_pos cy] at h
      have := lowN_inj cx (by omega) h
      exact .inr (.inl ⟨this, cy⟩)
    · rw [if_neg cx, if_neg cy] at h
      exact .inl (lowN_inj cx cy h)
theorem lh_draw {w : W} (hw : w.Ok) {a b : Nat} (hab : a < b) (hb : b < w.many) (ht : (a, b) ∈ w.ties) : lh (w.draw a b) ≤ lh w := by
  have hm : (w.draw a b).many = w.many - 1 := rfl
  refine (td_le _ (range_sor _)).mpr (((td_le w (range_sor _)).mp (Nat.le_refl _)).minor (B := fun y x => x < w.many ∧ nmD a b x = y) (Nat.le_refl _) ⟨fun y hy => ?_, fun y x hy hx => List.mem_range.mpr hx.1, fun x y z _ _ e1 e2 => e1.2.symm.trans e2.2, fun y hy A x z hx hz ax az => ?_, fun y z hy hz _ h => ?_⟩)
  · have := List.mem_range.mp hy
    refine ⟨upN y b, ?_, ?_⟩
    · unfold upN; split <;> omega
    · unfold nmD; rw [if_neg (lowN_up y b).2]; exact (lowN_up y b).1
  · rcases nmD_eq hab (hx.2.trans hz.2.symm) with e | ⟨e1, e2⟩ | ⟨e1, e2⟩
    · exact absurd (e ▸ ax) az
    · exact ⟨x, z, hx, hz, by rw [e1, e2]; exact .inl ht, ax, az⟩
    · exact ⟨x, z, hx, hz, by rw [e1, e2]; exact .inr ht, ax, az⟩
  · obtain ⟨u, v, h1, h2, h3⟩ := adj_draw h
    have := adj_lt hw h3
    exact ⟨u, v, ⟨this.1, h1⟩, ⟨this.2, h2⟩, h3⟩
end PQ

set_option linter.all false
set_option maxRecDepth 100000
namespace PQ
open PL
open PV
/-! ## webs with a place that is tied to some, webs side by side, tied places made one: more heights -/
/-- a place that is tied to all others -/
theorem Ht.hub {R : Nat → Nat → Prop} {P : Nat → Prop} {p : Nat} {n : Nat} (sym : ∀ x y, R x y → R y x) (h : Ht R P n) : P p → (∀ x, P x → x ≠ p → R p x) → ∃ m, n = m + 1 ∧ Ht R (fun x => P x ∧ x ≠ p) m := by
  induction h with
  | nil h => exact fun hp _ => absurd hp (h p)
  | @cut P n q hq h ih =>
    intro hp hu
    by_cases e : q = p
    · exact ⟨n, rfl, e ▸ h⟩
    · obtain ⟨m, rfl, h2⟩ := ih ⟨hp, fun z => e z.symm⟩ fun x hx hn => hu x hx.1 hn
      exact ⟨m + 1, rfl, .cut q ⟨hq, e⟩ (h2.mono (Nat.le_refl _) (fun x hx => ⟨⟨hx.1.1, hx.2⟩, hx.1.2⟩) fun _ _ _ _ z => z)⟩
  | @split P n A hA h1 h2 ih1 ih2 =>
    intro hp hu
    by_cases c : A p
    · obtain ⟨m, e, h3⟩ := ih1 ⟨hp, c⟩ fun x hx hn => hu x hx.1 hn
      refine ⟨m, e, h3.mono (Nat.le_refl _) (fun x hx => ⟨⟨hx.1, Classical.byContradiction fun hn => ?_⟩, hx.2⟩) fun _ _ _ _ z => z⟩
      exact hA p x hp hx.1 c hn (hu x hx.1 hx.2)
    · obtain ⟨m, e, h3⟩ := ih2 ⟨hp, c⟩ fun x hx hn => hu x hx.1 hn
      refine ⟨m, e, h3.mono (Nat.le_refl _) (fun x hx => ⟨⟨hx.1, fun ha => ?_⟩, hx.2⟩) fun _ _ _ _ z => z⟩
      exact hA x p hx.1 hp ha c (sym _ _ (hu x hx.1 hx.2))
/-- a place more, tied to some -/
def W.hub (w : W) (S : List Nat) : W := ⟨w.many + 1, srtT (w.ties ++ S.map fun x => (x, w.many))⟩
theorem mem_hub {w : W} {S : List Nat} {t : Nat × Nat} : t ∈ (w.hub S).ties ↔ t ∈ w.ties ∨ (t.1 ∈ S ∧ t.2 = w.many) := by
  unfold W.hub
  rw [mem_srtT, List.mem_append, List.mem_map]
  constructor
  · rintro (h | ⟨x, hx, rfl⟩)
    · exact .inl h
    · exact .inr ⟨hx, rfl⟩
  · rintro (h | ⟨h1, h2⟩)
    · exact .inl h
    · exact .inr ⟨t.1, h1, Prod.ext rfl h2.symm⟩
theorem W.Ok.hub {w : W} (h : w.Ok) (h7 : w.many ≤ 7) {S : List Nat} (hS : S.Nodup) (hm : ∀ x ∈ S, x < w.many) : (w.hub S).Ok := by
  have e : (w.hub S).many = w.many + 1 := rfl
  refine ⟨by rw [e]; omega, by rw [e]; omega, fun t ht => ?_, srtT_sor ?_⟩
  · rw [e]
    rcases mem_hub.mp ht with z | ⟨z1, z2⟩
    · have := h.ties t z; omega
    · have := hm _ z1; omega
  · refine List.nodup_append.mpr ⟨h.sor.nodup, ?_, fun x hx y hy => ?_⟩
    · rw [List.nodup_iff_pairwise_ne] at hS ⊢
      rw [List.pairwise_map]
      exact hS.imp fun {a b} hab e => hab (by simpa using e)
    · obtain ⟨z, hz, rfl⟩ := List.mem_map.mp hy
      have := h.ties x hx
      rintro rfl
      simp at this
theorem adj_hub {w : W} {S : List Nat} {x y : Nat} (hx : x < w.many) (hy : y < w.many) : adj (w.hub S) x y ↔ adj w x y := by
  unfold adj
  rw [mem_hub, mem_hub]
  constructor
  · rintro ((h | h) | (h | h))
    · exact .inl h
    · simp at h; omega
    · exact .inr h
    · simp at h; omega
  · exact fun h => h.imp .inl .inl
theorem lh_hub {w : W} (S : List Nat) : lh w ≤ lh (w.hub S) ∧ lh (w.hub S) ≤ lh w + 1 := by
  have e : (w.hub S).many = w.many + 1 := rfl
  constructor
  · exact td_sub (range_sor _) (range_sor _) (fun x hx => by have := List.mem_range.mp hx; exact List.mem_range.mpr (by omega)) fun x y hx hy h => (adj_hub (List.mem_range.mp hx) (List.mem_range.mp hy)).mpr h
  · have h1 := (td_without (w := w.hub S) (range_sor (w.hub S).many) w.many).2
    have h2 : td (w.hub S) (withoutL (List.range (w.hub S).many) w.many) ≤ lh w := td_sub (range_sor _) (without_sor (range_sor _) _) (fun x hx => by
      have := mem_without.mp hx
      have h3 := List.mem_range.mp this.1
      exact List.mem_range.mpr (by omega)) fun x y hx hy h => by
        have a := mem_without.mp hx
        have b := mem_without.mp hy
        have a' := List.mem_range.mp a.1
        have b' := List.mem_range.mp b.1
        exact (adj_hub (by omega) (by omega)).mp h
    have h3 : td (w.hub S) (List.range (w.hub S).many) = lh (w.hub S) := rfl
    omega
theorem lh_hub_all {w : W} : lh (w.hub (List.range w.many)) = lh w + 1 := by
  have e : (w.hub (List.range w.many)).many = w.many + 1 := rfl
  refine Nat.le_antisymm (lh_hub _).2 ?_
  have h := (td_le (w.hub (List.range w.many)) (range_sor _)).mp (Nat.le_refl (td (w.hub (List.range w.many)) (List.range (w.hub (List.range w.many)).many)))
  obtain ⟨m, hm, h2⟩ := h.hub (p := w.many) (fun x y => adj_sym) (List.mem_range.mpr (by omega)) fun x hx hn => by
    have := List.mem_range.mp hx
    exact .inr (mem_hub.mpr (.inr ⟨List.mem_range.mpr (by show x < _; omega), rfl⟩))
  have h3 : lh w ≤ m := (td_le w (range_sor _)).mpr (h2.mono (Nat.le_refl _) (fun x hx => by have := List.mem_range.mp hx; exact ⟨List.mem_range.mpr (by omega), by omega⟩) fun x y hx hy h => (adj_hub (List.mem_range.mp hx) (List.mem_range.mp hy)).mpr h)
  have h4 : td (w.hub (List.range w.many)) (List.range (w.hub (List.range w.many)).many) = lh (w.hub (List.range w.many)) := rfl
  omega
/-- two webs side by side -/
def W.side (w v : W) : W := ⟨w.many + v.many, srtT (w.ties ++ v.ties.map fun t => (t.1 + w.many, t.2 + w.many))⟩
theorem mem_side {w v : W} {t : Nat × Nat} : t ∈ (w.side v).ties ↔ t ∈ w.ties ∨ ∃ s ∈ v.ties, (s.1 + w.many, s.2 + w.many) = t := by
  unfold W.side
  rw [mem_srtT, List.mem_append, List.mem_map]
theorem W.Ok.side {w v : W} (h : w.Ok) (g : v.Ok) (h8 : w.many + v.many ≤ 8) : (w.side v).Ok := by
  have e : (w.side v).many = w.many + v.many := rfl
  refine ⟨by rw [e]; have := h.lo; omega, by rw [e]; omega, fun t ht => ?_, srtT_sor ?_⟩
  · rw [e]
    rcases mem_side.mp ht with z | ⟨s, hs, rfl⟩
    · have := h.ties t z; omega
    · have := g.ties s hs; simp; omega
  · refine List.nodup_append.mpr ⟨h.sor.nodup, ?_, fun x hx y hy => ?_⟩
    · have := g.sor.nodup
      rw [List.nodup_iff_pairwise_ne] at this ⊢
      rw [List.pairwise_map]
      exact this.imp fun {a b} hab e => hab (Prod.ext (by have := congrArg Prod.fst e; simp at this; omega) (by have := congrArg Prod.snd e; simp at this; omega))
    · obtain ⟨z, hz, rfl⟩ := List.mem_map.mp hy
      have := h.ties x hx
      rintro rfl
      simp at this; omega
theorem adj_side1 {w v : W} (hw : w.Ok) {x y : Nat} (hx : x < w.many) : adj (w.side v) x y ↔ adj w x y := by
  unfold adj
  rw [mem_side, mem_side]
  constructor
  · rintro ((h | ⟨s, hs, e⟩) | (h | ⟨s, hs, e⟩))
    · exact .inl h
    · have := congrArg Prod.fst e; simp at this; omega
    · exact .inr h
    · have := congrArg Prod.snd e; simp at this; omega
  · exact fun h => h.imp .inl .inl
theorem adj_side2 {w v : W} (hw : w.Ok) {x y : Nat} : adj (w.side v) (x + w.many) (y + w.many) ↔ adj v x y := by
  unfold adj
  rw [mem_side, mem_side]
  constructor
  · rintro ((h | ⟨s, hs, e⟩) | (h | ⟨s, hs, e⟩))
    · have := hw.ties _ h; simp at this; omega
    · left
      have : s = (x, y) := Prod.ext (by have := congrArg Prod.fst e; simp at this; omega) (by have := congrArg Prod.snd e; simp at this; omega)
      exact this ▸ hs
    · have := hw.ties _ h; simp at this; omega
    · right
      have : s = (y, x) := Prod.ext (by have := congrArg Prod.fst e; simp at this; omega) (by have := congrArg Prod.snd e; simp at this; omega)
      exact this ▸ hs
  · rintro (h | h)
    · exact .inl (.inr ⟨_, h, rfl⟩)
    · exact .inr (.inr ⟨_, h, rfl⟩)
theorem lh_side {w v : W} (hw : w.Ok) : lh (w.side v) = max (lh w) (lh v) := by
  have e : (w.side v).many = w.many + v.many := rfl
  apply Nat.le_antisymm
  · refine (td_le _ (range_sor _)).mpr (.split (fun x => x < w.many) (fun x y _ _ hx hy h => hy (adj_lt hw ((adj_side1 hw hx).mp h)).2) ?_ ?_)
    · exact ((td_le w (range_sor _)).mp (Nat.le_refl _)).mono (Nat.le_max_left _ _) (fun x hx => List.mem_range.mpr hx.2) fun x y hx _ h => (adj_side1 hw hx.2).mp h
    · refine Ht.mono (R := adj (w.side v)) (P := fun x => x ∈ List.range (w.side v).many ∧ ¬ x < w.many) (((td_le v (range_sor _)).mp (Nat.le_refl _)).names (fun x => x - w.many) (fun y hy => ?_) (fun y z hy hz e => ?_) fun x y hx hy h => ?_) (Nat.le_max_right _ _) (fun _ z => z) fun _ _ _ _ z => z
      · have := List.mem_range.mp hy.1
        exact List.mem_range.mpr (by have := hy.2; omega)
      · have := hy.2
        have := hz.2
        have e : y - w.many = z - w.many := e
        omega
      · have h1 := hx.2
        have h2 := hy.2
        refine (adj_side2 hw).mp ?_
        rw [Nat.sub_add_cancel (by omega), Nat.sub_add_cancel (by omega)]
        exact h
  · refine Nat.max_le.mpr ⟨?_, ?_⟩
    · exact td_sub (range_sor _) (range_sor _) (fun x hx => by have := List.mem_range.mp hx; exact List.mem_range.mpr (by omega)) fun x y hx _ h => (adj_side1 hw (List.mem_range.mp hx)).mpr h
    · refine (td_le _ (range_sor _)).mpr (((td_le (w.side v) (range_sor _)).mp (Nat.le_refl _)).names (fun x => x + w.many) (fun y hy => by have := List.mem_range.mp hy; exact List.mem_range.mpr (by show y + w.many < _; omega)) (fun y z _ _ e => by simpa using e) fun x y _ _ h => (adj_side2 hw).mpr h)
/-- two tied places made one: at the most one less -/
theorem lh_draw_lo {w : W} (hw : w.Ok) {a b : Nat} (hab : a < b) (hb : b < w.many) : lh w ≤ lh (w.draw a b) + 1 := by
  have hm : (w.draw a b).many = w.many - 1 := rfl
  have h1 := (td_without (w := w) (range_sor w.many) b).2
  have nm : ∀ x, x ≠ b → nmD a b x = lowN x b := fun x hx => by unfold nmD; rw [if_neg hx]
  have h2 : td w (withoutL (List.range w.many) b) ≤ lh (w.draw a b) := by
    refine (td_le _ (without_sor (range_sor _) b)).mpr (((td_le (w.draw a b) (range_sor _)).mp (Nat.le_refl _)).names (fun x => lowN x b) (fun y hy => ?_) (fun y z hy hz e => lowN_inj (mem_without.mp hy).2 (mem_without.mp hz).2 e) fun x y hx hy h => ?_)
    · have h1 := mem_without.mp hy
      have h2 := List.mem_range.mp h1.1
      refine List.mem_range.mpr ?_
      show lowN y b < _
      unfold lowN; split <;> omega
    · have hx := (mem_without.mp hx).2
      have hy := (mem_without.mp hy).2
      have key : ∀ x y, x ≠ b → y ≠ b → (x, y) ∈ w.ties → (lowN x b, lowN y b) ∈ (w.draw a b).ties := fun x y hx hy h => by
        have hlt := hw.ties _ h
        have hl : lowN x b < lowN y b := lowN_lt hlt.1 hx hy
        unfold W.draw
        rw [mem_sset, List.mem_filterMap]
        refine ⟨(x, y), h, ?_⟩
        unfold drawF
        show (if nmD a b x = nmD a b y then none else some (tieOf (nmD a b x) (nmD a b y))) = _
        rw [nm x hx, nm y hy, if_neg (by omega)]
        unfold tieOf
        rw [Nat.min_eq_left (by omega), Nat.max_eq_right (by omega)]
      exact h.imp (key x y hx hy) (key y x hy hx)
  have h3 : td w (List.range w.many) = lh w := rfl
  omega
end PQ

set_option linter.all false
set_option maxRecDepth 100000
namespace PQ
open PL
open PV
/-! ## trees -/
def eO : Option Nat → PV
  | none => .non
  | some y => nI y
@[simp] theorem eO_none : eO none = .non := rfl
@[simp] theorem eO_some (y : Nat) : eO (some y) = nI y := rfl
@[simp] theorem isM_eO (o : Option Nat) : (eO o).isM = false := by cases o <;> rfl
@[simp] theorem ty_eO (o : Option Nat) : tyOk (eO o) = true := by cases o <;> simp
def eF (f : List (Option Nat)) : PV := .tup (f.map eO)
@[simp] theorem isM_eF (f : List (Option Nat)) : (eF f).isM = false := by simp [eF]
def stp (f : List (Option Nat)) : Option Nat → Option Nat
  | none => none
  | some y => (f[y]?).getD none
def it (f : List (Option Nat)) : Nat → Option Nat → Option Nat
  | 0, o => o
  | n + 1, o => it f n (stp f o)
theorem it_none (f : List (Option Nat)) : ∀ n, it f n none = none
  | 0 => rfl
  | n + 1 => it_none f n
theorem it_succ (f : List (Option Nat)) : ∀ (n : Nat) (o : Option Nat), it f (n + 1) o = stp f (it f n o)
  | 0, _ => rfl
  | n + 1, o => by rw [it, it_succ f n]; rfl
theorem it_add (f : List (Option Nat)) : ∀ (n m : Nat) (o : Option Nat), it f (n + m) o = it f m (it f n o)
  | 0, m, o => by rw [Nat.zero_add]; rfl
  | n + 1, m, o => by rw [show n + 1 + m = (n + m) + 1 from by omega, it, it, it_add f n m]
def upF (f : List (Option Nat)) : Nat → Option Nat → List Nat
  | 0, _ => []
  | _ + 1, none => []
  | n + 1, some y => y :: upF f n (stp f (some y))
theorem upF_none (f : List (Option Nat)) : ∀ n, upF f n none = []
  | 0 => rfl
  | _ + 1 => rfl
def up (f : List (Option Nat)) (x : Nat) : List Nat := upF f f.length (stp f (some x))
theorem upF_len (f : List (Option Nat)) : ∀ (n : Nat) (o : Option Nat), (upF f n o).length ≤ n
  | 0, _ => by simp [upF]
  | _ + 1, none => by simp [upF]
  | n + 1, some y => by have := upF_len f n (stp f (some y)); simp [upF]; omega
structure Tr (m : Nat) (f : List (Option Nat)) : Prop where
  len : f.length = m
  lt : ∀ y, some y ∈ f → y < m
  fin : ∀ x, x < m → it f m (some x) = none
theorem stp_lt {m : Nat} {f : List (Option Nat)} (h : ∀ y, some y ∈ f → y < m) {o : Option Nat} {y : Nat} (e : stp f o = some y) : y < m := by
  cases o with
  | none => cases e
  | some x =>
    have e : (f[x]?).getD none = some y := e
    cases hx : f[x]? with
    | none => rw [hx] at e; cases e
    | some v =>
      rw [hx] at e
      simp at e
      subst e
      exact h y (List.mem_of_getElem? hx)
theorem ix_eF {f : List (Option Nat)} {y : Nat} (h : y < f.length) : index (eF f) (nI y) = some (eO (stp f (some y))) := by
  show (pidx (y : Int) (f.map eO).length).bind _ = _
  have : pidx (y : Int) (f.map eO).length = some y := by simp [pidx, h]
  rw [this]
  simp [stp, List.getElem?_eq_getElem h]
theorem run_above {T : Tab} [HasF T 11] (n : Nat) {m : Nat} {f : List (Option Nat)} (h : Tr m f) (h8 : m ≤ 8) (x : Nat) (hx : x < m) : run T (n + 1) 11 [(eF f, true), (nI x, true)] = .ok (.lst ((up f x).map nI)) true [(eF f, true), (nI x, true)] := by
  rw [run_has (d := d_above) rfl rfl]
  have hl := h.len
  have i0 := ix_eF (f := f) (y := x) (by omega)
  obtain ⟨r', e, rfl⟩ := whl_r (T := T) (P := run T n) (c := .isN true (.var 3)) (b := [.exp (.app 2 (.var 3)), .asg (.nm 3) (.ix (.var 0) (.var 3))])
    (fun j r => ∃ (acc : List Nat) (o : Option Nat), r = [some (eF f, true), some (nI x, true), some (.lst (acc.map nI), true), some (eO o, true)] ∧ acc ++ upF f j o = up f x ∧ it f j o = none ∧ (∀ y, o = some y → y < m) ∧ acc.length + j ≤ 8)
    (fun r => r = [some (eF f, true), some (nI x, true), some (.lst ((up f x).map nI), true), some (.non, true)])
    (fun j r ⟨acc, o, hr, ha, hi, ho, hj⟩ => by
      subst hr
      cases o with
      | none =>
        left
        rw [upF_none, List.append_nil] at ha
        subst ha
        exact ⟨_, by simp, rfl⟩
      | some y =>
        right
        have hy := ho y rfl
        cases j with
        | zero => cases hi
        | succ j =>
          have i1 := ix_eF (f := f) (y := y) (by omega)
          have hm : acc.length < line := by unfold line; omega
          refine ⟨[some (eF f, true), some (nI x, true), some (.lst (acc.map nI), true), some (nI y, true)], [some (eF f, true), some (nI x, true), some (.lst ((acc ++ [y]).map nI), true), some (eO (stp f (some y)), true)], j, by simp, ?_, ⟨acc ++ [y], stp f (some y), rfl, ?_, hi, fun z hz => stp_lt h.lt hz, by simp; omega⟩, by omega⟩
          · simp [i1, isLst, modL, gApp, hm]
          · rw [← ha]; simp [upF]) 5000 m [some (eF f, true), some (nI x, true), some (.lst [], true), some (eO (stp f (some x)), true)]
    ⟨[], stp f (some x), rfl, by unfold up; rw [hl]; rfl, by
      have h1 := h.fin x hx
      cases m with
      | zero => omega
      | succ m =>
        rw [it] at h1
        rw [it_succ, h1]; rfl, fun y hy => stp_lt h.lt hy, by simp; omega⟩ (by omega)
  have e' : whlEv T (run T n) (.isN true (.var 3)) [.exp (.app 2 (.var 3)), .asg (.nm 3) (.ix (.var 0) (.var 3))] turns _ = _ := e
  simp [d_above, i0, e']
  try rfl
end PQ

set_option linter.all false
set_option maxRecDepth 100000
namespace PQ
open PL
open PV
/-! ## is_bare_tree, is_tree_of, heights of trees -/
def okO (m : Nat) (v : PV) : Bool := decide (v = .non) || isWhole v 0 ((m : Int) - 1)
theorem okO_all {m : Nat} : ∀ {l : List PV}, (l.all (okO m)) = true → ∃ f : List (Option Nat), l = f.map eO ∧ ∀ y, some y ∈ f → y < m
  | [], _ => ⟨[], rfl, by simp⟩
  | v :: l, h => by
    rw [List.all_cons, Bool.and_eq_true] at h
    obtain ⟨f, rfl, hf⟩ := okO_all h.2
    have h1 := h.1
    unfold okO at h1
    rw [Bool.or_eq_true] at h1
    rcases h1 with h1 | h1
    · have h1 : v = .non := by simpa using h1
      exact ⟨none :: f, by rw [h1]; rfl, fun y hy => hf y (by simpa using hy)⟩
    · obtain ⟨p, rfl, hp⟩ := isWhole_some h1
      refine ⟨some p :: f, rfl, fun y hy => ?_⟩
      rcases List.mem_cons.mp hy with e | e
      · cases e; exact hp
      · exact hf y e
theorem okO_eO {m : Nat} {f : List (Option Nat)} (h : ∀ y, some y ∈ f → y < m) : ((f.map eO).all (okO m)) = true := by
  rw [List.all_eq_true]
  intro v hv
  obtain ⟨o, ho, rfl⟩ := List.mem_map.mp hv
  cases o with
  | none => simp [okO]
  | some y =>
    have := h y ho
    have := isWhole_nat y m
    simp [okO, this, h y ho]
/-- up to the loops -/
theorem run_bare_head {T : Tab} [HasF T 0] (n : Nat) (w : W) (l : List PV) (hl : l.length ≤ 9) (hm : ∀ v ∈ l, v.isM = false ∧ tyOk v = true) :
    compEv T (run T (n + 1)) (.or (.isN false (.var 5)) (.call 0 [.var 5, .const (.int 0), .bin .sub (.ix (.var 0) (.const (.int 0))) (.const (.int 1))])) (.nm 5) [] [5] l [] [some (eW w, true), some (.tup l, true), none, none, none, none] =
      .ok (.lst (l.map fun v => PV.bl (okO w.many v)), .own) [some (eW w, true), some (.tup l, true), none, none, none, none] := by
  have hc : compEv T (run T (n + 1)) (.or (.isN false (.var 5)) (.call 0 [.var 5, .const (.int 0), .bin .sub (.ix (.var 0) (.const (.int 0))) (.const (.int 1))])) (.nm 5) [] [5] (l.map id) [] [some (eW w, true), some (.tup l, true), none, none, none, none] =
      .ok (.lst (l.map fun v => PV.bl (okO w.many v)), .own) [some (eW w, true), some (.tup l, true), none, none, none, none] := by
    rw [comp_p (fun v : PV => some (PV.bl (okO w.many v))) fun v hv => ⟨[some (eW w, true), some (.tup l, true), none, none, none, some (v, true)], ?_, by simp [wipeS]⟩]
    · rw [fm_some]
    · have e := run_is_whole (T := T) n v 0 ((w.many : Int) - 1) (hm v hv).1 (hm v hv).2
      by_cases h : v = .non
      · subst h; simp [turC, wipeS, okO]
      · simp [turC, wipeS, e, (hm v hv).1, h, okO]
  rw [List.map_id] at hc
  exact hc
theorem run_bare_no {T : Tab} [HasF T 0] [HasF T 12] (n : Nat) (w : W) (l : List PV) (hl : l.length ≤ 9) (hm : ∀ v ∈ l, v.isM = false ∧ tyOk v = true) (h : l.length ≠ w.many ∨ l.all (okO w.many) = false) :
    run T (n + 2) 12 [(eW w, true), (.tup l, true)] = .ok (.bl false) true [(eW w, true), (.tup l, true)] := by
  rw [run_has (d := d_is_bare_tree) rfl rfl]
  have hll : l.length ≤ line := by unfold line; omega
  by_cases c : l.length = w.many
  · have h2 := h.resolve_left fun z => z c
    have hc := run_bare_head (T := T) n w l hl hm
    have hb := bools_map (okO w.many) l
    have ha : ((l.map (okO w.many)).all id) = false := by rw [List.all_map]; exact h2
    have c' : (l.length : Int) = w.many := by omega
    simp [d_is_bare_tree, c', hll, hc, hb, ha, -List.all_map]
  · have c' : ¬ (l.length : Int) = w.many := by omega
    simp [d_is_bare_tree, c']
theorem run_bare {T : Tab} [HasF T 0] [HasF T 12] (n : Nat) (w : W) (h8 : w.many ≤ 8) (f : List (Option Nat)) (hl : f.length = w.many) (hf : ∀ y, some y ∈ f → y < w.many) :
    run T (n + 2) 12 [(eW w, true), (eF f, true)] = .ok (.bl (decide (∀ x, x < w.many → it f w.many (some x) = none))) true [(eW w, true), (eF f, true)] := by
  rw [run_has (d := d_is_bare_tree) rfl rfl]
  have hll : f.length ≤ line := by unfold line; omega
  have hml : w.many ≤ line := by unfold line; omega
  have hc := run_bare_head (T := T) n w (f.map eO) (by simp; omega) (fun v hv => by obtain ⟨o, _, rfl⟩ := List.mem_map.mp hv; exact ⟨isM_eO o, ty_eO o⟩)
  have hb := bools_map (okO w.many) (f.map eO)
  have ha : (((f.map eO).map (okO w.many)).all id) = true := by rw [List.all_map]; exact okO_eO hf
  have c' : (f.length : Int) = w.many := by omega
  have ro := rngOk_0 (b := w.many) (by omega)
  have step : ∀ (x : Nat), x < w.many → ∀ (x4 : Slot), ∃ y4 : Slot, forEv T (run T (n + 1)) (.nm 4) [.ife (.isN true (.var 3)) [.asg (.nm 3) (.ix (.var 1) (.var 3))] []] ((List.range w.many).map nI) []
      [some (eW w, true), some (eF f, true), some (nI x, true), some (nI x, true), x4, none] = .ok .nx [some (eW w, true), some (eF f, true), some (nI x, true), some (eO (it f w.many (some x)), true), y4, none] := by
    intro x hx x4
    obtain ⟨r', e, y4, rfl, _⟩ := for_n (T := T) (P := run T (n + 1)) (t := .nm 4) (enc := nI) (L := List.range w.many) (body := [.ife (.isN true (.var 3)) [.asg (.nm 3) (.ix (.var 1) (.var 3))] []])
      (fun pre r => ∃ y4 : Slot, r = [some (eW w, true), some (eF f, true), some (nI x, true), some (eO (it f pre.length (some x)), true), y4, none] ∧ ∀ y, it f pre.length (some x) = some y → y < w.many)
      (fun pre a post r hsp ⟨y4, hr, hlt⟩ => by
        subst hr
        have hs : it f (pre ++ [a]).length (some x) = stp f (it f pre.length (some x)) := by rw [List.length_append]; exact it_succ f pre.length (some x)
        rw [hs]
        generalize it f pre.length (some x) = o at *
        refine ⟨[some (eW w, true), some (eF f, true), some (nI x, true), some (eO (stp f o), true), some (nI a, true), none], ?_, _, rfl, fun y hy => stp_lt hf hy⟩
        cases o with
        | none => simp [turF, stp]
        | some y =>
          have i1 := ix_eF (f := f) (y := y) (by have := hlt y rfl; omega)
          simp [turF, i1])
      (r := [some (eW w, true), some (eF f, true), some (nI x, true), some (nI x, true), x4, none])
      ⟨x4, rfl, fun y hy => by cases hy; exact hx⟩
    rw [List.length_range] at e
    exact ⟨y4, e⟩
  have key := for_r (T := T) (P := run T (n + 1)) (t := .nm 2) (enc := nI) (L := List.range w.many) (body := [.asg (.nm 3) (.var 2), .fr (.nm 4) .rng (.const (.int 0)) (.ix (.var 0) (.const (.int 0))) [.ife (.isN true (.var 3)) [.asg (.nm 3) (.ix (.var 1) (.var 3))] []] false, .ife (.isN true (.var 3)) [.ret (.const (.bl false))] []])
    (fun pre r => ∃ y2 y3 y4 : Slot, r = [some (eW w, true), some (eF f, true), y2, y3, y4, none] ∧ ∀ x ∈ pre, it f w.many (some x) = none)
    (fun v fl r => ∃ y2 y3 y4 : Slot, r = [some (eW w, true), some (eF f, true), y2, y3, y4, none] ∧ v = .bl false ∧ fl = .own ∧ ∃ x, x < w.many ∧ it f w.many (some x) ≠ none)
    (fun pre a post r hsp ⟨y2, y3, y4, hr, hp⟩ => by
      subst hr
      have ha : a < w.many := List.mem_range.mp (by rw [hsp]; simp)
      obtain ⟨z4, e⟩ := step a ha y4
      cases ho : it f w.many (some a) with
      | none =>
        rw [ho] at e
        refine .inl ⟨[some (eW w, true), some (eF f, true), some (nI a, true), some (.non, true), z4, none], by simp [turF, ro, rngL0, hml, e], _, _, _, rfl, fun x hx => ?_⟩
        rcases List.mem_append.mp hx with hx | hx
        · exact hp x hx
        · rw [List.mem_singleton.mp hx]; exact ho
      | some y =>
        rw [ho] at e
        exact .inr ⟨.bl false, .own, [some (eW w, true), some (eF f, true), some (nI a, true), some (nI y, true), z4, none], by simp [turF, ro, rngL0, hml, e], _, _, _, rfl, rfl, rfl, a, ha, by rw [ho]; simp⟩)
    (r := [some (eW w, true), some (eF f, true), none, none, none, none])
    ⟨none, none, none, rfl, by simp⟩
  have eE : eF f = .tup (f.map eO) := rfl
  have len : b1op .len (eF f) = some (.int (f.length : Int)) := by rw [eE]; simp
  have isT : tyIs (eF f) .tuple = some true := rfl
  have sq : ∀ r : Env, ∀ fl : Fl, seqOf true (eF f) fl r [] = some (f.map eO, r, []) := fun r fl => by rw [eE]; simp
  rcases key with ⟨r', e, y2, y3, y4, rfl, hp⟩ | ⟨v, fl, r', e, y2, y3, y4, rfl, rfl, rfl, x, hx, hn⟩
  · rw [decide_eq_true fun x hx => hp x (List.mem_range.mpr hx)]
    rw [← eE] at hc
    simp [d_is_bare_tree, isT, len, c', sq, hll, hc, hb, ha, ro, rngL0, hml, e, -List.all_map, -List.map_map]
    try rfl
  · rw [decide_eq_false fun h => hn (h x hx)]
    rw [← eE] at hc
    simp [d_is_bare_tree, isT, len, c', sq, hll, hc, hb, ha, ro, rngL0, hml, e, -List.all_map, -List.map_map]
    try rfl
/-- what a tree of a web is -/
def isTr (w : W) (f : List (Option Nat)) : Prop := Tr w.many f ∧ ∀ t ∈ w.ties, t.1 ∈ up f t.2 ∨ t.2 ∈ up f t.1
def treT (f : List (Option Nat)) (t : Nat × Nat) : Bool := decide (t.1 ∈ up f t.2 ∨ t.2 ∈ up f t.1)
open Classical in
theorem run_tree_of {T : Tab} [HasF T 0] [HasF T 11] [HasF T 12] [HasF T 13] (n : Nat) (w : W) (hw : w.Ok) (f : List (Option Nat)) (hl : f.length = w.many) (hf : ∀ y, some y ∈ f → y < w.many) :
    run T (n + 3) 13 [(eW w, true), (eF f, true)] = .ok (.bl (decide (isTr w f))) true [(eW w, true), (eF f, true)] := by
  have e1 := run_bare (T := T) n w hw.hi f hl hf
  rw [run_has (d := d_is_tree_of) rfl rfl]
  by_cases c : ∀ x, x < w.many → it f w.many (some x) = none
  · rw [decide_eq_true c] at e1
    have tr : Tr w.many f := ⟨hl, hf, c⟩
    have hll : w.ties.length ≤ line := by have := hw.len; unfold line; omega
    have hc : compEv T (run T (n + 2)) (.or (.bin .inn (.var 2) (.call 11 [.var 1, .var 3])) (.bin .inn (.var 3) (.call 11 [.var 1, .var 2]))) (.tp [.nm 2, .nm 3]) [] [2, 3] (w.ties.map eP) [] [some (eW w, true), some (eF f, true), none, none] =
        .ok (.lst (w.ties.map fun t => PV.bl (treT f t)), .own) [some (eW w, true), some (eF f, true), none, none] := by
      rw [comp_p (fun t : Nat × Nat => some (PV.bl (treT f t))) fun t ht => ⟨[some (eW w, true), some (eF f, true), some (nI t.1, true), some (nI t.2, true)], ?_, by simp [wipeS]⟩]
      · rw [fm_some]
      · have h2 := hw.ties t ht
        have a1 := run_above (T := T) (n + 1) tr hw.hi t.1 (by omega)
        have a2 := run_above (T := T) (n + 1) tr hw.hi t.2 h2.2
        have eT : eP t = .tup [nI t.1, nI t.2] := rfl
        rw [eT]
        by_cases c1 : t.1 ∈ up f t.2
        · simp [turC, wipeS, a1, a2, c1, treT]
        · by_cases c2 : t.2 ∈ up f t.1 <;> simp [turC, wipeS, a1, a2, c1, c2, treT]
    have hb := bools_map (treT f) w.ties
    have ha : (w.ties.map (treT f)).all id = decide (isTr w f) := by
      rw [Bool.eq_iff_iff, decide_eq_true_eq, List.all_map, List.all_eq_true]
      unfold isTr
      exact ⟨fun h => ⟨tr, fun t ht => by simpa [treT] using h t ht⟩, fun h t ht => by simpa [treT] using h.2 t ht⟩
    simp [d_is_tree_of, e1, hll, hc, hb, ha, -List.all_map]
  · rw [decide_eq_false c] at e1
    rw [decide_eq_false fun h : isTr w f => c h.1.fin]
    simp [d_is_tree_of, e1]
theorem run_tree_no {T : Tab} [HasF T 0] [HasF T 12] [HasF T 13] (n : Nat) (w : W) (l : List PV) (hl : l.length ≤ 9) (hm : ∀ v ∈ l, v.isM = false ∧ tyOk v = true) (h : l.length ≠ w.many ∨ l.all (okO w.many) = false) :
    run T (n + 3) 13 [(eW w, true), (.tup l, true)] = .ok (.bl false) true [(eW w, true), (.tup l, true)] := by
  have e1 := run_bare_no (T := T) n w l hl hm h
  rw [run_has (d := d_is_tree_of) rfl rfl]
  simp [d_is_tree_of, e1]
theorem run_height_of {T : Tab} [HasF T 11] [HasF T 16] (n : Nat) {m : Nat} {f : List (Option Nat)} (h : Tr m f) (h8 : m ≤ 8) (h1 : 1 ≤ m) : run T (n + 2) 16 [(eF f, true)] = .ok (nI (maxL ((List.range m).map fun x => 1 + (up f x).length))) true [(eF f, true)] := by
  rw [run_has (d := d_height_of) rfl rfl]
  have hl := h.len
  have len : b1op .len (eF f) = some (.int (m : Int)) := by unfold eF; simp [hl]
  have ro := rngOk_0 (b := m) (by omega)
  have hml : m ≤ line := by unfold line; omega
  have hc : compEv T (run T (n + 1)) (.bin .add (.const (.int 1)) (.b1 .len (.call 11 [.var 0, .var 1]))) (.nm 1) [] [1] ((List.range m).map nI) [] [some (eF f, true), none] =
      .ok (.lst (((List.range m).map fun x => 1 + (up f x).length).map nI), .own) [some (eF f, true), none] := by
    rw [comp_p (fun x : Nat => some (nI (1 + (up f x).length))) fun x hx => ⟨[some (eF f, true), some (nI x, true)], ?_, by simp [wipeS]⟩]
    · rw [fm_some, List.map_map]; rfl
    · have a1 := run_above (T := T) n h h8 x (List.mem_range.mp hx)
      have e1 : nI (1 + (up f x).length) = .int (1 + ((up f x).length : Int)) := by show PV.int _ = _; congr 1
      rw [e1]
      simp [turC, wipeS, a1]
  have mx := b1_maxN ((List.range m).map fun x => 1 + (up f x).length) (by simp; omega)
  generalize ((List.range m).map fun x => 1 + (up f x).length) = L at *
  simp [d_height_of, len, ro, rngL0, hml, hc, mx]
end PQ

set_option linter.all false
set_option maxRecDepth 100000
namespace PQ
open PL
open PV
/-! ## planted trees (family 1) -/
inductive PT (w : W) (A : List (Nat × Option Nat)) : List Nat → Option Nat → Prop
  | mk {P : List Nat} {o : Option Nat} (rt : List Nat → Nat) : (∀ x ∈ pcs w P, rt x ∈ x) → (∀ x ∈ pcs w P, (rt x, o) ∈ A) → (∀ x ∈ pcs w P, PT w A (withoutL x (rt x)) (some (rt x))) → PT w A P o
theorem PT.mono {w : W} {A B : List (Nat × Option Nat)} (s : ∀ e ∈ A, e ∈ B) {P : List Nat} {o : Option Nat} (h : PT w A P o) : PT w B P o := by
  induction h with
  | mk rt h1 h2 h3 ih => exact .mk rt h1 (fun x hx => s _ (h2 x hx)) ih
def dG (G : List (Nat × Option Nat)) : PV := .dct ((G.map (·.1)).map nI) ((G.map (·.2)).map eO)
theorem pcs_disj {w : W} {P x y : List Nat} (hP : Sor P) (hx : x ∈ pcs w P) (hy : y ∈ pcs w P) {b : Nat} (h1 : b ∈ x) (h2 : b ∈ y) : x = y := by
  obtain ⟨a, ha, rfl⟩ := mem_pcs.mp hx
  obtain ⟨c, hc, rfl⟩ := mem_pcs.mp hy
  exact (cls_eq hP ha (mem_cls.mp h1).2).trans (cls_eq hP hc (mem_cls.mp h2).2).symm
theorem put_G {G : List (Nat × Option Nat)} {p : Nat} {o : Option Nat} (h : p ∉ G.map (·.1)) (hl : G.length < line) (a b c d e : Slot) (x6 x7 x8 : Slot) :
    stI 5 (eO o) (nI p) [a, b, c, d, e, some (dG G, true), x6, x7, x8] = .ok .nx [a, b, c, d, e, some (dG (G ++ [(p, o)]), true), x6, x7, x8] := by
  have h1 := put_new (G.map (·.1)) ((G.map (·.2)).map eO) p (eO o) (by simp) h
  have h2 := okKeyN (G.map (·.1)) p
  have h3 : ((G.map (·.1)).map nI).length < line := by simpa using hl
  have e1 : (G.map (·.2)).map eO ++ [eO o] = ((G ++ [(p, o)]).map (·.2)).map eO := by simp
  have e2 : (G.map (·.1)) ++ [p] = (G ++ [(p, o)]).map (·.1) := by simp
  rw [e1, e2] at h1
  unfold dG
  generalize (G.map (·.1)).map nI = KS at *
  generalize (G.map (·.2)).map eO = VS at *
  simp [stI, h1, h2, h3, -List.map_append, -List.map_map]
theorem run_plant {T : Tab} [HasDraw T] [HasPick T] [HasL1 T 105] [HasL1 T 106] [h108 : HasL1 T 108] (w : W) (hw : w.Ok) (ns : List Int) : ∀ (m n : Nat) (P : List Nat) (o : Option Nat) (G : List (Nat × Option Nat)) (k : Nat), P.length ≤ m → Sor P → (∀ x ∈ P, x < w.many) →
    (∀ x ∈ P, x ∉ G.map (·.1)) → (G.map (·.1)).Nodup → (∀ x ∈ G.map (·.1), x < w.many) → k + P.length < 900000 →
    ∃ (A : List (Nat × Option Nat)) (k' : Nat), k' ≤ k + P.length ∧ (∀ x, x ∈ A.map (·.1) ↔ x ∈ P) ∧ ((G ++ A).map (·.1)).Nodup ∧ PT w A P o ∧
      run T (n + m + 5) 108 [(scr ns, false), (town k, true), (eW w, true), (eL P, true), (eO o, true), (dG G, true)] = .ok .non true [(scr ns, false), (town k', true), (eW w, true), (eL P, true), (eO o, true), (dG (G ++ A), true)] := by
  intro m
  induction m with
  | zero =>
    intro n P o G k hm hs hP hd hn hG hk
    have : P = [] := List.eq_nil_of_length_eq_zero (by omega)
    subst this
    refine ⟨[], k, by simp, by simp, by simpa using hn, .mk (fun _ => 0) (by rw [pcs_nil]; simp) (by rw [pcs_nil]; simp) (by rw [pcs_nil]; simp), ?_⟩
    rw [run_of (d := d_L1_plant) (h108.eq.trans rfl) rfl]
    have hpi := run_L1pieces (T := T) (n + 2) w hw [] (by simp [Sor]) (by simp)
    rw [pcs_nil] at hpi
    rw [List.append_nil]
    have hpi' : run T (n + 0 + 4) 106 [(eW w, true), (eL [], true)] = .ok (.lst []) true [(eW w, true), (eL [], true)] := hpi
    have e1 : ∀ r : Env, forEv T (run T (n + 0 + 4)) (.nm 6) [.asg (.nm 7) (.call 103 [.var 0, .var 1, .var 6]), .sti 5 (.var 7) (.var 4), .exp (.call 108 [.var 0, .var 1, .var 2, .b1 .tuple (.comp (.var 8) (.nm 8) .seq (.var 6) (.const .non) [.bin .ne (.var 8) (.var 7)] [8] true), .var 7, .var 5])] [] [] r = .ok .nx r := fun r => rfl
    unfold dG
    simp [d_L1_plant, hpi', e1]
  | succ m ih =>
    intro n P o G k hm hs hP hd hn hG hk
    have hlP : P.length ≤ 8 := places_len hw hs hP
    have hpi := run_L1pieces (T := T) (n + m + 3) w hw P hs hlP
    have hpl : (pcs w P).length ≤ line := by
      have := nodup_sub (pcs w P) (subs P) (pcs_sor w P).nodup fun x hx => mem_subs _ _ (pcs_subs hs hx).1 hs (pcs_subs hs hx).2.1
      rw [subs_len] at this
      have : (2 : Nat) ^ P.length ≤ 2 ^ 8 := Nat.pow_le_pow_right (by decide) hlP
      unfold line; omega
    have hflat := pcs_flat w hs
    have hnd := (pcs_sor w P).nodup
    have hdj : ∀ x ∈ pcs w P, ∀ y ∈ pcs w P, ∀ b, b ∈ x → b ∈ y → x = y := fun x hx y hy b h1 h2 => pcs_disj hs hx hy h1 h2
    have hsub : ∀ x ∈ pcs w P, Sor x ∧ (∀ p ∈ x, p ∈ P) ∧ x ≠ [] := fun x hx => pcs_subs hs hx
    have mem_some : ∀ b ∈ P, ∃ x ∈ pcs w P, b ∈ x := fun b hb => ⟨_, mem_pcs.mpr ⟨b, hb, rfl⟩, cls_self hb⟩
    have fin : ∀ A : List (Nat × Option Nat), (∀ x ∈ pcs w P, ∃ p ∈ x, (p, o) ∈ A ∧ PT w A (withoutL x p) (some p)) → PT w A P o := fun A h => by
      classical
      refine .mk (fun x => if hx : x ∈ pcs w P then Classical.choose (h x hx) else 0) (fun x hx => ?_) (fun x hx => ?_) fun x hx => ?_
      · simp only [dif_pos hx]; exact (Classical.choose_spec (h x hx)).1
      · simp only [dif_pos hx]; exact (Classical.choose_spec (h x hx)).2.1
      · simp only [dif_pos hx]; exact (Classical.choose_spec (h x hx)).2.2
    generalize pcs w P = M at *
    obtain ⟨r', e, A, k', y6, y7, rfl, hk', hA, hAn, hAp⟩ := for_n (T := T) (P := run T (n + (m + 1) + 4)) (t := .nm 6) (enc := eL) (L := M)
      (body := [.asg (.nm 7) (.call 103 [.var 0, .var 1, .var 6]), .sti 5 (.var 7) (.var 4), .exp (.call 108 [.var 0, .var 1, .var 2, .b1 .tuple (.comp (.var 8) (.nm 8) .seq (.var 6) (.const .non) [.bin .ne (.var 8) (.var 7)] [8] true), .var 7, .var 5])])
      (fun pre r => ∃ (A : List (Nat × Option Nat)) (k' : Nat) (y6 y7 : Slot), r = [some (scr ns, false), some (town k', true), some (eW w, true), some (eL P, true), some (eO o, true), some (dG (G ++ A), true), y6, y7, none] ∧ k' ≤ k + (pre.map List.length).sum ∧
        (∀ b, b ∈ A.map (·.1) ↔ ∃ x ∈ pre, b ∈ x) ∧ ((G ++ A).map (·.1)).Nodup ∧ ∀ x ∈ pre, ∃ p ∈ x, (p, o) ∈ A ∧ PT w A (withoutL x p) (some p))
      (fun pre x post r hsp ⟨A, k', y6, y7, hr, hk', hA, hAn, hAp⟩ => by
        subst hr
        have hx : x ∈ M := by rw [hsp]; simp
        have hxs := hsub x hx
        have hsum : (pre.map List.length).sum + x.length ≤ P.length := by
          rw [hsp] at hflat
          simp at hflat; omega
        obtain ⟨v, hv, e1⟩ := run_pickT (T := T) (n + m + 1) ns k' (x.map nI) (by simpa using hxs.2.2) (fun v hv => by obtain ⟨t, _, rfl⟩ := List.mem_map.mp hv; simp) (by omega)
        obtain ⟨p, hp, rfl⟩ := List.mem_map.mp hv
        have hfl : flg (nI p) = true := by simp [flg]
        rw [hfl] at e1
        have e1' : run T (n + (m + 1) + 4) 103 [(scr ns, false), (town k', true), (eL x, true)] = .ok (nI p) true [(scr ns, false), (town (k' + 1), true), (eL x, true)] := by
          rw [show n + (m + 1) + 4 = n + m + 1 + 4 from by omega]; exact e1
        have hxpre : x ∉ pre := fun z => by
          rw [hsp] at hnd
          exact (List.nodup_append.mp hnd).2.2 x z x (by simp) rfl
        have hpre : ∀ y ∈ pre, y ∈ M := fun y hy => by rw [hsp]; simp [hy]
        have hxA : ∀ b ∈ x, b ∉ (G ++ A).map (·.1) := fun b hb z => by
          rw [List.map_append, List.mem_append] at z
          rcases z with z | z
          · exact hd b (hxs.2.1 b hb) z
          · obtain ⟨y, hy, hby⟩ := (hA b).mp z
            exact hxpre (hdj x hx y (hpre y hy) b hb hby ▸ hy)
        have hGA : ∀ b ∈ (G ++ A).map (·.1), b < w.many := fun b hb => by
          rw [List.map_append, List.mem_append] at hb
          rcases hb with hb | hb
          · exact hG b hb
          · obtain ⟨y, hy, hby⟩ := (hA b).mp hb
            exact hP b ((hsub y (hpre y hy)).2.1 b hby)
        have hGl : (G ++ A).length < line := by
          have := nodup_len w.many ((G ++ A).map (·.1)) hAn hGA
          rw [List.length_map] at this
          have := hw.hi
          unfold line; omega
        have hst := put_G (o := o) (hxA p hp) hGl
        have hlen := without_len hp
        have hxl : x.length ≤ P.length := by omega
        have hn2 : ((G ++ A ++ [(p, o)]).map (·.1)).Nodup := by
          rw [List.map_append]
          refine List.nodup_append.mpr ⟨hAn, by simp, fun b hb c hc => ?_⟩
          simp at hc; subst hc
          rintro rfl; exact hxA _ hp hb
        obtain ⟨B, k2, hk2, hB, hBn, hBp, e2⟩ := ih n (withoutL x p) (some p) (G ++ A ++ [(p, o)]) (k' + 1) (by omega) (without_sor hxs.1 p) (fun b hb => hP b (hxs.2.1 b (mem_without.mp hb).1))
          (fun b hb z => by
            have hb' := mem_without.mp hb
            rw [List.map_append, List.mem_append] at z
            rcases z with z | z
            · exact hxA b hb'.1 z
            · simp at z; exact hb'.2 z) hn2
          (fun b hb => by
            rw [List.map_append, List.mem_append] at hb
            rcases hb with hb | hb
            · exact hGA b hb
            · simp at hb; rw [hb]; exact hP p (hxs.2.1 p hp)) (by omega)
        have e2' : run T (n + (m + 1) + 4) 108 [(scr ns, false), (town (k' + 1), true), (eW w, true), (eL (withoutL x p), true), (nI p, true), (dG (G ++ A ++ [(p, o)]), true)] = .ok .non true [(scr ns, false), (town k2, true), (eW w, true), (eL (withoutL x p), true), (nI p, true), (dG (G ++ A ++ [(p, o)] ++ B), true)] := by
          rw [show n + (m + 1) + 4 = n + m + 5 from by omega]; exact e2
        have hxll : x.length ≤ line := by unfold line; omega
        have hc : ∀ (a b c d e f : Slot), compEv T (run T (n + (m + 1) + 4)) (.var 8) (.nm 8) [.bin .ne (.var 8) (.var 7)] [8] (x.map nI) [] [a, b, c, d, e, f, some (eL x, true), some (nI p, true), none] =
            .ok (.lst ((withoutL x p).map nI), .own) [a, b, c, d, e, f, some (eL x, true), some (nI p, true), none] := fun a b c d e f => by
          rw [comp_p (fun y : Nat => if y ≠ p then some (nI y) else none) fun y hy => ⟨[a, b, c, d, e, f, some (eL x, true), some (nI p, true), some (nI y, true)], ?_, by simp [wipeS]⟩]
          · rw [fm_if]; rfl
          · by_cases c : y = p
            · subst c; simp [turC, wipeS]
            · have c' : ¬ (y : Int) = p := by omega
              simp [turC, wipeS, c, c']
        have sq : ∀ (r : Env) (fl : Fl), seqOf true (eL x) fl r [] = some (x.map nI, r, []) := fun r fl => by unfold eL; simp
        have eT : PV.tup ((withoutL x p).map nI) = eL (withoutL x p) := rfl
        refine ⟨[some (scr ns, false), some (town k2, true), some (eW w, true), some (eL P, true), some (eO o, true), some (dG (G ++ (A ++ [(p, o)] ++ B)), true), some (eL x, true), some (nI p, true), none], ?_, A ++ [(p, o)] ++ B, k2, _, _, rfl, ?_, fun b => ?_, ?_, ?_⟩
        · have eA : G ++ (A ++ [(p, o)] ++ B) = G ++ A ++ [(p, o)] ++ B := by simp
          rw [eA]
          obtain ⟨K1, V1, d1⟩ : ∃ KS VS, dG (G ++ A) = .dct KS VS := ⟨_, _, rfl⟩
          obtain ⟨K2, V2, d2⟩ : ∃ KS VS, dG (G ++ A ++ [(p, o)]) = .dct KS VS := ⟨_, _, rfl⟩
          obtain ⟨K3, V3, d3⟩ : ∃ KS VS, dG (G ++ A ++ [(p, o)] ++ B) = .dct KS VS := ⟨_, _, rfl⟩
          simp only [d1, d2, d3] at hst e2' ⊢
          simp [turF, e1', hst, sq, hxll, hc, eT, e2']
        · simp; omega
        · rw [List.map_append, List.map_append, List.mem_append, List.mem_append, hA, hB, mem_without]
          constructor
          · rintro ((⟨y, hy, hb⟩ | hb) | hb)
            · exact ⟨y, by simp [hy], hb⟩
            · simp at hb; exact ⟨x, by simp, hb ▸ hp⟩
            · exact ⟨x, by simp, hb.1⟩
          · rintro ⟨y, hy, hb⟩
            rcases List.mem_append.mp hy with hy | hy
            · exact .inl (.inl ⟨y, hy, hb⟩)
            · rw [List.mem_singleton.mp hy] at hb
              by_cases c : b = p
              · exact .inl (.inr (by simp [c]))
              · exact .inr ⟨hb, c⟩
        · have eA : G ++ (A ++ [(p, o)] ++ B) = G ++ A ++ [(p, o)] ++ B := by simp
          rw [eA]; exact hBn
        · intro y hy
          rcases List.mem_append.mp hy with hy | hy
          · obtain ⟨q, hq, h1, h2⟩ := hAp y hy
            exact ⟨q, hq, by simp [h1], h2.mono fun e he => by simp [he]⟩
          · rw [List.mem_singleton.mp hy]
            exact ⟨p, hp, by simp, hBp.mono fun e he => by simp [he]⟩)
      (r := [some (scr ns, false), some (town k, true), some (eW w, true), some (eL P, true), some (eO o, true), some (dG G, true), none, none, none])
      ⟨[], k, none, none, by simp, by simp, by simp, by simpa using hn, by simp⟩
    refine ⟨A, k', by omega, fun b => ?_, hAn, fin A hAp, ?_⟩
    · rw [hA]
      exact ⟨fun ⟨x, hx, hb⟩ => (hsub x hx).2.1 b hb, mem_some b⟩
    · rw [run_of (d := d_L1_plant) (h108.eq.trans rfl) rfl]
      have hpi' : run T (n + (m + 1) + 4) 106 [(eW w, true), (eL P, true)] = .ok (.lst (M.map eL)) true [(eW w, true), (eL P, true)] := by
        rw [show n + (m + 1) + 4 = n + m + 3 + 2 from by omega]; exact hpi
      obtain ⟨K1, V1, d1⟩ : ∃ KS VS, dG G = .dct KS VS := ⟨_, _, rfl⟩
      obtain ⟨K2, V2, d2⟩ : ∃ KS VS, dG (G ++ A) = .dct KS VS := ⟨_, _, rfl⟩
      simp only [d1, d2] at e ⊢
      simp [d_L1_plant, hpi', hpl, e]
end PQ

set_option linter.all false
set_option maxRecDepth 100000
namespace PQ
open PL
open PV
/-! ## planted trees are trees: plain mathematics -/
theorem mem_upF {f : List (Option Nat)} {y : Nat} : ∀ {n : Nat} {o : Option Nat}, y ∈ upF f n o ↔ ∃ j, j < n ∧ it f j o = some y
  | 0, o => by simp [upF]
  | n + 1, none => by
    rw [upF_none]
    constructor
    · intro h; simp at h
    · rintro ⟨j, _, h⟩; rw [it_none] at h; cases h
  | n + 1, some z => by
    rw [upF, List.mem_cons, mem_upF]
    constructor
    · rintro (rfl | ⟨j, hj, h⟩)
      · exact ⟨0, by omega, rfl⟩
      · exact ⟨j + 1, by omega, h⟩
    · rintro ⟨j, hj, h⟩
      cases j with
      | zero => left; cases h; rfl
      | succ j => exact .inr ⟨j, by omega, h⟩
theorem mem_up {m : Nat} {f : List (Option Nat)} (h : Tr m f) {x y : Nat} (hx : x < m) : y ∈ up f x ↔ ∃ j, 1 ≤ j ∧ it f j (some x) = some y := by
  unfold up
  rw [mem_upF, h.len]
  constructor
  · rintro ⟨j, hj, e⟩
    exact ⟨j + 1, by omega, e⟩
  · rintro ⟨j, hj, e⟩
    obtain ⟨i, rfl⟩ : ∃ i, j = i + 1 := ⟨j - 1, by omega⟩
    refine ⟨i, Classical.byContradiction fun hn => ?_, e⟩
    have h1 := h.fin x hx
    have h2 := it_add f m (i + 1 - m) (some x)
    rw [show m + (i + 1 - m) = i + 1 from by omega, h1, it_none, e] at h2
    cases h2
theorem upF_stable {f : List (Option Nat)} : ∀ {n : Nat} {o : Option Nat} (k : Nat), it f n o = none → upF f (n + k) o = upF f n o
  | 0, o, k, h => by
    have : o = none := h
    subst this
    rw [upF_none, upF_none]
  | n + 1, none, k, h => by rw [upF_none, upF_none]
  | n + 1, some y, k, h => by
    have h' : it f n (stp f (some y)) = none := h
    rw [show n + 1 + k = (n + k) + 1 from by omega, upF, upF, upF_stable k h']
theorem up_step {m : Nat} {f : List (Option Nat)} (h : Tr m f) {x y : Nat} (hx : x < m) (e : stp f (some x) = some y) : up f x = y :: up f y := by
  have hy := stp_lt h.lt e
  unfold up
  rw [e, h.len]
  obtain ⟨k, rfl⟩ : ∃ k, m = k + 1 := ⟨m - 1, by omega⟩
  rw [upF]
  have h1 : it f k (stp f (some y)) = none := h.fin y hy
  rw [upF_stable 1 h1]
/-- what falls along a row ends -/
theorem rank_fin {m : Nat} {f : List (Option Nat)} (hf : ∀ y, some y ∈ f → y < m) (d : Nat → Nat) (hd : ∀ x y, x < m → stp f (some x) = some y → d y < d x) (x : Nat) (hx : x < m) : it f m (some x) = none := by
  have key : ∀ (n : Nat) (x y : Nat), x < m → it f n (some x) = some y → ∃ L : List Nat, L.length = n + 1 ∧ L.Nodup ∧ ∀ z ∈ L, z < m ∧ d z ≤ d x := by
    intro n
    induction n with
    | zero => intro x y hx _; exact ⟨[x], rfl, by simp, by simp [hx]⟩
    | succ n ih =>
      intro x y hx e
      rw [it] at e
      cases hs : stp f (some x) with
      | none => rw [hs, it_none] at e; cases e
      | some v =>
        rw [hs] at e
        have hv := stp_lt hf hs
        have hlt := hd x v hx hs
        obtain ⟨L, h1, h2, h3⟩ := ih v y hv e
        refine ⟨x :: L, by simp [h1], List.nodup_cons.mpr ⟨fun hm => ?_, h2⟩, fun z hz => ?_⟩
        · have := (h3 x hm).2; omega
        · rcases List.mem_cons.mp hz with rfl | hz
          · exact ⟨hx, Nat.le_refl _⟩
          · have := h3 z hz; exact ⟨this.1, by omega⟩
  cases hi : it f m (some x) with
  | none => rfl
  | some y =>
    obtain ⟨L, h1, h2, h3⟩ := key m x y hx hi
    have := nodup_len m L h2 fun z hz => (h3 z hz).1
    omega
theorem PT.chain {w : W} {A : List (Nat × Option Nat)} {f : List (Option Nat)} (hA : ∀ p o, (p, o) ∈ A → stp f (some p) = o) {P : List Nat} {o : Option Nat} (h : PT w A P o) : Sor P → ∀ x ∈ P, ∃ k, 1 ≤ k ∧ k ≤ P.length ∧ it f k (some x) = o := by
  induction h with
  | @mk P o rt h1 h2 h3 ih =>
    intro hs x hx
    have hX : cls w P x ∈ pcs w P := mem_pcs.mpr ⟨x, hx, rfl⟩
    have hxX := cls_self (w := w) hx
    generalize cls w P x = X at *
    have sx := pcs_subs hs hX
    have hXl : X.length ≤ P.length := nodup_sub X P sx.1.nodup sx.2.1
    have hr := h1 X hX
    have hro := hA _ _ (h2 X hX)
    by_cases c : x = rt X
    · refine ⟨1, by omega, ?_, ?_⟩
      · have := List.length_pos_of_mem hr; omega
      · rw [c]; exact hro
    · have hl := without_len hr
      obtain ⟨k, k1, k2, k3⟩ := ih X hX (without_sor sx.1 _) x (mem_without.mpr ⟨hxX, c⟩)
      refine ⟨k + 1, by omega, by omega, ?_⟩
      rw [it_succ, k3]; exact hro
theorem PT.tied {w : W} (hw : w.Ok) {A : List (Nat × Option Nat)} {f : List (Option Nat)} (hA : ∀ p o, (p, o) ∈ A → stp f (some p) = o) {P : List Nat} {o : Option Nat} (h : PT w A P o) : Sor P → ∀ a b, a ∈ P → b ∈ P → adj w a b →
    (∃ j, 1 ≤ j ∧ it f j (some a) = some b) ∨ ∃ j, 1 ≤ j ∧ it f j (some b) = some a := by
  induction h with
  | @mk P o rt h1 h2 h3 ih =>
    intro hs a b ha hb hab
    have hX : cls w P a ∈ pcs w P := mem_pcs.mpr ⟨a, ha, rfl⟩
    have haX := cls_self (w := w) ha
    have hbX : b ∈ cls w P a := mem_cls.mpr ⟨hb, Cn.refl.step hab hb⟩
    generalize cls w P a = X at *
    have sx := pcs_subs hs hX
    have hne : a ≠ b := fun e => by
      subst e
      rcases hab with h | h <;> have := hw.ties _ h <;> simp at this
    by_cases ca : a = rt X
    · obtain ⟨k, k1, _, k3⟩ := (h3 X hX).chain hA (without_sor sx.1 _) b (mem_without.mpr ⟨hbX, fun e => hne (ca.trans e.symm)⟩)
      exact .inr ⟨k, k1, by rw [k3, ca]⟩
    · by_cases cb : b = rt X
      · obtain ⟨k, k1, _, k3⟩ := (h3 X hX).chain hA (without_sor sx.1 _) a (mem_without.mpr ⟨haX, ca⟩)
        exact .inl ⟨k, k1, by rw [k3, cb]⟩
      · exact ih X hX (without_sor sx.1 _) a b (mem_without.mpr ⟨haX, ca⟩) (mem_without.mpr ⟨hbX, cb⟩) hab
theorem PT.isTr {w : W} (hw : w.Ok) {A : List (Nat × Option Nat)} {f : List (Option Nat)} (hl : f.length = w.many) (hf : ∀ y, some y ∈ f → y < w.many) (hA : ∀ p o, (p, o) ∈ A → stp f (some p) = o) (h : PT w A (List.range w.many) none) : isTr w f := by
  have tr : Tr w.many f := ⟨hl, hf, fun x hx => by
    obtain ⟨k, k1, k2, k3⟩ := h.chain hA (range_sor _) x (List.mem_range.mpr hx)
    rw [List.length_range] at k2
    have := it_add f k (w.many - k) (some x)
    rw [k3, it_none, show k + (w.many - k) = w.many from by omega] at this
    exact this⟩
  refine ⟨tr, fun t ht => ?_⟩
  have := hw.ties t ht
  rw [mem_up tr this.2, mem_up tr (by omega : t.1 < w.many)]
  exact (h.tied hw hA (range_sor _) t.1 t.2 (List.mem_range.mpr (by omega)) (List.mem_range.mpr this.2) (.inl ht)).symm
/-- one top put below another one -/
theorem isTr.under {w : W} (hw : w.Ok) {f : List (Option Nat)} (h : isTr w f) {a b : Nat} (ha : a < w.many) (hb : b < w.many) (hab : a ≠ b) (ea : stp f (some a) = none) (eb : stp f (some b) = none) : isTr w (f.set b (some a)) := by
  have tr := h.1
  have hl := tr.len
  have s1 : ∀ x, x ≠ b → stp (f.set b (some a)) (some x) = stp f (some x) := fun x hx => by
    show ((f.set b (some a))[x]?).getD none = (f[x]?).getD none
    rw [List.getElem?_set_ne (fun e => hx e.symm)]
  have s2 : stp (f.set b (some a)) (some b) = some a := by
    show ((f.set b (some a))[b]?).getD none = some a
    rw [List.getElem?_set_self (by omega)]; rfl
  have hlt : ∀ y, some y ∈ f.set b (some a) → y < w.many := fun y hy => by
    rcases List.mem_or_eq_of_mem_set hy with hy | hy
    · exact tr.lt y hy
    · cases hy; exact ha
  have tr2 : Tr w.many (f.set b (some a)) := by
    refine ⟨by rw [List.length_set]; exact hl, hlt, fun x hx => rank_fin hlt (fun x => (up f x).length + if x = b ∨ b ∈ up f x then 1 else 0) (fun x y hx e => ?_) x hx⟩
    have ua : up f a = [] := by unfold up; rw [ea, upF_none]
    by_cases c : x = b
    · subst c
      rw [s2] at e
      cases e
      simp [ua, hab]
    · rw [s1 x c] at e
      have hu := up_step tr hx e
      simp only [hu, List.length_cons, List.mem_cons, c, false_or]
      by_cases c2 : y = b ∨ b ∈ up f y
      · have c3 : b = y ∨ b ∈ up f y := c2.imp Eq.symm id
        rw [if_pos c2, if_pos c3]; omega
      · have c3 : ¬ (b = y ∨ b ∈ up f y) := fun z => c2 (z.imp Eq.symm id)
        rw [if_neg c2, if_neg c3]; omega
  have pass : ∀ (j : Nat) (o : Option Nat) (y : Nat), it f j o = some y → it (f.set b (some a)) j o = some y := by
    intro j
    induction j with
    | zero => exact fun o y e => e
    | succ j ih =>
      intro o y e
      rw [it] at e ⊢
      cases o with
      | none => rw [show stp f none = none from rfl, it_none] at e; cases e
      | some x =>
        by_cases c : x = b
        · subst c; rw [eb, it_none] at e; cases e
        · rw [s1 x c]; exact ih _ y e
  refine ⟨tr2, fun t ht => ?_⟩
  have := hw.ties t ht
  have h2 := h.2 t ht
  rw [mem_up tr this.2, mem_up tr (by omega : t.1 < w.many)] at h2
  rw [mem_up tr2 this.2, mem_up tr2 (by omega : t.1 < w.many)]
  exact h2.imp (fun ⟨j, h1, e⟩ => ⟨j, h1, pass j _ _ e⟩) fun ⟨j, h1, e⟩ => ⟨j, h1, pass j _ _ e⟩
end PQ

set_option linter.all false
set_option maxRecDepth 100000
namespace PQ
open PL
open PV
/-! ## the drawn trees of family 1 -/
theorem PT.val {w : W} {A : List (Nat × Option Nat)} {g : Nat → Option Nat} (hA : ∀ p o, (p, o) ∈ A → g p = o) {P : List Nat} {o : Option Nat} (h : PT w A P o) : Sor P → ∀ x ∈ P, g x = o ∨ ∃ y ∈ P, g x = some y := by
  induction h with
  | @mk P o rt h1 h2 h3 ih =>
    intro hs x hx
    have hX : cls w P x ∈ pcs w P := mem_pcs.mpr ⟨x, hx, rfl⟩
    have hxX := cls_self (w := w) hx
    generalize cls w P x = X at *
    have sx := pcs_subs hs hX
    by_cases c : x = rt X
    · exact .inl (by rw [c]; exact hA _ _ (h2 X hX))
    · rcases ih X hX (without_sor sx.1 _) x (mem_without.mpr ⟨hxX, c⟩) with e | ⟨y, hy, e⟩
      · exact .inr ⟨rt X, sx.2.1 _ (h1 X hX), e⟩
      · exact .inr ⟨y, sx.2.1 _ (mem_without.mp hy).1, e⟩
def lkA : List (Nat × Option Nat) → Nat → Option Nat
  | [], _ => none
  | e :: A, x => if e.1 = x then e.2 else lkA A x
theorem look_A : ∀ (A : List (Nat × Option Nat)) (x : Nat), x ∈ A.map (·.1) → look ((A.map (·.1)).map nI) ((A.map (·.2)).map eO) (nI x) = some (eO (lkA A x))
  | [], x, h => by simp at h
  | e :: A, x, h => by
    show (if peq (nI e.1) (nI x) then some (eO e.2) else look ((A.map (·.1)).map nI) ((A.map (·.2)).map eO) (nI x)) = _
    have hp : peq (nI e.1) (nI x) = decide (e.1 = x) := by rw [Bool.eq_iff_iff]; exact (encN.peq_ e.1 x).trans (by simp)
    rw [hp, lkA]
    by_cases c : e.1 = x
    · simp [c]
    · rw [if_neg (by simpa using c), if_neg c]
      refine look_A A x ?_
      rw [List.map_cons] at h
      exact (List.mem_cons.mp h).resolve_left fun z => c z.symm
theorem lkA_mem : ∀ (A : List (Nat × Option Nat)) (x : Nat) (o : Option Nat), (A.map (·.1)).Nodup → (x, o) ∈ A → lkA A x = o
  | [], _, _, _, h => by simp at h
  | e :: A, x, o, hn, h => by
    rw [List.map_cons, List.nodup_cons] at hn
    rw [lkA]
    rcases List.mem_cons.mp h with rfl | h
    · simp
    · rw [if_neg (fun c => hn.1 (List.mem_map.mpr ⟨_, h, c.symm⟩))]
      exact lkA_mem A x o hn.2 h
theorem ix_lF {f : List (Option Nat)} {y : Nat} (h : y < f.length) : index (.lst (f.map eO)) (nI y) = some (eO (stp f (some y))) := by
  show (pidx (y : Int) (f.map eO).length).bind _ = _
  have : pidx (y : Int) (f.map eO).length = some y := by simp [pidx, h]
  rw [this]
  simp [stp, List.getElem?_eq_getElem h]
theorem run_tree1 {T : Tab} [HasDraw T] [HasPick T] [HasL1 T 105] [HasL1 T 106] [HasL1 T 108] [h109 : HasL1 T 109] (n : Nat) (w : W) (hw : w.Ok) (ns : List Int) (k : Nat) (hk : k < 800000) :
    ∃ (f : List (Option Nat)) (k' : Nat), isTr w f ∧ k' ≤ k + 9 ∧ run T (n + 14) 109 [(scr ns, false), (town k, true), (eW w, true)] = .ok (eF f) true [(scr ns, false), (town k', true), (eW w, true)] := by
  have hhi := hw.hi
  obtain ⟨A, k1, hk1, hAk, hAn, hPT, e1⟩ := run_plant (T := T) w hw ns 8 n (List.range w.many) none [] k (by simp; exact hhi) (range_sor _) (fun x hx => List.mem_range.mp hx) (by simp) (by simp) (by simp) (by simp; omega)
  rw [List.nil_append] at hAn e1
  rw [List.length_range] at hk1
  have hlk : ∀ p o, (p, o) ∈ A → lkA A p = o := fun p o h => lkA_mem A p o hAn h
  generalize hF : (List.range w.many).map (lkA A) = f at *
  have hl : f.length = w.many := by rw [← hF]; simp
  have hst : ∀ x, x < w.many → stp f (some x) = lkA A x := fun x hx => by
    show (f[x]?).getD none = _
    rw [← hF]; simp [hx]
  have hf : ∀ y, some y ∈ f → y < w.many := fun y hy => by
    rw [← hF] at hy
    obtain ⟨x, hx, e⟩ := List.mem_map.mp hy
    rcases hPT.val hlk (range_sor _) x hx with e2 | ⟨z, hz, e2⟩
    · rw [e] at e2; cases e2
    · rw [e] at e2; cases e2; exact List.mem_range.mp hz
  have hAst : ∀ p o, (p, o) ∈ A → stp f (some p) = o := fun p o h => by
    have hp : p ∈ A.map (·.1) := List.mem_map.mpr ⟨_, h, rfl⟩
    rw [hst p (List.mem_range.mp ((hAk p).mp hp))]
    exact hlk p o h
  have hTr := hPT.isTr hw hl hf hAst
  have hix : ∀ x, x < w.many → index (dG A) (nI x) = some (eO (stp f (some x))) := fun x hx => by
    have h1 := okKeyN (A.map (·.1)) x
    have h2 := look_A A x ((hAk x).mpr (List.mem_range.mpr hx))
    rw [hst x hx, ← h2]
    show (if okKey _ _ then _ else _) = _
    rw [if_pos h1]
  have ro := rngOk_0 (b := w.many) (by omega)
  have hml : w.many ≤ line := by unfold line; omega
  have hfm : (List.range w.many).map (fun x => eO (stp f (some x))) = f.map eO := by
    rw [← hF, List.map_map]
    refine List.map_congr_left fun x hx => ?_
    show eO _ = eO _
    rw [hF, hst x (List.mem_range.mp hx)]
  have hd0 : dG [] = .dct [] [] := rfl
  rw [hd0] at e1
  have eP' : PV.tup ((List.range w.many).map nI) = eL (List.range w.many) := rfl
  have e1' : run T (n + 13) 108 [(scr ns, false), (town k, true), (eW w, true), (eL (List.range w.many), true), (.non, true), (.dct [] [], true)] = _ := e1
  have c1 : compEv T (run T (n + 13)) (.ix (.var 3) (.var 6)) (.nm 6) [] [6] ((List.range w.many).map nI) [] [some (scr ns, false), some (town k1, true), some (eW w, true), some (dG A, true), none, none, none] =
      .ok (.lst (f.map eO), .own) [some (scr ns, false), some (town k1, true), some (eW w, true), some (dG A, true), none, none, none] := by
    rw [← hfm, comp_p (fun x : Nat => some (eO (stp f (some x)))) fun x hx => ⟨[some (scr ns, false), some (town k1, true), some (eW w, true), some (dG A, true), none, none, some (nI x, true)], ?_, by simp [wipeS]⟩]
    · rw [fm_some]
    · have i1 := hix x (List.mem_range.mp hx)
      obtain ⟨K1, V1, d1⟩ : ∃ KS VS, dG A = .dct KS VS := ⟨_, _, rfl⟩
      rw [d1] at i1 ⊢
      simp [turC, wipeS, i1]
  have c2 : compEv T (run T (n + 13)) (.var 6) (.nm 6) [.isN false (.ix (.var 4) (.var 6))] [6] ((List.range w.many).map nI) [] [some (scr ns, false), some (town k1, true), some (eW w, true), some (dG A, true), some (.lst (f.map eO), true), none, none] =
      .ok (.lst (((List.range w.many).filter fun x => decide (stp f (some x) = none)).map nI), .own) [some (scr ns, false), some (town k1, true), some (eW w, true), some (dG A, true), some (.lst (f.map eO), true), none, none] := by
    rw [comp_p (fun x : Nat => if stp f (some x) = none then some (nI x) else none) fun x hx => ⟨[some (scr ns, false), some (town k1, true), some (eW w, true), some (dG A, true), some (.lst (f.map eO), true), none, some (nI x, true)], ?_, by simp [wipeS]⟩]
    · rw [fm_if]
    · have i1 := ix_lF (f := f) (y := x) (by rw [hl]; exact List.mem_range.mp hx)
      generalize f.map eO = FL at *
      cases ho : stp f (some x) with
      | none => rw [ho] at i1; simp [turC, wipeS, i1]
      | some y => rw [ho] at i1; simp [turC, wipeS, i1]
  have htop : ∀ x ∈ (List.range w.many).filter (fun x => decide (stp f (some x) = none)), x < w.many ∧ stp f (some x) = none := fun x hx => by
    have := List.mem_filter.mp hx
    exact ⟨List.mem_range.mp this.1, by simpa using this.2⟩
  have htn : ((List.range w.many).filter (fun x => decide (stp f (some x) = none))).Nodup := List.Nodup.sublist List.filter_sublist List.nodup_range
  generalize hTT : (List.range w.many).filter (fun x => decide (stp f (some x) = none)) = TT at *
  obtain ⟨K1, V1, d1⟩ : ∃ KS VS, dG A = .dct KS VS := ⟨_, _, rfl⟩
  rw [d1] at e1' c1 c2
  rw [run_of (d := d_L1_tree) (h109.eq.trans rfl) rfl]
  match TT, htop, htn with
  | [], _, _ =>
    refine ⟨f, k1, hTr, by omega, ?_⟩
    have eF' : eF f = .tup (f.map eO) := rfl
    rw [eF']
    generalize f.map eO = FL at *
    simp only [List.map_nil] at c2
    simp [d_L1_tree, ro, rngL0, hml, eP', e1', c1, c2]
  | [t0], _, _ =>
    refine ⟨f, k1, hTr, by omega, ?_⟩
    have eF' : eF f = .tup (f.map eO) := rfl
    rw [eF']
    generalize f.map eO = FL at *
    simp only [List.map_nil, List.map_cons] at c2
    simp [d_L1_tree, ro, rngL0, hml, eP', e1', c1, c2]
  | t0 :: t1 :: rest, htop, htn =>
    obtain ⟨d, _, e2⟩ := run_draw (T := T) (n + 10) ns k1 2 (by decide) (by omega)
    have e2' : run T (n + 13) 102 [(scr ns, false), (town k1, true), (.int 2, true)] = _ := e2
    have h0 := htop t0 (by simp)
    have h1 := htop t1 (by simp)
    have hne : t0 ≠ t1 := fun e => by
      rw [List.nodup_cons] at htn
      exact htn.1 (by simp [e])
    have hgt : (1 : Int) < ((t0 :: t1 :: rest).length : Int) := by simp; omega
    have i0 : index (.lst ((t0 :: t1 :: rest).map nI)) (.int 0) = some (nI t0) := by
      have : (0 : Int) < (rest.length : Int) + 1 + 1 := by omega
      simp [index, pidx, this]
    have i1 : index (.lst ((t0 :: t1 :: rest).map nI)) (.int 1) = some (nI t1) := by
      have : (1 : Int) < (rest.length : Int) + 1 + 1 := by omega
      simp [index, pidx, this]
    have hll : b1op .len (.lst ((t0 :: t1 :: rest).map nI)) = some (.int ((t0 :: t1 :: rest).length : Int)) := by simp
    generalize hT2 : (t0 :: t1 :: rest).map nI = TL at *
    generalize ((t0 :: t1 :: rest).length : Int) = TN at *
    by_cases hd : d = 0
    · subst hd
      have hset : (f.map eO).set t1 (nI t0) = (f.set t1 (some t0)).map eO := by rw [List.map_set]; rfl
      have hp : pidx (t1 : Int) (f.map eO).length = some t1 := by simp [pidx, hl, h1.1]
      refine ⟨f.set t1 (some t0), k1 + 1, hTr.under hw h0.1 h1.1 hne h0.2 h1.2, by omega, ?_⟩
      have eF' : eF (f.set t1 (some t0)) = .tup ((f.set t1 (some t0)).map eO) := rfl
      rw [eF', ← hset]
      generalize f.map eO = FL at *
      simp [d_L1_tree, ro, rngL0, hml, eP', e1', c1, c2, hll, hgt, e2', i0, i1, stI, hp]
    · have hd' : ¬ (d : Int) = 0 := by omega
      refine ⟨f, k1 + 1, hTr, by omega, ?_⟩
      have eF' : eF f = .tup (f.map eO) := rfl
      rw [eF']
      generalize f.map eO = FL at *
      simp [d_L1_tree, ro, rngL0, hml, eP', e1', c1, c2, hll, hgt, e2', hd, hd']
end PQ

set_option linter.all false
set_option maxRecDepth 100000
namespace PQ
open PL
open PV
/-! ## the first family's own way up -/
def upL (f : List (Option Nat)) (m x : Nat) : List Nat := upF f (m + 1) (stp f (some x))
theorem upF_ge {f : List (Option Nat)} : ∀ {n j : Nat} {o : Option Nat}, j < n → it f j o ≠ none → j < (upF f n o).length
  | 0, _, _, h, _ => absurd h (Nat.not_lt_zero _)
  | n + 1, j, none, _, h => by rw [it_none] at h; exact absurd rfl h
  | n + 1, 0, some y, _, _ => by rw [upF]; simp
  | n + 1, j + 1, some y, h, hi => by
    rw [upF, List.length_cons]
    have := upF_ge (n := n) (j := j) (o := stp f (some y)) (by omega) hi
    omega
theorem upF_le {f : List (Option Nat)} : ∀ {n j : Nat} {o : Option Nat}, it f j o = none → (upF f n o).length ≤ j
  | 0, j, o, _ => by simp [upF]
  | n + 1, j, none, _ => by simp [upF]
  | n + 1, 0, some y, h => by cases h
  | n + 1, j + 1, some y, h => by
    rw [upF, List.length_cons]
    have := upF_le (n := n) (j := j) (o := stp f (some y)) h
    omega
theorem upL_short {f : List (Option Nat)} {m x : Nat} (hm : 1 ≤ m) : (upL f m x).length ≤ m - 1 ↔ it f m (some x) = none := by
  obtain ⟨k, rfl⟩ : ∃ k, m = k + 1 := ⟨m - 1, by omega⟩
  show _ ↔ it f k (stp f (some x)) = none
  constructor
  · intro h
    refine Classical.byContradiction fun hn => ?_
    have := upF_ge (n := k + 1 + 1) (j := k) (o := stp f (some x)) (by omega) hn
    unfold upL at h
    omega
  · intro h
    have := upF_le (n := k + 1 + 1) h
    unfold upL
    omega
theorem upL_Tr {m : Nat} {f : List (Option Nat)} (h : Tr m f) {x : Nat} (hx : x < m) : upL f m x = up f x := by
  unfold upL up
  rw [h.len]
  have h1 : it f m (stp f (some x)) = none := by
    have := it_succ f m (some x)
    rw [h.fin x hx] at this
    exact this
  exact upF_stable 1 h1
theorem run_up {T : Tab} [h107 : HasL1 T 107] (n : Nat) {m : Nat} {f : List (Option Nat)} (hl : f.length = m) (hf : ∀ y, some y ∈ f → y < m) (h8 : m ≤ 8) (x : Nat) (hx : x < m) : run T (n + 1) 107 [(eF f, true), (nI x, true)] = .ok (.lst ((upL f m x).map nI)) true [(eF f, true), (nI x, true)] := by
  rw [run_of (d := d_L1_up) (h107.eq.trans rfl) rfl]
  have len : b1op .len (eF f) = some (.int (m : Int)) := by unfold eF; simp [hl]
  obtain ⟨r', e, z, rfl⟩ := whl_r (T := T) (P := run T n) (c := .and (.isN true (.ix (.var 0) (.var 1))) (.bin .le (.b1 .len (.var 2)) (.b1 .len (.var 0)))) (b := [.asg (.nm 1) (.ix (.var 0) (.var 1)), .exp (.app 2 (.var 1))])
    (fun j r => ∃ (acc : List Nat) (z : Nat), r = [some (eF f, true), some (nI z, true), some (.lst (acc.map nI), true)] ∧ z < m ∧ acc ++ upF f j (stp f (some z)) = upL f m x ∧ acc.length + j = m + 1)
    (fun r => ∃ z : Nat, r = [some (eF f, true), some (nI z, true), some (.lst ((upL f m x).map nI), true)])
    (fun j r ⟨acc, z, hr, hz, ha, hj⟩ => by
      subst hr
      have i1 := ix_eF (f := f) (y := z) (by omega)
      cases ho : stp f (some z) with
      | none =>
        rw [ho] at i1
        rw [ho, upF_none, List.append_nil] at ha
        exact .inl ⟨[some (eF f, true), some (nI z, true), some (.lst (acc.map nI), true)], by simp [i1], z, by rw [ha]⟩
      | some y =>
        rw [ho] at i1
        have hy := stp_lt hf ho
        cases j with
        | zero =>
          have hgt : ¬ (acc.length : Int) ≤ m := by omega
          rw [show upF f 0 (stp f (some z)) = [] from rfl, List.append_nil] at ha
          exact .inl ⟨[some (eF f, true), some (nI z, true), some (.lst (acc.map nI), true)], by simp [i1, len, hgt], z, by rw [ha]⟩
        | succ j =>
          have hle : (acc.length : Int) ≤ m := by omega
          have hm : acc.length < line := by unfold line; omega
          refine .inr ⟨[some (eF f, true), some (nI z, true), some (.lst (acc.map nI), true)], [some (eF f, true), some (nI y, true), some (.lst ((acc ++ [y]).map nI), true)], j, by simp [i1, len, hle], ?_, ⟨acc ++ [y], y, rfl, hy, ?_, by simp; omega⟩, by omega⟩
          · simp [i1, isLst, modL, gApp, hm]
          · rw [← ha, ho, upF]; simp) 5000 (m + 1) [some (eF f, true), some (nI x, true), some (.lst [], true)]
    ⟨[], x, rfl, hx, rfl, by simp⟩ (by omega)
  have e' : whlEv T (run T n) (.and (.isN true (.ix (.var 0) (.var 1))) (.bin .le (.b1 .len (.var 2)) (.b1 .len (.var 0)))) [.asg (.nm 1) (.ix (.var 0) (.var 1)), .exp (.app 2 (.var 1))] turns _ = _ := e
  simp [d_L1_up, e']
  try rfl
end PQ

set_option linter.all false
set_option maxRecDepth 100000
namespace PQ
open PL
open PV
/-! ## piece_of, asked with a list of places -/
/-- one neighbour -/
theorem piece_turnL {T : Tab} {n : Nat} {w : W} {P : List Nat} {a here : Nat} (y : Nat) (met row : List Nat) (x6 : Slot) (hm : met.length < line) (hr : row.length < line) :
    turF T (run T n) (.nm 6) [.ife (.and (.bin .inn (.var 6) (.var 1)) (.bin .nin (.var 6) (.var 3))) [.sti 3 (.var 6) (.const (.bl true)), .exp (.app 4 (.var 6))] []] (nI y)
      [some (eW w, true), some (eM P, true), some (nI a, true), some (.dct (met.map nI) (trus met), true), some (.lst (row.map nI), true), some (nI here, true), x6] =
    if y ∈ P ∧ y ∉ met then .ok .nx [some (eW w, true), some (eM P, true), some (nI a, true), some (.dct ((met ++ [y]).map nI) (trus (met ++ [y])), true), some (.lst ((row ++ [y]).map nI), true), some (nI here, true), some (nI y, true)]
    else .ok .nx [some (eW w, true), some (eM P, true), some (nI a, true), some (.dct (met.map nI) (trus met), true), some (.lst (row.map nI), true), some (nI here, true), some (nI y, true)] := by
  unfold eM
  by_cases h1 : y ∈ P
  · by_cases h2 : y ∈ met
    · simp [turF, h1, h2]
    · have hp := put_new met (trus met) y (.bl true) (by simp [trus]) h2
      have hk := okKeyN met y
      have ht : trus met ++ [.bl true] = trus (met ++ [y]) := by simp [trus]
      rw [if_pos ⟨h1, h2⟩]
      simp [turF, h1, h2, stI, hk, hp, ht, hm, isLst, modL, gApp, hr]
  · simp [turF, h1]
theorem run_piece_ofL {T : Tab} [HasF T 6] [HasF T 7] (n : Nat) (w : W) (hw : w.Ok) (P : List Nat) (hP : Sor P) (hl : P.length ≤ 8) (a : Nat) (ha : a ∈ P) :
    run T (n + 2) 7 [(eW w, true), (eM P, true), (nI a, true)] = .ok (eL (cls w P a)) true [(eW w, true), (eM P, true), (nI a, true)] := by
  rw [run_has (d := d_piece_of) rfl rfl]
  have wl : w.ties.length ≤ line := by have := hw.len; unfold line; omega
  have big : ∀ {met row : List Nat}, Met w P a met row → met.length ≤ 8 := fun {met row} h => by
    have := nodup_sub met P h.nd fun x hx => (h.cn x hx).mem ha
    omega
  -- the inner loop
  have inner : ∀ (here : Nat) (met row : List Nat) (x6 : Slot), Met w P a met (here :: row) → row.length ≤ 100 →
      ∃ (add : List Nat) (x6' : Slot), forEv T (run T (n + 1)) (.nm 6) [.ife (.and (.bin .inn (.var 6) (.var 1)) (.bin .nin (.var 6) (.var 3))) [.sti 3 (.var 6) (.const (.bl true)), .exp (.app 4 (.var 6))] []] ((besideL w here).map nI) []
        [some (eW w, true), some (eM P, true), some (nI a, true), some (.dct (met.map nI) (trus met), true), some (.lst (row.map nI), true), some (nI here, true), x6] =
        .ok .nx [some (eW w, true), some (eM P, true), some (nI a, true), some (.dct ((met ++ add).map nI) (trus (met ++ add)), true), some (.lst ((row ++ add).map nI), true), some (nI here, true), x6'] ∧ Met w P a (met ++ add) (row ++ add) := by
    intro here met row x6 hM hrl
    obtain ⟨r', e, add, x6', rfl, i1, i2, i3, i4⟩ := for_n (T := T) (P := run T (n + 1)) (t := .nm 6) (enc := nI) (L := besideL w here)
      (body := [.ife (.and (.bin .inn (.var 6) (.var 1)) (.bin .nin (.var 6) (.var 3))) [.sti 3 (.var 6) (.const (.bl true)), .exp (.app 4 (.var 6))] []])
      (fun pre r => ∃ add x, r = [some (eW w, true), some (eM P, true), some (nI a, true), some (.dct ((met ++ add).map nI) (trus (met ++ add)), true), some (.lst ((row ++ add).map nI), true), some (nI here, true), x] ∧
        (met ++ add).Nodup ∧ (∀ x ∈ add, adj w here x ∧ x ∈ P) ∧ (∀ y ∈ pre, y ∈ P → y ∈ met ++ add) ∧ add.length ≤ pre.length)
      (fun pre y post r hsp ⟨add, x, hr, i1, i2, i3, i4⟩ => by
        subst hr
        have hy : adj w here y := (mem_beside hw).mp (by rw [hsp]; simp)
        have hpl : pre.length ≤ 28 := by
          have := congrArg List.length hsp
          have := beside_len hw here
          simp at *; omega
        have hml : (met ++ add).length < line := by
          have := big hM
          unfold line; simp; omega
        have hrl2 : (row ++ add).length < line := by unfold line; simp; omega
        rw [piece_turnL y (met ++ add) (row ++ add) x hml hrl2]
        by_cases c : y ∈ P ∧ y ∉ met ++ add
        · rw [if_pos c]
          refine ⟨_, rfl, add ++ [y], _, by rw [← List.append_assoc, ← List.append_assoc], ?_, ?_, ?_, by simp; omega⟩
          · rw [← List.append_assoc]
            refine List.nodup_append.mpr ⟨i1, by simp, fun z hz u hu => ?_⟩
            rw [List.mem_singleton.mp hu]; rintro rfl; exact c.2 hz
          · intro z hz
            rcases List.mem_append.mp hz with hz | hz
            · exact i2 z hz
            · rw [List.mem_singleton.mp hz]; exact ⟨hy, c.1⟩
          · intro z hz zp
            rw [← List.append_assoc]
            rcases List.mem_append.mp hz with hz | hz
            · exact List.mem_append_left _ (i3 z hz zp)
            · rw [List.mem_singleton.mp hz]; simp
        · rw [if_neg c]
          refine ⟨_, rfl, add, _, rfl, i1, i2, ?_, by simp; omega⟩
          intro z hz zp
          rcases List.mem_append.mp hz with hz | hz
          · exact i3 z hz zp
          · rw [List.mem_singleton.mp hz] at zp ⊢
            by_cases d : y ∈ met ++ add
            · exact d
            · exact absurd ⟨zp, d⟩ c)
      (r := [some (eW w, true), some (eM P, true), some (nI a, true), some (.dct (met.map nI) (trus met), true), some (.lst (row.map nI), true), some (nI here, true), x6])
      ⟨[], x6, by simp, by simpa using hM.nd, by simp, by simp, by simp⟩
    refine ⟨add, x6', e, ⟨i1, List.mem_append_left _ hM.st, fun x hx => ?_, fun x hx => ?_, fun x hx hn y hxy hyP => ?_⟩⟩
    · rcases List.mem_append.mp hx with hx | hx
      · exact hM.cn x hx
      · exact (hM.cn here (hM.rw here (by simp))).step (i2 x hx).1 (i2 x hx).2
    · rcases List.mem_append.mp hx with hx | hx
      · exact List.mem_append_left _ (hM.rw x (by simp [hx]))
      · exact List.mem_append_right _ hx
    · rcases List.mem_append.mp hx with hx | hx
      · by_cases eh : x = here
        · subst eh; exact i3 y ((mem_beside hw).mpr hxy) hyP
        · refine List.mem_append_left _ (hM.cl x hx (fun z => ?_) y hxy hyP)
          rcases List.mem_cons.mp z with z | z
          · exact eh z
          · exact hn (List.mem_append_left _ z)
      · exact absurd (List.mem_append_right _ hx) hn
  -- the outer loop
  obtain ⟨r', e, met, x5, x6, rfl, hM⟩ := whl_r (T := T) (P := run T (n + 1)) (c := .bin .ne (.var 4) (.lstd []))
    (b := [.asg (.nm 5) (.pop 4), .fr (.nm 6) .seq (.call 6 [.var 0, .var 5]) (.const .non) [.ife (.and (.bin .inn (.var 6) (.var 1)) (.bin .nin (.var 6) (.var 3))) [.sti 3 (.var 6) (.const (.bl true)), .exp (.app 4 (.var 6))] []] false])
    (fun m r => ∃ met row x5 x6, r = [some (eW w, true), some (eM P, true), some (nI a, true), some (.dct (met.map nI) (trus met), true), some (.lst (row.map nI), true), x5, x6] ∧ Met w P a met row ∧ m = 2 * (8 - met.length) + row.length ∧ row.length ≤ met.length)
    (fun r => ∃ met x5 x6, r = [some (eW w, true), some (eM P, true), some (nI a, true), some (.dct (met.map nI) (trus met), true), some (.lst [], true), x5, x6] ∧ Met w P a met [])
    (fun m r ⟨met, row, x5, x6, hr, hM, hm, hrl⟩ => by
      subst hr
      have hne := lst_ne_nil row
      rcases List.eq_nil_or_concat row with rfl | ⟨row', here, rfl⟩
      · rw [List.map_nil] at hne
        exact .inl ⟨_, by simp [hne], met, x5, x6, rfl, hM⟩
      · right
        rw [List.concat_eq_append] at *
        have hM' : Met w P a met (here :: row') := ⟨hM.nd, hM.st, hM.cn, fun x hx => hM.rw x (by simp at hx ⊢; exact hx.symm), fun x hx hn => hM.cl x hx (by simp at hn ⊢; exact ⟨hn.2, hn.1⟩)⟩
        have hb := big hM'
        simp only [List.length_append, List.length_cons, List.length_nil] at hrl hm
        obtain ⟨add, x6', ei, hM2⟩ := inner here met row' x6 hM' (by omega)
        have hb2 := big hM2
        simp only [List.length_append] at hb2
        have hpop : modL 4 gPop [some (eW w, true), some (eM P, true), some (nI a, true), some (.dct (met.map nI) (trus met), true), some (.lst ((row' ++ [here]).map nI), true), x5, x6] =
            .ok (nI here, .frz) [some (eW w, true), some (eM P, true), some (nI a, true), some (.dct (met.map nI) (trus met), true), some (.lst (row'.map nI), true), x5, x6] := by simp [modL, gPop]
        have hbs := run_beside (T := T) n w here wl
        have hll : (besideL w here).length ≤ line := by have := beside_len hw here; unfold line; omega
        refine ⟨[some (eW w, true), some (eM P, true), some (nI a, true), some (.dct (met.map nI) (trus met), true), some (.lst ((row' ++ [here]).map nI), true), x5, x6], [some (eW w, true), some (eM P, true), some (nI a, true), some (.dct ((met ++ add).map nI) (trus (met ++ add)), true), some (.lst ((row' ++ add).map nI), true), some (nI here, true), x6'], 2 * (8 - (met ++ add).length) + (row' ++ add).length, ?_, ?_, ⟨met ++ add, row' ++ add, some (nI here, true), x6', rfl, hM2, rfl, by simp; omega⟩, by simp; omega⟩
        · simp [hne, -List.map_append]
        · simp [hpop, hbs, ei, -List.map_append]) 5000 15 [some (eW w, true), some (eM P, true), some (nI a, true), some (.dct [nI a] [.bl true], true), some (.lst [nI a], true), none, none]
    ⟨[a], [a], none, none, rfl, ⟨by simp, by simp, fun x hx => by rw [List.mem_singleton.mp hx]; exact .refl, fun x hx => hx, fun x hx hn => absurd hx hn⟩, rfl, by simp⟩ (by decide)
  have e' : whlEv T (run T (n + 1)) (.bin .ne (.var 4) (.lstd [])) [.asg (.nm 5) (.pop 4), .fr (.nm 6) .seq (.call 6 [.var 0, .var 5]) (.const .non) [.ife (.and (.bin .inn (.var 6) (.var 1)) (.bin .nin (.var 6) (.var 3))) [.sti 3 (.var 6) (.const (.bl true)), .exp (.app 4 (.var 6))] []] false] turns _ = _ := e
  have hd := hM.done ha hP
  simp [d_piece_of, isInt, e', hd]
  rfl
end PQ

set_option linter.all false
set_option maxRecDepth 100000
namespace PQ
open PL
open PV
/-! ## rankings: plain mathematics -/
def rk (g : List Nat) (x : Nat) : Nat := (g[x]?).getD 0
def lowL (m : Nat) (g : List Nat) (r : Nat) : List Nat := (List.range m).filter fun x => decide (rk g x ≤ r)
theorem mem_low {m : Nat} {g : List Nat} {r x : Nat} : x ∈ lowL m g r ↔ x < m ∧ rk g x ≤ r := by unfold lowL; rw [List.mem_filter, List.mem_range]; simp
theorem low_sor (m : Nat) (g : List Nat) (r : Nat) : Sor (lowL m g r) := List.Pairwise.filter _ (range_sor m)
/-- a ranking of a web -/
def isRk (w : W) (g : List Nat) : Prop := ∀ a b, a < w.many → b < w.many → a ≠ b → rk g a = rk g b → ¬ Cn w (lowL w.many g (rk g a)) a b
theorem up_drop {m : Nat} {f : List (Option Nat)} (h : Tr m f) : ∀ (j x y : Nat), x < m → it f j (some x) = some y → (up f x).length = (up f y).length + j
  | 0, x, y, _, e => by cases e; rfl
  | j + 1, x, y, hx, e => by
    rw [it] at e
    cases hs : stp f (some x) with
    | none => rw [hs, it_none] at e; cases e
    | some z =>
      rw [hs] at e
      have hz := stp_lt h.lt hs
      rw [up_step h hx hs, List.length_cons, up_drop h j z y hz e]
      omega
/-- the ranks of a tree -/
theorem tree_ranks {w : W} (hw : w.Ok) {f : List (Option Nat)} (h : isTr w f) {g : List Nat} {t : Nat} (hg : ∀ x, x < w.many → rk g x + (up f x).length = t) : isRk w g := by
  intro a b ha hb hab hr hc
  have tr := h.1
  have key : ∀ c, Cn w (lowL w.many g (rk g a)) a c → c < w.many ∧ (up f a).length ≤ (up f c).length ∧ it f ((up f c).length - (up f a).length) (some c) = some a := by
    intro c hc
    induction hc with
    | refl => exact ⟨ha, Nat.le_refl _, by rw [Nat.sub_self]; rfl⟩
    | @step c e _ hadj he ih =>
      obtain ⟨hc1, hc2, hc3⟩ := ih
      have hem := mem_low.mp he
      have h1 := hg a ha
      have h2 := hg e hem.1
      have hle : (up f a).length ≤ (up f e).length := by omega
      refine ⟨hem.1, hle, ?_⟩
      have cmp : e ∈ up f c ∨ c ∈ up f e := by
        rcases hadj with z | z
        · exact (h.2 _ z).symm
        · exact h.2 _ z
      rcases cmp with z | z
      · obtain ⟨j, _, ej⟩ := (mem_up tr hc1).mp z
        have hd := up_drop tr j c e hc1 ej
        have := it_add f j ((up f e).length - (up f a).length) (some c)
        rw [ej] at this
        rw [← this, ← hc3]
        congr 1; omega
      · obtain ⟨j, _, ej⟩ := (mem_up tr hem.1).mp z
        have hd := up_drop tr j e c hem.1 ej
        have := it_add f j ((up f c).length - (up f a).length) (some e)
        rw [ej, hc3] at this
        rw [← this]
        congr 1; omega
  obtain ⟨_, h2, h3⟩ := key b hc
  have e1 := hg a ha
  have e2 := hg b hb
  have : (up f b).length - (up f a).length = 0 := by omega
  rw [this] at h3
  cases h3
  exact hab rfl
end PQ

set_option linter.all false
set_option maxRecDepth 100000
namespace PQ
open PL
open PV
/-! ## are_ranks -/
def okR (v : PV) : Bool := isWhole v 1 8
theorem isWhole18 {v : PV} (h : okR v = true) : ∃ p : Nat, v = nI p ∧ 1 ≤ p ∧ p ≤ 8 := by
  unfold okR at h
  cases v <;> simp [isWhole] at h
  rename_i i
  exact ⟨i.toNat, by rw [nI, Int.toNat_of_nonneg (by omega)], by omega, by omega⟩
theorem okR_nat (p : Nat) : okR (nI p) = decide (1 ≤ p ∧ p ≤ 8) := by
  unfold okR
  rw [Bool.eq_iff_iff]
  simp [isWhole]; omega
theorem okR_all : ∀ {l : List PV}, (l.all okR) = true → ∃ g : List Nat, l = g.map nI ∧ ∀ y ∈ g, 1 ≤ y ∧ y ≤ 8
  | [], _ => ⟨[], rfl, by simp⟩
  | v :: l, h => by
    rw [List.all_cons, Bool.and_eq_true] at h
    obtain ⟨g, rfl, hg⟩ := okR_all h.2
    obtain ⟨p, rfl, hp⟩ := isWhole18 h.1
    exact ⟨p :: g, rfl, fun y hy => by rcases List.mem_cons.mp hy with rfl | hy; exact hp; exact hg y hy⟩
theorem okR_map {g : List Nat} (h : ∀ y ∈ g, 1 ≤ y ∧ y ≤ 8) : ((g.map nI).all okR) = true := by
  rw [List.all_eq_true]
  intro v hv
  obtain ⟨y, hy, rfl⟩ := List.mem_map.mp hv
  rw [okR_nat]; simpa using h y hy
theorem run_ranks_head {T : Tab} [HasF T 0] (n : Nat) (w : W) (l : List PV) (hm : ∀ v ∈ l, v.isM = false ∧ tyOk v = true) :
    compEv T (run T (n + 1)) (.call 0 [.var 5, .const (.int 1), .const (.int 8)]) (.nm 5) [] [5] l [] [some (eW w, true), some (.tup l, true), none, none, none, none] =
      .ok (.lst (l.map fun v => PV.bl (okR v)), .own) [some (eW w, true), some (.tup l, true), none, none, none, none] := by
  have hc : compEv T (run T (n + 1)) (.call 0 [.var 5, .const (.int 1), .const (.int 8)]) (.nm 5) [] [5] (l.map id) [] [some (eW w, true), some (.tup l, true), none, none, none, none] =
      .ok (.lst (l.map fun v => PV.bl (okR v)), .own) [some (eW w, true), some (.tup l, true), none, none, none, none] := by
    rw [comp_p (fun v : PV => some (PV.bl (okR v))) fun v hv => ⟨[some (eW w, true), some (.tup l, true), none, none, none, some (v, true)], ?_, by simp [wipeS]⟩]
    · rw [fm_some]
    · have e := run_is_whole (T := T) n v 1 8 (hm v hv).1 (hm v hv).2
      simp [turC, wipeS, e, (hm v hv).1, okR]
  rw [List.map_id] at hc
  exact hc
theorem run_ranks_no {T : Tab} [HasF T 0] [HasF T 36] (n : Nat) (w : W) (l : List PV) (hl : l.length ≤ 9) (hm : ∀ v ∈ l, v.isM = false ∧ tyOk v = true) (h : l.length ≠ w.many ∨ l.all okR = false) :
    run T (n + 2) 36 [(eW w, true), (.tup l, true)] = .ok (.bl false) true [(eW w, true), (.tup l, true)] := by
  rw [run_has (d := d_are_ranks) rfl rfl]
  have hll : l.length ≤ line := by unfold line; omega
  by_cases c : l.length = w.many
  · have h2 := h.resolve_left fun z => z c
    have hc := run_ranks_head (T := T) n w l hm
    have hb := bools_map okR l
    have ha : ((l.map okR).all id) = false := by rw [List.all_map]; exact h2
    have c' : (l.length : Int) = w.many := by omega
    simp [d_are_ranks, c', hll, hc, hb, ha, -List.all_map]
  · have c' : ¬ (l.length : Int) = w.many := by omega
    simp [d_are_ranks, c']
theorem ix_g {g : List Nat} {x : Nat} (h : x < g.length) : index (eL g) (nI x) = some (nI (rk g x)) := by
  show (pidx (x : Int) (g.map nI).length).bind _ = _
  have : pidx (x : Int) (g.map nI).length = some x := by simp [pidx, h]
  rw [this]
  simp [rk, List.getElem?_eq_getElem h]
open Classical in
theorem run_are_ranks {T : Tab} [HasF T 0] [HasF T 6] [HasF T 7] [HasF T 36] (n : Nat) (w : W) (hw : w.Ok) (g : List Nat) (hl : g.length = w.many) (hg : ∀ y ∈ g, 1 ≤ y ∧ y ≤ 8) :
    run T (n + 3) 36 [(eW w, true), (eL g, true)] = .ok (.bl (decide (isRk w g))) true [(eW w, true), (eL g, true)] := by
  have hhi := hw.hi
  rw [run_has (d := d_are_ranks) rfl rfl]
  have hll : g.length ≤ line := by unfold line; omega
  have hml : w.many ≤ line := by unfold line; omega
  have hc := run_ranks_head (T := T) (n + 1) w (g.map nI) (fun v hv => by obtain ⟨o, _, rfl⟩ := List.mem_map.mp hv; exact ⟨by simp, by simp⟩)
  have hb := bools_map okR (g.map nI)
  have ha : (((g.map nI).map okR).all id) = true := by rw [List.all_map]; exact okR_map hg
  have c' : (g.length : Int) = w.many := by omega
  have ro := rngOk_0 (b := w.many) (by omega)
  have key := for_r (T := T) (P := run T (n + 2)) (t := .nm 2) (enc := nI) (L := List.range w.many) (body := [.asg (.nm 3) (.comp (.var 4) (.nm 4) .rng (.const (.int 0)) (.ix (.var 0) (.const (.int 0))) [.bin .le (.ix (.var 1) (.var 4)) (.ix (.var 1) (.var 2))] [4] false), .ife (.b1 .any (.comp (.bin .eq (.ix (.var 1) (.var 4)) (.ix (.var 1) (.var 2))) (.nm 4) .seq (.call 7 [.var 0, .var 3, .var 2]) (.const .non) [.bin .ne (.var 4) (.var 2)] [4] false)) [.ret (.const (.bl false))] []])
    (fun pre r => (∃ x2 x3 : Slot, r = [some (eW w, true), some (eL g, true), x2, x3, none, none]) ∧ ∀ a ∈ pre, ∀ b, b < w.many → a ≠ b → rk g a = rk g b → ¬ Cn w (lowL w.many g (rk g a)) a b)
    (fun v fl r => (∃ x2 x3 : Slot, r = [some (eW w, true), some (eL g, true), x2, x3, none, none]) ∧ v = .bl false ∧ fl = .own ∧ ¬ isRk w g)
    (fun pre a post r hsp ⟨⟨x2, x3, hr⟩, hp⟩ => by
      subst hr
      have ham : a < w.many := List.mem_range.mp (by rw [hsp]; simp)
      have ia := ix_g (g := g) (x := a) (by omega)
      have hc1 : compEv T (run T (n + 2)) (.var 4) (.nm 4) [.bin .le (.ix (.var 1) (.var 4)) (.ix (.var 1) (.var 2))] [4] ((List.range w.many).map nI) [] [some (eW w, true), some (eL g, true), some (nI a, true), x3, none, none] =
          .ok (eM (lowL w.many g (rk g a)), .own) [some (eW w, true), some (eL g, true), some (nI a, true), x3, none, none] := by
        rw [comp_p (fun x : Nat => if rk g x ≤ rk g a then some (nI x) else none) fun x hx => ⟨[some (eW w, true), some (eL g, true), some (nI a, true), x3, some (nI x, true), none], ?_, by simp [wipeS]⟩]
        · rw [fm_if]; rfl
        · have ix := ix_g (g := g) (x := x) (by have := List.mem_range.mp hx; omega)
          by_cases c : rk g x ≤ rk g a
          · have c2 : (rk g x : Int) ≤ rk g a := by omega
            simp [turC, wipeS, ia, ix, c, c2]
          · have c2 : ¬ (rk g x : Int) ≤ rk g a := by omega
            simp [turC, wipeS, ia, ix, c, c2]
      have hP8 : (lowL w.many g (rk g a)).length ≤ 8 := nodup_len 8 _ (low_sor _ _ _).nodup fun x hx => by have := (mem_low.mp hx).1; omega
      have hpo := run_piece_ofL (T := T) n w hw (lowL w.many g (rk g a)) (low_sor _ _ _) hP8 a (mem_low.mpr ⟨ham, Nat.le_refl _⟩)
      have hcl : (cls w (lowL w.many g (rk g a)) a).length ≤ line := by
        have : (cls w (lowL w.many g (rk g a)) a).length ≤ (lowL w.many g (rk g a)).length := List.length_filter_le _ _
        unfold line; omega
      have hmem : ∀ b, b ∈ cls w (lowL w.many g (rk g a)) a ↔ b < w.many ∧ rk g b ≤ rk g a ∧ Cn w (lowL w.many g (rk g a)) a b := fun b => by rw [mem_cls, mem_low, and_assoc]
      generalize hC : cls w (lowL w.many g (rk g a)) a = C at *
      have hc2 : compEv T (run T (n + 2)) (.bin .eq (.ix (.var 1) (.var 4)) (.ix (.var 1) (.var 2))) (.nm 4) [.bin .ne (.var 4) (.var 2)] [4] (C.map nI) [] [some (eW w, true), some (eL g, true), some (nI a, true), some (eM (lowL w.many g (rk g a)), true), none, none] =
          .ok (.lst ((C.filter fun x => decide (x ≠ a)).map fun x => PV.bl (decide (rk g x = rk g a))), .own) [some (eW w, true), some (eL g, true), some (nI a, true), some (eM (lowL w.many g (rk g a)), true), none, none] := by
        rw [comp_p (fun x : Nat => if x ≠ a then some (PV.bl (decide (rk g x = rk g a))) else none) fun x hx => ⟨[some (eW w, true), some (eL g, true), some (nI a, true), some (eM (lowL w.many g (rk g a)), true), some (nI x, true), none], ?_, by simp [wipeS]⟩]
        · rw [fm_if]
        · have ix := ix_g (g := g) (x := x) (by have := (hmem x).mp hx; omega)
          by_cases c : x = a
          · subst c; simp [turC, wipeS]
          · have c2 : ¬ (x : Int) = a := by omega
            have c3 : ((rk g x : Int) = (rk g a : Int)) = (rk g x = rk g a) := by rw [eq_iff_iff]; omega
            simp [turC, wipeS, ia, ix, c, c2, c3]
      have hb2 := bools_map (fun x => decide (rk g x = rk g a)) (C.filter fun x => decide (x ≠ a))
      have sk : ∀ r : Env, setS 3 (eM (lowL w.many g (rk g a))) .own r = some (r.set 3 (some (eM (lowL w.many g (rk g a)), true))) := fun r => by unfold eM; simp
      have sqC : ∀ (r : Env) (fl : Fl), seqOf false (eL C) fl r [] = some (C.map nI, r, []) := fun r fl => by unfold eL; simp
      have hP : ∃ Z, eM (lowL w.many g (rk g a)) = .lst Z := ⟨_, rfl⟩
      by_cases bad : ∃ b ∈ C, b ≠ a ∧ rk g b = rk g a
      · obtain ⟨b, h1, h2, h3⟩ := bad
        have hb3 : ((C.filter fun x => decide (x ≠ a)).map fun x => decide (rk g x = rk g a)).any id = true := by
          rw [List.any_map, List.any_eq_true]
          exact ⟨b, List.mem_filter.mpr ⟨h1, by simpa using h2⟩, by simpa using h3⟩
        have hbb := (hmem b).mp h1
        refine .inr ⟨.bl false, .own, [some (eW w, true), some (eL g, true), some (nI a, true), some (eM (lowL w.many g (rk g a)), true), none, none], ?_, ⟨_, _, rfl⟩, rfl, rfl, fun h => h a b ham hbb.1 (fun e => h2 e.symm) h3.symm hbb.2.2⟩
        generalize (C.filter fun x => decide (x ≠ a)).map (fun x => PV.bl (decide (rk g x = rk g a))) = BL at *
        generalize (C.filter fun x => decide (x ≠ a)).map (fun x => decide (rk g x = rk g a)) = BB at *
        obtain ⟨Z, hZ⟩ := hP
        simp only [hZ] at hc1 hpo hc2 sk ⊢
        simp [turF, ro, rngL0, hml, hc1, hpo, sqC, hcl, hc2, hb2, hb3]
      · have hb3 : ((C.filter fun x => decide (x ≠ a)).map fun x => decide (rk g x = rk g a)).any id = false := by
          rw [List.any_map, List.any_eq_false]
          intro b hb
          have h1 := List.mem_filter.mp hb
          have : ¬ rk g b = rk g a := fun z => bad ⟨b, h1.1, by simpa using h1.2, z⟩
          simpa using this
        refine .inl ⟨[some (eW w, true), some (eL g, true), some (nI a, true), some (eM (lowL w.many g (rk g a)), true), none, none], ?_, ⟨_, _, rfl⟩, fun x hx => ?_⟩
        · generalize (C.filter fun x => decide (x ≠ a)).map (fun x => PV.bl (decide (rk g x = rk g a))) = BL at *
          generalize (C.filter fun x => decide (x ≠ a)).map (fun x => decide (rk g x = rk g a)) = BB at *
          obtain ⟨Z, hZ⟩ := hP
          simp only [hZ] at hc1 hpo hc2 sk ⊢
          simp [turF, ro, rngL0, hml, hc1, hpo, sqC, hcl, hc2, hb2, hb3]
        · rcases List.mem_append.mp hx with hx | hx
          · exact hp x hx
          · rw [List.mem_singleton.mp hx]
            intro b hbm hne hrr hcn
            exact bad ⟨b, (hmem b).mpr ⟨hbm, by omega, hcn⟩, fun e => hne e.symm, hrr.symm⟩)
    (r := [some (eW w, true), some (eL g, true), none, none, none, none])
    ⟨⟨none, none, rfl⟩, by simp⟩
  have eE : eL g = .tup (g.map nI) := rfl
  have len : b1op .len (eL g) = some (.int (g.length : Int)) := by rw [eE]; simp
  have isT : tyIs (eL g) .tuple = some true := rfl
  have sq : ∀ r : Env, ∀ fl : Fl, seqOf true (eL g) fl r [] = some (g.map nI, r, []) := fun r fl => by rw [eE]; simp
  rw [← eE] at hc
  rcases key with ⟨r', e, ⟨x2, x3, rfl⟩, hp⟩ | ⟨v, fl, r', e, ⟨x2, x3, rfl⟩, rfl, rfl, hn⟩
  · rw [decide_eq_true (show isRk w g from fun a b ha hb hne hr => hp a (List.mem_range.mpr ha) b hb hne hr)]
    simp [d_are_ranks, isT, len, c', sq, hll, hc, hb, ha, ro, rngL0, hml, e, -List.all_map, -List.map_map]
  · rw [decide_eq_false hn]
    simp [d_are_ranks, isT, len, c', sq, hll, hc, hb, ha, ro, rngL0, hml, e, -List.all_map, -List.map_map]
end PQ

set_option linter.all false
set_option maxRecDepth 100000
namespace PQ
open PL
open PV
/-! ## rankings, rank by rank -/
def twice (g : List Nat) (r : Nat) (x : List Nat) : Bool := decide (1 < x.countP fun p => decide (rk g p = r))
theorem two_of {l : List Nat} (hn : l.Nodup) (p : Nat → Bool) : 1 < l.countP p ↔ ∃ a ∈ l, ∃ b ∈ l, a ≠ b ∧ p a = true ∧ p b = true := by
  rw [List.countP_eq_length_filter]
  have hf : (l.filter p).Nodup := List.Nodup.sublist List.filter_sublist hn
  have hm : ∀ a, a ∈ l.filter p ↔ a ∈ l ∧ p a = true := fun a => List.mem_filter
  generalize l.filter p = m at *
  constructor
  · intro h
    match m, h, hf, hm with
    | a :: b :: m, _, hf, hm =>
      have h1 := (hm a).mp (by simp)
      have h2 := (hm b).mp (by simp)
      refine ⟨a, h1.1, b, h2.1, fun e => ?_, h1.2, h2.2⟩
      rw [List.nodup_cons] at hf
      exact hf.1 (by simp [e])
  · rintro ⟨a, ha, b, hb, hab, pa, pb⟩
    have h1 := (hm a).mpr ⟨ha, pa⟩
    have h2 := (hm b).mpr ⟨hb, pb⟩
    have := nodup_sub [a, b] m (by simp [hab]) fun x hx => by
      simp at hx
      rcases hx with rfl | rfl
      · exact h1
      · exact h2
    simp at this; omega
theorem rk_mem {g : List Nat} {x : Nat} (h : x < g.length) : rk g x ∈ g := by
  unfold rk; rw [List.getElem?_eq_getElem h]; exact List.getElem_mem h
theorem isRk_iff {w : W} {g : List Nat} (hl : g.length = w.many) (hg : ∀ y ∈ g, 1 ≤ y ∧ y ≤ 8) :
    isRk w g ↔ ∀ r ∈ List.range' 1 8, ∀ x ∈ pcs w (lowL w.many g r), twice g r x = false := by
  constructor
  · intro h r _ x hx
    unfold twice
    rw [decide_eq_false_iff_not]
    intro ht
    have hP := low_sor w.many g r
    have sx := pcs_subs hP hx
    obtain ⟨a, ha, b, hb, hab, pa, pb⟩ := (two_of sx.1.nodup _).mp ht
    have pa : rk g a = r := by simpa using pa
    have pb : rk g b = r := by simpa using pb
    obtain ⟨c, hc, rfl⟩ := mem_pcs.mp hx
    have h1 := mem_cls.mp ha
    have h2 := mem_cls.mp hb
    have := h a b (mem_low.mp h1.1).1 (mem_low.mp h2.1).1 hab (pa.trans pb.symm)
    rw [pa] at this
    exact this ((h1.2.sym hc).trans h2.2)
  · intro h a b ha hb hab hr hc
    have hra := hg _ (rk_mem (g := g) (x := a) (by omega))
    have hP := low_sor w.many g (rk g a)
    have haP : a ∈ lowL w.many g (rk g a) := mem_low.mpr ⟨ha, Nat.le_refl _⟩
    have := h (rk g a) (by rw [List.mem_range'_1]; omega) _ (mem_pcs.mpr ⟨a, haP, rfl⟩)
    unfold twice at this
    rw [decide_eq_false_iff_not] at this
    exact this ((two_of (cls_sor hP a).nodup _).mpr ⟨a, cls_self haP, b, mem_cls.mpr ⟨mem_low.mpr ⟨hb, by omega⟩, hc⟩, hab, by simp, by simpa using hr.symm⟩)
theorem cnt_N (l : List Nat) (r : Nat) : binop .cnt (.lst (l.map nI)) (nI r) = some (.int ((l.countP fun x => decide (x = r) : Nat) : Int)) := by
  have h1 := dats_N l
  have h2 := deps_N l
  have h3 : ∀ x : Nat, peq (nI x) (nI r) = decide (x = r) := fun x => by rw [Bool.eq_iff_iff]; exact (encN.peq_ x r).trans (by simp)
  have h4 : (l.map nI).countP (fun x => peq x (nI r)) = l.countP fun x => decide (x = r) := by
    rw [List.countP_map]
    congr 1
    funext x
    exact h3 x
  show (if (dat (nI r) && dats (l.map nI) && decide (dep (nI r) ≤ 8) && decide (deps (l.map nI) ≤ 8)) = true then some (PV.int (((l.map nI).countP fun x => peq x (nI r) : Nat) : Int)) else none) = _
  rw [h4, h1]
  have h5 : deps (l.map nI) ≤ 8 := by omega
  simp [dat, dep, h5]
theorem rngL1 (n : Nat) : rngL 1 n = (List.range' 1 n).map nI := rngL_map 1 n
end PQ

set_option linter.all false
set_option maxRecDepth 100000
namespace PQ
open PL
open PV
/-! ## turns of comprehensions, without a witness -/
def turO (own : List Nat) : R (Option PV) → Option (Option PV × Env)
  | .ok v r => some (v, wipeS own r)
  | _ => none
@[simp] theorem turO_ok (own : List Nat) (v : Option PV) (r : Env) : turO own (.ok v r) = some (v, wipeS own r) := rfl
theorem turO_ex {own : List Nat} {x : R (Option PV)} {v : Option PV} {r : Env} (h : turO own x = some (v, r)) : ∃ r', x = .ok v r' ∧ wipeS own r' = r := by
  cases x with
  | ok a r' => simp at h; exact ⟨r', by rw [h.1], h.2⟩
  | exc c r' => cases h
  | bad => cases h
section
variable {A : Type} {T : Tab} {P : Fns} {elt : Ex} {t : Tg} {cs : List Ex} {own : List Nat} {r1 : Env} {enc : A → PV}
theorem comp_q (h : A → Option PV) {L : List A} (H : ∀ x ∈ L, turO own (turC T P elt t cs own (enc x) (wipeS own r1)) = some (h x, wipeS own r1)) :
    compEv T P elt t cs own (L.map enc) [] r1 = .ok (.lst (L.filterMap h), .own) r1 := comp_p h fun x hx => turO_ex (H x hx)
/-- one value for each -/
theorem comp_m (f : A → PV) {L : List A} (H : ∀ x ∈ L, turO own (turC T P elt t cs own (enc x) (wipeS own r1)) = some (some (f x), wipeS own r1)) :
    compEv T P elt t cs own (L.map enc) [] r1 = .ok (.lst (L.map f), .own) r1 := by
  rw [comp_q (fun x => some (f x)) H, fm_some]
/-- a value for some -/
theorem comp_f (p : A → Prop) [DecidablePred p] (f : A → PV) {L : List A} (H : ∀ x ∈ L, turO own (turC T P elt t cs own (enc x) (wipeS own r1)) = some (if p x then some (f x) else none, wipeS own r1)) :
    compEv T P elt t cs own (L.map enc) [] r1 = .ok (.lst ((L.filter fun a => decide (p a)).map f), .own) r1 := by
  rw [comp_q (fun x => if p x then some (f x) else none) H, fm_if]
variable {j : Nat} {v : PV}
theorem comp_qh (h : A → Option PV) {L : List A} (hj : PL.get r1 j = none) (H : ∀ x ∈ L, turO own (turC T P elt t cs own (enc x) (wipeS own r1)) = some (h x, wipeS own r1)) :
    compEv T P elt t cs own (L.map enc) [(j, v)] r1 = .ok (.lst (L.filterMap h), .own) (r1.set j (some (v, true))) := comp_h h hj fun x hx => turO_ex (H x hx)
theorem comp_mh (f : A → PV) {L : List A} (hj : PL.get r1 j = none) (H : ∀ x ∈ L, turO own (turC T P elt t cs own (enc x) (wipeS own r1)) = some (some (f x), wipeS own r1)) :
    compEv T P elt t cs own (L.map enc) [(j, v)] r1 = .ok (.lst (L.map f), .own) (r1.set j (some (v, true))) := by
  rw [comp_qh (fun x => some (f x)) hj H, fm_some]
theorem comp_fh (p : A → Prop) [DecidablePred p] (f : A → PV) {L : List A} (hj : PL.get r1 j = none) (H : ∀ x ∈ L, turO own (turC T P elt t cs own (enc x) (wipeS own r1)) = some (if p x then some (f x) else none, wipeS own r1)) :
    compEv T P elt t cs own (L.map enc) [(j, v)] r1 = .ok (.lst ((L.filter fun a => decide (p a)).map f), .own) (r1.set j (some (v, true))) := by
  rw [comp_qh (fun x => if p x then some (f x) else none) hj H, fm_if]
end
section
variable {A S : Type} {T : Tab} {P : Fns} {t : Tg} {body : List St} {enc : A → PV}
/-- for, its state told -/
theorem for_s (E : S → Env) (f : S → A → S) (I : List A → S → Prop) {L : List A} (s0 : S) (h0 : I [] s0)
    (step : ∀ pre a post s, L = pre ++ a :: post → I pre s → turF T P t body (enc a) (E s) = .ok .nx (E (f s a)) ∧ I (pre ++ [a]) (f s a)) :
    forEv T P t body (L.map enc) [] (E s0) = .ok .nx (E (L.foldl f s0)) ∧ I L (L.foldl f s0) := by
  have : ∀ (post pre : List A) (s : S), L = pre ++ post → I pre s → forL (turF T P t body) (post.map enc) (E s) = .ok .nx (E (post.foldl f s)) ∧ I L (post.foldl f s) := by
    intro post
    induction post with
    | nil => intro pre s hL h; exact ⟨rfl, by rw [hL, List.append_nil]; exact h⟩
    | cons a post ih =>
      intro pre s hL h
      obtain ⟨e, h'⟩ := step pre a post s hL h
      rw [List.map_cons, forL, e]
      exact ih (pre ++ [a]) (f s a) (by simp [hL]) h'
  obtain ⟨e, h⟩ := this L [] s0 rfl h0
  refine ⟨?_, h⟩
  unfold forEv
  rw [e]
  simp [bnd, unhide]
end
/-- a thing that is told: one bool for each -/
theorem b1_allB {A : Type} (p : A → Bool) (l : List A) : b1op .all (.lst (l.map fun a => PV.bl (p a))) = some (.bl (l.all p)) := by
  have := bools_map p l
  show (bools (l.map fun a => PV.bl (p a))).map (fun b => PV.bl (b.all id)) = _
  rw [this]
  simp
theorem b1_anyB {A : Type} (p : A → Bool) (l : List A) : b1op .any (.lst (l.map fun a => PV.bl (p a))) = some (.bl (l.any p)) := by
  have := bools_map p l
  show (bools (l.map fun a => PV.bl (p a))).map (fun b => PV.bl (b.any id)) = _
  rw [this]
  simp
end PQ

set_option Elab.async false
set_option linter.all false
set_option maxRecDepth 100000
set_option maxHeartbeats 4000000
namespace Lw
open PySem L2 PL
open L2H (RoomH)
def top (i : Nat) : Stmt := PySem.Challenge.pw_topwebs_k07_rankings.main.body.getD i (.Pass ⟨0, 0, 0, 0⟩)
abbrev s_is_whole : Stmt := top 5
theorem sc_is_whole : FnScope ["thing", "low", "most"] ["thing", "low", "most"] (defScope s_is_whole) := ⟨rfl, rfl, rfl, by decide +kernel, rfl, by decide +kernel, by decide +kernel⟩
abbrev s_is_tie : Stmt := top 6
theorem sc_is_tie : FnScope ["thing", "many"] ["thing", "many"] (defScope s_is_tie) := ⟨rfl, rfl, rfl, by decide +kernel, rfl, by decide +kernel, by decide +kernel⟩
abbrev s_is_web : Stmt := top 7
theorem sc_is_web : FnScope ["thing", "tie"] ["thing"] (defScope s_is_web) := ⟨rfl, rfl, rfl, by decide +kernel, rfl, by decide +kernel, by decide +kernel⟩
abbrev s_need_web : Stmt := top 8
theorem sc_need_web : FnScope ["thing"] ["thing"] (defScope s_need_web) := ⟨rfl, rfl, rfl, by decide +kernel, rfl, by decide +kernel, by decide +kernel⟩
abbrev s_beside : Stmt := top 9
theorem sc_beside : FnScope ["web", "place", "a", "b"] ["web", "place"] (defScope s_beside) := ⟨rfl, rfl, rfl, by decide +kernel, rfl, by decide +kernel, by decide +kernel⟩
abbrev s_piece_of : Stmt := top 10
theorem sc_piece_of : FnScope ["web", "places", "start", "met", "row", "here", "other"] ["web", "places", "start"] (defScope s_piece_of) := ⟨rfl, rfl, rfl, by decide +kernel, rfl, by decide +kernel, by decide +kernel⟩
abbrev s_are_ranks : Stmt := top 12
theorem sc_are_ranks : FnScope ["web", "thing", "place", "low", "other", "rank"] ["web", "thing"] (defScope s_are_ranks) := ⟨rfl, rfl, rfl, by decide +kernel, rfl, by decide +kernel, by decide +kernel⟩
abbrev s_is_ranking : Stmt := top 13
theorem sc_is_ranking : FnScope ["web", "thing"] ["web", "thing"] (defScope s_is_ranking) := ⟨rfl, rfl, rfl, by decide +kernel, rfl, by decide +kernel, by decide +kernel⟩
abbrev s__law_cell_at : Stmt := top 15
theorem sc__law_cell_at : FnScope ["_law_script", "_law_k"] ["_law_script", "_law_k"] (defScope s__law_cell_at) := ⟨rfl, rfl, rfl, by decide +kernel, rfl, by decide +kernel, by decide +kernel⟩
abbrev s__law_mixed : Stmt := top 16
theorem sc__law_mixed : FnScope ["_law_script", "_law_k", "_law_many", "_law_drawn"] ["_law_script", "_law_k", "_law_many"] (defScope s__law_mixed) := ⟨rfl, rfl, rfl, by decide +kernel, rfl, by decide +kernel, by decide +kernel⟩
abbrev s__law_draw : Stmt := top 17
theorem sc__law_draw : FnScope ["_law_script", "_law_town", "_law_many"] ["_law_script", "_law_town", "_law_many"] (defScope s__law_draw) := ⟨rfl, rfl, rfl, by decide +kernel, rfl, by decide +kernel, by decide +kernel⟩
abbrev s__law_pick : Stmt := top 18
theorem sc__law_pick : FnScope ["_law_script", "_law_town", "_law_some"] ["_law_script", "_law_town", "_law_some"] (defScope s__law_pick) := ⟨rfl, rfl, rfl, by decide +kernel, rfl, by decide +kernel, by decide +kernel⟩
abbrev s__law_web : Stmt := top 19
theorem sc__law_web : FnScope ["_law_script", "_law_town", "_law_most", "_law_many", "_law_dense", "_law_ties", "_law_other", "_law_place"] ["_law_script", "_law_town", "_law_most"] (defScope s__law_web) := ⟨rfl, rfl, rfl, by decide +kernel, rfl, by decide +kernel, by decide +kernel⟩
abbrev s__law_tied : Stmt := top 23
theorem sc__law_tied : FnScope ["_law_web_here", "_law_one", "_law_other"] ["_law_web_here", "_law_one", "_law_other"] (defScope s__law_tied) := ⟨rfl, rfl, rfl, by decide +kernel, rfl, by decide +kernel, by decide +kernel⟩
abbrev s__law_pieces : Stmt := top 24
theorem sc__law_pieces : FnScope ["_law_web_here", "_law_places", "_law_made", "_law_place", "_law_near", "_law_joined", "_law_piece", "_law_other"] ["_law_web_here", "_law_places"] (defScope s__law_pieces) := ⟨rfl, rfl, rfl, by decide +kernel, rfl, by decide +kernel, by decide +kernel⟩
abbrev s__law_up : Stmt := top 20
theorem sc__law_up : FnScope ["_law_tree_here", "_law_place", "_law_made"] ["_law_tree_here", "_law_place"] (defScope s__law_up) := ⟨rfl, rfl, rfl, by decide +kernel, rfl, by decide +kernel, by decide +kernel⟩
abbrev s__law_plant : Stmt := top 21
theorem sc__law_plant : FnScope ["_law_script", "_law_town", "_law_web_here", "_law_places", "_law_parent", "_law_tree_here", "_law_piece", "_law_place", "_law_one"] ["_law_script", "_law_town", "_law_web_here", "_law_places", "_law_parent", "_law_tree_here"] (defScope s__law_plant) := ⟨rfl, rfl, rfl, by decide +kernel, rfl, by decide +kernel, by decide +kernel⟩
abbrev s__law_tree : Stmt := top 22
theorem sc__law_tree : FnScope ["_law_script", "_law_town", "_law_web_here", "_law_tree_here", "_law_made", "_law_tops", "_law_place"] ["_law_script", "_law_town", "_law_web_here"] (defScope s__law_tree) := ⟨rfl, rfl, rfl, by decide +kernel, rfl, by decide +kernel, by decide +kernel⟩
abbrev s__law_is_ranking : Stmt := top 25
theorem sc__law_is_ranking : FnScope ["_law_web_here", "_law_thing", "_law_rank", "_law_low", "_law_piece", "_law_one", "_law_place"] ["_law_web_here", "_law_thing"] (defScope s__law_is_ranking) := ⟨rfl, rfl, rfl, by decide +kernel, rfl, by decide +kernel, by decide +kernel⟩
def d__law_is_ranking : FD := ⟨2, 7, [], [.ife (.or (.nt (.isin (.var 1) .tuple)) (.bin .ne (.b1 .len (.var 1)) (.ix (.var 0) (.const (.int 0))))) [.ret (.const (.bl false))] [], .ife (.nt (.b1 .all (.comp (.and (.isin (.var 5) .int) (.and (.nt (.isin (.var 5) .bool)) (.ch .le .le (.const (.int 1)) (.var 5) (.const (.int 8))))) (.nm 5) .seq (.var 1) (.const .non) [] [5] true))) [.ret (.const (.bl false))] [], .fr (.nm 2) .rng (.const (.int 1)) (.const (.int 9)) [.asg (.nm 3) (.b1 .tuple (.comp (.var 6) (.nm 6) .rng (.const (.int 0)) (.ix (.var 0) (.const (.int 0))) [.bin .le (.ix (.var 1) (.var 6)) (.var 2)] [6] false)), .fr (.nm 4) .seq (.call 106 [.var 0, .var 3]) (.const .non) [.ife (.bin .gt (.bm .cnt (.comp (.ix (.var 1) (.var 6)) (.nm 6) .seq (.var 4) (.const .non) [] [6] true) (.var 2)) (.const (.int 1))) [.ret (.const (.bl false))] []] false] false, .ret (.const (.bl true))]⟩
abbrev s_law : Stmt := top 26
theorem sc_law : FnScope ["_law_script", "_law_town", "_law_web_here", "_law_tree_here", "_law_heights", "_law_ranks", "_law_k", "_law_bad", "_law_at", "_law_news", "_law_rank", "_law_place", "_law_one"] ["_law_script"] (defScope s_law) := ⟨rfl, rfl, rfl, by decide +kernel, rfl, by decide +kernel, by decide +kernel⟩
def d_law : FD := ⟨1, 13, [], [.asg (.nm 1) (.lstd []), .asg (.nm 2) (.call 104 [.var 0, .var 1, .const (.int 8)]), .asg (.nm 3) (.call 109 [.var 0, .var 1, .var 2]), .asg (.nm 4) (.comp (.b1 .len (.call 107 [.var 3, .var 11])) (.nm 11) .rng (.const (.int 0)) (.ix (.var 2) (.const (.int 0))) [] [11] false), .asg (.nm 5) (.b1 .tuple (.comp (.bin .sub (.bin .add (.const (.int 1)) (.b1 .max (.var 4))) (.var 12)) (.nm 12) .seq (.var 4) (.const .non) [] [12] false)), .ife (.bin .ne (.call 37 [.var 2, .var 5]) (.const (.bl true))) [.ret (.const (.bl false))] [], .fr (.nm 6) .rng (.const (.int 0)) (.bin .add (.const (.int 1)) (.call 102 [.var 0, .var 1, .const (.int 3)])) [.asg (.nm 8) (.call 102 [.var 0, .var 1, .ix (.var 2) (.const (.int 0))]), .asg (.nm 9) (.lstd [.bin .add (.const (.int 1)) (.call 102 [.var 0, .var 1, .const (.int 8)]), .bin .add (.const (.int 1)) (.call 102 [.var 0, .var 1, .const (.int 3)]), .ix (.var 5) (.const (.int 0)), .const (.int 0), .const (.int 9), .const .non, .const (.bl true), .const (.str [49])]), .asg (.nm 10) (.ix (.var 9) (.call 103 [.var 0, .var 1, .lstd [.const (.int 0), .const (.int 0), .const (.int 1), .const (.int 1), .const (.int 2), .const (.int 3), .const (.int 4), .const (.int 5), .const (.int 6), .const (.int 7)]])), .asg (.nm 5) (.bin .add (.bin .add (.sl (.var 5) (.const .non) (.neg (.neg (.var 8)))) (.tupd [.var 10])) (.sl (.var 5) (.neg (.neg (.bin .add (.var 8) (.const (.int 1))))) (.const .non))), .ife (.or (.bin .ne (.call 37 [.var 2, .var 5]) (.call 120 [.var 2, .var 5])) (.nt (.isin (.call 37 [.var 2, .var 5]) .bool))) [.ret (.const (.bl false))] []] false, .asg (.nm 7) (.call 103 [.var 0, .var 1, .lstd [.const .non, .tupd [], .b1 .list (.var 5), .bin .add (.var 5) (.tupd [.const (.int 1)]), .sl (.var 5) (.neg (.neg (.const (.int 1)))) (.const .non), .const (.str [114, 97, 110, 107, 115]), .const (.int 1)]]), .ret (.bin .eq (.call 37 [.var 2, .var 7]) (.const (.bl false)))]⟩
def fnsT : Nat → Option FD
  | 0 => some d_is_whole
  | 1 => some d_is_tie
  | 2 => some d_is_web
  | 3 => some d_need_web
  | 6 => some d_beside
  | 7 => some d_piece_of
  | 36 => some d_are_ranks
  | 37 => some d_is_ranking
  | 100 => some d_L1_cell_at
  | 101 => some d_L1_mixed
  | 102 => some d_L1_draw
  | 103 => some d_L1_pick
  | 104 => some d_L1_web
  | 105 => some d_L1_tied
  | 106 => some d_L1_pieces
  | 107 => some d_L1_up
  | 108 => some d_L1_plant
  | 109 => some d_L1_tree
  | 120 => some d__law_is_ranking
  | 121 => some d_law
  | _ => none
def T : Tab := ⟨fnsT, fun _ _ => none, fun _ _ => none⟩
instance : HasF T 0 := ⟨rfl⟩
instance : HasF T 1 := ⟨rfl⟩
instance : HasF T 2 := ⟨rfl⟩
instance : HasF T 3 := ⟨rfl⟩
instance : HasF T 6 := ⟨rfl⟩
instance : HasF T 7 := ⟨rfl⟩
instance : HasF T 36 := ⟨rfl⟩
instance : HasF T 37 := ⟨rfl⟩
instance : HasL1 T 100 := ⟨rfl⟩
instance : HasL1 T 101 := ⟨rfl⟩
instance : HasL1 T 102 := ⟨rfl⟩
instance : HasL1 T 103 := ⟨rfl⟩
instance : HasL1 T 104 := ⟨rfl⟩
instance : HasL1 T 105 := ⟨rfl⟩
instance : HasL1 T 106 := ⟨rfl⟩
instance : HasL1 T 107 := ⟨rfl⟩
instance : HasL1 T 108 := ⟨rfl⟩
instance : HasL1 T 109 := ⟨rfl⟩
structure Fa (C : Cn) (mg : Str → Option Value) (fd : Nat → FuncData) (tk : Nat → Tok) : Prop where
  f_is_whole : Fun C.K "is_whole" "is_whole" s_is_whole (C.fnA 0) (fd 0)
  b_is_whole : Binds C.K (fd 0) ["thing", "low", "most"] []
  m_is_whole : mg "is_whole" = some (.ref (C.fnA 0))
  f_is_tie : Fun C.K "is_tie" "is_tie" s_is_tie (C.fnA 1) (fd 1)
  b_is_tie : Binds C.K (fd 1) ["thing", "many"] []
  m_is_tie : mg "is_tie" = some (.ref (C.fnA 1))
  f_is_web : Fun C.K "is_web" "is_web" s_is_web (C.fnA 2) (fd 2)
  b_is_web : Binds C.K (fd 2) ["thing"] []
  m_is_web : mg "is_web" = some (.ref (C.fnA 2))
  f_need_web : Fun C.K "need_web" "need_web" s_need_web (C.fnA 3) (fd 3)
  b_need_web : Binds C.K (fd 3) ["thing"] []
  m_need_web : mg "need_web" = some (.ref (C.fnA 3))
  f_beside : Fun C.K "beside" "beside" s_beside (C.fnA 6) (fd 6)
  b_beside : Binds C.K (fd 6) ["web", "place"] []
  m_beside : mg "beside" = some (.ref (C.fnA 6))
  f_piece_of : Fun C.K "piece_of" "piece_of" s_piece_of (C.fnA 7) (fd 7)
  b_piece_of : Binds C.K (fd 7) ["web", "places", "start"] []
  m_piece_of : mg "piece_of" = some (.ref (C.fnA 7))
  f_are_ranks : Fun C.K "are_ranks" "are_ranks" s_are_ranks (C.fnA 36) (fd 36)
  b_are_ranks : Binds C.K (fd 36) ["web", "thing"] []
  m_are_ranks : mg "are_ranks" = some (.ref (C.fnA 36))
  f_is_ranking : Fun C.K "is_ranking" "is_ranking" s_is_ranking (C.fnA 37) (fd 37)
  b_is_ranking : Binds C.K (fd 37) ["web", "thing"] []
  m_is_ranking : mg "is_ranking" = some (.ref (C.fnA 37))
  f__law_cell_at : Fun C.K "_law_cell_at" "_law_cell_at" s__law_cell_at (C.fnA 100) (fd 100)
  b__law_cell_at : Binds C.K (fd 100) ["_law_script", "_law_k"] []
  m__law_cell_at : mg "_law_cell_at" = some (.ref (C.fnA 100))
  f__law_mixed : Fun C.K "_law_mixed" "_law_mixed" s__law_mixed (C.fnA 101) (fd 101)
  b__law_mixed : Binds C.K (fd 101) ["_law_script", "_law_k", "_law_many"] []
  m__law_mixed : mg "_law_mixed" = some (.ref (C.fnA 101))
  f__law_draw : Fun C.K "_law_draw" "_law_draw" s__law_draw (C.fnA 102) (fd 102)
  b__law_draw : Binds C.K (fd 102) ["_law_script", "_law_town", "_law_many"] []
  m__law_draw : mg "_law_draw" = some (.ref (C.fnA 102))
  f__law_pick : Fun C.K "_law_pick" "_law_pick" s__law_pick (C.fnA 103) (fd 103)
  b__law_pick : Binds C.K (fd 103) ["_law_script", "_law_town", "_law_some"] []
  m__law_pick : mg "_law_pick" = some (.ref (C.fnA 103))
  f__law_web : Fun C.K "_law_web" "_law_web" s__law_web (C.fnA 104) (fd 104)
  b__law_web : Binds C.K (fd 104) ["_law_script", "_law_town", "_law_most"] []
  m__law_web : mg "_law_web" = some (.ref (C.fnA 104))
  f__law_tied : Fun C.K "_law_tied" "_law_tied" s__law_tied (C.fnA 105) (fd 105)
  b__law_tied : Binds C.K (fd 105) ["_law_web_here", "_law_one", "_law_other"] []
  m__law_tied : mg "_law_tied" = some (.ref (C.fnA 105))
  f__law_pieces : Fun C.K "_law_pieces" "_law_pieces" s__law_pieces (C.fnA 106) (fd 106)
  b__law_pieces : Binds C.K (fd 106) ["_law_web_here", "_law_places"] []
  m__law_pieces : mg "_law_pieces" = some (.ref (C.fnA 106))
  f__law_up : Fun C.K "_law_up" "_law_up" s__law_up (C.fnA 107) (fd 107)
  b__law_up : Binds C.K (fd 107) ["_law_tree_here", "_law_place"] []
  m__law_up : mg "_law_up" = some (.ref (C.fnA 107))
  f__law_plant : Fun C.K "_law_plant" "_law_plant" s__law_plant (C.fnA 108) (fd 108)
  b__law_plant : Binds C.K (fd 108) ["_law_script", "_law_town", "_law_web_here", "_law_places", "_law_parent", "_law_tree_here"] []
  m__law_plant : mg "_law_plant" = some (.ref (C.fnA 108))
  f__law_tree : Fun C.K "_law_tree" "_law_tree" s__law_tree (C.fnA 109) (fd 109)
  b__law_tree : Binds C.K (fd 109) ["_law_script", "_law_town", "_law_web_here"] []
  m__law_tree : mg "_law_tree" = some (.ref (C.fnA 109))
  f__law_is_ranking : Fun C.K "_law_is_ranking" "_law_is_ranking" s__law_is_ranking (C.fnA 120) (fd 120)
  b__law_is_ranking : Binds C.K (fd 120) ["_law_web_here", "_law_thing"] []
  m__law_is_ranking : mg "_law_is_ranking" = some (.ref (C.fnA 120))
  f_law : Fun C.K "law" "law" s_law (C.fnA 121) (fd 121)
  b_law : Binds C.K (fd 121) ["_law_script"] []
  m_law : mg "law" = some (.ref (C.fnA 121))
  z_all : mg "all" = none
  z_any : mg "any" = none
  z_bool : mg "bool" = none
  z_int : mg "int" = none
  z_isinstance : mg "isinstance" = none
  z_len : mg "len" = none
  z_list : mg "list" = none
  z_max : mg "max" = none
  z_min : mg "min" = none
  z_range : mg "range" = none
  z_set : mg "set" = none
  z_sorted : mg "sorted" = none
  z_tuple : mg "tuple" = none
  k_MANY : mg "MANY" = some (.int 8 (tk 0))
  g_NoWeb : mg "NoWeb" = some (.ref (C.clA 0))
  x_NoWeb : PySem.W.excIn C.K (C.clA 0) [.type "ValueError", .type "Exception", .type "BaseException", .type "object"] "ValueError.__new__" = true
  kc_NoWeb : PySem.W.keepIn C.K (.ref (C.clA 0)) = true
  s_NoWeb : PySem.W.subIn C.K (.ref (C.clA 0)) (.type "BaseException") = some true
  t_NoWeb : PySem.W.typeIn C.K (.ref (C.clA 0)) = some (.type "type")
structure Ok (C : Cn) (mg : Str → Option Value) (base : Heap) (fd : Nat → FuncData) (k n : Nat) : Prop where
  o_is_whole : FnOk C.P C.w C.K mg base (L2N.CX C.P C.w) k (C.fnA 0) (fd 0) ["thing", "low", "most"] (spF C (run T n) 0)
  o_is_tie : FnOk C.P C.w C.K mg base (L2N.CX C.P C.w) k (C.fnA 1) (fd 1) ["thing", "many"] (spF C (run T n) 1)
  o_is_web : FnOk C.P C.w C.K mg base (L2N.CX C.P C.w) k (C.fnA 2) (fd 2) ["thing"] (spF C (run T n) 2)
  o_need_web : FnOk C.P C.w C.K mg base (L2N.CX C.P C.w) k (C.fnA 3) (fd 3) ["thing"] (spF C (run T n) 3)
  o_beside : FnOk C.P C.w C.K mg base (L2N.CX C.P C.w) k (C.fnA 6) (fd 6) ["web", "place"] (spF C (run T n) 6)
  o_piece_of : FnOk C.P C.w C.K mg base (L2N.CX C.P C.w) k (C.fnA 7) (fd 7) ["web", "places", "start"] (spF C (run T n) 7)
  o_are_ranks : FnOk C.P C.w C.K mg base (L2N.CX C.P C.w) k (C.fnA 36) (fd 36) ["web", "thing"] (spF C (run T n) 36)
  o_is_ranking : FnOk C.P C.w C.K mg base (L2N.CX C.P C.w) k (C.fnA 37) (fd 37) ["web", "thing"] (spF C (run T n) 37)
  o__law_cell_at : FnOk C.P C.w C.K mg base (L2N.CX C.P C.w) k (C.fnA 100) (fd 100) ["_law_script", "_law_k"] (spF C (run T n) 100)
  o__law_mixed : FnOk C.P C.w C.K mg base (L2N.CX C.P C.w) k (C.fnA 101) (fd 101) ["_law_script", "_law_k", "_law_many"] (spF C (run T n) 101)
  o__law_draw : FnOk C.P C.w C.K mg base (L2N.CX C.P C.w) k (C.fnA 102) (fd 102) ["_law_script", "_law_town", "_law_many"] (spF C (run T n) 102)
  o__law_pick : FnOk C.P C.w C.K mg base (L2N.CX C.P C.w) k (C.fnA 103) (fd 103) ["_law_script", "_law_town", "_law_some"] (spF C (run T n) 103)
  o__law_web : FnOk C.P C.w C.K mg base (L2N.CX C.P C.w) k (C.fnA 104) (fd 104) ["_law_script", "_law_town", "_law_most"] (spF C (run T n) 104)
  o__law_tied : FnOk C.P C.w C.K mg base (L2N.CX C.P C.w) k (C.fnA 105) (fd 105) ["_law_web_here", "_law_one", "_law_other"] (spF C (run T n) 105)
  o__law_pieces : FnOk C.P C.w C.K mg base (L2N.CX C.P C.w) k (C.fnA 106) (fd 106) ["_law_web_here", "_law_places"] (spF C (run T n) 106)
  o__law_up : FnOk C.P C.w C.K mg base (L2N.CX C.P C.w) k (C.fnA 107) (fd 107) ["_law_tree_here", "_law_place"] (spF C (run T n) 107)
  o__law_plant : FnOk C.P C.w C.K mg base (L2N.CX C.P C.w) k (C.fnA 108) (fd 108) ["_law_script", "_law_town", "_law_web_here", "_law_places", "_law_parent", "_law_tree_here"] (spF C (run T n) 108)
  o__law_tree : FnOk C.P C.w C.K mg base (L2N.CX C.P C.w) k (C.fnA 109) (fd 109) ["_law_script", "_law_town", "_law_web_here"] (spF C (run T n) 109)
  o__law_is_ranking : FnOk C.P C.w C.K mg base (L2N.CX C.P C.w) k (C.fnA 120) (fd 120) ["_law_web_here", "_law_thing"] (spF C (run T n) 120)
  o_law : FnOk C.P C.w C.K mg base (L2N.CX C.P C.w) k (C.fnA 121) (fd 121) ["_law_script"] (spF C (run T n) 121)
section
variable {C : Cn} {mg : Str → Option Value} {base : Heap} {fd : Nat → FuncData} {tk : Nat → Tok} {n : Nat}
theorem st_is_whole (G : Fa C mg fd tk) (A : Ok C mg base fd (2 * n) n) : FnOk C.P C.w C.K mg base (L2N.CX C.P C.w) (2 * n + 2) (C.fnA 0) (fd 0) ["thing", "low", "most"] (spF C (run T (n + 1)) 0) :=
  fn_step (k := 2 * n + 1) (d := d_is_whole) rfl G.f_is_whole sc_is_whole rfl rfl fun cdv A1 outer s H E X hX hr hx hp => by
    subst hX
    exact (exs_cons (ex_ret (ev_and (ev_isin (c := .int) ⟨rfl, rfl, rfl⟩ rfl G.z_isinstance boot_isi rfl G.z_int (by decide +kernel) (ev_var (pv 0))) (ev_and (ev_not (ev_isin (c := .bool) ⟨rfl, rfl, rfl⟩ rfl G.z_isinstance boot_isi rfl G.z_bool (by decide +kernel) (ev_var (pv 0)))) (pe_one (ev_ch (op1 := .le) (op2 := .le) chk_le chk_le (ev_var (pv 1)) (ev_var (pv 0)) (ev_var (pv 2)))))))
        exs_nil)
theorem st_is_tie (G : Fa C mg fd tk) (A : Ok C mg base fd (2 * n) n) : FnOk C.P C.w C.K mg base (L2N.CX C.P C.w) (2 * n + 2) (C.fnA 1) (fd 1) ["thing", "many"] (spF C (run T (n + 1)) 1) :=
  fn_step (k := 2 * n + 1) (d := d_is_tie) rfl G.f_is_tie sc_is_tie rfl rfl fun cdv A1 outer s H E X hX hr hx hp => by
    subst hX
    exact (exs_cons (ex_if (PW.pt (pt_OR (pt_NOT (pt_VAL (ev_isin (c := .tuple) ⟨rfl, rfl, rfl⟩ rfl G.z_isinstance boot_isi rfl G.z_tuple (by decide +kernel) (ev_var (pv 0))))) (pt_OR (pt_CMP (opr_ne ⟨rfl, rfl, rfl⟩ hr.units) (ev_b1 (cr_len ⟨rfl, rfl, rfl⟩) rfl G.z_len (by decide +kernel) (ev_var (pv 0))) ev_int (nomark _)) (pw_or1 (pt_NOT (pt_VAL (ev_call hx A.o_is_whole (hr.mono (by omega)) rfl G.m_is_whole G.f_is_whole.kp G.b_is_whole (evA_cons (ev_ix ⟨rfl, rfl, rfl⟩ hr.units (ev_var (pv 0)) ev_int) (evA_cons ev_int (evA_cons (ev_bin (opr_sub ⟨rfl, rfl, rfl⟩) (ev_var (pv 1)) ev_int) evA_nil)))))))))) (exs_cons (ex_ret ev_bool)
        exs_nil) exs_nil)
        (exs_cons (ex_ret (ev_call hx A.o_is_whole (hr.mono (by omega)) rfl G.m_is_whole G.f_is_whole.kp G.b_is_whole (evA_cons (ev_ix ⟨rfl, rfl, rfl⟩ hr.units (ev_var (pv 0)) ev_int) (evA_cons ev_int (evA_cons (ev_bin (opr_sub ⟨rfl, rfl, rfl⟩) (ev_ix ⟨rfl, rfl, rfl⟩ hr.units (ev_var (pv 0)) ev_int) ev_int) evA_nil)))))
        exs_nil))
theorem st_is_web (G : Fa C mg fd tk) (A : Ok C mg base fd (2 * n) n) : FnOk C.P C.w C.K mg base (L2N.CX C.P C.w) (2 * n + 2) (C.fnA 2) (fd 2) ["thing"] (spF C (run T (n + 1)) 2) :=
  fn_step (k := 2 * n + 1) (d := d_is_web) rfl G.f_is_web sc_is_web rfl rfl fun cdv A1 outer s H E X hX hr hx hp => by
    subst hX
    exact (exs_cons (ex_if (PW.pt (pt_OR (pt_NOT (pt_VAL (ev_isin (c := .tuple) ⟨rfl, rfl, rfl⟩ rfl G.z_isinstance boot_isi rfl G.z_tuple (by decide +kernel) (ev_var (pv 0))))) (pt_OR (pt_CMP (opr_ne ⟨rfl, rfl, rfl⟩ hr.units) (ev_b1 (cr_len ⟨rfl, rfl, rfl⟩) rfl G.z_len (by decide +kernel) (ev_var (pv 0))) ev_int (nomark _)) (pw_or1 (pt_NOT (pt_VAL (ev_call hx A.o_is_whole (hr.mono (by omega)) rfl G.m_is_whole G.f_is_whole.kp G.b_is_whole (evA_cons (ev_ix ⟨rfl, rfl, rfl⟩ hr.units (ev_var (pv 0)) ev_int) (evA_cons ev_int (evA_cons (ev_gint rfl G.k_MANY) evA_nil)))))))))) (exs_cons (ex_ret ev_bool)
        exs_nil) exs_nil)
        (exs_cons (ex_if (PW.pt (pt_OR (pt_NOT (pt_VAL (ev_isin (c := .tuple) ⟨rfl, rfl, rfl⟩ rfl G.z_isinstance boot_isi rfl G.z_tuple (by decide +kernel) (ev_ix ⟨rfl, rfl, rfl⟩ hr.units (ev_var (pv 0)) ev_int)))) (pw_or1 (pt_NOT (pt_VAL (ev_b1 (crb_all ⟨rfl, rfl, rfl⟩ rfl) rfl G.z_all (by decide +kernel) (ev_comp (own := [("tie", 1)]) (xb := .const .non) (hd := false) ⟨rfl, rfl, rfl⟩ rfl sc_is_web.nd (blkOk_by (by first | decide +kernel | rfl)) (by decide) (ev_ix ⟨rfl, rfl, rfl⟩ hr.units (ev_var (pv 0)) ev_int) (fun _ _ _ _ _ => gtT (.nm 1) (pg_name (i := 1) sc_is_web.nd rfl (by first | exact .inl rfl | exact .inr rfl))) (fun _ _ _ _ _ => pts0) (fun _ _ _ _ _ => (ev_call xF A.o_is_tie (hr.mono (by omega)) rfl G.m_is_tie G.f_is_tie.kp G.b_is_tie (evA_cons (ev_var (pv 1)) (evA_cons (ev_ix ⟨rfl, rfl, rfl⟩ hr.units (ev_var (pv 0)) ev_int) evA_nil))))))))))) (exs_cons (ex_ret ev_bool)
        exs_nil) exs_nil)
        (exs_cons (ex_ret (ev_cmp (opr_eq ⟨rfl, rfl, rfl⟩ hr.units) (ev_t1 (cr_list ⟨rfl, rfl, rfl⟩ rfl) rfl G.z_list (by decide +kernel) (ev_ix ⟨rfl, rfl, rfl⟩ hr.units (ev_var (pv 0)) ev_int)) (ev_sset ⟨rfl, rfl, rfl⟩ rfl hr.units rfl G.z_sorted rfl G.z_set (ev_ix ⟨rfl, rfl, rfl⟩ hr.units (ev_var (pv 0)) ev_int)) (nomark _)))
        exs_nil)))
theorem st_need_web (G : Fa C mg fd tk) (A : Ok C mg base fd (2 * n) n) : FnOk C.P C.w C.K mg base (L2N.CX C.P C.w) (2 * n + 2) (C.fnA 3) (fd 3) ["thing"] (spF C (run T (n + 1)) 3) :=
  fn_step (k := 2 * n + 1) (d := d_need_web) rfl G.f_need_web sc_need_web rfl rfl fun cdv A1 outer s H E X hX hr hx hp => by
    subst hX
    exact (exs_cons (ex_if (pt_NOT (pt_VAL (ev_call hx A.o_is_web (hr.mono (by omega)) rfl G.m_is_web G.f_is_web.kp G.b_is_web (evA_cons (ev_var (pv 0)) evA_nil)))) (exs_cons (ex_rse (c := 0) hx rfl (L2N.pmk_own PySem.F.excBase_ValueError G.x_NoWeb G.g_NoWeb G.kc_NoWeb (raises_own G.s_NoWeb G.t_NoWeb) rfl))
        exs_nil) exs_nil)
        exs_nil)
theorem st_beside (G : Fa C mg fd tk) (A : Ok C mg base fd (2 * n) n) : FnOk C.P C.w C.K mg base (L2N.CX C.P C.w) (2 * n + 2) (C.fnA 6) (fd 6) ["web", "place"] (spF C (run T (n + 1)) 6) :=
  fn_step (k := 2 * n + 1) (d := d_beside) rfl G.f_beside sc_beside rfl rfl fun cdv A1 outer s H E X hX hr hx hp => by
    subst hX
    exact (exs_cons (ex_ret (ev_comp (own := [("a", 2), ("b", 3)]) (xb := .const .non) (hd := false) ⟨rfl, rfl, rfl⟩ rfl sc_beside.nd (blkOk_by (by first | decide +kernel | rfl)) (by decide) (ev_ix ⟨rfl, rfl, rfl⟩ hr.units (ev_var (pv 0)) ev_int) (fun _ _ _ _ _ => gtT (.tp [.nm 2, .nm 3]) (pg_TL rfl (pgs_cons (pg_name (i := 2) sc_beside.nd rfl (by first | exact .inl rfl | exact .inr rfl)) (pgs_cons (pg_name (i := 3) sc_beside.nd rfl (by first | exact .inl rfl | exact .inr rfl)) pgs_nil)))) (fun _ _ _ _ _ => (pts1 (pt_CMP (opr_inn ⟨rfl, rfl, rfl⟩ (hu73 hr)) (ev_var (pv 1)) (ev_tupd (evs_cons (ev_var (pv 2)) (evs_cons (ev_var (pv 3)) evs_nil))) rfl))) (fun _ _ _ _ _ => (ev_bin (opr_sub ⟨rfl, rfl, rfl⟩) (ev_bin (opr_add ⟨rfl, rfl, rfl⟩) (ev_var (pv 2)) (ev_var (pv 3))) (ev_var (pv 1))))))
        exs_nil)
theorem st_piece_of (G : Fa C mg fd tk) (A : Ok C mg base fd (2 * n) n) : FnOk C.P C.w C.K mg base (L2N.CX C.P C.w) (2 * n + 2) (C.fnA 7) (fd 7) ["web", "places", "start"] (spF C (run T (n + 1)) 7) :=
  fn_step (k := 2 * n + 1) (d := d_piece_of) rfl G.f_piece_of sc_piece_of rfl rfl fun cdv A1 outer s H E X hX hr hx hp => by
    subst hX
    exact (exs_cons (ex_set (i := 3) rfl sc_piece_of.nd rfl (by first | exact .inl rfl | exact .inr rfl) (ev_dct1 (ev_var (pv 2)) ev_bool))
        (exs_cons (ex_set (i := 4) rfl sc_piece_of.nd rfl (by first | exact .inl rfl | exact .inr rfl) (ev_lstd (evs_cons (ev_var (pv 2)) evs_nil)))
        (exs_cons (ex_whl hp (pt_CMP (opr_ne ⟨rfl, rfl, rfl⟩ hr.units) (ev_var (pv 4)) (ev_lstd evs_nil) (nomark _)) (exs_cons (ex_set (i := 5) rfl sc_piece_of.nd rfl (by first | exact .inl rfl | exact .inr rfl) (ev_pop ⟨rfl, rfl, rfl⟩ (pv 4)))
        (exs_cons (ex_for (xb := .const .non) ⟨rfl, rfl, rfl⟩ hp rfl (by decide) (ev_call hx A.o_beside (hr.mono (by omega)) rfl G.m_beside G.f_beside.kp G.b_beside (evA_cons (ev_var (pv 0)) (evA_cons (ev_var (pv 5)) evA_nil))) (gtT (.nm 6) (pg_name (i := 6) sc_piece_of.nd rfl (by first | exact .inl rfl | exact .inr rfl))) (exs_cons (ex_if (PW.pt (pt_AND (pt_CMP (opr_inn ⟨rfl, rfl, rfl⟩ (hu73 hr)) (ev_var (pv 6)) (ev_var (pv 1)) rfl) (pw_and1 (pt_CMP (opr_nin ⟨rfl, rfl, rfl⟩ (hu73 hr)) (ev_var (pv 6)) (ev_var (pv 3)) rfl)))) (exs_cons (ex_sti ⟨rfl, rfl, rfl⟩ hr.units (pv 3) (ev_var (pv 6)) ev_bool)
        (exs_cons (ex_exp (ev_app ⟨rfl, rfl, rfl⟩ (pv 4) (ev_var (pv 6))))
        exs_nil)) exs_nil)
        exs_nil))
        exs_nil)))
        (exs_cons (ex_ret (ev_t1 (cr_tuple ⟨rfl, rfl, rfl⟩) rfl G.z_tuple (by decide +kernel) (ev_b1 (crb_sorted ⟨rfl, rfl, rfl⟩ hr.units) rfl G.z_sorted (by decide +kernel) (ev_t1 (cr_list ⟨rfl, rfl, rfl⟩ rfl) rfl G.z_list (by decide +kernel) (ev_var (pv 3))))))
        exs_nil))))
theorem st_are_ranks (G : Fa C mg fd tk) (A : Ok C mg base fd (2 * n) n) : FnOk C.P C.w C.K mg base (L2N.CX C.P C.w) (2 * n + 2) (C.fnA 36) (fd 36) ["web", "thing"] (spF C (run T (n + 1)) 36) :=
  fn_step (k := 2 * n + 1) (d := d_are_ranks) rfl G.f_are_ranks sc_are_ranks rfl rfl fun cdv A1 outer s H E X hX hr hx hp => by
    subst hX
    exact (exs_cons (ex_if (PW.pt (pt_OR (pt_NOT (pt_VAL (ev_isin (c := .tuple) ⟨rfl, rfl, rfl⟩ rfl G.z_isinstance boot_isi rfl G.z_tuple (by decide +kernel) (ev_var (pv 1))))) (pw_or1 (pt_CMP (opr_ne ⟨rfl, rfl, rfl⟩ hr.units) (ev_b1 (cr_len ⟨rfl, rfl, rfl⟩) rfl G.z_len (by decide +kernel) (ev_var (pv 1))) (ev_ix ⟨rfl, rfl, rfl⟩ hr.units (ev_var (pv 0)) ev_int) (nomark _))))) (exs_cons (ex_ret ev_bool)
        exs_nil) exs_nil)
        (exs_cons (ex_if (pt_NOT (pt_VAL (ev_b1 (crb_all ⟨rfl, rfl, rfl⟩ rfl) rfl G.z_all (by decide +kernel) (ev_comp (own := [("rank", 5)]) (xb := .const .non) (hd := true) ⟨rfl, rfl, rfl⟩ rfl sc_are_ranks.nd (blkOk_by (by first | decide +kernel | rfl)) (by decide) (ev_var (pv 1)) (fun _ _ _ _ _ => gtT (.nm 5) (pg_name (i := 5) sc_are_ranks.nd rfl (by first | exact .inl rfl | exact .inr rfl))) (fun _ _ _ _ _ => pts0) (fun _ _ _ _ _ => (ev_call xF A.o_is_whole (hr.mono (by omega)) rfl G.m_is_whole G.f_is_whole.kp G.b_is_whole (evA_cons (ev_var (pv 5)) (evA_cons ev_int (evA_cons (ev_gint rfl G.k_MANY) evA_nil))))))))) (exs_cons (ex_ret ev_bool)
        exs_nil) exs_nil)
        (exs_cons (ex_for1 ⟨rfl, rfl, rfl⟩ hp rfl (by decide) rfl G.z_range (ev_ix ⟨rfl, rfl, rfl⟩ hr.units (ev_var (pv 0)) ev_int) (gtT (.nm 2) (pg_name (i := 2) sc_are_ranks.nd rfl (by first | exact .inl rfl | exact .inr rfl))) (exs_cons (by first | exact (ex_lc1 (i := 3) rfl rfl rfl (sw_true rfl rfl rfl (by decide +kernel)) (own := [("other", 4)]) ⟨rfl, rfl, rfl⟩ rfl sc_are_ranks.nd (blkOk_by (by first | decide +kernel | rfl)) (by decide) rfl G.z_range (ev_ix ⟨rfl, rfl, rfl⟩ hr.units (ev_var (pv 0)) ev_int) (fun _ _ _ _ _ => gtT (.nm 4) (pg_name (i := 4) sc_are_ranks.nd rfl (by first | exact .inl rfl | exact .inr rfl))) (fun _ _ _ _ _ => (pts1 (pt_CMP opr_le (ev_ix ⟨rfl, rfl, rfl⟩ hr.units (ev_var (pv 1)) (ev_var (pv 4))) (ev_ix ⟨rfl, rfl, rfl⟩ hr.units (ev_var (pv 1)) (ev_var (pv 2))) (nomark _)))) (fun _ _ _ _ _ => (ev_var (pv 4)))) | exact (ex_set (i := 3) rfl sc_are_ranks.nd rfl (by first | exact .inl rfl | exact .inr rfl) (ev_comp1 (own := [("other", 4)]) ⟨rfl, rfl, rfl⟩ rfl sc_are_ranks.nd (blkOk_by (by first | decide +kernel | rfl)) (by decide) rfl G.z_range (ev_ix ⟨rfl, rfl, rfl⟩ hr.units (ev_var (pv 0)) ev_int) (fun _ _ _ _ _ => gtT (.nm 4) (pg_name (i := 4) sc_are_ranks.nd rfl (by first | exact .inl rfl | exact .inr rfl))) (fun _ _ _ _ _ => (pts1 (pt_CMP opr_le (ev_ix ⟨rfl, rfl, rfl⟩ hr.units (ev_var (pv 1)) (ev_var (pv 4))) (ev_ix ⟨rfl, rfl, rfl⟩ hr.units (ev_var (pv 1)) (ev_var (pv 2))) (nomark _)))) (fun _ _ _ _ _ => (ev_var (pv 4))))))
        (exs_cons (ex_if (pt_VAL (ev_b1 (crb_any ⟨rfl, rfl, rfl⟩ rfl) rfl G.z_any (by decide +kernel) (ev_comp (own := [("other", 4)]) (xb := .const .non) (hd := false) ⟨rfl, rfl, rfl⟩ rfl sc_are_ranks.nd (blkOk_by (by first | decide +kernel | rfl)) (by decide) (ev_call hx A.o_piece_of (hr.mono (by omega)) rfl G.m_piece_of G.f_piece_of.kp G.b_piece_of (evA_cons (ev_var (pv 0)) (evA_cons (ev_var (pv 3)) (evA_cons (ev_var (pv 2)) evA_nil)))) (fun _ _ _ _ _ => gtT (.nm 4) (pg_name (i := 4) sc_are_ranks.nd rfl (by first | exact .inl rfl | exact .inr rfl))) (fun _ _ _ _ _ => (pts1 (pt_CMP (opr_ne ⟨rfl, rfl, rfl⟩ hr.units) (ev_var (pv 4)) (ev_var (pv 2)) (nomark _)))) (fun _ _ _ _ _ => (ev_cmp (opr_eq ⟨rfl, rfl, rfl⟩ hr.units) (ev_ix ⟨rfl, rfl, rfl⟩ hr.units (ev_var (pv 1)) (ev_var (pv 4))) (ev_ix ⟨rfl, rfl, rfl⟩ hr.units (ev_var (pv 1)) (ev_var (pv 2))) (nomark _)))))) (exs_cons (ex_ret ev_bool)
        exs_nil) exs_nil)
        exs_nil)))
        (exs_cons (ex_ret ev_bool)
        exs_nil))))
theorem st_is_ranking (G : Fa C mg fd tk) (A : Ok C mg base fd (2 * n) n) : FnOk C.P C.w C.K mg base (L2N.CX C.P C.w) (2 * n + 2) (C.fnA 37) (fd 37) ["web", "thing"] (spF C (run T (n + 1)) 37) :=
  fn_step (k := 2 * n + 1) (d := d_is_ranking) rfl G.f_is_ranking sc_is_ranking rfl rfl fun cdv A1 outer s H E X hX hr hx hp => by
    subst hX
    exact (exs_cons (ex_exp (ev_call hx A.o_need_web (hr.mono (by omega)) rfl G.m_need_web G.f_need_web.kp G.b_need_web (evA_cons (ev_var (pv 0)) evA_nil)))
        (exs_cons (ex_ret (ev_call hx A.o_are_ranks (hr.mono (by omega)) rfl G.m_are_ranks G.f_are_ranks.kp G.b_are_ranks (evA_cons (ev_var (pv 0)) (evA_cons (ev_var (pv 1)) evA_nil))))
        exs_nil))
theorem st__law_cell_at (G : Fa C mg fd tk) (A : Ok C mg base fd (2 * n) n) : FnOk C.P C.w C.K mg base (L2N.CX C.P C.w) (2 * n + 2) (C.fnA 100) (fd 100) ["_law_script", "_law_k"] (spF C (run T (n + 1)) 100) :=
  fn_step (k := 2 * n + 1) (d := d_L1_cell_at) rfl G.f__law_cell_at sc__law_cell_at rfl rfl fun cdv A1 outer s H E X hX hr hx hp => by
    subst hX
    exact (exs_cons (ex_if (pt_CMP opr_lt (ev_var (pv 1)) (ev_b1 (cr_len ⟨rfl, rfl, rfl⟩) rfl G.z_len (by decide +kernel) (ev_var (pv 0))) (nomark _)) (exs_cons (ex_ret (ev_ix ⟨rfl, rfl, rfl⟩ hr.units (ev_var (pv 0)) (ev_var (pv 1))))
        exs_nil) exs_nil)
        (exs_cons (ex_if (pt_CMP (opr_eq ⟨rfl, rfl, rfl⟩ hr.units) (ev_var (pv 0)) (ev_lstd evs_nil) (nomark _)) (exs_cons (ex_ret ev_int)
        exs_nil) exs_nil)
        (exs_cons (ex_ret (ev_bin (opr_add ⟨rfl, rfl, rfl⟩) (ev_bin (opr_mul ⟨rfl, rfl, rfl⟩) (ev_ix ⟨rfl, rfl, rfl⟩ hr.units (ev_var (pv 0)) (ev_bin (opr_mod ⟨rfl, rfl, rfl⟩) (ev_var (pv 1)) (ev_b1 (cr_len ⟨rfl, rfl, rfl⟩) rfl G.z_len (by decide +kernel) (ev_var (pv 0))))) ev_int) (ev_var (pv 1))))
        exs_nil)))
theorem st__law_mixed (G : Fa C mg fd tk) (A : Ok C mg base fd (2 * n) n) : FnOk C.P C.w C.K mg base (L2N.CX C.P C.w) (2 * n + 2) (C.fnA 101) (fd 101) ["_law_script", "_law_k", "_law_many"] (spF C (run T (n + 1)) 101) :=
  fn_step (k := 2 * n + 1) (d := d_L1_mixed) rfl G.f__law_mixed sc__law_mixed rfl rfl fun cdv A1 outer s H E X hX hr hx hp => by
    subst hX
    exact (exs_cons (ex_set (i := 3) rfl sc__law_mixed.nd rfl (by first | exact .inl rfl | exact .inr rfl) (ev_bin (opr_mod ⟨rfl, rfl, rfl⟩) (ev_bin (opr_mul ⟨rfl, rfl, rfl⟩) (ev_bin (opr_add ⟨rfl, rfl, rfl⟩) (ev_bin (opr_add ⟨rfl, rfl, rfl⟩) (ev_call hx A.o__law_cell_at (hr.mono (by omega)) rfl G.m__law_cell_at G.f__law_cell_at.kp G.b__law_cell_at (evA_cons (ev_var (pv 0)) (evA_cons (ev_var (pv 1)) evA_nil))) (ev_bin (opr_mul ⟨rfl, rfl, rfl⟩) ev_int (ev_var (pv 1)))) ev_int) ev_int) ev_int))
        (exs_cons (ex_ret (ev_bin (opr_mod ⟨rfl, rfl, rfl⟩) (ev_bin (opr_mod ⟨rfl, rfl, rfl⟩) (ev_bin (opr_add ⟨rfl, rfl, rfl⟩) (ev_bin (opr_add ⟨rfl, rfl, rfl⟩) (ev_bin (opr_mul ⟨rfl, rfl, rfl⟩) (ev_var (pv 3)) (ev_var (pv 3))) (ev_bin (opr_mul ⟨rfl, rfl, rfl⟩) ev_int (ev_var (pv 3)))) (ev_var (pv 1))) ev_int) (ev_var (pv 2))))
        exs_nil))
theorem st__law_draw (G : Fa C mg fd tk) (A : Ok C mg base fd (2 * n) n) : FnOk C.P C.w C.K mg base (L2N.CX C.P C.w) (2 * n + 2) (C.fnA 102) (fd 102) ["_law_script", "_law_town", "_law_many"] (spF C (run T (n + 1)) 102) :=
  fn_step (k := 2 * n + 1) (d := d_L1_draw) rfl G.f__law_draw sc__law_draw rfl rfl fun cdv A1 outer s H E X hX hr hx hp => by
    subst hX
    exact (exs_cons (ex_exp (ev_app ⟨rfl, rfl, rfl⟩ (pv 1) ev_int))
        (exs_cons (ex_ret (ev_call hx A.o__law_mixed (hr.mono (by omega)) rfl G.m__law_mixed G.f__law_mixed.kp G.b__law_mixed (evA_cons (ev_var (pv 0)) (evA_cons (ev_b1 (cr_len ⟨rfl, rfl, rfl⟩) rfl G.z_len (by decide +kernel) (ev_var (pv 1))) (evA_cons (ev_var (pv 2)) evA_nil)))))
        exs_nil))
theorem st__law_pick (G : Fa C mg fd tk) (A : Ok C mg base fd (2 * n) n) : FnOk C.P C.w C.K mg base (L2N.CX C.P C.w) (2 * n + 2) (C.fnA 103) (fd 103) ["_law_script", "_law_town", "_law_some"] (spF C (run T (n + 1)) 103) :=
  fn_step (k := 2 * n + 1) (d := d_L1_pick) rfl G.f__law_pick sc__law_pick rfl rfl fun cdv A1 outer s H E X hX hr hx hp => by
    subst hX
    exact (exs_cons (ex_ret (ev_ix ⟨rfl, rfl, rfl⟩ hr.units (ev_var (pv 2)) (ev_call hx A.o__law_draw (hr.mono (by omega)) rfl G.m__law_draw G.f__law_draw.kp G.b__law_draw (evA_cons (ev_var (pv 0)) (evA_cons (ev_var (pv 1)) (evA_cons (ev_b1 (cr_len ⟨rfl, rfl, rfl⟩) rfl G.z_len (by decide +kernel) (ev_var (pv 2))) evA_nil))))))
        exs_nil)
theorem st__law_web (G : Fa C mg fd tk) (A : Ok C mg base fd (2 * n) n) : FnOk C.P C.w C.K mg base (L2N.CX C.P C.w) (2 * n + 2) (C.fnA 104) (fd 104) ["_law_script", "_law_town", "_law_most"] (spF C (run T (n + 1)) 104) :=
  fn_step (k := 2 * n + 1) (d := d_L1_web) rfl G.f__law_web sc__law_web rfl rfl fun cdv A1 outer s H E X hX hr hx hp => by
    subst hX
    exact (exs_cons (ex_set (i := 3) rfl sc__law_web.nd rfl (by first | exact .inl rfl | exact .inr rfl) (ev_bin (opr_add ⟨rfl, rfl, rfl⟩) ev_int (ev_call hx A.o__law_draw (hr.mono (by omega)) rfl G.m__law_draw G.f__law_draw.kp G.b__law_draw (evA_cons (ev_var (pv 0)) (evA_cons (ev_var (pv 1)) (evA_cons (ev_var (pv 2)) evA_nil))))))
        (exs_cons (ex_set (i := 4) rfl sc__law_web.nd rfl (by first | exact .inl rfl | exact .inr rfl) (ev_call hx A.o__law_draw (hr.mono (by omega)) rfl G.m__law_draw G.f__law_draw.kp G.b__law_draw (evA_cons (ev_var (pv 0)) (evA_cons (ev_var (pv 1)) (evA_cons ev_int evA_nil)))))
        (exs_cons (ex_set (i := 5) rfl sc__law_web.nd rfl (by first | exact .inl rfl | exact .inr rfl) (ev_lstd evs_nil))
        (exs_cons (ex_for1 ⟨rfl, rfl, rfl⟩ hp rfl (by decide) rfl G.z_range (ev_var (pv 3)) (gtT (.nm 6) (pg_name (i := 6) sc__law_web.nd rfl (by first | exact .inl rfl | exact .inr rfl))) (exs_cons (ex_for1 ⟨rfl, rfl, rfl⟩ hp rfl (by decide) rfl G.z_range (ev_var (pv 6)) (gtT (.nm 7) (pg_name (i := 7) sc__law_web.nd rfl (by first | exact .inl rfl | exact .inr rfl))) (exs_cons (ex_if (pt_CMP opr_lt (ev_call hx A.o__law_draw (hr.mono (by omega)) rfl G.m__law_draw G.f__law_draw.kp G.b__law_draw (evA_cons (ev_var (pv 0)) (evA_cons (ev_var (pv 1)) (evA_cons ev_int evA_nil)))) (ev_var (pv 4)) (nomark _)) (exs_cons (ex_exp (ev_app ⟨rfl, rfl, rfl⟩ (pv 5) (ev_tupd (evs_cons (ev_var (pv 7)) (evs_cons (ev_var (pv 6)) evs_nil)))))
        exs_nil) exs_nil)
        exs_nil))
        exs_nil))
        (exs_cons (ex_if (pt_CMP (opr_eq ⟨rfl, rfl, rfl⟩ hr.units) (ev_call hx A.o__law_draw (hr.mono (by omega)) rfl G.m__law_draw G.f__law_draw.kp G.b__law_draw (evA_cons (ev_var (pv 0)) (evA_cons (ev_var (pv 1)) (evA_cons ev_int evA_nil)))) ev_int (nomark _)) (exs_cons (ex_exp (ev_ext ⟨rfl, rfl, rfl⟩ (pv 5) (ev_comp1 (own := [("_law_place", 7)]) ⟨rfl, rfl, rfl⟩ rfl sc__law_web.nd (blkOk_by (by first | decide +kernel | rfl)) (by decide) rfl G.z_range (ev_bin (opr_sub ⟨rfl, rfl, rfl⟩) (ev_var (pv 3)) ev_int) (fun _ _ _ _ _ => gtT (.nm 7) (pg_name (i := 7) sc__law_web.nd rfl (by first | exact .inl rfl | exact .inr rfl))) (fun _ _ _ _ _ => pts0) (fun _ _ _ _ _ => (ev_tupd (evs_cons (ev_var (pv 7)) (evs_cons (ev_bin (opr_add ⟨rfl, rfl, rfl⟩) (ev_var (pv 7)) ev_int) evs_nil)))))))
        exs_nil) exs_nil)
        (exs_cons (ex_ret (ev_tupd (evs_cons (ev_var (pv 3)) (evs_cons (ev_t1 (cr_tuple ⟨rfl, rfl, rfl⟩) rfl G.z_tuple (by decide +kernel) (ev_sset ⟨rfl, rfl, rfl⟩ rfl hr.units rfl G.z_sorted rfl G.z_set (ev_var (pv 5)))) evs_nil))))
        exs_nil))))))
theorem st__law_tied (G : Fa C mg fd tk) (A : Ok C mg base fd (2 * n) n) : FnOk C.P C.w C.K mg base (L2N.CX C.P C.w) (2 * n + 2) (C.fnA 105) (fd 105) ["_law_web_here", "_law_one", "_law_other"] (spF C (run T (n + 1)) 105) :=
  fn_step (k := 2 * n + 1) (d := d_L1_tied) rfl G.f__law_tied sc__law_tied rfl rfl fun cdv A1 outer s H E X hX hr hx hp => by
    subst hX
    exact (exs_cons (ex_ret (ev_cmp (opr_inn ⟨rfl, rfl, rfl⟩ (hu73 hr)) (ev_tupd (evs_cons (ev_mm (.inl rfl) (call_min2 rfl) (fun _ _ => rfl) rfl G.z_min (by decide +kernel) (ev_var (pv 1)) (ev_var (pv 2))) (evs_cons (ev_mm (.inr rfl) (call_max2 rfl) (fun _ _ => rfl) rfl G.z_max (by decide +kernel) (ev_var (pv 1)) (ev_var (pv 2))) evs_nil))) (ev_ix ⟨rfl, rfl, rfl⟩ hr.units (ev_var (pv 0)) ev_int) rfl))
        exs_nil)
theorem st__law_pieces (G : Fa C mg fd tk) (A : Ok C mg base fd (2 * n) n) : FnOk C.P C.w C.K mg base (L2N.CX C.P C.w) (2 * n + 2) (C.fnA 106) (fd 106) ["_law_web_here", "_law_places"] (spF C (run T (n + 1)) 106) :=
  fn_step (k := 2 * n + 1) (d := d_L1_pieces) rfl G.f__law_pieces sc__law_pieces rfl rfl fun cdv A1 outer s H E X hX hr hx hp => by
    subst hX
    exact (exs_cons (ex_set (i := 2) rfl sc__law_pieces.nd rfl (by first | exact .inl rfl | exact .inr rfl) (ev_lstd evs_nil))
        (exs_cons (ex_for (xb := .const .non) ⟨rfl, rfl, rfl⟩ hp rfl (by decide) (ev_var (pv 1)) (gtT (.nm 3) (pg_name (i := 3) sc__law_pieces.nd rfl (by first | exact .inl rfl | exact .inr rfl))) (exs_cons (by first | exact (ex_lc (i := 4) rfl rfl rfl (sw_true rfl rfl rfl (by decide +kernel)) (own := [("_law_piece", 6)]) (xb := .const .non) (hd := true) ⟨rfl, rfl, rfl⟩ rfl sc__law_pieces.nd (blkOk_by (by first | decide +kernel | rfl)) (by decide) (ev_var (pv 2)) (fun _ _ _ _ _ => gtT (.nm 6) (pg_name (i := 6) sc__law_pieces.nd rfl (by first | exact .inl rfl | exact .inr rfl))) (fun _ _ _ _ _ => (pts1 (pt_VAL (ev_b1 (crb_any ⟨rfl, rfl, rfl⟩ rfl) rfl G.z_any (by decide +kernel) (ev_comp (own := [("_law_other", 7)]) (xb := .const .non) (hd := true) ⟨rfl, rfl, rfl⟩ rfl sc__law_pieces.nd (blkOk_by (by first | decide +kernel | rfl)) (by decide) (ev_var (pv 6)) (fun _ _ _ _ _ => gtT (.nm 7) (pg_name (i := 7) sc__law_pieces.nd rfl (by first | exact .inl rfl | exact .inr rfl))) (fun _ _ _ _ _ => pts0) (fun _ _ _ _ _ => (ev_call xF A.o__law_tied (hr.mono (by omega)) rfl G.m__law_tied G.f__law_tied.kp G.b__law_tied (evA_cons (ev_var (pv 0)) (evA_cons (ev_var (pv 3)) (evA_cons (ev_var (pv 7)) evA_nil)))))))))) (fun _ _ _ _ _ => (ev_var (pv 6)))) | exact (ex_set (i := 4) rfl sc__law_pieces.nd rfl (by first | exact .inl rfl | exact .inr rfl) (ev_comp (own := [("_law_piece", 6)]) (xb := .const .non) (hd := true) ⟨rfl, rfl, rfl⟩ rfl sc__law_pieces.nd (blkOk_by (by first | decide +kernel | rfl)) (by decide) (ev_var (pv 2)) (fun _ _ _ _ _ => gtT (.nm 6) (pg_name (i := 6) sc__law_pieces.nd rfl (by first | exact .inl rfl | exact .inr rfl))) (fun _ _ _ _ _ => (pts1 (pt_VAL (ev_b1 (crb_any ⟨rfl, rfl, rfl⟩ rfl) rfl G.z_any (by decide +kernel) (ev_comp (own := [("_law_other", 7)]) (xb := .const .non) (hd := true) ⟨rfl, rfl, rfl⟩ rfl sc__law_pieces.nd (blkOk_by (by first | decide +kernel | rfl)) (by decide) (ev_var (pv 6)) (fun _ _ _ _ _ => gtT (.nm 7) (pg_name (i := 7) sc__law_pieces.nd rfl (by first | exact .inl rfl | exact .inr rfl))) (fun _ _ _ _ _ => pts0) (fun _ _ _ _ _ => (ev_call xF A.o__law_tied (hr.mono (by omega)) rfl G.m__law_tied G.f__law_tied.kp G.b__law_tied (evA_cons (ev_var (pv 0)) (evA_cons (ev_var (pv 3)) (evA_cons (ev_var (pv 7)) evA_nil)))))))))) (fun _ _ _ _ _ => (ev_var (pv 6))))))
        (exs_cons (by first | exact (ex_lc (i := 2) rfl rfl rfl (sw_true rfl rfl rfl (by decide +kernel)) (own := [("_law_piece", 6)]) (xb := .const .non) (hd := true) ⟨rfl, rfl, rfl⟩ rfl sc__law_pieces.nd (blkOk_by (by first | decide +kernel | rfl)) (by decide) (ev_var (pv 2)) (fun _ _ _ _ _ => gtT (.nm 6) (pg_name (i := 6) sc__law_pieces.nd rfl (by first | exact .inl rfl | exact .inr rfl))) (fun _ _ _ _ _ => (pts1 (pt_CMP (opr_nin ⟨rfl, rfl, rfl⟩ (hu73 hr)) (ev_var (pv 6)) (ev_var (pv 4)) rfl))) (fun _ _ _ _ _ => (ev_var (pv 6)))) | exact (ex_set (i := 2) rfl sc__law_pieces.nd rfl (by first | exact .inl rfl | exact .inr rfl) (ev_comp (own := [("_law_piece", 6)]) (xb := .const .non) (hd := true) ⟨rfl, rfl, rfl⟩ rfl sc__law_pieces.nd (blkOk_by (by first | decide +kernel | rfl)) (by decide) (ev_var (pv 2)) (fun _ _ _ _ _ => gtT (.nm 6) (pg_name (i := 6) sc__law_pieces.nd rfl (by first | exact .inl rfl | exact .inr rfl))) (fun _ _ _ _ _ => (pts1 (pt_CMP (opr_nin ⟨rfl, rfl, rfl⟩ (hu73 hr)) (ev_var (pv 6)) (ev_var (pv 4)) rfl))) (fun _ _ _ _ _ => (ev_var (pv 6))))))
        (exs_cons (ex_set (i := 5) rfl sc__law_pieces.nd rfl (by first | exact .inl rfl | exact .inr rfl) (ev_lstd (evs_cons (ev_var (pv 3)) evs_nil)))
        (exs_cons (ex_for (xb := .const .non) ⟨rfl, rfl, rfl⟩ hp rfl (by decide) (ev_var (pv 4)) (gtT (.nm 6) (pg_name (i := 6) sc__law_pieces.nd rfl (by first | exact .inl rfl | exact .inr rfl))) (exs_cons (ex_exp (ev_ext ⟨rfl, rfl, rfl⟩ (pv 5) (ev_var (pv 6))))
        exs_nil))
        (exs_cons (ex_exp (ev_app ⟨rfl, rfl, rfl⟩ (pv 2) (ev_b1 (crb_sorted ⟨rfl, rfl, rfl⟩ hr.units) rfl G.z_sorted (by decide +kernel) (ev_var (pv 5)))))
        exs_nil))))))
        (exs_cons (ex_ret (ev_b1 (crb_sorted ⟨rfl, rfl, rfl⟩ hr.units) rfl G.z_sorted (by decide +kernel) (ev_comp (own := [("_law_piece", 6)]) (xb := .const .non) (hd := true) ⟨rfl, rfl, rfl⟩ rfl sc__law_pieces.nd (blkOk_by (by first | decide +kernel | rfl)) (by decide) (ev_var (pv 2)) (fun _ _ _ _ _ => gtT (.nm 6) (pg_name (i := 6) sc__law_pieces.nd rfl (by first | exact .inl rfl | exact .inr rfl))) (fun _ _ _ _ _ => pts0) (fun _ _ _ _ _ => (ev_t1 (cr_tuple ⟨rfl, rfl, rfl⟩) rfl G.z_tuple (by decide +kernel) (ev_var (pv 6)))))))
        exs_nil)))
theorem st__law_up (G : Fa C mg fd tk) (A : Ok C mg base fd (2 * n) n) : FnOk C.P C.w C.K mg base (L2N.CX C.P C.w) (2 * n + 2) (C.fnA 107) (fd 107) ["_law_tree_here", "_law_place"] (spF C (run T (n + 1)) 107) :=
  fn_step (k := 2 * n + 1) (d := d_L1_up) rfl G.f__law_up sc__law_up rfl rfl fun cdv A1 outer s H E X hX hr hx hp => by
    subst hX
    exact (exs_cons (ex_set (i := 2) rfl sc__law_up.nd rfl (by first | exact .inl rfl | exact .inr rfl) (ev_lstd evs_nil))
        (exs_cons (ex_whl hp (PW.pt (pt_AND (pt_NOTN (ev_ix ⟨rfl, rfl, rfl⟩ hr.units (ev_var (pv 0)) (ev_var (pv 1)))) (pw_and1 (pt_CMP opr_le (ev_b1 (cr_len ⟨rfl, rfl, rfl⟩) rfl G.z_len (by decide +kernel) (ev_var (pv 2))) (ev_b1 (cr_len ⟨rfl, rfl, rfl⟩) rfl G.z_len (by decide +kernel) (ev_var (pv 0))) (nomark _))))) (exs_cons (ex_set (i := 1) rfl sc__law_up.nd rfl (by first | exact .inl rfl | exact .inr rfl) (ev_ix ⟨rfl, rfl, rfl⟩ hr.units (ev_var (pv 0)) (ev_var (pv 1))))
        (exs_cons (ex_exp (ev_app ⟨rfl, rfl, rfl⟩ (pv 2) (ev_var (pv 1))))
        exs_nil)))
        (exs_cons (ex_ret (ev_var (pv 2)))
        exs_nil)))
theorem st__law_plant (G : Fa C mg fd tk) (A : Ok C mg base fd (2 * n) n) : FnOk C.P C.w C.K mg base (L2N.CX C.P C.w) (2 * n + 2) (C.fnA 108) (fd 108) ["_law_script", "_law_town", "_law_web_here", "_law_places", "_law_parent", "_law_tree_here"] (spF C (run T (n + 1)) 108) :=
  fn_step (k := 2 * n + 1) (d := d_L1_plant) rfl G.f__law_plant sc__law_plant rfl rfl fun cdv A1 outer s H E X hX hr hx hp => by
    subst hX
    exact (exs_cons (ex_for (xb := .const .non) ⟨rfl, rfl, rfl⟩ hp rfl (by decide) (ev_call hx A.o__law_pieces (hr.mono (by omega)) rfl G.m__law_pieces G.f__law_pieces.kp G.b__law_pieces (evA_cons (ev_var (pv 2)) (evA_cons (ev_var (pv 3)) evA_nil))) (gtT (.nm 6) (pg_name (i := 6) sc__law_plant.nd rfl (by first | exact .inl rfl | exact .inr rfl))) (exs_cons (ex_set (i := 7) rfl sc__law_plant.nd rfl (by first | exact .inl rfl | exact .inr rfl) (ev_call hx A.o__law_pick (hr.mono (by omega)) rfl G.m__law_pick G.f__law_pick.kp G.b__law_pick (evA_cons (ev_var (pv 0)) (evA_cons (ev_var (pv 1)) (evA_cons (ev_var (pv 6)) evA_nil)))))
        (exs_cons (ex_sti ⟨rfl, rfl, rfl⟩ hr.units (pv 5) (ev_var (pv 7)) (ev_var (pv 4)))
        (exs_cons (ex_exp (ev_call hx A.o__law_plant (hr.mono (by omega)) rfl G.m__law_plant G.f__law_plant.kp G.b__law_plant (evA_cons (ev_var (pv 0)) (evA_cons (ev_var (pv 1)) (evA_cons (ev_var (pv 2)) (evA_cons (ev_t1 (cr_tuple ⟨rfl, rfl, rfl⟩) rfl G.z_tuple (by decide +kernel) (ev_comp (own := [("_law_one", 8)]) (xb := .const .non) (hd := true) ⟨rfl, rfl, rfl⟩ rfl sc__law_plant.nd (blkOk_by (by first | decide +kernel | rfl)) (by decide) (ev_var (pv 6)) (fun _ _ _ _ _ => gtT (.nm 8) (pg_name (i := 8) sc__law_plant.nd rfl (by first | exact .inl rfl | exact .inr rfl))) (fun _ _ _ _ _ => (pts1 (pt_CMP (opr_ne ⟨rfl, rfl, rfl⟩ hr.units) (ev_var (pv 8)) (ev_var (pv 7)) (nomark _)))) (fun _ _ _ _ _ => (ev_var (pv 8))))) (evA_cons (ev_var (pv 7)) (evA_cons (ev_var (pv 5)) evA_nil))))))))
        exs_nil))))
        exs_nil)
theorem st__law_tree (G : Fa C mg fd tk) (A : Ok C mg base fd (2 * n) n) : FnOk C.P C.w C.K mg base (L2N.CX C.P C.w) (2 * n + 2) (C.fnA 109) (fd 109) ["_law_script", "_law_town", "_law_web_here"] (spF C (run T (n + 1)) 109) :=
  fn_step (k := 2 * n + 1) (d := d_L1_tree) rfl G.f__law_tree sc__law_tree rfl rfl fun cdv A1 outer s H E X hX hr hx hp => by
    subst hX
    exact (exs_cons (ex_set (i := 3) rfl sc__law_tree.nd rfl (by first | exact .inl rfl | exact .inr rfl) (ev_dctn (pos := ⟨0, 0, 0, 0⟩) _ pe_dnewK))
        (exs_cons (ex_exp (ev_call hx A.o__law_plant (hr.mono (by omega)) rfl G.m__law_plant G.f__law_plant.kp G.b__law_plant (evA_cons (ev_var (pv 0)) (evA_cons (ev_var (pv 1)) (evA_cons (ev_var (pv 2)) (evA_cons (ev_trng1 rfl rfl G.z_tuple rfl G.z_range (ev_ix ⟨rfl, rfl, rfl⟩ hr.units (ev_var (pv 2)) ev_int)) (evA_cons ev_none (evA_cons (ev_var (pv 3)) evA_nil))))))))
        (exs_cons (by first | exact (ex_lc1 (i := 4) rfl rfl rfl (sw_true rfl rfl rfl (by decide +kernel)) (own := [("_law_place", 6)]) ⟨rfl, rfl, rfl⟩ rfl sc__law_tree.nd (blkOk_by (by first | decide +kernel | rfl)) (by decide) rfl G.z_range (ev_ix ⟨rfl, rfl, rfl⟩ hr.units (ev_var (pv 2)) ev_int) (fun _ _ _ _ _ => gtT (.nm 6) (pg_name (i := 6) sc__law_tree.nd rfl (by first | exact .inl rfl | exact .inr rfl))) (fun _ _ _ _ _ => pts0) (fun _ _ _ _ _ => (ev_ix ⟨rfl, rfl, rfl⟩ hr.units (ev_var (pv 3)) (ev_var (pv 6))))) | exact (ex_set (i := 4) rfl sc__law_tree.nd rfl (by first | exact .inl rfl | exact .inr rfl) (ev_comp1 (own := [("_law_place", 6)]) ⟨rfl, rfl, rfl⟩ rfl sc__law_tree.nd (blkOk_by (by first | decide +kernel | rfl)) (by decide) rfl G.z_range (ev_ix ⟨rfl, rfl, rfl⟩ hr.units (ev_var (pv 2)) ev_int) (fun _ _ _ _ _ => gtT (.nm 6) (pg_name (i := 6) sc__law_tree.nd rfl (by first | exact .inl rfl | exact .inr rfl))) (fun _ _ _ _ _ => pts0) (fun _ _ _ _ _ => (ev_ix ⟨rfl, rfl, rfl⟩ hr.units (ev_var (pv 3)) (ev_var (pv 6)))))))
        (exs_cons (by first | exact (ex_lc1 (i := 5) rfl rfl rfl (sw_true rfl rfl rfl (by decide +kernel)) (own := [("_law_place", 6)]) ⟨rfl, rfl, rfl⟩ rfl sc__law_tree.nd (blkOk_by (by first | decide +kernel | rfl)) (by decide) rfl G.z_range (ev_ix ⟨rfl, rfl, rfl⟩ hr.units (ev_var (pv 2)) ev_int) (fun _ _ _ _ _ => gtT (.nm 6) (pg_name (i := 6) sc__law_tree.nd rfl (by first | exact .inl rfl | exact .inr rfl))) (fun _ _ _ _ _ => (pts1 (pt_ISN (ev_ix ⟨rfl, rfl, rfl⟩ hr.units (ev_var (pv 4)) (ev_var (pv 6)))))) (fun _ _ _ _ _ => (ev_var (pv 6)))) | exact (ex_set (i := 5) rfl sc__law_tree.nd rfl (by first | exact .inl rfl | exact .inr rfl) (ev_comp1 (own := [("_law_place", 6)]) ⟨rfl, rfl, rfl⟩ rfl sc__law_tree.nd (blkOk_by (by first | decide +kernel | rfl)) (by decide) rfl G.z_range (ev_ix ⟨rfl, rfl, rfl⟩ hr.units (ev_var (pv 2)) ev_int) (fun _ _ _ _ _ => gtT (.nm 6) (pg_name (i := 6) sc__law_tree.nd rfl (by first | exact .inl rfl | exact .inr rfl))) (fun _ _ _ _ _ => (pts1 (pt_ISN (ev_ix ⟨rfl, rfl, rfl⟩ hr.units (ev_var (pv 4)) (ev_var (pv 6)))))) (fun _ _ _ _ _ => (ev_var (pv 6))))))
        (exs_cons (ex_if (PW.pt (pt_AND (pt_CMP opr_gt (ev_b1 (cr_len ⟨rfl, rfl, rfl⟩) rfl G.z_len (by decide +kernel) (ev_var (pv 5))) ev_int (nomark _)) (pw_and1 (pt_CMP (opr_eq ⟨rfl, rfl, rfl⟩ hr.units) (ev_call hx A.o__law_draw (hr.mono (by omega)) rfl G.m__law_draw G.f__law_draw.kp G.b__law_draw (evA_cons (ev_var (pv 0)) (evA_cons (ev_var (pv 1)) (evA_cons ev_int evA_nil)))) ev_int (nomark _))))) (exs_cons (ex_sti ⟨rfl, rfl, rfl⟩ hr.units (pv 4) (ev_ix ⟨rfl, rfl, rfl⟩ hr.units (ev_var (pv 5)) ev_int) (ev_ix ⟨rfl, rfl, rfl⟩ hr.units (ev_var (pv 5)) ev_int))
        exs_nil) exs_nil)
        (exs_cons (ex_ret (ev_t1 (cr_tuple ⟨rfl, rfl, rfl⟩) rfl G.z_tuple (by decide +kernel) (ev_var (pv 4))))
        exs_nil))))))
theorem st__law_is_ranking (G : Fa C mg fd tk) (A : Ok C mg base fd (2 * n) n) : FnOk C.P C.w C.K mg base (L2N.CX C.P C.w) (2 * n + 2) (C.fnA 120) (fd 120) ["_law_web_here", "_law_thing"] (spF C (run T (n + 1)) 120) :=
  fn_step (k := 2 * n + 1) (d := d__law_is_ranking) rfl G.f__law_is_ranking sc__law_is_ranking rfl rfl fun cdv A1 outer s H E X hX hr hx hp => by
    subst hX
    exact (exs_cons (ex_if (PW.pt (pt_OR (pt_NOT (pt_VAL (ev_isin (c := .tuple) ⟨rfl, rfl, rfl⟩ rfl G.z_isinstance boot_isi rfl G.z_tuple (by decide +kernel) (ev_var (pv 1))))) (pw_or1 (pt_CMP (opr_ne ⟨rfl, rfl, rfl⟩ hr.units) (ev_b1 (cr_len ⟨rfl, rfl, rfl⟩) rfl G.z_len (by decide +kernel) (ev_var (pv 1))) (ev_ix ⟨rfl, rfl, rfl⟩ hr.units (ev_var (pv 0)) ev_int) (nomark _))))) (exs_cons (ex_ret ev_bool)
        exs_nil) exs_nil)
        (exs_cons (ex_if (pt_NOT (pt_VAL (ev_b1 (crb_all ⟨rfl, rfl, rfl⟩ rfl) rfl G.z_all (by decide +kernel) (ev_comp (own := [("_law_one", 5)]) (xb := .const .non) (hd := true) ⟨rfl, rfl, rfl⟩ rfl sc__law_is_ranking.nd (blkOk_by (by first | decide +kernel | rfl)) (by decide) (ev_var (pv 1)) (fun _ _ _ _ _ => gtT (.nm 5) (pg_name (i := 5) sc__law_is_ranking.nd rfl (by first | exact .inl rfl | exact .inr rfl))) (fun _ _ _ _ _ => pts0) (fun _ _ _ _ _ => (ev_and (ev_isin (c := .int) ⟨rfl, rfl, rfl⟩ rfl G.z_isinstance boot_isi rfl G.z_int (by decide +kernel) (ev_var (pv 5))) (ev_and (ev_not (ev_isin (c := .bool) ⟨rfl, rfl, rfl⟩ rfl G.z_isinstance boot_isi rfl G.z_bool (by decide +kernel) (ev_var (pv 5)))) (pe_one (ev_ch (op1 := .le) (op2 := .le) chk_le chk_le ev_int (ev_var (pv 5)) ev_int))))))))) (exs_cons (ex_ret ev_bool)
        exs_nil) exs_nil)
        (exs_cons (ex_for2 ⟨rfl, rfl, rfl⟩ hp rfl (by decide) rfl G.z_range ev_int ev_int (gtT (.nm 2) (pg_name (i := 2) sc__law_is_ranking.nd rfl (by first | exact .inl rfl | exact .inr rfl))) (exs_cons (ex_set (i := 3) rfl sc__law_is_ranking.nd rfl (by first | exact .inl rfl | exact .inr rfl) (ev_t1 (cr_tuple ⟨rfl, rfl, rfl⟩) rfl G.z_tuple (by decide +kernel) (ev_comp1 (own := [("_law_place", 6)]) ⟨rfl, rfl, rfl⟩ rfl sc__law_is_ranking.nd (blkOk_by (by first | decide +kernel | rfl)) (by decide) rfl G.z_range (ev_ix ⟨rfl, rfl, rfl⟩ hr.units (ev_var (pv 0)) ev_int) (fun _ _ _ _ _ => gtT (.nm 6) (pg_name (i := 6) sc__law_is_ranking.nd rfl (by first | exact .inl rfl | exact .inr rfl))) (fun _ _ _ _ _ => (pts1 (pt_CMP opr_le (ev_ix ⟨rfl, rfl, rfl⟩ hr.units (ev_var (pv 1)) (ev_var (pv 6))) (ev_var (pv 2)) (nomark _)))) (fun _ _ _ _ _ => (ev_var (pv 6))))))
        (exs_cons (ex_for (xb := .const .non) ⟨rfl, rfl, rfl⟩ hp rfl (by decide) (ev_call hx A.o__law_pieces (hr.mono (by omega)) rfl G.m__law_pieces G.f__law_pieces.kp G.b__law_pieces (evA_cons (ev_var (pv 0)) (evA_cons (ev_var (pv 3)) evA_nil))) (gtT (.nm 4) (pg_name (i := 4) sc__law_is_ranking.nd rfl (by first | exact .inl rfl | exact .inr rfl))) (exs_cons (ex_if (pt_CMP opr_gt (ev_bm PySem.F.plainAttrs_list PySem.F.slot_list_count PySem.F.type_list_count (mt_cnt ⟨rfl, rfl, rfl⟩ (hu73 hr)) (ty_lst ⟨rfl, rfl, rfl⟩ (.inl rfl)) (ev_comp (own := [("_law_place", 6)]) (xb := .const .non) (hd := true) ⟨rfl, rfl, rfl⟩ rfl sc__law_is_ranking.nd (blkOk_by (by first | decide +kernel | rfl)) (by decide) (ev_var (pv 4)) (fun _ _ _ _ _ => gtT (.nm 6) (pg_name (i := 6) sc__law_is_ranking.nd rfl (by first | exact .inl rfl | exact .inr rfl))) (fun _ _ _ _ _ => pts0) (fun _ _ _ _ _ => (ev_ix ⟨rfl, rfl, rfl⟩ hr.units (ev_var (pv 1)) (ev_var (pv 6))))) (ev_var (pv 2))) ev_int (nomark _)) (exs_cons (ex_ret ev_bool)
        exs_nil) exs_nil)
        exs_nil))
        exs_nil)))
        (exs_cons (ex_ret ev_bool)
        exs_nil))))
theorem st_law (G : Fa C mg fd tk) (A : Ok C mg base fd (2 * n) n) : FnOk C.P C.w C.K mg base (L2N.CX C.P C.w) (2 * n + 2) (C.fnA 121) (fd 121) ["_law_script"] (spF C (run T (n + 1)) 121) :=
  fn_step (k := 2 * n + 1) (d := d_law) rfl G.f_law sc_law rfl rfl fun cdv A1 outer s H E X hX hr hx hp => by
    subst hX
    exact (exs_cons (ex_set (i := 1) rfl sc_law.nd rfl (by first | exact .inl rfl | exact .inr rfl) (ev_lstd evs_nil))
        (exs_cons (ex_set (i := 2) rfl sc_law.nd rfl (by first | exact .inl rfl | exact .inr rfl) (ev_call hx A.o__law_web (hr.mono (by omega)) rfl G.m__law_web G.f__law_web.kp G.b__law_web (evA_cons (ev_var (pv 0)) (evA_cons (ev_var (pv 1)) (evA_cons ev_int evA_nil)))))
        (exs_cons (ex_set (i := 3) rfl sc_law.nd rfl (by first | exact .inl rfl | exact .inr rfl) (ev_call hx A.o__law_tree (hr.mono (by omega)) rfl G.m__law_tree G.f__law_tree.kp G.b__law_tree (evA_cons (ev_var (pv 0)) (evA_cons (ev_var (pv 1)) (evA_cons (ev_var (pv 2)) evA_nil)))))
        (exs_cons (by first | exact (ex_lc1 (i := 4) rfl rfl rfl (sw_true rfl rfl rfl (by decide +kernel)) (own := [("_law_place", 11)]) ⟨rfl, rfl, rfl⟩ rfl sc_law.nd (blkOk_by (by first | decide +kernel | rfl)) (by decide) rfl G.z_range (ev_ix ⟨rfl, rfl, rfl⟩ hr.units (ev_var (pv 2)) ev_int) (fun _ _ _ _ _ => gtT (.nm 11) (pg_name (i := 11) sc_law.nd rfl (by first | exact .inl rfl | exact .inr rfl))) (fun _ _ _ _ _ => pts0) (fun _ _ _ _ _ => (ev_b1 (cr_len ⟨rfl, rfl, rfl⟩) rfl G.z_len (by decide +kernel) (ev_call xF A.o__law_up (hr.mono (by omega)) rfl G.m__law_up G.f__law_up.kp G.b__law_up (evA_cons (ev_var (pv 3)) (evA_cons (ev_var (pv 11)) evA_nil)))))) | exact (ex_set (i := 4) rfl sc_law.nd rfl (by first | exact .inl rfl | exact .inr rfl) (ev_comp1 (own := [("_law_place", 11)]) ⟨rfl, rfl, rfl⟩ rfl sc_law.nd (blkOk_by (by first | decide +kernel | rfl)) (by decide) rfl G.z_range (ev_ix ⟨rfl, rfl, rfl⟩ hr.units (ev_var (pv 2)) ev_int) (fun _ _ _ _ _ => gtT (.nm 11) (pg_name (i := 11) sc_law.nd rfl (by first | exact .inl rfl | exact .inr rfl))) (fun _ _ _ _ _ => pts0) (fun _ _ _ _ _ => (ev_b1 (cr_len ⟨rfl, rfl, rfl⟩) rfl G.z_len (by decide +kernel) (ev_call xF A.o__law_up (hr.mono (by omega)) rfl G.m__law_up G.f__law_up.kp G.b__law_up (evA_cons (ev_var (pv 3)) (evA_cons (ev_var (pv 11)) evA_nil))))))))
        (exs_cons (ex_set (i := 5) rfl sc_law.nd rfl (by first | exact .inl rfl | exact .inr rfl) (ev_t1 (cr_tuple ⟨rfl, rfl, rfl⟩) rfl G.z_tuple (by decide +kernel) (ev_comp (own := [("_law_one", 12)]) (xb := .const .non) (hd := false) ⟨rfl, rfl, rfl⟩ rfl sc_law.nd (blkOk_by (by first | decide +kernel | rfl)) (by decide) (ev_var (pv 4)) (fun _ _ _ _ _ => gtT (.nm 12) (pg_name (i := 12) sc_law.nd rfl (by first | exact .inl rfl | exact .inr rfl))) (fun _ _ _ _ _ => pts0) (fun _ _ _ _ _ => (ev_bin (opr_sub ⟨rfl, rfl, rfl⟩) (ev_bin (opr_add ⟨rfl, rfl, rfl⟩) ev_int (ev_b1 (crb_minmax ⟨rfl, rfl, rfl⟩ rfl (by exact hr.units)).2 rfl G.z_max (by decide +kernel) (ev_var (pv 4)))) (ev_var (pv 12)))))))
        (exs_cons (ex_if (pt_CMP (opr_ne ⟨rfl, rfl, rfl⟩ hr.units) (ev_call hx A.o_is_ranking (hr.mono (by omega)) rfl G.m_is_ranking G.f_is_ranking.kp G.b_is_ranking (evA_cons (ev_var (pv 2)) (evA_cons (ev_var (pv 5)) evA_nil))) ev_bool (nomark _)) (exs_cons (ex_ret ev_bool)
        exs_nil) exs_nil)
        (exs_cons (ex_for1 ⟨rfl, rfl, rfl⟩ hp rfl (by decide) rfl G.z_range (ev_bin (opr_add ⟨rfl, rfl, rfl⟩) ev_int (ev_call hx A.o__law_draw (hr.mono (by omega)) rfl G.m__law_draw G.f__law_draw.kp G.b__law_draw (evA_cons (ev_var (pv 0)) (evA_cons (ev_var (pv 1)) (evA_cons ev_int evA_nil))))) (gtT (.nm 6) (pg_name (i := 6) sc_law.nd rfl (by first | exact .inl rfl | exact .inr rfl))) (exs_cons (ex_set (i := 8) rfl sc_law.nd rfl (by first | exact .inl rfl | exact .inr rfl) (ev_call hx A.o__law_draw (hr.mono (by omega)) rfl G.m__law_draw G.f__law_draw.kp G.b__law_draw (evA_cons (ev_var (pv 0)) (evA_cons (ev_var (pv 1)) (evA_cons (ev_ix ⟨rfl, rfl, rfl⟩ hr.units (ev_var (pv 2)) ev_int) evA_nil)))))
        (exs_cons (ex_set (i := 9) rfl sc_law.nd rfl (by first | exact .inl rfl | exact .inr rfl) (ev_lstd (evs_cons (ev_bin (opr_add ⟨rfl, rfl, rfl⟩) ev_int (ev_call hx A.o__law_draw (hr.mono (by omega)) rfl G.m__law_draw G.f__law_draw.kp G.b__law_draw (evA_cons (ev_var (pv 0)) (evA_cons (ev_var (pv 1)) (evA_cons ev_int evA_nil))))) (evs_cons (ev_bin (opr_add ⟨rfl, rfl, rfl⟩) ev_int (ev_call hx A.o__law_draw (hr.mono (by omega)) rfl G.m__law_draw G.f__law_draw.kp G.b__law_draw (evA_cons (ev_var (pv 0)) (evA_cons (ev_var (pv 1)) (evA_cons ev_int evA_nil))))) (evs_cons (ev_ix ⟨rfl, rfl, rfl⟩ hr.units (ev_var (pv 5)) ev_int) (evs_cons ev_int (evs_cons ev_int (evs_cons ev_none (evs_cons ev_bool (evs_cons (ev_str (by decide +kernel)) evs_nil))))))))))
        (exs_cons (ex_set (i := 10) rfl sc_law.nd rfl (by first | exact .inl rfl | exact .inr rfl) (ev_ix ⟨rfl, rfl, rfl⟩ hr.units (ev_var (pv 9)) (ev_call hx A.o__law_pick (hr.mono (by omega)) rfl G.m__law_pick G.f__law_pick.kp G.b__law_pick (evA_cons (ev_var (pv 0)) (evA_cons (ev_var (pv 1)) (evA_cons (ev_lstd (evs_cons ev_int (evs_cons ev_int (evs_cons ev_int (evs_cons ev_int (evs_cons ev_int (evs_cons ev_int (evs_cons ev_int (evs_cons ev_int (evs_cons ev_int (evs_cons ev_int evs_nil))))))))))) evA_nil))))))
        (exs_cons (ex_set (i := 5) rfl sc_law.nd rfl (by first | exact .inl rfl | exact .inr rfl) (ev_bin (opr_add ⟨rfl, rfl, rfl⟩) (ev_bin (opr_add ⟨rfl, rfl, rfl⟩) (ev_sl ⟨rfl, rfl, rfl⟩ (ev_var (pv 5)) po_no (po_nn (ev_var (pv 8)))) (ev_tupd (evs_cons (ev_var (pv 10)) evs_nil))) (ev_sl ⟨rfl, rfl, rfl⟩ (ev_var (pv 5)) (po_nn (ev_bin (opr_add ⟨rfl, rfl, rfl⟩) (ev_var (pv 8)) ev_int)) po_no)))
        (exs_cons (ex_if (PW.pt (pt_OR (pt_CMP (opr_ne ⟨rfl, rfl, rfl⟩ hr.units) (ev_call hx A.o_is_ranking (hr.mono (by omega)) rfl G.m_is_ranking G.f_is_ranking.kp G.b_is_ranking (evA_cons (ev_var (pv 2)) (evA_cons (ev_var (pv 5)) evA_nil))) (ev_call hx A.o__law_is_ranking (hr.mono (by omega)) rfl G.m__law_is_ranking G.f__law_is_ranking.kp G.b__law_is_ranking (evA_cons (ev_var (pv 2)) (evA_cons (ev_var (pv 5)) evA_nil))) (nomark _)) (pw_or1 (pt_NOT (pt_VAL (ev_isin (c := .bool) ⟨rfl, rfl, rfl⟩ rfl G.z_isinstance boot_isi rfl G.z_bool (by decide +kernel) (ev_call hx A.o_is_ranking (hr.mono (by omega)) rfl G.m_is_ranking G.f_is_ranking.kp G.b_is_ranking (evA_cons (ev_var (pv 2)) (evA_cons (ev_var (pv 5)) evA_nil))))))))) (exs_cons (ex_ret ev_bool)
        exs_nil) exs_nil)
        exs_nil))))))
        (exs_cons (ex_set (i := 7) rfl sc_law.nd rfl (by first | exact .inl rfl | exact .inr rfl) (ev_call hx A.o__law_pick (hr.mono (by omega)) rfl G.m__law_pick G.f__law_pick.kp G.b__law_pick (evA_cons (ev_var (pv 0)) (evA_cons (ev_var (pv 1)) (evA_cons (ev_lstd (evs_cons ev_none (evs_cons (ev_tupd evs_nil) (evs_cons (ev_t1 (cr_list ⟨rfl, rfl, rfl⟩ rfl) rfl G.z_list (by decide +kernel) (ev_var (pv 5))) (evs_cons (ev_bin (opr_add ⟨rfl, rfl, rfl⟩) (ev_var (pv 5)) (ev_tupd (evs_cons ev_int evs_nil))) (evs_cons (ev_sl ⟨rfl, rfl, rfl⟩ (ev_var (pv 5)) (po_nn ev_int) po_no) (evs_cons (ev_str (by decide +kernel)) (evs_cons ev_int evs_nil)))))))) evA_nil)))))
        (exs_cons (ex_ret (ev_cmp (opr_eq ⟨rfl, rfl, rfl⟩ hr.units) (ev_call hx A.o_is_ranking (hr.mono (by omega)) rfl G.m_is_ranking G.f_is_ranking.kp G.b_is_ranking (evA_cons (ev_var (pv 2)) (evA_cons (ev_var (pv 7)) evA_nil))) ev_bool (nomark _)))
        exs_nil)))))))))
theorem ok_all (G : Fa C mg fd tk) : ∀ n, Ok C mg base fd (2 * n) n
  | 0 => ⟨fn_zero, fn_zero, fn_zero, fn_zero, fn_zero, fn_zero, fn_zero, fn_zero, fn_zero, fn_zero, fn_zero, fn_zero, fn_zero, fn_zero, fn_zero, fn_zero, fn_zero, fn_zero, fn_zero, fn_zero⟩
  | n + 1 => ⟨st_is_whole G (ok_all G n), st_is_tie G (ok_all G n), st_is_web G (ok_all G n), st_need_web G (ok_all G n), st_beside G (ok_all G n), st_piece_of G (ok_all G n), st_are_ranks G (ok_all G n), st_is_ranking G (ok_all G n), st__law_cell_at G (ok_all G n), st__law_mixed G (ok_all G n), st__law_draw G (ok_all G n), st__law_pick G (ok_all G n), st__law_web G (ok_all G n), st__law_tied G (ok_all G n), st__law_pieces G (ok_all G n), st__law_up G (ok_all G n), st__law_plant G (ok_all G n), st__law_tree G (ok_all G n), st__law_is_ranking G (ok_all G n), st_law G (ok_all G n)⟩
end
end Lw


set_option Elab.async false
set_option linter.all false
set_option maxRecDepth 100000
namespace Lw
open PL PL.PV PQ
/-- what may stand in a spoilt ranking -/
def kindO : PV → Bool
  | .non => true
  | .int _ => true
  | .bl _ => true
  | .str _ => true
  | _ => false
theorem kind_m {v : PV} (h : kindO v = true) : v.isM = false := by cases v <;> simp_all [kindO]
theorem kind_t {v : PV} (h : kindO v = true) : tyOk v = true := by cases v <;> simp_all [kindO]
theorem law_head (n : Nat) (w : W) (l : List PV) (hk : ∀ v ∈ l, kindO v = true) :
    compEv T (run T n) (.and (.isin (.var 5) .int) (.and (.nt (.isin (.var 5) .bool)) (.ch .le .le (.const (.int 1)) (.var 5) (.const (.int 8))))) (.nm 5) [] [5] l [] [some (eW w, true), some (.tup l, true), none, none, none, none, none] =
      .ok (.lst (l.map fun v => PV.bl (okR v)), .own) [some (eW w, true), some (.tup l, true), none, none, none, none, none] := by
  have := comp_m (T := T) (P := run T n) (elt := .and (.isin (.var 5) .int) (.and (.nt (.isin (.var 5) .bool)) (.ch .le .le (.const (.int 1)) (.var 5) (.const (.int 8))))) (t := .nm 5) (cs := []) (own := [5]) (enc := fun v : PV => v) (r1 := [some (eW w, true), some (.tup l, true), none, none, none, none, none]) (fun v => PV.bl (okR v)) (L := l) fun v hv => by
    have h := hk v hv
    cases v <;> simp [kindO] at h <;> simp [turC, wipeS, okR, isWhole, chB]
    rename_i i
    by_cases c : 1 ≤ i <;> simp [c, chB, wipeS]
  rw [List.map_id'] at this
  exact this
theorem lawrk_no (n : Nat) (w : W) (l : List PV) (hl : l.length ≤ 9) (hk : ∀ v ∈ l, kindO v = true) (h : l.length ≠ w.many ∨ l.all okR = false) :
    run T (n + 1) 120 [(eW w, true), (.tup l, true)] = .ok (.bl false) true [(eW w, true), (.tup l, true)] := by
  rw [run_of (d := d__law_is_ranking) rfl rfl]
  have hll : l.length ≤ line := by unfold line; omega
  by_cases c : l.length = w.many
  · have h2 := h.resolve_left fun z => z c
    have c' : (l.length : Int) = w.many := by omega
    have hc := law_head n w l hk
    have hb := bools_map okR l
    have ha : ((l.map okR).all id) = false := by rw [List.all_map]; exact h2
    simp [d__law_is_ranking, c', hll, hc, hb, ha, -List.all_map]
  · have c' : ¬ (l.length : Int) = w.many := by omega
    simp [d__law_is_ranking, c']
open Classical in
theorem lawrk_g (n : Nat) (w : W) (hw : w.Ok) (g : List Nat) (hl : g.length = w.many) (hg : ∀ y ∈ g, 1 ≤ y ∧ y ≤ 8) :
    run T (n + 3) 120 [(eW w, true), (eL g, true)] = .ok (.bl (decide (isRk w g))) true [(eW w, true), (eL g, true)] := by
  have hhi := hw.hi
  rw [run_of (d := d__law_is_ranking) rfl rfl]
  have hll : g.length ≤ line := by unfold line; omega
  have hml : w.many ≤ line := by unfold line; omega
  have c' : (g.length : Int) = w.many := by omega
  have hc := law_head (n + 2) w (g.map nI) (fun v hv => by obtain ⟨o, _, rfl⟩ := List.mem_map.mp hv; rfl)
  have hb := bools_map okR (g.map nI)
  have ha : (((g.map nI).map okR).all id) = true := by rw [List.all_map]; exact okR_map hg
  have ro := rngOk_0 (b := w.many) (by omega)
  have inner : ∀ (r : Nat) (x4 : Slot), (∃ x4' : Slot, forEv T (run T (n + 2)) (.nm 4) [.ife (.bin .gt (.bm .cnt (.comp (.ix (.var 1) (.var 6)) (.nm 6) .seq (.var 4) (.const .non) [] [6] true) (.var 2)) (.const (.int 1))) [.ret (.const (.bl false))] []] ((pcs w (lowL w.many g r)).map eL) []
        [some (eW w, true), some (eL g, true), some (nI r, true), some (eL (lowL w.many g r), true), x4, none, none] = .ok .nx [some (eW w, true), some (eL g, true), some (nI r, true), some (eL (lowL w.many g r), true), x4', none, none] ∧ ∀ x ∈ pcs w (lowL w.many g r), twice g r x = false) ∨
      (∃ x4' : Slot, forEv T (run T (n + 2)) (.nm 4) [.ife (.bin .gt (.bm .cnt (.comp (.ix (.var 1) (.var 6)) (.nm 6) .seq (.var 4) (.const .non) [] [6] true) (.var 2)) (.const (.int 1))) [.ret (.const (.bl false))] []] ((pcs w (lowL w.many g r)).map eL) []
        [some (eW w, true), some (eL g, true), some (nI r, true), some (eL (lowL w.many g r), true), x4, none, none] = .ok (.rt (.bl false) .own) [some (eW w, true), some (eL g, true), some (nI r, true), some (eL (lowL w.many g r), true), x4', none, none] ∧ ∃ x ∈ pcs w (lowL w.many g r), twice g r x = true) := fun r x4 => by
    rcases for_r (T := T) (P := run T (n + 2)) (t := .nm 4) (enc := eL) (L := pcs w (lowL w.many g r)) (body := [.ife (.bin .gt (.bm .cnt (.comp (.ix (.var 1) (.var 6)) (.nm 6) .seq (.var 4) (.const .non) [] [6] true) (.var 2)) (.const (.int 1))) [.ret (.const (.bl false))] []])
      (fun pre e => (∃ x4' : Slot, e = [some (eW w, true), some (eL g, true), some (nI r, true), some (eL (lowL w.many g r), true), x4', none, none]) ∧ ∀ x ∈ pre, twice g r x = false)
      (fun v fl e => v = .bl false ∧ fl = .own ∧ (∃ x4' : Slot, e = [some (eW w, true), some (eL g, true), some (nI r, true), some (eL (lowL w.many g r), true), x4', none, none]) ∧ ∃ x ∈ pcs w (lowL w.many g r), twice g r x = true)
      (fun pre x post e hsp ⟨⟨x4', he⟩, hp⟩ => by
        subst he
        have hx : x ∈ pcs w (lowL w.many g r) := by rw [hsp]; simp
        obtain ⟨sx, mx, _⟩ := pcs_subs (low_sor w.many g r) hx
        have hxl : x.length ≤ line := by
          have := nodup_len 8 x sx.nodup fun y hy => by have := (mem_low.mp (mx y hy)).1; omega
          unfold line; omega
        have sqx : ∀ (r : Env) (fl : Fl), seqOf true (eL x) fl r [] = some (x.map nI, r, []) := fun r fl => by unfold eL; simp
        have e1 : compEv T (run T (n + 2)) (.ix (.var 1) (.var 6)) (.nm 6) [] [6] (x.map nI) [] [some (eW w, true), some (eL g, true), some (nI r, true), some (eL (lowL w.many g r), true), some (eL x, true), none, none] =
            .ok (.lst ((x.map (rk g)).map nI), .own) [some (eW w, true), some (eL g, true), some (nI r, true), some (eL (lowL w.many g r), true), some (eL x, true), none, none] := by
          rw [comp_m (fun y => nI (rk g y)) fun y hy => by
            have iy := ix_g (g := g) (x := y) (by have := (mem_low.mp (mx y hy)).1; omega)
            simp [turC, wipeS, iy], List.map_map]
          rfl
        have e2 := cnt_N (x.map (rk g)) r
        have e3 : ((x.map (rk g)).countP fun y => decide (y = r)) = x.countP fun p => decide (rk g p = r) := by rw [List.countP_map]; rfl
        rw [e3] at e2
        have isM : (eL x).isM = false := rfl
        have tm : ∀ l, tyM .cnt (.lst l) = true := fun l => rfl
        by_cases c : twice g r x = true
        · refine .inr ⟨.bl false, .own, [some (eW w, true), some (eL g, true), some (nI r, true), some (eL (lowL w.many g r), true), some (eL x, true), none, none], ?_, rfl, rfl, ⟨_, rfl⟩, x, hx, c⟩
          have c2 := of_decide_eq_true c
          generalize hQ : (x.countP fun p => decide (rk g p = r)) = q at *
          have c3 : (1 : Int) < (q : Int) := by omega
          simp [turF, isM, sqx, hxl, e1, e2, tm, c3, -List.map_map]
        · have c : twice g r x = false := by simpa using c
          refine .inl ⟨[some (eW w, true), some (eL g, true), some (nI r, true), some (eL (lowL w.many g r), true), some (eL x, true), none, none], ?_, ⟨_, rfl⟩, fun y hy => ?_⟩
          · have c2 := of_decide_eq_false c
            generalize hQ : (x.countP fun p => decide (rk g p = r)) = q at *
            have c3 : ¬ (1 : Int) < (q : Int) := by omega
            simp [turF, isM, sqx, hxl, e1, e2, tm, c3, -List.map_map]
          · rcases List.mem_append.mp hy with hy | hy
            · exact hp y hy
            · rw [List.mem_singleton.mp hy]; exact c)
      (r := [some (eW w, true), some (eL g, true), some (nI r, true), some (eL (lowL w.many g r), true), x4, none, none]) ⟨⟨x4, rfl⟩, by simp⟩ with ⟨r', e, ⟨x4', rfl⟩, h⟩ | ⟨v, fl, r', e, rfl, rfl, ⟨x4', rfl⟩, h⟩
    · exact .inl ⟨x4', e, h⟩
    · exact .inr ⟨x4', e, h⟩
  have key := for_r (T := T) (P := run T (n + 2)) (t := .nm 2) (enc := nI) (L := List.range' 1 8) (body := [.asg (.nm 3) (.b1 .tuple (.comp (.var 6) (.nm 6) .rng (.const (.int 0)) (.ix (.var 0) (.const (.int 0))) [.bin .le (.ix (.var 1) (.var 6)) (.var 2)] [6] false)), .fr (.nm 4) .seq (.call 106 [.var 0, .var 3]) (.const .non) [.ife (.bin .gt (.bm .cnt (.comp (.ix (.var 1) (.var 6)) (.nm 6) .seq (.var 4) (.const .non) [] [6] true) (.var 2)) (.const (.int 1))) [.ret (.const (.bl false))] []] false])
    (fun pre r => (∃ x2 x3 x4 : Slot, r = [some (eW w, true), some (eL g, true), x2, x3, x4, none, none]) ∧ ∀ r ∈ pre, ∀ x ∈ pcs w (lowL w.many g r), twice g r x = false)
    (fun v fl r => (∃ x2 x3 x4 : Slot, r = [some (eW w, true), some (eL g, true), x2, x3, x4, none, none]) ∧ v = .bl false ∧ fl = .own ∧ ¬ isRk w g)
    (fun pre a post r hsp ⟨⟨x2, x3, x4, hr⟩, hp⟩ => by
      subst hr
      have ham : a ∈ List.range' 1 8 := by rw [hsp]; simp
      have hc1 : compEv T (run T (n + 2)) (.var 6) (.nm 6) [.bin .le (.ix (.var 1) (.var 6)) (.var 2)] [6] ((List.range w.many).map nI) [] [some (eW w, true), some (eL g, true), some (nI a, true), x3, x4, none, none] =
          .ok (.lst ((lowL w.many g a).map nI), .own) [some (eW w, true), some (eL g, true), some (nI a, true), x3, x4, none, none] := by
        rw [comp_f (fun x : Nat => rk g x ≤ a) nI fun x hx => by
          have ix := ix_g (g := g) (x := x) (by have := List.mem_range.mp hx; omega)
          by_cases c : rk g x ≤ a
          · have c2 : (rk g x : Int) ≤ a := by omega
            simp [turC, wipeS, ix, c, c2]
          · have c2 : ¬ (rk g x : Int) ≤ a := by omega
            simp [turC, wipeS, ix, c, c2]]
        rfl
      have hP8 : (lowL w.many g a).length ≤ 8 := nodup_len 8 _ (low_sor _ _ _).nodup fun x hx => by have := (mem_low.mp hx).1; omega
      have hpi := run_L1pieces (T := T) n w hw (lowL w.many g a) (low_sor _ _ _) hP8
      have hpl : (pcs w (lowL w.many g a)).length ≤ line := by
        have := pcs_flat w (low_sor w.many g a)
        have h2 : (pcs w (lowL w.many g a)).length ≤ ((pcs w (lowL w.many g a)).map List.length).sum := by
          have : ∀ M : List (List Nat), (∀ x ∈ M, x ≠ []) → M.length ≤ (M.map List.length).sum := by
            intro M
            induction M with
            | nil => intro _; simp
            | cons x M ih =>
              intro h
              have h1 := ih fun y hy => h y (List.mem_cons_of_mem _ hy)
              have h2 := List.length_pos_iff.mpr (h x List.mem_cons_self)
              simp; omega
          exact this _ fun x hx => (pcs_subs (low_sor _ _ _) hx).2.2
        unfold line; omega
      have eT : ∀ l : List Nat, PV.tup (l.map nI) = eL l := fun l => rfl
      have isM : ∀ l, (eL l).isM = false := fun l => rfl
      rcases inner a x4 with ⟨x4', e, h⟩ | ⟨x4', e, x, hx, h⟩
      · refine .inl ⟨[some (eW w, true), some (eL g, true), some (nI a, true), some (eL (lowL w.many g a), true), x4', none, none], ?_, ⟨_, _, _, rfl⟩, fun r hr => ?_⟩
        · simp [turF, ro, rngL0, hml, hc1, hpi, hpl, eT, isM, e]
        · rcases List.mem_append.mp hr with hr | hr
          · exact hp r hr
          · rw [List.mem_singleton.mp hr]; exact h
      · refine .inr ⟨.bl false, .own, [some (eW w, true), some (eL g, true), some (nI a, true), some (eL (lowL w.many g a), true), x4', none, none], ?_, ⟨_, _, _, rfl⟩, rfl, rfl, fun hr => ?_⟩
        · simp [turF, ro, rngL0, hml, hc1, hpi, hpl, eT, isM, e]
        · have := (isRk_iff hl hg).mp hr a ham x hx
          rw [h] at this; cases this)
    (r := [some (eW w, true), some (eL g, true), none, none, none, none, none])
    ⟨⟨none, none, none, rfl⟩, by simp⟩
  have eE : eL g = .tup (g.map nI) := rfl
  have len : b1op .len (eL g) = some (.int (g.length : Int)) := by rw [eE]; simp
  have isT : tyIs (eL g) .tuple = some true := rfl
  have sq : ∀ r : Env, ∀ fl : Fl, seqOf true (eL g) fl r [] = some (g.map nI, r, []) := fun r fl => by rw [eE]; simp
  rw [← eE] at hc
  have r9 : rngL 1 8 = (List.range' 1 8).map nI := rngL1 8
  have ro9 : rngOk 1 9 = true := rfl
  have l8 : 8 ≤ line := by decide
  rcases key with ⟨r', e, ⟨x2, x3, x4, rfl⟩, hp⟩ | ⟨v, fl, r', e, ⟨x2, x3, x4, rfl⟩, rfl, rfl, hn⟩
  · rw [decide_eq_true ((isRk_iff hl hg).mpr hp)]
    generalize List.range' 1 8 = RR at *
    simp [d__law_is_ranking, isT, len, c', sq, hll, hc, hb, ha, ro9, r9, l8, e, -List.all_map, -List.map_map]
  · rw [decide_eq_false hn]
    generalize List.range' 1 8 = RR at *
    simp [d__law_is_ranking, isT, len, c', sq, hll, hc, hb, ha, ro9, r9, l8, e, -List.all_map, -List.map_map]
/-! ## the program's own answers -/
open Classical in
theorem run_isr (n : Nat) (w : W) (hw : w.Ok) (g : List Nat) (hl : g.length = w.many) (hg : ∀ y ∈ g, 1 ≤ y ∧ y ≤ 8) :
    run T (n + 5) 37 [(eW w, true), (eL g, true)] = .ok (.bl (decide (isRk w g))) true [(eW w, true), (eL g, true)] := by
  rw [run_has (d := d_is_ranking) rfl rfl]
  have h1 := run_need_web (T := T) n w hw
  have h2 := run_are_ranks (T := T) (n + 1) w hw g hl hg
  have isM : ∀ l, (eL l).isM = false := fun l => rfl
  simp [d_is_ranking, h1, h2, isM]
theorem run_isr_no (n : Nat) (w : W) (hw : w.Ok) (l : List PV) (hl : l.length ≤ 9) (hk : ∀ v ∈ l, kindO v = true) (h : l.length ≠ w.many ∨ l.all okR = false) :
    run T (n + 5) 37 [(eW w, true), (.tup l, true)] = .ok (.bl false) true [(eW w, true), (.tup l, true)] := by
  rw [run_has (d := d_is_ranking) rfl rfl]
  have h1 := run_need_web (T := T) n w hw
  have h2 := run_ranks_no (T := T) (n + 2) w l hl (fun v hv => ⟨kind_m (hk v hv), kind_t (hk v hv)⟩) h
  simp [d_is_ranking, h1, h2]
theorem run_isr_odd (n : Nat) (w : W) (hw : w.Ok) (v : PV) (hv : v.isM = true → ∃ l, v = .lst l) (ht : tyIs v .tuple = some false) :
    run T (n + 5) 37 [(eW w, true), (v, flg v)] = .ok (.bl false) true [(eW w, true), (v, flg v)] := by
  rw [run_has (d := d_is_ranking) rfl rfl]
  have h1 := run_need_web (T := T) n w hw
  by_cases hm : v.isM = true
  · obtain ⟨l, rfl⟩ := hv hm
    have hfl : flg (.lst l) = false := rfl
    rw [hfl]
    have h2 : run T (n + 4) 36 [(eW w, true), (.lst l, false)] = .ok (.bl false) true [(eW w, true), (.lst l, false)] := by
      rw [run_has (d := d_are_ranks) rfl rfl]
      simp [d_are_ranks]
    simp [d_is_ranking, h1, h2]
  · have hm : v.isM = false := by simpa using hm
    have hfl : flg v = true := by simp [flg, hm]
    rw [hfl]
    have h2 : run T (n + 4) 36 [(eW w, true), (v, true)] = .ok (.bl false) true [(eW w, true), (v, true)] := by
      rw [run_has (d := d_are_ranks) rfl rfl]
      simp [d_are_ranks, ht, hm]
    simp [d_is_ranking, h1, h2, hm]
/-- both agree -/
theorem agree (w : W) (hw : w.Ok) (l : List PV) (hl : l.length = w.many) (hk : ∀ v ∈ l, kindO v = true) :
    ∃ b : Bool, run T 39 37 [(eW w, true), (.tup l, true)] = .ok (.bl b) true [(eW w, true), (.tup l, true)] ∧ run T 39 120 [(eW w, true), (.tup l, true)] = .ok (.bl b) true [(eW w, true), (.tup l, true)] := by
  classical
  have h8 := hw.hi
  by_cases c : l.all okR = true
  · obtain ⟨g, rfl, hg⟩ := okR_all c
    have hgl : g.length = w.many := by simpa using hl
    exact ⟨decide (isRk w g), run_isr 34 w hw g hgl hg, lawrk_g 36 w hw g hgl hg⟩
  · have c : l.all okR = false := by simpa using c
    exact ⟨false, run_isr_no 34 w hw l (by omega) hk (.inr c), lawrk_no 38 w l (by omega) hk (.inr c)⟩
theorem s_slice (l : List PV) (i : Nat) (h : i < l.length) (h9 : l.length ≤ 9) : slice (.tup l) .non (.int (i : Int)) = some (.tup (l.take i)) ∧ slice (.tup l) (.int ((i : Int) + 1)) .non = some (.tup (l.drop (i + 1))) := by
  constructor
  · have h1 := optI_N (i := i) (by omega)
    have h2 := cut_take l i (by omega)
    have on : optI .non = some none := rfl
    unfold slice
    rw [on, h1]
    simp [h2]
  · have h1 := optI_N (i := i + 1) (by omega)
    have h2 := cut_drop l (i + 1) (by omega)
    have e : ((i + 1 : Nat) : Int) = (i : Int) + 1 := by omega
    rw [e] at h1 h2
    have on : optI .non = some none := rfl
    unfold slice
    rw [on, h1]
    simp [h2]
abbrev EN (ns : List Int) (k : Nat) (w : W) (f : List (Option Nat)) (UL : List Nat) (l : List PV) (x6 x7 x8 x9 x10 : Slot) : Env :=
  [some (scr ns, false), some (town k, true), some (eW w, true), some (eF f, true), some (.lst (UL.map nI), false), some (.tup l, true), x6, x7, x8, x9, x10, none, none]
theorem law_loop (ns : List Int) (w : W) (hw : w.Ok) (f : List (Option Nat)) (UL : List Nat) (t : Nat) (ht : t ≤ 3) (l0 : List PV) (h0 : l0.length = w.many) (hk0 : ∀ v ∈ l0, kindO v = true) (k : Nat) (hk : k < 800000) :
    ∃ (k' : Nat) (l : List PV) (x6 x8 x9 x10 : Slot), k' ≤ k + 12 ∧ l.length = w.many ∧ (∀ v ∈ l, kindO v = true) ∧
      forEv T (run T 39) (.nm 6) (match d_law.body.getD 6 .pass with | .fr _ _ _ _ b _ => b | _ => []) ((List.range t).map nI) [] (EN ns k w f UL l0 none none none none none) =
        .ok .nx (EN ns k' w f UL l x6 none x8 x9 x10) := by
  have hlo := hw.lo
  have hhi := hw.hi
  obtain ⟨r', e, k', l, x6, x8, x9, x10, rfl, hk', hl, hkl⟩ := for_n (T := T) (P := run T 39) (t := .nm 6) (enc := nI) (L := List.range t) (body := (match d_law.body.getD 6 .pass with | .fr _ _ _ _ b _ => b | _ => []))
    (fun pre r => ∃ (k' : Nat) (l : List PV) (x6 x8 x9 x10 : Slot), r = EN ns k' w f UL l x6 none x8 x9 x10 ∧ k' ≤ k + 4 * pre.length ∧ l.length = w.many ∧ ∀ v ∈ l, kindO v = true)
    (fun pre a post r hsp ⟨k', l, x6, x8, x9, x10, hr, hk', hl, hkl⟩ => by
      subst hr
      have hpl : pre.length ≤ 3 := by have := congrArg List.length hsp; simp at this; omega
      obtain ⟨i, hi, e1⟩ := run_draw (T := T) 36 ns k' w.many hlo (by omega)
      obtain ⟨p, hp, e2⟩ := run_draw (T := T) 36 ns (k' + 1) 8 (by decide) (by omega)
      obtain ⟨q, hq, e3⟩ := run_draw (T := T) 36 ns (k' + 2) 3 (by decide) (by omega)
      obtain ⟨v, hv, e4⟩ := run_pick (T := T) 35 ns (k' + 3) [.int 0, .int 0, .int 1, .int 1, .int 2, .int 3, .int 4, .int 5, .int 6, .int 7] true (by simp) (by simp) (by omega)
      obtain ⟨v0, l', rfl⟩ : ∃ v0 l', l = v0 :: l' := by
        cases l with
        | nil => simp at hl; omega
        | cons a b => exact ⟨a, b, rfl⟩
      have hk0 : kindO v0 = true := hkl v0 (by simp)
      obtain ⟨u, hu, ix, hvm⟩ : ∃ u : PV, kindO u = true ∧ index (.lst [.int (1 + (p : Int)), .int (1 + (q : Int)), v0, .int 0, .int 9, .non, .bl true, .str [49]]) v = some u ∧ ∃ i : Int, v = .int i := by
        simp only [List.mem_cons, List.not_mem_nil, or_false] at hv
        rcases hv with rfl | rfl | rfl | rfl | rfl | rfl | rfl | rfl | rfl | rfl
        · exact ⟨_, rfl, rfl, _, rfl⟩
        · exact ⟨_, rfl, rfl, _, rfl⟩
        · exact ⟨_, rfl, rfl, _, rfl⟩
        · exact ⟨_, rfl, rfl, _, rfl⟩
        · exact ⟨_, hk0, rfl, _, rfl⟩
        · exact ⟨_, rfl, rfl, _, rfl⟩
        · exact ⟨_, rfl, rfl, _, rfl⟩
        · exact ⟨_, rfl, rfl, _, rfl⟩
        · exact ⟨_, rfl, rfl, _, rfl⟩
        · exact ⟨_, rfl, rfl, _, rfl⟩
      obtain ⟨vi, rfl⟩ := hvm
      have hmu := kind_m hu
      have hm0 := kind_m hk0
      have e1' : run T 39 102 [(scr ns, false), (town k', true), (nI w.many, true)] = _ := e1
      have e2' : run T 39 102 [(scr ns, false), (town (k' + 1), true), (.int 8, true)] = _ := e2
      have e3' : run T 39 102 [(scr ns, false), (town (k' + 2), true), (.int 3, true)] = _ := e3
      have e4' : run T 39 103 [(scr ns, false), (town (k' + 3), true), (.lst [.int 0, .int 0, .int 1, .int 1, .int 2, .int 3, .int 4, .int 5, .int 6, .int 7], true)] = .ok (.int vi) true _ := e4
      have hl' := hl
      generalize hLL : v0 :: l' = l at *
      have i0 : index (.tup l) (.int 0) = some v0 := by rw [← hLL]; simp
      obtain ⟨s1, s2⟩ := s_slice l i (by omega) (by omega)
      have a1 : binop .add (.tup (l.take i)) (.tup [u]) = some (.tup (l.take i ++ [u])) := bo_addT _ _ (by simp; unfold line; omega)
      have a2 : binop .add (.tup (l.take i ++ [u])) (.tup (l.drop (i + 1))) = some (.tup (l.take i ++ [u] ++ l.drop (i + 1))) := bo_addT _ _ (by simp; unfold line; omega)
      have o1 : (optI .non).isSome = true := rfl
      have o2 := optI_N (i := i + 1) (by omega)
      have e' : ((i + 1 : Nat) : Int) = (i : Int) + 1 := by omega
      rw [e'] at o2
      have hnl : (l.take i ++ [u] ++ l.drop (i + 1)).length = w.many := by simp; omega
      have hnk : ∀ v ∈ l.take i ++ [u] ++ l.drop (i + 1), kindO v = true := fun y hy => by
        rcases List.mem_append.mp hy with hy | hy
        · rcases List.mem_append.mp hy with hy | hy
          · exact hkl y (List.mem_of_mem_take hy)
          · rw [List.mem_singleton.mp hy]; exact hu
        · exact hkl y (List.mem_of_mem_drop hy)
      have oal : ∀ (v : PV) (r r' : Env), PL.get r 9 = PL.get r' 9 → okAl v (.al 9) r r' = true := fun v r r' h => okAl_al2 v 9 r r' h
      obtain ⟨b, g1, g2⟩ := agree w hw _ hnl hnk
      have nn : binop .ne (.bl b) (.bl b) = some (.bl false) := by cases b <;> rfl
      generalize l.take i ++ [u] ++ l.drop (i + 1) = l2 at *
      refine ⟨EN ns (k' + 4) w f UL l2 (some (nI a, true)) none (some (nI i, true)) (some (.lst [.int (1 + (p : Int)), .int (1 + (q : Int)), v0, .int 0, .int 9, .non, .bl true, .str [49]], true)) (some (u, true)), ?_, k' + 4, l2, _, _, _, _, rfl, by simp; omega, hnl, hnk⟩
      simp [turF, d_law, e1', e2', e3', e4', i0, ix, s1, s2, a1, a2, o1, o2, hmu, hm0, g1, g2, nn, oal])
    (r := EN ns k w f UL l0 none none none none none)
    ⟨k, l0, none, none, none, none, rfl, by simp, h0, hk0⟩
  rw [List.length_range] at hk'
  exact ⟨k', l, x6, x8, x9, x10, by omega, hl, hkl, e⟩
theorem law_run (ns : List Int) : ∃ o bs, run T 40 121 [(scr ns, false)] = .ok (.bl true) o bs := by
  classical
  obtain ⟨w, k, hw, h8, hk, e1⟩ := run_web1 (T := T) 35 ns 0 8 (by decide) (by decide) (by decide)
  have hlo := hw.lo
  have hhi := hw.hi
  obtain ⟨f, k2, hT, hk2, e2⟩ := run_tree1 (T := T) 25 w hw ns k (by omega)
  have hml : w.many ≤ line := by unfold line; omega
  have ro := rngOk_0 (b := w.many) (by omega)
  have hul : ∀ x, x < w.many → (up f x).length ≤ w.many - 1 := fun x hx => by
    have := (upL_short (f := f) (m := w.many) (x := x) hlo).mpr (hT.1.fin x hx)
    rw [upL_Tr hT.1 hx] at this
    exact this
  generalize hUL : (List.range w.many).map (fun x => (up f x).length) = UL at *
  have hULl : UL.length = w.many := by rw [← hUL]; simp
  have hULm : ∀ y ∈ UL, y ≤ 7 := fun y hy => by
    rw [← hUL] at hy
    obtain ⟨x, hx, rfl⟩ := List.mem_map.mp hy
    have := hul x (List.mem_range.mp hx)
    omega
  have hM := (maxL_le (l := UL) (n := 7)).mpr hULm
  have hM2 := (maxL_le (l := UL) (n := maxL UL)).mp (Nat.le_refl _)
  have mx := b1_maxN UL (by intro h; rw [h] at hULl; simp at hULl; omega)
  have hc : compEv T (run T 39) (.b1 .len (.call 107 [.var 3, .var 11])) (.nm 11) [] [11] ((List.range w.many).map nI) [] [some (scr ns, false), some (town k2, true), some (eW w, true), some (eF f, true), none, none, none, none, none, none, none, none, none] =
      .ok (.lst (UL.map nI), .own) [some (scr ns, false), some (town k2, true), some (eW w, true), some (eF f, true), none, none, none, none, none, none, none, none, none] := by
    rw [comp_m (fun x : Nat => nI (up f x).length) fun x hx => by
      have a1 := run_up (T := T) 38 hT.1.len hT.1.lt hw.hi x (List.mem_range.mp hx)
      rw [upL_Tr hT.1 (List.mem_range.mp hx)] at a1
      simp [turC, wipeS, a1], ← hUL, List.map_map]
    rfl
  have hc2 : compEv T (run T 39) (.bin .sub (.bin .add (.const (.int 1)) (.b1 .max (.var 4))) (.var 12)) (.nm 12) [] [12] (UL.map nI) [] [some (scr ns, false), some (town k2, true), some (eW w, true), some (eF f, true), some (.lst (UL.map nI), false), none, none, none, none, none, none, none, none] =
      .ok (.lst ((UL.map fun y => 1 + maxL UL - y).map nI), .own) [some (scr ns, false), some (town k2, true), some (eW w, true), some (eF f, true), some (.lst (UL.map nI), false), none, none, none, none, none, none, none, none] := by
    rw [comp_m (fun y : Nat => nI (1 + maxL UL - y)) fun y hy => by
      have := hM2 y hy
      have e : ((1 : Int) + (maxL UL : Int) - (y : Int)) = ((1 + maxL UL - y : Nat) : Int) := by omega
      simp [turC, wipeS, mx, e], List.map_map]
    rfl
  generalize hG : (UL.map fun y => 1 + maxL UL - y) = g at *
  have hgl : g.length = w.many := by rw [← hG]; simp [hULl]
  have hg : ∀ y ∈ g, 1 ≤ y ∧ y ≤ 8 := fun y hy => by
    rw [← hG] at hy
    obtain ⟨z, hz, rfl⟩ := List.mem_map.mp hy
    have := hM2 z hz
    omega
  have hR : isRk w g := by
    refine tree_ranks hw hT (t := 1 + maxL UL) fun x hx => ?_
    have : rk g x = 1 + maxL UL - (up f x).length := by
      unfold rk; rw [← hG, ← hUL]; simp [hx]
    have h2 := hM2 (up f x).length (by rw [← hUL]; exact List.mem_map.mpr ⟨x, List.mem_range.mpr hx, rfl⟩)
    omega
  have g1 := run_isr 34 w hw g hgl hg
  rw [decide_eq_true hR] at g1
  have g1' : run T 39 37 [(eW w, true), (.tup (g.map nI), true)] = .ok (.bl true) true [(eW w, true), (.tup (g.map nI), true)] := g1
  have hb : d_law.body = d_law.body.take 6 ++ (d_law.body.getD 6 .pass :: d_law.body.drop 7) := rfl
  rw [run_of (d := d_law) rfl rfl]
  refine fin_told rfl ?_
  have s1 : exs T (run T 39) (d_law.body.take 6) (startE d_law [(scr ns, false)]) = .ok .nx (EN ns k2 w f UL (g.map nI) none none none none none) := by
    have e1' : run T 39 104 [(scr ns, false), (.lst [], true), (.int 8, true)] = _ := e1
    have e2' : run T 39 109 [(scr ns, false), (town k, true), (eW w, true)] = _ := e2
    have tt : binop .ne (.bl true) (.bl true) = some (.bl false) := rfl
    have hUll : UL.length ≤ line := by unfold line; omega
    simp [d_law, e1', e2', ro, rngL0, hml, hc, hUll, seqLa, frzS, hc2, g1', tt, hULl]
  rw [hb, exs_append, s1]
  simp only [sqR_nx, exs_cons_]
  obtain ⟨d, hd, e4⟩ := run_draw (T := T) 36 ns k2 3 (by decide) (by omega)
  obtain ⟨k3, l, x6, x8, x9, x10, hk3, hll, hkl, e5⟩ := law_loop ns w hw f UL (1 + d) (by omega) (g.map nI) (by simp [hgl]) (fun v hv => by
    obtain ⟨o, _, rfl⟩ := List.mem_map.mp hv
    rfl) (k2 + 1) (by omega)
  have s2 : ex T (run T 39) (d_law.body.getD 6 .pass) (EN ns k2 w f UL (g.map nI) none none none none none) = .ok .nx (EN ns k3 w f UL l x6 none x8 x9 x10) := by
    have e4' : run T 39 102 [(scr ns, false), (town k2, true), (.int 3, true)] = _ := e4
    have rd := rngL0 (1 + d)
    have e6 : ((1 + d : Nat) : Int) = 1 + (d : Int) := by omega
    have ro2 := rngOk_0 (b := 1 + d) (by omega)
    rw [e6] at ro2
    have hdl : 1 + d ≤ line := by unfold line; omega
    have en : (1 + (d : Int)).toNat = 1 + d := by omega
    simp only [d_law, List.getD_cons_succ, List.getD_cons_zero] at e5 ⊢
    generalize g.map nI = GL at *
    simp [e4', ro2, rd, hdl, e5, en]
  rw [s2]
  simp only [sqR_nx]
  obtain ⟨v, hv, e7⟩ := run_pick (T := T) 35 ns k3 [.non, .tup [], .lst l, .tup (l ++ [.int 1]), .tup (l.drop 1), .str [114, 97, 110, 107, 115], .int 1] true (by simp) (by simp) (by omega)
  have hvm : v.isM = true → ∃ l, v = .lst l := (by simp : ∀ v ∈ [.non, .tup [], .lst l, .tup (l ++ [.int 1]), .tup (l.drop 1), .str [114, 97, 110, 107, 115], .int 1], v.isM = true → ∃ l, v = .lst l) v hv
  have tp : ∀ l' : List PV, l'.length ≤ 9 → (∀ v ∈ l', kindO v = true) → l'.length ≠ w.many → run T 39 37 [(eW w, true), (.tup l', flg (.tup l'))] = .ok (.bl false) true [(eW w, true), (.tup l', flg (.tup l'))] := fun l' h1 h2 h3 =>
    run_isr_no 34 w hw l' h1 h2 (.inl h3)
  have n1 : run T 39 37 [(eW w, true), (v, flg v)] = .ok (.bl false) true [(eW w, true), (v, flg v)] := by
    have hv' := hv
    simp only [List.mem_cons, List.not_mem_nil, or_false] at hv'
    rcases hv' with rfl | rfl | rfl | rfl | rfl | rfl | rfl
    · exact run_isr_odd 34 w hw _ hvm rfl
    · exact tp [] (by simp) (by simp) (by simp; omega)
    · exact run_isr_odd 34 w hw _ hvm rfl
    · exact tp _ (by simp; omega) (fun v hv => by
        rcases List.mem_append.mp hv with hv | hv
        · exact hkl v hv
        · rw [List.mem_singleton.mp hv]; rfl) (by simp; omega)
    · exact tp _ (by simp; omega) (fun v hv => hkl v (List.mem_of_mem_drop hv)) (by simp; omega)
    · exact run_isr_odd 34 w hw _ hvm rfl
    · exact run_isr_odd 34 w hw _ hvm rfl
  have e7' : run T 39 103 [(scr ns, false), (town k3, true), (.lst [.non, .tup [], .lst l, .tup (l ++ [.int 1]), .tup (l.drop 1), .str [114, 97, 110, 107, 115], .int 1], true)] = _ := e7
  have a1 : binop .add (.tup l) (.tup [.int 1]) = some (.tup (l ++ [.int 1])) := bo_addT _ _ (by simp; unfold line; omega)
  have a2 : slice (.tup l) (.int 1) .non = some (.tup (l.drop 1)) := (s_slice l 0 (by omega) (by have := hw.hi; omega)).2
  have o1 : (optI .non).isSome = true := rfl
  have o2 : (optI (.int 1)).isSome = true := by
    have h : optI (.int 1) = some (some 1) := optI_N (i := 1) (by omega)
    rw [h]; rfl
  generalize l.drop 1 = LD at a2 e7'
  generalize l ++ [.int 1] = LA at a1 e7'
  have ff : binop .eq (.bl false) (.bl false) = some (.bl true) := rfl
  by_cases hm : v.isM = true
  · obtain ⟨l', rfl⟩ := hvm hm
    have hfl : flg (.lst l') = false := rfl
    rw [hfl] at n1 e7'
    simp [d_law, told, a1, a2, o1, o2, e7', n1, ff]
  · have hm : v.isM = false := by simpa using hm
    have hfl : flg v = true := by simp [flg, hm]
    rw [hfl] at n1 e7'
    simp [d_law, told, a1, a2, o1, o2, e7', n1, hm, ff]
end Lw

namespace Lw
theorem law_fact : PL.LawIs T 40 121 := fun ns _ => law_run ns
end Lw
set_option maxHeartbeats 4000000
namespace Lw
open PySem L2 PL
open L2H (RoomH)
set_option maxHeartbeats 0
theorem all_mk (hL : LawIs T 40 121) {l : PySem.W.OpenLaw} {w : World} {K : PySem.W.Frag} {h : Heap} {mg : Str → Option Value} {fa f0 f1 f2 f3 f6 f7 f36 f37 f100 f101 f102 f103 f104 f105 f106 f107 f108 f109 f120 f121 e0 : Addr} (X : K.In h) (G : h.Ns mainGlobals mg) (hfa : mg "law" = some (.ref fa))
    {od0 an0 od1 an1 od2 an2 od3 an3 od6 an6 od7 an7 od36 an36 od37 an37 od100 an100 od101 an101 od102 an102 od103 an103 od104 an104 od105 an105 od106 an106 od107 an107 od108 an108 od109 an109 od120 an120 od121 an121 : Option Addr} {sl0 sl1 sl2 sl3 sl6 sl7 sl36 sl37 sl100 sl101 sl102 sl103 sl104 sl105 sl106 sl107 sl108 sl109 sl120 sl121 : Array (Option Value)} {oc0 kV0 dc0 pm0 cd0 ct0 oc1 kV1 dc1 pm1 cd1 ct1 oc2 kV2 dc2 pm2 cd2 ct2 oc3 kV3 dc3 pm3 cd3 ct3 oc6 kV6 dc6 pm6 cd6 ct6 oc7 kV7 dc7 pm7 cd7 ct7 oc36 kV36 dc36 pm36 cd36 ct36 oc37 kV37 dc37 pm37 cd37 ct37 oc100 kV100 dc100 pm100 cd100 ct100 oc101 kV101 dc101 pm101 cd101 ct101 oc102 kV102 dc102 pm102 cd102 ct102 oc103 kV103 dc103 pm103 cd103 ct103 oc104 kV104 dc104 pm104 cd104 ct104 oc105 kV105 dc105 pm105 cd105 ct105 oc106 kV106 dc106 pm106 cd106 ct106 oc107 kV107 dc107 pm107 cd107 ct107 oc108 kV108 dc108 pm108 cd108 ct108 oc109 kV109 dc109 pm109 cd109 ct109 oc120 kV120 dc120 pm120 cd120 ct120 oc121 kV121 dc121 pm121 cd121 ct121 : Value} {tk0 : Tok}
    (a0 : PySem.W.nsIn K mainGlobals "is_whole" = some (some (.ref f0))) (l0 : K.lookup f0 = some ⟨oc0, od0, .func (PySem.W.fnOf "is_whole" "is_whole" (defArgs s_is_whole) (defBody s_is_whole) (defScope s_is_whole) .none kV0 dc0 pm0 an0 cd0 ct0), sl0⟩) (c0 : PySem.W.codeIn K cd0 "is_whole" = true) (k0 : PySem.W.keepIn K (.ref f0) = true)
    (a1 : PySem.W.nsIn K mainGlobals "is_tie" = some (some (.ref f1))) (l1 : K.lookup f1 = some ⟨oc1, od1, .func (PySem.W.fnOf "is_tie" "is_tie" (defArgs s_is_tie) (defBody s_is_tie) (defScope s_is_tie) .none kV1 dc1 pm1 an1 cd1 ct1), sl1⟩) (c1 : PySem.W.codeIn K cd1 "is_tie" = true) (k1 : PySem.W.keepIn K (.ref f1) = true)
    (a2 : PySem.W.nsIn K mainGlobals "is_web" = some (some (.ref f2))) (l2 : K.lookup f2 = some ⟨oc2, od2, .func (PySem.W.fnOf "is_web" "is_web" (defArgs s_is_web) (defBody s_is_web) (defScope s_is_web) .none kV2 dc2 pm2 an2 cd2 ct2), sl2⟩) (c2 : PySem.W.codeIn K cd2 "is_web" = true) (k2 : PySem.W.keepIn K (.ref f2) = true)
    (a3 : PySem.W.nsIn K mainGlobals "need_web" = some (some (.ref f3))) (l3 : K.lookup f3 = some ⟨oc3, od3, .func (PySem.W.fnOf "need_web" "need_web" (defArgs s_need_web) (defBody s_need_web) (defScope s_need_web) .none kV3 dc3 pm3 an3 cd3 ct3), sl3⟩) (c3 : PySem.W.codeIn K cd3 "need_web" = true) (k3 : PySem.W.keepIn K (.ref f3) = true)
    (a6 : PySem.W.nsIn K mainGlobals "beside" = some (some (.ref f6))) (l6 : K.lookup f6 = some ⟨oc6, od6, .func (PySem.W.fnOf "beside" "beside" (defArgs s_beside) (defBody s_beside) (defScope s_beside) .none kV6 dc6 pm6 an6 cd6 ct6), sl6⟩) (c6 : PySem.W.codeIn K cd6 "beside" = true) (k6 : PySem.W.keepIn K (.ref f6) = true)
    (a7 : PySem.W.nsIn K mainGlobals "piece_of" = some (some (.ref f7))) (l7 : K.lookup f7 = some ⟨oc7, od7, .func (PySem.W.fnOf "piece_of" "piece_of" (defArgs s_piece_of) (defBody s_piece_of) (defScope s_piece_of) .none kV7 dc7 pm7 an7 cd7 ct7), sl7⟩) (c7 : PySem.W.codeIn K cd7 "piece_of" = true) (k7 : PySem.W.keepIn K (.ref f7) = true)
    (a36 : PySem.W.nsIn K mainGlobals "are_ranks" = some (some (.ref f36))) (l36 : K.lookup f36 = some ⟨oc36, od36, .func (PySem.W.fnOf "are_ranks" "are_ranks" (defArgs s_are_ranks) (defBody s_are_ranks) (defScope s_are_ranks) .none kV36 dc36 pm36 an36 cd36 ct36), sl36⟩) (c36 : PySem.W.codeIn K cd36 "are_ranks" = true) (k36 : PySem.W.keepIn K (.ref f36) = true)
    (a37 : PySem.W.nsIn K mainGlobals "is_ranking" = some (some (.ref f37))) (l37 : K.lookup f37 = some ⟨oc37, od37, .func (PySem.W.fnOf "is_ranking" "is_ranking" (defArgs s_is_ranking) (defBody s_is_ranking) (defScope s_is_ranking) .none kV37 dc37 pm37 an37 cd37 ct37), sl37⟩) (c37 : PySem.W.codeIn K cd37 "is_ranking" = true) (k37 : PySem.W.keepIn K (.ref f37) = true)
    (a100 : PySem.W.nsIn K mainGlobals "_law_cell_at" = some (some (.ref f100))) (l100 : K.lookup f100 = some ⟨oc100, od100, .func (PySem.W.fnOf "_law_cell_at" "_law_cell_at" (defArgs s__law_cell_at) (defBody s__law_cell_at) (defScope s__law_cell_at) .none kV100 dc100 pm100 an100 cd100 ct100), sl100⟩) (c100 : PySem.W.codeIn K cd100 "_law_cell_at" = true) (k100 : PySem.W.keepIn K (.ref f100) = true)
    (a101 : PySem.W.nsIn K mainGlobals "_law_mixed" = some (some (.ref f101))) (l101 : K.lookup f101 = some ⟨oc101, od101, .func (PySem.W.fnOf "_law_mixed" "_law_mixed" (defArgs s__law_mixed) (defBody s__law_mixed) (defScope s__law_mixed) .none kV101 dc101 pm101 an101 cd101 ct101), sl101⟩) (c101 : PySem.W.codeIn K cd101 "_law_mixed" = true) (k101 : PySem.W.keepIn K (.ref f101) = true)
    (a102 : PySem.W.nsIn K mainGlobals "_law_draw" = some (some (.ref f102))) (l102 : K.lookup f102 = some ⟨oc102, od102, .func (PySem.W.fnOf "_law_draw" "_law_draw" (defArgs s__law_draw) (defBody s__law_draw) (defScope s__law_draw) .none kV102 dc102 pm102 an102 cd102 ct102), sl102⟩) (c102 : PySem.W.codeIn K cd102 "_law_draw" = true) (k102 : PySem.W.keepIn K (.ref f102) = true)
    (a103 : PySem.W.nsIn K mainGlobals "_law_pick" = some (some (.ref f103))) (l103 : K.lookup f103 = some ⟨oc103, od103, .func (PySem.W.fnOf "_law_pick" "_law_pick" (defArgs s__law_pick) (defBody s__law_pick) (defScope s__law_pick) .none kV103 dc103 pm103 an103 cd103 ct103), sl103⟩) (c103 : PySem.W.codeIn K cd103 "_law_pick" = true) (k103 : PySem.W.keepIn K (.ref f103) = true)
    (a104 : PySem.W.nsIn K mainGlobals "_law_web" = some (some (.ref f104))) (l104 : K.lookup f104 = some ⟨oc104, od104, .func (PySem.W.fnOf "_law_web" "_law_web" (defArgs s__law_web) (defBody s__law_web) (defScope s__law_web) .none kV104 dc104 pm104 an104 cd104 ct104), sl104⟩) (c104 : PySem.W.codeIn K cd104 "_law_web" = true) (k104 : PySem.W.keepIn K (.ref f104) = true)
    (a105 : PySem.W.nsIn K mainGlobals "_law_tied" = some (some (.ref f105))) (l105 : K.lookup f105 = some ⟨oc105, od105, .func (PySem.W.fnOf "_law_tied" "_law_tied" (defArgs s__law_tied) (defBody s__law_tied) (defScope s__law_tied) .none kV105 dc105 pm105 an105 cd105 ct105), sl105⟩) (c105 : PySem.W.codeIn K cd105 "_law_tied" = true) (k105 : PySem.W.keepIn K (.ref f105) = true)
    (a106 : PySem.W.nsIn K mainGlobals "_law_pieces" = some (some (.ref f106))) (l106 : K.lookup f106 = some ⟨oc106, od106, .func (PySem.W.fnOf "_law_pieces" "_law_pieces" (defArgs s__law_pieces) (defBody s__law_pieces) (defScope s__law_pieces) .none kV106 dc106 pm106 an106 cd106 ct106), sl106⟩) (c106 : PySem.W.codeIn K cd106 "_law_pieces" = true) (k106 : PySem.W.keepIn K (.ref f106) = true)
    (a107 : PySem.W.nsIn K mainGlobals "_law_up" = some (some (.ref f107))) (l107 : K.lookup f107 = some ⟨oc107, od107, .func (PySem.W.fnOf "_law_up" "_law_up" (defArgs s__law_up) (defBody s__law_up) (defScope s__law_up) .none kV107 dc107 pm107 an107 cd107 ct107), sl107⟩) (c107 : PySem.W.codeIn K cd107 "_law_up" = true) (k107 : PySem.W.keepIn K (.ref f107) = true)
    (a108 : PySem.W.nsIn K mainGlobals "_law_plant" = some (some (.ref f108))) (l108 : K.lookup f108 = some ⟨oc108, od108, .func (PySem.W.fnOf "_law_plant" "_law_plant" (defArgs s__law_plant) (defBody s__law_plant) (defScope s__law_plant) .none kV108 dc108 pm108 an108 cd108 ct108), sl108⟩) (c108 : PySem.W.codeIn K cd108 "_law_plant" = true) (k108 : PySem.W.keepIn K (.ref f108) = true)
    (a109 : PySem.W.nsIn K mainGlobals "_law_tree" = some (some (.ref f109))) (l109 : K.lookup f109 = some ⟨oc109, od109, .func (PySem.W.fnOf "_law_tree" "_law_tree" (defArgs s__law_tree) (defBody s__law_tree) (defScope s__law_tree) .none kV109 dc109 pm109 an109 cd109 ct109), sl109⟩) (c109 : PySem.W.codeIn K cd109 "_law_tree" = true) (k109 : PySem.W.keepIn K (.ref f109) = true)
    (a120 : PySem.W.nsIn K mainGlobals "_law_is_ranking" = some (some (.ref f120))) (l120 : K.lookup f120 = some ⟨oc120, od120, .func (PySem.W.fnOf "_law_is_ranking" "_law_is_ranking" (defArgs s__law_is_ranking) (defBody s__law_is_ranking) (defScope s__law_is_ranking) .none kV120 dc120 pm120 an120 cd120 ct120), sl120⟩) (c120 : PySem.W.codeIn K cd120 "_law_is_ranking" = true) (k120 : PySem.W.keepIn K (.ref f120) = true)
    (a121 : PySem.W.nsIn K mainGlobals "law" = some (some (.ref f121))) (l121 : K.lookup f121 = some ⟨oc121, od121, .func (PySem.W.fnOf "law" "law" (defArgs s_law) (defBody s_law) (defScope s_law) .none kV121 dc121 pm121 an121 cd121 ct121), sl121⟩) (c121 : PySem.W.codeIn K cd121 "law" = true) (k121 : PySem.W.keepIn K (.ref f121) = true)
    (z_all : PySem.W.nsIn K mainGlobals "all" = some none)
    (z_any : PySem.W.nsIn K mainGlobals "any" = some none)
    (z_bool : PySem.W.nsIn K mainGlobals "bool" = some none)
    (z_int : PySem.W.nsIn K mainGlobals "int" = some none)
    (z_isinstance : PySem.W.nsIn K mainGlobals "isinstance" = some none)
    (z_len : PySem.W.nsIn K mainGlobals "len" = some none)
    (z_list : PySem.W.nsIn K mainGlobals "list" = some none)
    (z_max : PySem.W.nsIn K mainGlobals "max" = some none)
    (z_min : PySem.W.nsIn K mainGlobals "min" = some none)
    (z_range : PySem.W.nsIn K mainGlobals "range" = some none)
    (z_set : PySem.W.nsIn K mainGlobals "set" = some none)
    (z_sorted : PySem.W.nsIn K mainGlobals "sorted" = some none)
    (z_tuple : PySem.W.nsIn K mainGlobals "tuple" = some none)
    (k_MANY : PySem.W.nsIn K mainGlobals "MANY" = some (some (.int 8 tk0)))
    (g_NoWeb : PySem.W.nsIn K mainGlobals "NoWeb" = some (some (.ref e0)))
    (x_NoWeb : PySem.W.excIn K e0 [.type "ValueError", .type "Exception", .type "BaseException", .type "object"] "ValueError.__new__" = true) (kc_NoWeb : PySem.W.keepIn K (.ref e0) = true) (s_NoWeb : PySem.W.subIn K (.ref e0) (.type "BaseException") = some true) (t_NoWeb : PySem.W.typeIn K (.ref e0) = some (.type "type"))
    : ∃ fd : FuncData, (∀ (s : Shared) (v : Value), BindsTo s fd ⟨[v], []⟩ [("_law_script", v)]) ∧ ∀ base : Heap, K.In base → base.Ns mainGlobals mg → FnOk l.prog w K mg base (L2N.CX l.prog w) 80 fa fd ["_law_script"] (spLaw K) := by
  have e := hfa.symm.trans (PySem.W.mg_of X G a121)
  cases e
  let fdA : Nat → FuncData := fun i => match i with
    | 0 => (PySem.W.fnOf "is_whole" "is_whole" (defArgs s_is_whole) (defBody s_is_whole) (defScope s_is_whole) .none kV0 dc0 pm0 an0 cd0 ct0)
    | 1 => (PySem.W.fnOf "is_tie" "is_tie" (defArgs s_is_tie) (defBody s_is_tie) (defScope s_is_tie) .none kV1 dc1 pm1 an1 cd1 ct1)
    | 2 => (PySem.W.fnOf "is_web" "is_web" (defArgs s_is_web) (defBody s_is_web) (defScope s_is_web) .none kV2 dc2 pm2 an2 cd2 ct2)
    | 3 => (PySem.W.fnOf "need_web" "need_web" (defArgs s_need_web) (defBody s_need_web) (defScope s_need_web) .none kV3 dc3 pm3 an3 cd3 ct3)
    | 6 => (PySem.W.fnOf "beside" "beside" (defArgs s_beside) (defBody s_beside) (defScope s_beside) .none kV6 dc6 pm6 an6 cd6 ct6)
    | 7 => (PySem.W.fnOf "piece_of" "piece_of" (defArgs s_piece_of) (defBody s_piece_of) (defScope s_piece_of) .none kV7 dc7 pm7 an7 cd7 ct7)
    | 36 => (PySem.W.fnOf "are_ranks" "are_ranks" (defArgs s_are_ranks) (defBody s_are_ranks) (defScope s_are_ranks) .none kV36 dc36 pm36 an36 cd36 ct36)
    | 37 => (PySem.W.fnOf "is_ranking" "is_ranking" (defArgs s_is_ranking) (defBody s_is_ranking) (defScope s_is_ranking) .none kV37 dc37 pm37 an37 cd37 ct37)
    | 100 => (PySem.W.fnOf "_law_cell_at" "_law_cell_at" (defArgs s__law_cell_at) (defBody s__law_cell_at) (defScope s__law_cell_at) .none kV100 dc100 pm100 an100 cd100 ct100)
    | 101 => (PySem.W.fnOf "_law_mixed" "_law_mixed" (defArgs s__law_mixed) (defBody s__law_mixed) (defScope s__law_mixed) .none kV101 dc101 pm101 an101 cd101 ct101)
    | 102 => (PySem.W.fnOf "_law_draw" "_law_draw" (defArgs s__law_draw) (defBody s__law_draw) (defScope s__law_draw) .none kV102 dc102 pm102 an102 cd102 ct102)
    | 103 => (PySem.W.fnOf "_law_pick" "_law_pick" (defArgs s__law_pick) (defBody s__law_pick) (defScope s__law_pick) .none kV103 dc103 pm103 an103 cd103 ct103)
    | 104 => (PySem.W.fnOf "_law_web" "_law_web" (defArgs s__law_web) (defBody s__law_web) (defScope s__law_web) .none kV104 dc104 pm104 an104 cd104 ct104)
    | 105 => (PySem.W.fnOf "_law_tied" "_law_tied" (defArgs s__law_tied) (defBody s__law_tied) (defScope s__law_tied) .none kV105 dc105 pm105 an105 cd105 ct105)
    | 106 => (PySem.W.fnOf "_law_pieces" "_law_pieces" (defArgs s__law_pieces) (defBody s__law_pieces) (defScope s__law_pieces) .none kV106 dc106 pm106 an106 cd106 ct106)
    | 107 => (PySem.W.fnOf "_law_up" "_law_up" (defArgs s__law_up) (defBody s__law_up) (defScope s__law_up) .none kV107 dc107 pm107 an107 cd107 ct107)
    | 108 => (PySem.W.fnOf "_law_plant" "_law_plant" (defArgs s__law_plant) (defBody s__law_plant) (defScope s__law_plant) .none kV108 dc108 pm108 an108 cd108 ct108)
    | 109 => (PySem.W.fnOf "_law_tree" "_law_tree" (defArgs s__law_tree) (defBody s__law_tree) (defScope s__law_tree) .none kV109 dc109 pm109 an109 cd109 ct109)
    | 120 => (PySem.W.fnOf "_law_is_ranking" "_law_is_ranking" (defArgs s__law_is_ranking) (defBody s__law_is_ranking) (defScope s__law_is_ranking) .none kV120 dc120 pm120 an120 cd120 ct120)
    | 121 => (PySem.W.fnOf "law" "law" (defArgs s_law) (defBody s_law) (defScope s_law) .none kV121 dc121 pm121 an121 cd121 ct121)
    | _ => (PySem.W.fnOf "law" "law" (defArgs s_law) (defBody s_law) (defScope s_law) .none kV121 dc121 pm121 an121 cd121 ct121)
  let C : Cn := ⟨K, l.prog, w, (fun i => match i with
    | 0 => f0
    | 1 => f1
    | 2 => f2
    | 3 => f3
    | 6 => f6
    | 7 => f7
    | 36 => f36
    | 37 => f37
    | 100 => f100
    | 101 => f101
    | 102 => f102
    | 103 => f103
    | 104 => f104
    | 105 => f105
    | 106 => f106
    | 107 => f107
    | 108 => f108
    | 109 => f109
    | 120 => f120
    | 121 => fa
    | _ => fa), (fun i => match i with
    | 0 => e0
    | _ => fa)⟩
  have GF : Fa C mg fdA (fun i => match i with  | _ => tk0) := ⟨(fun_mk (st := s_is_whole) l0 c0 k0), ((fun_mk (st := s_is_whole) l0 c0 k0).binds (ps := ["thing", "low", "most"]) fun _ _ _ _ _ _ us hl => match us, hl with | [_, _, _], _ => rfl), (PySem.W.mg_of X G a0), (fun_mk (st := s_is_tie) l1 c1 k1), ((fun_mk (st := s_is_tie) l1 c1 k1).binds (ps := ["thing", "many"]) fun _ _ _ _ _ _ us hl => match us, hl with | [_, _], _ => rfl), (PySem.W.mg_of X G a1), (fun_mk (st := s_is_web) l2 c2 k2), ((fun_mk (st := s_is_web) l2 c2 k2).binds (ps := ["thing"]) fun _ _ _ _ _ _ us hl => match us, hl with | [_], _ => rfl), (PySem.W.mg_of X G a2), (fun_mk (st := s_need_web) l3 c3 k3), ((fun_mk (st := s_need_web) l3 c3 k3).binds (ps := ["thing"]) fun _ _ _ _ _ _ us hl => match us, hl with | [_], _ => rfl), (PySem.W.mg_of X G a3), (fun_mk (st := s_beside) l6 c6 k6), ((fun_mk (st := s_beside) l6 c6 k6).binds (ps := ["web", "place"]) fun _ _ _ _ _ _ us hl => match us, hl with | [_, _], _ => rfl), (PySem.W.mg_of X G a6), (fun_mk (st := s_piece_of) l7 c7 k7), ((fun_mk (st := s_piece_of) l7 c7 k7).binds (ps := ["web", "places", "start"]) fun _ _ _ _ _ _ us hl => match us, hl with | [_, _, _], _ => rfl), (PySem.W.mg_of X G a7), (fun_mk (st := s_are_ranks) l36 c36 k36), ((fun_mk (st := s_are_ranks) l36 c36 k36).binds (ps := ["web", "thing"]) fun _ _ _ _ _ _ us hl => match us, hl with | [_, _], _ => rfl), (PySem.W.mg_of X G a36), (fun_mk (st := s_is_ranking) l37 c37 k37), ((fun_mk (st := s_is_ranking) l37 c37 k37).binds (ps := ["web", "thing"]) fun _ _ _ _ _ _ us hl => match us, hl with | [_, _], _ => rfl), (PySem.W.mg_of X G a37), (fun_mk (st := s__law_cell_at) l100 c100 k100), ((fun_mk (st := s__law_cell_at) l100 c100 k100).binds (ps := ["_law_script", "_law_k"]) fun _ _ _ _ _ _ us hl => match us, hl with | [_, _], _ => rfl), (PySem.W.mg_of X G a100), (fun_mk (st := s__law_mixed) l101 c101 k101), ((fun_mk (st := s__law_mixed) l101 c101 k101).binds (ps := ["_law_script", "_law_k", "_law_many"]) fun _ _ _ _ _ _ us hl => match us, hl with | [_, _, _], _ => rfl), (PySem.W.mg_of X G a101), (fun_mk (st := s__law_draw) l102 c102 k102), ((fun_mk (st := s__law_draw) l102 c102 k102).binds (ps := ["_law_script", "_law_town", "_law_many"]) fun _ _ _ _ _ _ us hl => match us, hl with | [_, _, _], _ => rfl), (PySem.W.mg_of X G a102), (fun_mk (st := s__law_pick) l103 c103 k103), ((fun_mk (st := s__law_pick) l103 c103 k103).binds (ps := ["_law_script", "_law_town", "_law_some"]) fun _ _ _ _ _ _ us hl => match us, hl with | [_, _, _], _ => rfl), (PySem.W.mg_of X G a103), (fun_mk (st := s__law_web) l104 c104 k104), ((fun_mk (st := s__law_web) l104 c104 k104).binds (ps := ["_law_script", "_law_town", "_law_most"]) fun _ _ _ _ _ _ us hl => match us, hl with | [_, _, _], _ => rfl), (PySem.W.mg_of X G a104), (fun_mk (st := s__law_tied) l105 c105 k105), ((fun_mk (st := s__law_tied) l105 c105 k105).binds (ps := ["_law_web_here", "_law_one", "_law_other"]) fun _ _ _ _ _ _ us hl => match us, hl with | [_, _, _], _ => rfl), (PySem.W.mg_of X G a105), (fun_mk (st := s__law_pieces) l106 c106 k106), ((fun_mk (st := s__law_pieces) l106 c106 k106).binds (ps := ["_law_web_here", "_law_places"]) fun _ _ _ _ _ _ us hl => match us, hl with | [_, _], _ => rfl), (PySem.W.mg_of X G a106), (fun_mk (st := s__law_up) l107 c107 k107), ((fun_mk (st := s__law_up) l107 c107 k107).binds (ps := ["_law_tree_here", "_law_place"]) fun _ _ _ _ _ _ us hl => match us, hl with | [_, _], _ => rfl), (PySem.W.mg_of X G a107), (fun_mk (st := s__law_plant) l108 c108 k108), ((fun_mk (st := s__law_plant) l108 c108 k108).binds (ps := ["_law_script", "_law_town", "_law_web_here", "_law_places", "_law_parent", "_law_tree_here"]) fun _ _ _ _ _ _ us hl => match us, hl with | [_, _, _, _, _, _], _ => rfl), (PySem.W.mg_of X G a108), (fun_mk (st := s__law_tree) l109 c109 k109), ((fun_mk (st := s__law_tree) l109 c109 k109).binds (ps := ["_law_script", "_law_town", "_law_web_here"]) fun _ _ _ _ _ _ us hl => match us, hl with | [_, _, _], _ => rfl), (PySem.W.mg_of X G a109), (fun_mk (st := s__law_is_ranking) l120 c120 k120), ((fun_mk (st := s__law_is_ranking) l120 c120 k120).binds (ps := ["_law_web_here", "_law_thing"]) fun _ _ _ _ _ _ us hl => match us, hl with | [_, _], _ => rfl), (PySem.W.mg_of X G a120), (fun_mk (st := s_law) l121 c121 k121), ((fun_mk (st := s_law) l121 c121 k121).binds (ps := ["_law_script"]) fun _ _ _ _ _ _ us hl => match us, hl with | [_], _ => rfl), (PySem.W.mg_of X G a121), (PySem.W.mg_none_of X G z_all), (PySem.W.mg_none_of X G z_any), (PySem.W.mg_none_of X G z_bool), (PySem.W.mg_none_of X G z_int), (PySem.W.mg_none_of X G z_isinstance), (PySem.W.mg_none_of X G z_len), (PySem.W.mg_none_of X G z_list), (PySem.W.mg_none_of X G z_max), (PySem.W.mg_none_of X G z_min), (PySem.W.mg_none_of X G z_range), (PySem.W.mg_none_of X G z_set), (PySem.W.mg_none_of X G z_sorted), (PySem.W.mg_none_of X G z_tuple), (PySem.W.mg_of X G k_MANY), (PySem.W.mg_of X G g_NoWeb), (x_NoWeb), (kc_NoWeb), (s_NoWeb), (t_NoWeb)⟩
  refine ⟨(PySem.W.fnOf "law" "law" (defArgs s_law) (defBody s_law) (defScope s_law) .none kV121 dc121 pm121 an121 cd121 ct121), fun s v => .of_eq rfl, fun base _ _ => ?_⟩
  exact law_imp (C := C) (n := 40) (i := 121) hL (ok_all GF 40).o_law
end Lw
open PySem PySem.W PyProof.Rows
set_option maxRecDepth 100000 in
set_option maxHeartbeats 0 in
theorem PySem.Challenge.cw_topwebs_k07_rankings_holds : PySem.Challenge.rw_topwebs_k07_rankings.Holds := by
  w_on; o_law; k_head; (case hw => w_witness2)
  k_fill
  refine PL.walkL (l := PySem.Challenge.rw_topwebs_k07_rankings) (k := 80) (x := "_law_script") rfl rfl ⟨rfl, by decide, by decide⟩ (fun w h Y => PySem.W.kIn_of Y) ?F
  case F =>
    intro w mg fa h KX G hmg
    refine' Lw.all_mk Lw.law_fact KX G hmg ?a0 ?l0 ?c0 ?k0 ?a1 ?l1 ?c1 ?k1 ?a2 ?l2 ?c2 ?k2 ?a3 ?l3 ?c3 ?k3 ?a6 ?l6 ?c6 ?k6 ?a7 ?l7 ?c7 ?k7 ?a36 ?l36 ?c36 ?k36 ?a37 ?l37 ?c37 ?k37 ?a100 ?l100 ?c100 ?k100 ?a101 ?l101 ?c101 ?k101 ?a102 ?l102 ?c102 ?k102 ?a103 ?l103 ?c103 ?k103 ?a104 ?l104 ?c104 ?k104 ?a105 ?l105 ?c105 ?k105 ?a106 ?l106 ?c106 ?k106 ?a107 ?l107 ?c107 ?k107 ?a108 ?l108 ?c108 ?k108 ?a109 ?l109 ?c109 ?k109 ?a120 ?l120 ?c120 ?k120 ?a121 ?l121 ?c121 ?k121 ?z_all ?z_any ?z_bool ?z_int ?z_isinstance ?z_len ?z_list ?z_max ?z_min ?z_range ?z_set ?z_sorted ?z_tuple ?k_MANY ?g_NoWeb ?x_NoWeb ?kc_NoWeb ?s_NoWeb ?t_NoWeb
    (case a0 => k_is)
    (case l0 => k_is)
    (case c0 => k_is)
    (case k0 => k_is)
    (case a1 => k_is)
    (case l1 => k_is)
    (case c1 => k_is)
    (case k1 => k_is)
    (case a2 => k_is)
    (case l2 => k_is)
    (case c2 => k_is)
    (case k2 => k_is)
    (case a3 => k_is)
    (case l3 => k_is)
    (case c3 => k_is)
    (case k3 => k_is)
    (case a6 => k_is)
    (case l6 => k_is)
    (case c6 => k_is)
    (case k6 => k_is)
    (case a7 => k_is)
    (case l7 => k_is)
    (case c7 => k_is)
    (case k7 => k_is)
    (case a36 => k_is)
    (case l36 => k_is)
    (case c36 => k_is)
    (case k36 => k_is)
    (case a37 => k_is)
    (case l37 => k_is)
    (case c37 => k_is)
    (case k37 => k_is)
    (case a100 => k_is)
    (case l100 => k_is)
    (case c100 => k_is)
    (case k100 => k_is)
    (case a101 => k_is)
    (case l101 => k_is)
    (case c101 => k_is)
    (case k101 => k_is)
    (case a102 => k_is)
    (case l102 => k_is)
    (case c102 => k_is)
    (case k102 => k_is)
    (case a103 => k_is)
    (case l103 => k_is)
    (case c103 => k_is)
    (case k103 => k_is)
    (case a104 => k_is)
    (case l104 => k_is)
    (case c104 => k_is)
    (case k104 => k_is)
    (case a105 => k_is)
    (case l105 => k_is)
    (case c105 => k_is)
    (case k105 => k_is)
    (case a106 => k_is)
    (case l106 => k_is)
    (case c106 => k_is)
    (case k106 => k_is)
    (case a107 => k_is)
    (case l107 => k_is)
    (case c107 => k_is)
    (case k107 => k_is)
    (case a108 => k_is)
    (case l108 => k_is)
    (case c108 => k_is)
    (case k108 => k_is)
    (case a109 => k_is)
    (case l109 => k_is)
    (case c109 => k_is)
    (case k109 => k_is)
    (case a120 => k_is)
    (case l120 => k_is)
    (case c120 => k_is)
    (case k120 => k_is)
    (case a121 => k_is)
    (case l121 => k_is)
    (case c121 => k_is)
    (case k121 => k_is)
    (case z_all => k_is)
    (case z_any => k_is)
    (case z_bool => k_is)
    (case z_int => k_is)
    (case z_isinstance => k_is)
    (case z_len => k_is)
    (case z_list => k_is)
    (case z_max => k_is)
    (case z_min => k_is)
    (case z_range => k_is)
    (case z_set => k_is)
    (case z_sorted => k_is)
    (case z_tuple => k_is)
    (case k_MANY => k_is)
    (case g_NoWeb => k_is)
    (case x_NoWeb => k_exc)
    (case kc_NoWeb => k_is)
    (case s_NoWeb => k_is)
    (case t_NoWeb => k_is)
