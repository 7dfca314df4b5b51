import PyProof.Rows.All
import Wide.All
import OpenK.AllK
import Wide.FinOn
import HandS.ForMost
import HandS.ForExc
import HandS.Set
import HandS.Strs
import HandS.More
import HandS.SetBool
import KE.KDictOf
import HandS.Wide
import HandS.WideBits
import HandS.TupAny
import HandS.TupMul
import HandS.IsInst
import HandS.Style
import HandS.Zip
import HandS.RaiseMore
import HandS.Flow
import HandS.SetFor
import HandS.TryOnly
import KE.GoesEnum
import HandS.Conv
import PyProof.RulesMatch
import PySem.Challenge.RW_retryplans_k01_plans_among_any_values
set_option Elab.async false
set_option linter.all false
set_option maxRecDepth 100000
set_option autoImplicit false
namespace Rp
open PySem

/-! ## plain data, objects, results -/
abbrev S := List Nat
inductive D where
  | non | bl (b : Bool) | int (i : Int) | str (s : S) | tup (l : List D) | rol (l : List D) | ref (n : Nat) | fn (f : String) | cls (c : String) | ty (n : String) | rod (ks : List S) (l : List D) | bod (t f : D)
mutual
def D.beq : D → D → Bool
  | .non, .non => true
  | .bl a, .bl b => a == b
  | .int a, .int b => a == b
  | .str a, .str b => a == b
  | .tup a, .tup b => D.beqs a b
  | .rol a, .rol b => D.beqs a b
  | .ref a, .ref b => a == b
  | .fn a, .fn b => a == b
  | .cls a, .cls b => a == b
  | .ty a, .ty b => a == b
  | .rod k a, .rod m b => k == m && D.beqs a b
  | .bod a b, .bod c d => D.beq a c && D.beq b d
  | _, _ => false
def D.beqs : List D → List D → Bool
  | [], [] => true
  | a :: l, b :: r => D.beq a b && D.beqs l r
  | _, _ => false
end
mutual
theorem D.beq_iff : ∀ (a b : D), D.beq a b = true ↔ a = b
  | .non, b => by cases b <;> simp [D.beq]
  | .bl _, b => by cases b <;> simp [D.beq]
  | .int _, b => by cases b <;> simp [D.beq]
  | .str _, b => by cases b <;> simp [D.beq]
  | .tup l, b => by
    cases b with
    | tup r => simp [D.beq, D.beqs_iff l r]
    | _ => simp [D.beq]
  | .rol l, b => by
    cases b with
    | rol r => simp [D.beq, D.beqs_iff l r]
    | _ => simp [D.beq]
  | .ref _, b => by cases b <;> simp [D.beq]
  | .fn _, b => by cases b <;> simp [D.beq]
  | .cls _, b => by cases b <;> simp [D.beq]
  | .ty _, b => by cases b <;> simp [D.beq]
  | .rod k l, b => by
    cases b with
    | rod m r => simp [D.beq, D.beqs_iff l r]
    | _ => simp [D.beq]
  | .bod a c, b => by
    cases b with
    | bod d e => simp [D.beq, D.beq_iff a d, D.beq_iff c e]
    | _ => simp [D.beq]
theorem D.beqs_iff : ∀ (a b : List D), D.beqs a b = true ↔ a = b
  | [], b => by cases b <;> simp [D.beqs]
  | a :: l, b => by
    cases b with
    | nil => simp [D.beqs]
    | cons c r => simp [D.beqs, D.beq_iff a c, D.beqs_iff l r]
end
instance : DecidableEq D := fun a b => if h : D.beq a b = true then isTrue ((D.beq_iff a b).mp h) else isFalse fun e => h ((D.beq_iff a b).mpr e)
instance : Inhabited D := ⟨.non⟩

/-- what stands at a number of the plain heap -/
inductive O where
  | lst (l : List D) | set (l : List D) | bd (t f : D) | sd (ks : List S) (l : List D) | ins (c : String) (fs : List (String × D))
  deriving DecidableEq
abbrev Hm := List O
abbrev Lc := List (Option D)

inductive R (α : Type) where
  | ok (a : α) (M : Hm)
  | exc (c : String) (fs : List (String × D)) (M : Hm)
  | stuck
namespace R
def bind {α β : Type} (r : R α) (k : α → Hm → R β) : R β := match r with
  | .ok a M => k a M
  | .exc c fs M => .exc c fs M
  | .stuck => .stuck
@[simp] theorem ok_bind {α β : Type} {a : α} {M : Hm} {k : α → Hm → R β} : (R.ok a M).bind k = k a M := rfl
@[simp] theorem exc_bind {α β : Type} {c fs} {M : Hm} {k : α → Hm → R β} : (R.exc c fs M : R α).bind k = .exc c fs M := rfl
@[simp] theorem stuck_bind {α β : Type} {k : α → Hm → R β} : (R.stuck : R α).bind k = .stuck := rfl
theorem bind_assoc {α β γ : Type} (r : R α) (k : α → Hm → R β) (m : β → Hm → R γ) : (r.bind k).bind m = r.bind fun a M => (k a M).bind m := by cases r <;> rfl
end R
inductive F where
  | nx (ρ : Lc) (M : Hm) | ret (d : D) (M : Hm) | brk (ρ : Lc) (M : Hm) | ct (ρ : Lc) (M : Hm) | exc (c : String) (fs : List (String × D)) (M : Hm) (ρ : Lc) | stuck
def R.go {α : Type} (r : R α) (ρ : Lc) (k : α → Hm → F) : F := match r with
  | .ok a M => k a M
  | .exc c fs M => .exc c fs M ρ
  | .stuck => .stuck
@[simp] theorem R.ok_go {α : Type} {a : α} {M : Hm} {ρ} {k : α → Hm → F} : (R.ok a M).go ρ k = k a M := rfl
@[simp] theorem R.exc_go {α : Type} {c fs} {M : Hm} {ρ} {k : α → Hm → F} : (R.exc c fs M : R α).go ρ k = .exc c fs M ρ := rfl
@[simp] theorem R.stuck_go {α : Type} {ρ} {k : α → Hm → F} : (R.stuck : R α).go ρ k = .stuck := rfl
def F.seq (f : F) (k : Lc → Hm → F) : F := match f with
  | .nx ρ M => k ρ M
  | r => r
@[simp] theorem F.nx_seq {ρ M k} : (F.nx ρ M).seq k = k ρ M := rfl
@[simp] theorem F.ret_seq {d M k} : (F.ret d M).seq k = .ret d M := rfl
@[simp] theorem F.brk_seq {ρ M k} : (F.brk ρ M).seq k = .brk ρ M := rfl
@[simp] theorem F.ct_seq {ρ M k} : (F.ct ρ M).seq k = .ct ρ M := rfl
@[simp] theorem F.exc_seq {c fs M ρ k} : (F.exc c fs M ρ).seq k = .exc c fs M ρ := rfl
@[simp] theorem F.stuck_seq {k} : F.stuck.seq k = .stuck := rfl

/-! ## the syntax -/
inductive Bop | add | sub | mul | fdiv | mod | pow | band | bor | shr
inductive Cop | eq | ne | lt | le | gt | ge | is | isnot | in | notin
inductive Bi | len | abs | min | max | sum | all | any | sorted | set | list | tuple | str | int | bool | repr | divmod | dict | reprd | listx
inductive Me | append | extend | join | index | count | get | pop | split | partition | keys | values | items
inductive Src where | pos (i : Nat) | kw (i : Nat)
mutual
inductive Ex where
  | non | bl (b : Bool) | int (i : Int) | str (s : S)
  | var (i : Nat) | glo (x : String)
  | bin (op : Bop) (a b : Ex) | neg (a : Ex) | not (a : Ex)
  | cmp (op : Cop) (a b : Ex) | cmp2 (op op' : Cop) (a b c : Ex)
  | and (a b : Ex) | or (a b : Ex) | ife (c a b : Ex)
  | tup (l : Exs) | lst (l : Exs)
  | sub (a i : Ex) | sl (a : Ex) (lo hi : Exo) | rev (a : Ex)
  | call (f : String) (l : Exs) (ks : List String) (kw : Exs)
  | calk (f : String) (l : Exs) (ks : List String) (kw : Exs)
  | bi (b : Bi) (l : Exs)
  | isi (a : Ex) (ts : List String)
  | me (m : Me) (o : Ex) (l : Exs)
  | bdd (a b c d : Ex) | bcp (a : Ex) | sdd (ks : List S) (l : Exs) | lrg (a : Ex)
  | lc (elt : Ex) (t : Tg) (ix : Ix) (c : Exo) (own : List Nat)
  | sc2 (elt : Ex) (t : Tg) (ix : Ix) (t' : Tg) (ix' : Ix) (own : List Nat)
inductive Exs where
  | nil | cons (a : Ex) (l : Exs)
inductive Exo where
  | none | some (a : Ex)
inductive Tg where
  | name (i : Nat) | tup (l : Tgs) | sub (o i : Ex)
inductive Tgs where
  | nil | cons (t : Tg) (l : Tgs)
inductive Ix where
  | ex (a : Ex) | rng1 (a : Ex) | rng2 (a b : Ex) | rng3 (a b c : Ex) | enum (a : Ex) | zip (a b : Ex)
end
mutual
inductive Sx where
  | asg (t : Tg) (e : Ex) | aug (i : Nat) (op : Bop) (e : Ex) | augs (o i : Ex) (op : Bop) (e : Ex)
  | ex (e : Ex) | ret (e : Ex) | retn | pass | brk | ct
  | ite (c : Ex) (a b : Sxs)
  | «for» (t : Tg) (ix : Ix) (b : Sxs)
  | «while» (c : Ex) (b : Sxs)
  | mat (e : Ex) (l : Mcs)
  | raise (c : String) (l : Exs)
inductive Sxs where
  | nil | cons (s : Sx) (l : Sxs)
inductive Mcs where
  | nil | cons (p : List S) (b : Sxs) (l : Mcs)
end
structure Def where
  slots : Nat
  pars : Nat
  body : Sxs
structure G where
  fn : String → Option Def
  con : String → Option D
  kw : String → List (List String)
  sh : String → Nat → List String → Option (List Src) := fun _ _ _ => none
abbrev Cl := String → List D → Hm → R D
end Rp

namespace Rp
open PySem

/-! ## what the operations give -/
def LN : Nat := 16777216
def BIG : Int := 9223372036854775808
/-- a list or a tuple -/
def seq? (M : Hm) : D → Option (List D)
  | .tup l => some l
  | .ref n => match M[n]? with | some (.lst l) => some l | _ => none
  | .rol l => some l
  | _ => none
/-- a list -/
def lsq? (M : Hm) : D → Option (List D)
  | .ref n => match M[n]? with | some (.lst l) => some l | _ => none
  | .rol l => some l
  | _ => none
def new (o : O) (M : Hm) : R D := .ok (.ref M.length) (M ++ [o])
def truth (M : Hm) : D → Option Bool
  | .non => some false
  | .bl b => some b
  | .int i => some (i != 0)
  | .str s => if s.length ≤ LN then some (!s.isEmpty) else none
  | .tup l => some (!l.isEmpty)
  | .ref n => match M[n]? with | some (.lst l) => some (!l.isEmpty) | _ => none
  | .rol l => some (!l.isEmpty)
  | _ => none
def opt {α β : Type} (o : Option α) (f : α → R β) : R β := match o with
  | some a => f a
  | none => .stuck
@[simp] theorem opt_some {α β : Type} {a : α} {f : α → R β} : opt (some a) f = f a := rfl
@[simp] theorem opt_none {α β : Type} {f : α → R β} : opt none f = .stuck := rfl
def test (r : R D) : R Bool := r.bind fun d M => opt (truth M d) fun b => .ok b M
/-- x and .., x or .. -/
def andV (x : D) (M : Hm) (f : Hm → R D) : R D := opt (truth M x) fun b => if b then f M else .ok x M
def orV (x : D) (M : Hm) (f : Hm → R D) : R D := opt (truth M x) fun b => if b then .ok x M else f M
def bits (i : Int) : Nat := i.natAbs.log2
/-- an index -/
def ix (n : Nat) (i : Int) : Option Nat := if 0 ≤ i then (if i < n then some i.toNat else none) else if -(n : Int) ≤ i then some (i + n).toNat else none
def at? {α : Type} (l : List α) (i : Int) : Option α := (ix l.length i).bind fun j => l[j]?
def sx (n d : Nat) : Option Int → Nat
  | none => d
  | some v => if v < 0 then (v + (n : Int)).toNat else min v.toNat n
def cut {α : Type} (l : List α) (lo hi : Option Int) : List α := (l.drop (sx l.length 0 lo)).take (sx l.length l.length hi - sx l.length 0 lo)

def binop (op : Bop) (x y : D) (M : Hm) : R D := match op, x, y with
  | .add, .int i, .int j => .ok (.int (i + j)) M
  | .add, .str i, .str j => if i.length + j.length ≤ LN then .ok (.str (i ++ j)) M else .stuck
  | .add, .tup i, .tup j => if i.length + j.length ≤ LN then .ok (.tup (i ++ j)) M else .stuck
  | .add, .ref i, .ref j => match M[i]?, M[j]? with
    | some (.lst a), some (.lst b) => if a.length + b.length ≤ LN then new (.lst (a ++ b)) M else .stuck
    | _, _ => .stuck
  | .sub, .int i, .int j => .ok (.int (i - j)) M
  | .mul, .int i, .int j => if bits i + bits j < 1000000 then .ok (.int (i * j)) M else .stuck
  | .mul, .ref i, .int k => match M[i]? with
    | some (.lst a) => if -BIG ≤ k ∧ k < BIG ∧ a.length * k.toNat ≤ LN then new (.lst (List.replicate k.toNat a).flatten) M else .stuck
    | _ => .stuck
  | .mul, .tup a, .int k => if a ≠ [] ∧ 2 ≤ k ∧ k ≤ 1000 ∧ a.length ≤ 1000 then .ok (.tup (List.replicate k.toNat a).flatten) M else .stuck
  | .fdiv, .int i, .int j => if 0 < j ∧ bits j < 9000 then .ok (.int (i / j)) M else .stuck
  | .mod, .int i, .int j => if 0 < j then .ok (.int (i % j)) M else .stuck
  | .pow, .int i, .int j => if 0 ≤ j ∧ j ≤ 1000000 ∧ i.natAbs < 2 ^ 64 then .ok (.int (i ^ j.toNat)) M else .stuck
  | _, _, _ => .stuck

mutual
def pd (M : Hm) : Nat → D → Option PyData
  | 0, _ => none
  | _ + 1, .non => some .none
  | _ + 1, .bl b => some (.bool b)
  | _ + 1, .int i => some (.int i)
  | _ + 1, .str s => some (.str ⟨s.toArray⟩)
  | n + 1, .tup l => (pds M n l).map .tuple
  | n + 1, .ref k => match M[k]? with | some (.lst l) => (pds M n l).map .list | _ => none
  | n + 1, .rol l => (pds M n l).map .list
  | _ + 1, _ => none
termination_by n d => (n, 0)
def pds (M : Hm) : Nat → List D → Option (List PyData)
  | _, [] => some []
  | n, a :: l => match pd M n a with | some x => (match pds M n l with | some r => some (x :: r) | none => none) | none => none
termination_by n l => (n, l.length + 1)
end
mutual
/-- data without lists, with empty dicts -/
def pdD (M : Hm) : Nat → D → Option PyData
  | 0, _ => none
  | _ + 1, .non => some .none
  | _ + 1, .bl b => some (.bool b)
  | _ + 1, .int i => some (.int i)
  | _ + 1, .str s => some (.str ⟨s.toArray⟩)
  | n + 1, .tup l => (pdDs M n l).map .tuple
  | _ + 1, .ref k => match M[k]? with | some (.sd [] []) => some (.dict []) | _ => none
  | _ + 1, _ => none
termination_by n d => (n, 0)
def pdDs (M : Hm) : Nat → List D → Option (List PyData)
  | _, [] => some []
  | n, a :: l => match pdD M n a with | some x => (match pdDs M n l with | some r => some (x :: r) | none => none) | none => none
termination_by n l => (n, l.length + 1)
end
mutual
/-- holds a dict, in tuples -/
def dr (M : Hm) : Nat → D → Bool
  | 0, _ => false
  | n + 1, .tup l => drs M n l
  | _ + 1, .ref k => match M[k]? with | some (.sd _ _) => true | _ => false
  | _ + 1, _ => false
termination_by n d => (n, 0)
def drs (M : Hm) : Nat → List D → Bool
  | _, [] => false
  | n, a :: l => dr M n a || drs M n l
termination_by n l => (n, l.length + 1)
end
/-- is it flat, ==? -/
def flat : D → Bool
  | .non => true | .bl _ => true | .int _ => true | .str _ => true | _ => false
def feq : D → D → Bool
  | .non, .non => true
  | .bl a, .bl b => a == b
  | .bl a, .int b => (if a then 1 else 0) == b
  | .int a, .bl b => a == (if b then 1 else 0)
  | .int a, .int b => a == b
  | .str a, .str b => a == b
  | _, _ => false
def FUEL : Nat := 64
def deq (M : Hm) (x y : D) : Option Bool :=
  if flat x && flat y then some (feq x y) else
  match pd M FUEL x, pd M FUEL y with
  | some p, some q => if SeqAt.shaped p && SeqAt.shaped q then some (PyData.eqv p q) else none
  | _, _ => none
/-- one sign in a text -/
def inS (x : D) (z : S) : Option Bool := match x with
  | .str [c] => some (decide (c ∈ z))
  | _ => none
/-- in a list or tuple of flat things -/
def inQ (M : Hm) (x y : D) : Option Bool := match seq? M y with
  | some l => if flat x && l.all flat then some (l.any fun z => feq z x) else none
  | none => none
def cmpop (op : Cop) (x y : D) (M : Hm) : R D := match op, x, y with
  | .eq, x, y => opt (deq M x y) fun b => .ok (.bl b) M
  | .ne, x, y => opt (deq M x y) fun b => .ok (.bl (!b)) M
  | .lt, .int i, .int j => .ok (.bl (decide (i < j))) M
  | .le, .int i, .int j => .ok (.bl (decide (i ≤ j))) M
  | .gt, .int i, .int j => .ok (.bl (decide (j < i))) M
  | .ge, .int i, .int j => .ok (.bl (decide (j ≤ i))) M
  | .is, x, .non => .ok (.bl (decide (x = .non))) M
  | .is, .bl a, .bl b => .ok (.bl (decide (a = b))) M
  | .isnot, x, .non => .ok (.bl (!decide (x = .non))) M
  | .isnot, .bl a, .bl b => .ok (.bl (!decide (a = b))) M
  | .in, x, .str z => opt (inS x z) fun b => .ok (.bl b) M
  | .notin, x, .str z => opt (inS x z) fun b => .ok (.bl (!b)) M
  | .in, x, y => opt (inQ M x y) fun b => .ok (.bl b) M
  | .notin, x, y => opt (inQ M x y) fun b => .ok (.bl (!b)) M
  | _, _, _ => .stuck
/-- what a written dict of texts has -/
def rodGet : List S → List D → S → Option D
  | k :: ks, d :: l, s => if k = s then some d else rodGet ks l s
  | _, _, _ => none
def subop (x y : D) (M : Hm) : R D := match x, y with
  | .rod ks l, .str s => match rodGet ks l s with | some d => .ok d M | none => .stuck
  | .str s, .int i => if s.length ≤ LN then (match at? s i with | some c => .ok (.str [c]) M | none => .stuck) else .stuck
  | x, .int i => match seq? M x with | some l => (match at? l i with | some d => .ok d M | none => .stuck) | none => .stuck
  | .bod t f, .bl b => .ok (if b then t else f) M
  | .ref n, .bl b => match M[n]? with | some (.bd t f) => .ok (if b then t else f) M | _ => .stuck
  | .ref n, .str s => match M[n]? with | some (.sd ks l) => (match rodGet ks l s with | some d => .ok d M | none => .stuck) | _ => .stuck
  | _, _ => .stuck
def slop (x : D) (lo hi : Option Int) (M : Hm) : R D := match x with
  | .str s => if s.length ≤ LN then .ok (.str (cut s lo hi)) M else .stuck
  | .tup l => .ok (.tup (cut l lo hi)) M
  | .rol l => new (.lst (cut l lo hi)) M
  | .ref n => match M[n]? with | some (.lst l) => new (.lst (cut l lo hi)) M | _ => .stuck
  | _ => .stuck
def ints? : List D → Option (List Int)
  | [] => some []
  | .int i :: l => (ints? l).map (i :: ·)
  | _ => none
def bls? : List D → Option (List Bool)
  | [] => some []
  | .bl i :: l => (bls? l).map (i :: ·)
  | _ => none
def strs? : List D → Option (List S)
  | [] => some []
  | .str i :: l => (strs? l).map (i :: ·)
  | _ => none
def sle (a b : S) : Bool := !decide (b < a)
/-- each once, in the order met -/
def dedup (l : List S) : List S := l.foldl (fun a x => if x ∈ a then a else a ++ [x]) []
/-- ascending -/
def ssort (l : List S) : List S := l.mergeSort sle
def imax : List Int → Int
  | [] => 0
  | [a] => a
  | a :: l => max a (imax l)
def imin : List Int → Int
  | [] => 0
  | [a] => a
  | a :: l => min a (imin l)
def joined (s : S) : List S → S
  | [] => []
  | [a] => a
  | a :: l => a ++ s ++ joined s l
/-- a number's signs -/
def istr (i : Int) : S := (toString i : Str).cps.toList
def fLen (d : D) (M : Hm) : R D := match d with
  | .str s => if s.length ≤ LN then .ok (.int s.length) M else .stuck
  | .tup l => .ok (.int l.length) M
  | .rol l => .ok (.int l.length) M
  | .ref n => match M[n]? with
    | some (.lst l) => .ok (.int l.length) M
    | some (.set l) => .ok (.int l.length) M
    | _ => .stuck
  | _ => .stuck
def fAbs (d : D) (M : Hm) : R D := match d with
  | .int i => .ok (.int (if i < 0 then -i else i)) M
  | _ => .stuck
def fMax (d : D) (M : Hm) : R D := match (lsq? M d).bind ints? with
  | some l => if l = [] then .stuck else .ok (.int (imax l)) M
  | none => .stuck
def fMin (d : D) (M : Hm) : R D := match (lsq? M d).bind ints? with
  | some l => if l = [] then .stuck else .ok (.int (imin l)) M
  | none => .stuck
def fSum (d : D) (M : Hm) : R D := match (lsq? M d).bind ints? with
  | some l => .ok (.int l.sum) M
  | none => .stuck
def fAll (d : D) (M : Hm) : R D := match (lsq? M d).bind bls? with
  | some l => .ok (.bl (l.all id)) M
  | none => .stuck
def fAny (d : D) (M : Hm) : R D := match (lsq? M d).bind bls? with
  | some l => .ok (.bl (l.any id)) M
  | none => .stuck
/-- a list or a set -/
def bag? (M : Hm) : D → Option (List D)
  | .ref n => match M[n]? with | some (.lst l) => some l | some (.set l) => some l | _ => none
  | _ => none
def fSorted (d : D) (M : Hm) : R D := match (bag? M d).bind strs? with
  | some z => if z.length < 64 then new (.lst ((ssort z).map .str)) M else .stuck
  | none => .stuck
def fSet (d : D) (M : Hm) : R D := match (seq? M d).bind strs? with
  | some l => if l.length ≤ 1000 then new (.set ((dedup l).map .str)) M else .stuck
  | none => .stuck
def fList (d : D) (M : Hm) : R D := match seq? M d with
  | some l => new (.lst l) M
  | none => .stuck
def fListX (d : D) (M : Hm) : R D := match d with
  | .str s => if s.length ≤ LN then new (.lst (s.map fun c => .str [c])) M else .stuck
  | d => fList d M
def fTuple (d : D) (M : Hm) : R D := match seq? M d with
  | some l => .ok (.tup l) M
  | none => .stuck
def fStr (d : D) (M : Hm) : R D := match d with
  | .int i => if bits i < 1920 then .ok (.str (istr i)) M else .stuck
  | _ => .stuck
def fInt (d : D) (M : Hm) : R D := match d with
  | .int i => .ok (.int i) M
  | .bl b => .ok (.int (if b then 1 else 0)) M
  | _ => .stuck
def fRepr (d : D) (M : Hm) : R D := match pd M FUEL d with
  | some p => if SeqAt.shaped p && p.showable && decide (p.shown.length ≤ LN) then .ok (.str p.shown.cps.toList) M else .stuck
  | none => .stuck
def pdX (M : Hm) (d : D) : Option PyData := if dr M FUEL d then (match pdD M FUEL d with
    | some p => if p.depth ≤ 64 then some p else none
    | none => none) else (match pd M FUEL d with
    | some p => if SeqAt.shaped p then some p else none
    | none => none)
def fReprD (d : D) (M : Hm) : R D := match pdX M d with
  | some p => if p.showable && decide (p.shown.length ≤ LN) then .ok (.str p.shown.cps.toList) M else .stuck
  | none => .stuck
def fMax2 (x y : D) (M : Hm) : R D := match x, y with
  | .int i, .int j => .ok (.int (if j > i then j else i)) M
  | _, _ => .stuck
def fMin2 (x y : D) (M : Hm) : R D := match x, y with
  | .int i, .int j => .ok (.int (if j < i then j else i)) M
  | _, _ => .stuck
def fDivmod (x y : D) (M : Hm) : R D := match x, y with
  | .int i, .int j => if 0 < j ∧ bits j < 9000 then .ok (.tup [.int (i / j), .int (i % j)]) M else .stuck
  | _, _ => .stuck
def fDict (d : D) (M : Hm) : R D := match d with
  | .bod t f => new (.bd t f) M
  | .ref n => match M[n]? with | some (.bd t f) => new (.bd t f) M | _ => .stuck
  | _ => .stuck
def b1 (b : Bi) (x : D) (M : Hm) : R D := match b with
  | .dict => fDict x M
  | .len => fLen x M | .abs => fAbs x M | .max => fMax x M | .min => fMin x M | .sum => fSum x M | .all => fAll x M | .any => fAny x M | .sorted => fSorted x M
  | .set => fSet x M | .list => fList x M | .tuple => fTuple x M | .str => fStr x M | .int => fInt x M | .repr => fRepr x M | .reprd => fReprD x M | .listx => fListX x M | _ => .stuck
def b2 (b : Bi) (x y : D) (M : Hm) : R D := match b with
  | .max => fMax2 x y M | .min => fMin2 x y M | .divmod => fDivmod x y M | _ => .stuck
def biop (b : Bi) (l : List D) (M : Hm) : R D := match l with
  | [x] => b1 b x M
  | [x, y] => b2 b x y M
  | _ => .stuck
/-- the built-in type of a value; isinstance -/
def tyOf (M : Hm) : D → Option String
  | .non => some "NoneType" | .bl _ => some "bool" | .int _ => some "int" | .str _ => some "str" | .tup _ => some "tuple" | .rol _ => some "list"
  | .ref n => match M[n]? with | some (.lst _) => some "list" | some (.sd _ _) => some "dict" | _ => none
  | _ => none
def istyN (n t : String) : Bool := n == t || (n == "bool" && t == "int")
def isty (M : Hm) (d : D) (ts : List String) : Option Bool := (tyOf M d).map fun n => ts.any fun t => istyN n t

def mAppend (o d : D) (M : Hm) : R D := match o with
  | .ref n => match M[n]? with | some (.lst l) => if l.length < LN then .ok .non (M.set n (.lst (l ++ [d]))) else .stuck | _ => .stuck
  | _ => .stuck
def mExtend (o d : D) (M : Hm) : R D := match o with
  | .ref n => match M[n]? with
    | some (.lst l) => (match d with
      | .ref k => (match M[k]? with | some (.lst r) => if l.length + r.length ≤ LN then .ok .non (M.set n (.lst (l ++ r))) else .stuck | _ => .stuck)
      | .tup r => if l.length + r.length ≤ LN then .ok .non (M.set n (.lst (l ++ r))) else .stuck
      | _ => .stuck)
    | _ => .stuck
  | _ => .stuck
def mJoin (o d : D) (M : Hm) : R D := match o with
  | .str s => opt ((seq? M d).bind strs?) fun l => if (l.map (·.length)).sum + l.length * s.length ≤ LN then .ok (.str (joined s l)) M else .stuck
  | _ => .stuck
def mCount (o d : D) (M : Hm) : R D := match o, d with
  | .ref n, .int k => (match M[n]? with
    | some (.lst l) => (match ints? l with | some zs => .ok (.int ((zs.count k : Nat) : Int)) M | none => .stuck)
    | _ => .stuck)
  | _, _ => .stuck
def mGet (o k d : D) (M : Hm) : R D := match o, k with
  | .ref n, .str s => match M[n]? with | some (.sd ks l) => .ok ((rodGet ks l s).getD d) M | _ => .stuck
  | .ref n, .int _ => match M[n]? with | some (.sd _ _) => .ok d M | _ => .stuck
  | _, _ => .stuck
/-- a method of a built-in type, T the type -/
def meop (m : Me) (T : String) (o : D) (l : List D) (M : Hm) : R D := match m, l with
  | .append, [d] => if T = "list" then mAppend o d M else .stuck
  | .extend, [d] => if T = "list" then mExtend o d M else .stuck
  | .join, [d] => if T = "str" then mJoin o d M else .stuck
  | .count, [d] => if T = "list" then mCount o d M else .stuck
  | .get, [k, d] => if T = "dict" then mGet o k d M else .stuck
  | _, _ => .stuck

/-! ## walks -/
structure It where
  items : List D
  keep : List (Nat × O)
def It.ok (i : It) (M : Hm) : Bool := i.keep.all fun p => decide (M[p.1]? = some p.2)
def iter (d : D) (M : Hm) : R It := match d with
  | .tup l => .ok ⟨l, []⟩ M
  | .str s => if s.length ≤ LN then .ok ⟨s.map fun c => .str [c], []⟩ M else .stuck
  | .ref n => match M[n]? with | some (.lst l) => .ok ⟨l, [(n, .lst l)]⟩ M | _ => .stuck
  | .rol l => .ok ⟨l, []⟩ M
  | _ => .stuck
def rng (lo : Int) (n : Nat) : List D := (List.range n).map fun k : Nat => .int (lo + (k : Int))
def HALF : Int := 4611686018427387904
def iterR (lo hi : Int) (M : Hm) : R It := if -HALF ≤ lo ∧ lo < HALF ∧ -HALF ≤ hi ∧ hi < HALF then .ok ⟨rng lo (hi - lo).toNat, []⟩ M else .stuck
def iterR1 (d : D) (M : Hm) : R It := match d with
  | .int i => iterR 0 i M
  | _ => .stuck
def iterR2 (d e : D) (M : Hm) : R It := match d, e with
  | .int i, .int j => iterR i j M
  | _, _ => .stuck
def enumd : Nat → List D → List D
  | _, [] => []
  | n, d :: l => .tup [.int (n : Int), d] :: enumd (n + 1) l
def iterE (d : D) (M : Hm) : R It := match d with
  | .ref n => match M[n]? with | some (.lst l) => .ok ⟨enumd 0 l, [(n, .lst l)]⟩ M | _ => .stuck
  | .rol l => .ok ⟨enumd 0 l, []⟩ M
  | .tup l => .ok ⟨enumd 0 l, []⟩ M
  | _ => .stuck
def fLrg (x : D) (M : Hm) : R D := match x with
  | .int i => if 0 ≤ i ∧ i ≤ (LN : Int) then new (.lst (rng 0 i.toNat)) M else .stuck
  | _ => .stuck
def zipd (l r : List D) : List D := l.zipWith (fun a b => .tup [a, b]) r
def iterZ (d e : D) (M : Hm) : R It := match d, e with
  | .ref n, .ref m => match M[n]?, M[m]? with | some (.lst l), some (.lst r) => .ok ⟨zipd l r, [(n, .lst l), (m, .lst r)]⟩ M | _, _ => .stuck
  | .tup l, .tup r => .ok ⟨zipd l r, []⟩ M
  | _, _ => .stuck
def wipe (ρ : Lc) : List Nat → Lc
  | [] => ρ
  | v :: vs => (wipe ρ vs).set v none
/-- nothing is let out of a comprehension -/
def R.quiet {α : Type} (r : R α) : R α := match r with
  | .exc _ _ _ => .stuck
  | r => r
@[simp] theorem R.ok_quiet {α : Type} {a : α} {M : Hm} : (R.ok a M).quiet = .ok a M := rfl
@[simp] theorem R.stuck_quiet {α : Type} : (R.stuck : R α).quiet = .stuck := rfl
/-- a comprehension's turns -/
def turns (st : D → Lc → Hm → R Lc) (c : Lc → Hm → R Bool) (f : Lc → Hm → R D) (ok : Hm → Bool) (ρ : Lc) : List D → List D → Hm → R D
  | acc, [], M => if ok M then new (.lst acc) M else .stuck
  | acc, x :: xs, M => if ok M ∧ acc.length < LN then (st x ρ M).quiet.bind fun ρ1 M1 => (c ρ1 M1).quiet.bind fun b M2 =>
      if b then (f ρ1 M2).quiet.bind fun d M3 => turns st c f ok ρ (acc ++ [d]) xs M3 else turns st c f ok ρ acc xs M2
    else .stuck
/-- a comprehension of two walks into a set of texts -/
def turns2 (st : D → Lc → Hm → R Lc) (f : List S → Lc → Hm → R (List S)) (ok : Hm → Bool) (ρ : Lc) : List S → List D → Hm → R (List S)
  | acc, [], M => if ok M then .ok acc M else .stuck
  | acc, x :: xs, M => if ok M then (st x ρ M).quiet.bind fun ρ1 M1 => (f acc ρ1 M1).quiet.bind fun a2 M2 => turns2 st f ok ρ a2 xs M2 else .stuck
def addS (a : List S) (d : D) (M : Hm) : R (List S) := match d with
  | .str z => if a.length ≤ 1000 then .ok (if z ∈ a then a else a ++ [z]) M else .stuck
  | _ => .stuck
/-- a loop's turns -/
def loop (st : D → Lc → Hm → R Lc) (body : Lc → Hm → F) (ok : Hm → Bool) : List D → Lc → Hm → F
  | [], ρ, M => if ok M then .nx ρ M else .stuck
  | x :: xs, ρ, M => if ok M then (st x ρ M).go ρ fun ρ1 M1 => match body ρ1 M1 with
      | .nx ρ2 M2 => loop st body ok xs ρ2 M2
      | .ct ρ2 M2 => loop st body ok xs ρ2 M2
      | .brk ρ2 M2 => .nx ρ2 M2
      | r => r
    else .stuck
def WF : Nat := 1000000
def wloop (c : Lc → Hm → R Bool) (body : Lc → Hm → F) : Nat → Lc → Hm → F
  | 0, _, _ => .stuck
  | n + 1, ρ, M => (c ρ M).go ρ fun b M1 => if b then (match body ρ M1 with
      | .nx ρ2 M2 => wloop c body n ρ2 M2
      | .ct ρ2 M2 => wloop c body n ρ2 M2
      | .brk ρ2 M2 => .nx ρ2 M2
      | r => r) else .nx ρ M1

/-- o[i] = d -/
def stoop (d x y : D) (M : Hm) : R Unit := match x, y with
  | .ref n, .int k => (match M[n]? with
    | some (.lst l) => (match ix l.length k with | some j => .ok () (M.set n (.lst (l.set j d))) | none => .stuck)
    | _ => .stuck)
  | .ref n, .bl b => (match M[n]? with
    | some (.bd t f) => .ok () (M.set n (if b then .bd d f else .bd t d))
    | _ => .stuck)
  | _, _ => .stuck

/-- a op= b -/

def getoop (x y : D) (M : Hm) : R D := match x, y with
  | .ref n, .int k => (match M[n]? with
    | some (.lst l) => if 0 ≤ k ∧ k < (LN : Int) then (match l[k.toNat]? with | some d => .ok d M | none => .stuck) else .stuck
    | _ => .stuck)
  | _, _ => .stuck
def augop (op : Bop) (x y : D) (M : Hm) : R D := match op, x, y with
  | .add, .int a, .int b => .ok (.int (a + b)) M
  | .sub, .int a, .int b => .ok (.int (a - b)) M
  | .add, .str a, .str b => if a.length + b.length ≤ LN then .ok (.str (a ++ b)) M else .stuck
  | _, _, _ => .stuck
mutual
def Tg.slots : Tg → List Nat
  | .name i => [i]
  | .tup l => l.slots
  | .sub _ _ => []
def Tgs.slots : Tgs → List Nat
  | .nil => []
  | .cons t l => t.slots ++ l.slots
end
def Tgs.len : Tgs → Nat
  | .nil => 0
  | .cons _ l => l.len + 1
/-- what can be taken apart -/
def unp? (M : Hm) : D → Option (List D)
  | .tup l => some l
  | .ref n => match M[n]? with | some (.lst l) => some l | _ => none
  | .rol l => some l
  | _ => none
/-- a call's arguments in the def's own order -/
def plan {α : Type} : List Src → List α → List α → Option (List α)
  | [], _, _ => some []
  | .pos i :: pl, ds, es => ds[i]?.bind fun d => (plan pl ds es).map (d :: ·)
  | .kw i :: pl, ds, es => es[i]?.bind fun d => (plan pl ds es).map (d :: ·)
section
variable (C : Cl) (g : G)
mutual
def evE : Ex → Lc → Hm → R D
  | .non, _, M => .ok .non M
  | .bl b, _, M => .ok (.bl b) M
  | .int i, _, M => .ok (.int i) M
  | .str s, _, M => .ok (.str s) M
  | .var i, ρ, M => match ρ[i]? with | some (some d) => .ok d M | _ => .stuck
  | .glo x, _, M => match g.con x with | some d => .ok d M | none => .stuck
  | .bin op a b, ρ, M => (evE a ρ M).bind fun x M1 => (evE b ρ M1).bind fun y M2 => binop op x y M2
  | .neg a, ρ, M => (evE a ρ M).bind fun x M1 => match x with | .int i => .ok (.int (-i)) M1 | _ => .stuck
  | .not a, ρ, M => (test (evE a ρ M)).bind fun b M1 => .ok (.bl (!b)) M1
  | .cmp op a b, ρ, M => (evE a ρ M).bind fun x M1 => (evE b ρ M1).bind fun y M2 => cmpop op x y M2
  | .cmp2 op op' a b c, ρ, M => (evE a ρ M).bind fun x M1 => (evE b ρ M1).bind fun y M2 => (cmpop op x y M2).bind fun k M3 => match k with
      | .bl true => (evE c ρ M3).bind fun z M4 => cmpop op' y z M4
      | .bl false => .ok (.bl false) M3
      | _ => .stuck
  | .and a b, ρ, M => (evE a ρ M).bind fun x M1 => andV x M1 fun M2 => evE b ρ M2
  | .or a b, ρ, M => (evE a ρ M).bind fun x M1 => orV x M1 fun M2 => evE b ρ M2
  | .ife c a b, ρ, M => (test (evE c ρ M)).bind fun k M1 => if k then evE a ρ M1 else evE b ρ M1
  | .tup l, ρ, M => (evEs l ρ M).bind fun ds M1 => if ds.length ≤ LN then .ok (.tup ds) M1 else .stuck
  | .lst l, ρ, M => (evEs l ρ M).bind fun ds M1 => if ds.length ≤ LN then new (.lst ds) M1 else .stuck
  | .sub a i, ρ, M => (evE a ρ M).bind fun x M1 => (evE i ρ M1).bind fun y M2 => subop x y M2
  | .sl a lo hi, ρ, M => (evE a ρ M).bind fun x M1 => (evO lo ρ M1).bind fun l M2 => (evO hi ρ M2).bind fun h M3 => slop x l h M3
  | .rev a, ρ, M => (evE a ρ M).bind fun x M1 => match x with | .tup l => .ok (.tup l.reverse) M1 | _ => .stuck
  | .call f l ks kw, ρ, M => opt (g.fn f) fun _ => if ks = [] ∨ ks ∈ g.kw f then (evEs l ρ M).bind fun ds M1 => (evEs kw ρ M1).bind fun es M2 => C f (ds ++ es) M2 else .stuck
  | .calk f l ks kw, ρ, M => opt (g.fn f) fun _ => (evEs l ρ M).bind fun ds M1 => (evEs kw ρ M1).bind fun es M2 => opt (g.sh f ds.length ks) fun pl => opt (plan pl ds es) fun as => C f as M2
  | .bi b l, ρ, M => (evEs l ρ M).bind fun ds M1 => biop b ds M1
  | .isi a ts, ρ, M => (evE a ρ M).bind fun x M1 => opt (isty M1 x ts) fun b => .ok (.bl b) M1
  | .me m o l, ρ, M => (evE o ρ M).bind fun x M1 => opt (tyOf M1 x) fun T => (evEs l ρ M1).bind fun ds M2 => meop m T x ds M2
  | .bdd a b c d, ρ, M => (evE a ρ M).bind fun x M1 => (evE b ρ M1).bind fun y M2 => (evE c ρ M2).bind fun z M3 => (evE d ρ M3).bind fun w M4 => match x, z with
      | .bl true, .bl false => new (.bd y w) M4
      | .bl false, .bl true => new (.bd w y) M4
      | _, _ => .stuck
  | .bcp a, ρ, M => (evE a ρ M).bind fun x M1 => match x with | .ref n => fDict (.ref n) M1 | _ => .stuck
  | .lrg a, ρ, M => (evE a ρ M).bind fun x M1 => fLrg x M1
  | .sdd ks l, ρ, M => (evEs l ρ M).bind fun ds M1 => if ks.Nodup ∧ ks.length = ds.length ∧ ks.length ≤ 15 then new (.sd ks ds) M1 else .stuck
  | .lc elt t ix c own, ρ, M => (evI ix ρ M).bind fun it M1 => turns (stT t) (evC c) (evE elt) it.ok (wipe ρ own) [] it.items M1
  | .sc2 elt t ix t' ix' own, ρ, M => (evI ix ρ M).bind fun it M1 => (turns2 (stT t) (fun a ρ1 M2 => (evI ix' ρ1 M2).bind fun jt M3 =>
      turns2 (stT t') (fun a ρ2 M4 => (evE elt ρ2 M4).bind fun d M5 => addS a d M5) jt.ok (wipe ρ1 t'.slots) a jt.items M3) it.ok (wipe ρ own) [] it.items M1).bind fun a M6 => new (.set (a.map .str)) M6
def stT : Tg → D → Lc → Hm → R Lc
  | .name i, d, ρ, M => if i < ρ.length then .ok (ρ.set i (some d)) M else .stuck
  | .tup ts, d, ρ, M => opt (unp? M d) fun l => if l.length = ts.len then stTs ts l ρ M else .stuck
  | .sub o i, d, ρ, M => (evE o ρ M).bind fun x M1 => (evE i ρ M1).bind fun y M2 => (stoop d x y M2).bind fun _ M3 => .ok ρ M3
def stTs : Tgs → List D → Lc → Hm → R Lc
  | .nil, l, ρ, M => match l with | [] => .ok ρ M | _ => .stuck
  | .cons t ts, l, ρ, M => match l with | d :: l => (stT t d ρ M).bind fun ρ1 M1 => stTs ts l ρ1 M1 | [] => .stuck
def evEs : Exs → Lc → Hm → R (List D)
  | .nil, _, M => .ok [] M
  | .cons a l, ρ, M => (evE a ρ M).bind fun d M1 => (evEs l ρ M1).bind fun ds M2 => .ok (d :: ds) M2
def evO : Exo → Lc → Hm → R (Option Int)
  | .none, _, M => .ok none M
  | .some a, ρ, M => (evE a ρ M).bind fun x M1 => match x with | .int i => .ok (some i) M1 | _ => .stuck
def evC : Exo → Lc → Hm → R Bool
  | .none, _, M => .ok true M
  | .some a, ρ, M => test (evE a ρ M)
def evI : Ix → Lc → Hm → R It
  | .ex a, ρ, M => (evE a ρ M).bind fun x M1 => iter x M1
  | .rng1 a, ρ, M => (evE a ρ M).bind fun x M1 => iterR1 x M1
  | .rng2 a b, ρ, M => (evE a ρ M).bind fun x M1 => (evE b ρ M1).bind fun y M2 => iterR2 x y M2
  | .rng3 _ _ _, _, _ => .stuck
  | .enum a, ρ, M => (evE a ρ M).bind fun x M1 => iterE x M1
  | .zip a b, ρ, M => (evE a ρ M).bind fun x M1 => (evE b ρ M1).bind fun y M2 => iterZ x y M2
end
mutual
def exS : Sx → Lc → Hm → F
  | .asg t e, ρ, M => (evE C g e ρ M).go ρ fun d M1 => (stT C g t d ρ M1).go ρ fun ρ1 M2 => .nx ρ1 M2
  | .aug i op e, ρ, M => match ρ[i]? with
      | some (some x) => (evE C g e ρ M).go ρ fun y M1 => (augop op x y M1).go ρ fun z M2 => .nx (ρ.set i (some z)) M2
      | _ => .stuck
  | .augs o i op e, ρ, M => (evE C g o ρ M).go ρ fun x M1 => (evE C g i ρ M1).go ρ fun y M2 => (getoop x y M2).go ρ fun a M3 => (evE C g e ρ M3).go ρ fun b M4 => (augop op a b M4).go ρ fun z M5 => (stoop z x y M5).go ρ fun _ M6 => .nx ρ M6
  | .ex e, ρ, M => (evE C g e ρ M).go ρ fun _ M1 => .nx ρ M1
  | .ret e, ρ, M => (evE C g e ρ M).go ρ fun d M1 => .ret d M1
  | .retn, _, M => .ret .non M
  | .pass, ρ, M => .nx ρ M
  | .brk, ρ, M => .brk ρ M
  | .ct, ρ, M => .ct ρ M
  | .ite c a b, ρ, M => (test (evE C g c ρ M)).go ρ fun k M1 => if k then exB a ρ M1 else exB b ρ M1
  | .for t i b, ρ, M => (evI C g i ρ M).go ρ fun it M1 => loop (stT C g t) (exB b) it.ok it.items ρ M1
  | .while c b, ρ, M => wloop (fun ρ M => test (evE C g c ρ M)) (exB b) WF ρ M
  | .mat e l, ρ, M => (evE C g e ρ M).go ρ fun d M1 => exM l d ρ M1
  | .raise _ _, _, _ => .stuck
def exB : Sxs → Lc → Hm → F
  | .nil, ρ, M => .nx ρ M
  | .cons s l, ρ, M => (exS s ρ M).seq fun ρ1 M1 => exB l ρ1 M1
def exM : Mcs → D → Lc → Hm → F
  | .nil, _, ρ, M => .nx ρ M
  | .cons p b l, d, ρ, M => if flat d then (if p.any (fun z => feq d (.str z)) then exB b ρ M else exM l d ρ M) else .stuck
end
end
/-- a def called, at most so deep -/
def callF (g : G) : Nat → String → List D → Hm → R D
  | 0, _, _, _ => .stuck
  | n + 1, f, args, M => match g.fn f with
    | none => .stuck
    | some d => if args.length = d.pars ∧ d.pars ≤ d.slots then
        (match exB (callF g n) g d.body (args.map some ++ List.replicate (d.slots - args.length) none) M with
        | .nx _ M' => .ok .non M'
        | .ret v M' => .ok v M'
        | .exc c fs M' _ => .exc c fs M'
        | _ => .stuck)
      else .stuck
end Rp

namespace Rp
open PySem PySem.Spec PyProof.Rows L2

/-! ## sets of texts -/
def keyS (e : Int × Value) : Str := match e.2 with | .str x _ => x | _ => Str.empty
def GoodS (w : World) (e : Int × Value) : Prop := ∃ x tk, e.2 = Value.str x tk ∧ e.1 = hashStr w x
/-- the set of texts at a: its members by l, in any order -/
def SetS (w : World) (h : Heap) (a : Addr) (l : List Str) : Prop :=
  ∃ o es ep t, h.get? a = some o ∧ o.ExactSet ∧ o.data = .set es ep t ∧ (∀ e ∈ es.toList, GoodS w e) ∧ l.Nodup ∧ (es.toList.map keyS).Perm l ∧ es.size < scanBound ∧ t.fits es.size = true ∧ Ris t.place.toList ∧ (w.params.followText "set-order" = true ∨ t.led = true)
section
variable {P : Program} {w : World} {h h' : Heap} {a : Addr} {l : List Str}
theorem SetS.at (R : SetS w h a l) (k : ∀ o, h.get? a = some o → h'.get? a = some o) : SetS w h' a l := by
  obtain ⟨o, es, ep, t, ho, r⟩ := R
  exact ⟨o, es, ep, t, k o ho, r⟩
theorem SetS.lt (R : SetS w h a l) : a < h.objs.size := by
  obtain ⟨o, es, ep, t, ho, r⟩ := R
  exact Heap.lt_size ho
theorem SetS.perm {l' : List Str} (R : SetS w h a l) (p : l.Perm l') : SetS w h a l' := by
  obtain ⟨o, es, ep, t, h1, h2, h3, h4, h5, h6, r⟩ := R
  exact ⟨o, es, ep, t, h1, h2, h3, h4, p.nodup_iff.mp h5, h6.trans p, r⟩
theorem goodS_elems {l : List (Int × Value)} (g : ∀ e ∈ l, GoodS w e) : ElemsOf (PySem.strKind P w) l := fun e he => by
  obtain ⟨k, tk, h1, h2⟩ := g e he
  exact ⟨⟨k, by rw [h1]; exact strKind_is P w k tk, h2⟩, by rw [h1]; rfl⟩
theorem goodS_is {e : Int × Value} (g : GoodS w e) (k : Str) : (PySem.strKind P w).is k e.2 = true ↔ keyS e = k := by
  obtain ⟨k0, tk, h1, _⟩ := g
  unfold keyS
  rw [h1]
  show ((k0 == k) = true) ↔ k0 = k
  exact beq_iff_eq
theorem goodS_mem {l : List (Int × Value)} (g : ∀ e ∈ l, GoodS w e) (k : Str) : k ∈ l.map keyS ↔ ∃ e ∈ l, (PySem.strKind P w).is k e.2 = true := by
  rw [List.mem_map]
  exact ⟨fun ⟨e, he, q⟩ => ⟨e, he, (goodS_is (g e he) k).2 q⟩, fun ⟨e, he, q⟩ => ⟨e, he, (goodS_is (g e he) k).1 q⟩⟩
end
section
variable {P : Program} {w : World} {A : Around} {E : Value → Shared → Prop} {s : Shared} {a : Addr} {l : List Str}
theorem setS_tail {g : Bool → Sem Unit} (hg : ∀ (b : Bool) (s₁ : Shared) (Q' : Unit → Shared → Prop), Q' () s₁ → wpAny (model P w) A (g b) Q' E s₁)
    {o : Obj} {es : Array (Int × Value)} {ep : Nat} {t : SetTable} (ho : s.heap.get? a = some o) (hex : o.ExactSet) (hd : o.data = .set es ep t)
    {es1 : Array (Int × Value)} {t2 : SetTable} (g1 : ∀ e ∈ es1.toList, GoodS w e) (nd1 : l.Nodup) (m1 : (es1.toList.map keyS).Perm l)
    (hb1 : es1.size < scanBound) (hf2 : t2.fits es1.size = true) (hr : Ris t2.place.toList) (hl : w.params.followText "set-order" = true ∨ t2.led = true) {wasDummy : Bool} {R : Option Bool → Shared → Prop}
    (hR : ∀ h', Heap.SameBut a s.heap h' → SetS w h' a l → R (some true) { s with heap := h' }) :
    wpAny (model P w) A (do
        storeSet a es1 t2
        if (!wasDummy && t2.tooFull) = true then do
            g (relayAll t2 es1 (SetTable.grown es1.size)).2.2
            storeSet a (relayAll t2 es1 (SetTable.grown es1.size)).1 (relayAll t2 es1 (SetTable.grown es1.size)).2.1
            pure (some true)
          else pure (some true)) R E s := by
  refine wpAny_bind (wpAny_storeSet_of ho hd ?_ (fits_of_scanBound hb1))
  have ho1 := store_at (es' := es1) (t' := t2) ho hd
  have sb1 := Heap.SameBut.update s.heap a (Obj.putSet es1 t2)
  split
  · have pm := relayAll_perm t2 es1 (SetTable.grown es1.size)
    have hf3 := relayAll_fits t2 es1 (SetTable.grown es1.size)
    have hr3 := relayAll_ris t2 es1 (SetTable.grown es1.size)
    have hl3 := relayAll_led t2 es1 (SetTable.grown es1.size)
    generalize relayAll t2 es1 (SetTable.grown es1.size) = Z at pm hf3 hr3 hl3 ⊢
    obtain ⟨es2, t3, gave⟩ := Z
    dsimp only at pm hf3 hr3 hl3 ⊢
    have hsz : es2.size = es1.size := by rw [← Array.length_toList, pm.length_eq, Array.length_toList]
    have hb2 : es2.size < scanBound := by rw [hsz]; exact hb1
    refine wpAny_bind (hg _ _ _ ?_)
    refine wpAny_bind (wpAny_storeSet_of ho1 rfl ?_ (fits_of_scanBound hb2))
    have ho2 := store_at (es' := es2) (t' := t3) ho1 rfl
    refine wpAny_pure (hR _ (sb1.trans (Heap.SameBut.update _ a _)) ?_)
    exact ⟨_, es2, _, t3, ho2, hex, rfl, fun e he => g1 e (pm.mem_iff.mp he), nd1, (pm.map keyS).trans m1, hb2, hf3, hr3, hl.imp id fun z => by rw [hl3]; exact z⟩
  · exact wpAny_pure (hR _ sb1 ⟨_, es1, _, t2, ho1, hex, rfl, g1, nd1, m1, hb1, hf2, hr, hl⟩)
/-- one more -/
def addT (l : List Str) (k : Str) : List Str := if k ∈ l then l else l ++ [k]
theorem setS_add {k : Str} {tk : Tok} {Q : Bool → Shared → Prop} (R : SetS w s.heap a l) (room : l.length + 1 < scanBound)
    (hQ : ∀ b h', Heap.SameBut a s.heap h' → SetS w h' a (addT l k) → Q b { s with heap := h' }) :
    wpAny (model P w) A (setAddHashed a (.str k tk) ((PySem.strKind P w).hash k)) Q E s := by
  obtain ⟨o, es, ep, t, ho, hex, hd, g, nd, hm, hb, hf, hr, hl⟩ := R
  have hkey : (PySem.strKind P w).is k (.str k tk) = true := strKind_is P w k tk
  have hsc : (Value.str k tk).scannable = true := rfl
  have hel : ElemsOf (PySem.strKind P w) es.toList := goodS_elems g
  have hsz0 : es.size = l.length := by rw [← Array.length_toList, ← List.length_map (f := keyS), hm.length_eq]
  unfold setAddHashed setAddHashedIn
  refine wpAny_holding (wpAny_bind (wpAny_setState_of ho hd hf ?_))
  dsimp only
  rw [byScan_of hsc hb hel]
  simp only [↓reduceIte]
  unfold setAddByScan
  refine wpAny_bind ?_
  refine wpAny_bind (wpAny_rule ?_)
  refine wpAny_bind (wpAny_setScan_of hkey ho hd hf hel ?_)
  cases hfi : List.findIdx? (fun e => (PySem.strKind P w).is k e.2) es.toList with
  | some j =>
    dsimp only
    obtain ⟨hj, pj, _⟩ := List.findIdx?_eq_some_iff_getElem.mp hfi
    have hk : k ∈ l := hm.mem_iff.mp ((goodS_mem (P := P) (w := w) g k).2 ⟨es.toList[j], List.getElem_mem hj, pj⟩)
    refine wpAny_pure (wpAny_pure ?_)
    exact hQ _ s.heap (Heap.SameBut.refl a s.heap) ⟨o, es, ep, t, ho, hex, hd, g, by unfold addT; rw [if_pos hk]; exact nd, by unfold addT; rw [if_pos hk]; exact hm, hb, hf, hr, hl⟩
  | none =>
    dsimp only
    have hnk : k ∉ l := fun z => by
      obtain ⟨e, he, q⟩ := (goodS_mem (P := P) (w := w) g k).1 (hm.mem_iff.mpr z)
      have c := List.findIdx?_eq_none_iff.mp hfi e he
      rw [q] at c
      cases c
    have ea : addT l k = l ++ [k] := by unfold addT; rw [if_neg hnk]
    have hgw : ∀ (b : Bool) {s₁ : Shared} {Q' : Unit → Shared → Prop}, Q' () s₁ → wpAny (model P w) A (match b with | true => rule "set.scan.the-table-gave-way" | false => pure ()) Q' E s₁ :=
      fun b s₁ Q' q => by cases b <;> first | exact wpAny_pure q | exact wpAny_rule q
    have pm := layNew_perm t es ((PySem.strKind P w).hash k) (.str k tk)
    have hf1 := layNew_fits t es ((PySem.strKind P w).hash k) (.str k tk)
    have hr1 := layNew_ris t es ((PySem.strKind P w).hash k) (.str k tk) hr
    have hl1 := layNew_led t es ((PySem.strKind P w).hash k) (.str k tk)
    generalize layNew t es ((PySem.strKind P w).hash k) (.str k tk) = Y at pm hf1 hr1 hl1 ⊢
    obtain ⟨es1, t1, wasDummy, gave⟩ := Y
    dsimp only at pm hf1 hr1 hl1 ⊢
    rw [Array.toList_push] at pm
    have pk : (es1.toList.map keyS).Perm (l ++ [k]) := (pm.map keyS).trans (by rw [List.map_append]; exact hm.append (List.Perm.refl _))
    have g1 : ∀ e ∈ es1.toList, GoodS w e := fun e he => by
      rcases List.mem_append.mp (pm.mem_iff.mp he) with y | y
      · exact g e y
      · rw [List.mem_singleton.mp y]; exact ⟨k, tk, rfl, rfl⟩
    have nd1 : (l ++ [k]).Nodup := List.nodup_append.mpr ⟨nd, by simp, fun x hx y hy e => hnk (by rw [List.mem_singleton.mp hy] at e; exact e ▸ hx)⟩
    have hsz : es1.size = l.length + 1 := by rw [← Array.length_toList, ← List.length_map (f := keyS), pk.length_eq]; simp
    have hb1 : es1.size < scanBound := by rw [hsz]; exact room
    have hled : w.params.followText "set-order" = true ∨ t1.led = true := hl.imp id fun y => by rw [hl1]; exact y
    refine wpAny_bind (hgw _ ?_)
    split
    · refine wpAny_bind ?_
      rw [hashByValue_scannable 8 hsc]
      refine wpAny_pure ?_
      refine setS_tail ?_ ho hex hd g1 nd1 pk hb1 ?_ ?_ ?_ ?_
      · intro b s₁ Q' q; cases b <;> first | exact wpAny_pure q | exact wpAny_rule q
      · first | (split <;> first | exact hf1 | exact SetTable.fits_plain_off hf1) | exact hf1
      · first | (split <;> exact hr1) | exact hr1
      · first | (split <;> exact hled) | exact hled
      · intro h' sb r; dsimp only; exact wpAny_pure (hQ _ h' sb (by rw [ea]; exact r))
    · refine wpAny_bind (wpAny_pure ?_)
      simp only [↓reduceIte]
      refine setS_tail ?_ ho hex hd g1 nd1 pk hb1 hf1 hr1 hled ?_
      · intro b s₁ Q' q; cases b <;> first | exact wpAny_pure q | exact wpAny_rule q
      · intro h' sb r; dsimp only; exact wpAny_pure (hQ _ h' sb (by rw [ea]; exact r))
theorem setS_fresh {h : Heap} (w : World) : SetS w (h.push { cls := .type "set", dict := none, data := .set #[] 0 (.fresh 0 0 (!w.params.followText "set-order")) }) h.objs.size [] :=
  ⟨_, #[], 0, _, Heap.get?_push_size _ rfl, ⟨rfl, rfl, rfl⟩, rfl, (fun e he => by simp at he), List.nodup_nil, by simp, by decide, by rfl, List.Pairwise.nil, by
    show _ ∨ (!w.params.followText "set-order") = true
    cases w.params.followText "set-order"
    · exact .inr rfl
    · exact .inl rfl⟩
/-- sorted -/
theorem strs_of : ∀ (l : List Value), (∀ v ∈ l, ∃ k tk, v = Value.str k tk) → StrsAre l (l.map fun v => keyS (0, v))
  | [], _ => .nil
  | v :: l, h => by
    obtain ⟨k, tk, rfl⟩ := h v List.mem_cons_self
    exact .cons k tk (strs_of l fun u hu => h u (List.mem_cons_of_mem _ hu))
theorem len_setS {Q : Value → Shared → Prop} (R : SetS w s.heap a l) (h : Q (.int l.length (s.toks + 1)) { s with toks := s.toks + 1 + 1 }) : wpAny (model P w) A (call (.builtin "len") [.ref a]) Q E s := by
  obtain ⟨o, es, ep, t, ho, hex, hd, g, nd, hm, hb, hf, hr, hl⟩ := R
  have hsz0 : es.size = l.length := by rw [← Array.length_toList, ← List.length_map (f := keyS), hm.length_eq]
  refine call_len_set ho hex hd hf ?_ (by rw [hsz0]; exact h)
  have : scanBound = 4096 := rfl
  rw [this] at hb
  omega
theorem sorted_setS {Q : Value → Shared → Prop} (R : SetS w s.heap a l) (hh : A.handled = none) (h64 : l.length < 64)
    (hQ : ∀ s' p (out : Array Value) (c : Nat) (ss : List Str), (∀ b o, s.heap.get? b = some o → s'.heap.get? b = some o) → s'.gens = s.gens → s'.os = s.os → s.heap.objs.size ≤ p →
      s'.heap.get? p = some (seqObj "list" out c) → StrsAre out.toList ss → ss.Perm l → sortedS ss = true → Q (.ref p) s') :
    wpAny (model P w) A (call (.builtin "sorted") [.ref a]) Q E s := by
  obtain ⟨o, es, ep, t, ho, hex, hd, g, nd, hm, hb, hf, hr, hl⟩ := R
  refine Calls.call_function_entry kind_sorted plain_sorted entry_sorted (args_sorted1 _) ?_
  unfold Builtin.«sorted»
  refine wpAny_bind (m := checkCount "sorted" 1 1 _) (wpAny_pure ?_)
  refine wpAny_bind (collect_set (A := A.in1) hh ⟨o, ho, hex.1, hd⟩ hf hb hr hl fun s1 vs k1 hz g1 o1 pm => ?_)
  have hI : StrsAre vs (vs.map fun v => keyS (0, v)) := strs_of vs fun v hv => by
    obtain ⟨e, he, q⟩ := List.mem_map.mp (pm.mem_iff.mp hv)
    obtain ⟨k, tk, h1, _⟩ := g e he
    exact ⟨k, tk, by rw [← q]; exact h1⟩
  have pk : (vs.map fun v => keyS (0, v)).Perm l := by
    have q := pm.map fun v => keyS (0, v)
    rw [List.map_map] at q
    exact q.trans hm
  have hvl : vs.length = l.length := by rw [← pk.length_eq, List.length_map]
  refine wpAny_bind (wpAny_newList ?_ (by rw [hvl, sizeLine_eq]; omega))
  have hoL : (s1.heap.push (seqObj "list" vs.toArray 0)).get? s1.heap.objs.size = some (seqObj "list" vs.toArray 0) := Heap.get?_push_size _ rfl
  refine wpAny_bind (wpAny_holding (wpAny_call_entry slot_list_sort ⟨_, hoL, rfl⟩ entry_list_sort
    (list_sort_treeK strKind_oneLt hoL hI.keysOf (fun v₁ v₂ rest e => keyKind_strs (by rw [← e]; exact hI)) (by rw [hvl]; exact h64) fun st' hp hs => ⟨_, rfl, ?_⟩) (args_list_sort _)))
  obtain ⟨ss', a1, a2, a3⟩ := sorted_out_str hI hp hs
  obtain ⟨c, hc⟩ := sortedHeap_at (vs := vs) (out := (arrOf st').map (·.2)) hoL
  refine wpAny_pure ⟨_, rfl, hQ _ s1.heap.objs.size _ c ss' (fun b u e => ?_) g1 o1 hz hc a1 (a2.trans pk) a3⟩
  have q := k1 b u e
  have hlt := Heap.lt_size q
  show (sortedHeap (s1.heap.push (seqObj "list" vs.toArray 0)) s1.heap.objs.size vs ((arrOf st').map (·.2))).get? b = some u
  rw [sortedHeap_old (Nat.ne_of_lt hlt) (by rw [size_push']; exact Nat.lt_succ_of_lt hlt)]
  exact Heap.get?_push_of_some _ q
end
/-- .. tracked -/
def SetSO (w : World) (a : Addr) (l : List Str) : HO := .ext fun h => SetS w h a l
theorem setSO_new {w : World} {P : Program} {H : Hp} {h : Heap} {a : Addr} {l : List Str} (R : SetS w h a l) : ObjOk P w H h a (SetSO w a l) := by
  have ⟨o, _, _, _, ho, _⟩ := R
  exact ⟨R, ⟨o, ho⟩, fun h1 h2 p k => p.at k⟩
section
variable {X : Cx}
theorem setSO_get {pins : List (Addr × Obj)} {σ : L2.St} {H : Hp} {s : Shared} {a : Addr} {l : List Str} (I : L2.Inv X pins σ H s) (ha : H a = some (SetSO X.w a l)) : SetS X.w s.heap a l := (I.hok a _ ha).1
/-- set.add -/
theorem addS_ok {pins : List (Addr × Obj)} {σ : L2.St} {H : Hp} {s : Shared} {E : Value → Shared → Prop} {D : Addr} {l : List Str} {k : Str} {tk : Tok} {Q : Value → Shared → Prop} (I : L2.Inv X pins σ H s) (hD : H D = some (SetSO X.w D l)) (room : l.length + 1 < scanBound)
    (h : ∀ s', L2.Inv X pins σ (upd H D (SetSO X.w D (addT l k))) s' → Q .none s') : wpAny (model X.prog X.w) X.A (call (.builtin "set.add") [.ref D, .str k tk]) Q E s := by
  have R := setSO_get I hD
  obtain ⟨o, es, ep, t, ho, hex, _⟩ := id R
  refine wpAny_call_entry F.slot_set_add ⟨o, ho, hex.1⟩ F.entry_set_add ?_ (F.args_set_add_2 _ _)
  unfold Builtin.«set.add» Builtin.Frozenset.oneOther
  simp only [List.isEmpty_nil, bind_assoc]
  unfold Builtin.Frozenset.addrOf setAdd
  refine wpAny_bind (wpAny_pure ?_)
  try dsimp only
  refine wpAny_bind (wpAny_pure ?_)
  try dsimp only
  refine wpAny_bind ?_
  refine wpAny_holding ?_
  refine wpAny_bind ((PySem.strKind X.prog X.w).pyHash (strKind_is X.prog X.w k tk) ?_)
  refine setS_add (P := X.prog) (s := { s with toks := s.toks + 1 }) R room fun b h' sb r => ?_
  show wpAny _ _ (ret Value.none) _ _ _
  have he : ∃ u, h'.get? D = some u := by
    have ⟨o, _, _, _, ho, _⟩ := r
    exact ⟨o, ho⟩
  exact wpAny_pure ⟨_, rfl, h _ (I.write (e := D) (t' := s.toks + 1) (by rw [hD]; trivial) (.inl rfl) (fun b u hb hu => (sb.2 b hb).trans hu) he (setSO_new r))⟩
end
end Rp

namespace Rp
open PySem PySem.Spec PyProof.Rows L2

/-! ## dicts whose keys are True and False -/
abbrev bK (P : Program) (w : World) : KeyKind P w Bool := PpSet.boolK P w
theorem bK_is {P : Program} {w : World} {b : Bool} {u : Value} (r : RelV (.bl b) u) : (bK P w).is b u = true := by
  cases (show u = Value.bool b from r); exact PpSet.boolK_is P w b
def DicB (P : Program) (w : World) (a : Addr) (kvs : List (Bool × V)) : HO :=
  .ext fun h => kvs.length ≤ 15 ∧ (a == sysModules) = false ∧ ∃ vs, KV kvs vs ∧ h.DictOf (bK P w) a vs
theorem dicB_new {P : Program} {w : World} {H : Hp} {h : Heap} {a : Addr} {kvs : List (Bool × V)} {vs : List (Bool × Value)} (z : kvs.length ≤ 15) (hd : (a == sysModules) = false) (rel : KV kvs vs) (dd : h.DictOf (bK P w) a vs) : ObjOk P w H h a (DicB P w a kvs) :=
  ⟨⟨z, hd, vs, rel, dd⟩, let ⟨q, _, _, hq, _⟩ := dd; ⟨q, hq⟩, fun _ _ ⟨z, hd, vs, rel, dd⟩ k => ⟨z, hd, vs, rel, dd.at k⟩⟩
section
variable {X : Cx} {pins : List (Addr × Obj)} {σ : L2.St} {H : Hp} {s : Shared} {a : Addr} {kvs : List (Bool × V)}
theorem dicB_get (I : L2.Inv X pins σ H s) (e : H a = some (DicB X.prog X.w a kvs)) : kvs.length ≤ 15 ∧ (a == sysModules) = false ∧ ∃ vs, KV kvs vs ∧ s.heap.DictOf (bK X.prog X.w) a vs := (I.hok a _ e).1
theorem line15 : (15 : Nat) < sizeLine := by rw [sizeLine_eq]; decide
/-- d[b] -/
theorem ix_bool {X : Cx} : IxR X (fun x y H Q => ∃ a kvs b v, x = .ref a ∧ y = .bl b ∧ H a = some (DicB X.prog X.w a kvs) ∧ valV kvs b = some v ∧ Q v H) := by
  intro value slice pins s σ H x y v u Q I rx ry h hs
  obtain ⟨a, kvs, b, r, rfl, rfl, e, l, q⟩ := h
  obtain rfl : v = Value.ref a := rx
  obtain ⟨z, hd, vs, rel, dd⟩ := dicB_get I e
  obtain ⟨w', hw, rw'⟩ := RelO.some_of (v := r) (o := valueAt vs b) (by rw [← l]; exact rel.val b)
  exact tail_any dd.mapOf.typeIs PySem.F.slot_dict_getitem.lookup (wpAny_getItem_of (bK_is ry) dd.mapOf hw ⟨r, H, I.tok _, rw', q⟩) hs
/-- d[b] = v -/
theorem bd_setItem {b : Bool} {v : V} {u r : Value} {E : Value → Shared → Prop} {Q : Unit → Shared → Prop} (I : L2.Inv X pins σ H s) (e : H a = some (DicB X.prog X.w a kvs)) (ry : RelV (.bl b) u) (rv : RelV v r) (hl : kvs.length < 15)
    (h : ∀ s', L2.Inv X pins σ (upd H a (DicB X.prog X.w a (putK kvs b v))) s' → Q () s') : wpAny (model X.prog X.w) X.A (setItem (.ref a) u r) Q E s := by
  obtain ⟨z, hd, vs, rel, dd⟩ := dicB_get I e
  have h15 := line15
  have hz : vs.length ≤ sizeLine := by rw [← rel.length]; omega
  have hl : (putK kvs b v).length ≤ 15 := by have := length_putK kvs b v; omega
  refine wpAny_setItem_pairs (hsz := hz) (bK_is ry) dd fun h' dd' hs => h _ ?_
  have he : ∃ q, h'.get? a = some q := let ⟨q, _, _, hq, _⟩ := dd'; ⟨q, hq⟩
  exact d_write I (by rw [e]; exact True.intro) hs he (dicB_new hl hd (rel.put b rv) dd')
/-- dict(d) -/
theorem bd_copyOf {E : Value → Shared → Prop} {Q : Value → Shared → Prop} (I : L2.Inv X pins σ H s) (e : H a = some (DicB X.prog X.w a kvs))
    (h : ∀ p s', H p = none → L2.Inv X pins σ (upd H p (DicB X.prog X.w p kvs)) s' → Q (.ref p) s') : wpAny (model X.prog X.w) X.A (call (.type "dict") [.ref a]) Q E s := by
  obtain ⟨z, hd, vs, rel, dd⟩ := dicB_get I e
  have h15 := line15
  refine kt_call_dict hd dd (by rw [← rel.length]; omega) fun h' dd' hs => ?_
  refine h _ _ (I.hok.fresh (Nat.le_refl _)) (I.laid (a := s.heap.objs.size) (o := DicB X.prog X.w s.heap.objs.size kvs) (t' := s.toks) (fun b q hq => ?_) (Nat.le_refl _) (dicB_new z (beq_eq_false_iff_ne.mpr (Ne.symm (Nat.ne_of_lt I.big))) rel dd'))
  exact (hs.2 b (Nat.ne_of_lt (Heap.lt_size hq))).trans (Heap.get?_push_of_some _ hq)
end

/-! ### displays -/
def mergeB (kvs more : List (Bool × V)) : List (Bool × V) := more.foldl (fun acc kv => putK acc kv.1 kv.2) kvs
theorem KV_mergeB : ∀ {more : List (Bool × V)} {rs : List (Bool × Value)} {kvs : List (Bool × V)} {vs : List (Bool × Value)}, KV more rs → KV kvs vs → KV (mergeB kvs more) (merged vs rs) := by
  intro more rs kvs vs r
  unfold KV at r
  induction r generalizing kvs vs with
  | nil => intro q; exact q
  | @cons p q ps qs h t ih =>
    intro r0
    have e : KV (putK kvs p.1 p.2) (stored vs q.1 q.2) := by
      have := r0.put p.1 h.2
      rw [← h.1]; exact this
    exact ih e
theorem carriesB_of {P : Program} {w : World} : ∀ {kvs : List (Bool × V)} {ws : List (Value × Value)}, VV (kvs.map fun kv => (V.bl kv.1, kv.2)) ws → ∃ rs, Carries (bK P w) ws rs ∧ KV kvs rs
  | [], _, r => by rw [List.map_nil] at r; cases r; exact ⟨[], True.intro, .nil⟩
  | p :: kvs, _, r => by
    rw [List.map_cons] at r
    cases r with
    | @cons a b as bs h t =>
      obtain ⟨rs, c, q⟩ := carriesB_of (P := P) (w := w) t
      obtain ⟨b1, b2⟩ := b
      exact ⟨(p.1, b2) :: rs, ⟨bK_is h.1, rfl, c⟩, .cons ⟨rfl, h.2⟩ q⟩
/-- a written dict as it is asked: its pairs, then by what the keys are -/
def tDispB (P : Program) (w : World) (trs : List (TE × TE)) : TE := fun σ H Q => ∀ p, H p = none → tPairs trs σ (upd H p (DicB P w p [])) fun ps H2 => H2 p = some (DicB P w p []) ∧ ∃ kvs : List (Bool × V), ps = kvs.map (fun kv => (V.bl kv.1, kv.2)) ∧ (mergeB [] kvs).length ≤ 15 ∧ Q (.ref p) (upd H2 p (DicB P w p (mergeB [] kvs)))
theorem pe_dispB {X : Cx} {pos : Pos} {keys : List (Option Expr)} {values : List Expr} {trs : List (TE × TE)} (h : PPs X pos keys values trs) (hall : keys.all (·.isSome) = true) (hl : keys.length = values.length) (h0 : keys ≠ [])
    (h15 : keys.length ≤ 15) : PE X (.Dict keys values pos) (tDispB X.prog X.w trs) := by
  refine ⟨fun pins s σ H Q I q => ?_⟩
  have hn := I.hok.fresh (Nat.le_refl s.heap.objs.size)
  have hd0 : (s.heap.objs.size == sysModules) = false := beq_eq_false_iff_ne.mpr (Ne.symm (Nat.ne_of_lt I.big))
  have I1 := I.laid (a := s.heap.objs.size) (o := DicB X.prog X.w s.heap.objs.size []) (h' := s.heap.push { cls := .type "dict", data := .dict #[] }) (t' := s.toks) (fun _ _ q => Heap.get?_push_of_some _ q) (Nat.le_refl _)
    (dicB_new (by decide) hd0 .nil (Heap.DictOf.new s.heap))
  refine wpAny_Dict_walk (knd := bK X.prog X.w) hall hl h0 h15 (thn (h.run pins _ σ _ _ I1 (q _ hn)) fun ws s2 ⟨ps, H2, I2, rel, e, kvs, ep, hz, q2⟩ => ?_)
  subst ep
  obtain ⟨rs, c, rk⟩ := carriesB_of (P := X.prog) (w := X.w) rel
  obtain ⟨z, hd, vs0, r0, dd⟩ := dicB_get I2 e
  cases r0
  refine ⟨rs, c, dd, fun h' dd' hs => ⟨.ref s.heap.objs.size, _, ?_, rfl, q2⟩⟩
  have he : ∃ q, h'.get? s.heap.objs.size = some q := let ⟨q, _, _, hq, _⟩ := dd'; ⟨q, hq⟩
  exact d_write I2 (by rw [e]; exact True.intro) hs he (dicB_new hz hd (KV_mergeB rk .nil) dd')
end Rp

namespace Rp
open PySem PySem.Spec PyProof.Rows L2

/-! ## {**d} -/
section
variable {prog : Program} {w : World} {K : Type} [DecidableEq K] {knd : KeyKind prog w K} {A : Around} {E : Value → Shared → Prop} {s : Shared}
theorem wpAny_dictPut_pairs {d : Addr} {kvs : List (K × Value)} {k : K} {key v : Value} {Q : Unit → Shared → Prop} (hkey : knd.is k key = true) (hm : s.heap.DictOf knd d kvs)
    (hQ : ∀ h', h'.DictOf knd d (stored kvs k v) → Heap.SameBut d s.heap h' → Q () { s with heap := h' })
    (hsz : kvs.length ≤ sizeLine) :
    wpAny (model prog w) A (dictPut d (knd.hash k) key v) Q E s := by
  obtain ⟨o, es, ep, ho, hc, hd, hk, hp, hn⟩ := hm
  have hes : es.size ≤ sizeLine := by have e1 := hp.length; have e2 : es.toList.length = es.size := by simp
                                      omega
  unfold dictPut
  refine wpAny_bind (wpAny_dictFind_of hkey ho hd hk ?_)
  have hidx : (es.findIdx? fun e => knd.is k e.key) = kvs.findIdx? fun kv => decide (kv.1 = k) := by
    rw [← hp.findIdx k]; obtain ⟨l⟩ := es; simp
  cases hi : es.findIdx? fun e => knd.is k e.key with
  | some i =>
    refine wpAny_updateDict ho hd (hQ _ ⟨_, _, ep, Heap.get?_update_self _ ho (Obj.isFreed_of_dict (Obj.data_mapDict hd _)),
      hc.mapDict _, Obj.data_mapDict hd _, hk.modify _ _, ?_, ?_⟩ (Heap.SameBut.update ..))
    · rw [stored, if_pos (any_of_findIdx_some (hidx ▸ hi))]
      have hl : (es.toList.findIdx? fun e => knd.is k e.key) = some i := by rw [← hi]; obtain ⟨l⟩ := es; simp
      have := hp.modify hn hl v
      obtain ⟨l⟩ := es
      simpa using this
    · rw [stored, if_pos (any_of_findIdx_some (hidx ▸ hi)), keys_map_store]; exact hn
  | none =>
    have hnot : k ∉ kvs.map (·.1) := not_mem_of_findIdx_none (hidx ▸ hi)
    have hany : ¬ (kvs.any fun kv => decide (kv.1 = k)) = true := by
      rw [List.any_eq_true]; rintro ⟨kv, hkv, he⟩
      exact hnot (List.mem_map.mpr ⟨kv, hkv, of_decide_eq_true he⟩)
    refine wpAny_updateDictKeys (hz := hes) ho hd (hQ _ ⟨_, _, ep + 1, Heap.get?_update_self _ ho (Obj.isFreed_of_dict (Obj.data_mapDictKeys hd _)),
      hc.mapDictKeys _, Obj.data_mapDictKeys hd _, hk.push hkey _, ?_, ?_⟩ (Heap.SameBut.update ..))
    · rw [stored, if_neg hany]
      have := hp.append hkey (knd.hash k) v
      obtain ⟨l⟩ := es
      simpa using this
    · rw [stored, if_neg hany, List.map_append, List.nodup_append]
      refine ⟨hn, by simp, ?_⟩
      intro a ha b hb
      simp only [List.map_cons, List.map_nil, List.mem_singleton] at hb
      subst hb
      exact fun e => hnot (e ▸ ha)
/-- no key stands in the heap -/
def NoRef (v : Value) : Prop := ∀ a, v ≠ .ref a
theorem wpAny_mergeMapping {d o : Addr} {more : List (K × Value)} {Q : Unit → Shared → Prop} (hdo : d ≠ o) (hoS : (o == sysModules) = false) (hnr : ∀ k v, knd.is k v = true → NoRef v)
    (hd : s.heap.DictOf knd d []) (ho : s.heap.DictOf knd o more) (hsz : more.length ≤ sizeLine)
    (hQ : ∀ h', h'.DictOf knd d (merged [] more) → Heap.SameBut d s.heap h' → Q () { s with heap := h' }) :
    wpAny (model prog w) A (mergeMapping d (.ref o) false) Q E s := by
  obtain ⟨od, esd, epd, hod, hcd, hdd, hkd, hpd, hnd⟩ := id hd
  obtain ⟨oo, eso, epo, hoo, hco, hdo', hko, hpo, hno⟩ := id ho
  have hlen : more.length = eso.size := by rw [← hpo.length]; simp
  have hle : esd.size = 0 := by have := hpd.length; simpa using this
  unfold mergeMapping
  refine wpAny_bind (wpAny_isInstance ho.typeIs isSubtype_dict_dict ?_)
  simp only [if_true]
  refine wpAny_bind (wpAny_specialOf ho.typeIs F.slot_dict_iter.lookup (wpAny_bind (wpAny_pure ?_)))
  simp only [beq_self_eq_true]
  rw [if_neg (by rw [hoS]; exact Bool.false_ne_true)]
  refine wpAny_bind (wpAny_dictEntries hod hdd ?_)
  rw [if_pos (by rw [Array.isEmpty_iff]; exact Array.eq_empty_of_size_eq_zero hle)]
  refine wpAny_bind (wpAny_dictEntries hoo hdo' ?_)
  have hkeys : ∀ e ∈ eso.toList, NoRef e.key := fun e he => by
    obtain ⟨k, hk, _⟩ := hko e (by simpa using he)
    exact hnr k e.key hk
  refine wpAny_bind ?_
  rw [← Array.forIn_toList]
  refine wpAny_forIn_list _ (fun rest _ s' => s' = s ∧ ∀ e ∈ rest, NoRef e.key) _ ?_ ?_ _ _ ⟨rfl, hkeys⟩
  · rintro x rest b s' ⟨rfl, hr⟩
    have hx := hr x (List.mem_cons_self ..)
    have hrest : ∀ e ∈ rest, NoRef e.key := fun e he => hr e (List.mem_cons_of_mem _ he)
    obtain ⟨hh, ky, vl⟩ := x
    cases ky <;> first | exact wpAny_pure ⟨rfl, hrest⟩ | exact absurd rfl (hx _)
  · rintro b s' ⟨rfl, _⟩
    refine wpAny_bind (wpAny_dictEntries hoo hdo' (wpAny_bind (wpAny_dictEpoch hoo hdo' ?_)))
    refine wpAny_bind ?_
    rw [List.range_eq_range']
    refine wpAny_forIn_list _
      (fun rest _ s1 => ∃ h' i, s1 = { s' with heap := h' } ∧ rest = List.range' i (eso.size - i) ∧ i ≤ eso.size ∧ h'.DictOf knd d (merged [] (more.take i)) ∧ h'.get? o = some oo ∧ Heap.SameBut d s'.heap h')
      _ ?_ ?_ _ _ ⟨s'.heap, 0, rfl, by simp, Nat.zero_le _, by simpa [merged] using hd, hoo, Heap.SameBut.refl _ _⟩
    · rintro x rest b s1 ⟨h', i, rfl, hr, hi, hd', hoo', hs'⟩
      have hlt : i < eso.size := by
        rcases Nat.lt_or_ge i eso.size with h | h
        · exact h
        · rw [Nat.sub_eq_zero_of_le h] at hr; simp at hr
      obtain ⟨rfl, hrest⟩ : x = i ∧ rest = List.range' (i + 1) (eso.size - (i + 1)) := by
        have e : eso.size - i = (eso.size - (i + 1)) + 1 := by omega
        rw [e, List.range'_succ] at hr
        injection hr with h1 h2
        exact ⟨h1, h2⟩
      refine wpAny_bind (wpAny_dictEntries hoo' hdo' ?_)
      rw [Array.getElem?_eq_getElem hlt]
      obtain ⟨kv, hkv⟩ : ∃ kv, more[x]? = some kv := ⟨more[x]'(by rw [hlen]; exact hlt), List.getElem?_eq_getElem _⟩
      obtain ⟨k, v⟩ := kv
      obtain ⟨hkey, hval⟩ := hpo.get? (e := eso[x]) (by simp [hlt]) hkv
      obtain ⟨k', hkey', hhash⟩ := hko eso[x] (Array.getElem_mem hlt)
      obtain rfl : k' = k := knd.inj _ _ _ hkey' hkey
      have hmx : (merged [] (more.take x)).length ≤ sizeLine := by
        have e1 := merged_length_le [] (more.take x)
        have e2 : (more.take x).length ≤ more.length := by rw [List.length_take]; omega
        rw [List.length_nil] at e1
        omega
      refine wpAny_bind (wpAny_holding ?_)
      rw [if_neg Bool.false_ne_true, hhash, hval]
      refine wpAny_dictPut_pairs hkey hd' (fun h'' hd'' hs'' => ?_) hmx
      have hoo'' : h''.get? o = some oo := (hs''.2 o (Ne.symm hdo)).trans hoo'
      refine wpAny_bind (wpAny_dictEpoch hoo'' hdo' ?_)
      rw [if_neg (by simp)]
      exact wpAny_pure ⟨h'', x + 1, rfl, hrest, hlt, by rw [merged_take_succ [] more x (k', v) hkv]; exact hd'', hoo'', hs'.trans hs''⟩
    · rintro b s1 ⟨h', i, rfl, hr, hi, hd', hoo', hs'⟩
      have hin : i = eso.size := by
        rcases Nat.lt_or_ge i eso.size with h | h
        · have e : eso.size - i = (eso.size - (i + 1)) + 1 := by omega
          rw [e, List.range'_succ] at hr; exact nomatch hr
        · exact Nat.le_antisymm hi h
      refine wpAny_pure (hQ h' ?_ hs')
      rw [hin, ← hlen, List.take_length] at hd'; exact hd'
end
section
variable {X : Cx} {pos : Pos} {e : Expr} {t : TE}
theorem eval_copyD (e : Expr) (pos : Pos) (env : Env) : eval (.Dict [none] [e] pos) env = (do standAt pos; dictDisplay [(none, do let x ← eval e env; standAt pos; pure x)]) := rfl
/-- {**d}, d with keys True and False -/
theorem pe_copyB (h : PE X e t) : PE X (.Dict [none] [e] pos) (fun σ H Q => ∀ p, H p = none → t σ (upd H p (DicB X.prog X.w p [])) fun x H2 => ∃ a kvs, x = .ref a ∧ a ≠ p ∧ H2 a = some (DicB X.prog X.w a kvs) ∧ H2 p = some (DicB X.prog X.w p []) ∧
    Q (.ref p) (upd H2 p (DicB X.prog X.w p kvs))) := by
  refine ⟨fun pins s σ H Q I q => ?_⟩
  rw [eval_copyD]
  have hn := I.hok.fresh (Nat.le_refl s.heap.objs.size)
  have hd0 : (s.heap.objs.size == sysModules) = false := beq_eq_false_iff_ne.mpr (Ne.symm (Nat.ne_of_lt I.big))
  have I1 := I.laid (a := s.heap.objs.size) (o := DicB X.prog X.w s.heap.objs.size []) (h' := s.heap.push { cls := .type "dict", data := .dict #[] }) (t' := s.toks) (fun _ _ q => Heap.get?_push_of_some _ q) (Nat.le_refl _)
    (dicB_new (by decide) hd0 .nil (Heap.DictOf.new s.heap))
  refine wpAny_bind (wpAny_standAt ?_)
  unfold dictDisplay
  simp only [List.forIn_cons, List.forIn_nil, List.isEmpty_nil, if_true, pure_bind]
  refine wpAny_bind (wpAny_bind (wpAny_bind (wpAny_alloc ?_)))
  refine wpAny_bind (wpAny_holding (wpAny_bind (thn (h.run pins _ σ _ _ I1 (q _ hn)) fun v s2 ⟨x, H2, I2, rx, a, kvs, ex, ne, e1, e2, q2⟩ => wpAny_bind (wpAny_standAt (wpAny_pure ?_)))))
  subst ex
  obtain rfl : v = Value.ref a := rx
  obtain ⟨z, hd, vs, rel, dd⟩ := dicB_get I2 e1
  obtain ⟨z0, hd1, vs0, rel0, dd0⟩ := dicB_get I2 e2
  cases rel0
  have h15 := line15
  have hnd : (vs.map (·.1)).Nodup := let ⟨_, _, _, _, _, _, _, _, hn⟩ := dd; hn
  refine wpAny_bind (wpAny_onRaise (wpAny_tryCatch (wpAny_onRaise (wpAny_holding ?_))))
  refine wpAny_mergeMapping (knd := bK X.prog X.w) (Ne.symm ne) hd (fun k v hk b e => by subst e; exact Bool.false_ne_true hk) dd0 dd (by rw [← rel.length]; omega) fun h' dd' hs => ?_
  refine wpAny_pure (wpAny_pure ?_)
  simp only [List.isEmpty_nil, if_true, pure_bind]
  refine wpAny_pure ?_
  rw [merged_nil_of_nodup vs hnd] at dd'
  have he : ∃ q, h'.get? s.heap.objs.size = some q := let ⟨q, _, _, hq, _⟩ := dd'; ⟨q, hq⟩
  exact ⟨.ref s.heap.objs.size, _, d_write (t' := s2.toks) I2 (by rw [e2]; exact True.intro) hs he (dicB_new z hd1 rel dd'), rfl, q2⟩
end
end Rp

namespace Rp
open PySem PySem.Spec PyProof.Rows L2

/-! ## what stands for what -/
structure Zo where
  P : Program
  w : World
  K : PySem.W.Frag
  ad : String → Addr
def RodOk (Z : Zo) (p : Addr) : List S → List V → Prop
  | [], _ => True
  | k :: ks, u :: us => KDct Z.K Z.w p ⟨k.toArray⟩ u ∧ RodOk Z p ks us
  | _ :: _, [] => False
/-- a written dict with the keys True and False -/
def KDB (K : PySem.W.Frag) (p : Addr) (t f : V) : Prop := ∃ (es : Array DictEntry) (n : Nat) (u v : Value), K.lookup p = some ⟨.type "dict", none, .dict es n, #[]⟩ ∧
  es.toList = [⟨PpSet.hB true, .bool true, u⟩, ⟨PpSet.hB false, .bool false, v⟩] ∧ RelV t u ∧ RelV f v ∧ (p == sysModules) = false
/-- the pairs of a dict with text keys -/
def skv : List S → List V → List (Key × V)
  | k :: ks, v :: vs => (Sum.inr ⟨k.toArray⟩, v) :: skv ks vs
  | _, _ => []
section
variable (Z : Zo) (φ : List Addr) (H : Hp)
mutual
def Rep : D → V → Prop
  | .non, v => v = .non
  | .bl b, v => v = .bl b
  | .int i, v => v = .int i
  | .str s, v => v = .str ⟨s.toArray⟩
  | .tup l, v => ∃ a vs, v = .ref a ∧ (H a = some (.tup vs) ∨ SqT Z.K (fun _ => none) a vs) ∧ Reps l vs
  | .rol l, v => ∃ a vs, v = .ref a ∧ ((∃ o, H a = some (.frz o (.lst vs))) ∨ (SqL Z.K (fun _ => none) a vs)) ∧ Reps l vs
  | .ref n, v => ∃ a, φ[n]? = some a ∧ v = .ref a
  | .fn f, v => v = .ref (Z.ad f)
  | .cls c, v => v = .ref (Z.ad c)
  | .ty t, v => v = .ty t
  | .rod ks l, v => ∃ p us, v = .ref p ∧ RodOk Z p ks us ∧ Reps l us
  | .bod t f, v => ∃ p x y, v = .ref p ∧ KDB Z.K p x y ∧ Rep t x ∧ Rep f y
def Reps : List D → List V → Prop
  | [], vs => vs = []
  | d :: l, vs => ∃ v ws, vs = v :: ws ∧ Rep d v ∧ Reps l ws
end
def ORep (a : Addr) : O → Prop
  | .lst l => ∃ vs, H a = some (.lst vs) ∧ Reps Z φ H l vs
  | .set l => ∃ z : List Str, H a = some (SetSO Z.w a z) ∧ l = z.map fun x => .str x.cps.toList
  | .bd t f => ∃ kvs x y, H a = some (DicB Z.P Z.w a kvs) ∧ kvs.length = 2 ∧ valV kvs true = some x ∧ valV kvs false = some y ∧ Rep Z φ H t x ∧ Rep Z φ H f y
  | .sd ks l => ∃ vs, H a = some (.dK (skv ks vs)) ∧ ks.length = l.length ∧ ks.length ≤ 15 ∧ Reps Z φ H l vs
  | _ => False
structure SR (M : Hm) : Prop where
  len : φ.length = M.length
  nd : φ.Nodup
  at' : ∀ (n : Nat) (o : O), M[n]? = some o → ∃ a, φ[n]? = some a ∧ ORep Z φ H a o
structure Lrep (ρ : Lc) (σ : L2.St) : Prop where
  len : ρ.length = σ.length
  at' : ∀ (i : Nat) (d : D), ρ[i]? = some (some d) → ∃ v, σ[i]? = some (some v) ∧ Rep Z φ H d v
end
structure Step (φ : List Addr) (H : Hp) (φ' : List Addr) (H' : Hp) : Prop where
  pre : φ <+: φ'
  keep : ∀ b o, H b = some o → b ∉ φ → H' b = some o ∧ b ∉ φ'
  tup : ∀ b xs, H b = some (.tup xs) → H' b = some (.tup xs)
  frz : ∀ b o u, H b = some (.frz o u) → H' b = some (.frz o u)
theorem Step.refl {φ : List Addr} {H : Hp} : Step φ H φ H := ⟨List.prefix_refl _, fun _ _ h n => ⟨h, n⟩, fun _ _ h => h, fun _ _ _ h => h⟩
theorem Step.trans {φ φ1 φ2 : List Addr} {H H1 H2 : Hp} (a : Step φ H φ1 H1) (b : Step φ1 H1 φ2 H2) : Step φ H φ2 H2 :=
  ⟨a.pre.trans b.pre, fun c o h n => (fun q => b.keep c o q.1 q.2) (a.keep c o h n), fun c xs h => b.tup c xs (a.tup c xs h), fun c o u h => b.frz c o u (a.frz c o u h)⟩
/-- .. and what leans on no object that changes -/
structure Stay (φ : List Addr) (H : Hp) (φ' : List Addr) (H' : Hp) : Prop where
  pre : φ <+: φ'
  tup : ∀ b xs, H b = some (.tup xs) → H' b = some (.tup xs)
  frz : ∀ b o u, H b = some (.frz o u) → H' b = some (.frz o u)
theorem Stay.refl {φ : List Addr} {H : Hp} : Stay φ H φ H := ⟨List.prefix_refl _, fun _ _ h => h, fun _ _ _ h => h⟩
theorem Stay.trans {φ φ1 φ2 : List Addr} {H H1 H2 : Hp} (a : Stay φ H φ1 H1) (b : Stay φ1 H1 φ2 H2) : Stay φ H φ2 H2 := ⟨a.pre.trans b.pre, fun c xs h => b.tup c xs (a.tup c xs h), fun c o u h => b.frz c o u (a.frz c o u h)⟩
theorem Step.stay {φ φ' : List Addr} {H H' : Hp} (s : Step φ H φ' H') : Stay φ H φ' H' := ⟨s.pre, s.tup, s.frz⟩
section
variable {Z : Zo} {φ φ' : List Addr} {H H' : Hp}
theorem pre_at {α : Type} {l r : List α} {n : Nat} {a : α} (h : l <+: r) (e : l[n]? = some a) : r[n]? = some a := by
  obtain ⟨t, rfl⟩ := h
  have := (List.getElem?_eq_some_iff.mp e).1
  rw [List.getElem?_append_left this]; exact e
mutual
theorem Rep.stay (s : Stay φ H φ' H') : ∀ {d : D} {v : V}, Rep Z φ H d v → Rep Z φ' H' d v
  | .non, _, h => h
  | .bl _, _, h => h
  | .int _, _, h => h
  | .str _, _, h => h
  | .tup l, _, h => by
    obtain ⟨a, vs, e, q, r⟩ := h
    exact ⟨a, vs, e, q.imp (s.tup a vs) id, Reps.stay s r⟩
  | .rol l, _, h => by
    obtain ⟨a, vs, e, q, r⟩ := h
    exact ⟨a, vs, e, q.imp (fun ⟨o, z⟩ => ⟨o, s.frz _ _ _ z⟩) id, Reps.stay s r⟩
  | .ref n, _, h => by
    obtain ⟨a, q, e⟩ := h
    exact ⟨a, pre_at s.pre q, e⟩
  | .fn _, _, h => h
  | .cls _, _, h => h
  | .ty _, _, h => h
  | .rod ks l, _, h => by
    obtain ⟨p, us, e, q, r⟩ := h
    exact ⟨p, us, e, q, Reps.stay s r⟩
  | .bod t f, _, h => by
    obtain ⟨p, x, y, e, q, r1, r2⟩ := h
    exact ⟨p, x, y, e, q, Rep.stay s r1, Rep.stay s r2⟩
theorem Reps.stay (s : Stay φ H φ' H') : ∀ {l : List D} {vs : List V}, Reps Z φ H l vs → Reps Z φ' H' l vs
  | [], _, h => h
  | d :: l, _, h => by
    obtain ⟨v, ws, e, p, q⟩ := h
    exact ⟨v, ws, e, Rep.stay s p, Reps.stay s q⟩
end
theorem Rep.step (s : Step φ H φ' H') {d : D} {v : V} (h : Rep Z φ H d v) : Rep Z φ' H' d v := h.stay s.stay
theorem Reps.step (s : Step φ H φ' H') {d : List D} {v : List V} (h : Reps Z φ H d v) : Reps Z φ' H' d v := h.stay s.stay
theorem Lrep.step {ρ : Lc} {σ : L2.St} (s : Step φ H φ' H') (h : Lrep Z φ H ρ σ) : Lrep Z φ' H' ρ σ :=
  ⟨h.len, fun i d e => (fun ⟨v, p, q⟩ => ⟨v, p, q.step s⟩) (h.at' i d e)⟩
theorem Lrep.stay {ρ : Lc} {σ : L2.St} (s : Stay φ H φ' H') (h : Lrep Z φ H ρ σ) : Lrep Z φ' H' ρ σ :=
  ⟨h.len, fun i d e => (fun ⟨v, p, q⟩ => ⟨v, p, q.stay s⟩) (h.at' i d e)⟩
theorem ORep.stay (s : Stay φ H φ' H') {a : Addr} {o : O} (h : ORep Z φ H a o) (e : H' a = H a) : ORep Z φ' H' a o := by
  cases o with
  | lst l => obtain ⟨vs, p, q⟩ := h; exact ⟨vs, e.trans p, q.stay s⟩
  | set l => obtain ⟨z, p, q⟩ := h; exact ⟨z, e.trans p, q⟩
  | bd t f => obtain ⟨kvs, x, y, p, q1, q2, q3, r1, r2⟩ := h; exact ⟨kvs, x, y, e.trans p, q1, q2, q3, r1.stay s, r2.stay s⟩
  | sd ks l => obtain ⟨vs, p, q1, q2, r⟩ := h; exact ⟨vs, e.trans p, q1, q2, r.stay s⟩
  | _ => exact h.elim
theorem ORep.step (s : Step φ H φ' H') {a : Addr} {o : O} (h : ORep Z φ H a o) (e : H' a = H a) : ORep Z φ' H' a o := h.stay s.stay e
/-- what an object is to the tracked heap -/
theorem ORep.mut {a : Addr} {o : O} (h : ORep Z φ H a o) : ∃ u, H a = some u ∧ Mut (some u) := by
  cases o with
  | lst l => obtain ⟨vs, p, q⟩ := h; exact ⟨_, p, trivial⟩
  | set l => obtain ⟨z, p, q⟩ := h; exact ⟨_, p, trivial⟩
  | bd t f => obtain ⟨kvs, x, y, p, _⟩ := h; exact ⟨_, p, trivial⟩
  | sd ks l => obtain ⟨vs, p, _⟩ := h; exact ⟨_, p, trivial⟩
  | _ => exact h.elim
theorem SR.out {M : Hm} (S : SR Z φ H M) {b : Addr} (n : H b = none) : b ∉ φ := fun hb => by
  obtain ⟨i, hi⟩ := List.getElem?_of_mem hb
  have hl : i < M.length := by rw [← S.len]; exact (List.getElem?_eq_some_iff.mp hi).1
  obtain ⟨a, ha, r⟩ := S.at' i M[i] (List.getElem?_eq_getElem hl)
  rw [hi] at ha; cases ha
  obtain ⟨u, e, _⟩ := r.mut
  rw [n] at e; cases e
theorem SR.mutAt {M : Hm} (S : SR Z φ H M) {b : Addr} (hb : b ∈ φ) : ∃ u, H b = some u ∧ Mut (some u) := by
  obtain ⟨i, hi⟩ := List.getElem?_of_mem hb
  have hl : i < M.length := by rw [← S.len]; exact (List.getElem?_eq_some_iff.mp hi).1
  obtain ⟨a, ha, r⟩ := S.at' i M[i] (List.getElem?_eq_getElem hl)
  rw [hi] at ha; cases ha
  exact r.mut
/-- a new object -/
theorem SR.new {M : Hm} {p : Addr} {o : O} {ho : HO} (S : SR Z φ H M) (n : H p = none) (hr : Step φ H (φ ++ [p]) (upd H p ho) → ORep Z (φ ++ [p]) (upd H p ho) p o) :
    Step φ H (φ ++ [p]) (upd H p ho) ∧ SR Z (φ ++ [p]) (upd H p ho) (M ++ [o]) := by
  have np := S.out n
  have ne : ∀ {b u}, H b = some u → b ≠ p := fun e z => by subst z; rw [n] at e; cases e
  have st : Step φ H (φ ++ [p]) (upd H p ho) := by
    refine ⟨List.prefix_append _ _, fun b u e h => ⟨by rw [upd_ne (ne e)]; exact e, fun z => ?_⟩, fun b xs h => by rw [upd_ne (ne h)]; exact h, fun b u w e => by rw [upd_ne (ne e)]; exact e⟩
    rcases List.mem_append.mp z with z | z
    · exact h z
    · exact ne e (by simpa using z)
  refine ⟨st, ⟨by simp [S.len], ?_, fun i u e => ?_⟩⟩
  · exact List.nodup_append.mpr ⟨S.nd, by simp, fun a ha b hb => by
      have : b = p := by simpa using hb
      subst this; exact fun z => np (z ▸ ha)⟩
  · by_cases hi : i < M.length
    · rw [List.getElem?_append_left hi] at e
      obtain ⟨a, ha, r⟩ := S.at' i u e
      refine ⟨a, pre_at (List.prefix_append _ _) ha, r.step st ?_⟩
      obtain ⟨w, e2, _⟩ := r.mut
      exact upd_ne (ne e2)
    · have hlt := (List.getElem?_eq_some_iff.mp e).1
      have : i = M.length := by simp at hlt; omega
      subst this
      have e' : o = u := by simpa using e
      subst e'
      exact ⟨p, by rw [← S.len]; simp, hr st⟩
/-- an object changed -/
theorem SR.set {M : Hm} {k : Nat} {a : Addr} {o : O} {ho : HO} (S : SR Z φ H M) (hk : φ[k]? = some a) (hm : Mut (some ho)) (hr : Step φ H φ (upd H a ho) → ORep Z φ (upd H a ho) a o) :
    Step φ H φ (upd H a ho) ∧ SR Z φ (upd H a ho) (M.set k o) := by
  have ha : a ∈ φ := List.mem_of_getElem? hk
  obtain ⟨u, eu, mu⟩ := S.mutAt ha
  have st : Step φ H φ (upd H a ho) := by
    refine ⟨List.prefix_refl _, fun b w e h => ⟨?_, h⟩, fun b xs h => ?_, fun b w z e => ?_⟩
    · rw [upd_ne (fun z => h (by rw [z]; exact ha))]; exact e
    · have : b ≠ a := fun z => by subst z; rw [h] at eu; cases eu; exact mu
      rw [upd_ne this]; exact h
    · have : b ≠ a := fun z => by subst z; rw [e] at eu; cases eu; exact mu
      rw [upd_ne this]; exact e
  refine ⟨st, ⟨by simp [S.len], S.nd, fun i w e => ?_⟩⟩
  by_cases hi : k = i
  · subst hi
    have hlt : k < M.length := by rw [← S.len]; exact (List.getElem?_eq_some_iff.mp hk).1
    rw [List.getElem?_set_self hlt] at e
    cases e
    exact ⟨a, hk, hr st⟩
  · rw [List.getElem?_set_ne hi] at e
    obtain ⟨b, hb, r⟩ := S.at' i w e
    refine ⟨b, hb, r.step st (upd_ne fun z => hi ?_)⟩
    subst z
    exact (List.getElem?_inj (List.getElem?_eq_some_iff.mp hk).1 S.nd).mp (hk.trans hb.symm)
/-- an object that no number stands for, changed -/
theorem SR.off {M : Hm} {p : Addr} {o u : HO} (S : SR Z φ H M) (hp : p ∉ φ) (h : H p = some u) (hm : Mut (some u)) : Stay φ H φ (upd H p o) ∧ SR Z φ (upd H p o) M := by
  have st : Stay φ H φ (upd H p o) := by
    refine ⟨List.prefix_refl _, fun b xs e => ?_, fun b w z e => ?_⟩
    · have : b ≠ p := fun q => by subst q; rw [h] at e; cases e; exact hm
      rw [upd_ne this]; exact e
    · have : b ≠ p := fun q => by subst q; rw [h] at e; cases e; exact hm
      rw [upd_ne this]; exact e
  refine ⟨st, ⟨S.len, S.nd, fun i w e => ?_⟩⟩
  obtain ⟨a, ha, r⟩ := S.at' i w e
  exact ⟨a, ha, r.stay st (upd_ne fun q => hp (q ▸ List.mem_of_getElem? ha))⟩
theorem Step.off {φ1 : List Addr} {H1 : Hp} {p : Addr} {o : HO} (s : Step φ1 H1 φ H) (n : H1 p = none) : Step φ1 H1 φ (upd H p o) := by
  have ne : ∀ {b u}, H1 b = some u → b ≠ p := fun e z => by subst z; rw [n] at e; cases e
  exact ⟨s.pre, fun b u e h => ⟨by rw [upd_ne (ne e)]; exact (s.keep b u e h).1, (s.keep b u e h).2⟩, fun b xs e => by rw [upd_ne (ne e)]; exact s.tup b xs e, fun b u w e => by rw [upd_ne (ne e)]; exact s.frz b u w e⟩
/-- a tuple laid -/
theorem SR.laid {M : Hm} {p : Addr} {ho : HO} (S : SR Z φ H M) (n : H p = none) : Step φ H φ (upd H p ho) ∧ SR Z φ (upd H p ho) M := by
  have ne : ∀ {b u}, H b = some u → b ≠ p := fun e z => by subst z; rw [n] at e; cases e
  have st : Step φ H φ (upd H p ho) := by
    refine ⟨List.prefix_refl _, fun b u e h => ⟨by rw [upd_ne (ne e)]; exact e, h⟩, fun b xs h => by rw [upd_ne (ne h)]; exact h, fun b u w e => by rw [upd_ne (ne e)]; exact e⟩
  refine ⟨st, ⟨S.len, S.nd, fun i u e => ?_⟩⟩
  obtain ⟨a, ha, r⟩ := S.at' i u e
  obtain ⟨w, e2, _⟩ := r.mut
  exact ⟨a, ha, r.step st (upd_ne (ne e2))⟩
end

/-! ## what a result asks -/
def OutE (Z : Zo) (E : XK) (φ : List Addr) (H : Hp) (c : String) (fs : List (String × D)) (M : Hm) : Prop := False
section
variable (Z : Zo) {α ν : Type} (rep : List Addr → Hp → α → ν → Prop) (E : XK)
def Out (φ : List Addr) (H : Hp) (r : R α) (Q : ν → Hp → Prop) : Prop := match r with
  | .ok a M => ∀ φ' v H', Step φ H φ' H' → SR Z φ' H' M → rep φ' H' a v → Q v H'
  | .exc c fs M => OutE Z E φ H c fs M
  | .stuck => False
end
section
variable {Z : Zo} {α β ν μ : Type} {rep : List Addr → Hp → α → ν → Prop} {rep2 : List Addr → Hp → β → μ → Prop} {E : XK} {φ φ1 : List Addr} {H H1 : Hp}
theorem Out.imp {r : R α} {Q Q' : ν → Hp → Prop} (h : Out Z rep E φ H r Q) (f : ∀ v H', Q v H' → Q' v H') : Out Z rep E φ H r Q' := by
  cases r with
  | ok a M => exact fun φ' v H' s S q => f _ _ (h φ' v H' s S q)
  | exc c fs M => exact h
  | stuck => exact h
theorem Out.step {r : R α} {Q : ν → Hp → Prop} (h : Out Z rep E φ H r Q) (s : Step φ H φ1 H1) : Out Z rep E φ1 H1 r Q := by
  cases r with
  | ok a M => exact fun φ' v H' s' S q => h φ' v H' (s.trans s') S q
  | exc c fs M => exact h
  | stuck => exact h
theorem Out.bind {r : R α} {k : α → Hm → R β} {Q : μ → Hp → Prop} (h : Out Z rep2 E φ H (r.bind k) Q) :
    Out Z rep E φ H r fun v H1 => ∃ φ1 a M1, Step φ H φ1 H1 ∧ SR Z φ1 H1 M1 ∧ rep φ1 H1 a v ∧ Out Z rep2 E φ1 H1 (k a M1) Q := by
  cases r with
  | ok a M => exact fun φ' v H' s S q => ⟨φ', a, M, s, S, q, Out.step h s⟩
  | exc c fs M => exact h
  | stuck => exact h
/-- at a value that stands -/
theorem Out.here {a : α} {M : Hm} {Q : ν → Hp → Prop} {v : ν} (h : Out Z rep E φ H (.ok a M) Q) (S : SR Z φ H M) (q : rep φ H a v) : Q v H := h φ v H .refl S q
end
end Rp

namespace Rp
open PySem PySem.Spec PyProof.Rows L2

/-! ## operations by values -/
theorem LN_eq : (LN : Nat) = sizeLine := by rw [sizeLine_eq]; rfl
section
variable {Z : Zo} {φ : List Addr} {H : Hp} {M : Hm} {E : XK} {Q : VK}
theorem Reps.length : ∀ {l : List D} {vs : List V}, Reps Z φ H l vs → vs.length = l.length
  | [], _, h => by cases (show _ = _ from h); rfl
  | d :: l, _, h => by
    obtain ⟨v, ws, rfl, _, q⟩ := h
    simp [Reps.length q]
theorem Reps.nil_iff {l : List D} {vs : List V} (h : Reps Z φ H l vs) : vs = [] ↔ l = [] := by
  rw [← List.length_eq_zero_iff, h.length, List.length_eq_zero_iff]
theorem Reps.append : ∀ {l r : List D} {vs ws : List V}, Reps Z φ H l vs → Reps Z φ H r ws → Reps Z φ H (l ++ r) (vs ++ ws)
  | [], _, _, _, h, q => by cases (show _ = _ from h); exact q
  | d :: l, _, _, _, h, q => by
    obtain ⟨v, ws, rfl, p, h⟩ := h
    exact ⟨v, _, rfl, p, Reps.append h q⟩
theorem Reps.get : ∀ {l : List D} {vs : List V} {i : Nat} {d : D}, Reps Z φ H l vs → l[i]? = some d → ∃ v, vs[i]? = some v ∧ Rep Z φ H d v
  | [], _, _, _, _, e => by simp at e
  | d :: l, _, 0, _, h, e => by
    obtain ⟨v, ws, rfl, p, h⟩ := h
    rw [List.getElem?_cons_zero] at e
    cases e
    exact ⟨v, rfl, p⟩
  | d :: l, _, i + 1, _, h, e => by
    obtain ⟨v, ws, rfl, p, h⟩ := h
    obtain ⟨w, e1, e2⟩ := Reps.get (i := i) h (by simpa using e)
    exact ⟨w, by simpa using e1, e2⟩
theorem Reps.drop : ∀ {l : List D} {vs : List V} (n : Nat), Reps Z φ H l vs → Reps Z φ H (l.drop n) (vs.drop n)
  | _, _, 0, h => h
  | [], _, n + 1, h => by cases (show _ = _ from h); exact rfl
  | d :: l, _, n + 1, h => by
    obtain ⟨v, ws, rfl, p, h⟩ := h
    exact Reps.drop n h
theorem Reps.take : ∀ {l : List D} {vs : List V} (n : Nat), Reps Z φ H l vs → Reps Z φ H (l.take n) (vs.take n)
  | _, _, 0, h => rfl
  | [], _, n + 1, h => by cases (show _ = _ from h); exact rfl
  | d :: l, _, n + 1, h => by
    obtain ⟨v, ws, rfl, p, h⟩ := h
    exact ⟨v, _, rfl, p, Reps.take n h⟩
theorem Reps.set {d : D} {v : V} (r : Rep Z φ H d v) : ∀ {l : List D} {vs : List V} (n : Nat), Reps Z φ H l vs → Reps Z φ H (l.set n d) (vs.set n v)
  | [], _, n, h => by cases (show _ = _ from h); exact rfl
  | a :: l, _, 0, h => by
    obtain ⟨w, ws, rfl, p, h⟩ := h
    exact ⟨v, ws, rfl, r, h⟩
  | a :: l, _, n + 1, h => by
    obtain ⟨w, ws, rfl, p, h⟩ := h
    exact ⟨w, _, rfl, p, Reps.set r n h⟩
theorem Reps.rep {l : List D} {vs : List V} (h : Reps Z φ H l vs) : ∀ n : Nat, Reps Z φ H (List.replicate n l).flatten (List.replicate n vs).flatten
  | 0 => rfl
  | n + 1 => by simpa [List.replicate_succ] using Reps.append h (Reps.rep h n)
theorem Reps.one {d : D} {vs : List V} (h : Reps Z φ H [d] vs) : ∃ v, vs = [v] ∧ Rep Z φ H d v := by
  obtain ⟨v, ws, rfl, p, h⟩ := h
  cases (show _ = _ from h); exact ⟨v, rfl, p⟩
theorem Reps.two {d e : D} {vs : List V} (h : Reps Z φ H [d, e] vs) : ∃ v w, vs = [v, w] ∧ Rep Z φ H d v ∧ Rep Z φ H e w := by
  obtain ⟨v, ws, rfl, p, h⟩ := h
  obtain ⟨w, rfl, q⟩ := h.one
  exact ⟨v, w, rfl, p, q⟩
theorem Reps.nil : Reps Z φ H [] [] := rfl
theorem Reps.cons {d : D} {l : List D} {v : V} {vs : List V} (p : Rep Z φ H d v) (q : Reps Z φ H l vs) : Reps Z φ H (d :: l) (v :: vs) := ⟨v, vs, rfl, p, q⟩
/-- a list as it stands -/
theorem SR.lst (S : SR Z φ H M) {n : Nat} {l : List D} {v : V} (e : M[n]? = some (.lst l)) (r : Rep Z φ H (.ref n) v) : ∃ a vs, φ[n]? = some a ∧ v = .ref a ∧ H a = some (.lst vs) ∧ Reps Z φ H l vs := by
  obtain ⟨a, ha, rfl⟩ := r
  obtain ⟨b, hb, vs, p, q⟩ := S.at' n _ e
  rw [ha] at hb; cases hb
  exact ⟨a, vs, ha, rfl, p, q⟩
theorem rol_list {a : Addr} {vs : List V} (q : (∃ o, H a = some (.frz o (.lst vs))) ∨ SqL Z.K (fun _ => none) a vs) : SqL Z.K H a vs := by
  rcases q with ⟨o, q⟩ | q | q
  · exact .inl (.inr ⟨o, q⟩)
  · rcases q with q | ⟨o, q⟩ <;> cases q
  · exact .inr q
theorem tup_tuple {a : Addr} {vs : List V} (q : H a = some (.tup vs) ∨ SqT Z.K (fun _ => none) a vs) : SqT Z.K H a vs := by
  rcases q with q | q | q
  · exact .inl (.inl q)
  · rcases q with q | ⟨o, q⟩ <;> cases q
  · exact .inr q
/-- a sequence as it stands -/
theorem SR.seq (S : SR Z φ H M) {d : D} {l : List D} {v : V} (e : seq? M d = some l) (r : Rep Z φ H d v) : ∃ a vs, v = .ref a ∧ (SqL Z.K H a vs ∨ SqT Z.K H a vs) ∧ Reps Z φ H l vs := by
  cases d with
  | tup x => cases e; obtain ⟨a, vs, rfl, q, r⟩ := r; exact ⟨a, vs, rfl, .inr (tup_tuple q), r⟩
  | rol x => cases e; obtain ⟨a, vs, rfl, q, r⟩ := r; exact ⟨a, vs, rfl, .inl (rol_list q), r⟩
  | ref n =>
    unfold seq? at e
    cases h : M[n]? with
    | none => simp [h] at e
    | some o =>
      cases o with
      | lst x =>
        simp only [h] at e
        cases e
        obtain ⟨a, vs, _, rfl, p, q⟩ := S.lst h r
        exact ⟨a, vs, rfl, .inl (SqL.of p), q⟩
      | _ => simp [h] at e
  | _ => cases e
theorem Out.new {o : O} (h : Out Z (Rep Z) E φ H (Rp.new o M) Q) (S : SR Z φ H M) {p : Addr} {ho : HO} (n : H p = none)
    (hr : Step φ H (φ ++ [p]) (upd H p ho) → ORep Z (φ ++ [p]) (upd H p ho) p o) : Q (.ref p) (upd H p ho) := by
  obtain ⟨st, S'⟩ := S.new n hr
  exact h _ _ _ st S' ⟨p, by rw [← S.len]; simp, rfl⟩
/-- a new list -/
theorem Out.newL {l : List D} {vs : List V} (h : Out Z (Rep Z) E φ H (Rp.new (.lst l) M) Q) (S : SR Z φ H M) (r : Reps Z φ H l vs) : ∀ p, H p = none → Q (.ref p) (upd H p (.lst vs)) :=
  fun _ n => h.new S n fun st => ⟨vs, upd_same, r.step st⟩
/-- a new tuple -/
theorem Out.newT {l : List D} {vs : List V} (h : Out Z (Rep Z) E φ H (.ok (.tup l) M) Q) (S : SR Z φ H M) (r : Reps Z φ H l vs) : ∀ p, H p = none → Q (.ref p) (upd H p (.tup vs)) := fun p n => by
  obtain ⟨st, S'⟩ := S.laid (ho := .tup vs) n
  exact h _ _ _ st S' ⟨p, vs, rfl, .inl upd_same, r.step st⟩
theorem toArr (a b : S) : (⟨a.toArray⟩ : Str) ++ ⟨b.toArray⟩ = ⟨(a ++ b).toArray⟩ := by
  show (⟨a.toArray ++ b.toArray⟩ : Str) = _
  simp
theorem strlen (a : S) : (⟨a.toArray⟩ : Str).length = a.length := by simp [Str.length]
end
/-- what an operation of two values asks -/
def RB (Z : Zo) (E : XK) (f : D → D → Hm → R D) : R2 := fun x y H Q => ∃ φ a b M, SR Z φ H M ∧ Rep Z φ H a x ∧ Rep Z φ H b y ∧ Out Z (Rep Z) E φ H (f a b M) Q
section
variable {X : Cx} {Z : Zo} {E : XK}
theorem stuckE {Z : Zo} {E : XK} {φ : List Addr} {H : Hp} {Q : VK} {p : Prop} (h : Out Z (Rep Z) E φ H (.stuck : R D) Q) : p := h.elim
theorem or_add (zK : Z.K = X.K) : OpR X (binaryOp .Add) (RB Z E (binop .add)) := by
  intro pins s σ H x y v u Q I rx ry ⟨φ, a, b, M, S, ra, rb, o⟩
  cases a with
  | int i =>
    cases b with
    | int j => cases ra; cases rb; exact op_add pins s σ H _ _ v u Q I rx ry ⟨i, j, rfl, rfl, o.here S rfl⟩
    | _ => exact stuckE o
  | str i =>
    cases b with
    | str j =>
      cases ra; cases rb
      simp only [binop] at o
      split at o
      · next hl => exact op_add_str pins s σ H _ _ v u Q I rx ry ⟨_, _, rfl, rfl, by rw [strlen, strlen, ← LN_eq]; exact hl, by rw [toArr]; exact o.here S rfl⟩
      · exact stuckE o
    | _ => exact stuckE o
  | tup i =>
    cases b with
    | tup j =>
      obtain ⟨a1, vs, rfl, q1, r1⟩ := ra
      obtain ⟨a2, ws, rfl, q2, r2⟩ := rb
      simp only [binop] at o
      split at o
      · next hl =>
        refine op_catA pins s σ H _ _ v u Q I rx ry ⟨a1, a2, vs, ws, rfl, rfl, zK ▸ tup_tuple q1, zK ▸ tup_tuple q2, by rw [r1.length, r2.length, ← LN_eq]; exact hl, fun e => ?_, fun e e2 => ?_, fun e e2 p hp => ?_⟩
        · have : i = [] := r1.nil_iff.mp e
          subst this
          exact o.here S ⟨a2, ws, rfl, q2, r2⟩
        · have : j = [] := r2.nil_iff.mp e2
          subst this
          rw [List.append_nil] at o
          exact o.here S ⟨a1, vs, rfl, q1, r1⟩
        · exact o.newT S (r1.append r2) p hp
      · exact stuckE o
    | _ => exact stuckE o
  | ref i =>
    cases b with
    | ref j =>
      simp only [binop] at o
      cases h1 : M[i]? with
      | none => rw [h1] at o; exact stuckE o
      | some o1 =>
        cases h2 : M[j]? with
        | none => rw [h1, h2] at o; cases o1 <;> exact stuckE o
        | some o2 =>
          rw [h1, h2] at o
          cases o1 with
          | lst l1 =>
            cases o2 with
            | lst l2 =>
              simp only at o
              split at o
              · next hl =>
                obtain ⟨a1, vs, _, rfl, p1, r1⟩ := S.lst h1 ra
                obtain ⟨a2, ws, _, rfl, p2, r2⟩ := S.lst h2 rb
                exact op_cat pins s σ H _ _ v u Q I rx ry ⟨a1, a2, vs, ws, rfl, rfl, p1, p2, by rw [r1.length, r2.length, ← LN_eq]; exact hl, o.newL S (r1.append r2)⟩
              · exact stuckE o
            | _ => exact stuckE o
          | _ => exact stuckE o
    | _ => exact stuckE o
  | _ => exact stuckE o
theorem or_sub : OpR X (binaryOp .Sub) (RB Z E (binop .sub)) := by
  intro pins s σ H x y v u Q I rx ry ⟨φ, a, b, M, S, ra, rb, o⟩
  cases a with
  | int i =>
    cases b with
    | int j => cases ra; cases rb; exact op_sub pins s σ H _ _ v u Q I rx ry ⟨i, j, rfl, rfl, o.here S rfl⟩
    | _ => exact stuckE o
  | _ => exact stuckE o
theorem or_mul (zK : Z.K = X.K) : OpR X (binaryOp .Mult) (RB Z E (binop .mul)) := by
  intro pins s σ H x y v u Q I rx ry ⟨φ, a, b, M, S, ra, rb, o⟩
  cases b with
  | int j =>
    cases rb
    cases a with
    | int i =>
      cases ra
      simp only [binop] at o
      split at o
      · next hl => exact op_mulW pins s σ H _ _ v u Q I rx ry ⟨i, j, rfl, rfl, hl, o.here S rfl⟩
      · exact stuckE o
    | tup l =>
      obtain ⟨a1, vs, rfl, q1, r1⟩ := ra
      simp only [binop] at o
      split at o
      · next hl => exact op_repT pins s σ H _ _ v u Q I rx ry ⟨a1, j, vs, rfl, rfl, zK ▸ tup_tuple q1, fun e => hl.1 (r1.nil_iff.mp e), hl.2.1, hl.2.2.1, by rw [r1.length]; exact hl.2.2.2, o.newT S (r1.rep _)⟩
      · exact stuckE o
    | ref i =>
      simp only [binop] at o
      cases h1 : M[i]? with
      | none => rw [h1] at o; exact stuckE o
      | some o1 =>
        rw [h1] at o
        cases o1 with
        | lst l1 =>
          simp only at o
          split at o
          · next hl =>
            obtain ⟨a1, vs, _, rfl, p1, r1⟩ := S.lst h1 ra
            exact op_rep pins s σ H _ _ v u Q I rx ry ⟨a1, j, vs, rfl, rfl, p1, hl.1, hl.2.1, by rw [r1.length, ← LN_eq]; exact hl.2.2, o.newL S (r1.rep _)⟩
          · exact stuckE o
        | _ => exact stuckE o
    | _ => exact stuckE o
  | _ => cases a <;> exact stuckE o
theorem or_fdiv : OpR X (binaryOp .FloorDiv) (RB Z E (binop .fdiv)) := by
  intro pins s σ H x y v u Q I rx ry ⟨φ, a, b, M, S, ra, rb, o⟩
  cases a with
  | int i =>
    cases b with
    | int j =>
      cases ra; cases rb
      simp only [binop] at o
      split at o
      · next hl => exact op_fdivW pins s σ H _ _ v u Q I rx ry ⟨i, j, rfl, rfl, hl, o.here S rfl⟩
      · exact stuckE o
    | _ => exact stuckE o
  | _ => exact stuckE o
theorem or_mod : OpR X (binaryOp .Mod) (RB Z E (binop .mod)) := by
  intro pins s σ H x y v u Q I rx ry ⟨φ, a, b, M, S, ra, rb, o⟩
  cases a with
  | int i =>
    cases b with
    | int j =>
      cases ra; cases rb
      simp only [binop] at o
      split at o
      · next hl => exact op_mod pins s σ H _ _ v u Q I rx ry ⟨i, j, rfl, rfl, hl, o.here S rfl⟩
      · exact stuckE o
    | _ => exact stuckE o
  | _ => exact stuckE o
theorem or_pow : OpR X (binaryOp .Pow) (RB Z E (binop .pow)) := by
  intro pins s σ H x y v u Q I rx ry ⟨φ, a, b, M, S, ra, rb, o⟩
  cases a with
  | int i =>
    cases b with
    | int j =>
      cases ra; cases rb
      simp only [binop] at o
      split at o
      · next hl => exact op_pow pins s σ H _ _ v u Q I rx ry ⟨i, j, rfl, rfl, hl, o.here S rfl⟩
      · exact stuckE o
    | _ => exact stuckE o
  | _ => exact stuckE o
/-- the model's own operators -/
def Bop.py : Bop → Operator
  | .add => .Add | .sub => .Sub | .mul => .Mult | .fdiv => .FloorDiv | .mod => .Mod | .pow => .Pow | .band => .BitAnd | .bor => .BitOr | .shr => .RShift
theorem or_bin (zK : Z.K = X.K) (op : Bop) : OpR X (binaryOp op.py) (RB Z E (binop op)) := by
  cases op with
  | add => exact or_add zK
  | sub => exact or_sub
  | mul => exact or_mul zK
  | fdiv => exact or_fdiv
  | mod => exact or_mod
  | pow => exact or_pow
  | _ =>
    intro pins s σ H x y v u Q I rx ry ⟨φ, a, b, M, S, ra, rb, o⟩
    cases a <;> cases b <;> exact stuckE o
end
end Rp

namespace Rp
open PySem PySem.Spec PyProof.Rows L2

/-! ## data as a whole -/
section
variable {Z : Zo} {φ : List Addr} {H : Hp} {M : Hm} {E : XK} {Q : VK}
theorem dp_all {n : Nat} (ih : ∀ {d : D} {p : PyData} {v : V}, pd M n d = some p → Rep Z φ H d v → Dp Z.K H v p) :
    ∀ {l : List D} {ps : List PyData} {vs : List V}, pds M n l = some ps → Reps Z φ H l vs → DpAll Z.K H vs ps
  | [], _, _, e, h => by
    simp only [pds] at e
    cases e; cases (show _ = _ from h); exact .nil
  | a :: l, _, _, e, h => by
    obtain ⟨v, ws, rfl, r, h⟩ := h
    simp only [pds] at e
    split at e
    · next x hx =>
      split at e
      · next r' hr => cases e; exact .cons (ih hx r) (dp_all ih hr h)
      · cases e
    · cases e
theorem dp_of (S : SR Z φ H M) : ∀ (n : Nat) {d : D} {p : PyData} {v : V}, pd M n d = some p → Rep Z φ H d v → Dp Z.K H v p
  | 0, _, _, _, e, _ => by simp [pd] at e
  | n + 1, d, p, v, e, r => by
    cases d with
    | non => simp only [pd] at e; cases e; cases r; exact .non
    | bl b => simp only [pd] at e; cases e; cases r; exact .bl b
    | int i => simp only [pd] at e; cases e; cases r; exact .int i
    | str s => simp only [pd] at e; cases e; cases r; exact .str _
    | tup l =>
      simp only [pd] at e
      cases h : pds M n l with
      | none => rw [h] at e; cases e
      | some ps =>
        rw [h] at e; cases e
        obtain ⟨a, vs, rfl, q, r⟩ := r
        exact .tup (tup_tuple q) (dp_all (dp_of S n) h r)
    | rol l =>
      simp only [pd] at e
      cases h : pds M n l with
      | none => rw [h] at e; cases e
      | some ps =>
        rw [h] at e; cases e
        obtain ⟨a, vs, rfl, q, r⟩ := r
        exact .lst (rol_list q) (dp_all (dp_of S n) h r)
    | ref k =>
      simp only [pd] at e
      split at e
      · next l hl =>
        cases h : pds M n l with
        | none => rw [h] at e; cases e
        | some ps =>
          rw [h] at e; cases e
          obtain ⟨a, vs, _, rfl, q, r⟩ := S.lst hl r
          exact .lst (SqL.of q) (dp_all (dp_of S n) h r)
      · cases e
    | _ => simp [pd] at e
theorem SR.sd (S : SR Z φ H M) {n : Nat} {ks : List Rp.S} {l : List D} {v : V} (e : M[n]? = some (.sd ks l)) (r : Rep Z φ H (.ref n) v) : ∃ a vs, φ[n]? = some a ∧ v = .ref a ∧ H a = some (.dK (skv ks vs)) ∧ ks.length = l.length ∧ ks.length ≤ 15 ∧ Reps Z φ H l vs := by
  obtain ⟨a, ha, rfl⟩ := r
  obtain ⟨b, hb, vs, p⟩ := S.at' n _ e
  rw [ha] at hb; cases hb
  exact ⟨a, vs, ha, rfl, p⟩
theorem dct_reads {X : Cx} {pins : List (Addr × Obj)} {σ : L2.St} {s : Shared} {a : Addr} (I : Inv X pins σ H s) (h : H a = some (.dK [])) : ∃ as, Reads s.heap (.ref a) (.dict []) as ∧ sysModules ∉ as := by
  obtain ⟨_, hd, vs, rel, o, es, ep, ho, hx, hdata, hk, hp, hn⟩ := dk_of I.hok h
  have hv : vs = [] := by cases rel; rfl
  subst hv
  have he : es.toList = [] := by
    generalize es.toList = l at hp
    cases hp; rfl
  refine ⟨_, Reads.dict (kvs := []) ho hx.1 hdata (by rw [he]; exact ReadsAll.nil) (by rw [he]; exact ReadsAll.nil), ?_⟩
  intro hm
  simp only [List.append_nil, List.mem_singleton] at hm
  rw [← hm] at hd
  simp at hd
/-- data without lists, with empty dicts -/
inductive DpD (K : PySem.W.Frag) (H : Hp) : Nat → V → PyData → Prop
  | non (n : Nat) : DpD K H n .non .none
  | bl (n : Nat) (b : Bool) : DpD K H n (.bl b) (.bool b)
  | int (n : Nat) (i : Int) : DpD K H n (.int i) (.int i)
  | str (n : Nat) (x : Str) : DpD K H n (.str x) (.str x)
  | tup (n : Nat) {a : Addr} {xs : List V} {ds : List PyData} : SqT K H a xs → ds.length = xs.length → (∀ (i : Nat) (v : V) (d : PyData), xs[i]? = some v → ds[i]? = some d → DpD K H n v d) → DpD K H (n + 1) (.ref a) (.tuple ds)
  | dct (n : Nat) {a : Addr} : H a = some (.dK []) → DpD K H n (.ref a) (.dict [])
theorem DpD.reads {X : Cx} {pins : List (Addr × Obj)} {σ : L2.St} {s : Shared} (I : Inv X pins σ H s) : ∀ (n : Nat) (d : PyData) (v : V) (u : Value), DpD X.K H n v d → RelV v u → ∃ as, Reads s.heap u d as ∧ sysModules ∉ as := by
  intro n
  induction n with
  | zero =>
    intro d v u h r
    cases h with
    | non => cases r; exact ⟨_, Reads.none, by simp⟩
    | bl _ b => cases r; exact ⟨_, Reads.bool b, by simp⟩
    | int _ i => obtain ⟨t, rfl⟩ := r; exact ⟨_, Reads.int i t, by simp⟩
    | str _ x => obtain ⟨t, rfl⟩ := r; exact ⟨_, Reads.str x t, by simp⟩
    | dct _ h =>
      cases r
      exact dct_reads I h
  | succ n ih =>
    intro d v u h r
    cases h with
    | non => cases r; exact ⟨_, Reads.none, by simp⟩
    | bl _ b => cases r; exact ⟨_, Reads.bool b, by simp⟩
    | int _ i => obtain ⟨t, rfl⟩ := r; exact ⟨_, Reads.int i t, by simp⟩
    | str _ x => obtain ⟨t, rfl⟩ := r; exact ⟨_, Reads.str x t, by simp⟩
    | dct _ h =>
      cases r
      exact dct_reads I h
    | tup _ hs hl ha =>
      cases r
      obtain ⟨its, rv, ⟨o, ho, hc, n', hd⟩, _⟩ := I.tuple hs
      have key : ∀ (xs : List V) (ds : List PyData) (us : List Value), ds.length = xs.length → Vals xs us → (∀ (i : Nat) (v : V) (d : PyData), xs[i]? = some v → ds[i]? = some d → DpD X.K H n v d) → ∃ as, ReadsAll s.heap us ds as ∧ sysModules ∉ as := by
        intro xs
        induction xs with
        | nil =>
          intro ds us hl rv ha
          have : ds = [] := List.length_eq_zero_iff.mp hl
          subst this
          cases rv
          exact ⟨_, ReadsAll.nil, by simp⟩
        | cons x xs ihx =>
          intro ds us hl rv ha
          cases ds with
          | nil => cases hl
          | cons d ds =>
            cases rv with
            | cons r1 r2 =>
              obtain ⟨as, q1, n1⟩ := ih d _ _ (ha 0 _ _ rfl rfl) r1
              obtain ⟨bs, q2, n2⟩ := ihx ds _ (by simpa using hl) r2 fun i v d h1 h2 => ha (i + 1) v d h1 h2
              exact ⟨_, ReadsAll.cons q1 q2, fun h => (List.mem_append.mp h).elim n1 n2⟩
      obtain ⟨as, hr, hn⟩ := key _ _ its hl rv ha
      exact ⟨_, Reads.tuple ho hc hd hr, hn⟩
theorem dpd_all {n : Nat} (ih : ∀ {d : D} {p : PyData} {v : V}, pdD M n d = some p → Rep Z φ H d v → DpD Z.K H n v p) :
    ∀ {l : List D} {ps : List PyData} {vs : List V}, pdDs M n l = some ps → Reps Z φ H l vs → ps.length = vs.length ∧ ∀ (i : Nat) (v : V) (d : PyData), vs[i]? = some v → ps[i]? = some d → DpD Z.K H n v d
  | [], _, _, e, h => by
    simp only [pdDs] at e
    cases e; cases (show _ = _ from h); exact ⟨rfl, fun i v d h => by simp at h⟩
  | a :: l, _, _, e, h => by
    obtain ⟨v, ws, rfl, r, h⟩ := h
    simp only [pdDs] at e
    split at e
    · next x hx =>
      split at e
      · next r' hr =>
        cases e
        obtain ⟨h1, h2⟩ := dpd_all ih hr h
        refine ⟨by simp [h1], fun i v d e1 e2 => ?_⟩
        cases i with
        | zero => cases e1; cases e2; exact ih hx r
        | succ i => exact h2 i v d e1 e2
      · cases e
    · cases e
theorem dpd_of (S : SR Z φ H M) : ∀ (n : Nat) {d : D} {p : PyData} {v : V}, pdD M n d = some p → Rep Z φ H d v → DpD Z.K H n v p
  | 0, _, _, _, e, _ => by simp [pdD] at e
  | n + 1, d, p, v, e, r => by
    cases d with
    | non => simp only [pdD] at e; cases e; cases r; exact .non _
    | bl b => simp only [pdD] at e; cases e; cases r; exact .bl _ b
    | int i => simp only [pdD] at e; cases e; cases r; exact .int _ i
    | str s => simp only [pdD] at e; cases e; cases r; exact .str _ _
    | tup l =>
      simp only [pdD] at e
      cases h : pdDs M n l with
      | none => rw [h] at e; cases e
      | some ps =>
        rw [h] at e; cases e
        obtain ⟨a, vs, rfl, q, r⟩ := r
        obtain ⟨h1, h2⟩ := dpd_all (dpd_of S n) h r
        exact .tup _ (tup_tuple q) h1 h2
    | ref k =>
      simp only [pdD] at e
      split at e
      · next hl =>
        cases e
        obtain ⟨a, vs, _, rfl, q, _⟩ := S.sd hl r
        refine .dct _ ?_
        rw [q]
        simp [skv]
      · cases e
    | _ => simp [pdD] at e
/-- flat data -/
def fpd : D → PyData
  | .bl b => .bool b
  | .int i => .int i
  | .str s => .str ⟨s.toArray⟩
  | _ => .none
theorem dp_flat {d : D} {v : V} (f : flat d = true) (r : Rep Z φ H d v) : Dp Z.K H v (fpd d) := by
  cases d <;> first | (cases r; constructor; done) | cases f
theorem str_beq (a b : S) : ((⟨a.toArray⟩ : Str) == ⟨b.toArray⟩) = (a == b) := by
  rw [Bool.eq_iff_iff]
  simp
end
section
variable {X : Cx} {Z : Zo} {E : XK}
theorem or_eqs (zK : Z.K = X.K) (hu : X.A.units + 64 < cLine) (pins : List (Addr × Obj)) (s : Shared) (σ : L2.St) (H : Hp) (x y : V) (v u : Value) (Q : VK) (I : Inv X pins σ H s) (rx : RelV x v) (ry : RelV y u)
    (φ : List Addr) (a b : D) (M : Hm) (S : SR Z φ H M) (ra : Rep Z φ H a x) (rb : Rep Z φ H b y) {k : Bool} (e : deq M a b = some k) :
    (Q (.bl k) H → wpAny (model X.prog X.w) X.A (compareOp .Eq v u) (EP X pins σ Q) X.xe s) ∧ (Q (.bl (!k)) H → wpAny (model X.prog X.w) X.A (compareOp .NotEq v u) (EP X pins σ Q) X.xe s) := by
  unfold deq at e
  by_cases hf : (flat a && flat b) = true
  · rw [if_pos hf] at e
    cases e
    rw [Bool.and_eq_true] at hf
    have key : scal x y = true → decide (x = y) = feq a b → (Q (.bl (feq a b)) H → wpAny (model X.prog X.w) X.A (compareOp .Eq v u) (EP X pins σ Q) X.xe s) ∧ (Q (.bl (!feq a b)) H → wpAny (model X.prog X.w) X.A (compareOp .NotEq v u) (EP X pins σ Q) X.xe s) := fun h1 h2 =>
      ⟨fun q => op_eq pins s σ H x y v u Q I rx ry ⟨h1, by rw [h2]; exact q⟩, fun q => op_ne pins s σ H x y v u Q I rx ry ⟨h1, by rw [h2]; exact q⟩⟩
    have deep : ∀ d e, Dp X.K H x d → Dp X.K H y e → SeqAt.shaped d = true → SeqAt.shaped e = true → PyData.eqv d e = feq a b → (Q (.bl (feq a b)) H → wpAny (model X.prog X.w) X.A (compareOp .Eq v u) (EP X pins σ Q) X.xe s) ∧ (Q (.bl (!feq a b)) H → wpAny (model X.prog X.w) X.A (compareOp .NotEq v u) (EP X pins σ Q) X.xe s) := fun d e h1 h2 h3 h4 h5 =>
      ⟨fun q => op_eqD hu pins s σ H x y v u Q I rx ry ⟨d, e, h1, h2, h3, h4, by rw [h5]; exact q⟩, fun q => op_neD hu pins s σ H x y v u Q I rx ry ⟨d, e, h1, h2, h3, h4, by rw [h5]; exact q⟩⟩
    cases a with
    | non =>
      cases ra
      cases b with
      | non => cases rb; exact key rfl rfl
      | bl j => cases rb; exact key rfl rfl
      | int j => cases rb; exact key rfl rfl
      | str j => cases rb; exact key rfl rfl
      | _ => exact absurd hf.2 Bool.false_ne_true
    | bl i =>
      cases ra
      cases b with
      | non => cases rb; exact key rfl rfl
      | bl j => cases rb; exact key rfl dec_bl
      | int j => cases rb; exact deep _ _ (.bl i) (.int j) rfl rfl rfl
      | str j => cases rb; exact key rfl rfl
      | _ => exact absurd hf.2 Bool.false_ne_true
    | int i =>
      cases ra
      cases b with
      | non => cases rb; exact key rfl rfl
      | bl j => cases rb; exact deep _ _ (.int i) (.bl j) rfl rfl rfl
      | int j => cases rb; exact key rfl dec_int
      | str j => cases rb; exact key rfl rfl
      | _ => exact absurd hf.2 Bool.false_ne_true
    | str i =>
      cases ra
      cases b with
      | non => cases rb; exact key rfl rfl
      | bl j => cases rb; exact key rfl rfl
      | int j => cases rb; exact key rfl rfl
      | str j => cases rb; exact key rfl (dec_str.trans (str_beq i j))
      | _ => exact absurd hf.2 Bool.false_ne_true
    | _ => exact absurd hf.1 Bool.false_ne_true
  · rw [if_neg hf] at e
    split at e
    · next p q hp hq =>
      split at e
      · next hs =>
        cases e
        rw [Bool.and_eq_true] at hs
        exact ⟨fun z => op_eqD hu pins s σ H x y v u Q I rx ry ⟨p, q, zK ▸ dp_of S _ hp ra, zK ▸ dp_of S _ hq rb, hs.1, hs.2, z⟩, fun z => op_neD hu pins s σ H x y v u Q I rx ry ⟨p, q, zK ▸ dp_of S _ hp ra, zK ▸ dp_of S _ hq rb, hs.1, hs.2, z⟩⟩
      · cases e
    · cases e
theorem or_eq (zK : Z.K = X.K) (hu : X.A.units + 64 < cLine) : OpR X (compareOp .Eq) (RB Z E (cmpop .eq)) := by
  intro pins s σ H x y v u Q I rx ry ⟨φ, a, b, M, S, ra, rb, o⟩
  simp only [cmpop, opt] at o
  split at o
  · next k hk => exact (or_eqs zK hu pins s σ H x y v u Q I rx ry φ a b M S ra rb hk).1 (o.here S rfl)
  · exact stuckE o
theorem or_ne (zK : Z.K = X.K) (hu : X.A.units + 64 < cLine) : OpR X (compareOp .NotEq) (RB Z E (cmpop .ne)) := by
  intro pins s σ H x y v u Q I rx ry ⟨φ, a, b, M, S, ra, rb, o⟩
  simp only [cmpop, opt] at o
  split at o
  · next k hk => exact (or_eqs zK hu pins s σ H x y v u Q I rx ry φ a b M S ra rb hk).2 (o.here S rfl)
  · exact stuckE o
theorem or_ord (op : Cop) (f : Int → Int → Bool) (py : CmpOp) (h0 : ∀ i j M, cmpop op (.int i) (.int j) M = .ok (.bl (f i j)) M) (h1 : ∀ a b M, (∀ i j, ¬ (a = D.int i ∧ b = D.int j)) → cmpop op a b M = .stuck)
    (hr : OpR X (compareOp py) (rI0 fun i j => .bl (f i j))) : OpR X (compareOp py) (RB Z E (cmpop op)) := by
  intro pins s σ H x y v u Q I rx ry ⟨φ, a, b, M, S, ra, rb, o⟩
  by_cases h : ∃ i j, a = D.int i ∧ b = D.int j
  · obtain ⟨i, j, rfl, rfl⟩ := h
    cases ra; cases rb
    rw [h0] at o
    exact hr pins s σ H _ _ v u Q I rx ry ⟨i, j, rfl, rfl, o.here S rfl⟩
  · rw [h1 a b M fun i j z => h ⟨i, j, z⟩] at o
    exact stuckE o
theorem or_lt : OpR X (compareOp .Lt) (RB Z E (cmpop .lt)) := or_ord _ (fun i j => decide (i < j)) _ (fun _ _ _ => rfl) (fun a b M h => by cases a <;> cases b <;> first | rfl | exact absurd ⟨rfl, rfl⟩ (h _ _)) op_lt
theorem or_le : OpR X (compareOp .LtE) (RB Z E (cmpop .le)) := or_ord _ (fun i j => decide (i ≤ j)) _ (fun _ _ _ => rfl) (fun a b M h => by cases a <;> cases b <;> first | rfl | exact absurd ⟨rfl, rfl⟩ (h _ _)) op_le
theorem or_gt : OpR X (compareOp .Gt) (RB Z E (cmpop .gt)) := or_ord _ (fun i j => decide (j < i)) _ (fun _ _ _ => rfl) (fun a b M h => by cases a <;> cases b <;> first | rfl | exact absurd ⟨rfl, rfl⟩ (h _ _)) op_gt
theorem or_ge : OpR X (compareOp .GtE) (RB Z E (cmpop .ge)) := or_ord _ (fun i j => decide (j ≤ i)) _ (fun _ _ _ => rfl) (fun a b M h => by cases a <;> cases b <;> first | rfl | exact absurd ⟨rfl, rfl⟩ (h _ _)) op_ge
theorem Rep.non_iff {φ : List Addr} {H : Hp} {a : D} {x : V} (r : Rep Z φ H a x) : decide (x = V.non) = decide (a = D.non) := by
  cases a with
  | tup l => obtain ⟨b, vs, rfl, _⟩ := r; simp
  | rol l => obtain ⟨b, vs, rfl, _⟩ := r; simp
  | ref n => obtain ⟨b, _, rfl⟩ := r; simp
  | rod ks l => obtain ⟨b, us, rfl, _⟩ := r; simp
  | bod t f => obtain ⟨b, _, _, rfl, _⟩ := r; simp
  | _ => cases r <;> simp
theorem or_is : OpR X (compareOp .Is) (RB Z E (cmpop .is)) := by
  intro pins s σ H x y v u Q I rx ry ⟨φ, a, b, M, S, ra, rb, o⟩
  cases b with
  | non =>
    cases rb
    simp only [cmpop] at o
    exact op_isN pins s σ H _ _ v u Q I rx ry ⟨rfl, by rw [ra.non_iff]; exact o.here S rfl⟩
  | bl b =>
    cases a with
    | bl a =>
      cases ra; cases rb
      simp only [cmpop] at o
      exact op_isBl pins s σ H _ _ v u Q I rx ry ⟨a, b, rfl, rfl, o.here S rfl⟩
    | _ => exact stuckE o
  | _ => cases a <;> exact stuckE o
theorem or_isnot : OpR X (compareOp .IsNot) (RB Z E (cmpop .isnot)) := by
  intro pins s σ H x y v u Q I rx ry ⟨φ, a, b, M, S, ra, rb, o⟩
  cases b with
  | non =>
    cases rb
    simp only [cmpop] at o
    exact op_notN pins s σ H _ _ v u Q I rx ry ⟨rfl, by rw [ra.non_iff]; exact o.here S rfl⟩
  | bl b =>
    cases a with
    | bl a =>
      cases ra; cases rb
      simp only [cmpop] at o
      exact op_notBl pins s σ H _ _ v u Q I rx ry ⟨a, b, rfl, rfl, o.here S rfl⟩
    | _ => exact stuckE o
  | _ => cases a <;> exact stuckE o
theorem flat_rep {φ : List Addr} {H : Hp} {a : D} {x : V} (r : Rep Z φ H a x) (f : flat a = true) : flatV x = true := by
  cases a <;> first | (cases r; rfl; done) | cases f
theorem eqV_rep {φ : List Addr} {H : Hp} {a b : D} {x y : V} (r : Rep Z φ H a x) (q : Rep Z φ H b y) (f : flat a = true) (g : flat b = true) : eqV x y = feq a b := by
  cases a with
  | non => cases r; cases b <;> first | (cases q; rfl; done) | exact absurd g Bool.false_ne_true
  | bl i => cases r; cases b <;> first | (cases q; rfl; done) | exact absurd g Bool.false_ne_true
  | int i => cases r; cases b <;> first | (cases q; rfl; done) | exact absurd g Bool.false_ne_true
  | str i => cases r; cases b <;> first | (cases q; exact str_beq _ _) | (cases q; rfl; done) | exact absurd g Bool.false_ne_true
  | _ => exact absurd f Bool.false_ne_true
theorem inV_rep {φ : List Addr} {H : Hp} {a : D} {x : V} (r : Rep Z φ H a x) (f : flat a = true) : ∀ {l : List D} {vs : List V}, Reps Z φ H l vs → l.all flat = true → vs.all flatV = true ∧ inV x vs = l.any fun z => feq z a
  | [], _, h, _ => by cases (show _ = _ from h); exact ⟨rfl, rfl⟩
  | d :: l, _, h, g => by
    obtain ⟨v, ws, rfl, p, h⟩ := h
    rw [List.all_cons, Bool.and_eq_true] at g
    obtain ⟨h1, h2⟩ := inV_rep r f h g.2
    refine ⟨by rw [List.all_cons, flat_rep p g.1, h1]; rfl, ?_⟩
    unfold inV at h2 ⊢
    rw [List.any_cons, List.any_cons, h2, eqV_rep p r g.1 f]
theorem or_in (zK : Z.K = X.K) : OpR X (compareOp .In) (RB Z E (cmpop .in)) := by
  intro pins s σ H x y v u Q I rx ry ⟨φ, a, b, M, S, ra, rb, o⟩
  have seqs : ∀ k, inQ M a b = some k → Q (.bl k) H → wpAny (model X.prog X.w) X.A (compareOp .In v u) (EP X pins σ Q) X.xe s := fun k hk q => by
    unfold inQ at hk
    split at hk
    · next l hl =>
      split at hk
      · next hf =>
        rw [Bool.and_eq_true] at hf
        cases hk
        obtain ⟨p, vs, rfl, hq, hr⟩ := S.seq hl rb
        obtain ⟨h1, h2⟩ := inV_rep ra hf.1 hr hf.2
        exact op_in_seq pins s σ H _ _ v u Q I rx ry ⟨p, vs, rfl, zK ▸ hq, flat_rep ra hf.1, h1, by rw [if_neg Bool.false_ne_true, h2]; exact q⟩
      · cases hk
    · cases hk
  cases b with
  | str z =>
    simp only [cmpop, opt] at o
    split at o
    · next k hk =>
      unfold inS at hk
      split at hk
      · next c =>
        cases hk; cases ra; cases rb
        exact op_in_sign pins s σ H _ _ v u Q I rx ry ⟨c, _, rfl, rfl, by simpa using o.here S rfl⟩
      · cases hk
    · exact stuckE o
  | _ =>
    simp only [cmpop, opt] at o
    split at o
    · next k hk => exact seqs k hk (o.here S rfl)
    · exact stuckE o
theorem or_notin (zK : Z.K = X.K) : OpR X (compareOp .NotIn) (RB Z E (cmpop .notin)) := by
  intro pins s σ H x y v u Q I rx ry ⟨φ, a, b, M, S, ra, rb, o⟩
  have seqs : ∀ k, inQ M a b = some k → Q (.bl (!k)) H → wpAny (model X.prog X.w) X.A (compareOp .NotIn v u) (EP X pins σ Q) X.xe s := fun k hk q => by
    unfold inQ at hk
    split at hk
    · next l hl =>
      split at hk
      · next hf =>
        rw [Bool.and_eq_true] at hf
        cases hk
        obtain ⟨p, vs, rfl, hq, hr⟩ := S.seq hl rb
        obtain ⟨h1, h2⟩ := inV_rep ra hf.1 hr hf.2
        exact op_notIn_seq pins s σ H _ _ v u Q I rx ry ⟨p, vs, rfl, zK ▸ hq, flat_rep ra hf.1, h1, by rw [if_pos rfl, h2]; exact q⟩
      · cases hk
    · cases hk
  cases b with
  | str z =>
    simp only [cmpop, opt] at o
    split at o
    · next k hk =>
      unfold inS at hk
      split at hk
      · next c =>
        cases hk; cases ra; cases rb
        exact op_notIn_sign pins s σ H _ _ v u Q I rx ry ⟨c, _, rfl, rfl, by simpa using o.here S rfl⟩
      · cases hk
    · exact stuckE o
  | _ =>
    simp only [cmpop, opt] at o
    split at o
    · next k hk => exact seqs k hk (o.here S rfl)
    · exact stuckE o
def Cop.py : Cop → CmpOp
  | .eq => .Eq | .ne => .NotEq | .lt => .Lt | .le => .LtE | .gt => .Gt | .ge => .GtE | .is => .Is | .isnot => .IsNot | .in => .In | .notin => .NotIn
theorem or_cmp (zK : Z.K = X.K) (hu : X.A.units + 64 < cLine) (op : Cop) : OpR X (compareOp op.py) (RB Z E (cmpop op)) := by
  cases op with
  | eq => exact or_eq zK hu
  | ne => exact or_ne zK hu
  | lt => exact or_lt
  | le => exact or_le
  | gt => exact or_gt
  | ge => exact or_ge
  | is => exact or_is
  | isnot => exact or_isnot
  | «in» => exact or_in zK
  | notin => exact or_notin zK
/-- a value's truth -/
theorem tr_truth (zK : Z.K = X.K) (pins : List (Addr × Obj)) (s : Shared) (σ : L2.St) (H : Hp) (x : V) (v : Value) (Q : Bool → Hp → Prop) (I : Inv X pins σ H s) (rx : RelV x v)
    (φ : List Addr) (a : D) (M : Hm) (S : SR Z φ H M) (ra : Rep Z φ H a x) {k : Bool} (e : truth M a = some k) (q : Q k H) : wpAny (model X.prog X.w) X.A (truthy v) (TP X pins σ Q) X.xe s := by
  refine tru_ok pins s σ H x v Q I rx ⟨k, ?_, q⟩
  cases a with
  | non => cases ra; cases e; rfl
  | bl b => cases ra; cases e; rfl
  | int i => cases ra; cases e; rfl
  | str z =>
    cases ra
    simp only [truth] at e
    split at e
    · next hl =>
      cases e
      refine ⟨by rw [strlen, ← LN_eq]; exact hl, ?_⟩
      rw [strlen]
      cases z with
      | nil => rfl
      | cons c z => simp [bne]; omega
    · cases e
  | tup l =>
    obtain ⟨b, vs, rfl, qt, r⟩ := ra
    cases e
    refine .inr (.inl ⟨vs, zK ▸ tup_tuple qt, ?_⟩)
    rw [Bool.eq_iff_iff]; simp [r.nil_iff]
  | rol l =>
    obtain ⟨b, vs, rfl, qt, r⟩ := ra
    cases e
    refine .inl ⟨vs, zK ▸ rol_list qt, ?_⟩
    rw [Bool.eq_iff_iff]; simp [r.nil_iff]
  | ref n =>
    simp only [truth] at e
    split at e
    · next l hl =>
      cases e
      obtain ⟨b, vs, _, rfl, p, r⟩ := S.lst hl ra
      refine .inl ⟨vs, .of p, ?_⟩
      rw [Bool.eq_iff_iff]; simp [r.nil_iff]
    · cases e
  | _ => cases e
end
end Rp

namespace Rp
open PySem PySem.Spec PyProof.Rows L2

/-! ## subscripts, slices, calls of built-ins by values -/
section
variable {Z : Zo} {φ : List Addr} {H : Hp} {M : Hm} {E : XK} {Q : VK} {X : Cx}
theorem ix_eq (n : Nat) (i : Int) : ix n i = ixN n i := rfl
theorem at_rep {l : List D} {vs : List V} {i : Int} {d : D} (h : Reps Z φ H l vs) (e : at? l i = some d) : ∃ v, atI vs i = some v ∧ Rep Z φ H d v := by
  unfold at? at e
  unfold atI
  rw [h.length, ← ix_eq]
  cases q : ix l.length i with
  | none => rw [q] at e; cases e
  | some j => rw [q] at e; exact h.get e
theorem cut_rep {l : List D} {vs : List V} (lo hi : Option Int) (h : Reps Z φ H l vs) : Reps Z φ H (cut l lo hi) (cutV vs lo hi) := by
  unfold cut cutV
  rw [h.length]
  exact (h.drop _).take _
theorem cut_all {l : List D} {lo hi : Option Int} (h1 : sx l.length 0 lo = 0) (h2 : sx l.length l.length hi = l.length) : cut l lo hi = l := by
  unfold cut
  rw [h1, h2]; simp
theorem rod_get {φ : List Addr} {H : Hp} {p : Addr} {s : S} {d : D} : ∀ {ks : List S} {l : List D} {us : List V}, RodOk Z p ks us → Reps Z φ H l us → rodGet ks l s = some d → ∃ u, KDct Z.K Z.w p ⟨s.toArray⟩ u ∧ Rep Z φ H d u
  | [], _, _, _, _, h => by simp [rodGet] at h
  | k :: ks, [], _, _, _, h => by simp [rodGet] at h
  | k :: ks, a :: l, [], q, _, _ => q.elim
  | k :: ks, a :: l, u :: us, q, r, h => by
    obtain ⟨v, ws, e, r1, r2⟩ := r
    obtain ⟨rfl, rfl⟩ := List.cons.inj e
    simp only [rodGet] at h
    split at h
    · next e => subst e; cases h; exact ⟨u, q.1, r1⟩
    · exact rod_get q.2 r2 h
theorem KDB.dict {K : PySem.W.Frag} {h : Heap} {P : Program} {w : World} {p : Addr} {t f : V} (KX : K.In h) (d : KDB K p t f) : ∃ u v, RelV t u ∧ RelV f v ∧ (p == sysModules) = false ∧ h.DictOf (bK P w) p [(true, u), (false, v)] := by
  obtain ⟨es, n, u, v, hl, he, r1, r2, hs⟩ := d
  refine ⟨u, v, r1, r2, hs, _, es, n, KX _ _ hl, ⟨rfl, rfl, rfl⟩, rfl, fun e hm => ?_, ?_, by simp⟩
  · have hm := Array.mem_toList_iff.mpr hm
    rw [he] at hm
    simp only [List.mem_cons, List.not_mem_nil, or_false] at hm
    rcases hm with rfl | rfl
    · exact ⟨true, rfl, rfl⟩
    · exact ⟨false, rfl, rfl⟩
  · rw [he]
    exact .cons rfl rfl (.cons rfl rfl .nil)
theorem KDB.kv {P : Program} {w : World} {t f : V} {u v : Value} (r1 : RelV t u) (r2 : RelV f v) : KV [(true, t), (false, f)] [(true, u), (false, v)] := .cons ⟨rfl, r1⟩ (.cons ⟨rfl, r2⟩ .nil)
theorem ix_boolK {X : Cx} : IxR X (fun x y H Q => ∃ p t f b, x = .ref p ∧ y = .bl b ∧ KDB X.K p t f ∧ Q (if b then t else f) H) := by
  intro value slice pins s σ H x y v u Q I rx ry h hs
  obtain ⟨p, t, f, b, rfl, rfl, d, q⟩ := h
  obtain rfl : v = Value.ref p := rx
  obtain ⟨u1, u2, r1, r2, hs1, dd⟩ := KDB.dict (P := X.prog) (w := X.w) I.kIn d
  cases b
  · exact tail_any dd.mapOf.typeIs PySem.F.slot_dict_getitem.lookup (wpAny_getItem_of (bK_is ry) dd.mapOf (show _ = some u2 from rfl) ⟨f, H, I.tok _, r2, q⟩) hs
  · exact tail_any dd.mapOf.typeIs PySem.F.slot_dict_getitem.lookup (wpAny_getItem_of (bK_is ry) dd.mapOf (show _ = some u1 from rfl) ⟨t, H, I.tok _, r1, q⟩) hs
theorem SR.bd (S : SR Z φ H M) {n : Nat} {t f : D} {v : V} (e : M[n]? = some (.bd t f)) (r : Rep Z φ H (.ref n) v) : ∃ a kvs x y, φ[n]? = some a ∧ v = .ref a ∧ H a = some (DicB Z.P Z.w a kvs) ∧ kvs.length = 2 ∧ valV kvs true = some x ∧ valV kvs false = some y ∧ Rep Z φ H t x ∧ Rep Z φ H f y := by
  obtain ⟨a, ha, rfl⟩ := r
  obtain ⟨b, hb, q⟩ := S.at' n _ e
  rw [ha] at hb; cases hb
  obtain ⟨kvs, x, y, p⟩ := q
  exact ⟨a, kvs, x, y, ha, rfl, p⟩
theorem skv_get {s : S} : ∀ {ks : List S} {l : List D} {vs : List V}, Reps Z φ H l vs → (∀ d, rodGet ks l s = some d → ∃ v, valV (skv ks vs) (Sum.inr ⟨s.toArray⟩) = some v ∧ Rep Z φ H d v) ∧ (rodGet ks l s = none → valV (skv ks vs) (Sum.inr ⟨s.toArray⟩) = none)
  | [], l, vs, _ => ⟨fun d h => by simp [rodGet] at h, fun _ => rfl⟩
  | k :: ks, [], vs, r => by cases (show _ = _ from r); exact ⟨fun d h => by simp [rodGet] at h, fun _ => rfl⟩
  | k :: ks, a :: l, _, r => by
    obtain ⟨v, ws, rfl, r1, r2⟩ := r
    obtain ⟨h1, h2⟩ := skv_get (s := s) (ks := ks) r2
    simp only [skv, rodGet]
    by_cases e : k = s
    · subst e
      rw [if_pos rfl, valV_pos rfl]
      exact ⟨fun d h => by cases h; exact ⟨v, rfl, r1⟩, fun h => by cases h⟩
    · rw [if_neg e, valV_neg (fun z => e (by
        have := congrArg Str.cps (Sum.inr.inj z)
        simpa using congrArg Array.toList this))]
      exact ⟨h1, h2⟩
theorem ix_dK {X : Cx} (hu : X.A.units + 1 < cLine) : IxR X (fun x y H Q => ∃ a v, x = .ref a ∧ DGet H a y (some v) ∧ Q v H) := by
  intro value slice pins s σ H x y v u Q I rx ry h hs
  obtain ⟨a, r, rfl, g, q⟩ := h
  obtain rfl : v = Value.ref a := rx
  exact tail_any (dict_typeIs I g) PySem.F.slot_dict_getitem.lookup (d_getItem hu I g ry fun w' s' I' rw' => ⟨r, H, I', rw', q⟩) hs
theorem ir_sub (zK : Z.K = X.K) (zW : Z.w = X.w) (zP : Z.P = X.prog) (hu : X.A.units + 1 < cLine) : IxR X (RB Z E subop) := by
  intro value slice pins s σ H x y v u Q I rx ry ⟨φ, a, b, M, S, ra, rb, o⟩ hs
  cases b with
  | int i =>
    cases rb
    have seqs : ∀ l, seq? M a = some l → ∀ d, at? l i = some d → Out Z (Rep Z) E φ H (.ok d M) Q → wpAny (model X.prog X.w) X.A (subscriptTail value slice v u) (EP X pins σ Q) X.xe s := fun l hl d hd o => by
      obtain ⟨p, vs, rfl, hq, hr⟩ := S.seq hl ra
      obtain ⟨w', h1, h2⟩ := at_rep hr hd
      rcases hq with hq | hq
      · exact ix_list value slice pins s σ H _ _ v u Q I rx ry ⟨p, vs, i, w', rfl, rfl, zK ▸ hq, h1, o.here S h2⟩ hs
      · exact ix_tup value slice pins s σ H _ _ v u Q I rx ry ⟨p, vs, i, w', rfl, rfl, zK ▸ hq, h1, o.here S h2⟩ hs
    cases a with
    | str z =>
      cases ra
      simp only [subop] at o
      split at o
      · next hl =>
        split at o
        · next c hc => exact ix_str value slice pins s σ H _ _ v u Q I rx ry ⟨_, i, c, rfl, rfl, by rw [strlen, ← LN_eq]; exact hl, by simpa [atI, at?, ix_eq] using hc, o.here S rfl⟩ hs
        · exact stuckE o
      · exact stuckE o
    | _ =>
      simp only [subop] at o
      split at o
      · next l hl =>
        split at o
        · next d hd => exact seqs l hl d hd o
        · exact stuckE o
      · exact stuckE o
  | str z =>
    cases a with
    | rod ks l =>
      simp only [subop] at o
      split at o
      · next d hd =>
        obtain ⟨p, us, rfl, hq, hr⟩ := id ra
        obtain ⟨w', h1, h2⟩ := rod_get hq hr hd
        cases rb
        exact ix_kdict value slice pins s σ H _ _ v u Q I rx ry ⟨p, _, w', rfl, rfl, zK ▸ zW ▸ h1, o.here S h2⟩ hs
      · exact stuckE o
    | ref n =>
      simp only [subop] at o
      split at o
      · next ks l hl =>
        split at o
        · next d hd =>
          obtain ⟨p, vs, _, rfl, hH, h1, h2, hr⟩ := S.sd hl ra
          cases rb
          obtain ⟨w', e1, e2⟩ := (skv_get hr).1 d hd
          exact ix_dK hu value slice pins s σ H _ _ v u Q I rx ry ⟨p, w', rfl, by rw [← e1]; exact DGet.k (k := Sum.inr _) hH, o.here S e2⟩ hs
        · exact stuckE o
      · exact stuckE o
    | _ => exact stuckE o
  | bl b =>
    cases rb
    cases a with
    | bod t f =>
      obtain ⟨p, x1, y1, rfl, hd, r1, r2⟩ := ra
      simp only [subop] at o
      refine ix_boolK value slice pins s σ H _ _ v u Q I rx ry ⟨p, x1, y1, b, rfl, rfl, zK ▸ hd, ?_⟩ hs
      cases b
      · exact o.here S r2
      · exact o.here S r1
    | ref n =>
      simp only [subop] at o
      split at o
      · next t f hl =>
        obtain ⟨p, kvs, x1, y1, _, rfl, hH, h1, h2, h3, r1, r2⟩ := S.bd hl ra
        rw [zP, zW] at hH
        cases b
        · exact ix_bool value slice pins s σ H _ _ v u Q I rx ry ⟨p, kvs, false, y1, rfl, rfl, hH, h3, o.here S r2⟩ hs
        · exact ix_bool value slice pins s σ H _ _ v u Q I rx ry ⟨p, kvs, true, x1, rfl, rfl, hH, h2, o.here S r1⟩ hs
      · exact stuckE o
    | _ => exact stuckE o
  | _ => cases a <;> exact stuckE o
def RS (Z : Zo) (E : XK) : V → Option Int → Option Int → Hp → VK → Prop := fun x lo hi H Q => ∃ φ a M, SR Z φ H M ∧ Rep Z φ H a x ∧ Out Z (Rep Z) E φ H (slop a lo hi M) Q
theorem sr_sl (zK : Z.K = X.K) : SlR X (RS Z E) := by
  intro pins s σ H x v vl vu lo hi sl Q I rx hs pl pu ⟨φ, a, M, S, ra, o⟩
  cases a with
  | str z =>
    cases ra
    simp only [slop] at o
    split at o
    · next hl =>
      refine sl_str pins s σ H _ v vl vu lo hi sl Q I rx hs pl pu ⟨_, rfl, by rw [strlen, ← LN_eq]; exact hl, ?_⟩
      have e : cutS ⟨z.toArray⟩ lo hi = ⟨(cut z lo hi).toArray⟩ := by unfold cutS cut; rw [strlen]; rfl
      rw [e]
      exact o.here S rfl
    · exact stuckE o
  | tup l =>
    obtain ⟨p, vs, rfl, hq, hr⟩ := id ra
    simp only [slop] at o
    refine sl_tupA pins s σ H _ v vl vu lo hi sl Q I rx hs pl pu ⟨p, vs, rfl, zK ▸ tup_tuple hq, fun ⟨h1, h2⟩ => ?_, fun _ => o.newT S (cut_rep lo hi hr)⟩
    rw [hr.length] at h1 h2
    rw [cut_all h1 h2] at o
    exact o.here S ra
  | ref n =>
    simp only [slop] at o
    split at o
    · next l hl =>
      obtain ⟨p, vs, _, rfl, hq, hr⟩ := S.lst hl ra
      exact sl_list pins s σ H _ v vl vu lo hi sl Q I rx hs pl pu ⟨p, vs, rfl, .of hq, o.newL S (cut_rep lo hi hr)⟩
    · exact stuckE o
  | rol l =>
    obtain ⟨p, vs, rfl, hq, hr⟩ := ra
    simp only [slop] at o
    exact sl_list pins s σ H _ v vl vu lo hi sl Q I rx hs pl pu ⟨p, vs, rfl, zK ▸ rol_list hq, o.newL S (cut_rep lo hi hr)⟩
  | _ => exact stuckE o
/-- lists of ints, of truth values, of texts -/
theorem ints_rep : ∀ {l : List D} {vs : List V} {ns : List Int}, Reps Z φ H l vs → ints? l = some ns → vs = ns.map V.int
  | [], _, _, h, e => by cases (show _ = _ from h); cases e; rfl
  | d :: l, _, _, h, e => by
    obtain ⟨v, ws, rfl, p, h⟩ := h
    cases d with
    | int i =>
      simp only [ints?] at e
      cases q : ints? l with
      | none => rw [q] at e; cases e
      | some r => rw [q] at e; cases e; cases p; rw [ints_rep h q]; rfl
    | _ => cases e
theorem bls_rep : ∀ {l : List D} {vs : List V} {ns : List Bool}, Reps Z φ H l vs → bls? l = some ns → vs = ns.map V.bl
  | [], _, _, h, e => by cases (show _ = _ from h); cases e; rfl
  | d :: l, _, _, h, e => by
    obtain ⟨v, ws, rfl, p, h⟩ := h
    cases d with
    | bl i =>
      simp only [bls?] at e
      cases q : bls? l with
      | none => rw [q] at e; cases e
      | some r => rw [q] at e; cases e; cases p; rw [bls_rep h q]; rfl
    | _ => cases e
def strV (l : List S) : List Str := l.map fun s => ⟨s.toArray⟩
theorem strs_rep : ∀ {l : List D} {vs : List V} {ns : List S}, Reps Z φ H l vs → strs? l = some ns → vs = (strV ns).map V.str
  | [], _, _, h, e => by cases (show _ = _ from h); cases e; rfl
  | d :: l, _, _, h, e => by
    obtain ⟨v, ws, rfl, p, h⟩ := h
    cases d with
    | str i =>
      simp only [strs?] at e
      cases q : strs? l with
      | none => rw [q] at e; cases e
      | some r => rw [q] at e; cases e; cases p; rw [strs_rep h q]; rfl
    | _ => cases e
theorem reps_strs : ∀ l : List S, Reps Z φ H (l.map .str) ((strV l).map V.str)
  | [] => rfl
  | s :: l => ⟨_, _, rfl, rfl, reps_strs l⟩
/-- two ascending arrangements are one -/
theorem perm_unique {α : Type} {r : α → α → Prop} (anti : ∀ a b, r a b → r b a → a = b) : ∀ {l m : List α}, l.Perm m → l.Pairwise r → m.Pairwise r → l = m
  | [], m, p, _, _ => by rw [List.nil_perm.mp p]
  | a :: l, m, p, hl, hm => by
    cases m with
    | nil => exact absurd p (by simp)
    | cons b m =>
      have hab : a = b := by
        by_cases e : a = b
        · exact e
        · have h1 : a ∈ m := by
            have := p.subset (List.mem_cons_self (a := a) (l := l))
            rcases List.mem_cons.mp this with z | z
            · exact absurd z e
            · exact z
          have h2 : b ∈ l := by
            have := p.symm.subset (List.mem_cons_self (a := b) (l := m))
            rcases List.mem_cons.mp this with z | z
            · exact absurd z.symm e
            · exact z
          exact anti a b (List.rel_of_pairwise_cons hl h2) (List.rel_of_pairwise_cons hm h1)
      subst hab
      rw [perm_unique anti (List.perm_cons a |>.mp p) hl.of_cons hm.of_cons]
def SLe (a b : S) : Prop := ¬ b < a
theorem sle_iff (a b : S) : sle a b = true ↔ SLe a b := by unfold sle SLe; simp
theorem SLe.anti (a b : S) (h : SLe a b) (g : SLe b a) : a = b := List.le_antisymm (List.not_lt.mp h) (List.not_lt.mp g)
theorem SLe.total (a b : S) : SLe a b ∨ SLe b a := by
  by_cases h : b < a
  · exact .inr fun q => absurd (List.lt_trans h q) (List.lt_irrefl _)
  · exact .inl h
theorem SLe.trans {a b c : S} (h : SLe a b) (g : SLe b c) : SLe a c := fun q => (List.not_lt.mpr (List.le_trans (List.not_lt.mp h) (List.not_lt.mp g))) q
theorem ssort_perm (l : List S) : (ssort l).Perm l := List.mergeSort_perm l sle
theorem ssort_pw (l : List S) : (ssort l).Pairwise SLe := by
  have := List.pairwise_mergeSort (le := sle) (fun a b c h g => (sle_iff _ _).mpr (((sle_iff _ _).mp h).trans ((sle_iff _ _).mp g))) (fun a b => by
    rcases SLe.total a b with h | h <;> simp [(sle_iff _ _).mpr h]) l
  exact this.imp fun h => (sle_iff _ _).mp h
theorem risingS_pw : ∀ (l : List S) (p : S), risingS ⟨p.toArray⟩ (strV l) = true → (p :: l).Pairwise SLe
  | [], p, _ => by simp
  | x :: l, p, h => by
    have h' : (!ltCps x p && risingS ⟨x.toArray⟩ (strV l)) = true := h
    rw [Bool.and_eq_true] at h'
    have hp : SLe p x := by have := h'.1; rw [ltCps_eq] at this; simpa [SLe] using this
    have ih := risingS_pw l x h'.2
    refine List.pairwise_cons.mpr ⟨fun z hz => ?_, ih⟩
    rcases List.mem_cons.mp hz with rfl | hz
    · exact hp
    · exact hp.trans (List.rel_of_pairwise_cons ih hz)
theorem ssort_unique {l m : List S} (p : m.Perm l) (h : m.Pairwise SLe) : m = ssort l := perm_unique SLe.anti (p.trans (ssort_perm l).symm) h (ssort_pw l)
theorem strV_inj : ∀ {l m : List S}, strV l = strV m → l = m
  | [], [], _ => rfl
  | [], _ :: _, h => by cases h
  | _ :: _, [], h => by cases h
  | a :: l, b :: m, h => by
    have h' := List.cons.inj h
    have e : a.toArray = b.toArray := Str.mk.inj h'.1
    rw [strV_inj h'.2, show a = b by simpa using e]
theorem strV_of (ys : List Str) : strV (ys.map fun y => y.cps.toList) = ys := by
  unfold strV
  rw [List.map_map]
  exact List.map_id'' (fun y => by simp) ys
theorem sorted_unique {l : List S} {ys : List Str} (p : ys.Perm (strV l)) (h : sortedS ys = true) : ys = strV (ssort l) := by
  obtain ⟨m, rfl⟩ : ∃ m, ys = strV m := ⟨_, (strV_of ys).symm⟩
  have pm : m.Perm l := by
    have := p.map (fun y : Str => y.cps.toList)
    simpa [strV, List.map_map, Function.comp_def] using this
  have hm : m.Pairwise SLe := by
    cases m with
    | nil => exact .nil
    | cons x r => exact risingS_pw r x h
  rw [ssort_unique pm hm]
theorem joined_eq (s : S) : ∀ l : List S, (Txt.join ⟨s.toArray⟩ (strV l)) = ⟨(joined s l).toArray⟩ := fun l => by
  rw [show Txt.join (⟨s.toArray⟩ : Str) (strV l) = Str.join ⟨s.toArray⟩ (strV l) from StrLaws.glued_eq_join _ _]
  induction l with
  | nil => rfl
  | cons a l ih =>
    cases l with
    | nil => rfl
    | cons b r =>
      show (⟨a.toArray⟩ : Str) ++ ⟨s.toArray⟩ ++ Str.join ⟨s.toArray⟩ (strV (b :: r)) = _
      rw [ih, toArr, toArr]
      rfl
end
end Rp

namespace Rp
open PySem PySem.Spec PyProof.Rows L2

section
variable {P : Program} {w : World} {A : Around} {E : Value → Shared → Prop} {s : Shared}
/-- the bare set, of one that is given -/
theorem code_new_set (x : Value) {Q₁ : Value → Shared → Prop}
    (h : Q₁ (.ref s.heap.objs.size) { s with heap := s.heap.push { cls := .type "set", dict := none, data := .set #[] 0 (.fresh 0 0 (!w.params.followText "set-order")) } }) :
    codeAny (model P w) A (.call (.builtin "set.__new__") ⟨[.type "set", x], []⟩) (wants Q₁ E) s := by
  refine codeAny_of_tree ?_
  show wpAny _ A.in1 (do checkBuiltinCall "set.__new__" ⟨[.type "set", x], []⟩; again (.builtin "set.__new__" ⟨[.type "set", x], []⟩)) _ _ s
  refine wpAny_bind (wpAny_of_eq (F.newCall_set_1 x) (wpAny_pure ⟨plainId_quiet F.plain_set_new _, codeAny_builtin F.entry_set_new ?_⟩))
  rw [Around.under_plainId F.plain_set_new _]
  unfold Builtin.«set.__new__» Builtin.Frozenset.newClass
  have hsub := sub_set_self
  obtain ⟨hp, g, d, tk, os⟩ := s
  dsimp only
  wp_walk
  refine wpAny_askSetting (wpAny_pure ?_)
  dsimp only
  simp only [newObj]
  refine wpAny_bind (wpAny_alloc (wpAny_pure ?_))
  exact wpAny_pure h
end
def dedT (l : List Str) : List Str := l.foldl addT []
theorem addT_len (l : List Str) (k : Str) : (addT l k).length ≤ l.length + 1 := by unfold addT; split <;> simp
theorem addT_mem {l : List Str} {k x : Str} : x ∈ addT l k ↔ x ∈ l ∨ x = k := by
  unfold addT
  split
  · next h => exact ⟨.inl, fun q => q.elim id fun e => e ▸ h⟩
  · simp
theorem addT_nodup {l : List Str} {k : Str} (h : l.Nodup) : (addT l k).Nodup := by
  unfold addT
  split
  · exact h
  · next hk => exact List.nodup_append.mpr ⟨h, by simp, fun x hx y hy e => hk (by rw [List.mem_singleton.mp hy] at e; exact e ▸ hx)⟩
theorem dedT_snoc (l : List Str) (k : Str) : dedT (l ++ [k]) = addT (dedT l) k := by unfold dedT; rw [List.foldl_append]; rfl
theorem fold_len : ∀ (l a : List Str), (l.foldl addT a).length ≤ a.length + l.length
  | [], a => by simp
  | k :: l, a => by
    have h1 := fold_len l (addT a k)
    have h2 := addT_len a k
    simp only [List.foldl_cons, List.length_cons]; omega
theorem dedT_len (l : List Str) : (dedT l).length ≤ l.length := by have := fold_len l []; simpa [dedT] using this
section
variable {prog : Program} {w : World} {A : Around} {R : Result → Shared → Prop} {I : Addr} {fp wr : List Addr} {G : Array GenState → Array GenState → Prop} {n : Nat} {P : Nat → Value → Prop} {St : Nat → Shared → Prop}
theorem loopSet (W : WalksS prog w A.in1 I fp wr G n P St) (S : Addr) (hSf : S ∉ fp) (xs : List Str) (hsz : xs.length = n) (hn1 : n + 1 < scanBound)
    (hval : ∀ i v, P i v → ∃ t, v = .str (xs.getD i Str.empty) t) :
    ∀ (k i : Nat) (s : Shared), n - i = k → i ≤ n → St i s → SetS w s.heap S (dedT (xs.take i)) →
      (∀ s', Moved (S :: wr) G s s' → SetS w s'.heap S (dedT xs) → R (.ok (.ret .none)) s') →
      codeAny (model prog w) A (.builtin "set.update.loop" ⟨[.ref S, .ref I], []⟩) R s := by
  have hSw : S ∉ wr := fun h => hSf (W.sub _ h)
  have hsub : ∀ b ∈ wr, b ∈ S :: wr := fun b hb => List.mem_cons_of_mem _ hb
  intro k
  induction k with
  | zero =>
    intro i s hk hi hst hS hR
    have hin : i = n := by omega
    subst hin
    refine codeAny_builtin PyProof.Rows.F.entry_set_update_loop ?_
    rw [Around.under_plainId PyProof.Rows.F.plain_set_update_loop _]
    show wpAny _ A.in1 (pyNext (.ref I) >>= _) _ _ s
    refine wpAny_bind (W.done s _ _ hst fun s' hm => ?_)
    show wpAny _ A.in1 (ret Value.none) _ _ s'
    exact wpAny_pure (hR s' (hm.mono hsub) (by
      rw [← hsz, List.take_length] at hS
      exact hS.at fun o => hm.heap S o hSw))
  | succ k ih =>
    intro i s hk hi hst hS hR
    have hlt : i < n := by omega
    refine codeAny_builtin PyProof.Rows.F.entry_set_update_loop ?_
    rw [Around.under_plainId PyProof.Rows.F.plain_set_update_loop _]
    show wpAny _ A.in1 (pyNext (.ref I) >>= _) _ _ s
    refine wpAny_bind (W.item i s _ _ hlt hst fun v s' hP hst' hm => ?_)
    obtain ⟨t, rfl⟩ := hval i v hP
    have hS' : SetS w s'.heap S (dedT (xs.take i)) := hS.at fun o => hm.heap S o hSw
    show wpAny _ A.in1 (holding [Value.str (xs.getD i Str.empty) t] (setAdd S (.str (xs.getD i Str.empty) t)) >>= _) _ _ s'
    refine wpAny_bind (wpAny_holding ?_)
    unfold setAdd
    refine wpAny_holding ?_
    refine wpAny_bind ((PySem.strKind prog w).pyHash (k := xs.getD i Str.empty) (strKind_is _ _ _ _) ?_)
    have hl1 := dedT_len (xs.take i)
    have hl2 : (xs.take i).length ≤ n := by rw [← hsz]; exact List.length_take_le' ..
    refine setS_add (P := prog) (s := { s' with toks := s'.toks + 1 }) hS' (by omega) fun b h' hsb hS2 => ?_
    have hx : xs.take (i + 1) = xs.take i ++ [xs.getD i Str.empty] := by
      rw [List.take_add_one, List.getElem?_eq_getElem (by rw [hsz]; exact hlt), List.getD_eq_getElem?_getD, List.getElem?_eq_getElem (by rw [hsz]; exact hlt)]; rfl
    rw [← dedT_snoc, ← hx] at hS2
    refine wpAny_pure ⟨plainId_quiet PyProof.Rows.F.plain_set_update_loop _, ih (i + 1) _ (by omega) hlt (W.frame _ s' _ _ hst' (Nat.le_succ _) fun b hb o e => ?_) hS2 fun s'' hm'' hS'' => ?_⟩
    · rw [hsb.2 b (fun h : b = S => hSf (by rw [← h]; exact hb))]; exact e
    · refine hR s'' (Moved.trans W.gtrans ((hm.mono hsub).then_heap (Nat.le_succ _) fun b o hb e => ?_) hm'') hS''
      rw [hsb.2 b (fun h : b = S => hb (by rw [h]; exact List.mem_cons_self))]; exact e
end
section
variable {prog : Program} {w : World} {A : Around} {E : Value → Shared → Prop} {s : Shared}
set_option maxHeartbeats 3200000 in
theorem call_set_list {l : Addr} {items : Array Value} {xs : List Str} {Q : Value → Shared → Prop}
    (hh : A.handled = none) (hl : s.heap.IsList l items) (hi : PyProof.Rows.StrsAre items.toList xs) (hn1 : xs.length + 1 < scanBound)
    (h : ∀ (h' : Heap) (tk : Nat), SetS w h' s.heap.objs.size (dedT xs) → (∀ b o, b < s.heap.objs.size → s.heap.get? b = some o → h'.get? b = some o) → Q (.ref s.heap.objs.size) { s with heap := h', toks := tk }) :
    wpAny (model prog w) A (call (.type "set") [.ref l]) Q E s := by
  obtain ⟨c, tl, hmro⟩ := PySem.F.called_set.mro
  have hmade := PySem.F.called_set.made
  have hsub := PySem.F.called_set.sub
  refine wpAny_call (codeAny_of_tree ?_)
  show wpAny _ _ (callAny (.type "set") _) _ _ _
  refine wpAny_pure ⟨Code.quiet_builtin _ (by decide +kernel), codeAny_builtin PySem.F.entry_type_call ?_⟩
  rw [Around.under_plain (weight_type_call_type "set" [.ref l] []) rfl]
  have h1 := PySem.F.called_set.notType
  have h2 := PySem.F.called_set.canCreate
  have hct := PySem.F.typeCall_set_1 (.ref l)
  repeat (any_goals (first | assumption | wp_step))
  obtain ⟨led, hledE⟩ : ∃ led, led = !w.params.followText "set-order" := ⟨_, rfl⟩
  refine codeAny_mono (code_new_set (.ref l) (E := E) (Q₁ := fun obj s₁ => obj = .ref s.heap.objs.size ∧ s₁ = { s with heap := s.heap.push { cls := .type "set", dict := none, data := .set #[] 0 (.fresh 0 0 led) } }) ⟨rfl, by rw [hledE]⟩) fun r s₁ hr => ?_
  cases r with
  | error e => exact hr
  | ok fl =>
    cases fl with
    | ret obj =>
      obtain ⟨rfl, rfl⟩ := hr
      have hS : (s.heap.push { cls := .type "set", dict := none, data := .set #[] 0 (.fresh 0 0 led) }).get? s.heap.objs.size = some { cls := .type "set", dict := none, data := .set #[] 0 (.fresh 0 0 led) } := Heap.get?_push_size _ rfl
      have hT : Shared.TypeIs { s with heap := s.heap.push { cls := .type "set", dict := none, data := .set #[] 0 (.fresh 0 0 led) } } (.ref s.heap.objs.size) "set" := ⟨_, hS, rfl⟩
      have hli := PySem.F.called_set.init.lookup
      have hbi := PySem.F.called_set.init.bind (.ref s.heap.objs.size)
      repeat (any_goals (first | assumption | wp_step))
      refine codeAny_mono (codeAny_call_builtin (R := wants (fun r s₂ => r = .none ∧ ∃ h' tk, s₂ = { s with heap := h', toks := tk } ∧ SetS w h' s.heap.objs.size (dedT xs) ∧
          (∀ b o, b < s.heap.objs.size → s.heap.get? b = some o → h'.get? b = some o)) E) PySem.F.called_set.init.plain PySem.F.entry_set_init (check_set_init_1 hT ?_)) fun r₂ s₂ hr₂ => ?_
      · obtain ⟨ol, hol, hcl, nl, hdl⟩ := hl
        obtain ⟨ocls, odict, odata, oslots⟩ := ol
        simp only at hcl hdl
        subst hcl; subst hdl
        have hol' : (s.heap.push { cls := .type "set", dict := none, data := .set #[] 0 (.fresh 0 0 led) }).get? l = some { cls := .type "list", dict := odict, data := .seq items nl, slots := oslots } := Heap.get?_push_of_some _ hol
        have hsls := PySem.F.sub_list_set
        have hslf := PySem.F.sub_list_frozenset
        have hne : (Value.type "list" == Value.type "dict") = false := by decide
        have hl1 : (s.heap.push { cls := .type "set", dict := none, data := .set #[] 0 (.fresh 0 0 led) }).IsList l items := ⟨_, hol', rfl, nl, rfl⟩
        unfold Builtin.«set.__init__» noKeywords Builtin.Frozenset.updateFrom
        generalize hPI : pyIter = PI
        wp_walk
        subst hPI
        refine wpAny_pyIter_list hl1 ?_
        refine wpAny_bind (wpAny_runValue ?_)
        have hlS : l < s.heap.objs.size := Heap.lt_size hol
        have hh3 : A.in1.in1.in1.handled = none := by simp [hh]
        have hneI : l ≠ (s.heap.push { cls := .type "set", dict := none, data := .set #[] 0 (.fresh 0 0 led) }).objs.size := by
          rw [Heap.size_push]; exact Nat.ne_of_lt (Nat.lt_succ_of_lt hlS)
        have hSf : s.heap.objs.size ∉ [(s.heap.push { cls := .type "set", dict := none, data := .set #[] 0 (.fresh 0 0 led) }).objs.size, l] := by
          rw [Heap.size_push]; simp only [List.mem_cons, List.mem_singleton, List.not_mem_nil, or_false, not_or]
          exact ⟨Nat.ne_of_lt (Nat.lt_succ_self _), Nat.ne_of_gt hlS⟩
        have hsz : xs.length = items.size := by rw [← StrsAre.len_eq hi, Array.length_toList]
        have hval : ∀ (i : Nat) (v : Value), items[i]? = some v → ∃ t, v = .str (xs.getD i Str.empty) t := fun i v hv => SS.strs_at hi i v (by rw [Array.getElem?_toList]; exact hv)
        refine loopSet ((Walks.list hh3 _ l hneI items).toS) s.heap.objs.size
          hSf xs hsz (by rw [← hsz]; exact hn1) hval (items.size - 0) 0 _ (by omega) (Nat.zero_le _)
          ⟨⟨_, Heap.get?_push_size _ rfl, rfl, rfl⟩, (hl1.push _)⟩ ?hS0 ?hR
        case hS0 =>
          have q := (setS_fresh (h := s.heap) w).at (h' := (s.heap.push { cls := .type "set", dict := none, data := .set #[] 0 (.fresh 0 0 led) }).push { cls := .type "list_iterator", data := .fields #[.ref l, .int 0 0] }) fun o e => Heap.get?_push_of_some _ (by rw [hledE]; exact e)
          exact q
        case hR =>
          intro s' hm hS'
          obtain ⟨h', g', d', tk', os'⟩ := s'
          have eg : g' = s.gens := hm.gens
          have ed : d' = s.drawn := hm.drawn
          have eo : os' = s.os := hm.os
          subst eg; subst ed; subst eo
          show wpAny _ _ _ _ _ _
          refine wpAny_pure ?_
          show wpAny _ _ (ret Value.none) _ _ _
          refine wpAny_pure ⟨rfl, h', tk', rfl, hS', fun b o hb e => ?_⟩
          have hb1 : b ≠ s.heap.objs.size := Nat.ne_of_lt hb
          have hb2 : b ≠ (s.heap.push { cls := .type "set", dict := none, data := .set #[] 0 (.fresh 0 0 led) }).objs.size := by
            rw [Heap.size_push]; exact Nat.ne_of_lt (Nat.lt_succ_of_lt hb)
          exact hm.heap b o (by simp only [List.mem_cons, List.mem_singleton, List.not_mem_nil, or_false, not_or]; exact ⟨hb1, hb2⟩) (Heap.get?_push_of_some _ (Heap.get?_push_of_some _ e))
      · cases r₂ with
        | error e => exact hr₂
        | ok fl₂ =>
          cases fl₂ with
          | ret r =>
            obtain ⟨rfl, h', tk, rfl, hS', hk'⟩ := hr₂
            repeat (any_goals (first | assumption | wp_step))
            exact h _ _ hS' hk'
          | _ => exact hr₂.elim
    | _ => exact hr.elim
end
end Rp

namespace Rp
open PySem PySem.Spec PyProof.Rows L2
section
variable {prog : Program} {w : World} {A : Around} {E : Value → Shared → Prop} {s : Shared}
set_option maxHeartbeats 3200000 in
theorem call_set_tuple {l : Addr} {items : Array Value} {xs : List Str} {Q : Value → Shared → Prop}
    (hh : A.handled = none) (hl : s.heap.IsTuple l items) (hi : PyProof.Rows.StrsAre items.toList xs) (hn1 : xs.length + 1 < scanBound)
    (h : ∀ (h' : Heap) (tk : Nat), SetS w h' s.heap.objs.size (dedT xs) → (∀ b o, b < s.heap.objs.size → s.heap.get? b = some o → h'.get? b = some o) → Q (.ref s.heap.objs.size) { s with heap := h', toks := tk }) :
    wpAny (model prog w) A (call (.type "set") [.ref l]) Q E s := by
  obtain ⟨c, tl, hmro⟩ := PySem.F.called_set.mro
  have hmade := PySem.F.called_set.made
  have hsub := PySem.F.called_set.sub
  refine wpAny_call (codeAny_of_tree ?_)
  show wpAny _ _ (callAny (.type "set") _) _ _ _
  refine wpAny_pure ⟨Code.quiet_builtin _ (by decide +kernel), codeAny_builtin PySem.F.entry_type_call ?_⟩
  rw [Around.under_plain (weight_type_call_type "set" [.ref l] []) rfl]
  have h1 := PySem.F.called_set.notType
  have h2 := PySem.F.called_set.canCreate
  have hct := PySem.F.typeCall_set_1 (.ref l)
  repeat (any_goals (first | assumption | wp_step))
  obtain ⟨led, hledE⟩ : ∃ led, led = !w.params.followText "set-order" := ⟨_, rfl⟩
  refine codeAny_mono (code_new_set (.ref l) (E := E) (Q₁ := fun obj s₁ => obj = .ref s.heap.objs.size ∧ s₁ = { s with heap := s.heap.push { cls := .type "set", dict := none, data := .set #[] 0 (.fresh 0 0 led) } }) ⟨rfl, by rw [hledE]⟩) fun r s₁ hr => ?_
  cases r with
  | error e => exact hr
  | ok fl =>
    cases fl with
    | ret obj =>
      obtain ⟨rfl, rfl⟩ := hr
      have hS : (s.heap.push { cls := .type "set", dict := none, data := .set #[] 0 (.fresh 0 0 led) }).get? s.heap.objs.size = some { cls := .type "set", dict := none, data := .set #[] 0 (.fresh 0 0 led) } := Heap.get?_push_size _ rfl
      have hT : Shared.TypeIs { s with heap := s.heap.push { cls := .type "set", dict := none, data := .set #[] 0 (.fresh 0 0 led) } } (.ref s.heap.objs.size) "set" := ⟨_, hS, rfl⟩
      have hli := PySem.F.called_set.init.lookup
      have hbi := PySem.F.called_set.init.bind (.ref s.heap.objs.size)
      repeat (any_goals (first | assumption | wp_step))
      refine codeAny_mono (codeAny_call_builtin (R := wants (fun r s₂ => r = .none ∧ ∃ h' tk, s₂ = { s with heap := h', toks := tk } ∧ SetS w h' s.heap.objs.size (dedT xs) ∧
          (∀ b o, b < s.heap.objs.size → s.heap.get? b = some o → h'.get? b = some o)) E) PySem.F.called_set.init.plain PySem.F.entry_set_init (check_set_init_1 hT ?_)) fun r₂ s₂ hr₂ => ?_
      · obtain ⟨ol, hol, hcl, nl, hdl⟩ := hl
        obtain ⟨ocls, odict, odata, oslots⟩ := ol
        simp only at hcl hdl
        subst hcl; subst hdl
        have hol' : (s.heap.push { cls := .type "set", dict := none, data := .set #[] 0 (.fresh 0 0 led) }).get? l = some { cls := .type "tuple", dict := odict, data := .seq items nl, slots := oslots } := Heap.get?_push_of_some _ hol
        have hsls := PySem.F.sub_tuple_set
        have hslf := PySem.F.sub_tuple_frozenset
        have hne : (Value.type "tuple" == Value.type "dict") = false := by decide
        have hl1 : (s.heap.push { cls := .type "set", dict := none, data := .set #[] 0 (.fresh 0 0 led) }).IsTuple l items := ⟨_, hol', rfl, nl, rfl⟩
        unfold Builtin.«set.__init__» noKeywords Builtin.Frozenset.updateFrom
        generalize hPI : pyIter = PI
        wp_walk
        subst hPI
        refine wpAny_pyIter_tuple hl1 ?_
        refine wpAny_bind (wpAny_runValue ?_)
        have hlS : l < s.heap.objs.size := Heap.lt_size hol
        have hh3 : A.in1.in1.in1.handled = none := by simp [hh]
        have hneI : l ≠ (s.heap.push { cls := .type "set", dict := none, data := .set #[] 0 (.fresh 0 0 led) }).objs.size := by
          rw [Heap.size_push]; exact Nat.ne_of_lt (Nat.lt_succ_of_lt hlS)
        have hSf : s.heap.objs.size ∉ [(s.heap.push { cls := .type "set", dict := none, data := .set #[] 0 (.fresh 0 0 led) }).objs.size, l] := by
          rw [Heap.size_push]; simp only [List.mem_cons, List.mem_singleton, List.not_mem_nil, or_false, not_or]
          exact ⟨Nat.ne_of_lt (Nat.lt_succ_self _), Nat.ne_of_gt hlS⟩
        have hsz : xs.length = items.size := by rw [← StrsAre.len_eq hi, Array.length_toList]
        have hval : ∀ (i : Nat) (v : Value), items[i]? = some v → ∃ t, v = .str (xs.getD i Str.empty) t := fun i v hv => SS.strs_at hi i v (by rw [Array.getElem?_toList]; exact hv)
        refine loopSet ((Walks.tuple hh3 _ l hneI items).toS) s.heap.objs.size
          hSf xs hsz (by rw [← hsz]; exact hn1) hval (items.size - 0) 0 _ (by omega) (Nat.zero_le _)
          ⟨⟨_, Heap.get?_push_size _ rfl, rfl, rfl⟩, (hl1.push _)⟩ ?hS0 ?hR
        case hS0 =>
          have q := (setS_fresh (h := s.heap) w).at (h' := (s.heap.push { cls := .type "set", dict := none, data := .set #[] 0 (.fresh 0 0 led) }).push { cls := .type "tuple_iterator", data := .fields #[.ref l, .int 0 0] }) fun o e => Heap.get?_push_of_some _ (by rw [hledE]; exact e)
          exact q
        case hR =>
          intro s' hm hS'
          obtain ⟨h', g', d', tk', os'⟩ := s'
          have eg : g' = s.gens := hm.gens
          have ed : d' = s.drawn := hm.drawn
          have eo : os' = s.os := hm.os
          subst eg; subst ed; subst eo
          show wpAny _ _ _ _ _ _
          refine wpAny_pure ?_
          show wpAny _ _ (ret Value.none) _ _ _
          refine wpAny_pure ⟨rfl, h', tk', rfl, hS', fun b o hb e => ?_⟩
          have hb1 : b ≠ s.heap.objs.size := Nat.ne_of_lt hb
          have hb2 : b ≠ (s.heap.push { cls := .type "set", dict := none, data := .set #[] 0 (.fresh 0 0 led) }).objs.size := by
            rw [Heap.size_push]; exact Nat.ne_of_lt (Nat.lt_succ_of_lt hb)
          exact hm.heap b o (by simp only [List.mem_cons, List.mem_singleton, List.not_mem_nil, or_false, not_or]; exact ⟨hb1, hb2⟩) (Heap.get?_push_of_some _ (Heap.get?_push_of_some _ e))
      · cases r₂ with
        | error e => exact hr₂
        | ok fl₂ =>
          cases fl₂ with
          | ret r =>
            obtain ⟨rfl, h', tk, rfl, hS', hk'⟩ := hr₂
            repeat (any_goals (first | assumption | wp_step))
            exact h _ _ hS' hk'
          | _ => exact hr₂.elim
    | _ => exact hr.elim
end
end Rp

namespace Rp
open PySem PySem.Spec PyProof.Rows L2

/-! ## built-ins and methods by values -/
section
variable {Z : Zo} {φ : List Addr} {H : Hp} {M : Hm} {E : XK} {Q : VK} {X : Cx}
theorem SR.lsq (S : SR Z φ H M) {d : D} {l : List D} {v : V} (e : lsq? M d = some l) (r : Rep Z φ H d v) : ∃ a vs, v = .ref a ∧ SqL Z.K H a vs ∧ Reps Z φ H l vs := by
  cases d with
  | rol x => cases e; obtain ⟨a, vs, rfl, q, r⟩ := r; exact ⟨a, vs, rfl, rol_list q, r⟩
  | ref n =>
    simp only [lsq?] at e
    split at e
    · next x h =>
      cases e
      obtain ⟨a, vs, _, rfl, p, q⟩ := S.lst h r
      exact ⟨a, vs, rfl, SqL.of p, q⟩
    · cases e
  | _ => cases e
/-- what a call asks -/
def RC (Z : Zo) (E : XK) (f : List D → Hm → R D) : List V → Hp → VK → Prop := fun vs H Q => ∃ φ l M, SR Z φ H M ∧ Reps Z φ H l vs ∧ Out Z (Rep Z) E φ H (f l M) Q
theorem imax_mem : ∀ (a : Int) (l : List Int), imax (a :: l) ∈ a :: l
  | a, [] => by simp [imax]
  | a, b :: l => by
    have := imax_mem b l
    simp only [imax]
    rw [Int.max_def]
    split
    · exact List.mem_cons_of_mem _ this
    · exact List.mem_cons_self
theorem imax_le : ∀ (a : Int) (l : List Int), ∀ y ∈ a :: l, y ≤ imax (a :: l)
  | a, [], y, h => by simp at h; subst h; simp [imax]
  | a, b :: l, y, h => by
    simp only [imax]
    rcases List.mem_cons.mp h with rfl | h
    · exact Int.le_max_left _ _
    · exact Int.le_trans (imax_le b l y h) (Int.le_max_right _ _)
theorem imin_mem : ∀ (a : Int) (l : List Int), imin (a :: l) ∈ a :: l
  | a, [] => by simp [imin]
  | a, b :: l => by
    have := imin_mem b l
    simp only [imin]
    rw [Int.min_def]
    split
    · exact List.mem_cons_self
    · exact List.mem_cons_of_mem _ this
theorem imin_le : ∀ (a : Int) (l : List Int), ∀ y ∈ a :: l, imin (a :: l) ≤ y
  | a, [], y, h => by simp at h; subst h; simp [imin]
  | a, b :: l, y, h => by
    simp only [imin]
    rcases List.mem_cons.mp h with rfl | h
    · exact Int.min_le_left _ _
    · exact Int.le_trans (Int.min_le_right _ _) (imin_le b l y h)
/-- the largest, the least, by what it is -/
theorem ismax {a m : Int} {l : List Int} (h1 : m ∈ a :: l) (h2 : ∀ y, y ∈ a :: l → y ≤ m) : m = imax (a :: l) := Int.le_antisymm (imax_le a l m h1) (h2 _ (imax_mem a l))
theorem ismin {a m : Int} {l : List Int} (h1 : m ∈ a :: l) (h2 : ∀ y, y ∈ a :: l → m ≤ y) : m = imin (a :: l) := Int.le_antisymm (h2 _ (imin_mem a l)) (imin_le a l m h1)
theorem strTo (x : Str) : (⟨x.cps.toList.toArray⟩ : Str) = x := by simp
theorem Rep.str_of {x : Str} : Rep Z φ H (.str x.cps.toList) (.str x) := by show V.str x = V.str _; rw [strTo]
/-- the built-in a name stands for -/
def Bi.py : Bi → Value
  | .len => .builtin "len" | .abs => .builtin "abs" | .min => .builtin "min" | .max => .builtin "max" | .sum => .builtin "sum" | .all => .builtin "all" | .any => .builtin "any" | .sorted => .builtin "sorted"
  | .set => .type "set" | .list => .type "list" | .tuple => .type "tuple" | .str => .type "str" | .int => .type "int" | .bool => .type "bool" | .repr => .builtin "repr" | .reprd => .builtin "repr" | .listx => .type "list" | .divmod => .builtin "divmod" | .dict => .type "dict"
/-- a built-in of one value, of two -/
def C1 (Z : Zo) (E : XK) (X : Cx) (b : Bi) : Prop := ∀ (pins : List (Addr × Obj)) (s : Shared) (σ : L2.St) (H : Hp) (v : V) (us : List Value) (Q : VK), Inv X pins σ H s → Vals [v] us →
  ∀ (φ : List Addr) (d : D) (M : Hm), SR Z φ H M → Rep Z φ H d v → Out Z (Rep Z) E φ H (b1 b d M) Q → wpAny (model X.prog X.w) X.A (call b.py us) (EP X pins σ Q) X.xe s
def C2 (Z : Zo) (E : XK) (X : Cx) (b : Bi) : Prop := ∀ (pins : List (Addr × Obj)) (s : Shared) (σ : L2.St) (H : Hp) (v w' : V) (us : List Value) (Q : VK), Inv X pins σ H s → Vals [v, w'] us →
  ∀ (φ : List Addr) (d e : D) (M : Hm), SR Z φ H M → Rep Z φ H d v → Rep Z φ H e w' → Out Z (Rep Z) E φ H (b2 b d e M) Q → wpAny (model X.prog X.w) X.A (call b.py us) (EP X pins σ Q) X.xe s
theorem rc_of {b : Bi} (h1 : C1 Z E X b) (h2 : C2 Z E X b) : CallR X b.py (RC Z E (biop b)) := by
  intro pins s σ H vs us Q I r ⟨φ, l, M, S, rs, o⟩
  match l, rs, o with
  | [d], rs, o =>
    obtain ⟨v, rfl, rd⟩ := rs.one
    exact h1 pins s σ H v us Q I r φ d M S rd o
  | [d, e], rs, o =>
    obtain ⟨v, w', rfl, rd, re⟩ := rs.two
    exact h2 pins s σ H v w' us Q I r φ d e M S rd re o
  | [], rs, o => exact stuckE o
  | _ :: _ :: _ :: _, rs, o => exact stuckE o
theorem cb_len (zK : Z.K = X.K) (zW : Z.w = X.w) : C1 Z E X .len := fun pins s σ H v us Q I r φ d M S rd o => by
  have o' : Out Z (Rep Z) E φ H (fLen d M) Q := o
  cases d with
  | str z =>
    cases rd
    simp only [fLen] at o'
    split at o'
    · next hl => exact call_len_str pins s σ H _ us Q I r ⟨_, rfl, by rw [strlen, ← LN_eq]; exact hl, by rw [strlen]; exact o'.here S rfl⟩
    · exact stuckE o'
  | tup l =>
    obtain ⟨a, ws, rfl, q, rr⟩ := rd
    exact call_len_seq pins s σ H _ us Q I r ⟨a, ws, rfl, .inr (zK ▸ tup_tuple q), by rw [rr.length]; exact o'.here S rfl⟩
  | rol l =>
    obtain ⟨a, ws, rfl, q, rr⟩ := rd
    exact call_len_seq pins s σ H _ us Q I r ⟨a, ws, rfl, .inl (zK ▸ rol_list q), by rw [rr.length]; exact o'.here S rfl⟩
  | ref n =>
    simp only [fLen] at o'
    split at o'
    · next l hl =>
      obtain ⟨a, ws, _, rfl, q, rr⟩ := S.lst hl rd
      exact call_len_seq pins s σ H _ us Q I r ⟨a, ws, rfl, .inl (.of q), by rw [rr.length]; exact o'.here S rfl⟩
    · next l hl =>
      obtain ⟨a, ha, z, p, rfl⟩ := S.at' _ _ hl
      obtain ⟨_, ha', rfl⟩ := rd
      rw [ha] at ha'; cases ha'
      rw [Vals.ref1 r]
      refine len_setS (P := X.prog) (setSO_get I (by rw [← zW]; exact p)) ⟨.int z.length, H, I.tok _, ⟨_, rfl⟩, ?_⟩
      rw [List.length_map] at o'
      exact o'.here S rfl
    · exact stuckE o'
  | _ => exact stuckE o'
theorem cb_abs : C1 Z E X .abs := fun pins s σ H v us Q I r φ d M S rd o => by
  have o' : Out Z (Rep Z) E φ H (fAbs d M) Q := o
  cases d with
  | int i => cases rd; exact call_abs pins s σ H _ us Q I r ⟨i, rfl, o'.here S rfl⟩
  | _ => exact stuckE o'
theorem cb_max (zK : Z.K = X.K) (hc : X.calm = true) : C1 Z E X .max := fun pins s σ H v us Q I r φ d M S rd o => by
  have o' : Out Z (Rep Z) E φ H (fMax d M) Q := o
  unfold fMax at o'
  cases q : lsq? M d with
  | none => rw [q] at o'; exact stuckE o'
  | some l =>
    obtain ⟨a, ws, rfl, q2, rr⟩ := S.lsq q rd
    rw [q, Option.bind_some] at o'
    cases q3 : ints? l with
    | none => rw [q3] at o'; exact stuckE o'
    | some ns =>
      rw [q3] at o'
      have := ints_rep rr q3
      subst this
      cases ns with
      | nil => exact stuckE o'
      | cons n ns => exact cr_max hc pins s σ H _ us Q I r ⟨a, n :: ns, rfl, zK ▸ q2, by simp, fun m h1 h2 => by rw [ismax h1 h2]; exact o'.here S rfl⟩
theorem cb_min (zK : Z.K = X.K) (hc : X.calm = true) : C1 Z E X .min := fun pins s σ H v us Q I r φ d M S rd o => by
  have o' : Out Z (Rep Z) E φ H (fMin d M) Q := o
  unfold fMin at o'
  cases q : lsq? M d with
  | none => rw [q] at o'; exact stuckE o'
  | some l =>
    obtain ⟨a, ws, rfl, q2, rr⟩ := S.lsq q rd
    rw [q, Option.bind_some] at o'
    cases q3 : ints? l with
    | none => rw [q3] at o'; exact stuckE o'
    | some ns =>
      rw [q3] at o'
      have := ints_rep rr q3
      subst this
      cases ns with
      | nil => exact stuckE o'
      | cons n ns => exact cr_min hc pins s σ H _ us Q I r ⟨a, n :: ns, rfl, zK ▸ q2, by simp, fun m h1 h2 => by rw [ismin h1 h2]; exact o'.here S rfl⟩
theorem cb_sum (zK : Z.K = X.K) (hc : X.calm = true) : C1 Z E X .sum := fun pins s σ H v us Q I r φ d M S rd o => by
  have o' : Out Z (Rep Z) E φ H (fSum d M) Q := o
  unfold fSum at o'
  cases q : lsq? M d with
  | none => rw [q] at o'; exact stuckE o'
  | some l =>
    obtain ⟨a, ws, rfl, q2, rr⟩ := S.lsq q rd
    rw [q, Option.bind_some] at o'
    cases q3 : ints? l with
    | none => rw [q3] at o'; exact stuckE o'
    | some ns =>
      rw [q3] at o'
      have := ints_rep rr q3
      subst this
      exact cr_sum hc pins s σ H _ us Q I r ⟨a, ns, rfl, zK ▸ q2, o'.here S rfl⟩
theorem cb_all (zK : Z.K = X.K) (hc : X.calm = true) : C1 Z E X .all := fun pins s σ H v us Q I r φ d M S rd o => by
  have o' : Out Z (Rep Z) E φ H (fAll d M) Q := o
  unfold fAll at o'
  cases q : lsq? M d with
  | none => rw [q] at o'; exact stuckE o'
  | some l =>
    obtain ⟨a, ws, rfl, q2, rr⟩ := S.lsq q rd
    rw [q, Option.bind_some] at o'
    cases q3 : bls? l with
    | none => rw [q3] at o'; exact stuckE o'
    | some ns =>
      rw [q3] at o'
      have := bls_rep rr q3
      subst this
      exact cr_all hc pins s σ H _ us Q I r ⟨a, ns, rfl, zK ▸ q2, o'.here S rfl⟩
theorem cb_any (zK : Z.K = X.K) (hc : X.calm = true) : C1 Z E X .any := fun pins s σ H v us Q I r φ d M S rd o => by
  have o' : Out Z (Rep Z) E φ H (fAny d M) Q := o
  unfold fAny at o'
  cases q : lsq? M d with
  | none => rw [q] at o'; exact stuckE o'
  | some l =>
    obtain ⟨a, ws, rfl, q2, rr⟩ := S.lsq q rd
    rw [q, Option.bind_some] at o'
    cases q3 : bls? l with
    | none => rw [q3] at o'; exact stuckE o'
    | some ns =>
      rw [q3] at o'
      have := bls_rep rr q3
      subst this
      exact cr_any hc pins s σ H _ us Q I r ⟨a, ns, rfl, zK ▸ q2, o'.here S rfl⟩
theorem cb_max2 (hc : X.calm = true) : C2 Z E X .max := fun pins s σ H v w' us Q I r φ d e M S rd re o => by
  have o' : Out Z (Rep Z) E φ H (fMax2 d e M) Q := o
  cases d with
  | int i => cases e with
    | int j => cases rd; cases re; exact call_max2 hc pins s σ H _ us Q I r ⟨i, j, rfl, o'.here S rfl⟩
    | _ => exact stuckE o'
  | _ => exact stuckE o'
theorem cb_min2 (hc : X.calm = true) : C2 Z E X .min := fun pins s σ H v w' us Q I r φ d e M S rd re o => by
  have o' : Out Z (Rep Z) E φ H (fMin2 d e M) Q := o
  cases d with
  | int i => cases e with
    | int j => cases rd; cases re; exact call_min2 hc pins s σ H _ us Q I r ⟨i, j, rfl, o'.here S rfl⟩
    | _ => exact stuckE o'
  | _ => exact stuckE o'
theorem strV_length (l : List S) : (strV l).length = l.length := by simp [strV]
theorem cb_sorted (zK : Z.K = X.K) (zW : Z.w = X.w) (hc : X.calm = true) : C1 Z E X .sorted := fun pins s σ H v us Q I r φ d M S rd o => by
  have o' : Out Z (Rep Z) E φ H (fSorted d M) Q := o
  unfold fSorted at o'
  cases d with
  | ref n =>
    simp only [bag?] at o'
    cases q : M[n]? with
    | none => rw [q] at o'; exact stuckE o'
    | some ob =>
      cases ob with
      | lst l =>
        rw [q] at o'
        simp only [Option.bind_some] at o'
        obtain ⟨a, ws, _, rfl, q2, rr⟩ := S.lst q rd
        split at o'
        · next z hz =>
          split at o'
          · next h64 =>
            have := strs_rep rr hz
            subst this
            refine cr_sortedS pins s σ H _ us Q I r ⟨a, strV z, rfl, .of q2, by rw [strV_length]; exact h64, fun ys p hp hs hn => ?_⟩
            rw [sorted_unique hp hs]
            exact o'.newL S (reps_strs _) p hn
          · exact stuckE o'
        · exact stuckE o'
      | set l =>
        rw [q] at o'
        simp only [Option.bind_some] at o'
        obtain ⟨a, ha, z, p, rfl⟩ := S.at' _ _ q
        obtain ⟨_, ha', rfl⟩ := rd
        rw [ha] at ha'; cases ha'
        have hz : strs? (z.map fun x : Str => D.str x.cps.toList) = some (z.map fun x => x.cps.toList) := by
          clear p q o'
          induction z with
          | nil => rfl
          | cons x z ih => simp only [List.map_cons, strs?, ih]; rfl
        simp only [hz] at o'
        split at o'
        · next h64 =>
          rw [List.length_map] at h64
          rw [Vals.ref1 r]
          refine sorted_setS (P := X.prog) (setSO_get I (by rw [← zW]; exact p)) (I.ok.hd hc) h64 fun s' b out c ss k gn eo hb hg hi hs hm => ?_
          have hss : ss = strV (ssort (z.map fun x => x.cps.toList)) := sorted_unique (by rw [strV_of]; exact hs) hm
          have hlen : (ss.map V.str).length ≤ sizeLine := by rw [List.length_map, hs.length_eq, sizeLine_eq]; omega
          have hn : H b = none := I.hok.fresh hb
          have J : Inv X pins σ (upd H b (.lst (ss.map V.str))) { s with heap := s'.heap, gens := s'.gens, drawn := s'.drawn, toks := s'.toks } :=
            I.call (ch := []) (Un.laid k hb hn) (I.hok.laid k hb ⟨hlen, out.toList, c, vals_of_strs hi, hg⟩) (by rw [gn]; exact I.bare) (fun _ y => nomatch y)
          have e : s' = { s with heap := s'.heap, gens := s'.gens, drawn := s'.drawn, toks := s'.toks } := by
            cases s'
            cases s
            cases eo
            rfl
          rw [e]
          refine ⟨.ref b, _, J, rfl, ?_⟩
          rw [hss]
          exact o'.newL S (reps_strs _) b hn
        · exact stuckE o'
      | _ => rw [q] at o'; exact stuckE o'
  | _ => exact stuckE o'
theorem nodup_foldl (l : List S) : ∀ a : List S, a.Nodup → (l.foldl (fun a x => if x ∈ a then a else a ++ [x]) a).Nodup := by
  induction l with
  | nil => intro a h; exact h
  | cons x l ih =>
    intro a h
    refine ih _ ?_
    show (if x ∈ a then a else a ++ [x]).Nodup
    split
    · exact h
    · next hx => exact List.nodup_append.mpr ⟨h, by simp, fun y hy z hz e => hx (by rw [List.mem_singleton.mp hz] at e; exact e ▸ hy)⟩
theorem dedup_nodup (l : List S) : (dedup l).Nodup := nodup_foldl l [] List.nodup_nil
theorem mem_foldl (x : S) (l : List S) : ∀ a : List S, x ∈ (l.foldl (fun a x => if x ∈ a then a else a ++ [x]) a) ↔ x ∈ a ∨ x ∈ l := by
  induction l with
  | nil => intro a; simp
  | cons y l ih =>
    intro a
    rw [List.foldl_cons, ih]
    split
    · next h => simp only [List.mem_cons]; exact ⟨fun q => q.elim .inl fun q => .inr (.inr q), fun q => q.elim .inl fun q => q.elim (fun e => .inl (e ▸ h)) .inr⟩
    · simp only [List.mem_append, List.mem_cons, List.mem_nil_iff, or_false]; exact ⟨fun q => q.elim (fun q => q.elim .inl fun e => .inr (.inl e)) fun q => .inr (.inr q), fun q => q.elim (fun q => .inl (.inl q)) fun q => q.elim (fun e => .inl (.inr e)) .inr⟩
theorem dedup_mem {x : S} {l : List S} : x ∈ dedup l ↔ x ∈ l := by unfold dedup; rw [mem_foldl]; simp
theorem dedT_nodup (l : List Str) : (dedT l).Nodup := by
  have key : ∀ (l a : List Str), a.Nodup → (l.foldl addT a).Nodup := by
    intro l
    induction l with
    | nil => intro a h; exact h
    | cons x l ih => intro a h; exact ih _ (addT_nodup h)
  exact key l [] List.nodup_nil
theorem dedT_mem {x : Str} {l : List Str} : x ∈ dedT l ↔ x ∈ l := by
  have key : ∀ (l a : List Str), x ∈ l.foldl addT a ↔ x ∈ a ∨ x ∈ l := by
    intro l
    induction l with
    | nil => intro a; simp
    | cons y l ih => intro a; rw [List.foldl_cons, ih, addT_mem, List.mem_cons]; exact ⟨fun q => q.elim (fun q => q.elim .inl fun e => .inr (.inl e)) fun q => .inr (.inr q), fun q => q.elim (fun q => .inl (.inl q)) fun q => q.elim (fun e => .inl (.inr e)) .inr⟩
  unfold dedT; rw [key]; simp
theorem strV_mem {x : S} {l : List S} : (⟨x.toArray⟩ : Str) ∈ strV l ↔ x ∈ l := by
  unfold strV
  rw [List.mem_map]
  exact ⟨fun ⟨y, hy, e⟩ => by have e' : y.toArray = x.toArray := Str.mk.inj e; rw [show x = y by simpa using e'.symm]; exact hy, fun h => ⟨x, h, rfl⟩⟩
theorem strV_nodup {l : List S} (h : l.Nodup) : (strV l).Nodup := by
  induction l with
  | nil => exact List.nodup_nil
  | cons x l ih =>
    obtain ⟨h1, h2⟩ := List.nodup_cons.mp h
    exact List.nodup_cons.mpr ⟨fun z => h1 (strV_mem.mp z), ih h2⟩
theorem ded_perm (l : List S) : (dedT (strV l)).Perm (strV (dedup l)) := by
  refine (List.perm_ext_iff_of_nodup (dedT_nodup _) (strV_nodup (dedup_nodup l))).mpr fun x => ?_
  obtain ⟨y, rfl⟩ : ∃ y : S, x = ⟨y.toArray⟩ := ⟨x.cps.toList, (strTo x).symm⟩
  rw [dedT_mem, strV_mem, strV_mem, dedup_mem]
theorem strV_back (l : List S) : (strV l).map (fun x => D.str x.cps.toList) = l.map D.str := by unfold strV; rw [List.map_map]; exact List.map_congr_left fun x _ => by simp
theorem cb_set (zK : Z.K = X.K) (zW : Z.w = X.w) (hc : X.calm = true) : C1 Z E X .set := fun pins s σ H v us Q I r φ d M S rd o => by
  have o' : Out Z (Rep Z) E φ H (fSet d M) Q := o
  unfold fSet at o'
  cases q : seq? M d with
  | none => rw [q] at o'; exact stuckE o'
  | some l =>
    rw [q] at o'
    simp only [Option.bind_some] at o'
    obtain ⟨a, ws, rfl, hq, rr⟩ := S.seq q rd
    split at o'
    · next z hz =>
      split at o'
      · next hb =>
        have := strs_rep rr hz
        subst this
        rw [Vals.ref1 r]
        have fin : ∀ (h' : Heap) (tk : Nat), SetS X.w h' s.heap.objs.size (dedT (strV z)) → (∀ b o, b < s.heap.objs.size → s.heap.get? b = some o → h'.get? b = some o) → EP X pins σ Q (.ref s.heap.objs.size) { s with heap := h', toks := tk } := fun h' tk R kp => by
          have R' := R.perm (ded_perm z)
          have hn : H s.heap.objs.size = none := I.hok.fresh (Nat.le_refl _)
          refine ⟨.ref s.heap.objs.size, upd H s.heap.objs.size (SetSO X.w s.heap.objs.size (strV (dedup z))), I.laid (t' := tk) (fun b u e => kp b u (Heap.lt_size e) e) (Nat.le_refl _) (setSO_new R'), rfl, ?_⟩
          exact o'.new S hn fun st => ⟨strV (dedup z), by rw [upd_same, zW], by rw [strV_back]⟩
        have hlen : (strV z).length = z.length := by simp [strV]
        have hb' : (strV z).length + 1 < scanBound := by rw [hlen]; have : scanBound = 4096 := rfl; rw [this]; omega
        rcases hq with hq | hq
        · obtain ⟨its, rv, pl, _⟩ := I.list (zK ▸ hq)
          exact call_set_list (I.ok.hd hc) pl.isList (by simpa using rv.strs) hb' fin
        · obtain ⟨its, rv, pl, _⟩ := I.tuple (zK ▸ hq)
          exact call_set_tuple (I.ok.hd hc) pl (by simpa using rv.strs) hb' fin
      · exact stuckE o'
    · exact stuckE o'
theorem cb_list (zK : Z.K = X.K) : C1 Z E X .list := fun pins s σ H v us Q I r φ d M S rd o => by
  have o' : Out Z (Rep Z) E φ H (fList d M) Q := o
  unfold fList at o'
  split at o'
  · next l hl =>
    obtain ⟨a, ws, rfl, q, rr⟩ := S.seq hl rd
    exact call_list_of pins s σ H _ us Q I r ⟨a, ws, rfl, zK ▸ q, o'.newL S rr⟩
  · exact stuckE o'
theorem call_listS {X : Cx} (hc : X.calm = true) : CallR X (.type "list") (fun xs H Q => ∃ x : Str, xs = [.str x] ∧ x.length ≤ sizeLine ∧ ∀ l, H l = none → Q (.ref l) (upd H l (.lst (x.cps.toList.map fun c => V.str ⟨#[c]⟩)))) := by
  intro pins s σ H xs us Q I r h
  obtain ⟨x, rfl, hz, q⟩ := h
  obtain ⟨u, rfl, rx⟩ := vals1 r
  obtain ⟨t, rfl⟩ := rx
  refine call_list_str (I.ok.hd hc) x t (hn := hz) fun h' tk acc' c' kp e hi => ?_
  have hv : Vals (x.cps.toList.map fun c => V.str ⟨#[c]⟩) acc'.toList := by
    refine vals_of_idx _ _ (by simp [hi.1]) fun j w e2 => ?_
    obtain ⟨c, t', hc', rfl⟩ := hi.2 j w (by simpa using e2)
    have : x.cps.toList[j]? = some c := by simpa using hc'
    exact ⟨.str ⟨#[c]⟩, by rw [List.getElem?_map, this]; rfl, t', rfl⟩
  exact ⟨.ref s.heap.objs.size, _, I.laid (t' := tk) (o := .lst (x.cps.toList.map fun c => V.str ⟨#[c]⟩)) kp (Nat.le_refl _) (show ObjOk X.prog X.w _ h' _ (.lst _) from ⟨by rw [List.length_map, Array.length_toList]; exact hz, acc'.toList, c', hv, e⟩), rfl, q _ (I.hok.fresh (Nat.le_refl _))⟩
theorem cb_listx (zK : Z.K = X.K) (hc : X.calm = true) : C1 Z E X .listx := fun pins s σ H v us Q I r φ d M S rd o => by
  have o' : Out Z (Rep Z) E φ H (fListX d M) Q := o
  cases d with
  | str z =>
    cases rd
    simp only [fListX] at o'
    split at o'
    · next hl =>
      refine call_listS hc pins s σ H _ us Q I r ⟨_, rfl, by rw [strlen, ← LN_eq]; exact hl, ?_⟩
      refine o'.newL S ?_
      have : ∀ z : List Nat, Reps Z φ H (z.map fun c => D.str [c]) (z.map fun c => V.str ⟨#[c]⟩) := fun z => by
        induction z with
        | nil => exact .nil
        | cons c z ih => exact .cons rfl ih
      exact this z
    · exact stuckE o'
  | _ => exact cb_list zK pins s σ H v us Q I r φ _ M S rd o
theorem cb_tuple (zK : Z.K = X.K) : C1 Z E X .tuple := fun pins s σ H v us Q I r φ d M S rd o => by
  have o' : Out Z (Rep Z) E φ H (fTuple d M) Q := o
  unfold fTuple at o'
  cases d with
  | tup l =>
    obtain ⟨a, ws, rfl, q, rr⟩ := id rd
    exact call_tupleT pins s σ H _ us Q I r ⟨a, ws, rfl, zK ▸ tup_tuple q, o'.here S rd⟩
  | rol l =>
    obtain ⟨a, ws, rfl, q, rr⟩ := id rd
    exact call_tuple_of pins s σ H _ us Q I r ⟨a, ws, rfl, .inl ⟨zK ▸ rol_list q, o'.newT S rr⟩⟩
  | ref n =>
    simp only [seq?] at o'
    cases q : M[n]? with
    | none => rw [q] at o'; exact stuckE o'
    | some ob =>
      cases ob with
      | lst l =>
        rw [q] at o'
        obtain ⟨a, ws, _, rfl, q2, rr⟩ := S.lst q rd
        exact call_tuple_of pins s σ H _ us Q I r ⟨a, ws, rfl, .inl ⟨.of q2, o'.newT S rr⟩⟩
      | _ => rw [q] at o'; exact stuckE o'
  | _ => exact stuckE o'
theorem cb_str : C1 Z E X .str := fun pins s σ H v us Q I r φ d M S rd o => by
  have o' : Out Z (Rep Z) E φ H (fStr d M) Q := o
  cases d with
  | int i =>
    cases rd
    simp only [fStr] at o'
    split at o'
    · next hl => exact call_str_int pins s σ H _ us Q I r ⟨i, rfl, hl, o'.here S Rep.str_of⟩
    · exact stuckE o'
  | _ => exact stuckE o'
theorem cb_int : C1 Z E X .int := fun pins s σ H v us Q I r φ d M S rd o => by
  have o' : Out Z (Rep Z) E φ H (fInt d M) Q := o
  cases d with
  | int i => cases rd; exact call_int1 pins s σ H _ us Q I r (.inl ⟨i, rfl, o'.here S rfl⟩)
  | bl i => cases rd; exact call_int1 pins s σ H _ us Q I r (.inr ⟨i, rfl, o'.here S rfl⟩)
  | _ => exact stuckE o'
theorem cb_divmod2 : C2 Z E X .divmod := fun pins s σ H v w' us Q I r φ d e M S rd re o => by
  have o' : Out Z (Rep Z) E φ H (fDivmod d e M) Q := o
  cases d with
  | int i => cases e with
    | int j =>
      cases rd; cases re
      simp only [fDivmod] at o'
      split at o'
      · next hl => exact call_divmodW pins s σ H _ us Q I r ⟨i, j, rfl, ⟨hl.1, PyProof.noPylong_of_log2 hl.2⟩, o'.newT S (.cons rfl (.cons rfl rfl))⟩
      · exact stuckE o'
    | _ => exact stuckE o'
  | _ => exact stuckE o'
/-- the text of data -/
theorem repr_pd (hu : X.A.units + 80 < cLine) (hg : X.A.guards = some []) {pins : List (Addr × Obj)} {s : Shared} {σ : L2.St} (I : Inv X pins σ H s) {v : V} {u : Value} (rv : RelV v u) {p : PyData} (dp : Dp X.K H v p)
    (h1 : SeqAt.shaped p = true) (h2 : p.showable = true) (h3 : p.shown.length ≤ sizeLine) (q : Q (.str p.shown) H) : wpAny (model X.prog X.w) X.A (call (.builtin "repr") [u]) (EP X pins σ Q) X.xe s := by
  obtain ⟨as, rd⟩ := Dp.reads I p v u dp rv
  have hd := PyData.hasDict_of_canLay p (SeqAt.canLay_of_shaped h1)
  have hdep := SeqAt.depth_of_shaped h1
  have fin : ∀ h' t tk, (∀ b o, s.heap.get? b = some o → h'.get? b = some o) → EP X pins σ Q (.str p.shown t) { s with heap := h', toks := tk } := fun h' t tk k => ⟨.str _, H, I.kept k, ⟨t, rfl⟩, q⟩
  cases dp with
  | non => cases rv; exact PySem.P.repr_of_none (fin _ _ _ fun _ _ e => e)
  | bl b => cases rv; exact PySem.P.repr_of_bool (fin _ _ _ fun _ _ e => e)
  | int i => obtain ⟨t, rfl⟩ := rv; exact PySem.P.repr_of_int (of_decide_eq_true h2) (fin _ _ _ fun _ _ e => e)
  | str x => obtain ⟨t, rfl⟩ := rv; exact PySem.P.repr_of_str (fin _ _ _ fun _ _ e => e) h3
  | lst h g => cases rv; exact repr_of_reads' rd h2 (PyData.noDict_hsm hd) hg (by omega) (fun _ _ e => e) (fun h' u tk k => fin h' u tk k) h3
  | tup h g => cases rv; exact repr_of_reads' rd h2 (PyData.noDict_hsm hd) hg (by omega) (fun _ _ e => e) (fun h' u tk k => fin h' u tk k) h3
theorem cb_repr (zK : Z.K = X.K) (hu : X.A.units + 80 < cLine) (hg : X.A.guards = some []) : C1 Z E X .repr := fun pins s σ H v us Q I r φ d M S rd o => by
  have o' : Out Z (Rep Z) E φ H (fRepr d M) Q := o
  unfold fRepr at o'
  split at o'
  · next p hp =>
    split at o'
    · next hs =>
      rw [Bool.and_eq_true, Bool.and_eq_true] at hs
      obtain ⟨u, rfl, ru⟩ := r.one
      exact repr_pd hu hg I ru (zK ▸ dp_of S _ hp rd) hs.1.1 hs.1.2 (by rw [← LN_eq]; exact of_decide_eq_true hs.2) (o'.here S Rep.str_of)
    · exact stuckE o'
  · exact stuckE o'
theorem repr_pdD (hu : X.A.units + 80 < cLine) (hg : X.A.guards = some []) {pins : List (Addr × Obj)} {s : Shared} {σ : L2.St} (I : Inv X pins σ H s) {v : V} {u : Value} (rv : RelV v u) {p : PyData} {n : Nat} (dp : DpD X.K H n v p)
    (h1 : p.depth ≤ 64) (h2 : p.showable = true) (h3 : p.shown.length ≤ sizeLine) (q : Q (.str p.shown) H) : wpAny (model X.prog X.w) X.A (call (.builtin "repr") [u]) (EP X pins σ Q) X.xe s := by
  obtain ⟨as, rd, hns⟩ := DpD.reads I n p v u dp rv
  have fin : ∀ h' t tk, (∀ b o, s.heap.get? b = some o → h'.get? b = some o) → EP X pins σ Q (.str p.shown t) { s with heap := h', toks := tk } := fun h' t tk k => ⟨.str _, H, I.kept k, ⟨t, rfl⟩, q⟩
  cases dp with
  | non => cases rv; exact PySem.P.repr_of_none (fin _ _ _ fun _ _ e => e)
  | bl _ b => cases rv; exact PySem.P.repr_of_bool (fin _ _ _ fun _ _ e => e)
  | int _ i => obtain ⟨t, rfl⟩ := rv; exact PySem.P.repr_of_int (of_decide_eq_true h2) (fin _ _ _ fun _ _ e => e)
  | str _ x => obtain ⟨t, rfl⟩ := rv; exact PySem.P.repr_of_str (fin _ _ _ fun _ _ e => e) h3
  | tup _ h g g' => cases rv; exact repr_of_reads' rd h2 (fun _ => hns) hg (by omega) (fun _ _ e => e) (fun h' u tk k => fin h' u tk k) h3
  | dct _ h => cases rv; exact repr_of_reads' rd h2 (fun _ => hns) hg (by omega) (fun _ _ e => e) (fun h' u tk k => fin h' u tk k) h3
theorem cb_reprd (zK : Z.K = X.K) (hu : X.A.units + 80 < cLine) (hg : X.A.guards = some []) : C1 Z E X .reprd := fun pins s σ H v us Q I r φ d M S rd o => by
  have o' : Out Z (Rep Z) E φ H (fReprD d M) Q := o
  unfold fReprD at o'
  obtain ⟨u, rfl, ru⟩ := r.one
  have key : ∀ p, pdX M d = some p → p.showable = true → p.shown.length ≤ sizeLine → Q (.str p.shown) H → wpAny (model X.prog X.w) X.A (call (.builtin "repr") [u]) (EP X pins σ Q) X.xe s := fun p hx h2 h3 q => by
    unfold pdX at hx
    split at hx
    · split at hx
      · next p' hq =>
        split at hx
        · next hs => cases hx; exact repr_pdD hu hg I ru (zK ▸ dpd_of S _ hq rd) hs h2 h3 q
        · cases hx
      · cases hx
    · split at hx
      · next p' hp =>
        split at hx
        · next hs => cases hx; exact repr_pd hu hg I ru (zK ▸ dp_of S _ hp rd) hs h2 h3 q
        · cases hx
      · cases hx
  cases hx : pdX M d with
  | none => rw [hx] at o'; exact stuckE o'
  | some p =>
    simp only [hx] at o'
    split at o'
    · next h2 =>
      rw [Bool.and_eq_true] at h2
      exact key p hx h2.1 (by rw [← LN_eq]; exact of_decide_eq_true h2.2) (o'.here S Rep.str_of)
    · exact stuckE o'
theorem no1 {b : Bi} (h : ∀ d M, b1 b d M = .stuck) : C1 Z E X b := fun pins s σ H v us Q I r φ d M S rd o => by rw [h] at o; exact stuckE o
theorem no2 {b : Bi} (h : ∀ d e M, b2 b d e M = .stuck) : C2 Z E X b := fun pins s σ H v w' us Q I r φ d e M S rd re o => by rw [h] at o; exact stuckE o
theorem cb_dict (zK : Z.K = X.K) (zP : Z.P = X.prog) (zW : Z.w = X.w) : C1 Z E X .dict := fun pins s σ H v us Q I r φ d M S rd o => by
  have o' : Out Z (Rep Z) E φ H (fDict d M) Q := o
  have fin : ∀ (kvs : List (Bool × V)) (x1 y1 : V) (t f : D), kvs.length = 2 → valV kvs true = some x1 → valV kvs false = some y1 → Rep Z φ H t x1 → Rep Z φ H f y1 → Out Z (Rep Z) E φ H (new (.bd t f) M) Q →
      ∀ p, H p = none → Q (.ref p) (upd H p (DicB X.prog X.w p kvs)) := fun kvs x1 y1 t f h1 h2 h3 r1 r2 o p n =>
    o.new S n fun st => ⟨kvs, x1, y1, by rw [upd_same, zP, zW], h1, h2, h3, r1.step st, r2.step st⟩
  unfold fDict at o'
  cases d with
  | bod t f =>
    obtain ⟨p, x1, y1, rfl, hd, r1, r2⟩ := rd
    rw [Vals.ref1 r]
    obtain ⟨u1, u2, ru1, ru2, hs1, dd⟩ := KDB.dict (P := X.prog) (w := X.w) I.kIn (zK ▸ hd)
    refine kt_call_dict hs1 dd (by rw [sizeLine_eq]; simp) fun h' dd' hs => ?_
    refine ⟨.ref s.heap.objs.size, _, I.laid (a := s.heap.objs.size) (o := DicB X.prog X.w s.heap.objs.size [(true, x1), (false, y1)]) (t' := s.toks) (fun b q hq => ?_) (Nat.le_refl _) (dicB_new (by simp) (beq_eq_false_iff_ne.mpr (Ne.symm (Nat.ne_of_lt I.big))) (KDB.kv (P := X.prog) (w := X.w) ru1 ru2) dd'), rfl,
      fin _ _ _ _ _ rfl rfl rfl r1 r2 o' _ (I.hok.fresh (Nat.le_refl _))⟩
    exact (hs.2 b (Nat.ne_of_lt (Heap.lt_size hq))).trans (Heap.get?_push_of_some _ hq)
  | ref n =>
    simp only at o'
    split at o'
    · next t f hl =>
      obtain ⟨a, kvs, x1, y1, _, rfl, hH, h1, h2, h3, r1, r2⟩ := S.bd hl rd
      rw [Vals.ref1 r]
      rw [zP, zW] at hH
      exact bd_copyOf I hH fun p s' n I' => ⟨.ref p, _, I', rfl, fin _ _ _ _ _ h1 h2 h3 r1 r2 o' p n⟩
    · exact stuckE o'
  | _ => exact stuckE o'
/-- what is proved of sets -/
theorem cb_bi (zP : Z.P = X.prog) (zK : Z.K = X.K) (hc : X.calm = true) (hu : X.A.units + 80 < cLine) (hg : X.A.guards = some []) (zW : Z.w = X.w) (b : Bi) : CallR X b.py (RC Z E (biop b)) := by
  cases b with
  | len => exact rc_of (cb_len zK zW) (no2 fun _ _ _ => rfl)
  | abs => exact rc_of cb_abs (no2 fun _ _ _ => rfl)
  | min => exact rc_of (cb_min zK hc) (cb_min2 hc)
  | max => exact rc_of (cb_max zK hc) (cb_max2 hc)
  | sum => exact rc_of (cb_sum zK hc) (no2 fun _ _ _ => rfl)
  | all => exact rc_of (cb_all zK hc) (no2 fun _ _ _ => rfl)
  | any => exact rc_of (cb_any zK hc) (no2 fun _ _ _ => rfl)
  | sorted => exact rc_of (cb_sorted zK zW hc) (no2 fun _ _ _ => rfl)
  | set => exact rc_of (cb_set zK zW hc) (no2 fun _ _ _ => rfl)
  | list => exact rc_of (cb_list zK) (no2 fun _ _ _ => rfl)
  | tuple => exact rc_of (cb_tuple zK) (no2 fun _ _ _ => rfl)
  | str => exact rc_of cb_str (no2 fun _ _ _ => rfl)
  | int => exact rc_of cb_int (no2 fun _ _ _ => rfl)
  | bool => exact rc_of (no1 fun _ _ => rfl) (no2 fun _ _ _ => rfl)
  | repr => exact rc_of (cb_repr zK hu hg) (no2 fun _ _ _ => rfl)
  | reprd => exact rc_of (cb_reprd zK hu hg) (no2 fun _ _ _ => rfl)
  | listx => exact rc_of (cb_listx zK hc) (no2 fun _ _ _ => rfl)
  | divmod => exact rc_of (no1 fun _ _ => rfl) cb_divmod2
  | dict => exact rc_of (cb_dict zK zP zW) (no2 fun _ _ _ => rfl)
end
end Rp

namespace Rp
open PySem PySem.Spec PyProof.Rows L2

/-! ## is this term that text? -/
def st (x : String) : Str := Str.ofString x
def TY : List String := ["str", "int", "bool", "tuple", "list", "dict"]
def vis (sc : Scope) (x : Str) : Bool := match sc.names.lookup x with | some .local => true | some .cell => true | some .free => true | _ => false
def loc (sc : Scope) (x : Str) : Bool := match sc.names.lookup x with | some .local => true | some .cell => true | _ => false
def glo (sc : Scope) (x : Str) : Bool := match sc.names.lookup x with | some .globalImplicit => true | _ => false
def plainN (x : Str) : Bool := x != st "__debug__" && x != st "__classdict__" && x != st "__name__"
def isName (sc : Scope) (n : String) (e : Expr) : Bool := match e with | .Name y _ => y == st n && glo sc y && plainN y | _ => false
def Bi.nm : Bi → String
  | .len => "len" | .abs => "abs" | .min => "min" | .max => "max" | .sum => "sum" | .all => "all" | .any => "any" | .sorted => "sorted"
  | .set => "set" | .list => "list" | .tuple => "tuple" | .str => "str" | .int => "int" | .bool => "bool" | .repr => "repr" | .reprd => "repr" | .listx => "list" | .divmod => "divmod" | .dict => "dict"
def BLT : List String := ["len", "abs", "min", "max", "sum", "all", "any", "sorted", "set", "list", "tuple", "str", "int", "bool", "repr", "divmod", "dict", "isinstance", "range", "enumerate", "zip"]
def Me.nm : Me → String
  | .append => "append" | .extend => "extend" | .join => "join" | .index => "index" | .count => "count" | .get => "get" | .pop => "pop" | .split => "split" | .partition => "partition" | .keys => "keys" | .values => "values" | .items => "items"
/-- no f() -/
def notCall0 (e : Expr) : Bool := match e with | .Call (.Name _ _) [] [] _ => false | _ => true
def kwNames (l : List Keyword) : List (Option Str) := l.map (·.arg)
def Bop.same (o : Bop) (q : Operator) : Bool := match o, q with
  | .add, .Add => true | .sub, .Sub => true | .mul, .Mult => true | .fdiv, .FloorDiv => true | .mod, .Mod => true | .pow, .Pow => true | .band, .BitAnd => true | .bor, .BitOr => true | .shr, .RShift => true | _, _ => false
def Cop.same (o : Cop) (q : CmpOp) : Bool := match o, q with
  | .eq, .Eq => true | .ne, .NotEq => true | .lt, .Lt => true | .le, .LtE => true | .gt, .Gt => true | .ge, .GtE => true | .is, .Is => true | .isnot, .IsNot => true | .in, .In => true | .notin, .NotIn => true | _, _ => false
def tyNames (sc : Scope) : List String → List Expr → Bool
  | [], [] => true
  | t :: ts, e :: es => isName sc t e && decide (t ∈ TY) && tyNames sc ts es
  | _, _ => false
def nodupB : List Nat → Bool
  | [] => true
  | a :: l => !l.contains a && nodupB l
/-- a comprehension's own names -/
def blkB (N : List Str) (sc scope : Scope) (own : List Nat) : Bool :=
  (match scope.kind with | .function => true | _ => false) &&
  scope.names.all (fun y => match scope.names.lookup y.1, y.2 with | some .local, .local => true | some .cell, .cell => true | some .free, .free => true | some .globalImplicit, .globalImplicit => true | _, _ => false) &&
  own.all (fun i => decide (i < N.length)) &&
  scope.names.all (fun y => match y.2 with
    | .free => (match sc.names.lookup y.1 with | some .cell => true | some .free => true | _ => false)
    | .local => own.any (fun i => decide (N[i]? = some y.1)) || !N.contains y.1
    | .cell => own.any (fun i => decide (N[i]? = some y.1)) || !N.contains y.1
    | _ => true)
/-- what stands behind the first of an and, of an or -/
def boolRest (op : BoolOp) (b : Expr) (r : List Expr) (p : Pos) : Expr := match r with
  | [] => b
  | r => .BoolOp op (b :: r) p
/-- written texts as keys -/
def keysB : List S → List (Option Expr) → Bool
  | [], [] => true
  | k :: ks, some (.Constant (.str c) _ _) :: es => k == c.cps.toList && keysB ks es
  | _, _ => false
section
variable (N : List Str)
mutual
def ckE (sc : Scope) : Ex → Expr → Bool
  | .non, e => match e with | .Constant .none _ _ => true | _ => false
  | .bl b, e => match e with | .Constant (.bool c) _ _ => b == c | _ => false
  | .int i, e => match e with | .Constant (.int c) _ _ => i == c | _ => false
  | .str s, e => match e with | .Constant (.str c) _ _ => s == c.cps.toList | _ => false
  | .var i, e => match e with | .Name y _ => decide (N[i]? = some y) && vis sc y && plainN y | _ => false
  | .glo x, e => isName sc x e
  | .bin op a b, e => match e with | .BinOp a' o b' _ => op.same o && ckE sc a a' && ckE sc b b' | _ => false
  | .neg a, e => match e with | .UnaryOp .USub a' _ => ckE sc a a' | _ => false
  | .not a, e => match e with | .UnaryOp .Not a' _ => ckE sc a a' | _ => false
  | .cmp op a b, e => match e with | .Compare a' [o] [b'] _ => op.same o && ckE sc a a' && ckE sc b b' | _ => false
  | .cmp2 op op' a b c, e => match e with | .Compare a' [o, o'] [b', c'] _ => op.same o && op'.same o' && ckE sc a a' && ckE sc b b' && ckE sc c c' | _ => false
  | .and a b, e => match e with
    | .BoolOp .And (a' :: b' :: r) p => ckE sc a a' && ckE sc b (boolRest .And b' r p)
    | _ => false
  | .or a b, e => match e with
    | .BoolOp .Or (a' :: b' :: r) p => ckE sc a a' && ckE sc b (boolRest .Or b' r p)
    | _ => false
  | .ife c a b, e => match e with | .IfExp c' a' b' _ => ckE sc c c' && ckE sc a a' && ckE sc b b' | _ => false
  | .tup l, e => match e with | .Tuple es _ _ => ckEs sc l es | _ => false
  | .lst l, e => match e with | .List es _ => ckEs sc l es | _ => false
  | .sub a i, e => match e with | .Subscript a' i' _ => ckE sc a a' && ckE sc i i' | _ => false
  | .sl a lo hi, e => match e with | .Subscript a' (.Slice lo' hi' none _) _ => ckE sc a a' && ckO sc lo lo' && ckO sc hi hi' | _ => false
  | .rev a, e => match e with | .Subscript a' (.Slice none none (some (.UnaryOp .USub (.Constant (.int 1) _ _) _)) _) _ => ckE sc a a' | _ => false
  | .call f l ks kw, e => match e with | .Call n es kws _ => isName sc f n && ckEs sc l es && decide (kwNames kws = ks.map fun k => some (st k)) && ckEs sc kw (kws.map (·.value)) | _ => false
  | .calk f l ks kw, e => match e with | .Call n es kws _ => isName sc f n && ckEs sc l es && decide (kwNames kws = ks.map fun k => some (st k)) && ckEs sc kw (kws.map (·.value)) | _ => false
  | .bi b l, e => match e with | .Call n es [] _ => isName sc b.nm n && ckEs sc l es | _ => false
  | .isi a ts, e => match e with
    | .Call n [a', .Tuple es _ _] [] _ => isName sc "isinstance" n && ckE sc a a' && tyNames sc ts es && decide (ts.length ≤ 20)
    | .Call n [a', t'] [] _ => isName sc "isinstance" n && ckE sc a a' && tyNames sc ts [t']
    | _ => false
  | .me m o l, e => match e with
    | .Call (.Attribute o' n ap) es [] cp => n == st m.nm && notCall0 o' && ckE sc o o' && ckEs sc l es && (ap.endLine == cp.line) && decide (es.length < 20) && !es.isEmpty
    | _ => false
  | .lc elt t ix c own, e => match e with
    | .ListComp elt' [⟨t', ix', cs, 0⟩] scope _ => blkB N sc scope own && t.slots.all (own.contains ·) && ckE scope elt elt' && ckT scope t t' && ckI sc ix ix' t' && ckC scope c cs
    | _ => false
  | .sc2 elt t ix t' ix' own, e => match e with
    | .SetComp elt' [⟨t1, i1, [], 0⟩, ⟨t2, i2, [], 0⟩] scope _ => blkB N sc scope own && t.slots.all (own.contains ·) && t'.slots.all (own.contains ·) && ckE scope elt elt' && ckT scope t t1 && ckI sc ix i1 t1 && ckT scope t' t2 && ckI scope ix' i2 t2
    | _ => false
  | .bdd a b c d, e => match e with | .Dict [some a', some c'] [b', d'] _ => ckE sc a a' && ckE sc b b' && ckE sc c c' && ckE sc d d' | _ => false
  | .bcp a, e => match e with | .Dict [none] [a'] _ => ckE sc a a' | _ => false
  | .lrg a, e => match e with | .Call n [.Call m [a'] [] _] [] _ => isName sc "list" n && isName sc "range" m && ckE sc a a' | _ => false
  | .sdd ks l, e => match e with | .Dict keys vals _ => keysB ks keys && ckEs sc l vals && decide (ks.length ≤ 15) && decide (keys.length = vals.length) | _ => false
def ckEs (sc : Scope) : Exs → List Expr → Bool
  | .nil, es => es.isEmpty
  | .cons a l, es => match es with | e :: es => ckE sc a e && ckEs sc l es | [] => false
def ckO (sc : Scope) : Exo → Option Expr → Bool
  | .none, o => o.isNone
  | .some a, o => match o with | some e => ckE sc a e | none => false
def ckC (sc : Scope) : Exo → List Expr → Bool
  | .none, es => es.isEmpty
  | .some a, es => match es with | [e] => ckE sc a e | _ => false
def ckT (sc : Scope) : Tg → Expr → Bool
  | .name i, e => match e with | .Name y _ => decide (N[i]? = some y) && loc sc y | _ => false
  | .tup l, e => match e with | .Tuple es _ _ => ckTs sc l es | _ => false
  | .sub o i, e => match e with | .Subscript o' i' _ => ckE sc o o' && ckE sc i i' | _ => false
def ckTs (sc : Scope) : Tgs → List Expr → Bool
  | .nil, es => es.isEmpty
  | .cons t l, es => match es with | e :: es => ckT sc t e && ckTs sc l es | [] => false
def ckI (sc : Scope) : Ix → Expr → Expr → Bool
  | .ex a, e, _ => ckE sc a e
  | .rng1 a, e, _ => match e with | .Call n [a'] [] _ => isName sc "range" n && ckE sc a a' | _ => false
  | .rng2 a b, e, _ => match e with | .Call n [a', b'] [] _ => isName sc "range" n && ckE sc a a' && ckE sc b b' | _ => false
  | .rng3 _ _ _, _, _ => false
  | .enum a, e, t => match e, t with | .Call n [a'] [] _, .Tuple _ _ _ => isName sc "enumerate" n && ckE sc a a' | _, _ => false
  | .zip a b, e, t => match e, t with | .Call n [a', b'] [] _, .Tuple _ _ _ => isName sc "zip" n && ckE sc a a' && ckE sc b b' | _, _ => false
end
end
end Rp

namespace Rp
open PySem PySem.Spec PyProof.Rows L2

/-! ## where a text runs -/
def SpF (Z : Zo) (C : Cl) (f : String) : Sp := fun vs H Q E => ∃ φ l M, SR Z φ H M ∧ Reps Z φ H l vs ∧ Out Z (Rep Z) E φ H (C f l M) Q
structure Fk (Z : Zo) (mg : Str → Option Value) (base : Heap) (k : Nat) (f : Addr) (fd : FuncData) (ps : List Str) (sp : Sp) : Prop where
  run : ∀ (A : Around) (outer : List Env) (s : Shared) (H : Hp) (args : Args) (us : List Value) (vs : List V) (Q : VK) (E : XK), Room k A → A.guards = some [] → Env0 Z.P Z.w Z.K mg base A outer s H →
    BindsTo s fd args (ps.zip us) → Vals vs us → vs.length = ps.length → sp vs H Q E → codeAny (model Z.P Z.w) A (.call (.ref f) args) (CR (L2.CX Z.P Z.w) outer Z.P Z.w H s Q E) s
structure FnAt (Z : Zo) (mg : Str → Option Value) (base : Heap) (g : G) (C : Cl) (k : Nat) (f : String) (fd : FuncData) (ps : List Str) : Prop where
  mgf : mg (st f) = some (.ref (Z.ad f))
  kp : PySem.W.keepIn Z.K (.ref (Z.ad f)) = true
  bind : ∀ (ks : List String), (ks = [] ∨ ks ∈ g.kw f) → ∀ (s : Shared) (us ws : List Value), us.length + ws.length = ps.length → ws.length = ks.length → BindsTo s fd ⟨us, (ks.map st).zip ws⟩ (ps.zip (us ++ ws))
  bindk : ∀ (n : Nat) (ks : List String) (pl : List Src), g.sh f n ks = some pl → ∀ (s : Shared) (us ws : List Value), us.length = n → ws.length = ks.length → ∃ xs, plan pl us ws = some xs ∧ xs.length = ps.length ∧ BindsTo s fd ⟨us, (ks.map st).zip ws⟩ (ps.zip xs)
  len : ∀ l M, l.length ≠ ps.length → C f l M = .stuck
  fk : Fk Z mg base k (Z.ad f) fd ps (SpF Z C f)
structure Top (Z : Zo) (mg : Str → Option Value) (base : Heap) (g : G) (C : Cl) (k : Nat) : Prop where
  fns : ∀ f d, g.fn f = some d → ∃ fd ps, FnAt Z mg base g C k f fd ps
  con : ∀ x d, g.con x = some d → ∃ u v, mg (st x) = some u ∧ L2.RelV v u ∧ ∀ φ H, Rep Z φ H d v
  blt : ∀ n ∈ BLT, mg (st n) = none
structure Here (Z : Zo) (g : G) (C : Cl) (k : Nat) (X : Cx) (E : XK) (N : List Str) (sc : Scope) : Prop where
  eP : Z.P = X.prog
  eW : Z.w = X.w
  eK : Z.K = X.K
  top : Top Z X.mg X.base g C k
  calm : X.calm = true
  room : Room k X.A
  gu : X.A.guards = some []
  xN : X.N = N
  nd : N.Nodup
  rel : ∀ x, (sc.names.lookup x = some .local → X.env.scope.names.lookup x = some .local) ∧ (sc.names.lookup x = some .cell → X.env.scope.names.lookup x = some .cell) ∧
    (sc.names.lookup x = some .free → X.env.scope.names.lookup x = some .cell ∨ X.env.scope.names.lookup x = some .free) ∧ (sc.names.lookup x = some .globalImplicit → X.env.scope.names.lookup x = some .globalImplicit)
  own : PassesOwn (model X.prog X.w) X.A X.env X.xe
  fnx : ∀ x, sc.names.lookup x = some .cell → X.fn x = true
  pas : Passes (L2.CX X.prog X.w) X E
section
variable {Z : Zo} {g : G} {C : Cl} {k : Nat} {X : Cx} {E : XK} {N : List Str} {sc : Scope}
theorem Here.hu (G : Here Z g C k X E N sc) : X.A.units + 80 < cLine := by have := G.room.un; omega
theorem Here.hu64 (G : Here Z g C k X E N sc) : X.A.units + 64 < cLine := by have := G.room.un; omega
/-- what an expression asks -/
def tE (Z : Zo) (E : XK) {α ν : Type} (rep : List Addr → Hp → α → ν → Prop) (f : Lc → Hm → R α) : L2.St → Hp → (ν → Hp → Prop) → Prop :=
  fun σ H Q => ∃ φ ρ M, Lrep Z φ H ρ σ ∧ SR Z φ H M ∧ Out Z rep E φ H (f ρ M) Q
theorem _root_.L2.PE.weak {e : Expr} {t t' : TE} (h : PE X e t) (w : ∀ σ H Q, t' σ H Q → t σ H Q) : PE X e t' := ⟨fun pins s σ H Q I q => h.run pins s σ H Q I (w σ H Q q)⟩
theorem _root_.L2.PT.weak {e : Expr} {t t' : TT} (h : PT X e t) (w : ∀ σ H Q, t' σ H Q → t σ H Q) : PT X e t' := ⟨fun pins s σ H Q I q => h.run pins s σ H Q I (w σ H Q q)⟩
theorem _root_.L2.PW.weak {e : Expr} {t t' : TT} (h : PW X e t) (w : ∀ σ H Q, t' σ H Q → t σ H Q) : PW X e t' := ⟨fun wh pins s σ H Q I q => h.run wh pins s σ H Q I (w σ H Q q)⟩
theorem _root_.L2.PA.weak {e : List Expr} {t t' : TA} (h : PA X e t) (w : ∀ σ H Q, t' σ H Q → t σ H Q) : PA X e t' := ⟨fun pos pins s σ H Q I q => h.run pos pins s σ H Q I (w σ H Q q)⟩
theorem _root_.L2.PK.weak {e : List Keyword} {t t' : TA} (h : PK X e t) (w : ∀ σ H Q, t' σ H Q → t σ H Q) : PK X e t' := ⟨fun pos pins s σ H Q I q => h.run pos pins s σ H Q I (w σ H Q q)⟩
theorem _root_.L2.PO.weak {e : Option Expr} {t t' : TO} (h : PO X e t) (w : ∀ σ H Q, t' σ H Q → t σ H Q) : PO X e t' := ⟨fun pins s σ H Q I q => h.run pins s σ H Q I (w σ H Q q)⟩
theorem _root_.L2.PTs.weak {e : List Expr} {t t' : TT} (h : PTs X e t) (w : ∀ σ H Q, t' σ H Q → t σ H Q) : PTs X e t' := ⟨fun pins s σ H Q I q => h.run pins s σ H Q I (w σ H Q q)⟩
theorem _root_.L2.PG.weak {e : Expr} {t t' : TG} (h : PG X e t) (w : ∀ v σ H Q, t' v σ H Q → t v σ H Q) : PG X e t' := ⟨fun pins s σ H v u Q I r q => h.run pins s σ H v u Q I r (w v σ H Q q)⟩
theorem _root_.L2.PGs.weak {e : List Expr} {t t' : TGs} (h : PGs X e t) (w : ∀ v σ H Q, t' v σ H Q → t v σ H Q) : PGs X e t' := ⟨fun pins s σ H v u Q I r q => h.run pins s σ H v u Q I r (w v σ H Q q)⟩
theorem _root_.L2.PI.weak {tg e : Expr} {t t' : TI} (h : PI X tg e t) (w : ∀ σ H Q, t' σ H Q → t σ H Q) : PI X tg e t' := ⟨fun pins s σ H Q I q => h.run pins s σ H Q I (w σ H Q q)⟩
theorem _root_.L2.PE.or {e : Expr} {t t' : TE} (h : PE X e t) (h' : PE X e t') : PE X e (fun σ H Q => t σ H Q ∨ t' σ H Q) := ⟨fun pins s σ H Q I q => q.elim (h.run pins s σ H Q I) (h'.run pins s σ H Q I)⟩
theorem _root_.L2.PI.or {tg e : Expr} {t t' : TI} (h : PI X tg e t) (h' : PI X tg e t') : PI X tg e (fun σ H Q => t σ H Q ∨ t' σ H Q) := ⟨fun pins s σ H Q I q => q.elim (h.run pins s σ H Q I) (h'.run pins s σ H Q I)⟩
/-- the first of two -/
theorem Out.next {α β ν μ : Type} {rep : List Addr → Hp → α → ν → Prop} {rep2 : List Addr → Hp → β → μ → Prop} {φ : List Addr} {H : Hp} {ρ : Lc} {σ : L2.St} {f : Lc → Hm → R α} {K : α → Hm → R β} {M : Hm} {Q : μ → Hp → Prop}
    (L : Lrep Z φ H ρ σ) (S : SR Z φ H M) (o : Out Z rep2 E φ H ((f ρ M).bind K) Q) {T : ν → Hp → Prop}
    (h : ∀ φ1 a M1 v H1, Step φ H φ1 H1 → Lrep Z φ1 H1 ρ σ → SR Z φ1 H1 M1 → rep φ1 H1 a v → Out Z rep2 E φ1 H1 (K a M1) Q → T v H1) : tE Z E rep f σ H T :=
  ⟨φ, ρ, M, L, S, o.bind.imp fun v H1 ⟨φ1, a, M1, s, S1, r, o1⟩ => h φ1 a M1 v H1 s (L.step s) S1 r o1⟩
theorem isName_iff {n : String} {e : Expr} (h : isName sc n e = true) : ∃ p, e = .Name (st n) p ∧ sc.names.lookup (st n) = some .globalImplicit ∧ (st n == ("__debug__" : Str)) = false ∧ st n ≠ "__name__" := by
  unfold isName at h
  split at h
  · next y p =>
    rw [Bool.and_eq_true, Bool.and_eq_true] at h
    obtain ⟨⟨h1, h2⟩, h3⟩ := h
    have e1 : y = st n := by simpa using h1
    subst e1
    refine ⟨p, rfl, ?_, ?_, ?_⟩
    · unfold glo at h2
      split at h2
      · assumption
      · cases h2
    · unfold plainN at h3
      rw [Bool.and_eq_true, Bool.and_eq_true] at h3
      have := h3.1.1
      simpa [bne, st] using this
    · unfold plainN at h3
      rw [Bool.and_eq_true, Bool.and_eq_true] at h3
      have := h3.2
      simpa [bne, st] using this
  · cases h
theorem Here.gl (G : Here Z g C k X E N sc) {x : Str} (h : sc.names.lookup x = some .globalImplicit) : Gl X x := by
  exact (G.rel x).2.2.2 h
theorem Here.vis (G : Here Z g C k X E N sc) {x : Str} (h : vis sc x = true) : Vis X.env.scope x := by
  unfold Rp.vis at h
  split at h
  · next q => exact .inl ((G.rel x).1 q)
  · next q => exact .inr (.inl ((G.rel x).2.1 q))
  · next q => exact .inr ((G.rel x).2.2.1 q)
  · cases h
theorem bi_boot (b : Bi) : bootBuiltins (st b.nm) = some b.py := by
  cases b <;> simp only [Bi.nm, Bi.py, st]
  case len => exact PySem.boot_len
  case abs => exact PyProof.Rows.boot_abs
  case min => exact PyProof.Rows.boot_min
  case max => exact PyProof.Rows.boot_max
  case sum => exact PyProof.Rows.boot_sum
  case all => exact PyProof.Rows.boot_all
  case any => exact PyProof.Rows.boot_any
  case sorted => exact PyProof.Rows.boot_sorted
  case set => exact PyProof.Rows.boot_set
  case list => exact PyProof.Rows.boot_list
  case tuple => exact PyProof.Rows.boot_tuple
  case str => exact PyProof.Rows.boot_str
  case int => exact PyProof.Rows.boot_int
  case bool => exact PyProof.Rows.boot_bool
  case repr => exact PyProof.Rows.boot_repr
  case reprd => exact PyProof.Rows.boot_repr
  case listx => exact PyProof.Rows.boot_list
  case divmod => exact PyProof.Rows.boot_divmod
  case dict => exact PyProof.Rows.boot_dict
theorem bi_mem (b : Bi) : b.nm ∈ BLT := by cases b <;> decide
theorem not_star {x : Ex} {e : Expr} (h : ckE N sc x e = true) {es : List Expr} {env : Env} : starEach (e :: es) env = (false, eval e env) :: starEach es env := by
  cases e with
  | Starred v p => cases x <;> simp [ckE, isName] at h
  | _ => rfl
theorem plain_args (pos : Pos) (env : Env) : ∀ {l : Exs} {es : List Expr}, ckEs N sc l es = true → (backTo pos (starEach es env)).any (·.1) = false
  | .nil, es, h => by
    simp only [ckEs, List.isEmpty_iff] at h
    subst h; rfl
  | .cons a l, [], h => by simp [ckEs] at h
  | .cons a l, e :: es, h => by
    simp only [ckEs, Bool.and_eq_true] at h
    rw [not_star h.1]
    show (false || (backTo pos (starEach es env)).any (·.1)) = false
    rw [plain_args pos env h.2]; rfl
theorem plain_ix {x : Ex} {e : Expr} (h : ckE N sc x e = true) : PlainIx e := by
  intro o i
  cases e with
  | Slice a b c p => cases x <;> simp [ckE, isName] at h
  | _ => rfl
theorem no_marks {x : Ex} {e : Expr} (h : ckE N sc x e = true) (op : CmpOp) : behindInMarks op e = false := by
  cases e with
  | Set l kk p => cases x <;> simp [ckE, isName] at h
  | _ => rfl
theorem set_iter {x : Ex} {e : Expr} (h : ckE N sc x e = true) (env : Env) : ∀ v, foldedSetIterable e env v = pure v := by
  intro v
  cases e with
  | Set l kk p => cases x <;> simp [ckE, isName] at h
  | _ => rfl
theorem kw_all (pos : Pos) (env : Env) : ∀ {kws : List Keyword} {ks : List String}, kwNames kws = ks.map (fun k => some (st k)) →
    (backToKw pos (keywordEach kws env)).all (·.1.isSome) = true ∧ (backToKw pos (keywordEach kws env)).filterMap (·.1) = ks.map st ∧ (backToKw pos (keywordEach kws env)).any (·.1.isNone) = false
  | [], [], _ => ⟨rfl, rfl, rfl⟩
  | [], _ :: _, h => by cases h
  | _ :: _, [], h => by cases h
  | ⟨nm, e, kp⟩ :: kws, k :: ks, h => by
    have h' := List.cons.inj h
    have e1 : nm = some (st k) := h'.1
    subst e1
    obtain ⟨a, b, c⟩ := kw_all pos env (kws := kws) (ks := ks) h'.2
    refine ⟨?_, ?_, ?_⟩
    · show (true && (backToKw pos (keywordEach kws env)).all (·.1.isSome)) = true
      rw [a]; rfl
    · show st k :: (backToKw pos (keywordEach kws env)).filterMap (·.1) = _
      rw [b]; rfl
    · show (false || (backToKw pos (keywordEach kws env)).any (·.1.isNone)) = false
      rw [c]; rfl
/-- a def that is called -/
theorem Here.run (G : Here Z g C k X E N sc) {f : String} {fd : FuncData} {ps : List Str} (F : FnAt Z X.mg X.base g C k f fd ps) {ks : List String} (hk : ks = [] ∨ ks ∈ g.kw f) {pins : List (Addr × Obj)} {s : Shared} {σ : L2.St} {H : Hp} {Q : VK} {us ws : List Value} {vs zs : List V}
    (I : Inv X pins σ H s) (r : Vals vs us) (rz : Vals zs ws) (hz : zs.length = ks.length) (hl : (vs ++ zs).length = ps.length) (h : SpF Z C f (vs ++ zs) H Q E) : wpAny (model X.prog X.w) X.A (call (.ref (Z.ad f)) us ((ks.map st).zip ws)) (EP X pins σ Q) X.xe s := by
  have e1 := r.length
  have e2 := rz.length
  have hlen : us.length + ws.length = ps.length := by rw [← e1, ← e2, ← List.length_append]; exact hl
  have key := F.fk.run X.A X.stack s H ⟨us, (ks.map st).zip ws⟩ (us ++ ws) (vs ++ zs) Q E G.room G.gu (by rw [G.eP, G.eW, G.eK]; exact I.env0) (F.bind ks hk s us ws hlen (by rw [← e2, hz])) (r.append rz) hl h
  rw [G.eP, G.eW] at key
  refine wpAny_call (codeAny_mono key fun r s' hq => ?_)
  cases r with
  | error e => exact G.pas pins σ H s e s' I hq
  | ok fl =>
    cases fl with
    | ret u => exact I.after hq
    | next => exact False.elim hq
    | brk => exact False.elim hq
    | cont => exact False.elim hq
theorem plan_reps {φ : List Addr} {H : Hp} {ds es : List D} {vs zs : List V} (r : Reps Z φ H ds vs) (q : Reps Z φ H es zs) : ∀ {pl : List Src} {as : List D}, plan pl ds es = some as → ∃ xs, plan pl vs zs = some xs ∧ Reps Z φ H as xs
  | [], as, h => by cases h; exact ⟨[], rfl, rfl⟩
  | .pos i :: pl, as, h => by
    simp only [plan] at h ⊢
    cases h1 : ds[i]? with
    | none => rw [h1] at h; cases h
    | some d =>
      rw [h1, Option.bind_some] at h
      cases h2 : plan pl ds es with
      | none => rw [h2] at h; cases h
      | some l =>
        rw [h2] at h; cases h
        obtain ⟨v, hv, rv⟩ := r.get h1
        obtain ⟨xs, e, rx⟩ := plan_reps r q h2
        exact ⟨v :: xs, by rw [hv, Option.bind_some, e]; rfl, .cons rv rx⟩
  | .kw i :: pl, as, h => by
    simp only [plan] at h ⊢
    cases h1 : es[i]? with
    | none => rw [h1] at h; cases h
    | some d =>
      rw [h1, Option.bind_some] at h
      cases h2 : plan pl ds es with
      | none => rw [h2] at h; cases h
      | some l =>
        rw [h2] at h; cases h
        obtain ⟨v, hv, rv⟩ := q.get h1
        obtain ⟨xs, e, rx⟩ := plan_reps r q h2
        exact ⟨v :: xs, by rw [hv, Option.bind_some, e]; rfl, .cons rv rx⟩
theorem vals_get : ∀ {vs : List V} {us : List Value} (_ : Vals vs us) {i : Nat} {v : V} {u : Value}, vs[i]? = some v → us[i]? = some u → L2.RelV v u
  | _, _, .nil, i, v, u, h, _ => by simp at h
  | _, _, .cons r rs, 0, v, u, h, k => by cases h; cases k; exact r
  | _, _, .cons r rs, i + 1, v, u, h, k => vals_get rs (i := i) h k
theorem plan_vals {vs zs : List V} {us ws : List Value} (r : Vals vs us) (q : Vals zs ws) : ∀ {pl : List Src} {xs : List V} {ys : List Value}, plan pl vs zs = some xs → plan pl us ws = some ys → Vals xs ys
  | [], xs, ys, h, k => by cases h; cases k; exact .nil
  | .pos i :: pl, xs, ys, h, k => by
    simp only [plan] at h k
    cases h1 : vs[i]? with
    | none => rw [h1] at h; cases h
    | some d =>
      cases k1 : us[i]? with
      | none => rw [k1] at k; cases k
      | some u =>
      rw [h1, Option.bind_some] at h
      rw [k1, Option.bind_some] at k
      cases h2 : plan pl vs zs with
      | none => rw [h2] at h; cases h
      | some l =>
        cases k2 : plan pl us ws with
        | none => rw [k2] at k; cases k
        | some m =>
        rw [h2] at h; rw [k2] at k; cases h; cases k
        exact .cons (vals_get r h1 k1) (plan_vals r q h2 k2)
  | .kw i :: pl, xs, ys, h, k => by
    simp only [plan] at h k
    cases h1 : zs[i]? with
    | none => rw [h1] at h; cases h
    | some d =>
      cases k1 : ws[i]? with
      | none => rw [k1] at k; cases k
      | some u =>
      rw [h1, Option.bind_some] at h
      rw [k1, Option.bind_some] at k
      cases h2 : plan pl vs zs with
      | none => rw [h2] at h; cases h
      | some l =>
        cases k2 : plan pl us ws with
        | none => rw [k2] at k; cases k
        | some m =>
        rw [h2] at h; rw [k2] at k; cases h; cases k
        exact .cons (vals_get q h1 k1) (plan_vals r q h2 k2)
/-- a def that is called -/
theorem Here.runk (G : Here Z g C k X E N sc) {f : String} {fd : FuncData} {ps : List Str} (F : FnAt Z X.mg X.base g C k f fd ps) {ks : List String} {pl : List Src} {n : Nat} (hk : g.sh f n ks = some pl) {pins : List (Addr × Obj)} {s : Shared} {σ : L2.St} {H : Hp} {Q : VK} {us ws : List Value} {vs zs as : List V}
    (I : Inv X pins σ H s) (r : Vals vs us) (rz : Vals zs ws) (hn : vs.length = n) (hz : zs.length = ks.length) (hp : plan pl vs zs = some as) (h : SpF Z C f as H Q E) : wpAny (model X.prog X.w) X.A (call (.ref (Z.ad f)) us ((ks.map st).zip ws)) (EP X pins σ Q) X.xe s := by
  have e1 := r.length
  have e2 := rz.length
  obtain ⟨xs, hx, hxl, hb⟩ := F.bindk n ks pl hk s us ws (by rw [← e1, hn]) (by rw [← e2, hz])
  have hv := plan_vals r rz hp hx
  have key := F.fk.run X.A X.stack s H ⟨us, (ks.map st).zip ws⟩ xs as Q E G.room G.gu (by rw [G.eP, G.eW, G.eK]; exact I.env0) hb hv (by rw [hv.length, hxl]) h
  rw [G.eP, G.eW] at key
  refine wpAny_call (codeAny_mono key fun r s' hq => ?_)
  cases r with
  | error e => exact G.pas pins σ H s e s' I hq
  | ok fl =>
    cases fl with
    | ret u => exact I.after hq
    | next => exact False.elim hq
    | brk => exact False.elim hq
    | cont => exact False.elim hq
end
end Rp

namespace Rp
open PySem PySem.Spec PyProof.Rows L2

/-! ## expressions are what the evaluator gives -/
section
variable {Z : Zo} {g : G} {C : Cl} {k : Nat} {X : Cx} {E : XK} {N : List Str} {sc : Scope}
abbrev tX (Z : Zo) (E : XK) (C : Cl) (g : G) (x : Ex) : TE := tE Z E (Rep Z) (evE C g x)
abbrev tXs (Z : Zo) (E : XK) (C : Cl) (g : G) (x : Exs) : TA := tE Z E (Reps Z) (evEs C g x)
def rEqB : List Addr → Hp → Bool → Bool → Prop := fun _ _ a b => b = a
def rEqO : List Addr → Hp → Option Int → Option Int → Prop := fun _ _ a b => b = a
abbrev tB (Z : Zo) (E : XK) (f : Lc → Hm → R Bool) : TT := tE Z E rEqB f
/-- a test of a value -/
theorem _root_.L2.PE.test (G : Here Z g C k X E N sc) {e : Expr} {f : Lc → Hm → R D} (h : PE X e (tE Z E (Rep Z) f)) (he : ∀ whole, isTrue e X.env whole = (do let v ← whole; standAt e.pos; holding [v] (truthy v))) :
    PT X e (tB Z E fun ρ M => test (f ρ M)) := by
  refine ⟨fun pins s σ H Q I hw => ?_⟩
  obtain ⟨φ, ρ, M, L, S, o⟩ := hw
  refine isTrue_plain (thn (h.run pins s σ H (fun v H1 => ∃ φ1 a M1, SR Z φ1 H1 M1 ∧ Rep Z φ1 H1 a v ∧ Out Z rEqB E φ1 H1 (opt (truth M1 a) fun b => (.ok b M1 : R Bool)) Q) I
    (Out.next (f := f) L S (show Out Z rEqB E φ H (R.bind (f ρ M) _) Q from o) fun φ1 a M1 v H1 st L1 S1 r o1 => ⟨φ1, a, M1, S1, r, o1⟩)) fun v s1 ⟨x, H1, I1, r1, q1⟩ => ?_) (he _)
  · obtain ⟨φ1, a, M1, S1, r, o1⟩ := q1
    cases q : truth M1 a with
    | none => rw [q] at o1; exact o1.elim
    | some b => rw [q] at o1; exact tr_truth G.eK pins s1 σ H1 x v Q I1 r1 φ1 a M1 S1 r q (o1.here S1 rfl)
theorem Out.test_of {φ : List Addr} {H : Hp} {r : R D} {Q : Bool → Hp → Prop} (h : Out Z rEqB E φ H (test r) Q) :
    Out Z (Rep Z) E φ H r fun v H1 => ∃ φ1 a M1, Step φ H φ1 H1 ∧ SR Z φ1 H1 M1 ∧ Rep Z φ1 H1 a v ∧ Out Z rEqB E φ1 H1 (opt (truth M1 a) fun b => (.ok b M1 : R Bool)) Q := Out.bind h
/-- a call of a built-in -/
theorem call_one {e : Expr} {es : List Expr} {pos p : Pos} {n : Str} {u : Value} {r : List V → Hp → VK → Prop} {t : TA} (hr : CallR X u r) (hb : (∃ id, u = .builtin id) ∨ ∃ T, u = .type T) (hg : Gl X n) (hm : X.mg n = none) (hv : bootBuiltins n = some u)
    (hn : n ≠ "__name__") (hd : (n == ("__debug__" : Str)) = false) (ha : PA X (e :: es) t) (he : starEach (e :: es) X.env = (false, eval e X.env) :: starEach es X.env) (hpl : (backTo pos (starEach es X.env)).any (·.1) = false) :
    PE X (.Call (.Name n p) (e :: es) [] pos) (tCB r t) := by
  rcases hb with ⟨id, rfl⟩ | ⟨T, rfl⟩
  · exact pe_callB hr hg hm hv ha hn hd he hpl
  · exact pe_callTy hr hg hm hv ha hn hd he hpl
theorem bi_kind (b : Bi) : (∃ id, b.py = .builtin id) ∨ ∃ T, b.py = .type T := by cases b <;> first | exact .inl ⟨_, rfl⟩ | exact .inr ⟨_, rfl⟩
/-- the types of the plain values -/
theorem kit_all : (["NoneType", "bool", "int", "str", "tuple", "list", "dict"].all fun n => TY.all fun t => decide (kitB n t = some (istyN n t))) = true := by decide +kernel
theorem kit_of {n t : String} (h1 : n ∈ ["NoneType", "bool", "int", "str", "tuple", "list", "dict"]) (h2 : t ∈ TY) : kitB n t = some (istyN n t) :=
  of_decide_eq_true (List.all_eq_true.mp (List.all_eq_true.mp kit_all n h1) t h2)
theorem ty_ok {φ : List Addr} {H : Hp} {M : Hm} (S : SR Z φ H M) {d : D} {v : V} {n : String} (h : tyOf M d = some n) (r : Rep Z φ H d v) : TyX Z.K H v (.type n) ∧ n ∈ ["NoneType", "bool", "int", "str", "tuple", "list", "dict"] := by
  cases d with
  | non => cases h; cases r; exact ⟨.base .non, by decide⟩
  | bl b => cases h; cases r; exact ⟨.base (.bl b), by decide⟩
  | int b => cases h; cases r; exact ⟨.base (.int b), by decide⟩
  | str b => cases h; cases r; exact ⟨.base (.str _), by decide⟩
  | tup l =>
    cases h
    obtain ⟨a, vs, rfl, q, _⟩ := r
    refine ⟨?_, by decide⟩
    rcases q with q | q | ⟨o, its, nn, h1, h2, _⟩
    · exact .base (.tup q)
    · rcases q with q | ⟨_, q⟩ <;> cases q
    · exact .kTuple h1 h2
  | rol l =>
    cases h
    obtain ⟨a, vs, rfl, q, _⟩ := r
    refine ⟨?_, by decide⟩
    rcases q with ⟨o, q⟩ | q | ⟨o, its, nn, h1, h2, _⟩
    · exact .base (.frz q)
    · rcases q with q | ⟨_, q⟩ <;> cases q
    · exact .kList h1 h2
  | ref m =>
    simp only [tyOf] at h
    split at h
    · next l hl =>
      cases h
      obtain ⟨a, vs, _, rfl, q, _⟩ := S.lst hl r
      exact ⟨.base (.lst q), by decide⟩
    · next ks l hl =>
      cases h
      obtain ⟨a, vs, _, rfl, q, _⟩ := S.sd hl r
      exact ⟨.base (.dK q), by decide⟩
    · cases h
  | _ => cases h
theorem kit_any {K : PySem.W.Frag} {n : String} (h1 : n ∈ ["NoneType", "bool", "int", "str", "tuple", "list", "dict"]) : ∀ {ts : List String}, (∀ t ∈ ts, t ∈ TY) → PySem.W.kitAny K (.type n) (ts.map .type) = some (ts.any fun t => istyN n t)
  | [], _ => rfl
  | t :: ts, h => by
    refine kitAny_cons (b := istyN n t) (kit_ty (kit_of h1 (h t List.mem_cons_self))) (fun e => ?_) fun e => ?_
    · rw [kit_any h1 fun x hx => h x (List.mem_cons_of_mem _ hx)]
      show _ = some (istyN n t || _)
      rw [e]; rfl
    · show (istyN n t || _) = true
      rw [e]; rfl
/-! ### the forms, one by one -/
theorem s_lit {e : Expr} {d : D} {v : V} {x : Ex} (h : PE X e (tC v)) (r : ∀ φ H, Rep Z φ H d v) (hx : ∀ ρ M, evE C g x ρ M = .ok d M) : PE X e (tX Z E C g x) :=
  h.weak fun σ H Q ⟨φ, ρ, M, L, S, o⟩ => by
    have o' : Out Z (Rep Z) E φ H (.ok d M) Q := by rw [← hx ρ M]; exact o
    exact o'.here S (r φ H)
theorem s_var {i : Nat} {y : Str} {p : Pos} (hN : X.N[i]? = some y) (hv : Vis X.env.scope y) (h1 : (y == ("__debug__" : Str)) = false) (h2 : (y == ("__classdict__" : Str)) = false) : PE X (.Name y p) (tX Z E C g (.var i)) :=
  (pe_var hN hv h1 h2).weak fun σ H Q ⟨φ, ρ, M, L, S, o⟩ => by
    simp only [evE] at o
    split at o
    · next d hd =>
      obtain ⟨v, e1, r⟩ := L.at' i d hd
      exact ⟨v, e1, o.here S r⟩
    · exact stuckE o
/-- two values, one operation -/
theorem s_two {e : Expr} {a b x : Ex} {f : D → D → Hm → R D} (h : PE X e (tOp (RB Z E f) (tX Z E C g a) (tX Z E C g b))) (hx : ∀ ρ M, evE C g x ρ M = (evE C g a ρ M).bind fun y M1 => (evE C g b ρ M1).bind fun z M2 => f y z M2) :
    PE X e (tX Z E C g x) := h.weak fun σ H Q ⟨φ, ρ, M, L, S, o⟩ => by
  have o' : Out Z (Rep Z) E φ H ((evE C g a ρ M).bind fun y M1 => (evE C g b ρ M1).bind fun z M2 => f y z M2) Q := by rw [← hx ρ M]; exact o
  refine Out.next (f := evE C g a) L S o' fun φ1 y M1 v H1 s1 L1 S1 r1 o1 => Out.next (f := evE C g b) L1 S1 o1 fun φ2 z M2 w' H2 s2 L2 S2 r2 o2 => ?_
  exact ⟨φ2, y, z, M2, S2, r1.step s2, r2, o2⟩
theorem s_args {e : Expr} {x : Ex} {l : Exs} {f : List D → Hm → R D} (h : PE X e (tCB (RC Z E f) (tXs Z E C g l))) (hx : ∀ ρ M, evE C g x ρ M = (evEs C g l ρ M).bind fun ds M1 => f ds M1) : PE X e (tX Z E C g x) :=
  h.weak fun σ H Q ⟨φ, ρ, M, L, S, o⟩ => by
    have o' : Out Z (Rep Z) E φ H ((evEs C g l ρ M).bind fun ds M1 => f ds M1) Q := by rw [← hx ρ M]; exact o
    exact Out.next (f := evEs C g l) L S o' fun φ1 ds M1 vs H1 s1 L1 S1 r1 o1 => ⟨φ1, ds, M1, S1, r1, o1⟩
theorem s_tru {b : Bool} {φ : List Addr} {H : Hp} {M : Hm} {a : D} {v : V} (zK : Z.K = X.K) (S : SR Z φ H M) (r : Rep Z φ H a v) (h : truth M a = some b) : TruV X.K v H b := by
  cases a with
  | non => cases r; cases h; rfl
  | bl c => cases r; cases h; rfl
  | int c => cases r; cases h; rfl
  | str z =>
    cases r
    simp only [truth] at h
    split at h
    · next hl =>
      cases h
      refine ⟨by rw [strlen, ← LN_eq]; exact hl, ?_⟩
      rw [strlen]
      cases z with
      | nil => rfl
      | cons c z => simp [bne]; omega
    · cases h
  | tup l =>
    obtain ⟨c, vs, rfl, q, r⟩ := r
    cases h
    refine .inr (.inl ⟨vs, zK ▸ tup_tuple q, ?_⟩)
    rw [Bool.eq_iff_iff]; simp [r.nil_iff]
  | rol l =>
    obtain ⟨c, vs, rfl, q, r⟩ := r
    cases h
    refine .inl ⟨vs, zK ▸ rol_list q, ?_⟩
    rw [Bool.eq_iff_iff]; simp [r.nil_iff]
  | ref n =>
    simp only [truth] at h
    split at h
    · next l hl =>
      cases h
      obtain ⟨c, vs, _, rfl, p, r⟩ := S.lst hl r
      refine .inl ⟨vs, .of p, ?_⟩
      rw [Bool.eq_iff_iff]; simp [r.nil_iff]
    · cases h
  | _ => cases h
theorem s_and {a' b' : Expr} {r : List Expr} {p : Pos} {a b : Ex} (zK : Z.K = X.K) (ha : PE X a' (tX Z E C g a)) (hb : PE X (boolRest .And b' r p) (tX Z E C g b)) : PE X (.BoolOp .And (a' :: b' :: r) p) (tX Z E C g (.and a b)) := by
  have hb2 : PE X (.BoolOp .And (b' :: r) p) (tX Z E C g b) := by
    cases r with
    | nil => exact pe_one hb
    | cons c r => exact hb
  refine (pe_andT ha hb2).weak fun σ H Q ⟨φ, ρ, M, L, S, o⟩ => ?_
  simp only [evE] at o
  refine Out.next (f := evE C g a) L S o fun φ1 y M1 v H1 s1 L1 S1 r1 o1 => ?_
  unfold andV at o1
  cases h : truth M1 y with
  | none => rw [h] at o1; exact stuckE o1
  | some b =>
    rw [h] at o1
    refine ⟨b, s_tru zK S1 r1 h, ?_⟩
    cases b with
    | true => exact ⟨φ1, ρ, M1, L1, S1, o1⟩
    | false => exact o1.here S1 r1
theorem s_or {a' b' : Expr} {r : List Expr} {p : Pos} {a b : Ex} (zK : Z.K = X.K) (ha : PE X a' (tX Z E C g a)) (hb : PE X (boolRest .Or b' r p) (tX Z E C g b)) : PE X (.BoolOp .Or (a' :: b' :: r) p) (tX Z E C g (.or a b)) := by
  have hb2 : PE X (.BoolOp .Or (b' :: r) p) (tX Z E C g b) := by
    cases r with
    | nil => exact pe_one hb
    | cons c r => exact hb
  refine (pe_orT ha hb2).weak fun σ H Q ⟨φ, ρ, M, L, S, o⟩ => ?_
  simp only [evE] at o
  refine Out.next (f := evE C g a) L S o fun φ1 y M1 v H1 s1 L1 S1 r1 o1 => ?_
  unfold orV at o1
  cases h : truth M1 y with
  | none => rw [h] at o1; exact stuckE o1
  | some b =>
    rw [h] at o1
    refine ⟨b, s_tru zK S1 r1 h, ?_⟩
    cases b with
    | true => exact o1.here S1 r1
    | false => exact ⟨φ1, ρ, M1, L1, S1, o1⟩
/-- a test, and what it opens -/
theorem Out.branch {β μ : Type} {rep2 : List Addr → Hp → β → μ → Prop} {φ : List Addr} {H : Hp} {ρ : Lc} {σ : L2.St} {f : Lc → Hm → R Bool} {K : Bool → Hm → R β} {M : Hm} {Q : μ → Hp → Prop} (L : Lrep Z φ H ρ σ) (S : SR Z φ H M) (o : Out Z rep2 E φ H ((f ρ M).bind K) Q) {T : Bool → Hp → Prop}
    (h : ∀ φ1 b M1 H1, Step φ H φ1 H1 → Lrep Z φ1 H1 ρ σ → SR Z φ1 H1 M1 → Out Z rep2 E φ1 H1 (K b M1) Q → T b H1) : tB Z E f σ H T :=
  Out.next (rep := rEqB) (f := f) L S o fun φ1 b M1 v H1 s L1 S1 r o1 => by
    have e : v = b := r
    subst e
    exact h φ1 _ M1 H1 s L1 S1 o1
abbrev tT (Z : Zo) (E : XK) (C : Cl) (g : G) (x : Ex) : TT := tB Z E fun ρ M => test (evE C g x ρ M)
theorem s_not {a' : Expr} {p : Pos} {a : Ex} (zK : Z.K = X.K) (ha : PE X a' (tX Z E C g a)) : PE X (.UnaryOp .Not a' p) (tX Z E C g (.not a)) := by
  refine (pe_notT ha).weak fun σ H Q ⟨φ, ρ, M, L, S, o⟩ => ?_
  simp only [evE, test] at o
  rw [R.bind_assoc] at o
  refine Out.next (f := evE C g a) L S o fun φ1 y M1 v H1 s1 L1 S1 r1 o1 => ?_
  cases h : truth M1 y with
  | none => rw [h] at o1; exact stuckE o1
  | some b => rw [h] at o1; exact ⟨b, s_tru zK S1 r1 h, o1.here S1 rfl⟩
theorem s_neg {a' : Expr} {p : Pos} {a : Ex} (ha : PE X a' (tX Z E C g a)) : PE X (.UnaryOp .USub a' p) (tX Z E C g (.neg a)) := by
  refine (pe_un un_neg ha).weak fun σ H Q ⟨φ, ρ, M, L, S, o⟩ => ?_
  simp only [evE] at o
  refine Out.next (f := evE C g a) L S o fun φ1 y M1 v H1 s1 L1 S1 r1 o1 => ?_
  split at o1
  · cases r1; exact ⟨_, rfl, o1.here S1 rfl⟩
  · exact stuckE o1
theorem s_ife {c' a' b' : Expr} {p : Pos} {c a b : Ex} (hc : PT X c' (tT Z E C g c)) (ha : PE X a' (tX Z E C g a)) (hb : PE X b' (tX Z E C g b)) : PE X (.IfExp c' a' b' p) (tX Z E C g (.ife c a b)) := by
  refine (pe_ifExp hc ha hb).weak fun σ H Q ⟨φ, ρ, M, L, S, o⟩ => ?_
  simp only [evE] at o
  refine Out.branch (f := fun ρ M => test (evE C g c ρ M)) L S o fun φ1 k M1 H1 s1 L1 S1 o1 => ?_
  cases k with
  | true => rw [if_pos rfl] at o1 ⊢; exact ⟨φ1, ρ, M1, L1, S1, o1⟩
  | false => rw [if_neg Bool.false_ne_true] at o1 ⊢; exact ⟨φ1, ρ, M1, L1, S1, o1⟩
theorem s_cmp2 {a' b' c' : Expr} {p : Pos} {op op' : Cop} {a b c : Ex} (zK : Z.K = X.K) (hu : X.A.units + 64 < cLine) (ha : PE X a' (tX Z E C g a)) (hb : PE X b' (tX Z E C g b)) (hc : PE X c' (tX Z E C g c)) {T : List (VK) → Prop}
    (hm : lastMarks [op.py, op'.py] [b', c'] = false) : PE X (.Compare a' [op.py, op'.py] [b', c'] p) (tX Z E C g (.cmp2 op op' a b c)) ∧ PT X (.Compare a' [op.py, op'.py] [b', c'] p) (tTest (tX Z E C g (.cmp2 op op' a b c))) := by
  have key : ∀ σ H Q, tX Z E C g (.cmp2 op op' a b c) σ H Q → tChain (RB Z E (cmpop op)) (RB Z E (cmpop op')) (tX Z E C g a) (tX Z E C g b) (tX Z E C g c) σ H Q := fun σ H Q ⟨φ, ρ, M, L, S, o⟩ => by
    simp only [evE] at o
    refine Out.next (f := evE C g a) L S o fun φ1 y M1 v H1 s1 L1 S1 r1 o1 => Out.next (f := evE C g b) L1 S1 o1 fun φ2 z M2 w' H2 s2 L2 S2 r2 o2 => ?_
    refine ⟨φ2, y, z, M2, S2, r1.step s2, r2, (o2.bind (rep := Rep Z)).imp fun v3 H3 ⟨φ3, d, M3, s3, S3, r3, o3⟩ => ?_⟩
    split at o3
    · cases r3
      refine ⟨true, rfl, ?_⟩
      rw [if_pos rfl]
      refine Out.next (f := evE C g c) (L2.step s3) S3 o3 fun φ4 q M4 v4 H4 s4 L4 S4 r4 o4 => ⟨φ4, z, q, M4, S4, (r2.step s3).step s4, r4, o4⟩
    · cases r3
      refine ⟨false, rfl, ?_⟩
      rw [if_neg Bool.false_ne_true]
      exact o3.here S3 rfl
    · exact stuckE o3
  exact ⟨(pe_chain (or_cmp zK hu op) (or_cmp zK hu op') ha hb hc hm).weak key, (pt_chain (or_cmp zK hu op) (or_cmp zK hu op') ha hb hc hm).weak fun σ H Q q => key _ _ _ q⟩
end
end Rp

namespace Rp
open PySem PySem.Spec PyProof.Rows L2

section
variable {Z : Zo} {g : G} {C : Cl} {k : Nat} {X : Cx} {E : XK} {N : List Str} {sc : Scope}
/-! ### tests -/
theorem test_bind {f : D → Hm → R D} {r : R D} : test (r.bind f) = r.bind fun d M => test (f d M) := R.bind_assoc _ _ _
theorem t_not {a' : Expr} {p : Pos} {a : Ex} (ha : PT X a' (tT Z E C g a)) : PT X (.UnaryOp .Not a' p) (tT Z E C g (.not a)) := by
  refine (pt_not ha).weak fun σ H Q ⟨φ, ρ, M, L, S, o⟩ => ?_
  simp only [evE, test_bind] at o
  have o' : Out Z rEqB E φ H ((test (evE C g a ρ M)).bind fun b M1 => .ok (!b) M1) Q := by
    have e : test ((test (evE C g a ρ M)).bind fun b M1 => .ok (.bl (!b)) M1) = (test (evE C g a ρ M)).bind fun b M1 => .ok (!b) M1 := by
      cases test (evE C g a ρ M) <;> rfl
    rw [← e]; exact o
  exact Out.branch (f := fun ρ M => test (evE C g a ρ M)) L S o' fun φ1 b M1 H1 s1 L1 S1 o1 => o1.here S1 rfl
theorem test_and {r : R D} {f : Hm → R D} : test (r.bind fun x M1 => andV x M1 f) = (test r).bind fun b M1 => if b then test (f M1) else .ok false M1 := by
  cases r with
  | ok x M1 =>
    simp only [test, R.ok_bind, andV]
    cases h : truth M1 x with
    | none => rfl
    | some b => cases b <;> simp [h]
  | _ => rfl
theorem test_or {r : R D} {f : Hm → R D} : test (r.bind fun x M1 => orV x M1 f) = (test r).bind fun b M1 => if b then .ok true M1 else test (f M1) := by
  cases r with
  | ok x M1 =>
    simp only [test, R.ok_bind, orV]
    cases h : truth M1 x with
    | none => rfl
    | some b => cases b <;> simp [h]
  | _ => rfl
theorem w_and {a' b' : Expr} {r : List Expr} {p : Pos} {a b : Ex} (ha : PT X a' (tT Z E C g a)) (hb : PW X (.BoolOp .And (b' :: r) p) (tT Z E C g b)) : PW X (.BoolOp .And (a' :: b' :: r) p) (tT Z E C g (.and a b)) := by
  refine (pw_and ha hb).weak fun σ H Q ⟨φ, ρ, M, L, S, o⟩ => ?_
  simp only [evE] at o
  rw [test_and (f := fun M1 => evE C g b ρ M1)] at o
  refine Out.branch (f := fun ρ M => test (evE C g a ρ M)) L S o fun φ1 k M1 H1 s1 L1 S1 o1 => ?_
  cases k with
  | true => rw [if_pos rfl] at o1 ⊢; exact ⟨φ1, ρ, M1, L1, S1, o1⟩
  | false => rw [if_neg Bool.false_ne_true] at o1 ⊢; exact o1.here S1 rfl
theorem w_or {a' b' : Expr} {r : List Expr} {p : Pos} {a b : Ex} (ha : PT X a' (tT Z E C g a)) (hb : PW X (.BoolOp .Or (b' :: r) p) (tT Z E C g b)) : PW X (.BoolOp .Or (a' :: b' :: r) p) (tT Z E C g (.or a b)) := by
  refine (pw_or ha hb).weak fun σ H Q ⟨φ, ρ, M, L, S, o⟩ => ?_
  simp only [evE] at o
  rw [test_or (f := fun M1 => evE C g b ρ M1)] at o
  refine Out.branch (f := fun ρ M => test (evE C g a ρ M)) L S o fun φ1 k M1 H1 s1 L1 S1 o1 => ?_
  cases k with
  | true => rw [if_pos rfl] at o1 ⊢; exact o1.here S1 rfl
  | false => rw [if_neg Bool.false_ne_true] at o1 ⊢; exact ⟨φ1, ρ, M1, L1, S1, o1⟩
theorem t_ife {c' a' b' : Expr} {p : Pos} {c a b : Ex} (hc : PT X c' (tT Z E C g c)) (ha : PT X a' (tT Z E C g a)) (hb : PT X b' (tT Z E C g b)) : PT X (.IfExp c' a' b' p) (tT Z E C g (.ife c a b)) := by
  refine ⟨fun pins s σ H Q I ⟨φ, ρ, M, L, S, o⟩ => ?_⟩
  simp only [evE] at o
  have e : test ((test (evE C g c ρ M)).bind fun k M1 => if k = true then evE C g a ρ M1 else evE C g b ρ M1) = (test (evE C g c ρ M)).bind fun k M1 => if k = true then test (evE C g a ρ M1) else test (evE C g b ρ M1) := by
    cases test (evE C g c ρ M) with
    | ok k M1 => cases k <;> rfl
    | _ => rfl
  rw [e] at o
  rw [arm_isTrue_IfExp]
  refine wpAny_bind (thn (hc.run pins s σ H (fun k H1 => if k = true then tT Z E C g a σ H1 Q else tT Z E C g b σ H1 Q) I (Out.branch (f := fun ρ M => test (evE C g c ρ M)) L S o fun φ1 k M1 H1 s1 L1 S1 o1 => ?_)) fun k s1 ⟨H1, I1, q1⟩ => ?_)
  · cases k with
    | true => rw [if_pos rfl] at o1 ⊢; exact ⟨φ1, ρ, M1, L1, S1, o1⟩
    | false => rw [if_neg Bool.false_ne_true] at o1 ⊢; exact ⟨φ1, ρ, M1, L1, S1, o1⟩
  · cases k with
    | true => rw [if_pos rfl] at q1; exact ha.run pins s1 σ H1 Q I1 q1
    | false => rw [if_neg Bool.false_ne_true] at q1; exact hb.run pins s1 σ H1 Q I1 q1
/-- a value that is a truth value, as a test -/
theorem t_bool {x : Ex} {f : Lc → Hm → R D} (hx : ∀ ρ M d M1, evE C g x ρ M = .ok d M1 → ∃ b, d = .bl b) {σ : L2.St} {H : Hp} {Q : Bool → Hp → Prop} (h : tT Z E C g x σ H Q) : tX Z E C g x σ H fun v H1 => ∃ b, v = .bl b ∧ Q b H1 := by
  obtain ⟨φ, ρ, M, L, S, o⟩ := h
  refine ⟨φ, ρ, M, L, S, ?_⟩
  cases q : evE C g x ρ M with
  | ok d M1 =>
    obtain ⟨b, rfl⟩ := hx ρ M d M1 q
    have o' : Out Z rEqB E φ H (test (evE C g x ρ M)) Q := o
    rw [q] at o'
    exact fun φ' v H' s S' r => ⟨b, r, o' φ' b H' s S' rfl⟩
  | exc c fs M1 =>
    have o' : Out Z rEqB E φ H (test (evE C g x ρ M)) Q := o
    rw [q] at o'; exact o'
  | stuck =>
    have o' : Out Z rEqB E φ H (test (evE C g x ρ M)) Q := o
    rw [q] at o'; exact o'
theorem bl_match {o : Option Bool} {f : Bool → Bool} {M M1 : Hm} {d : D} (h : (opt o fun b => R.ok (D.bl (f b)) M) = .ok d M1) : ∃ b, d = .bl b := by
  cases o with
  | none => cases h
  | some b => cases h; exact ⟨_, rfl⟩
theorem cmpop_bool : ∀ {op : Cop} {a b : D} {M M1 : Hm} {d : D}, cmpop op a b M = .ok d M1 → ∃ b, d = .bl b := by
  intro op a b M M1 d h
  cases op with
  | eq => simp only [cmpop] at h; exact bl_match (f := fun b => b) h
  | ne => simp only [cmpop] at h; exact bl_match h
  | «in» => cases b <;> (simp only [cmpop] at h; exact bl_match (f := fun b => b) h)
  | notin => cases b <;> (simp only [cmpop] at h; exact bl_match h)
  | is => cases b <;> first | (simp only [cmpop] at h; cases h; exact ⟨_, rfl⟩) | (cases a <;> first | (simp only [cmpop] at h; cases h; exact ⟨_, rfl⟩) | cases h)
  | isnot => cases b <;> first | (simp only [cmpop] at h; cases h; exact ⟨_, rfl⟩) | (cases a <;> first | (simp only [cmpop] at h; cases h; exact ⟨_, rfl⟩) | cases h)
  | _ => cases a <;> cases b <;> first | (simp only [cmpop] at h; cases h; exact ⟨_, rfl⟩) | cases h
theorem bind_ok {α β : Type} {r : R α} {f : α → Hm → R β} {b : β} {M1 : Hm} (h : r.bind f = .ok b M1) : ∃ a M, r = .ok a M ∧ f a M = .ok b M1 := by
  cases r with
  | ok a M => exact ⟨a, M, rfl, h⟩
  | _ => cases h
theorem cmp_bool {op : Cop} {a b : Ex} {ρ : Lc} {M M1 : Hm} {d : D} (h : evE C g (.cmp op a b) ρ M = .ok d M1) : ∃ b, d = .bl b := by
  simp only [evE] at h
  obtain ⟨_, _, _, h⟩ := bind_ok h
  obtain ⟨_, _, _, h⟩ := bind_ok h
  exact cmpop_bool h
theorem cmp2_bool {op op' : Cop} {a b c : Ex} {ρ : Lc} {M M1 : Hm} {d : D} (h : evE C g (.cmp2 op op' a b c) ρ M = .ok d M1) : ∃ b, d = .bl b := by
  simp only [evE] at h
  obtain ⟨_, _, _, h⟩ := bind_ok h
  obtain ⟨_, _, _, h⟩ := bind_ok h
  obtain ⟨k, _, _, h⟩ := bind_ok h
  split at h
  · obtain ⟨_, _, _, h⟩ := bind_ok h
    exact cmpop_bool h
  · cases h; exact ⟨_, rfl⟩
  · cases h
theorem t_cmp {a' b' : Expr} {p : Pos} {op : Cop} {a b : Ex} (zK : Z.K = X.K) (hu : X.A.units + 64 < cLine) (ha : PE X a' (tX Z E C g a)) (hb : PE X b' (tX Z E C g b)) (hm : behindInMarks op.py b' = false) : PT X (.Compare a' [op.py] [b'] p) (tT Z E C g (.cmp op a b)) := by
  refine (pt_cmpR (or_cmp (E := E) zK hu op) ha hb hm).weak fun σ H Q h => ?_
  obtain ⟨φ, ρ, M, L, S, o⟩ := t_bool (f := fun _ _ => .stuck) (fun ρ M d M1 => cmp_bool) h
  simp only [evE] at o
  exact Out.next (f := evE C g a) L S o fun φ1 y M1 v H1 s1 L1 S1 r1 o1 => Out.next (f := evE C g b) L1 S1 o1 fun φ2 z M2 w' H2 s2 L2 S2 r2 o2 => ⟨φ2, y, z, M2, S2, r1.step s2, r2, o2⟩
/-! ### arguments, displays, slices -/
theorem s_nil : PA X [] (tXs Z E C g .nil) := pa_nil.weak fun σ H Q ⟨φ, ρ, M, L, S, o⟩ => by
  simp only [evEs] at o
  exact o.here S rfl
theorem s_cons {e : Expr} {es : List Expr} {a : Ex} {l : Exs} (ha : PE X e (tX Z E C g a)) (hl : PA X es (tXs Z E C g l)) (hs : starEach (e :: es) X.env = (false, eval e X.env) :: starEach es X.env) : PA X (e :: es) (tXs Z E C g (.cons a l)) :=
  (pa_cons ha hl hs).weak fun σ H Q ⟨φ, ρ, M, L, S, o⟩ => by
    simp only [evEs] at o
    refine Out.next (f := evE C g a) L S o fun φ1 y M1 v H1 s1 L1 S1 r1 o1 => Out.next (f := evEs C g l) L1 S1 o1 fun φ2 z M2 w' H2 s2 L2 S2 r2 o2 => o2.here S2 (.cons (r1.step s2) r2)
theorem s_tup {es : List Expr} {n : Nat} {p : Pos} {l : Exs} (hl : PA X es (tXs Z E C g l)) : PE X (.Tuple es n p) (tX Z E C g (.tup l)) :=
  (pe_tup hl).weak fun σ H Q ⟨φ, ρ, M, L, S, o⟩ => by
    simp only [evE] at o
    refine Out.next (f := evEs C g l) L S o fun φ1 ds M1 vs H1 s1 L1 S1 r1 o1 => ?_
    split at o1
    · next hl => exact ⟨by rw [r1.length, ← LN_eq]; exact hl, o1.newT S1 r1⟩
    · exact stuckE o1
theorem s_lst {es : List Expr} {p : Pos} {l : Exs} (hl : PA X es (tXs Z E C g l)) : PE X (.List es p) (tX Z E C g (.lst l)) :=
  (pe_lst hl).weak fun σ H Q ⟨φ, ρ, M, L, S, o⟩ => by
    simp only [evE] at o
    refine Out.next (f := evEs C g l) L S o fun φ1 ds M1 vs H1 s1 L1 S1 r1 o1 => ?_
    split at o1
    · next hl => exact ⟨by rw [r1.length, ← LN_eq]; exact hl, o1.newL S1 r1⟩
    · exact stuckE o1
abbrev tO (Z : Zo) (E : XK) (C : Cl) (g : G) (x : Exo) : TO := tE Z E rEqO (evO C g x)
theorem s_onone : PO X none (tO Z E C g .none) := po_none.weak fun σ H Q ⟨φ, ρ, M, L, S, o⟩ => by
  simp only [evO] at o
  exact o.here S rfl
theorem s_osome {e : Expr} {a : Ex} (h : PE X e (tX Z E C g a)) : PO X (some e) (tO Z E C g (.some a)) := (po_some h).weak fun σ H Q ⟨φ, ρ, M, L, S, o⟩ => by
  simp only [evO] at o
  refine Out.next (f := evE C g a) L S o fun φ1 y M1 v H1 s1 L1 S1 r1 o1 => ?_
  split at o1
  · cases r1; exact ⟨_, rfl, o1.here S1 rfl⟩
  · exact o1.elim
theorem s_sl {e : Expr} {lo hi : Option Expr} {p p2 : Pos} {a : Ex} {l h : Exo} (zK : Z.K = X.K) (ha : PE X e (tX Z E C g a)) (hl : PO X lo (tO Z E C g l)) (hh : PO X hi (tO Z E C g h)) : PE X (.Subscript e (.Slice lo hi none p2) p) (tX Z E C g (.sl a l h)) :=
  (pe_slice (sr_sl (E := E) zK) ha hl hh).weak fun σ H Q ⟨φ, ρ, M, L, S, o⟩ => by
    simp only [evE] at o
    refine Out.next (f := evE C g a) L S o fun φ1 y M1 v H1 s1 L1 S1 r1 o1 => Out.next (rep := rEqO) (f := evO C g l) L1 S1 o1 fun φ2 z M2 w' H2 s2 L2 S2 r2 o2 => ?_
    have e2 : w' = z := r2
    subst e2
    refine Out.next (rep := rEqO) (f := evO C g h) L2 S2 o2 fun φ3 z3 M3 w3 H3 s3 L3 S3 r3 o3 => ?_
    have e3 : w3 = z3 := r3
    subst e3
    exact ⟨φ3, y, M3, S3, (r1.step s2).step s3, o3⟩
/-! ### calls of defs -/
theorem s_kwnil : PK X [] (tXs Z E C g .nil) := pk_nil.weak fun σ H Q ⟨φ, ρ, M, L, S, o⟩ => by
  simp only [evEs] at o
  exact o.here S rfl
theorem s_kwcons {nm : Option Str} {e : Expr} {p : Pos} {kws : List Keyword} {a : Ex} {l : Exs} (ha : PE X e (tX Z E C g a)) (hl : PK X kws (tXs Z E C g l)) : PK X (⟨nm, e, p⟩ :: kws) (tXs Z E C g (.cons a l)) :=
  (pk_cons ha hl).weak fun σ H Q ⟨φ, ρ, M, L, S, o⟩ => by
    simp only [evEs] at o
    refine Out.next (f := evE C g a) L S o fun φ1 y M1 v H1 s1 L1 S1 r1 o1 => Out.next (f := evEs C g l) L1 S1 o1 fun φ2 z M2 w' H2 s2 L2 S2 r2 o2 => o2.here S2 (.cons (r1.step s2) r2)
theorem evEs_len : ∀ {l : Exs} {ρ : Lc} {M M1 : Hm} {ds : List D} {kws : List Keyword}, ckEs N sc l (kws.map (·.value)) = true → evEs C g l ρ M = .ok ds M1 → ds.length = kws.length
  | .nil, ρ, M, M1, ds, kws, h, e => by
    simp only [ckEs, List.isEmpty_iff, List.map_eq_nil_iff] at h
    subst h
    simp only [evEs] at e; cases e; rfl
  | .cons a l, ρ, M, M1, ds, [], h, e => by simp [ckEs] at h
  | .cons a l, ρ, M, M1, ds, kw :: kws, h, e => by
    simp only [List.map_cons, ckEs, Bool.and_eq_true] at h
    simp only [evEs] at e
    obtain ⟨_, _, _, e⟩ := bind_ok e
    obtain ⟨_, _, e1, e⟩ := bind_ok e
    cases e
    simp [evEs_len h.2 e1]
theorem s_call (G : Here Z g C k X E N sc) {f : String} {p pos : Pos} {es : List Expr} {kws : List Keyword} {l kw : Exs} {ks : List String} (hg : sc.names.lookup (st f) = some .globalImplicit) (hd : (st f == ("__debug__" : Str)) = false)
    (hk : kwNames kws = ks.map fun k => some (st k)) (hl : ckEs N sc l es = true) (hw : ckEs N sc kw (kws.map (·.value)) = true) (ha : PA X es (tXs Z E C g l)) (hb : PK X kws (tXs Z E C g kw)) : PE X (.Call (.Name (st f) p) es kws pos) (tX Z E C g (.call f l ks kw)) := by
  refine ⟨fun pins s σ H Q I ⟨φ, ρ, M, L, S, o⟩ => ?_⟩
  simp only [evE] at o
  cases hf : g.fn f with
  | none => rw [hf] at o; exact stuckE o
  | some d =>
  rw [hf, opt_some] at o
  split at o
  case isFalse => exact stuckE o
  case isTrue hks =>
  obtain ⟨fd, ps, F⟩ := G.top.fns f d hf
  obtain ⟨k1, k2, k3⟩ := kw_all pos X.env hk
  have klen : ks.length = kws.length := by
    have := congrArg List.length hk
    simpa [kwNames] using this.symm
  have fin : ∀ {s2 : Shared} {vs zs : List V} {us ws : List Value} {H2 : Hp}, Inv X pins σ H2 s2 → Vals vs us → Vals zs ws → (∃ φ2 ds es' M2, SR Z φ2 H2 M2 ∧ Reps Z φ2 H2 ds vs ∧ Reps Z φ2 H2 es' zs ∧ es'.length = ks.length ∧
      Out Z (Rep Z) E φ2 H2 (C f (ds ++ es') M2) Q) → wpAny (model X.prog X.w) X.A (call (.ref (Z.ad f)) us ((ks.map st).zip ws)) (EP X pins σ Q) X.xe s2 :=
    fun {s2 vs zs us ws H2} I2 rv rz ⟨φ2, ds, es', M2, S2, r1, r2, hz, o2⟩ => by
      by_cases hlen : (ds ++ es').length = ps.length
      · exact G.run F hks I2 rv rz (by rw [r2.length, hz]) (by rw [List.length_append, r1.length, r2.length, ← List.length_append]; exact hlen) ⟨φ2, ds ++ es', M2, S2, r1.append r2, o2⟩
      · rw [F.len _ _ hlen] at o2; exact stuckE o2
  have args : tXs Z E C g l σ H fun vs H1 => tXs Z E C g kw σ H1 fun zs H2 => ∃ φ2 ds es' M2, SR Z φ2 H2 M2 ∧ Reps Z φ2 H2 ds vs ∧ Reps Z φ2 H2 es' zs ∧ es'.length = ks.length ∧ Out Z (Rep Z) E φ2 H2 (C f (ds ++ es') M2) Q := by
    refine Out.next (f := evEs C g l) L S o fun φ1 ds M1 vs H1 s1 L1 S1 r1 o1 => ?_
    refine ⟨φ1, ρ, M1, L1, S1, ?_⟩
    cases q : evEs C g kw ρ M1 with
    | ok es' M2 => rw [q] at o1; exact fun φ2 zs H2 s2 S2 r2 => ⟨φ2, ds, es', M2, S2, r1.step s2, r2, (evEs_len hw q).trans klen.symm, Out.step o1 s2⟩
    | exc c fs M2 => rw [q] at o1; exact o1
    | stuck => rw [q] at o1; exact o1
  refine wpAny_Call_Name_kw (ld_glob I (G.gl hg) F.mgf ?_ hd)
  have hkeep : PySem.W.keepIn X.K (.ref (Z.ad f)) = true := by rw [← G.eK]; exact F.kp
  cases es with
  | nil =>
    refine PySem.W.callWith_KW0 (h₀ := X.base) I.ok.mod.kin hkeep k1 ?_ (by rw [k3]; rfl)
    cases l with
    | cons a l => simp [ckEs] at hl
    | nil =>
    obtain ⟨φ0, ρ0, M0, L0, S0, o0⟩ := args
    simp only [evEs] at o0
    refine thn (hb.run pos pins s σ H _ I (o0.here S0 (v := []) rfl)) fun ws s2 ⟨zs, H2, I2, rz, q2⟩ => ⟨I2.kIn, ?_⟩
    rw [k2]
    exact fin I2 .nil rz q2
  | cons e es =>
    cases l with
    | nil => simp [ckEs] at hl
    | cons a l =>
    simp only [ckEs, Bool.and_eq_true] at hl
    refine PySem.W.callWith_KW (h₀ := X.base) I.ok.mod.kin hkeep k1 (thn (ha.run pos pins s σ H _ I args) fun us s1 ⟨vs, H1, I1, rv, q1⟩ => ?_) ?_ (not_star hl.1)
    · refine thn (hb.run pos pins s1 σ H1 _ I1 q1) fun ws s2 ⟨zs, H2, I2, rz, q2⟩ => ⟨I2.kIn, ?_⟩
      rw [k2]
      exact fin I2 rv rz q2
    · rw [not_star hl.1, k3]
      show ((false || (backTo pos (starEach es X.env)).any (·.1)) || false) = false
      rw [plain_args pos X.env hl.2]; rfl
theorem s_calk (G : Here Z g C k X E N sc) {f : String} {p pos : Pos} {es : List Expr} {kws : List Keyword} {l kw : Exs} {ks : List String} (hg : sc.names.lookup (st f) = some .globalImplicit) (hd : (st f == ("__debug__" : Str)) = false)
    (hk : kwNames kws = ks.map fun k => some (st k)) (hl : ckEs N sc l es = true) (hw : ckEs N sc kw (kws.map (·.value)) = true) (ha : PA X es (tXs Z E C g l)) (hb : PK X kws (tXs Z E C g kw)) : PE X (.Call (.Name (st f) p) es kws pos) (tX Z E C g (.calk f l ks kw)) := by
  refine ⟨fun pins s σ H Q I ⟨φ, ρ, M, L, S, o⟩ => ?_⟩
  simp only [evE] at o
  cases hf : g.fn f with
  | none => rw [hf] at o; exact stuckE o
  | some d =>
  rw [hf, opt_some] at o
  obtain ⟨fd, ps, F⟩ := G.top.fns f d hf
  obtain ⟨k1, k2, k3⟩ := kw_all pos X.env hk
  have klen : ks.length = kws.length := by
    have := congrArg List.length hk
    simpa [kwNames] using this.symm
  have fin : ∀ {s2 : Shared} {vs zs : List V} {us ws : List Value} {H2 : Hp}, Inv X pins σ H2 s2 → Vals vs us → Vals zs ws → (∃ φ2 ds es' M2, SR Z φ2 H2 M2 ∧ Reps Z φ2 H2 ds vs ∧ Reps Z φ2 H2 es' zs ∧ es'.length = ks.length ∧
      Out Z (Rep Z) E φ2 H2 (opt (g.sh f ds.length ks) fun pl => opt (plan pl ds es') fun as => C f as M2) Q) → wpAny (model X.prog X.w) X.A (call (.ref (Z.ad f)) us ((ks.map st).zip ws)) (EP X pins σ Q) X.xe s2 :=
    fun {s2 vs zs us ws H2} I2 rv rz ⟨φ2, ds, es', M2, S2, r1, r2, hz, o2⟩ => by
      cases hsh : g.sh f ds.length ks with
      | none => rw [hsh] at o2; exact stuckE o2
      | some pl =>
        rw [hsh, opt_some] at o2
        cases hpl : plan pl ds es' with
        | none => rw [hpl] at o2; exact stuckE o2
        | some as =>
          rw [hpl, opt_some] at o2
          obtain ⟨xs, hxs, rx⟩ := plan_reps r1 r2 hpl
          exact G.runk F hsh I2 rv rz r1.length (by rw [r2.length, hz]) hxs ⟨φ2, as, M2, S2, rx, o2⟩
  have args : tXs Z E C g l σ H fun vs H1 => tXs Z E C g kw σ H1 fun zs H2 => ∃ φ2 ds es' M2, SR Z φ2 H2 M2 ∧ Reps Z φ2 H2 ds vs ∧ Reps Z φ2 H2 es' zs ∧ es'.length = ks.length ∧ Out Z (Rep Z) E φ2 H2 (opt (g.sh f ds.length ks) fun pl => opt (plan pl ds es') fun as => C f as M2) Q := by
    refine Out.next (f := evEs C g l) L S o fun φ1 ds M1 vs H1 s1 L1 S1 r1 o1 => ?_
    refine ⟨φ1, ρ, M1, L1, S1, ?_⟩
    cases q : evEs C g kw ρ M1 with
    | ok es' M2 => rw [q] at o1; exact fun φ2 zs H2 s2 S2 r2 => ⟨φ2, ds, es', M2, S2, r1.step s2, r2, (evEs_len hw q).trans klen.symm, Out.step o1 s2⟩
    | exc c fs M2 => rw [q] at o1; exact o1
    | stuck => rw [q] at o1; exact o1
  refine wpAny_Call_Name_kw (ld_glob I (G.gl hg) F.mgf ?_ hd)
  have hkeep : PySem.W.keepIn X.K (.ref (Z.ad f)) = true := by rw [← G.eK]; exact F.kp
  cases es with
  | nil =>
    refine PySem.W.callWith_KW0 (h₀ := X.base) I.ok.mod.kin hkeep k1 ?_ (by rw [k3]; rfl)
    cases l with
    | cons a l => simp [ckEs] at hl
    | nil =>
    obtain ⟨φ0, ρ0, M0, L0, S0, o0⟩ := args
    simp only [evEs] at o0
    refine thn (hb.run pos pins s σ H _ I (o0.here S0 (v := []) rfl)) fun ws s2 ⟨zs, H2, I2, rz, q2⟩ => ⟨I2.kIn, ?_⟩
    rw [k2]
    exact fin I2 .nil rz q2
  | cons e es =>
    cases l with
    | nil => simp [ckEs] at hl
    | cons a l =>
    simp only [ckEs, Bool.and_eq_true] at hl
    refine PySem.W.callWith_KW (h₀ := X.base) I.ok.mod.kin hkeep k1 (thn (ha.run pos pins s σ H _ I args) fun us s1 ⟨vs, H1, I1, rv, q1⟩ => ?_) ?_ (not_star hl.1)
    · refine thn (hb.run pos pins s1 σ H1 _ I1 q1) fun ws s2 ⟨zs, H2, I2, rz, q2⟩ => ⟨I2.kIn, ?_⟩
      rw [k2]
      exact fin I2 rv rz q2
    · rw [not_star hl.1, k3]
      show ((false || (backTo pos (starEach es X.env)).any (·.1)) || false) = false
      rw [plain_args pos X.env hl.2]; rfl
end
end Rp

namespace Rp
open PySem PySem.Spec PyProof.Rows L2 HT
/-! ## t[::-1] of tuples -/
theorem places_rev (n : Nat) : Builtin.Slice.slicePlaces ((n : Int) - 1) (-1) (-1) = n := by
  unfold Builtin.Slice.slicePlaces
  rw [if_neg (by decide)]
  by_cases h : (n : Int) - 1 > -1
  · rw [if_pos h, show (- -1 : Int) = 1 by decide, Int.ediv_one]; omega
  · rw [if_neg h]; omega
theorem pick_rev (xs : Array Value) : ((List.range xs.size).filterMap fun (m : Nat) => xs[(((xs.size : Int) - 1) + (m : Int) * (-1)).toNat]?).toArray = xs.toList.reverse.toArray := by
  congr 1
  have e : (fun (m : Nat) => xs[(((xs.size : Int) - 1) + (m : Int) * (-1)).toNat]?) = (fun i : Nat => xs[i]?) ∘ fun m : Nat => (((xs.size : Int) - 1) + (m : Int) * (-1)).toNat := rfl
  rw [e, ← List.filterMap_map]
  have e2 : (List.range xs.size).map (fun m : Nat => (((xs.size : Int) - 1) + (m : Int) * (-1)).toNat) = (List.range xs.size).reverse := by
    rw [← PySem.W.krv_range]
    refine List.map_congr_left fun m hm => ?_
    have := List.mem_range.mp hm
    omega
  rw [e2, List.filterMap_reverse, PySem.W.krv_all]
section
variable {prog : Program} {w : World} {A : Around} {E : Value → Shared → Prop} {s : Shared}
theorem sliceApplied_rev {sl : Addr} {vl vu vs : Value} {n : Nat} {Q : Int × Int × Nat → Shared → Prop} (hs : s.heap.IsSliceOf sl vl vu vs) (pl : IsPart vl none) (pu : IsPart vu none) (ps : IsPart vs (some (-1)))
    (h : Q ((n : Int) - 1, -1, n) s) : wpAny (model prog w) A (Builtin.Slice.sliceApplied (.ref sl) (pure (n : Int))) Q E s := by
  obtain ⟨os, hos, hcs, hds⟩ := id hs
  unfold Builtin.Slice.sliceApplied Builtin.Slice.sliceFields
  refine wpAny_bind (wpAny_bind (wpAny_field hos hds (x := vl) rfl (wpAny_bind (wpAny_field hos hds (x := vu) rfl (wpAny_bind (wpAny_field hos hds (x := vs) rfl (wpAny_pure ?_)))))))
  refine wpAny_bind (slicePart_ ps ?_)
  show wpAny _ _ (if ((-1 : Int) == 0) = true then _ else _) _ _ s
  rw [if_neg (by decide)]
  refine wpAny_bind (slicePart_ pl (wpAny_bind (slicePart_ pu (wpAny_bind (wpAny_pure ?_)))))
  show wpAny _ _ (pure ((n : Int) - 1, (-1 : Int), Builtin.Slice.slicePlaces ((n : Int) - 1) (-1) (-1))) _ _ s
  rw [places_rev]
  exact wpAny_pure h
theorem getItem_tuple_rev {t sl : Addr} {items : Array Value} {vl vu vs : Value} {Q : Value → Shared → Prop} (ht : IsTup s.heap t items) (hs : s.heap.IsSliceOf sl vl vu vs) (pl : IsPart vl none) (pu : IsPart vu none) (ps : IsPart vs (some (-1)))
    (h : Q (.ref s.heap.objs.size) { s with heap := s.heap.push { cls := .type "tuple", data := .seq items.toList.reverse.toArray } })
    (hsz : items.size ≤ sizeLine) : wpAny (model prog w) A (getItem (.ref t) (.ref sl)) Q E s := by
  have htake : sizeOk (.seq items.toList.reverse.toArray) := by
    show items.toList.reverse.toArray.size ≤ sizeLine
    rw [List.size_toArray, List.length_reverse, Array.length_toList]
    omega
  obtain ⟨os, hos, hcs, hds⟩ := id hs
  have hTs : s.TypeIs (.ref sl) "slice" := ⟨os, hos, hcs⟩
  unfold getItem
  try with_reducible refine wpAny_holding ?_
  first | refine wpAny_bind (wpAny_pure ?_) | skip
  refine wpAny_bind (wpAny_sequenceKey ht.typeIs (by decide) ?_)
  refine wpAny_bind (wpAny_callSpecial?_slot (name := Str.ofString "__getitem__") ht.typeIs PyProof.Rows.slot_tuple_getitem
    (wpAny_call_entry PyProof.Rows.slot_tuple_getitem ht.typeIs entry_tuple_getitem ?_ (args_tuple_getitem _ _)))
  show wpAny _ _ (Builtin.Tuple.tupleItemsOf (.ref t) >>= _) _ _ s
  refine wpAny_bind (tupleItemsOf_ ht ?_)
  refine wpAny_bind (wpAny_typeOf hTs ?_)
  rw [if_pos (by decide)]
  refine wpAny_bind (sliceApplied_rev hs pl pu ps ?_)
  have hno : ¬ ((((items.size : Int) - 1) == 0 && (-1 : Int) == 1 && items.size == items.size) = true) := by
    intro q
    rw [Bool.and_eq_true, Bool.and_eq_true] at q
    exact absurd q.1.2 (by decide)
  show wpAny _ _ (if (((items.size : Int) - 1) == 0 && (-1 : Int) == 1 && items.size == items.size) = true then _ else _) _ _ s
  rw [if_neg hno, pick_rev]
  first
    | exact wpAny_bind (m := Builtin.Tuple.tupleExact _) (wpAny_newObj_type (wpAny_pure ⟨_, rfl, wpAny_pure h⟩) htake)
    | exact wpAny_bind (m := Builtin.Tuple.tupleExact _) (wpAny_newObj_type (wpAny_bind (wpAny_pure (wpAny_pure ⟨_, rfl, wpAny_pure h⟩))) htake)
    | exact wpAny_bind (wpAny_bind (m := Builtin.Tuple.tupleExact _) (wpAny_newObj_type (wpAny_pure (wpAny_pure ⟨_, rfl, wpAny_pure h⟩)) htake))
    | exact wpAny_bind (wpAny_bind (m := Builtin.Tuple.tupleExact _) (wpAny_newObj_type (wpAny_pure ⟨_, rfl, wpAny_pure h⟩) htake))
end
section
variable {X : Cx}
def tRevT (K : PySem.W.Frag) (te : TE) : TE := fun σ H Q => te σ H fun x H1 => ∃ a xs, x = .ref a ∧ SqT K H1 a xs ∧ ∀ p, H1 p = none → Q (.ref p) (upd H1 p (.tup xs.reverse))
theorem pe_revT {e : Expr} {te : TE} {k : Nat} {p1 p2 p3 pos : Pos} (he : PE X e te) : PE X (.Subscript e (.Slice none none (some (.UnaryOp .USub (.Constant (.int 1) k p1) p2)) p3) pos) (tRevT X.K te) := by
  refine ⟨fun pins s σ H Q I h => ?_⟩
  refine Subscript_ (thn (he.run pins s σ H _ I h) fun v s1 ⟨x, H1, I1, r1, q1⟩ => ?_)
  obtain ⟨a, xs, ex, hx, q⟩ := q1
  subst ex
  cases r1
  have hst : PO X (some (.UnaryOp .USub (.Constant (.int 1) k p1) p2)) (tPart (tUn (rU fun i => .int (-i)) (tC (.int 1)))) := po_some (pe_un un_neg pe_int)
  refine wpAny_Slice (thn (po_none.run pins s1 σ H1 (fun o H2 => o = none ∧ H2 = H1) I1 ⟨rfl, rfl⟩) fun vl s2 ⟨l, H2, I2, pl, el, e2⟩ => ?_)
  subst el e2
  refine thn (po_none.run pins s2 σ H2 (fun o H3 => o = none ∧ H3 = H2) I2 ⟨rfl, rfl⟩) fun vu s3 ⟨u, H3, I3, pu, eu, e3⟩ => ?_
  subst eu e3
  refine thn (hst.run pins s3 σ H3 (fun o H4 => o = some (-1) ∧ H4 = H3) I3 ⟨1, rfl, -1, rfl, rfl, rfl⟩) fun vs s4 ⟨o, H4, I4, ps, eo, e4⟩ => ?_
  subst eo e4
  have I5 : Inv X pins σ H4 { s4 with heap := s4.heap.push { cls := .type "slice", data := .fields #[vl, vu, vs] } } := I4.kept (t' := s4.toks) fun b ob q => Heap.get?_push_of_some _ q
  obtain ⟨its, r, ht, hz⟩ := I5.tuple hx
  have hlen := r.length
  show wpAny (model X.prog X.w) X.A (subscriptTail e (.Slice none none (some (.UnaryOp .USub (.Constant (.int 1) k p1) p2)) p3) (.ref a) (.ref s4.heap.objs.size)) (EP X pins σ Q) X.xe { s4 with heap := s4.heap.push { cls := .type "slice", data := .fields #[vl, vu, vs] } }
  refine tail_any (ops := [.ref a, .ref s4.heap.objs.size]) ht.typeIs (PyProof.Rows.slot_tuple_getitem.lookup) ?_ (by with_unfolding_all rfl)
  refine getItem_tuple_rev ht (Heap.IsSliceOf.new _ vl vu vs) pl pu ps ?_ (by rw [List.size_toArray]; omega)
  refine ⟨.ref _, _, I5.laid (t' := s4.toks) (o := .tup xs.reverse) (fun b ob q => Heap.get?_push_of_some _ q) (Nat.le_refl _) ?_, rfl, q _ (I5.hok.fresh (Nat.le_refl _))⟩
  exact ⟨by rw [List.length_reverse]; exact hz, _, r.reverse, IsTup.new _ _⟩
end
section
variable {Z : Zo} {g : G} {C : Cl} {X : Cx} {E : XK}
theorem reps_rev {φ : List Addr} {H : Hp} : ∀ {l : List D} {vs : List V}, Reps Z φ H l vs → Reps Z φ H l.reverse vs.reverse
  | [], _, h => by cases (show _ = _ from h); exact .nil
  | a :: l, _, h => by
    obtain ⟨v, ws, rfl, r, h⟩ := h
    rw [List.reverse_cons, List.reverse_cons]
    exact (reps_rev h).append (.cons r .nil)
theorem s_rev {e : Expr} {k : Nat} {p1 p2 p3 pos : Pos} {a : Ex} (zK : Z.K = X.K) (ha : PE X e (tX Z E C g a)) : PE X (.Subscript e (.Slice none none (some (.UnaryOp .USub (.Constant (.int 1) k p1) p2)) p3) pos) (tX Z E C g (.rev a)) :=
  (pe_revT ha).weak fun σ H Q ⟨φ, ρ, M, L, S, o⟩ => by
    simp only [evE] at o
    refine Out.next (f := evE C g a) L S o fun φ1 y M1 v H1 s1 L1 S1 r1 o1 => ?_
    cases y with
    | tup l =>
      obtain ⟨p, vs, rfl, hq, hr⟩ := id r1
      exact ⟨p, vs, rfl, zK ▸ tup_tuple hq, o1.newT S1 (reps_rev hr)⟩
    | _ => exact stuckE o1
end
end Rp

namespace Rp
open PySem PySem.Spec PyProof.Rows L2

section
variable {Z : Zo} {g : G} {C : Cl} {k : Nat} {X : Cx} {E : XK} {N : List Str} {sc : Scope}
/-! ### built-ins, isinstance, methods -/
theorem s_bi (G : Here Z g C k X E N sc) {b : Bi} {p pos : Pos} {es : List Expr} {l : Exs} (hg : sc.names.lookup (st b.nm) = some .globalImplicit) (hd : (st b.nm == ("__debug__" : Str)) = false) (hn : st b.nm ≠ "__name__")
    (hl : ckEs N sc l es = true) (ha : PA X es (tXs Z E C g l)) : PE X (.Call (.Name (st b.nm) p) es [] pos) (tX Z E C g (.bi b l)) := by
  cases es with
  | nil =>
    cases l with
    | cons a l => simp [ckEs] at hl
    | nil =>
      refine ⟨fun pins s σ H Q I ⟨φ, ρ, M, L, S, o⟩ => ?_⟩
      simp only [evE, evEs, R.ok_bind, biop] at o
      exact stuckE o
  | cons e es =>
    cases l with
    | nil => simp [ckEs] at hl
    | cons a l =>
      simp only [ckEs, Bool.and_eq_true] at hl
      exact s_args (f := biop b) (call_one (cb_bi G.eP G.eK G.calm G.hu G.gu G.eW b) (bi_kind b) (G.gl hg) (G.top.blt _ (bi_mem b)) (bi_boot b) hn hd ha (not_star hl.1) (plain_args pos X.env hl.2)) fun ρ M => by simp only [evE]
theorem ty_boot {t : String} (h : t ∈ TY) : bootBuiltins (st t) = some (.type t) := by
  simp only [TY, List.mem_cons, List.not_mem_nil, or_false] at h
  rcases h with rfl | rfl | rfl | rfl | rfl | rfl
  · exact PyProof.Rows.boot_str
  · exact PyProof.Rows.boot_int
  · exact PyProof.Rows.boot_bool
  · exact PyProof.Rows.boot_tuple
  · exact PyProof.Rows.boot_list
  · exact PyProof.Rows.boot_dict
theorem ty_blt {t : String} (h : t ∈ TY) : t ∈ BLT := by
  simp only [TY, List.mem_cons, List.not_mem_nil, or_false] at h
  rcases h with rfl | rfl | rfl | rfl | rfl | rfl <;> decide
/-- names of types, one after another -/
theorem s_tys (G : Here Z g C k X E N sc) : ∀ {ts : List String} {es : List Expr}, tyNames sc ts es = true → PA X es (fun σ H Q => Q (ts.map V.ty) H) ∧ (∀ t ∈ ts, t ∈ TY)
  | [], [], _ => ⟨pa_nil.weak fun σ H Q q => q, by simp⟩
  | [], _ :: _, h => by simp [tyNames] at h
  | _ :: _, [], h => by simp [tyNames] at h
  | t :: ts, e :: es, h => by
    simp only [tyNames, Bool.and_eq_true, decide_eq_true_eq] at h
    obtain ⟨⟨h1, h2⟩, h3⟩ := h
    obtain ⟨p, rfl, hg, hd, hn⟩ := isName_iff h1
    obtain ⟨i1, i2⟩ := s_tys G h3
    refine ⟨(pa_cons (pe_bltn (v := .ty t) (G.gl hg) (G.top.blt _ (ty_blt h2)) (ty_boot h2) rfl hn hd) i1 rfl).weak fun σ H Q q => q, fun x hx => ?_⟩
    rcases List.mem_cons.mp hx with rfl | hx
    · exact h2
    · exact i2 x hx
theorem isi_nm (G : Here Z g C k X E N sc) : X.mg (st "isinstance") = none := G.top.blt _ (by decide)
theorem isi_of {M : Hm} {d : D} {ts : List String} {b : Bool} (h : isty M d ts = some b) : ∃ n, tyOf M d = some n ∧ b = ts.any fun t => istyN n t := by
  unfold isty at h
  cases q : tyOf M d with
  | none => rw [q] at h; cases h
  | some n => rw [q] at h; cases h; exact ⟨n, rfl, rfl⟩
theorem s_isiT (G : Here Z g C k X E N sc) {p pos tp : Pos} {kk : Nat} {a' : Expr} {es : List Expr} {a : Ex} {ts : List String} (hg : sc.names.lookup (st "isinstance") = some .globalImplicit) (ht : tyNames sc ts es = true) (hfew : ts.length ≤ 20) (ha : PE X a' (tX Z E C g a))
    (hs : starEach (a' :: [.Tuple es kk tp]) X.env = (false, eval a' X.env) :: starEach [.Tuple es kk tp] X.env) : PE X (.Call (.Name (st "isinstance") p) [a', .Tuple es kk tp] [] pos) (tX Z E C g (.isi a ts)) := by
  obtain ⟨h1, h2⟩ := s_tys G ht
  have hm : X.mg ("isinstance" : Str) = none := isi_nm G
  refine (pe_callB call_isiT (G.gl hg) hm PyProof.Rows.boot_isinstance (pa_cons ha (pa_cons (pe_tup h1) pa_nil) hs) (by decide) (by decide) hs rfl).weak fun σ H Q ⟨φ, ρ, M, L, S, o⟩ => ?_
  simp only [evE] at o
  refine Out.next (f := evE C g a) L S o fun φ1 y M1 v H1 s1 L1 S1 r1 o1 => ?_
  cases q : isty M1 y ts with
  | none => rw [q] at o1; exact stuckE o1
  | some b =>
    rw [q] at o1
    obtain ⟨n, hn, rfl⟩ := isi_of q
    obtain ⟨t1, t2⟩ := ty_ok S1 hn r1
    refine ⟨?_, fun tp hp => ?_⟩
    · rw [List.length_map]
      exact Nat.le_trans hfew (by rw [sizeLine_eq]; decide)
    obtain ⟨st', S'⟩ := S1.laid (ho := .tup (ts.map V.ty)) hp
    obtain ⟨t1, _⟩ := ty_ok S' hn (r1.step st')
    refine ⟨v, tp, ts.map V.ty, .type n, ts.map .type, _, rfl, upd_same, ?_, by rw [← G.eK]; exact t1, kit_any t2 h2, ?_⟩
    · have : ∀ l : List String, Paired ClsV (l.map V.ty) (l.map Value.type) := by
        intro l
        induction l with
        | nil => exact .nil
        | cons a l ih => exact .cons (.ty a) ih
      exact this ts
    · exact o1 φ1 _ _ st' S' rfl
theorem s_isi (G : Here Z g C k X E N sc) {p pos : Pos} {a' t' : Expr} {a : Ex} {ts : List String} (hg : sc.names.lookup (st "isinstance") = some .globalImplicit) (ht : tyNames sc ts [t'] = true) (ha : PE X a' (tX Z E C g a))
    (hs : starEach (a' :: [t']) X.env = (false, eval a' X.env) :: starEach [t'] X.env) : PE X (.Call (.Name (st "isinstance") p) [a', t'] [] pos) (tX Z E C g (.isi a ts)) := by
  match ts, ht with
  | [], h => simp [tyNames] at h
  | _ :: _ :: _, h => simp [tyNames] at h
  | [t], h =>
  obtain ⟨h1, h2⟩ := s_tys G h
  have hm : X.mg ("isinstance" : Str) = none := isi_nm G
  have hp : ∀ pos, (backTo pos (starEach [t'] X.env)).any (·.1) = false := by
    simp only [tyNames, Bool.and_eq_true] at h
    obtain ⟨p, rfl, _⟩ := isName_iff h.1.1
    intro _; rfl
  refine (pe_callB call_isi (G.gl hg) hm PyProof.Rows.boot_isinstance (pa_cons ha h1 hs) (by decide) (by decide) hs (hp _)).weak fun σ H Q ⟨φ, ρ, M, L, S, o⟩ => ?_
  simp only [evE] at o
  refine Out.next (f := evE C g a) L S o fun φ1 y M1 v H1 s1 L1 S1 r1 o1 => ?_
  cases q : isty M1 y [t] with
  | none => rw [q] at o1; exact stuckE o1
  | some b =>
    rw [q] at o1
    obtain ⟨n, hn, rfl⟩ := isi_of q
    obtain ⟨t1, t2⟩ := ty_ok S1 hn r1
    have hb := kit_of t2 (h2 t (by simp))
    refine ⟨v, .ty t, .type n, .type t, _, rfl, .ty t, by rw [← G.eK]; exact t1, kit_ty hb, ?_⟩
    have := o1.here S1 (v := V.bl ([t].any fun t => istyN n t)) rfl
    simpa using this
theorem attr_base {e : Expr} (h : notCall0 e = true) (n : Str) (env : Env) : attributeBase e n env (eval e env) = eval e env := by
  cases e with
  | Call f args kws p =>
    cases args with
    | cons a l => cases f <;> first | rfl | (cases kws <;> rfl)
    | nil =>
      cases kws with
      | cons a l => cases f <;> rfl
      | nil =>
        cases f with
        | Name id q => cases h
        | _ => rfl
  | _ => rfl
/-- the types of receivers -/
theorem recv_ty {φ : List Addr} {H : Hp} {M : Hm} (S : SR Z φ H M) {d : D} {v : V} {T : String} (h : tyOf M d = some T) (r : Rep Z φ H d v) (hT : T = "list" ∨ T = "str") : tyV Z.K T v H := by
  cases d with
  | str z => cases h; cases r; rfl
  | rol l =>
    cases h
    obtain ⟨a, vs, rfl, q, _⟩ := r
    exact .inl ⟨rfl, vs, rol_list q⟩
  | ref m =>
    simp only [tyOf] at h
    split at h
    · next l hl =>
      cases h
      obtain ⟨a, vs, _, rfl, q, _⟩ := S.lst hl r
      exact .inl ⟨rfl, vs, .of q⟩
    · cases h; rcases hT with h | h <;> simp at h
    · cases h
  | non => cases h; rcases hT with h | h <;> simp at h
  | bl _ => cases h; rcases hT with h | h <;> simp at h
  | int _ => cases h; rcases hT with h | h <;> simp at h
  | tup _ => cases h; rcases hT with h | h <;> simp at h
  | _ => cases h
theorem mt_append' : MtR X "list.append" (fun x vs H Q => ∃ φ a d M, SR Z φ H M ∧ Rep Z φ H a x ∧ Reps Z φ H [d] vs ∧ Out Z (Rep Z) E φ H (mAppend a d M) Q) := by
  intro pins s σ H x xs v us Q I rx rxs ⟨φ, a, d, M, S, ra, rd, o⟩
  cases a with
  | ref n =>
    simp only [mAppend] at o
    split at o
    · next l hl =>
      split at o
      · next hz =>
        obtain ⟨b, vs, hb, rfl, q, rr⟩ := S.lst hl ra
        obtain ⟨y, rfl, ry⟩ := rd.one
        refine mt_append pins s σ H _ _ v us Q I rx rxs ⟨b, vs, y, rfl, rfl, q, by rw [rr.length, ← LN_eq]; exact hz, ?_⟩
        obtain ⟨st', S'⟩ := S.set (o := .lst (l ++ [d])) (ho := .lst (vs ++ [y])) hb trivial fun st' => ⟨_, upd_same, (rr.step st').append (.cons (ry.step st') .nil)⟩
        exact o _ _ _ st' S' rfl
      · exact stuckE o
    · exact stuckE o
  | _ => exact stuckE o
theorem mt_count' (zK : Z.K = X.K) : MtR X "list.count" (fun x vs H Q => ∃ φ a d M, SR Z φ H M ∧ Rep Z φ H a x ∧ Reps Z φ H [d] vs ∧ Out Z (Rep Z) E φ H (mCount a d M) Q) := by
  intro pins s σ H x xs v us Q I rx rxs ⟨φ, a, d, M, S, ra, rd, o⟩
  cases a with
  | ref n =>
    cases d with
    | int kk =>
      simp only [mCount] at o
      split at o
      · next l hl =>
        split at o
        · next zs hz =>
          obtain ⟨b, vs, hb, rfl, q, rr⟩ := S.lst hl ra
          obtain ⟨y, rfl, ry⟩ := rd.one
          cases ry
          have hv := ints_rep rr hz
          subst hv
          exact mt_lcount pins s σ H _ _ v us Q I rx rxs ⟨b, zs, kk, rfl, rfl, .inl (.inl q), o.here S rfl⟩
        · exact stuckE o
      · exact stuckE o
    | _ => exact stuckE o
  | _ => exact stuckE o
set_option maxRecDepth 8000 in
theorem ext_tup (l : Addr) (items : Array Value) (n : Nat) (b : Addr) (items2 : Array Value) (n2 : Nat) (dd : Option Addr) (sl : Array (Option Value)) (hs0 : ¬(!items.isEmpty && Builtin.List.listTooLong (items.size + items2.size)) = true) (hs1 : items.size ≤ sizeLine) (hs2 : items.size + items2.size ≤ sizeLine + 1) :
    Meets (Builtin.«list.extend» ⟨[.ref l, .ref b], []⟩) (fun _ R s => s.heap.get? l = some { cls := .type "list", dict := none, data := .seq items n, slots := #[] } ∧ s.heap.get? b = some { cls := .type "tuple", dict := dd, data := .seq items2 n2, slots := sl } ∧ R (.ok (.ret Value.none)) { s with heap := s.heap.update l (Obj.mapSeq fun x => x ++ items2), toks := s.toks }) :=
  .of_wp fun prog w A R s h => by
    obtain ⟨hp, g, d, tk, os⟩ := s; obtain ⟨hl, hb, h⟩ := h; have f1 := AutoSeq1.idx_int; have f2 := AutoSeq1.sub_tuple_tuple; have f3 := AutoSeq1.sub_list_list; have f4 := AutoSeq1.sub_tuple_list; have f5 := AutoSeq1.sub_list_tuple;
    have hz' : (items ++ items2).size ≤ sizeLine + 1 := by rw [Array.size_append]; exact hs2
    wp_walk using (wpAny_updateSeq hl rfl (hz := hs1) (_hz' := hz')), wpAny_loadPart' hl, wpAny_loadPart' hb; exact ⟨_, rfl, h⟩
def rExtendT (K : PySem.W.Frag) : V → List V → Hp → VK → Prop := fun x vs H Q => ∃ l b xs zs, x = .ref l ∧ vs = [.ref b] ∧ H l = some (.lst xs) ∧ SqT K H b zs ∧ xs.length + zs.length ≤ sizeLine ∧ Q .non (upd H l (.lst (xs ++ zs)))
theorem mt_extendT : MtM X "list.extend" (rExtendT X.K) := by
  intro pins s σ H x vs v us Q I rx rv h
  obtain ⟨l, b, xs, zs, rfl, rfl, hH, hB, hz, q⟩ := h
  cases rx
  obtain ⟨u, rfl, ru⟩ := rv.one
  cases ru
  obtain ⟨z, its, n, r, hl, e⟩ := I.lstM hH
  obtain ⟨its2, r2, ⟨⟨oc, od, odat, osl⟩, e2, ec, n2, ed⟩, hz2⟩ := I.tuple hB
  have ec : oc = Value.type "tuple" := ec
  have ed : odat = Data.seq its2.toArray n2 := ed
  subst ec ed
  have l1 := r.length
  have l2 := r2.length
  have hsz : its.toArray.size + its2.toArray.size ≤ sizeLine := by rw [List.size_toArray, List.size_toArray]; omega
  have hlong : ¬ (!its.toArray.isEmpty && Builtin.List.listTooLong (its.toArray.size + its2.toArray.size)) = true := by
    rw [notLongL hsz, Bool.and_false]
    exact Bool.false_ne_true
  refine call_meets F.slot_list_extend ⟨_, e, rfl⟩ F.entry_list_extend (F.args_list_extend_2 _ _)
    (ext_tup l its.toArray n b its2.toArray n2 od osl hlong (by rw [List.size_toArray]; omega) (by omega)) ⟨e, e2, ?_⟩
  refine ⟨.non, _, I.lset (its' := its ++ its2) hH e (by simp) (r.append r2) ?_, rfl, q⟩
  rw [List.length_append]
  omega
theorem mt_extend' (zK : Z.K = X.K) : MtR X "list.extend" (fun x vs H Q => ∃ φ a d M, SR Z φ H M ∧ Rep Z φ H a x ∧ Reps Z φ H [d] vs ∧ Out Z (Rep Z) E φ H (mExtend a d M) Q) := by
  intro pins s σ H x xs v us Q I rx rxs ⟨φ, a, d, M, S, ra, rd, o⟩
  cases a with
  | ref n =>
    simp only [mExtend] at o
    split at o
    · next l hl =>
      cases d with
      | ref m =>
        simp only at o
        split at o
        · next r hr =>
          split at o
          · next hz =>
            obtain ⟨b, vs, hb, rfl, q, rr⟩ := S.lst hl ra
            obtain ⟨y, rfl, ry⟩ := rd.one
            obtain ⟨c, ws, hc, rfl, q2, rr2⟩ := S.lst hr ry
            refine mt_extend pins s σ H _ _ v us Q I rx rxs ⟨b, c, vs, ws, rfl, rfl, q, q2, by rw [rr.length, rr2.length, ← LN_eq]; exact hz, ?_⟩
            obtain ⟨st', S'⟩ := S.set (o := .lst (l ++ r)) (ho := .lst (vs ++ ws)) hb trivial fun st' => ⟨_, upd_same, (rr.step st').append (rr2.step st')⟩
            exact o _ _ _ st' S' rfl
          · exact stuckE o
        · exact stuckE o
      | tup r =>
        simp only at o
        split at o
        · next hz =>
          obtain ⟨b, vs, hb, rfl, q, rr⟩ := S.lst hl ra
          obtain ⟨y, rfl, ry⟩ := rd.one
          obtain ⟨c, ws, rfl, q2, rr2⟩ := ry
          refine mt_extendT pins s σ H _ _ v us Q I rx rxs ⟨b, c, vs, ws, rfl, rfl, q, zK ▸ tup_tuple q2, by rw [rr.length, rr2.length, ← LN_eq]; exact hz, ?_⟩
          obtain ⟨st', S'⟩ := S.set (o := .lst (l ++ r)) (ho := .lst (vs ++ ws)) hb trivial fun st' => ⟨_, upd_same, (rr.step st').append (rr2.step st')⟩
          exact o _ _ _ st' S' rfl
        · exact stuckE o
      | _ => exact stuckE o
    · exact stuckE o
  | _ => exact stuckE o
theorem mt_join' (zK : Z.K = X.K) : MtR X "str.join" (fun x vs H Q => ∃ φ a d M, SR Z φ H M ∧ Rep Z φ H a x ∧ Reps Z φ H [d] vs ∧ Out Z (Rep Z) E φ H (mJoin a d M) Q) := by
  intro pins s σ H x xs v us Q I rx rxs ⟨φ, a, d, M, S, ra, rd, o⟩
  cases a with
  | str z =>
    cases ra
    simp only [mJoin] at o
    cases q : seq? M d with
    | none => rw [q] at o; exact stuckE o
    | some l =>
      rw [q, Option.bind_some] at o
      cases q2 : strs? l with
      | none => rw [q2] at o; exact stuckE o
      | some ss =>
        rw [q2, opt_some] at o
        split at o
        · next hz =>
          obtain ⟨y, rfl, ry⟩ := rd.one
          obtain ⟨b, vs, rfl, q3, rr⟩ := S.seq q ry
          have := strs_rep rr q2
          subst this
          refine mt_join pins s σ H _ _ v us Q I rx rxs ⟨_, b, strV ss, rfl, rfl, zK ▸ q3, ?_, by rw [joined_eq]; exact o.here S rfl⟩
          rw [strV_length, strlen]
          have : ((strV ss).map (·.length)) = ss.map (·.length) := by unfold strV; rw [List.map_map]; exact List.map_congr_left fun a _ => strlen a
          rw [this]; exact hz
        · exact stuckE o
  | _ => exact stuckE o
theorem few_args {es : List Expr} {l : Exs} {env : Env} {cp : Pos} (hl : ckEs N sc l es = true) (h : es.length < 20) : ((backTo cp (starEach es env)).all (fun x => !x.1) && (backToKw cp (keywordEach [] env)).all (fun x => x.1.isSome)
      && decide (es.length + ([] : List Keyword).length + (if ([] : List Keyword).isEmpty then 0 else 1) < 30)) = true := by
  have h1 := plain_args cp env hl
  have h2 : (backTo cp (starEach es env)).all (fun x => !x.1) = true := by
    rw [List.all_eq_true]
    intro x hx
    have := List.any_eq_false.mp h1 x hx
    simpa using this
  rw [h2]
  have : (backToKw cp (keywordEach [] env)).all (fun x => x.1.isSome) = true := rfl
  rw [this]
  simp; omega
/-- a method by its type -/
theorem s_mt (G : Here Z g C k X E N sc) {m : Me} {T id : String} {o' : Expr} {ap cp : Pos} {e : Expr} {es : List Expr} {o : Ex} {l : Exs} {f : D → D → Hm → R D} (pa : PlainAttrs T) (slot : Slot T (st m.nm) id) (hty : typeOf (.builtin id) = pure (.type "method_descriptor"))
    (hm : MtR X id (fun x vs H Q => ∃ φ a d M, SR Z φ H M ∧ Rep Z φ H a x ∧ Reps Z φ H [d] vs ∧ Out Z (Rep Z) E φ H (f a d M) Q)) (hT : T = "list" ∨ T = "str")
    (h1 : ∀ T' a ds M, T' ≠ T → meop m T' a ds M = .stuck) (h2 : ∀ a d M, meop m T a [d] M = f a d M) (h3 : ∀ T' a ds M, ds.length ≠ 1 → meop m T' a ds M = .stuck)
    (ho : PE X o' (tX Z E C g o)) (ha : PA X (e :: es) (tXs Z E C g l)) (hb : attributeBase o' (st m.nm) X.env (eval o' X.env) = eval o' X.env) (hl : ckEs N sc l (e :: es) = true) (hfew : (e :: es).length < 20) (hline : (ap.endLine == cp.line) = true) :
    PE X (.Call (.Attribute o' (st m.nm) ap) (e :: es) [] cp) (tX Z E C g (.me m o l)) := by
  have hs : starEach (e :: es) X.env = (false, eval e X.env) :: starEach es X.env ∧ (backTo cp (starEach es X.env)).any (·.1) = false := by
    cases l with
    | nil => simp [ckEs] at hl
    | cons a l =>
      have hl' := hl
      simp only [ckEs, Bool.and_eq_true] at hl'
      exact ⟨not_star hl'.1, plain_args cp X.env hl'.2⟩
  refine (pe_bm pa slot hty hm ho ha hb (few_args hl hfew) hline hs.1 hs.2).weak fun σ H Q ⟨φ, ρ, M, L, S, oo⟩ => ?_
  simp only [evE] at oo
  refine Out.next (f := evE C g o) L S oo fun φ1 y M1 v H1 s1 L1 S1 r1 o1 => ?_
  cases q : tyOf M1 y with
  | none => rw [q] at o1; exact stuckE o1
  | some T' =>
    rw [q, opt_some] at o1
    by_cases hTT : T' = T
    · subst hTT
      refine ⟨G.eK ▸ recv_ty S1 q r1 hT, Out.next (f := evEs C g l) L1 S1 o1 fun φ2 ds M2 vs H2 s2 L2 S2 r2 o2 => ?_⟩
      match ds, r2, o2 with
      | [d], r2, o2 => rw [h2] at o2; exact ⟨φ2, y, d, M2, S2, r1.step s2, r2, o2⟩
      | [], r2, o2 => rw [h3 _ _ _ _ (by simp)] at o2; exact stuckE o2
      | _ :: _ :: _, r2, o2 => rw [h3 _ _ _ _ (by simp)] at o2; exact stuckE o2
    · exfalso
      cases q2 : evEs C g l ρ M1 with
      | ok ds M2 => rw [q2, R.ok_bind, h1 _ _ _ _ hTT] at o1; exact o1
      | exc c fs M2 => rw [q2] at o1; exact o1
      | stuck => rw [q2] at o1; exact o1
end
end Rp

namespace PySem
open Sem (wp)
set_option maxHeartbeats 1000000 in
theorem meets_enumerate_newB1 {v : Value} {o : Obj} {H : Heap → Prop} (B : Begins v o H) :
    Meets (Builtin.«enumerate.__new__» ⟨[.type "enumerate", v], []⟩) (fun _ R s => H s.heap ∧
      R (.ok (.ret (.ref (s.heap.push o).objs.size))) { s with heap := (s.heap.push o).push { cls := .type "enumerate", data := .fields #[.none, .bool false, .ref s.heap.objs.size, rawInt 0, .none, .none] } }) :=
  .of_wp fun prog w A R s h => by
    obtain ⟨hp, g, d, tk, os⟩ := s; obtain ⟨h1, h⟩ := h
    have hsub := sub_enumerate
    have q1 : ∀ {A' : Around} {E : Value → Shared → Prop} {Q : Value → Shared → Prop}, Q (.ref hp.objs.size) ⟨hp.push o, g, d, tk, os⟩ → wpAny (model prog w) A' (pyIter v) Q E ⟨hp, g, d, tk, os⟩ :=
      fun q => B.iter prog w _ _ ⟨hp, g, d, tk, os⟩ _ h1 q
    wp_walk using q1
    refine wpAny_stack_any fun st => wpAny_pure ?_
    split
    · rename_i c _ _ _ _ _
      cases (c == Value.type "enumerate")
      · wp_walk using q1
        exact ⟨_, rfl, h⟩
      · wp_walk using q1
        exact ⟨_, rfl, h⟩
    · wp_walk using q1
      exact ⟨_, rfl, h⟩
section
variable {prog : Program} {w : World} {A : Around} {E : Value → Shared → Prop} {s : Shared}
/-- enumerate(v): its two new cells -/
theorem enum_begins1 {v : Value} {o : Obj} {H : Heap → Prop} {Q : Value → Shared → Prop} (B : Begins v o H) (h1 : H s.heap)
    (h : ∀ h', IsEnum h' (s.heap.objs.size + 1) s.heap.objs.size 0 .none → h'.get? s.heap.objs.size = some o → h'.objs.size = s.heap.objs.size + 2 →
      (∀ b o, s.heap.get? b = some o → h'.get? b = some o) → Q (.ref (s.heap.objs.size + 1)) { s with heap := h' }) :
    wpAny (model prog w) A (call (.type "enumerate") [v]) Q E s := by
  refine callType_new F.called_enumerate (by decide) (F.typeCall_enumerate_1 _) (F.newCall_enumerate_1 _) (fun obj => F.args_object_init_2 obj _) F.entry_enumerate_new
    (meets_enumerate_newB1 B) ⟨h1, ?_⟩
  have hz : (s.heap.push o).objs.size = s.heap.objs.size + 1 := Heap.size_push ..
  show _ ∧ _
  rw [hz]
  have he : IsEnum ((s.heap.push o).push { cls := .type "enumerate", data := .fields #[.none, .bool false, .ref s.heap.objs.size, rawInt 0, .none, .none] }) (s.heap.objs.size + 1) s.heap.objs.size 0 .none := by
    have := Heap.get?_push_size (s.heap.push o) (o := { cls := .type "enumerate", data := .fields #[.none, .bool false, .ref s.heap.objs.size, rawInt 0, .none, .none] }) rfl
    rw [hz] at this; exact this
  refine ⟨⟨_, he, rfl⟩, h _ he (Heap.get?_push_of_some _ (Heap.get?_push_size _ B.free)) (by rw [Heap.size_push, hz]) fun b o x => Heap.get?_push_of_some _ (Heap.get?_push_of_some _ x)⟩
theorem wpAny_pyNext_enum_endT {e it t : Addr} {i : Nat} {items : Array Value} {old : Value} {Q : Option Value → Shared → Prop} (hh : A.handled = none)
    (he : IsEnum s.heap e it i old) (hit : s.heap.IsTupleIter it t i) (ht : s.heap.IsTuple t items) (hx : items[i]? = none)
    (hQ : ∀ h', Heap.ExtBut it s.heap h' → Q none { s with heap := h' }) : wpAny (model prog w) A (pyNext (.ref e)) Q E s := by
  have hT : s.TypeIs (.ref e) "enumerate" := ⟨_, he, rfl⟩
  unfold pyNext
  refine wpAny_bind (wpAny_attempt (wpAny_callSpecial?_slot (name := Str.ofString "__next__") hT F.slot_enumerate_next
    (wpAny_call_entry F.slot_enumerate_next hT F.entry_enumerate_next ?_ (F.args_enumerate_next_1 _))))
  show wpAny _ _ (field (.ref e) 2 >>= _) _ _ _
  refine wpAny_bind (wpAny_field he rfl (x := .ref it) rfl ?_)
  refine wpAny_bind (wpAny_nextOf_tuple_end hh hit ht hx fun h' x he' hx' => ?_)
  obtain ⟨o, ho, hc⟩ := hx'
  refine wpAny_bind (wpAny_isInstance (T := "StopIteration") (b := true) ⟨o, ho, hc⟩ isSubtype_stop ?_)
  exact wpAny_pure (hQ _ he')
end
end PySem
namespace Rp
open PySem PySem.Spec PyProof.Rows L2
/-- the tuple at a as it stands at each turn, each item in a new pair -/
def IteT (K : PySem.W.Frag) (a : Addr) : L2.It :=
  ⟨fun i H => ∃ (xs : List V) (x : V), SqT K H a xs ∧ xs[i]? = some x, fun i H v H' => ∃ T x, v = .ref T ∧ H T = none ∧ H' = upd H T (.tup [.int (i : Nat), x]) ∧ ∀ xs, SqT K H a xs → xs[i]? = some x, fun i H => ∃ xs : List V, SqT K H a xs ∧ xs.length ≤ i⟩
theorem turn_enumT {P : Program} {w : World} {K : PySem.W.Frag} {elts : List Expr} {kk : Nat} {tpos : Pos} (a e it : Addr) :
    Turn P w K (.Tuple elts kk tpos) (IteT K a) [e, it] e (fun i h => (∃ old, IsEnum h e it ((i : Nat) : Int) old) ∧ h.IsTupleIter it a i ∧ e ≠ it ∧ a ≠ it ∧ e ≠ a) where
  mem := by simp
  obj := fun i h st b hb => by
    obtain ⟨⟨old, he⟩, ⟨o, ho, hc, hd⟩, _⟩ := st
    have e' : b = e ∨ b = it := by simpa using hb
    rcases e' with z | z
    · rw [z]; exact ⟨_, he, fun v q => nomatch q⟩
    · rw [z]; exact ⟨o, ho, fun v q => by rw [hd] at q; cases q⟩
  keep := fun i h h' st k => let ⟨⟨old, he⟩, hi, hne⟩ := st; ⟨⟨old, k e (by simp) _ he⟩, hi.at fun o q => k it (by simp) o q, hne⟩
  item := by
    intro X hP hw hK hc i pins s σ H E I hf st hg
    subst hP hw hK
    obtain ⟨⟨old, he⟩, hit, hne, hai, hea⟩ := st
    obtain ⟨xs, x, hq, hx⟩ := hg
    obtain ⟨its, rv, p, hz⟩ := I.tuple hq
    obtain ⟨u, hu, ru⟩ := rv.get hx
    have hel : e < s.heap.objs.size := Heap.lt_size he
    have hil : it < s.heap.objs.size := by obtain ⟨_, q, _⟩ := hit; exact Heap.lt_size q
    have hh : X.A.in1.handled = none := I.ok.hd hc
    have hin : i < its.toArray.size := by simpa using (List.getElem?_eq_some_iff.mp hu).1
    refine wpAny_pyNext_enum_itemC (Draws.tuple hh it a hai its.toArray) he ⟨hit, p⟩ hin hne (by simp [hne, hea]) fun u' h' tk hP ho hst' hT hsz hk => ?_
    obtain ⟨hit', p'⟩ := hst'
    have eu : u' = u := by
      have h1 : its.toArray[i]? = some u' := hP
      have h2 : its[i]? = some u' := by simpa using h1
      rw [hu] at h2; cases h2; rfl
    subst eu
    refine ⟨_, rfl, wpAny_letOwnedTupleGo_enum (s := { s with heap := h', toks := tk + 1 }) ho fun h'' he' sb => ?_⟩
    have hT2 : h''.get? s.heap.objs.size = some { cls := .type "tuple", data := .seq #[.int i tk, u'] } := (sb.2 _ (Nat.ne_of_gt hel)).trans hT
    have new : ObjOk X.prog X.w (upd H s.heap.objs.size (.tup [.int (i : Nat), x])) h'' s.heap.objs.size (.tup [.int (i : Nat), x]) :=
      ⟨by show 2 ≤ sizeLine; decide, [.int i tk, u'], .cons ⟨_, rfl⟩ (.cons ru .nil), ⟨_, hT2, rfl, _, rfl⟩⟩
    have I1 : Inv X pins σ (upd H s.heap.objs.size (.tup [.int (i : Nat), x])) { s with heap := h'', toks := tk + 1 } :=
      I.turnedNew (ch := [e, it]) (fun b ob hb q => (sb.2 b (fun z => hb (by simp [z]))).trans (hk b ob (fun z => hb (by simp [z])) (fun z => hb (by simp [z])) q)) hf (Nat.le_refl _) new
    refine ⟨.ref s.heap.objs.size, _, I1, rfl, ⟨_, x, rfl, I.hok.fresh (Nat.le_refl _), rfl, fun ys hy => by rw [I.tuple_inj hy hq]; exact hx⟩, ⟨⟨u', ?_⟩, hit'.at fun o q => (sb.2 it (Ne.symm hne)).trans q, hne, hai, hea⟩, fun b hb => ?_⟩
    · have e1 : ((i + 1 : Nat) : Int) = (i : Int) + 1 := by omega
      rw [e1]; exact he'
    · have hb' : b < s.heap.objs.size := by
        have e' : b = e ∨ b = it := by simpa using hb
        rcases e' with z | z
        · rw [z]; exact hel
        · rw [z]; exact hil
      rw [upd_ne (Nat.ne_of_lt hb')]
      exact (hf b hb).1
  done := by
    intro X hP hw hK hc i pins s σ H E I hf st hg
    subst hP hw hK
    obtain ⟨⟨old, he⟩, hit, hne, hai, hea⟩ := st
    obtain ⟨xs, hq, hx⟩ := hg
    obtain ⟨its, rv, p, hz⟩ := I.tuple hq
    obtain ⟨f0, f1, f2, f3, f4, f5⟩ := hf it (by simp)
    have hl := rv.length
    exact wpAny_pyNext_enum_endT (I.ok.hd hc) he hit p (by simp; omega) fun h' eb => ⟨rfl, I.turned (t' := s.toks) (fun b o hb q => eb b o hb q) f0 f1 f3 f4 f5⟩
  self := fun A i s Q E st h => let ⟨⟨_, he⟩, _⟩ := st; wpAny_pyIter_enum he h
def iEnumA (K : PySem.W.Frag) (ta : TA) : TI := fun σ H R => ta σ H fun vs H1 => ∃ a xs, vs = [.ref a] ∧ ((SqL K H1 a xs ∧ R (Ite K a) H1) ∨ (SqT K H1 a xs ∧ R (IteT K a) H1))
theorem pi_enumA {X : Cx} {e : Expr} {ta : TA} {p pos tpos : Pos} {elts : List Expr} {kk : Nat} (hg : Gl X "enumerate") (hm : X.mg "enumerate" = none) (ha : PA X [e] ta) (hs : starEach [e] X.env = [(false, eval e X.env)] := by rfl) :
    PI X (.Tuple elts kk tpos) (.Call (.Name "enumerate" p) [e] [] pos) (iEnumA X.K ta) := by
  refine ⟨fun pins s σ H R I h => ?_⟩
  refine Call_ (ld_blt I hg hm boot_enumerate (PyProof.Rows.callWith_type1 (thn (ha.run pos pins s σ H _ I h) fun us s1 ⟨vs, H1, I1, r1, q1⟩ => ?_) hs rfl))
  obtain ⟨a, xs, ex, q⟩ := q1
  subst ex
  cases r1 with
  | cons r rr =>
    cases rr
    cases r
    have fr : ∀ b, b ∈ [s1.heap.objs.size + 1, s1.heap.objs.size] → FpOk X pins H1 b := fun b hb => by
      have e' : b = s1.heap.objs.size + 1 ∨ b = s1.heap.objs.size := by simpa using hb
      have hle : s1.heap.objs.size ≤ b := by
        rcases e' with z | z
        · rw [z]; exact Nat.le_add_right _ _
        · rw [z]; exact Nat.le_refl _
      exact I1.fpOk hle (I1.hok.fresh hle)
    rcases q with ⟨hq, q⟩ | ⟨hq, q⟩
    · obtain ⟨its, rv, p', hz⟩ := I1.list hq
      refine call_enumerate_list p'.isList fun h' he hit hsz hk => wpAny_pyIter_enum he ?_
      have I2 : Inv X pins σ H1 { s1 with heap := h' } := I1.kept (t' := s1.toks) hk
      exact ⟨s1.heap.objs.size + 1, [s1.heap.objs.size + 1, s1.heap.objs.size], _, _, H1, rfl, I2, turn_enum a (s1.heap.objs.size + 1) s1.heap.objs.size, ⟨⟨.none, he⟩, hit, Nat.succ_ne_self _⟩, fr, q⟩
    · obtain ⟨its, rv, p', hz⟩ := I1.tuple hq
      obtain ⟨oa, hoa, _⟩ := id p'
      have hla : a < s1.heap.objs.size := Heap.lt_size hoa
      refine enum_begins1 (begins_tuple a its.toArray) p' fun h' he hit hsz hk => wpAny_pyIter_enum he ?_
      have I2 : Inv X pins σ H1 { s1 with heap := h' } := I1.kept (t' := s1.toks) hk
      exact ⟨s1.heap.objs.size + 1, [s1.heap.objs.size + 1, s1.heap.objs.size], _, _, H1, rfl, I2, turn_enumT a (s1.heap.objs.size + 1) s1.heap.objs.size, ⟨⟨.none, he⟩, ⟨_, hit, rfl, rfl⟩, Nat.succ_ne_self _, Nat.ne_of_lt hla, Nat.ne_of_gt (Nat.lt_succ_of_lt hla)⟩, fr, q⟩
end Rp

namespace Rp
open PySem PySem.Spec PyProof.Rows L2

section
variable {Z : Zo} {g : G} {C : Cl} {k : Nat} {X : Cx} {E : XK} {N : List Str} {sc : Scope}
/-! ### what is walked -/
structure ItOk (Z : Zo) (φ0 : List Addr) (H0 : Hp) (it : It) (J : L2.It) : Prop where
  step : ∀ (φ : List Addr) (H : Hp) (M : Hm) (i : Nat) (x : D), Stay φ0 H0 φ H → SR Z φ H M → it.ok M = true → it.items[i]? = some x →
    J.go i H ∧ ∀ v H', J.yld i H v H' → ∃ φ', Step φ H φ' H' ∧ SR Z φ' H' M ∧ Rep Z φ' H' x v
  stop : ∀ (φ : List Addr) (H : Hp) (M : Hm) (i : Nat), Stay φ0 H0 φ H → SR Z φ H M → it.ok M = true → it.items.length ≤ i → J.stop i H
theorem ItOk.mono {φ0 φ1 : List Addr} {H0 H1 : Hp} {it : It} {J : L2.It} (h : ItOk Z φ0 H0 it J) (s : Step φ0 H0 φ1 H1) : ItOk Z φ1 H1 it J :=
  ⟨fun φ H M i x st => h.step φ H M i x (s.stay.trans st), fun φ H M i st => h.stop φ H M i (s.stay.trans st)⟩
theorem range_at {lo : Int} {n i : Nat} {x : D} (h : (rng lo n)[i]? = some x) : i < n ∧ x = .int (lo + (i : Int)) := by
  unfold rng at h
  rw [List.getElem?_map] at h
  cases q : (List.range n)[i]? with
  | none => rw [q] at h; cases h
  | some j =>
    rw [q] at h
    obtain ⟨h1, h2⟩ := List.getElem?_eq_some_iff.mp q
    simp at h1 h2
    subst h2
    cases h
    exact ⟨h1, rfl⟩
theorem rng_length (lo : Int) (n : Nat) : (rng lo n).length = n := by simp [rng]
abbrev tI (Z : Zo) (E : XK) (C : Cl) (g : G) (x : Ix) : TI := tE Z E (fun φ H it J => ItOk Z φ H it J) (evI C g x)
theorem it_rng {φ : List Addr} {H : Hp} {lo : Int} {n : Nat} : ItOk Z φ H ⟨rng lo n, []⟩ (Itr lo n) where
  step := fun φ' H' M i x st S _ hx => by
    obtain ⟨h1, rfl⟩ := range_at hx
    exact ⟨h1, fun v H'' ⟨e1, e2⟩ => by subst e1 e2; exact ⟨φ', .refl, S, rfl⟩⟩
  stop := fun φ' H' M i st S _ h => by
    rw [rng_length] at h
    exact h
theorem s_rng1 (G : Here Z g C k X E N sc) {tg e : Expr} {p pos : Pos} {a : Ex} (hg : sc.names.lookup (st "range") = some .globalImplicit) (hs : starEach [e] X.env = [(false, eval e X.env)]) (ha : PE X e (tX Z E C g a)) : PI X tg (.Call (.Name (st "range") p) [e] [] pos) (tI Z E C g (.rng1 a)) := by
  have hm : X.mg ("range" : Str) = none := G.top.blt "range" (by decide)
  refine (pi_range1 (G.gl hg) hm (pa_cons ha pa_nil hs) hs).weak fun σ H Q ⟨φ, ρ, M, L, S, o⟩ => ?_
  simp only [evI] at o
  refine Out.next (f := evE C g a) L S o fun φ1 y M1 v H1 s1 L1 S1 r1 o1 => ?_
  cases y with
  | int i =>
    cases r1
    have o1 : Out Z _ E φ1 H1 (iterR 0 i M1) Q := o1
    unfold iterR at o1
    split at o1
    · next h =>
      refine ⟨i, rfl, h.2.2.1, h.2.2.2, ?_⟩
      have := o1.here S1 (v := Itr 0 (i - 0).toNat) it_rng
      simpa using this
    · exact o1.elim
  | _ => exact o1.elim
theorem s_rng2 (G : Here Z g C k X E N sc) {tg e e2 : Expr} {p pos : Pos} {a b : Ex} (hg : sc.names.lookup (st "range") = some .globalImplicit) (hs : starEach [e, e2] X.env = [(false, eval e X.env), (false, eval e2 X.env)]) (hs2 : starEach [e2] X.env = [(false, eval e2 X.env)])
    (ha : PE X e (tX Z E C g a)) (hb : PE X e2 (tX Z E C g b)) : PI X tg (.Call (.Name (st "range") p) [e, e2] [] pos) (tI Z E C g (.rng2 a b)) := by
  have hm : X.mg ("range" : Str) = none := G.top.blt "range" (by decide)
  refine (pi_range2 (G.gl hg) hm (pa_cons ha (pa_cons hb pa_nil hs2) (by rw [hs, hs2])) hs hs2).weak fun σ H Q ⟨φ, ρ, M, L, S, o⟩ => ?_
  simp only [evI] at o
  refine Out.next (f := evE C g a) L S o fun φ1 y M1 v H1 s1 L1 S1 r1 o1 => Out.next (f := evE C g b) L1 S1 o1 fun φ2 z M2 w' H2 s2 L2 S2 r2 o2 => ?_
  cases y with
  | int i =>
    cases z with
    | int j =>
      cases r1; cases r2
      have o2 : Out Z _ E φ2 H2 (iterR i j M2) Q := o2
      unfold iterR at o2
      split at o2
      · next h => exact ⟨i, j, rfl, h, o2.here S2 it_rng⟩
      · exact o2.elim
    | _ => exact o2.elim
  | _ => exact o2.elim
/-- a list that stands -/
theorem it_lst {φ : List Addr} {H : Hp} {n : Nat} {l : List D} {a : Addr} (hr : Rep Z φ H (.ref n) (.ref a)) : ItOk Z φ H ⟨l, [(n, .lst l)]⟩ (Itl Z.K a) := by
  have key : ∀ (φ' : List Addr) (H' : Hp) (M : Hm), Stay φ H φ' H' → SR Z φ' H' M → It.ok ⟨l, [(n, .lst l)]⟩ M = true → ∃ vs, SqL Z.K H' a vs ∧ Reps Z φ' H' l vs := fun φ' H' M s S h => by
    have h' : M[n]? = some (.lst l) := by simpa [It.ok] using h
    obtain ⟨b, vs, _, e, p, q⟩ := S.lst h' (hr.stay s)
    cases e
    exact ⟨vs, .of p, q⟩
  refine ⟨fun φ' H' M i x s S h hx => ?_, fun φ' H' M i s S h hi => ?_⟩
  · obtain ⟨vs, p, q⟩ := key φ' H' M s S h
    obtain ⟨v, hv, rv⟩ := q.get hx
    exact ⟨⟨vs, v, p, hv⟩, fun w' H'' ⟨e1, e2⟩ => by
      subst e1
      have := e2 vs p
      rw [hv] at this
      cases this
      exact ⟨φ', .refl, S, rv⟩⟩
  · obtain ⟨vs, p, q⟩ := key φ' H' M s S h
    exact ⟨vs, p, by rw [q.length]; exact hi⟩
theorem it_rol {φ : List Addr} {H : Hp} {l : List D} {a : Addr} (hr : Rep Z φ H (.rol l) (.ref a)) : ItOk Z φ H ⟨l, []⟩ (Itl Z.K a) := by
  have key : ∀ (φ' : List Addr) (H' : Hp), Stay φ H φ' H' → ∃ vs, SqL Z.K H' a vs ∧ Reps Z φ' H' l vs := fun φ' H' s => by
    obtain ⟨b, vs, e, p, q⟩ := hr.stay s
    cases e
    exact ⟨vs, rol_list p, q⟩
  refine ⟨fun φ' H' M i x s S h hx => ?_, fun φ' H' M i s S h hi => ?_⟩
  · obtain ⟨vs, p, q⟩ := key φ' H' s
    obtain ⟨v, hv, rv⟩ := q.get hx
    exact ⟨⟨vs, v, p, hv⟩, fun w' H'' ⟨e1, e2⟩ => by
      subst e1
      have := e2 vs p
      rw [hv] at this
      cases this
      exact ⟨φ', .refl, S, rv⟩⟩
  · obtain ⟨vs, p, q⟩ := key φ' H' s
    exact ⟨vs, p, by rw [q.length]; exact hi⟩
theorem it_tup {φ : List Addr} {H : Hp} {l : List D} {a : Addr} (hr : Rep Z φ H (.tup l) (.ref a)) : ItOk Z φ H ⟨l, []⟩ (Itt Z.K a) := by
  have key : ∀ (φ' : List Addr) (H' : Hp), Stay φ H φ' H' → ∃ vs, SqT Z.K H' a vs ∧ Reps Z φ' H' l vs := fun φ' H' s => by
    obtain ⟨b, vs, e, p, q⟩ := hr.stay s
    cases e
    exact ⟨vs, tup_tuple p, q⟩
  refine ⟨fun φ' H' M i x s S h hx => ?_, fun φ' H' M i s S h hi => ?_⟩
  · obtain ⟨vs, p, q⟩ := key φ' H' s
    obtain ⟨v, hv, rv⟩ := q.get hx
    exact ⟨⟨vs, v, p, hv⟩, fun w' H'' ⟨e1, e2⟩ => by
      subst e1
      have := e2 vs p
      rw [hv] at this
      cases this
      exact ⟨φ', .refl, S, rv⟩⟩
  · obtain ⟨vs, p, q⟩ := key φ' H' s
    exact ⟨vs, p, by rw [q.length]; exact hi⟩
theorem it_str {φ : List Addr} {H : Hp} {z : S} : ItOk Z φ H ⟨z.map fun c => .str [c], []⟩ (Its ⟨z.toArray⟩) where
  step := fun φ' H' M i x s S _ hx => by
    rw [List.getElem?_map] at hx
    cases q : z[i]? with
    | none => rw [q] at hx; cases hx
    | some c =>
      rw [q] at hx
      cases hx
      refine ⟨by show i < (z.toArray).size; simpa using (List.getElem?_eq_some_iff.mp q).1, fun v H'' ⟨e1, c', e2, e3⟩ => ?_⟩
      subst e1
      have : c' = c := by simpa [q] using e2.symm
      subst this
      exact ⟨φ', .refl, S, e3⟩
  stop := fun φ' H' M i s S _ h => by
    show (z.toArray).size ≤ i
    simpa using h
theorem s_ix {tg e : Expr} {a : Ex} (zK : Z.K = X.K) (ha : PE X e (tX Z E C g a)) : PI X tg e (tI Z E C g (.ex a)) := by
  refine (PI.or (PI.or (pi_list ha) (pi_tup ha)) (pi_str ha)).weak fun σ H Q ⟨φ, ρ, M, L, S, o⟩ => ?_
  simp only [evI] at o
  cases q : evE C g a ρ M with
  | exc c fs M1 => rw [q] at o; exact .inl (.inl ⟨φ, ρ, M, L, S, by rw [q]; exact o⟩)
  | stuck => rw [q] at o; exact o.elim
  | ok d M1 =>
    rw [q, R.ok_bind] at o
    cases d with
    | tup l =>
      refine .inl (.inr ⟨φ, ρ, M, L, S, ?_⟩)
      rw [q]
      intro φ' v H' s S' r
      obtain ⟨b, vs, rfl, p, r'⟩ := id r
      exact ⟨b, rfl, ⟨vs, zK ▸ tup_tuple p⟩, o φ' _ H' s S' (zK ▸ it_tup r)⟩
    | rol l =>
      refine .inl (.inl ⟨φ, ρ, M, L, S, ?_⟩)
      rw [q]
      intro φ' v H' s S' r
      obtain ⟨b, vs, rfl, p, r'⟩ := id r
      exact ⟨b, rfl, ⟨vs, zK ▸ rol_list p⟩, o φ' _ H' s S' (zK ▸ it_rol r)⟩
    | ref n =>
      simp only [iter] at o
      split at o
      · next l hl =>
        refine .inl (.inl ⟨φ, ρ, M, L, S, ?_⟩)
        rw [q]
        intro φ' v H' s S' r
        obtain ⟨b, vs, _, rfl, p, r'⟩ := S'.lst hl r
        exact ⟨b, rfl, ⟨vs, .of p⟩, o φ' _ H' s S' (zK ▸ it_lst r)⟩
      · exact o.elim
    | str z =>
      simp only [iter] at o
      split at o
      · refine .inr ⟨φ, ρ, M, L, S, ?_⟩
        rw [q]
        intro φ' v H' s S' r
        cases r
        exact ⟨_, rfl, o φ' _ H' s S' it_str⟩
      · exact o.elim
    | _ => exact o.elim
theorem enumd_at : ∀ {l : List D} {n i : Nat} {x : D}, (enumd n l)[i]? = some x → ∃ d, l[i]? = some d ∧ x = .tup [.int ((n + i : Nat) : Int), d]
  | [], _, _, _, h => by simp [enumd] at h
  | d :: l, n, 0, x, h => by simp only [enumd, List.getElem?_cons_zero] at h; cases h; exact ⟨d, rfl, by simp⟩
  | d :: l, n, i + 1, x, h => by
    simp only [enumd, List.getElem?_cons_succ] at h
    obtain ⟨e, h1, h2⟩ := enumd_at h
    exact ⟨e, by simpa using h1, by rw [h2]; congr 4; omega⟩
theorem enumd_length : ∀ (l : List D) (n : Nat), (enumd n l).length = l.length
  | [], _ => rfl
  | _ :: l, n => by simp [enumd, enumd_length l]
/-- numbered items of a list -/
theorem it_enum {φ : List Addr} {H : Hp} {l : List D} {ks : List (Nat × O)} {a : Addr} (key : ∀ (φ' : List Addr) (H' : Hp) (M : Hm), Stay φ H φ' H' → SR Z φ' H' M → It.ok ⟨enumd 0 l, ks⟩ M = true → ∃ vs, SqL Z.K H' a vs ∧ Reps Z φ' H' l vs) :
    ItOk Z φ H ⟨enumd 0 l, ks⟩ (Ite Z.K a) := by
  refine ⟨fun φ' H' M i x s S h hx => ?_, fun φ' H' M i s S h hi => ?_⟩
  · obtain ⟨vs, p, q⟩ := key φ' H' M s S h
    obtain ⟨d, hd, rfl⟩ := enumd_at hx
    obtain ⟨v, hv, rv⟩ := q.get hd
    exact ⟨⟨vs, v, p, hv⟩, fun w' H'' ⟨T, y, e0, hT, e1, e2⟩ => by
      subst e0 e1
      have := e2 vs p
      rw [hv] at this
      cases this
      obtain ⟨st', S'⟩ := S.laid (ho := .tup [.int (i : Nat), v]) hT
      exact ⟨φ', st', S', T, _, rfl, .inl upd_same, .cons (by simp [Rep]) (.cons (rv.step st') .nil)⟩⟩
  · obtain ⟨vs, p, q⟩ := key φ' H' M s S h
    exact ⟨vs, p, by rw [q.length]; rw [enumd_length] at hi; exact hi⟩
/-- numbered items of a tuple -/
theorem it_enumT {φ : List Addr} {H : Hp} {l : List D} {a : Addr} (key : ∀ (φ' : List Addr) (H' : Hp), Stay φ H φ' H' → ∃ vs, SqT Z.K H' a vs ∧ Reps Z φ' H' l vs) :
    ItOk Z φ H ⟨enumd 0 l, []⟩ (IteT Z.K a) := by
  refine ⟨fun φ' H' M i x s S h hx => ?_, fun φ' H' M i s S h hi => ?_⟩
  · obtain ⟨vs, p, q⟩ := key φ' H' s
    obtain ⟨d, hd, rfl⟩ := enumd_at hx
    obtain ⟨v, hv, rv⟩ := q.get hd
    exact ⟨⟨vs, v, p, hv⟩, fun w' H'' ⟨T, y, e0, hT, e1, e2⟩ => by
      subst e0 e1
      have := e2 vs p
      rw [hv] at this
      cases this
      obtain ⟨st', S'⟩ := S.laid (ho := .tup [.int (i : Nat), v]) hT
      exact ⟨φ', st', S', T, _, rfl, .inl upd_same, .cons (by simp [Rep]) (.cons (rv.step st') .nil)⟩⟩
  · obtain ⟨vs, p, q⟩ := key φ' H' s
    exact ⟨vs, p, by rw [q.length]; rw [enumd_length] at hi; exact hi⟩
theorem s_enum (G : Here Z g C k X E N sc) {e : Expr} {p pos tpos : Pos} {elts : List Expr} {kk : Nat} {a : Ex} (hg : sc.names.lookup (st "enumerate") = some .globalImplicit) (hs : starEach [e] X.env = [(false, eval e X.env)]) (ha : PE X e (tX Z E C g a)) :
    PI X (.Tuple elts kk tpos) (.Call (.Name (st "enumerate") p) [e] [] pos) (tI Z E C g (.enum a)) := by
  have hm : X.mg ("enumerate" : Str) = none := G.top.blt "enumerate" (by decide)
  refine (pi_enumA (G.gl hg) hm (pa_cons ha pa_nil hs) hs).weak fun σ H Q ⟨φ, ρ, M, L, S, o⟩ => ?_
  simp only [evI] at o
  refine Out.next (f := evE C g a) L S o fun φ1 y M1 v H1 s1 L1 S1 r1 o1 => ?_
  cases y with
  | ref n =>
    have o1 : Out Z _ E φ1 H1 (iterE (.ref n) M1) Q := o1
    simp only [iterE] at o1
    split at o1
    · next l hl =>
      obtain ⟨b, vs, _, rfl, p, r'⟩ := S1.lst hl r1
      refine ⟨b, vs, rfl, .inl ⟨.of p, o1.here S1 (G.eK ▸ it_enum fun φ' H' M s S h => ?_)⟩⟩
      have h' : M[n]? = some (.lst l) := by simpa [It.ok] using h
      obtain ⟨c, ws, _, e, p2, q⟩ := S.lst h' (r1.stay s)
      cases e
      exact ⟨ws, .of p2, q⟩
    · exact o1.elim
  | rol l =>
    have o1 : Out Z _ E φ1 H1 (iterE (.rol l) M1) Q := o1
    simp only [iterE] at o1
    obtain ⟨b, vs, rfl, p, r'⟩ := id r1
    refine ⟨b, vs, rfl, .inl ⟨G.eK ▸ rol_list p, o1.here S1 (G.eK ▸ it_enum fun φ' H' M s S h => ?_)⟩⟩
    obtain ⟨c, ws, e, p2, q⟩ := r1.stay s
    cases e
    exact ⟨ws, rol_list p2, q⟩
  | tup l =>
    have o1 : Out Z _ E φ1 H1 (iterE (.tup l) M1) Q := o1
    simp only [iterE] at o1
    have key : ∀ (φ' : List Addr) (H' : Hp), Stay φ1 H1 φ' H' → ∀ a, v = .ref a → ∃ vs, SqT Z.K H' a vs ∧ Reps Z φ' H' l vs := fun φ' H' s a ea => by
      obtain ⟨b, vs, e, p, q⟩ := r1.stay s
      rw [ea] at e
      cases e
      exact ⟨vs, tup_tuple p, q⟩
    obtain ⟨b, vs, rfl, p, r'⟩ := id r1
    obtain ⟨vs', p', _⟩ := key φ1 H1 Stay.refl b rfl
    exact ⟨b, vs', rfl, .inr ⟨G.eK ▸ p', o1.here S1 (G.eK ▸ it_enumT fun φ' H' s => key φ' H' s b rfl)⟩⟩
  | _ => exact o1.elim
/-! ### targets -/
/-- all but some slots as they were -/
structure Off (l : List Nat) (σ σ' : L2.St) : Prop where
  len : σ'.length = σ.length
  at' : ∀ i, i ∉ l → σ'[i]? = σ[i]?
def rG (Z : Zo) (l : List Nat) (σ : L2.St) : List Addr → Hp → Lc → L2.St → Prop := fun φ H ρ' σ' => Lrep Z φ H ρ' σ' ∧ Off l σ σ'
abbrev tG (Z : Zo) (E : XK) (C : Cl) (g : G) (t : Tg) : TG := fun v σ H Q => ∃ φ ρ M d, Lrep Z φ H ρ σ ∧ SR Z φ H M ∧ Rep Z φ H d v ∧ Out Z (rG Z t.slots σ) E φ H (stT C g t d ρ M) Q
abbrev tGs (Z : Zo) (E : XK) (C : Cl) (g : G) (t : Tgs) : TGs := fun vs σ H Q => ∃ φ ρ M ds, Lrep Z φ H ρ σ ∧ SR Z φ H M ∧ Reps Z φ H ds vs ∧ Out Z (rG Z t.slots σ) E φ H (stTs C g t ds ρ M) Q
theorem Off.refl {l : List Nat} {σ : L2.St} : Off l σ σ := ⟨rfl, fun _ _ => rfl⟩
theorem Off.trans {l l' : List Nat} {σ σ1 σ2 : L2.St} (a : Off l σ σ1) (b : Off l' σ1 σ2) : Off (l ++ l') σ σ2 :=
  ⟨b.len.trans a.len, fun i h => by rw [List.mem_append, not_or] at h; exact (b.at' i h.2).trans (a.at' i h.1)⟩
theorem Lrep.set {φ : List Addr} {H : Hp} {ρ : Lc} {σ : L2.St} (L : Lrep Z φ H ρ σ) {i : Nat} {d : D} {v : V} (r : Rep Z φ H d v) : Lrep Z φ H (ρ.set i (some d)) (σ.set i (some v)) := by
  refine ⟨by simp [L.len], fun j e h => ?_⟩
  by_cases hj : i = j
  · subst hj
    have hi : i < ρ.length := by
      by_cases hi : i < ρ.length
      · exact hi
      · rw [List.getElem?_eq_none (by simpa using hi)] at h; cases h
    rw [List.getElem?_set_self hi] at h
    cases h
    exact ⟨v, List.getElem?_set_self (by rw [← L.len]; exact hi), r⟩
  · rw [List.getElem?_set_ne hj] at h
    obtain ⟨w', h1, h2⟩ := L.at' j e h
    exact ⟨w', by rw [List.getElem?_set_ne hj]; exact h1, h2⟩
theorem g_name (G : Here Z g C k X E N sc) {i : Nat} {y : Str} {p : Pos} (hN : N[i]? = some y) (hl : loc sc y = true) : PG X (.Name y p) (tG Z E C g (.name i)) := by
  have hloc : Loc X.env.scope y ∧ (X.fn y = true ∨ X.env.scope.names.lookup y = some .local) := by
    unfold loc at hl
    split at hl
    · next h => exact ⟨.inl ((G.rel y).1 h), .inr ((G.rel y).1 h)⟩
    · next h => exact ⟨.inr ((G.rel y).2.1 h), .inl (G.fnx y h)⟩
    · cases hl
  refine (pg_name (by rw [G.xN]; exact G.nd) (by rw [G.xN]; exact hN) hloc.1 hloc.2).weak fun v σ H Q ⟨φ, ρ, M, d, L, S, r, o⟩ => ?_
  simp only [stT] at o
  split at o
  · exact o.here S ⟨L.set r, by simp, fun j hj => List.getElem?_set_ne fun e => hj (by simp [Tg.slots, e])⟩
  · exact o.elim
theorem g_nil : PGs X [] (tGs Z E C g .nil) := pgs_nil.weak fun vs σ H Q ⟨φ, ρ, M, ds, L, S, r, o⟩ => by
  cases ds with
  | nil => cases (show _ = _ from r); simp only [stTs] at o; exact ⟨rfl, o.here S ⟨L, .refl⟩⟩
  | cons d ds => exact o.elim
theorem g_cons {e : Expr} {es : List Expr} {t : Tg} {l : Tgs} (h1 : PG X e (tG Z E C g t)) (h2 : PGs X es (tGs Z E C g l)) (hs : (assignEach (e :: es) X.env).map (·.2) = assign e X.env :: (assignEach es X.env).map (·.2)) : PGs X (e :: es) (tGs Z E C g (.cons t l)) :=
  (pgs_cons h1 h2 hs).weak fun vs σ H Q ⟨φ, ρ, M, ds, L, S, r, o⟩ => by
    cases ds with
    | nil => exact o.elim
    | cons d ds =>
      obtain ⟨v, ws, rfl, r1, r2⟩ := r
      simp only [stTs] at o
      refine ⟨v, ws, rfl, φ, ρ, M, d, L, S, r1, (o.bind (rep := rG Z t.slots σ)).imp fun σ' H' ⟨φ1, ρ1, M1, s1, S1, ⟨L1, f1⟩, o1⟩ => ?_⟩
      refine ⟨φ1, ρ1, M1, ds, L1, S1, r2.step s1, ?_⟩
      cases q : stTs C g l ds ρ1 M1 with
      | ok ρ2 M2 => rw [q] at o1; exact fun φ2 σ2 H2 s2 S2 ⟨L2, f2⟩ => o1 φ2 σ2 H2 s2 S2 ⟨L2, f1.trans f2⟩
      | exc c fs M2 => rw [q] at o1; exact o1
      | stuck => rw [q] at o1; exact o1
theorem ckTs_len : ∀ {l : Tgs} {es : List Expr}, ckTs N sc l es = true → es.length = l.len
  | .nil, es, h => by simp only [ckTs, List.isEmpty_iff] at h; subst h; rfl
  | .cons t l, [], h => by simp [ckTs] at h
  | .cons t l, e :: es, h => by
    simp only [ckTs, Bool.and_eq_true] at h
    simp [Tgs.len, ckTs_len h.2]
theorem ckT_star {t : Tg} {e : Expr} (h : ckT N sc t e = true) {es : List Expr} {env : Env} : assignEach (e :: es) env = (false, assign e env) :: assignEach es env := by
  cases e with
  | Starred v p => cases t <;> simp [ckT] at h
  | _ => rfl
theorem each_len : ∀ {l : Tgs} {es : List Expr} {env : Env}, ckTs N sc l es = true → (assignEach es env).length = es.length ∧ (assignEach es env).findIdx? (·.1) = none
  | .nil, es, env, h => by simp only [ckTs, List.isEmpty_iff] at h; subst h; exact ⟨rfl, rfl⟩
  | .cons t l, [], env, h => by simp [ckTs] at h
  | .cons t l, e :: es, env, h => by
    simp only [ckTs, Bool.and_eq_true] at h
    obtain ⟨h1, h2⟩ := each_len (env := env) h.2
    rw [ckT_star h.1]
    refine ⟨by simp [h1], ?_⟩
    rw [List.findIdx?_cons]
    simp [h2]
theorem _root_.L2.PG.or {e : Expr} {t t' : TG} (h : PG X e t) (h' : PG X e t') : PG X e (fun v σ H Q => t v σ H Q ∨ t' v σ H Q) := ⟨fun pins s σ H v u Q I r q => q.elim (h.run pins s σ H v u Q I r) (h'.run pins s σ H v u Q I r)⟩
theorem g_tup (G : Here Z g C k X E N sc) {es : List Expr} {n : Nat} {p : Pos} {l : Tgs} (hl : ckTs N sc l es = true) (h : PGs X es (tGs Z E C g l)) : PG X (.Tuple es n p) (tG Z E C g (.tup l)) := by
  obtain ⟨h1, h2⟩ := each_len (env := X.env) hl
  refine ((pg_tup G.calm h h1 h2).or (pg_lst G.calm h h1 h2)).weak fun v σ H Q ⟨φ, ρ, M, d, L, S, r, o⟩ => ?_
  simp only [stT] at o
  cases d with
  | tup ds =>
    simp only [unp?, opt_some] at o
    split at o
    · next hn =>
      obtain ⟨a, vs, rfl, q, rr⟩ := r
      exact .inl ⟨a, vs, rfl, G.eK ▸ tup_tuple q, by rw [rr.length, hn, ckTs_len hl], φ, ρ, M, ds, L, S, rr, o⟩
    · exact o.elim
  | rol ds =>
    simp only [unp?, opt_some] at o
    split at o
    · next hn =>
      obtain ⟨a, vs, rfl, q, rr⟩ := r
      exact .inr ⟨a, vs, rfl, G.eK ▸ rol_list q, by rw [rr.length, hn, ckTs_len hl], φ, ρ, M, ds, L, S, rr, o⟩
    · exact o.elim
  | ref n =>
    simp only [unp?] at o
    split at o
    · next ds hn0 =>
      obtain ⟨c, vs, hc, rfl, p, rr⟩ := S.lst hn0 r
      have o : Out Z _ E φ H (if ds.length = l.len then stTs C g l ds ρ M else .stuck) _ := o
      split at o
      · next hn =>
        exact .inr ⟨c, vs, rfl, .of p, by rw [rr.length, hn, ckTs_len hl], φ, ρ, M, ds, L, S, rr, o⟩
      · exact o.elim
    · exact o.elim
  | _ => exact o.elim
def RSt (Z : Zo) (E : XK) : V → V → V → Hp → (Hp → Prop) → Prop := fun x y v H Q => ∃ φ a b d M, SR Z φ H M ∧ Rep Z φ H a x ∧ Rep Z φ H b y ∧ Rep Z φ H d v ∧ Out Z (fun _ _ (_ : Unit) (_ : Unit) => True) E φ H (stoop d a b M) (fun _ H' => Q H')
end
end Rp

namespace Rp
open PySem PySem.Spec PyProof.Rows L2
/-! ## a set of texts, by a comprehension of two clauses -/
theorem scTurn_out (elt t0 i0 t1 i1 : Expr) (ifs0 ifs1 : List Expr) (scope : Scope) (pos : Pos) (it acc : Value) (env : Env) :
    compTurn (.SetComp elt [⟨t0, i0, ifs0, 0⟩, ⟨t1, i1, ifs1, 0⟩] scope pos) 0 it acc env = (do
      standAt i0.pos
      match ← pyNext it with
      | none => pure (.done .next)
      | some v =>
        letOwnedTupleGo t0 it v
        assign t0 env v
        let mut ok := true
        for c in ifs0 do
          if ok then ok ← isTrue c env (eval c env)
        if ok then
          let x ← eval i1 env
          standAt i1.pos
          let x ← foldedSetIterable i1 env x
          let _ ← runOwn (.compStart (.SetComp elt [⟨t0, i0, ifs0, 0⟩, ⟨t1, i1, ifs1, 0⟩] scope pos) 1 (← holding [x] (pyIter x)) acc env) env
        again (.compLoop (.SetComp elt [⟨t0, i0, ifs0, 0⟩, ⟨t1, i1, ifs1, 0⟩] scope pos) 0 it acc env)) := by rfl
theorem scTurn_in (elt t0 i0 t1 i1 : Expr) (ifs0 ifs1 : List Expr) (scope : Scope) (pos : Pos) (it acc : Value) (env : Env) :
    compTurn (.SetComp elt [⟨t0, i0, ifs0, 0⟩, ⟨t1, i1, ifs1, 0⟩] scope pos) 1 it acc env = (do
      standAt i1.pos
      match ← pyNext it with
      | none => pure (.done .next)
      | some v =>
        letOwnedTupleGo t1 it v
        assign t1 env v
        let mut ok := true
        for c in ifs1 do
          if ok then ok ← isTrue c env (eval c env)
        if ok then
          (do let v ← eval elt env; standAt elt.pos; let _ ← call (.builtin "set.add") [acc, v])
        again (.compLoop (.SetComp elt [⟨t0, i0, ifs0, 0⟩, ⟨t1, i1, ifs1, 0⟩] scope pos) 1 it acc env)) := by rfl

section
variable {prog : Program} {w : World} {A : Around} {R : Result → Shared → Prop} {s : Shared} {elt t0 i0 t1 i1 : Expr} {ifs0 ifs1 : List Expr} {scope : Scope} {pos : Pos} {it acc : Value} {env : Env}
/-- the loop of the first clause -/
theorem scLoop_out (hs : ∀ x, foldedSetIterable i1 env x = pure x) (I : Nat → Shared → Prop)
    (turn : ∀ n s, I n s → wpAny (model prog w) A (pyNext it) (fun r s₁ => match r with
      | none => R (.ok .next) s₁
      | some v => wpAny (model prog w) A (letOwnedTupleGo t0 it v) (fun _ s₁' => wpAny (model prog w) A (assign t0 env v) (fun _ s₂ =>
          wpAny (model prog w) A (forIn ifs0 true fun c r => if r = true then do let ok ← isTrue c env (eval c env); pure (ForInStep.yield ok) else pure (ForInStep.yield r)) (fun ok s₃ =>
            if ok = true then wpAny (model prog w) A (eval i1 env) (fun x s₄ => wpAny (model prog w) A (pyIter x) (fun it1 s₅ =>
              codeAny (model prog w) A (.compStart (.SetComp elt [⟨t0, i0, ifs0, 0⟩, ⟨t1, i1, ifs1, 0⟩] scope pos) 1 it1 acc env) (fun r s' => match r with
                | .ok _ => ∃ m, m < n ∧ I m s'
                | .error _ => False) s₅) (notedBy (model prog w) A env fun e s' => R (.error e) s') s₄) (notedBy (model prog w) A env fun e s' => R (.error e) s') s₃
            else ∃ m, m < n ∧ I m s₃) (notedBy (model prog w) A env fun e s' => R (.error e) s') s₂) (notedBy (model prog w) A env fun e s' => R (.error e) s') s₁') (notedBy (model prog w) A env fun e s' => R (.error e) s') s₁) (notedBy (model prog w) A env fun e s' => R (.error e) s') s)
    (n : Nat) (h : I n s) :
    codeAny (model prog w) A (.compLoop (.SetComp elt [⟨t0, i0, ifs0, 0⟩, ⟨t1, i1, ifs1, 0⟩] scope pos) 0 it acc env) R s := by
  refine codeAny_loop rfl I (fun n s hI => ?_) n h
  show wpAny _ A ((compTurn (.SetComp elt [⟨t0, i0, ifs0, 0⟩, ⟨t1, i1, ifs1, 0⟩] scope pos) 0 it acc env).onRaise (fun x => do noteFrame x env; theTreesLotGoes x)) _ _ s
  refine wpAny_noted ?_
  rw [scTurn_out]
  refine wpAny_bind (wpAny_standAt (wpAny_bind (wpAny_mono (turn n s hI) (fun r s₁ h₁ => ?_) fun _ _ h' => h')))
  cases r with
  | none => exact wpAny_pure h₁
  | some v =>
    refine wpAny_bind (wpAny_mono h₁ (fun _ s₁' h₁' => ?_) fun _ _ h' => h')
    refine wpAny_bind (wpAny_mono h₁' (fun _ s₂ h₂ => wpAny_bind (wpAny_mono h₂ (fun ok s₃ h₃ => ?_) fun _ _ h' => h')) fun _ _ h' => h')
    cases ok with
    | false => exact wpAny_pure ⟨rfl, h₃⟩
    | true =>
      refine wpAny_bind (wpAny_mono h₃ (fun x s₄ h₄ => ?_) fun _ _ h' => h')
      refine wpAny_bind (wpAny_standAt (wpAny_bind (wpAny_of_eq (hs x) (wpAny_bind (wpAny_holding (wpAny_mono h₄ (fun it1 s₅ h₅ => ?_) fun _ _ h' => h'))))))
      refine wpAny_bind (wpAny_runOwn ?_)
      rw [Around.mark_none]
      refine codeAny_mono h₅ fun r s' hr => ?_
      cases r with
      | ok f =>
        first
          | exact wpAny_pure ⟨rfl, hr⟩
          | exact wpAny_bind (wpAny_pure (wpAny_pure ⟨rfl, hr⟩))
      | error e => exact hr.elim
/-- the loop of the second -/
theorem scLoop_in (I : Nat → Shared → Prop)
    (turn : ∀ n s, I n s → wpAny (model prog w) A (pyNext it) (fun r s₁ => match r with
      | none => R (.ok .next) s₁
      | some v => wpAny (model prog w) A (letOwnedTupleGo t1 it v) (fun _ s₁' => wpAny (model prog w) A (assign t1 env v) (fun _ s₂ =>
          wpAny (model prog w) A (forIn ifs1 true fun c r => if r = true then do let ok ← isTrue c env (eval c env); pure (ForInStep.yield ok) else pure (ForInStep.yield r)) (fun ok s₃ =>
            if ok = true then wpAny (model prog w) A (eval elt env) (fun x s₄ =>
              wpAny (model prog w) A (call (.builtin "set.add") [acc, x]) (fun _ s₅ => ∃ m, m < n ∧ I m s₅) (notedBy (model prog w) A env fun e s' => R (.error e) s') s₄) (notedBy (model prog w) A env fun e s' => R (.error e) s') s₃
            else ∃ m, m < n ∧ I m s₃) (notedBy (model prog w) A env fun e s' => R (.error e) s') s₂) (notedBy (model prog w) A env fun e s' => R (.error e) s') s₁') (notedBy (model prog w) A env fun e s' => R (.error e) s') s₁) (notedBy (model prog w) A env fun e s' => R (.error e) s') s)
    (n : Nat) (h : I n s) :
    codeAny (model prog w) A (.compLoop (.SetComp elt [⟨t0, i0, ifs0, 0⟩, ⟨t1, i1, ifs1, 0⟩] scope pos) 1 it acc env) R s := by
  refine codeAny_loop rfl I (fun n s hI => ?_) n h
  show wpAny _ A ((compTurn (.SetComp elt [⟨t0, i0, ifs0, 0⟩, ⟨t1, i1, ifs1, 0⟩] scope pos) 1 it acc env).onRaise (fun x => do noteFrame x env; theTreesLotGoes x)) _ _ s
  refine wpAny_noted ?_
  rw [scTurn_in]
  refine wpAny_bind (wpAny_standAt (wpAny_bind (wpAny_mono (turn n s hI) (fun r s₁ h₁ => ?_) fun _ _ h' => h')))
  cases r with
  | none => exact wpAny_pure h₁
  | some v =>
    refine wpAny_bind (wpAny_mono h₁ (fun _ s₁' h₁' => ?_) fun _ _ h' => h')
    refine wpAny_bind (wpAny_mono h₁' (fun _ s₂ h₂ => wpAny_bind (wpAny_mono h₂ (fun ok s₃ h₃ => ?_) fun _ _ h' => h')) fun _ _ h' => h')
    cases ok with
    | false => exact wpAny_pure ⟨rfl, h₃⟩
    | true =>
      exact wpAny_bind (wpAny_bind (wpAny_mono h₃ (fun x s₄ h₄ => wpAny_bind (wpAny_standAt (wpAny_bind (wpAny_mono h₄ (fun _ s₅ h₅ => wpAny_pure (wpAny_pure ⟨rfl, h₅⟩)) fun _ _ h' => h')))) fun _ _ h' => h'))
/-- the second clause's start -/
theorem scStart1_ok (h0 : codeAny (model prog w) A (.compLoop (.SetComp elt [⟨t0, i0, ifs0, 0⟩, ⟨t1, i1, ifs1, 0⟩] scope pos) 1 it acc env) R s)
    (h : wpAny (model prog w) A (pyIter it) (fun it' s' => codeAny (model prog w) A (.compLoop (.SetComp elt [⟨t0, i0, ifs0, 0⟩, ⟨t1, i1, ifs1, 0⟩] scope pos) 1 it' acc env) R s')
      (notedBy (model prog w) A env fun x s' => R (.error x) s') s) :
    codeAny (model prog w) A (.compStart (.SetComp elt [⟨t0, i0, ifs0, 0⟩, ⟨t1, i1, ifs1, 0⟩] scope pos) 1 it acc env) R s := by
  refine codeAny_of_tree ?_
  show wpAny _ _ ((compStart (.SetComp elt [⟨t0, i0, ifs0, 0⟩, ⟨t1, i1, ifs1, 0⟩] scope pos) 1 it acc env).onRaise (fun x => do noteFrame x env; standAt theWindowsPlace)) _ _ s
  refine wpAny_notedAt ?_
  unfold compStart
  show wpAny _ _ (ask >>= _) _ _ s
  refine wpAny_bind (wpAny_askSetting (wpAny_ite ?_))
  split
  · first
      | exact wpAny_bind (wpAny_pure (wpAny_pure (And.intro rfl h0)))
      | exact wpAny_pure (And.intro rfl h0)
  · first
      | exact wpAny_bind (wpAny_rule (wpAny_bind (wpAny_standAt (wpAny_bind (wpAny_mono h (fun it' s' h' => wpAny_pure (And.intro rfl h')) fun _ _ x => x)))))
      | (refine wpAny_bind (wpAny_rule ?_); show wpAny _ _ (standAt i1.pos >>= _) _ _ s; exact wpAny_bind (wpAny_standAt (wpAny_bind (wpAny_mono h (fun it' s' h' => wpAny_pure (And.intro rfl h')) fun _ _ x => x))))
end

section
variable {X : Cx}
/-- [elt for tg in iter if .. for tg1 in iter1 if ..]: behind the first clause's store and tests the second source's own loop, from which Nx is reached. vs: the block's names; vs1: those of the second target -/
def tSc2 (w : World) (wi : TI) (g : TG) (tt : TT) (wi1 : TI) (g1 : TG) (tt1 : TT) (te : TE) (vs vs1 : List Nat) : TE := fun σ H Q => wi σ H fun J H1 => ∀ D, H1 D = none → ∃ W : Nat → Nat → Hp → Prop, (∃ m, W 0 m (upd H1 D (SetSO w D []))) ∧ ∀ i m H, W i m H →
  (J.stop i H ∧ Q (.ref D) H) ∨ (J.go i H ∧ ∃ Nx : Hp → Prop, (∀ H', Nx H' → ∃ m', m' < m ∧ W (i + 1) m' H') ∧ ∀ x H', J.yld i H x H' → g x (L2.wipe σ vs) H' fun σ2 H2 => L2.wipe σ2 vs = L2.wipe σ vs ∧ tt σ2 H2 fun b H3 =>
    if b = true then wi1 σ2 H3 fun J1 H4 => ∃ W1 : Nat → Nat → Hp → Prop, (∃ m, W1 0 m H4) ∧ ∀ j k H, W1 j k H →
      (J1.stop j H ∧ Nx H) ∨ (J1.go j H ∧ ∃ Nx1 : Hp → Prop, (∀ H', Nx1 H' → ∃ k', k' < k ∧ W1 (j + 1) k' H') ∧ ∀ x H', J1.yld j H x H' → g1 x (L2.wipe σ2 vs1) H' fun σ3 H5 => L2.wipe σ3 vs1 = L2.wipe σ2 vs1 ∧ tt1 σ3 H5 fun b H6 =>
        if b = true then te σ3 H6 fun y H7 => ∃ (c : Str) (l : List Str), y = .str c ∧ H7 D = some (SetSO w D l) ∧ l.length + 1 < scanBound ∧ Nx1 (upd H7 D (SetSO w D (addT l c))) else Nx1 H6)
    else Nx H3)
theorem sc2_core {pins : List (Addr × Obj)} {s : Shared} {σ : L2.St} {H : Hp} {Q : VK} {elt tg iter tg1 iter1 : Expr} {ifs ifs1 : List Expr} {scope : Scope} {own : List (Str × Nat)} {vs1 : List Nat} {pos pos' : Pos} {wi wi1 : TI} {g g1 : TG} {tt tt1 : TT} {te : TE} {use : Option (Value → Sem Unit)} {Qf : Value → Shared → Prop}
    (hc : X.calm = true) (hN : X.N.Nodup) (I : L2.Inv X pins σ H s) (hi : PI X tg iter wi) (ok : BlkOk X.N X.env.scope scope own) (hv : ∀ i ∈ vs1, i ∈ own.map (·.2))
    (hg : ∀ (s : Shared) (H : Hp) (C : Addr) (cl : List (Str × Addr)) (fp : List Addr), PG (X.blk s H scope (compEnvC scope cl C X.env) fp) tg g) (ht : ∀ (s : Shared) (H : Hp) (C : Addr) (cl : List (Str × Addr)) (fp : List Addr), PTs (X.blk s H scope (compEnvC scope cl C X.env) fp) ifs tt)
    (he : ∀ (s : Shared) (H : Hp) (C : Addr) (cl : List (Str × Addr)) (fp : List Addr), PE (X.blk s H scope (compEnvC scope cl C X.env) fp) elt te) (hs : ∀ x, foldedSetIterable iter X.env x = pure x)
    (hi1 : ∀ (s : Shared) (H : Hp) (C : Addr) (cl : List (Str × Addr)) (fp : List Addr), PI (X.blk s H scope (compEnvC scope cl C X.env) fp) tg1 iter1 wi1)
    (hg1 : ∀ (s : Shared) (H : Hp) (C : Addr) (cl : List (Str × Addr)) (fp : List Addr), PG (X.blk s H scope (compEnvC scope cl C X.env) fp) tg1 g1)
    (ht1 : ∀ (s : Shared) (H : Hp) (C : Addr) (cl : List (Str × Addr)) (fp : List Addr), PTs (X.blk s H scope (compEnvC scope cl C X.env) fp) ifs1 tt1)
    (hs1 : ∀ env x, foldedSetIterable iter1 env x = pure x)
    (h : tSc2 X.w wi g tt wi1 g1 tt1 te (own.map (·.2)) vs1 σ H Q)
    (hRR : ∀ D C s' m H', L2.Inv X pins σ H' s' → Q (.ref D) H' → s'.heap.Ns C m → FpOk X pins H' C → compPost (model X.prog X.w) X.A X.xe use Qf (.ref D) C (.ok .next) s') :
    wpAny (model X.prog X.w) X.A (comprehension (.SetComp elt [⟨tg, iter, ifs, 0⟩, ⟨tg1, iter1, ifs1, 0⟩] scope pos) scope X.env pos' (newSet (.type "set")) false (eval iter X.env) use) Qf X.xe s := by
  have hfree : ∀ y ∈ scope.names, y.2 = .free → ∃ c, X.env.cells.lookup y.1 = some c := fun y hy e => by
    rcases ok.free y hy e with k | k
    · exact I.ok.has _ (.inl k)
    · exact I.ok.has _ (.inr k)
  refine wpAny_comprehension_free (use := use) rfl hs (closure_ok hfree) ok.kind (fun y hy e => by rw [ok.uniq y hy, e])
    (thn (hi.run pins s σ H _ I h) fun xv s1 hx => thn hx fun itv s2 h2 => ?_)
  obtain ⟨it, fp, tn, J, H2, e, I2, T, st2, f2, q⟩ := h2
  subst e
  refine PpSet.newSet_ok (newEnv_comp ?_)
  generalize hD : s2.heap.objs.size = D
  have hDn : H2 D = none := I2.hok.fresh (Nat.le_of_eq hD)
  obtain ⟨W, ⟨m0, w0⟩, turn⟩ := q D hDn
  -- the new list
  generalize hs3 : ({ s2 with heap := s2.heap.push { cls := .type "set", dict := none, data := .set #[] 0 (.fresh 0 0 (!X.w.params.followText "set-order")) } } : Shared) = s3
  have I3 : L2.Inv X pins σ (upd H2 D (SetSO X.w D [])) s3 := by
    rw [← hs3]
    refine I2.laid (t' := s2.toks) (fun b o e => Heap.get?_push_of_some _ e) (Nat.le_of_eq hD) ?_
    rw [← hD]
    exact setSO_new (setS_fresh X.w)
  have h3 : s3.heap = s2.heap.push { cls := .type "set", dict := none, data := .set #[] 0 (.fresh 0 0 (!X.w.params.followText "set-order")) } := by rw [← hs3]
  have sz : ∀ b ∈ fp, b < s2.heap.objs.size := fun b hb => by
    obtain ⟨o, e, _⟩ := T.obj _ _ st2 b hb
    exact Heap.lt_size e
  have f3 : ∀ b ∈ fp, FpOk X pins (upd H2 D (SetSO X.w D [])) b ∧ b < s3.heap.objs.size := fun b hb => by
    have hlt := sz b hb
    refine ⟨⟨?_, (f2 b hb).2⟩, by rw [h3, Heap.size_push]; exact Nat.lt_succ_of_lt hlt⟩
    rw [upd_ne (by rw [← hD]; exact Nat.ne_of_lt hlt)]
    exact (f2 b hb).1
  have st3 : tn 0 s3.heap := T.keep _ _ _ st2 fun b _ o e => by rw [h3]; exact Heap.get?_push_of_some _ e
  have I4 := block_start I3 ok hN f3
  have pg := hg s3 (upd H2 D (SetSO X.w D [])) s3.heap.objs.size (cellsFrom (s3.heap.objs.size + 1) scope.names (cloFrom X.env.cells scope.names [])) fp
  have pt := ht s3 (upd H2 D (SetSO X.w D [])) s3.heap.objs.size (cellsFrom (s3.heap.objs.size + 1) scope.names (cloFrom X.env.cells scope.names [])) fp
  have pe := he s3 (upd H2 D (SetSO X.w D [])) s3.heap.objs.size (cellsFrom (s3.heap.objs.size + 1) scope.names (cloFrom X.env.cells scope.names [])) fp
  have pi1 := hi1 s3 (upd H2 D (SetSO X.w D [])) s3.heap.objs.size (cellsFrom (s3.heap.objs.size + 1) scope.names (cloFrom X.env.cells scope.names [])) fp
  have pg1 := hg1 s3 (upd H2 D (SetSO X.w D [])) s3.heap.objs.size (cellsFrom (s3.heap.objs.size + 1) scope.names (cloFrom X.env.cells scope.names [])) fp
  have pt1 := ht1 s3 (upd H2 D (SetSO X.w D [])) s3.heap.objs.size (cellsFrom (s3.heap.objs.size + 1) scope.names (cloFrom X.env.cells scope.names [])) fp
  show codeAny _ _ (.compStart (.SetComp elt [⟨tg, iter, ifs, 0⟩, ⟨tg1, iter1, ifs1, 0⟩] scope pos) 0 (.ref it) (.ref D) (compEnvC scope (cellsFrom (s3.heap.objs.size + 1) scope.names (cloFrom X.env.cells scope.names [])) s3.heap.objs.size X.env)) (compPost (model X.prog X.w) X.A X.xe use Qf (.ref D) s3.heap.objs.size) { s3 with heap := pushCells (s3.heap.push { cls := .type "dict", data := .dict #[] }) scope.names }
  have nfp : ∀ b ∈ fp, (upd H2 D (SetSO X.w D [])) b = none := fun b hb => (f3 b hb).1.1
  generalize hce : compEnvC scope (cellsFrom (s3.heap.objs.size + 1) scope.names (cloFrom X.env.cells scope.names [])) s3.heap.objs.size X.env = ce at I4 pg pt pe pi1 pg1 pt1 ⊢
  have cL : ce.locals = s3.heap.objs.size := by subst hce; rfl
  generalize hH3 : upd H2 D (SetSO X.w D []) = H3 at I3 I4 pg pt pe pi1 pg1 pt1 w0 nfp f3
  generalize hs4 : ({ s3 with heap := pushCells (s3.heap.push { cls := .type "dict", data := .dict #[] }) scope.names } : Shared) = s4 at I4 ⊢
  have st4 : tn 0 s4.heap := T.keep _ _ _ st3 fun b _ o e => by rw [← hs4]; exact pushCells_keeps _ _ _ _ (Heap.get?_push_of_some _ e)
  have stat : ∀ {σ' : L2.St} {H' : Hp} {s' : Shared}, L2.Inv (X.blk s3 H3 scope ce fp) [] σ' H' s' → (∀ b ∈ fp, H' b = none) → ∀ b ∈ fp, FpOk (X.blk s3 H3 scope ce fp) [] H' b := fun {σ' H' s'} I' hn b hb =>
    ⟨hn b hb, (I'.ok.exf b hb).1, I'.ok.exfs b hb, .inl hb, fun x c e => (I'.ok.exf b hb).2 x c e, fun p hp => absurd (show p ∈ ([] : List (Addr × Obj)) ++ [] from hp) (by simp)⟩
  have loop : codeAny (model X.prog X.w) X.A (.compLoop (.SetComp elt [⟨tg, iter, ifs, 0⟩, ⟨tg1, iter1, ifs1, 0⟩] scope pos) 0 (.ref it) (.ref D) ce) (compPost (model X.prog X.w) X.A X.xe use Qf (.ref D) s3.heap.objs.size) s4 := by
    refine scLoop_out (hs1 ce) (fun n s' => ∃ i H', L2.Inv (X.blk s3 H3 scope ce fp) [] (L2.wipe σ (own.map (·.2))) H' s' ∧ tn i s'.heap ∧ (∀ b ∈ fp, H' b = none) ∧ W i n H') ?_ m0 ⟨0, H3, I4, st4, nfp, w0⟩
    rintro n s5 ⟨i, H5, I5, st5, n5, w5⟩
    rcases turn i n H5 w5 with ⟨stop, qq⟩ | ⟨go, Nx, hNx, step⟩
    · have td := T.done (X.blk s3 H3 scope ce fp) rfl rfl rfl hc i [] s5 _ H5 (fun _ _ => False) I5 (stat I5 n5) st5 stop
      refine thnF td fun r s6 ⟨hr, I6⟩ => ?_
      subst hr
      -- back in the def's context
      have I7 : L2.Inv X pins σ H5 s6 := I3.call' (ch := fp) I6.os I6.base I6.hok I6.bare fun b hb => ⟨(f3 b hb).1.2.2.2.1, (f3 b hb).1.2.1, (f3 b hb).1.2.2.2.2.1, (f3 b hb).1.2.2.2.2.2⟩
      have nC : H5 s3.heap.objs.size = none := by
        have z : H5 ce.locals = none := I6.free
        rw [cL] at z
        exact z
      obtain ⟨m, hn, _⟩ := I6.loc
      have hn : s6.heap.Ns ce.locals m := hn
      rw [cL] at hn
      exact hRR D s3.heap.objs.size s6 m H5 I7 qq hn (I3.fpOk (Nat.le_refl _) nC)
    · have ti := T.item (X.blk s3 H3 scope ce fp) rfl rfl rfl hc i [] s5 _ H5 (fun _ _ => False) I5 (stat I5 n5) st5 go
      refine thnF ti fun r s6 ⟨u, hr, h6⟩ => ?_
      subst hr
      refine thnF h6 fun _ s7 ⟨x, H7, I7, r7, y7, st7, n7⟩ => ?_
      have I7' := I7.pinned (stat I7 n7) (T.obj _ _ st7)
      refine thnF (pg.run _ s7 _ H7 x u _ I7' r7 (step x H7 y7)) fun _ s8 ⟨σ8, H8, I8, hw8, q8⟩ => ?_
      refine thnF (pt.run _ s8 σ8 H8 _ I8 q8) fun b s9 ⟨H9, I9, q9⟩ => ?_
      -- the turn's end, from any slots that know what the block knew at its start
      have fin : ∀ {σ9 : L2.St} {s' : Shared} {H' : Hp}, L2.Inv (X.blk s3 H3 scope ce fp) ([] ++ pinsAt fp s7.heap) σ9 H' s' → (L2.wipe σ (own.map (·.2))).length = σ9.length → (∀ (j : Nat) v, (L2.wipe σ (own.map (·.2)))[j]? = some (some v) → σ9[j]? = some (some v)) → Nx H' →
          ∃ m, m < n ∧ ∃ i H', L2.Inv (X.blk s3 H3 scope ce fp) [] (L2.wipe σ (own.map (·.2))) H' s' ∧ tn i s'.heap ∧ (∀ b ∈ fp, H' b = none) ∧ W i m H' := fun {σ9 s' H'} I' hl hk nx => by
        obtain ⟨m', hm, w'⟩ := hNx H' nx
        have pin' : ∀ b ∈ fp, ∀ o, s7.heap.get? b = some o → s'.heap.get? b = some o ∧ H' b = none := fun b hb o e =>
          let z := I'.pin (b, o) (List.mem_append_right _ (List.mem_append_right _ (mem_pinsAt hb e)))
          ⟨z.1, z.2.1⟩
        refine ⟨m', hm, i + 1, H', (I'.unpinned (pins := [])).weak hl hk, T.keep _ _ _ st7 fun b hb o e => (pin' b hb o e).1, fun b hb => ?_, w'⟩
        obtain ⟨o, e, _⟩ := T.obj _ _ st7 b hb
        exact (pin' b hb o e).2
      have hl8 : (L2.wipe σ (own.map (·.2))).length = σ8.length := by rw [← hw8, L2.wipe_length]
      have hk8 : ∀ (j : Nat) v, (L2.wipe σ (own.map (·.2)))[j]? = some (some v) → σ8[j]? = some (some v) := fun j v e => by
        rw [← hw8] at e
        exact (L2.wipe_some e).1
      have hk9 : ∀ (j : Nat) v, (L2.wipe σ (own.map (·.2)))[j]? = some (some v) → (L2.wipe σ8 vs1)[j]? = some (some v) := fun j v e => by
        rw [← hw8] at e
        obtain ⟨e1, e2⟩ := L2.wipe_some e
        rw [L2.wipe_out fun z => e2 (hv j z)]
        exact e1
      cases b with
      | false =>
        simp only [Bool.false_eq_true, if_false] at q9 ⊢
        exact fin I9 hl8 hk8 q9
      | true =>
        simp only [if_true] at q9 ⊢
        refine thnF (pi1.run _ s9 σ8 H9 _ I9 q9) fun xv s10 hx => thnF hx fun itv s11 h11 => ?_
        obtain ⟨it1, fp1, tn1, J1, H11, e1, I11, T1, st11, f11, W1, ⟨m1, w1⟩, turn1⟩ := h11
        subst e1
        -- the inner loop
        have stat1 : ∀ {H' : Hp}, (∀ b ∈ fp1, H' b = none) → ∀ b ∈ fp1, FpOk (X.blk s3 H3 scope ce fp) ([] ++ pinsAt fp s7.heap) H' b := fun hn b hb => ⟨hn b hb, (f11 b hb).2⟩
        have loop1 : codeAny (model X.prog X.w) X.A (.compLoop (.SetComp elt [⟨tg, iter, ifs, 0⟩, ⟨tg1, iter1, ifs1, 0⟩] scope pos) 1 (.ref it1) (.ref D) ce)
            (fun r s' => match r with
              | .ok _ => ∃ m, m < n ∧ ∃ i H', L2.Inv (X.blk s3 H3 scope ce fp) [] (L2.wipe σ (own.map (·.2))) H' s' ∧ tn i s'.heap ∧ (∀ b ∈ fp, H' b = none) ∧ W i m H'
              | .error _ => False) s11 := by
          refine scLoop_in (fun k s' => ∃ j H', L2.Inv (X.blk s3 H3 scope ce fp) ([] ++ pinsAt fp s7.heap) (L2.wipe σ8 vs1) H' s' ∧ tn1 j s'.heap ∧ (∀ b ∈ fp1, H' b = none) ∧ W1 j k H') ?_ m1 ⟨0, H11, I11.weak (L2.wipe_length _ _) (fun j v e => (L2.wipe_some e).1), st11, fun b hb => (f11 b hb).1, w1⟩
          rintro k s12 ⟨j, H12, I12, st12, n12, w12⟩
          rcases turn1 j k H12 w12 with ⟨stop1, nx1⟩ | ⟨go1, Nx1, hNx1, step1⟩
          · refine thnF (T1.done (X.blk s3 H3 scope ce fp) rfl rfl rfl hc j _ s12 (L2.wipe σ8 vs1) H12 (fun _ _ => False) I12 (stat1 n12) st12 stop1) fun r s13 ⟨hr, I13⟩ => ?_
            subst hr
            exact fin I13 (hl8.trans (L2.wipe_length σ8 vs1).symm) hk9 nx1
          · refine thnF (T1.item (X.blk s3 H3 scope ce fp) rfl rfl rfl hc j _ s12 (L2.wipe σ8 vs1) H12 (fun _ _ => False) I12 (stat1 n12) st12 go1) fun r s13 ⟨u1, hr, h13⟩ => ?_
            subst hr
            refine thnF h13 fun _ s14 ⟨x1, H14, I14, r14, y14, st14, n14⟩ => ?_
            have I14' := I14.pinned (stat1 n14) (T1.obj _ _ st14)
            refine thnF (pg1.run _ s14 (L2.wipe σ8 vs1) H14 x1 u1 _ I14' r14 (step1 x1 H14 y14)) fun _ s15 ⟨σ15, H15, I15, hw15, q15⟩ => ?_
            refine thnF (pt1.run _ s15 σ15 H15 _ I15 q15) fun b1 s16 ⟨H16, I16, q16⟩ => ?_
            have fin1 : ∀ {s' : Shared} {H' : Hp}, L2.Inv (X.blk s3 H3 scope ce fp) (([] ++ pinsAt fp s7.heap) ++ pinsAt fp1 s14.heap) σ15 H' s' → Nx1 H' → ∃ m, m < k ∧ ∃ j H', L2.Inv (X.blk s3 H3 scope ce fp) ([] ++ pinsAt fp s7.heap) (L2.wipe σ8 vs1) H' s' ∧ tn1 j s'.heap ∧ (∀ b ∈ fp1, H' b = none) ∧ W1 j m H' := fun {s' H'} I' nx => by
              obtain ⟨m', hm, w'⟩ := hNx1 H' nx
              have pin' : ∀ b ∈ fp1, ∀ o, s14.heap.get? b = some o → s'.heap.get? b = some o ∧ H' b = none := fun b hb o e =>
                let z := I'.pin (b, o) (List.mem_append_right _ (List.mem_append_right _ (mem_pinsAt hb e)))
                ⟨z.1, z.2.1⟩
              refine ⟨m', hm, j + 1, H', I'.unpinned.weak (by rw [← hw15, L2.wipe_length]) (fun j v e => by rw [← hw15] at e; exact (L2.wipe_some e).1), T1.keep _ _ _ st14 fun b hb o e => (pin' b hb o e).1, fun b hb => ?_, w'⟩
              obtain ⟨o, e, _⟩ := T1.obj _ _ st14 b hb
              exact (pin' b hb o e).2
            cases b1 with
            | false =>
              simp only [Bool.false_eq_true, if_false] at q16 ⊢
              exact fin1 I16 q16
            | true =>
              simp only [if_true] at q16 ⊢
              refine thnF (pe.run _ s16 σ15 H16 _ I16 q16) fun z s17 ⟨yv, H17, I17, r17, cc, l0, ey, hD17, hz17, nx⟩ => ?_
              subst ey
              obtain ⟨tk, rfl⟩ := r17
              exact addS_ok (X := X.blk s3 H3 scope ce fp) I17 hD17 hz17 fun s18 I18 => fin1 I18 nx
        exact scStart1_ok loop1 (T1.self X.A 0 _ _ _ st11 loop1)
  exact PpSet.codeAny_compStart_set loop (T.self X.A 0 _ _ _ st4 loop)
theorem pe_sc2 {elt tg iter tg1 iter1 : Expr} {ifs ifs1 : List Expr} {scope : Scope} {own : List (Str × Nat)} {vs1 : List Nat} {pos : Pos} {wi wi1 : TI} {g g1 : TG} {tt tt1 : TT} {te : TE} (hc : X.calm = true) (hN : X.N.Nodup) (hi : PI X tg iter wi) (ok : BlkOk X.N X.env.scope scope own) (hv : ∀ i ∈ vs1, i ∈ own.map (·.2))
    (hg : ∀ (s : Shared) (H : Hp) (C : Addr) (cl : List (Str × Addr)) (fp : List Addr), PG (X.blk s H scope (compEnvC scope cl C X.env) fp) tg g) (ht : ∀ (s : Shared) (H : Hp) (C : Addr) (cl : List (Str × Addr)) (fp : List Addr), PTs (X.blk s H scope (compEnvC scope cl C X.env) fp) ifs tt)
    (hi1 : ∀ (s : Shared) (H : Hp) (C : Addr) (cl : List (Str × Addr)) (fp : List Addr), PI (X.blk s H scope (compEnvC scope cl C X.env) fp) tg1 iter1 wi1)
    (hg1 : ∀ (s : Shared) (H : Hp) (C : Addr) (cl : List (Str × Addr)) (fp : List Addr), PG (X.blk s H scope (compEnvC scope cl C X.env) fp) tg1 g1) (ht1 : ∀ (s : Shared) (H : Hp) (C : Addr) (cl : List (Str × Addr)) (fp : List Addr), PTs (X.blk s H scope (compEnvC scope cl C X.env) fp) ifs1 tt1)
    (he : ∀ (s : Shared) (H : Hp) (C : Addr) (cl : List (Str × Addr)) (fp : List Addr), PE (X.blk s H scope (compEnvC scope cl C X.env) fp) elt te) (hs : ∀ x, foldedSetIterable iter X.env x = pure x) (hs1 : ∀ env x, foldedSetIterable iter1 env x = pure x) :
    PE X (.SetComp elt [⟨tg, iter, ifs, 0⟩, ⟨tg1, iter1, ifs1, 0⟩] scope pos) (tSc2 X.w wi g tt wi1 g1 tt1 te (own.map (·.2)) vs1) := by
  refine ⟨fun pins s σ H Q I h => ?_⟩
  rw [PpSet.eval_SetComp]
  refine sc2_core hc hN I hi ok hv hg ht he hs hi1 hg1 ht1 hs1 h fun D C s' m H' I' q hn f => ⟨m, hn, fun h'' sb => ?_⟩
  obtain ⟨f0, f1, f2, f3, f4, f5⟩ := f
  exact ⟨.ref D, H', I'.turned (t' := s'.toks) (fun b o hb e => (sb.2 b hb).trans e) f0 f1 f3 f4 f5, rfl, q⟩
end
end Rp

namespace Rp
open PySem PySem.Spec PyProof.Rows L2

section
variable {Z : Zo} {g : G} {C : Cl} {k : Nat} {X : Cx} {E : XK} {N : List Str} {sc : Scope}
theorem putK_len {kvs : List (Bool × V)} {k : Bool} {v x : V} (h : valV kvs k = some x) : (putK kvs k v).length = kvs.length := by
  unfold putK
  rw [if_pos (by rw [valV_any, h]; rfl), List.length_map]
theorem set_ok (zP : Z.P = X.prog) (zW : Z.w = X.w) : PSet X (RSt Z E) := by
  intro pins s σ H x y v ov iv u Q I ro ri rv ⟨φ, a, b, d, M, S, ra, rb, rd, o⟩
  cases a with
  | ref n =>
    cases b with
    | int kk =>
      cases rb
      simp only [stoop] at o
      split at o
      · next l hl =>
        split at o
        · next j hj =>
          obtain ⟨c, vs, hc, rfl, p, q⟩ := S.lst hl ra
          refine set_list pins s σ H _ _ v ov iv u Q I ro ri rv ⟨c, vs, kk, j, rfl, rfl, p, by rw [q.length]; exact hj, ?_⟩
          obtain ⟨st', S'⟩ := S.set (o := .lst (l.set j d)) (ho := .lst (vs.set j v)) hc trivial fun st' => ⟨_, upd_same, Reps.set (rd.step st') j (q.step st')⟩
          exact o _ () _ st' S' trivial
        · exact o.elim
      · exact o.elim
    | bl b =>
      cases rb
      simp only [stoop] at o
      split at o
      · next t f hl =>
        obtain ⟨c, kvs, x1, y1, hc, rfl, hH, h1, h2, h3, r1, r2⟩ := S.bd hl ra
        cases (show ov = Value.ref c from ro)
        rw [zP, zW] at hH
        refine bd_setItem I hH ri rv (by omega) fun s' I' => ?_
        obtain ⟨st', S'⟩ := S.set (o := if b then .bd d f else .bd t d) (ho := DicB X.prog X.w c (putK kvs b v)) hc trivial fun st' => by
          cases b
          · exact ⟨putK kvs false v, x1, v, by rw [upd_same, zP, zW], by rw [putK_len h3]; exact h1, by rw [valV_put]; simpa using h2, by rw [valV_put]; simp, r1.step st', rd.step st'⟩
          · exact ⟨putK kvs true v, v, y1, by rw [upd_same, zP, zW], by rw [putK_len h2]; exact h1, by rw [valV_put]; simp, by rw [valV_put]; simpa using h3, rd.step st', r2.step st'⟩
        exact ⟨_, I', o _ () _ st' S' trivial⟩
      · exact o.elim
    | _ => exact o.elim
  | _ => exact o.elim
theorem g_sub (zP : Z.P = X.prog) (zW : Z.w = X.w) {o' i' : Expr} {p : Pos} {o i : Ex} (hi' : ckE N sc i i' = true) (ho : PE X o' (tX Z E C g o)) (hi : PE X i' (tX Z E C g i)) : PG X (.Subscript o' i' p) (tG Z E C g (.sub o i)) := by
  refine (pg_sub ho hi (set_ok (Z := Z) (E := E) zP zW) (by
    intro v
    cases i' with
    | Slice a b c p => cases i <;> simp [ckE, isName] at hi'
    | _ => rfl)).weak fun v σ H Q ⟨φ, ρ, M, d, L, S, r, oo⟩ => ?_
  simp only [stT] at oo
  refine Out.next (f := evE C g o) L S oo fun φ1 y M1 v1 H1 s1 L1 S1 r1 o1 => Out.next (f := evE C g i) L1 S1 o1 fun φ2 z M2 v2 H2 s2 L2 S2 r2 o2 => ?_
  refine ⟨φ2, y, z, d, M2, S2, r1.step s2, r2, (r.step s1).step s2, ?_⟩
  refine (o2.bind (rep := fun _ _ (_ : Unit) (_ : Unit) => True)).imp fun _ H3 ⟨φ3, _, M3, s3, S3, _, o3⟩ => o3.here S3 ⟨L2.step s3, .refl⟩
theorem zipd_at : ∀ {l r : List D} {i : Nat} {x : D}, (zipd l r)[i]? = some x → ∃ d e, l[i]? = some d ∧ r[i]? = some e ∧ x = .tup [d, e] := by
  intro l r i x h
  unfold zipd at h
  rw [List.getElem?_zipWith] at h
  cases h1 : l[i]? with
  | none => rw [h1] at h; cases h
  | some d =>
    cases h2 : r[i]? with
    | none => rw [h1, h2] at h; cases h
    | some e => rw [h1, h2] at h; cases h; exact ⟨d, e, rfl, rfl, rfl⟩
theorem zipd_length (l r : List D) : (zipd l r).length = min l.length r.length := by simp [zipd]
theorem s_zip (G : Here Z g C k X E N sc) {e e2 : Expr} {p pos tpos : Pos} {elts : List Expr} {kk : Nat} {a b : Ex} (hg : sc.names.lookup (st "zip") = some .globalImplicit) (hs : starEach [e, e2] X.env = (false, eval e X.env) :: starEach [e2] X.env) (hs2 : starEach [e2] X.env = [(false, eval e2 X.env)])
    (hp : (backTo pos (starEach [e2] X.env)).any (·.1) = false) (ha : PE X e (tX Z E C g a)) (hb : PE X e2 (tX Z E C g b)) : PI X (.Tuple elts kk tpos) (.Call (.Name (st "zip") p) [e, e2] [] pos) (tI Z E C g (.zip a b)) := by
  have hm : X.mg ("zip" : Str) = none := G.top.blt "zip" (by decide)
  refine (RZ.pi_zipA (G.gl hg) hm (pa_cons ha (pa_cons hb pa_nil hs2) hs) hs hp).weak fun σ H Q ⟨φ, ρ, M, L, S, o⟩ => ?_
  simp only [evI] at o
  refine Out.next (f := evE C g a) L S o fun φ1 y M1 v H1 s1 L1 S1 r1 o1 => Out.next (f := evE C g b) L1 S1 o1 fun φ2 z M2 w' H2 s2 L2 S2 r2 o2 => ?_
  cases y with
  | ref n =>
    cases z with
    | ref m =>
      have o2 : Out Z _ E φ2 H2 (iterZ (.ref n) (.ref m) M2) Q := o2
      simp only [iterZ] at o2
      split at o2
      · next l r hl hr =>
        obtain ⟨c, vs, _, rfl, p1, q1⟩ := S2.lst hl (r1.step s2)
        obtain ⟨d, ws, _, rfl, p2, q2⟩ := S2.lst hr r2
        have rn := r1.step s2
        refine ⟨c, d, vs, ws, rfl, .inl ⟨.of p1, .of p2, o2.here S2 ⟨fun φ' H' M i x s S h hx => ?_, fun φ' H' M i s S h hi => ?_⟩⟩⟩
        all_goals
          have h' : M[n]? = some (.lst l) ∧ M[m]? = some (.lst r) := by simpa [It.ok] using h
          obtain ⟨_, vs', _, e1, p1', q1'⟩ := S.lst h'.1 (rn.stay s)
          obtain ⟨_, ws', _, e2, p2', q2'⟩ := S.lst h'.2 (r2.stay s)
          cases e1; cases e2
        · obtain ⟨x1, x2, h1, h2, rfl⟩ := zipd_at hx
          obtain ⟨v1, hv1, rv1⟩ := q1'.get h1
          obtain ⟨v2, hv2, rv2⟩ := q2'.get h2
          exact ⟨⟨vs', ws', v1, v2, .of p1', .of p2', hv1, hv2⟩, fun w' H'' ⟨T, y1, y2, e0, hT, e1, e2, e3⟩ => by
            subst e0 e1
            have a1 := e2 vs' (.of p1')
            have a2 := e3 ws' (.of p2')
            rw [hv1] at a1
            rw [hv2] at a2
            cases a1; cases a2
            obtain ⟨st', S'⟩ := S.laid (ho := .tup [v1, v2]) hT
            exact ⟨φ', st', S', T, _, rfl, .inl upd_same, .cons (rv1.step st') (.cons (rv2.step st') .nil)⟩⟩
        · rw [zipd_length] at hi
          exact ⟨vs', ws', .of p1', .of p2', by rw [q1'.length, q2'.length]; omega⟩
      · exact o2.elim
    | _ => exact o2.elim
  | tup l =>
    cases z with
    | tup r =>
      have o2 : Out Z _ E φ2 H2 (iterZ (.tup l) (.tup r) M2) Q := o2
      simp only [iterZ] at o2
      have rn := r1.step s2
      obtain ⟨c, vs, rfl, p1, q1⟩ := id rn
      obtain ⟨d, ws, rfl, p2, q2⟩ := id r2
      refine ⟨c, d, vs, ws, rfl, .inr ⟨G.eK ▸ tup_tuple p1, G.eK ▸ tup_tuple p2, o2.here S2 ⟨fun φ' H' M i x s S h hx => ?_, fun φ' H' M i s S h hi => ?_⟩⟩⟩
      all_goals
        obtain ⟨_, vs', e1, p1', q1'⟩ := rn.stay s
        obtain ⟨_, ws', e2, p2', q2'⟩ := r2.stay s
        cases e1; cases e2
        have t1 : SqT X.K H' c vs' := G.eK ▸ tup_tuple p1'
        have t2 : SqT X.K H' d ws' := G.eK ▸ tup_tuple p2'
      · obtain ⟨x1, x2, h1, h2, rfl⟩ := zipd_at hx
        obtain ⟨v1, hv1, rv1⟩ := q1'.get h1
        obtain ⟨v2, hv2, rv2⟩ := q2'.get h2
        exact ⟨⟨vs', ws', v1, v2, t1, t2, hv1, hv2⟩, fun w' H'' ⟨T, y1, y2, e0, hT, e1, e2, e3⟩ => by
          subst e0 e1
          have a1 := e2 vs' t1
          have a2 := e3 ws' t2
          rw [hv1] at a1
          rw [hv2] at a2
          cases a1; cases a2
          obtain ⟨st', S'⟩ := S.laid (ho := .tup [v1, v2]) hT
          exact ⟨φ', st', S', T, _, rfl, .inl upd_same, .cons (rv1.step st') (.cons (rv2.step st') .nil)⟩⟩
      · rw [zipd_length] at hi
        exact ⟨vs', ws', t1, t2, by rw [q1'.length, q2'.length]; omega⟩
    | _ => exact o2.elim
  | _ => exact o2.elim
/-! ### comprehensions -/
def E0' : XK := fun _ _ _ => False
theorem Out.quiet {α ν : Type} {rep : List Addr → Hp → α → ν → Prop} {φ : List Addr} {H : Hp} {r : R α} {Q : ν → Hp → Prop} (h : Out Z rep E φ H r.quiet Q) : Out Z rep E0' φ H r Q := by
  cases r with
  | ok a M => exact h
  | exc c fs M => exact h.elim
  | stuck => exact h
theorem quiet_bind {α β μ ν : Type} {rep : List Addr → Hp → α → ν → Prop} {rep2 : List Addr → Hp → β → μ → Prop} {φ : List Addr} {H : Hp} {r : R α} {f : α → Hm → R β} {Q : μ → Hp → Prop} (h : Out Z rep2 E φ H (r.quiet.bind f) Q) :
    Out Z rep E0' φ H r fun v H1 => ∃ φ1 a M1, Step φ H φ1 H1 ∧ SR Z φ1 H1 M1 ∧ rep φ1 H1 a v ∧ Out Z rep2 E φ1 H1 (f a M1) Q := Out.quiet (Out.bind h)
theorem wipe_same (ρ : Lc) (σ : L2.St) (φ : List Addr) (H : Hp) (h : Lrep Z φ H ρ σ) : ∀ own : List Nat, Lrep Z φ H (wipe ρ own) (L2.wipe σ own)
  | [] => h
  | v :: vs => by
    have ih := wipe_same ρ σ φ H h vs
    refine ⟨by simp [wipe, L2.wipe, ih.len], fun i d e => ?_⟩
    unfold wipe at e
    unfold L2.wipe
    by_cases hv : v = i
    · subst hv
      by_cases hl : v < (wipe ρ vs).length
      · rw [List.getElem?_set_self hl] at e; cases e
      · rw [List.getElem?_eq_none (by simpa using hl)] at e; cases e
    · rw [List.getElem?_set_ne hv] at e ⊢
      exact ih.at' i d e
theorem blk_ok (G : Here Z g C k X E N sc) {scope : Scope} {own : List Nat} (h : blkB N sc scope own = true) : BlkOk N X.env.scope scope (own.map fun i => (N.getD i default, i)) := by
  unfold blkB at h
  simp only [Bool.and_eq_true] at h
  obtain ⟨⟨⟨h1, h2⟩, h3⟩, h4⟩ := h
  refine ⟨?_, fun y hy => ?_, fun p hp => ?_, fun y hy e => ?_, fun y hy e => ?_⟩
  · split at h1
    · assumption
    · cases h1
  · have := List.all_eq_true.mp h2 y hy
    revert this
    generalize scope.names.lookup y.1 = q
    cases y with
    | mk n kd =>
      intro h
      cases q with
      | none => cases kd <;> cases h
      | some q => cases q <;> cases kd <;> first | rfl | cases h
  · obtain ⟨i, hi, rfl⟩ := List.mem_map.mp hp
    have := of_decide_eq_true (List.all_eq_true.mp h3 i hi)
    show N[i]? = some (N.getD i default)
    rw [List.getD_eq_getElem?_getD, List.getElem?_eq_getElem this]; rfl
  · have := List.all_eq_true.mp h4 y hy
    rw [e] at this
    simp only at this
    split at this
    · next h => exact .inl ((G.rel _).2.1 h)
    · next h => exact (G.rel _).2.2.1 h
    · cases this
  · have := List.all_eq_true.mp h4 y hy
    have this : (own.any (fun i => decide (N[i]? = some y.1)) || !N.contains y.1) = true := by
      rcases e with e | e <;> (rw [e] at this; exact this)
    rw [Bool.or_eq_true] at this
    rcases this with h | h
    · obtain ⟨i, hi, hd⟩ := List.any_eq_true.mp h
      have hd := of_decide_eq_true hd
      refine .inl (List.mem_map.mpr ⟨(N.getD i default, i), List.mem_map.mpr ⟨i, hi, rfl⟩, ?_⟩)
      show N.getD i default = y.1
      rw [List.getD_eq_getElem?_getD, hd]; rfl
    · exact .inr (by simpa using h)
theorem own_ix (own : List Nat) : (own.map fun i => (N.getD i default, i)).map (·.2) = own := by
  rw [List.map_map]
  exact List.map_id' own
theorem lk_map (f : Str → NameKind → NameKind) (x : Str) : ∀ l : List (Str × NameKind), (l.map fun p => (p.1, f p.1 p.2)).lookup x = (l.lookup x).map (f x)
  | [] => rfl
  | (n, q) :: l => by
    rw [List.map_cons, List.lookup_cons, List.lookup_cons, lk_map f x l]
    cases h : x == n with
    | true => have : x = n := by simpa using h
              subst this; rfl
    | false => rfl
theorem relabel_lookup (scope : Scope) (env : Env) (x : Str) : (relabel scope env).names.lookup x = (scope.names.lookup x).map fun q => if (q == .free && env.scope.kind == .function && env.kindOf x == some .cell) = true then .cell else q := by
  have := lk_map (fun n q => if (q == .free && env.scope.kind == .function && env.kindOf n == some .cell) = true then NameKind.cell else q) x scope.names
  rw [← this]
  show List.lookup x (scope.names.map _) = _
  congr 1
  apply List.map_congr_left
  intro p _
  cases p with
  | mk n q => simp only; split <;> rfl
theorem relabel_ok {scope : Scope} {env : Env} (x : Str) : (scope.names.lookup x = some .local → (relabel scope env).names.lookup x = some .local) ∧ (scope.names.lookup x = some .cell → (relabel scope env).names.lookup x = some .cell) ∧
    (scope.names.lookup x = some .free → (relabel scope env).names.lookup x = some .cell ∨ (relabel scope env).names.lookup x = some .free) ∧ (scope.names.lookup x = some .globalImplicit → (relabel scope env).names.lookup x = some .globalImplicit) := by
  rw [relabel_lookup]
  refine ⟨fun h => ?_, fun h => ?_, fun h => ?_, fun h => ?_⟩ <;> rw [h]
  · rfl
  · rfl
  · simp only [Option.map_some]
    split
    · exact .inl rfl
    · exact .inr rfl
  · rfl
/-- within a comprehension's block -/
theorem Here.blk (G : Here Z g C k X E N sc) (s : Shared) (H : Hp) (scope : Scope) (Ca : Addr) (cl : List (Str × Addr)) (fp : List Addr) (hk : scope.kind = .function) : Here Z g C k (X.blk s H scope (compEnvC scope cl Ca X.env) fp) E0' N scope where
  eP := G.eP
  eW := G.eW
  eK := G.eK
  top := G.top
  calm := G.calm
  room := G.room
  gu := G.gu
  xN := G.xN
  nd := G.nd
  rel := relabel_ok
  own := PassesOwn.never
  fnx := fun x h => by show (scope.names.lookup x == some .cell) = true; rw [h]; rfl
  pas := fun _ _ _ _ _ _ _ h => by
    obtain ⟨_, _, _, _, _, _, _, _, _, _, _, _, z⟩ := h
    exact z.elim
/-- a test of a comprehension -/
abbrev tC (Z : Zo) (E : XK) (C : Cl) (g : G) (c : Exo) : TT := tB Z E (evC C g c)
theorem s_cnone : PTs X [] (tC Z E C g .none) := pts_nil.weak fun σ H Q ⟨φ, ρ, M, L, S, o⟩ => by
  simp only [evC] at o
  exact o.here S rfl
theorem s_csome {e : Expr} {a : Ex} (h : PT X e (tT Z E C g a)) : PTs X [e] (tC Z E C g (.some a)) := (pts_one h).weak fun σ H Q ⟨φ, ρ, M, L, S, o⟩ => by
  simp only [evC] at o
  exact ⟨φ, ρ, M, L, S, o⟩
theorem wipe_off {own l : List Nat} {σ σ' : L2.St} (hl : ∀ i ∈ l, i ∈ own) (h : Off l (L2.wipe σ own) σ') : L2.wipe σ' own = L2.wipe σ own := by
  have key : ∀ (own : List Nat) (σ : L2.St) (i : Nat), (L2.wipe σ own)[i]? = if i ∈ own ∧ i < σ.length then some none else σ[i]? := by
    intro own
    induction own with
    | nil => intro σ i; simp [L2.wipe]
    | cons a own ih =>
      intro σ i
      unfold L2.wipe
      by_cases ha : a = i
      · subst ha
        by_cases hi : a < σ.length
        · rw [List.getElem?_set_self (by rw [L2.wipe_length]; exact hi), if_pos ⟨by simp, hi⟩]
        · rw [List.getElem?_eq_none (by simp [L2.wipe_length]; omega), if_neg (fun z => hi z.2), List.getElem?_eq_none (by omega)]
      · rw [List.getElem?_set_ne ha, ih]
        have : (i ∈ a :: own) ↔ i ∈ own := by simp [Ne.symm ha]
        simp only [this]
  apply List.ext_getElem?
  intro i
  have hlen : σ'.length = σ.length := by rw [h.len, L2.wipe_length]
  rw [key, key]
  by_cases hi : i ∈ own
  · simp only [hi, true_and, hlen]
    split
    · rfl
    · next hh => rw [List.getElem?_eq_none (by omega), List.getElem?_eq_none (by omega)]
  · simp only [hi, false_and, if_false]
    rw [h.at' i fun z => hi (hl i z), key]
    simp [hi]
theorem it_drop {α : Type} {l : List α} {i : Nat} {x : α} {xs : List α} (h : l.drop i = x :: xs) : l[i]? = some x ∧ l.drop (i + 1) = xs := by
  refine ⟨?_, ?_⟩
  · have := congrArg (·[0]?) h
    simpa using this
  · rw [← List.drop_drop, h]; rfl
theorem lc_of {elt : Ex} {t : Tg} {ix : Ix} {c : Exo} {own : List Nat} (ho : t.slots.all (own.contains ·) = true)
    : ∀ σ H Q, tX Z E C g (.lc elt t ix c own) σ H Q → tLc (tI Z E C g ix) (tG Z E0' C g t) (tC Z E0' C g c) (tX Z E0' C g elt) own σ H Q := by
  rintro σ H Q ⟨φ, ρ, M, L, S, o⟩
  simp only [evE] at o
  refine Out.next (rep := fun φ H it J => ItOk Z φ H it J) (f := evI C g ix) L S o fun φ1 it M1 J H1 s1 L1 S1 ik o1 => fun D hD => ?_
  obtain ⟨st0, S0⟩ := S1.laid (ho := .lst []) hD
  have hDφ := S1.out hD
  refine ⟨fun i m H' => i + m = it.items.length ∧ ∃ φ' M' acc vs, Step φ1 H1 φ' H' ∧ SR Z φ' H' M' ∧ D ∉ φ' ∧ H' D = some (.lst vs) ∧ Reps Z φ' H' acc vs ∧ Out Z (Rep Z) E φ1 H1 (turns (stT C g t) (evC C g c) (evE C g elt) it.ok (wipe ρ own) acc (it.items.drop i) M') Q,
    ⟨it.items.length, by omega, φ1, M1, [], [], st0, S0, hDφ, upd_same, rfl, o1⟩, fun i m H' ⟨him, φ', M', acc, vs, st', S', hD', hv, rr, o'⟩ => ?_⟩
  cases hd : it.items.drop i with
  | nil =>
    left
    rw [hd] at o'
    unfold turns at o'
    split at o'
    · next hok =>
      have hlen : it.items.length ≤ i := by simpa using hd
      refine ⟨ik.stop φ' H' M' i st'.stay S' hok hlen, ?_⟩
      -- the list takes its number
      have st2 : Step φ1 H1 (φ' ++ [D]) H' := by
        refine ⟨st'.pre.trans (List.prefix_append _ _), fun b u e h => ⟨(st'.keep b u e h).1, fun z => ?_⟩, st'.tup, st'.frz⟩
        rcases List.mem_append.mp z with z | z
        · exact (st'.keep b u e h).2 z
        · have : b = D := by simpa using z
          subst this; rw [hD] at e; cases e
      have sty : Stay φ' H' (φ' ++ [D]) H' := ⟨List.prefix_append _ _, fun _ _ h => h, fun _ _ _ h => h⟩
      have S2 : SR Z (φ' ++ [D]) H' (M' ++ [.lst acc]) := by
        refine ⟨by simp [S'.len], ?_, fun n w e => ?_⟩
        · exact List.nodup_append.mpr ⟨S'.nd, by simp, fun a ha b hb => by
            have : b = D := by simpa using hb
            subst this; exact fun z => hD' (z ▸ ha)⟩
        · by_cases hn : n < M'.length
          · rw [List.getElem?_append_left hn] at e
            obtain ⟨a, ha, r⟩ := S'.at' n w e
            exact ⟨a, pre_at (List.prefix_append _ _) ha, r.stay sty rfl⟩
          · have hlt := (List.getElem?_eq_some_iff.mp e).1
            have : n = M'.length := by simp at hlt; omega
            subst this
            have e' : O.lst acc = w := by simpa using e
            subst e'
            exact ⟨D, by rw [← S'.len]; simp, vs, hv, rr.stay sty⟩
      exact o' (φ' ++ [D]) (.ref D) H' st2 S2 ⟨D, by rw [← S'.len]; simp, rfl⟩
    · exact o'.elim
  | cons x xs =>
    right
    obtain ⟨hx, hxs⟩ := it_drop hd
    rw [hd] at o'
    unfold turns at o'
    split at o'
    case isFalse => exact o'.elim
    case isTrue hok =>
    obtain ⟨hgo, hy⟩ := ik.step φ' H' M' i x st'.stay S' hok.1 hx
    have hi' : i < it.items.length := (List.getElem?_eq_some_iff.mp hx).1
    refine ⟨hgo, fun H'' => ∃ φ2 M2 acc2 vs2, Step φ1 H1 φ2 H'' ∧ SR Z φ2 H'' M2 ∧ D ∉ φ2 ∧ H'' D = some (.lst vs2) ∧ Reps Z φ2 H'' acc2 vs2 ∧ Out Z (Rep Z) E φ1 H1 (turns (stT C g t) (evC C g c) (evE C g elt) it.ok (wipe ρ own) acc2 xs M2) Q,
      fun H'' ⟨φ2, M2, acc2, vs2, a1, a2, a3, a4, a5, a6⟩ => ⟨m - 1, by omega, by omega, φ2, M2, acc2, vs2, a1, a2, a3, a4, a5, by rw [hxs]; exact a6⟩, fun v H2 yl => ?_⟩
    obtain ⟨φ2, s2, S2, rx⟩ := hy v H2 yl
    obtain ⟨hv2, hD2⟩ := s2.keep D _ hv hD'
    have b2 : Step φ1 H1 φ2 H2 := st'.trans s2
    -- the target
    refine ⟨φ2, wipe ρ own, M', x, wipe_same ρ σ φ2 H2 (L1.step b2) own, S2, rx, ?_⟩
    cases q1 : stT C g t x (wipe ρ own) M' with
    | exc cc fs M3 => rw [q1] at o'; exact o'.elim
    | stuck => rw [q1] at o'; exact o'.elim
    | ok ρ1 M3 =>
    rw [q1] at o'
    simp only [R.ok_quiet, R.ok_bind] at o'
    intro φ3 σ3 H3 s3 S3 ⟨L3, f3⟩
    obtain ⟨hv3, hD3⟩ := s3.keep D _ hv2 hD2
    refine ⟨wipe_off (fun j hj => by simpa using List.all_eq_true.mp ho j hj) f3, φ3, ρ1, M3, L3, S3, ?_⟩
    -- the test
    cases q2 : evC C g c ρ1 M3 with
    | exc cc fs M4 => rw [q2] at o'; exact o'.elim
    | stuck => rw [q2] at o'; exact o'.elim
    | ok b M4 =>
    rw [q2] at o'
    simp only [R.ok_quiet, R.ok_bind] at o'
    intro φ4 b' H4 s4 S4 eb
    have eb' : b' = b := eb
    subst eb'
    obtain ⟨hv4, hD4⟩ := s4.keep D _ hv3 hD3
    have b4 : Step φ1 H1 φ4 H4 := (b2.trans s3).trans s4
    have rr4 : Reps Z φ4 H4 acc vs := ((rr.step s2).step s3).step s4
    cases b' with
    | false =>
      rw [if_neg Bool.false_ne_true] at o' ⊢
      exact ⟨φ4, M4, acc, vs, b4, S4, hD4, hv4, rr4, o'⟩
    | true =>
      rw [if_pos rfl] at o' ⊢
      refine ⟨φ4, ρ1, M4, L3.step s4, S4, ?_⟩
      cases q3 : evE C g elt ρ1 M4 with
      | exc cc fs M5 => rw [q3] at o'; exact o'.elim
      | stuck => rw [q3] at o'; exact o'.elim
      | ok d M5 =>
      rw [q3] at o'
      simp only [R.ok_quiet, R.ok_bind] at o'
      intro φ5 y H5 s5 S5 ry
      obtain ⟨hv5, hD5⟩ := s5.keep D _ hv4 hD4
      obtain ⟨sty, S6⟩ := S5.off (o := .lst (vs ++ [y])) hD5 hv5 trivial
      exact ⟨vs, hv5, by rw [rr.length, ← LN_eq]; exact hok.2, φ5, M5, acc ++ [d], vs ++ [y], (b4.trans s5).off hD, S6, hD5, upd_same, ((rr4.step s5).stay sty).append (.cons (ry.stay sty) .nil), o'⟩
theorem s_lc (G : Here Z g C k X E N sc) {elt' tg iter : Expr} {cs : List Expr} {scope : Scope} {pos : Pos} {elt : Ex} {t : Tg} {ix : Ix} {c : Exo} {own : List Nat} (hb : blkB N sc scope own = true) (ho : t.slots.all (own.contains ·) = true)
    (hi : PI X tg iter (tI Z E C g ix)) (hs : ∀ x, foldedSetIterable iter X.env x = pure x)
    (hg : ∀ (Y : Cx), Here Z g C k Y E0' N scope → PG Y tg (tG Z E0' C g t)) (hc : ∀ (Y : Cx), Here Z g C k Y E0' N scope → PTs Y cs (tC Z E0' C g c)) (he : ∀ (Y : Cx), Here Z g C k Y E0' N scope → PE Y elt' (tX Z E0' C g elt)) :
    PE X (.ListComp elt' [⟨tg, iter, cs, 0⟩] scope pos) (tX Z E C g (.lc elt t ix c own)) := by
  have ok := blk_ok G hb
  have hk : scope.kind = .function := ok.kind
  refine (pe_lc G.calm (by rw [G.xN]; exact G.nd) hi (by rw [G.xN]; exact ok) (fun s H Ca cl fp => hg _ (G.blk s H scope Ca cl fp hk)) (fun s H Ca cl fp => hc _ (G.blk s H scope Ca cl fp hk)) (fun s H Ca cl fp => he _ (G.blk s H scope Ca cl fp hk)) hs).weak fun σ H Q h => ?_
  rw [own_ix]
  exact lc_of ho σ H Q h
/-- name = [..] on one line, stored by the block itself -/
theorem s_setLc (G : Here Z g C k X E N sc) {elt' tg iter : Expr} {cs : List Expr} {scope : Scope} {pos py spos : Pos} {y : Str} {i : Nat} {elt : Ex} {t : Tg} {ix : Ix} {c : Exo} {own : List Nat} (hb : blkB N sc scope own = true) (ho : t.slots.all (own.contains ·) = true)
    (hy : N[i]? = some y) (hyl : X.env.scope.names.lookup y = some .local) (hsw : swapsWith (.ListComp elt' [⟨tg, iter, cs, 0⟩] scope pos) (some (.Name y py)) spos.line X.env = pure true)
    (hi : PI X tg iter (tI Z E C g ix)) (hs : ∀ x, foldedSetIterable iter X.env x = pure x)
    (hg : ∀ (Y : Cx), Here Z g C k Y E0' N scope → PG Y tg (tG Z E0' C g t)) (hc : ∀ (Y : Cx), Here Z g C k Y E0' N scope → PTs Y cs (tC Z E0' C g c)) (he : ∀ (Y : Cx), Here Z g C k Y E0' N scope → PE Y elt' (tX Z E0' C g elt)) :
    PS X (.Assign [.Name y py] (.ListComp elt' [⟨tg, iter, cs, 0⟩] scope pos) spos) (tAsg (tX Z E C g (.lc elt t ix c own)) (gName i)) := by
  have ok := blk_ok G hb
  have hk : scope.kind = .function := ok.kind
  have key := ps_setLc G.calm (by rw [G.xN]; exact G.nd) (by rw [G.xN]; exact hy) hyl hsw hi (by rw [G.xN]; exact ok) (fun s H Ca cl fp => hg _ (G.blk s H scope Ca cl fp hk)) (fun s H Ca cl fp => hc _ (G.blk s H scope Ca cl fp hk)) (fun s H Ca cl fp => he _ (G.blk s H scope Ca cl fp hk)) hs
  rw [own_ix] at key
  exact ⟨fun pins s σ H D I h => key.run pins s σ H D I (lc_of ho σ H _ h)⟩
/-! ### a set of texts by two walks -/
theorem addS_eq (acc : List Rp.S) (z : Rp.S) : addT (strV acc) ⟨z.toArray⟩ = strV (if z ∈ acc then acc else acc ++ [z]) := by
  unfold addT
  by_cases h : z ∈ acc
  · rw [if_pos (strV_mem.mpr h), if_pos h]
  · rw [if_neg fun q => h (strV_mem.mp q), if_neg h]
    simp [strV]
theorem quiet_assoc {α β γ : Type} (r : R α) (f : α → Hm → R β) (k : β → Hm → R γ) : (r.bind f).bind k = r.bind fun a M => (f a M).bind k := R.bind_assoc r f k
theorem turns2_nil (st : D → Lc → Hm → R Lc) (f : List Rp.S → Lc → Hm → R (List Rp.S)) (ok : Hm → Bool) (ρ : Lc) (acc : List Rp.S) (M : Hm) : turns2 st f ok ρ acc [] M = if ok M then .ok acc M else .stuck := rfl
theorem turns2_cons (st : D → Lc → Hm → R Lc) (f : List Rp.S → Lc → Hm → R (List Rp.S)) (ok : Hm → Bool) (ρ : Lc) (acc : List Rp.S) (x : D) (xs : List D) (M : Hm) :
    turns2 st f ok ρ acc (x :: xs) M = if ok M then (st x ρ M).quiet.bind fun ρ1 M1 => (f acc ρ1 M1).quiet.bind fun a2 M2 => turns2 st f ok ρ a2 xs M2 else .stuck := rfl
theorem addS_str (a : List Rp.S) (z : Rp.S) (M : Hm) : addS a (.str z) M = if a.length ≤ 1000 then .ok (if z ∈ a then a else a ++ [z]) M else .stuck := rfl
theorem s_sc2 (G : Here Z g C k X E N sc) {elt' tg iter tg1 iter1 : Expr} {scope : Scope} {pos : Pos} {elt : Ex} {t t' : Tg} {ix ix' : Ix} {own : List Nat} (hb : blkB N sc scope own = true) (ho : t.slots.all (own.contains ·) = true) (ho' : t'.slots.all (own.contains ·) = true)
    (hi : PI X tg iter (tI Z E C g ix)) (hs : ∀ x, foldedSetIterable iter X.env x = pure x) (hs1 : ∀ env x, foldedSetIterable iter1 env x = pure x)
    (hg : ∀ (Y : Cx), Here Z g C k Y E0' N scope → PG Y tg (tG Z E0' C g t)) (hi1 : ∀ (Y : Cx), Here Z g C k Y E0' N scope → PI Y tg1 iter1 (tI Z E0' C g ix'))
    (hg1 : ∀ (Y : Cx), Here Z g C k Y E0' N scope → PG Y tg1 (tG Z E0' C g t')) (he : ∀ (Y : Cx), Here Z g C k Y E0' N scope → PE Y elt' (tX Z E0' C g elt)) :
    PE X (.SetComp elt' [⟨tg, iter, [], 0⟩, ⟨tg1, iter1, [], 0⟩] scope pos) (tX Z E C g (.sc2 elt t ix t' ix' own)) := by
  have ok := blk_ok G hb
  have hk : scope.kind = .function := ok.kind
  refine (pe_sc2 (vs1 := t'.slots) (tt := tC Z E0' C g .none) (tt1 := tC Z E0' C g .none) G.calm (by rw [G.xN]; exact G.nd) hi (by rw [G.xN]; exact ok) (fun i hi => by rw [own_ix]; simpa using List.all_eq_true.mp ho' i hi)
    (fun s H Ca cl fp => hg _ (G.blk s H scope Ca cl fp hk)) (fun s H Ca cl fp => s_cnone) (fun s H Ca cl fp => hi1 _ (G.blk s H scope Ca cl fp hk)) (fun s H Ca cl fp => hg1 _ (G.blk s H scope Ca cl fp hk)) (fun s H Ca cl fp => s_cnone)
    (fun s H Ca cl fp => he _ (G.blk s H scope Ca cl fp hk)) hs hs1).weak fun σ H Q ⟨φ, ρ, M, L, S, o⟩ => ?_
  simp only [evE] at o
  rw [own_ix]
  refine Out.next (rep := fun φ H it J => ItOk Z φ H it J) (f := evI C g ix) L S o fun φ1 it M1 J H1 s1 L1 S1 ik o1 => fun D hD => ?_
  obtain ⟨st0, S0⟩ := S1.laid (ho := SetSO X.w D []) hD
  have hDφ := S1.out hD
  generalize hin : (fun (a : List Rp.S) (ρ1 : Lc) (M2 : Hm) => (evI C g ix' ρ1 M2).bind fun jt M3 => turns2 (stT C g t') (fun a ρ2 M4 => (evE C g elt ρ2 M4).bind fun d M5 => addS a d M5) jt.ok (wipe ρ1 t'.slots) a jt.items M3) = inner at o1
  refine ⟨fun i m H' => i + m = it.items.length ∧ ∃ φ' M' acc, Step φ1 H1 φ' H' ∧ SR Z φ' H' M' ∧ D ∉ φ' ∧ H' D = some (SetSO X.w D (strV acc)) ∧ Out Z (Rep Z) E φ1 H1 ((turns2 (stT C g t) inner it.ok (wipe ρ own) acc (it.items.drop i) M').bind fun a M6 => new (.set (a.map .str)) M6) Q,
    ⟨it.items.length, by omega, φ1, M1, [], st0, S0, hDφ, upd_same, o1⟩, fun i m H' ⟨him, φ', M', acc, st', S', hD', hv, o'⟩ => ?_⟩
  cases hd : it.items.drop i with
  | nil =>
    left
    rw [hd] at o'
    unfold turns2 at o'
    split at o'
    · next hok =>
      have hlen : it.items.length ≤ i := by simpa using hd
      refine ⟨ik.stop φ' H' M' i st'.stay S' hok hlen, ?_⟩
      rw [R.ok_bind] at o'
      have st2 : Step φ1 H1 (φ' ++ [D]) H' := by
        refine ⟨st'.pre.trans (List.prefix_append _ _), fun b u e h => ⟨(st'.keep b u e h).1, fun z => ?_⟩, st'.tup, st'.frz⟩
        rcases List.mem_append.mp z with z | z
        · exact (st'.keep b u e h).2 z
        · have : b = D := by simpa using z
          subst this; rw [hD] at e; cases e
      have sty : Stay φ' H' (φ' ++ [D]) H' := ⟨List.prefix_append _ _, fun _ _ h => h, fun _ _ _ h => h⟩
      have S2 : SR Z (φ' ++ [D]) H' (M' ++ [.set (acc.map .str)]) := by
        refine ⟨by simp [S'.len], ?_, fun n w e => ?_⟩
        · exact List.nodup_append.mpr ⟨S'.nd, by simp, fun a ha b hb => by
            have : b = D := by simpa using hb
            subst this; exact fun z => hD' (z ▸ ha)⟩
        · by_cases hn : n < M'.length
          · rw [List.getElem?_append_left hn] at e
            obtain ⟨a, ha, r⟩ := S'.at' n w e
            exact ⟨a, pre_at (List.prefix_append _ _) ha, r.stay sty rfl⟩
          · have hlt := (List.getElem?_eq_some_iff.mp e).1
            have : n = M'.length := by simp at hlt; omega
            subst this
            have e' : O.set (acc.map .str) = w := by simpa using e
            subst e'
            exact ⟨D, by rw [← S'.len]; simp, strV acc, by rw [G.eW]; exact hv, by rw [strV_back]⟩
      exact o' (φ' ++ [D]) (.ref D) H' st2 S2 ⟨D, by rw [← S'.len]; simp, rfl⟩
    · exact o'.elim
  | cons x xs =>
    right
    obtain ⟨hx, hxs⟩ := it_drop hd
    rw [hd] at o'
    unfold turns2 at o'
    split at o'
    case isFalse => exact o'.elim
    case isTrue hok =>
    obtain ⟨hgo, hy⟩ := ik.step φ' H' M' i x st'.stay S' hok hx
    have hi' : i < it.items.length := (List.getElem?_eq_some_iff.mp hx).1
    have fin : ∀ H'', (∃ φ2 M2 acc2, Step φ1 H1 φ2 H'' ∧ SR Z φ2 H'' M2 ∧ D ∉ φ2 ∧ H'' D = some (SetSO X.w D (strV acc2)) ∧ Out Z (Rep Z) E φ1 H1 ((turns2 (stT C g t) inner it.ok (wipe ρ own) acc2 xs M2).bind fun a M6 => new (.set (a.map .str)) M6) Q) →
        ∃ m', m' < m ∧ i + 1 + m' = it.items.length ∧ ∃ φ' M' acc, Step φ1 H1 φ' H'' ∧ SR Z φ' H'' M' ∧ D ∉ φ' ∧ H'' D = some (SetSO X.w D (strV acc)) ∧ Out Z (Rep Z) E φ1 H1 ((turns2 (stT C g t) inner it.ok (wipe ρ own) acc (it.items.drop (i + 1)) M').bind fun a M6 => new (.set (a.map .str)) M6) Q :=
      fun H'' ⟨φ2, M2, acc2, a1, a2, a3, a4, a6⟩ => ⟨m - 1, by omega, by omega, φ2, M2, acc2, a1, a2, a3, a4, by rw [hxs]; exact a6⟩
    refine ⟨hgo, fun H'' => ∃ φ2 M2 acc2, Step φ1 H1 φ2 H'' ∧ SR Z φ2 H'' M2 ∧ D ∉ φ2 ∧ H'' D = some (SetSO X.w D (strV acc2)) ∧ Out Z (Rep Z) E φ1 H1 ((turns2 (stT C g t) inner it.ok (wipe ρ own) acc2 xs M2).bind fun a M6 => new (.set (a.map .str)) M6) Q, fin, fun v H2 yl => ?_⟩
    obtain ⟨φ2, s2, S2, rx⟩ := hy v H2 yl
    obtain ⟨hv2, hD2⟩ := s2.keep D _ hv hD'
    have b2 : Step φ1 H1 φ2 H2 := st'.trans s2
    refine ⟨φ2, wipe ρ own, M', x, wipe_same ρ σ φ2 H2 (L1.step b2) own, S2, rx, ?_⟩
    cases q1 : stT C g t x (wipe ρ own) M' with
    | exc cc fs M3 => rw [q1] at o'; exact o'.elim
    | stuck => rw [q1] at o'; exact o'.elim
    | ok ρ1 M3 =>
    rw [q1] at o'
    simp only [R.ok_quiet, R.ok_bind] at o'
    intro φ3 σ3 H3 s3 S3 ⟨L3, f3⟩
    obtain ⟨hv3, hD3⟩ := s3.keep D _ hv2 hD2
    have b3 : Step φ1 H1 φ3 H3 := b2.trans s3
    refine ⟨wipe_off (fun j hj => by simpa using List.all_eq_true.mp ho j hj) f3, φ3, ρ1, M3, L3, S3, ?_⟩
    simp only [evC]
    intro φ3' bt H3' s3' S3' eb
    have eb' : bt = true := eb
    subst eb'
    rw [if_pos rfl]
    have L3' := L3.step s3'
    obtain ⟨hv3', hD3'⟩ := s3'.keep D _ hv3 hD3
    have b3' := b3.trans s3'
    subst hin
    simp only at o'
    refine ⟨φ3', ρ1, M3, L3', S3', ?_⟩
    cases q2 : evI C g ix' ρ1 M3 with
    | exc cc fs M4 => rw [q2] at o'; exact o'.elim
    | stuck => rw [q2] at o'; exact o'.elim
    | ok jt M4 =>
    rw [q2] at o'
    simp only [R.ok_bind] at o'
    intro φ4 J1 H4 s4 S4 jk
    obtain ⟨hv4, hD4⟩ := s4.keep D _ hv3' hD3'
    have b4 := b3'.trans s4
    have L4 := L3'.step s4
    refine ⟨fun j m1 H' => j + m1 = jt.items.length ∧ ∃ φ' M' acc, Step φ1 H1 φ' H' ∧ Stay φ4 H4 φ' H' ∧ SR Z φ' H' M' ∧ D ∉ φ' ∧ H' D = some (SetSO X.w D (strV acc)) ∧
        Out Z (Rep Z) E φ1 H1 (((turns2 (stT C g t') (fun a ρ2 M4 => (evE C g elt ρ2 M4).bind fun d M5 => addS a d M5) jt.ok (wipe ρ1 t'.slots) acc (jt.items.drop j) M').quiet.bind fun a2 M2 => turns2 (stT C g t) (fun (a : List Rp.S) (ρ1 : Lc) (M2 : Hm) => (evI C g ix' ρ1 M2).bind fun jt M3 => turns2 (stT C g t') (fun a ρ2 M4 => (evE C g elt ρ2 M4).bind fun d M5 => addS a d M5) jt.ok (wipe ρ1 t'.slots) a jt.items M3) it.ok (wipe ρ own) a2 xs M2).bind fun a M6 => new (.set (a.map .str)) M6) Q,
      ⟨jt.items.length, by omega, φ4, M4, acc, b4, .refl, S4, hD4, hv4, o'⟩, fun j m1 H5 ⟨hjm, φ5, M5, acc5, b5, y5, S5, hD5, hv5, o5⟩ => ?_⟩
    cases hd1 : jt.items.drop j with
    | nil =>
      left
      rw [hd1] at o5
      rw [turns2_nil] at o5
      split at o5
      · next hok1 =>
        refine ⟨jk.stop φ5 H5 M5 j y5 S5 hok1 (by simpa using hd1), ?_⟩
        simp only [R.ok_quiet, R.ok_bind] at o5
        exact ⟨φ5, M5, acc5, b5, S5, hD5, hv5, o5⟩
      · exact o5.elim
    | cons x1 xs1 =>
      right
      obtain ⟨hx1, hxs1⟩ := it_drop hd1
      rw [hd1] at o5
      rw [turns2_cons] at o5
      split at o5
      case isFalse => exact o5.elim
      case isTrue hok1 =>
      obtain ⟨hgo1, hy1⟩ := jk.step φ5 H5 M5 j x1 y5 S5 hok1 hx1
      have hj' : j < jt.items.length := (List.getElem?_eq_some_iff.mp hx1).1
      refine ⟨hgo1, fun H'' => ∃ φ' M' acc, Step φ1 H1 φ' H'' ∧ Stay φ4 H4 φ' H'' ∧ SR Z φ' H'' M' ∧ D ∉ φ' ∧ H'' D = some (SetSO X.w D (strV acc)) ∧
        Out Z (Rep Z) E φ1 H1 (((turns2 (stT C g t') (fun a ρ2 M4 => (evE C g elt ρ2 M4).bind fun d M5 => addS a d M5) jt.ok (wipe ρ1 t'.slots) acc xs1 M').quiet.bind fun a2 M2 => turns2 (stT C g t) (fun (a : List Rp.S) (ρ1 : Lc) (M2 : Hm) => (evI C g ix' ρ1 M2).bind fun jt M3 => turns2 (stT C g t') (fun a ρ2 M4 => (evE C g elt ρ2 M4).bind fun d M5 => addS a d M5) jt.ok (wipe ρ1 t'.slots) a jt.items M3) it.ok (wipe ρ own) a2 xs M2).bind fun a M6 => new (.set (a.map .str)) M6) Q,
        fun H'' ⟨φ', M', acc', a1, a2, a3, a4, a5, a6⟩ => ⟨m1 - 1, by omega, by omega, φ', M', acc', a1, a2, a3, a4, a5, by rw [hxs1]; exact a6⟩, fun v1 H6 yl1 => ?_⟩
      obtain ⟨φ6, s6, S6, rx1⟩ := hy1 v1 H6 yl1
      obtain ⟨hv6, hD6⟩ := s6.keep D _ hv5 hD5
      have y6 := y5.trans s6.stay
      refine ⟨φ6, wipe ρ1 t'.slots, M5, x1, wipe_same ρ1 σ3 φ6 H6 (L4.stay y6) t'.slots, S6, rx1, ?_⟩
      cases q3 : stT C g t' x1 (wipe ρ1 t'.slots) M5 with
      | exc cc fs M6 => rw [q3] at o5; exact o5.elim
      | stuck => rw [q3] at o5; exact o5.elim
      | ok ρ2 M6 =>
      rw [q3] at o5
      simp only [R.ok_quiet, R.ok_bind] at o5
      intro φ7 σ7 H7 s7 S7 ⟨L7, f7⟩
      obtain ⟨hv7, hD7⟩ := s7.keep D _ hv6 hD6
      refine ⟨wipe_off (fun j hj => hj) f7, φ7, ρ2, M6, L7, S7, ?_⟩
      simp only [evC]
      intro φ8 bt H8 s8 S8 eb
      have eb' : bt = true := eb
      subst eb'
      rw [if_pos rfl]
      obtain ⟨hv8, hD8⟩ := s8.keep D _ hv7 hD7
      refine ⟨φ8, ρ2, M6, L7.step s8, S8, ?_⟩
      cases q4 : evE C g elt ρ2 M6 with
      | exc cc fs M7 => rw [q4] at o5; exact o5.elim
      | stuck => rw [q4] at o5; exact o5.elim
      | ok d M7 =>
      rw [q4] at o5
      simp only [R.ok_bind] at o5
      intro φ9 y9 H9 s9 S9 ry
      obtain ⟨hv9, hD9⟩ := s9.keep D _ hv8 hD8
      cases d with
      | str z =>
        rw [addS_str] at o5
        split at o5
        · next hroom =>
          simp only [R.ok_quiet, R.ok_bind] at o5
          cases ry
          obtain ⟨sty, S10⟩ := S9.off (o := SetSO X.w D (addT (strV acc5) ⟨z.toArray⟩)) hD9 hv9 trivial
          have b9 : Step φ1 H1 φ9 H9 := ((((b5.trans s6).trans s7).trans s8).trans s9)
          refine ⟨⟨z.toArray⟩, strV acc5, rfl, hv9, ?_, φ9, M7, _, b9.off hD, ((((y6.trans s7.stay).trans s8.stay).trans s9.stay).trans sty), S10, hD9, ?_, o5⟩
          · rw [strV_length]; have : scanBound = 4096 := rfl; rw [this]; omega
          · rw [upd_same, addS_eq]
        · exact o5.elim
      | _ => exact o5.elim
end
end Rp

namespace Rp
open PySem PySem.Spec PyProof.Rows L2

/-! ## written dicts -/
section
variable {Z : Zo} {g : G} {C : Cl} {k : Nat} {X : Cx} {E : XK} {N : List Str} {sc : Scope}
/-- a thing that was laid takes its number -/
theorem Out.born {φ1 φ' : List Addr} {H1 H' : Hp} {M' : Hm} {D : Addr} {o : O} {Q : VK} (h : Out Z (Rep Z) E φ1 H1 (Rp.new o M') Q) (hD : H1 D = none) (st' : Step φ1 H1 φ' H') (S' : SR Z φ' H' M') (hD' : D ∉ φ') (r : ORep Z φ' H' D o) : Q (.ref D) H' := by
  have st2 : Step φ1 H1 (φ' ++ [D]) H' := by
    refine ⟨st'.pre.trans (List.prefix_append _ _), fun b u e h => ⟨(st'.keep b u e h).1, fun z => ?_⟩, st'.tup, st'.frz⟩
    rcases List.mem_append.mp z with z | z
    · exact (st'.keep b u e h).2 z
    · have : b = D := by simpa using z
      subst this; rw [hD] at e; cases e
  have sty : Stay φ' H' (φ' ++ [D]) H' := ⟨List.prefix_append _ _, fun _ _ h => h, fun _ _ _ h => h⟩
  have S2 : SR Z (φ' ++ [D]) H' (M' ++ [o]) := by
    refine ⟨by simp [S'.len], ?_, fun n w e => ?_⟩
    · exact List.nodup_append.mpr ⟨S'.nd, by simp, fun a ha b hb => by
        have : b = D := by simpa using hb
        subst this; exact fun z => hD' (z ▸ ha)⟩
    · by_cases hn : n < M'.length
      · rw [List.getElem?_append_left hn] at e
        obtain ⟨a, ha, r⟩ := S'.at' n w e
        exact ⟨a, pre_at (List.prefix_append _ _) ha, r.stay sty rfl⟩
      · have hlt := (List.getElem?_eq_some_iff.mp e).1
        have : n = M'.length := by simp at hlt; omega
        subst this
        have e' : o = w := by simpa using e
        subst e'
        exact ⟨D, by rw [← S'.len]; simp, r.stay sty rfl⟩
  exact h (φ' ++ [D]) (.ref D) H' st2 S2 ⟨D, by rw [← S'.len]; simp, rfl⟩
theorem s_bdd (zP : Z.P = X.prog) (zW : Z.w = X.w) {a' b' c' d' : Expr} {p : Pos} {a b c d : Ex} (ha : PE X a' (tX Z E C g a)) (hb : PE X b' (tX Z E C g b)) (hc : PE X c' (tX Z E C g c)) (hd : PE X d' (tX Z E C g d)) :
    PE X (.Dict [some a', some c'] [b', d'] p) (tX Z E C g (.bdd a b c d)) := by
  refine (pe_dispB (pps_cons ha hb (pps_cons hc hd pps_nil)) (by rfl) (by rfl) (fun z => by cases z) (by simp : [some a', some c'].length ≤ 15)).weak fun σ H Q ⟨φ, ρ, M, L, S, o⟩ => ?_
  intro D hD
  simp only [evE] at o
  obtain ⟨st0, S0⟩ := S.laid (ho := DicB X.prog X.w D []) hD
  have L0 := L.step st0
  have n0 := S.out hD
  refine ⟨φ, ρ, M, L0, S0, ?_⟩
  cases q1 : evE C g a ρ M with
  | exc cc fs M4 => rw [q1] at o; exact o.elim
  | stuck => rw [q1] at o; exact o.elim
  | ok y1 M1 =>
  intro φ1 v1 H1 s1 S1 r1
  rw [q1] at o
  simp only [R.ok_bind] at o
  refine ⟨φ1, ρ, M1, L0.step s1, S1, ?_⟩
  cases q2 : evE C g b ρ M1 with
  | exc cc fs M4 => rw [q2] at o; exact o.elim
  | stuck => rw [q2] at o; exact o.elim
  | ok y2 M2 =>
  intro φ2 v2 H2 s2 S2 r2
  rw [q2] at o
  simp only [R.ok_bind] at o
  refine ⟨φ2, ρ, M2, (L0.step s1).step s2, S2, ?_⟩
  cases q3 : evE C g c ρ M2 with
  | exc cc fs M4 => rw [q3] at o; exact o.elim
  | stuck => rw [q3] at o; exact o.elim
  | ok y3 M3 =>
  intro φ3 v3 H3 s3 S3 r3
  rw [q3] at o
  simp only [R.ok_bind] at o
  refine ⟨φ3, ρ, M3, ((L0.step s1).step s2).step s3, S3, ?_⟩
  cases q4 : evE C g d ρ M3 with
  | exc cc fs M4 => rw [q4] at o; exact o.elim
  | stuck => rw [q4] at o; exact o.elim
  | ok y4 M4 =>
  intro φ4 v4 H4 s4 S4 r4
  rw [q4] at o
  simp only [R.ok_bind] at o
  obtain ⟨e1, n1⟩ := s1.keep D _ upd_same n0
  obtain ⟨e2, n2⟩ := s2.keep D _ e1 n1
  obtain ⟨e3, n3⟩ := s3.keep D _ e2 n2
  obtain ⟨e4, n4⟩ := s4.keep D _ e3 n3
  have big : Step φ H φ4 H4 := st0.trans (s1.trans (s2.trans (s3.trans s4)))
  refine ⟨e4, ?_⟩
  have r2' := (r2.step s3).step s4
  have fin : ∀ (b1 b2 : Bool) (t f : Rp.D) (x y : V), valV (mergeB [] [(b1, v2), (b2, v4)]) true = some x → valV (mergeB [] [(b1, v2), (b2, v4)]) false = some y → (mergeB [] [(b1, v2), (b2, v4)]).length = 2 → Rep Z φ4 H4 t x → Rep Z φ4 H4 f y → v1 = .bl b1 → v3 = .bl b2 →
      Out Z (Rep Z) E φ H (Rp.new (.bd t f) M4) Q → ∃ kvs : List (Bool × V), [(v1, v2), (v3, v4)] = kvs.map (fun kv => (V.bl kv.1, kv.2)) ∧ (mergeB [] kvs).length ≤ 15 ∧ Q (.ref D) (upd H4 D (DicB X.prog X.w D (mergeB [] kvs))) := by
    intro b1 b2 t f x y hx hy hl rt rf q1 q2 oo
    obtain ⟨sty, S5⟩ := S4.off (o := DicB X.prog X.w D (mergeB [] [(b1, v2), (b2, v4)])) n4 e4 trivial
    refine ⟨[(b1, v2), (b2, v4)], by rw [q1, q2]; rfl, by omega, ?_⟩
    exact oo.born hD (big.off hD) S5 n4 ⟨_, x, y, by rw [upd_same, zP, zW], hl, hx, hy, rt.stay sty, rf.stay sty⟩
  split at o
  · cases r1; cases r3
    exact fin true false y2 y4 v2 v4 rfl rfl rfl r2' r4 rfl rfl o
  · cases r1; cases r3
    exact fin false true y4 y2 v4 v2 rfl rfl rfl r4 r2' rfl rfl o
  · exact stuckE o
theorem s_bcp (zP : Z.P = X.prog) (zW : Z.w = X.w) {a' : Expr} {p : Pos} {a : Ex} (ha : PE X a' (tX Z E C g a)) : PE X (.Dict [none] [a'] p) (tX Z E C g (.bcp a)) := by
  refine (pe_copyB ha).weak fun σ H Q ⟨φ, ρ, M, L, S, o⟩ => ?_
  intro D hD
  simp only [evE] at o
  obtain ⟨st0, S0⟩ := S.laid (ho := DicB X.prog X.w D []) hD
  have L0 := L.step st0
  have n0 := S.out hD
  refine ⟨φ, ρ, M, L0, S0, ?_⟩
  cases q1 : evE C g a ρ M with
  | exc cc fs M4 => rw [q1] at o; exact o.elim
  | stuck => rw [q1] at o; exact o.elim
  | ok y1 M1 =>
  intro φ1 v1 H1 s1 S1 r1
  rw [q1] at o
  simp only [R.ok_bind] at o
  obtain ⟨e1, n1⟩ := s1.keep D _ upd_same n0
  split at o
  · next n =>
    simp only [fDict] at o
    split at o
    · next t f hl =>
      obtain ⟨c, kvs, x, y, hc, rfl, hH, h1, h2, h3, ra, rb⟩ := S1.bd hl r1
      have hcD : c ≠ D := fun z => n1 (z ▸ List.mem_of_getElem? hc)
      rw [zP, zW] at hH
      refine ⟨c, kvs, rfl, hcD, hH, e1, ?_⟩
      obtain ⟨sty, S5⟩ := S1.off (o := DicB X.prog X.w D kvs) n1 e1 trivial
      exact o.born hD ((st0.trans s1).off hD) S5 n1 ⟨kvs, x, y, by rw [upd_same, zP, zW], h1, h2, h3, ra.stay sty, rb.stay sty⟩
    · exact stuckE o
  · exact stuckE o
/-! ### text keys -/
theorem skv_map : ∀ {ks : List Rp.S} {vs : List V}, ks.length = vs.length → (skv ks vs).map (fun kv => (kV kv.1, kv.2)) = (ks.map fun k => V.str ⟨k.toArray⟩).zip vs
  | [], [], _ => rfl
  | k :: ks, v :: vs, h => by
    simp only [skv, List.map_cons, List.zip_cons_cons]
    rw [skv_map (by simpa using h)]; rfl
  | [], _ :: _, h => by simp at h
  | _ :: _, [], h => by simp at h
theorem skv_keys : ∀ {ks : List Rp.S} {vs : List V}, ks.length = vs.length → (skv ks vs).map (·.1) = ks.map fun k => Sum.inr ⟨k.toArray⟩
  | [], [], _ => rfl
  | k :: ks, v :: vs, h => by simp only [skv, List.map_cons]; rw [skv_keys (by simpa using h)]
  | [], _ :: _, h => by simp at h
  | _ :: _, [], h => by simp at h
theorem putK_app {κ : Type} [DecidableEq κ] : ∀ (more kvs : List (κ × V)), ((kvs ++ more).map (·.1)).Nodup → more.foldl (fun acc kv => putK acc kv.1 kv.2) kvs = kvs ++ more
  | [], kvs, _ => by simp
  | p :: more, kvs, h => by
    rw [List.foldl_cons]
    have hn : valV kvs p.1 = none := by
      unfold valV
      rw [Option.map_eq_none_iff, List.find?_eq_none]
      intro x hx hxe
      have e : x.1 = p.1 := of_decide_eq_true hxe
      rw [List.map_append, List.map_cons, List.nodup_append] at h
      exact h.2.2 _ (List.mem_map_of_mem hx) _ (List.mem_cons_self ..) e
    rw [putK_new _ hn, putK_app more (kvs ++ [(p.1, p.2)]) (by simpa using h)]
    simp
theorem nodup_inj {α β : Type} {f : α → β} (hf : ∀ a b, f a = f b → a = b) : ∀ {l : List α}, l.Nodup → (l.map f).Nodup
  | [], _ => List.nodup_nil
  | a :: l, h => by
    rw [List.map_cons, List.nodup_cons]
    rw [List.nodup_cons] at h
    refine ⟨fun hm => ?_, nodup_inj hf h.2⟩
    obtain ⟨b, hb, e⟩ := List.mem_map.mp hm
    exact h.1 (hf _ _ e ▸ hb)
theorem mergeK_self {ks : List Rp.S} {vs : List V} (h : ks.length = vs.length) (hn : ks.Nodup) : mergeK [] (skv ks vs) = skv ks vs := by
  unfold mergeK
  rw [putK_app (skv ks vs) [] (by
    rw [List.nil_append, skv_keys h]
    exact nodup_inj (fun a b e => by
      have := congrArg Str.cps (Sum.inr.inj e)
      simpa using congrArg Array.toList this) hn)]
  rfl
/-- pairs with written keys -/
structure PpK (Z : Zo) (E : XK) (C : Cl) (g : G) (X : Cx) (pos : Pos) (ks : List Rp.S) (keys : List (Option Expr)) (vals : List Expr) (l : Exs) : Prop where
  ex : ∃ trs, PPs X pos keys vals trs ∧ keys.length = ks.length ∧ keys.all (·.isSome) = true ∧ ∀ σ H (Q : List (V × V) → Hp → Prop), tXs Z E C g l σ H (fun vs H' => Q ((ks.map fun k => V.str ⟨k.toArray⟩).zip vs) H') → tPairs trs σ H Q
theorem s_ppnil {pos : Pos} {ks : List Rp.S} {keys : List (Option Expr)} (h : keysB ks keys = true) (hl : keys.length = 0) : PpK Z E C g X pos ks keys [] .nil := by
  obtain rfl : keys = [] := List.length_eq_zero_iff.mp hl
  obtain rfl : ks = [] := by cases ks with
    | nil => rfl
    | cons k ks => simp [keysB] at h
  refine ⟨[], pps_nil, rfl, rfl, fun σ H Q ⟨φ, ρ, M, L, S, o⟩ => ?_⟩
  simp only [evEs] at o
  exact o.here S (v := []) rfl
theorem s_ppcons {pos : Pos} {k : Rp.S} {ks : List Rp.S} {key : Option Expr} {keys : List (Option Expr)} {e : Expr} {vals : List Expr} {a : Ex} {l : Exs} (h : keysB (k :: ks) (key :: keys) = true) (ha : PE X e (tX Z E C g a))
    (hl : keysB ks keys = true → PpK Z E C g X pos ks keys vals l) : PpK Z E C g X pos (k :: ks) (key :: keys) (e :: vals) (.cons a l) := by
  cases key with
  | none => simp [keysB] at h
  | some ke =>
  cases ke with
  | Constant c i p =>
    cases c with
    | str c =>
      simp only [keysB, Bool.and_eq_true, beq_iff_eq] at h
      obtain ⟨rfl, h2⟩ := h
      obtain ⟨trs, p1, p2, p3, p4⟩ := (hl h2).ex
      refine ⟨_, pps_cons pe_str ha p1, by simp [p2], by simpa using p3, fun σ H Q ⟨φ, ρ, M, L, S, o⟩ => ?_⟩
      simp only [evEs] at o
      show tX Z E C g a σ H _
      refine Out.next (f := evE C g a) L S o fun φ1 y M1 v H1 s1 L1 S1 r1 o1 => p4 _ _ _ (Out.next (f := evEs C g l) L1 S1 o1 fun φ2 z M2 w' H2 s2 L2 S2 r2 o2 => ?_)
      have := o2.here S2 (Reps.cons (r1.step s2) r2)
      simpa [strTo] using this
    | _ => simp [keysB] at h
  | _ => simp [keysB] at h
theorem tE_mono {α ν : Type} {rep : List Addr → Hp → α → ν → Prop} {f : Lc → Hm → R α} {σ : L2.St} {H : Hp} {Q Q' : ν → Hp → Prop} (h : tE Z E rep f σ H Q) (k : ∀ v H', Q v H' → Q' v H') : tE Z E rep f σ H Q' := by
  obtain ⟨φ, ρ, M, L, S, o⟩ := h
  exact ⟨φ, ρ, M, L, S, o.imp k⟩
theorem s_sdd {ks : List Rp.S} {keys : List (Option Expr)} {vals : List Expr} {p : Pos} {l : Exs} (h15 : ks.length ≤ 15) (hlen : keys.length = vals.length) (h0 : vals = [] → l = .nil) (h : PpK Z E C g X p ks keys vals l) : PE X (.Dict keys vals p) (tX Z E C g (.sdd ks l)) := by
  obtain ⟨trs, p1, p2, p3, p4⟩ := h.ex
  have fin : ∀ (D : Addr) (φ : List Addr) (H : Hp) (Q : VK) (M : Hm) (ρ : Lc) (σ : L2.St), Lrep Z φ H ρ σ → SR Z φ H M → H D = none → Out Z (Rep Z) E φ H (evE C g (.sdd ks l) ρ M) Q →
      tXs Z E C g l σ (upd H D (.dK [])) fun vs H' => H' D = some (.dK []) ∧ ks.length = vs.length ∧ ks.Nodup ∧ Q (.ref D) (upd H' D (.dK (skv ks vs))) := fun D φ H Q M ρ σ L S hD o => by
    simp only [evE] at o
    obtain ⟨st0, S0⟩ := S.laid (ho := .dK []) hD
    have L0 := L.step st0
    have n0 := S.out hD
    refine ⟨φ, ρ, M, L0, S0, ?_⟩
    cases q1 : evEs C g l ρ M with
    | exc cc fs M4 => rw [q1] at o; exact o.elim
    | stuck => rw [q1] at o; exact o.elim
    | ok ds M1 =>
    intro φ1 vs H1 s1 S1 r1
    rw [q1] at o
    simp only [R.ok_bind] at o
    obtain ⟨e1, n1⟩ := s1.keep D _ upd_same n0
    split at o
    · next hc =>
      obtain ⟨sty, S5⟩ := S1.off (o := .dK (skv ks vs)) n1 e1 trivial
      exact ⟨e1, by rw [r1.length]; exact hc.2.1, hc.1, o.born hD ((st0.trans s1).off hD) S5 n1 ⟨vs, upd_same, hc.2.1, hc.2.2, r1.stay sty⟩⟩
    · exact stuckE o
  cases keys with
  | nil =>
    obtain rfl : ks = [] := List.length_eq_zero_iff.mp p2.symm
    obtain rfl : vals = [] := List.length_eq_zero_iff.mp hlen.symm
    refine pe_dnewK.weak fun σ H Q ⟨φ, ρ, M, L, S, o⟩ => ?_
    intro D hD
    obtain rfl := h0 rfl
    simp only [evE, evEs, R.ok_bind] at o
    rw [if_pos ⟨List.nodup_nil, rfl, by decide⟩] at o
    exact o.new S hD fun st => ⟨[], upd_same, rfl, by decide, rfl⟩
  | cons key keys =>
    refine (pe_disp p1 p3 hlen (fun z => by cases z) (by rw [p2]; exact h15)).weak fun σ H Q ⟨φ, ρ, M, L, S, o⟩ => ?_
    intro D hD
    refine p4 _ _ _ (tE_mono (fin D φ H Q M ρ σ L S hD o) fun vs H' ⟨h1, h2, h3, h4⟩ => ⟨h1, skv ks vs, (skv_map h2).symm, ?_, by rw [mergeK_self h2 h3]; exact h4⟩)
    have : (skv ks vs).length = ks.length := by rw [← List.length_map (f := (·.1)), skv_keys h2, List.length_map]
    omega
theorem reps_rgi {φ : List Addr} {H : Hp} (f : Nat → Int) : ∀ l : List Nat, Reps Z φ H (l.map fun i => D.int (f i)) (l.map fun i => V.int (f i))
  | [] => rfl
  | i :: l => ⟨_, _, rfl, rfl, reps_rgi f l⟩
theorem s_lrg (G : Here Z g C k X E N sc) {e : Expr} {p1 p2 c1 c2 : Pos} {a : Ex} (hl : sc.names.lookup (st "list") = some .globalImplicit) (hg : sc.names.lookup (st "range") = some .globalImplicit) (hs : starEach [e] X.env = [(false, eval e X.env)]) (ha : PE X e (tX Z E C g a)) :
    PE X (.Call (.Name (st "list") p1) [.Call (.Name (st "range") p2) [e] [] c2] [] c1) (tX Z E C g (.lrg a)) := by
  have hm : X.mg ("range" : Str) = none := G.top.blt "range" (by decide)
  have hm2 : X.mg ("list" : Str) = none := G.top.blt "list" (by decide)
  refine (pe_listRg G.calm (G.gl hl) hm2 (prg_1 (G.gl hg) hm ha hs) rfl).weak fun σ H Q ⟨φ, ρ, M, L, S, o⟩ => ?_
  simp only [evE] at o
  refine Out.next (f := evE C g a) L S o fun φ1 y M1 v H1 s1 L1 S1 r1 o1 => ?_
  cases y with
  | int i =>
    cases r1
    have o1 : Out Z (Rep Z) E φ1 H1 (if 0 ≤ i ∧ i ≤ (LN : Int) then Rp.new (.lst (rng 0 i.toNat)) M1 else .stuck) Q := o1
    split at o1
    · next h =>
      have hLN : LN = 16777216 := rfl
      refine ⟨i, rfl, RgOk.of_le (by omega) (by omega) (by omega) h.1, o1.newL S1 ?_⟩
      have e : (i - 0).toNat = i.toNat := by rw [Int.sub_zero]
      unfold rgV
      rw [e]
      exact reps_rgi (fun i => 0 + (i : Int)) _
    · exact o1.elim
  | _ => exact o1.elim
theorem skv_int {i : Int} : ∀ (ks : List S) (vs : List V), valV (skv ks vs) (Sum.inl i) = none
  | [], vs => rfl
  | k :: ks, [] => rfl
  | k :: ks, v :: vs => by
    simp only [skv]
    rw [valV_neg (fun z => by cases z)]
    exact skv_int ks vs
theorem mt_get (zP : Z.P = X.prog) (hu : X.A.units + 1 < cLine) : MtR X "dict.get" (fun x vs H Q => ∃ φ a k d M, SR Z φ H M ∧ Rep Z φ H a x ∧ Reps Z φ H [k, d] vs ∧ Out Z (Rep Z) E φ H (mGet a k d M) Q) := by
  intro pins s σ H x xs v us Q I rx rxs ⟨φ, a, k, d, M, S, ra, rd, o⟩
  obtain ⟨y, z, rfl, ry, rz⟩ := rd.two
  cases a with
  | ref n =>
    cases k with
    | str t =>
      simp only [mGet] at o
      split at o
      · next ks l hl =>
        obtain ⟨c, vs, _, rfl, hH, h1, h2, hr⟩ := S.sd hl ra
        cases ry
        cases rxs with
        | cons r1 r2 =>
          cases r2 with
          | cons r2 r3 =>
            cases r3
            obtain rfl : v = Value.ref c := rx
            have g : DGet H c (V.str ⟨t.toArray⟩) (valV (skv ks vs) (Sum.inr ⟨t.toArray⟩)) := DGet.k (k := Sum.inr _) hH
            refine d_get2 hu I g r1 r2 fun w' s' I' rw' => ⟨_, _, I', rw', ?_⟩
            cases q : rodGet ks l t with
            | none =>
              rw [q] at o
              rw [(skv_get hr).2 q]
              exact o.here S rz
            | some d' =>
              rw [q] at o
              obtain ⟨w2, e1, e2⟩ := (skv_get hr).1 d' q
              rw [e1]
              exact o.here S e2
      · exact stuckE o
    | int t =>
      simp only [mGet] at o
      split at o
      · next ks l hl =>
        obtain ⟨c, vs, _, rfl, hH, h1, h2, hr⟩ := S.sd hl ra
        cases ry
        cases rxs with
        | cons r1 r2 =>
          cases r2 with
          | cons r2 r3 =>
            cases r3
            obtain rfl : v = Value.ref c := rx
            have g : DGet H c (V.int t) (valV (skv ks vs) (Sum.inl t)) := DGet.k (k := Sum.inl _) hH
            refine d_get2 hu I g r1 r2 fun w' s' I' rw' => ⟨_, _, I', rw', ?_⟩
            rw [skv_int]
            exact o.here S rz
      · exact stuckE o
    | _ => exact stuckE o
  | _ => exact stuckE o
theorem recv_dict {φ : List Addr} {H : Hp} {M : Hm} (S : SR Z φ H M) {d : D} {v : V} (h : tyOf M d = some "dict") (r : Rep Z φ H d v) : tyV Z.K "dict" v H := by
  cases d with
  | ref m =>
    simp only [tyOf] at h
    split at h
    · exact absurd (Option.some.inj h) (by decide)
    · next ks l hl =>
      obtain ⟨a, vs, _, rfl, q, _⟩ := S.sd hl r
      exact .inr (.inr (.inl ⟨rfl, .inl ⟨_, q⟩⟩))
    · cases h
  | non => exact absurd (Option.some.inj h) (by decide)
  | bl _ => exact absurd (Option.some.inj h) (by decide)
  | int _ => exact absurd (Option.some.inj h) (by decide)
  | str _ => exact absurd (Option.some.inj h) (by decide)
  | tup _ => exact absurd (Option.some.inj h) (by decide)
  | rol _ => exact absurd (Option.some.inj h) (by decide)
  | _ => cases h
theorem s_mget (G : Here Z g C k X E N sc) {o' : Expr} {ap cp : Pos} {es : List Expr} {o : Ex} {l : Exs} (he : es ≠ [])
    (ho : PE X o' (tX Z E C g o)) (ha : PA X es (tXs Z E C g l)) (hb : attributeBase o' (st "get") X.env (eval o' X.env) = eval o' X.env) (hl : ckEs N sc l es = true) (hfew : es.length < 20) (hline : (ap.endLine == cp.line) = true) :
    PE X (.Call (.Attribute o' (st "get") ap) es [] cp) (tX Z E C g (.me .get o l)) := by
  cases es with
  | nil => exact absurd rfl he
  | cons e es =>
  have hs : starEach (e :: es) X.env = (false, eval e X.env) :: starEach es X.env ∧ (backTo cp (starEach es X.env)).any (·.1) = false := by
    cases l with
    | nil => simp [ckEs] at hl
    | cons a l =>
      have hl' := hl
      simp only [ckEs, Bool.and_eq_true] at hl'
      exact ⟨not_star hl'.1, plain_args cp X.env hl'.2⟩
  refine (pe_bm (T := "dict") (id := "dict.get") PySem.F.plainAttrs_dict PySem.F.slot_dict_get PySem.F.type_dict_get (mt_get (Z := Z) (E := E) G.eP (by have := G.hu64; omega)) ho ha hb (few_args hl hfew) hline hs.1 hs.2).weak fun σ H Q ⟨φ, ρ, M, L, S, oo⟩ => ?_
  simp only [evE] at oo
  refine Out.next (f := evE C g o) L S oo fun φ1 y M1 v H1 s1 L1 S1 r1 o1 => ?_
  cases q : tyOf M1 y with
  | none => rw [q] at o1; exact stuckE o1
  | some T' =>
    rw [q, opt_some] at o1
    by_cases hTT : T' = "dict"
    · subst hTT
      refine ⟨G.eK ▸ recv_dict S1 q r1, Out.next (f := evEs C g l) L1 S1 o1 fun φ2 ds M2 vs H2 s2 L2 S2 r2 o2 => ?_⟩
      match ds, r2, o2 with
      | [k, d], r2, o2 => exact ⟨φ2, y, k, d, M2, S2, r1.step s2, r2, o2⟩
      | [], r2, o2 => exact stuckE o2
      | [_], r2, o2 => exact stuckE o2
      | _ :: _ :: _ :: _, r2, o2 => exact stuckE o2
    · exfalso
      have key : ∀ ds M, meop .get T' y ds M = .stuck := fun ds M => by
        match ds with
        | [k, d] => simp [meop, hTT]
        | [] => rfl
        | [_] => rfl
        | _ :: _ :: _ :: _ => rfl
      cases q2 : evEs C g l ρ M1 with
      | ok ds M2 => rw [q2, R.ok_bind, key] at o1; exact o1
      | exc c fs M2 => rw [q2] at o1; exact o1
      | stuck => rw [q2] at o1; exact o1
end
end Rp

namespace Rp
open PySem PySem.Spec PyProof.Rows L2

section
variable {Z : Zo} {g : G} {C : Cl} {k : Nat} {N : List Str}
theorem plain_name {y : Str} (h : plainN y = true) : (y == ("__debug__" : Str)) = false ∧ (y == ("__classdict__" : Str)) = false := by
  unfold plainN at h
  rw [Bool.and_eq_true, Bool.and_eq_true] at h
  exact ⟨by have := h.1.1; simpa [bne, st] using this, by have := h.1.2; simpa [bne, st] using this⟩
theorem Bop.same_eq {o : Bop} {q : Operator} (h : o.same q = true) : q = o.py := by cases o <;> cases q <;> first | rfl | cases h
theorem Cop.same_eq {o : Cop} {q : CmpOp} (h : o.same q = true) : q = o.py := by cases o <;> cases q <;> first | rfl | cases h
/-- what is shown of an expression -/
structure SE (Z : Zo) (g : G) (C : Cl) (k : Nat) (N : List Str) (x : Ex) (e : Expr) (sc : Scope) : Prop where
  pe : ∀ {X : Cx} {E : XK}, Here Z g C k X E N sc → PE X e (tX Z E C g x)
  pt : ∀ {X : Cx} {E : XK}, Here Z g C k X E N sc → PT X e (tT Z E C g x)
  pw : ∀ {X : Cx} {E : XK}, Here Z g C k X E N sc → ∀ {op l p}, e = .BoolOp op l p → PW X e (tT Z E C g x)
/-- an expression with no test of its own -/
theorem SE.of {x : Ex} {e : Expr} {sc : Scope} (h : ∀ {X : Cx} {E : XK}, Here Z g C k X E N sc → PE X e (tX Z E C g x)) (hn : ∀ (env : Env) whole, isTrue e env whole = (do let v ← whole; standAt e.pos; holding [v] (truthy v))) (hb : ∀ {op l p}, e = .BoolOp op l p → False) : SE Z g C k N x e sc :=
  ⟨h, fun G => (h G).test G (hn _), fun G _ _ _ e => (hb e).elim⟩
theorem rest_pw {X : Cx} {E : XK} {op : BoolOp} {b' : Expr} {r : List Expr} {p : Pos} {b : Ex} {sc : Scope} (G : Here Z g C k X E N sc) (h : SE Z g C k N b (boolRest op b' r p) sc) : PW X (.BoolOp op (b' :: r) p) (tT Z E C g b) := by
  cases r with
  | nil => cases op with
    | And => exact pw_and1 (h.pt G)
    | Or => exact pw_or1 (h.pt G)
  | cons c r => exact h.pw G rfl
theorem sndi_set : ∀ {x : Ix} {e tg : Expr} {sc : Scope}, ckI N sc x e tg = true → ∀ (env : Env) (v : Value), foldedSetIterable e env v = pure v
  | .ex a, e, tg, sc, h, env, v => by simp only [ckI] at h; exact set_iter h env v
  | .rng1 a, e, tg, sc, h, env, v => by
    simp only [ckI] at h
    split at h
    · rfl
    · cases h
  | .rng2 a b, e, tg, sc, h, env, v => by
    simp only [ckI] at h
    split at h
    · rfl
    · cases h
  | .rng3 _ _ _, e, tg, sc, h, env, v => by simp [ckI] at h
  | .enum a, e, tg, sc, h, env, v => by
    simp only [ckI] at h
    split at h
    · rfl
    · cases h
  | .zip a b, e, tg, sc, h, env, v => by
    simp only [ckI] at h
    split at h
    · rfl
    · cases h
mutual
theorem snd : ∀ (x : Ex) {e : Expr} {sc : Scope}, ckE N sc x e = true → SE Z g C k N x e sc
  | .non, e, sc, h => by
    simp only [ckE] at h
    split at h
    · exact .of (fun G => s_lit (d := .non) (v := .non) pe_non (fun _ _ => rfl) fun _ _ => by simp only [evE]) (fun _ _ => rfl) nofun
    · cases h
  | .bl b, e, sc, h => by
    simp only [ckE] at h
    split at h
    · next c _ _ =>
      have : b = c := by simpa using h
      subst this
      exact .of (fun G => s_lit (d := .bl b) (v := .bl b) pe_bl (fun _ _ => rfl) fun _ _ => by simp only [evE]) (fun _ _ => rfl) nofun
    · cases h
  | .int b, e, sc, h => by
    simp only [ckE] at h
    split at h
    · next c _ _ =>
      have : b = c := by simpa using h
      subst this
      exact .of (fun G => s_lit (d := .int b) (v := .int b) pe_int (fun _ _ => rfl) fun _ _ => by simp only [evE]) (fun _ _ => rfl) nofun
    · cases h
  | .str b, e, sc, h => by
    simp only [ckE] at h
    split at h
    · next c _ _ =>
      have : b = c.cps.toList := by simpa using h
      subst this
      exact .of (fun G => s_lit (d := .str c.cps.toList) (v := .str c) pe_str (fun _ _ => by show V.str c = V.str _; rw [strTo]) fun _ _ => by simp only [evE]) (fun _ _ => rfl) nofun
    · cases h
  | .var i, e, sc, h => by
    simp only [ckE] at h
    split at h
    · next y p =>
      simp only [Bool.and_eq_true, decide_eq_true_eq] at h
      exact .of (fun G => s_var (by rw [G.xN]; exact h.1.1) (G.vis h.1.2) (plain_name h.2).1 (plain_name h.2).2) (fun _ _ => rfl) nofun
    · cases h
  | .glo x, e, sc, h => by
    simp only [ckE] at h
    obtain ⟨p, rfl, hg, hd, hn⟩ := isName_iff h
    refine .of (fun {X E} G => ?_) (fun _ _ => rfl) nofun
    refine ⟨fun pins s σ H Q I ⟨φ, ρ, M, L, S, o⟩ => ?_⟩
    simp only [evE] at o
    split at o
    · next d hx =>
      obtain ⟨u, v, h1, h2, h3⟩ := G.top.con x d hx
      exact (pe_glob (G.gl hg) h1 h2 hd).run pins s σ H Q I (o.here S (h3 φ H))
    · exact stuckE o
  | .bin op a b, e, sc, h => by
    simp only [ckE] at h
    split at h
    · next a' o b' p =>
      simp only [Bool.and_eq_true] at h
      obtain ⟨⟨h1, h2⟩, h3⟩ := h
      rw [Bop.same_eq h1]
      exact .of (fun G => s_two (pe_op (or_bin G.eK op) ((snd a h2).pe G) ((snd b h3).pe G)) fun _ _ => by simp only [evE]) (fun _ _ => rfl) nofun
    · cases h
  | .neg a, e, sc, h => by
    simp only [ckE] at h
    split at h
    · exact .of (fun G => s_neg ((snd a h).pe G)) (fun _ _ => rfl) nofun
    · cases h
  | .not a, e, sc, h => by
    simp only [ckE] at h
    split at h
    · exact ⟨fun G => s_not G.eK ((snd a h).pe G), fun G => t_not ((snd a h).pt G), fun G _ _ _ e => nomatch e⟩
    · cases h
  | .cmp op a b, e, sc, h => by
    simp only [ckE] at h
    split at h
    · next a' o b' p =>
      simp only [Bool.and_eq_true] at h
      obtain ⟨⟨h1, h2⟩, h3⟩ := h
      rw [Cop.same_eq h1]
      exact ⟨fun G => s_two (pe_cmpR (or_cmp G.eK G.hu64 op) ((snd a h2).pe G) ((snd b h3).pe G) (no_marks h3 _)) fun _ _ => by simp only [evE], fun G => t_cmp G.eK G.hu64 ((snd a h2).pe G) ((snd b h3).pe G) (no_marks h3 _), fun G _ _ _ e => nomatch e⟩
    · cases h
  | .cmp2 op op' a b c, e, sc, h => by
    simp only [ckE] at h
    split at h
    · next a' o o' b' c' p =>
      simp only [Bool.and_eq_true] at h
      obtain ⟨⟨⟨⟨h1, h1'⟩, h2⟩, h3⟩, h4⟩ := h
      rw [Cop.same_eq h1, Cop.same_eq h1']
      have hm : lastMarks [op.py, op'.py] [b', c'] = false := no_marks h4 _
      refine ⟨fun G => (s_cmp2 G.eK G.hu64 ((snd a h2).pe G) ((snd b h3).pe G) ((snd c h4).pe G) (T := fun _ => True) hm).1, fun {X E} G => ?_, fun G _ _ _ e => nomatch e⟩
      exact (s_cmp2 G.eK G.hu64 ((snd a h2).pe G) ((snd b h3).pe G) ((snd c h4).pe G) (T := fun _ => True) hm).2.weak fun σ H Q q => t_bool (f := fun _ _ => .stuck) (fun ρ M d M1 => cmp2_bool) q
    · cases h
  | .and a b, e, sc, h => by
    simp only [ckE] at h
    split at h
    · next a' b' r p =>
      simp only [Bool.and_eq_true] at h
      have ha := snd a h.1
      have hb := snd b h.2
      exact ⟨fun G => s_and G.eK (ha.pe G) (hb.pe G), fun G => (w_and (ha.pt G) (rest_pw G hb)).pt, fun G _ _ _ _ => w_and (ha.pt G) (rest_pw G hb)⟩
    · cases h
  | .or a b, e, sc, h => by
    simp only [ckE] at h
    split at h
    · next a' b' r p =>
      simp only [Bool.and_eq_true] at h
      have ha := snd a h.1
      have hb := snd b h.2
      exact ⟨fun G => s_or G.eK (ha.pe G) (hb.pe G), fun G => (w_or (ha.pt G) (rest_pw G hb)).pt, fun G _ _ _ _ => w_or (ha.pt G) (rest_pw G hb)⟩
    · cases h
  | .ife c a b, e, sc, h => by
    simp only [ckE] at h
    split at h
    · simp only [Bool.and_eq_true] at h
      obtain ⟨⟨h1, h2⟩, h3⟩ := h
      have hc := snd c h1
      have ha := snd a h2
      have hb := snd b h3
      exact ⟨fun G => s_ife (hc.pt G) (ha.pe G) (hb.pe G), fun G => t_ife (hc.pt G) (ha.pt G) (hb.pt G), fun G _ _ _ e => nomatch e⟩
    · cases h
  | .tup l, e, sc, h => by
    simp only [ckE] at h
    split at h
    · exact .of (fun G => s_tup (snds l h G)) (fun _ _ => rfl) nofun
    · cases h
  | .lst l, e, sc, h => by
    simp only [ckE] at h
    split at h
    · exact .of (fun G => s_lst (snds l h G)) (fun _ _ => rfl) nofun
    · cases h
  | .sub a i, e, sc, h => by
    simp only [ckE] at h
    split at h
    · simp only [Bool.and_eq_true] at h
      exact .of (fun G => s_two (pe_ix (ir_sub G.eK G.eW G.eP (by have := G.hu64; omega)) ((snd a h.1).pe G) ((snd i h.2).pe G) (plain_ix h.2)) fun _ _ => by simp only [evE]) (fun _ _ => rfl) nofun
    · cases h
  | .sl a lo hi, e, sc, h => by
    simp only [ckE] at h
    split at h
    · simp only [Bool.and_eq_true] at h
      exact .of (fun G => s_sl G.eK ((snd a h.1.1).pe G) (sndo lo h.1.2 G) (sndo hi h.2 G)) (fun _ _ => rfl) nofun
    · cases h
  | .rev a, e, sc, h => by
    simp only [ckE] at h
    split at h
    · exact .of (fun G => s_rev G.eK ((snd a h).pe G)) (fun _ _ => rfl) nofun
    · cases h
  | .call f l ks kw, e, sc, h => by
    simp only [ckE] at h
    split at h
    · next n es kws p =>
      simp only [Bool.and_eq_true, decide_eq_true_eq] at h
      obtain ⟨⟨⟨h1, h2⟩, h3⟩, h4⟩ := h
      obtain ⟨p, rfl, hg, hd, hn⟩ := isName_iff h1
      exact .of (fun G => s_call G hg hd h3 h2 h4 (snds l h2 G) (sndk kw h4 G)) (fun _ _ => rfl) nofun
    · cases h
  | .calk f l ks kw, e, sc, h => by
    simp only [ckE] at h
    split at h
    · next n es kws p =>
      simp only [Bool.and_eq_true, decide_eq_true_eq] at h
      obtain ⟨⟨⟨h1, h2⟩, h3⟩, h4⟩ := h
      obtain ⟨p, rfl, hg, hd, hn⟩ := isName_iff h1
      exact .of (fun G => s_calk G hg hd h3 h2 h4 (snds l h2 G) (sndk kw h4 G)) (fun _ _ => rfl) nofun
    · cases h
  | .bi b l, e, sc, h => by
    simp only [ckE] at h
    split at h
    · simp only [Bool.and_eq_true] at h
      obtain ⟨p, rfl, hg, hd, hn⟩ := isName_iff h.1
      exact .of (fun G => s_bi G hg hd hn h.2 (snds l h.2 G)) (fun _ _ => rfl) nofun
    · cases h
  | .isi a ts, e, sc, h => by
    simp only [ckE] at h
    split at h
    · next n a' es kk tp p =>
      simp only [Bool.and_eq_true, decide_eq_true_eq] at h
      obtain ⟨⟨⟨h1, h2⟩, h3⟩, h4⟩ := h
      obtain ⟨p, rfl, hg, hd, hn⟩ := isName_iff h1
      exact .of (fun G => s_isiT G hg h3 h4 ((snd a h2).pe G) (not_star h2)) (fun _ _ => rfl) nofun
    · next n a' t' p _ =>
      simp only [Bool.and_eq_true] at h
      obtain ⟨⟨h1, h2⟩, h3⟩ := h
      obtain ⟨p, rfl, hg, hd, hn⟩ := isName_iff h1
      exact .of (fun G => s_isi G hg h3 ((snd a h2).pe G) (not_star h2)) (fun _ _ => rfl) nofun
    · cases h
  | .me m o l, e, sc, h => by
    simp only [ckE] at h
    split at h
    · next o' n ap es cp =>
      simp only [Bool.and_eq_true, decide_eq_true_eq, Bool.not_eq_true', List.isEmpty_eq_false_iff] at h
      obtain ⟨⟨⟨⟨⟨⟨h1, h2⟩, h3⟩, h4⟩, h5⟩, h6⟩, h7⟩ := h
      have e1 : n = st m.nm := by simpa using h1
      subst e1
      by_cases hget : m = .get
      · subst hget
        exact .of (fun {X E} G => s_mget G h7 ((snd o h3).pe G) (snds l h4 G) (attr_base h2 _ _) h4 h6 h5) (fun _ _ => rfl) nofun
      cases es with
      | nil => exact absurd rfl h7
      | cons e es =>
      have ho := snd o h3
      refine .of (fun {X E} G => ?_) (fun _ _ => rfl) nofun
      have ha := snds l h4 G
      cases m with
      | count => exact s_mt G (id := "list.count") PySem.F.plainAttrs_list PySem.F.slot_list_count PySem.F.type_list_count (mt_count' G.eK) (.inl rfl) (fun T' a ds M hT => by cases ds with
          | nil => rfl
          | cons d ds => cases ds with
            | nil => simp [meop, hT]
            | cons _ _ => rfl) (fun _ _ _ => by simp [meop]) (fun T' a ds M hl => by cases ds with
          | nil => rfl
          | cons d ds => cases ds with
            | nil => simp at hl
            | cons _ _ => rfl) (ho.pe G) ha (attr_base h2 _ _) h4 h6 h5
      | append => exact s_mt G (id := "list.append") PySem.F.plainAttrs_list PySem.F.slot_list_append PySem.F.type_list_append mt_append' (.inl rfl) (fun T' a ds M hT => by cases ds with
          | nil => rfl
          | cons d ds => cases ds with
            | nil => simp [meop, hT]
            | cons _ _ => rfl) (fun _ _ _ => by simp [meop]) (fun T' a ds M hl => by cases ds with
          | nil => rfl
          | cons d ds => cases ds with
            | nil => simp at hl
            | cons _ _ => rfl) (ho.pe G) ha (attr_base h2 _ _) h4 h6 h5
      | extend => exact s_mt G (id := "list.extend") PySem.F.plainAttrs_list PySem.F.slot_list_extend PySem.F.type_list_extend (mt_extend' G.eK) (.inl rfl) (fun T' a ds M hT => by cases ds with
          | nil => rfl
          | cons d ds => cases ds with
            | nil => simp [meop, hT]
            | cons _ _ => rfl) (fun _ _ _ => by simp [meop]) (fun T' a ds M hl => by cases ds with
          | nil => rfl
          | cons d ds => cases ds with
            | nil => simp at hl
            | cons _ _ => rfl) (ho.pe G) ha (attr_base h2 _ _) h4 h6 h5
      | join => exact s_mt G (id := "str.join") PySem.F.plainAttrs_str PySem.F.slot_str_join PySem.F.type_str_join (mt_join' G.eK) (.inr rfl) (fun T' a ds M hT => by cases ds with
          | nil => rfl
          | cons d ds => cases ds with
            | nil => simp [meop, hT]
            | cons _ _ => rfl) (fun _ _ _ => by simp [meop]) (fun T' a ds M hl => by cases ds with
          | nil => rfl
          | cons d ds => cases ds with
            | nil => simp at hl
            | cons _ _ => rfl) (ho.pe G) ha (attr_base h2 _ _) h4 h6 h5
      | get => exact absurd rfl hget
      | _ =>
        refine ⟨fun pins s σ H Q I ⟨φ, ρ, M, L, S, oo⟩ => ?_⟩
        exfalso
        simp only [evE] at oo
        cases q : evE C g o ρ M with
        | ok x M1 =>
          rw [q] at oo
          simp only [R.ok_bind] at oo
          cases q1 : tyOf M1 x with
          | none => rw [q1] at oo; exact oo
          | some T =>
            rw [q1, opt_some] at oo
            cases q2 : evEs C g l ρ M1 with
            | ok ds M2 => rw [q2] at oo; exact oo
            | exc c fs M2 => rw [q2] at oo; exact oo
            | stuck => rw [q2] at oo; exact oo
        | exc c fs M1 => rw [q] at oo; exact oo
        | stuck => rw [q] at oo; exact oo
    · cases h
  | .lc elt t ix c own, e, sc, h => by
    simp only [ckE] at h
    split at h
    · simp only [Bool.and_eq_true] at h
      obtain ⟨⟨⟨⟨⟨h1, h2⟩, h3⟩, h4⟩, h5⟩, h6⟩ := h
      exact .of (fun G => s_lc G h1 h2 (sndi ix h5 G) (sndi_set h5 _) (fun Y GY => sndt t h4 GY) (fun Y GY => sndc c h6 GY) (fun Y GY => (snd elt h3).pe GY)) (fun _ _ => rfl) nofun
    · cases h
  | .sc2 elt t ix t' ix' own, e, sc, h => by
    simp only [ckE] at h
    split at h
    · simp only [Bool.and_eq_true] at h
      obtain ⟨⟨⟨⟨⟨⟨⟨h1, h2⟩, h3⟩, h4⟩, h5⟩, h6⟩, h7⟩, h8⟩ := h
      exact .of (fun G => s_sc2 G h1 h2 h3 (sndi ix h6 G) (sndi_set h6 _) (sndi_set h8) (fun Y GY => sndt t h5 GY) (fun Y GY => sndi ix' h8 GY) (fun Y GY => sndt t' h7 GY) (fun Y GY => (snd elt h4).pe GY)) (fun _ _ => rfl) nofun
    · cases h
  | .bdd a b c d, e, sc, h => by
    simp only [ckE] at h
    split at h
    · simp only [Bool.and_eq_true] at h
      exact .of (fun G => s_bdd G.eP G.eW ((snd a h.1.1.1).pe G) ((snd b h.1.1.2).pe G) ((snd c h.1.2).pe G) ((snd d h.2).pe G)) (fun _ _ => rfl) nofun
    · cases h
  | .bcp a, e, sc, h => by
    simp only [ckE] at h
    split at h
    · exact .of (fun G => s_bcp G.eP G.eW ((snd a h).pe G)) (fun _ _ => rfl) nofun
    · cases h
  | .lrg a, e, sc, h => by
    simp only [ckE] at h
    split at h
    · simp only [Bool.and_eq_true] at h
      obtain ⟨p, rfl, hg, hd, hn⟩ := isName_iff h.1.1
      obtain ⟨p', rfl, hg', hd', hn'⟩ := isName_iff h.1.2
      exact .of (fun G => s_lrg G hg hg' (not_star h.2) ((snd a h.2).pe G)) (fun _ _ => rfl) nofun
    · cases h
  | .sdd ks l, e, sc, h => by
    simp only [ckE] at h
    split at h
    · next keys vals p =>
      simp only [Bool.and_eq_true, decide_eq_true_eq] at h
      obtain ⟨⟨⟨h1, h2⟩, h3⟩, h4⟩ := h
      have h4 : keys.length = vals.length := by simpa using h4
      exact .of (fun G => s_sdd h3 h4 (fun e => by
        subst e
        cases l with
        | nil => rfl
        | cons a l => simp [ckEs] at h2) (sndp l h1 h2 h4 G)) (fun _ _ => rfl) nofun
    · cases h
theorem sndp : ∀ (l : Exs) {ks : List S} {keys : List (Option Expr)} {vals : List Expr} {sc : Scope} {pos : Pos}, keysB ks keys = true → ckEs N sc l vals = true → keys.length = vals.length → ∀ {X : Cx} {E : XK}, Here Z g C k X E N sc → PpK Z E C g X pos ks keys vals l
  | .nil, ks, keys, vals, sc, pos, h1, h2, h3, X, E, G => by
    simp only [ckEs, List.isEmpty_iff] at h2
    subst h2
    exact s_ppnil h1 h3
  | .cons a l, ks, keys, [], sc, pos, h1, h2, h3, X, E, G => by simp [ckEs] at h2
  | .cons a l, ks, keys, e :: vals, sc, pos, h1, h2, h3, X, E, G => by
    simp only [ckEs, Bool.and_eq_true] at h2
    cases keys with
    | nil => simp at h3
    | cons key keys =>
      cases ks with
      | nil => simp [keysB] at h1
      | cons k ks => exact s_ppcons h1 ((snd a h2.1).pe G) fun h => sndp l h h2.2 (by simpa using h3) G
theorem snds : ∀ (l : Exs) {es : List Expr} {sc : Scope}, ckEs N sc l es = true → ∀ {X : Cx} {E : XK}, Here Z g C k X E N sc → PA X es (tXs Z E C g l)
  | .nil, es, sc, h, X, E, G => by
    simp only [ckEs, List.isEmpty_iff] at h
    subst h
    exact s_nil
  | .cons a l, [], sc, h, X, E, G => by simp [ckEs] at h
  | .cons a l, e :: es, sc, h, X, E, G => by
    simp only [ckEs, Bool.and_eq_true] at h
    exact s_cons ((snd a h.1).pe G) (snds l h.2 G) (not_star h.1)
theorem sndk : ∀ (l : Exs) {kws : List Keyword} {sc : Scope}, ckEs N sc l (kws.map (·.value)) = true → ∀ {X : Cx} {E : XK}, Here Z g C k X E N sc → PK X kws (tXs Z E C g l)
  | .nil, kws, sc, h, X, E, G => by
    simp only [ckEs, List.isEmpty_iff, List.map_eq_nil_iff] at h
    subst h
    exact s_kwnil
  | .cons a l, [], sc, h, X, E, G => by simp [ckEs] at h
  | .cons a l, ⟨nm, e, p⟩ :: kws, sc, h, X, E, G => by
    simp only [List.map_cons, ckEs, Bool.and_eq_true] at h
    exact s_kwcons ((snd a h.1).pe G) (sndk l h.2 G)
theorem sndo : ∀ (l : Exo) {o : Option Expr} {sc : Scope}, ckO N sc l o = true → ∀ {X : Cx} {E : XK}, Here Z g C k X E N sc → PO X o (tO Z E C g l)
  | .none, o, sc, h, X, E, G => by
    simp only [ckO, Option.isNone_iff_eq_none] at h
    subst h
    exact s_onone
  | .some a, o, sc, h, X, E, G => by
    simp only [ckO] at h
    split at h
    · exact s_osome ((snd a h).pe G)
    · cases h
theorem sndc : ∀ (l : Exo) {o : List Expr} {sc : Scope}, ckC N sc l o = true → ∀ {X : Cx} {E : XK}, Here Z g C k X E N sc → PTs X o (tC Z E C g l)
  | .none, o, sc, h, X, E, G => by
    simp only [ckC, List.isEmpty_iff] at h
    subst h
    exact s_cnone
  | .some a, o, sc, h, X, E, G => by
    simp only [ckC] at h
    split at h
    · exact s_csome ((snd a h).pt G)
    · cases h
theorem sndt : ∀ (t : Tg) {e : Expr} {sc : Scope}, ckT N sc t e = true → ∀ {X : Cx} {E : XK}, Here Z g C k X E N sc → PG X e (tG Z E C g t)
  | .name i, e, sc, h, X, E, G => by
    simp only [ckT] at h
    split at h
    · simp only [Bool.and_eq_true, decide_eq_true_eq] at h
      exact g_name G h.1 h.2
    · cases h
  | .tup l, e, sc, h, X, E, G => by
    simp only [ckT] at h
    split at h
    · exact g_tup G h (sndts l h G)
    · cases h
  | .sub o i, e, sc, h, X, E, G => by
    simp only [ckT] at h
    split at h
    · simp only [Bool.and_eq_true] at h
      exact g_sub G.eP G.eW h.2 ((snd o h.1).pe G) ((snd i h.2).pe G)
    · cases h
theorem sndts : ∀ (t : Tgs) {e : List Expr} {sc : Scope}, ckTs N sc t e = true → ∀ {X : Cx} {E : XK}, Here Z g C k X E N sc → PGs X e (tGs Z E C g t)
  | .nil, es, sc, h, X, E, G => by
    simp only [ckTs, List.isEmpty_iff] at h
    subst h
    exact g_nil
  | .cons t l, [], sc, h, X, E, G => by simp [ckTs] at h
  | .cons t l, e :: es, sc, h, X, E, G => by
    simp only [ckTs, Bool.and_eq_true] at h
    exact g_cons (sndt t h.1 G) (sndts l h.2 G) (by rw [ckT_star h.1]; rfl)
theorem sndi : ∀ (x : Ix) {e tg : Expr} {sc : Scope}, ckI N sc x e tg = true → ∀ {X : Cx} {E : XK}, Here Z g C k X E N sc → PI X tg e (tI Z E C g x)
  | .ex a, e, tg, sc, h, X, E, G => by
    simp only [ckI] at h
    exact s_ix G.eK ((snd a h).pe G)
  | .rng1 a, e, tg, sc, h, X, E, G => by
    simp only [ckI] at h
    split at h
    · simp only [Bool.and_eq_true] at h
      obtain ⟨p, rfl, hg, hd, hn⟩ := isName_iff h.1
      exact s_rng1 G hg (not_star h.2) ((snd a h.2).pe G)
    · cases h
  | .rng2 a b, e, tg, sc, h, X, E, G => by
    simp only [ckI] at h
    split at h
    · simp only [Bool.and_eq_true] at h
      obtain ⟨p, rfl, hg, hd, hn⟩ := isName_iff h.1.1
      exact s_rng2 G hg (by rw [not_star h.1.2, not_star h.2]; rfl) (not_star h.2) ((snd a h.1.2).pe G) ((snd b h.2).pe G)
    · cases h
  | .rng3 _ _ _, e, tg, sc, h, X, E, G => by simp [ckI] at h
  | .enum a, e, tg, sc, h, X, E, G => by
    simp only [ckI] at h
    split at h
    · simp only [Bool.and_eq_true] at h
      obtain ⟨p, rfl, hg, hd, hn⟩ := isName_iff h.1
      exact s_enum G hg (not_star h.2) ((snd a h.2).pe G)
    · cases h
  | .zip a b, e, tg, sc, h, X, E, G => by
    simp only [ckI] at h
    split at h
    · simp only [Bool.and_eq_true] at h
      obtain ⟨p, rfl, hg, hd, hn⟩ := isName_iff h.1.1
      exact s_zip G hg (not_star h.1.2) (not_star h.2) (by rw [not_star h.2]; rfl) ((snd a h.1.2).pe G) ((snd b h.2).pe G)
    · cases h
end
end
end Rp

namespace Rp
open PySem PySem.Spec PyProof.Rows L2

/-! ## statements -/
section
variable (N : List Str) (sc : Scope)
/-- a pattern of texts -/
def pats : List S → Pattern → Bool
  | l, .MatchValue (.Constant (.str z) _ _) _ => decide (l = [z.cps.toList])
  | l, .MatchOr ps _ => patl l ps
  | _, _ => false
where patl : List S → List Pattern → Bool
  | [], [] => true
  | z :: l, .MatchValue (.Constant (.str y) _ _) _ :: ps => decide (z = y.cps.toList) && patl l ps
  | _, _ => false
def locN (x : Str) : Bool := match sc.names.lookup x with | some .local => true | _ => false
/-- (x, y) = (a, b): how the stores go: 0 by a tuple, 2 two names, 3 three, 9 not told -/
def swapK (ts vs : List Expr) : Nat :=
  if vs.all (foldedForSure 8) || decide (3 < ts.length) || (ts.any fun e => match e with | .Name y _ => !locN sc y | _ => true) then 0 else
  if vs.all (constantsAlone 8) then 9 else
  match ts, vs with
  | [.Name x px, .Name y py], [_, _] => if locN sc x && locN sc y && px.line == py.line && x != y then 2 else 9
  | [.Name x px, .Name y py, .Name z pz], [_, _, _] => if locN sc x && locN sc y && locN sc z && px.line == py.line && px.line == pz.line && x != y && x != z && y != z then 3 else 9
  | _, _ => 9
/-- is it stored by the comprehension itself? -/
def byComp (y : Str) (py : Pos) (scope : Scope) (pe : Pos) : Bool := locN sc y && py.line == pe.line && !(scope.names.any fun q => q.1 == y && (q.2 == .local || q.2 == .cell))
/-- the stores of an assignment are told -/
def stores (t e : Expr) : Bool := match t, e with
  | .Tuple ts _ _, .Tuple vs _ _ => swapK sc ts vs != 9
  | .List _ _, _ => false
  | .Name _ _, .SetComp _ _ _ _ => false
  | _, _ => true
def isLc : Ex → Bool
  | .lc .. => true
  | .sc2 .. => true
  | _ => false
mutual
def ckS : Sx → Stmt → Bool
  | .asg t e, s => match s with
    | .Assign [t'] e' _ => ckT N sc t t' && ckE N sc e e' && stores sc t' e'
    | _ => false
  | .aug i op e, s => match s with | .AugAssign (.Name y _) o e' _ => decide (N[i]? = some y) && loc sc y && op.same o && ckE N sc e e' | _ => false
  | .augs o i op e, s => match s with | .AugAssign (.Subscript o' i' _) p' e' _ => ckE N sc o o' && ckE N sc i i' && op.same p' && ckE N sc e e' | _ => false
  | .ex e, s => match s with | .Expr e' _ => ckE N sc e e' && !isLc e | _ => false
  | .ret e, s => match s with | .Return (some e') _ => ckE N sc e e' | _ => false
  | .retn, s => match s with | .Return none _ => true | _ => false
  | .pass, s => match s with | .Pass _ => true | _ => false
  | .brk, s => match s with | .Break _ => true | _ => false
  | .ct, s => match s with | .Continue _ => true | _ => false
  | .ite c a b, s => match s with | .If c' a' b' _ => ckE N sc c c' && ckB a a' && ckB b b' | _ => false
  | .for t i b, s => match s with | .For t' i' b' [] _ => ckT N sc t t' && ckI N sc i i' t' && ckB b b' | _ => false
  | .while c b, s => match s with | .While c' b' [] _ => ckE N sc c c' && ckB b b' | _ => false
  | .mat e l, s => match s with | .Match e' cs _ => ckE N sc e e' && ckM l cs | _ => false
  | .raise _ _, s => match s with | .Raise _ _ _ => true | _ => false
def ckB : Sxs → List Stmt → Bool
  | .nil, l => l.isEmpty
  | .cons s b, l => match l with | s' :: l => ckS s s' && ckB b l | [] => false
def ckM : Mcs → List MatchCase → Bool
  | .nil, l => l.isEmpty
  | .cons p b l, cs => match cs with | ⟨p', none, b'⟩ :: cs => pats p p' && ckB b b' && ckM l cs | _ => false
end
end
section
variable {N : List Str} {sc : Scope}
theorem locN_iff {x : Str} : locN sc x = true ↔ sc.names.lookup x = some .local := by
  unfold locN
  split
  · next h => simp [h]
  · next h => simp only [Bool.false_eq_true, false_iff]; exact h
theorem sw_none {env : Env} (h : env.scope = sc) (hk : sc.kind = .function) {ts vs : List Expr} {k k2 : Nat} {p p2 : Pos} (hv : ∀ e ∈ vs, ∀ v q, e ≠ .Starred v q) (hs : swapK sc ts vs = 0) : swappedStores [.Tuple ts k p] (.Tuple vs k2 p2) env = pure none := by
  have hb : (env.blockKind != .function) = false := by unfold Env.blockKind; rw [h, hk]; rfl
  unfold swappedStores
  by_cases hl : (!(ts.length == 2 || ts.length == 3) || vs.length != ts.length) = true
  · simp only [hl, Bool.true_or, if_true]
  · have hl : (!(ts.length == 2 || ts.length == 3) || vs.length != ts.length) = false := by simpa using hl
    simp only [hl, hb, Bool.false_or, if_false, Bool.false_eq_true, pure_bind]
    rw [if_neg (fun hh => by
      obtain ⟨e, he, h⟩ := List.any_eq_true.mp hh
      cases e <;> first | exact hv _ he _ _ rfl | cases h)]
    split
    · rfl
    · next hn =>
      split
      · rfl
      · next hf =>
        exfalso
        unfold swapK at hs
        split at hs
        · next hh =>
          rw [Bool.or_eq_true, Bool.or_eq_true] at hh
          rcases hh with (hh | hh) | hh
          · exact hf hh
          · have := of_decide_eq_true hh
            simp at hl; omega
          · apply hn
            rw [Bool.or_eq_true]
            left
            rw [bne_iff_ne]
            intro hq
            obtain ⟨e, he, hne⟩ := List.any_eq_true.mp hh
            have : ∀ (f : Expr → Option Str) (l : List Expr), (l.filterMap f).length = l.length → ∀ e ∈ l, (f e).isSome = true := by
              intro f l
              induction l with
              | nil => intro _ e he; cases he
              | cons a l ih =>
                intro hlen e he
                rw [List.filterMap_cons] at hlen
                split at hlen
                · next hh => have := List.length_filterMap_le f l; simp at hlen; omega
                · next b hh =>
                  rcases List.mem_cons.mp he with rfl | he
                  · simp [hh]
                  · exact ih (by simpa using hlen) e he
            have hs := this _ ts hq e he
            cases e with
            | Name y py =>
              have h1 : env.kindOf y = some .local := by
                cases q : env.kindOf y with
                | none => simp [q] at hs
                | some kk => cases kk <;> first | rfl | (simp [q] at hs; done)
              have h2 : sc.names.lookup y = some .local := by rw [← h]; exact h1
              have h3 : (!locN sc y) = true := hne
              rw [locN_iff.mpr h2] at h3; cases h3
            | _ => simp at hs
        · split at hs
          · cases hs
          · split at hs
            · split at hs <;> cases hs
            · split at hs <;> cases hs
            · cases hs
theorem sw_two {env : Env} (h : env.scope = sc) (hk : sc.kind = .function) {ts vs : List Expr} {k k2 : Nat} {p p2 : Pos} (hv : ∀ e ∈ vs, ∀ v q, e ≠ .Starred v q) (hs : swapK sc ts vs = 2) :
    ∃ x px y py a b, ts = [.Name x px, .Name y py] ∧ vs = [a, b] ∧ sc.names.lookup x = some .local ∧ sc.names.lookup y = some .local ∧ x ≠ y ∧ swappedStores [.Tuple ts k p] (.Tuple vs k2 p2) env = pure (some [x, y]) := by
  unfold swapK at hs
  split at hs
  · cases hs
  · next h0 =>
    split at hs
    · cases hs
    · next h1 =>
      split at hs
      · next x px y py a b =>
        split at hs
        · next hc =>
          simp only [Bool.and_eq_true, locN_iff, bne_iff_ne] at hc
          obtain ⟨⟨⟨c1, c2⟩, c3⟩, c4⟩ := hc
          refine ⟨x, px, y, py, a, b, rfl, rfl, c1, c2, c4, ?_⟩
          have hb : (env.blockKind != .function) = false := by unfold Env.blockKind; rw [h, hk]; rfl
          have kx : env.kindOf x = some .local := by show env.scope.names.lookup x = _; rw [h]; exact c1
          have ky : env.kindOf y = some .local := by show env.scope.names.lookup y = _; rw [h]; exact c2
          rw [Bool.or_eq_true, Bool.or_eq_true] at h0
          have f0 : ([a, b].all (foldedForSure 8)) = false := by
            cases q : [a, b].all (foldedForSure 8) with
            | false => rfl
            | true => exact absurd (.inl (.inl q)) h0
          have f1 : ([a, b].all (constantsAlone 8)) = false := by simpa using h1
          have e1 : (py.line == px.line) = true := by rw [beq_iff_eq] at c3 ⊢; exact c3.symm
          have d1 : (y == x) = false := by simpa using fun z : y = x => c4 z.symm
          unfold swappedStores
          have hst : ∀ f : Expr → Bool, (∀ e, f e = true → ∃ v q, e = .Starred v q) → [a, b].any f = false := fun f hf => List.any_eq_false.mpr fun e he hh => by
            obtain ⟨v, q, rfl⟩ := hf e hh
            exact hv _ he v q rfl
          simp only [hb, f0, f1, kx, ky, List.length_cons, List.length_nil, Bool.false_or, Bool.false_eq_true, if_false, pure_bind, List.filterMap_cons, List.filterMap_nil, List.head?_cons, Option.map_some, Option.getD_some, Expr.pos, BEq.rfl, Bool.true_and, e1, if_true]
          rw [if_neg (by decide), if_neg (fun hh => by
            rw [hst _ (fun e he => by cases e <;> first | exact ⟨_, _, rfl⟩ | cases he)] at hh; cases hh)]
          simp [List.eraseDups_cons, d1]
        · cases hs
      · split at hs <;> cases hs
      · cases hs
theorem sw_three {env : Env} (h : env.scope = sc) (hk : sc.kind = .function) {ts vs : List Expr} {k k2 : Nat} {p p2 : Pos} (hv : ∀ e ∈ vs, ∀ v q, e ≠ .Starred v q) (hs : swapK sc ts vs = 3) :
    ∃ x px y py z pz a b c, ts = [.Name x px, .Name y py, .Name z pz] ∧ vs = [a, b, c] ∧ sc.names.lookup x = some .local ∧ sc.names.lookup y = some .local ∧ sc.names.lookup z = some .local ∧ x ≠ y ∧ x ≠ z ∧ y ≠ z ∧
      swappedStores [.Tuple ts k p] (.Tuple vs k2 p2) env = pure (some [x, y, z]) := by
  unfold swapK at hs
  split at hs
  · cases hs
  · next h0 =>
    split at hs
    · cases hs
    · next h1 =>
      split at hs
      · split at hs <;> cases hs
      · next x px y py z pz a b c =>
        split at hs
        · next hc =>
          simp only [Bool.and_eq_true, locN_iff, bne_iff_ne] at hc
          obtain ⟨⟨⟨⟨⟨⟨⟨c1, c2⟩, c3⟩, c4⟩, c5⟩, c6⟩, c7⟩, c8⟩ := hc
          refine ⟨x, px, y, py, z, pz, a, b, c, rfl, rfl, c1, c2, c3, c6, c7, c8, ?_⟩
          have hb : (env.blockKind != .function) = false := by unfold Env.blockKind; rw [h, hk]; rfl
          have kx : env.kindOf x = some .local := by show env.scope.names.lookup x = _; rw [h]; exact c1
          have ky : env.kindOf y = some .local := by show env.scope.names.lookup y = _; rw [h]; exact c2
          have kz : env.kindOf z = some .local := by show env.scope.names.lookup z = _; rw [h]; exact c3
          rw [Bool.or_eq_true, Bool.or_eq_true] at h0
          have f0 : ([a, b, c].all (foldedForSure 8)) = false := by
            cases q : [a, b, c].all (foldedForSure 8) with
            | false => rfl
            | true => exact absurd (.inl (.inl q)) h0
          have f1 : ([a, b, c].all (constantsAlone 8)) = false := by simpa using h1
          have e1 : (py.line == px.line) = true := by rw [beq_iff_eq] at c4 ⊢; exact c4.symm
          have e2 : (pz.line == px.line) = true := by rw [beq_iff_eq] at c5 ⊢; exact c5.symm
          have d1 : (y == x) = false := by simpa using fun q : y = x => c6 q.symm
          have d2 : (z == x) = false := by simpa using fun q : z = x => c7 q.symm
          have d3 : (z == y) = false := by simpa using fun q : z = y => c8 q.symm
          unfold swappedStores
          have hst : ∀ f : Expr → Bool, (∀ e, f e = true → ∃ v q, e = .Starred v q) → [a, b, c].any f = false := fun f hf => List.any_eq_false.mpr fun e he hh => by
            obtain ⟨v, q, rfl⟩ := hf e hh
            exact hv _ he v q rfl
          simp only [hb, f0, f1, kx, ky, kz, List.length_cons, List.length_nil, Bool.false_or, Bool.false_eq_true, if_false, pure_bind, List.filterMap_cons, List.filterMap_nil, List.head?_cons, Option.map_some, Option.getD_some, Expr.pos, BEq.rfl, Bool.true_and, e1, e2, if_true]
          rw [if_neg (by decide), if_neg (fun hh => by
            rw [hst _ (fun e he => by cases e <;> first | exact ⟨_, _, rfl⟩ | cases he)] at hh; cases hh)]
          simp [List.eraseDups_cons, d1, d2, d3]
        · cases hs
      · cases hs
end
end Rp

namespace Rp
open PySem PySem.Spec PyProof.Rows L2

/-! ## statements are what the evaluator does -/
def OutF (Z : Zo) (E : XK) (D : Ends) (φ : List Addr) (H : Hp) (f : F) : Prop := match f with
  | .nx ρ M => ∀ φ' σ' H', Step φ H φ' H' → SR Z φ' H' M → Lrep Z φ' H' ρ σ' → D.nx σ' H'
  | .ret d M => ∀ φ' v H', Step φ H φ' H' → SR Z φ' H' M → Rep Z φ' H' d v → D.rt v H'
  | .brk ρ M => ∀ φ' σ' H', Step φ H φ' H' → SR Z φ' H' M → Lrep Z φ' H' ρ σ' → D.bk σ' H'
  | .ct ρ M => ∀ φ' σ' H', Step φ H φ' H' → SR Z φ' H' M → Lrep Z φ' H' ρ σ' → D.ct σ' H'
  | .exc c fs M _ => OutE Z E φ H c fs M
  | .stuck => False
def tS (Z : Zo) (E : XK) (f : Lc → Hm → F) : TS := fun D σ H => ∃ φ ρ M, Lrep Z φ H ρ σ ∧ SR Z φ H M ∧ OutF Z E D φ H (f ρ M)
section
variable {Z : Zo} {g : G} {C : Cl} {k : Nat} {X : Cx} {E : XK} {N : List Str} {sc : Scope}
theorem OutF.step {D : Ends} {φ φ1 : List Addr} {H H1 : Hp} {f : F} (h : OutF Z E D φ H f) (s : Step φ H φ1 H1) : OutF Z E D φ1 H1 f := by
  cases f with
  | nx ρ M => exact fun φ' σ' H' s' S L => h φ' σ' H' (s.trans s') S L
  | ret d M => exact fun φ' v H' s' S r => h φ' v H' (s.trans s') S r
  | brk ρ M => exact fun φ' σ' H' s' S L => h φ' σ' H' (s.trans s') S L
  | ct ρ M => exact fun φ' σ' H' s' S L => h φ' σ' H' (s.trans s') S L
  | exc c fs M ρ => exact h
  | stuck => exact h
theorem _root_.L2.PS.weak {s : Stmt} {t t' : TS} (h : PS X s t) (w : ∀ D σ H, t' D σ H → t D σ H) : PS X s t' := ⟨fun pins s σ H D I q => h.run pins s σ H D I (w D σ H q)⟩
theorem _root_.L2.PSs.weak {s : List Stmt} {t t' : TS} (h : PSs X s t) (w : ∀ D σ H, t' D σ H → t D σ H) : PSs X s t' := ⟨fun pins s σ H D I q => h.run pins s σ H D I (w D σ H q)⟩
/-- a value, then the rest of a statement -/
theorem go_next {α ν : Type} {rep : List Addr → Hp → α → ν → Prop} {D : Ends} {φ : List Addr} {H : Hp} {ρ : Lc} {σ : L2.St} {M : Hm} {f : Lc → Hm → R α} {K : α → Hm → F} (L : Lrep Z φ H ρ σ) (S : SR Z φ H M) (o : OutF Z E D φ H ((f ρ M).go ρ K)) {T : ν → Hp → Prop}
    (h : ∀ φ1 a M1 v H1, Step φ H φ1 H1 → Lrep Z φ1 H1 ρ σ → SR Z φ1 H1 M1 → rep φ1 H1 a v → OutF Z E D φ1 H1 (K a M1) → T v H1) : tE Z E rep f σ H T := by
  refine ⟨φ, ρ, M, L, S, ?_⟩
  cases q : f ρ M with
  | ok a M1 => rw [q] at o; exact fun φ1 v H1 s S1 r => h φ1 a M1 v H1 s (L.step s) S1 r (OutF.step o s)
  | exc c fs M1 => rw [q] at o; exact o
  | stuck => rw [q] at o; exact o
theorem seq_next {D : Ends} {φ : List Addr} {H : Hp} {f : F} {K : Lc → Hm → F} (o : OutF Z E D φ H (f.seq K)) {T : L2.St → Hp → Prop} (h : ∀ φ1 ρ1 M1 σ1 H1, Step φ H φ1 H1 → SR Z φ1 H1 M1 → Lrep Z φ1 H1 ρ1 σ1 → OutF Z E D φ1 H1 (K ρ1 M1) → T σ1 H1) : OutF Z E { D with nx := T } φ H f := by
  cases f with
  | nx ρ M => exact fun φ1 σ1 H1 s S L => h φ1 ρ M σ1 H1 s S L (OutF.step o s)
  | ret d M => exact o
  | brk ρ M => exact o
  | ct ρ M => exact o
  | exc c fs M ρ => exact o
  | stuck => exact o
abbrev tStm (Z : Zo) (E : XK) (C : Cl) (g : G) (s : Sx) : TS := tS Z E (exS C g s)
abbrev tBlk (Z : Zo) (E : XK) (C : Cl) (g : G) (s : Sxs) : TS := tS Z E (exB C g s)
theorem q_nil : PSs X [] (tBlk Z E C g .nil) := pss_nil.weak fun D σ H ⟨φ, ρ, M, L, S, o⟩ => by
  simp only [exB] at o
  exact o φ σ H .refl S L
theorem q_cons {s : Stmt} {l : List Stmt} {a : Sx} {b : Sxs} (h1 : PS X s (tStm Z E C g a)) (h2 : PSs X l (tBlk Z E C g b)) : PSs X (s :: l) (tBlk Z E C g (.cons a b)) := (pss_cons h1 h2).weak fun D σ H ⟨φ, ρ, M, L, S, o⟩ => by
  simp only [exB] at o
  exact ⟨φ, ρ, M, L, S, seq_next o fun φ1 ρ1 M1 σ1 H1 s S1 L1 o1 => ⟨φ1, ρ1, M1, L1, S1, o1⟩⟩
theorem q_ret {e : Expr} {p : Pos} {x : Ex} (h : PE X e (tX Z E C g x)) : PS X (.Return (some e) p) (tStm Z E C g (.ret x)) := (ps_ret h).weak fun D σ H ⟨φ, ρ, M, L, S, o⟩ => by
  simp only [exS] at o
  exact go_next (f := evE C g x) L S o fun φ1 a M1 v H1 s L1 S1 r o1 => o1 φ1 v H1 .refl S1 r
theorem q_retn {p : Pos} : PS X (.Return none p) (tStm Z E C g .retn) := ps_retN.weak fun D σ H ⟨φ, ρ, M, L, S, o⟩ => by
  simp only [exS] at o
  exact o φ .non H .refl S rfl
theorem q_pass {p : Pos} : PS X (.Pass p) (tStm Z E C g .pass) := ps_pass.weak fun D σ H ⟨φ, ρ, M, L, S, o⟩ => by
  simp only [exS] at o
  exact o φ σ H .refl S L
theorem q_brk {p : Pos} : PS X (.Break p) (tStm Z E C g .brk) := ps_break.weak fun D σ H ⟨φ, ρ, M, L, S, o⟩ => by
  simp only [exS] at o
  exact o φ σ H .refl S L
theorem q_ct {p : Pos} : PS X (.Continue p) (tStm Z E C g .ct) := ps_continue.weak fun D σ H ⟨φ, ρ, M, L, S, o⟩ => by
  simp only [exS] at o
  exact o φ σ H .refl S L
theorem q_ex {e : Expr} {p : Pos} {x : Ex} (hs : ∀ line env, swapsWith e none line env = pure false) (h : PE X e (tX Z E C g x)) : PS X (.Expr e p) (tStm Z E C g (.ex x)) := (ps_expr h (hs _ _)).weak fun D σ H ⟨φ, ρ, M, L, S, o⟩ => by
  simp only [exS] at o
  exact go_next (f := evE C g x) L S o fun φ1 a M1 v H1 s L1 S1 r o1 => o1 φ1 σ H1 .refl S1 L1
theorem q_ite {c' : Expr} {a' b' : List Stmt} {p : Pos} {c : Ex} {a b : Sxs} (hc : PT X c' (tT Z E C g c)) (ha : PSs X a' (tBlk Z E C g a)) (hb : PSs X b' (tBlk Z E C g b)) : PS X (.If c' a' b' p) (tStm Z E C g (.ite c a b)) := (ps_if hc ha hb).weak fun D σ H ⟨φ, ρ, M, L, S, o⟩ => by
  simp only [exS] at o
  refine go_next (rep := rEqB) (f := fun ρ M => test (evE C g c ρ M)) L S o fun φ1 b M1 v H1 s L1 S1 r o1 => ?_
  have e : v = b := r
  subst e
  cases v with
  | true => rw [if_pos rfl] at o1 ⊢; exact ⟨φ1, ρ, M1, L1, S1, o1⟩
  | false => rw [if_neg Bool.false_ne_true] at o1 ⊢; exact ⟨φ1, ρ, M1, L1, S1, o1⟩
theorem q_asg {t' e' : Expr} {p : Pos} {t : Tg} {e : Ex} {tg : TG} (h : PS X (.Assign [t'] e' p) (tAsg (tX Z E C g e) (tG Z E C g t))) : PS X (.Assign [t'] e' p) (tStm Z E C g (.asg t e)) := h.weak fun D σ H ⟨φ, ρ, M, L, S, o⟩ => by
  simp only [exS] at o
  refine go_next (f := evE C g e) L S o fun φ1 a M1 v H1 s L1 S1 r o1 => ⟨φ1, ρ, M1, a, L1, S1, r, ?_⟩
  cases q : stT C g t a ρ M1 with
  | ok ρ2 M2 => rw [q] at o1; exact fun φ2 σ2 H2 s2 S2 l2 => o1 φ2 σ2 H2 s2 S2 l2.1
  | exc c fs M2 => rw [q] at o1; exact o1
  | stuck => rw [q] at o1; exact o1
/-- the loop, turn by turn -/
theorem q_for (G : Here Z g C k X E N sc) {t' i' : Expr} {b' : List Stmt} {p : Pos} {t : Tg} {i : Ix} {b : Sxs} (hi : PI X t' i' (tI Z E C g i)) (hg : PG X t' (tG Z E C g t)) (hs : ∀ x, foldedSetIterable i' X.env x = pure x) (hb : PSs X b' (tBlk Z E C g b)) :
    PS X (.For t' i' b' [] p) (tStm Z E C g (.for t i b)) := (ps_for G.own G.calm hi hg hb hs).weak fun D σ H ⟨φ, ρ, M, L, S, o⟩ => by
  simp only [exS] at o
  refine go_next (rep := fun φ H it J => ItOk Z φ H it J) (f := evI C g i) L S o fun φ1 it M1 J H1 s1 L1 S1 ik o1 => ?_
  refine ⟨fun n m σ' H' => n + m = it.items.length ∧ ∃ φ' ρ' M', Step φ1 H1 φ' H' ∧ Lrep Z φ' H' ρ' σ' ∧ SR Z φ' H' M' ∧ OutF Z E D φ' H' (loop (stT C g t) (exB C g b) it.ok (it.items.drop n) ρ' M'), ⟨it.items.length, by omega, φ1, ρ, M1, .refl, L1, S1, o1⟩, fun n m σ' H' ⟨hnm, φ', ρ', M', st', L', S', o'⟩ => ?_⟩
  cases hd : it.items.drop n with
  | nil =>
    left
    rw [hd] at o'
    unfold loop at o'
    split at o'
    · next hok => exact ⟨ik.stop φ' H' M' n st'.stay S' hok (by simpa using hd), o' φ' σ' H' .refl S' L'⟩
    · exact o'.elim
  | cons x xs =>
    right
    obtain ⟨hx, hxs⟩ := it_drop hd
    rw [hd] at o'
    unfold loop at o'
    split at o'
    case isFalse => exact o'.elim
    case isTrue hok =>
    obtain ⟨hgo, hy⟩ := ik.step φ' H' M' n x st'.stay S' hok hx
    have hn : n < it.items.length := (List.getElem?_eq_some_iff.mp hx).1
    refine ⟨hgo, fun σ2 H2 => ∃ φ2 ρ2 M2, Step φ1 H1 φ2 H2 ∧ Lrep Z φ2 H2 ρ2 σ2 ∧ SR Z φ2 H2 M2 ∧ OutF Z E D φ2 H2 (loop (stT C g t) (exB C g b) it.ok xs ρ2 M2), fun σ2 H2 ⟨φ2, ρ2, M2, a1, a2, a3, a4⟩ => ⟨m - 1, by omega, by omega, φ2, ρ2, M2, a1, a2, a3, by rw [hxs]; exact a4⟩, fun v H2 yl => ?_⟩
    obtain ⟨φ2, s2, S2, rx⟩ := hy v H2 yl
    have o2 := OutF.step o' s2
    refine ⟨φ2, ρ', M', x, L'.step s2, S2, rx, ?_⟩
    cases q : stT C g t x ρ' M' with
    | exc cc fs M3 => rw [q] at o2; exact o2
    | stuck => rw [q] at o2; exact o2
    | ok ρ3 M3 =>
    rw [q, R.ok_go] at o2
    intro φ3 σ3 H3 s3 S3 ⟨L3, _⟩
    have b3 : Step φ1 H1 φ3 H3 := (st'.trans s2).trans s3
    have o3 := OutF.step o2 s3
    refine ⟨φ3, ρ3, M3, L3, S3, ?_⟩
    cases q2 : exB C g b ρ3 M3 with
    | nx ρ4 M4 => rw [q2] at o3; exact fun φ4 σ4 H4 s4 S4 L4 => ⟨φ4, ρ4, M4, b3.trans s4, L4, S4, OutF.step o3 s4⟩
    | ct ρ4 M4 => rw [q2] at o3; exact fun φ4 σ4 H4 s4 S4 L4 => ⟨φ4, ρ4, M4, b3.trans s4, L4, S4, OutF.step o3 s4⟩
    | brk ρ4 M4 => rw [q2] at o3; exact fun φ4 σ4 H4 s4 S4 L4 => o3 φ4 σ4 H4 s4 S4 L4
    | ret d M4 => rw [q2] at o3; exact o3
    | exc cc fs M4 ρ4 => rw [q2] at o3; exact o3
    | stuck => rw [q2] at o3; exact o3
theorem q_while (G : Here Z g C k X E N sc) {c' : Expr} {b' : List Stmt} {p : Pos} {c : Ex} {b : Sxs} (hc : PT X c' (tT Z E C g c)) (hb : PSs X b' (tBlk Z E C g b)) : PS X (.While c' b' [] p) (tStm Z E C g (.while c b)) := (ps_while G.own hc hb).weak fun D σ H ⟨φ, ρ, M, L, S, o⟩ => by
  simp only [exS] at o
  refine ⟨fun m σ' H' => ∃ φ' ρ' M', Lrep Z φ' H' ρ' σ' ∧ SR Z φ' H' M' ∧ OutF Z E D φ' H' (wloop (fun ρ M => test (evE C g c ρ M)) (exB C g b) m ρ' M'), ⟨WF, φ, ρ, M, L, S, o⟩, fun m σ' H' ⟨φ', ρ', M', L', S', o'⟩ => ?_⟩
  cases m with
  | zero => exact o'.elim
  | succ m =>
    unfold wloop at o'
    refine go_next (rep := rEqB) (f := fun ρ M => test (evE C g c ρ M)) L' S' o' fun φ1 kk M1 v H1 s L1 S1 r o1 => ?_
    have e : v = kk := r
    subst e
    cases v with
    | false => rw [if_neg Bool.false_ne_true] at o1 ⊢; exact o1 φ1 σ' H1 .refl S1 L1
    | true =>
      rw [if_pos rfl] at o1 ⊢
      refine ⟨fun σ2 H2 => ∃ φ2 ρ2 M2, Lrep Z φ2 H2 ρ2 σ2 ∧ SR Z φ2 H2 M2 ∧ OutF Z E D φ2 H2 (wloop (fun ρ M => test (evE C g c ρ M)) (exB C g b) m ρ2 M2), fun σ2 H2 q => ⟨m, Nat.lt_succ_self m, q⟩, φ1, ρ', M1, L1, S1, ?_⟩
      cases q2 : exB C g b ρ' M1 with
      | nx ρ4 M4 => rw [q2] at o1; exact fun φ4 σ4 H4 s4 S4 L4 => ⟨φ4, ρ4, M4, L4, S4, OutF.step o1 s4⟩
      | ct ρ4 M4 => rw [q2] at o1; exact fun φ4 σ4 H4 s4 S4 L4 => ⟨φ4, ρ4, M4, L4, S4, OutF.step o1 s4⟩
      | brk ρ4 M4 => rw [q2] at o1; exact fun φ4 σ4 H4 s4 S4 L4 => o1 φ4 σ4 H4 s4 S4 L4
      | ret d M4 => rw [q2] at o1; exact o1
      | exc cc fs M4 ρ4 => rw [q2] at o1; exact o1
      | stuck => rw [q2] at o1; exact o1
end
end Rp

namespace Rp
open PySem PySem.Spec PyProof.Rows L2

section
variable {Z : Zo} {g : G} {C : Cl} {k : Nat} {X : Cx} {E : XK} {N : List Str} {sc : Scope}
theorem sw_not {x : Ex} {e : Expr} (h : ckE N sc x e = true) (hn : isLc x = false) (t : Option Expr) (l : Nat) (env : Env) : swapsWith e t l env = pure false := by
  cases e with
  | ListComp a b c d => cases x <;> first | (simp [ckE, isName] at h; done) | cases hn
  | SetComp a b c d => cases x <;> first | (simp [ckE, isName] at h; done) | cases hn
  | DictComp a b c d e => cases x <;> first | (simp [ckE, isName] at h; done) | cases hn
  | _ => rfl
theorem sw_nn {e t : Expr} (h : ∀ y p, t ≠ .Name y p) (l : Nat) (env : Env) : swapsWith e (some t) l env = pure false := by
  cases e with
  | ListComp a b c d => cases t with
    | Name y p => exact absurd rfl (h y p)
    | _ => rfl
  | SetComp a b c d => cases t with
    | Name y p => exact absurd rfl (h y p)
    | _ => rfl
  | DictComp a b c d e => cases t with
    | Name y p => exact absurd rfl (h y p)
    | _ => rfl
  | _ => rfl
theorem sw_lc {env : Env} (h : env.scope = sc) (hk : sc.kind = .function) {elt : Expr} {gs : List Comprehension} {scope : Scope} {pos py : Pos} {y : Str} {l : Nat} : swapsWith (.ListComp elt gs scope pos) (some (.Name y py)) l env = pure (byComp sc y py scope pos) := by
  have hb : (env.blockKind == .function) = true := by unfold Env.blockKind; rw [h, hk]; rfl
  have ky : (env.kindOf y == some .local) = locN sc y := by
    show (env.scope.names.lookup y == some .local) = _
    rw [h]
    unfold locN
    cases q : sc.names.lookup y with
    | none => rfl
    | some k => cases k <;> rfl
  unfold swapsWith byComp
  simp only [hb, ky, Bool.true_and, Expr.pos]
/-- the sum on the spot -/
def RA (Z : Zo) (E : XK) (f : D → D → Hm → R D) : V → V → Hp → VK → Prop := fun x y H Q => ∃ φ a b M, SR Z φ H M ∧ Rep Z φ H a x ∧ Rep Z φ H b y ∧ Out Z (Rep Z) E φ H (f a b M) Q
theorem aug_ok (op : Bop) : PIp X op.py (RA Z E (augop op)) := by
  intro pins s σ H x y v u Q I rx ry ⟨φ, a, b, M, S, ra, rb, o⟩
  unfold augop at o
  split at o
  · cases ra; cases rb
    exact ip_add pins s σ H _ _ v u Q I rx ry ⟨_, _, rfl, rfl, o.here S rfl⟩
  · cases ra; cases rb
    exact ip_sub pins s σ H _ _ v u Q I rx ry ⟨_, _, rfl, rfl, o.here S rfl⟩
  · split at o
    · next a b hl =>
      cases ra; cases rb
      exact iop_add_str pins s σ H _ _ v u Q I rx ry ⟨_, _, rfl, rfl, by rw [strlen, strlen, ← LN_eq]; exact hl, by rw [toArr]; exact o.here S rfl⟩
    · exact o.elim
  · exact o.elim
theorem q_setn {e' : Expr} {y : Str} {py p : Pos} {e : Ex} {i : Nat} (h : PS X (.Assign [.Name y py] e' p) (tAsg (tX Z E C g e) (gName i))) : PS X (.Assign [.Name y py] e' p) (tStm Z E C g (.asg (.name i) e)) := h.weak fun D σ H ⟨φ, ρ, M, L, S, o⟩ => by
  simp only [exS, stT] at o
  refine go_next (f := evE C g e) L S o fun φ1 a M1 v H1 s L1 S1 r o1 => ?_
  split at o1
  · exact o1 φ1 _ H1 .refl S1 (L1.set r)
  · exact o1.elim
theorem q_asgt {t' e' : Expr} {p : Pos} {t : Tg} {e : Ex} (h : PS X (.Assign [t'] e' p) (tAsg (tX Z E C g e) (tG Z E C g t))) : PS X (.Assign [t'] e' p) (tStm Z E C g (.asg t e)) := h.weak fun D σ H ⟨φ, ρ, M, L, S, o⟩ => by
  simp only [exS] at o
  refine go_next (f := evE C g e) L S o fun φ1 a M1 v H1 s L1 S1 r o1 => ⟨φ1, ρ, M1, a, L1, S1, r, ?_⟩
  cases q : stT C g t a ρ M1 with
  | ok ρ2 M2 => rw [q] at o1; exact fun φ2 σ2 H2 s2 S2 l2 => o1 φ2 σ2 H2 s2 S2 l2.1
  | exc c fs M2 => rw [q] at o1; exact o1
  | stuck => rw [q] at o1; exact o1
theorem reps_len {φ : List Addr} {H : Hp} {l : List D} {vs : List V} (r : Reps Z φ H l vs) : l.length = vs.length := r.length.symm
theorem q_two {ts vs : List Expr} {kt k2 : Nat} {pt pt2 p : Pos} {i j : Nat} {l : Exs} (h : PS X (.Assign [.Tuple ts kt pt] (.Tuple vs k2 pt2) p) (tPar i j (tXs Z E C g l))) (hij : i ≠ j) :
    PS X (.Assign [.Tuple ts kt pt] (.Tuple vs k2 pt2) p) (tStm Z E C g (.asg (.tup (.cons (.name i) (.cons (.name j) .nil))) (.tup l))) := h.weak fun D σ H ⟨φ, ρ, M, L, S, o⟩ => by
  simp only [exS, evE] at o
  have o' : OutF Z E D φ H ((evEs C g l ρ M).go ρ fun ds M1 => if ds.length ≤ LN then (stT C g (.tup (.cons (.name i) (.cons (.name j) .nil))) (.tup ds) ρ M1).go ρ fun ρ1 M2 => .nx ρ1 M2 else .stuck) := by
    cases q : evEs C g l ρ M with
    | ok ds M1 =>
      rw [q] at o; simp only [R.ok_bind, R.ok_go] at o ⊢
      by_cases hl : ds.length ≤ LN
      · rw [if_pos hl] at o ⊢; exact o
      · rw [if_neg hl] at o; exact o.elim
    | exc c fs M1 => rw [q] at o; exact o
    | stuck => rw [q] at o; exact o
  refine go_next (f := evEs C g l) L S o' fun φ1 ds M1 ws H1 s L1 S1 r o1 => ?_
  by_cases hl : ds.length ≤ LN
  · rw [if_pos hl] at o1
    simp only [stT, unp?, opt_some] at o1
    by_cases hl : ds.length = (Tgs.cons (.name i) (.cons (.name j) .nil)).len
    · rw [if_pos hl] at o1
      have hl2 : ds.length = 2 := hl
      clear o' o
      match ds, hl2, r, o1 with
      | [a, b], _, r, o1 =>
        obtain ⟨v, ws, rfl, ra, r⟩ := r
        obtain ⟨w, ws, rfl, rb, r⟩ := r
        cases (show ws = [] from r)
        simp only [stTs, stT] at o1
        by_cases hi : i < ρ.length
        · simp only [if_pos hi, R.ok_bind, List.length_set] at o1
          by_cases hj : j < ρ.length
          · simp only [if_pos hj, R.ok_bind, R.ok_go] at o1
            exact ⟨_, _, rfl, o1 φ1 _ H1 .refl S1 ((L1.set ra).set rb)⟩
          · simp only [if_neg hj] at o1; exact o1.elim
        · simp only [if_neg hi] at o1; exact o1.elim
    · rw [if_neg hl] at o1; exact o1.elim
  · rw [if_neg hl] at o1; exact o1.elim
theorem q_three {ts vs : List Expr} {kt k2 : Nat} {pt pt2 p : Pos} {i j m : Nat} {l : Exs} (h : PS X (.Assign [.Tuple ts kt pt] (.Tuple vs k2 pt2) p) (tPar3 i j m (tXs Z E C g l))) :
    PS X (.Assign [.Tuple ts kt pt] (.Tuple vs k2 pt2) p) (tStm Z E C g (.asg (.tup (.cons (.name i) (.cons (.name j) (.cons (.name m) .nil)))) (.tup l))) := h.weak fun D σ H ⟨φ, ρ, M, L, S, o⟩ => by
  simp only [exS, evE] at o
  have o' : OutF Z E D φ H ((evEs C g l ρ M).go ρ fun ds M1 => if ds.length ≤ LN then (stT C g (.tup (.cons (.name i) (.cons (.name j) (.cons (.name m) .nil)))) (.tup ds) ρ M1).go ρ fun ρ1 M2 => .nx ρ1 M2 else .stuck) := by
    cases q : evEs C g l ρ M with
    | ok ds M1 =>
      rw [q] at o; simp only [R.ok_bind, R.ok_go] at o ⊢
      by_cases hl : ds.length ≤ LN
      · rw [if_pos hl] at o ⊢; exact o
      · rw [if_neg hl] at o; exact o.elim
    | exc c fs M1 => rw [q] at o; exact o
    | stuck => rw [q] at o; exact o
  refine go_next (f := evEs C g l) L S o' fun φ1 ds M1 ws H1 s L1 S1 r o1 => ?_
  by_cases hl : ds.length ≤ LN
  · rw [if_pos hl] at o1
    simp only [stT, unp?, opt_some] at o1
    by_cases hl : ds.length = (Tgs.cons (.name i) (.cons (.name j) (.cons (.name m) .nil))).len
    · rw [if_pos hl] at o1
      have hl2 : ds.length = 3 := hl
      clear o' o
      match ds, hl2, r, o1 with
      | [a, b, c], _, r, o1 =>
        obtain ⟨v, ws, rfl, ra, r⟩ := r
        obtain ⟨w, ws, rfl, rb, r⟩ := r
        obtain ⟨u, ws, rfl, rc, r⟩ := r
        cases (show ws = [] from r)
        simp only [stTs, stT] at o1
        by_cases hi : i < ρ.length
        · simp only [if_pos hi, R.ok_bind, List.length_set] at o1
          by_cases hj : j < ρ.length
          · simp only [if_pos hj, R.ok_bind, List.length_set] at o1
            by_cases hm : m < ρ.length
            · simp only [if_pos hm, R.ok_bind, R.ok_go] at o1
              exact ⟨_, _, _, rfl, o1 φ1 _ H1 .refl S1 (((L1.set ra).set rb).set rc)⟩
            · simp only [if_neg hm] at o1; exact o1.elim
          · simp only [if_neg hj] at o1; exact o1.elim
        · simp only [if_neg hi] at o1; exact o1.elim
    · rw [if_neg hl] at o1; exact o1.elim
  · rw [if_neg hl] at o1; exact o1.elim
def RGo (Z : Zo) (E : XK) : V → V → Hp → VK → Prop := fun x y H Q => ∃ φ a b M, SR Z φ H M ∧ Rep Z φ H a x ∧ Rep Z φ H b y ∧ Out Z (Rep Z) E φ H (getoop a b M) Q
theorem get_ok : PGet X (RGo Z E) := by
  intro pins s σ H x y ov iv Q I ro ri ⟨φ, a, b, M, S, ra, rb, o⟩
  cases a with
  | ref n =>
    cases b with
    | int kk =>
      cases rb
      simp only [getoop] at o
      split at o
      · next l hl =>
        split at o
        · next h =>
          split at o
          · next d hd =>
            obtain ⟨c, vs, hc, rfl, p, q⟩ := S.lst hl ra
            cases (show ov = Value.ref c from ro)
            obtain ⟨t, rfl⟩ := ri
            obtain ⟨its, m, r, ho, hz⟩ := I.lst p
            obtain ⟨w, ew, rw'⟩ := Reps.get q hd
            obtain ⟨u, eu, ru⟩ := r.get ew
            have hLN : LN = 16777216 := rfl
            exact PySem.wpAny_getItem_list ⟨_, ho, rfl, _, rfl⟩ h.1 (by omega) (by simpa using eu) ⟨w, H, I, ru, o.here S rw'⟩
          · exact o.elim
        · exact o.elim
      · exact o.elim
    | _ => exact o.elim
  | _ => exact o.elim
theorem q_augs (G : Here Z g C k X E N sc) {o' i' e' : Expr} {tp p : Pos} {o i e : Ex} {op : Bop} (hck : ckE N sc i i' = true) (ho : PE X o' (tX Z E C g o)) (hi : PE X i' (tX Z E C g i)) (he : PE X e' (tX Z E C g e)) : PS X (.AugAssign (.Subscript o' i' tp) op.py e' p) (tStm Z E C g (.augs o i op e)) := by
  refine (ps_augS ho hi (get_ok (Z := Z) (E := E)) he (aug_ok (Z := Z) (E := E) op) (set_ok (Z := Z) (E := E) G.eP G.eW) (by
    intro ov iv new
    cases i' with
    | Slice a b c p => cases i <;> simp [ckE, isName] at hck
    | _ => rfl)).weak fun D σ H ⟨φ, ρ, M, L, S, oo⟩ => ?_
  simp only [exS] at oo
  refine go_next (f := evE C g o) L S oo fun φ1 x M1 v1 H1 s1 L1 S1 r1 o1 => go_next (f := evE C g i) L1 S1 o1 fun φ2 y M2 v2 H2 s2 L2 S2 r2 o2 => ?_
  refine ⟨φ2, x, y, M2, S2, r1.step s2, r2, ?_⟩
  cases q3 : getoop x y M2 with
  | exc cc fs M3 => rw [q3] at o2; exact o2
  | stuck => rw [q3] at o2; exact o2
  | ok a M3 =>
  rw [q3] at o2
  intro φ3 v3 H3 s3 S3 r3
  refine go_next (f := evE C g e) (L2.step s3) S3 (OutF.step o2 s3) fun φ4 b M4 v4 H4 s4 L4 S4 r4 o4 => ?_
  refine ⟨φ4, a, b, M4, S4, r3.step s4, r4, ?_⟩
  cases q5 : augop op a b M4 with
  | exc cc fs M5 => rw [q5] at o4; exact o4
  | stuck => rw [q5] at o4; exact o4
  | ok z M5 =>
  rw [q5] at o4
  intro φ5 v5 H5 s5 S5 r5
  refine ⟨φ5, x, y, z, M5, S5, ((((r1.step s2).step s3).step s4).step s5), (((r2.step s3).step s4).step s5), r5, ?_⟩
  have o5 := OutF.step o4 s5
  simp only [R.ok_go] at o5
  cases q6 : stoop z x y M5 with
  | exc cc fs M6 => rw [q6] at o5; exact o5
  | stuck => rw [q6] at o5; exact o5
  | ok w M6 =>
  rw [q6] at o5
  intro φ6 v6 H6 s6 S6 _
  exact o5 φ6 σ H6 s6 S6 ((L4.step s5).step s6)
theorem q_aug (G : Here Z g C k X E N sc) {y : Str} {py p : Pos} {e' : Expr} {i : Nat} {op : Bop} {e : Ex} (hi : N[i]? = some y) (hl : loc sc y = true) (he : PE X e' (tX Z E C g e)) : PS X (.AugAssign (.Name y py) op.py e' p) (tStm Z E C g (.aug i op e)) := by
  have hloc : Loc X.env.scope y ∧ (X.fn y = true ∨ X.env.scope.names.lookup y = some .local) := by
    unfold loc at hl
    split at hl
    · next h => exact ⟨.inl ((G.rel y).1 h), .inr ((G.rel y).1 h)⟩
    · next h => exact ⟨.inr ((G.rel y).2.1 h), .inl (G.fnx y h)⟩
    · cases hl
  refine (ps_aug (by rw [G.xN]; exact G.nd) (by rw [G.xN]; exact hi) hloc.1 he (aug_ok (Z := Z) (E := E) op) hloc.2).weak fun D σ H ⟨φ, ρ, M, L, S, o⟩ => ?_
  simp only [exS] at o
  split at o
  · next x hx =>
    obtain ⟨v, hv, rv⟩ := L.at' i x hx
    refine ⟨v, hv, go_next (f := evE C g e) L S o fun φ1 b M1 w H1 s L1 S1 r o1 => ?_⟩
    refine ⟨φ1, x, b, M1, S1, rv.step s, r, ?_⟩
    cases q : augop op x b M1 with
    | ok z M2 => rw [q] at o1; exact fun φ2 z' H2 s2 S2 r2 => o1 φ2 _ H2 s2 S2 ((L1.step s2).set r2)
    | exc c fs M2 => rw [q] at o1; exact o1
    | stuck => rw [q] at o1; exact o1
  · exact o.elim
end
end Rp

namespace Rp
open PySem PySem.Spec PyProof.Rows L2

section
variable {Z : Zo} {g : G} {C : Cl} {k : Nat} {X : Cx} {E : XK} {N : List Str} {sc : Scope}
/-- a case's pattern met -/
def PatQ (X : Cx) (pins : List (Addr × Obj)) (σ : L2.St) (H : Hp) (b : Bool) (r : Option (List (Str × Value))) (s : Shared) : Prop := r = (if b then some [] else none) ∧ Inv X pins σ H s
theorem pat_val (G : Here Z g C k X E N sc) {z : Str} {j : Nat} {p0 p1 : Pos} {pins : List (Addr × Obj)} {s : Shared} {σ : L2.St} {H : Hp} {φ : List Addr} {d : D} {x : V} {u : Value} {M : Hm} (I : Inv X pins σ H s) (f : flat d = true) (S : SR Z φ H M) (r : Rep Z φ H d x) (rx : L2.RelV x u) :
    wpAny (model X.prog X.w) X.A (matchPattern (.MatchValue (.Constant (.str z) j p0) p1) X.env u) (PatQ X pins σ H (feq d (.str z.cps.toList))) X.xe s := by
  refine wpAny_matchPattern_Value (thn (pe_str.run pins s σ H (fun y H' => y = .str z ∧ H' = H) I ⟨rfl, rfl⟩) fun w s1 ⟨y, H1, I1, r1, ⟨e1, e2⟩⟩ => ?_)
  subst e1 e2
  have rz : Rep Z φ H1 (.str z.cps.toList) (.str z) := by show V.str z = V.str _; rw [strTo]
  have e : deq M d (.str z.cps.toList) = some (feq d (.str z.cps.toList)) := by unfold deq; rw [f]; rfl
  refine thn ((or_eqs G.eK G.hu64 pins s1 σ H1 x (.str z) u w (fun y H' => y = .bl (feq d (.str z.cps.toList)) ∧ H' = H1) I1 rx r1 φ d _ M S r rz e).1 ⟨rfl, rfl⟩) fun c s2 ⟨y, H2, I2, r2, ⟨e1, e2⟩⟩ => ?_
  subst e1 e2
  refine thn (tr_truth G.eK pins s2 σ H2 _ c (fun b H' => b = feq d (.str z.cps.toList) ∧ H' = H2) I2 r2 φ (.bl (feq d (.str z.cps.toList))) M S rfl (k := feq d (.str z.cps.toList)) rfl ⟨rfl, rfl⟩) fun b s3 ⟨H3, I3, e1, e2⟩ => ?_
  subst e1 e2
  cases q : feq d (.str z.cps.toList) with
  | true => exact ⟨rfl, I3⟩
  | false => exact ⟨rfl, I3⟩
theorem pat_first (G : Here Z g C k X E N sc) {pins : List (Addr × Obj)} {σ : L2.St} {H : Hp} {φ : List Addr} {d : D} {x : V} {u : Value} {M : Hm} (f : flat d = true) (S : SR Z φ H M) (r : Rep Z φ H d x) (rx : L2.RelV x u) :
    ∀ (l : List Rp.S) (ps : List Pattern) (s : Shared), pats.patl l ps = true → Inv X pins σ H s → wpAny (model X.prog X.w) X.A (matchFirst ps X.env u) (PatQ X pins σ H (l.any fun z => feq d (.str z))) X.xe s
  | [], [], s, h, I => wpAny_matchFirst_nil ⟨rfl, I⟩
  | [], _ :: _, s, h, I => by simp [pats.patl] at h
  | z :: l, p :: ps, s, h, I => by
    unfold pats.patl at h
    split at h
    · next e1 _ => cases e1
    · next z0 l0 y j p0 p1 ps0 e1 e2 =>
      obtain ⟨rfl, rfl⟩ := List.cons.inj e1
      obtain ⟨rfl, rfl⟩ := List.cons.inj e2
      simp only [Bool.and_eq_true, decide_eq_true_eq] at h
      obtain ⟨rfl, h⟩ := h
      refine wpAny_matchFirst_cons (thn (pat_val G I f S r rx) fun r' s1 ⟨e, I1⟩ => ?_)
      subst e
      cases q : feq d (.str y.cps.toList) with
      | true => exact ⟨by simp [q], I1⟩
      | false => exact thn (pat_first G f S r rx l ps s1 h I1) fun r2 s2 ⟨e2, I2⟩ => ⟨by rw [e2]; simp [q], I2⟩
    · cases h
  | _ :: _, [], s, h, I => by simp [pats.patl] at h
theorem pat_any (G : Here Z g C k X E N sc) {pins : List (Addr × Obj)} {σ : L2.St} {H : Hp} {φ : List Addr} {d : D} {x : V} {u : Value} {M : Hm} (f : flat d = true) (S : SR Z φ H M) (r : Rep Z φ H d x) (rx : L2.RelV x u)
    {l : List Rp.S} {p : Pattern} {s : Shared} (h : pats l p = true) (I : Inv X pins σ H s) : wpAny (model X.prog X.w) X.A (matchPattern p X.env u) (PatQ X pins σ H (l.any fun z => feq d (.str z))) X.xe s := by
  unfold pats at h
  split at h
  · next z j p0 p1 =>
    have : l = [z.cps.toList] := by simpa using h
    subst this
    exact thn (pat_val G I f S r rx) fun r' s1 ⟨e, I1⟩ => ⟨by rw [e]; simp, I1⟩
  · next ps pp =>
    refine wpAny_matchPattern_Or (thn (pat_first G f S r rx l ps s h I) fun r' s1 ⟨e, I1⟩ => ?_)
    subst e
    cases q : l.any fun z => feq d (.str z) with
    | true => exact ⟨by simp, I1⟩
    | false => exact ⟨by simp, I1⟩
  · cases h
/-- the cases, for a value -/
structure PM (X : Cx) (cs : List MatchCase) (t : V → TS) : Prop where
  run : ∀ (first : Bool) (pins : List (Addr × Obj)) (s : Shared) (σ : L2.St) (H : Hp) (D : Ends) (x : V) (u : Value), Inv X pins σ H s → L2.RelV x u → t x D σ H → wpAny (model X.prog X.w) X.A (matchCases cs X.env u first) (SP X pins D) X.xe s
def tM (Z : Zo) (E : XK) (C : Cl) (g : G) (l : Mcs) (x : V) : TS := fun D σ H => ∃ φ ρ M d, Lrep Z φ H ρ σ ∧ SR Z φ H M ∧ Rep Z φ H d x ∧ OutF Z E D φ H (exM C g l d ρ M)
theorem m_nil : PM X [] (tM Z E C g .nil) := ⟨fun first pins s σ H D x u I rx ⟨φ, ρ, M, d, L, S, r, o⟩ => by
  simp only [exM] at o
  exact wpAny_matchCases_nil ⟨σ, H, I, o φ σ H .refl S L⟩⟩
theorem m_cons (G : Here Z g C k X E N sc) {p : Pattern} {b' : List Stmt} {cs : List MatchCase} {l : List Rp.S} {b : Sxs} {m : Mcs} (hp : pats l p = true) (hb : PSs X b' (tBlk Z E C g b)) (hm : PM X cs (tM Z E C g m)) : PM X (⟨p, none, b'⟩ :: cs) (tM Z E C g (.cons l b m)) :=
  ⟨fun first pins s σ H D x u I rx ⟨φ, ρ, M, d, L, S, r, o⟩ => by
    simp only [exM] at o
    split at o
    case isFalse => exact o.elim
    case isTrue f =>
    refine wpAny_matchCases_cons (thn (pat_any G f S r rx hp I) fun r' s1 ⟨e, I1⟩ => ?_)
    subst e
    cases q : l.any fun z => feq d (.str z) with
    | true =>
      rw [q, if_pos rfl] at o
      exact wpAny_assignInOrder_none (hb.run pins s1 σ H D I1 ⟨φ, ρ, M, L, S, o⟩)
    | false =>
      rw [q, if_neg Bool.false_ne_true] at o
      exact hm.run false pins s1 σ H D x u I1 rx ⟨φ, ρ, M, d, L, S, r, o⟩⟩
theorem q_mat {e' : Expr} {cs : List MatchCase} {p : Pos} {e : Ex} {m : Mcs} (he : PE X e' (tX Z E C g e)) (hm : PM X cs (tM Z E C g m)) : PS X (.Match e' cs p) (tStm Z E C g (.mat e m)) :=
  ⟨fun pins s σ H D I ⟨φ, ρ, M, L, S, o⟩ => by
    simp only [exS] at o
    have := go_next (f := evE C g e) L S o (T := fun x H1 => tM Z E C g m x D σ H1) fun φ1 a M1 v H1 s L1 S1 r o1 => ⟨φ1, ρ, M1, a, L1, S1, r, o1⟩
    exact wpAny_Match (thn (he.run pins s σ H _ I this) fun u s1 ⟨x, H1, I1, r1, q1⟩ => hm.run true pins s1 σ H1 D x u I1 r1 q1)⟩
/-! ## all statements -/
theorem lc_parts {x : Ex} {elt : Expr} {gs : List Comprehension} {scope : Scope} {pos : Pos} {sc : Scope} (h : ckE N sc x (.ListComp elt gs scope pos) = true) : ∃ a t ix c own t' ix' cs, x = .lc a t ix c own ∧ gs = [⟨t', ix', cs, 0⟩] ∧ blkB N sc scope own = true ∧ t.slots.all (own.contains ·) = true ∧ ckE N scope a elt = true ∧ ckT N scope t t' = true ∧ ckI N sc ix ix' t' = true ∧ ckC N scope c cs = true := by
  cases x with
  | lc a t ix c own =>
    simp only [ckE] at h
    split at h
    · next e1 =>
      cases e1
      simp only [Bool.and_eq_true] at h
      obtain ⟨⟨⟨⟨⟨h1, h2⟩, h3⟩, h4⟩, h5⟩, h6⟩ := h
      exact ⟨_, _, _, _, _, _, _, _, rfl, rfl, h1, h2, h3, h4, h5, h6⟩
    · cases h
  | _ => simp [ckE, isName] at h
theorem asg_name (G : Here Z g C k X E N sc) (hsc : X.env.scope = sc) (hk : sc.kind = .function) {i : Nat} {e : Ex} {t' e' : Expr} {p : Pos} (ht : ckT N sc (.name i) t' = true) (he : ckE N sc e e' = true) (hst : stores sc t' e' = true) : PS X (.Assign [t'] e' p) (tStm Z E C g (.asg (.name i) e)) := by
  simp only [ckT] at ht
  split at ht
  case h_2 => cases ht
  next y py =>
  simp only [Bool.and_eq_true, decide_eq_true_eq] at ht
  obtain ⟨hi, hl⟩ := ht
  have hloc : Loc X.env.scope y ∧ (X.fn y = true ∨ X.env.scope.names.lookup y = some .local) := by
    unfold loc at hl
    split at hl
    · next h => exact ⟨.inl ((G.rel y).1 h), .inr ((G.rel y).1 h)⟩
    · next h => exact ⟨.inr ((G.rel y).2.1 h), .inl (G.fnx y h)⟩
    · cases hl
  have plain : swapsWith e' (some (.Name y py)) p.line X.env = pure false → PS X (.Assign [.Name y py] e' p) (tStm Z E C g (.asg (.name i) e)) := fun hs => q_setn (ps_set (by rw [G.xN]; exact G.nd) (by rw [G.xN]; exact hi) hloc.1 ((snd e he).pe G) hs hloc.2)
  by_cases hc : ∃ elt gs scope pos, e' = .ListComp elt gs scope pos
  · obtain ⟨elt, gs, scope, pos, rfl⟩ := hc
    have hb := sw_lc (elt := elt) (gs := gs) (scope := scope) (pos := pos) (py := py) (y := y) (l := p.line) hsc hk
    cases q : byComp sc y py scope pos with
    | false => exact plain (by rw [hb, q])
    | true =>
      obtain ⟨a, t, ix, c, own, t', ix', cs, rfl, rfl, h1, h2, h3, h4, h5, h6⟩ := lc_parts he
      refine q_setn (s_setLc G h1 h2 hi ?_ (by rw [hb, q]) (sndi ix h5 G) (sndi_set h5 _) (fun Y GY => sndt t h4 GY) (fun Y GY => sndc c h6 GY) (fun Y GY => (snd a h3).pe GY))
      unfold byComp at q
      simp only [Bool.and_eq_true] at q
      rw [hsc]
      exact locN_iff.mp q.1.1
  · refine plain ?_
    cases e' with
    | ListComp a b c d => exact absurd ⟨_, _, _, _, rfl⟩ hc
    | SetComp a b c d => cases hst
    | DictComp a b c d e => cases ‹Ex› <;> simp [ckE, isName] at he
    | _ => rfl
end
end Rp

namespace Rp
open PySem PySem.Spec PyProof.Rows L2

section
variable {Z : Zo} {g : G} {C : Cl} {k : Nat} {X : Cx} {E : XK} {N : List Str} {sc : Scope}
theorem no_star {x : Ex} {e : Expr} (h : ckE N sc x e = true) : ∀ v q, e ≠ .Starred v q := by
  rintro v q rfl
  cases x <;> simp [ckE, isName] at h
theorem no_stars : ∀ {l : Exs} {es : List Expr}, ckEs N sc l es = true → ∀ e ∈ es, ∀ v q, e ≠ .Starred v q
  | .nil, es, h, e, he => by
    simp only [ckEs, List.isEmpty_iff] at h
    subst h; cases he
  | .cons a l, [], h, e, he => by cases he
  | .cons a l, e' :: es, h, e, he => by
    simp only [ckEs, Bool.and_eq_true] at h
    rcases List.mem_cons.mp he with rfl | he
    · exact no_star h.1
    · exact no_stars h.2 e he
theorem swS_two {l : Exs} {vs : List Expr} (h : ckEs N sc l vs = true) : True := trivial
theorem tgs_two {l : Tgs} {x y : Str} {px py : Pos} (h : ckTs N sc l [.Name x px, .Name y py] = true) : ∃ i j, l = .cons (.name i) (.cons (.name j) .nil) ∧ N[i]? = some x ∧ N[j]? = some y := by
  cases l with
  | nil => simp [ckTs] at h
  | cons t l => cases l with
    | nil => simp [ckTs] at h
    | cons t' l => cases l with
      | cons a b => simp [ckTs] at h
      | nil =>
        simp only [ckTs, Bool.and_eq_true] at h
        cases t with
        | name i => cases t' with
          | name j => simp only [ckT, Bool.and_eq_true, decide_eq_true_eq] at h; exact ⟨i, j, rfl, h.1.1, h.2.1.1⟩
          | _ => simp [ckT] at h
        | _ => simp [ckT] at h
theorem tgs_three {l : Tgs} {x y z : Str} {px py pz : Pos} (h : ckTs N sc l [.Name x px, .Name y py, .Name z pz] = true) : ∃ i j m, l = .cons (.name i) (.cons (.name j) (.cons (.name m) .nil)) ∧ N[i]? = some x ∧ N[j]? = some y ∧ N[m]? = some z := by
  cases l with
  | nil => simp [ckTs] at h
  | cons t l => cases l with
    | nil => simp [ckTs] at h
    | cons t' l => cases l with
      | nil => simp [ckTs] at h
      | cons t2 b => cases b with
        | cons a b => simp [ckTs] at h
        | nil =>
          simp only [ckTs, Bool.and_eq_true] at h
          cases t with
          | name i => cases t' with
            | name j => cases t2 with
              | name m => simp only [ckT, Bool.and_eq_true, decide_eq_true_eq] at h; exact ⟨i, j, m, rfl, h.1.1, h.2.1.1, h.2.2.1.1⟩
              | _ => simp [ckT] at h
            | _ => simp [ckT] at h
          | _ => simp [ckT] at h
theorem ne_ix {i j : Nat} {x y : Str} (hi : N[i]? = some x) (hj : N[j]? = some y) (h : x ≠ y) : i ≠ j := fun e => by subst e; rw [hi] at hj; exact h (Option.some.inj hj)
theorem asg_tup (G : Here Z g C k X E N sc) (hsc : X.env.scope = sc) (hk : sc.kind = .function) {ts : Tgs} {e : Ex} {t' e' : Expr} {p : Pos} (ht : ckT N sc (.tup ts) t' = true) (he : ckE N sc e e' = true) (hst : stores sc t' e' = true) : PS X (.Assign [t'] e' p) (tStm Z E C g (.asg (.tup ts) e)) := by
  have hg := sndt (.tup ts) ht G (C := C) (E := E)
  simp only [ckT] at ht
  split at ht
  case h_2 => cases ht
  next es kt pt =>
  have hs : swapsWithSole [.Tuple es kt pt] e' p.line X.env = pure false := sw_nn (e := e') (t := .Tuple es kt pt) (fun y p h => by cases h) p.line X.env
  have gen : swappedStores [.Tuple es kt pt] e' X.env = pure none → PS X (.Assign [.Tuple es kt pt] e' p) (tStm Z E C g (.asg (.tup ts) e)) := fun hw => q_asgt (ps_asg ((snd e he).pe G) hg hs hw rfl)
  by_cases hc : ∃ vs k2 pt2, e' = .Tuple vs k2 pt2
  · obtain ⟨vs, k2, pt2, rfl⟩ := hc
    have hst : (swapK sc es vs != 9) = true := hst
    cases e with
    | tup l =>
      simp only [ckE] at he
      have hv := no_stars he
      have h4 : swapK sc es vs = 0 ∨ swapK sc es vs = 2 ∨ swapK sc es vs = 3 := by
        unfold swapK at hst ⊢
        split
        · exact .inl rfl
        · next h0 =>
          rw [if_neg h0] at hst
          split
          · next h1 => rw [if_pos h1] at hst; cases hst
          · next h1 =>
            rw [if_neg h1] at hst
            split at hst
            · split at hst
              · next hh => exact .inr (.inl (by simp only [hh, if_true]))
              · cases hst
            · split at hst
              · next hh => exact .inr (.inr (by simp only [hh, if_true]))
              · cases hst
            · cases hst
      rcases h4 with h4 | h4 | h4
      · exact gen (sw_none hsc hk hv h4)
      · obtain ⟨x, px, y, py, a, b, rfl, rfl, c1, c2, c3, c4⟩ := sw_two hsc hk hv h4
        obtain ⟨i, j, rfl, hi, hj⟩ := tgs_two ht
        exact q_two (ps_par G.calm (by rw [G.xN]; exact G.nd) (by rw [G.xN]; exact hi) (by rw [G.xN]; exact hj) (ne_ix hi hj c3) (by rw [hsc]; exact c1) (by rw [hsc]; exact c2) (snds l he G) c4 hs) (ne_ix hi hj c3)
      · obtain ⟨x, px, y, py, z, pz, a, b, c, rfl, rfl, c1, c2, c3, n1, n2, n3, c4⟩ := sw_three hsc hk hv h4
        obtain ⟨i, j, m, rfl, hi, hj, hm⟩ := tgs_three ht
        exact q_three (ps_par3 G.calm (by rw [G.xN]; exact G.nd) (by rw [G.xN]; exact hi) (by rw [G.xN]; exact hj) (by rw [G.xN]; exact hm) (ne_ix hi hj n1) (ne_ix hi hm n2) (ne_ix hj hm n3) (by rw [hsc]; exact c1) (by rw [hsc]; exact c2) (by rw [hsc]; exact c3) (snds l he G) c4 hs)
    | _ => simp [ckE, isName] at he
  · refine gen ?_
    unfold swappedStores
    cases e' with
    | Tuple a b c => exact absurd ⟨_, _, _, rfl⟩ hc
    | _ => rfl
theorem asg_sub (G : Here Z g C k X E N sc) {o i e : Ex} {t' e' : Expr} {p : Pos} (ht : ckT N sc (.sub o i) t' = true) (he : ckE N sc e e' = true) : PS X (.Assign [t'] e' p) (tStm Z E C g (.asg (.sub o i) e)) := by
  have hg := sndt (.sub o i) ht G (C := C) (E := E)
  simp only [ckT] at ht
  split at ht
  case h_2 => cases ht
  next o' i' pp =>
  refine q_asgt (ps_asg ((snd e he).pe G) hg (sw_nn (e := e') (t := .Subscript o' i' pp) (fun y p h => by cases h) p.line X.env) ?_ rfl)
  unfold swappedStores
  cases e' <;> rfl
mutual
theorem sndS : ∀ (x : Sx) {s : Stmt}, ckS N sc x s = true → ∀ {X : Cx} {E : XK}, Here Z g C k X E N sc → X.env.scope = sc → sc.kind = .function → PS X s (tStm Z E C g x)
  | .asg t e, s, h, X, E, G, hsc, hk => by
    simp only [ckS] at h
    split at h
    case h_2 => cases h
    simp only [Bool.and_eq_true] at h
    obtain ⟨⟨h1, h2⟩, h3⟩ := h
    cases t with
    | name i => exact asg_name G hsc hk h1 h2 h3
    | tup ts => exact asg_tup G hsc hk h1 h2 h3
    | sub o i => exact asg_sub G h1 h2
  | .aug i op e, s, h, X, E, G, hsc, hk => by
    simp only [ckS] at h
    split at h
    case h_2 => cases h
    simp only [Bool.and_eq_true, decide_eq_true_eq] at h
    obtain ⟨⟨⟨h1, h2⟩, h3⟩, h4⟩ := h
    rw [Bop.same_eq h3]
    exact q_aug G h1 h2 ((snd e h4).pe G)
  | .augs o i op e, s, h, X, E, G, hsc, hk => by
    simp only [ckS] at h
    split at h
    case h_2 => cases h
    simp only [Bool.and_eq_true] at h
    obtain ⟨⟨⟨h1, h2⟩, h3⟩, h4⟩ := h
    rw [Bop.same_eq h3]
    exact q_augs G h2 ((snd o h1).pe G) ((snd i h2).pe G) ((snd e h4).pe G)
  | .ex e, s, h, X, E, G, hsc, hk => by
    simp only [ckS] at h
    split at h
    case h_2 => cases h
    simp only [Bool.and_eq_true, Bool.not_eq_true'] at h
    exact q_ex (sw_not h.1 h.2 none) ((snd e h.1).pe G)
  | .ret e, s, h, X, E, G, hsc, hk => by
    simp only [ckS] at h
    split at h
    case h_2 => cases h
    exact q_ret ((snd e h).pe G)
  | .retn, s, h, X, E, G, hsc, hk => by
    simp only [ckS] at h
    split at h
    case h_2 => cases h
    exact q_retn
  | .pass, s, h, X, E, G, hsc, hk => by
    simp only [ckS] at h
    split at h
    case h_2 => cases h
    exact q_pass
  | .brk, s, h, X, E, G, hsc, hk => by
    simp only [ckS] at h
    split at h
    case h_2 => cases h
    exact q_brk
  | .ct, s, h, X, E, G, hsc, hk => by
    simp only [ckS] at h
    split at h
    case h_2 => cases h
    exact q_ct
  | .ite c a b, s, h, X, E, G, hsc, hk => by
    simp only [ckS] at h
    split at h
    case h_2 => cases h
    simp only [Bool.and_eq_true] at h
    exact q_ite ((snd c h.1.1).pt G) (sndB a h.1.2 G hsc hk) (sndB b h.2 G hsc hk)
  | .for t i b, s, h, X, E, G, hsc, hk => by
    simp only [ckS] at h
    split at h
    case h_2 => cases h
    simp only [Bool.and_eq_true] at h
    exact q_for G (sndi i h.1.2 G) (sndt t h.1.1 G) (sndi_set h.1.2 _) (sndB b h.2 G hsc hk)
  | .while c b, s, h, X, E, G, hsc, hk => by
    simp only [ckS] at h
    split at h
    case h_2 => cases h
    simp only [Bool.and_eq_true] at h
    exact q_while G ((snd c h.1).pt G) (sndB b h.2 G hsc hk)
  | .mat e l, s, h, X, E, G, hsc, hk => by
    simp only [ckS] at h
    split at h
    case h_2 => cases h
    simp only [Bool.and_eq_true] at h
    exact q_mat ((snd e h.1).pe G) (sndM l h.2 G hsc hk)
  | .raise _ _, s, h, X, E, G, hsc, hk => ps_never.weak fun D σ H ⟨φ, ρ, M, L, S, o⟩ => by
    simp only [exS] at o
    exact o.elim
theorem sndB : ∀ (x : Sxs) {s : List Stmt}, ckB N sc x s = true → ∀ {X : Cx} {E : XK}, Here Z g C k X E N sc → X.env.scope = sc → sc.kind = .function → PSs X s (tBlk Z E C g x)
  | .nil, s, h, X, E, G, hsc, hk => by
    simp only [ckB, List.isEmpty_iff] at h
    subst h
    exact q_nil
  | .cons a l, [], h, X, E, G, hsc, hk => by simp [ckB] at h
  | .cons a l, s :: ss, h, X, E, G, hsc, hk => by
    simp only [ckB, Bool.and_eq_true] at h
    exact q_cons (sndS a h.1 G hsc hk) (sndB l h.2 G hsc hk)
theorem sndM : ∀ (x : Mcs) {s : List MatchCase}, ckM N sc x s = true → ∀ {X : Cx} {E : XK}, Here Z g C k X E N sc → X.env.scope = sc → sc.kind = .function → PM X s (tM Z E C g x)
  | .nil, s, h, X, E, G, hsc, hk => by
    simp only [ckM, List.isEmpty_iff] at h
    subst h
    exact m_nil
  | .cons p b l, [], h, X, E, G, hsc, hk => by simp [ckM] at h
  | .cons p b l, c :: cs, h, X, E, G, hsc, hk => by
    simp only [ckM] at h
    split at h
    case h_2 => cases h
    next e1 =>
    cases e1
    simp only [Bool.and_eq_true] at h
    exact m_cons G h.1.1 (sndB b h.1.2 G hsc hk) (sndM l h.2 G hsc hk)
end
end
end Rp

namespace Rp
open PySem PySem.Spec PyProof.Rows L2

/-! ## defs -/
/-- what is told of a def by its text alone -/
structure DefOk (g : G) (f : String) (s : Stmt) (d : Def) (N ps : List Str) : Prop where
  sc : FnScope N ps (defScope s)
  ck : ckB N (defScope s) d.body (defBody s) = true
  slots : d.slots = N.length
  pars : d.pars = ps.length
  le : ps.length ≤ N.length
  bind : ∀ (kV doc pm cdv ct : Value) (an : Option Addr) (ks : List String), (ks = [] ∨ ks ∈ g.kw f) → ∀ (t : Shared) (us ws : List Value), us.length + ws.length = ps.length → ws.length = ks.length →
    BindsTo t (PySem.W.fnOf (st f) (st f) (defArgs s) (defBody s) (defScope s) .none kV doc pm an cdv ct) ⟨us, (ks.map st).zip ws⟩ (ps.zip (us ++ ws))
  bindk : ∀ (kV doc pm cdv ct : Value) (an : Option Addr) (n : Nat) (ks : List String) (pl : List Src), g.sh f n ks = some pl → ∀ (t : Shared) (us ws : List Value), us.length = n → ws.length = ks.length →
    ∃ xs, plan pl us ws = some xs ∧ xs.length = ps.length ∧ BindsTo t (PySem.W.fnOf (st f) (st f) (defArgs s) (defBody s) (defScope s) .none kV doc pm an cdv ct) ⟨us, (ks.map st).zip ws⟩ (ps.zip xs)
/-- .. and by what is written -/
structure DefAt (Z : Zo) (mg : Str → Option Value) (g : G) (f : String) (s : Stmt) (d : Def) (N ps : List Str) (fd : FuncData) : Prop where
  ok : DefOk g f s d N ps
  mgf : mg (st f) = some (.ref (Z.ad f))
  kp : PySem.W.keepIn Z.K (.ref (Z.ad f)) = true
  ex : ∃ (oc : Value) (od : Option Addr) (kV doc pm : Value) (an : Option Addr) (cdv ct : Value) (osl : Array (Option Value)),
    fd = PySem.W.fnOf (st f) (st f) (defArgs s) (defBody s) (defScope s) .none kV doc pm an cdv ct ∧ Z.K.lookup (Z.ad f) = some ⟨oc, od, .func fd, osl⟩ ∧ PySem.W.codeIn Z.K cdv (st f) = true
/-- the ends of a call -/
def callEnd (f : F) : R D := match f with
  | .nx _ M' => .ok .non M'
  | .ret v M' => .ok v M'
  | .exc c fs M' _ => .exc c fs M'
  | _ => .stuck
theorem callF_succ (g : G) (n : Nat) (f : String) (args : List D) (M : Hm) {d : Def} (h : g.fn f = some d) : callF g (n + 1) f args M = if args.length = d.pars ∧ d.pars ≤ d.slots then callEnd (exB (callF g n) g d.body (args.map some ++ List.replicate (d.slots - args.length) none) M) else .stuck := by
  conv => lhs; unfold callF
  rw [h]
  simp only
  split
  · generalize exB (callF g n) g d.body (args.map some ++ List.replicate (d.slots - args.length) none) M = x
    cases x <;> rfl
  · rfl
theorem lrep_start {Z : Zo} {φ : List Addr} {H : Hp} {l : List D} {vs : List V} (r : Reps Z φ H l vs) (n : Nat) : Lrep Z φ H (l.map some ++ List.replicate n none) (vs.map some ++ List.replicate n none) := by
  refine ⟨by simp [r.length], fun i d h => ?_⟩
  by_cases hi : i < l.length
  · rw [List.getElem?_append_left (by simpa using hi), List.getElem?_map] at h
    have hd : l[i]? = some d := by
      cases q : l[i]? with
      | none => rw [q] at h; cases h
      | some x => rw [q] at h; cases h; rfl
    obtain ⟨v, hv, rv⟩ := r.get hd
    exact ⟨v, by rw [List.getElem?_append_left (by simp [r.length, hi]), List.getElem?_map, hv]; rfl, rv⟩
  · rw [List.getElem?_append_right (by simpa using hi)] at h
    rw [List.getElem?_replicate] at h
    split at h <;> simp at h
section
variable {Z : Zo} {mg : Str → Option Value} {base : Heap} {g : G}
theorem fk_of {n : Nat} {f : String} {s : Stmt} {d : Def} {N ps : List Str} {fd : FuncData} (D : DefAt Z mg g f s d N ps fd) (hf : g.fn f = some d) (T : Top Z mg base g (callF g n) n) : Fk Z mg base (n + 1) (Z.ad f) fd ps (SpF Z (callF g (n + 1)) f) := by
  obtain ⟨oc, od, kV, doc, pm, an, cdv, ct, osl, rfl, lk, hcd⟩ := D.ex
  have S := D.ok.sc
  refine ⟨fun A outer s0 H args us vs Q E hr gu e0 hb r hl hsp => ?_⟩
  have KX : Z.K.In s0.heap := e0.mod.kin.keeps fun b o e => (e0.bs b o e).1
  have lim : s0.heap.NoLimit := e0.mod.nolimit.keeps fun b o e => (e0.bs b o e).1
  have hkind : ∀ y ∈ ps.zip us, (defScope s).names.lookup y.1 = some .local ∨ ((defScope s).names.lookup y.1 = some .cell ∧ ((cellsFrom (s0.heap.objs.size + 1) (defScope s).names []).lookup y.1).isSome = true) := fun ⟨n, v⟩ hy => by
    rcases S.par n (List.of_mem_zip hy).1 with q | q
    · exact .inl q
    · exact .inr ⟨q, PySem.W.cellsFrom_some _ _ _ (.inl q)⟩
  refine codeAny_call_function hr.depth (KX _ _ lk) rfl S.co S.gen rfl (PySem.W.codeRec_of KX hcd) (hb _ _ _ _ ?_)
  refine wpAny_newFunctionEnv_cells S.kind hkind fun env he s1 x => ?_
  subst he
  refine ⟨lim.keeps x.toInCall.keep, codeAny_func ?_⟩
  obtain ⟨φ, l, M, S0, rl, o⟩ := hsp
  have hlen : l.length = ps.length := by rw [← rl.length]; exact hl
  rw [callF_succ g n f l M hf] at o
  by_cases hc : l.length = d.pars ∧ d.pars ≤ d.slots
  case neg => rw [if_neg hc] at o; exact o.elim
  rw [if_pos hc] at o
  have G : Here Z g (callF g n) n (cxOf (L2.CX Z.P Z.w) Z.P Z.w Z.K mg base N (st f) (defScope s) (Z.ad f) cdv A outer s0 H E) E N (defScope s) :=
    { eP := rfl, eW := rfl, eK := rfl, top := T, calm := rfl, room := hr.deeper _, gu := gu, xN := rfl, nd := S.nd
      rel := fun x => ⟨fun h => h, fun h => h, fun h => .inr h, fun h => h⟩
      own := passes_of rfl
      fnx := fun _ _ => rfl
      pas := passes_call (takes_of rfl rfl rfl rfl) fun _ _ _ _ h => h }
  have I : L2.Inv (cxOf (L2.CX Z.P Z.w) Z.P Z.w Z.K mg base N (st f) (defScope s) (Z.ad f) cdv A outer s0 H E) [] (L2.start N vs) H s1 := inv_start S hr.hd e0 hl r x
  have B := sndB d.body D.ok.ck G rfl S.kind
  have hst : L2.start N vs = vs.map some ++ List.replicate (d.slots - l.length) none := by
    unfold L2.start
    rw [D.ok.slots, rl.length]
  refine wpAny_mono (B.run [] s1 (L2.start N vs) H { nx := fun _ H' => Q .non H', rt := Q } I ⟨φ, _, M, hst ▸ lrep_start rl _, S0, ?_⟩) (fun fl s' hs => ?_) fun e s' hs => hs
  · cases q : exB (callF g n) g d.body (l.map some ++ List.replicate (d.slots - l.length) none) M with
    | nx ρ M' => rw [q] at o; exact fun φ' σ' H' s' S' L' => o φ' .non H' s' S' rfl
    | ret v M' => rw [q] at o; exact o
    | brk ρ M' => rw [q] at o; exact o.elim
    | ct ρ M' => rw [q] at o; exact o.elim
    | exc c fs M' ρ => rw [q] at o; exact o
    | stuck => rw [q] at o; exact o.elim
  · have fin : ∀ {σ' : L2.St} {H' : Hp} {v : V} {u : Value}, L2.Inv (cxOf (L2.CX Z.P Z.w) Z.P Z.w Z.K mg base N (st f) (defScope s) (Z.ad f) cdv A outer s0 H E) [] σ' H' s' → L2.RelV v u → Q v H' → CE outer Z.P Z.w H s0 Q u s' :=
      fun {σ' H' v u} J rv q => ⟨v, H', J.os, J.bare, J.base, J.hok, rv, q⟩
    cases fl with
    | ret u =>
      obtain ⟨v, σ', H', J, rv, q⟩ := hs
      exact fin J rv q
    | next =>
      obtain ⟨σ', H', J, q⟩ := hs
      exact fin (v := V.non) (u := Value.none) J rfl q
    | brk =>
      obtain ⟨_, _, _, q⟩ := hs
      exact False.elim q
    | cont =>
      obtain ⟨_, _, _, q⟩ := hs
      exact False.elim q
/-- all that the text has, at every level -/
structure Text (Z : Zo) (mg : Str → Option Value) (g : G) : Prop where
  fns : ∀ f d, g.fn f = some d → ∃ s N ps fd, DefAt Z mg g f s d N ps fd
  con : ∀ x d, g.con x = some d → ∃ u v, mg (st x) = some u ∧ L2.RelV v u ∧ ∀ φ H, Rep Z φ H d v
  blt : ∀ n ∈ BLT, mg (st n) = none
theorem top_of (T : Text Z mg g) : ∀ n, Top Z mg base g (callF g n) n
  | 0 => by
    refine ⟨fun f d h => ?_, T.con, T.blt⟩
    obtain ⟨s, N, ps, fd, D⟩ := T.fns f d h
    refine ⟨fd, ps, D.mgf, D.kp, ?_, ?_, fun l M _ => rfl, ⟨fun A outer s H args us vs Q E hr gu e0 hb r hl ⟨φ, l, M, S0, rl, o⟩ => o.elim⟩⟩
    all_goals obtain ⟨oc, od, kV, doc, pm, an, cdv, ct, osl, rfl, lk, hcd⟩ := D.ex
    · exact D.ok.bind kV doc pm cdv ct an
    · exact D.ok.bindk kV doc pm cdv ct an
  | n + 1 => by
    refine ⟨fun f d h => ?_, T.con, T.blt⟩
    obtain ⟨s, N, ps, fd, D⟩ := T.fns f d h
    refine ⟨fd, ps, D.mgf, D.kp, ?_, ?_, fun l M hl => ?_, fk_of D h (top_of T n)⟩
    · obtain ⟨oc, od, kV, doc, pm, an, cdv, ct, osl, rfl, lk, hcd⟩ := D.ex
      exact D.ok.bind kV doc pm cdv ct an
    · obtain ⟨oc, od, kV, doc, pm, an, cdv, ct, osl, rfl, lk, hcd⟩ := D.ex
      exact D.ok.bindk kV doc pm cdv ct an
    · rw [callF_succ g n f l M h, if_neg fun z => hl (by rw [z.1, D.ok.pars])]
end
end Rp

namespace Rp
open PySem PySem.Spec PyProof.Rows L2

theorem len0 {α : Type} {l : List α} (h : l.length = 0) : l = [] := List.length_eq_zero_iff.mp h
theorem lenS {α : Type} {l : List α} {n : Nat} (h : l.length = n + 1) : ∃ a r, l = a :: r ∧ r.length = n := by
  cases l with
  | nil => cases h
  | cons a r => exact ⟨a, r, rfl, by simpa using h⟩
theorem len1 {α : Type} {l : List α} (h : l.length = 1) : ∃ a, l = [a] := by obtain ⟨a, r, e, h'⟩ := lenS h; subst e; obtain rfl := len0 h'; exact ⟨a, rfl⟩
theorem len2 {α : Type} {l : List α} (h : l.length = 2) : ∃ a b, l = [a, b] := by obtain ⟨a, r, e', h'⟩ := lenS h; subst e'; obtain ⟨b, rfl⟩ := len1 h'; exact ⟨a, b, rfl⟩
theorem len3 {α : Type} {l : List α} (h : l.length = 3) : ∃ a b c, l = [a, b, c] := by obtain ⟨a, r, e', h'⟩ := lenS h; subst e'; obtain ⟨b, c, rfl⟩ := len2 h'; exact ⟨a, b, c, rfl⟩
theorem len4 {α : Type} {l : List α} (h : l.length = 4) : ∃ a b c d, l = [a, b, c, d] := by obtain ⟨a, r, e', h'⟩ := lenS h; subst e'; obtain ⟨b, c, d, rfl⟩ := len3 h'; exact ⟨a, b, c, d, rfl⟩
theorem len5 {α : Type} {l : List α} (h : l.length = 5) : ∃ a b c d e, l = [a, b, c, d, e] := by obtain ⟨a, r, e', h'⟩ := lenS h; subst e'; obtain ⟨b, c, d, e, rfl⟩ := len4 h'; exact ⟨a, b, c, d, e, rfl⟩
theorem len6 {α : Type} {l : List α} (h : l.length = 6) : ∃ a b c d e f, l = [a, b, c, d, e, f] := by obtain ⟨a, r, e', h'⟩ := lenS h; subst e'; obtain ⟨b, c, d, e, f, rfl⟩ := len5 h'; exact ⟨a, b, c, d, e, f, rfl⟩
/-! ## the law's end -/
def AD (K : PySem.W.Frag) (f : String) : Addr := match PySem.W.nsIn K mainGlobals (st f) with
  | some (some (.ref a)) => a
  | _ => 0
theorem reps_ints {Z : Zo} {φ : List Addr} {H : Hp} : ∀ ns : List Int, Reps Z φ H (ns.map D.int) (ns.map V.int)
  | [] => rfl
  | n :: ns => ⟨.int n, _, rfl, rfl, reps_ints ns⟩
theorem sql_rol {Z : Zo} {H : Hp} (hO : Only H) {a : Addr} {ns : List Int} (h : SqL Z.K H a (ns.map V.int)) : Rep Z [] H (.rol (ns.map D.int)) (.ref a) := by
  refine ⟨a, ns.map V.int, rfl, ?_, reps_ints ns⟩
  rcases h with h | h
  · rcases h with h | ⟨o, h⟩
    · rcases hO a with z | ⟨o, xs, z⟩
      · rw [z] at h; cases h
      · rw [z] at h; cases h
    · exact .inl ⟨o, h⟩
  · exact .inr (.inr h)
section
variable {Z : Zo} {mg mb : Str → Option Value} {g : G}
theorem law_end {k : Nat} {fa a : Addr} {fd : FuncData} {x : Str} {C : Cl} {f : String} {s₁ : Shared} {vs : List Value} {ns : List Int}
    (KX : Z.K.In s₁.heap) (hns : s₁.heap.Ns mainGlobals mg) (hb : s₁.heap.Ns builtinsNs mb) (hbb : ∀ x : Str, x ≠ "__name__" → mb x = bootBuiltins x) (hlim : s₁.heap.NoLimit) (hg : s₁.gens = #[])
    (ha : s₁.heap.get? a = some { cls := .type "list", data := .seq vs.toArray }) (hi : IntsAre vs ns) (hl : ns.length ≤ sizeLine) (hr : Room k callerA)
    (F : ∀ base : Heap, Fk Z mg base k fa fd [x] (SpF Z C f)) (hbind : ∀ (s : Shared) (u : Value), BindsTo s fd ⟨[u], []⟩ [(x, u)])
    (hlaw : ∃ M, C f [.rol (ns.map D.int)] [] = .ok (.bl true) M) :
    codeAny (model Z.P Z.w) callerA (.call (.ref fa) ⟨[.ref a], []⟩) (fun r s' => r = .ok (.ret (.bool true)) ∧ OldK s₁.heap s'.heap ∧ s'.os = s₁.os ∧ AllBare s'.gens) s₁ := by
  have rv := vals_ints hi
  have lenV := hi.length
  have core : ∀ H : Hp, Only H → SqL Z.K H a (ns.map V.int) → HOk Z.P Z.w H s₁.heap → (∀ b, H b ≠ none → b = a) → (H a ≠ none → Z.K.lookup a = none) →
      codeAny (model Z.P Z.w) callerA (.call (.ref fa) ⟨[.ref a], []⟩) (fun r s' => r = .ok (.ret (.bool true)) ∧ OldK s₁.heap s'.heap ∧ s'.os = s₁.os ∧ AllBare s'.gens) s₁ := by
    intro H hO hS hok hA hK
    have noA : ∀ {b : Addr} {o : Obj} {es : Array DictEntry} {ep : Nat}, s₁.heap.get? b = some o → o.data = .dict es ep → H b = none := fun {b o es ep} e d => by
      cases q : H b with
      | none => rfl
      | some u =>
        obtain rfl : b = a := hA b (by rw [q]; simp)
        rw [ha] at e; cases e
        exact absurd (show Data.seq vs.toArray _ = Data.dict es ep from d) (by simp)
    have nsK : ∀ {b : Addr} {m : Str → Option Value}, s₁.heap.Ns b m → (hidT s₁.heap H).Ns b m := fun {b m} ⟨o, es, ep, e, d, r⟩ => ⟨o, es, ep, hidT_get e (noA e d), d, r⟩
    have hKb : Z.K.In (hidT s₁.heap H) := fun b o e => hidT_get (KX b o e) (by
      cases q : H b with
      | none => rfl
      | some u =>
        obtain rfl : b = a := hA b (by rw [q]; simp)
        rw [hK (by rw [q]; simp)] at e; cases e)
    have hM : Mod Z.K mg (hidT s₁.heap H) := ⟨hKb, nsK hns, ⟨mb, nsK hb, hbb⟩, let ⟨mc, h1, h2⟩ := hlim; ⟨mc, nsK h1, h2⟩⟩
    have e0 : Env0 Z.P Z.w Z.K mg (hidT s₁.heap H) callerA [] s₁ H := ⟨rfl, hM, fun b o e => of_hidT e, Nat.le_of_eq (hidT_size _ _), trivial, fun b hb => absurd (show b ∈ ([] : List Addr) from hb) (by simp), hok, .of_eq hg⟩
    obtain ⟨M, hM⟩ := hlaw
    have hsp : SpF Z C f [.ref a] H (fun v _ => v = .bl true) fun _ _ _ => False := by
      refine ⟨[], [.rol (ns.map D.int)], [], ⟨rfl, List.nodup_nil, fun n o e => by cases e⟩, ⟨_, _, rfl, sql_rol hO hS, rfl⟩, ?_⟩
      rw [hM]
      exact fun φ' v H' s S r => r
    refine codeAny_mono ((F _).run callerA [] s₁ H ⟨[.ref a], []⟩ [.ref a] [.ref a] _ _ hr rfl e0 (hbind s₁ (.ref a)) (.cons rfl .nil) rfl hsp) fun r s' h => ?_
    cases r with
    | error e =>
      obtain ⟨_, _, _, _, _, _, _, _, _, _, _, _, z⟩ := h
      exact z.elim
    | ok fl =>
      cases fl with
      | next => exact False.elim h
      | brk => exact False.elim h
      | cont => exact False.elim h
      | ret u =>
        obtain ⟨v, H', os, bare, un, hok', r', q⟩ := h
        obtain rfl : v = .bl true := q
        obtain rfl : u = Value.bool true := r'
        refine ⟨rfl, OldK.of_keep fun b o e => ?_, os, bare⟩
        cases q : H b with
        | none => exact un.keep b o e q (by intro z; exact absurd (show b ∈ ([] : List Addr) from z) (by simp)) (by simp)
        | some u =>
          rcases hO b with z | ⟨ob, xs, z⟩
          · rw [q] at z; cases z
          · obtain ⟨e1, _⟩ := hok b _ z
            obtain ⟨e2, _⟩ := hok' b _ (un.frzs b ob _ z)
            rw [e] at e1; cases e1
            exact e2
  cases hk : Z.K.lookup a with
  | some o =>
    have e := KX a o hk
    rw [ha] at e
    cases e
    exact core (fun _ => none) (fun _ => .inl rfl) (.inr ⟨_, vs.toArray, _, hk, rfl, rfl, rfl, by rw [List.size_toArray, lenV]; exact hl, by simpa using rv⟩) (fun b u z => by have z' : (none : Option HO) = some u := z; cases z') (fun b z => absurd rfl z) fun z => absurd rfl z
  | none =>
    refine core (fun b => if b = a then some (.frz { cls := .type "list", data := .seq vs.toArray } (.lst (ns.map V.int))) else none) (fun b => ?_) (.inl (.inr ⟨{ cls := .type "list", data := .seq vs.toArray }, if_pos rfl⟩)) (fun b u z => ?_) (fun b z => ?_) fun _ => hk
    · by_cases hb : b = a
      · exact .inr ⟨_, _, if_pos hb⟩
      · exact .inl (if_neg hb)
    · by_cases hb : b = a
      · have z' := (if_pos hb).symm.trans z
        cases z'
        subst hb
        exact ⟨ha, by rw [List.length_map]; exact hl, vs, _, rv, ha⟩
      · have z' := (if_neg hb).symm.trans z
        cases z'
    · by_cases hb : b = a
      · exact hb
      · exact absurd (if_neg hb) z
end
/-! ## a text, by what is written -/
theorem rpN {α : Type} {p : α → Prop} : ∀ q ∈ ([] : List α), p q := fun _ h => by cases h
theorem rpC {α : Type} {p : α → Prop} {a : α} {l : List α} (h : p a) (t : ∀ q ∈ l, p q) : ∀ q ∈ a :: l, p q := fun q hq => by
  rcases List.mem_cons.mp hq with e | e
  · subst e; exact h
  · exact t q e
theorem lookup_mem {α β : Type} [BEq α] [LawfulBEq α] : ∀ {l : List (α × β)} {a : α} {b : β}, l.lookup a = some b → (a, b) ∈ l
  | [], a, b, h => by cases h
  | (x, y) :: l, a, b, h => by
    rw [List.lookup_cons] at h
    split at h
    · next hh =>
      have : a = x := by simpa using hh
      subst this
      cases h
      exact List.mem_cons_self ..
    · exact List.mem_cons_of_mem _ (lookup_mem h)
section
variable {P : Program} {w : World} {K : PySem.W.Frag} {mg : Str → Option Value} {h : Heap} {g : G}
theorem DefAt.of {f : String} {s : Stmt} {d : Def} {N ps : List Str} {a : Addr} {oc kV doc pm cdv ct : Value} {od an : Option Addr} {osl : Array (Option Value)} (KX : K.In h) (G : h.Ns mainGlobals mg) (ok : DefOk g f s d N ps)
    (a1 : PySem.W.nsIn K mainGlobals (st f) = some (some (.ref a))) (l1 : K.lookup a = some ⟨oc, od, .func (PySem.W.fnOf (st f) (st f) (defArgs s) (defBody s) (defScope s) .none kV doc pm an cdv ct), osl⟩)
    (c1 : PySem.W.codeIn K cdv (st f) = true) (k1 : PySem.W.keepIn K (.ref a) = true) : ∃ s N ps fd, DefAt ⟨P, w, K, AD K⟩ mg g f s d N ps fd := by
  have e : AD K f = a := by unfold AD; rw [a1]
  exact ⟨s, N, ps, _, ok, by show mg (st f) = some (.ref (AD K f)); rw [e]; exact PySem.W.mg_of KX G a1, by show PySem.W.keepIn K (.ref (AD K f)) = true; rw [e]; exact k1, oc, od, kV, doc, pm, an, cdv, ct, osl, rfl, by show K.lookup (AD K f) = _; rw [e]; exact l1, c1⟩
theorem lookup_all {α : Type} {p : String → α → Prop} : ∀ {l : List (String × α)}, (∀ q ∈ l, p q.1 q.2) → ∀ x d, l.lookup x = some d → p x d
  | [], _, x, d, h => by cases h
  | (y, e) :: l, H, x, d, h => by
    rw [List.lookup_cons] at h
    split at h
    · next hh =>
      have e1 : x = y := by simpa using hh
      subst e1
      cases h
      exact H _ (List.mem_cons_self ..)
    · exact lookup_all (fun q hq => H q (List.mem_cons_of_mem _ hq)) x d h
/-- a name of the top that stands for a value -/
def ConAt (Z : Zo) (mg : Str → Option Value) (x : String) (d : D) : Prop := ∃ u v, mg (st x) = some u ∧ L2.RelV v u ∧ ∀ φ H, Rep Z φ H d v
theorem ConAt.int {x : String} {i : Int} {t : Nat} (KX : K.In h) (G : h.Ns mainGlobals mg) (a1 : PySem.W.nsIn K mainGlobals (st x) = some (some (.int i t))) : ConAt ⟨P, w, K, AD K⟩ mg x (.int i) :=
  ⟨_, .int i, PySem.W.mg_of KX G a1, ⟨t, rfl⟩, fun _ _ => rfl⟩
theorem ConAt.bl {x : String} {b : Bool} (KX : K.In h) (G : h.Ns mainGlobals mg) (a1 : PySem.W.nsIn K mainGlobals (st x) = some (some (.bool b))) : ConAt ⟨P, w, K, AD K⟩ mg x (.bl b) :=
  ⟨_, .bl b, PySem.W.mg_of KX G a1, rfl, fun _ _ => rfl⟩
theorem ConAt.str {x : String} {z : Str} {s : S} {t : Nat} (KX : K.In h) (G : h.Ns mainGlobals mg) (a1 : PySem.W.nsIn K mainGlobals (st x) = some (some (.str z t))) (e : z.cps.toList = s) : ConAt ⟨P, w, K, AD K⟩ mg x (.str s) :=
  ⟨_, .str z, PySem.W.mg_of KX G a1, ⟨t, rfl⟩, fun _ _ => by subst e; show V.str z = V.str _; rw [strTo]⟩
def conB : Value → D → Bool
  | .str z _, .str s => z.cps.toList == s
  | .int i _, .int j => i == j
  | .bool i, .bl j => i == j
  | _, _ => false
def conBs : List Value → List D → Bool
  | [], [] => true
  | u :: us, d :: ds => conB u d && conBs us ds
  | _, _ => false
theorem conB_ok {Z : Zo} {u : Value} {d : D} (h : conB u d = true) : ∃ v, L2.RelV v u ∧ ∀ φ H, Rep Z φ H d v := by
  unfold conB at h
  split at h
  · next z t s => exact ⟨.str z, ⟨t, rfl⟩, fun _ _ => by have := eq_of_beq h; subst this; show V.str z = V.str _; rw [strTo]⟩
  · next i t j => exact ⟨.int i, ⟨t, rfl⟩, fun _ _ => by have := eq_of_beq h; subst this; rfl⟩
  · next i j => exact ⟨.bl i, rfl, fun _ _ => by have := eq_of_beq h; subst this; rfl⟩
  · cases h
theorem conBs_ok {Z : Zo} : ∀ {us : List Value} {ds : List D}, conBs us ds = true → ∃ vs, L2.Vals vs us ∧ ∀ φ H, Reps Z φ H ds vs
  | [], [], _ => ⟨[], .nil, fun _ _ => rfl⟩
  | u :: us, d :: ds, h => by
    simp only [conBs, Bool.and_eq_true] at h
    obtain ⟨v, r, q⟩ := conB_ok (Z := Z) h.1
    obtain ⟨vs, rs, qs⟩ := conBs_ok (Z := Z) h.2
    exact ⟨v :: vs, .cons r rs, fun φ H => ⟨v, vs, rfl, q φ H, qs φ H⟩⟩
  | [], _ :: _, h => by cases h
  | _ :: _, [], h => by cases h
/-- a name of the top that stands for a tuple -/
theorem ConAt.tup {x : String} {p : Addr} {od : Option Addr} {its : Array Value} {k : Nat} {osl : Array (Option Value)} {ds : List D} (KX : K.In h) (G : h.Ns mainGlobals mg) (a1 : PySem.W.nsIn K mainGlobals (st x) = some (some (.ref p)))
    (l1 : K.lookup p = some ⟨.type "tuple", od, .seq its k, osl⟩) (z : decide (its.size ≤ sizeLine) = true) (hv : conBs its.toList ds = true) : ConAt ⟨P, w, K, AD K⟩ mg x (.tup ds) := by
  obtain ⟨vs, r, q⟩ := conBs_ok (Z := ⟨P, w, K, AD K⟩) hv
  exact ⟨_, .ref p, PySem.W.mg_of KX G a1, rfl, fun φ H => ⟨p, vs, rfl, .inr (.inr ⟨_, its, k, l1, rfl, rfl, of_decide_eq_true z, r⟩), q φ H⟩⟩
/-- a name of the top that stands for a dict with two texts as keys -/
theorem ConAt.rod2 {x k1 k2 : String} {p : Addr} {es : Array DictEntry} {n : Nat} {u1 u2 : Value} {d1 d2 : D} {s1 s2 : S} (KX : K.In h) (G : h.Ns mainGlobals mg) (a1 : PySem.W.nsIn K mainGlobals (st x) = some (some (.ref p)))
    (l1 : K.lookup p = some ⟨.type "dict", none, .dict es n, #[]⟩) (kl : PySem.W.KeysLit w.params es.toList) (e1 : PySem.W.nsIn K p (st k1) = some (some u1)) (e2 : PySem.W.nsIn K p (st k2) = some (some u2))
    (c1 : conB u1 d1 = true) (c2 : conB u2 d2 = true) (h1 : (st k1).cps.toList = s1) (h2 : (st k2).cps.toList = s2) : ConAt ⟨P, w, K, AD K⟩ mg x (.rod [s1, s2] [d1, d2]) := by
  obtain ⟨v1, r1, q1⟩ := conB_ok (Z := ⟨P, w, K, AD K⟩) c1
  obtain ⟨v2, r2, q2⟩ := conB_ok (Z := ⟨P, w, K, AD K⟩) c2
  have f1 : (⟨s1.toArray⟩ : Str) = st k1 := by rw [← h1]
  have f2 : (⟨s2.toArray⟩ : Str) = st k2 := by rw [← h2]
  exact ⟨_, .ref p, PySem.W.mg_of KX G a1, rfl, fun φ H => ⟨p, [v1, v2], rfl, ⟨⟨es, n, u1, l1, kl, by rw [f1]; exact e1, r1⟩, ⟨es, n, u2, l1, kl, by rw [f2]; exact e2, r2⟩, trivial⟩, ⟨v1, _, rfl, q1 φ H, v2, _, rfl, q2 φ H, rfl⟩⟩⟩
/-- a name of the top that stands for {True: .., False: ..} -/
theorem ConAt.bod {x : String} {p : Addr} {es : Array DictEntry} {n : Nat} {u1 u2 : Value} {d1 d2 : D} (KX : K.In h) (G : h.Ns mainGlobals mg) (a1 : PySem.W.nsIn K mainGlobals (st x) = some (some (.ref p)))
    (l1 : K.lookup p = some ⟨.type "dict", none, .dict es n, #[]⟩) (e : es.toList = [⟨PpSet.hB true, .bool true, u1⟩, ⟨PpSet.hB false, .bool false, u2⟩])
    (c1 : conB u1 d1 = true) (c2 : conB u2 d2 = true) (hs : (p == sysModules) = false) : ConAt ⟨P, w, K, AD K⟩ mg x (.bod d1 d2) := by
  obtain ⟨v1, r1, q1⟩ := conB_ok (Z := ⟨P, w, K, AD K⟩) c1
  obtain ⟨v2, r2, q2⟩ := conB_ok (Z := ⟨P, w, K, AD K⟩) c2
  exact ⟨_, .ref p, PySem.W.mg_of KX G a1, rfl, fun φ H => ⟨p, v1, v2, rfl, ⟨es, n, u1, u2, l1, e, r1, r2, hs⟩, q1 φ H, q2 φ H⟩⟩
theorem ConAt.loose {x : String} {i : Int} {q : Program} {lv : List (Str × PySem.W.WData)} (X : PySem.W.XL q lv mg h) (m : (st x, PySem.W.WData.int i) ∈ lv) : ConAt ⟨P, w, K, AD K⟩ mg x (.int i) := by
  obtain ⟨v, e, r⟩ := X.2.val _ m
  cases r with
  | int => exact ⟨_, .int i, e, ⟨_, rfl⟩, fun _ _ => rfl⟩
end
/-- the goal that k_head leaves -/
theorem walk_g {l : PySem.W.OpenLaw} {n k : Nat} {q : Program} {loose : List Str} {XP : (Str → Option Value) → Heap → Prop} {YP : World → Heap → Prop} {d : DefRec} {K : Params → PySem.W.Frag} {f : String} {dd : Def} {g : G}
    (hn : l.most = some n) (hn2 : n ≤ sizeLine) (hdf : d.params.defaults = []) (hr : Room k callerA) (hname : d.name = st f)
    (hY : ∀ (w : World) (h : Heap), YP w h → (K w.params).In h) (hf : g.fn f = some dd)
    (T : ∀ (w : World) (mg : Str → Option Value) (h : Heap), (K w.params).In h → h.Ns mainGlobals mg → XP mg h → Text ⟨l.prog, w, K w.params, AD (K w.params)⟩ mg g)
    (hp1 : dd.pars = 1)
    (hlaw : ∀ ns : List Int, ns.length ≤ n → ∃ M, callF g k f [.rol (ns.map D.int)] [] = .ok (.bl true) M) :
    PySem.W.WalkO q loose XP YP l.row.toRowW d [] (fun f vs => PySem.call f vs) := by
  refine Att.attach_call hn hdf fun w s₀ s₁ mg mb fa o pm cd doc a vs ns G Y ho hd hcd hmg hobj hints hlen hg => ?_
  have KX := hY w _ Y
  have TT := T w mg _ KX G.T.g G.X
  obtain ⟨s, N, ps, fd, D⟩ := TT.fns f dd hf
  obtain ⟨x, rfl⟩ : ∃ x, ps = [x] := len1 (by rw [← D.ok.pars, hp1])
  have hfa : fa = AD (K w.params) f := by
    have e := D.mgf
    rw [← hname, hmg] at e
    cases e; rfl
  subst hfa
  have key : ∀ base : Heap, Fk ⟨l.prog, w, K w.params, AD (K w.params)⟩ mg base k (AD (K w.params) f) fd [x] (SpF ⟨l.prog, w, K w.params, AD (K w.params)⟩ (callF g k) f) := fun base => by
    cases k with
    | zero => exact ⟨fun A outer s H args us vs Q E hr gu e0 hb r hl ⟨φ, l, M, S0, rl, o⟩ => o.elim⟩
    | succ k => exact fk_of D hf (top_of TT k)
  refine law_end (Z := ⟨l.prog, w, K w.params, AD (K w.params)⟩) KX G.T.g G.T.b G.T.builtins G.T.nolimit hg hobj hints (Nat.le_trans hlen hn2) hr key (fun s u => ?_) (hlaw ns hlen)
  obtain ⟨oc, od, kV, doc, pm, an, cdv, ct, osl, rfl, lk, hcd⟩ := D.ex
  exact D.ok.bind kV doc pm cdv ct an [] (.inl rfl) s [u] [] rfl rfl
end Rp

namespace Lw
open PySem PySem.Spec PyProof.Rows L2 Rp
def topS (i : Nat) : Stmt := PySem.Challenge.pw_retryplans_k01_plans_among_any_values.main.body.getD i (.Pass ⟨0, 0, 0, 0⟩)
def d_is_step : Def := ⟨2, 1,
 (.cons (.ret (.and (.isi (.var 0) ["str"]) (.and (.cmp2 .le .le (.int 1) (.bi .len (.cons (.var 0) .nil)) (.glo "MOST_LETTERS")) (.bi .all (.cons (.lc (.cmp .in (.var 1) (.glo "LETTERS")) (.name 1) (.ex (.var 0)) .none [1]) .nil)))))
 .nil)⟩
def d_is_integer : Def := ⟨1, 1,
 (.cons (.ret (.and (.isi (.var 0) ["int"]) (.not (.isi (.var 0) ["bool"]))))
 .nil)⟩
def d_is_times : Def := ⟨1, 1,
 (.cons (.ret (.and (.call "is_integer" (.cons (.var 0) .nil) [] .nil) (.cmp2 .le .le (.int 1) (.var 0) (.glo "MOST_TIMES"))))
 .nil)⟩
def d_inner_values : Def := ⟨2, 1,
 (.cons (.ite (.or (.not (.cmp2 .le .le (.int 2) (.bi .len (.cons (.var 0) .nil)) (.int 3))) (.not (.isi (.sub (.var 0) (.int 0)) ["str"]))) (.cons (.ret .non)
 .nil) .nil)
 (.cons (.mat (.sub (.var 0) (.int 0)) (.cons [[110, 111, 116]] (.cons (.ret (.ife (.cmp .eq (.bi .len (.cons (.var 0) .nil)) (.int 2)) (.sl (.var 0) (.some (.int 1)) .none) .non))
 .nil) (.cons [[114, 101, 116, 114, 121], [114, 101, 112, 101, 97, 116]] (.cons (.ret (.ife (.and (.cmp .eq (.bi .len (.cons (.var 0) .nil)) (.int 3)) (.call "is_times" (.cons (.sub (.var 0) (.int 2)) .nil) [] .nil)) (.sl (.var 0) (.some (.int 1)) (.some (.int 2))) .non))
 .nil) (.cons [[97, 108, 108], [97, 110, 121]] (.cons (.asg (.name 1) (.and (.cmp .eq (.bi .len (.cons (.var 0) .nil)) (.int 2)) (.and (.isi (.sub (.var 0) (.int 1)) ["tuple"]) (.cmp .ge (.bi .len (.cons (.sub (.var 0) (.int 1)) .nil)) (.int 2)))))
 (.cons (.ret (.ife (.var 1) (.sub (.var 0) (.int 1)) .non))
 .nil)) .nil))))
 (.cons (.ret .non)
 .nil)))⟩
def d_written_steps : Def := ⟨6, 2,
 (.cons (.ite (.call "is_step" (.cons (.var 0) .nil) [] .nil) (.cons (.ret (.lst (.cons (.var 0) .nil)))
 .nil) .nil)
 (.cons (.asg (.name 2) (.ife (.and (.isi (.var 0) ["tuple"]) (.cmp .gt (.var 1) (.int 1))) (.call "inner_values" (.cons (.var 0) .nil) [] .nil) .non))
 (.cons (.ite (.cmp .is (.var 2) .non) (.cons (.ret .non)
 .nil) .nil)
 (.cons (.asg (.name 3) (.lst .nil))
 (.cons (.for (.name 4) (.ex (.var 2)) (.cons (.asg (.name 5) (.call "written_steps" (.cons (.var 4) (.cons (.bin .sub (.var 1) (.int 1)) .nil)) [] .nil))
 (.cons (.ite (.cmp .is (.var 5) .non) (.cons (.ret .non)
 .nil) .nil)
 (.cons (.ex (.me .extend (.var 3) (.cons (.var 5) .nil)))
 (.cons (.ite (.cmp .gt (.bi .len (.cons (.var 3) .nil)) (.glo "MOST_WRITTEN")) (.cons (.ret .non)
 .nil) .nil)
 .nil)))))
 (.cons (.ret (.var 3))
 .nil))))))⟩
def d_is_plan : Def := ⟨2, 1,
 (.cons (.asg (.name 1) (.call "written_steps" (.cons (.var 0) (.cons (.glo "MOST_NESTED") .nil)) [] .nil))
 (.cons (.ret (.and (.cmp .isnot (.var 1) .non) (.cmp .le (.bi .len (.cons (.bi .set (.cons (.var 1) .nil)) .nil)) (.glo "MOST_STEPS"))))
 .nil))⟩
def d__law_cell : Def := ⟨4, 2,
 (.cons (.ite (.cmp .lt (.var 1) (.bi .len (.cons (.var 0) .nil))) (.cons (.ret (.sub (.var 0) (.var 1)))
 .nil) .nil)
 (.cons (.asg (.name 2) (.bin .mod (.bin .mul (.int 50021) (.bin .add (.bin .add (.bin .mul (.var 1) (.var 1)) (.bin .mul (.int 13) (.var 1))) (.int 7))) (.int 2147482949)))
 (.cons (.for (.name 3) (.ex (.sl (.var 0) .none (.some (.int 3)))) (.cons (.asg (.name 2) (.bin .mod (.bin .add (.bin .mul (.var 2) (.int 38011)) (.var 3)) (.int 2147482949)))
 .nil))
 (.cons (.ret (.var 2))
 .nil))))⟩
def d__law_pool : Def := ⟨2, 1,
 (.cons (.asg (.name 1) (.ife (.or (.cmp .lt (.var 0) (.int 0)) (.cmp .ge (.var 0) (.bin .pow (.int 10) (.int 18)))) (.bi .abs (.cons (.var 0) .nil)) (.int 0)))
 (.cons (.ret (.lst (.cons (.bin .mod (.var 0) (.int 2147482949)) (.cons (.var 1) (.cons (.int 0) .nil)))))
 .nil))⟩
def d__law_draw : Def := ⟨4, 2,
 (.cons (.asg (.sub (.var 0) (.int 2)) (.bin .add (.sub (.var 0) (.int 2)) (.int 1)))
 (.cons (.asg (.name 2) (.sub (.var 0) (.int 0)))
 (.cons (.asg (.sub (.var 0) (.int 0)) (.bin .mod (.bin .add (.bin .add (.bin .mul (.var 2) (.bin .add (.bin .mod (.var 2) (.int 44017)) (.int 29009))) (.bin .mul (.int 60013) (.sub (.var 0) (.int 2)))) (.int 17)) (.int 2147482949)))
 (.cons (.ite (.cmp .gt (.sub (.var 0) (.int 1)) (.int 0)) (.cons (.asg (.tup (.cons (.sub (.var 0) (.int 1)) (.cons (.name 3) .nil))) (.bi .divmod (.cons (.sub (.var 0) (.int 1)) (.cons (.var 1) .nil))))
 (.cons (.ret (.var 3))
 .nil)) .nil)
 (.cons (.ret (.bin .mod (.bin .fdiv (.sub (.var 0) (.int 0)) (.int 32)) (.var 1)))
 .nil)))))⟩
def d__law_words : Def := ⟨12, 2,
 (.cons (.asg (.name 2) (.lst (.cons (.str [97, 108, 108]) (.cons (.str [97, 110, 121]) (.cons (.str [110, 111, 116]) (.cons (.str [114, 101, 116, 114, 121]) (.cons (.str [114, 101, 112, 101, 97, 116]) (.cons (.str [112, 108, 97, 110]) (.cons (.str [111, 107]) (.cons (.str [102, 97, 105, 108]) .nil))))))))))
 (.cons (.asg (.name 3) (.sub (.lst (.cons (.int 1) (.cons (.int 3) (.cons (.int 5) (.cons (.int 7) .nil))))) (.call "_law_draw" (.cons (.var 0) (.cons (.int 4) .nil)) [] .nil)))
 (.cons (.asg (.name 4) (.call "_law_draw" (.cons (.var 0) (.cons (.int 8) .nil)) [] .nil))
 (.cons (.ite (.cmp .eq (.call "_law_draw" (.cons (.var 0) (.cons (.int 4) .nil)) [] .nil) (.int 1)) (.cons (.ret (.bi .sorted (.cons (.lc (.sub (.var 2) (.bin .mod (.bin .add (.var 4) (.bin .mul (.var 3) (.var 10))) (.int 8))) (.name 10) (.rng1 (.var 1)) .none [10]) .nil)))
 .nil) .nil)
 (.cons (.asg (.name 5) (.str [97, 98, 99, 100, 101, 102, 103, 104, 105, 106, 107, 108, 109, 110, 111, 112, 113, 114, 115, 116, 117, 118, 119, 120, 121, 122]))
 (.cons (.asg (.name 6) (.me .join (.str []) (.cons (.lc (.sub (.var 5) (.call "_law_draw" (.cons (.var 0) (.cons (.int 26) .nil)) [] .nil)) (.name 10) (.rng1 (.call "_law_draw" (.cons (.var 0) (.cons (.int 6) .nil)) [] .nil)) .none [10]) .nil)))
 (.cons (.asg (.tup (.cons (.name 8) (.cons (.name 9) .nil))) (.tup (.cons (.call "_law_draw" (.cons (.var 0) (.cons (.bin .add (.bi .len (.cons (.var 6) .nil)) (.int 1)) .nil)) [] .nil) (.cons (.call "_law_draw" (.cons (.var 0) (.cons (.int 26) .nil)) [] .nil) .nil))))
 (.cons (.asg (.name 7) (.lc (.sub (.var 5) (.bin .mod (.bin .add (.var 9) (.bin .mul (.var 3) (.var 10))) (.int 26))) (.name 10) (.rng1 (.var 1)) .none [10]))
 (.cons (.ret (.bi .sorted (.cons (.lc (.bin .add (.bin .add (.sl (.var 6) .none (.some (.var 8))) (.var 11)) (.sl (.var 6) (.some (.var 8)) .none)) (.name 11) (.ex (.var 7)) .none [11]) .nil)))
 .nil)))))))))⟩
def d__law_often : Def := ⟨2, 2,
 (.cons (.ite (.cmp .lt (.var 1) (.int 99)) (.cons (.ret (.bin .add (.int 1) (.call "_law_draw" (.cons (.var 0) (.cons (.var 1) .nil)) [] .nil)))
 .nil) .nil)
 (.cons (.ret (.sub (.lst (.cons (.int 1) (.cons (.int 2) (.cons (.int 3) (.cons (.bin .pow (.int 10) (.int 30)) (.cons (.bin .pow (.int 10) (.int 20)) (.cons (.bin .add (.int 1) (.call "_law_draw" (.cons (.var 0) (.cons (.bin .pow (.int 10) (.int 30)) .nil)) [] .nil)) (.cons (.int 7) (.cons (.bin .add (.int 1) (.call "_law_draw" (.cons (.var 0) (.cons (.int 40) .nil)) [] .nil)) .nil))))))))) (.call "_law_draw" (.cons (.var 0) (.cons (.int 8) .nil)) [] .nil)))
 .nil))⟩
def d__law_tree : Def := ⟨10, 5,
 (.cons (.asg (.name 5) (.call "_law_draw" (.cons (.var 0) (.cons (.int 8) .nil)) [] .nil))
 (.cons (.ite (.or (.cmp .lt (.var 2) (.int 2)) (.or (.cmp .eq (.var 5) (.int 0)) (.and (.cmp .gt (.var 5) (.int 3)) (.cmp .lt (.var 3) (.int 2))))) (.cons (.ret (.sub (.var 1) (.call "_law_draw" (.cons (.var 0) (.cons (.bi .len (.cons (.var 1) .nil)) .nil)) [] .nil)))
 .nil) .nil)
 (.cons (.ite (.cmp .eq (.var 5) (.int 1)) (.cons (.ret (.tup (.cons (.str [110, 111, 116]) (.cons (.call "_law_tree" (.cons (.var 0) (.cons (.var 1) (.cons (.bin .sub (.var 2) (.int 1)) (.cons (.var 3) (.cons (.var 4) .nil))))) [] .nil) .nil))))
 .nil) .nil)
 (.cons (.ite (.cmp .lt (.var 5) (.int 4)) (.cons (.asg (.name 8) (.call "_law_tree" (.cons (.var 0) (.cons (.var 1) (.cons (.bin .sub (.var 2) (.int 1)) (.cons (.var 3) (.cons (.var 4) .nil))))) [] .nil))
 (.cons (.ret (.tup (.cons (.sub (.lst (.cons (.str [114, 101, 116, 114, 121]) (.cons (.str [114, 101, 112, 101, 97, 116]) .nil))) (.bin .sub (.var 5) (.int 2))) (.cons (.var 8) (.cons (.call "_law_often" (.cons (.var 0) (.cons (.var 4) .nil)) [] .nil) .nil)))))
 .nil)) .nil)
 (.cons (.asg (.name 6) (.bi .min (.cons (.var 3) (.cons (.bin .add (.int 2) (.call "_law_draw" (.cons (.var 0) (.cons (.int 3) .nil)) [] .nil)) .nil))))
 (.cons (.asg (.name 7) (.lc (.call "_law_tree" (.cons (.var 0) (.cons (.var 1) (.cons (.bin .sub (.var 2) (.int 1)) (.cons (.bin .fdiv (.var 3) (.var 6)) (.cons (.var 4) .nil))))) [] .nil) (.name 9) (.rng1 (.var 6)) .none [9]))
 (.cons (.ret (.tup (.cons (.sub (.lst (.cons (.str [97, 108, 108]) (.cons (.str [97, 110, 121]) .nil))) (.bin .mod (.var 5) (.int 2))) (.cons (.bi .tuple (.cons (.var 7) .nil)) .nil))))
 .nil)))))))⟩
def d__law_steps : Def := ⟨9, 2,
 (.cons (.ite (.isi (.var 0) ["str"]) (.cons (.asg (.name 5) (.and (.cmp2 .le .le (.int 1) (.bi .len (.cons (.var 0) .nil)) (.int 6)) (.bi .all (.cons (.lc (.cmp .in (.var 8) (.str [97, 98, 99, 100, 101, 102, 103, 104, 105, 106, 107, 108, 109, 110, 111, 112, 113, 114, 115, 116, 117, 118, 119, 120, 121, 122])) (.name 8) (.ex (.var 0)) .none [8]) .nil))))
 (.cons (.ret (.ife (.and (.var 5) (.cmp .gt (.var 1) (.int 0))) (.lst (.cons (.var 0) .nil)) .non))
 .nil)) .nil)
 (.cons (.ite (.or (.not (.isi (.var 0) ["tuple"])) (.or (.cmp .lt (.var 1) (.int 2)) (.or (.cmp .lt (.bi .len (.cons (.var 0) .nil)) (.int 2)) (.not (.isi (.sub (.var 0) (.int 0)) ["str"]))))) (.cons (.ret .non)
 .nil) .nil)
 (.cons (.asg (.name 2) .non)
 (.cons (.ite (.and (.cmp .eq (.sub (.var 0) (.int 0)) (.str [110, 111, 116])) (.cmp .eq (.bi .len (.cons (.var 0) .nil)) (.int 2))) (.cons (.asg (.name 2) (.sl (.var 0) (.some (.int 1)) .none))
 .nil) .nil)
 (.cons (.ite (.and (.cmp .in (.sub (.var 0) (.int 0)) (.lst (.cons (.str [114, 101, 116, 114, 121]) (.cons (.str [114, 101, 112, 101, 97, 116]) .nil)))) (.cmp .eq (.bi .len (.cons (.var 0) .nil)) (.int 3))) (.cons (.asg (.name 6) (.and (.isi (.sub (.var 0) (.int 2)) ["int"]) (.not (.isi (.sub (.var 0) (.int 2)) ["bool"]))))
 (.cons (.asg (.name 2) (.ife (.and (.var 6) (.cmp2 .le .le (.int 1) (.sub (.var 0) (.int 2)) (.bin .pow (.int 10) (.int 30)))) (.sl (.var 0) (.some (.int 1)) (.some (.int 2))) .non))
 .nil)) .nil)
 (.cons (.ite (.and (.cmp .in (.sub (.var 0) (.int 0)) (.lst (.cons (.str [97, 108, 108]) (.cons (.str [97, 110, 121]) .nil)))) (.and (.cmp .eq (.bi .len (.cons (.var 0) .nil)) (.int 2)) (.and (.isi (.sub (.var 0) (.int 1)) ["tuple"]) (.cmp .gt (.bi .len (.cons (.sub (.var 0) (.int 1)) .nil)) (.int 1))))) (.cons (.asg (.name 2) (.sub (.var 0) (.int 1)))
 .nil) .nil)
 (.cons (.ite (.cmp .is (.var 2) .non) (.cons (.ret .non)
 .nil) .nil)
 (.cons (.asg (.name 3) (.lst .nil))
 (.cons (.for (.name 4) (.ex (.var 2)) (.cons (.asg (.name 7) (.call "_law_steps" (.cons (.var 4) (.cons (.bin .sub (.var 1) (.int 1)) .nil)) [] .nil))
 (.cons (.ite (.cmp .is (.var 7) .non) (.cons (.ret .non)
 .nil) .nil)
 (.cons (.ex (.me .extend (.var 3) (.cons (.var 7) .nil)))
 .nil))))
 (.cons (.ret (.var 3))
 .nil))))))))))⟩
def d__law_is_tree : Def := ⟨2, 1,
 (.cons (.asg (.name 1) (.call "_law_steps" (.cons (.var 0) (.cons (.int 8) .nil)) [] .nil))
 (.cons (.ret (.and (.cmp .isnot (.var 1) .non) (.and (.cmp .le (.bi .len (.cons (.var 1) .nil)) (.int 60)) (.cmp .le (.bi .len (.cons (.bi .set (.cons (.var 1) .nil)) .nil)) (.int 8)))))
 .nil))⟩
def d__law_odd : Def := ⟨2, 1,
 (.cons (.asg (.name 1) (.lst (.cons .non (.cons (.bl true) (.cons (.bl false) (.cons (.int 0) (.cons (.int 1) (.cons (.str []) (.cons (.str [65]) (.cons (.str [97, 98, 99, 100, 101, 102, 103]) (.cons (.str [97, 32, 98]) (.cons (.str [97, 10]) (.cons (.tup .nil) (.cons (.lst .nil) (.cons (.sdd [] .nil) (.cons (.tup (.cons (.str [97]) .nil)) (.cons (.tup (.cons (.str [110, 111, 116]) .nil)) (.cons (.tup (.cons (.str [110, 111, 116]) (.cons (.str [97]) (.cons (.str [98]) .nil)))) .nil))))))))))))))))))
 (.cons (.asg (.name 1) (.bin .add (.var 1) (.lst (.cons (.tup (.cons (.str [114, 101, 116, 114, 121]) (.cons (.str [97]) .nil))) (.cons (.tup (.cons (.str [114, 101, 116, 114, 121]) (.cons (.str [97]) (.cons (.int 0) .nil)))) (.cons (.tup (.cons (.str [114, 101, 116, 114, 121]) (.cons (.str [97]) (.cons (.bl true) .nil)))) (.cons (.tup (.cons (.str [114, 101, 116, 114, 121]) (.cons (.str [97]) (.cons (.bin .add (.bin .pow (.int 10) (.int 30)) (.int 1)) .nil)))) (.cons (.tup (.cons (.str [97, 108, 108]) (.cons (.tup (.cons (.str [97]) .nil)) .nil))) .nil))))))))
 (.cons (.asg (.name 1) (.bin .add (.var 1) (.lst (.cons (.tup (.cons (.str [114, 101, 116, 114, 121]) (.cons (.str [97]) (.cons (.str [50]) .nil)))) (.cons (.tup (.cons (.str [114, 101, 112, 101, 97, 116]) (.cons (.int 2) (.cons (.str [97]) .nil)))) (.cons (.tup (.cons (.str [97, 108, 108]) (.cons (.tup .nil) .nil))) (.cons (.tup (.cons (.str [97, 110, 121]) (.cons (.lst (.cons (.str [97]) (.cons (.str [98]) .nil))) .nil))) (.cons (.tup (.cons (.str [97, 108, 108]) (.cons (.str [97, 98]) .nil))) (.cons (.lst (.cons (.str [110, 111, 116]) (.cons (.str [97]) .nil))) .nil)))))))))
 (.cons (.asg (.name 1) (.bin .add (.var 1) (.lst (.cons (.tup (.cons (.str [97, 108, 108]) (.cons (.tup (.cons (.str [97]) (.cons (.str [98]) .nil))) (.cons (.int 1) .nil)))) (.cons (.tup (.cons (.str [78, 111, 116]) (.cons (.str [97]) .nil))) (.cons (.tup (.cons .non (.cons (.str [97]) .nil))) (.cons (.tup (.cons (.tup (.cons (.str [97]) .nil)) (.cons (.str [97]) .nil))) (.cons (.tup (.cons (.str [110, 111, 116]) (.cons (.tup (.cons (.str [110, 111, 116]) (.cons (.str [98]) .nil))) .nil))) (.cons (.tup (.cons (.str [97, 110, 121]) (.cons (.sdd [] .nil) .nil))) .nil)))))))))
 (.cons (.ret (.sub (.bin .add (.var 1) (.lst (.cons (.tup (.cons (.str [114, 101, 116, 114, 121]) (.cons (.str [98]) (.cons (.bin .pow (.int 10) (.int 30)) .nil)))) (.cons (.str [114, 101, 116, 114, 121]) (.cons (.tup (.cons (.str [115, 116, 101, 112]) (.cons (.str [97]) .nil))) (.cons (.tup (.cons (.str [114, 101, 116, 114, 121]) (.cons (.str [97]) (.cons .non .nil)))) .nil)))))) (.call "_law_draw" (.cons (.var 0) (.cons (.int 37) .nil)) [] .nil)))
 .nil)))))⟩
def d__law_bent : Def := ⟨5, 3,
 (.cons (.ite (.or (.not (.isi (.var 1) ["tuple"])) (.or (.cmp .eq (.var 1) (.tup .nil)) (.or (.cmp .eq (.var 2) (.int 0)) (.cmp .eq (.call "_law_draw" (.cons (.var 0) (.cons (.int 6) .nil)) [] .nil) (.int 0))))) (.cons (.ret (.call "_law_odd" (.cons (.var 0) .nil) [] .nil))
 .nil) .nil)
 (.cons (.asg (.tup (.cons (.name 3) (.cons (.name 4) .nil))) (.tup (.cons (.call "_law_draw" (.cons (.var 0) (.cons (.int 8) .nil)) [] .nil) (.cons (.call "_law_draw" (.cons (.var 0) (.cons (.bi .len (.cons (.var 1) .nil)) .nil)) [] .nil) .nil))))
 (.cons (.ite (.cmp .eq (.var 3) (.int 0)) (.cons (.ret (.bi .list (.cons (.var 1) .nil)))
 .nil) .nil)
 (.cons (.ite (.cmp .eq (.var 3) (.int 1)) (.cons (.ret (.bin .add (.sl (.var 1) .none (.some (.var 4))) (.sl (.var 1) (.some (.bin .add (.var 4) (.int 1))) .none)))
 .nil) .nil)
 (.cons (.ite (.cmp .eq (.var 3) (.int 2)) (.cons (.ret (.bin .add (.bin .add (.sl (.var 1) .none (.some (.var 4))) (.tup (.cons (.call "_law_odd" (.cons (.var 0) .nil) [] .nil) .nil))) (.sl (.var 1) (.some (.var 4)) .none)))
 .nil) .nil)
 (.cons (.ite (.cmp .eq (.var 3) (.int 3)) (.cons (.ret (.rev (.var 1)))
 .nil) .nil)
 (.cons (.ret (.bin .add (.bin .add (.sl (.var 1) .none (.some (.var 4))) (.tup (.cons (.call "_law_bent" (.cons (.var 0) (.cons (.sub (.var 1) (.var 4)) (.cons (.bin .sub (.var 2) (.int 1)) .nil))) [] .nil) .nil))) (.sl (.var 1) (.some (.bin .add (.var 4) (.int 1))) .none)))
 .nil)))))))⟩
def d__law_told_right : Def := ⟨4, 1,
 (.cons (.asg (.tup (.cons (.name 2) (.cons (.name 3) .nil))) (.tup (.cons (.call "_law_is_tree" (.cons (.var 0) .nil) [] .nil) (.cons (.bi .reprd (.cons (.var 0) .nil)) .nil))))
 (.cons (.asg (.name 1) (.lst (.cons (.call "is_plan" (.cons (.var 0) .nil) [] .nil) (.cons (.call "is_plan" .nil ["value"] (.cons (.var 0) .nil)) (.cons (.call "is_plan" (.cons (.var 0) .nil) [] .nil) .nil)))))
 (.cons (.ret (.and (.cmp .eq (.bi .repr (.cons (.var 1) .nil)) (.bi .repr (.cons (.bin .mul (.lst (.cons (.var 2) .nil)) (.int 3)) .nil))) (.cmp .eq (.bi .reprd (.cons (.var 0) .nil)) (.var 3))))
 .nil)))⟩
def d__law_right : Def := ⟨4, 1,
 (.cons (.asg (.name 1) (.call "_law_words" (.cons (.var 0) (.cons (.bin .add (.int 1) (.call "_law_draw" (.cons (.var 0) (.cons (.int 8) .nil)) [] .nil)) .nil)) [] .nil))
 (.cons (.asg (.name 2) (.call "_law_tree" (.cons (.var 0) (.cons (.var 1) (.cons (.bin .add (.int 1) (.call "_law_draw" (.cons (.var 0) (.cons (.int 8) .nil)) [] .nil)) (.cons (.int 60) (.cons (.int 99) .nil))))) [] .nil))
 (.cons (.ite (.or (.not (.call "_law_is_tree" (.cons (.var 2) .nil) [] .nil)) (.not (.call "_law_told_right" (.cons (.var 2) .nil) [] .nil))) (.cons (.ret (.bl false))
 .nil) .nil)
 (.cons (.for (.name 3) (.rng1 (.int 12)) (.cons (.ite (.or (.not (.call "_law_told_right" (.cons (.call "_law_bent" (.cons (.var 0) (.cons (.var 2) (.cons (.int 8) .nil))) [] .nil) .nil) [] .nil)) (.not (.call "_law_told_right" (.cons (.call "_law_odd" (.cons (.var 0) .nil) [] .nil) .nil) [] .nil))) (.cons (.ret (.bl false))
 .nil) .nil)
 .nil))
 (.cons (.ret (.and (.call "_law_told_right" (.cons (.bi .listx (.cons (.var 2) .nil)) .nil) [] .nil) (.call "_law_told_right" (.cons (.tup (.cons (.var 2) .nil)) .nil) [] .nil)))
 .nil)))))⟩
def d_law : Def := ⟨2, 1,
 (.cons (.ret (.bi .all (.cons (.lc (.call "_law_right" (.cons (.call "_law_pool" (.cons (.call "_law_cell" (.cons (.var 0) (.cons (.var 1) .nil)) [] .nil) .nil) [] .nil) .nil) [] .nil) (.name 1) (.rng1 (.bi .max (.cons (.int 2) (.cons (.bi .min (.cons (.bi .len (.cons (.var 0) .nil)) (.cons (.int 5) .nil))) .nil)))) .none [1]) .nil)))
 .nil)⟩
def tbl : List (String × Def) := [("is_step", d_is_step), ("is_integer", d_is_integer), ("is_times", d_is_times), ("inner_values", d_inner_values), ("written_steps", d_written_steps), ("is_plan", d_is_plan), ("_law_cell", d__law_cell), ("_law_pool", d__law_pool), ("_law_draw", d__law_draw), ("_law_words", d__law_words), ("_law_often", d__law_often), ("_law_tree", d__law_tree), ("_law_steps", d__law_steps), ("_law_is_tree", d__law_is_tree), ("_law_odd", d__law_odd), ("_law_bent", d__law_bent), ("_law_told_right", d__law_told_right), ("_law_right", d__law_right), ("law", d_law)]
def kons : List (String × D) := [("MOST_TIMES", (.int 1000000000000000000000000000000)), ("MOST_WRITTEN", (.int 60)), ("MOST_NESTED", (.int 8)), ("MOST_STEPS", (.int 8)), ("LETTERS", (.str [97, 98, 99, 100, 101, 102, 103, 104, 105, 106, 107, 108, 109, 110, 111, 112, 113, 114, 115, 116, 117, 118, 119, 120, 121, 122])), ("MOST_LETTERS", (.int 6))]
def kwt : List (String × List (List String)) := [("is_plan", [["value"]])]
def shT : List (String × List ((Nat × List String) × List Src)) := []
def gg : G := ⟨fun f => tbl.lookup f, fun x => kons.lookup x, fun f => (kwt.lookup f).getD [], fun f n ks => ((shT.lookup f).getD []).lookup (n, ks)⟩
theorem ok_is_step : DefOk gg "is_step" (topS 7) d_is_step [st "value", st "sign"] [st "value"] := by
  refine ⟨⟨rfl, rfl, rfl, by decide +kernel, rfl, by decide +kernel, by decide +kernel⟩, by decide +kernel, rfl, rfl, by decide, ?_, ?_⟩
  ·
   intro kV doc pm cdv ct an ks hk t us ws h1 h2
   rcases hk with rfl | hk
   ·
    obtain rfl := len0 (l := ws) h2
    obtain ⟨a0, rfl⟩ := len1 (l := us) (by simpa using h1)
    exact .of_eq rfl
   · exact absurd (show ks ∈ ([] : List (List String)) from hk) (by simp)
  · intro kV doc pm cdv ct an n ks pl hsh t us ws h1 h2
    exact absurd (show ([] : List ((Nat × List String) × List Src)).lookup (n, ks) = some pl from hsh) nofun
theorem ok_is_integer : DefOk gg "is_integer" (topS 8) d_is_integer [st "value"] [st "value"] := by
  refine ⟨⟨rfl, rfl, rfl, by decide +kernel, rfl, by decide +kernel, by decide +kernel⟩, by decide +kernel, rfl, rfl, by decide, ?_, ?_⟩
  ·
   intro kV doc pm cdv ct an ks hk t us ws h1 h2
   rcases hk with rfl | hk
   ·
    obtain rfl := len0 (l := ws) h2
    obtain ⟨a0, rfl⟩ := len1 (l := us) (by simpa using h1)
    exact .of_eq rfl
   · exact absurd (show ks ∈ ([] : List (List String)) from hk) (by simp)
  · intro kV doc pm cdv ct an n ks pl hsh t us ws h1 h2
    exact absurd (show ([] : List ((Nat × List String) × List Src)).lookup (n, ks) = some pl from hsh) nofun
theorem ok_is_times : DefOk gg "is_times" (topS 9) d_is_times [st "value"] [st "value"] := by
  refine ⟨⟨rfl, rfl, rfl, by decide +kernel, rfl, by decide +kernel, by decide +kernel⟩, by decide +kernel, rfl, rfl, by decide, ?_, ?_⟩
  ·
   intro kV doc pm cdv ct an ks hk t us ws h1 h2
   rcases hk with rfl | hk
   ·
    obtain rfl := len0 (l := ws) h2
    obtain ⟨a0, rfl⟩ := len1 (l := us) (by simpa using h1)
    exact .of_eq rfl
   · exact absurd (show ks ∈ ([] : List (List String)) from hk) (by simp)
  · intro kV doc pm cdv ct an n ks pl hsh t us ws h1 h2
    exact absurd (show ([] : List ((Nat × List String) × List Src)).lookup (n, ks) = some pl from hsh) nofun
theorem ok_inner_values : DefOk gg "inner_values" (topS 10) d_inner_values [st "value", st "has_parts"] [st "value"] := by
  refine ⟨⟨rfl, rfl, rfl, by decide +kernel, rfl, by decide +kernel, by decide +kernel⟩, by decide +kernel, rfl, rfl, by decide, ?_, ?_⟩
  ·
   intro kV doc pm cdv ct an ks hk t us ws h1 h2
   rcases hk with rfl | hk
   ·
    obtain rfl := len0 (l := ws) h2
    obtain ⟨a0, rfl⟩ := len1 (l := us) (by simpa using h1)
    exact .of_eq rfl
   · exact absurd (show ks ∈ ([] : List (List String)) from hk) (by simp)
  · intro kV doc pm cdv ct an n ks pl hsh t us ws h1 h2
    exact absurd (show ([] : List ((Nat × List String) × List Src)).lookup (n, ks) = some pl from hsh) nofun
theorem ok_written_steps : DefOk gg "written_steps" (topS 11) d_written_steps [st "value", st "nested", st "inner", st "steps", st "part", st "found"] [st "value", st "nested"] := by
  refine ⟨⟨rfl, rfl, rfl, by decide +kernel, rfl, by decide +kernel, by decide +kernel⟩, by decide +kernel, rfl, rfl, by decide, ?_, ?_⟩
  ·
   intro kV doc pm cdv ct an ks hk t us ws h1 h2
   rcases hk with rfl | hk
   ·
    obtain rfl := len0 (l := ws) h2
    obtain ⟨a0, a1, rfl⟩ := len2 (l := us) (by simpa using h1)
    exact .of_eq rfl
   · exact absurd (show ks ∈ ([] : List (List String)) from hk) (by simp)
  · intro kV doc pm cdv ct an n ks pl hsh t us ws h1 h2
    exact absurd (show ([] : List ((Nat × List String) × List Src)).lookup (n, ks) = some pl from hsh) nofun
theorem ok_is_plan : DefOk gg "is_plan" (topS 12) d_is_plan [st "value", st "steps"] [st "value"] := by
  refine ⟨⟨rfl, rfl, rfl, by decide +kernel, rfl, by decide +kernel, by decide +kernel⟩, by decide +kernel, rfl, rfl, by decide, ?_, ?_⟩
  ·
   intro kV doc pm cdv ct an ks hk t us ws h1 h2
   rcases hk with rfl | hk
   ·
    obtain rfl := len0 (l := ws) h2
    obtain ⟨a0, rfl⟩ := len1 (l := us) (by simpa using h1)
    exact .of_eq rfl
   · have hk : ks ∈ [["value"]] := hk
     simp only [List.mem_cons, List.mem_nil_iff, or_false] at hk
     subst hk
     ·
      obtain ⟨b0, rfl⟩ := len1 (l := ws) h2
      obtain rfl := len0 (l := us) (by simpa using h1)
      exact .of_eq rfl
  · intro kV doc pm cdv ct an n ks pl hsh t us ws h1 h2
    exact absurd (show ([] : List ((Nat × List String) × List Src)).lookup (n, ks) = some pl from hsh) nofun
theorem ok__law_cell : DefOk gg "_law_cell" (topS 14) d__law_cell [st "_law_script", st "_law_k", st "_law_state_here", st "_law_cell_here"] [st "_law_script", st "_law_k"] := by
  refine ⟨⟨rfl, rfl, rfl, by decide +kernel, rfl, by decide +kernel, by decide +kernel⟩, by decide +kernel, rfl, rfl, by decide, ?_, ?_⟩
  ·
   intro kV doc pm cdv ct an ks hk t us ws h1 h2
   rcases hk with rfl | hk
   ·
    obtain rfl := len0 (l := ws) h2
    obtain ⟨a0, a1, rfl⟩ := len2 (l := us) (by simpa using h1)
    exact .of_eq rfl
   · exact absurd (show ks ∈ ([] : List (List String)) from hk) (by simp)
  · intro kV doc pm cdv ct an n ks pl hsh t us ws h1 h2
    exact absurd (show ([] : List ((Nat × List String) × List Src)).lookup (n, ks) = some pl from hsh) nofun
theorem ok__law_pool : DefOk gg "_law_pool" (topS 15) d__law_pool [st "_law_cell_here", st "_law_digits"] [st "_law_cell_here"] := by
  refine ⟨⟨rfl, rfl, rfl, by decide +kernel, rfl, by decide +kernel, by decide +kernel⟩, by decide +kernel, rfl, rfl, by decide, ?_, ?_⟩
  ·
   intro kV doc pm cdv ct an ks hk t us ws h1 h2
   rcases hk with rfl | hk
   ·
    obtain rfl := len0 (l := ws) h2
    obtain ⟨a0, rfl⟩ := len1 (l := us) (by simpa using h1)
    exact .of_eq rfl
   · exact absurd (show ks ∈ ([] : List (List String)) from hk) (by simp)
  · intro kV doc pm cdv ct an n ks pl hsh t us ws h1 h2
    exact absurd (show ([] : List ((Nat × List String) × List Src)).lookup (n, ks) = some pl from hsh) nofun
theorem ok__law_draw : DefOk gg "_law_draw" (topS 16) d__law_draw [st "_law_pool_here", st "_law_many", st "_law_mixed", st "_law_digit"] [st "_law_pool_here", st "_law_many"] := by
  refine ⟨⟨rfl, rfl, rfl, by decide +kernel, rfl, by decide +kernel, by decide +kernel⟩, by decide +kernel, rfl, rfl, by decide, ?_, ?_⟩
  ·
   intro kV doc pm cdv ct an ks hk t us ws h1 h2
   rcases hk with rfl | hk
   ·
    obtain rfl := len0 (l := ws) h2
    obtain ⟨a0, a1, rfl⟩ := len2 (l := us) (by simpa using h1)
    exact .of_eq rfl
   · exact absurd (show ks ∈ ([] : List (List String)) from hk) (by simp)
  · intro kV doc pm cdv ct an n ks pl hsh t us ws h1 h2
    exact absurd (show ([] : List ((Nat × List String) × List Src)).lookup (n, ks) = some pl from hsh) nofun
theorem ok__law_words : DefOk gg "_law_words" (topS 17) d__law_words [st "_law_pool_here", st "_law_many", st "_law_own", st "_law_stride", st "_law_first", st "_law_letters", st "_law_stem", st "_law_some", st "_law_cut", st "_law_begin", st "_law_k", st "_law_letter"] [st "_law_pool_here", st "_law_many"] := by
  refine ⟨⟨rfl, rfl, rfl, by decide +kernel, rfl, by decide +kernel, by decide +kernel⟩, by decide +kernel, rfl, rfl, by decide, ?_, ?_⟩
  ·
   intro kV doc pm cdv ct an ks hk t us ws h1 h2
   rcases hk with rfl | hk
   ·
    obtain rfl := len0 (l := ws) h2
    obtain ⟨a0, a1, rfl⟩ := len2 (l := us) (by simpa using h1)
    exact .of_eq rfl
   · exact absurd (show ks ∈ ([] : List (List String)) from hk) (by simp)
  · intro kV doc pm cdv ct an n ks pl hsh t us ws h1 h2
    exact absurd (show ([] : List ((Nat × List String) × List Src)).lookup (n, ks) = some pl from hsh) nofun
theorem ok__law_often : DefOk gg "_law_often" (topS 18) d__law_often [st "_law_pool_here", st "_law_most"] [st "_law_pool_here", st "_law_most"] := by
  refine ⟨⟨rfl, rfl, rfl, by decide +kernel, rfl, by decide +kernel, by decide +kernel⟩, by decide +kernel, rfl, rfl, by decide, ?_, ?_⟩
  ·
   intro kV doc pm cdv ct an ks hk t us ws h1 h2
   rcases hk with rfl | hk
   ·
    obtain rfl := len0 (l := ws) h2
    obtain ⟨a0, a1, rfl⟩ := len2 (l := us) (by simpa using h1)
    exact .of_eq rfl
   · exact absurd (show ks ∈ ([] : List (List String)) from hk) (by simp)
  · intro kV doc pm cdv ct an n ks pl hsh t us ws h1 h2
    exact absurd (show ([] : List ((Nat × List String) × List Src)).lookup (n, ks) = some pl from hsh) nofun
theorem ok__law_tree : DefOk gg "_law_tree" (topS 19) d__law_tree [st "_law_pool_here", st "_law_words_here", st "_law_deep", st "_law_room", st "_law_most", st "_law_way", st "_law_many", st "_law_parts_here", st "_law_inner", st "_law_k"] [st "_law_pool_here", st "_law_words_here", st "_law_deep", st "_law_room", st "_law_most"] := by
  refine ⟨⟨rfl, rfl, rfl, by decide +kernel, rfl, by decide +kernel, by decide +kernel⟩, by decide +kernel, rfl, rfl, by decide, ?_, ?_⟩
  ·
   intro kV doc pm cdv ct an ks hk t us ws h1 h2
   rcases hk with rfl | hk
   ·
    obtain rfl := len0 (l := ws) h2
    obtain ⟨a0, a1, a2, a3, a4, rfl⟩ := len5 (l := us) (by simpa using h1)
    exact .of_eq rfl
   · exact absurd (show ks ∈ ([] : List (List String)) from hk) (by simp)
  · intro kV doc pm cdv ct an n ks pl hsh t us ws h1 h2
    exact absurd (show ([] : List ((Nat × List String) × List Src)).lookup (n, ks) = some pl from hsh) nofun
theorem ok__law_steps : DefOk gg "_law_steps" (topS 20) d__law_steps [st "_law_thing", st "_law_deep", st "_law_parts_here", st "_law_found", st "_law_part", st "_law_good", st "_law_whole", st "_law_inner", st "_law_sign"] [st "_law_thing", st "_law_deep"] := by
  refine ⟨⟨rfl, rfl, rfl, by decide +kernel, rfl, by decide +kernel, by decide +kernel⟩, by decide +kernel, rfl, rfl, by decide, ?_, ?_⟩
  ·
   intro kV doc pm cdv ct an ks hk t us ws h1 h2
   rcases hk with rfl | hk
   ·
    obtain rfl := len0 (l := ws) h2
    obtain ⟨a0, a1, rfl⟩ := len2 (l := us) (by simpa using h1)
    exact .of_eq rfl
   · exact absurd (show ks ∈ ([] : List (List String)) from hk) (by simp)
  · intro kV doc pm cdv ct an n ks pl hsh t us ws h1 h2
    exact absurd (show ([] : List ((Nat × List String) × List Src)).lookup (n, ks) = some pl from hsh) nofun
theorem ok__law_is_tree : DefOk gg "_law_is_tree" (topS 21) d__law_is_tree [st "_law_thing", st "_law_found"] [st "_law_thing"] := by
  refine ⟨⟨rfl, rfl, rfl, by decide +kernel, rfl, by decide +kernel, by decide +kernel⟩, by decide +kernel, rfl, rfl, by decide, ?_, ?_⟩
  ·
   intro kV doc pm cdv ct an ks hk t us ws h1 h2
   rcases hk with rfl | hk
   ·
    obtain rfl := len0 (l := ws) h2
    obtain ⟨a0, rfl⟩ := len1 (l := us) (by simpa using h1)
    exact .of_eq rfl
   · exact absurd (show ks ∈ ([] : List (List String)) from hk) (by simp)
  · intro kV doc pm cdv ct an n ks pl hsh t us ws h1 h2
    exact absurd (show ([] : List ((Nat × List String) × List Src)).lookup (n, ks) = some pl from hsh) nofun
theorem ok__law_odd : DefOk gg "_law_odd" (topS 22) d__law_odd [st "_law_pool_here", st "_law_odd_here"] [st "_law_pool_here"] := by
  refine ⟨⟨rfl, rfl, rfl, by decide +kernel, rfl, by decide +kernel, by decide +kernel⟩, by decide +kernel, rfl, rfl, by decide, ?_, ?_⟩
  ·
   intro kV doc pm cdv ct an ks hk t us ws h1 h2
   rcases hk with rfl | hk
   ·
    obtain rfl := len0 (l := ws) h2
    obtain ⟨a0, rfl⟩ := len1 (l := us) (by simpa using h1)
    exact .of_eq rfl
   · exact absurd (show ks ∈ ([] : List (List String)) from hk) (by simp)
  · intro kV doc pm cdv ct an n ks pl hsh t us ws h1 h2
    exact absurd (show ([] : List ((Nat × List String) × List Src)).lookup (n, ks) = some pl from hsh) nofun
theorem ok__law_bent : DefOk gg "_law_bent" (topS 23) d__law_bent [st "_law_pool_here", st "_law_thing", st "_law_deep", st "_law_way", st "_law_at"] [st "_law_pool_here", st "_law_thing", st "_law_deep"] := by
  refine ⟨⟨rfl, rfl, rfl, by decide +kernel, rfl, by decide +kernel, by decide +kernel⟩, by decide +kernel, rfl, rfl, by decide, ?_, ?_⟩
  ·
   intro kV doc pm cdv ct an ks hk t us ws h1 h2
   rcases hk with rfl | hk
   ·
    obtain rfl := len0 (l := ws) h2
    obtain ⟨a0, a1, a2, rfl⟩ := len3 (l := us) (by simpa using h1)
    exact .of_eq rfl
   · exact absurd (show ks ∈ ([] : List (List String)) from hk) (by simp)
  · intro kV doc pm cdv ct an n ks pl hsh t us ws h1 h2
    exact absurd (show ([] : List ((Nat × List String) × List Src)).lookup (n, ks) = some pl from hsh) nofun
theorem ok__law_told_right : DefOk gg "_law_told_right" (topS 24) d__law_told_right [st "_law_thing", st "_law_told", st "_law_due", st "_law_shown"] [st "_law_thing"] := by
  refine ⟨⟨rfl, rfl, rfl, by decide +kernel, rfl, by decide +kernel, by decide +kernel⟩, by decide +kernel, rfl, rfl, by decide, ?_, ?_⟩
  ·
   intro kV doc pm cdv ct an ks hk t us ws h1 h2
   rcases hk with rfl | hk
   ·
    obtain rfl := len0 (l := ws) h2
    obtain ⟨a0, rfl⟩ := len1 (l := us) (by simpa using h1)
    exact .of_eq rfl
   · exact absurd (show ks ∈ ([] : List (List String)) from hk) (by simp)
  · intro kV doc pm cdv ct an n ks pl hsh t us ws h1 h2
    exact absurd (show ([] : List ((Nat × List String) × List Src)).lookup (n, ks) = some pl from hsh) nofun
theorem ok__law_right : DefOk gg "_law_right" (topS 25) d__law_right [st "_law_pool_here", st "_law_words_here", st "_law_tree_here", st "_law_turn"] [st "_law_pool_here"] := by
  refine ⟨⟨rfl, rfl, rfl, by decide +kernel, rfl, by decide +kernel, by decide +kernel⟩, by decide +kernel, rfl, rfl, by decide, ?_, ?_⟩
  ·
   intro kV doc pm cdv ct an ks hk t us ws h1 h2
   rcases hk with rfl | hk
   ·
    obtain rfl := len0 (l := ws) h2
    obtain ⟨a0, rfl⟩ := len1 (l := us) (by simpa using h1)
    exact .of_eq rfl
   · exact absurd (show ks ∈ ([] : List (List String)) from hk) (by simp)
  · intro kV doc pm cdv ct an n ks pl hsh t us ws h1 h2
    exact absurd (show ([] : List ((Nat × List String) × List Src)).lookup (n, ks) = some pl from hsh) nofun
theorem ok_law : DefOk gg "law" (topS 26) d_law [st "_law_script", st "_law_k"] [st "_law_script"] := by
  refine ⟨⟨rfl, rfl, rfl, by decide +kernel, rfl, by decide +kernel, by decide +kernel⟩, by decide +kernel, rfl, rfl, by decide, ?_, ?_⟩
  ·
   intro kV doc pm cdv ct an ks hk t us ws h1 h2
   rcases hk with rfl | hk
   ·
    obtain rfl := len0 (l := ws) h2
    obtain ⟨a0, rfl⟩ := len1 (l := us) (by simpa using h1)
    exact .of_eq rfl
   · exact absurd (show ks ∈ ([] : List (List String)) from hk) (by simp)
  · intro kV doc pm cdv ct an n ks pl hsh t us ws h1 h2
    exact absurd (show ([] : List ((Nat × List String) × List Src)).lookup (n, ks) = some pl from hsh) nofun
section
variable {P : Program} {w : World} {K : PySem.W.Frag} {mg : Str → Option Value} {h : Heap}
theorem law_text (H : ∀ f ∈ BLT, mg (st f) = none) (F : ∀ q ∈ tbl, ∃ s N ps fd, DefAt ⟨P, w, K, AD K⟩ mg gg q.1 s q.2 N ps fd) (C : ∀ q ∈ kons, ConAt ⟨P, w, K, AD K⟩ mg q.1 q.2) : Text ⟨P, w, K, AD K⟩ mg gg :=
  ⟨fun f d h => lookup_all (p := fun f d => ∃ s N ps fd, DefAt ⟨P, w, K, AD K⟩ mg gg f s d N ps fd) F f d h, fun x d h => lookup_all (p := fun x d => ConAt ⟨P, w, K, AD K⟩ mg x d) C x d h, H⟩
end
end Lw

namespace Rp

/-! ## what an evaluation gives -/
def R.wp {α : Type} (r : R α) (Q : α → Hm → Prop) : Prop := match r with
  | .ok a M => Q a M
  | _ => False
structure Ep where
  nx : Lc → Hm → Prop
  rt : D → Hm → Prop
  bk : Lc → Hm → Prop
  ct : Lc → Hm → Prop
def F.wp (f : F) (E : Ep) : Prop := match f with
  | .nx ρ M => E.nx ρ M
  | .ret d M => E.rt d M
  | .brk ρ M => E.bk ρ M
  | .ct ρ M => E.ct ρ M
  | _ => False
/-- a choice -/
def cnd (c : Prop) [Decidable c] (a b : Prop) : Prop := if c then a else b
/-- what stands there -/
def lk (o : Option (Option D)) (K : D → Prop) : Prop := match o with | some (some d) => K d | _ => False
def tupd? : D → Option (List D) | .tup l => some l | _ => none
def op {α : Type} (o : Option α) (K : α → Prop) : Prop := match o with | some d => K d | _ => False
def lst? : O → Option (List D) | .lst l => some l | _ => none
def lkL (o : Option O) (K : List D → Prop) : Prop := op (o.bind lst?) K
def asI (d : D) (K : Int → Prop) : Prop := match d with | .int i => K i | _ => False
def asB (d : D) (K : Bool → Prop) : Prop := match d with | .bl i => K i | _ => False
def asT (M : Hm) (d : D) (K : List D → Prop) : Prop := op (unp? M d) K
def tst (M : Hm) (d : D) (K : Bool → Prop) : Prop := op (truth M d) K
theorem cnd_congr {c c' : Prop} [Decidable c] [Decidable c'] {a b : Prop} (h : c = c') : cnd c a b = cnd c' a b := by subst h; unfold cnd; congr
theorem wp_congr {α : Type} {r r' : R α} {Q : α → Hm → Prop} (h : r = r') : r.wp Q = r'.wp Q := by rw [h]
theorem fwp_congr {r r' : F} {Q : Ep} (h : r = r') : r.wp Q = r'.wp Q := by rw [h]
theorem lk_congr {o o' : Option (Option D)} {K : D → Prop} (h : o = o') : lk o K = lk o' K := by rw [h]
theorem op_congr {α : Type} {o o' : Option α} {K : α → Prop} (h : o = o') : op o K = op o' K := by rw [h]
theorem lkL_congr {o o' : Option O} {K : List D → Prop} (h : o = o') : lkL o K = lkL o' K := by rw [h]
theorem tst_congr {M M' : Hm} {d d' : D} {K : Bool → Prop} (h : M = M') (h' : d = d') : tst M d K = tst M' d' K := by rw [h, h']
theorem cnd_true {a b : Prop} : cnd True a b = a := if_pos trivial
theorem cnd_false {a b : Prop} : cnd False a b = b := if_neg id
theorem cnd_by {c : Prop} [Decidable c] {a b : Prop} (h1 : c → a) (h2 : ¬ c → b) : cnd c a b := by unfold cnd; split <;> simp_all
theorem lk_some {d : D} {K : D → Prop} : lk (some (some d)) K = K d := rfl
theorem op_some {α : Type} {d : α} {K : α → Prop} : op (some d) K = K d := rfl
theorem lkL_some {l : List D} {K : List D → Prop} : lkL (some (.lst l)) K = K l := rfl
theorem R.wp.mono {α : Type} {r : R α} {Q Q' : α → Hm → Prop} (h : r.wp Q) (k : ∀ a M, Q a M → Q' a M) : r.wp Q' := by
  cases r with
  | ok a M => exact k a M h
  | _ => exact h.elim
theorem R.wp.ex {α : Type} {r : R α} {Q : α → Hm → Prop} (h : r.wp Q) : ∃ a M, r = .ok a M ∧ Q a M := by
  cases r with
  | ok a M => exact ⟨a, M, rfl, h⟩
  | _ => exact h.elim
theorem F.wp.mono {f : F} {E E' : Ep} (h : f.wp E) (h1 : ∀ ρ M, E.nx ρ M → E'.nx ρ M) (h2 : ∀ d M, E.rt d M → E'.rt d M) (h3 : ∀ ρ M, E.bk ρ M → E'.bk ρ M) (h4 : ∀ ρ M, E.ct ρ M → E'.ct ρ M) : f.wp E' := by
  cases f with
  | nx ρ M => exact h1 ρ M h
  | ret d M => exact h2 d M h
  | brk ρ M => exact h3 ρ M h
  | ct ρ M => exact h4 ρ M h
  | _ => exact h.elim
theorem w_bind {α β : Type} {r : R α} {k : α → Hm → R β} {Q : β → Hm → Prop} : (r.bind k).wp Q = r.wp fun a M => (k a M).wp Q := by cases r <;> rfl
theorem w_go {α : Type} {r : R α} {ρ : Lc} {k : α → Hm → F} {E : Ep} : (r.go ρ k).wp E = r.wp fun a M => (k a M).wp E := by cases r <;> rfl
theorem w_seq {f : F} {k : Lc → Hm → F} {E : Ep} : (f.seq k).wp E = f.wp { E with nx := fun ρ M => (k ρ M).wp E } := by cases f <;> rfl
theorem w_quiet {α : Type} {r : R α} {Q : α → Hm → Prop} : r.quiet.wp Q = r.wp Q := by cases r <;> rfl
theorem w_opt {α β : Type} {o : Option α} {f : α → R β} {Q : β → Hm → Prop} : (opt o f).wp Q = op o fun a => (f a).wp Q := by cases o <;> rfl
theorem w_ite {α : Type} {c : Prop} [Decidable c] {a b : R α} {Q : α → Hm → Prop} : (if c then a else b).wp Q = cnd c (a.wp Q) (b.wp Q) := by unfold cnd; split <;> rfl
theorem w_ites {α : Type} {c : Prop} [Decidable c] {a : R α} {Q : α → Hm → Prop} : (if c then a else .stuck).wp Q = (c ∧ a.wp Q) := by
  split
  · next h => simp [h]
  · next h => simp only [h, false_and]; rfl
theorem w_test {r : R D} {Q : Bool → Hm → Prop} : (test r).wp Q = r.wp fun d M => tst M d fun b => Q b M := by
  unfold test; rw [w_bind]; congr; funext d M; rw [w_opt]; rfl
section
variable {C : Cl} {g : G} {ρ : Lc} {M : Hm} {Q : D → Hm → Prop} {E : Ep}
theorem e_non : (evE C g .non ρ M).wp Q = Q .non M := rfl
theorem e_bl {b : Bool} : (evE C g (.bl b) ρ M).wp Q = Q (.bl b) M := rfl
theorem e_int {i : Int} : (evE C g (.int i) ρ M).wp Q = Q (.int i) M := rfl
theorem e_str {i : S} : (evE C g (.str i) ρ M).wp Q = Q (.str i) M := rfl
theorem e_var {i : Nat} : (evE C g (.var i) ρ M).wp Q = lk ρ[i]? fun d => Q d M := by
  simp only [evE]
  cases ρ[i]? with
  | none => rfl
  | some o => cases o <;> rfl
theorem e_glo {x : String} : (evE C g (.glo x) ρ M).wp Q = op (g.con x) fun d => Q d M := by simp only [evE]; cases g.con x <;> rfl
theorem e_bin {o : Bop} {a b : Ex} : (evE C g (.bin o a b) ρ M).wp Q = (evE C g a ρ M).wp fun x M1 => (evE C g b ρ M1).wp fun y M2 => (binop o x y M2).wp Q := by simp only [evE, w_bind]
theorem e_neg {a : Ex} : (evE C g (.neg a) ρ M).wp Q = (evE C g a ρ M).wp fun x M1 => asI x fun i => Q (.int (-i)) M1 := by
  simp only [evE, w_bind]; congr; funext x M1; cases x <;> rfl
theorem e_not {a : Ex} : (evE C g (.not a) ρ M).wp Q = (evE C g a ρ M).wp fun x M1 => tst M1 x fun b => Q (.bl (!b)) M1 := by simp only [evE, w_bind, w_test]; rfl
theorem e_cmp {o : Cop} {a b : Ex} : (evE C g (.cmp o a b) ρ M).wp Q = (evE C g a ρ M).wp fun x M1 => (evE C g b ρ M1).wp fun y M2 => (cmpop o x y M2).wp Q := by simp only [evE, w_bind]
theorem e_cmp2 {o o' : Cop} {a b c : Ex} : (evE C g (.cmp2 o o' a b c) ρ M).wp Q = (evE C g a ρ M).wp fun x M1 => (evE C g b ρ M1).wp fun y M2 => (cmpop o x y M2).wp fun k M3 => asB k fun t => cnd (t = true) ((evE C g c ρ M3).wp fun z M4 => (cmpop o' y z M4).wp Q) (Q (.bl false) M3) := by
  simp only [evE, w_bind]; congr; funext x M1; congr; funext y M2; congr; funext k M3
  cases k with
  | bl t => cases t with
    | false => simp only [asB, cnd, Bool.false_eq_true, if_false]; rfl
    | true => simp only [asB, cnd, if_true]; exact w_bind
  | _ => rfl
theorem e_and {a b : Ex} : (evE C g (.and a b) ρ M).wp Q = (evE C g a ρ M).wp fun x M1 => tst M1 x fun t => cnd (t = true) ((evE C g b ρ M1).wp Q) (Q x M1) := by
  simp only [evE, w_bind, andV]; congr; funext x M1; rw [w_opt]; unfold tst; congr; funext t; rw [w_ite]; rfl
theorem e_or {a b : Ex} : (evE C g (.or a b) ρ M).wp Q = (evE C g a ρ M).wp fun x M1 => tst M1 x fun t => cnd (t = true) (Q x M1) ((evE C g b ρ M1).wp Q) := by
  simp only [evE, w_bind, orV]; congr; funext x M1; rw [w_opt]; unfold tst; congr; funext t; rw [w_ite]; rfl
theorem e_ife {c a b : Ex} : (evE C g (.ife c a b) ρ M).wp Q = (evE C g c ρ M).wp fun x M1 => tst M1 x fun t => cnd (t = true) ((evE C g a ρ M1).wp Q) ((evE C g b ρ M1).wp Q) := by
  simp only [evE, w_bind, w_test, w_ite]
theorem e_tup {l : Exs} : (evE C g (.tup l) ρ M).wp Q = (evEs C g l ρ M).wp fun ds M1 => ds.length ≤ LN ∧ Q (.tup ds) M1 := by simp only [evE, w_bind, w_ites]; rfl
theorem e_lst {l : Exs} : (evE C g (.lst l) ρ M).wp Q = (evEs C g l ρ M).wp fun ds M1 => ds.length ≤ LN ∧ Q (.ref M1.length) (M1 ++ [.lst ds]) := by simp only [evE, w_bind, w_ites]; rfl
theorem e_sub {a i : Ex} : (evE C g (.sub a i) ρ M).wp Q = (evE C g a ρ M).wp fun x M1 => (evE C g i ρ M1).wp fun y M2 => (subop x y M2).wp Q := by simp only [evE, w_bind]
theorem e_sl {a : Ex} {lo hi : Exo} : (evE C g (.sl a lo hi) ρ M).wp Q = (evE C g a ρ M).wp fun x M1 => (evO C g lo ρ M1).wp fun l M2 => (evO C g hi ρ M2).wp fun h M3 => (slop x l h M3).wp Q := by simp only [evE, w_bind]
theorem e_call {f : String} {l kw : Exs} {ks : List String} : (evE C g (.call f l ks kw) ρ M).wp Q = ((g.fn f).isSome = true ∧ (ks = [] ∨ ks ∈ g.kw f) ∧ (evEs C g l ρ M).wp fun ds M1 => (evEs C g kw ρ M1).wp fun es M2 => (C f (ds ++ es) M2).wp Q) := by
  simp only [evE, w_opt]
  cases g.fn f with
  | none => simp [op]
  | some d => simp only [op, Option.isSome_some, true_and, w_ites, w_bind]
theorem e_calk {f : String} {l kw : Exs} {ks : List String} : (evE C g (.calk f l ks kw) ρ M).wp Q = ((g.fn f).isSome = true ∧ (evEs C g l ρ M).wp fun ds M1 => (evEs C g kw ρ M1).wp fun es M2 => op (g.sh f ds.length ks) fun pl => op (plan pl ds es) fun as => (C f as M2).wp Q) := by
  simp only [evE, w_opt]
  cases g.fn f with
  | none => simp [op]
  | some d => simp only [op, Option.isSome_some, true_and, w_bind, w_opt]
theorem e_bi {b : Bi} {l : Exs} : (evE C g (.bi b l) ρ M).wp Q = (evEs C g l ρ M).wp fun ds M1 => (biop b ds M1).wp Q := by simp only [evE, w_bind]
theorem e_isi {a : Ex} {ts : List String} : (evE C g (.isi a ts) ρ M).wp Q = (evE C g a ρ M).wp fun x M1 => op (isty M1 x ts) fun b => Q (.bl b) M1 := by simp only [evE, w_bind, w_opt]; rfl
theorem e_me {m : Me} {o : Ex} {l : Exs} : (evE C g (.me m o l) ρ M).wp Q = (evE C g o ρ M).wp fun x M1 => op (tyOf M1 x) fun T => (evEs C g l ρ M1).wp fun ds M2 => (meop m T x ds M2).wp Q := by simp only [evE, w_bind, w_opt]
def bdO (p : Bool) (y w : D) : O := if p then .bd y w else .bd w y
def lkB (o : Option O) (K : D → D → Prop) : Prop := match o with | some (.bd t f) => K t f | _ => False
def lkS (o : Option O) (K : List S → List D → Prop) : Prop := match o with | some (.sd t f) => K t f | _ => False
theorem lkB_some {t f : D} {K : D → D → Prop} : lkB (some (.bd t f)) K = K t f := rfl
theorem lkS_some {t : List S} {f : List D} {K : List S → List D → Prop} : lkS (some (.sd t f)) K = K t f := rfl
theorem bdO_t {y w : D} : bdO true y w = .bd y w := rfl
theorem bdO_f {y w : D} : bdO false y w = .bd w y := rfl
def cpy (M : Hm) (x : D) (K : D → D → Prop) : Prop := match x with | .ref n => lkB M[n]? K | _ => False
theorem e_cpy {n : Nat} {K : D → D → Prop} : cpy M (.ref n) K = lkB M[n]? K := rfl
theorem e_bdd {a b c d : Ex} : (evE C g (.bdd a b c d) ρ M).wp Q = (evE C g a ρ M).wp fun x M1 => (evE C g b ρ M1).wp fun y M2 => (evE C g c ρ M2).wp fun z M3 => (evE C g d ρ M3).wp fun w M4 => asB x fun p => asB z fun q => q = !p ∧ Q (.ref M4.length) (M4 ++ [bdO p y w]) := by
  simp only [evE, w_bind]
  congr; funext x M1; congr; funext y M2; congr; funext z M3; congr; funext w M4
  cases x with
  | bl p => cases z with
    | bl q => cases p <;> cases q <;> simp [asB, bdO, R.wp, new]
    | _ => cases p <;> rfl
  | _ => rfl
theorem e_bcp {a : Ex} : (evE C g (.bcp a) ρ M).wp Q = (evE C g a ρ M).wp fun x M1 => cpy M1 x fun t f => Q (.ref M1.length) (M1 ++ [.bd t f]) := by
  simp only [evE, w_bind]; congr; funext x M1
  cases x with
  | ref n =>
    simp only [fDict, cpy]
    cases M1[n]? with
    | none => rfl
    | some o => cases o <;> rfl
  | _ => rfl
theorem e_lrg {a : Ex} : (evE C g (.lrg a) ρ M).wp Q = (evE C g a ρ M).wp fun x M1 => asI x fun i => (0 ≤ i ∧ i ≤ (LN : Int)) ∧ Q (.ref M1.length) (M1 ++ [.lst (rng 0 i.toNat)]) := by
  simp only [evE, w_bind]
  congr 1
  funext x M1
  cases x with
  | int i => simp only [fLrg, w_ites]; rfl
  | _ => rfl
theorem e_sdd {ks : List S} {l : Exs} : (evE C g (.sdd ks l) ρ M).wp Q = (evEs C g l ρ M).wp fun ds M1 => (ks.Nodup ∧ ks.length = ds.length ∧ ks.length ≤ 15) ∧ Q (.ref M1.length) (M1 ++ [.sd ks ds]) := by simp only [evE, w_bind, w_ites]; rfl
theorem e_tupd {l : List D} {K : List D → Prop} : op (tupd? (.tup l)) K = K l := rfl
theorem e_rev {a : Ex} : (evE C g (.rev a) ρ M).wp Q = (evE C g a ρ M).wp fun x M1 => op (tupd? x) fun l => Q (.tup l.reverse) M1 := by
  simp only [evE, w_bind]
  congr 1; funext x M1; cases x <;> rfl
theorem e_lc {elt : Ex} {t : Tg} {ix : Ix} {c : Exo} {own : List Nat} : (evE C g (.lc elt t ix c own) ρ M).wp Q = (evI C g ix ρ M).wp fun it M1 => (turns (stT C g t) (evC C g c) (evE C g elt) it.ok (wipe ρ own) [] it.items M1).wp Q := by simp only [evE, w_bind]
theorem e_sc2 {elt : Ex} {t t' : Tg} {ix ix' : Ix} {own : List Nat} : (evE C g (.sc2 elt t ix t' ix' own) ρ M).wp Q = (evI C g ix ρ M).wp fun it M1 => (turns2 (stT C g t) (fun a ρ1 M2 => (evI C g ix' ρ1 M2).bind fun jt M3 =>
      turns2 (stT C g t') (fun a ρ2 M4 => (evE C g elt ρ2 M4).bind fun d M5 => addS a d M5) jt.ok (wipe ρ1 t'.slots) a jt.items M3) it.ok (wipe ρ own) [] it.items M1).wp fun a M6 => Q (.ref M6.length) (M6 ++ [.set (a.map .str)]) := by simp only [evE, w_bind]; rfl
theorem e_esnil {Q : List D → Hm → Prop} : (evEs C g .nil ρ M).wp Q = Q [] M := rfl
theorem e_escons {a : Ex} {l : Exs} {Q : List D → Hm → Prop} : (evEs C g (.cons a l) ρ M).wp Q = (evE C g a ρ M).wp fun d M1 => (evEs C g l ρ M1).wp fun ds M2 => Q (d :: ds) M2 := by simp only [evEs, w_bind]; rfl
theorem e_onone {Q : Option Int → Hm → Prop} : (evO C g .none ρ M).wp Q = Q none M := rfl
theorem e_osome {a : Ex} {Q : Option Int → Hm → Prop} : (evO C g (.some a) ρ M).wp Q = (evE C g a ρ M).wp fun x M1 => asI x fun i => Q (some i) M1 := by
  simp only [evO, w_bind]; congr; funext x M1; cases x <;> rfl
theorem e_cnone {Q : Bool → Hm → Prop} : (evC C g .none ρ M).wp Q = Q true M := rfl
theorem e_csome {a : Ex} {Q : Bool → Hm → Prop} : (evC C g (.some a) ρ M).wp Q = (evE C g a ρ M).wp fun d M1 => tst M1 d fun b => Q b M1 := by simp only [evC, w_test]
theorem e_iex {a : Ex} {Q : It → Hm → Prop} : (evI C g (.ex a) ρ M).wp Q = (evE C g a ρ M).wp fun x M1 => (iter x M1).wp Q := by simp only [evI, w_bind]
theorem e_irng1 {a : Ex} {Q : It → Hm → Prop} : (evI C g (.rng1 a) ρ M).wp Q = (evE C g a ρ M).wp fun x M1 => asI x fun i => (iterR 0 i M1).wp Q := by
  simp only [evI, w_bind]; congr; funext x M1; cases x <;> rfl
theorem e_irng2 {a b : Ex} {Q : It → Hm → Prop} : (evI C g (.rng2 a b) ρ M).wp Q = (evE C g a ρ M).wp fun x M1 => (evE C g b ρ M1).wp fun y M2 => asI x fun i => asI y fun j => (iterR i j M2).wp Q := by
  simp only [evI, w_bind]; congr; funext x M1; congr; funext y M2; cases x <;> first | rfl | (cases y <;> rfl)
theorem e_ienum {a : Ex} {Q : It → Hm → Prop} : (evI C g (.enum a) ρ M).wp Q = (evE C g a ρ M).wp fun x M1 => (iterE x M1).wp Q := by simp only [evI, w_bind]
theorem e_izip {a b : Ex} {Q : It → Hm → Prop} : (evI C g (.zip a b) ρ M).wp Q = (evE C g a ρ M).wp fun x M1 => (evE C g b ρ M1).wp fun y M2 => (iterZ x y M2).wp Q := by simp only [evI, w_bind]
theorem e_tname {i : Nat} {d : D} {Q : Lc → Hm → Prop} : (stT C g (.name i) d ρ M).wp Q = (i < ρ.length ∧ Q (ρ.set i (some d)) M) := by simp only [stT, w_ites]; rfl
theorem e_ttup {ts : Tgs} {d : D} {Q : Lc → Hm → Prop} : (stT C g (.tup ts) d ρ M).wp Q = asT M d fun l => l.length = ts.len ∧ (stTs C g ts l ρ M).wp Q := by
  simp only [stT, w_opt, asT, w_ites]
theorem e_tsub {o i : Ex} {d : D} {Q : Lc → Hm → Prop} : (stT C g (.sub o i) d ρ M).wp Q = (evE C g o ρ M).wp fun x M1 => (evE C g i ρ M1).wp fun y M2 => (stoop d x y M2).wp fun _ M3 => Q ρ M3 := by simp only [stT, w_bind]; rfl
theorem e_tsnil {Q : Lc → Hm → Prop} : (stTs C g .nil [] ρ M).wp Q = Q ρ M := rfl
theorem e_tscons {t : Tg} {ts : Tgs} {d : D} {l : List D} {Q : Lc → Hm → Prop} : (stTs C g (.cons t ts) (d :: l) ρ M).wp Q = (stT C g t d ρ M).wp fun ρ1 M1 => (stTs C g ts l ρ1 M1).wp Q := by simp only [stTs, w_bind]
/-! statements -/
theorem e_bnil : (exB C g .nil ρ M).wp E = E.nx ρ M := rfl
theorem e_bcons {s : Sx} {l : Sxs} : (exB C g (.cons s l) ρ M).wp E = (exS C g s ρ M).wp ⟨fun ρ1 M1 => (exB C g l ρ1 M1).wp E, E.rt, E.bk, E.ct⟩ := by simp only [exB, w_seq]
theorem e_asg {t : Tg} {e : Ex} : (exS C g (.asg t e) ρ M).wp E = (evE C g e ρ M).wp fun d M1 => (stT C g t d ρ M1).wp fun ρ1 M2 => E.nx ρ1 M2 := by simp only [exS, w_go]; rfl
theorem e_augs {o i : Ex} {op : Bop} {e : Ex} : (exS C g (.augs o i op e) ρ M).wp E = (evE C g o ρ M).wp fun x M1 => (evE C g i ρ M1).wp fun y M2 => (getoop x y M2).wp fun a M3 => (evE C g e ρ M3).wp fun b M4 => (augop op a b M4).wp fun z M5 => (stoop z x y M5).wp fun _ M6 => E.nx ρ M6 := by
  simp only [exS, w_go]
  rfl
theorem e_getoop {n : Nat} {k : Int} {Q : D → Hm → Prop} : (getoop (.ref n) (.int k) M).wp Q = lkL M[n]? fun l => (0 ≤ k ∧ k < (LN : Int)) ∧ op l[k.toNat]? fun d => Q d M := by
  simp only [getoop]
  cases M[n]? with
  | none => rfl
  | some x => cases x with
    | lst l =>
      show (if _ then _ else _ : R D).wp Q = _
      rw [w_ites]
      simp only [lkL, Option.bind_some, lst?, op]
      cases l[k.toNat]? <;> rfl
    | _ => rfl
theorem e_aug {i : Nat} {o : Bop} {e : Ex} : (exS C g (.aug i o e) ρ M).wp E = lk ρ[i]? fun x => (evE C g e ρ M).wp fun y M1 => (augop o x y M1).wp fun z M2 => E.nx (ρ.set i (some z)) M2 := by
  simp only [exS]
  cases ρ[i]? with
  | none => rfl
  | some w => cases w with
    | none => rfl
    | some x => simp only [w_go, lk]; rfl
theorem e_ex {e : Ex} : (exS C g (.ex e) ρ M).wp E = (evE C g e ρ M).wp fun _ M1 => E.nx ρ M1 := by simp only [exS, w_go]; rfl
theorem e_ret {e : Ex} : (exS C g (.ret e) ρ M).wp E = (evE C g e ρ M).wp fun d M1 => E.rt d M1 := by simp only [exS, w_go]; rfl
theorem e_retn : (exS C g .retn ρ M).wp E = E.rt .non M := rfl
theorem e_pass : (exS C g .pass ρ M).wp E = E.nx ρ M := rfl
theorem e_brk : (exS C g .brk ρ M).wp E = E.bk ρ M := rfl
theorem e_ct : (exS C g .ct ρ M).wp E = E.ct ρ M := rfl
theorem w_fite {c : Prop} [Decidable c] {a b : F} : (if c then a else b).wp E = cnd c (a.wp E) (b.wp E) := by unfold cnd; split <;> rfl
theorem e_ite {c : Ex} {a b : Sxs} : (exS C g (.ite c a b) ρ M).wp E = (evE C g c ρ M).wp fun x M1 => tst M1 x fun t => cnd (t = true) ((exB C g a ρ M1).wp E) ((exB C g b ρ M1).wp E) := by simp only [exS, w_go, w_test, w_fite]
theorem e_for {t : Tg} {i : Ix} {b : Sxs} : (exS C g (.for t i b) ρ M).wp E = (evI C g i ρ M).wp fun it M1 => (loop (stT C g t) (exB C g b) it.ok it.items ρ M1).wp E := by simp only [exS, w_go]
theorem e_while {c : Ex} {b : Sxs} : (exS C g (.while c b) ρ M).wp E = (wloop (fun ρ M => test (evE C g c ρ M)) (exB C g b) WF ρ M).wp E := by simp only [exS]
theorem e_mat {e : Ex} {l : Mcs} : (exS C g (.mat e l) ρ M).wp E = (evE C g e ρ M).wp fun d M1 => (exM C g l d ρ M1).wp E := by simp only [exS, w_go]
theorem e_mnil {d : D} : (exM C g .nil d ρ M).wp E = E.nx ρ M := rfl
theorem e_mcons {p : List S} {b : Sxs} {l : Mcs} {d : D} : (exM C g (.cons p b l) d ρ M).wp E = (flat d = true ∧ cnd (p.any (fun z => feq d (.str z)) = true) ((exB C g b ρ M).wp E) ((exM C g l d ρ M).wp E)) := by
  simp only [exM]
  split
  · next h => simp only [h, true_and, w_fite]
  · next h => exact (eq_false fun z => h z.1).symm
/-! operations, by shape -/
theorem e_addI {i j : Int} : (binop .add (.int i) (.int j) M).wp Q = Q (.int (i + j)) M := rfl
theorem e_addS {i j : S} : (binop .add (.str i) (.str j) M).wp Q = (i.length + j.length ≤ LN ∧ Q (.str (i ++ j)) M) := by simp only [binop, w_ites]; rfl
theorem e_addT {i j : List D} : (binop .add (.tup i) (.tup j) M).wp Q = (i.length + j.length ≤ LN ∧ Q (.tup (i ++ j)) M) := by simp only [binop, w_ites]; rfl
theorem e_addL {i j : Nat} : (binop .add (.ref i) (.ref j) M).wp Q = lkL M[i]? fun a => lkL M[j]? fun b => a.length + b.length ≤ LN ∧ Q (.ref M.length) (M ++ [.lst (a ++ b)]) := by
  simp only [binop]
  cases M[i]? with
  | none => rfl
  | some x => cases x with
    | lst a => cases M[j]? with
      | none => rfl
      | some y => cases y with
        | lst b => simp only [lkL, Option.bind_some, lst?, op, w_ites]; rfl
        | _ => rfl
    | _ => rfl
theorem e_subI {i j : Int} : (binop .sub (.int i) (.int j) M).wp Q = Q (.int (i - j)) M := rfl
theorem e_mulI {i j : Int} : (binop .mul (.int i) (.int j) M).wp Q = (bits i + bits j < 1000000 ∧ Q (.int (i * j)) M) := by simp only [binop, w_ites]; rfl
theorem e_mulL {i : Nat} {k : Int} : (binop .mul (.ref i) (.int k) M).wp Q = lkL M[i]? fun a => (-BIG ≤ k ∧ k < BIG ∧ a.length * k.toNat ≤ LN) ∧ Q (.ref M.length) (M ++ [.lst (List.replicate k.toNat a).flatten]) := by
  simp only [binop]
  cases M[i]? with
  | none => rfl
  | some x => cases x with
    | lst a => simp only [lkL, Option.bind_some, lst?, op, w_ites]; rfl
    | _ => rfl
theorem e_mulT {a : List D} {k : Int} : (binop .mul (.tup a) (.int k) M).wp Q = ((a ≠ [] ∧ 2 ≤ k ∧ k ≤ 1000 ∧ a.length ≤ 1000) ∧ Q (.tup (List.replicate k.toNat a).flatten) M) := by simp only [binop, w_ites]; rfl
theorem e_fdiv {i j : Int} : (binop .fdiv (.int i) (.int j) M).wp Q = ((0 < j ∧ bits j < 9000) ∧ Q (.int (i / j)) M) := by simp only [binop, w_ites]; rfl
theorem e_mod {i j : Int} : (binop .mod (.int i) (.int j) M).wp Q = (0 < j ∧ Q (.int (i % j)) M) := by simp only [binop, w_ites]; rfl
theorem e_pow {i j : Int} : (binop .pow (.int i) (.int j) M).wp Q = ((0 ≤ j ∧ j ≤ 1000000 ∧ i.natAbs < 2 ^ 64) ∧ Q (.int (i ^ j.toNat)) M) := by simp only [binop, w_ites]; rfl
theorem e_augA {i j : Int} : (augop .add (.int i) (.int j) M).wp Q = Q (.int (i + j)) M := rfl
theorem e_augS {i j : Int} : (augop .sub (.int i) (.int j) M).wp Q = Q (.int (i - j)) M := rfl
theorem e_augT {i j : S} : (augop .add (.str i) (.str j) M).wp Q = (i.length + j.length ≤ LN ∧ Q (.str (i ++ j)) M) := by simp only [augop, w_ites]; rfl
theorem e_ltI {i j : Int} : (cmpop .lt (.int i) (.int j) M).wp Q = Q (.bl (decide (i < j))) M := rfl
theorem e_leI {i j : Int} : (cmpop .le (.int i) (.int j) M).wp Q = Q (.bl (decide (i ≤ j))) M := rfl
theorem e_gtI {i j : Int} : (cmpop .gt (.int i) (.int j) M).wp Q = Q (.bl (decide (j < i))) M := rfl
theorem e_geI {i j : Int} : (cmpop .ge (.int i) (.int j) M).wp Q = Q (.bl (decide (j ≤ i))) M := rfl
theorem e_eq {x y : D} : (cmpop .eq x y M).wp Q = op (deq M x y) fun b => Q (.bl b) M := by simp only [cmpop, w_opt]; rfl
theorem e_ne {x y : D} : (cmpop .ne x y M).wp Q = op (deq M x y) fun b => Q (.bl (!b)) M := by simp only [cmpop, w_opt]; rfl
theorem e_is {x : D} : (cmpop .is x .non M).wp Q = Q (.bl (decide (x = .non))) M := rfl
theorem e_isnot {x : D} : (cmpop .isnot x .non M).wp Q = Q (.bl (!decide (x = .non))) M := rfl
theorem e_isB2 {a b : Bool} : (cmpop .is (.bl a) (.bl b) M).wp Q = Q (.bl (decide (a = b))) M := rfl
theorem e_isnotB2 {a b : Bool} : (cmpop .isnot (.bl a) (.bl b) M).wp Q = Q (.bl (!decide (a = b))) M := rfl
theorem e_inS {x : D} {z : S} : (cmpop .in x (.str z) M).wp Q = op (inS x z) fun b => Q (.bl b) M := by simp only [cmpop, w_opt]; rfl
theorem e_ninS {x : D} {z : S} : (cmpop .notin x (.str z) M).wp Q = op (inS x z) fun b => Q (.bl (!b)) M := by simp only [cmpop, w_opt]; rfl
theorem e_inR {x : D} {n : Nat} : (cmpop .in x (.ref n) M).wp Q = op (inQ M x (.ref n)) fun b => Q (.bl b) M := by simp only [cmpop, w_opt]; rfl
theorem e_inT {x : D} {l : List D} : (cmpop .in x (.tup l) M).wp Q = op (inQ M x (.tup l)) fun b => Q (.bl b) M := by simp only [cmpop, w_opt]; rfl
theorem e_ninR {x : D} {n : Nat} : (cmpop .notin x (.ref n) M).wp Q = op (inQ M x (.ref n)) fun b => Q (.bl (!b)) M := by simp only [cmpop, w_opt]; rfl
theorem e_ninT {x : D} {l : List D} : (cmpop .notin x (.tup l) M).wp Q = op (inQ M x (.tup l)) fun b => Q (.bl (!b)) M := by simp only [cmpop, w_opt]; rfl
theorem e_subD {ks : List S} {l : List D} {s : S} : (subop (.rod ks l) (.str s) M).wp Q = op (rodGet ks l s) fun d => Q d M := by simp only [subop]; cases rodGet ks l s <;> rfl
theorem e_subS {s : S} {i : Int} : (subop (.str s) (.int i) M).wp Q = (s.length ≤ LN ∧ op (at? s i) fun c => Q (.str [c]) M) := by
  simp only [subop, w_ites]; congr; cases at? s i <;> rfl
theorem e_subT {l : List D} {i : Int} : (subop (.tup l) (.int i) M).wp Q = op (at? l i) fun d => Q d M := by simp only [subop, seq?]; cases at? l i <;> rfl
theorem e_subR {l : List D} {i : Int} : (subop (.rol l) (.int i) M).wp Q = op (at? l i) fun d => Q d M := by simp only [subop, seq?]; cases at? l i <;> rfl
theorem e_subB {t f : D} {b : Bool} : (subop (.bod t f) (.bl b) M).wp Q = Q (if b then t else f) M := rfl
theorem e_subBd {n : Nat} {b : Bool} : (subop (.ref n) (.bl b) M).wp Q = lkB M[n]? fun t f => Q (if b then t else f) M := by
  simp only [subop]
  cases M[n]? with
  | none => rfl
  | some x => cases x <;> rfl
theorem e_subSd {n : Nat} {s : S} : (subop (.ref n) (.str s) M).wp Q = lkS M[n]? fun ks l => op (rodGet ks l s) fun d => Q d M := by
  simp only [subop]
  cases M[n]? with
  | none => rfl
  | some x => cases x with
    | sd ks l => simp only [lkS]; cases rodGet ks l s <;> rfl
    | _ => rfl
theorem e_subL {n : Nat} {i : Int} : (subop (.ref n) (.int i) M).wp Q = lkL M[n]? fun l => op (at? l i) fun d => Q d M := by
  simp only [subop, seq?]
  cases M[n]? with
  | none => rfl
  | some x => cases x with
    | lst l => simp only [lkL, Option.bind_some, lst?, op]; cases at? l i <;> rfl
    | _ => rfl
theorem e_slS {s : S} {lo hi : Option Int} : (slop (.str s) lo hi M).wp Q = (s.length ≤ LN ∧ Q (.str (cut s lo hi)) M) := by simp only [slop, w_ites]; rfl
theorem e_slT {s : List D} {lo hi : Option Int} : (slop (.tup s) lo hi M).wp Q = Q (.tup (cut s lo hi)) M := rfl
theorem e_slR {s : List D} {lo hi : Option Int} : (slop (.rol s) lo hi M).wp Q = Q (.ref M.length) (M ++ [.lst (cut s lo hi)]) := rfl
theorem e_slL {n : Nat} {lo hi : Option Int} : (slop (.ref n) lo hi M).wp Q = lkL M[n]? fun l => Q (.ref M.length) (M ++ [.lst (cut l lo hi)]) := by
  simp only [slop]
  cases M[n]? with
  | none => rfl
  | some x => cases x <;> rfl
theorem e_stoop {d : D} {n : Nat} {k : Int} {Q : Unit → Hm → Prop} : (stoop d (.ref n) (.int k) M).wp Q = lkL M[n]? fun l => op (ix l.length k) fun j => Q () (M.set n (.lst (l.set j d))) := by
  simp only [stoop]
  cases M[n]? with
  | none => rfl
  | some x => cases x with
    | lst l => simp only [lkL, Option.bind_some, lst?, op]; cases ix l.length k <;> rfl
    | _ => rfl
theorem e_stoopB {d : D} {n : Nat} {b : Bool} {Q : Unit → Hm → Prop} : (stoop d (.ref n) (.bl b) M).wp Q = lkB M[n]? fun t f => Q () (M.set n (if b then .bd d f else .bd t d)) := by
  simp only [stoop]
  cases M[n]? with
  | none => rfl
  | some x => cases x <;> rfl
theorem e_bi1 {b : Bi} {x : D} : (biop b [x] M).wp Q = (b1 b x M).wp Q := rfl
theorem e_bi2 {b : Bi} {x y : D} : (biop b [x, y] M).wp Q = (b2 b x y M).wp Q := rfl
theorem e_lenS {s : S} : (b1 .len (.str s) M).wp Q = (s.length ≤ LN ∧ Q (.int s.length) M) := by simp only [b1, fLen, w_ites]; rfl
theorem e_lenT {l : List D} : (b1 .len (.tup l) M).wp Q = Q (.int l.length) M := rfl
theorem e_lenR {l : List D} : (b1 .len (.rol l) M).wp Q = Q (.int l.length) M := rfl
def olen : O → Option Nat | .lst l => some l.length | .set l => some l.length | _ => none
theorem e_lenL {n : Nat} : (b1 .len (.ref n) M).wp Q = op (M[n]?.bind olen) fun k => Q (.int k) M := by
  simp only [b1, fLen]
  cases M[n]? with
  | none => rfl
  | some x => cases x <;> rfl
theorem e_dictB {t f : D} : (b1 .dict (.bod t f) M).wp Q = Q (.ref M.length) (M ++ [.bd t f]) := rfl
theorem e_dictR {n : Nat} : (b1 .dict (.ref n) M).wp Q = lkB M[n]? fun t f => Q (.ref M.length) (M ++ [.bd t f]) := by
  simp only [b1, fDict]
  cases M[n]? with
  | none => rfl
  | some x => cases x <;> rfl
theorem e_abs {i : Int} : (b1 .abs (.int i) M).wp Q = Q (.int (if i < 0 then -i else i)) M := rfl
theorem e_sum {d : D} : (b1 .sum d M).wp Q = op ((lsq? M d).bind ints?) fun l => Q (.int l.sum) M := by simp only [b1, fSum]; cases (lsq? M d).bind ints? <;> rfl
theorem e_all {d : D} : (b1 .all d M).wp Q = op ((lsq? M d).bind bls?) fun l => Q (.bl (l.all id)) M := by simp only [b1, fAll]; cases (lsq? M d).bind bls? <;> rfl
theorem e_any {d : D} : (b1 .any d M).wp Q = op ((lsq? M d).bind bls?) fun l => Q (.bl (l.any id)) M := by simp only [b1, fAny]; cases (lsq? M d).bind bls? <;> rfl
theorem e_max {d : D} : (b1 .max d M).wp Q = op ((lsq? M d).bind ints?) fun l => l ≠ [] ∧ Q (.int (imax l)) M := by
  simp only [b1, fMax]; cases (lsq? M d).bind ints? with
  | none => rfl
  | some l => by_cases h : l = [] <;> simp [h, op, R.wp]
theorem e_min {d : D} : (b1 .min d M).wp Q = op ((lsq? M d).bind ints?) fun l => l ≠ [] ∧ Q (.int (imin l)) M := by
  simp only [b1, fMin]; cases (lsq? M d).bind ints? with
  | none => rfl
  | some l => by_cases h : l = [] <;> simp [h, op, R.wp]
theorem e_sorted {d : D} : (b1 .sorted d M).wp Q = op ((bag? M d).bind strs?) fun z => z.length < 64 ∧ Q (.ref M.length) (M ++ [.lst ((ssort z).map .str)]) := by
  simp only [b1, fSorted]; cases (bag? M d).bind strs? with
  | none => rfl
  | some l => simp only [op, w_ites]; rfl
theorem e_set {d : D} : (b1 .set d M).wp Q = op ((seq? M d).bind strs?) fun l => l.length ≤ 1000 ∧ Q (.ref M.length) (M ++ [.set ((dedup l).map .str)]) := by
  simp only [b1, fSet]; cases (seq? M d).bind strs? with
  | none => rfl
  | some l => simp only [op, w_ites]; rfl
theorem e_list {d : D} : (b1 .list d M).wp Q = op (seq? M d) fun l => Q (.ref M.length) (M ++ [.lst l]) := by simp only [b1, fList]; cases seq? M d <;> rfl
theorem e_tuple {d : D} : (b1 .tuple d M).wp Q = op (seq? M d) fun l => Q (.tup l) M := by simp only [b1, fTuple]; cases seq? M d <;> rfl
theorem e_str1 {i : Int} : (b1 .str (.int i) M).wp Q = (bits i < 1920 ∧ Q (.str (istr i)) M) := by simp only [b1, fStr, w_ites]; rfl
theorem e_int1 {i : Int} : (b1 .int (.int i) M).wp Q = Q (.int i) M := rfl
theorem e_int2 {i : Bool} : (b1 .int (.bl i) M).wp Q = Q (.int (if i then 1 else 0)) M := rfl
theorem e_listxS {s : S} : (b1 .listx (.str s) M).wp Q = (s.length ≤ LN ∧ Q (.ref M.length) (M ++ [.lst (s.map fun c => .str [c])])) := by simp only [b1, fListX, w_ites]; rfl
theorem e_listxT {l : List D} : (b1 .listx (.tup l) M).wp Q = Q (.ref M.length) (M ++ [.lst l]) := rfl
theorem e_reprd {d : D} : (b1 .reprd d M).wp Q = op (pdX M d) fun p => (p.showable && decide (p.shown.length ≤ LN)) = true ∧ Q (.str p.shown.cps.toList) M := by
  simp only [b1, fReprD, op]
  cases pdX M d with
  | none => rfl
  | some p => simp only [w_ites]; rfl
theorem e_repr {d : D} : (b1 .repr d M).wp Q = op (pd M FUEL d) fun p => (PySem.SeqAt.shaped p && p.showable && decide (p.shown.length ≤ LN)) = true ∧ Q (.str p.shown.cps.toList) M := by
  simp only [b1, fRepr]; cases pd M FUEL d with
  | none => rfl
  | some l => simp only [op, w_ites]; rfl
theorem e_max2 {i j : Int} : (b2 .max (.int i) (.int j) M).wp Q = Q (.int (if j > i then j else i)) M := rfl
theorem e_min2 {i j : Int} : (b2 .min (.int i) (.int j) M).wp Q = Q (.int (if j < i then j else i)) M := rfl
theorem e_divmod {i j : Int} : (b2 .divmod (.int i) (.int j) M).wp Q = ((0 < j ∧ bits j < 9000) ∧ Q (.tup [.int (i / j), .int (i % j)]) M) := by simp only [b2, fDivmod, w_ites]; rfl
theorem e_append {o d : D} : (meop .append "list" o [d] M).wp Q = (mAppend o d M).wp Q := rfl
theorem e_extend {o d : D} : (meop .extend "list" o [d] M).wp Q = (mExtend o d M).wp Q := rfl
theorem e_join {o d : D} : (meop .join "str" o [d] M).wp Q = (mJoin o d M).wp Q := rfl
theorem e_mget {o k d : D} : (meop .get "dict" o [k, d] M).wp Q = (mGet o k d M).wp Q := rfl
theorem e_mgetS {n : Nat} {s : S} {d : D} : (mGet (.ref n) (.str s) d M).wp Q = lkS M[n]? fun ks l => Q ((rodGet ks l s).getD d) M := by
  simp only [mGet]
  cases M[n]? with
  | none => rfl
  | some x => cases x <;> rfl
theorem e_mgetI {n : Nat} {s : Int} {d : D} : (mGet (.ref n) (.int s) d M).wp Q = lkS M[n]? fun _ _ => Q d M := by
  simp only [mGet]
  cases M[n]? with
  | none => rfl
  | some x => cases x <;> rfl
theorem e_count {o d : D} : (meop .count "list" o [d] M).wp Q = (mCount o d M).wp Q := rfl
theorem e_mcount {n : Nat} {k : Int} : (mCount (.ref n) (.int k) M).wp Q = lkL M[n]? fun l => op (ints? l) fun zs => Q (.int ((zs.count k : Nat) : Int)) M := by
  simp only [mCount]
  cases M[n]? with
  | none => rfl
  | some x => cases x with
    | lst l => simp only [lkL, Option.bind_some, lst?, op]; cases ints? l <;> rfl
    | _ => rfl
theorem e_mapp {n : Nat} {d : D} : (mAppend (.ref n) d M).wp Q = lkL M[n]? fun l => l.length < LN ∧ Q .non (M.set n (.lst (l ++ [d]))) := by
  simp only [mAppend]
  cases M[n]? with
  | none => rfl
  | some x => cases x with
    | lst l => simp only [lkL, Option.bind_some, lst?, op, w_ites]; rfl
    | _ => rfl
theorem e_mext {n k : Nat} : (mExtend (.ref n) (.ref k) M).wp Q = lkL M[n]? fun l => lkL M[k]? fun r => l.length + r.length ≤ LN ∧ Q .non (M.set n (.lst (l ++ r))) := by
  simp only [mExtend]
  cases M[n]? with
  | none => rfl
  | some x => cases x with
    | lst l =>
      simp only [lkL, Option.bind_some, lst?, op]
      cases M[k]? with
      | none => rfl
      | some y => cases y with
        | lst r => simp only [Option.bind_some, lst?, w_ites]; rfl
        | _ => rfl
    | _ => rfl
theorem e_mextT {n : Nat} {r : List D} : (mExtend (.ref n) (.tup r) M).wp Q = lkL M[n]? fun l => l.length + r.length ≤ LN ∧ Q .non (M.set n (.lst (l ++ r))) := by
  simp only [mExtend]
  cases M[n]? with
  | none => rfl
  | some x => cases x with
    | lst l => simp only [lkL, Option.bind_some, lst?, op, w_ites]; rfl
    | _ => rfl
theorem e_mjoin {s : S} {d : D} : (mJoin (.str s) d M).wp Q = op ((seq? M d).bind strs?) fun l => (l.map (·.length)).sum + l.length * s.length ≤ LN ∧ Q (.str (joined s l)) M := by simp only [mJoin, w_opt, w_ites]; rfl
theorem e_itT {l : List D} {Q : It → Hm → Prop} : (iter (.tup l) M).wp Q = Q ⟨l, []⟩ M := rfl
theorem e_itR {l : List D} {Q : It → Hm → Prop} : (iter (.rol l) M).wp Q = Q ⟨l, []⟩ M := rfl
theorem e_itS {s : S} {Q : It → Hm → Prop} : (iter (.str s) M).wp Q = (s.length ≤ LN ∧ Q ⟨s.map fun c => .str [c], []⟩ M) := by simp only [iter, w_ites]; rfl
theorem e_itL {n : Nat} {Q : It → Hm → Prop} : (iter (.ref n) M).wp Q = lkL M[n]? fun l => Q ⟨l, [(n, .lst l)]⟩ M := by
  simp only [iter]
  cases M[n]? with
  | none => rfl
  | some x => cases x <;> rfl
theorem e_itG {i j : Int} {Q : It → Hm → Prop} : (iterR i j M).wp Q = ((-HALF ≤ i ∧ i < HALF ∧ -HALF ≤ j ∧ j < HALF) ∧ Q ⟨rng i (j - i).toNat, []⟩ M) := by simp only [iterR, w_ites]; rfl
theorem e_itE {n : Nat} {Q : It → Hm → Prop} : (iterE (.ref n) M).wp Q = lkL M[n]? fun l => Q ⟨enumd 0 l, [(n, .lst l)]⟩ M := by
  simp only [iterE]
  cases M[n]? with
  | none => rfl
  | some x => cases x <;> rfl
theorem e_itET {l : List D} {Q : It → Hm → Prop} : (iterE (.tup l) M).wp Q = Q ⟨enumd 0 l, []⟩ M := rfl
theorem e_itZT {l r : List D} {Q : It → Hm → Prop} : (iterZ (.tup l) (.tup r) M).wp Q = Q ⟨zipd l r, []⟩ M := rfl
theorem e_itZL {n m : Nat} {Q : It → Hm → Prop} : (iterZ (.ref n) (.ref m) M).wp Q = lkL M[n]? fun l => lkL M[m]? fun r => Q ⟨zipd l r, [(n, .lst l), (m, .lst r)]⟩ M := by
  simp only [iterZ]
  cases M[n]? with
  | none => rfl
  | some x => cases x with
    | lst a => cases M[m]? with
      | none => rfl
      | some y => cases y <;> rfl
    | _ => rfl
theorem e_tN {K : Bool → Prop} : tst M .non K = K false := rfl
theorem e_tB {b : Bool} {K : Bool → Prop} : tst M (.bl b) K = K b := rfl
theorem e_tI {i : Int} {K : Bool → Prop} : tst M (.int i) K = K (i != 0) := rfl
theorem e_tS {s : S} {K : Bool → Prop} : tst M (.str s) K = (s.length ≤ LN ∧ K (!s.isEmpty)) := by
  unfold tst; simp only [truth]; split
  · next h => simp [h, op]
  · next h => simp [h, op]
theorem e_tT {l : List D} {K : Bool → Prop} : tst M (.tup l) K = K (!l.isEmpty) := rfl
theorem e_tR {l : List D} {K : Bool → Prop} : tst M (.rol l) K = K (!l.isEmpty) := rfl
theorem e_tL {n : Nat} {K : Bool → Prop} : tst M (.ref n) K = lkL M[n]? fun l => K (!l.isEmpty) := by
  unfold tst; simp only [truth]
  cases M[n]? with
  | none => rfl
  | some x => cases x <;> rfl
theorem e_asI {i : Int} {K : Int → Prop} : asI (.int i) K = K i := rfl
theorem e_asB {i : Bool} {K : Bool → Prop} : asB (.bl i) K = K i := rfl
theorem e_asT {i : List D} {K : List D → Prop} : asT M (.tup i) K = K i := rfl
theorem e_asTL {n : Nat} {K : List D → Prop} : asT M (.ref n) K = lkL M[n]? K := by
  unfold asT lkL
  simp only [unp?]
  cases M[n]? with
  | none => rfl
  | some x => cases x <;> rfl
theorem e_tyN {K : String → Prop} : op (tyOf M .non) K = K "NoneType" := rfl
theorem e_tyB {b : Bool} {K : String → Prop} : op (tyOf M (.bl b)) K = K "bool" := rfl
theorem e_tyI {b : Int} {K : String → Prop} : op (tyOf M (.int b)) K = K "int" := rfl
theorem e_tyS {b : S} {K : String → Prop} : op (tyOf M (.str b)) K = K "str" := rfl
theorem e_tyT {b : List D} {K : String → Prop} : op (tyOf M (.tup b)) K = K "tuple" := rfl
theorem e_tyR {b : List D} {K : String → Prop} : op (tyOf M (.rol b)) K = K "list" := rfl
theorem e_isN {ts : List String} {K : Bool → Prop} : op (isty M .non ts) K = K (ts.any (istyN "NoneType")) := rfl
theorem e_isB {b : Bool} {ts : List String} {K : Bool → Prop} : op (isty M (.bl b) ts) K = K (ts.any (istyN "bool")) := rfl
theorem e_isI {b : Int} {ts : List String} {K : Bool → Prop} : op (isty M (.int b) ts) K = K (ts.any (istyN "int")) := rfl
theorem e_isS {b : S} {ts : List String} {K : Bool → Prop} : op (isty M (.str b) ts) K = K (ts.any (istyN "str")) := rfl
theorem e_isT {b : List D} {ts : List String} {K : Bool → Prop} : op (isty M (.tup b) ts) K = K (ts.any (istyN "tuple")) := rfl
theorem e_isR {b : List D} {ts : List String} {K : Bool → Prop} : op (isty M (.rol b) ts) K = K (ts.any (istyN "list")) := rfl
end
/-! places -/
theorem ix_nat {n k : Nat} (h : k < n) : ix n (k : Int) = some k := by
  unfold ix
  rw [if_pos (Int.natCast_nonneg k), if_pos (by omega)]; rfl
theorem at_nat {α : Type} {l : List α} {k : Nat} (h : k < l.length) : at? l (k : Int) = l[k]? := by unfold at?; rw [ix_nat h]; rfl
theorem at_int {α : Type} {l : List α} {i : Int} (h0 : 0 ≤ i) (h : i < l.length) : at? l i = l[i.toNat]? := by
  obtain ⟨k, rfl⟩ := Int.eq_ofNat_of_zero_le h0
  exact at_nat (by omega)
theorem a_0 {α : Type} {x : α} {l : List α} : at? (x :: l) 0 = some x := by rw [show (0 : Int) = ((0 : Nat) : Int) from rfl, at_nat (by simp)]; rfl
theorem a_1 {α : Type} {x y : α} {l : List α} : at? (x :: y :: l) 1 = some y := by rw [show (1 : Int) = ((1 : Nat) : Int) from rfl, at_nat (by simp)]; rfl
theorem a_2 {α : Type} {x y z : α} {l : List α} : at? (x :: y :: z :: l) 2 = some z := by rw [show (2 : Int) = ((2 : Nat) : Int) from rfl, at_nat (by simp)]; rfl
theorem a_3 {α : Type} {x y z w : α} {l : List α} : at? (x :: y :: z :: w :: l) 3 = some w := by rw [show (3 : Int) = ((3 : Nat) : Int) from rfl, at_nat (by simp)]; rfl
theorem x_30 : ix 3 0 = some 0 := rfl
theorem x_31 : ix 3 1 = some 1 := rfl
theorem x_32 : ix 3 2 = some 2 := rfl
theorem x_20 : ix 2 0 = some 0 := rfl
theorem x_21 : ix 2 1 = some 1 := rfl
theorem bits_le {i : Int} {n : Nat} (h0 : 0 ≤ i) (h : i < 2 ^ (n + 1)) : bits i ≤ n := by
  unfold bits
  by_cases hz : i.natAbs = 0
  · rw [hz]; exact Nat.zero_le _
  · have h1 : i.natAbs < 2 ^ (n + 1) := by
      have : (i.natAbs : Int) = i := by omega
      have h2 : ((2 ^ (n + 1) : Nat) : Int) = (2 : Int) ^ (n + 1) := by push_cast; rfl
      omega
    exact Nat.lt_succ_iff.mp ((Nat.log2_lt hz).mpr h1)
/-- a def's call, by its body -/
theorem call_wp {g : G} {n : Nat} {f : String} {args : List D} {M : Hm} {d : Def} {Q : D → Hm → Prop} (h : g.fn f = some d) (hl : args.length = d.pars) (hs : d.pars ≤ d.slots)
    (w : (exB (callF g n) g d.body (args.map some ++ List.replicate (d.slots - args.length) none) M).wp ⟨fun _ M' => Q .non M', Q, fun _ _ => False, fun _ _ => False⟩) : (callF g (n + 1) f args M).wp Q := by
  rw [callF_succ g n f args M h, if_pos ⟨hl, hs⟩]
  revert w
  generalize exB (callF g n) g d.body (args.map some ++ List.replicate (d.slots - args.length) none) M = x
  intro w
  cases x <;> exact w
end Rp

namespace Rp
def d__law_cell : Def := ⟨4, 2,
 (.cons (.ite (.cmp .lt (.var 1) (.bi .len (.cons (.var 0) .nil))) (.cons (.ret (.sub (.var 0) (.var 1)))
 .nil) .nil)
 (.cons (.asg (.name 2) (.bin .mod (.bin .mul (.int 50021) (.bin .add (.bin .add (.bin .mul (.var 1) (.var 1)) (.bin .mul (.int 13) (.var 1))) (.int 7))) (.int 2147482949)))
 (.cons (.for (.name 3) (.ex (.sl (.var 0) .none (.some (.int 3)))) (.cons (.asg (.name 2) (.bin .mod (.bin .add (.bin .mul (.var 2) (.int 38011)) (.var 3)) (.int 2147482949)))
 .nil))
 (.cons (.ret (.var 2))
 .nil))))⟩
def d__law_pool : Def := ⟨2, 1,
 (.cons (.asg (.name 1) (.ife (.or (.cmp .lt (.var 0) (.int 0)) (.cmp .ge (.var 0) (.bin .pow (.int 10) (.int 18)))) (.bi .abs (.cons (.var 0) .nil)) (.int 0)))
 (.cons (.ret (.lst (.cons (.bin .mod (.var 0) (.int 2147482949)) (.cons (.var 1) (.cons (.int 0) .nil)))))
 .nil))⟩
def d__law_draw : Def := ⟨4, 2,
 (.cons (.asg (.sub (.var 0) (.int 2)) (.bin .add (.sub (.var 0) (.int 2)) (.int 1)))
 (.cons (.asg (.name 2) (.sub (.var 0) (.int 0)))
 (.cons (.asg (.sub (.var 0) (.int 0)) (.bin .mod (.bin .add (.bin .add (.bin .mul (.var 2) (.bin .add (.bin .mod (.var 2) (.int 44017)) (.int 29009))) (.bin .mul (.int 60013) (.sub (.var 0) (.int 2)))) (.int 17)) (.int 2147482949)))
 (.cons (.ite (.cmp .gt (.sub (.var 0) (.int 1)) (.int 0)) (.cons (.asg (.tup (.cons (.sub (.var 0) (.int 1)) (.cons (.name 3) .nil))) (.bi .divmod (.cons (.sub (.var 0) (.int 1)) (.cons (.var 1) .nil))))
 (.cons (.ret (.var 3))
 .nil)) .nil)
 (.cons (.ret (.bin .mod (.bin .fdiv (.sub (.var 0) (.int 0)) (.int 32)) (.var 1)))
 .nil)))))⟩
/-- the pool at p: at most m draws so far -/
def Pool (M : Hm) (p : Nat) (m : Nat) : Prop := ∃ a b c : Int, M[p]? = some (.lst [.int a, .int b, .int c]) ∧ 0 ≤ a ∧ a < 2147482949 ∧ 0 ≤ b ∧ 0 ≤ c ∧ c ≤ m
theorem draw_wp {g : G} (h : g.fn "_law_draw" = some d__law_draw) {n : Nat} {M : Hm} {p m : Nat} {many : Int} (hp : Pool M p m) (hm : 0 < many) (hb : bits many < 9000) (hmm : m < 1000000000000) :
    (callF g (n + 1) "_law_draw" [.ref p, .int many] M).wp fun d M' => ∃ r : Int, d = .int r ∧ 0 ≤ r ∧ r < many ∧ Pool M' p (m + 1) ∧ M'.length = M.length ∧ ∀ i, i ≠ p → M'[i]? = M[i]? := by
  obtain ⟨a, b, c, hp, ha, ha2, hb0, hc, hc2⟩ := hp
  have hpl : p < M.length := (List.getElem?_eq_some_iff.mp hp).1
  refine call_wp h rfl (by decide) ?_
  have s1 : ∀ o, (M.set p o)[p]? = some o := fun o => List.getElem?_set_self hpl
  have s2 : ∀ o, M[p]? = some o → p < M.length := fun o h => (List.getElem?_eq_some_iff.mp h).1
  simp only [d__law_draw, ↓e_non, ↓e_bl, ↓e_int, ↓e_str, ↓e_var, ↓e_glo, ↓e_bin, ↓e_neg, ↓e_not, ↓e_cmp, ↓e_cmp2, ↓e_and, ↓e_or, ↓e_ife, ↓e_tup, ↓e_lst, ↓e_sub, ↓e_sl, ↓e_call, ↓e_calk, ↓e_bi, ↓e_isi, ↓e_me, ↓e_cpy, ↓e_bdd, ↓e_bcp, ↓e_lrg, ↓e_sdd, ↓e_tupd, ↓e_rev, ↓e_lc, ↓e_sc2, ↓e_esnil, ↓e_escons, ↓e_onone, ↓e_osome, ↓e_cnone, ↓e_csome, ↓e_iex, ↓e_irng1, ↓e_irng2, ↓e_ienum, ↓e_izip, ↓e_tname, ↓e_ttup, ↓e_tsub, ↓e_tsnil, ↓e_tscons, ↓e_bnil, ↓e_bcons, ↓e_asg, ↓e_augs, ↓e_getoop, ↓e_aug, ↓e_ex, ↓e_ret, ↓e_retn, ↓e_pass, ↓e_brk, ↓e_ct, ↓e_ite, ↓e_for, ↓e_while, ↓e_mat, ↓e_mnil, ↓e_mcons, ↓e_addI, ↓e_addS, ↓e_addT, ↓e_addL, ↓e_subI, ↓e_mulI, ↓e_mulL, ↓e_mulT, ↓e_fdiv, ↓e_mod, ↓e_pow, ↓e_augA, ↓e_augS, ↓e_augT, ↓e_ltI, ↓e_leI, ↓e_gtI, ↓e_geI, ↓e_eq, ↓e_ne, ↓e_is, ↓e_isnot, ↓e_isB2, ↓e_isnotB2, ↓e_inS, ↓e_ninS, ↓e_inR, ↓e_inT, ↓e_ninR, ↓e_ninT, ↓e_subD, ↓e_subS, ↓e_subT, ↓e_subR, ↓e_subB, ↓e_subBd, ↓e_subSd, ↓e_subL, ↓e_slS, ↓e_slT, ↓e_slR, ↓e_slL, ↓e_stoop, ↓e_stoopB, ↓e_bi1, ↓e_bi2, ↓e_lenS, ↓e_lenT, ↓e_lenR, ↓e_lenL, ↓e_dictB, ↓e_dictR, ↓e_abs, ↓e_sum, ↓e_all, ↓e_any, ↓e_max, ↓e_min, ↓e_sorted, ↓e_set, ↓e_list, ↓e_tuple, ↓e_str1, ↓e_int1, ↓e_int2, ↓e_listxS, ↓e_listxT, ↓e_reprd, ↓e_repr, ↓e_max2, ↓e_min2, ↓e_divmod, ↓e_append, ↓e_extend, ↓e_join, ↓e_mget, ↓e_mgetS, ↓e_mgetI, ↓e_count, ↓e_mcount, ↓e_mapp, ↓e_mext, ↓e_mextT, ↓e_mjoin, ↓e_itT, ↓e_itR, ↓e_itS, ↓e_itL, ↓e_itG, ↓e_itE, ↓e_itET, ↓e_itZT, ↓e_itZL, ↓e_tN, ↓e_tB, ↓e_tI, ↓e_tS, ↓e_tT, ↓e_tR, ↓e_tL, ↓e_asI, ↓e_asB, ↓e_asT, ↓e_asTL, ↓e_tyN, ↓e_tyB, ↓e_tyI, ↓e_tyS, ↓e_tyT, ↓e_tyR, ↓e_isN, ↓e_isB, ↓e_isI, ↓e_isS, ↓e_isT, ↓e_isR, lk_some, op_some, lkL_some, lkB_some, lkS_some, bdO_t, bdO_f, cnd_true, cnd_false, List.getElem?_cons_zero, List.getElem?_cons_succ, List.length_cons, List.length_nil, List.set_cons_zero, List.set_cons_succ, List.cons_append, List.nil_append, List.append_nil, List.map_cons, List.map_nil, List.replicate_succ, List.replicate_zero, Nat.reduceSub, Nat.reduceAdd, Nat.reduceLT, true_and, and_true, true_or, or_true, Option.isSome_some, Bool.not_true, Bool.not_false, Bool.false_eq_true, a_0, a_1, a_2, a_3, x_30, x_31, x_32, x_20, x_21, Tgs.len, Tgs.slots, Tg.slots, wipe, hp, s1, List.set_set]
  have ha3 : 0 ≤ a % 44017 := Int.emod_nonneg _ (by decide)
  have ha4 : a % 44017 < 44017 := Int.emod_lt_of_pos _ (by decide)
  have b1 : bits a ≤ 30 := bits_le ha (by omega)
  have b2 : bits (a % 44017 + 29009) ≤ 16 := bits_le (by omega) (by omega)
  have b3 : bits (c + 1) ≤ 40 := bits_le (by omega) (by omega)
  have b4 : bits 60013 ≤ 15 := by decide
  generalize hx : (a * (a % 44017 + 29009) + 60013 * (c + 1) + 17) % 2147482949 = x
  have hx0 : 0 ≤ x := by rw [← hx]; exact Int.emod_nonneg _ (by decide)
  have hx1 : x < 2147482949 := by rw [← hx]; exact Int.emod_lt_of_pos _ (by decide)
  have same : ∀ o : O, (M.set p o).length = M.length ∧ ∀ i, i ≠ p → (M.set p o)[i]? = M[i]? := fun o => ⟨List.length_set, fun i hi => List.getElem?_set_ne (Ne.symm hi)⟩
  have fin : ∀ (r y : Int), 0 ≤ r → r < many → 0 ≤ y → ∃ r' : Int, D.int r = .int r' ∧ 0 ≤ r' ∧ r' < many ∧ Pool (M.set p (.lst [.int x, .int y, .int (c + 1)])) p (m + 1) ∧ (M.set p (.lst [.int x, .int y, .int (c + 1)])).length = M.length ∧ ∀ i, i ≠ p → (M.set p (.lst [.int x, .int y, .int (c + 1)]))[i]? = M[i]? :=
    fun r y h1 h2 h3 => ⟨r, rfl, h1, h2, ⟨x, y, c + 1, s1 _, hx0, hx1, h3, by omega, by omega⟩, same _⟩
  refine ⟨by decide, by omega, by omega, by decide, cnd_by (fun hb1 => ?_) fun hb1 => ?_⟩
  · exact ⟨⟨hm, hb⟩, fin _ _ (Int.emod_nonneg _ (by omega)) (Int.emod_lt_of_pos _ hm) (Int.ediv_nonneg hb0 (by omega))⟩
  · exact ⟨⟨by decide, by decide⟩, hm, fin _ _ (Int.emod_nonneg _ (by omega)) (Int.emod_lt_of_pos _ hm) hb0⟩
end Rp

namespace Rp
/-! ## loops -/
theorem loop_wp {st : D → Lc → Hm → R Lc} {body : Lc → Hm → F} {ok : Hm → Bool} {E : Ep} (inv : List D → Lc → Hm → Prop) (step : ∀ x xs ρ M, inv (x :: xs) ρ M → ok M = true ∧ (st x ρ M).wp fun ρ1 M1 => (body ρ1 M1).wp ⟨inv xs, E.rt, E.nx, inv xs⟩)
    (fin : ∀ ρ M, inv [] ρ M → ok M = true ∧ E.nx ρ M) : ∀ (items : List D) (ρ : Lc) (M : Hm), inv items ρ M → (loop st body ok items ρ M).wp E
  | [], ρ, M, h => by
    obtain ⟨h1, h2⟩ := fin ρ M h
    unfold loop
    rw [if_pos h1]
    exact h2
  | x :: xs, ρ, M, h => by
    obtain ⟨h1, h2⟩ := step x xs ρ M h
    unfold loop
    rw [if_pos h1, w_go]
    refine h2.mono fun ρ1 M1 h3 => ?_
    revert h3
    generalize body ρ1 M1 = f
    intro h3
    cases f with
    | nx ρ2 M2 => exact loop_wp inv step fin xs ρ2 M2 h3
    | ct ρ2 M2 => exact loop_wp inv step fin xs ρ2 M2 h3
    | brk ρ2 M2 => exact h3
    | ret d M2 => exact h3
    | exc c fs M2 ρ2 => exact h3.elim
    | stuck => exact h3.elim
theorem turns_wp {st : D → Lc → Hm → R Lc} {c : Lc → Hm → R Bool} {f : Lc → Hm → R D} {ok : Hm → Bool} {ρ : Lc} {Q : D → Hm → Prop} (inv : List D → List D → Hm → Prop)
    (step : ∀ acc x xs M, inv acc (x :: xs) M → ok M = true ∧ acc.length < LN ∧ (st x ρ M).wp fun ρ1 M1 => (c ρ1 M1).wp fun b M2 => cnd (b = true) ((f ρ1 M2).wp fun d M3 => inv (acc ++ [d]) xs M3) (inv acc xs M2))
    (fin : ∀ acc M, inv acc [] M → ok M = true ∧ Q (.ref M.length) (M ++ [.lst acc])) : ∀ (items acc : List D) (M : Hm), inv acc items M → (turns st c f ok ρ acc items M).wp Q
  | [], acc, M, h => by
    obtain ⟨h1, h2⟩ := fin acc M h
    unfold turns
    rw [if_pos h1]
    exact h2
  | x :: xs, acc, M, h => by
    obtain ⟨h1, h0, h2⟩ := step acc x xs M h
    unfold turns
    rw [if_pos ⟨h1, h0⟩, w_bind, w_quiet]
    refine h2.mono fun ρ1 M1 h3 => ?_
    rw [w_bind, w_quiet]
    refine h3.mono fun b M2 h4 => ?_
    cases b with
    | true =>
      rw [if_pos rfl, w_bind, w_quiet]
      unfold cnd at h4
      rw [if_pos rfl] at h4
      exact h4.mono fun d M3 h5 => turns_wp inv step fin xs (acc ++ [d]) M3 h5
    | false =>
      rw [if_neg Bool.false_ne_true]
      unfold cnd at h4
      rw [if_neg Bool.false_ne_true] at h4
      exact turns_wp inv step fin xs acc M2 h4
/-- a comprehension whose values are told one by one, by what stands in the heap -/
theorem comp_wp {st : D → Lc → Hm → R Lc} {f : Lc → Hm → R D} {ok : Hm → Bool} {ρ : Lc} {Q : D → Hm → Prop} (items : List D) {M : Hm} (K : Nat → List D → Hm → Prop) (h0 : K 0 [] M)
    (step : ∀ i x acc M, items[i]? = some x → acc.length = i → K i acc M → ok M = true ∧ (st x ρ M).wp fun ρ1 M1 => (f ρ1 M1).wp fun d M3 => K (i + 1) (acc ++ [d]) M3) (hl : items.length ≤ LN)
    (fin : ∀ acc M, acc.length = items.length → K items.length acc M → ok M = true ∧ Q (.ref M.length) (M ++ [.lst acc])) : (turns st (fun _ M => .ok true M) f ok ρ [] items M).wp Q := by
  refine turns_wp (inv := fun acc xs M => xs = items.drop acc.length ∧ acc.length ≤ items.length ∧ K acc.length acc M) (fun acc x xs M ⟨h1, h2, h3⟩ => ?_) (fun acc M ⟨h1, h2, h3⟩ => ?_) items [] M ⟨rfl, Nat.zero_le _, h0⟩
  · have hx : items[acc.length]? = some x := by
      have := congrArg (·[0]?) h1
      simpa using this.symm
    have hlt : acc.length < items.length := (List.getElem?_eq_some_iff.mp hx).1
    obtain ⟨k1, k2⟩ := step _ x acc M hx rfl h3
    refine ⟨k1, by omega, k2.mono fun ρ1 M1 k3 => ?_⟩
    show cnd (true = true) _ _
    unfold cnd
    rw [if_pos rfl]
    refine k3.mono fun d M3 k4 => ⟨?_, by simp; omega, by simpa using k4⟩
    rw [List.length_append, List.length_singleton, ← List.drop_drop, ← h1]; rfl
  · have hlen : acc.length = items.length := by
      have := congrArg List.length h1
      simp at this; omega
    exact fin acc M hlen (by rw [← hlen]; exact h3)
theorem evC_none {C : Cl} {g : G} : evC C g .none = fun _ M => R.ok true M := by funext ρ M; rfl
/-- no more than appended -/
def Grow (M M' : Hm) : Prop := ∃ T, M' = M ++ T
theorem Grow.refl {M : Hm} : Grow M M := ⟨[], by simp⟩
theorem Grow.trans {M M1 M2 : Hm} (a : Grow M M1) (b : Grow M1 M2) : Grow M M2 := by
  obtain ⟨s, rfl⟩ := a; obtain ⟨t, rfl⟩ := b; exact ⟨s ++ t, by simp⟩
theorem Grow.one {M : Hm} {o : O} : Grow M (M ++ [o]) := ⟨_, rfl⟩
theorem Grow.get {M M' : Hm} (h : Grow M M') {i : Nat} {o : O} (e : M[i]? = some o) : M'[i]? = some o := by
  obtain ⟨t, rfl⟩ := h
  rw [List.getElem?_append_left (List.getElem?_eq_some_iff.mp e).1]; exact e
theorem Grow.len {M M' : Hm} (h : Grow M M') : M.length ≤ M'.length := by obtain ⟨t, rfl⟩ := h; simp
/-- appended, and the pool at p changed -/
def Ext (p : Nat) (M M' : Hm) : Prop := M.length ≤ M'.length ∧ ∀ i, i < M.length → i ≠ p → M'[i]? = M[i]?
theorem Ext.refl {p : Nat} {M : Hm} : Ext p M M := ⟨Nat.le_refl _, fun _ _ _ => rfl⟩
theorem Ext.trans {p : Nat} {M M1 M2 : Hm} (a : Ext p M M1) (b : Ext p M1 M2) : Ext p M M2 := ⟨Nat.le_trans a.1 b.1, fun i h n => (b.2 i (Nat.lt_of_lt_of_le h a.1) n).trans (a.2 i h n)⟩
theorem Ext.of {p : Nat} {M M' : Hm} (h : M'.length = M.length) (k : ∀ i, i ≠ p → M'[i]? = M[i]?) : Ext p M M' := ⟨by omega, fun i _ n => k i n⟩
theorem Grow.ext {p : Nat} {M M' : Hm} (h : Grow M M') : Ext p M M' := by
  obtain ⟨t, rfl⟩ := h
  exact ⟨by simp, fun i hi _ => List.getElem?_append_left hi⟩
theorem Ext.get {p : Nat} {M M' : Hm} (h : Ext p M M') {i : Nat} {o : O} (e : M[i]? = some o) (n : i ≠ p) : M'[i]? = some o := by
  rw [h.2 i (List.getElem?_eq_some_iff.mp e).1 n]; exact e
theorem Pool.grow {M M' : Hm} {p m : Nat} (h : Pool M p m) (k : Grow M M') : Pool M' p m := by
  obtain ⟨a, b, c, h1, r⟩ := h
  exact ⟨a, b, c, k.get h1, r⟩
theorem Pool.le {M : Hm} {p m m' : Nat} (h : Pool M p m) (k : m ≤ m') : Pool M p m' := by
  obtain ⟨a, b, c, h1, h2, h3, h4, h5, h6⟩ := h
  exact ⟨a, b, c, h1, h2, h3, h4, h5, by omega⟩
theorem Pool.lt {M : Hm} {p m : Nat} (h : Pool M p m) : p < M.length := by
  obtain ⟨a, b, c, h1, r⟩ := h
  exact (List.getElem?_eq_some_iff.mp h1).1
theorem len_new {M : Hm} {o : O} : (M ++ [o])[M.length]? = some o := by simp
theorem cell_wp {g : G} (h : g.fn "_law_cell" = some d__law_cell) {n : Nat} {M : Hm} {ns : List Int} {k : Nat} (hk : k < 1000000) : (callF g (n + 1) "_law_cell" [.rol (ns.map .int), .int k] M).wp fun d M' => ∃ i, d = .int i ∧ Grow M M' := by
  refine call_wp h rfl (by decide) ?_
  simp only [d__law_cell, ↓e_non, ↓e_bl, ↓e_int, ↓e_str, ↓e_var, ↓e_glo, ↓e_bin, ↓e_neg, ↓e_not, ↓e_cmp, ↓e_cmp2, ↓e_and, ↓e_or, ↓e_ife, ↓e_tup, ↓e_lst, ↓e_sub, ↓e_sl, ↓e_call, ↓e_calk, ↓e_bi, ↓e_isi, ↓e_me, ↓e_cpy, ↓e_bdd, ↓e_bcp, ↓e_lrg, ↓e_sdd, ↓e_tupd, ↓e_rev, ↓e_lc, ↓e_sc2, ↓e_esnil, ↓e_escons, ↓e_onone, ↓e_osome, ↓e_cnone, ↓e_csome, ↓e_iex, ↓e_irng1, ↓e_irng2, ↓e_ienum, ↓e_izip, ↓e_tname, ↓e_ttup, ↓e_tsub, ↓e_tsnil, ↓e_tscons, ↓e_bnil, ↓e_bcons, ↓e_asg, ↓e_augs, ↓e_getoop, ↓e_aug, ↓e_ex, ↓e_ret, ↓e_retn, ↓e_pass, ↓e_brk, ↓e_ct, ↓e_ite, ↓e_for, ↓e_while, ↓e_mat, ↓e_mnil, ↓e_mcons, ↓e_addI, ↓e_addS, ↓e_addT, ↓e_addL, ↓e_subI, ↓e_mulI, ↓e_mulL, ↓e_mulT, ↓e_fdiv, ↓e_mod, ↓e_pow, ↓e_augA, ↓e_augS, ↓e_augT, ↓e_ltI, ↓e_leI, ↓e_gtI, ↓e_geI, ↓e_eq, ↓e_ne, ↓e_is, ↓e_isnot, ↓e_isB2, ↓e_isnotB2, ↓e_inS, ↓e_ninS, ↓e_inR, ↓e_inT, ↓e_ninR, ↓e_ninT, ↓e_subD, ↓e_subS, ↓e_subT, ↓e_subR, ↓e_subB, ↓e_subBd, ↓e_subSd, ↓e_subL, ↓e_slS, ↓e_slT, ↓e_slR, ↓e_slL, ↓e_stoop, ↓e_stoopB, ↓e_bi1, ↓e_bi2, ↓e_lenS, ↓e_lenT, ↓e_lenR, ↓e_lenL, ↓e_dictB, ↓e_dictR, ↓e_abs, ↓e_sum, ↓e_all, ↓e_any, ↓e_max, ↓e_min, ↓e_sorted, ↓e_set, ↓e_list, ↓e_tuple, ↓e_str1, ↓e_int1, ↓e_int2, ↓e_listxS, ↓e_listxT, ↓e_reprd, ↓e_repr, ↓e_max2, ↓e_min2, ↓e_divmod, ↓e_append, ↓e_extend, ↓e_join, ↓e_mget, ↓e_mgetS, ↓e_mgetI, ↓e_count, ↓e_mcount, ↓e_mapp, ↓e_mext, ↓e_mextT, ↓e_mjoin, ↓e_itT, ↓e_itR, ↓e_itS, ↓e_itL, ↓e_itG, ↓e_itE, ↓e_itET, ↓e_itZT, ↓e_itZL, ↓e_tN, ↓e_tB, ↓e_tI, ↓e_tS, ↓e_tT, ↓e_tR, ↓e_tL, ↓e_asI, ↓e_asB, ↓e_asT, ↓e_asTL, ↓e_tyN, ↓e_tyB, ↓e_tyI, ↓e_tyS, ↓e_tyT, ↓e_tyR, ↓e_isN, ↓e_isB, ↓e_isI, ↓e_isS, ↓e_isT, ↓e_isR, lk_some, op_some, lkL_some, lkB_some, lkS_some, bdO_t, bdO_f, cnd_true, cnd_false, List.getElem?_cons_zero, List.getElem?_cons_succ, List.length_cons, List.length_nil, List.set_cons_zero, List.set_cons_succ, List.cons_append, List.nil_append, List.append_nil, List.map_cons, List.map_nil, List.replicate_succ, List.replicate_zero, Nat.reduceSub, Nat.reduceAdd, Nat.reduceLT, true_and, and_true, true_or, or_true, Option.isSome_some, Bool.not_true, Bool.not_false, Bool.false_eq_true, a_0, a_1, a_2, a_3, x_30, x_31, x_32, x_20, x_21, Tgs.len, Tgs.slots, Tg.slots, wipe, List.length_map, len_new]
  have b1 : bits (k : Int) ≤ 20 := bits_le (by omega) (by omega)
  have b2 : bits ((k : Int) * k + 13 * k + 7) ≤ 60 := by
    have h2 : (k : Int) * k ≤ 1000000 * 1000000 := Int.mul_le_mul (by omega) (by omega) (by omega) (by decide)
    have h3 : 0 ≤ (k : Int) * k := Int.mul_nonneg (by omega) (by omega)
    exact bits_le (by omega) (by omega)
  have b3 : bits 13 ≤ 10 := by decide
  have b4 : bits 50021 ≤ 20 := by decide
  refine cnd_by (fun hlt => ?_) fun _ => ⟨by omega, by omega, by omega, by decide, ?_⟩
  · have hk2 : k < ns.length := by simpa using hlt
    rw [at_nat (by simpa using hk2), List.getElem?_map, List.getElem?_eq_getElem hk2]
    exact ⟨_, rfl, .refl⟩
  · refine loop_wp (inv := fun xs ρ M1 => M1 = M ++ [.lst (cut (ns.map .int) none (some 3))] ∧ (∀ x ∈ xs, ∃ i, x = .int i) ∧ ∃ (v : Int) (w : Option D), ρ = [some (.rol (ns.map .int)), some (.int k), some (.int v), w] ∧ 0 ≤ v ∧ v < 2147482949) ?_ ?_ _ _ _ ⟨rfl, fun x hx => ?_, _, _, rfl, Int.emod_nonneg _ (by decide), Int.emod_lt_of_pos _ (by decide)⟩
    · rintro x xs ρ M1 ⟨rfl, hx, v, w, rfl, hv, hv2⟩
      obtain ⟨i, rfl⟩ := hx x (List.mem_cons_self ..)
      refine ⟨by simp [It.ok], ?_⟩
      simp only [↓e_non, ↓e_bl, ↓e_int, ↓e_str, ↓e_var, ↓e_glo, ↓e_bin, ↓e_neg, ↓e_not, ↓e_cmp, ↓e_cmp2, ↓e_and, ↓e_or, ↓e_ife, ↓e_tup, ↓e_lst, ↓e_sub, ↓e_sl, ↓e_call, ↓e_calk, ↓e_bi, ↓e_isi, ↓e_me, ↓e_cpy, ↓e_bdd, ↓e_bcp, ↓e_lrg, ↓e_sdd, ↓e_tupd, ↓e_rev, ↓e_lc, ↓e_sc2, ↓e_esnil, ↓e_escons, ↓e_onone, ↓e_osome, ↓e_cnone, ↓e_csome, ↓e_iex, ↓e_irng1, ↓e_irng2, ↓e_ienum, ↓e_izip, ↓e_tname, ↓e_ttup, ↓e_tsub, ↓e_tsnil, ↓e_tscons, ↓e_bnil, ↓e_bcons, ↓e_asg, ↓e_augs, ↓e_getoop, ↓e_aug, ↓e_ex, ↓e_ret, ↓e_retn, ↓e_pass, ↓e_brk, ↓e_ct, ↓e_ite, ↓e_for, ↓e_while, ↓e_mat, ↓e_mnil, ↓e_mcons, ↓e_addI, ↓e_addS, ↓e_addT, ↓e_addL, ↓e_subI, ↓e_mulI, ↓e_mulL, ↓e_mulT, ↓e_fdiv, ↓e_mod, ↓e_pow, ↓e_augA, ↓e_augS, ↓e_augT, ↓e_ltI, ↓e_leI, ↓e_gtI, ↓e_geI, ↓e_eq, ↓e_ne, ↓e_is, ↓e_isnot, ↓e_isB2, ↓e_isnotB2, ↓e_inS, ↓e_ninS, ↓e_inR, ↓e_inT, ↓e_ninR, ↓e_ninT, ↓e_subD, ↓e_subS, ↓e_subT, ↓e_subR, ↓e_subB, ↓e_subBd, ↓e_subSd, ↓e_subL, ↓e_slS, ↓e_slT, ↓e_slR, ↓e_slL, ↓e_stoop, ↓e_stoopB, ↓e_bi1, ↓e_bi2, ↓e_lenS, ↓e_lenT, ↓e_lenR, ↓e_lenL, ↓e_dictB, ↓e_dictR, ↓e_abs, ↓e_sum, ↓e_all, ↓e_any, ↓e_max, ↓e_min, ↓e_sorted, ↓e_set, ↓e_list, ↓e_tuple, ↓e_str1, ↓e_int1, ↓e_int2, ↓e_listxS, ↓e_listxT, ↓e_reprd, ↓e_repr, ↓e_max2, ↓e_min2, ↓e_divmod, ↓e_append, ↓e_extend, ↓e_join, ↓e_mget, ↓e_mgetS, ↓e_mgetI, ↓e_count, ↓e_mcount, ↓e_mapp, ↓e_mext, ↓e_mextT, ↓e_mjoin, ↓e_itT, ↓e_itR, ↓e_itS, ↓e_itL, ↓e_itG, ↓e_itE, ↓e_itET, ↓e_itZT, ↓e_itZL, ↓e_tN, ↓e_tB, ↓e_tI, ↓e_tS, ↓e_tT, ↓e_tR, ↓e_tL, ↓e_asI, ↓e_asB, ↓e_asT, ↓e_asTL, ↓e_tyN, ↓e_tyB, ↓e_tyI, ↓e_tyS, ↓e_tyT, ↓e_tyR, ↓e_isN, ↓e_isB, ↓e_isI, ↓e_isS, ↓e_isT, ↓e_isR, lk_some, op_some, lkL_some, lkB_some, lkS_some, bdO_t, bdO_f, cnd_true, cnd_false, List.getElem?_cons_zero, List.getElem?_cons_succ, List.length_cons, List.length_nil, List.set_cons_zero, List.set_cons_succ, List.cons_append, List.nil_append, List.append_nil, List.map_cons, List.map_nil, List.replicate_succ, List.replicate_zero, Nat.reduceSub, Nat.reduceAdd, Nat.reduceLT, true_and, and_true, true_or, or_true, Option.isSome_some, Bool.not_true, Bool.not_false, Bool.false_eq_true, a_0, a_1, a_2, a_3, x_30, x_31, x_32, x_20, x_21, Tgs.len, Tgs.slots, Tg.slots, wipe]
      have b5 : bits v ≤ 30 := bits_le hv (by omega)
      have b6 : bits 38011 ≤ 20 := by decide
      exact ⟨by omega, by decide, fun x hx' => hx x (List.mem_cons_of_mem _ hx'), _, _, rfl, Int.emod_nonneg _ (by decide), Int.emod_lt_of_pos _ (by decide)⟩
    · rintro ρ M1 ⟨rfl, _, v, w, rfl, hv, hv2⟩
      refine ⟨by simp [It.ok], ?_⟩
      simp only [↓e_non, ↓e_bl, ↓e_int, ↓e_str, ↓e_var, ↓e_glo, ↓e_bin, ↓e_neg, ↓e_not, ↓e_cmp, ↓e_cmp2, ↓e_and, ↓e_or, ↓e_ife, ↓e_tup, ↓e_lst, ↓e_sub, ↓e_sl, ↓e_call, ↓e_calk, ↓e_bi, ↓e_isi, ↓e_me, ↓e_cpy, ↓e_bdd, ↓e_bcp, ↓e_lrg, ↓e_sdd, ↓e_tupd, ↓e_rev, ↓e_lc, ↓e_sc2, ↓e_esnil, ↓e_escons, ↓e_onone, ↓e_osome, ↓e_cnone, ↓e_csome, ↓e_iex, ↓e_irng1, ↓e_irng2, ↓e_ienum, ↓e_izip, ↓e_tname, ↓e_ttup, ↓e_tsub, ↓e_tsnil, ↓e_tscons, ↓e_bnil, ↓e_bcons, ↓e_asg, ↓e_augs, ↓e_getoop, ↓e_aug, ↓e_ex, ↓e_ret, ↓e_retn, ↓e_pass, ↓e_brk, ↓e_ct, ↓e_ite, ↓e_for, ↓e_while, ↓e_mat, ↓e_mnil, ↓e_mcons, ↓e_addI, ↓e_addS, ↓e_addT, ↓e_addL, ↓e_subI, ↓e_mulI, ↓e_mulL, ↓e_mulT, ↓e_fdiv, ↓e_mod, ↓e_pow, ↓e_augA, ↓e_augS, ↓e_augT, ↓e_ltI, ↓e_leI, ↓e_gtI, ↓e_geI, ↓e_eq, ↓e_ne, ↓e_is, ↓e_isnot, ↓e_isB2, ↓e_isnotB2, ↓e_inS, ↓e_ninS, ↓e_inR, ↓e_inT, ↓e_ninR, ↓e_ninT, ↓e_subD, ↓e_subS, ↓e_subT, ↓e_subR, ↓e_subB, ↓e_subBd, ↓e_subSd, ↓e_subL, ↓e_slS, ↓e_slT, ↓e_slR, ↓e_slL, ↓e_stoop, ↓e_stoopB, ↓e_bi1, ↓e_bi2, ↓e_lenS, ↓e_lenT, ↓e_lenR, ↓e_lenL, ↓e_dictB, ↓e_dictR, ↓e_abs, ↓e_sum, ↓e_all, ↓e_any, ↓e_max, ↓e_min, ↓e_sorted, ↓e_set, ↓e_list, ↓e_tuple, ↓e_str1, ↓e_int1, ↓e_int2, ↓e_listxS, ↓e_listxT, ↓e_reprd, ↓e_repr, ↓e_max2, ↓e_min2, ↓e_divmod, ↓e_append, ↓e_extend, ↓e_join, ↓e_mget, ↓e_mgetS, ↓e_mgetI, ↓e_count, ↓e_mcount, ↓e_mapp, ↓e_mext, ↓e_mextT, ↓e_mjoin, ↓e_itT, ↓e_itR, ↓e_itS, ↓e_itL, ↓e_itG, ↓e_itE, ↓e_itET, ↓e_itZT, ↓e_itZL, ↓e_tN, ↓e_tB, ↓e_tI, ↓e_tS, ↓e_tT, ↓e_tR, ↓e_tL, ↓e_asI, ↓e_asB, ↓e_asT, ↓e_asTL, ↓e_tyN, ↓e_tyB, ↓e_tyI, ↓e_tyS, ↓e_tyT, ↓e_tyR, ↓e_isN, ↓e_isB, ↓e_isI, ↓e_isS, ↓e_isT, ↓e_isR, lk_some, op_some, lkL_some, lkB_some, lkS_some, bdO_t, bdO_f, cnd_true, cnd_false, List.getElem?_cons_zero, List.getElem?_cons_succ, List.length_cons, List.length_nil, List.set_cons_zero, List.set_cons_succ, List.cons_append, List.nil_append, List.append_nil, List.map_cons, List.map_nil, List.replicate_succ, List.replicate_zero, Nat.reduceSub, Nat.reduceAdd, Nat.reduceLT, true_and, and_true, true_or, or_true, Option.isSome_some, Bool.not_true, Bool.not_false, Bool.false_eq_true, a_0, a_1, a_2, a_3, x_30, x_31, x_32, x_20, x_21, Tgs.len, Tgs.slots, Tg.slots, wipe]
      exact ⟨v, rfl, .one⟩
    · unfold cut at hx
      have := List.mem_of_mem_drop (List.mem_of_mem_take hx)
      obtain ⟨i, _, rfl⟩ := List.mem_map.mp this
      exact ⟨i, rfl⟩
theorem pool_wp {g : G} (h : g.fn "_law_pool" = some d__law_pool) {n : Nat} {M : Hm} {i : Int} : (callF g (n + 1) "_law_pool" [.int i] M).wp fun d M' => d = .ref M.length ∧ Pool M' M.length 0 ∧ Grow M M' := by
  refine call_wp h rfl (by decide) ?_
  simp only [d__law_pool, ↓e_non, ↓e_bl, ↓e_int, ↓e_str, ↓e_var, ↓e_glo, ↓e_bin, ↓e_neg, ↓e_not, ↓e_cmp, ↓e_cmp2, ↓e_and, ↓e_or, ↓e_ife, ↓e_tup, ↓e_lst, ↓e_sub, ↓e_sl, ↓e_call, ↓e_calk, ↓e_bi, ↓e_isi, ↓e_me, ↓e_cpy, ↓e_bdd, ↓e_bcp, ↓e_lrg, ↓e_sdd, ↓e_tupd, ↓e_rev, ↓e_lc, ↓e_sc2, ↓e_esnil, ↓e_escons, ↓e_onone, ↓e_osome, ↓e_cnone, ↓e_csome, ↓e_iex, ↓e_irng1, ↓e_irng2, ↓e_ienum, ↓e_izip, ↓e_tname, ↓e_ttup, ↓e_tsub, ↓e_tsnil, ↓e_tscons, ↓e_bnil, ↓e_bcons, ↓e_asg, ↓e_augs, ↓e_getoop, ↓e_aug, ↓e_ex, ↓e_ret, ↓e_retn, ↓e_pass, ↓e_brk, ↓e_ct, ↓e_ite, ↓e_for, ↓e_while, ↓e_mat, ↓e_mnil, ↓e_mcons, ↓e_addI, ↓e_addS, ↓e_addT, ↓e_addL, ↓e_subI, ↓e_mulI, ↓e_mulL, ↓e_mulT, ↓e_fdiv, ↓e_mod, ↓e_pow, ↓e_augA, ↓e_augS, ↓e_augT, ↓e_ltI, ↓e_leI, ↓e_gtI, ↓e_geI, ↓e_eq, ↓e_ne, ↓e_is, ↓e_isnot, ↓e_isB2, ↓e_isnotB2, ↓e_inS, ↓e_ninS, ↓e_inR, ↓e_inT, ↓e_ninR, ↓e_ninT, ↓e_subD, ↓e_subS, ↓e_subT, ↓e_subR, ↓e_subB, ↓e_subBd, ↓e_subSd, ↓e_subL, ↓e_slS, ↓e_slT, ↓e_slR, ↓e_slL, ↓e_stoop, ↓e_stoopB, ↓e_bi1, ↓e_bi2, ↓e_lenS, ↓e_lenT, ↓e_lenR, ↓e_lenL, ↓e_dictB, ↓e_dictR, ↓e_abs, ↓e_sum, ↓e_all, ↓e_any, ↓e_max, ↓e_min, ↓e_sorted, ↓e_set, ↓e_list, ↓e_tuple, ↓e_str1, ↓e_int1, ↓e_int2, ↓e_listxS, ↓e_listxT, ↓e_reprd, ↓e_repr, ↓e_max2, ↓e_min2, ↓e_divmod, ↓e_append, ↓e_extend, ↓e_join, ↓e_mget, ↓e_mgetS, ↓e_mgetI, ↓e_count, ↓e_mcount, ↓e_mapp, ↓e_mext, ↓e_mextT, ↓e_mjoin, ↓e_itT, ↓e_itR, ↓e_itS, ↓e_itL, ↓e_itG, ↓e_itE, ↓e_itET, ↓e_itZT, ↓e_itZL, ↓e_tN, ↓e_tB, ↓e_tI, ↓e_tS, ↓e_tT, ↓e_tR, ↓e_tL, ↓e_asI, ↓e_asB, ↓e_asT, ↓e_asTL, ↓e_tyN, ↓e_tyB, ↓e_tyI, ↓e_tyS, ↓e_tyT, ↓e_tyR, ↓e_isN, ↓e_isB, ↓e_isI, ↓e_isS, ↓e_isT, ↓e_isR, lk_some, op_some, lkL_some, lkB_some, lkS_some, bdO_t, bdO_f, cnd_true, cnd_false, List.getElem?_cons_zero, List.getElem?_cons_succ, List.length_cons, List.length_nil, List.set_cons_zero, List.set_cons_succ, List.cons_append, List.nil_append, List.append_nil, List.map_cons, List.map_nil, List.replicate_succ, List.replicate_zero, Nat.reduceSub, Nat.reduceAdd, Nat.reduceLT, true_and, and_true, true_or, or_true, Option.isSome_some, Bool.not_true, Bool.not_false, Bool.false_eq_true, a_0, a_1, a_2, a_3, x_30, x_31, x_32, x_20, x_21, Tgs.len, Tgs.slots, Tg.slots, wipe]
  have key : ∀ j : Int, 0 ≤ j → 0 < (2147482949 : Int) ∧ 3 ≤ LN ∧ Pool (M ++ [.lst [.int (i % 2147482949), .int j, .int 0]]) M.length 0 ∧ Grow M (M ++ [.lst [.int (i % 2147482949), .int j, .int 0]]) := fun j hj =>
    ⟨by decide, by decide, ⟨_, _, _, len_new, Int.emod_nonneg _ (by decide), Int.emod_lt_of_pos _ (by decide), hj, by decide, by decide⟩, .one⟩
  have hab : 0 ≤ (if i < 0 then -i else i) := by split <;> omega
  refine cnd_by (fun h1 => cnd_by (fun _ => key _ hab) fun _ => key _ (by decide)) fun h1 => ⟨⟨by decide, by decide, by decide⟩, cnd_by (fun _ => key _ hab) fun _ => key _ (by decide)⟩
end Rp

namespace Rp
def d__law_words : Def := ⟨12, 2,
 (.cons (.asg (.name 2) (.lst (.cons (.str [97, 108, 108]) (.cons (.str [97, 110, 121]) (.cons (.str [110, 111, 116]) (.cons (.str [114, 101, 116, 114, 121]) (.cons (.str [114, 101, 112, 101, 97, 116]) (.cons (.str [112, 108, 97, 110]) (.cons (.str [111, 107]) (.cons (.str [102, 97, 105, 108]) .nil))))))))))
 (.cons (.asg (.name 3) (.sub (.lst (.cons (.int 1) (.cons (.int 3) (.cons (.int 5) (.cons (.int 7) .nil))))) (.call "_law_draw" (.cons (.var 0) (.cons (.int 4) .nil)) [] .nil)))
 (.cons (.asg (.name 4) (.call "_law_draw" (.cons (.var 0) (.cons (.int 8) .nil)) [] .nil))
 (.cons (.ite (.cmp .eq (.call "_law_draw" (.cons (.var 0) (.cons (.int 4) .nil)) [] .nil) (.int 1)) (.cons (.ret (.bi .sorted (.cons (.lc (.sub (.var 2) (.bin .mod (.bin .add (.var 4) (.bin .mul (.var 3) (.var 10))) (.int 8))) (.name 10) (.rng1 (.var 1)) .none [10]) .nil)))
 .nil) .nil)
 (.cons (.asg (.name 5) (.str [97, 98, 99, 100, 101, 102, 103, 104, 105, 106, 107, 108, 109, 110, 111, 112, 113, 114, 115, 116, 117, 118, 119, 120, 121, 122]))
 (.cons (.asg (.name 6) (.me .join (.str []) (.cons (.lc (.sub (.var 5) (.call "_law_draw" (.cons (.var 0) (.cons (.int 26) .nil)) [] .nil)) (.name 10) (.rng1 (.call "_law_draw" (.cons (.var 0) (.cons (.int 6) .nil)) [] .nil)) .none [10]) .nil)))
 (.cons (.asg (.tup (.cons (.name 8) (.cons (.name 9) .nil))) (.tup (.cons (.call "_law_draw" (.cons (.var 0) (.cons (.bin .add (.bi .len (.cons (.var 6) .nil)) (.int 1)) .nil)) [] .nil) (.cons (.call "_law_draw" (.cons (.var 0) (.cons (.int 26) .nil)) [] .nil) .nil))))
 (.cons (.asg (.name 7) (.lc (.sub (.var 5) (.bin .mod (.bin .add (.var 9) (.bin .mul (.var 3) (.var 10))) (.int 26))) (.name 10) (.rng1 (.var 1)) .none [10]))
 (.cons (.ret (.bi .sorted (.cons (.lc (.bin .add (.bin .add (.sl (.var 6) .none (.some (.var 8))) (.var 11)) (.sl (.var 6) (.some (.var 8)) .none)) (.name 11) (.ex (.var 7)) .none [11]) .nil)))
 .nil)))))))))⟩
def d__law_often : Def := ⟨2, 2,
 (.cons (.ite (.cmp .lt (.var 1) (.int 99)) (.cons (.ret (.bin .add (.int 1) (.call "_law_draw" (.cons (.var 0) (.cons (.var 1) .nil)) [] .nil)))
 .nil) .nil)
 (.cons (.ret (.sub (.lst (.cons (.int 1) (.cons (.int 2) (.cons (.int 3) (.cons (.bin .pow (.int 10) (.int 30)) (.cons (.bin .pow (.int 10) (.int 20)) (.cons (.bin .add (.int 1) (.call "_law_draw" (.cons (.var 0) (.cons (.bin .pow (.int 10) (.int 30)) .nil)) [] .nil)) (.cons (.int 7) (.cons (.bin .add (.int 1) (.call "_law_draw" (.cons (.var 0) (.cons (.int 40) .nil)) [] .nil)) .nil))))))))) (.call "_law_draw" (.cons (.var 0) (.cons (.int 8) .nil)) [] .nil)))
 .nil))⟩
def d__law_tree : Def := ⟨10, 5,
 (.cons (.asg (.name 5) (.call "_law_draw" (.cons (.var 0) (.cons (.int 8) .nil)) [] .nil))
 (.cons (.ite (.or (.cmp .lt (.var 2) (.int 2)) (.or (.cmp .eq (.var 5) (.int 0)) (.and (.cmp .gt (.var 5) (.int 3)) (.cmp .lt (.var 3) (.int 2))))) (.cons (.ret (.sub (.var 1) (.call "_law_draw" (.cons (.var 0) (.cons (.bi .len (.cons (.var 1) .nil)) .nil)) [] .nil)))
 .nil) .nil)
 (.cons (.ite (.cmp .eq (.var 5) (.int 1)) (.cons (.ret (.tup (.cons (.str [110, 111, 116]) (.cons (.call "_law_tree" (.cons (.var 0) (.cons (.var 1) (.cons (.bin .sub (.var 2) (.int 1)) (.cons (.var 3) (.cons (.var 4) .nil))))) [] .nil) .nil))))
 .nil) .nil)
 (.cons (.ite (.cmp .lt (.var 5) (.int 4)) (.cons (.asg (.name 8) (.call "_law_tree" (.cons (.var 0) (.cons (.var 1) (.cons (.bin .sub (.var 2) (.int 1)) (.cons (.var 3) (.cons (.var 4) .nil))))) [] .nil))
 (.cons (.ret (.tup (.cons (.sub (.lst (.cons (.str [114, 101, 116, 114, 121]) (.cons (.str [114, 101, 112, 101, 97, 116]) .nil))) (.bin .sub (.var 5) (.int 2))) (.cons (.var 8) (.cons (.call "_law_often" (.cons (.var 0) (.cons (.var 4) .nil)) [] .nil) .nil)))))
 .nil)) .nil)
 (.cons (.asg (.name 6) (.bi .min (.cons (.var 3) (.cons (.bin .add (.int 2) (.call "_law_draw" (.cons (.var 0) (.cons (.int 3) .nil)) [] .nil)) .nil))))
 (.cons (.asg (.name 7) (.lc (.call "_law_tree" (.cons (.var 0) (.cons (.var 1) (.cons (.bin .sub (.var 2) (.int 1)) (.cons (.bin .fdiv (.var 3) (.var 6)) (.cons (.var 4) .nil))))) [] .nil) (.name 9) (.rng1 (.var 6)) .none [9]))
 (.cons (.ret (.tup (.cons (.sub (.lst (.cons (.str [97, 108, 108]) (.cons (.str [97, 110, 121]) .nil))) (.bin .mod (.var 5) (.int 2))) (.cons (.bi .tuple (.cons (.var 7) .nil)) .nil))))
 .nil)))))))⟩
/-- a step's text -/
def StepW (w : S) : Prop := 1 ≤ w.length ∧ w.length ≤ 6 ∧ ∀ c ∈ w, 97 ≤ c ∧ c ≤ 122
theorem pick4 (r : Int) (h0 : 0 ≤ r) (h1 : r < 4) : ∃ s : Int, at? [D.int 1, .int 3, .int 5, .int 7] r = some (.int s) ∧ 0 < s ∧ s < 8 := by
  have : r = 0 ∨ r = 1 ∨ r = 2 ∨ r = 3 := by omega
  rcases this with rfl | rfl | rfl | rfl
  · exact ⟨1, rfl, by decide, by decide⟩
  · exact ⟨3, rfl, by decide, by decide⟩
  · exact ⟨5, rfl, by decide, by decide⟩
  · exact ⟨7, rfl, by decide, by decide⟩
theorem strs_map : ∀ l : List S, strs? (l.map .str) = some l
  | [] => rfl
  | a :: l => by simp only [List.map_cons, strs?, strs_map l]; rfl
theorem bag_new {M : Hm} {l : List D} : bag? (M ++ [.lst l]) (.ref M.length) = some l := by simp only [bag?, len_new]
theorem seq_new {M : Hm} {l : List D} : seq? (M ++ [.lst l]) (.ref M.length) = some l := by simp only [seq?, len_new]
theorem deqI {M : Hm} {a b : Int} : deq M (.int a) (.int b) = some (a == b) := rfl
theorem draw_ext {g : G} (h : g.fn "_law_draw" = some d__law_draw) {n : Nat} {M : Hm} {p m : Nat} {many : Int} (hp : Pool M p m) (hm : 0 < many) (hb : bits many < 9000) (hmm : m < 1000000000000) :
    (callF g (n + 1) "_law_draw" [.ref p, .int many] M).wp fun d M' => ∃ r : Int, d = .int r ∧ 0 ≤ r ∧ r < many ∧ Pool M' p (m + 1) ∧ Ext p M M' ∧ M'.length = M.length :=
  (draw_wp h hp hm hb hmm).mono fun d M' ⟨r, e, h0, h1, h2, h3, h4⟩ => ⟨r, e, h0, h1, h2, .of h3 h4, h3⟩
theorem ssort_all {z : List S} (h : ∀ w ∈ z, StepW w) : ∀ w ∈ ssort z, StepW w := fun w hw => h w ((ssort_perm z).mem_iff.mp hw)
theorem rng_at {i n : Nat} {x : D} (h : (rng 0 n)[i]? = some x) : x = .int i ∧ i < n := by
  obtain ⟨h1, h2⟩ := range_at h
  exact ⟨by rw [h2]; simp, h1⟩
theorem rng_len {lo : Int} {n : Nat} : (rng lo n).length = n := by simp [rng]
/-- texts gathered one by one -/
def Texts (p m : Nat) (M0 : Hm) (ok : S → Prop) (i : Nat) (acc : List D) (M : Hm) : Prop := ∃ zs : List S, acc = zs.map .str ∧ (∀ w ∈ zs, ok w) ∧ Pool M p (m + i) ∧ Ext p M0 M
theorem Texts.snoc {p m : Nat} {M0 M M' : Hm} {ok : S → Prop} {i : Nat} {acc : List D} {w : S} (h : Texts p m M0 ok i acc M) (hw : ok w) (hp : Pool M' p (m + (i + 1))) (hx : Ext p M M') : Texts p m M0 ok (i + 1) (acc ++ [.str w]) M' := by
  obtain ⟨zs, rfl, h1, h2, h3⟩ := h
  exact ⟨zs ++ [w], by simp, fun x hx' => (List.mem_append.mp hx').elim (h1 x) fun e => by rw [List.mem_singleton.mp e]; exact hw, hp, h3.trans hx⟩
theorem abc_at (r : Int) (h0 : 0 ≤ r) (h1 : r < 26) : ∃ c, at? [97, 98, 99, 100, 101, 102, 103, 104, 105, 106, 107, 108, 109, 110, 111, 112, 113, 114, 115, 116, 117, 118, 119, 120, 121, 122] r = some c ∧ 97 ≤ c ∧ c ≤ 122 := by
  obtain ⟨k, rfl⟩ := Int.eq_ofNat_of_zero_le h0
  rw [at_nat (by simp; omega)]
  have hk : k < 26 := by omega
  have all : ∀ k : Fin 26, ∃ c, [97, 98, 99, 100, 101, 102, 103, 104, 105, 106, 107, 108, 109, 110, 111, 112, 113, 114, 115, 116, 117, 118, 119, 120, 121, 122][k.1]? = some c ∧ 97 ≤ c ∧ c ≤ 122 := by
    intro k
    refine ⟨97 + k.1, ?_, by omega, by omega⟩
    revert k
    decide
  exact all ⟨k, hk⟩
theorem own_at (r : Int) (h0 : 0 ≤ r) (h1 : r < 8) : ∃ w, at? [D.str [97, 108, 108], D.str [97, 110, 121], D.str [110, 111, 116], D.str [114, 101, 116, 114, 121], D.str [114, 101, 112, 101, 97, 116], D.str [112, 108, 97, 110], D.str [111, 107], D.str [102, 97, 105, 108]] r = some (.str w) ∧ StepW w := by
  have : r = 0 ∨ r = 1 ∨ r = 2 ∨ r = 3 ∨ r = 4 ∨ r = 5 ∨ r = 6 ∨ r = 7 := by omega
  rcases this with rfl | rfl | rfl | rfl | rfl | rfl | rfl | rfl <;> exact ⟨_, rfl, by decide, by decide, by decide⟩
theorem joined_nil : ∀ l : List S, joined [] l = l.flatten
  | [] => rfl
  | [a] => by simp [joined]
  | a :: b :: l => by
    have := joined_nil (b :: l)
    simp only [joined, this]; simp
theorem flat_len {k : Nat} : ∀ zs : List S, (∀ w ∈ zs, ∃ c, w = [c] ∧ 97 ≤ c ∧ c ≤ 122) → zs.flatten.length = zs.length ∧ (zs.map (·.length)).sum = zs.length ∧ ∀ c ∈ zs.flatten, 97 ≤ c ∧ c ≤ 122
  | [], _ => ⟨rfl, rfl, fun c hc => by cases hc⟩
  | w :: zs, h => by
    obtain ⟨c, rfl, c1, c2⟩ := h w (List.mem_cons_self ..)
    obtain ⟨h1, h2, h3⟩ := flat_len (k := k) zs fun w hw => h w (List.mem_cons_of_mem _ hw)
    refine ⟨by simp [h1], by simp [h2]; omega, fun x hx => ?_⟩
    simp only [List.flatten_cons, List.cons_append, List.nil_append, List.mem_cons] at hx
    rcases hx with rfl | hx
    · exact ⟨c1, c2⟩
    · exact h3 x hx
theorem sx_nat {n d k : Nat} : sx n d (some (k : Int)) = min k n := by
  have h : ¬ (k : Int) < 0 := by omega
  simp [sx, h]
theorem cut_to {α : Type} {l : List α} {k : Nat} (hk : k ≤ l.length) : cut l none (some (k : Int)) = l.take k := by
  unfold cut
  rw [sx_nat, Nat.min_eq_left hk]; rfl
theorem cut_from {α : Type} {l : List α} {k : Nat} (hk : k ≤ l.length) : cut l (some (k : Int)) none = l.drop k := by
  unfold cut
  rw [sx_nat, Nat.min_eq_left hk]
  exact List.take_of_length_le (by rw [List.length_drop]; exact Nat.le_refl _)
theorem cut_step {l : S} {i : Int} (h0 : 0 ≤ i) (h1 : i < l.length + 1) (hl : l.length ≤ 5) (ha : ∀ c ∈ l, 97 ≤ c ∧ c ≤ 122) {c : Nat} (hc1 : 97 ≤ c) (hc2 : c ≤ 122) : (cut l none (some i)).length ≤ 5 ∧ (cut l none (some i)).length + 1 ≤ 6 ∧ (cut l (some i) none).length ≤ 5 ∧ StepW (cut l none (some i) ++ [c] ++ cut l (some i) none) := by
  obtain ⟨k, rfl⟩ := Int.eq_ofNat_of_zero_le h0
  have hk : k ≤ l.length := by omega
  have e1 : cut l none (some (k : Int)) = l.take k := cut_to hk
  have e2 : cut l (some (k : Int)) none = l.drop k := cut_from hk
  rw [e1, e2]
  refine ⟨by simp; omega, by simp; omega, by simp; omega, by simp; omega, by simp; omega, fun x hx => ?_⟩
  simp only [List.append_assoc, List.cons_append, List.nil_append, List.mem_append, List.mem_cons] at hx
  rcases hx with hx | rfl | hx
  · exact ha x (List.mem_of_mem_take hx)
  · exact ⟨hc1, hc2⟩
  · exact ha x (List.mem_of_mem_drop hx)
theorem words_wp {g : G} (h : g.fn "_law_words" = some d__law_words) (hd : g.fn "_law_draw" = some d__law_draw) {n : Nat} {M : Hm} {p m : Nat} {many : Int} (hp : Pool M p m) (hm : 0 < many) (hm2 : many < 60) (hmm : m < 900000000000) :
    (callF g (n + 2) "_law_words" [.ref p, .int many] M).wp fun d M' => ∃ (q : Nat) (ws : List S), d = .ref q ∧ M'[q]? = some (.lst (ws.map .str)) ∧ ws.length = many.toNat ∧ (∀ w ∈ ws, StepW w) ∧ Pool M' p (m + 11) ∧ Ext p M M' ∧ M.length ≤ q := by
  refine call_wp h rfl (by decide) ?_
  have hpl := hp.lt
  have oa := own_at
  generalize hown : [D.str [97, 108, 108], D.str [97, 110, 121], D.str [110, 111, 116], D.str [114, 101, 116, 114, 121], D.str [114, 101, 112, 101, 97, 116], D.str [112, 108, 97, 110], D.str [111, 107], D.str [102, 97, 105, 108]] = own at oa
  simp only [d__law_words, ↓e_non, ↓e_bl, ↓e_int, ↓e_str, ↓e_var, ↓e_glo, ↓e_bin, ↓e_neg, ↓e_not, ↓e_cmp, ↓e_cmp2, ↓e_and, ↓e_or, ↓e_ife, ↓e_tup, ↓e_lst, ↓e_sub, ↓e_sl, ↓e_call, ↓e_calk, ↓e_bi, ↓e_isi, ↓e_me, ↓e_cpy, ↓e_bdd, ↓e_bcp, ↓e_lrg, ↓e_sdd, ↓e_tupd, ↓e_rev, ↓e_lc, ↓e_sc2, ↓e_esnil, ↓e_escons, ↓e_onone, ↓e_osome, ↓e_cnone, ↓e_csome, ↓e_iex, ↓e_irng1, ↓e_irng2, ↓e_ienum, ↓e_izip, ↓e_tname, ↓e_ttup, ↓e_tsub, ↓e_tsnil, ↓e_tscons, ↓e_bnil, ↓e_bcons, ↓e_asg, ↓e_augs, ↓e_getoop, ↓e_aug, ↓e_ex, ↓e_ret, ↓e_retn, ↓e_pass, ↓e_brk, ↓e_ct, ↓e_ite, ↓e_for, ↓e_while, ↓e_mat, ↓e_mnil, ↓e_mcons, ↓e_addI, ↓e_addS, ↓e_addT, ↓e_addL, ↓e_subI, ↓e_mulI, ↓e_mulL, ↓e_mulT, ↓e_fdiv, ↓e_mod, ↓e_pow, ↓e_augA, ↓e_augS, ↓e_augT, ↓e_ltI, ↓e_leI, ↓e_gtI, ↓e_geI, ↓e_eq, ↓e_ne, ↓e_is, ↓e_isnot, ↓e_isB2, ↓e_isnotB2, ↓e_inS, ↓e_ninS, ↓e_inR, ↓e_inT, ↓e_ninR, ↓e_ninT, ↓e_subD, ↓e_subS, ↓e_subT, ↓e_subR, ↓e_subB, ↓e_subBd, ↓e_subSd, ↓e_subL, ↓e_slS, ↓e_slT, ↓e_slR, ↓e_slL, ↓e_stoop, ↓e_stoopB, ↓e_bi1, ↓e_bi2, ↓e_lenS, ↓e_lenT, ↓e_lenR, ↓e_lenL, ↓e_dictB, ↓e_dictR, ↓e_abs, ↓e_sum, ↓e_all, ↓e_any, ↓e_max, ↓e_min, ↓e_sorted, ↓e_set, ↓e_list, ↓e_tuple, ↓e_str1, ↓e_int1, ↓e_int2, ↓e_listxS, ↓e_listxT, ↓e_reprd, ↓e_repr, ↓e_max2, ↓e_min2, ↓e_divmod, ↓e_append, ↓e_extend, ↓e_join, ↓e_mget, ↓e_mgetS, ↓e_mgetI, ↓e_count, ↓e_mcount, ↓e_mapp, ↓e_mext, ↓e_mextT, ↓e_mjoin, ↓e_itT, ↓e_itR, ↓e_itS, ↓e_itL, ↓e_itG, ↓e_itE, ↓e_itET, ↓e_itZT, ↓e_itZL, ↓e_tN, ↓e_tB, ↓e_tI, ↓e_tS, ↓e_tT, ↓e_tR, ↓e_tL, ↓e_asI, ↓e_asB, ↓e_asT, ↓e_asTL, ↓e_tyN, ↓e_tyB, ↓e_tyI, ↓e_tyS, ↓e_tyT, ↓e_tyR, ↓e_isN, ↓e_isB, ↓e_isI, ↓e_isS, ↓e_isT, ↓e_isR, lk_some, op_some, lkL_some, lkB_some, lkS_some, bdO_t, bdO_f, cnd_true, cnd_false, List.getElem?_cons_zero, List.getElem?_cons_succ, List.length_cons, List.length_nil, List.set_cons_zero, List.set_cons_succ, List.cons_append, List.nil_append, List.append_nil, List.map_cons, List.map_nil, List.replicate_succ, List.replicate_zero, Nat.reduceSub, Nat.reduceAdd, Nat.reduceLT, true_and, and_true, true_or, or_true, Option.isSome_some, Bool.not_true, Bool.not_false, Bool.false_eq_true, a_0, a_1, a_2, a_3, x_30, x_31, x_32, x_20, x_21, Tgs.len, Tgs.slots, Tg.slots, wipe, hd, hown]
  have ho : own.length = 8 := by rw [← hown]; rfl
  refine ⟨by rw [ho]; decide, by decide, ?_⟩
  have g1 : Grow M (M ++ [O.lst own]) := .one
  have g2 : Grow M (M ++ [O.lst own] ++ [.lst [.int 1, .int 3, .int 5, .int 7]]) := g1.trans .one
  have lq : (M ++ [O.lst own]).length = M.length + 1 := by simp
  refine (draw_ext hd (hp.grow g2) (by decide) (by decide) (by omega)).mono fun d M2 ⟨r, e, r0, r1, p2, x2, l2⟩ => ?_
  subst e
  have q2 : M2[(M ++ [O.lst own]).length]? = some (.lst [.int 1, .int 3, .int 5, .int 7]) := x2.get len_new (by omega)
  have o2 : M2[M.length]? = some (.lst own) := x2.get (Grow.one.get len_new) (by omega)
  obtain ⟨s, hs, s0, s1⟩ := pick4 r r0 r1
  simp only [e_subL, q2, lkL_some, hs, op_some]
  refine (draw_ext hd p2 (by decide) (by decide) (by omega)).mono fun d M3 ⟨f, e, f0, f1, p3, x3, l3⟩ => ?_
  subst e
  refine (draw_ext hd p3 (by decide) (by decide) (by omega)).mono fun d M4 ⟨b, e, b0, b1, p4, x4, l4⟩ => ?_
  subst e
  have o4 : M4[M.length]? = some (.lst own) := x4.get (x3.get o2 (by omega)) (by omega)
  have x04 : Ext p M M4 := g2.ext.trans (x2.trans (x3.trans x4))
  have ml : M.length ≤ M4.length := x04.1
  have bs : bits s ≤ 5 := bits_le (by omega) (by omega)
  have hk : ((many - 0).toNat) = many.toNat := by simp
  have hln : many.toNat ≤ LN := by have : LN = 16777216 := rfl; omega
  have hH : HALF = 4611686018427387904 := rfl
  simp only [deqI, op_some]
  refine cnd_by (fun _ => ?_) fun _ => ?_
  · refine ⟨by omega, ?_⟩
    rw [evC_none, hk]
    refine comp_wp _ (K := fun i acc M' => M' = M4 ∧ Texts p (m + 3) M4 StepW 0 acc M') ⟨rfl, [], rfl, (fun _ h => by cases h), by simpa using p4, .refl⟩ (fun i x acc M' hx hl ⟨e, hT⟩ => ?_) (by rw [rng_len]; exact hln) (fun acc M' hl ⟨e, hT⟩ => ?_)
    · subst e
      obtain ⟨rfl, hi⟩ := rng_at hx
      refine ⟨rfl, ?_⟩
      have bi : bits (i : Int) ≤ 10 := bits_le (by omega) (by omega)
      simp only [↓e_non, ↓e_bl, ↓e_int, ↓e_str, ↓e_var, ↓e_glo, ↓e_bin, ↓e_neg, ↓e_not, ↓e_cmp, ↓e_cmp2, ↓e_and, ↓e_or, ↓e_ife, ↓e_tup, ↓e_lst, ↓e_sub, ↓e_sl, ↓e_call, ↓e_calk, ↓e_bi, ↓e_isi, ↓e_me, ↓e_cpy, ↓e_bdd, ↓e_bcp, ↓e_lrg, ↓e_sdd, ↓e_tupd, ↓e_rev, ↓e_lc, ↓e_sc2, ↓e_esnil, ↓e_escons, ↓e_onone, ↓e_osome, ↓e_cnone, ↓e_csome, ↓e_iex, ↓e_irng1, ↓e_irng2, ↓e_ienum, ↓e_izip, ↓e_tname, ↓e_ttup, ↓e_tsub, ↓e_tsnil, ↓e_tscons, ↓e_bnil, ↓e_bcons, ↓e_asg, ↓e_augs, ↓e_getoop, ↓e_aug, ↓e_ex, ↓e_ret, ↓e_retn, ↓e_pass, ↓e_brk, ↓e_ct, ↓e_ite, ↓e_for, ↓e_while, ↓e_mat, ↓e_mnil, ↓e_mcons, ↓e_addI, ↓e_addS, ↓e_addT, ↓e_addL, ↓e_subI, ↓e_mulI, ↓e_mulL, ↓e_mulT, ↓e_fdiv, ↓e_mod, ↓e_pow, ↓e_augA, ↓e_augS, ↓e_augT, ↓e_ltI, ↓e_leI, ↓e_gtI, ↓e_geI, ↓e_eq, ↓e_ne, ↓e_is, ↓e_isnot, ↓e_isB2, ↓e_isnotB2, ↓e_inS, ↓e_ninS, ↓e_inR, ↓e_inT, ↓e_ninR, ↓e_ninT, ↓e_subD, ↓e_subS, ↓e_subT, ↓e_subR, ↓e_subB, ↓e_subBd, ↓e_subSd, ↓e_subL, ↓e_slS, ↓e_slT, ↓e_slR, ↓e_slL, ↓e_stoop, ↓e_stoopB, ↓e_bi1, ↓e_bi2, ↓e_lenS, ↓e_lenT, ↓e_lenR, ↓e_lenL, ↓e_dictB, ↓e_dictR, ↓e_abs, ↓e_sum, ↓e_all, ↓e_any, ↓e_max, ↓e_min, ↓e_sorted, ↓e_set, ↓e_list, ↓e_tuple, ↓e_str1, ↓e_int1, ↓e_int2, ↓e_listxS, ↓e_listxT, ↓e_reprd, ↓e_repr, ↓e_max2, ↓e_min2, ↓e_divmod, ↓e_append, ↓e_extend, ↓e_join, ↓e_mget, ↓e_mgetS, ↓e_mgetI, ↓e_count, ↓e_mcount, ↓e_mapp, ↓e_mext, ↓e_mextT, ↓e_mjoin, ↓e_itT, ↓e_itR, ↓e_itS, ↓e_itL, ↓e_itG, ↓e_itE, ↓e_itET, ↓e_itZT, ↓e_itZL, ↓e_tN, ↓e_tB, ↓e_tI, ↓e_tS, ↓e_tT, ↓e_tR, ↓e_tL, ↓e_asI, ↓e_asB, ↓e_asT, ↓e_asTL, ↓e_tyN, ↓e_tyB, ↓e_tyI, ↓e_tyS, ↓e_tyT, ↓e_tyR, ↓e_isN, ↓e_isB, ↓e_isI, ↓e_isS, ↓e_isT, ↓e_isR, lk_some, op_some, lkL_some, lkB_some, lkS_some, bdO_t, bdO_f, cnd_true, cnd_false, List.getElem?_cons_zero, List.getElem?_cons_succ, List.length_cons, List.length_nil, List.set_cons_zero, List.set_cons_succ, List.cons_append, List.nil_append, List.append_nil, List.map_cons, List.map_nil, List.replicate_succ, List.replicate_zero, Nat.reduceSub, Nat.reduceAdd, Nat.reduceLT, true_and, and_true, true_or, or_true, Option.isSome_some, Bool.not_true, Bool.not_false, Bool.false_eq_true, a_0, a_1, a_2, a_3, x_30, x_31, x_32, x_20, x_21, Tgs.len, Tgs.slots, Tg.slots, wipe, o4]
      obtain ⟨w, hw, hok⟩ := oa ((f + s * (i : Int)) % 8) (Int.emod_nonneg _ (by decide)) (Int.emod_lt_of_pos _ (by decide))
      refine ⟨by omega, by decide, ?_⟩
      rw [hw, op_some]
      obtain ⟨zs, rfl, h1, h2, h3⟩ := hT
      exact ⟨zs ++ [w], by simp, fun x hx' => (List.mem_append.mp hx').elim (h1 x) fun e => by rw [List.mem_singleton.mp e]; exact hok, h2, h3⟩
    · subst e
      obtain ⟨zs, rfl, h1, h2, h3⟩ := hT
      rw [rng_len, List.length_map] at hl
      refine ⟨rfl, ?_⟩
      rw [bag_new, Option.bind_some, strs_map, op_some]
      refine ⟨by omega, _, ssort zs, rfl, len_new, by rw [(ssort_perm zs).length_eq, hl], ssort_all h1, (h2.grow (Grow.one.trans .one)).le (by omega), x04.trans (Grow.one.trans .one).ext, by simp; omega⟩
  · refine (draw_ext hd p4 (by decide) (by decide) (by omega)).mono fun d M5 ⟨k, e, k0, k1, p5, x5, l5⟩ => ?_
    subst e
    simp only [e_asI]
    refine ⟨by omega, ?_⟩
    rw [evC_none]
    have hk5 : (k - 0).toNat = k.toNat := by simp
    rw [hk5]
    refine comp_wp _ (K := Texts p (m + 4) M5 fun w => ∃ c, w = [c] ∧ 97 ≤ c ∧ c ≤ 122) ⟨[], rfl, (fun _ h => by cases h), p5, .refl⟩ (fun i x acc M' hx hl hT => ?_) (by rw [rng_len]; have : LN = 16777216 := rfl; omega) (fun acc M6 hl hT => ?_)
    · obtain ⟨rfl, hi⟩ := rng_at hx
      refine ⟨rfl, ?_⟩
      simp only [↓e_non, ↓e_bl, ↓e_int, ↓e_str, ↓e_var, ↓e_glo, ↓e_bin, ↓e_neg, ↓e_not, ↓e_cmp, ↓e_cmp2, ↓e_and, ↓e_or, ↓e_ife, ↓e_tup, ↓e_lst, ↓e_sub, ↓e_sl, ↓e_call, ↓e_calk, ↓e_bi, ↓e_isi, ↓e_me, ↓e_cpy, ↓e_bdd, ↓e_bcp, ↓e_lrg, ↓e_sdd, ↓e_tupd, ↓e_rev, ↓e_lc, ↓e_sc2, ↓e_esnil, ↓e_escons, ↓e_onone, ↓e_osome, ↓e_cnone, ↓e_csome, ↓e_iex, ↓e_irng1, ↓e_irng2, ↓e_ienum, ↓e_izip, ↓e_tname, ↓e_ttup, ↓e_tsub, ↓e_tsnil, ↓e_tscons, ↓e_bnil, ↓e_bcons, ↓e_asg, ↓e_augs, ↓e_getoop, ↓e_aug, ↓e_ex, ↓e_ret, ↓e_retn, ↓e_pass, ↓e_brk, ↓e_ct, ↓e_ite, ↓e_for, ↓e_while, ↓e_mat, ↓e_mnil, ↓e_mcons, ↓e_addI, ↓e_addS, ↓e_addT, ↓e_addL, ↓e_subI, ↓e_mulI, ↓e_mulL, ↓e_mulT, ↓e_fdiv, ↓e_mod, ↓e_pow, ↓e_augA, ↓e_augS, ↓e_augT, ↓e_ltI, ↓e_leI, ↓e_gtI, ↓e_geI, ↓e_eq, ↓e_ne, ↓e_is, ↓e_isnot, ↓e_isB2, ↓e_isnotB2, ↓e_inS, ↓e_ninS, ↓e_inR, ↓e_inT, ↓e_ninR, ↓e_ninT, ↓e_subD, ↓e_subS, ↓e_subT, ↓e_subR, ↓e_subB, ↓e_subBd, ↓e_subSd, ↓e_subL, ↓e_slS, ↓e_slT, ↓e_slR, ↓e_slL, ↓e_stoop, ↓e_stoopB, ↓e_bi1, ↓e_bi2, ↓e_lenS, ↓e_lenT, ↓e_lenR, ↓e_lenL, ↓e_dictB, ↓e_dictR, ↓e_abs, ↓e_sum, ↓e_all, ↓e_any, ↓e_max, ↓e_min, ↓e_sorted, ↓e_set, ↓e_list, ↓e_tuple, ↓e_str1, ↓e_int1, ↓e_int2, ↓e_listxS, ↓e_listxT, ↓e_reprd, ↓e_repr, ↓e_max2, ↓e_min2, ↓e_divmod, ↓e_append, ↓e_extend, ↓e_join, ↓e_mget, ↓e_mgetS, ↓e_mgetI, ↓e_count, ↓e_mcount, ↓e_mapp, ↓e_mext, ↓e_mextT, ↓e_mjoin, ↓e_itT, ↓e_itR, ↓e_itS, ↓e_itL, ↓e_itG, ↓e_itE, ↓e_itET, ↓e_itZT, ↓e_itZL, ↓e_tN, ↓e_tB, ↓e_tI, ↓e_tS, ↓e_tT, ↓e_tR, ↓e_tL, ↓e_asI, ↓e_asB, ↓e_asT, ↓e_asTL, ↓e_tyN, ↓e_tyB, ↓e_tyI, ↓e_tyS, ↓e_tyT, ↓e_tyR, ↓e_isN, ↓e_isB, ↓e_isI, ↓e_isS, ↓e_isT, ↓e_isR, lk_some, op_some, lkL_some, lkB_some, lkS_some, bdO_t, bdO_f, cnd_true, cnd_false, List.getElem?_cons_zero, List.getElem?_cons_succ, List.length_cons, List.length_nil, List.set_cons_zero, List.set_cons_succ, List.cons_append, List.nil_append, List.append_nil, List.map_cons, List.map_nil, List.replicate_succ, List.replicate_zero, Nat.reduceSub, Nat.reduceAdd, Nat.reduceLT, true_and, and_true, true_or, or_true, Option.isSome_some, Bool.not_true, Bool.not_false, Bool.false_eq_true, a_0, a_1, a_2, a_3, x_30, x_31, x_32, x_20, x_21, Tgs.len, Tgs.slots, Tg.slots, wipe, hd]
      obtain ⟨zs, _, _, pT, _⟩ := id hT
      refine (draw_ext hd pT (by decide) (by decide) (by omega)).mono fun d M7 ⟨c, e, c0, c1, p7, x7, l7⟩ => ?_
      subst e
      obtain ⟨ch, hc, hc1, hc2⟩ := abc_at c c0 c1
      simp only [e_subS]
      refine ⟨by decide, ?_⟩
      rw [hc, op_some]
      exact hT.snoc ⟨ch, rfl, hc1, hc2⟩ p7 x7
    · obtain ⟨zs, rfl, h1, h2, h3⟩ := hT
      rw [rng_len, List.length_map] at hl
      rw [rng_len] at h2
      refine ⟨rfl, ?_⟩
      rw [seq_new, Option.bind_some, strs_map, op_some, joined_nil]
      obtain ⟨fl, fs, fa⟩ := flat_len (k := 0) zs h1
      generalize hst : zs.flatten = stem at fl fa ⊢
      have hLN : LN = 16777216 := rfl
      have hk6 : k.toNat < 6 := by omega
      refine ⟨by rw [fs]; omega, by omega, ?_⟩
      have p6 : Pool (M6 ++ [O.lst (zs.map D.str)]) p (m + 9) := (h2.grow .one).le (by omega)
      refine (draw_ext hd p6 (by omega) (by have : bits ((stem.length : Int) + 1) ≤ 5 := bits_le (by omega) (by omega); omega) (by omega)).mono fun d M7 ⟨u, e, u0, u1, p7, x7, l7⟩ => ?_
      subst e
      refine (draw_ext hd p7 (by decide) (by decide) (by omega)).mono fun d M8 ⟨v, e, v0, v1, p8, x8, l8⟩ => ?_
      subst e
      refine ⟨by decide, by omega, ?_⟩
      have x08 : Ext p M M8 := x04.trans (x5.trans (h3.trans (Grow.one.ext.trans (x7.trans x8))))
      have ml8 : M.length ≤ M8.length := x08.1
      rw [hk]
      refine comp_wp _ (K := fun i acc M' => M' = M8 ∧ ∃ zs : List S, acc = zs.map .str ∧ ∀ w ∈ zs, ∃ c, w = [c] ∧ 97 ≤ c ∧ c ≤ 122) ⟨rfl, [], rfl, fun _ h => by cases h⟩ (fun i x acc M' hx hl' ⟨e, ys, ey, hy⟩ => ?_) (by rw [rng_len]; exact hln) (fun acc M' hl' ⟨e, ys, ey, hy⟩ => ?_)
      · subst e ey
        obtain ⟨rfl, hi⟩ := rng_at hx
        refine ⟨rfl, ?_⟩
        have bi : bits (i : Int) ≤ 10 := bits_le (by omega) (by omega)
        simp only [↓e_non, ↓e_bl, ↓e_int, ↓e_str, ↓e_var, ↓e_glo, ↓e_bin, ↓e_neg, ↓e_not, ↓e_cmp, ↓e_cmp2, ↓e_and, ↓e_or, ↓e_ife, ↓e_tup, ↓e_lst, ↓e_sub, ↓e_sl, ↓e_call, ↓e_calk, ↓e_bi, ↓e_isi, ↓e_me, ↓e_cpy, ↓e_bdd, ↓e_bcp, ↓e_lrg, ↓e_sdd, ↓e_tupd, ↓e_rev, ↓e_lc, ↓e_sc2, ↓e_esnil, ↓e_escons, ↓e_onone, ↓e_osome, ↓e_cnone, ↓e_csome, ↓e_iex, ↓e_irng1, ↓e_irng2, ↓e_ienum, ↓e_izip, ↓e_tname, ↓e_ttup, ↓e_tsub, ↓e_tsnil, ↓e_tscons, ↓e_bnil, ↓e_bcons, ↓e_asg, ↓e_augs, ↓e_getoop, ↓e_aug, ↓e_ex, ↓e_ret, ↓e_retn, ↓e_pass, ↓e_brk, ↓e_ct, ↓e_ite, ↓e_for, ↓e_while, ↓e_mat, ↓e_mnil, ↓e_mcons, ↓e_addI, ↓e_addS, ↓e_addT, ↓e_addL, ↓e_subI, ↓e_mulI, ↓e_mulL, ↓e_mulT, ↓e_fdiv, ↓e_mod, ↓e_pow, ↓e_augA, ↓e_augS, ↓e_augT, ↓e_ltI, ↓e_leI, ↓e_gtI, ↓e_geI, ↓e_eq, ↓e_ne, ↓e_is, ↓e_isnot, ↓e_isB2, ↓e_isnotB2, ↓e_inS, ↓e_ninS, ↓e_inR, ↓e_inT, ↓e_ninR, ↓e_ninT, ↓e_subD, ↓e_subS, ↓e_subT, ↓e_subR, ↓e_subB, ↓e_subBd, ↓e_subSd, ↓e_subL, ↓e_slS, ↓e_slT, ↓e_slR, ↓e_slL, ↓e_stoop, ↓e_stoopB, ↓e_bi1, ↓e_bi2, ↓e_lenS, ↓e_lenT, ↓e_lenR, ↓e_lenL, ↓e_dictB, ↓e_dictR, ↓e_abs, ↓e_sum, ↓e_all, ↓e_any, ↓e_max, ↓e_min, ↓e_sorted, ↓e_set, ↓e_list, ↓e_tuple, ↓e_str1, ↓e_int1, ↓e_int2, ↓e_listxS, ↓e_listxT, ↓e_reprd, ↓e_repr, ↓e_max2, ↓e_min2, ↓e_divmod, ↓e_append, ↓e_extend, ↓e_join, ↓e_mget, ↓e_mgetS, ↓e_mgetI, ↓e_count, ↓e_mcount, ↓e_mapp, ↓e_mext, ↓e_mextT, ↓e_mjoin, ↓e_itT, ↓e_itR, ↓e_itS, ↓e_itL, ↓e_itG, ↓e_itE, ↓e_itET, ↓e_itZT, ↓e_itZL, ↓e_tN, ↓e_tB, ↓e_tI, ↓e_tS, ↓e_tT, ↓e_tR, ↓e_tL, ↓e_asI, ↓e_asB, ↓e_asT, ↓e_asTL, ↓e_tyN, ↓e_tyB, ↓e_tyI, ↓e_tyS, ↓e_tyT, ↓e_tyR, ↓e_isN, ↓e_isB, ↓e_isI, ↓e_isS, ↓e_isT, ↓e_isR, lk_some, op_some, lkL_some, lkB_some, lkS_some, bdO_t, bdO_f, cnd_true, cnd_false, List.getElem?_cons_zero, List.getElem?_cons_succ, List.length_cons, List.length_nil, List.set_cons_zero, List.set_cons_succ, List.cons_append, List.nil_append, List.append_nil, List.map_cons, List.map_nil, List.replicate_succ, List.replicate_zero, Nat.reduceSub, Nat.reduceAdd, Nat.reduceLT, true_and, and_true, true_or, or_true, Option.isSome_some, Bool.not_true, Bool.not_false, Bool.false_eq_true, a_0, a_1, a_2, a_3, x_30, x_31, x_32, x_20, x_21, Tgs.len, Tgs.slots, Tg.slots, wipe]
        obtain ⟨ch, hc, hc1, hc2⟩ := abc_at ((v + s * (i : Int)) % 26) (Int.emod_nonneg _ (by decide)) (Int.emod_lt_of_pos _ (by decide))
        refine ⟨by omega, by decide, by decide, ?_⟩
        rw [hc, op_some]
        exact ⟨ys ++ [[ch]], by simp, fun x hx' => (List.mem_append.mp hx').elim (hy x) fun e => by rw [List.mem_singleton.mp e]; exact ⟨ch, rfl, hc1, hc2⟩⟩
      · subst e ey
        rw [rng_len, List.length_map] at hl'
        refine ⟨rfl, ?_⟩
        simp only [e_itL, len_new, lkL_some]
        have hok : It.ok ⟨ys.map D.str, [(M'.length, .lst (ys.map D.str))]⟩ (M' ++ [.lst (ys.map D.str)]) = true := by simp [It.ok]
        refine comp_wp _ (K := fun i acc M9 => M9 = M' ++ [.lst (ys.map D.str)] ∧ ∃ zs : List S, acc = zs.map .str ∧ ∀ w ∈ zs, StepW w) ⟨rfl, [], rfl, fun _ h => by cases h⟩ (fun i x acc M9 hx hl9 ⟨e, us, eu, hu⟩ => ?_) (by rw [List.length_map]; omega) (fun acc M9 hl9 ⟨e, us, eu, hu⟩ => ?_)
        · subst e eu
          refine ⟨hok, ?_⟩
          rw [List.getElem?_map] at hx
          cases hyi : ys[i]? with
          | none => rw [hyi] at hx; cases hx
          | some y =>
            rw [hyi] at hx
            cases hx
            obtain ⟨c, rfl, c1, c2⟩ := hy y (List.mem_of_getElem? hyi)
            obtain ⟨t1, t2, t3, t4⟩ := cut_step u0 (by simpa using u1) (by omega) fa c1 c2
            simp only [↓e_non, ↓e_bl, ↓e_int, ↓e_str, ↓e_var, ↓e_glo, ↓e_bin, ↓e_neg, ↓e_not, ↓e_cmp, ↓e_cmp2, ↓e_and, ↓e_or, ↓e_ife, ↓e_tup, ↓e_lst, ↓e_sub, ↓e_sl, ↓e_call, ↓e_calk, ↓e_bi, ↓e_isi, ↓e_me, ↓e_cpy, ↓e_bdd, ↓e_bcp, ↓e_lrg, ↓e_sdd, ↓e_tupd, ↓e_rev, ↓e_lc, ↓e_sc2, ↓e_esnil, ↓e_escons, ↓e_onone, ↓e_osome, ↓e_cnone, ↓e_csome, ↓e_iex, ↓e_irng1, ↓e_irng2, ↓e_ienum, ↓e_izip, ↓e_tname, ↓e_ttup, ↓e_tsub, ↓e_tsnil, ↓e_tscons, ↓e_bnil, ↓e_bcons, ↓e_asg, ↓e_augs, ↓e_getoop, ↓e_aug, ↓e_ex, ↓e_ret, ↓e_retn, ↓e_pass, ↓e_brk, ↓e_ct, ↓e_ite, ↓e_for, ↓e_while, ↓e_mat, ↓e_mnil, ↓e_mcons, ↓e_addI, ↓e_addS, ↓e_addT, ↓e_addL, ↓e_subI, ↓e_mulI, ↓e_mulL, ↓e_mulT, ↓e_fdiv, ↓e_mod, ↓e_pow, ↓e_augA, ↓e_augS, ↓e_augT, ↓e_ltI, ↓e_leI, ↓e_gtI, ↓e_geI, ↓e_eq, ↓e_ne, ↓e_is, ↓e_isnot, ↓e_isB2, ↓e_isnotB2, ↓e_inS, ↓e_ninS, ↓e_inR, ↓e_inT, ↓e_ninR, ↓e_ninT, ↓e_subD, ↓e_subS, ↓e_subT, ↓e_subR, ↓e_subB, ↓e_subBd, ↓e_subSd, ↓e_subL, ↓e_slS, ↓e_slT, ↓e_slR, ↓e_slL, ↓e_stoop, ↓e_stoopB, ↓e_bi1, ↓e_bi2, ↓e_lenS, ↓e_lenT, ↓e_lenR, ↓e_lenL, ↓e_dictB, ↓e_dictR, ↓e_abs, ↓e_sum, ↓e_all, ↓e_any, ↓e_max, ↓e_min, ↓e_sorted, ↓e_set, ↓e_list, ↓e_tuple, ↓e_str1, ↓e_int1, ↓e_int2, ↓e_listxS, ↓e_listxT, ↓e_reprd, ↓e_repr, ↓e_max2, ↓e_min2, ↓e_divmod, ↓e_append, ↓e_extend, ↓e_join, ↓e_mget, ↓e_mgetS, ↓e_mgetI, ↓e_count, ↓e_mcount, ↓e_mapp, ↓e_mext, ↓e_mextT, ↓e_mjoin, ↓e_itT, ↓e_itR, ↓e_itS, ↓e_itL, ↓e_itG, ↓e_itE, ↓e_itET, ↓e_itZT, ↓e_itZL, ↓e_tN, ↓e_tB, ↓e_tI, ↓e_tS, ↓e_tT, ↓e_tR, ↓e_tL, ↓e_asI, ↓e_asB, ↓e_asT, ↓e_asTL, ↓e_tyN, ↓e_tyB, ↓e_tyI, ↓e_tyS, ↓e_tyT, ↓e_tyR, ↓e_isN, ↓e_isB, ↓e_isI, ↓e_isS, ↓e_isT, ↓e_isR, lk_some, op_some, lkL_some, lkB_some, lkS_some, bdO_t, bdO_f, cnd_true, cnd_false, List.getElem?_cons_zero, List.getElem?_cons_succ, List.length_cons, List.length_nil, List.set_cons_zero, List.set_cons_succ, List.cons_append, List.nil_append, List.append_nil, List.map_cons, List.map_nil, List.replicate_succ, List.replicate_zero, Nat.reduceSub, Nat.reduceAdd, Nat.reduceLT, true_and, and_true, true_or, or_true, Option.isSome_some, Bool.not_true, Bool.not_false, Bool.false_eq_true, a_0, a_1, a_2, a_3, x_30, x_31, x_32, x_20, x_21, Tgs.len, Tgs.slots, Tg.slots, wipe]
            refine ⟨by omega, by omega, by omega, by rw [List.length_append]; simp only [List.length_cons, List.length_nil]; omega, us ++ [cut stem none (some u) ++ [c] ++ cut stem (some u) none], by simp, fun x hx' => (List.mem_append.mp hx').elim (hu x) fun e => by rw [List.mem_singleton.mp e]; exact t4⟩
        · subst e eu
          rw [List.length_map, List.length_map] at hl9
          refine ⟨hok, ?_⟩
          rw [bag_new, Option.bind_some, strs_map, op_some]
          refine ⟨by omega, _, ssort us, rfl, len_new, by rw [(ssort_perm us).length_eq, hl9, hl'], ssort_all hu, (p8.grow (Grow.one.trans (Grow.one.trans .one))).le (by omega), x08.trans (Grow.one.trans (Grow.one.trans .one)).ext, by simp; omega⟩
end Rp

namespace Rp
/-! ## plans -/
inductive Tr where
  | leaf (s : S) | no (t : Tr) | rep (b : Bool) (t : Tr) (k : Int) | grp (b : Bool) (l : List Tr)
def repW (b : Bool) : S := if b then [114, 101, 112, 101, 97, 116] else [114, 101, 116, 114, 121]
def grpW (b : Bool) : S := if b then [97, 110, 121] else [97, 108, 108]
mutual
def enc : Tr → D
  | .leaf s => .str s
  | .no t => .tup [.str [110, 111, 116], enc t]
  | .rep b t k => .tup [.str (repW b), enc t, .int k]
  | .grp b l => .tup [.str (grpW b), .tup (encs l)]
def encs : List Tr → List D
  | [] => []
  | t :: l => enc t :: encs l
end
mutual
def lvs : Tr → List S
  | .leaf s => [s]
  | .no t => lvs t
  | .rep _ t _ => lvs t
  | .grp _ l => lvss l
def lvss : List Tr → List S
  | [] => []
  | t :: l => lvs t ++ lvss l
end
mutual
def dep : Tr → Nat
  | .leaf _ => 1
  | .no t => dep t + 1
  | .rep _ t _ => dep t + 1
  | .grp _ l => deps l + 1
def deps : List Tr → Nat
  | [] => 0
  | t :: l => max (dep t) (deps l)
end
mutual
def good : Tr → Prop
  | .leaf s => StepW s
  | .no t => good t
  | .rep _ t k => 1 ≤ k ∧ k ≤ 10 ^ 30 ∧ good t
  | .grp _ l => 2 ≤ l.length ∧ goods l
def goods : List Tr → Prop
  | [] => True
  | t :: l => good t ∧ goods l
end
theorem encs_len : ∀ l : List Tr, (encs l).length = l.length
  | [] => rfl
  | _ :: l => by simp [encs, encs_len l]
theorem encs_snoc : ∀ (l : List Tr) (t : Tr), encs (l ++ [t]) = encs l ++ [enc t]
  | [], t => rfl
  | a :: l, t => by simp [encs, encs_snoc l t]
theorem lvss_snoc : ∀ (l : List Tr) (t : Tr), lvss (l ++ [t]) = lvss l ++ lvs t
  | [], t => by simp [lvss]
  | a :: l, t => by simp [lvss, lvss_snoc l t]
theorem deps_snoc : ∀ (l : List Tr) (t : Tr), deps (l ++ [t]) = max (deps l) (dep t)
  | [], t => by simp [deps]
  | a :: l, t => by simp only [List.cons_append, deps, deps_snoc l t]; omega
theorem goods_snoc : ∀ (l : List Tr) (t : Tr), goods l → good t → goods (l ++ [t])
  | [], t, _, h => ⟨h, trivial⟩
  | a :: l, t, h, h2 => ⟨h.1, goods_snoc l t h.2 h2⟩
def cost : Nat → Nat
  | 0 => 0
  | d + 1 => 4 * cost d + 5
theorem often_wp {g : G} (h : g.fn "_law_often" = some d__law_often) (hd : g.fn "_law_draw" = some d__law_draw) {n : Nat} {M : Hm} {p m : Nat} {most : Int} (hp : Pool M p m) (hm : 0 < most) (hmm : m < 900000000000) :
    (callF g (n + 2) "_law_often" [.ref p, .int most] M).wp fun d M' => ∃ t : Int, d = .int t ∧ 1 ≤ t ∧ t ≤ 10 ^ 30 ∧ (most < 99 → t ≤ most) ∧ Pool M' p (m + 3) ∧ Ext p M M' := by
  refine call_wp h rfl (by decide) ?_
  simp only [d__law_often, ↓e_non, ↓e_bl, ↓e_int, ↓e_str, ↓e_var, ↓e_glo, ↓e_bin, ↓e_neg, ↓e_not, ↓e_cmp, ↓e_cmp2, ↓e_and, ↓e_or, ↓e_ife, ↓e_tup, ↓e_lst, ↓e_sub, ↓e_sl, ↓e_call, ↓e_calk, ↓e_bi, ↓e_isi, ↓e_me, ↓e_cpy, ↓e_bdd, ↓e_bcp, ↓e_lrg, ↓e_sdd, ↓e_tupd, ↓e_rev, ↓e_lc, ↓e_sc2, ↓e_esnil, ↓e_escons, ↓e_onone, ↓e_osome, ↓e_cnone, ↓e_csome, ↓e_iex, ↓e_irng1, ↓e_irng2, ↓e_ienum, ↓e_izip, ↓e_tname, ↓e_ttup, ↓e_tsub, ↓e_tsnil, ↓e_tscons, ↓e_bnil, ↓e_bcons, ↓e_asg, ↓e_augs, ↓e_getoop, ↓e_aug, ↓e_ex, ↓e_ret, ↓e_retn, ↓e_pass, ↓e_brk, ↓e_ct, ↓e_ite, ↓e_for, ↓e_while, ↓e_mat, ↓e_mnil, ↓e_mcons, ↓e_addI, ↓e_addS, ↓e_addT, ↓e_addL, ↓e_subI, ↓e_mulI, ↓e_mulL, ↓e_mulT, ↓e_fdiv, ↓e_mod, ↓e_pow, ↓e_augA, ↓e_augS, ↓e_augT, ↓e_ltI, ↓e_leI, ↓e_gtI, ↓e_geI, ↓e_eq, ↓e_ne, ↓e_is, ↓e_isnot, ↓e_isB2, ↓e_isnotB2, ↓e_inS, ↓e_ninS, ↓e_inR, ↓e_inT, ↓e_ninR, ↓e_ninT, ↓e_subD, ↓e_subS, ↓e_subT, ↓e_subR, ↓e_subB, ↓e_subBd, ↓e_subSd, ↓e_subL, ↓e_slS, ↓e_slT, ↓e_slR, ↓e_slL, ↓e_stoop, ↓e_stoopB, ↓e_bi1, ↓e_bi2, ↓e_lenS, ↓e_lenT, ↓e_lenR, ↓e_lenL, ↓e_dictB, ↓e_dictR, ↓e_abs, ↓e_sum, ↓e_all, ↓e_any, ↓e_max, ↓e_min, ↓e_sorted, ↓e_set, ↓e_list, ↓e_tuple, ↓e_str1, ↓e_int1, ↓e_int2, ↓e_listxS, ↓e_listxT, ↓e_reprd, ↓e_repr, ↓e_max2, ↓e_min2, ↓e_divmod, ↓e_append, ↓e_extend, ↓e_join, ↓e_mget, ↓e_mgetS, ↓e_mgetI, ↓e_count, ↓e_mcount, ↓e_mapp, ↓e_mext, ↓e_mextT, ↓e_mjoin, ↓e_itT, ↓e_itR, ↓e_itS, ↓e_itL, ↓e_itG, ↓e_itE, ↓e_itET, ↓e_itZT, ↓e_itZL, ↓e_tN, ↓e_tB, ↓e_tI, ↓e_tS, ↓e_tT, ↓e_tR, ↓e_tL, ↓e_asI, ↓e_asB, ↓e_asT, ↓e_asTL, ↓e_tyN, ↓e_tyB, ↓e_tyI, ↓e_tyS, ↓e_tyT, ↓e_tyR, ↓e_isN, ↓e_isB, ↓e_isI, ↓e_isS, ↓e_isT, ↓e_isR, lk_some, op_some, lkL_some, lkB_some, lkS_some, bdO_t, bdO_f, cnd_true, cnd_false, List.getElem?_cons_zero, List.getElem?_cons_succ, List.length_cons, List.length_nil, List.set_cons_zero, List.set_cons_succ, List.cons_append, List.nil_append, List.append_nil, List.map_cons, List.map_nil, List.replicate_succ, List.replicate_zero, Nat.reduceSub, Nat.reduceAdd, Nat.reduceLT, true_and, and_true, true_or, or_true, Option.isSome_some, Bool.not_true, Bool.not_false, Bool.false_eq_true, a_0, a_1, a_2, a_3, x_30, x_31, x_32, x_20, x_21, Tgs.len, Tgs.slots, Tg.slots, wipe, hd]
  refine cnd_by (fun h9 => ?_) fun h9 => ?_
  · have h9' : most < 99 := by simpa using h9
    have bm : bits most ≤ 7 := bits_le (by omega) (by omega)
    refine (draw_ext hd hp hm (by omega) (by omega)).mono fun d M2 ⟨r, e, r0, r1, p2, x2, l2⟩ => ?_
    subst e
    simp only [e_addI]
    exact ⟨1 + r, rfl, by omega, by omega, fun _ => by omega, p2.le (by omega), x2⟩
  · have e30 : (10 : Int) ^ Int.toNat 30 = 1000000000000000000000000000000 := by decide
    have e20 : (10 : Int) ^ Int.toNat 20 = 100000000000000000000 := by decide
    have e30' : (10 : Int) ^ 30 = 1000000000000000000000000000000 := by decide
    rw [e30, e20, e30']
    have h9' : ¬ most < 99 := by simpa using h9
    refine ⟨by decide, by decide, by decide, ?_⟩
    refine (draw_ext hd hp (by decide) (by decide) (by omega)).mono fun d M2 ⟨u, e, u0, u1, p2, x2, l2⟩ => ?_
    subst e
    simp only [e_addI]
    refine (draw_ext hd p2 (by decide) (by decide) (by omega)).mono fun d M3 ⟨v, e, v0, v1, p3, x3, l3⟩ => ?_
    subst e
    refine ⟨by decide, ?_⟩
    refine (draw_ext hd (p3.grow .one) (by decide) (by decide) (by omega)).mono fun d M4 ⟨r, e, r0, r1, p4, x4, l4⟩ => ?_
    subst e
    have q4 := x4.get (i := M3.length) len_new (by have := hp.lt; have := x2.1; have := x3.1; omega)
    simp only [e_subL, q4, lkL_some]
    have key : ∃ t : Int, at? [D.int 1, D.int 2, D.int 3, D.int 1000000000000000000000000000000, D.int 100000000000000000000, D.int (1 + u), D.int 7, D.int (1 + v)] r = some (.int t) ∧ 1 ≤ t ∧ t ≤ 1000000000000000000000000000000 := by
      have : r = 0 ∨ r = 1 ∨ r = 2 ∨ r = 3 ∨ r = 4 ∨ r = 5 ∨ r = 6 ∨ r = 7 := by omega
      rcases this with rfl | rfl | rfl | rfl | rfl | rfl | rfl | rfl <;> exact ⟨_, rfl, by omega, by omega⟩
    obtain ⟨t, ht, t1, t2⟩ := key
    rw [ht, op_some]
    exact ⟨t, rfl, t1, t2, fun z => absurd z h9', p4, x2.trans (x3.trans (Grow.one.ext.trans x4))⟩
/-- what a drawn tree is -/
structure Tree (ws : List S) (deep room : Nat) (t : Tr) : Prop where
  good : good t
  dep : dep t ≤ deep
  room : (lvs t).length ≤ room
  sub : ∀ w ∈ lvs t, w ∈ ws
theorem str_at {ws : List S} {r : Int} (h0 : 0 ≤ r) (h1 : r < ws.length) : ∃ w, at? (ws.map D.str) r = some (.str w) ∧ w ∈ ws := by
  obtain ⟨k, rfl⟩ := Int.eq_ofNat_of_zero_le h0
  have hk : k < ws.length := by omega
  rw [at_nat (by simpa using hk), List.getElem?_map, List.getElem?_eq_getElem hk]
  exact ⟨_, rfl, List.getElem_mem hk⟩
theorem cost_ge (deep : Nat) (h : 0 < deep) : 5 ≤ cost deep := by
  cases deep with
  | zero => omega
  | succ d => simp only [cost]; omega
theorem tree_wp {g : G} (h : g.fn "_law_tree" = some d__law_tree) (ho : g.fn "_law_often" = some d__law_often) (hd : g.fn "_law_draw" = some d__law_draw) {p q : Nat} {ws : List S} {most : Int} (hm : 0 < most) (hw : 0 < ws.length) (hw2 : ws.length < 100) (hok : ∀ w ∈ ws, StepW w) (hpq : q ≠ p) :
    ∀ (deep n : Nat) (room : Nat) (M : Hm) (m : Nat), 0 < deep → Pool M p m → M[q]? = some (.lst (ws.map .str)) → 0 < room → room < 1000 → m + cost deep < 900000000000 →
      (callF g (n + deep + 3) "_law_tree" [.ref p, .ref q, .int deep, .int room, .int most] M).wp fun d M' => ∃ t, d = enc t ∧ Tree ws deep room t ∧ Pool M' p (m + cost deep) ∧ Ext p M M' := by
  intro deep
  induction deep with
  | zero => intro n room M m h0; omega
  | succ deep ih =>
    intro n room M m h0 hp hq hr hr2 hmm
    have hc := cost_ge (deep + 1) h0
    refine call_wp h rfl (by decide) ?_
    simp only [d__law_tree, ↓e_non, ↓e_bl, ↓e_int, ↓e_str, ↓e_var, ↓e_glo, ↓e_bin, ↓e_neg, ↓e_not, ↓e_cmp, ↓e_cmp2, ↓e_and, ↓e_or, ↓e_ife, ↓e_tup, ↓e_lst, ↓e_sub, ↓e_sl, ↓e_call, ↓e_calk, ↓e_bi, ↓e_isi, ↓e_me, ↓e_cpy, ↓e_bdd, ↓e_bcp, ↓e_lrg, ↓e_sdd, ↓e_tupd, ↓e_rev, ↓e_lc, ↓e_sc2, ↓e_esnil, ↓e_escons, ↓e_onone, ↓e_osome, ↓e_cnone, ↓e_csome, ↓e_iex, ↓e_irng1, ↓e_irng2, ↓e_ienum, ↓e_izip, ↓e_tname, ↓e_ttup, ↓e_tsub, ↓e_tsnil, ↓e_tscons, ↓e_bnil, ↓e_bcons, ↓e_asg, ↓e_augs, ↓e_getoop, ↓e_aug, ↓e_ex, ↓e_ret, ↓e_retn, ↓e_pass, ↓e_brk, ↓e_ct, ↓e_ite, ↓e_for, ↓e_while, ↓e_mat, ↓e_mnil, ↓e_mcons, ↓e_addI, ↓e_addS, ↓e_addT, ↓e_addL, ↓e_subI, ↓e_mulI, ↓e_mulL, ↓e_mulT, ↓e_fdiv, ↓e_mod, ↓e_pow, ↓e_augA, ↓e_augS, ↓e_augT, ↓e_ltI, ↓e_leI, ↓e_gtI, ↓e_geI, ↓e_eq, ↓e_ne, ↓e_is, ↓e_isnot, ↓e_isB2, ↓e_isnotB2, ↓e_inS, ↓e_ninS, ↓e_inR, ↓e_inT, ↓e_ninR, ↓e_ninT, ↓e_subD, ↓e_subS, ↓e_subT, ↓e_subR, ↓e_subB, ↓e_subBd, ↓e_subSd, ↓e_subL, ↓e_slS, ↓e_slT, ↓e_slR, ↓e_slL, ↓e_stoop, ↓e_stoopB, ↓e_bi1, ↓e_bi2, ↓e_lenS, ↓e_lenT, ↓e_lenR, ↓e_lenL, ↓e_dictB, ↓e_dictR, ↓e_abs, ↓e_sum, ↓e_all, ↓e_any, ↓e_max, ↓e_min, ↓e_sorted, ↓e_set, ↓e_list, ↓e_tuple, ↓e_str1, ↓e_int1, ↓e_int2, ↓e_listxS, ↓e_listxT, ↓e_reprd, ↓e_repr, ↓e_max2, ↓e_min2, ↓e_divmod, ↓e_append, ↓e_extend, ↓e_join, ↓e_mget, ↓e_mgetS, ↓e_mgetI, ↓e_count, ↓e_mcount, ↓e_mapp, ↓e_mext, ↓e_mextT, ↓e_mjoin, ↓e_itT, ↓e_itR, ↓e_itS, ↓e_itL, ↓e_itG, ↓e_itE, ↓e_itET, ↓e_itZT, ↓e_itZL, ↓e_tN, ↓e_tB, ↓e_tI, ↓e_tS, ↓e_tT, ↓e_tR, ↓e_tL, ↓e_asI, ↓e_asB, ↓e_asT, ↓e_asTL, ↓e_tyN, ↓e_tyB, ↓e_tyI, ↓e_tyS, ↓e_tyT, ↓e_tyR, ↓e_isN, ↓e_isB, ↓e_isI, ↓e_isS, ↓e_isT, ↓e_isR, lk_some, op_some, lkL_some, lkB_some, lkS_some, bdO_t, bdO_f, cnd_true, cnd_false, List.getElem?_cons_zero, List.getElem?_cons_succ, List.length_cons, List.length_nil, List.set_cons_zero, List.set_cons_succ, List.cons_append, List.nil_append, List.append_nil, List.map_cons, List.map_nil, List.replicate_succ, List.replicate_zero, Nat.reduceSub, Nat.reduceAdd, Nat.reduceLT, true_and, and_true, true_or, or_true, Option.isSome_some, Bool.not_true, Bool.not_false, Bool.false_eq_true, a_0, a_1, a_2, a_3, x_30, x_31, x_32, x_20, x_21, Tgs.len, Tgs.slots, Tg.slots, wipe, hd, h, ho]
    refine (draw_ext hd hp (by decide) (by decide) (by omega)).mono fun d M1 ⟨way, e, y0, y1, p1, x1, l1⟩ => ?_
    subst e
    simp only [↓e_non, ↓e_bl, ↓e_int, ↓e_str, ↓e_var, ↓e_glo, ↓e_bin, ↓e_neg, ↓e_not, ↓e_cmp, ↓e_cmp2, ↓e_and, ↓e_or, ↓e_ife, ↓e_tup, ↓e_lst, ↓e_sub, ↓e_sl, ↓e_call, ↓e_calk, ↓e_bi, ↓e_isi, ↓e_me, ↓e_cpy, ↓e_bdd, ↓e_bcp, ↓e_lrg, ↓e_sdd, ↓e_tupd, ↓e_rev, ↓e_lc, ↓e_sc2, ↓e_esnil, ↓e_escons, ↓e_onone, ↓e_osome, ↓e_cnone, ↓e_csome, ↓e_iex, ↓e_irng1, ↓e_irng2, ↓e_ienum, ↓e_izip, ↓e_tname, ↓e_ttup, ↓e_tsub, ↓e_tsnil, ↓e_tscons, ↓e_bnil, ↓e_bcons, ↓e_asg, ↓e_augs, ↓e_getoop, ↓e_aug, ↓e_ex, ↓e_ret, ↓e_retn, ↓e_pass, ↓e_brk, ↓e_ct, ↓e_ite, ↓e_for, ↓e_while, ↓e_mat, ↓e_mnil, ↓e_mcons, ↓e_addI, ↓e_addS, ↓e_addT, ↓e_addL, ↓e_subI, ↓e_mulI, ↓e_mulL, ↓e_mulT, ↓e_fdiv, ↓e_mod, ↓e_pow, ↓e_augA, ↓e_augS, ↓e_augT, ↓e_ltI, ↓e_leI, ↓e_gtI, ↓e_geI, ↓e_eq, ↓e_ne, ↓e_is, ↓e_isnot, ↓e_isB2, ↓e_isnotB2, ↓e_inS, ↓e_ninS, ↓e_inR, ↓e_inT, ↓e_ninR, ↓e_ninT, ↓e_subD, ↓e_subS, ↓e_subT, ↓e_subR, ↓e_subB, ↓e_subBd, ↓e_subSd, ↓e_subL, ↓e_slS, ↓e_slT, ↓e_slR, ↓e_slL, ↓e_stoop, ↓e_stoopB, ↓e_bi1, ↓e_bi2, ↓e_lenS, ↓e_lenT, ↓e_lenR, ↓e_lenL, ↓e_dictB, ↓e_dictR, ↓e_abs, ↓e_sum, ↓e_all, ↓e_any, ↓e_max, ↓e_min, ↓e_sorted, ↓e_set, ↓e_list, ↓e_tuple, ↓e_str1, ↓e_int1, ↓e_int2, ↓e_listxS, ↓e_listxT, ↓e_reprd, ↓e_repr, ↓e_max2, ↓e_min2, ↓e_divmod, ↓e_append, ↓e_extend, ↓e_join, ↓e_mget, ↓e_mgetS, ↓e_mgetI, ↓e_count, ↓e_mcount, ↓e_mapp, ↓e_mext, ↓e_mextT, ↓e_mjoin, ↓e_itT, ↓e_itR, ↓e_itS, ↓e_itL, ↓e_itG, ↓e_itE, ↓e_itET, ↓e_itZT, ↓e_itZL, ↓e_tN, ↓e_tB, ↓e_tI, ↓e_tS, ↓e_tT, ↓e_tR, ↓e_tL, ↓e_asI, ↓e_asB, ↓e_asT, ↓e_asTL, ↓e_tyN, ↓e_tyB, ↓e_tyI, ↓e_tyS, ↓e_tyT, ↓e_tyR, ↓e_isN, ↓e_isB, ↓e_isI, ↓e_isS, ↓e_isT, ↓e_isR, lk_some, op_some, lkL_some, lkB_some, lkS_some, bdO_t, bdO_f, cnd_true, cnd_false, List.getElem?_cons_zero, List.getElem?_cons_succ, List.length_cons, List.length_nil, List.set_cons_zero, List.set_cons_succ, List.cons_append, List.nil_append, List.append_nil, List.map_cons, List.map_nil, List.replicate_succ, List.replicate_zero, Nat.reduceSub, Nat.reduceAdd, Nat.reduceLT, true_and, and_true, true_or, or_true, Option.isSome_some, Bool.not_true, Bool.not_false, Bool.false_eq_true, a_0, a_1, a_2, a_3, x_30, x_31, x_32, x_20, x_21, Tgs.len, Tgs.slots, Tg.slots, wipe, deqI]
    have LNe : LN = 16777216 := rfl
    have hH : HALF = 4611686018427387904 := rfl
    refine cnd_by (fun c1 => cnd_by (fun _ => ?_) fun z => absurd c1 z) fun c1 => cnd_by (fun c2 => cnd_by (fun _ => ?_) fun z => absurd c2 z) fun c2 => cnd_by (fun c3 => cnd_by (fun c4 => ?_) fun c4 => ?_) fun c3 => cnd_by (fun z => absurd z c3) fun _ => ?_
    ·
      have q1 := x1.get hq hpq
      simp only [q1, Option.bind_some, olen, op_some, List.length_map]
      refine (draw_ext hd p1 (by omega) (by have : bits (ws.length : Int) ≤ 10 := bits_le (by omega) (by omega); omega) (by omega)).mono fun d M2 ⟨r, e, r0, r1, p2, x2, l2⟩ => ?_
      subst e
      have q2 := x2.get q1 hpq
      simp only [e_subL, q2, lkL_some]
      obtain ⟨u, hu, hmem⟩ := str_at r0 r1
      rw [hu, op_some]
      exact ⟨.leaf u, rfl, ⟨hok u hmem, by simp only [dep]; omega, by simp only [lvs, List.length_singleton]; omega, fun v hv => by rw [List.mem_singleton.mp (show v ∈ [u] from hv)]; exact hmem⟩, p2.le (by omega), x1.trans x2⟩
    ·
      have q1 := x1.get hq hpq
      simp only [q1, Option.bind_some, olen, op_some, List.length_map]
      refine (draw_ext hd p1 (by omega) (by have : bits (ws.length : Int) ≤ 10 := bits_le (by omega) (by omega); omega) (by omega)).mono fun d M2 ⟨r, e, r0, r1, p2, x2, l2⟩ => ?_
      subst e
      have q2 := x2.get q1 hpq
      simp only [e_subL, q2, lkL_some]
      obtain ⟨u, hu, hmem⟩ := str_at r0 r1
      rw [hu, op_some]
      exact ⟨.leaf u, rfl, ⟨hok u hmem, by simp only [dep]; omega, by simp only [lvs, List.length_singleton]; omega, fun v hv => by rw [List.mem_singleton.mp (show v ∈ [u] from hv)]; exact hmem⟩, p2.le (by omega), x1.trans x2⟩
    ·
      have q1 := x1.get hq hpq
      simp only [q1, Option.bind_some, olen, op_some, List.length_map]
      refine (draw_ext hd p1 (by omega) (by have : bits (ws.length : Int) ≤ 10 := bits_le (by omega) (by omega); omega) (by omega)).mono fun d M2 ⟨r, e, r0, r1, p2, x2, l2⟩ => ?_
      subst e
      have q2 := x2.get q1 hpq
      simp only [e_subL, q2, lkL_some]
      obtain ⟨u, hu, hmem⟩ := str_at r0 r1
      rw [hu, op_some]
      exact ⟨.leaf u, rfl, ⟨hok u hmem, by simp only [dep]; omega, by simp only [lvs, List.length_singleton]; omega, fun v hv => by rw [List.mem_singleton.mp (show v ∈ [u] from hv)]; exact hmem⟩, p2.le (by omega), x1.trans x2⟩
    · have hd1 : ¬ ((deep + 1 : Nat) : Int) < 2 := by simpa using c1
      have hd0 : 0 < deep := by omega
      have w3 : 3 < way := by simpa using c3
      have r1' : ¬ ((room : Nat) : Int) < 2 := by simpa using c4
      have r2 : 2 ≤ room := by omega
      have n1 : ¬ (way == 1) = true := by simp; omega
      have n4 : ¬ decide (way < 4) = true := by simp; omega
      unfold cnd
      rw [if_neg n1, if_neg n4]
      refine (draw_ext hd p1 (by decide) (by decide) (by omega)).mono fun d M2 ⟨r, e, r0, r1, p2, x2, l2⟩ => ?_
      subst e
      simp only [↓e_non, ↓e_bl, ↓e_int, ↓e_str, ↓e_var, ↓e_glo, ↓e_bin, ↓e_neg, ↓e_not, ↓e_cmp, ↓e_cmp2, ↓e_and, ↓e_or, ↓e_ife, ↓e_tup, ↓e_lst, ↓e_sub, ↓e_sl, ↓e_call, ↓e_calk, ↓e_bi, ↓e_isi, ↓e_me, ↓e_cpy, ↓e_bdd, ↓e_bcp, ↓e_lrg, ↓e_sdd, ↓e_tupd, ↓e_rev, ↓e_lc, ↓e_sc2, ↓e_esnil, ↓e_escons, ↓e_onone, ↓e_osome, ↓e_cnone, ↓e_csome, ↓e_iex, ↓e_irng1, ↓e_irng2, ↓e_ienum, ↓e_izip, ↓e_tname, ↓e_ttup, ↓e_tsub, ↓e_tsnil, ↓e_tscons, ↓e_bnil, ↓e_bcons, ↓e_asg, ↓e_augs, ↓e_getoop, ↓e_aug, ↓e_ex, ↓e_ret, ↓e_retn, ↓e_pass, ↓e_brk, ↓e_ct, ↓e_ite, ↓e_for, ↓e_while, ↓e_mat, ↓e_mnil, ↓e_mcons, ↓e_addI, ↓e_addS, ↓e_addT, ↓e_addL, ↓e_subI, ↓e_mulI, ↓e_mulL, ↓e_mulT, ↓e_fdiv, ↓e_mod, ↓e_pow, ↓e_augA, ↓e_augS, ↓e_augT, ↓e_ltI, ↓e_leI, ↓e_gtI, ↓e_geI, ↓e_eq, ↓e_ne, ↓e_is, ↓e_isnot, ↓e_isB2, ↓e_isnotB2, ↓e_inS, ↓e_ninS, ↓e_inR, ↓e_inT, ↓e_ninR, ↓e_ninT, ↓e_subD, ↓e_subS, ↓e_subT, ↓e_subR, ↓e_subB, ↓e_subBd, ↓e_subSd, ↓e_subL, ↓e_slS, ↓e_slT, ↓e_slR, ↓e_slL, ↓e_stoop, ↓e_stoopB, ↓e_bi1, ↓e_bi2, ↓e_lenS, ↓e_lenT, ↓e_lenR, ↓e_lenL, ↓e_dictB, ↓e_dictR, ↓e_abs, ↓e_sum, ↓e_all, ↓e_any, ↓e_max, ↓e_min, ↓e_sorted, ↓e_set, ↓e_list, ↓e_tuple, ↓e_str1, ↓e_int1, ↓e_int2, ↓e_listxS, ↓e_listxT, ↓e_reprd, ↓e_repr, ↓e_max2, ↓e_min2, ↓e_divmod, ↓e_append, ↓e_extend, ↓e_join, ↓e_mget, ↓e_mgetS, ↓e_mgetI, ↓e_count, ↓e_mcount, ↓e_mapp, ↓e_mext, ↓e_mextT, ↓e_mjoin, ↓e_itT, ↓e_itR, ↓e_itS, ↓e_itL, ↓e_itG, ↓e_itE, ↓e_itET, ↓e_itZT, ↓e_itZL, ↓e_tN, ↓e_tB, ↓e_tI, ↓e_tS, ↓e_tT, ↓e_tR, ↓e_tL, ↓e_asI, ↓e_asB, ↓e_asT, ↓e_asTL, ↓e_tyN, ↓e_tyB, ↓e_tyI, ↓e_tyS, ↓e_tyT, ↓e_tyR, ↓e_isN, ↓e_isB, ↓e_isI, ↓e_isS, ↓e_isT, ↓e_isR, lk_some, op_some, lkL_some, lkB_some, lkS_some, bdO_t, bdO_f, cnd_true, cnd_false, List.getElem?_cons_zero, List.getElem?_cons_succ, List.length_cons, List.length_nil, List.set_cons_zero, List.set_cons_succ, List.cons_append, List.nil_append, List.append_nil, List.map_cons, List.map_nil, List.replicate_succ, List.replicate_zero, Nat.reduceSub, Nat.reduceAdd, Nat.reduceLT, true_and, and_true, true_or, or_true, Option.isSome_some, Bool.not_true, Bool.not_false, Bool.false_eq_true, a_0, a_1, a_2, a_3, x_30, x_31, x_32, x_20, x_21, Tgs.len, Tgs.slots, Tg.slots, wipe]
      obtain ⟨kN, hk, k2, k4, kr⟩ : ∃ kN : Nat, (if 2 + r < (room : Int) then 2 + r else (room : Int)) = (kN : Int) ∧ 2 ≤ kN ∧ kN ≤ 4 ∧ kN ≤ room := by
        split
        · exact ⟨(2 + r).toNat, by omega, by omega, by omega, by omega⟩
        · exact ⟨room, rfl, by omega, by omega, by omega⟩
      rw [hk, evC_none]
      have e0 : ((kN : Int) - 0).toNat = kN := by simp
      rw [e0]
      have q2 := x2.get (x1.get hq hpq) hpq
      have hdiv : 0 < room / kN := Nat.div_pos kr (by omega)
      have hcost : cost (deep + 1) = 4 * cost deep + 5 := rfl
      have bk : bits (kN : Int) ≤ 5 := bits_le (by omega) (by omega)
      refine ⟨by omega, ?_⟩
      refine comp_wp _ (K := fun i acc M' => ∃ ts, acc = encs ts ∧ ts.length = i ∧ goods ts ∧ deps ts ≤ deep ∧ (lvss ts).length ≤ i * (room / kN) ∧ (∀ w ∈ lvss ts, w ∈ ws) ∧ Pool M' p (m + 2 + i * cost deep) ∧ Ext p M M')
        ⟨[], rfl, rfl, trivial, Nat.zero_le _, Nat.zero_le _, (fun _ h => by cases h), by simpa using p2, x1.trans x2⟩ (fun i x acc M' hx hl ⟨ts, e1, e2, e3, e4, e5, e6, e7, e8⟩ => ?_) (by rw [rng_len]; omega) (fun acc M' hl ⟨ts, e1, e2, e3, e4, e5, e6, e7, e8⟩ => ?_)
      · obtain ⟨rfl, hi⟩ := rng_at hx
        refine ⟨rfl, ?_⟩
        simp only [↓e_non, ↓e_bl, ↓e_int, ↓e_str, ↓e_var, ↓e_glo, ↓e_bin, ↓e_neg, ↓e_not, ↓e_cmp, ↓e_cmp2, ↓e_and, ↓e_or, ↓e_ife, ↓e_tup, ↓e_lst, ↓e_sub, ↓e_sl, ↓e_call, ↓e_calk, ↓e_bi, ↓e_isi, ↓e_me, ↓e_cpy, ↓e_bdd, ↓e_bcp, ↓e_lrg, ↓e_sdd, ↓e_tupd, ↓e_rev, ↓e_lc, ↓e_sc2, ↓e_esnil, ↓e_escons, ↓e_onone, ↓e_osome, ↓e_cnone, ↓e_csome, ↓e_iex, ↓e_irng1, ↓e_irng2, ↓e_ienum, ↓e_izip, ↓e_tname, ↓e_ttup, ↓e_tsub, ↓e_tsnil, ↓e_tscons, ↓e_bnil, ↓e_bcons, ↓e_asg, ↓e_augs, ↓e_getoop, ↓e_aug, ↓e_ex, ↓e_ret, ↓e_retn, ↓e_pass, ↓e_brk, ↓e_ct, ↓e_ite, ↓e_for, ↓e_while, ↓e_mat, ↓e_mnil, ↓e_mcons, ↓e_addI, ↓e_addS, ↓e_addT, ↓e_addL, ↓e_subI, ↓e_mulI, ↓e_mulL, ↓e_mulT, ↓e_fdiv, ↓e_mod, ↓e_pow, ↓e_augA, ↓e_augS, ↓e_augT, ↓e_ltI, ↓e_leI, ↓e_gtI, ↓e_geI, ↓e_eq, ↓e_ne, ↓e_is, ↓e_isnot, ↓e_isB2, ↓e_isnotB2, ↓e_inS, ↓e_ninS, ↓e_inR, ↓e_inT, ↓e_ninR, ↓e_ninT, ↓e_subD, ↓e_subS, ↓e_subT, ↓e_subR, ↓e_subB, ↓e_subBd, ↓e_subSd, ↓e_subL, ↓e_slS, ↓e_slT, ↓e_slR, ↓e_slL, ↓e_stoop, ↓e_stoopB, ↓e_bi1, ↓e_bi2, ↓e_lenS, ↓e_lenT, ↓e_lenR, ↓e_lenL, ↓e_dictB, ↓e_dictR, ↓e_abs, ↓e_sum, ↓e_all, ↓e_any, ↓e_max, ↓e_min, ↓e_sorted, ↓e_set, ↓e_list, ↓e_tuple, ↓e_str1, ↓e_int1, ↓e_int2, ↓e_listxS, ↓e_listxT, ↓e_reprd, ↓e_repr, ↓e_max2, ↓e_min2, ↓e_divmod, ↓e_append, ↓e_extend, ↓e_join, ↓e_mget, ↓e_mgetS, ↓e_mgetI, ↓e_count, ↓e_mcount, ↓e_mapp, ↓e_mext, ↓e_mextT, ↓e_mjoin, ↓e_itT, ↓e_itR, ↓e_itS, ↓e_itL, ↓e_itG, ↓e_itE, ↓e_itET, ↓e_itZT, ↓e_itZL, ↓e_tN, ↓e_tB, ↓e_tI, ↓e_tS, ↓e_tT, ↓e_tR, ↓e_tL, ↓e_asI, ↓e_asB, ↓e_asT, ↓e_asTL, ↓e_tyN, ↓e_tyB, ↓e_tyI, ↓e_tyS, ↓e_tyT, ↓e_tyR, ↓e_isN, ↓e_isB, ↓e_isI, ↓e_isS, ↓e_isT, ↓e_isR, lk_some, op_some, lkL_some, lkB_some, lkS_some, bdO_t, bdO_f, cnd_true, cnd_false, List.getElem?_cons_zero, List.getElem?_cons_succ, List.length_cons, List.length_nil, List.set_cons_zero, List.set_cons_succ, List.cons_append, List.nil_append, List.append_nil, List.map_cons, List.map_nil, List.replicate_succ, List.replicate_zero, Nat.reduceSub, Nat.reduceAdd, Nat.reduceLT, true_and, and_true, true_or, or_true, Option.isSome_some, Bool.not_true, Bool.not_false, Bool.false_eq_true, a_0, a_1, a_2, a_3, x_30, x_31, x_32, x_20, x_21, Tgs.len, Tgs.slots, Tg.slots, wipe, h]
        refine ⟨⟨by omega, by omega⟩, ?_⟩
        rw [show ((deep + 1 : Nat) : Int) - 1 = (deep : Nat) by omega, show ((room : Int) / (kN : Int)) = ((room / kN : Nat) : Int) from (Int.natCast_ediv room kN).symm]
        have hic : i * cost deep ≤ 3 * cost deep := Nat.mul_le_mul_right _ (by omega)
        refine (ih n (room / kN) M' _ hd0 e7 (e8.get hq hpq) hdiv (Nat.lt_of_le_of_lt (Nat.div_le_self _ _) hr2) (by omega)).mono fun d M3 ⟨t, et, T, p3, x3⟩ => ?_
        subst et e1
        exact ⟨ts ++ [t], (encs_snoc ts t).symm, by simp [e2], goods_snoc ts t e3 T.good, by rw [deps_snoc]; have := T.dep; omega, by rw [lvss_snoc, List.length_append, Nat.succ_mul]; have := T.room; omega,
          fun w hw => by rw [lvss_snoc] at hw; exact (List.mem_append.mp hw).elim (e6 w) (T.sub w), p3.le (by rw [Nat.succ_mul]; omega), e8.trans x3⟩
      · rw [rng_len] at hl e5 e7
        subst e1
        refine ⟨rfl, by decide, by decide, ?_⟩
        simp only [↓e_non, ↓e_bl, ↓e_int, ↓e_str, ↓e_var, ↓e_glo, ↓e_bin, ↓e_neg, ↓e_not, ↓e_cmp, ↓e_cmp2, ↓e_and, ↓e_or, ↓e_ife, ↓e_tup, ↓e_lst, ↓e_sub, ↓e_sl, ↓e_call, ↓e_calk, ↓e_bi, ↓e_isi, ↓e_me, ↓e_cpy, ↓e_bdd, ↓e_bcp, ↓e_lrg, ↓e_sdd, ↓e_tupd, ↓e_rev, ↓e_lc, ↓e_sc2, ↓e_esnil, ↓e_escons, ↓e_onone, ↓e_osome, ↓e_cnone, ↓e_csome, ↓e_iex, ↓e_irng1, ↓e_irng2, ↓e_ienum, ↓e_izip, ↓e_tname, ↓e_ttup, ↓e_tsub, ↓e_tsnil, ↓e_tscons, ↓e_bnil, ↓e_bcons, ↓e_asg, ↓e_augs, ↓e_getoop, ↓e_aug, ↓e_ex, ↓e_ret, ↓e_retn, ↓e_pass, ↓e_brk, ↓e_ct, ↓e_ite, ↓e_for, ↓e_while, ↓e_mat, ↓e_mnil, ↓e_mcons, ↓e_addI, ↓e_addS, ↓e_addT, ↓e_addL, ↓e_subI, ↓e_mulI, ↓e_mulL, ↓e_mulT, ↓e_fdiv, ↓e_mod, ↓e_pow, ↓e_augA, ↓e_augS, ↓e_augT, ↓e_ltI, ↓e_leI, ↓e_gtI, ↓e_geI, ↓e_eq, ↓e_ne, ↓e_is, ↓e_isnot, ↓e_isB2, ↓e_isnotB2, ↓e_inS, ↓e_ninS, ↓e_inR, ↓e_inT, ↓e_ninR, ↓e_ninT, ↓e_subD, ↓e_subS, ↓e_subT, ↓e_subR, ↓e_subB, ↓e_subBd, ↓e_subSd, ↓e_subL, ↓e_slS, ↓e_slT, ↓e_slR, ↓e_slL, ↓e_stoop, ↓e_stoopB, ↓e_bi1, ↓e_bi2, ↓e_lenS, ↓e_lenT, ↓e_lenR, ↓e_lenL, ↓e_dictB, ↓e_dictR, ↓e_abs, ↓e_sum, ↓e_all, ↓e_any, ↓e_max, ↓e_min, ↓e_sorted, ↓e_set, ↓e_list, ↓e_tuple, ↓e_str1, ↓e_int1, ↓e_int2, ↓e_listxS, ↓e_listxT, ↓e_reprd, ↓e_repr, ↓e_max2, ↓e_min2, ↓e_divmod, ↓e_append, ↓e_extend, ↓e_join, ↓e_mget, ↓e_mgetS, ↓e_mgetI, ↓e_count, ↓e_mcount, ↓e_mapp, ↓e_mext, ↓e_mextT, ↓e_mjoin, ↓e_itT, ↓e_itR, ↓e_itS, ↓e_itL, ↓e_itG, ↓e_itE, ↓e_itET, ↓e_itZT, ↓e_itZL, ↓e_tN, ↓e_tB, ↓e_tI, ↓e_tS, ↓e_tT, ↓e_tR, ↓e_tL, ↓e_asI, ↓e_asB, ↓e_asT, ↓e_asTL, ↓e_tyN, ↓e_tyB, ↓e_tyI, ↓e_tyS, ↓e_tyT, ↓e_tyR, ↓e_isN, ↓e_isB, ↓e_isI, ↓e_isS, ↓e_isT, ↓e_isR, lk_some, op_some, lkL_some, lkB_some, lkS_some, bdO_t, bdO_f, cnd_true, cnd_false, List.getElem?_cons_zero, List.getElem?_cons_succ, List.length_cons, List.length_nil, List.set_cons_zero, List.set_cons_succ, List.cons_append, List.nil_append, List.append_nil, List.map_cons, List.map_nil, List.replicate_succ, List.replicate_zero, Nat.reduceSub, Nat.reduceAdd, Nat.reduceLT, true_and, and_true, true_or, or_true, Option.isSome_some, Bool.not_true, Bool.not_false, Bool.false_eq_true, a_0, a_1, a_2, a_3, x_30, x_31, x_32, x_20, x_21, Tgs.len, Tgs.slots, Tg.slots, wipe, len_new]
        have hik : kN * cost deep ≤ 4 * cost deep := Nat.mul_le_mul_right _ k4
        have hlen : ts.length = kN := by rw [encs_len] at hl; exact hl
        have hroom : (lvss ts).length ≤ room := Nat.le_trans e5 (Nat.mul_div_le room kN)
        have fin : ∀ b, at? [D.str [97, 108, 108], D.str [97, 110, 121]] (way % 2) = some (.str (grpW b)) → op (at? [D.str [97, 108, 108], D.str [97, 110, 121]] (way % 2)) fun d_1 => op (seq? (M' ++ [O.lst (encs ts)] ++ [O.lst [D.str [97, 108, 108], D.str [97, 110, 121]]]) (.ref M'.length)) fun l => 2 ≤ LN ∧ ∃ t, D.tup [d_1, D.tup l] = enc t ∧ Tree ws (deep + 1) room t ∧ Pool (M' ++ [O.lst (encs ts)] ++ [O.lst [D.str [97, 108, 108], D.str [97, 110, 121]]]) p (m + cost (deep + 1)) ∧ Ext p M (M' ++ [O.lst (encs ts)] ++ [O.lst [D.str [97, 108, 108], D.str [97, 110, 121]]]) := fun b hb => by
          rw [hb, op_some]
          have hs : seq? (M' ++ [O.lst (encs ts)] ++ [O.lst [D.str [97, 108, 108], D.str [97, 110, 121]]]) (.ref M'.length) = some (encs ts) := by
            simp only [seq?, Grow.one.get len_new]
          rw [hs, op_some]
          exact ⟨by decide, .grp b ts, rfl, ⟨⟨by omega, e3⟩, by simp only [dep]; omega, hroom, e6⟩, (e7.grow (Grow.one.trans .one)).le (by omega), e8.trans (Grow.one.trans .one).ext⟩
        have : way % 2 = 0 ∨ way % 2 = 1 := by omega
        rcases this with e | e
        · exact fin false (by rw [e]; rfl)
        · exact fin true (by rw [e]; rfl)
    · have hd1 : ¬ ((deep + 1 : Nat) : Int) < 2 := by simpa using c1
      have hd0 : 0 < deep := by omega
      have w3' : ¬ 3 < way := by simpa using c3
      have w3 : way ≤ 3 := by omega
      have w0 : way ≠ 0 := by simpa using c2
      have hcost : cost (deep + 1) = 4 * cost deep + 5 := rfl
      have q1 := x1.get hq hpq
      rw [show ((deep + 1 : Nat) : Int) - 1 = (deep : Nat) by omega]
      refine cnd_by (fun n1 => ?_) fun n1 => cnd_by (fun n4 => ?_) fun n4 => absurd (by simp; omega) n4
      · refine (ih n room M1 _ hd0 p1 q1 hr hr2 (by omega)).mono fun d M3 ⟨t, et, T, p3, x3⟩ => ?_
        subst et
        exact ⟨by decide, .no t, rfl, ⟨T.good, by simp only [dep]; have := T.dep; omega, T.room, T.sub⟩, p3.le (by omega), x1.trans x3⟩
      · have w1 : way ≠ 1 := by simpa using n1
        refine (ih n room M1 _ hd0 p1 q1 hr hr2 (by omega)).mono fun d M3 ⟨t, et, T, p3, x3⟩ => ?_
        subst et
        refine ⟨by decide, ?_⟩
        rw [len_new, lkL_some]
        have fin : ∀ b, at? [D.str [114, 101, 116, 114, 121], D.str [114, 101, 112, 101, 97, 116]] (way - 2) = some (.str (repW b)) → op (at? [D.str [114, 101, 116, 114, 121], D.str [114, 101, 112, 101, 97, 116]] (way - 2)) fun d_1 =>
            (callF g (n + (deep + 1) + 2) "_law_often" [D.ref p, D.int most] (M3 ++ [O.lst [D.str [114, 101, 116, 114, 121], D.str [114, 101, 112, 101, 97, 116]]])).wp fun d_2 M1 => 3 ≤ LN ∧ ∃ t_1, D.tup [d_1, enc t, d_2] = enc t_1 ∧ Tree ws (deep + 1) room t_1 ∧ Pool M1 p (m + cost (deep + 1)) ∧ Ext p M M1 := fun b hb => by
          rw [hb, op_some]
          refine (often_wp ho hd (n := n + deep + 1) (p3.grow .one) hm (by omega)).mono fun d M4 ⟨k, ek, k1, k2, k3, p4, x4⟩ => ?_
          subst ek
          exact ⟨by decide, .rep b t k, rfl, ⟨⟨k1, k2, T.good⟩, by simp only [dep]; have := T.dep; omega, T.room, T.sub⟩, p4.le (by omega), x1.trans (x3.trans (Grow.one.ext.trans x4))⟩
        have : way - 2 = 0 ∨ way - 2 = 1 := by omega
        rcases this with e | e
        · exact fin false (by rw [e]; rfl)
        · exact fin true (by rw [e]; rfl)
end Rp

namespace Rp
def d_is_step : Def := ⟨2, 1,
 (.cons (.ret (.and (.isi (.var 0) ["str"]) (.and (.cmp2 .le .le (.int 1) (.bi .len (.cons (.var 0) .nil)) (.glo "MOST_LETTERS")) (.bi .all (.cons (.lc (.cmp .in (.var 1) (.glo "LETTERS")) (.name 1) (.ex (.var 0)) .none [1]) .nil)))))
 .nil)⟩
def d_is_integer : Def := ⟨1, 1,
 (.cons (.ret (.and (.isi (.var 0) ["int"]) (.not (.isi (.var 0) ["bool"]))))
 .nil)⟩
def d_is_times : Def := ⟨1, 1,
 (.cons (.ret (.and (.call "is_integer" (.cons (.var 0) .nil) [] .nil) (.cmp2 .le .le (.int 1) (.var 0) (.glo "MOST_TIMES"))))
 .nil)⟩
def d_inner_values : Def := ⟨2, 1,
 (.cons (.ite (.or (.not (.cmp2 .le .le (.int 2) (.bi .len (.cons (.var 0) .nil)) (.int 3))) (.not (.isi (.sub (.var 0) (.int 0)) ["str"]))) (.cons (.ret .non)
 .nil) .nil)
 (.cons (.mat (.sub (.var 0) (.int 0)) (.cons [[110, 111, 116]] (.cons (.ret (.ife (.cmp .eq (.bi .len (.cons (.var 0) .nil)) (.int 2)) (.sl (.var 0) (.some (.int 1)) .none) .non))
 .nil) (.cons [[114, 101, 116, 114, 121], [114, 101, 112, 101, 97, 116]] (.cons (.ret (.ife (.and (.cmp .eq (.bi .len (.cons (.var 0) .nil)) (.int 3)) (.call "is_times" (.cons (.sub (.var 0) (.int 2)) .nil) [] .nil)) (.sl (.var 0) (.some (.int 1)) (.some (.int 2))) .non))
 .nil) (.cons [[97, 108, 108], [97, 110, 121]] (.cons (.asg (.name 1) (.and (.cmp .eq (.bi .len (.cons (.var 0) .nil)) (.int 2)) (.and (.isi (.sub (.var 0) (.int 1)) ["tuple"]) (.cmp .ge (.bi .len (.cons (.sub (.var 0) (.int 1)) .nil)) (.int 2)))))
 (.cons (.ret (.ife (.var 1) (.sub (.var 0) (.int 1)) .non))
 .nil)) .nil))))
 (.cons (.ret .non)
 .nil)))⟩
def d_written_steps : Def := ⟨6, 2,
 (.cons (.ite (.call "is_step" (.cons (.var 0) .nil) [] .nil) (.cons (.ret (.lst (.cons (.var 0) .nil)))
 .nil) .nil)
 (.cons (.asg (.name 2) (.ife (.and (.isi (.var 0) ["tuple"]) (.cmp .gt (.var 1) (.int 1))) (.call "inner_values" (.cons (.var 0) .nil) [] .nil) .non))
 (.cons (.ite (.cmp .is (.var 2) .non) (.cons (.ret .non)
 .nil) .nil)
 (.cons (.asg (.name 3) (.lst .nil))
 (.cons (.for (.name 4) (.ex (.var 2)) (.cons (.asg (.name 5) (.call "written_steps" (.cons (.var 4) (.cons (.bin .sub (.var 1) (.int 1)) .nil)) [] .nil))
 (.cons (.ite (.cmp .is (.var 5) .non) (.cons (.ret .non)
 .nil) .nil)
 (.cons (.ex (.me .extend (.var 3) (.cons (.var 5) .nil)))
 (.cons (.ite (.cmp .gt (.bi .len (.cons (.var 3) .nil)) (.glo "MOST_WRITTEN")) (.cons (.ret .non)
 .nil) .nil)
 .nil)))))
 (.cons (.ret (.var 3))
 .nil))))))⟩
def d_is_plan : Def := ⟨2, 1,
 (.cons (.asg (.name 1) (.call "written_steps" (.cons (.var 0) (.cons (.glo "MOST_NESTED") .nil)) [] .nil))
 (.cons (.ret (.and (.cmp .isnot (.var 1) .non) (.cmp .le (.bi .len (.cons (.bi .set (.cons (.var 1) .nil)) .nil)) (.glo "MOST_STEPS"))))
 .nil))⟩
def d_check_plan : Def := ⟨1, 1,
 (.cons (.ite (.not (.call "is_plan" (.cons (.var 0) .nil) [] .nil)) (.cons (.raise "InvalidPlan" (.cons (.var 0) .nil))
 .nil) .nil)
 .nil)⟩
def d_size_in : Def := ⟨2, 1,
 (.cons (.ite (.isi (.var 0) ["str"]) (.cons (.ret (.int 1))
 .nil) .nil)
 (.cons (.mat (.sub (.var 0) (.int 0)) (.cons [[110, 111, 116]] (.cons (.ret (.call "size_in" (.cons (.sub (.var 0) (.int 1)) .nil) [] .nil))
 .nil) (.cons [[114, 101, 116, 114, 121], [114, 101, 112, 101, 97, 116]] (.cons (.ret (.bin .mul (.call "size_in" (.cons (.sub (.var 0) (.int 1)) .nil) [] .nil) (.sub (.var 0) (.int 2))))
 .nil) .nil)))
 (.cons (.ret (.bi .sum (.cons (.lc (.call "size_in" (.cons (.var 1) .nil) [] .nil) (.name 1) (.ex (.sub (.var 0) (.int 1))) .none [1]) .nil)))
 .nil)))⟩
def d_steps_in : Def := ⟨4, 1,
 (.cons (.ite (.isi (.var 0) ["str"]) (.cons (.ret (.tup (.cons (.var 0) .nil)))
 .nil) .nil)
 (.cons (.asg (.name 1) (.ife (.cmp .in (.sub (.var 0) (.int 0)) (.tup (.cons (.str [97, 108, 108]) (.cons (.str [97, 110, 121]) .nil)))) (.sub (.var 0) (.int 1)) (.tup (.cons (.sub (.var 0) (.int 1)) .nil))))
 (.cons (.ret (.bi .tuple (.cons (.bi .sorted (.cons (.sc2 (.var 3) (.name 2) (.ex (.var 1)) (.name 3) (.ex (.call "steps_in" (.cons (.var 2) .nil) [] .nil)) [2, 3]) .nil)) .nil)))
 .nil)))⟩
def d_size_of : Def := ⟨1, 1,
 (.cons (.ex (.call "check_plan" (.cons (.var 0) .nil) [] .nil))
 (.cons (.ret (.call "size_in" (.cons (.var 0) .nil) [] .nil))
 .nil))⟩
def d_steps_of : Def := ⟨1, 1,
 (.cons (.ex (.call "check_plan" (.cons (.var 0) .nil) [] .nil))
 (.cons (.ret (.call "steps_in" (.cons (.var 0) .nil) [] .nil))
 .nil))⟩
theorem ty_NoneType_str : istyN "NoneType" "str" = false := by decide
theorem ty_NoneType_int : istyN "NoneType" "int" = false := by decide
theorem ty_NoneType_bool : istyN "NoneType" "bool" = false := by decide
theorem ty_NoneType_tuple : istyN "NoneType" "tuple" = false := by decide
theorem ty_NoneType_list : istyN "NoneType" "list" = false := by decide
theorem ty_NoneType_dict : istyN "NoneType" "dict" = false := by decide
theorem ty_bool_str : istyN "bool" "str" = false := by decide
theorem ty_bool_int : istyN "bool" "int" = true := by decide
theorem ty_bool_bool : istyN "bool" "bool" = true := by decide
theorem ty_bool_tuple : istyN "bool" "tuple" = false := by decide
theorem ty_bool_list : istyN "bool" "list" = false := by decide
theorem ty_bool_dict : istyN "bool" "dict" = false := by decide
theorem ty_int_str : istyN "int" "str" = false := by decide
theorem ty_int_int : istyN "int" "int" = true := by decide
theorem ty_int_bool : istyN "int" "bool" = false := by decide
theorem ty_int_tuple : istyN "int" "tuple" = false := by decide
theorem ty_int_list : istyN "int" "list" = false := by decide
theorem ty_int_dict : istyN "int" "dict" = false := by decide
theorem ty_str_str : istyN "str" "str" = true := by decide
theorem ty_str_int : istyN "str" "int" = false := by decide
theorem ty_str_bool : istyN "str" "bool" = false := by decide
theorem ty_str_tuple : istyN "str" "tuple" = false := by decide
theorem ty_str_list : istyN "str" "list" = false := by decide
theorem ty_str_dict : istyN "str" "dict" = false := by decide
theorem ty_tuple_str : istyN "tuple" "str" = false := by decide
theorem ty_tuple_int : istyN "tuple" "int" = false := by decide
theorem ty_tuple_bool : istyN "tuple" "bool" = false := by decide
theorem ty_tuple_tuple : istyN "tuple" "tuple" = true := by decide
theorem ty_tuple_list : istyN "tuple" "list" = false := by decide
theorem ty_tuple_dict : istyN "tuple" "dict" = false := by decide
theorem ty_list_str : istyN "list" "str" = false := by decide
theorem ty_list_int : istyN "list" "int" = false := by decide
theorem ty_list_bool : istyN "list" "bool" = false := by decide
theorem ty_list_tuple : istyN "list" "tuple" = false := by decide
theorem ty_list_list : istyN "list" "list" = true := by decide
theorem ty_list_dict : istyN "list" "dict" = false := by decide
theorem ty_dict_str : istyN "dict" "str" = false := by decide
theorem ty_dict_int : istyN "dict" "int" = false := by decide
theorem ty_dict_bool : istyN "dict" "bool" = false := by decide
theorem ty_dict_tuple : istyN "dict" "tuple" = false := by decide
theorem ty_dict_list : istyN "dict" "list" = false := by decide
theorem ty_dict_dict : istyN "dict" "dict" = true := by decide
theorem fq_not_not : feq (.str [110, 111, 116]) (.str [110, 111, 116]) = true := rfl
theorem fq_not_retry : feq (.str [110, 111, 116]) (.str [114, 101, 116, 114, 121]) = false := rfl
theorem fq_not_repeat : feq (.str [110, 111, 116]) (.str [114, 101, 112, 101, 97, 116]) = false := rfl
theorem fq_not_all : feq (.str [110, 111, 116]) (.str [97, 108, 108]) = false := rfl
theorem fq_not_any : feq (.str [110, 111, 116]) (.str [97, 110, 121]) = false := rfl
theorem fq_retry_not : feq (.str [114, 101, 116, 114, 121]) (.str [110, 111, 116]) = false := rfl
theorem fq_retry_retry : feq (.str [114, 101, 116, 114, 121]) (.str [114, 101, 116, 114, 121]) = true := rfl
theorem fq_retry_repeat : feq (.str [114, 101, 116, 114, 121]) (.str [114, 101, 112, 101, 97, 116]) = false := rfl
theorem fq_retry_all : feq (.str [114, 101, 116, 114, 121]) (.str [97, 108, 108]) = false := rfl
theorem fq_retry_any : feq (.str [114, 101, 116, 114, 121]) (.str [97, 110, 121]) = false := rfl
theorem fq_repeat_not : feq (.str [114, 101, 112, 101, 97, 116]) (.str [110, 111, 116]) = false := rfl
theorem fq_repeat_retry : feq (.str [114, 101, 112, 101, 97, 116]) (.str [114, 101, 116, 114, 121]) = false := rfl
theorem fq_repeat_repeat : feq (.str [114, 101, 112, 101, 97, 116]) (.str [114, 101, 112, 101, 97, 116]) = true := rfl
theorem fq_repeat_all : feq (.str [114, 101, 112, 101, 97, 116]) (.str [97, 108, 108]) = false := rfl
theorem fq_repeat_any : feq (.str [114, 101, 112, 101, 97, 116]) (.str [97, 110, 121]) = false := rfl
theorem fq_all_not : feq (.str [97, 108, 108]) (.str [110, 111, 116]) = false := rfl
theorem fq_all_retry : feq (.str [97, 108, 108]) (.str [114, 101, 116, 114, 121]) = false := rfl
theorem fq_all_repeat : feq (.str [97, 108, 108]) (.str [114, 101, 112, 101, 97, 116]) = false := rfl
theorem fq_all_all : feq (.str [97, 108, 108]) (.str [97, 108, 108]) = true := rfl
theorem fq_all_any : feq (.str [97, 108, 108]) (.str [97, 110, 121]) = false := rfl
theorem fq_any_not : feq (.str [97, 110, 121]) (.str [110, 111, 116]) = false := rfl
theorem fq_any_retry : feq (.str [97, 110, 121]) (.str [114, 101, 116, 114, 121]) = false := rfl
theorem fq_any_repeat : feq (.str [97, 110, 121]) (.str [114, 101, 112, 101, 97, 116]) = false := rfl
theorem fq_any_all : feq (.str [97, 110, 121]) (.str [97, 108, 108]) = false := rfl
theorem fq_any_any : feq (.str [97, 110, 121]) (.str [97, 110, 121]) = true := rfl
theorem fl_str {s : S} : flat (.str s) = true := rfl
theorem deqS {M : Hm} {a b : S} : deq M (.str a) (.str b) = some (feq (.str a) (.str b)) := rfl
theorem nc0 : ((0 : Nat) : Int) = 0 := rfl
theorem nc1 : ((1 : Nat) : Int) = 1 := rfl
theorem nc2 : ((2 : Nat) : Int) = 2 := rfl
theorem nc3 : ((3 : Nat) : Int) = 3 := rfl
theorem nc4 : ((4 : Nat) : Int) = 4 := rfl
theorem nc5 : ((5 : Nat) : Int) = 5 := rfl
theorem nc6 : ((6 : Nat) : Int) = 6 := rfl
theorem nc7 : ((7 : Nat) : Int) = 7 := rfl
theorem nc8 : ((8 : Nat) : Int) = 8 := rfl
theorem nc9 : ((9 : Nat) : Int) = 9 := rfl
theorem nc10 : ((10 : Nat) : Int) = 10 := rfl
theorem nc11 : ((11 : Nat) : Int) = 11 := rfl
theorem nc60 : ((60 : Nat) : Int) = 60 := rfl
def ABC : S := [97, 98, 99, 100, 101, 102, 103, 104, 105, 106, 107, 108, 109, 110, 111, 112, 113, 114, 115, 116, 117, 118, 119, 120, 121, 122]
/-- the program's own reading of a plan -/
structure HasPlan0 (g : G) : Prop where
  is_step : g.fn "is_step" = some d_is_step
  is_integer : g.fn "is_integer" = some d_is_integer
  is_times : g.fn "is_times" = some d_is_times
  inner_values : g.fn "inner_values" = some d_inner_values
  written_steps : g.fn "written_steps" = some d_written_steps
  is_plan : g.fn "is_plan" = some d_is_plan
  LETTERS : g.con "LETTERS" = some (.str ABC)
  MOST_LETTERS : g.con "MOST_LETTERS" = some (.int 6)
  MOST_TIMES : g.con "MOST_TIMES" = some (.int 1000000000000000000000000000000)
  MOST_WRITTEN : g.con "MOST_WRITTEN" = some (.int 60)
  MOST_NESTED : g.con "MOST_NESTED" = some (.int 8)
  MOST_STEPS : g.con "MOST_STEPS" = some (.int 8)
structure HasPlan (g : G) : Prop extends HasPlan0 g where
  check_plan : g.fn "check_plan" = some d_check_plan
variable {g : G}
theorem abc_mem (c : Nat) : c ∈ ABC ↔ 97 ≤ c ∧ c ≤ 122 := by
  unfold ABC
  simp only [List.mem_cons, List.mem_nil_iff, or_false]
  omega
theorem bls_trues : ∀ (l : List D), (∀ d ∈ l, d = .bl true) → bls? l = some (List.replicate l.length true)
  | [], _ => rfl
  | d :: l, h => by
    rw [h d (List.mem_cons_self ..)]
    simp only [bls?, bls_trues l fun d hd => h d (List.mem_cons_of_mem _ hd), Option.map_some]; rfl
theorem all_replicate (n : Nat) : (List.replicate n true).all id = true := by induction n <;> simp_all [List.replicate_succ]
theorem lsq_new {M : Hm} {l : List D} : lsq? (M ++ [.lst l]) (.ref M.length) = some l := by simp only [lsq?, len_new]
theorem is_step_wp (G : HasPlan g) {n : Nat} {M : Hm} {w : S} (hw : StepW w) : (callF g (n + 1) "is_step" [.str w] M).wp fun d M' => d = .bl true ∧ Grow M M' := by
  refine call_wp G.is_step rfl (by decide) ?_
  obtain ⟨w1, w2, w3⟩ := hw
  have hLN : LN = 16777216 := rfl
  have c1 : decide (1 ≤ (w.length : Int)) = true := by simp; omega
  have c2 : decide ((w.length : Int) ≤ 6) = true := by simp; omega
  simp only [d_is_step, ↓e_non, ↓e_bl, ↓e_int, ↓e_str, ↓e_var, ↓e_glo, ↓e_bin, ↓e_neg, ↓e_not, ↓e_cmp, ↓e_cmp2, ↓e_and, ↓e_or, ↓e_ife, ↓e_tup, ↓e_lst, ↓e_sub, ↓e_sl, ↓e_call, ↓e_calk, ↓e_bi, ↓e_isi, ↓e_me, ↓e_cpy, ↓e_bdd, ↓e_bcp, ↓e_lrg, ↓e_sdd, ↓e_tupd, ↓e_rev, ↓e_lc, ↓e_sc2, ↓e_esnil, ↓e_escons, ↓e_onone, ↓e_osome, ↓e_cnone, ↓e_csome, ↓e_iex, ↓e_irng1, ↓e_irng2, ↓e_ienum, ↓e_izip, ↓e_tname, ↓e_ttup, ↓e_tsub, ↓e_tsnil, ↓e_tscons, ↓e_bnil, ↓e_bcons, ↓e_asg, ↓e_augs, ↓e_getoop, ↓e_aug, ↓e_ex, ↓e_ret, ↓e_retn, ↓e_pass, ↓e_brk, ↓e_ct, ↓e_ite, ↓e_for, ↓e_while, ↓e_mat, ↓e_mnil, ↓e_mcons, ↓e_addI, ↓e_addS, ↓e_addT, ↓e_addL, ↓e_subI, ↓e_mulI, ↓e_mulL, ↓e_mulT, ↓e_fdiv, ↓e_mod, ↓e_pow, ↓e_augA, ↓e_augS, ↓e_augT, ↓e_ltI, ↓e_leI, ↓e_gtI, ↓e_geI, ↓e_eq, ↓e_ne, ↓e_is, ↓e_isnot, ↓e_isB2, ↓e_isnotB2, ↓e_inS, ↓e_ninS, ↓e_inR, ↓e_inT, ↓e_ninR, ↓e_ninT, ↓e_subD, ↓e_subS, ↓e_subT, ↓e_subR, ↓e_subB, ↓e_subBd, ↓e_subSd, ↓e_subL, ↓e_slS, ↓e_slT, ↓e_slR, ↓e_slL, ↓e_stoop, ↓e_stoopB, ↓e_bi1, ↓e_bi2, ↓e_lenS, ↓e_lenT, ↓e_lenR, ↓e_lenL, ↓e_dictB, ↓e_dictR, ↓e_abs, ↓e_sum, ↓e_all, ↓e_any, ↓e_max, ↓e_min, ↓e_sorted, ↓e_set, ↓e_list, ↓e_tuple, ↓e_str1, ↓e_int1, ↓e_int2, ↓e_listxS, ↓e_listxT, ↓e_reprd, ↓e_repr, ↓e_max2, ↓e_min2, ↓e_divmod, ↓e_append, ↓e_extend, ↓e_join, ↓e_mget, ↓e_mgetS, ↓e_mgetI, ↓e_count, ↓e_mcount, ↓e_mapp, ↓e_mext, ↓e_mextT, ↓e_mjoin, ↓e_itT, ↓e_itR, ↓e_itS, ↓e_itL, ↓e_itG, ↓e_itE, ↓e_itET, ↓e_itZT, ↓e_itZL, ↓e_tN, ↓e_tB, ↓e_tI, ↓e_tS, ↓e_tT, ↓e_tR, ↓e_tL, ↓e_asI, ↓e_asB, ↓e_asT, ↓e_asTL, ↓e_tyN, ↓e_tyB, ↓e_tyI, ↓e_tyS, ↓e_tyT, ↓e_tyR, ↓e_isN, ↓e_isB, ↓e_isI, ↓e_isS, ↓e_isT, ↓e_isR, lk_some, op_some, lkL_some, lkB_some, lkS_some, bdO_t, bdO_f, cnd_true, cnd_false, List.getElem?_cons_zero, List.getElem?_cons_succ, List.length_cons, List.length_nil, List.set_cons_zero, List.set_cons_succ, List.cons_append, List.nil_append, List.append_nil, List.map_cons, List.map_nil, List.replicate_succ, List.replicate_zero, Nat.reduceSub, Nat.reduceAdd, Nat.reduceLT, true_and, and_true, true_or, or_true, Option.isSome_some, Bool.not_true, Bool.not_false, Bool.false_eq_true, a_0, a_1, a_2, a_3, x_30, x_31, x_32, x_20, x_21, Tgs.len, Tgs.slots, Tg.slots, wipe, ty_NoneType_str, ty_NoneType_int, ty_NoneType_bool, ty_NoneType_tuple, ty_NoneType_list, ty_NoneType_dict, ty_bool_str, ty_bool_int, ty_bool_bool, ty_bool_tuple, ty_bool_list, ty_bool_dict, ty_int_str, ty_int_int, ty_int_bool, ty_int_tuple, ty_int_list, ty_int_dict, ty_str_str, ty_str_int, ty_str_bool, ty_str_tuple, ty_str_list, ty_str_dict, ty_tuple_str, ty_tuple_int, ty_tuple_bool, ty_tuple_tuple, ty_tuple_list, ty_tuple_dict, ty_list_str, ty_list_int, ty_list_bool, ty_list_tuple, ty_list_list, ty_list_dict, ty_dict_str, ty_dict_int, ty_dict_bool, ty_dict_tuple, ty_dict_list, ty_dict_dict, fq_not_not, fq_not_retry, fq_not_repeat, fq_not_all, fq_not_any, fq_retry_not, fq_retry_retry, fq_retry_repeat, fq_retry_all, fq_retry_any, fq_repeat_not, fq_repeat_retry, fq_repeat_repeat, fq_repeat_all, fq_repeat_any, fq_all_not, fq_all_retry, fq_all_repeat, fq_all_all, fq_all_any, fq_any_not, fq_any_retry, fq_any_repeat, fq_any_all, fq_any_any, fl_str, nc0, nc1, nc2, nc3, nc4, nc5, nc6, nc7, nc8, nc9, nc10, nc11, nc60, deqI, List.any_cons, List.any_nil, Bool.or_false, Bool.false_or, Bool.or_true, Bool.true_or, Bool.and_true, Bool.true_and, Bool.and_false, Bool.false_and, decide_true, decide_false, Int.reduceLE, Int.reduceLT, Int.reduceBEq, BEq.rfl, beq_self_eq_true, if_true, if_false, deqS, G.LETTERS, G.MOST_LETTERS, c1, c2]
  refine ⟨by omega, by omega, ?_⟩
  rw [evC_none]
  refine comp_wp _ (K := fun i acc M' => M' = M ∧ ∀ d ∈ acc, d = .bl true) ⟨rfl, fun _ h => by cases h⟩ (fun i x acc M' hx hl ⟨e, ha⟩ => ?_) (by rw [List.length_map]; omega) (fun acc M' hl ⟨e, ha⟩ => ?_)
  · subst e
    refine ⟨rfl, ?_⟩
    rw [List.getElem?_map] at hx
    cases hc : w[i]? with
    | none => rw [hc] at hx; cases hx
    | some c =>
      rw [hc] at hx
      cases hx
      have hin : inS (.str [c]) ABC = some true := by
        simp only [inS, Option.some.injEq, decide_eq_true_eq, abc_mem]
        exact w3 c (List.mem_of_getElem? hc)
      simp only [↓e_non, ↓e_bl, ↓e_int, ↓e_str, ↓e_var, ↓e_glo, ↓e_bin, ↓e_neg, ↓e_not, ↓e_cmp, ↓e_cmp2, ↓e_and, ↓e_or, ↓e_ife, ↓e_tup, ↓e_lst, ↓e_sub, ↓e_sl, ↓e_call, ↓e_calk, ↓e_bi, ↓e_isi, ↓e_me, ↓e_cpy, ↓e_bdd, ↓e_bcp, ↓e_lrg, ↓e_sdd, ↓e_tupd, ↓e_rev, ↓e_lc, ↓e_sc2, ↓e_esnil, ↓e_escons, ↓e_onone, ↓e_osome, ↓e_cnone, ↓e_csome, ↓e_iex, ↓e_irng1, ↓e_irng2, ↓e_ienum, ↓e_izip, ↓e_tname, ↓e_ttup, ↓e_tsub, ↓e_tsnil, ↓e_tscons, ↓e_bnil, ↓e_bcons, ↓e_asg, ↓e_augs, ↓e_getoop, ↓e_aug, ↓e_ex, ↓e_ret, ↓e_retn, ↓e_pass, ↓e_brk, ↓e_ct, ↓e_ite, ↓e_for, ↓e_while, ↓e_mat, ↓e_mnil, ↓e_mcons, ↓e_addI, ↓e_addS, ↓e_addT, ↓e_addL, ↓e_subI, ↓e_mulI, ↓e_mulL, ↓e_mulT, ↓e_fdiv, ↓e_mod, ↓e_pow, ↓e_augA, ↓e_augS, ↓e_augT, ↓e_ltI, ↓e_leI, ↓e_gtI, ↓e_geI, ↓e_eq, ↓e_ne, ↓e_is, ↓e_isnot, ↓e_isB2, ↓e_isnotB2, ↓e_inS, ↓e_ninS, ↓e_inR, ↓e_inT, ↓e_ninR, ↓e_ninT, ↓e_subD, ↓e_subS, ↓e_subT, ↓e_subR, ↓e_subB, ↓e_subBd, ↓e_subSd, ↓e_subL, ↓e_slS, ↓e_slT, ↓e_slR, ↓e_slL, ↓e_stoop, ↓e_stoopB, ↓e_bi1, ↓e_bi2, ↓e_lenS, ↓e_lenT, ↓e_lenR, ↓e_lenL, ↓e_dictB, ↓e_dictR, ↓e_abs, ↓e_sum, ↓e_all, ↓e_any, ↓e_max, ↓e_min, ↓e_sorted, ↓e_set, ↓e_list, ↓e_tuple, ↓e_str1, ↓e_int1, ↓e_int2, ↓e_listxS, ↓e_listxT, ↓e_reprd, ↓e_repr, ↓e_max2, ↓e_min2, ↓e_divmod, ↓e_append, ↓e_extend, ↓e_join, ↓e_mget, ↓e_mgetS, ↓e_mgetI, ↓e_count, ↓e_mcount, ↓e_mapp, ↓e_mext, ↓e_mextT, ↓e_mjoin, ↓e_itT, ↓e_itR, ↓e_itS, ↓e_itL, ↓e_itG, ↓e_itE, ↓e_itET, ↓e_itZT, ↓e_itZL, ↓e_tN, ↓e_tB, ↓e_tI, ↓e_tS, ↓e_tT, ↓e_tR, ↓e_tL, ↓e_asI, ↓e_asB, ↓e_asT, ↓e_asTL, ↓e_tyN, ↓e_tyB, ↓e_tyI, ↓e_tyS, ↓e_tyT, ↓e_tyR, ↓e_isN, ↓e_isB, ↓e_isI, ↓e_isS, ↓e_isT, ↓e_isR, lk_some, op_some, lkL_some, lkB_some, lkS_some, bdO_t, bdO_f, cnd_true, cnd_false, List.getElem?_cons_zero, List.getElem?_cons_succ, List.length_cons, List.length_nil, List.set_cons_zero, List.set_cons_succ, List.cons_append, List.nil_append, List.append_nil, List.map_cons, List.map_nil, List.replicate_succ, List.replicate_zero, Nat.reduceSub, Nat.reduceAdd, Nat.reduceLT, true_and, and_true, true_or, or_true, Option.isSome_some, Bool.not_true, Bool.not_false, Bool.false_eq_true, a_0, a_1, a_2, a_3, x_30, x_31, x_32, x_20, x_21, Tgs.len, Tgs.slots, Tg.slots, wipe, ty_NoneType_str, ty_NoneType_int, ty_NoneType_bool, ty_NoneType_tuple, ty_NoneType_list, ty_NoneType_dict, ty_bool_str, ty_bool_int, ty_bool_bool, ty_bool_tuple, ty_bool_list, ty_bool_dict, ty_int_str, ty_int_int, ty_int_bool, ty_int_tuple, ty_int_list, ty_int_dict, ty_str_str, ty_str_int, ty_str_bool, ty_str_tuple, ty_str_list, ty_str_dict, ty_tuple_str, ty_tuple_int, ty_tuple_bool, ty_tuple_tuple, ty_tuple_list, ty_tuple_dict, ty_list_str, ty_list_int, ty_list_bool, ty_list_tuple, ty_list_list, ty_list_dict, ty_dict_str, ty_dict_int, ty_dict_bool, ty_dict_tuple, ty_dict_list, ty_dict_dict, fq_not_not, fq_not_retry, fq_not_repeat, fq_not_all, fq_not_any, fq_retry_not, fq_retry_retry, fq_retry_repeat, fq_retry_all, fq_retry_any, fq_repeat_not, fq_repeat_retry, fq_repeat_repeat, fq_repeat_all, fq_repeat_any, fq_all_not, fq_all_retry, fq_all_repeat, fq_all_all, fq_all_any, fq_any_not, fq_any_retry, fq_any_repeat, fq_any_all, fq_any_any, fl_str, nc0, nc1, nc2, nc3, nc4, nc5, nc6, nc7, nc8, nc9, nc10, nc11, nc60, deqI, List.any_cons, List.any_nil, Bool.or_false, Bool.false_or, Bool.or_true, Bool.true_or, Bool.and_true, Bool.true_and, Bool.and_false, Bool.false_and, decide_true, decide_false, Int.reduceLE, Int.reduceLT, Int.reduceBEq, BEq.rfl, beq_self_eq_true, if_true, if_false, deqS, G.LETTERS, hin]
      exact fun d hd => (List.mem_append.mp hd).elim (ha d) fun e => List.mem_singleton.mp e
  · subst e
    refine ⟨rfl, ?_⟩
    rw [lsq_new, Option.bind_some, bls_trues acc ha, op_some, all_replicate]
    exact ⟨rfl, .one⟩
theorem is_step_tup (G : HasPlan g) {n : Nat} {M : Hm} {l : List D} : (callF g (n + 1) "is_step" [.tup l] M).wp fun d M' => d = .bl false ∧ M' = M := by
  refine call_wp G.is_step rfl (by decide) ?_
  simp only [d_is_step, ↓e_non, ↓e_bl, ↓e_int, ↓e_str, ↓e_var, ↓e_glo, ↓e_bin, ↓e_neg, ↓e_not, ↓e_cmp, ↓e_cmp2, ↓e_and, ↓e_or, ↓e_ife, ↓e_tup, ↓e_lst, ↓e_sub, ↓e_sl, ↓e_call, ↓e_calk, ↓e_bi, ↓e_isi, ↓e_me, ↓e_cpy, ↓e_bdd, ↓e_bcp, ↓e_lrg, ↓e_sdd, ↓e_tupd, ↓e_rev, ↓e_lc, ↓e_sc2, ↓e_esnil, ↓e_escons, ↓e_onone, ↓e_osome, ↓e_cnone, ↓e_csome, ↓e_iex, ↓e_irng1, ↓e_irng2, ↓e_ienum, ↓e_izip, ↓e_tname, ↓e_ttup, ↓e_tsub, ↓e_tsnil, ↓e_tscons, ↓e_bnil, ↓e_bcons, ↓e_asg, ↓e_augs, ↓e_getoop, ↓e_aug, ↓e_ex, ↓e_ret, ↓e_retn, ↓e_pass, ↓e_brk, ↓e_ct, ↓e_ite, ↓e_for, ↓e_while, ↓e_mat, ↓e_mnil, ↓e_mcons, ↓e_addI, ↓e_addS, ↓e_addT, ↓e_addL, ↓e_subI, ↓e_mulI, ↓e_mulL, ↓e_mulT, ↓e_fdiv, ↓e_mod, ↓e_pow, ↓e_augA, ↓e_augS, ↓e_augT, ↓e_ltI, ↓e_leI, ↓e_gtI, ↓e_geI, ↓e_eq, ↓e_ne, ↓e_is, ↓e_isnot, ↓e_isB2, ↓e_isnotB2, ↓e_inS, ↓e_ninS, ↓e_inR, ↓e_inT, ↓e_ninR, ↓e_ninT, ↓e_subD, ↓e_subS, ↓e_subT, ↓e_subR, ↓e_subB, ↓e_subBd, ↓e_subSd, ↓e_subL, ↓e_slS, ↓e_slT, ↓e_slR, ↓e_slL, ↓e_stoop, ↓e_stoopB, ↓e_bi1, ↓e_bi2, ↓e_lenS, ↓e_lenT, ↓e_lenR, ↓e_lenL, ↓e_dictB, ↓e_dictR, ↓e_abs, ↓e_sum, ↓e_all, ↓e_any, ↓e_max, ↓e_min, ↓e_sorted, ↓e_set, ↓e_list, ↓e_tuple, ↓e_str1, ↓e_int1, ↓e_int2, ↓e_listxS, ↓e_listxT, ↓e_reprd, ↓e_repr, ↓e_max2, ↓e_min2, ↓e_divmod, ↓e_append, ↓e_extend, ↓e_join, ↓e_mget, ↓e_mgetS, ↓e_mgetI, ↓e_count, ↓e_mcount, ↓e_mapp, ↓e_mext, ↓e_mextT, ↓e_mjoin, ↓e_itT, ↓e_itR, ↓e_itS, ↓e_itL, ↓e_itG, ↓e_itE, ↓e_itET, ↓e_itZT, ↓e_itZL, ↓e_tN, ↓e_tB, ↓e_tI, ↓e_tS, ↓e_tT, ↓e_tR, ↓e_tL, ↓e_asI, ↓e_asB, ↓e_asT, ↓e_asTL, ↓e_tyN, ↓e_tyB, ↓e_tyI, ↓e_tyS, ↓e_tyT, ↓e_tyR, ↓e_isN, ↓e_isB, ↓e_isI, ↓e_isS, ↓e_isT, ↓e_isR, lk_some, op_some, lkL_some, lkB_some, lkS_some, bdO_t, bdO_f, cnd_true, cnd_false, List.getElem?_cons_zero, List.getElem?_cons_succ, List.length_cons, List.length_nil, List.set_cons_zero, List.set_cons_succ, List.cons_append, List.nil_append, List.append_nil, List.map_cons, List.map_nil, List.replicate_succ, List.replicate_zero, Nat.reduceSub, Nat.reduceAdd, Nat.reduceLT, true_and, and_true, true_or, or_true, Option.isSome_some, Bool.not_true, Bool.not_false, Bool.false_eq_true, a_0, a_1, a_2, a_3, x_30, x_31, x_32, x_20, x_21, Tgs.len, Tgs.slots, Tg.slots, wipe, ty_NoneType_str, ty_NoneType_int, ty_NoneType_bool, ty_NoneType_tuple, ty_NoneType_list, ty_NoneType_dict, ty_bool_str, ty_bool_int, ty_bool_bool, ty_bool_tuple, ty_bool_list, ty_bool_dict, ty_int_str, ty_int_int, ty_int_bool, ty_int_tuple, ty_int_list, ty_int_dict, ty_str_str, ty_str_int, ty_str_bool, ty_str_tuple, ty_str_list, ty_str_dict, ty_tuple_str, ty_tuple_int, ty_tuple_bool, ty_tuple_tuple, ty_tuple_list, ty_tuple_dict, ty_list_str, ty_list_int, ty_list_bool, ty_list_tuple, ty_list_list, ty_list_dict, ty_dict_str, ty_dict_int, ty_dict_bool, ty_dict_tuple, ty_dict_list, ty_dict_dict, fq_not_not, fq_not_retry, fq_not_repeat, fq_not_all, fq_not_any, fq_retry_not, fq_retry_retry, fq_retry_repeat, fq_retry_all, fq_retry_any, fq_repeat_not, fq_repeat_retry, fq_repeat_repeat, fq_repeat_all, fq_repeat_any, fq_all_not, fq_all_retry, fq_all_repeat, fq_all_all, fq_all_any, fq_any_not, fq_any_retry, fq_any_repeat, fq_any_all, fq_any_any, fl_str, nc0, nc1, nc2, nc3, nc4, nc5, nc6, nc7, nc8, nc9, nc10, nc11, nc60, deqI, List.any_cons, List.any_nil, Bool.or_false, Bool.false_or, Bool.or_true, Bool.true_or, Bool.and_true, Bool.true_and, Bool.and_false, Bool.false_and, decide_true, decide_false, Int.reduceLE, Int.reduceLT, Int.reduceBEq, BEq.rfl, beq_self_eq_true, if_true, if_false, deqS]
theorem is_times_wp (G : HasPlan g) {n : Nat} {M : Hm} {k : Int} (h1 : 1 ≤ k) (h2 : k ≤ 10 ^ 30) : (callF g (n + 2) "is_times" [.int k] M).wp fun d M' => d = .bl true ∧ M' = M := by
  refine call_wp G.is_times rfl (by decide) ?_
  have c1 : decide (1 ≤ k) = true := by simpa using h1
  have c2 : decide (k ≤ 1000000000000000000000000000000) = true := by simpa using h2
  simp only [d_is_times, ↓e_non, ↓e_bl, ↓e_int, ↓e_str, ↓e_var, ↓e_glo, ↓e_bin, ↓e_neg, ↓e_not, ↓e_cmp, ↓e_cmp2, ↓e_and, ↓e_or, ↓e_ife, ↓e_tup, ↓e_lst, ↓e_sub, ↓e_sl, ↓e_call, ↓e_calk, ↓e_bi, ↓e_isi, ↓e_me, ↓e_cpy, ↓e_bdd, ↓e_bcp, ↓e_lrg, ↓e_sdd, ↓e_tupd, ↓e_rev, ↓e_lc, ↓e_sc2, ↓e_esnil, ↓e_escons, ↓e_onone, ↓e_osome, ↓e_cnone, ↓e_csome, ↓e_iex, ↓e_irng1, ↓e_irng2, ↓e_ienum, ↓e_izip, ↓e_tname, ↓e_ttup, ↓e_tsub, ↓e_tsnil, ↓e_tscons, ↓e_bnil, ↓e_bcons, ↓e_asg, ↓e_augs, ↓e_getoop, ↓e_aug, ↓e_ex, ↓e_ret, ↓e_retn, ↓e_pass, ↓e_brk, ↓e_ct, ↓e_ite, ↓e_for, ↓e_while, ↓e_mat, ↓e_mnil, ↓e_mcons, ↓e_addI, ↓e_addS, ↓e_addT, ↓e_addL, ↓e_subI, ↓e_mulI, ↓e_mulL, ↓e_mulT, ↓e_fdiv, ↓e_mod, ↓e_pow, ↓e_augA, ↓e_augS, ↓e_augT, ↓e_ltI, ↓e_leI, ↓e_gtI, ↓e_geI, ↓e_eq, ↓e_ne, ↓e_is, ↓e_isnot, ↓e_isB2, ↓e_isnotB2, ↓e_inS, ↓e_ninS, ↓e_inR, ↓e_inT, ↓e_ninR, ↓e_ninT, ↓e_subD, ↓e_subS, ↓e_subT, ↓e_subR, ↓e_subB, ↓e_subBd, ↓e_subSd, ↓e_subL, ↓e_slS, ↓e_slT, ↓e_slR, ↓e_slL, ↓e_stoop, ↓e_stoopB, ↓e_bi1, ↓e_bi2, ↓e_lenS, ↓e_lenT, ↓e_lenR, ↓e_lenL, ↓e_dictB, ↓e_dictR, ↓e_abs, ↓e_sum, ↓e_all, ↓e_any, ↓e_max, ↓e_min, ↓e_sorted, ↓e_set, ↓e_list, ↓e_tuple, ↓e_str1, ↓e_int1, ↓e_int2, ↓e_listxS, ↓e_listxT, ↓e_reprd, ↓e_repr, ↓e_max2, ↓e_min2, ↓e_divmod, ↓e_append, ↓e_extend, ↓e_join, ↓e_mget, ↓e_mgetS, ↓e_mgetI, ↓e_count, ↓e_mcount, ↓e_mapp, ↓e_mext, ↓e_mextT, ↓e_mjoin, ↓e_itT, ↓e_itR, ↓e_itS, ↓e_itL, ↓e_itG, ↓e_itE, ↓e_itET, ↓e_itZT, ↓e_itZL, ↓e_tN, ↓e_tB, ↓e_tI, ↓e_tS, ↓e_tT, ↓e_tR, ↓e_tL, ↓e_asI, ↓e_asB, ↓e_asT, ↓e_asTL, ↓e_tyN, ↓e_tyB, ↓e_tyI, ↓e_tyS, ↓e_tyT, ↓e_tyR, ↓e_isN, ↓e_isB, ↓e_isI, ↓e_isS, ↓e_isT, ↓e_isR, lk_some, op_some, lkL_some, lkB_some, lkS_some, bdO_t, bdO_f, cnd_true, cnd_false, List.getElem?_cons_zero, List.getElem?_cons_succ, List.length_cons, List.length_nil, List.set_cons_zero, List.set_cons_succ, List.cons_append, List.nil_append, List.append_nil, List.map_cons, List.map_nil, List.replicate_succ, List.replicate_zero, Nat.reduceSub, Nat.reduceAdd, Nat.reduceLT, true_and, and_true, true_or, or_true, Option.isSome_some, Bool.not_true, Bool.not_false, Bool.false_eq_true, a_0, a_1, a_2, a_3, x_30, x_31, x_32, x_20, x_21, Tgs.len, Tgs.slots, Tg.slots, wipe, ty_NoneType_str, ty_NoneType_int, ty_NoneType_bool, ty_NoneType_tuple, ty_NoneType_list, ty_NoneType_dict, ty_bool_str, ty_bool_int, ty_bool_bool, ty_bool_tuple, ty_bool_list, ty_bool_dict, ty_int_str, ty_int_int, ty_int_bool, ty_int_tuple, ty_int_list, ty_int_dict, ty_str_str, ty_str_int, ty_str_bool, ty_str_tuple, ty_str_list, ty_str_dict, ty_tuple_str, ty_tuple_int, ty_tuple_bool, ty_tuple_tuple, ty_tuple_list, ty_tuple_dict, ty_list_str, ty_list_int, ty_list_bool, ty_list_tuple, ty_list_list, ty_list_dict, ty_dict_str, ty_dict_int, ty_dict_bool, ty_dict_tuple, ty_dict_list, ty_dict_dict, fq_not_not, fq_not_retry, fq_not_repeat, fq_not_all, fq_not_any, fq_retry_not, fq_retry_retry, fq_retry_repeat, fq_retry_all, fq_retry_any, fq_repeat_not, fq_repeat_retry, fq_repeat_repeat, fq_repeat_all, fq_repeat_any, fq_all_not, fq_all_retry, fq_all_repeat, fq_all_all, fq_all_any, fq_any_not, fq_any_retry, fq_any_repeat, fq_any_all, fq_any_any, fl_str, nc0, nc1, nc2, nc3, nc4, nc5, nc6, nc7, nc8, nc9, nc10, nc11, nc60, deqI, List.any_cons, List.any_nil, Bool.or_false, Bool.false_or, Bool.or_true, Bool.true_or, Bool.and_true, Bool.true_and, Bool.and_false, Bool.false_and, decide_true, decide_false, Int.reduceLE, Int.reduceLT, Int.reduceBEq, BEq.rfl, beq_self_eq_true, if_true, if_false, deqS, G.is_integer, G.MOST_TIMES, c1, c2]
  refine (call_wp (Q := fun d M' => d = .bl true ∧ M' = M) G.is_integer rfl (by decide) ?_).mono fun d M' ⟨e1, e2⟩ => ?_
  · simp only [d_is_integer, ↓e_non, ↓e_bl, ↓e_int, ↓e_str, ↓e_var, ↓e_glo, ↓e_bin, ↓e_neg, ↓e_not, ↓e_cmp, ↓e_cmp2, ↓e_and, ↓e_or, ↓e_ife, ↓e_tup, ↓e_lst, ↓e_sub, ↓e_sl, ↓e_call, ↓e_calk, ↓e_bi, ↓e_isi, ↓e_me, ↓e_cpy, ↓e_bdd, ↓e_bcp, ↓e_lrg, ↓e_sdd, ↓e_tupd, ↓e_rev, ↓e_lc, ↓e_sc2, ↓e_esnil, ↓e_escons, ↓e_onone, ↓e_osome, ↓e_cnone, ↓e_csome, ↓e_iex, ↓e_irng1, ↓e_irng2, ↓e_ienum, ↓e_izip, ↓e_tname, ↓e_ttup, ↓e_tsub, ↓e_tsnil, ↓e_tscons, ↓e_bnil, ↓e_bcons, ↓e_asg, ↓e_augs, ↓e_getoop, ↓e_aug, ↓e_ex, ↓e_ret, ↓e_retn, ↓e_pass, ↓e_brk, ↓e_ct, ↓e_ite, ↓e_for, ↓e_while, ↓e_mat, ↓e_mnil, ↓e_mcons, ↓e_addI, ↓e_addS, ↓e_addT, ↓e_addL, ↓e_subI, ↓e_mulI, ↓e_mulL, ↓e_mulT, ↓e_fdiv, ↓e_mod, ↓e_pow, ↓e_augA, ↓e_augS, ↓e_augT, ↓e_ltI, ↓e_leI, ↓e_gtI, ↓e_geI, ↓e_eq, ↓e_ne, ↓e_is, ↓e_isnot, ↓e_isB2, ↓e_isnotB2, ↓e_inS, ↓e_ninS, ↓e_inR, ↓e_inT, ↓e_ninR, ↓e_ninT, ↓e_subD, ↓e_subS, ↓e_subT, ↓e_subR, ↓e_subB, ↓e_subBd, ↓e_subSd, ↓e_subL, ↓e_slS, ↓e_slT, ↓e_slR, ↓e_slL, ↓e_stoop, ↓e_stoopB, ↓e_bi1, ↓e_bi2, ↓e_lenS, ↓e_lenT, ↓e_lenR, ↓e_lenL, ↓e_dictB, ↓e_dictR, ↓e_abs, ↓e_sum, ↓e_all, ↓e_any, ↓e_max, ↓e_min, ↓e_sorted, ↓e_set, ↓e_list, ↓e_tuple, ↓e_str1, ↓e_int1, ↓e_int2, ↓e_listxS, ↓e_listxT, ↓e_reprd, ↓e_repr, ↓e_max2, ↓e_min2, ↓e_divmod, ↓e_append, ↓e_extend, ↓e_join, ↓e_mget, ↓e_mgetS, ↓e_mgetI, ↓e_count, ↓e_mcount, ↓e_mapp, ↓e_mext, ↓e_mextT, ↓e_mjoin, ↓e_itT, ↓e_itR, ↓e_itS, ↓e_itL, ↓e_itG, ↓e_itE, ↓e_itET, ↓e_itZT, ↓e_itZL, ↓e_tN, ↓e_tB, ↓e_tI, ↓e_tS, ↓e_tT, ↓e_tR, ↓e_tL, ↓e_asI, ↓e_asB, ↓e_asT, ↓e_asTL, ↓e_tyN, ↓e_tyB, ↓e_tyI, ↓e_tyS, ↓e_tyT, ↓e_tyR, ↓e_isN, ↓e_isB, ↓e_isI, ↓e_isS, ↓e_isT, ↓e_isR, lk_some, op_some, lkL_some, lkB_some, lkS_some, bdO_t, bdO_f, cnd_true, cnd_false, List.getElem?_cons_zero, List.getElem?_cons_succ, List.length_cons, List.length_nil, List.set_cons_zero, List.set_cons_succ, List.cons_append, List.nil_append, List.append_nil, List.map_cons, List.map_nil, List.replicate_succ, List.replicate_zero, Nat.reduceSub, Nat.reduceAdd, Nat.reduceLT, true_and, and_true, true_or, or_true, Option.isSome_some, Bool.not_true, Bool.not_false, Bool.false_eq_true, a_0, a_1, a_2, a_3, x_30, x_31, x_32, x_20, x_21, Tgs.len, Tgs.slots, Tg.slots, wipe, ty_NoneType_str, ty_NoneType_int, ty_NoneType_bool, ty_NoneType_tuple, ty_NoneType_list, ty_NoneType_dict, ty_bool_str, ty_bool_int, ty_bool_bool, ty_bool_tuple, ty_bool_list, ty_bool_dict, ty_int_str, ty_int_int, ty_int_bool, ty_int_tuple, ty_int_list, ty_int_dict, ty_str_str, ty_str_int, ty_str_bool, ty_str_tuple, ty_str_list, ty_str_dict, ty_tuple_str, ty_tuple_int, ty_tuple_bool, ty_tuple_tuple, ty_tuple_list, ty_tuple_dict, ty_list_str, ty_list_int, ty_list_bool, ty_list_tuple, ty_list_list, ty_list_dict, ty_dict_str, ty_dict_int, ty_dict_bool, ty_dict_tuple, ty_dict_list, ty_dict_dict, fq_not_not, fq_not_retry, fq_not_repeat, fq_not_all, fq_not_any, fq_retry_not, fq_retry_retry, fq_retry_repeat, fq_retry_all, fq_retry_any, fq_repeat_not, fq_repeat_retry, fq_repeat_repeat, fq_repeat_all, fq_repeat_any, fq_all_not, fq_all_retry, fq_all_repeat, fq_all_all, fq_all_any, fq_any_not, fq_any_retry, fq_any_repeat, fq_any_all, fq_any_any, fl_str, nc0, nc1, nc2, nc3, nc4, nc5, nc6, nc7, nc8, nc9, nc10, nc11, nc60, deqI, List.any_cons, List.any_nil, Bool.or_false, Bool.false_or, Bool.or_true, Bool.true_or, Bool.and_true, Bool.true_and, Bool.and_false, Bool.false_and, decide_true, decide_false, Int.reduceLE, Int.reduceLT, Int.reduceBEq, BEq.rfl, beq_self_eq_true, if_true, if_false, deqS]
  · subst e1 e2
    simp only [↓e_non, ↓e_bl, ↓e_int, ↓e_str, ↓e_var, ↓e_glo, ↓e_bin, ↓e_neg, ↓e_not, ↓e_cmp, ↓e_cmp2, ↓e_and, ↓e_or, ↓e_ife, ↓e_tup, ↓e_lst, ↓e_sub, ↓e_sl, ↓e_call, ↓e_calk, ↓e_bi, ↓e_isi, ↓e_me, ↓e_cpy, ↓e_bdd, ↓e_bcp, ↓e_lrg, ↓e_sdd, ↓e_tupd, ↓e_rev, ↓e_lc, ↓e_sc2, ↓e_esnil, ↓e_escons, ↓e_onone, ↓e_osome, ↓e_cnone, ↓e_csome, ↓e_iex, ↓e_irng1, ↓e_irng2, ↓e_ienum, ↓e_izip, ↓e_tname, ↓e_ttup, ↓e_tsub, ↓e_tsnil, ↓e_tscons, ↓e_bnil, ↓e_bcons, ↓e_asg, ↓e_augs, ↓e_getoop, ↓e_aug, ↓e_ex, ↓e_ret, ↓e_retn, ↓e_pass, ↓e_brk, ↓e_ct, ↓e_ite, ↓e_for, ↓e_while, ↓e_mat, ↓e_mnil, ↓e_mcons, ↓e_addI, ↓e_addS, ↓e_addT, ↓e_addL, ↓e_subI, ↓e_mulI, ↓e_mulL, ↓e_mulT, ↓e_fdiv, ↓e_mod, ↓e_pow, ↓e_augA, ↓e_augS, ↓e_augT, ↓e_ltI, ↓e_leI, ↓e_gtI, ↓e_geI, ↓e_eq, ↓e_ne, ↓e_is, ↓e_isnot, ↓e_isB2, ↓e_isnotB2, ↓e_inS, ↓e_ninS, ↓e_inR, ↓e_inT, ↓e_ninR, ↓e_ninT, ↓e_subD, ↓e_subS, ↓e_subT, ↓e_subR, ↓e_subB, ↓e_subBd, ↓e_subSd, ↓e_subL, ↓e_slS, ↓e_slT, ↓e_slR, ↓e_slL, ↓e_stoop, ↓e_stoopB, ↓e_bi1, ↓e_bi2, ↓e_lenS, ↓e_lenT, ↓e_lenR, ↓e_lenL, ↓e_dictB, ↓e_dictR, ↓e_abs, ↓e_sum, ↓e_all, ↓e_any, ↓e_max, ↓e_min, ↓e_sorted, ↓e_set, ↓e_list, ↓e_tuple, ↓e_str1, ↓e_int1, ↓e_int2, ↓e_listxS, ↓e_listxT, ↓e_reprd, ↓e_repr, ↓e_max2, ↓e_min2, ↓e_divmod, ↓e_append, ↓e_extend, ↓e_join, ↓e_mget, ↓e_mgetS, ↓e_mgetI, ↓e_count, ↓e_mcount, ↓e_mapp, ↓e_mext, ↓e_mextT, ↓e_mjoin, ↓e_itT, ↓e_itR, ↓e_itS, ↓e_itL, ↓e_itG, ↓e_itE, ↓e_itET, ↓e_itZT, ↓e_itZL, ↓e_tN, ↓e_tB, ↓e_tI, ↓e_tS, ↓e_tT, ↓e_tR, ↓e_tL, ↓e_asI, ↓e_asB, ↓e_asT, ↓e_asTL, ↓e_tyN, ↓e_tyB, ↓e_tyI, ↓e_tyS, ↓e_tyT, ↓e_tyR, ↓e_isN, ↓e_isB, ↓e_isI, ↓e_isS, ↓e_isT, ↓e_isR, lk_some, op_some, lkL_some, lkB_some, lkS_some, bdO_t, bdO_f, cnd_true, cnd_false, List.getElem?_cons_zero, List.getElem?_cons_succ, List.length_cons, List.length_nil, List.set_cons_zero, List.set_cons_succ, List.cons_append, List.nil_append, List.append_nil, List.map_cons, List.map_nil, List.replicate_succ, List.replicate_zero, Nat.reduceSub, Nat.reduceAdd, Nat.reduceLT, true_and, and_true, true_or, or_true, Option.isSome_some, Bool.not_true, Bool.not_false, Bool.false_eq_true, a_0, a_1, a_2, a_3, x_30, x_31, x_32, x_20, x_21, Tgs.len, Tgs.slots, Tg.slots, wipe, ty_NoneType_str, ty_NoneType_int, ty_NoneType_bool, ty_NoneType_tuple, ty_NoneType_list, ty_NoneType_dict, ty_bool_str, ty_bool_int, ty_bool_bool, ty_bool_tuple, ty_bool_list, ty_bool_dict, ty_int_str, ty_int_int, ty_int_bool, ty_int_tuple, ty_int_list, ty_int_dict, ty_str_str, ty_str_int, ty_str_bool, ty_str_tuple, ty_str_list, ty_str_dict, ty_tuple_str, ty_tuple_int, ty_tuple_bool, ty_tuple_tuple, ty_tuple_list, ty_tuple_dict, ty_list_str, ty_list_int, ty_list_bool, ty_list_tuple, ty_list_list, ty_list_dict, ty_dict_str, ty_dict_int, ty_dict_bool, ty_dict_tuple, ty_dict_list, ty_dict_dict, fq_not_not, fq_not_retry, fq_not_repeat, fq_not_all, fq_not_any, fq_retry_not, fq_retry_retry, fq_retry_repeat, fq_retry_all, fq_retry_any, fq_repeat_not, fq_repeat_retry, fq_repeat_repeat, fq_repeat_all, fq_repeat_any, fq_all_not, fq_all_retry, fq_all_repeat, fq_all_all, fq_all_any, fq_any_not, fq_any_retry, fq_any_repeat, fq_any_all, fq_any_any, fl_str, nc0, nc1, nc2, nc3, nc4, nc5, nc6, nc7, nc8, nc9, nc10, nc11, nc60, deqI, List.any_cons, List.any_nil, Bool.or_false, Bool.false_or, Bool.or_true, Bool.true_or, Bool.and_true, Bool.true_and, Bool.and_false, Bool.false_and, decide_true, decide_false, Int.reduceLE, Int.reduceLT, Int.reduceBEq, BEq.rfl, beq_self_eq_true, if_true, if_false, deqS, G.MOST_TIMES, c1, c2]
/-- the parts of a form -/
def Tr.parts : Tr → List Tr
  | .leaf _ => []
  | .no t => [t]
  | .rep _ t _ => [t]
  | .grp _ l => l
theorem inner_wp (G : HasPlan g) {n : Nat} {M : Hm} {t : Tr} (hg : good t) (hl : ∀ s, t ≠ .leaf s) : (callF g (n + 3) "inner_values" [enc t] M).wp fun d M' => d = .tup (encs t.parts) ∧ M' = M := by
  refine call_wp G.inner_values rfl (by decide) ?_
  cases t with
  | leaf s => exact absurd rfl (hl s)
  | no t =>
    simp only [d_inner_values, enc, ↓e_non, ↓e_bl, ↓e_int, ↓e_str, ↓e_var, ↓e_glo, ↓e_bin, ↓e_neg, ↓e_not, ↓e_cmp, ↓e_cmp2, ↓e_and, ↓e_or, ↓e_ife, ↓e_tup, ↓e_lst, ↓e_sub, ↓e_sl, ↓e_call, ↓e_calk, ↓e_bi, ↓e_isi, ↓e_me, ↓e_cpy, ↓e_bdd, ↓e_bcp, ↓e_lrg, ↓e_sdd, ↓e_tupd, ↓e_rev, ↓e_lc, ↓e_sc2, ↓e_esnil, ↓e_escons, ↓e_onone, ↓e_osome, ↓e_cnone, ↓e_csome, ↓e_iex, ↓e_irng1, ↓e_irng2, ↓e_ienum, ↓e_izip, ↓e_tname, ↓e_ttup, ↓e_tsub, ↓e_tsnil, ↓e_tscons, ↓e_bnil, ↓e_bcons, ↓e_asg, ↓e_augs, ↓e_getoop, ↓e_aug, ↓e_ex, ↓e_ret, ↓e_retn, ↓e_pass, ↓e_brk, ↓e_ct, ↓e_ite, ↓e_for, ↓e_while, ↓e_mat, ↓e_mnil, ↓e_mcons, ↓e_addI, ↓e_addS, ↓e_addT, ↓e_addL, ↓e_subI, ↓e_mulI, ↓e_mulL, ↓e_mulT, ↓e_fdiv, ↓e_mod, ↓e_pow, ↓e_augA, ↓e_augS, ↓e_augT, ↓e_ltI, ↓e_leI, ↓e_gtI, ↓e_geI, ↓e_eq, ↓e_ne, ↓e_is, ↓e_isnot, ↓e_isB2, ↓e_isnotB2, ↓e_inS, ↓e_ninS, ↓e_inR, ↓e_inT, ↓e_ninR, ↓e_ninT, ↓e_subD, ↓e_subS, ↓e_subT, ↓e_subR, ↓e_subB, ↓e_subBd, ↓e_subSd, ↓e_subL, ↓e_slS, ↓e_slT, ↓e_slR, ↓e_slL, ↓e_stoop, ↓e_stoopB, ↓e_bi1, ↓e_bi2, ↓e_lenS, ↓e_lenT, ↓e_lenR, ↓e_lenL, ↓e_dictB, ↓e_dictR, ↓e_abs, ↓e_sum, ↓e_all, ↓e_any, ↓e_max, ↓e_min, ↓e_sorted, ↓e_set, ↓e_list, ↓e_tuple, ↓e_str1, ↓e_int1, ↓e_int2, ↓e_listxS, ↓e_listxT, ↓e_reprd, ↓e_repr, ↓e_max2, ↓e_min2, ↓e_divmod, ↓e_append, ↓e_extend, ↓e_join, ↓e_mget, ↓e_mgetS, ↓e_mgetI, ↓e_count, ↓e_mcount, ↓e_mapp, ↓e_mext, ↓e_mextT, ↓e_mjoin, ↓e_itT, ↓e_itR, ↓e_itS, ↓e_itL, ↓e_itG, ↓e_itE, ↓e_itET, ↓e_itZT, ↓e_itZL, ↓e_tN, ↓e_tB, ↓e_tI, ↓e_tS, ↓e_tT, ↓e_tR, ↓e_tL, ↓e_asI, ↓e_asB, ↓e_asT, ↓e_asTL, ↓e_tyN, ↓e_tyB, ↓e_tyI, ↓e_tyS, ↓e_tyT, ↓e_tyR, ↓e_isN, ↓e_isB, ↓e_isI, ↓e_isS, ↓e_isT, ↓e_isR, lk_some, op_some, lkL_some, lkB_some, lkS_some, bdO_t, bdO_f, cnd_true, cnd_false, List.getElem?_cons_zero, List.getElem?_cons_succ, List.length_cons, List.length_nil, List.set_cons_zero, List.set_cons_succ, List.cons_append, List.nil_append, List.append_nil, List.map_cons, List.map_nil, List.replicate_succ, List.replicate_zero, Nat.reduceSub, Nat.reduceAdd, Nat.reduceLT, true_and, and_true, true_or, or_true, Option.isSome_some, Bool.not_true, Bool.not_false, Bool.false_eq_true, a_0, a_1, a_2, a_3, x_30, x_31, x_32, x_20, x_21, Tgs.len, Tgs.slots, Tg.slots, wipe, ty_NoneType_str, ty_NoneType_int, ty_NoneType_bool, ty_NoneType_tuple, ty_NoneType_list, ty_NoneType_dict, ty_bool_str, ty_bool_int, ty_bool_bool, ty_bool_tuple, ty_bool_list, ty_bool_dict, ty_int_str, ty_int_int, ty_int_bool, ty_int_tuple, ty_int_list, ty_int_dict, ty_str_str, ty_str_int, ty_str_bool, ty_str_tuple, ty_str_list, ty_str_dict, ty_tuple_str, ty_tuple_int, ty_tuple_bool, ty_tuple_tuple, ty_tuple_list, ty_tuple_dict, ty_list_str, ty_list_int, ty_list_bool, ty_list_tuple, ty_list_list, ty_list_dict, ty_dict_str, ty_dict_int, ty_dict_bool, ty_dict_tuple, ty_dict_list, ty_dict_dict, fq_not_not, fq_not_retry, fq_not_repeat, fq_not_all, fq_not_any, fq_retry_not, fq_retry_retry, fq_retry_repeat, fq_retry_all, fq_retry_any, fq_repeat_not, fq_repeat_retry, fq_repeat_repeat, fq_repeat_all, fq_repeat_any, fq_all_not, fq_all_retry, fq_all_repeat, fq_all_all, fq_all_any, fq_any_not, fq_any_retry, fq_any_repeat, fq_any_all, fq_any_any, fl_str, nc0, nc1, nc2, nc3, nc4, nc5, nc6, nc7, nc8, nc9, nc10, nc11, nc60, deqI, List.any_cons, List.any_nil, Bool.or_false, Bool.false_or, Bool.or_true, Bool.true_or, Bool.and_true, Bool.true_and, Bool.and_false, Bool.false_and, decide_true, decide_false, Int.reduceLE, Int.reduceLT, Int.reduceBEq, BEq.rfl, beq_self_eq_true, if_true, if_false, deqS, G.is_times]
    rfl
  | rep b t k =>
    obtain ⟨h1, h2, h3⟩ := hg
    cases b
    all_goals
      simp only [d_inner_values, enc, repW, ↓e_non, ↓e_bl, ↓e_int, ↓e_str, ↓e_var, ↓e_glo, ↓e_bin, ↓e_neg, ↓e_not, ↓e_cmp, ↓e_cmp2, ↓e_and, ↓e_or, ↓e_ife, ↓e_tup, ↓e_lst, ↓e_sub, ↓e_sl, ↓e_call, ↓e_calk, ↓e_bi, ↓e_isi, ↓e_me, ↓e_cpy, ↓e_bdd, ↓e_bcp, ↓e_lrg, ↓e_sdd, ↓e_tupd, ↓e_rev, ↓e_lc, ↓e_sc2, ↓e_esnil, ↓e_escons, ↓e_onone, ↓e_osome, ↓e_cnone, ↓e_csome, ↓e_iex, ↓e_irng1, ↓e_irng2, ↓e_ienum, ↓e_izip, ↓e_tname, ↓e_ttup, ↓e_tsub, ↓e_tsnil, ↓e_tscons, ↓e_bnil, ↓e_bcons, ↓e_asg, ↓e_augs, ↓e_getoop, ↓e_aug, ↓e_ex, ↓e_ret, ↓e_retn, ↓e_pass, ↓e_brk, ↓e_ct, ↓e_ite, ↓e_for, ↓e_while, ↓e_mat, ↓e_mnil, ↓e_mcons, ↓e_addI, ↓e_addS, ↓e_addT, ↓e_addL, ↓e_subI, ↓e_mulI, ↓e_mulL, ↓e_mulT, ↓e_fdiv, ↓e_mod, ↓e_pow, ↓e_augA, ↓e_augS, ↓e_augT, ↓e_ltI, ↓e_leI, ↓e_gtI, ↓e_geI, ↓e_eq, ↓e_ne, ↓e_is, ↓e_isnot, ↓e_isB2, ↓e_isnotB2, ↓e_inS, ↓e_ninS, ↓e_inR, ↓e_inT, ↓e_ninR, ↓e_ninT, ↓e_subD, ↓e_subS, ↓e_subT, ↓e_subR, ↓e_subB, ↓e_subBd, ↓e_subSd, ↓e_subL, ↓e_slS, ↓e_slT, ↓e_slR, ↓e_slL, ↓e_stoop, ↓e_stoopB, ↓e_bi1, ↓e_bi2, ↓e_lenS, ↓e_lenT, ↓e_lenR, ↓e_lenL, ↓e_dictB, ↓e_dictR, ↓e_abs, ↓e_sum, ↓e_all, ↓e_any, ↓e_max, ↓e_min, ↓e_sorted, ↓e_set, ↓e_list, ↓e_tuple, ↓e_str1, ↓e_int1, ↓e_int2, ↓e_listxS, ↓e_listxT, ↓e_reprd, ↓e_repr, ↓e_max2, ↓e_min2, ↓e_divmod, ↓e_append, ↓e_extend, ↓e_join, ↓e_mget, ↓e_mgetS, ↓e_mgetI, ↓e_count, ↓e_mcount, ↓e_mapp, ↓e_mext, ↓e_mextT, ↓e_mjoin, ↓e_itT, ↓e_itR, ↓e_itS, ↓e_itL, ↓e_itG, ↓e_itE, ↓e_itET, ↓e_itZT, ↓e_itZL, ↓e_tN, ↓e_tB, ↓e_tI, ↓e_tS, ↓e_tT, ↓e_tR, ↓e_tL, ↓e_asI, ↓e_asB, ↓e_asT, ↓e_asTL, ↓e_tyN, ↓e_tyB, ↓e_tyI, ↓e_tyS, ↓e_tyT, ↓e_tyR, ↓e_isN, ↓e_isB, ↓e_isI, ↓e_isS, ↓e_isT, ↓e_isR, lk_some, op_some, lkL_some, lkB_some, lkS_some, bdO_t, bdO_f, cnd_true, cnd_false, List.getElem?_cons_zero, List.getElem?_cons_succ, List.length_cons, List.length_nil, List.set_cons_zero, List.set_cons_succ, List.cons_append, List.nil_append, List.append_nil, List.map_cons, List.map_nil, List.replicate_succ, List.replicate_zero, Nat.reduceSub, Nat.reduceAdd, Nat.reduceLT, true_and, and_true, true_or, or_true, Option.isSome_some, Bool.not_true, Bool.not_false, Bool.false_eq_true, a_0, a_1, a_2, a_3, x_30, x_31, x_32, x_20, x_21, Tgs.len, Tgs.slots, Tg.slots, wipe, ty_NoneType_str, ty_NoneType_int, ty_NoneType_bool, ty_NoneType_tuple, ty_NoneType_list, ty_NoneType_dict, ty_bool_str, ty_bool_int, ty_bool_bool, ty_bool_tuple, ty_bool_list, ty_bool_dict, ty_int_str, ty_int_int, ty_int_bool, ty_int_tuple, ty_int_list, ty_int_dict, ty_str_str, ty_str_int, ty_str_bool, ty_str_tuple, ty_str_list, ty_str_dict, ty_tuple_str, ty_tuple_int, ty_tuple_bool, ty_tuple_tuple, ty_tuple_list, ty_tuple_dict, ty_list_str, ty_list_int, ty_list_bool, ty_list_tuple, ty_list_list, ty_list_dict, ty_dict_str, ty_dict_int, ty_dict_bool, ty_dict_tuple, ty_dict_list, ty_dict_dict, fq_not_not, fq_not_retry, fq_not_repeat, fq_not_all, fq_not_any, fq_retry_not, fq_retry_retry, fq_retry_repeat, fq_retry_all, fq_retry_any, fq_repeat_not, fq_repeat_retry, fq_repeat_repeat, fq_repeat_all, fq_repeat_any, fq_all_not, fq_all_retry, fq_all_repeat, fq_all_all, fq_all_any, fq_any_not, fq_any_retry, fq_any_repeat, fq_any_all, fq_any_any, fl_str, nc0, nc1, nc2, nc3, nc4, nc5, nc6, nc7, nc8, nc9, nc10, nc11, nc60, deqI, List.any_cons, List.any_nil, Bool.or_false, Bool.false_or, Bool.or_true, Bool.true_or, Bool.and_true, Bool.true_and, Bool.and_false, Bool.false_and, decide_true, decide_false, Int.reduceLE, Int.reduceLT, Int.reduceBEq, BEq.rfl, beq_self_eq_true, if_true, if_false, deqS, G.is_times]
      refine (is_times_wp G h1 h2).mono fun d M' ⟨e1, e2⟩ => ?_
      subst e1 e2
      simp only [↓e_non, ↓e_bl, ↓e_int, ↓e_str, ↓e_var, ↓e_glo, ↓e_bin, ↓e_neg, ↓e_not, ↓e_cmp, ↓e_cmp2, ↓e_and, ↓e_or, ↓e_ife, ↓e_tup, ↓e_lst, ↓e_sub, ↓e_sl, ↓e_call, ↓e_calk, ↓e_bi, ↓e_isi, ↓e_me, ↓e_cpy, ↓e_bdd, ↓e_bcp, ↓e_lrg, ↓e_sdd, ↓e_tupd, ↓e_rev, ↓e_lc, ↓e_sc2, ↓e_esnil, ↓e_escons, ↓e_onone, ↓e_osome, ↓e_cnone, ↓e_csome, ↓e_iex, ↓e_irng1, ↓e_irng2, ↓e_ienum, ↓e_izip, ↓e_tname, ↓e_ttup, ↓e_tsub, ↓e_tsnil, ↓e_tscons, ↓e_bnil, ↓e_bcons, ↓e_asg, ↓e_augs, ↓e_getoop, ↓e_aug, ↓e_ex, ↓e_ret, ↓e_retn, ↓e_pass, ↓e_brk, ↓e_ct, ↓e_ite, ↓e_for, ↓e_while, ↓e_mat, ↓e_mnil, ↓e_mcons, ↓e_addI, ↓e_addS, ↓e_addT, ↓e_addL, ↓e_subI, ↓e_mulI, ↓e_mulL, ↓e_mulT, ↓e_fdiv, ↓e_mod, ↓e_pow, ↓e_augA, ↓e_augS, ↓e_augT, ↓e_ltI, ↓e_leI, ↓e_gtI, ↓e_geI, ↓e_eq, ↓e_ne, ↓e_is, ↓e_isnot, ↓e_isB2, ↓e_isnotB2, ↓e_inS, ↓e_ninS, ↓e_inR, ↓e_inT, ↓e_ninR, ↓e_ninT, ↓e_subD, ↓e_subS, ↓e_subT, ↓e_subR, ↓e_subB, ↓e_subBd, ↓e_subSd, ↓e_subL, ↓e_slS, ↓e_slT, ↓e_slR, ↓e_slL, ↓e_stoop, ↓e_stoopB, ↓e_bi1, ↓e_bi2, ↓e_lenS, ↓e_lenT, ↓e_lenR, ↓e_lenL, ↓e_dictB, ↓e_dictR, ↓e_abs, ↓e_sum, ↓e_all, ↓e_any, ↓e_max, ↓e_min, ↓e_sorted, ↓e_set, ↓e_list, ↓e_tuple, ↓e_str1, ↓e_int1, ↓e_int2, ↓e_listxS, ↓e_listxT, ↓e_reprd, ↓e_repr, ↓e_max2, ↓e_min2, ↓e_divmod, ↓e_append, ↓e_extend, ↓e_join, ↓e_mget, ↓e_mgetS, ↓e_mgetI, ↓e_count, ↓e_mcount, ↓e_mapp, ↓e_mext, ↓e_mextT, ↓e_mjoin, ↓e_itT, ↓e_itR, ↓e_itS, ↓e_itL, ↓e_itG, ↓e_itE, ↓e_itET, ↓e_itZT, ↓e_itZL, ↓e_tN, ↓e_tB, ↓e_tI, ↓e_tS, ↓e_tT, ↓e_tR, ↓e_tL, ↓e_asI, ↓e_asB, ↓e_asT, ↓e_asTL, ↓e_tyN, ↓e_tyB, ↓e_tyI, ↓e_tyS, ↓e_tyT, ↓e_tyR, ↓e_isN, ↓e_isB, ↓e_isI, ↓e_isS, ↓e_isT, ↓e_isR, lk_some, op_some, lkL_some, lkB_some, lkS_some, bdO_t, bdO_f, cnd_true, cnd_false, List.getElem?_cons_zero, List.getElem?_cons_succ, List.length_cons, List.length_nil, List.set_cons_zero, List.set_cons_succ, List.cons_append, List.nil_append, List.append_nil, List.map_cons, List.map_nil, List.replicate_succ, List.replicate_zero, Nat.reduceSub, Nat.reduceAdd, Nat.reduceLT, true_and, and_true, true_or, or_true, Option.isSome_some, Bool.not_true, Bool.not_false, Bool.false_eq_true, a_0, a_1, a_2, a_3, x_30, x_31, x_32, x_20, x_21, Tgs.len, Tgs.slots, Tg.slots, wipe, ty_NoneType_str, ty_NoneType_int, ty_NoneType_bool, ty_NoneType_tuple, ty_NoneType_list, ty_NoneType_dict, ty_bool_str, ty_bool_int, ty_bool_bool, ty_bool_tuple, ty_bool_list, ty_bool_dict, ty_int_str, ty_int_int, ty_int_bool, ty_int_tuple, ty_int_list, ty_int_dict, ty_str_str, ty_str_int, ty_str_bool, ty_str_tuple, ty_str_list, ty_str_dict, ty_tuple_str, ty_tuple_int, ty_tuple_bool, ty_tuple_tuple, ty_tuple_list, ty_tuple_dict, ty_list_str, ty_list_int, ty_list_bool, ty_list_tuple, ty_list_list, ty_list_dict, ty_dict_str, ty_dict_int, ty_dict_bool, ty_dict_tuple, ty_dict_list, ty_dict_dict, fq_not_not, fq_not_retry, fq_not_repeat, fq_not_all, fq_not_any, fq_retry_not, fq_retry_retry, fq_retry_repeat, fq_retry_all, fq_retry_any, fq_repeat_not, fq_repeat_retry, fq_repeat_repeat, fq_repeat_all, fq_repeat_any, fq_all_not, fq_all_retry, fq_all_repeat, fq_all_all, fq_all_any, fq_any_not, fq_any_retry, fq_any_repeat, fq_any_all, fq_any_any, fl_str, nc0, nc1, nc2, nc3, nc4, nc5, nc6, nc7, nc8, nc9, nc10, nc11, nc60, deqI, List.any_cons, List.any_nil, Bool.or_false, Bool.false_or, Bool.or_true, Bool.true_or, Bool.and_true, Bool.true_and, Bool.and_false, Bool.false_and, decide_true, decide_false, Int.reduceLE, Int.reduceLT, Int.reduceBEq, BEq.rfl, beq_self_eq_true, if_true, if_false, deqS]
      rfl
  | grp b l =>
    have h2 : decide (2 ≤ ((encs l).length : Int)) = true := by rw [encs_len]; have := hg.1; simp; omega
    cases b
    all_goals
      simp only [d_inner_values, enc, grpW, ↓e_non, ↓e_bl, ↓e_int, ↓e_str, ↓e_var, ↓e_glo, ↓e_bin, ↓e_neg, ↓e_not, ↓e_cmp, ↓e_cmp2, ↓e_and, ↓e_or, ↓e_ife, ↓e_tup, ↓e_lst, ↓e_sub, ↓e_sl, ↓e_call, ↓e_calk, ↓e_bi, ↓e_isi, ↓e_me, ↓e_cpy, ↓e_bdd, ↓e_bcp, ↓e_lrg, ↓e_sdd, ↓e_tupd, ↓e_rev, ↓e_lc, ↓e_sc2, ↓e_esnil, ↓e_escons, ↓e_onone, ↓e_osome, ↓e_cnone, ↓e_csome, ↓e_iex, ↓e_irng1, ↓e_irng2, ↓e_ienum, ↓e_izip, ↓e_tname, ↓e_ttup, ↓e_tsub, ↓e_tsnil, ↓e_tscons, ↓e_bnil, ↓e_bcons, ↓e_asg, ↓e_augs, ↓e_getoop, ↓e_aug, ↓e_ex, ↓e_ret, ↓e_retn, ↓e_pass, ↓e_brk, ↓e_ct, ↓e_ite, ↓e_for, ↓e_while, ↓e_mat, ↓e_mnil, ↓e_mcons, ↓e_addI, ↓e_addS, ↓e_addT, ↓e_addL, ↓e_subI, ↓e_mulI, ↓e_mulL, ↓e_mulT, ↓e_fdiv, ↓e_mod, ↓e_pow, ↓e_augA, ↓e_augS, ↓e_augT, ↓e_ltI, ↓e_leI, ↓e_gtI, ↓e_geI, ↓e_eq, ↓e_ne, ↓e_is, ↓e_isnot, ↓e_isB2, ↓e_isnotB2, ↓e_inS, ↓e_ninS, ↓e_inR, ↓e_inT, ↓e_ninR, ↓e_ninT, ↓e_subD, ↓e_subS, ↓e_subT, ↓e_subR, ↓e_subB, ↓e_subBd, ↓e_subSd, ↓e_subL, ↓e_slS, ↓e_slT, ↓e_slR, ↓e_slL, ↓e_stoop, ↓e_stoopB, ↓e_bi1, ↓e_bi2, ↓e_lenS, ↓e_lenT, ↓e_lenR, ↓e_lenL, ↓e_dictB, ↓e_dictR, ↓e_abs, ↓e_sum, ↓e_all, ↓e_any, ↓e_max, ↓e_min, ↓e_sorted, ↓e_set, ↓e_list, ↓e_tuple, ↓e_str1, ↓e_int1, ↓e_int2, ↓e_listxS, ↓e_listxT, ↓e_reprd, ↓e_repr, ↓e_max2, ↓e_min2, ↓e_divmod, ↓e_append, ↓e_extend, ↓e_join, ↓e_mget, ↓e_mgetS, ↓e_mgetI, ↓e_count, ↓e_mcount, ↓e_mapp, ↓e_mext, ↓e_mextT, ↓e_mjoin, ↓e_itT, ↓e_itR, ↓e_itS, ↓e_itL, ↓e_itG, ↓e_itE, ↓e_itET, ↓e_itZT, ↓e_itZL, ↓e_tN, ↓e_tB, ↓e_tI, ↓e_tS, ↓e_tT, ↓e_tR, ↓e_tL, ↓e_asI, ↓e_asB, ↓e_asT, ↓e_asTL, ↓e_tyN, ↓e_tyB, ↓e_tyI, ↓e_tyS, ↓e_tyT, ↓e_tyR, ↓e_isN, ↓e_isB, ↓e_isI, ↓e_isS, ↓e_isT, ↓e_isR, lk_some, op_some, lkL_some, lkB_some, lkS_some, bdO_t, bdO_f, cnd_true, cnd_false, List.getElem?_cons_zero, List.getElem?_cons_succ, List.length_cons, List.length_nil, List.set_cons_zero, List.set_cons_succ, List.cons_append, List.nil_append, List.append_nil, List.map_cons, List.map_nil, List.replicate_succ, List.replicate_zero, Nat.reduceSub, Nat.reduceAdd, Nat.reduceLT, true_and, and_true, true_or, or_true, Option.isSome_some, Bool.not_true, Bool.not_false, Bool.false_eq_true, a_0, a_1, a_2, a_3, x_30, x_31, x_32, x_20, x_21, Tgs.len, Tgs.slots, Tg.slots, wipe, ty_NoneType_str, ty_NoneType_int, ty_NoneType_bool, ty_NoneType_tuple, ty_NoneType_list, ty_NoneType_dict, ty_bool_str, ty_bool_int, ty_bool_bool, ty_bool_tuple, ty_bool_list, ty_bool_dict, ty_int_str, ty_int_int, ty_int_bool, ty_int_tuple, ty_int_list, ty_int_dict, ty_str_str, ty_str_int, ty_str_bool, ty_str_tuple, ty_str_list, ty_str_dict, ty_tuple_str, ty_tuple_int, ty_tuple_bool, ty_tuple_tuple, ty_tuple_list, ty_tuple_dict, ty_list_str, ty_list_int, ty_list_bool, ty_list_tuple, ty_list_list, ty_list_dict, ty_dict_str, ty_dict_int, ty_dict_bool, ty_dict_tuple, ty_dict_list, ty_dict_dict, fq_not_not, fq_not_retry, fq_not_repeat, fq_not_all, fq_not_any, fq_retry_not, fq_retry_retry, fq_retry_repeat, fq_retry_all, fq_retry_any, fq_repeat_not, fq_repeat_retry, fq_repeat_repeat, fq_repeat_all, fq_repeat_any, fq_all_not, fq_all_retry, fq_all_repeat, fq_all_all, fq_all_any, fq_any_not, fq_any_retry, fq_any_repeat, fq_any_all, fq_any_any, fl_str, nc0, nc1, nc2, nc3, nc4, nc5, nc6, nc7, nc8, nc9, nc10, nc11, nc60, deqI, List.any_cons, List.any_nil, Bool.or_false, Bool.false_or, Bool.or_true, Bool.true_or, Bool.and_true, Bool.true_and, Bool.and_false, Bool.false_and, decide_true, decide_false, Int.reduceLE, Int.reduceLT, Int.reduceBEq, BEq.rfl, beq_self_eq_true, if_true, if_false, deqS, G.is_times, h2]
      rfl
end Rp

local macro_rules | `(tactic| simp! only [$xs,*] $[$loc]?) => `(tactic| simp only [↓Rp.e_non, ↓Rp.e_bl, ↓Rp.e_int, ↓Rp.e_str, ↓Rp.e_var, ↓Rp.e_glo, ↓Rp.e_bin, ↓Rp.e_neg, ↓Rp.e_not, ↓Rp.e_cmp, ↓Rp.e_cmp2, ↓Rp.e_and, ↓Rp.e_or, ↓Rp.e_ife, ↓Rp.e_tup, ↓Rp.e_lst, ↓Rp.e_sub, ↓Rp.e_sl, ↓Rp.e_call, ↓Rp.e_calk, ↓Rp.e_bi, ↓Rp.e_isi, ↓Rp.e_me, ↓Rp.e_cpy, ↓Rp.e_bdd, ↓Rp.e_bcp, ↓Rp.e_lrg, ↓Rp.e_sdd, ↓Rp.e_tupd, ↓Rp.e_rev, ↓Rp.e_lc, ↓Rp.e_sc2, ↓Rp.e_esnil, ↓Rp.e_escons, ↓Rp.e_onone, ↓Rp.e_osome, ↓Rp.e_cnone, ↓Rp.e_csome, ↓Rp.e_iex, ↓Rp.e_irng1, ↓Rp.e_irng2, ↓Rp.e_ienum, ↓Rp.e_izip, ↓Rp.e_tname, ↓Rp.e_ttup, ↓Rp.e_tsub, ↓Rp.e_tsnil, ↓Rp.e_tscons, ↓Rp.e_bnil, ↓Rp.e_bcons, ↓Rp.e_asg, ↓Rp.e_augs, ↓Rp.e_getoop, ↓Rp.e_aug, ↓Rp.e_ex, ↓Rp.e_ret, ↓Rp.e_retn, ↓Rp.e_pass, ↓Rp.e_brk, ↓Rp.e_ct, ↓Rp.e_ite, ↓Rp.e_for, ↓Rp.e_while, ↓Rp.e_mat, ↓Rp.e_mnil, ↓Rp.e_mcons, ↓Rp.e_addI, ↓Rp.e_addS, ↓Rp.e_addT, ↓Rp.e_addL, ↓Rp.e_subI, ↓Rp.e_mulI, ↓Rp.e_mulL, ↓Rp.e_mulT, ↓Rp.e_fdiv, ↓Rp.e_mod, ↓Rp.e_pow, ↓Rp.e_augA, ↓Rp.e_augS, ↓Rp.e_augT, ↓Rp.e_ltI, ↓Rp.e_leI, ↓Rp.e_gtI, ↓Rp.e_geI, ↓Rp.e_eq, ↓Rp.e_ne, ↓Rp.e_is, ↓Rp.e_isnot, ↓Rp.e_isB2, ↓Rp.e_isnotB2, ↓Rp.e_inS, ↓Rp.e_ninS, ↓Rp.e_inR, ↓Rp.e_inT, ↓Rp.e_ninR, ↓Rp.e_ninT, ↓Rp.e_subD, ↓Rp.e_subS, ↓Rp.e_subT, ↓Rp.e_subR, ↓Rp.e_subB, ↓Rp.e_subBd, ↓Rp.e_subSd, ↓Rp.e_subL, ↓Rp.e_slS, ↓Rp.e_slT, ↓Rp.e_slR, ↓Rp.e_slL, ↓Rp.e_stoop, ↓Rp.e_stoopB, ↓Rp.e_bi1, ↓Rp.e_bi2, ↓Rp.e_lenS, ↓Rp.e_lenT, ↓Rp.e_lenR, ↓Rp.e_lenL, ↓Rp.e_dictB, ↓Rp.e_dictR, ↓Rp.e_abs, ↓Rp.e_sum, ↓Rp.e_all, ↓Rp.e_any, ↓Rp.e_max, ↓Rp.e_min, ↓Rp.e_sorted, ↓Rp.e_set, ↓Rp.e_list, ↓Rp.e_tuple, ↓Rp.e_str1, ↓Rp.e_int1, ↓Rp.e_int2, ↓Rp.e_listxS, ↓Rp.e_listxT, ↓Rp.e_reprd, ↓Rp.e_repr, ↓Rp.e_max2, ↓Rp.e_min2, ↓Rp.e_divmod, ↓Rp.e_append, ↓Rp.e_extend, ↓Rp.e_join, ↓Rp.e_mget, ↓Rp.e_mgetS, ↓Rp.e_mgetI, ↓Rp.e_count, ↓Rp.e_mcount, ↓Rp.e_mapp, ↓Rp.e_mext, ↓Rp.e_mextT, ↓Rp.e_mjoin, ↓Rp.e_itT, ↓Rp.e_itR, ↓Rp.e_itS, ↓Rp.e_itL, ↓Rp.e_itG, ↓Rp.e_itE, ↓Rp.e_itET, ↓Rp.e_itZT, ↓Rp.e_itZL, ↓Rp.e_tN, ↓Rp.e_tB, ↓Rp.e_tI, ↓Rp.e_tS, ↓Rp.e_tT, ↓Rp.e_tR, ↓Rp.e_tL, ↓Rp.e_asI, ↓Rp.e_asB, ↓Rp.e_asT, ↓Rp.e_asTL, ↓Rp.e_tyN, ↓Rp.e_tyB, ↓Rp.e_tyI, ↓Rp.e_tyS, ↓Rp.e_tyT, ↓Rp.e_tyR, ↓Rp.e_isN, ↓Rp.e_isB, ↓Rp.e_isI, ↓Rp.e_isS, ↓Rp.e_isT, ↓Rp.e_isR, Rp.lk_some, Rp.op_some, Rp.lkL_some, Rp.lkB_some, Rp.lkS_some, Rp.bdO_t, Rp.bdO_f, Rp.cnd_true, Rp.cnd_false, List.getElem?_cons_zero, List.getElem?_cons_succ, List.length_cons, List.length_nil, List.set_cons_zero, List.set_cons_succ, List.cons_append, List.nil_append, List.append_nil, List.map_cons, List.map_nil, List.replicate_succ, List.replicate_zero, Nat.reduceSub, Nat.reduceAdd, Nat.reduceLT, true_and, and_true, true_or, or_true, Option.isSome_some, Bool.not_true, Bool.not_false, Bool.false_eq_true, Rp.a_0, Rp.a_1, Rp.a_2, Rp.a_3, Rp.x_30, Rp.x_31, Rp.x_32, Rp.x_20, Rp.x_21, Rp.Tgs.len, Rp.Tgs.slots, Rp.Tg.slots, Rp.wipe, Rp.ty_NoneType_str, Rp.ty_NoneType_int, Rp.ty_NoneType_bool, Rp.ty_NoneType_tuple, Rp.ty_NoneType_list, Rp.ty_NoneType_dict, Rp.ty_bool_str, Rp.ty_bool_int, Rp.ty_bool_bool, Rp.ty_bool_tuple, Rp.ty_bool_list, Rp.ty_bool_dict, Rp.ty_int_str, Rp.ty_int_int, Rp.ty_int_bool, Rp.ty_int_tuple, Rp.ty_int_list, Rp.ty_int_dict, Rp.ty_str_str, Rp.ty_str_int, Rp.ty_str_bool, Rp.ty_str_tuple, Rp.ty_str_list, Rp.ty_str_dict, Rp.ty_tuple_str, Rp.ty_tuple_int, Rp.ty_tuple_bool, Rp.ty_tuple_tuple, Rp.ty_tuple_list, Rp.ty_tuple_dict, Rp.ty_list_str, Rp.ty_list_int, Rp.ty_list_bool, Rp.ty_list_tuple, Rp.ty_list_list, Rp.ty_list_dict, Rp.ty_dict_str, Rp.ty_dict_int, Rp.ty_dict_bool, Rp.ty_dict_tuple, Rp.ty_dict_list, Rp.ty_dict_dict, Rp.fq_not_not, Rp.fq_not_retry, Rp.fq_not_repeat, Rp.fq_not_all, Rp.fq_not_any, Rp.fq_retry_not, Rp.fq_retry_retry, Rp.fq_retry_repeat, Rp.fq_retry_all, Rp.fq_retry_any, Rp.fq_repeat_not, Rp.fq_repeat_retry, Rp.fq_repeat_repeat, Rp.fq_repeat_all, Rp.fq_repeat_any, Rp.fq_all_not, Rp.fq_all_retry, Rp.fq_all_repeat, Rp.fq_all_all, Rp.fq_all_any, Rp.fq_any_not, Rp.fq_any_retry, Rp.fq_any_repeat, Rp.fq_any_all, Rp.fq_any_any, Rp.fl_str, Rp.nc0, Rp.nc1, Rp.nc2, Rp.nc3, Rp.nc4, Rp.nc5, Rp.nc6, Rp.nc7, Rp.nc8, Rp.nc9, Rp.nc10, Rp.nc11, Rp.nc60, Rp.deqI, List.any_cons, List.any_nil, Bool.or_false, Bool.false_or, Bool.or_true, Bool.true_or, Bool.and_true, Bool.true_and, Bool.and_false, Bool.false_and, decide_true, decide_false, Int.reduceLE, Int.reduceLT, Int.reduceBEq, BEq.rfl, beq_self_eq_true, if_true, if_false, Rp.deqS, $xs,*] $[$loc]?)
namespace Rp
variable {g : G}
theorem lvss_parts {t : Tr} (hl : ∀ s, t ≠ .leaf s) : lvss t.parts = lvs t := by
  cases t with
  | leaf s => exact absurd rfl (hl s)
  | no t => simp [Tr.parts, lvss, lvs]
  | rep b t k => simp [Tr.parts, lvss, lvs]
  | grp b l => rfl
theorem deps_parts {t : Tr} (hl : ∀ s, t ≠ .leaf s) : deps t.parts + 1 = dep t := by
  cases t with
  | leaf s => exact absurd rfl (hl s)
  | no t => simp [Tr.parts, deps, dep]
  | rep b t k => simp [Tr.parts, deps, dep]
  | grp b l => rfl
theorem goods_parts {t : Tr} (hg : good t) : goods t.parts := by
  cases t with
  | leaf s => trivial
  | no t => exact ⟨hg, trivial⟩
  | rep b t k => exact ⟨hg.2.2, trivial⟩
  | grp b l => exact hg.2
theorem enc_tup {t : Tr} (hl : ∀ s, t ≠ .leaf s) : ∃ l, enc t = .tup l := by
  cases t with
  | leaf s => exact absurd rfl (hl s)
  | _ => exact ⟨_, rfl⟩
theorem lvss_app : ∀ (l r : List Tr), lvss (l ++ r) = lvss l ++ lvss r
  | [], r => rfl
  | a :: l, r => by simp [lvss, lvss_app l r]
theorem Grow.set {M M' : Hm} {s : Nat} {o : O} (h : Grow M M') (hs : M.length ≤ s) : Grow M (M'.set s o) := by
  obtain ⟨t, rfl⟩ := h
  exact ⟨t.set (s - M.length) o, by rw [List.set_append_right _ _ hs]⟩
theorem goods_app : ∀ {l r : List Tr}, goods (l ++ r) → goods l ∧ goods r
  | [], r, h => ⟨trivial, h⟩
  | a :: l, r, h => ⟨⟨h.1, (goods_app h.2).1⟩, (goods_app h.2).2⟩
theorem deps_app : ∀ (l r : List Tr), deps (l ++ r) = max (deps l) (deps r)
  | [], r => by simp [deps]
  | a :: l, r => by simp only [List.cons_append, deps, deps_app l r]; omega
theorem tyL {M : Hm} {n : Nat} {l : List D} (h : M[n]? = some (.lst l)) : tyOf M (.ref n) = some "list" := by simp only [tyOf, h]
theorem get_set {M : Hm} {n : Nat} {o o' : O} (h : M[n]? = some o) : (M.set n o')[n]? = some o' := List.getElem?_set_self (List.getElem?_eq_some_iff.mp h).1
theorem written_wp (G : HasPlan g) : ∀ (k : Nat) (t : Tr), good t → dep t ≤ k → (lvs t).length ≤ 60 → ∀ (n : Nat) (M : Hm),
    (callF g (n + k + 4) "written_steps" [enc t, .int k] M).wp fun d M' => ∃ q, d = .ref q ∧ M'[q]? = some (.lst ((lvs t).map .str)) ∧ Grow M M' ∧ M.length ≤ q := by
  intro k
  induction k with
  | zero => intro t _ hd; cases t <;> simp [dep] at hd
  | succ k ih =>
    intro t hg hd hn n M
    refine call_wp G.written_steps rfl (by decide) ?_
    have hLN : LN = 16777216 := rfl
    by_cases hl : ∃ s, t = .leaf s
    · obtain ⟨s, rfl⟩ := hl
      simp! only [d_written_steps, enc, G.is_step]
      refine (is_step_wp G hg (n := n + (k + 1) + 2)).mono fun d M1 ⟨e, g1⟩ => ?_
      subst e
      simp! only []
      exact ⟨by decide, _, rfl, len_new, g1.trans .one, g1.len⟩
    · have hl' : ∀ s, t ≠ .leaf s := fun s e => hl ⟨s, e⟩
      obtain ⟨l, el⟩ := enc_tup hl'
      have hdp := deps_parts hl'
      rw [el]
      simp! only [d_written_steps, G.is_step]
      refine (is_step_tup G (n := n + (k + 1) + 2)).mono fun d M1 ⟨e, e1⟩ => ?_
      subst e e1
      have hk1 : 1 ≤ k := by
        have : 1 ≤ deps t.parts := by
          cases hp : t.parts with
          | nil => cases t with
            | leaf s => exact absurd rfl (hl' s)
            | grp b l => have h2 := hg.1; simp [Tr.parts] at hp; rw [hp] at h2; simp at h2
            | _ => simp [Tr.parts] at hp
          | cons a r => simp only [deps]; have : 1 ≤ dep a := by cases a <;> simp [dep]
                        omega
        omega
      have c1 : decide ((1 : Int) < ((k + 1 : Nat) : Int)) = true := by simp; omega
      simp! only [c1, G.inner_values]
      rw [← el]
      refine (inner_wp G hg hl' (n := n + (k + 1))).mono fun d M2 ⟨e, e2⟩ => ?_
      subst e e2
      simp! only []
      refine cnd_by (fun z => absurd z (by simp)) fun _ => ⟨by omega, ?_⟩
      refine loop_wp (inv := fun xs ρ M1 => ∃ (done rest : List Tr) (a b : Option D), t.parts = done ++ rest ∧ xs = encs rest ∧ ρ = [some (enc t), some (.int (k + 1 : Nat)), some (.tup (encs t.parts)), some (.ref M2.length), a, b] ∧ M1[M2.length]? = some (.lst ((lvss done).map .str)) ∧ Grow M2 M1)
        ?_ ?_ _ _ _ ⟨[], t.parts, none, none, rfl, rfl, rfl, len_new, .one⟩
      · rintro x xs ρ M1 ⟨done, rest, a, b, hp, hx, rfl, hs, gr⟩
        cases rest with
        | nil => cases hx
        | cons p rest =>
          obtain ⟨rfl, rfl⟩ := List.cons.inj hx
          have gp : good p := by
            have h := goods_parts hg
            rw [hp] at h
            exact (goods_app h).2.1
          have dp : dep p ≤ k := by
            have := deps_app done (p :: rest)
            rw [← hp] at this
            simp only [deps] at this
            omega
          have lp : (lvss done).length + (lvs p).length ≤ 60 := by
            have e1 := lvss_parts hl'
            rw [hp, lvss_app] at e1
            have := congrArg List.length e1
            simp only [lvss, List.length_append] at this
            omega
          refine ⟨rfl, ?_⟩
          simp! only [G.written_steps]
          rw [show ((k + 1 : Nat) : Int) - 1 = (k : Nat) by omega]
          refine (ih p gp dp (by omega) n M1).mono fun d M3 ⟨q, e, hq, g3, hle⟩ => ?_
          subst e
          have hs3 := g3.get hs
          simp! only [tyL hs3, hs3, hq, get_set hs3, reduceCtorEq, Option.bind_some, olen, G.MOST_WRITTEN, List.length_append, List.length_map]
          have c2 : ¬ decide ((60 : Int) < (((lvss done).length + (lvs p).length : Nat) : Int)) = true := fun z => by
            have := of_decide_eq_true z
            omega
          refine ⟨by omega, cnd_by (fun z => absurd z c2) fun _ => ?_⟩
          exact ⟨done ++ [p], rest, _, _, by rw [hp]; simp, rfl, rfl, by rw [lvss_snoc, List.map_append], (gr.trans g3).set (Nat.le_refl _)⟩
      · rintro ρ M1 ⟨done, rest, a, b, hp, hx, rfl, hs, gr⟩
        cases rest with
        | cons p rest => cases hx
        | nil =>
          rw [List.append_nil] at hp
          refine ⟨rfl, ?_⟩
          simp! only []
          exact ⟨_, rfl, by rw [← lvss_parts hl', hp]; exact hs, gr, Nat.le_refl _⟩
theorem nodup_len : ∀ {l r : List S}, l.Nodup → (∀ x ∈ l, x ∈ r) → l.length ≤ r.length
  | [], r, _, _ => Nat.zero_le _
  | a :: l, r, h, hs => by
    obtain ⟨h1, h2⟩ := List.nodup_cons.mp h
    have ha := hs a (List.mem_cons_self ..)
    have := nodup_len (r := r.erase a) h2 fun x hx => (List.mem_erase_of_ne fun e => h1 (by rw [← e]; exact hx)).mpr (hs x (List.mem_cons_of_mem _ hx))
    rw [List.length_erase_of_mem ha] at this
    have hp := List.length_pos_of_mem ha
    simp only [List.length_cons]; omega
/-- a plan that the program takes -/
structure PlanOk (t : Tr) : Prop where
  good : good t
  dep : dep t ≤ 8
  leaves : (lvs t).length ≤ 60
  steps : (dedup (lvs t)).length ≤ 8
theorem is_plan_wp (G : HasPlan g) {t : Tr} (h : PlanOk t) (n : Nat) (M : Hm) : (callF g (n + 13) "is_plan" [enc t] M).wp fun d M' => d = .bl true ∧ Grow M M' := by
  refine call_wp G.is_plan rfl (by decide) ?_
  have hLN : LN = 16777216 := rfl
  simp! only [d_is_plan, G.written_steps, G.MOST_NESTED]
  refine (written_wp G 8 t h.good h.dep h.leaves n M).mono fun d M1 ⟨q, e, hq, gr, _⟩ => ?_
  subst e
  have hs : seq? M1 (.ref q) = some ((lvs t).map .str) := by simp only [seq?, hq]
  have c1 : decide (((dedup (lvs t)).length : Int) ≤ 8) = true := by have := h.steps; simp; omega
  simp! only [reduceCtorEq, hs, Option.bind_some, strs_map, len_new, olen, G.MOST_STEPS, List.length_map, c1]
  have hl := h.leaves
  exact ⟨by omega, gr.trans .one⟩
theorem check_plan_wp (G : HasPlan g) {t : Tr} (h : PlanOk t) (n : Nat) (M : Hm) : (callF g (n + 14) "check_plan" [enc t] M).wp fun d M' => d = .non ∧ Grow M M' := by
  refine call_wp G.check_plan rfl (by decide) ?_
  simp! only [d_check_plan, G.is_plan]
  refine (is_plan_wp G h n M).mono fun d M1 ⟨e, gr⟩ => ?_
  subst e
  simp! only []
  exact gr
end Rp

namespace Rp
def d__law_size : Def := ⟨2, 1,
 (.cons (.ite (.isi (.var 0) ["str"]) (.cons (.ret (.int 1))
 .nil) .nil)
 (.cons (.ite (.cmp .eq (.sub (.var 0) (.int 0)) (.str [110, 111, 116])) (.cons (.ret (.call "_law_size" (.cons (.sub (.var 0) (.int 1)) .nil) [] .nil))
 .nil) .nil)
 (.cons (.ite (.cmp .in (.sub (.var 0) (.int 0)) (.lst (.cons (.str [97, 108, 108]) (.cons (.str [97, 110, 121]) .nil)))) (.cons (.ret (.bi .sum (.cons (.lc (.call "_law_size" (.cons (.var 1) .nil) [] .nil) (.name 1) (.ex (.sub (.var 0) (.int 1))) .none [1]) .nil)))
 .nil) .nil)
 (.cons (.ret (.bin .mul (.call "_law_size" (.cons (.sub (.var 0) (.int 1)) .nil) [] .nil) (.sub (.var 0) (.int 2))))
 .nil))))⟩
def d__law_leaves : Def := ⟨3, 1,
 (.cons (.ite (.isi (.var 0) ["str"]) (.cons (.ret (.lst (.cons (.var 0) .nil)))
 .nil) .nil)
 (.cons (.asg (.name 1) (.lst .nil))
 (.cons (.for (.name 2) (.ex (.ife (.cmp .in (.sub (.var 0) (.int 0)) (.lst (.cons (.str [97, 108, 108]) (.cons (.str [97, 110, 121]) .nil)))) (.bi .list (.cons (.sub (.var 0) (.int 1)) .nil)) (.lst (.cons (.sub (.var 0) (.int 1)) .nil)))) (.cons (.ex (.me .extend (.var 1) (.cons (.call "_law_leaves" (.cons (.var 2) .nil) [] .nil) .nil)))
 .nil))
 (.cons (.ret (.var 1))
 .nil))))⟩
variable {g : G}
mutual
def siz : Tr → Int
  | .leaf _ => 1
  | .no t => siz t
  | .rep _ t k => siz t * k
  | .grp _ l => (sizs l).sum
def sizs : List Tr → List Int
  | [] => []
  | t :: l => siz t :: sizs l
end
theorem sizs_snoc : ∀ (l : List Tr) (t : Tr), sizs (l ++ [t]) = sizs l ++ [siz t]
  | [], t => rfl
  | a :: l, t => by simp [sizs, sizs_snoc l t]
def BB (d : Nat) : Int := ((2 ^ (100 * d) : Nat) : Int)
theorem BB_mono {d e : Nat} (h : d ≤ e) : BB d ≤ BB e := by
  unfold BB
  exact Int.ofNat_le.mpr (Nat.pow_le_pow_right (by decide) (by omega))
theorem BB_pos (d : Nat) : 0 < BB d := by unfold BB; exact Int.ofNat_lt.mpr (Nat.pow_pos (by decide))
theorem BB_succ (d : Nat) : BB (d + 1) = BB d * BB 1 := by
  unfold BB
  rw [show 100 * (d + 1) = 100 * d + 100 * 1 by omega, Nat.pow_add]
  exact Int.natCast_mul _ _
mutual
theorem siz_le : ∀ t : Tr, good t → 0 ≤ siz t ∧ siz t ≤ (lvs t).length * BB (dep t)
  | .leaf s, _ => by
    simp only [siz, lvs, dep, List.length_singleton]
    have := BB_pos 1
    omega
  | .no t, h => by
    obtain ⟨h1, h2⟩ := siz_le t h
    simp only [siz, lvs, dep]
    exact ⟨h1, Int.le_trans h2 (Int.mul_le_mul_of_nonneg_left (BB_mono (by omega)) (by omega))⟩
  | .rep b t k, h => by
    obtain ⟨h1, h2⟩ := siz_le t h.2.2
    simp only [siz, lvs, dep]
    have hk : k ≤ BB 1 := Int.le_trans h.2.1 (by decide)
    have hk0 : 0 ≤ k := by have := h.1; omega
    refine ⟨Int.mul_nonneg h1 hk0, ?_⟩
    rw [BB_succ, ← Int.mul_assoc]
    exact Int.mul_le_mul h2 hk hk0 (Int.mul_nonneg (by omega) (Int.le_of_lt (BB_pos _)))
  | .grp b l, h => by
    obtain ⟨h1, h2⟩ := sizs_le l h.2
    simp only [siz, lvs, dep]
    exact ⟨h1, Int.le_trans h2 (Int.mul_le_mul_of_nonneg_left (BB_mono (by omega)) (by omega))⟩
theorem sizs_le : ∀ l : List Tr, goods l → 0 ≤ (sizs l).sum ∧ (sizs l).sum ≤ (lvss l).length * BB (deps l)
  | [], _ => by simp [sizs, lvss, deps]
  | t :: l, h => by
    obtain ⟨h1, h2⟩ := siz_le t h.1
    obtain ⟨h3, h4⟩ := sizs_le l h.2
    simp only [sizs, lvss, deps, List.sum_cons, List.length_append]
    refine ⟨by omega, ?_⟩
    have e1 : (lvs t).length * BB (dep t) ≤ (lvs t).length * BB (max (dep t) (deps l)) := Int.mul_le_mul_of_nonneg_left (BB_mono (by omega)) (by omega)
    have e2 : (lvss l).length * BB (deps l) ≤ (lvss l).length * BB (max (dep t) (deps l)) := Int.mul_le_mul_of_nonneg_left (BB_mono (by omega)) (by omega)
    rw [Int.natCast_add, Int.add_mul]
    omega
end
set_option exponentiation.threshold 2000 in
theorem siz_bits {t : Tr} (h : good t) (hd : dep t ≤ 8) (hl : (lvs t).length ≤ 60) : bits (siz t) ≤ 900 := by
  obtain ⟨h1, h2⟩ := siz_le t h
  refine bits_le h1 ?_
  have e1 : ((lvs t).length : Int) * BB (dep t) ≤ 60 * BB 8 := Int.mul_le_mul (by omega) (BB_mono hd) (Int.le_of_lt (BB_pos _)) (by decide)
  refine Int.lt_of_le_of_lt (Int.le_trans h2 e1) ?_
  decide
theorem encs_get : ∀ {l : List Tr} {i : Nat} {x : D}, (encs l)[i]? = some x → ∃ p, l[i]? = some p ∧ x = enc p
  | [], i, x, h => by simp [encs] at h
  | t :: l, 0, x, h => by cases h; exact ⟨t, rfl, rfl⟩
  | t :: l, i + 1, x, h => encs_get (l := l) (i := i) h
theorem goods_get : ∀ {l : List Tr} {i : Nat} {p : Tr}, goods l → l[i]? = some p → good p
  | [], i, p, _, h => by simp at h
  | t :: l, 0, p, g, h => by cases h; exact g.1
  | t :: l, i + 1, p, g, h => goods_get (l := l) (i := i) g.2 h
theorem deps_get : ∀ {l : List Tr} {i : Nat} {p : Tr}, l[i]? = some p → dep p ≤ deps l
  | [], i, p, h => by simp at h
  | t :: l, 0, p, h => by cases h; simp only [deps]; omega
  | t :: l, i + 1, p, h => by have := deps_get (l := l) (i := i) h; simp only [deps]; omega
theorem lvss_get : ∀ {l : List Tr} {i : Nat} {p : Tr}, l[i]? = some p → (lvs p).length ≤ (lvss l).length
  | [], i, p, h => by simp at h
  | t :: l, 0, p, h => by cases h; simp only [lvss, List.length_append]; omega
  | t :: l, i + 1, p, h => by have := lvss_get (l := l) (i := i) h; simp only [lvss, List.length_append]; omega
theorem take_get {l : List Tr} {i : Nat} {p : Tr} (h : l[i]? = some p) : l.take (i + 1) = l.take i ++ [p] := by rw [List.take_add_one, h]; rfl
theorem ints_map : ∀ l : List Int, ints? (l.map .int) = some l
  | [] => rfl
  | a :: l => by simp only [List.map_cons, ints?, ints_map l]; rfl
mutual
theorem lvs_pos0 : ∀ t : Tr, good t → 1 ≤ (lvs t).length
  | .leaf _, _ => by simp [lvs]
  | .no t, h => lvs_pos0 t h
  | .rep _ t _, h => lvs_pos0 t h.2.2
  | .grp _ l, h => by have := lvss_pos0 l h.2; have := h.1; simp only [lvs]; omega
theorem lvss_pos0 : ∀ l : List Tr, goods l → l.length ≤ (lvss l).length
  | [], _ => Nat.zero_le _
  | t :: l, h => by
    have h1 := lvss_pos0 l h.2
    have h2 := lvs_pos0 t h.1
    simp only [lvss, List.length_append, List.length_cons]; omega
end
structure HasSize (g : G) : Prop where
  size_in : g.fn "size_in" = some d_size_in
theorem size_in_wp (G : HasSize g) : ∀ (k : Nat) (t : Tr), good t → dep t ≤ k → k ≤ 8 → (lvs t).length ≤ 60 → ∀ (n : Nat) (M : Hm),
    (callF g (n + k + 1) "size_in" [enc t] M).wp fun d M' => d = .int (siz t) ∧ Grow M M' := by
  intro k
  induction k with
  | zero => intro t _ hd; cases t <;> simp [dep] at hd
  | succ k ih =>
    intro t hg hd hk hn n M
    refine call_wp G.size_in rfl (by decide) ?_
    cases t with
    | leaf s =>
      simp! only [d_size_in, enc]
      exact ⟨rfl, .refl⟩
    | no t =>
      simp! only [d_size_in, enc, G.size_in]
      exact ih t hg (by simp only [dep] at hd; omega) (by omega) hn n M
    | rep b t m =>
      have hb := siz_bits hg.2.2 (by simp only [dep] at hd; omega) hn
      have hm : bits m ≤ 110 := bits_le (by have := hg.1; omega) (Int.lt_of_le_of_lt hg.2.1 (by decide))
      cases b
      all_goals
        simp! only [d_size_in, enc, repW, G.size_in]
        refine (ih t hg.2.2 (by simp only [dep] at hd; omega) (by omega) hn n M).mono fun d M1 ⟨e, gr⟩ => ?_
        subst e
        simp! only []
        exact ⟨by omega, rfl, gr⟩
    | grp b l =>
      cases b
      all_goals
        simp! only [d_size_in, enc, grpW, G.size_in]
        rw [evC_none]
        have hlen : l.length ≤ 60 := Nat.le_trans (lvss_pos0 l hg.2) hn
        refine comp_wp _ (K := fun i acc M' => acc = (sizs (l.take i)).map .int ∧ Grow M M') ⟨rfl, .refl⟩ (fun i x acc M' hx hl ⟨e, gr⟩ => ?_) (by rw [encs_len]; have : LN = 16777216 := rfl; omega) (fun acc M' hl ⟨e, gr⟩ => ?_)
        · obtain ⟨p, hp, rfl⟩ := encs_get hx
          refine ⟨rfl, ?_⟩
          simp! only [G.size_in]
          refine (ih p (goods_get hg.2 hp) (by have := deps_get hp; simp only [dep] at hd; omega) (by omega) (Nat.le_trans (lvss_get hp) hn) n M').mono fun d M1 ⟨e1, gr1⟩ => ?_
          subst e1 e
          exact ⟨by rw [take_get hp, sizs_snoc, List.map_append]; rfl, gr.trans gr1⟩
        · rw [encs_len] at e
          refine ⟨rfl, ?_⟩
          rw [lsq_new, Option.bind_some, e, ints_map, op_some, List.take_length]
          exact ⟨rfl, gr.trans .one⟩
theorem law_size_wp (hs : g.fn "_law_size" = some d__law_size) : ∀ (k : Nat) (t : Tr), good t → dep t ≤ k → k ≤ 8 → (lvs t).length ≤ 60 → ∀ (n : Nat) (M : Hm),
    (callF g (n + k + 1) "_law_size" [enc t] M).wp fun d M' => d = .int (siz t) ∧ Grow M M' := by
  intro k
  induction k with
  | zero => intro t _ hd; cases t <;> simp [dep] at hd
  | succ k ih =>
    intro t hg hd hk hn n M
    refine call_wp hs rfl (by decide) ?_
    have inq : ∀ (w : S) (b : Bool), (feq (.str [97, 108, 108]) (.str w) || feq (.str [97, 110, 121]) (.str w)) = b → inQ (M ++ [.lst [.str [97, 108, 108], .str [97, 110, 121]]]) (.str w) (.ref M.length) = some b := fun w b h => by
      subst h
      simp only [inQ, seq?, len_new, flat, List.all_cons, List.all_nil, List.any_cons, List.any_nil, Bool.and_true, Bool.or_false, if_true]
    have i1 := inq [110, 111, 116] false rfl
    have i2 := inq [114, 101, 116, 114, 121] false rfl
    have i3 := inq [114, 101, 112, 101, 97, 116] false rfl
    have i4 := inq [97, 108, 108] true rfl
    have i5 := inq [97, 110, 121] true rfl
    have hLN : LN = 16777216 := rfl
    cases t with
    | leaf s =>
      simp! only [d__law_size, enc]
      exact ⟨rfl, .refl⟩
    | no t =>
      simp! only [d__law_size, enc, hs]
      exact ih t hg (by simp only [dep] at hd; omega) (by omega) hn n M
    | rep b t m =>
      have hb := siz_bits hg.2.2 (by simp only [dep] at hd; omega) hn
      have hm : bits m ≤ 110 := bits_le (by have := hg.1; omega) (Int.lt_of_le_of_lt hg.2.1 (by decide))
      cases b
      all_goals
        simp! only [d__law_size, enc, repW, hs, i2, i3]
        refine ⟨by omega, (ih t hg.2.2 (by simp only [dep] at hd; omega) (by omega) hn n _).mono fun d M1 ⟨e, gr⟩ => ?_⟩
        subst e
        simp! only []
        exact ⟨by omega, rfl, Grow.one.trans gr⟩
    | grp b l =>
      cases b
      all_goals
        simp! only [d__law_size, enc, grpW, hs, i4, i5]
        refine ⟨by omega, ?_⟩
        rw [evC_none]
        have hlen : l.length ≤ 60 := Nat.le_trans (lvss_pos0 l hg.2) hn
        refine comp_wp _ (K := fun i acc M' => acc = (sizs (l.take i)).map .int ∧ Grow M M') ⟨rfl, .one⟩ (fun i x acc M' hx hl ⟨e, gr⟩ => ?_) (by rw [encs_len]; omega) (fun acc M' hl ⟨e, gr⟩ => ?_)
        · obtain ⟨p, hp, rfl⟩ := encs_get hx
          refine ⟨rfl, ?_⟩
          simp! only [hs]
          refine (ih p (goods_get hg.2 hp) (by have := deps_get hp; simp only [dep] at hd; omega) (by omega) (Nat.le_trans (lvss_get hp) hn) n M').mono fun d M1 ⟨e1, gr1⟩ => ?_
          subst e1 e
          exact ⟨by rw [take_get hp, sizs_snoc, List.map_append]; rfl, gr.trans gr1⟩
        · rw [encs_len] at e
          refine ⟨rfl, ?_⟩
          rw [lsq_new, Option.bind_some, e, ints_map, op_some, List.take_length]
          exact ⟨rfl, gr.trans .one⟩
def leavesBody : Sxs := .cons (.ex (.me .extend (.var 1) (.cons (.call "_law_leaves" (.cons (.var 2) .nil) [] .nil) .nil))) .nil
theorem leaves_loop (hs : g.fn "_law_leaves" = some d__law_leaves) {C : Cl} {ps : List Tr} (hn : (lvss ps).length ≤ 60) (ih : ∀ p ∈ ps, ∀ M, (C "_law_leaves" [enc p] M).wp fun d M' => ∃ q, d = .ref q ∧ M'[q]? = some (.lst ((lvs p).map .str)) ∧ Grow M M' ∧ M.length ≤ q)
    {M M0 : Hm} {s r : Nat} {v : D} {E : Ep} (h1 : M0[s]? = some (.lst [])) (h2 : M0[r]? = some (.lst (encs ps))) (h3 : s ≠ r) (h4 : Grow M M0) (h5 : M.length ≤ s)
    (fin : ∀ a M1, M1[s]? = some (.lst ((lvss ps).map .str)) → Grow M M1 → E.nx [some v, some (.ref s), a] M1) :
    (loop (stT C g (.name 2)) (exB C g leavesBody) (It.ok ⟨encs ps, [(r, .lst (encs ps))]⟩) (encs ps) [some v, some (.ref s), none] M0).wp E := by
  have hLN : LN = 16777216 := rfl
  refine loop_wp (inv := fun xs ρ M1 => ∃ (done rest : List Tr) (a : Option D), ps = done ++ rest ∧ xs = encs rest ∧ ρ = [some v, some (.ref s), a] ∧ M1[s]? = some (.lst ((lvss done).map .str)) ∧ M1[r]? = some (.lst (encs ps)) ∧ Grow M M1)
    ?_ ?_ _ _ _ ⟨[], ps, none, rfl, rfl, rfl, h1, h2, h4⟩
  · rintro x xs ρ M1 ⟨done, rest, a, hp, hx, rfl, hs1, hr1, gr⟩
    cases rest with
    | nil => cases hx
    | cons p rest =>
      obtain ⟨rfl, rfl⟩ := List.cons.inj hx
      have lp : (lvss done).length + (lvs p).length ≤ 60 := by
        have := congrArg (fun l => (lvss l).length) hp
        simp only [lvss_app, lvss, List.length_append] at this
        omega
      refine ⟨by simp [It.ok, hr1], ?_⟩
      simp! only [leavesBody, hs, tyL hs1]
      refine (ih p (by rw [hp]; simp) M1).mono fun d M3 ⟨q, e, hq, g3, hle⟩ => ?_
      subst e
      have hs3 := g3.get hs1
      have hr3 := g3.get hr1
      simp! only [hs3, hq, List.length_map]
      exact ⟨by omega, done ++ [p], rest, _, by rw [hp]; simp, rfl, rfl, by rw [lvss_snoc, List.map_append]; exact get_set hs3, by rw [List.getElem?_set_ne h3]; exact hr3, (gr.trans g3).set h5⟩
  · rintro ρ M1 ⟨done, rest, a, hp, hx, rfl, hs1, hr1, gr⟩
    cases rest with
    | cons p rest => cases hx
    | nil =>
      rw [List.append_nil] at hp
      subst hp
      exact ⟨by simp [It.ok, hr1], fin a M1 hs1 gr⟩
theorem law_leaves_wp (hs : g.fn "_law_leaves" = some d__law_leaves) : ∀ (k : Nat) (t : Tr), good t → dep t ≤ k → (lvs t).length ≤ 60 → ∀ (n : Nat) (M : Hm),
    (callF g (n + k + 1) "_law_leaves" [enc t] M).wp fun d M' => ∃ q, d = .ref q ∧ M'[q]? = some (.lst ((lvs t).map .str)) ∧ Grow M M' ∧ M.length ≤ q := by
  intro k
  induction k with
  | zero => intro t _ hd; cases t <;> simp [dep] at hd
  | succ k ih =>
    intro t hg hd hn n M
    refine call_wp hs rfl (by decide) ?_
    have hLN : LN = 16777216 := rfl
    by_cases hl : ∃ s, t = .leaf s
    · obtain ⟨s, rfl⟩ := hl
      simp! only [d__law_leaves, enc]
      exact ⟨by decide, _, rfl, len_new, .one, Nat.le_refl _⟩
    · have hl' : ∀ s, t ≠ .leaf s := fun s e => hl ⟨s, e⟩
      have hdp := deps_parts hl'
      have hlp := lvss_parts hl'
      have gp := goods_parts hg
      have hpn : (lvss t.parts).length ≤ 60 := by rw [hlp]; exact hn
      have ihp : ∀ p ∈ t.parts, ∀ M, (callF g (n + (k + 1)) "_law_leaves" [enc p] M).wp fun d M' => ∃ q, d = .ref q ∧ M'[q]? = some (.lst ((lvs p).map .str)) ∧ Grow M M' ∧ M.length ≤ q := fun p hp M => by
        obtain ⟨i, hi⟩ := List.getElem?_of_mem hp
        exact ih p (goods_get gp hi) (by have := deps_get hi; omega) (Nat.le_trans (lvss_get hi) hpn) n M
      have inq : ∀ (w : S) (b : Bool), (feq (.str [97, 108, 108]) (.str w) || feq (.str [97, 110, 121]) (.str w)) = b → inQ (M ++ [.lst []] ++ [.lst [.str [97, 108, 108], .str [97, 110, 121]]]) (.str w) (.ref (M ++ [O.lst []]).length) = some b := fun w b h => by
        subst h
        simp only [inQ, seq?, len_new, flat, List.all_cons, List.all_nil, List.any_cons, List.any_nil, Bool.and_true, Bool.or_false, if_true]
      have i1 := inq [110, 111, 116] false rfl
      have i2 := inq [114, 101, 116, 114, 121] false rfl
      have i3 := inq [114, 101, 112, 101, 97, 116] false rfl
      have i4 := inq [97, 108, 108] true rfl
      have i5 := inq [97, 110, 121] true rfl
      have gl : ∀ (l : List D) (v : D), (loop (stT (callF g (n + (k + 1))) g (.name 2)) (exB (callF g (n + (k + 1))) g leavesBody) (It.ok ⟨encs t.parts, [((M ++ [O.lst []] ++ [O.lst l]).length, .lst (encs t.parts))]⟩) (encs t.parts) [some v, some (.ref M.length), none] (M ++ [O.lst []] ++ [O.lst l] ++ [O.lst (encs t.parts)])).wp
          ⟨fun ρ1 M1 => lk ρ1[1]? fun d => ∃ q, d = D.ref q ∧ M1[q]? = some (O.lst (List.map D.str (lvs t))) ∧ Grow M M1 ∧ M.length ≤ q, fun d M' => ∃ q, d = D.ref q ∧ M'[q]? = some (O.lst (List.map D.str (lvs t))) ∧ Grow M M' ∧ M.length ≤ q, fun _ _ => False, fun _ _ => False⟩ := fun l v =>
        leaves_loop hs hpn ihp ((Grow.one.trans .one).get len_new) len_new (by simp) (Grow.one.trans (Grow.one.trans .one)) (Nat.le_refl _) fun a M1 h1 gr => by
          rw [hlp] at h1
          exact ⟨_, rfl, h1, gr, Nat.le_refl _⟩
      cases t with
      | leaf s => exact absurd rfl (hl' s)
      | no t =>
        simp! only [d__law_leaves, enc, hs, i1, len_new]
        exact ⟨by omega, by omega, by omega, gl _ _⟩
      | rep b t m =>
        cases b
        all_goals
          simp! only [d__law_leaves, enc, repW, hs, i2, i3, len_new]
          exact ⟨by omega, by omega, by omega, gl _ _⟩
      | grp b l =>
        have hsq : ∀ M : Hm, seq? M (.tup (encs l)) = some (encs l) := fun _ => rfl
        cases b
        all_goals
          simp! only [d__law_leaves, enc, grpW, hs, i4, i5, hsq, len_new]
          exact ⟨by omega, by omega, gl _ _⟩
end Rp

namespace Rp
variable {g : G}
theorem turns2_wp {st : D → Lc → Hm → R Lc} {f : List S → Lc → Hm → R (List S)} {ok : Hm → Bool} {ρ : Lc} {Q : List S → Hm → Prop} (inv : List S → List D → Hm → Prop)
    (step : ∀ acc x xs M, inv acc (x :: xs) M → ok M = true ∧ (st x ρ M).wp fun ρ1 M1 => (f acc ρ1 M1).wp fun a2 M2 => inv a2 xs M2) (fin : ∀ acc M, inv acc [] M → ok M = true ∧ Q acc M) :
    ∀ (items : List D) (acc : List S) (M : Hm), inv acc items M → (turns2 st f ok ρ acc items M).wp Q
  | [], acc, M, h => by
    obtain ⟨h1, h2⟩ := fin acc M h
    rw [turns2_nil, if_pos h1]
    exact h2
  | x :: xs, acc, M, h => by
    obtain ⟨h1, h2⟩ := step acc x xs M h
    rw [turns2_cons, if_pos h1, w_bind, w_quiet]
    refine h2.mono fun ρ1 M1 h3 => ?_
    rw [w_bind, w_quiet]
    exact h3.mono fun a2 M2 h4 => turns2_wp inv step fin xs a2 M2 h4
theorem ssort_congr {l m : List S} (p : l.Perm m) : ssort l = ssort m := ssort_unique ((ssort_perm l).trans p) (ssort_pw l)
/-- a plan's steps -/
def stp (t : Tr) : List S := ssort (dedup (lvs t))
theorem stp_mem {t : Tr} {x : S} : x ∈ stp t ↔ x ∈ lvs t := by unfold stp; rw [(ssort_perm _).mem_iff, dedup_mem]
theorem stp_of {t : Tr} {acc : List S} (h1 : acc.Nodup) (h2 : ∀ x, x ∈ acc ↔ x ∈ lvs t) : ssort acc = stp t :=
  ssort_congr ((List.perm_ext_iff_of_nodup h1 (dedup_nodup _)).mpr fun x => by rw [h2, dedup_mem])
theorem stp_leaf (s : S) : stp (.leaf s) = [s] := by simp [stp, lvs, dedup, ssort]
structure HasSteps (g : G) : Prop where
  steps_in : g.fn "steps_in" = some d_steps_in
def addW (a : List S) (z : S) : List S := if z ∈ a then a else a ++ [z]
theorem addW_nodup {a : List S} {z : S} (h : a.Nodup) : (addW a z).Nodup := by
  unfold addW
  split
  · exact h
  · next hz => exact List.nodup_append.mpr ⟨h, by simp, fun y hy w hw e => hz (by rw [List.mem_singleton.mp hw] at e; exact e ▸ hy)⟩
theorem addW_mem {a : List S} {z x : S} : x ∈ addW a z ↔ x ∈ a ∨ x = z := by
  unfold addW
  split
  · next h => exact ⟨.inl, fun q => q.elim id fun e => e ▸ h⟩
  · simp
theorem adds_w {a : List S} {z : S} {M : Hm} {Q : List S → Hm → Prop} : (addS a (.str z) M).wp Q = (a.length ≤ 1000 ∧ Q (addW a z) M) := by rw [addS_str, w_ites]; rfl
theorem steps_loop (G : HasSteps g) {C : Cl} {ps : List Tr} (hn : (lvss ps).length ≤ 60) (ih : ∀ p ∈ ps, ∀ M, (C "steps_in" [enc p] M).wp fun d M' => d = .tup ((stp p).map .str) ∧ Grow M M')
    {M : Hm} {v w : D} {Q : List S → Hm → Prop} (fin : ∀ acc M1, acc.Nodup → (∀ x, x ∈ acc ↔ x ∈ lvss ps) → Grow M M1 → Q acc M1) :
    (turns2 (stT C g (.name 2)) (fun a ρ1 M2 => (evI C g (.ex (.call "steps_in" (.cons (.var 2) .nil) [] .nil)) ρ1 M2).bind fun jt M3 => turns2 (stT C g (.name 3)) (fun a ρ2 M4 => (evE C g (.var 3) ρ2 M4).bind fun d M5 => addS a d M5) jt.ok (List.set ρ1 3 none) a jt.items M3)
      (It.ok ⟨encs ps, []⟩) [some v, some w, none, none] [] (encs ps) M).wp Q := by
  refine turns2_wp (inv := fun acc xs M1 => ∃ done rest : List Tr, ps = done ++ rest ∧ xs = encs rest ∧ acc.Nodup ∧ (∀ x, x ∈ acc ↔ x ∈ lvss done) ∧ Grow M M1) ?_ ?_ _ _ _ ⟨[], ps, rfl, rfl, List.nodup_nil, fun x => by simp [lvss], .refl⟩
  · rintro acc x xs M1 ⟨done, rest, hp, hx, hnd, hm, gr⟩
    cases rest with
    | nil => cases hx
    | cons p rest =>
      obtain ⟨rfl, rfl⟩ := List.cons.inj hx
      have lp : (lvss done).length + (lvs p).length ≤ 60 := by
        have := congrArg (fun l => (lvss l).length) hp
        simp only [lvss_app, lvss, List.length_append] at this
        omega
      refine ⟨rfl, ?_⟩
      simp! only [w_bind, G.steps_in]
      refine (ih p (by rw [hp]; simp) M1).mono fun d M3 ⟨e, g3⟩ => ?_
      subst e
      simp! only []
      refine turns2_wp (inv := fun a xs M4 => ∃ dn rs : List S, stp p = dn ++ rs ∧ xs = rs.map .str ∧ a.Nodup ∧ (∀ x, x ∈ a ↔ x ∈ lvss done ∨ x ∈ dn) ∧ M4 = M3) ?_ ?_ _ _ _ ⟨[], stp p, rfl, rfl, hnd, fun x => by rw [hm]; simp, rfl⟩
      · rintro a x xs M4 ⟨dn, rs, h1, h2, h3, h4, rfl⟩
        cases rs with
        | nil => cases h2
        | cons z rs =>
          obtain ⟨rfl, rfl⟩ := List.cons.inj h2
          refine ⟨rfl, ?_⟩
          simp! only [w_bind, adds_w]
          have ha : a.length ≤ (lvss done ++ lvs p).length := nodup_len h3 fun x hx => by
            rw [List.mem_append]
            rcases (h4 x).mp hx with h | h
            · exact .inl h
            · exact .inr (stp_mem.mp (by rw [h1]; exact List.mem_append_left _ h))
          rw [List.length_append] at ha
          refine ⟨by omega, dn ++ [z], rs, by rw [h1]; simp, rfl, addW_nodup h3, fun x => ?_⟩
          rw [addW_mem, h4]
          simp only [List.mem_append, List.mem_singleton]
          exact ⟨fun q => q.elim (fun q => q.elim .inl fun q => .inr (.inl q)) fun q => .inr (.inr q), fun q => q.elim (fun q => .inl (.inl q)) fun q => q.elim (fun q => .inl (.inr q)) .inr⟩
      · rintro a M4 ⟨dn, rs, h1, h2, h3, h4, rfl⟩
        cases rs with
        | cons z rs => cases h2
        | nil =>
          rw [List.append_nil] at h1
          subst h1
          exact ⟨rfl, done ++ [p], rest, by rw [hp]; simp, rfl, h3, fun x => by rw [h4, stp_mem, lvss_snoc, List.mem_append], gr.trans g3⟩
  · rintro acc M1 ⟨done, rest, hp, hx, hnd, hm, gr⟩
    cases rest with
    | cons p rest => cases hx
    | nil =>
      rw [List.append_nil] at hp
      subst hp
      exact ⟨rfl, fin acc M1 hnd hm gr⟩
theorem steps_in_wp (G : HasSteps g) : ∀ (k : Nat) (t : Tr), good t → dep t ≤ k → (lvs t).length ≤ 60 → ∀ (n : Nat) (M : Hm),
    (callF g (n + k + 1) "steps_in" [enc t] M).wp fun d M' => d = .tup ((stp t).map .str) ∧ Grow M M' := by
  intro k
  induction k with
  | zero => intro t _ hd; cases t <;> simp [dep] at hd
  | succ k ih =>
    intro t hg hd hn n M
    refine call_wp G.steps_in rfl (by decide) ?_
    have hLN : LN = 16777216 := rfl
    by_cases hl : ∃ s, t = .leaf s
    · obtain ⟨s, rfl⟩ := hl
      simp! only [d_steps_in, enc]
      exact ⟨by decide, by rw [stp_leaf]; rfl, .refl⟩
    · have hl' : ∀ s, t ≠ .leaf s := fun s e => hl ⟨s, e⟩
      have hdp := deps_parts hl'
      have hlp := lvss_parts hl'
      have gp := goods_parts hg
      have inq : ∀ (w : S) (b : Bool) (M : Hm), (feq (.str [97, 108, 108]) (.str w) || feq (.str [97, 110, 121]) (.str w)) = b → inQ M (.str w) (.tup [.str [97, 108, 108], .str [97, 110, 121]]) = some b := fun w b M h => by
        subst h
        simp only [inQ, seq?, flat, List.all_cons, List.all_nil, List.any_cons, List.any_nil, Bool.and_true, Bool.or_false, if_true]
      have i1 := fun M => inq [110, 111, 116] false M rfl
      have i2 := fun M => inq [114, 101, 116, 114, 121] false M rfl
      have i3 := fun M => inq [114, 101, 112, 101, 97, 116] false M rfl
      have i4 := fun M => inq [97, 108, 108] true M rfl
      have i5 := fun M => inq [97, 110, 121] true M rfl
      have hpn : (lvss t.parts).length ≤ 60 := by rw [hlp]; exact hn
      have ihp : ∀ p ∈ t.parts, ∀ M, (callF g (n + (k + 1)) "steps_in" [enc p] M).wp fun d M' => d = .tup ((stp p).map .str) ∧ Grow M M' := fun p hp M => by
        obtain ⟨i, hi⟩ := List.getElem?_of_mem hp
        exact ih p (goods_get gp hi) (by have := deps_get hi; omega) (Nat.le_trans (lvss_get hi) hpn) n M
      have fin : ∀ acc M6, acc.Nodup → (∀ x, x ∈ acc ↔ x ∈ lvss t.parts) → Grow M M6 → op ((bag? (M6 ++ [O.set (List.map D.str acc)]) (D.ref (List.length M6))).bind strs?) fun z => z.length < 64 ∧
          op (seq? (M6 ++ [O.set (List.map D.str acc)] ++ [O.lst (List.map D.str (ssort z))]) (D.ref (List.length (M6 ++ [O.set (List.map D.str acc)])))) fun l =>
            D.tup l = D.tup (List.map D.str (stp t)) ∧ Grow M (M6 ++ [O.set (List.map D.str acc)] ++ [O.lst (List.map D.str (ssort z))]) := fun acc M6 h1 h2 h3 => by
        have hb : bag? (M6 ++ [O.set (List.map D.str acc)]) (D.ref (List.length M6)) = some (acc.map .str) := by simp only [bag?, len_new]
        have hle : acc.length ≤ (lvss t.parts).length := nodup_len h1 fun x hx => (h2 x).mp hx
        rw [hb, Option.bind_some, strs_map, op_some, seq_new, op_some]
        exact ⟨by omega, by rw [stp_of h1 fun x => by rw [h2, hlp]], h3.trans (Grow.one.trans .one)⟩
      cases t with
      | leaf s => exact absurd rfl (hl' s)
      | no t =>
        simp! only [d_steps_in, enc, G.steps_in, i1]
        exact ⟨by omega, by omega, steps_loop G hpn ihp fin⟩
      | rep b t m =>
        cases b
        all_goals
          simp! only [d_steps_in, enc, repW, G.steps_in, i2, i3]
          exact ⟨by omega, by omega, steps_loop G hpn ihp fin⟩
      | grp b l =>
        cases b
        all_goals
          simp! only [d_steps_in, enc, grpW, G.steps_in, i4, i5]
          exact ⟨by omega, steps_loop G hpn ihp fin⟩
end Rp

namespace Rp
variable {g : G}
structure HasSz (g : G) : Prop extends HasPlan g, HasSize g, HasSteps g where
  size_of : g.fn "size_of" = some d_size_of
  steps_of : g.fn "steps_of" = some d_steps_of
theorem size_of_wp (G : HasSz g) {t : Tr} (h : PlanOk t) (n : Nat) (M : Hm) : (callF g (n + 15) "size_of" [enc t] M).wp fun d M' => d = .int (siz t) ∧ Grow M M' := by
  refine call_wp G.size_of rfl (by decide) ?_
  simp! only [d_size_of, G.check_plan, G.size_in]
  refine (check_plan_wp G.toHasPlan h n M).mono fun d M1 ⟨e, gr⟩ => ?_
  refine (size_in_wp G.toHasSize 8 t h.good h.dep (by decide) h.leaves (n + 5) M1).mono fun d M2 ⟨e2, gr2⟩ => ?_
  exact ⟨e2, gr.trans gr2⟩
theorem steps_of_wp (G : HasSz g) {t : Tr} (h : PlanOk t) (n : Nat) (M : Hm) : (callF g (n + 15) "steps_of" [enc t] M).wp fun d M' => d = .tup ((stp t).map .str) ∧ Grow M M' := by
  refine call_wp G.steps_of rfl (by decide) ?_
  simp! only [d_steps_of, G.check_plan, G.steps_in]
  refine (check_plan_wp G.toHasPlan h n M).mono fun d M1 ⟨e, gr⟩ => ?_
  refine (steps_in_wp G.toHasSteps 8 t h.good h.dep h.leaves (n + 5) M1).mono fun d M2 ⟨e2, gr2⟩ => ?_
  exact ⟨e2, gr.trans gr2⟩
end Rp

namespace Rp
open PySem
/-! ## a plan written out -/
def toS (s : S) : Str := ⟨s.toArray⟩
mutual
def pdT : Tr → PyData
  | .leaf s => .str (toS s)
  | .no t => .tuple [.str (toS [110, 111, 116]), pdT t]
  | .rep b t k => .tuple [.str (toS (repW b)), pdT t, .int k]
  | .grp b l => .tuple [.str (toS (grpW b)), .tuple (pdTs l)]
def pdTs : List Tr → List PyData
  | [] => []
  | t :: l => pdT t :: pdTs l
end
mutual
theorem pd_enc (M : Hm) : ∀ (t : Tr) (n : Nat), 2 * dep t ≤ n → pd M n (enc t) = some (pdT t)
  | .leaf s, n, h => by
    obtain ⟨m, rfl⟩ : ∃ m, n = m + 1 := ⟨n - 1, by simp only [dep] at h; omega⟩
    simp only [enc, pd, pdT, toS]
  | .no t, n, h => by
    simp only [dep] at h
    obtain ⟨m, rfl⟩ : ∃ m, n = m + 2 := ⟨n - 2, by omega⟩
    have e := pd_enc M t (m + 1) (by omega)
    simp only [enc, pd, pds, pdT, toS, e, Option.map_some]
  | .rep b t k, n, h => by
    simp only [dep] at h
    obtain ⟨m, rfl⟩ : ∃ m, n = m + 2 := ⟨n - 2, by omega⟩
    have e := pd_enc M t (m + 1) (by omega)
    simp only [enc, pd, pds, pdT, toS, e, Option.map_some]
  | .grp b l, n, h => by
    simp only [dep] at h
    obtain ⟨m, rfl⟩ : ∃ m, n = m + 2 := ⟨n - 2, by omega⟩
    have e := pds_enc M l m (by omega)
    simp only [enc, pd, pds, pdT, toS, e, Option.map_some]
theorem pds_enc (M : Hm) : ∀ (l : List Tr) (n : Nat), 2 * deps l ≤ n → pds M n (encs l) = some (pdTs l)
  | [], n, h => by simp only [encs, pds, pdTs]
  | t :: l, n, h => by
    simp only [deps] at h
    have e1 := pd_enc M t n (by omega)
    have e2 := pds_enc M l n (by omega)
    simp only [encs, pds, pdTs, e1, e2]
end
end Rp

namespace Rp
open PySem PySem.Spec PyProof.Rows
theorem strlenA (a b : Str) : (a ++ b).length = a.length + b.length := PySem.strLen_append a b
theorem rc_small : ∀ q ∈ [34, 39], ∀ k : Fin 26, (Builtin.Str.reprChar q (97 + k.1)).length ≤ 4 := by decide +kernel
theorem tup_len (ts : List Str) : (tupleText ts).length ≤ piled ts + 3 := by
  unfold tupleText
  rw [strlenA, strlenA]
  have e1 : ((("(" : String) : Str)).length = 1 := rfl
  have e3 : (((if ts.length == 1 then ",)" else ")" : String) : Str)).length ≤ 2 := by split <;> decide
  cases ts with
  | nil => rw [e1]; have : (Str.join ", " []).length = 0 := rfl
           omega
  | cons t r =>
    have h := join_length_add (t :: r) (by simp)
    rw [e1]; omega
theorem list_len (ts : List Str) : (listText ts).length ≤ piled ts + 3 := by
  cases ts with
  | nil => decide
  | cons t r =>
    have h := textFrom_length_pos r 1 (("[" : Str) ++ (if (0 : Nat) > 0 then ", " else "" : String) ++ t) (Nat.succ_pos 0)
    have e : ((("[" : Str) ++ (if (0 : Nat) > 0 then ", " else "" : String) ++ t)).length = 1 + t.length := by
      rw [strlenA, strlenA]; rfl
    have hX : (listText (t :: r)).length = (textFrom 0 "[" (t :: r)).length + 1 := by
      show (textFrom 0 "[" (t :: r) ++ "]").length = _
      rw [strlenA]; rfl
    have hY : (textFrom 0 "[" (t :: r)).length = (textFrom 1 (("[" : Str) ++ (if (0 : Nat) > 0 then ", " else "" : String) ++ t) r).length := rfl
    rw [hX, hY, h, e, piled_cons]; omega
theorem rfold_len {q : Nat} (hq : q ∈ [34, 39]) : ∀ (l : List Nat) (acc : Array Nat), (∀ c ∈ l, 97 ≤ c ∧ c ≤ 122) → (l.foldl (fun out c => out ++ (Builtin.Str.reprChar q c).toArray) acc).size ≤ acc.size + 4 * l.length
  | [], acc, _ => by simp
  | c :: l, acc, h => by
    have h1 := h c (List.mem_cons_self ..)
    have h2 := rc_small q hq ⟨c - 97, by omega⟩
    have h3 := rfold_len hq l (acc ++ (Builtin.Str.reprChar q c).toArray) fun x hx => h x (List.mem_cons_of_mem _ hx)
    rw [show 97 + (c - 97) = c by omega] at h2
    simp only [List.foldl_cons, List.length_cons]
    simp only [Array.size_append, List.size_toArray] at h3
    omega
theorem text_len {s : S} (h : ∀ c ∈ s, 97 ≤ c ∧ c ≤ 122) : (reprText (toS s)).length ≤ 4 * s.length + 2 := by
  unfold reprText toS
  have hq : reprQuote ⟨s.toArray⟩ ∈ [34, 39] := by unfold reprQuote; split <;> simp
  have := rfold_len hq s #[reprQuote ⟨s.toArray⟩] h
  show (Array.push _ _).size ≤ _
  rw [Array.size_push, ← Array.foldl_toList]
  simp at this ⊢
  omega
theorem int_len {k : Int} {n : Nat} (h : bits k ≤ n) : ((toString k : Str)).length ≤ n + 2 := by
  have := PySem.int_text_length_le (a := k) (k := n + 1) (by omega) (by unfold bits at h; omega)
  show (Str.ofString (toString k)).length ≤ _
  rw [PySem.ofString_length]
  omega
mutual
theorem shown_le : ∀ t : Tr, good t → (pdT t).shown.length ≤ 200 * ((lvs t).length * dep t)
  | .leaf s, h => by
    have := text_len h.2.2
    have := h.2.1
    simp only [pdT, PyData.shown, lvs, dep, List.length_singleton]
    omega
  | .no t, h => by
    have h1 := shown_le t h
    have h2 := lvs_pos0 t h
    have h3 := tup_len (PyData.shownAll [.str (toS [110, 111, 116]), pdT t])
    have h4 : (reprText (toS [110, 111, 116])).length ≤ 14 := text_len (by decide)
    simp only [pdT, PyData.shown, lvs, dep, PyData.shownAll, piled, List.map_cons, List.map_nil, List.sum_cons, List.sum_nil, Nat.mul_add] at h3 ⊢
    omega
  | .rep b t k, h => by
    have h1 := shown_le t h.2.2
    have h2 := lvs_pos0 t h.2.2
    have h3 := tup_len (PyData.shownAll [.str (toS (repW b)), pdT t, .int k])
    have h4 : (reprText (toS (repW b))).length ≤ 26 := Nat.le_trans (text_len (by cases b <;> decide)) (by cases b <;> decide)
    have h5 : bits k ≤ 110 := bits_le (by have := h.1; omega) (Int.lt_of_le_of_lt h.2.1 (by decide))
    have h6 := int_len h5
    simp only [pdT, PyData.shown, lvs, dep, PyData.shownAll, piled, List.map_cons, List.map_nil, List.sum_cons, List.sum_nil, Nat.mul_add] at h3 ⊢
    omega
  | .grp b l, h => by
    have h1 := showns_le l h.2
    have h2 := lvss_pos0 l h.2
    have h0 := h.1
    have h3 := tup_len (PyData.shownAll [.str (toS (grpW b)), .tuple (pdTs l)])
    have h4 : (reprText (toS (grpW b))).length ≤ 14 := Nat.le_trans (text_len (by cases b <;> decide)) (by cases b <;> decide)
    have h5 := tup_len (PyData.shownAll (pdTs l))
    simp only [pdT, PyData.shown, lvs, dep, PyData.shownAll, piled, List.map_cons, List.map_nil, List.sum_cons, List.sum_nil, Nat.mul_add] at h1 h3 h5 ⊢
    omega
theorem showns_le : ∀ l : List Tr, goods l → piled (PyData.shownAll (pdTs l)) ≤ 200 * ((lvss l).length * deps l) + 2 * l.length
  | [], _ => by simp [pdTs, PyData.shownAll, piled]
  | t :: l, h => by
    have h1 := shown_le t h.1
    have h2 := showns_le l h.2
    have e1 : (lvs t).length * dep t ≤ (lvs t).length * max (dep t) (deps l) := Nat.mul_le_mul_left _ (by omega)
    have e2 : (lvss l).length * deps l ≤ (lvss l).length * max (dep t) (deps l) := Nat.mul_le_mul_left _ (by omega)
    simp only [pdTs, PyData.shownAll, piled_cons, lvss, deps, List.length_append, List.length_cons, Nat.add_mul]
    omega
end
end Rp

namespace Rp
open PySem PySem.Spec PyProof.Rows
theorem strOk_of {s : S} (h : ∀ c ∈ s, 97 ≤ c ∧ c ≤ 122) : PyData.strOk (toS s) = true := by
  unfold PyData.strOk toS
  rw [← Array.all_toList, List.all_eq_true]
  intro c hc
  have := h c (by simpa using hc)
  simp; omega
mutual
theorem pdT_ok : ∀ t : Tr, good t → (pdT t).showable = true ∧ (pdT t).canLay0 = true ∧ (pdT t).depth + 2 ≤ 2 * dep t
  | .leaf s, h => ⟨rfl, strOk_of h.2.2, by simp [pdT, PyData.depth, dep]⟩
  | .no t, h => by
    obtain ⟨h1, h2, h3⟩ := pdT_ok t h
    refine ⟨by simp [pdT, PyData.showable, PyData.showableAll, h1], by simp [pdT, PyData.canLay0, PyData.canLayAll0, h2]; exact strOk_of (by decide), ?_⟩
    simp only [pdT, PyData.depth, PyData.depthAll, dep]; omega
  | .rep b t k, h => by
    obtain ⟨h1, h2, h3⟩ := pdT_ok t h.2.2
    have h5 : bits k ≤ 110 := bits_le (by have := h.1; omega) (Int.lt_of_le_of_lt h.2.1 (by decide))
    have h6 : k.natAbs.log2 < 1920 := by unfold bits at h5; omega
    refine ⟨by simp [pdT, PyData.showable, PyData.showableAll, h1, h6], by simp [pdT, PyData.canLay0, PyData.canLayAll0, h2]; exact strOk_of (by cases b <;> decide), ?_⟩
    simp only [pdT, PyData.depth, PyData.depthAll, dep]; omega
  | .grp b l, h => by
    obtain ⟨h1, h2, h3⟩ := pdTs_ok l h.2
    refine ⟨by simp [pdT, PyData.showable, PyData.showableAll, h1], by simp [pdT, PyData.canLay0, PyData.canLayAll0, h2]; exact strOk_of (by cases b <;> decide), ?_⟩
    have : 1 ≤ deps l := by
      cases l with
      | nil => have := h.1; simp at this
      | cons a r => simp only [deps]; have : 1 ≤ dep a := by cases a <;> simp [dep]
                    omega
    simp only [pdT, PyData.depth, PyData.depthAll, dep]; omega
theorem pdTs_ok : ∀ l : List Tr, goods l → PyData.showableAll (pdTs l) = true ∧ PyData.canLayAll0 (pdTs l) = true ∧ PyData.depthAll (pdTs l) ≤ 2 * deps l - 2
  | [], _ => ⟨rfl, rfl, Nat.le_refl _⟩
  | t :: l, h => by
    obtain ⟨h1, h2, h3⟩ := pdT_ok t h.1
    obtain ⟨h4, h5, h6⟩ := pdTs_ok l h.2
    refine ⟨by simp [pdTs, PyData.showableAll, h1, h4], by simp [pdTs, PyData.canLayAll0, h2, h5], ?_⟩
    simp only [pdTs, PyData.depthAll, deps]; omega
end
/-- may be shown -/
def RpOk (p : PyData) : Prop := (SeqAt.shaped p && p.showable && decide (p.shown.length ≤ LN)) = true
theorem repr_enc {M : Hm} {t : Tr} (h : PlanOk t) : pd M FUEL (enc t) = some (pdT t) ∧ RpOk (pdT t) := by
  have hd := h.dep
  have hl := h.leaves
  obtain ⟨h1, h2, h3⟩ := pdT_ok t h.good
  have h4 := shown_le t h.good
  have h5 : (lvs t).length * dep t ≤ 60 * 8 := Nat.mul_le_mul hl hd
  have hLN : LN = 16777216 := rfl
  refine ⟨pd_enc M t FUEL (by unfold FUEL; omega), ?_⟩
  unfold RpOk SeqAt.shaped
  rw [h1, h2, decide_eq_true (by omega), decide_eq_true (by omega)]; rfl
end Rp

namespace Rp
open PySem
variable {g : G}
/-- a def's call, by its body, at any depth -/
theorem call_wp' {n : Nat} {f : String} {args : List D} {M : Hm} {d : Def} {Q : D → Hm → Prop} (h : g.fn f = some d) (hn : 0 < n) (hl : args.length = d.pars) (hs : d.pars ≤ d.slots)
    (w : (exB (callF g (n - 1)) g d.body (args.map some ++ List.replicate (d.slots - args.length) none) M).wp ⟨fun _ M' => Q .non M', Q, fun _ _ => False, fun _ _ => False⟩) : (callF g n f args M).wp Q := by
  obtain ⟨m, rfl⟩ : ∃ m, n = m + 1 := ⟨n - 1, by omega⟩
  exact call_wp h hl hs w
theorem bcons_wp {C : Cl} {ρ : Lc} {M : Hm} {E : Ep} {s : Sx} {l : Sxs} (P : Lc → Hm → Prop) (h : (exS C g s ρ M).wp ⟨P, E.rt, E.bk, E.ct⟩) (k : ∀ ρ1 M1, P ρ1 M1 → (exB C g l ρ1 M1).wp E) : (exB C g (.cons s l) ρ M).wp E := by
  rw [e_bcons]
  exact h.mono k (fun _ _ h => h) (fun _ _ h => h) (fun _ _ h => h)
/-! ## the known defs at any depth -/
theorem draw_at (hd : g.fn "_law_draw" = some d__law_draw) {n : Nat} {M : Hm} {p m : Nat} {many : Int} (hn : 0 < n) (hp : Pool M p m) (hm : 0 < many) (hb : bits many < 9000) (hmm : m < 1000000000000) :
    (callF g n "_law_draw" [.ref p, .int many] M).wp fun d M' => ∃ r : Int, d = .int r ∧ 0 ≤ r ∧ r < many ∧ Pool M' p (m + 1) ∧ Ext p M M' ∧ M'.length = M.length := by
  obtain ⟨k, rfl⟩ : ∃ k, n = k + 1 := ⟨n - 1, by omega⟩
  exact (draw_ext hd hp hm hb hmm).mono fun d M1 ⟨r, e, r0, r1, p1, x1, l1⟩ => ⟨r, e, r0, r1, p1, x1, l1⟩
theorem words_at (hw : g.fn "_law_words" = some d__law_words) (hd : g.fn "_law_draw" = some d__law_draw) {n : Nat} {M : Hm} {p m : Nat} {many : Int} (hn : 2 ≤ n) (hp : Pool M p m) (hm : 0 < many) (h8 : many ≤ 8) (hmm : m < 900000000000) :
    (callF g n "_law_words" [.ref p, .int many] M).wp fun d M' => ∃ (q : Nat) (ws : List S), d = .ref q ∧ M'[q]? = some (.lst (ws.map .str)) ∧ ws.length = many.toNat ∧ (∀ w ∈ ws, StepW w) ∧ Pool M' p (m + 11) ∧ Ext p M M' ∧ M.length ≤ q := by
  obtain ⟨k, rfl⟩ : ∃ k, n = k + 2 := ⟨n - 2, by omega⟩
  exact (words_wp hw hd hp hm (by omega) hmm).mono fun d M1 ⟨q, ws, e, hq, hl, hok, p2, x2, hqm⟩ => ⟨q, ws, e, hq, hl, hok, p2, x2, hqm⟩
theorem often_at (h : g.fn "_law_often" = some d__law_often) (hd : g.fn "_law_draw" = some d__law_draw) {n : Nat} {M : Hm} {p m : Nat} {most : Int} (hn : 2 ≤ n) (hp : Pool M p m) (hm : 0 < most) (hmm : m < 900000000000) :
    (callF g n "_law_often" [.ref p, .int most] M).wp fun d M' => ∃ t : Int, d = .int t ∧ 1 ≤ t ∧ t ≤ 10 ^ 30 ∧ (most < 99 → t ≤ most) ∧ Pool M' p (m + 3) ∧ Ext p M M' := by
  obtain ⟨k, rfl⟩ : ∃ k, n = k + 2 := ⟨n - 2, by omega⟩
  exact often_wp h hd hp hm hmm
theorem cost_le (d : Nat) (h : d ≤ 8) : cost d ≤ 109225 := by
  have : ∀ k, k ≤ 8 → cost k ≤ 109225 := by decide
  exact this d h
theorem tree_at (h : g.fn "_law_tree" = some d__law_tree) (ho : g.fn "_law_often" = some d__law_often) (hd : g.fn "_law_draw" = some d__law_draw) {p q m n : Nat} {ws : List S} {deep room most : Int} {M : Hm} (hn : 12 ≤ n) (hm : 0 < most) (hw : 0 < ws.length) (hw2 : ws.length < 100) (hok : ∀ w ∈ ws, StepW w) (hpq : q ≠ p)
    (h0 : 0 < deep) (h8 : deep ≤ 8) (hp : Pool M p m) (hq : M[q]? = some (.lst (ws.map .str))) (hr : 0 < room) (hr2 : room < 1000) (hmm : m < 700000000000) :
    (callF g n "_law_tree" [.ref p, .ref q, .int deep, .int room, .int most] M).wp fun d M' => ∃ t, d = enc t ∧ Tree ws deep.toNat room.toNat t ∧ Pool M' p (m + 109225) ∧ Ext p M M' := by
  obtain ⟨d, rfl⟩ := Int.eq_ofNat_of_zero_le (Int.le_of_lt h0)
  obtain ⟨r, rfl⟩ := Int.eq_ofNat_of_zero_le (Int.le_of_lt hr)
  obtain ⟨k, rfl⟩ : ∃ k, n = k + d + 3 := ⟨n - d - 3, by omega⟩
  have hc := cost_le d (by omega)
  exact (tree_wp h ho hd hm hw hw2 hok hpq d k r M m (by omega) hp hq (by omega) (by omega) (by omega)).mono fun d M1 ⟨t, e, T, p1, x1⟩ => ⟨t, e, T, p1.le (by omega), x1⟩
theorem check_at (G : HasPlan g) {t : Tr} {n : Nat} {M : Hm} (hn : 14 ≤ n) (h : PlanOk t) : (callF g n "check_plan" [enc t] M).wp fun d M' => d = .non ∧ Grow M M' := by
  obtain ⟨k, rfl⟩ : ∃ k, n = k + 14 := ⟨n - 14, by omega⟩
  exact check_plan_wp G h k M
theorem is_plan_at (G : HasPlan g) {t : Tr} {n : Nat} {M : Hm} (hn : 13 ≤ n) (h : PlanOk t) : (callF g n "is_plan" [enc t] M).wp fun d M' => d = .bl true ∧ Grow M M' := by
  obtain ⟨k, rfl⟩ : ∃ k, n = k + 13 := ⟨n - 13, by omega⟩
  exact is_plan_wp G h k M
theorem size_of_at (G : HasSz g) {t : Tr} {n : Nat} {M : Hm} (hn : 15 ≤ n) (h : PlanOk t) : (callF g n "size_of" [enc t] M).wp fun d M' => d = .int (siz t) ∧ Grow M M' := by
  obtain ⟨k, rfl⟩ : ∃ k, n = k + 15 := ⟨n - 15, by omega⟩
  exact size_of_wp G h k M
theorem steps_of_at (G : HasSz g) {t : Tr} {n : Nat} {M : Hm} (hn : 15 ≤ n) (h : PlanOk t) : (callF g n "steps_of" [enc t] M).wp fun d M' => d = .tup ((stp t).map .str) ∧ Grow M M' := by
  obtain ⟨k, rfl⟩ : ∃ k, n = k + 15 := ⟨n - 15, by omega⟩
  exact steps_of_wp G h k M
theorem size_in_at (G : HasSize g) {t : Tr} {n : Nat} {M : Hm} (hg : good t) (hd : dep t ≤ 8) (hl : (lvs t).length ≤ 60) (hn : dep t < n) : (callF g n "size_in" [enc t] M).wp fun d M' => d = .int (siz t) ∧ Grow M M' := by
  obtain ⟨k, rfl⟩ : ∃ k, n = k + dep t + 1 := ⟨n - dep t - 1, by omega⟩
  exact size_in_wp G (dep t) t hg (Nat.le_refl _) hd hl k M
structure HasSo (g : G) : Prop extends HasPlan g, HasSize g where
  size_of : g.fn "size_of" = some d_size_of
theorem size_of_so (G : HasSo g) {t : Tr} {n : Nat} {M : Hm} (hn : 15 ≤ n) (h : PlanOk t) : (callF g n "size_of" [enc t] M).wp fun d M' => d = .int (siz t) ∧ Grow M M' := by
  refine call_wp' G.size_of (by omega) rfl (by decide) ?_
  simp! only [d_size_of, G.check_plan, G.size_in]
  refine (check_at G.toHasPlan (by omega) h).mono fun d M1 ⟨e, gr⟩ => ?_
  refine (size_in_at G.toHasSize h.good h.dep h.leaves (by have := h.dep; omega)).mono fun d M2 ⟨e2, gr2⟩ => ?_
  exact ⟨e2, gr.trans gr2⟩
theorem law_size_at (hs : g.fn "_law_size" = some d__law_size) {t : Tr} {n : Nat} {M : Hm} (hg : good t) (hd : dep t ≤ 8) (hl : (lvs t).length ≤ 60) (hn : dep t < n) : (callF g n "_law_size" [enc t] M).wp fun d M' => d = .int (siz t) ∧ Grow M M' := by
  obtain ⟨k, rfl⟩ : ∃ k, n = k + dep t + 1 := ⟨n - dep t - 1, by omega⟩
  exact law_size_wp hs (dep t) t hg (Nat.le_refl _) hd hl k M
theorem Tree.planOk {ws : List S} {d r : Nat} {t : Tr} (T : Tree ws d r t) (hd : d ≤ 8) (hr : r ≤ 60) (hw : ws.length ≤ 8) : PlanOk t :=
  ⟨T.good, Nat.le_trans T.dep hd, Nat.le_trans T.room hr, Nat.le_trans (nodup_len (dedup_nodup _) fun x hx => T.sub x (dedup_mem.mp hx)) hw⟩
/-! ## the end of each law: all cells -/
abbrev driveE (i : Nat) (N : Int) : Ex := .bi .all (.cons (.lc (.call "_law_right" (.cons (.call "_law_pool" (.cons (.call "_law_cell" (.cons (.var 0) (.cons (.var i) .nil)) [] .nil) .nil) [] .nil) .nil) [] .nil) (.name i) (.rng1 (.bi .max (.cons (.int 2) (.cons (.bi .min (.cons (.bi .len (.cons (.var 0) .nil)) (.cons (.int N) .nil))) .nil)))) .none [i]) .nil)
theorem drive_wp {n : Nat} {ρ : Lc} {M : Hm} {Q : D → Hm → Prop} {ns : List Int} {N : Int} (i : Nat) (hn : 0 < n) (hN : 0 ≤ N ∧ N < 100) (hr0 : (g.fn "_law_right").isSome = true) (hp : g.fn "_law_pool" = some d__law_pool) (hc : g.fn "_law_cell" = some d__law_cell)
    (h0 : ρ[0]? = some (some (.rol (ns.map .int)))) (hi : i < ρ.length) (hi0 : 0 < i) (hl : ns.length ≤ 63)
    (hR : ∀ M p, Pool M p 0 → (callF g n "_law_right" [.ref p] M).wp fun d _ => d = .bl true) (hQ : ∀ M', Q (.bl true) M') : (evE (callF g n) g (driveE i N) ρ M).wp Q := by
  have hLN : LN = 16777216 := rfl
  have hH : HALF = 4611686018427387904 := rfl
  obtain ⟨n, rfl⟩ : ∃ k, n = k + 1 := ⟨n - 1, by omega⟩
  have w0 : ∀ x, ((ρ.set i none).set i x)[0]? = some (some (.rol (ns.map .int))) := fun x => by rw [List.getElem?_set_ne (by omega), List.getElem?_set_ne (by omega)]; exact h0
  have wi : ∀ x, ((ρ.set i none).set i x)[i]? = some x := fun x => List.getElem?_set_self (by simpa using hi)
  simp! only [driveE, h0, List.length_map, hr0, hp, hc]
  obtain ⟨kN, hk, hk2⟩ : ∃ kN : Nat, (if (if N < (ns.length : Int) then N else (ns.length : Int)) > 2 then (if N < (ns.length : Int) then N else (ns.length : Int)) else 2) = (kN : Int) ∧ kN ≤ 100 := by
    refine ⟨(if (if N < (ns.length : Int) then N else (ns.length : Int)) > 2 then (if N < (ns.length : Int) then N else (ns.length : Int)) else 2).toNat, ?_, ?_⟩
    · split <;> (try split) <;> omega
    · split <;> (try split) <;> omega
  rw [hk, show ((kN : Int) - 0).toNat = kN by simp, evC_none]
  refine ⟨by omega, ?_⟩
  refine comp_wp _ (K := fun i acc M' => ∀ d ∈ acc, d = .bl true) (fun _ h => by cases h) (fun i' x acc M' hx hl' ha => ?_) (by rw [rng_len]; omega) (fun acc M' hl' ha => ?_)
  · obtain ⟨rfl, hi'⟩ := rng_at hx
    refine ⟨rfl, ?_⟩
    simp! only [hr0, hp, hc, w0, wi, List.length_set]
    refine ⟨hi, (cell_wp hc (by omega)).mono fun d M4 ⟨c, e, _⟩ => ?_⟩
    subst e
    refine (pool_wp hp).mono fun d M5 ⟨e, p5, _⟩ => ?_
    subst e
    refine (hR _ _ p5).mono fun d M6 e => ?_
    subst e
    exact fun d hd => (List.mem_append.mp hd).elim (ha d) fun e => List.mem_singleton.mp e
  · refine ⟨rfl, ?_⟩
    rw [lsq_new, Option.bind_some, bls_trues acc ha, op_some, all_replicate]
    exact hQ _
theorem wp_true {r : R D} (h : r.wp fun d _ => d = .bl true) : ∃ M, r = .ok (.bl true) M := by
  obtain ⟨d, M, e, e2⟩ := h.ex
  rw [e2] at e
  exact ⟨M, e⟩
/-! ## data -/
theorem pd_mono (M : Hm) : ∀ (n : Nat) (d : D) (p : PyData), pd M n d = some p → pd M (n + 1) d = some p := by
  intro n
  induction n with
  | zero => intro d p h; simp [pd] at h
  | succ n ih =>
    have ihs : ∀ (l : List D) (ps : List PyData), pds M n l = some ps → pds M (n + 1) l = some ps := by
      intro l
      induction l with
      | nil => intro ps h; simpa only [pds] using h
      | cons a l il =>
        intro ps h
        simp only [pds] at h ⊢
        cases h1 : pd M n a with
        | none => rw [h1] at h; cases h
        | some x =>
          rw [h1] at h
          cases h2 : pds M n l with
          | none => rw [h2] at h; cases h
          | some r =>
            rw [h2] at h
            rw [ih a x h1, il r h2]
            exact h
    intro d p h
    cases d with
    | tup l =>
      simp only [pd] at h ⊢
      cases h1 : pds M n l with
      | none => rw [h1] at h; cases h
      | some r => rw [h1] at h; rw [ihs l r h1]; exact h
    | rol l =>
      simp only [pd] at h ⊢
      cases h1 : pds M n l with
      | none => rw [h1] at h; cases h
      | some r => rw [h1] at h; rw [ihs l r h1]; exact h
    | ref k =>
      simp only [pd] at h ⊢
      split at h
      · next l hl =>
        cases h1 : pds M n l with
        | none => rw [h1] at h; cases h
        | some r => rw [h1] at h; rw [ihs l r h1]; exact h
      · cases h
    | _ => simpa only [pd] using h
theorem pd_le {M : Hm} {n m : Nat} (hm : n ≤ m) {d : D} {p : PyData} (h : pd M n d = some p) : pd M m d = some p := by
  induction hm with
  | refl => exact h
  | step _ ih => exact pd_mono M _ d p ih
/-- d stands for the data p, nested at most n deep -/
def Dat (n : Nat) (M : Hm) (d : D) (p : PyData) : Prop := pd M n d = some p
def Dats (n : Nat) (M : Hm) : List D → List PyData → Prop
  | [], ps => ps = []
  | d :: l, ps => ∃ p r, ps = p :: r ∧ Dat n M d p ∧ Dats n M l r
theorem Dats.pds {n : Nat} {M : Hm} : ∀ {l : List D} {ps : List PyData}, Dats n M l ps → pds M n l = some ps
  | [], ps, h => by cases h; simp only [Rp.pds]
  | d :: l, ps, h => by
    obtain ⟨p, r, rfl, h1, h2⟩ := h
    have h1 : pd M n d = some p := h1
    simp only [Rp.pds, h1, Dats.pds h2]
theorem Dat.non {n : Nat} {M : Hm} : Dat (n + 1) M .non .none := by unfold Dat; simp only [pd]
theorem Dat.bl {n : Nat} {M : Hm} {b : Bool} : Dat (n + 1) M (.bl b) (.bool b) := by unfold Dat; simp only [pd]
theorem Dat.int {n : Nat} {M : Hm} {b : Int} : Dat (n + 1) M (.int b) (.int b) := by unfold Dat; simp only [pd]
theorem Dat.str {n : Nat} {M : Hm} {b : S} : Dat (n + 1) M (.str b) (.str (toS b)) := by unfold Dat; simp only [pd, toS]
theorem Dat.tup {n : Nat} {M : Hm} {l : List D} {ps : List PyData} (h : Dats n M l ps) : Dat (n + 1) M (.tup l) (.tuple ps) := by unfold Dat; simp only [pd, h.pds, Option.map_some]
theorem Dat.lst {n : Nat} {M : Hm} {q : Nat} {l : List D} {ps : List PyData} (e : M[q]? = some (.lst l)) (h : Dats n M l ps) : Dat (n + 1) M (.ref q) (.list ps) := by unfold Dat; simp only [pd, e, h.pds, Option.map_some]
theorem Dat.fuel {n : Nat} {M : Hm} {d : D} {p : PyData} (h : Dat n M d p) (hn : n ≤ 64) : pd M FUEL d = some p := pd_le hn h
theorem Dat.le {n m : Nat} {M : Hm} {d : D} {p : PyData} (h : Dat n M d p) (hn : n ≤ m) : Dat m M d p := pd_le hn h
theorem Dat.enc {n : Nat} {M : Hm} {t : Tr} (h : 2 * dep t ≤ n) : Dat n M (enc t) (pdT t) := pd_enc M t n h
theorem Dats.nil {n : Nat} {M : Hm} : Dats n M [] [] := rfl
theorem Dats.cons {n : Nat} {M : Hm} {d : D} {l : List D} {p : PyData} {ps : List PyData} (h : Dat n M d p) (k : Dats n M l ps) : Dats n M (d :: l) (p :: ps) := ⟨p, ps, rfl, h, k⟩
theorem Dats.app {n : Nat} {M : Hm} : ∀ {l r : List D} {ps qs : List PyData}, Dats n M l ps → Dats n M r qs → Dats n M (l ++ r) (ps ++ qs)
  | [], r, ps, qs, h, k => by cases h; exact k
  | d :: l, r, ps, qs, h, k => by
    obtain ⟨p, s, rfl, h1, h2⟩ := h
    exact ⟨p, s ++ qs, rfl, h1, Dats.app h2 k⟩
theorem Dats.strs {n : Nat} {M : Hm} : ∀ ws : List S, Dats (n + 1) M (ws.map .str) (ws.map fun w => .str (toS w))
  | [] => rfl
  | w :: ws => ⟨_, _, rfl, .str, Dats.strs ws⟩
theorem Dat.grow {M M' : Hm} (G : Grow M M') : ∀ {n : Nat} {d : D} {p : PyData}, Dat n M d p → Dat n M' d p := by
  intro n
  induction n with
  | zero => intro d p h; simp [Dat, pd] at h
  | succ n ih =>
    have ihs : ∀ (l : List D) (ps : List PyData), pds M n l = some ps → pds M' n l = some ps := by
      intro l
      induction l with
      | nil => intro ps h; simpa only [pds] using h
      | cons a l il =>
        intro ps h
        simp only [pds] at h ⊢
        cases h1 : pd M n a with
        | none => rw [h1] at h; cases h
        | some x =>
          rw [h1] at h
          cases h2 : pds M n l with
          | none => rw [h2] at h; cases h
          | some r =>
            rw [h2] at h
            have h1' : pd M' n a = some x := ih h1
            rw [h1', il r h2]
            exact h
    intro d p h
    unfold Dat at h ⊢
    cases d with
    | tup l =>
      simp only [pd] at h ⊢
      cases h1 : pds M n l with
      | none => rw [h1] at h; cases h
      | some r => rw [h1] at h; rw [ihs l r h1]; exact h
    | rol l =>
      simp only [pd] at h ⊢
      cases h1 : pds M n l with
      | none => rw [h1] at h; cases h
      | some r => rw [h1] at h; rw [ihs l r h1]; exact h
    | ref k =>
      simp only [pd] at h
      split at h
      · next l hl =>
        simp only [pd, G.get hl]
        cases h1 : pds M n l with
        | none => rw [h1] at h; cases h
        | some r => rw [h1] at h; rw [ihs l r h1]; exact h
      · cases h
    | _ => simpa only [pd] using h
/-- may be compared -/
theorem feq_eqv {M : Hm} : ∀ {x y : D} {p q : PyData}, flat x = true → flat y = true → pd M FUEL x = some p → pd M FUEL y = some q → feq x y = PyData.eqv p q := by
  intro x y p q hx hy hp hq
  have e : FUEL = 63 + 1 := rfl
  rw [e] at hp hq
  have ts : ∀ s r : S, (toS s == toS r) = (s == r) := fun s r => by
    unfold toS
    by_cases h : s = r
    · subst h; simp
    · rw [beq_eq_false_iff_ne.mpr h, beq_eq_false_iff_ne]
      intro z
      injection z with z
      exact h (by simpa using congrArg Array.toList z)
  cases x <;> cases y <;> first | (cases hx; done) | (cases hy; done) | (simp only [pd, Option.some.injEq] at hp hq; subst hp hq; first | rfl | (simp [feq, PyData.eqv]; done) | skip)
  all_goals first | (simp only [feq, PyData.eqv]; exact (ts _ _).symm) | skip
  all_goals rename_i a b
  all_goals first | (cases a <;> cases b <;> rfl) | (cases a <;> simp [feq, PyData.eqv]) | (cases b <;> simp [feq, PyData.eqv])
theorem deq_dat {M : Hm} {x y : D} {p q : PyData} {n m : Nat} (h : Dat n M x p) (k : Dat m M y q) (hn : n ≤ 64) (hm : m ≤ 64) (hp : SeqAt.shaped p = true) (hq : SeqAt.shaped q = true) : deq M x y = some (PyData.eqv p q) := by
  have h' := h.fuel hn
  have k' := k.fuel hm
  unfold deq
  split
  · next hf =>
    rw [Bool.and_eq_true] at hf
    rw [feq_eqv hf.1 hf.2 h' k']
  · rw [h', k']; show (if (SeqAt.shaped p && SeqAt.shaped q) = true then _ else _) = _; rw [hp, hq]; rfl
theorem deq_same {M : Hm} {x y : D} {p : PyData} {n m : Nat} (h : Dat n M x p) (k : Dat m M y p) (hn : n ≤ 64) (hm : m ≤ 64) (hp : SeqAt.shaped p = true) : deq M x y = some true := by
  rw [deq_dat h k hn hm hp hp]
  have : p.canLay0 = true := by unfold SeqAt.shaped at hp; rw [Bool.and_eq_true] at hp; first | exact hp.1 | exact hp.2
  rw [SeqAt.eqv_refl p this]
end Rp

namespace Rp
open PySem
def d_leaf_at : Def := ⟨6, 2,
 (.cons (.ite (.isi (.var 0) ["str"]) (.cons (.ret (.tup (.cons (.var 0) (.cons (.bl true) .nil))))
 .nil) .nil)
 (.cons (.ite (.cmp .eq (.sub (.var 0) (.int 0)) (.str [110, 111, 116])) (.cons (.asg (.tup (.cons (.name 4) (.cons (.name 5) .nil))) (.call "leaf_at" (.cons (.sub (.var 0) (.int 1)) (.cons (.var 1) .nil)) [] .nil))
 (.cons (.ret (.tup (.cons (.var 4) (.cons (.not (.var 5)) .nil))))
 .nil)) .nil)
 (.cons (.ite (.cmp .in (.sub (.var 0) (.int 0)) (.tup (.cons (.str [114, 101, 116, 114, 121]) (.cons (.str [114, 101, 112, 101, 97, 116]) .nil)))) (.cons (.ret (.call "leaf_at" (.cons (.sub (.var 0) (.int 1)) (.cons (.bin .mod (.var 1) (.call "size_in" (.cons (.sub (.var 0) (.int 1)) .nil) [] .nil)) .nil)) [] .nil))
 .nil) .nil)
 (.cons (.asg (.tup (.cons (.name 2) (.cons (.name 3) .nil))) (.tup (.cons (.var 1) (.cons (.int 0) .nil))))
 (.cons (.while (.cmp .ge (.var 2) (.call "size_in" (.cons (.sub (.sub (.var 0) (.int 1)) (.var 3)) .nil) [] .nil)) (.cons (.asg (.name 2) (.bin .sub (.var 2) (.call "size_in" (.cons (.sub (.sub (.var 0) (.int 1)) (.var 3)) .nil) [] .nil)))
 (.cons (.asg (.name 3) (.bin .add (.var 3) (.int 1)))
 .nil)))
 (.cons (.ret (.call "leaf_at" (.cons (.sub (.sub (.var 0) (.int 1)) (.var 3)) (.cons (.var 2) .nil)) [] .nil))
 .nil))))))⟩
def d_check_position : Def := ⟨2, 2,
 (.cons (.ite (.or (.not (.call "is_integer" (.cons (.var 1) .nil) [] .nil)) (.not (.cmp2 .le .lt (.int 0) (.var 1) (.call "size_in" (.cons (.var 0) .nil) [] .nil)))) (.cons (.raise "InvalidNumber" (.cons (.var 1) .nil))
 .nil) .nil)
 .nil)⟩
def d_step_at : Def := ⟨2, 2,
 (.cons (.ex (.call "check_plan" (.cons (.var 0) .nil) [] .nil))
 (.cons (.ex (.call "check_position" (.cons (.var 0) (.cons (.var 1) .nil)) [] .nil))
 (.cons (.ret (.call "leaf_at" (.cons (.var 0) (.cons (.var 1) .nil)) [] .nil))
 .nil)))⟩

variable {g : G}
theorem wloop_wp {c : Lc → Hm → R Bool} {body : Lc → Hm → F} {E : Ep} (inv : Nat → Lc → Hm → Prop)
    (step : ∀ k ρ M, inv k ρ M → (c ρ M).wp fun b M1 => cnd (b = true) ((body ρ M1).wp ⟨fun ρ2 M2 => ∃ j, j < k ∧ inv j ρ2 M2, E.rt, E.nx, fun ρ2 M2 => ∃ j, j < k ∧ inv j ρ2 M2⟩) (E.nx ρ M1)) : ∀ (n k : Nat) (ρ : Lc) (M : Hm), k < n → inv k ρ M → (wloop c body n ρ M).wp E
  | 0, k, ρ, M, h, _ => by omega
  | n + 1, k, ρ, M, h, hi => by
    unfold wloop
    rw [w_go]
    refine (step k ρ M hi).mono fun b M1 hb => ?_
    unfold cnd at hb
    split at hb
    · next hbt =>
      subst hbt
      rw [if_pos rfl]
      revert hb
      generalize body ρ M1 = f
      intro hb
      cases f with
      | nx ρ2 M2 => obtain ⟨j, hj, h2⟩ := hb; exact wloop_wp inv step n j ρ2 M2 (by omega) h2
      | ct ρ2 M2 => obtain ⟨j, hj, h2⟩ := hb; exact wloop_wp inv step n j ρ2 M2 (by omega) h2
      | brk ρ2 M2 => exact hb
      | ret d M2 => exact hb
      | exc c fs M2 ρ2 => exact hb.elim
      | stuck => exact hb.elim
    · next hbt =>
      have : b = false := by simpa using hbt
      subst this
      rw [if_neg (by decide)]
      exact hb
/-! ## the step at a position -/
mutual
def lf : Tr → Int → S × Bool
  | .leaf s, _ => (s, true)
  | .no t, i => ((lf t i).1, !(lf t i).2)
  | .rep _ t _, i => lf t (i % siz t)
  | .grp _ l, i => lfs l i
def lfs : List Tr → Int → S × Bool
  | [], _ => ([], true)
  | t :: l, i => if siz t ≤ i then lfs l (i - siz t) else lf t i
end
def encL (p : S × Bool) : D := .tup [.str p.1, .bl p.2]
mutual
theorem siz_pos : ∀ t : Tr, good t → 1 ≤ siz t
  | .leaf _, _ => by simp [siz]
  | .no t, h => siz_pos t h
  | .rep _ t k, h => by
    have h1 := siz_pos t h.2.2
    have h2 := h.1
    simp only [siz]
    have := Int.mul_le_mul h1 h2 (by omega) (by omega)
    omega
  | .grp _ l, h => by
    have h1 := sizs_pos l h.2
    have h2 := h.1
    simp only [siz]; omega
theorem sizs_pos : ∀ l : List Tr, goods l → (l.length : Int) ≤ (sizs l).sum
  | [], _ => by simp [sizs]
  | t :: l, h => by
    have h1 := siz_pos t h.1
    have h2 := sizs_pos l h.2
    simp only [sizs, List.sum_cons, List.length_cons]; omega
end
theorem encs_at {l : List Tr} {i : Nat} {p : Tr} (h : l[i]? = some p) : at? (encs l) (i : Int) = some (enc p) := by
  have hi := (List.getElem?_eq_some_iff.mp h).1
  rw [at_nat (by rw [encs_len]; exact hi)]
  revert i
  induction l with
  | nil => intro i h hi; simp at hi
  | cons a l ih =>
    intro i h hi
    cases i with
    | zero => cases h; rfl
    | succ i => exact ih (by simpa using h) (by simpa using hi)
theorem sizs_get {l : List Tr} {i : Nat} {p : Tr} (h : l[i]? = some p) : (sizs (l.drop i)).sum = siz p + (sizs (l.drop (i + 1))).sum := by
  rw [List.drop_eq_getElem_cons (List.getElem?_eq_some_iff.mp h).1, (List.getElem?_eq_some_iff.mp h).2]
  simp [sizs]
theorem lfs_get {l : List Tr} {i : Nat} {p : Tr} (h : l[i]? = some p) (x : Int) : lfs (l.drop i) x = if siz p ≤ x then lfs (l.drop (i + 1)) (x - siz p) else lf p x := by
  rw [List.drop_eq_getElem_cons (List.getElem?_eq_some_iff.mp h).1, (List.getElem?_eq_some_iff.mp h).2]
  simp [lfs]
structure HasLeaf (g : G) : Prop extends HasSize g where
  leaf_at : g.fn "leaf_at" = some d_leaf_at
theorem leaf_at_wp (G : HasLeaf g) : ∀ (k : Nat) (t : Tr), good t → dep t ≤ k → k ≤ 8 → (lvs t).length ≤ 60 → ∀ (i : Int), 0 ≤ i → i < siz t → ∀ (n : Nat) (M : Hm), k < n →
    (callF g n "leaf_at" [enc t, .int i] M).wp fun d M' => d = encL (lf t i) ∧ Grow M M' := by
  intro k
  induction k with
  | zero => intro t _ hd; cases t <;> simp [dep] at hd
  | succ k ih =>
    intro t hg hd hk hl i hi0 hi n M hn
    refine call_wp' G.leaf_at (by omega) rfl (by decide) ?_
    have hLN : LN = 16777216 := rfl
    have inq : ∀ (w : S) (b : Bool), (feq (.str [114, 101, 116, 114, 121]) (.str w) || feq (.str [114, 101, 112, 101, 97, 116]) (.str w)) = b → ∀ M, inQ M (.str w) (.tup [.str [114, 101, 116, 114, 121], .str [114, 101, 112, 101, 97, 116]]) = some b := fun w b h M => by
      subst h
      simp only [inQ, seq?, flat, List.all_cons, List.all_nil, List.any_cons, List.any_nil, Bool.and_true, Bool.or_false, if_true]
    have i2 := inq [114, 101, 116, 114, 121] true rfl
    have i3 := inq [114, 101, 112, 101, 97, 116] true rfl
    have i4 := inq [97, 108, 108] false rfl
    have i5 := inq [97, 110, 121] false rfl
    cases t with
    | leaf s =>
      simp! only [d_leaf_at, enc, lf, encL]
      exact ⟨by decide, .refl⟩
    | no t =>
      simp! only [d_leaf_at, enc, G.leaf_at]
      refine (ih t hg (by simp only [dep] at hd; omega) (by omega) hl i hi0 hi (n - 1) M (by omega)).mono fun d M1 ⟨e, gr⟩ => ?_
      subst e
      simp! only [encL, lf]
      exact ⟨by decide, gr⟩
    | rep b t m =>
      have hp := siz_pos t hg.2.2
      have fin : (callF g (n - 1) "size_in" [enc t] M).wp fun d M1 => (binop .mod (.int i) d M1).wp fun d M2 => (callF g (n - 1) "leaf_at" [enc t, d] M2).wp fun d M' => d = encL (lf t (i % siz t)) ∧ Grow M M' := by
        refine (size_in_at G.toHasSize hg.2.2 (by simp only [dep] at hd; omega) hl (by simp only [dep] at hd; omega)).mono fun d M1 ⟨e, gr⟩ => ?_
        subst e
        simp! only []
        refine ⟨by omega, ?_⟩
        refine (ih t hg.2.2 (by simp only [dep] at hd; omega) (by omega) hl _ (Int.emod_nonneg _ (by omega)) (Int.emod_lt_of_pos _ (by omega)) (n - 1) M1 (by omega)).mono fun d M2 ⟨e, gr2⟩ => ?_
        exact ⟨e, gr.trans gr2⟩
      cases b
      all_goals
        simp! only [d_leaf_at, enc, repW, G.leaf_at, G.size_in, i2, i3, lf]
        exact ⟨by decide, fin⟩
    | grp b l =>
      have hsz : ∀ p ∈ l, ∀ M, (callF g (n - 1) "size_in" [enc p] M).wp fun d M' => d = .int (siz p) ∧ Grow M M' := fun p hp M => by
        obtain ⟨j, hj⟩ := List.getElem?_of_mem hp
        have := deps_get hj
        simp only [dep] at hd
        exact size_in_at G.toHasSize (goods_get hg.2 hj) (by omega) (Nat.le_trans (lvss_get hj) hl) (by omega)
      cases b
      all_goals
        simp! only [d_leaf_at, enc, grpW, G.leaf_at, G.size_in, i4, i5]
        refine ⟨by decide, by decide, ?_⟩
        refine wloop_wp (fun j ρ M1 => ∃ (a : Nat) (x : Int) (v : S), a + j = l.length ∧ 0 ≤ x ∧ x < (sizs (l.drop a)).sum ∧ lfs l i = lfs (l.drop a) x ∧ ρ = [some (.tup [.str v, .tup (encs l)]), some (.int i), some (.int x), some (.int a), none, none] ∧ Grow M M1) ?_ WF l.length _ _ ?_ ?_
        · rintro j ρ M1 ⟨a, x, v, ha, hx0, hx, hlf, rfl, gr⟩
          have hlt : a < l.length := by
            rcases Nat.lt_or_ge a l.length with h | h
            · exact h
            · rw [List.drop_eq_nil_of_le h] at hx; simp [sizs] at hx; omega
          have hp : l[a]? = some l[a] := List.getElem?_eq_getElem hlt
          have hmem : l[a] ∈ l := List.getElem_mem hlt
          have hat := encs_at hp
          rw [w_test]
          simp! only [G.size_in, hat]
          refine (hsz _ hmem M1).mono fun d M2 ⟨e, g2⟩ => ?_
          subst e
          simp! only [G.size_in, hat]
          rw [sizs_get hp] at hx
          rw [lfs_get hp] at hlf
          refine cnd_by (fun h => ?_) fun h => ?_
          · have h : siz l[a] ≤ x := by simpa using h
            rw [if_pos h] at hlf
            refine (hsz _ hmem M2).mono fun d M3 ⟨e, g3⟩ => ?_
            subst e
            simp! only []
            exact ⟨j - 1, by omega, a + 1, x - siz l[a], v, by omega, by omega, by omega, hlf, rfl, gr.trans (g2.trans g3)⟩
          · have h : ¬ siz l[a] ≤ x := by simpa using h
            rw [if_neg h] at hlf
            have := deps_get hp
            simp only [dep] at hd
            refine (ih l[a] (goods_get hg.2 hp) (by omega) (by omega) (Nat.le_trans (lvss_get hp) hl) x hx0 (by omega) (n - 1) M2 (by omega)).mono fun d M3 ⟨e, g3⟩ => ?_
            exact ⟨by rw [e]; simp only [lf, hlf], gr.trans (g2.trans g3)⟩
        · have : l.length ≤ 60 := Nat.le_trans (lvss_pos0 l hg.2) hl
          have : WF = 1000000 := rfl
          omega
        · exact ⟨0, i, _, by omega, hi0, hi, rfl, rfl, .refl⟩
theorem leaf_at_at (G : HasLeaf g) {t : Tr} {i : Int} {n : Nat} {M : Hm} (hn : 9 ≤ n) (h : PlanOk t) (hi0 : 0 ≤ i) (hi : i < siz t) : (callF g n "leaf_at" [enc t, .int i] M).wp fun d M' => d = encL (lf t i) ∧ Grow M M' :=
  leaf_at_wp G 8 t h.good h.dep (by decide) h.leaves i hi0 hi n M (by omega)
structure HasStepAt (g : G) : Prop extends HasPlan g, HasLeaf g where
  check_position : g.fn "check_position" = some d_check_position
  step_at : g.fn "step_at" = some d_step_at
theorem is_integer_wp (h : g.fn "is_integer" = some d_is_integer) {n : Nat} {M : Hm} {k : Int} (hn : 0 < n) : (callF g n "is_integer" [.int k] M).wp fun d M' => d = .bl true ∧ M' = M := by
  refine call_wp' h hn rfl (by decide) ?_
  simp! only [d_is_integer]
theorem check_position_wp (G : HasStepAt g) {t : Tr} {i : Int} {n : Nat} {M : Hm} (hn : 10 ≤ n) (h : PlanOk t) (hi0 : 0 ≤ i) (hi : i < siz t) : (callF g n "check_position" [enc t, .int i] M).wp fun d M' => d = .non ∧ Grow M M' := by
  refine call_wp' G.check_position (by omega) rfl (by decide) ?_
  simp! only [d_check_position, G.is_integer]
  refine (is_integer_wp G.is_integer (by omega)).mono fun d M1 ⟨e, e1⟩ => ?_
  subst e e1
  have c1 : decide (0 ≤ i) = true := by simpa using hi0
  have c2 : decide (i < siz t) = true := by simpa using hi
  simp! only [c1, G.size_in]
  refine (size_in_at G.toHasSize h.good h.dep h.leaves (by have := h.dep; omega)).mono fun d M1 ⟨e, gr⟩ => ?_
  subst e
  simp! only [c2]
  exact gr
theorem step_at_at (G : HasStepAt g) {t : Tr} {i : Int} {n : Nat} {M : Hm} (hn : 15 ≤ n) (h : PlanOk t) (hi0 : 0 ≤ i) (hi : i < siz t) : (callF g n "step_at" [enc t, .int i] M).wp fun d M' => d = encL (lf t i) ∧ Grow M M' := by
  refine call_wp' G.step_at (by omega) rfl (by decide) ?_
  simp! only [d_step_at, G.check_plan, G.check_position, G.leaf_at]
  refine (check_at G.toHasPlan (by omega) h).mono fun d M1 ⟨e, g1⟩ => ?_
  refine (check_position_wp G (by omega) h hi0 hi).mono fun d M2 ⟨e, g2⟩ => ?_
  refine (leaf_at_at G.toHasLeaf (by omega) h hi0 hi).mono fun d M3 ⟨e, g3⟩ => ?_
  exact ⟨e, g1.trans (g2.trans g3)⟩
end Rp

namespace Rp
open PySem
variable {g : G}
theorem for_ix {st : D → Lc → Hm → R Lc} {body : Lc → Hm → F} {ok : Hm → Bool} {E : Ep} {items : List D} {ρ : Lc} {M : Hm} (I : Nat → Lc → Hm → Prop) (h0 : I 0 ρ M)
    (step : ∀ i x ρ M, items[i]? = some x → I i ρ M → ok M = true ∧ (st x ρ M).wp fun ρ1 M1 => (body ρ1 M1).wp ⟨I (i + 1), E.rt, E.nx, I (i + 1)⟩)
    (fin : ∀ ρ M, I items.length ρ M → ok M = true ∧ E.nx ρ M) : (loop st body ok items ρ M).wp E := by
  refine loop_wp (inv := fun xs ρ M => ∃ i, i ≤ items.length ∧ xs = items.drop i ∧ I i ρ M) ?_ ?_ items ρ M ⟨0, Nat.zero_le _, rfl, h0⟩
  · rintro x xs ρ M ⟨i, hi, hx, hI⟩
    have hx' : items[i]? = some x := by
      have := congrArg (·[0]?) hx
      simpa using this.symm
    have hlt := (List.getElem?_eq_some_iff.mp hx').1
    have hxs : xs = items.drop (i + 1) := by rw [← List.drop_drop, ← hx]; rfl
    obtain ⟨h1, h2⟩ := step i x ρ M hx' hI
    refine ⟨h1, h2.mono fun ρ1 M1 h3 => h3.mono (fun ρ2 M2 h => ⟨i + 1, hlt, hxs, h⟩) (fun _ _ h => h) (fun _ _ h => h) (fun ρ2 M2 h => ⟨i + 1, hlt, hxs, h⟩)⟩
  · rintro ρ M ⟨i, hi, hx, hI⟩
    have : i = items.length := by
      have := congrArg List.length hx
      simp at this; omega
    subst this
    exact fin ρ M hI
mutual
theorem lf_mem : ∀ t : Tr, good t → ∀ i, 0 ≤ i → i < siz t → (lf t i).1 ∈ lvs t
  | .leaf s, _, i, _, _ => by simp [lf, lvs]
  | .no t, h, i, h0, h1 => lf_mem t h i h0 h1
  | .rep _ t k, h, i, h0, h1 => by
    have := siz_pos t h.2.2
    exact lf_mem t h.2.2 _ (Int.emod_nonneg _ (by omega)) (Int.emod_lt_of_pos _ (by omega))
  | .grp _ l, h, i, h0, h1 => lfs_mem l h.2 i h0 h1
theorem lfs_mem : ∀ l : List Tr, goods l → ∀ i, 0 ≤ i → i < (sizs l).sum → (lfs l i).1 ∈ lvss l
  | [], _, i, h0, h1 => by simp [sizs] at h1; omega
  | t :: l, h, i, h0, h1 => by
    simp only [lfs, lvss]
    simp only [sizs, List.sum_cons] at h1
    split
    · exact List.mem_append.mpr (.inr (lfs_mem l h.2 _ (by omega) (by omega)))
    · exact List.mem_append.mpr (.inl (lf_mem t h.1 i h0 (by omega)))
end
theorem lfs_app : ∀ (done : List Tr) {p : Tr} {rest : List Tr} {i : Int}, goods done → 0 ≤ i → i < siz p → lfs (done ++ p :: rest) ((sizs done).sum + i) = lf p i
  | [], p, rest, i, _, h0, h1 => by
    simp only [List.nil_append, sizs, List.sum_nil, Int.zero_add, lfs]
    rw [if_neg (by omega)]
  | a :: done, p, rest, i, hg, h0, h1 => by
    have := sizs_pos done hg.2
    simp only [List.cons_append, lfs, sizs, List.sum_cons]
    rw [if_pos (by omega), ← lfs_app done hg.2 h0 h1]
    congr 1
    omega
theorem lf_times {b : Bool} {t : Tr} {k i j : Int} (h0 : 0 ≤ i) (h1 : i < siz t) : lf (.rep b t k) (j * siz t + i) = lf t i := by
  simp only [lf]
  rw [Int.add_comm, Int.add_mul_emod_self_right, Int.emod_eq_of_lt h0 h1]
theorem sizs_app : ∀ (l r : List Tr), (sizs (l ++ r)).sum = (sizs l).sum + (sizs r).sum
  | [], r => by simp [sizs]
  | a :: l, r => by simp only [List.cons_append, sizs, List.sum_cons, sizs_app l r]; omega
theorem lvs_ok' {t : Tr} (h : good t) {w : S} (hw : w ∈ lvs t) : StepW w := by
  have key : (∀ t : Tr, good t → ∀ w ∈ lvs t, StepW w) := fun t => by
    refine Tr.rec (motive_1 := fun t => good t → ∀ w ∈ lvs t, StepW w) (motive_2 := fun l => goods l → ∀ w ∈ lvss l, StepW w) ?_ ?_ ?_ ?_ ?_ ?_ t
    · intro s h w hw; rw [List.mem_singleton.mp (show w ∈ [s] from hw)]; exact h
    · intro t ih h w hw; exact ih h w hw
    · intro b t k ih h w hw; exact ih h.2.2 w hw
    · intro b l ih h w hw; exact ih h.2 w hw
    · intro _ w hw; cases hw
    · intro t l ih1 ih2 h w hw; exact (List.mem_append.mp (show w ∈ lvs t ++ lvss l from hw)).elim (ih1 h.1 w) (ih2 h.2 w)
  exact key t h w hw
theorem shaped_strs {ws : List S} (h : ∀ w ∈ ws, StepW w) : SeqAt.shaped (.tuple (ws.map fun w => PyData.str (toS w))) = true := by
  have : PyData.canLayAll0 (ws.map fun w => PyData.str (toS w)) = true ∧ PyData.depthAll (ws.map fun w => PyData.str (toS w)) = 0 := by
    induction ws with
    | nil => exact ⟨rfl, rfl⟩
    | cons w ws ih =>
      obtain ⟨h1, h2⟩ := ih fun x hx => h x (List.mem_cons_of_mem _ hx)
      have h4 := strOk_of (h w (List.mem_cons_self ..)).2.2
      exact ⟨by simp [PyData.canLayAll0, PyData.canLay0, h1, h4], by simp [PyData.depthAll, PyData.depth, h2]⟩
  simp [SeqAt.shaped, PyData.canLay0, PyData.depth, this.1, this.2]
theorem deq_strs {M : Hm} {ws : List S} (h : ∀ w ∈ ws, StepW w) : deq M (.tup (ws.map .str)) (.tup (ws.map .str)) = some true :=
  deq_same (n := 2) (m := 2) (Dat.tup (Dats.strs ws)) (Dat.tup (Dats.strs ws)) (by decide) (by decide) (shaped_strs h)
theorem shaped_encL {p : S × Bool} (h : StepW p.1) : SeqAt.shaped (.tuple [.str (toS p.1), .bool p.2]) = true := by
  have h4 := strOk_of h.2.2
  simp [SeqAt.shaped, PyData.canLay0, PyData.canLayAll0, PyData.depth, PyData.depthAll, h4]
theorem dat_encL {M : Hm} {p : S × Bool} : Dat 2 M (encL p) (.tuple [.str (toS p.1), .bool p.2]) := Dat.tup (.cons .str (.cons .bl .nil))
theorem deq_encL {M : Hm} {p : S × Bool} (h : StepW p.1) : deq M (encL p) (encL p) = some true :=
  deq_same dat_encL dat_encL (by decide) (by decide) (shaped_encL h)
theorem stp_ok {t : Tr} (h : good t) : ∀ w ∈ stp t, StepW w := fun w hw => lvs_ok' h (stp_mem.mp hw)
structure HasLaw (g : G) : Prop where
  cell : g.fn "_law_cell" = some d__law_cell
  pool : g.fn "_law_pool" = some d__law_pool
  draw : g.fn "_law_draw" = some d__law_draw
  words : g.fn "_law_words" = some d__law_words
  often : g.fn "_law_often" = some d__law_often
  tree : g.fn "_law_tree" = some d__law_tree
theorem planNo {t : Tr} (h : PlanOk t) (hd : dep t ≤ 7) : PlanOk (.no t) := ⟨h.good, by simp only [dep]; omega, h.leaves, h.steps⟩
theorem planRep {b : Bool} {t : Tr} {k : Int} (h : PlanOk t) (hd : dep t ≤ 7) (h1 : 1 ≤ k) (h2 : k ≤ 10 ^ 30) : PlanOk (.rep b t k) := ⟨⟨h1, h2, h.good⟩, by simp only [dep]; omega, h.leaves, h.steps⟩
theorem three {a b c : Int} {P : Int → Prop} (ha : P a) (hb : P b) (hc : P c) {i : Nat} {x : D} (h : [D.int a, .int b, .int c][i]? = some x) : ∃ k, x = .int k ∧ P k := by
  match i, h with
  | 0, h => cases h; exact ⟨_, rfl, ha⟩
  | 1, h => cases h; exact ⟨_, rfl, hb⟩
  | 2, h => cases h; exact ⟨_, rfl, hc⟩
  | i + 3, h => simp at h
theorem planPart {b : Bool} {ps : List Tr} (h : PlanOk (.grp b ps)) {i : Nat} {p : Tr} (hp : ps[i]? = some p) : PlanOk p := by
  refine ⟨goods_get h.good.2 hp, Nat.le_trans (deps_get hp) (by have := h.dep; simp only [dep] at this; omega), Nat.le_trans (lvss_get hp) h.leaves, Nat.le_trans (nodup_len (dedup_nodup _) fun x hx => ?_) h.steps⟩
  rw [dedup_mem] at hx ⊢
  have : ∀ (l : List Tr) (i : Nat), l[i]? = some p → x ∈ lvss l := by
    intro l
    induction l with
    | nil => intro i h; simp at h
    | cons a l ih =>
      intro i h
      cases i with
      | zero => cases h; exact List.mem_append.mpr (.inl hx)
      | succ i => exact List.mem_append.mpr (.inr (ih i (by simpa using h)))
  exact this ps i hp
theorem stp_len {t : Tr} (h : PlanOk t) : (stp t).length ≤ 8 := by unfold stp; rw [(ssort_perm _).length_eq]; exact h.steps
end Rp

namespace Rp
open PySem
/-! ## is_plan of any value -/
def wNot : S := [110, 111, 116]
def wAll : S := [97, 108, 108]
def wAny : S := [97, 110, 121]
def wRet : S := [114, 101, 116, 114, 121]
def wRep : S := [114, 101, 112, 101, 97, 116]
def isStepD : D → Bool
  | .str s => decide (1 ≤ s.length) && (decide (s.length ≤ 6) && s.all fun c => decide (c ∈ ABC))
  | _ => false
def isTimesD : D → Bool
  | .int k => decide (1 ≤ k) && decide (k ≤ 1000000000000000000000000000000)
  | _ => false
def innerD : List D → Option (List D)
  | [.str w, x] => if w = wNot then some [x] else if w = wAll ∨ w = wAny then (match x with | .tup ps => if 2 ≤ ps.length then some ps else none | _ => none) else none
  | [.str w, x, y] => if w = wRet ∨ w = wRep then (if isTimesD y then some [x] else none) else none
  | _ => none
def goD (f : D → Option (List S)) : List S → List D → Option (List S)
  | acc, [] => some acc
  | acc, p :: ps => match f p with
    | none => none
    | some ss => if 60 < acc.length + ss.length then none else goD f (acc ++ ss) ps
def strD : D → S | .str s => s | _ => []
def wst : Nat → D → Option (List S)
  | 0, v => if isStepD v then some [strD v] else none
  | k + 1, v => if isStepD v then some [strD v] else match v with
    | .tup l => if 1 ≤ k then (match innerD l with | some ps => goD (wst k) [] ps | none => none) else none
    | _ => none
def isPlanD (v : D) : Bool := match wst 8 v with
  | some ss => decide ((dedup ss).length ≤ 8)
  | none => false
/-- a value that may be asked -/
inductive Wf (M : Hm) : D → Prop
  | non : Wf M .non
  | bl (b : Bool) : Wf M (.bl b)
  | int (i : Int) : Wf M (.int i)
  | str (s : S) (h : s.length ≤ LN) : Wf M (.str s)
  | tup (l : List D) (h : ∀ d ∈ l, Wf M d) (hl : l.length ≤ LN) : Wf M (.tup l)
  | lst (n : Nat) (l : List D) (h : M[n]? = some (.lst l)) : Wf M (.ref n)
  | dct (n : Nat) (ks : List S) (l : List D) (h : M[n]? = some (.sd ks l)) : Wf M (.ref n)
theorem Wf.grow {M M' : Hm} (g : Grow M M') {d : D} (h : Wf M d) : Wf M' d := by
  induction h with
  | non => exact .non
  | bl b => exact .bl b
  | int i => exact .int i
  | str s h => exact .str s h
  | tup l h hl ih => exact .tup l ih hl
  | lst n l h => exact .lst n l (g.get h)
  | dct n ks l h => exact .dct n ks l (g.get h)
variable {g : G}
theorem bls_map : ∀ l : List Bool, bls? (l.map .bl) = some l
  | [] => rfl
  | a :: l => by simp only [List.map_cons, bls?, bls_map l]; rfl
theorem tyD {M : Hm} {n : Nat} {ks : List S} {l : List D} (h : M[n]? = some (.sd ks l)) : tyOf M (.ref n) = some "dict" := by simp only [tyOf, h]
theorem isty_of {M : Hm} {d : D} {n : String} {ts : List String} (h : tyOf M d = some n) : isty M d ts = some (ts.any fun t => istyN n t) := by simp only [isty, h, Option.map_some]
structure HasStep (g : G) : Prop where
  is_step : g.fn "is_step" = some d_is_step
  LETTERS : g.con "LETTERS" = some (.str ABC)
  MOST_LETTERS : g.con "MOST_LETTERS" = some (.int 6)
theorem is_step_anyS (G : HasStep g) {n : Nat} {M : Hm} {v : D} (hn : 0 < n) (hv : Wf M v) : (callF g n "is_step" [v] M).wp fun d M' => d = .bl (isStepD v) ∧ Grow M M' := by
  refine call_wp' G.is_step hn rfl (by decide) ?_
  have hLN : LN = 16777216 := rfl
  cases hv with
  | str s hs =>
    simp! only [d_is_step, G.LETTERS, G.MOST_LETTERS]
    refine ⟨hs, ?_⟩
    by_cases h1 : 1 ≤ s.length
    · have c1 : decide (1 ≤ (s.length : Int)) = true := by simp; omega
      by_cases h2 : s.length ≤ 6
      · have c2 : decide ((s.length : Int) ≤ 6) = true := by simp; omega
        simp only [c1, c2, cnd_true, op_some, if_true]
        refine ⟨by omega, ?_⟩
        rw [evC_none]
        refine comp_wp _ (K := fun i acc M' => M' = M ∧ acc = ((s.take i).map fun c => decide (c ∈ ABC)).map .bl) ⟨rfl, rfl⟩ (fun i x acc M' hx hl ⟨e, ha⟩ => ?_) (by rw [List.length_map]; omega) (fun acc M' hl ⟨e, ha⟩ => ?_)
        · subst e
          refine ⟨rfl, ?_⟩
          rw [List.getElem?_map] at hx
          cases hc : s[i]? with
          | none => rw [hc] at hx; cases hx
          | some c =>
            rw [hc] at hx
            cases hx
            have hin : inS (.str [c]) ABC = some (decide (c ∈ ABC)) := rfl
            simp! only [G.LETTERS, hin]
            rw [List.take_add_one, hc, ha]; simp
        · subst e
          refine ⟨rfl, ?_⟩
          rw [List.length_map, List.take_length] at ha
          rw [lsq_new, Option.bind_some, ha, bls_map, op_some]
          refine ⟨?_, .one⟩
          simp only [isStepD, h1, h2, decide_true, Bool.true_and]
          rw [List.all_map]; rfl
      · have c2 : decide ((s.length : Int) ≤ 6) = false := by simp; omega
        simp only [c1, c2, cnd_true, cnd_false, op_some, if_true, Bool.false_eq_true]
        exact ⟨by simp [isStepD, h2], .refl⟩
    · have c1 : decide (1 ≤ (s.length : Int)) = false := by simp; omega
      simp only [c1, cnd_true, cnd_false, op_some, if_true, Bool.false_eq_true]
      exact ⟨by simp [isStepD, h1], .refl⟩
  | non => simp! only [d_is_step]; exact ⟨rfl, .refl⟩
  | bl b => simp! only [d_is_step]; exact ⟨rfl, .refl⟩
  | int i => simp! only [d_is_step]; exact ⟨rfl, .refl⟩
  | tup l h hl => simp! only [d_is_step]; exact ⟨rfl, .refl⟩
  | lst k l h => simp! only [d_is_step, isty_of (tyL h)]; exact ⟨rfl, .refl⟩
  | dct k ks l h => simp! only [d_is_step, isty_of (tyD h)]; exact ⟨rfl, .refl⟩
theorem is_step_any0 (G : HasPlan0 g) {n : Nat} {M : Hm} {v : D} (hn : 0 < n) (hv : Wf M v) : (callF g n "is_step" [v] M).wp fun d M' => d = .bl (isStepD v) ∧ Grow M M' := is_step_anyS ⟨G.is_step, G.LETTERS, G.MOST_LETTERS⟩ hn hv
theorem is_times_any0 (G : HasPlan0 g) {n : Nat} {M : Hm} {v : D} (hn : 1 < n) (hv : Wf M v) : (callF g n "is_times" [v] M).wp fun d M' => d = .bl (isTimesD v) ∧ Grow M M' := by
  refine call_wp' G.is_times (by omega) rfl (by decide) ?_
  have isI : ∀ b, (∀ M, (exB (callF g (n - 1 - 1)) g d_is_integer.body [some v] M).wp ⟨fun _ M' => False, fun d M' => d = .bl b ∧ M' = M, fun _ _ => False, fun _ _ => False⟩) → ∀ M, (callF g (n - 1) "is_integer" [v] M).wp fun d M' => d = .bl b ∧ M' = M := fun b h M => by
    refine call_wp' G.is_integer (by omega) rfl (by decide) ?_
    exact (h M).mono (fun _ _ h => h.elim) (fun _ _ h => h) (fun _ _ h => h) (fun _ _ h => h)
  simp! only [d_is_times, G.is_integer, G.MOST_TIMES]
  cases hv with
  | int k =>
    refine (isI true (fun M => by simp! only [d_is_integer]) M).mono fun d M1 ⟨e, e1⟩ => ?_
    subst e e1
    simp! only [G.MOST_TIMES, isTimesD]
    refine cnd_by (fun h1 => ?_) fun h1 => ?_
    · rw [h1]; exact ⟨rfl, .refl⟩
    · have : decide (1 ≤ k) = false := by simpa using h1
      rw [this]; exact ⟨rfl, .refl⟩
  | non =>
    refine (isI false (fun M => by simp! only [d_is_integer]) M).mono fun d M1 ⟨e, e1⟩ => ?_
    subst e e1; simp! only []; exact ⟨rfl, .refl⟩
  | bl b =>
    refine (isI false (fun M => by simp! only [d_is_integer]) M).mono fun d M1 ⟨e, e1⟩ => ?_
    subst e e1; simp! only []; exact ⟨rfl, .refl⟩
  | str s h =>
    refine (isI false (fun M => by simp! only [d_is_integer]) M).mono fun d M1 ⟨e, e1⟩ => ?_
    subst e e1; simp! only []; exact ⟨rfl, .refl⟩
  | tup l h hl =>
    refine (isI false (fun M => by simp! only [d_is_integer]) M).mono fun d M1 ⟨e, e1⟩ => ?_
    subst e e1; simp! only []; exact ⟨rfl, .refl⟩
  | lst k l h =>
    refine (call_wp' (Q := fun d M' => d = .bl false ∧ M' = M) G.is_integer (by omega) rfl (by decide) (by simp! only [d_is_integer, isty_of (tyL h)])).mono fun d M1 ⟨e, e1⟩ => ?_
    subst e e1; simp! only []; exact ⟨rfl, .refl⟩
  | dct k ks l h =>
    refine (call_wp' (Q := fun d M' => d = .bl false ∧ M' = M) G.is_integer (by omega) rfl (by decide) (by simp! only [d_is_integer, isty_of (tyD h)])).mono fun d M1 ⟨e, e1⟩ => ?_
    subst e e1; simp! only []; exact ⟨rfl, .refl⟩

theorem fq {a b : S} : feq (.str a) (.str b) = (a == b) := rfl
theorem isStr {M : Hm} {d : D} (h : Wf M d) : (∃ s, d = .str s ∧ s.length ≤ LN) ∨ isty M d ["str"] = some false := by
  cases h with
  | str s h => exact .inl ⟨s, rfl, h⟩
  | non => exact .inr rfl
  | bl b => exact .inr rfl
  | int b => exact .inr rfl
  | tup l h hl => exact .inr rfl
  | lst k l h => exact .inr (by rw [isty_of (tyL h)]; decide)
  | dct k ks l h => exact .inr (by rw [isty_of (tyD h)]; decide)
theorem isTup {M : Hm} {d : D} (h : Wf M d) : (∃ l, d = .tup l ∧ (∀ x ∈ l, Wf M x) ∧ l.length ≤ LN) ∨ (isty M d ["tuple"] = some false ∧ ∀ l, d ≠ .tup l) := by
  cases h with
  | tup l h hl => exact .inl ⟨l, rfl, h, hl⟩
  | non => exact .inr ⟨rfl, nofun⟩
  | bl b => exact .inr ⟨rfl, nofun⟩
  | int b => exact .inr ⟨rfl, nofun⟩
  | str l h => exact .inr ⟨rfl, nofun⟩
  | lst k l h => exact .inr ⟨by rw [isty_of (tyL h)]; decide, nofun⟩
  | dct k ks l h => exact .inr ⟨by rw [isty_of (tyD h)]; decide, nofun⟩
def optD : Option (List D) → D
  | some l => .tup l
  | none => .non
theorem innerD_ne {l : List D} (h : l.length ≠ 2) (h' : l.length ≠ 3) : innerD l = none := by
  unfold innerD
  split
  · exact absurd rfl h
  · exact absurd rfl h'
  · rfl
theorem inner_any0 (G : HasPlan0 g) {n : Nat} {M : Hm} {l : List D} (hn : 2 < n) (hv : ∀ d ∈ l, Wf M d) (hl : l.length ≤ LN) : (callF g n "inner_values" [.tup l] M).wp fun d M' => d = optD (innerD l) ∧ Grow M M' := by
  refine call_wp' G.inner_values (by omega) rfl (by decide) ?_
  have len3 : ∀ k : Nat, k ≤ 1 ∨ 4 ≤ k → l.length = k → (callF g n "inner_values" [.tup l] M).wp fun d M' => d = optD (innerD l) ∧ Grow M M' := fun k hk e => by
    rw [innerD_ne (by omega) (by omega)]
    refine call_wp' G.inner_values (by omega) rfl (by decide) ?_
    simp! only [d_inner_values, e]
    refine cnd_by (fun h => ?_) fun h => ?_
    · have : decide ((k : Int) ≤ 3) = false := by simp at h ⊢; omega
      simp! only [this]
      exact ⟨rfl, .refl⟩
    · exact ⟨rfl, .refl⟩
  have back : (callF g n "inner_values" [.tup l] M).wp (fun d M' => d = optD (innerD l) ∧ Grow M M') → (exB (callF g (n - 1)) g d_inner_values.body (List.map some [D.tup l] ++ List.replicate (d_inner_values.slots - [D.tup l].length) none) M).wp ⟨fun _ M' => D.non = optD (innerD l) ∧ Grow M M', fun d M' => d = optD (innerD l) ∧ Grow M M', fun _ _ => False, fun _ _ => False⟩ := fun h => by
    obtain ⟨m, rfl⟩ : ∃ m, n = m + 1 := ⟨n - 1, by omega⟩
    rw [callF_succ g m _ _ M G.inner_values, if_pos ⟨rfl, by decide⟩] at h
    revert h
    rw [Nat.add_sub_cancel]
    generalize exB (callF g m) g d_inner_values.body _ M = x
    intro h
    cases x <;> first | exact h | exact h.elim
  match l, hv, hl, len3, back with
  | [], _, _, len3, back => exact back (len3 0 (by omega) rfl)
  | [a], _, _, len3, back => exact back (len3 1 (by omega) rfl)
  | a :: b :: c :: d :: r, _, _, len3, back => exact back (len3 _ (.inr (by simp)) rfl)
  | [a, x], hv, _, _, _ =>
    rcases isStr (hv a (by simp)) with ⟨w, rfl, hw⟩ | h
    · simp! only [d_inner_values, fq]
      by_cases h1 : w = wNot
      · subst h1
        simp! only [wNot]
        exact ⟨rfl, .refl⟩
      have e1 : (w == [110, 111, 116]) = false := by simpa [wNot] using h1
      by_cases h2 : w = wRet ∨ w = wRep
      · have e2 : ((w == [114, 101, 116, 114, 121]) || (w == [114, 101, 112, 101, 97, 116])) = true := by simpa [wRet, wRep] using h2
        simp! only [e1, e2]
        refine ⟨?_, .refl⟩
        have : ¬ (w = wAll ∨ w = wAny) := by rcases h2 with rfl | rfl <;> decide
        simp [innerD, h1, this, optD]
      have e2 : ((w == [114, 101, 116, 114, 121]) || (w == [114, 101, 112, 101, 97, 116])) = false := by simpa [wRet, wRep] using h2
      by_cases h3 : w = wAll ∨ w = wAny
      · have e3 : ((w == [97, 108, 108]) || (w == [97, 110, 121])) = true := by simpa [wAll, wAny] using h3
        simp! only [e1, e2, e3]
        rcases isTup (hv x (by simp)) with ⟨ps, rfl, hps, _⟩ | ⟨h, hx⟩
        · simp! only []
          by_cases hp : 2 ≤ ps.length
          · have : decide (2 ≤ (ps.length : Int)) = true := by simp; omega
            simp! only [this]
            refine ⟨?_, .refl⟩
            simp [innerD, h1, h3, hp, optD]
          · have : decide (2 ≤ (ps.length : Int)) = false := by simp; omega
            simp! only [this]
            refine ⟨?_, .refl⟩
            simp [innerD, h1, h3, hp, optD]
        · simp! only [h]
          refine ⟨?_, .refl⟩
          simp only [innerD, h1, h3, if_true, if_false]
          cases x <;> first | rfl | exact absurd rfl (hx _)
      · have e3 : ((w == [97, 108, 108]) || (w == [97, 110, 121])) = false := by simpa [wAll, wAny] using h3
        simp! only [e1, e2, e3]
        refine ⟨?_, .refl⟩
        simp [innerD, h1, h3, optD]
    · simp! only [d_inner_values, h]
      refine ⟨?_, .refl⟩
      cases a <;> first | rfl | (simp [isty, tyOf, istyN] at h)
  | [a, x, y], hv, _, _, _ =>
    rcases isStr (hv a (by simp)) with ⟨w, rfl, hw⟩ | h
    · simp! only [d_inner_values, fq]
      by_cases h1 : w = wNot
      · subst h1
        simp! only [wNot]
        exact ⟨rfl, .refl⟩
      have e1 : (w == [110, 111, 116]) = false := by simpa [wNot] using h1
      by_cases h2 : w = wRet ∨ w = wRep
      · have e2 : ((w == [114, 101, 116, 114, 121]) || (w == [114, 101, 112, 101, 97, 116])) = true := by simpa [wRet, wRep] using h2
        simp! only [e1, e2, G.is_times]
        refine (is_times_any0 G (by omega) (hv y (by simp))).mono fun d M1 ⟨e, g1⟩ => ?_
        subst e
        cases ht : isTimesD y with
        | true =>
          simp! only []
          refine ⟨?_, g1⟩
          simp only [innerD, h2, ht, if_true, optD]; rfl
        | false =>
          simp! only []
          refine ⟨?_, g1⟩
          simp [innerD, h2, ht, optD]
      have e2 : ((w == [114, 101, 116, 114, 121]) || (w == [114, 101, 112, 101, 97, 116])) = false := by simpa [wRet, wRep] using h2
      have hI : innerD [.str w, x, y] = none := by simp [innerD, h2]
      rw [hI]
      by_cases h3 : w = wAll ∨ w = wAny
      · have e3 : ((w == [97, 108, 108]) || (w == [97, 110, 121])) = true := by simpa [wAll, wAny] using h3
        simp! only [e1, e2, e3]
        exact ⟨rfl, .refl⟩
      · have e3 : ((w == [97, 108, 108]) || (w == [97, 110, 121])) = false := by simpa [wAll, wAny] using h3
        simp! only [e1, e2, e3]
        exact ⟨rfl, .refl⟩
    · simp! only [d_inner_values, h]
      refine ⟨?_, .refl⟩
      cases a <;> first | rfl | (simp [isty, tyOf, istyN] at h)
theorem innerD_wf {M : Hm} {l ps : List D} (hv : ∀ d ∈ l, Wf M d) (h : innerD l = some ps) : ∀ d ∈ ps, Wf M d := by
  unfold innerD at h
  split at h
  · next w x =>
    split at h
    · cases h; intro d hd; rw [List.mem_singleton.mp hd]; exact hv x (by simp)
    · split at h
      · split at h
        · split at h
          · cases h
            have := hv (.tup ps) (by simp)
            cases this with
            | tup _ h _ => exact h
          · cases h
        · cases h
      · cases h
  · next w x y =>
    split at h
    · split at h
      · cases h; intro d hd; rw [List.mem_singleton.mp hd]; exact hv x (by simp)
      · cases h
    · cases h
  · cases h
/-- what written_steps gives -/
def stepsR (M M' : Hm) (d : D) : Option (List S) → Prop
  | some ss => ∃ q, d = .ref q ∧ M'[q]? = some (.lst (ss.map .str)) ∧ M.length ≤ q ∧ ss.length ≤ 60
  | none => d = .non
theorem written_any0 (G : HasPlan0 g) : ∀ (k : Nat) (v : D) (n : Nat) (M : Hm), Wf M v → 1 ≤ k → k + 3 ≤ n → (callF g n "written_steps" [v, .int k] M).wp fun d M' => stepsR M M' d (wst k v) ∧ Grow M M' := by
  intro k
  induction k with
  | zero => intro v n M _ h; omega
  | succ k ih =>
    intro v n M hv _ hn
    refine call_wp' G.written_steps (by omega) rfl (by decide) ?_
    have hLN : LN = 16777216 := rfl
    simp! only [d_written_steps, G.is_step]
    refine (is_step_any0 G (by omega) hv).mono fun d M1 ⟨e, g1⟩ => ?_
    subst e
    cases hs : isStepD v with
    | true =>
      simp! only []
      have hw : wst (k + 1) v = some [strD v] := by simp only [wst, hs, if_true]
      have hv' : v = .str (strD v) := by cases v <;> first | rfl | (simp [isStepD] at hs)
      rw [hw]
      refine ⟨by decide, ⟨_, rfl, ?_, g1.len, by simp⟩, g1.trans .one⟩
      rw [len_new]
      simp only [List.map_cons, List.map_nil, ← hv']
    | false =>
      simp! only []
      have none_case : wst (k + 1) v = none → stepsR M M1 .non (wst (k + 1) v) ∧ Grow M M1 := fun h => by rw [h]; exact ⟨rfl, g1⟩
      rcases isTup (hv.grow g1) with ⟨l, rfl, hl, hll⟩ | ⟨h, hx⟩
      · simp! only []
        by_cases hk : 1 ≤ k
        · have c1 : decide ((1 : Int) < ((k + 1 : Nat) : Int)) = true := by simp; omega
          simp! only [c1, G.inner_values]
          refine (inner_any0 G (by omega) hl hll).mono fun d M2 ⟨e, g2⟩ => ?_
          subst e
          have hw : wst (k + 1) (.tup l) = match innerD l with | some ps => goD (wst k) [] ps | none => none := by simp only [wst, hs, hk, if_true]; rfl
          have gB := g1.trans g2
          cases hI : innerD l with
          | none =>
            rw [hI] at hw
            simp! only [optD]
            rw [hw]
            exact ⟨rfl, gB⟩
          | some ps =>
            rw [hI] at hw
            rw [hw]
            have hps := innerD_wf hl hI
            simp! only [optD, reduceCtorEq]
            refine ⟨by omega, ?_⟩
            refine loop_wp (inv := fun xs ρ M3 => ∃ (acc : List S) (a b : Option D), (∀ p ∈ xs, Wf M2 p) ∧ goD (wst k) [] ps = goD (wst k) acc xs ∧ acc.length ≤ 60 ∧ ρ = [some (.tup l), some (.int (k + 1 : Nat)), some (.tup ps), some (.ref M2.length), a, b] ∧ M3[M2.length]? = some (.lst (acc.map .str)) ∧ Grow M2 M3)
              ?_ ?_ _ _ _ ⟨[], none, none, fun p hp => (hps p hp).grow g2, rfl, by simp, rfl, len_new, .one⟩
            · rintro x xs ρ M3 ⟨acc, a, b, hx, hgo, hacc, rfl, hs3, gr⟩
              refine ⟨rfl, ?_⟩
              simp! only [G.written_steps]
              rw [show ((k + 1 : Nat) : Int) - 1 = (k : Nat) by omega]
              refine (ih x (n - 1) M3 ((hx x (by simp)).grow gr) hk (by omega)).mono fun d M4 ⟨e, g4⟩ => ?_
              simp only [goD] at hgo
              cases hw' : wst k x with
              | none =>
                rw [hw'] at e hgo
                have e : d = .non := e
                subst e
                simp! only []
                rw [hgo]
                exact ⟨rfl, gB.trans (gr.trans g4)⟩
              | some ss =>
                rw [hw'] at e hgo
                obtain ⟨q, e, hq, hql, hqs⟩ := e
                subst e
                have hs4 := g4.get hs3
                simp! only [tyL hs4, hs4, hq, get_set hs4, reduceCtorEq, Option.bind_some, olen, G.MOST_WRITTEN, List.length_append, List.length_map]
                refine ⟨by omega, cnd_by (fun h => ?_) fun h => ?_⟩
                · have h : 60 < acc.length + ss.length := by have := of_decide_eq_true h; omega
                  have hgo : goD (wst k) [] ps = none := by rw [hgo]; exact if_pos h
                  rw [hgo]
                  exact ⟨rfl, gB.trans ((gr.trans g4).set (Nat.le_refl _))⟩
                · have h : ¬ 60 < acc.length + ss.length := fun z => h (decide_eq_true (by omega))
                  have hgo : goD (wst k) [] ps = goD (wst k) (acc ++ ss) xs := by rw [hgo]; exact if_neg h
                  exact ⟨acc ++ ss, _, _, fun p hp => hx p (List.mem_cons_of_mem _ hp), hgo, by rw [List.length_append]; omega, rfl, by rw [List.map_append], (gr.trans g4).set (Nat.le_refl _)⟩
            · rintro ρ M3 ⟨acc, a, b, hx, hgo, hacc, rfl, hs3, gr⟩
              refine ⟨rfl, ?_⟩
              simp! only []
              rw [hgo]
              exact ⟨⟨_, rfl, hs3, gB.len, hacc⟩, gB.trans gr⟩
        · have c1 : decide ((1 : Int) < ((k + 1 : Nat) : Int)) = false := by simp; omega
          simp! only [c1]
          exact none_case (by simp [wst, hs, hk])
      · simp! only [h]
        refine none_case ?_
        simp only [wst, hs]
        cases v <;> first | rfl | exact absurd rfl (hx _)

theorem is_plan_any0 (G : HasPlan0 g) {n : Nat} {M : Hm} {v : D} (hn : 13 ≤ n) (hv : Wf M v) : (callF g n "is_plan" [v] M).wp fun d M' => d = .bl (isPlanD v) ∧ Grow M M' := by
  refine call_wp' G.is_plan (by omega) rfl (by decide) ?_
  simp! only [d_is_plan, G.written_steps, G.MOST_NESTED]
  refine (written_any0 G 8 v (n - 1) M hv (by decide) (by omega)).mono fun d M1 ⟨e, gr⟩ => ?_
  cases hw : wst 8 v with
  | none =>
    rw [hw] at e
    have e : d = .non := e
    subst e
    simp! only [isPlanD, hw]
    exact gr
  | some ss =>
    rw [hw] at e
    obtain ⟨q, e, hq, _, hss⟩ := e
    subst e
    have hs : seq? M1 (.ref q) = some (ss.map .str) := by simp only [seq?, hq]
    simp! only [reduceCtorEq, hs, Option.bind_some, strs_map, len_new, olen, G.MOST_STEPS, List.length_map, isPlanD, hw]
    refine ⟨by omega, ?_, gr.trans .one⟩
    congr 1
    rw [decide_eq_decide]
    omega
theorem is_step_any (G : HasPlan g) {n : Nat} {M : Hm} {v : D} (hn : 0 < n) (hv : Wf M v) : (callF g n "is_step" [v] M).wp fun d M' => d = .bl (isStepD v) ∧ Grow M M' := is_step_any0 G.toHasPlan0 hn hv
theorem is_plan_any (G : HasPlan g) {n : Nat} {M : Hm} {v : D} (hn : 13 ≤ n) (hv : Wf M v) : (callF g n "is_plan" [v] M).wp fun d M' => d = .bl (isPlanD v) ∧ Grow M M' := is_plan_any0 G.toHasPlan0 hn hv
end Rp

local macro_rules | `(tactic| dsimp! only [$xs,*] $[$loc]?) => `(tactic| simp only [↓Rp.e_non, ↓Rp.e_bl, ↓Rp.e_int, ↓Rp.e_str, ↓Rp.e_var, ↓Rp.e_glo, ↓Rp.e_bin, ↓Rp.e_neg, ↓Rp.e_not, ↓Rp.e_cmp, ↓Rp.e_cmp2, ↓Rp.e_and, ↓Rp.e_or, ↓Rp.e_ife, ↓Rp.e_tup, ↓Rp.e_lst, ↓Rp.e_sub, ↓Rp.e_sl, ↓Rp.e_call, ↓Rp.e_calk, ↓Rp.e_bi, ↓Rp.e_isi, ↓Rp.e_me, ↓Rp.e_cpy, ↓Rp.e_bdd, ↓Rp.e_bcp, ↓Rp.e_lrg, ↓Rp.e_sdd, ↓Rp.e_tupd, ↓Rp.e_rev, ↓Rp.e_lc, ↓Rp.e_sc2, ↓Rp.e_esnil, ↓Rp.e_escons, ↓Rp.e_onone, ↓Rp.e_osome, ↓Rp.e_cnone, ↓Rp.e_csome, ↓Rp.e_iex, ↓Rp.e_irng1, ↓Rp.e_irng2, ↓Rp.e_ienum, ↓Rp.e_izip, ↓Rp.e_tname, ↓Rp.e_ttup, ↓Rp.e_tsub, ↓Rp.e_tsnil, ↓Rp.e_tscons, ↓Rp.e_bnil, ↓Rp.e_bcons, ↓Rp.e_asg, ↓Rp.e_augs, ↓Rp.e_getoop, ↓Rp.e_aug, ↓Rp.e_ex, ↓Rp.e_ret, ↓Rp.e_retn, ↓Rp.e_pass, ↓Rp.e_brk, ↓Rp.e_ct, ↓Rp.e_ite, ↓Rp.e_for, ↓Rp.e_while, ↓Rp.e_mat, ↓Rp.e_mnil, ↓Rp.e_mcons, ↓Rp.e_addI, ↓Rp.e_addS, ↓Rp.e_addT, ↓Rp.e_addL, ↓Rp.e_subI, ↓Rp.e_mulI, ↓Rp.e_mulL, ↓Rp.e_mulT, ↓Rp.e_fdiv, ↓Rp.e_mod, ↓Rp.e_pow, ↓Rp.e_augA, ↓Rp.e_augS, ↓Rp.e_augT, ↓Rp.e_ltI, ↓Rp.e_leI, ↓Rp.e_gtI, ↓Rp.e_geI, ↓Rp.e_eq, ↓Rp.e_ne, ↓Rp.e_is, ↓Rp.e_isnot, ↓Rp.e_isB2, ↓Rp.e_isnotB2, ↓Rp.e_inS, ↓Rp.e_ninS, ↓Rp.e_inR, ↓Rp.e_inT, ↓Rp.e_ninR, ↓Rp.e_ninT, ↓Rp.e_subD, ↓Rp.e_subS, ↓Rp.e_subT, ↓Rp.e_subR, ↓Rp.e_subB, ↓Rp.e_subBd, ↓Rp.e_subSd, ↓Rp.e_subL, ↓Rp.e_slS, ↓Rp.e_slT, ↓Rp.e_slR, ↓Rp.e_slL, ↓Rp.e_stoop, ↓Rp.e_stoopB, ↓Rp.e_bi1, ↓Rp.e_bi2, ↓Rp.e_lenS, ↓Rp.e_lenT, ↓Rp.e_lenR, ↓Rp.e_lenL, ↓Rp.e_dictB, ↓Rp.e_dictR, ↓Rp.e_abs, ↓Rp.e_sum, ↓Rp.e_all, ↓Rp.e_any, ↓Rp.e_max, ↓Rp.e_min, ↓Rp.e_sorted, ↓Rp.e_set, ↓Rp.e_list, ↓Rp.e_tuple, ↓Rp.e_str1, ↓Rp.e_int1, ↓Rp.e_int2, ↓Rp.e_listxS, ↓Rp.e_listxT, ↓Rp.e_reprd, ↓Rp.e_repr, ↓Rp.e_max2, ↓Rp.e_min2, ↓Rp.e_divmod, ↓Rp.e_append, ↓Rp.e_extend, ↓Rp.e_join, ↓Rp.e_mget, ↓Rp.e_mgetS, ↓Rp.e_mgetI, ↓Rp.e_count, ↓Rp.e_mcount, ↓Rp.e_mapp, ↓Rp.e_mext, ↓Rp.e_mextT, ↓Rp.e_mjoin, ↓Rp.e_itT, ↓Rp.e_itR, ↓Rp.e_itS, ↓Rp.e_itL, ↓Rp.e_itG, ↓Rp.e_itE, ↓Rp.e_itET, ↓Rp.e_itZT, ↓Rp.e_itZL, ↓Rp.e_tN, ↓Rp.e_tB, ↓Rp.e_tI, ↓Rp.e_tS, ↓Rp.e_tT, ↓Rp.e_tR, ↓Rp.e_tL, ↓Rp.e_asI, ↓Rp.e_asB, ↓Rp.e_asT, ↓Rp.e_asTL, ↓Rp.e_tyN, ↓Rp.e_tyB, ↓Rp.e_tyI, ↓Rp.e_tyS, ↓Rp.e_tyT, ↓Rp.e_tyR, ↓Rp.e_isN, ↓Rp.e_isB, ↓Rp.e_isI, ↓Rp.e_isS, ↓Rp.e_isT, ↓Rp.e_isR, Rp.lk_some, Rp.op_some, Rp.lkL_some, Rp.lkB_some, Rp.lkS_some, Rp.bdO_t, Rp.bdO_f, Rp.cnd_true, Rp.cnd_false, List.getElem?_cons_zero, List.getElem?_cons_succ, List.length_cons, List.length_nil, List.set_cons_zero, List.set_cons_succ, List.cons_append, List.nil_append, List.append_nil, List.map_cons, List.map_nil, List.replicate_succ, List.replicate_zero, Nat.reduceSub, Nat.reduceAdd, Nat.reduceLT, true_and, and_true, true_or, or_true, Option.isSome_some, Bool.not_true, Bool.not_false, Bool.false_eq_true, Rp.a_0, Rp.a_1, Rp.a_2, Rp.a_3, Rp.x_30, Rp.x_31, Rp.x_32, Rp.x_20, Rp.x_21, Rp.Tgs.len, Rp.Tgs.slots, Rp.Tg.slots, Rp.wipe, $xs,*] $[$loc]?)
namespace Rp
def ownL : List S := [[97, 108, 108], [97, 110, 121], [110, 111, 116], [114, 101, 116, 114, 121], [114, 101, 112, 101, 97, 116], [112, 108, 97, 110], [111, 107], [102, 97, 105, 108]]
def ownF (f s k : Nat) : S := ownL.getD ((f + s * k) % 8) [97]
def letF (f s k : Nat) : Nat := 97 + (f + s * k) % 26
def insF (stem : S) (u : Int) (y : S) : S := cut stem none (some u) ++ y ++ cut stem (some u) none
structure WordsOk (ws : List S) : Prop where
  nodup : ws.Nodup
  kind : (∀ w ∈ ws, w ∈ ownL) ∨ ∃ L, ∀ w ∈ ws, w.length = L
theorem pick4' (r : Int) (h0 : 0 ≤ r) (h1 : r < 4) : ∃ s : Int, at? [D.int 1, .int 3, .int 5, .int 7] r = some (.int s) ∧ 0 < s ∧ s < 8 ∧ s.toNat ∈ [1, 3, 5, 7] := by
  have : r = 0 ∨ r = 1 ∨ r = 2 ∨ r = 3 := by omega
  rcases this with rfl | rfl | rfl | rfl
  · exact ⟨1, rfl, by decide, by decide, by decide⟩
  · exact ⟨3, rfl, by decide, by decide, by decide⟩
  · exact ⟨5, rfl, by decide, by decide, by decide⟩
  · exact ⟨7, rfl, by decide, by decide, by decide⟩
theorem own_atF {f s : Int} (f0 : 0 ≤ f) (s0 : 0 ≤ s) (i : Nat) : at? [D.str [97, 108, 108], D.str [97, 110, 121], D.str [110, 111, 116], D.str [114, 101, 116, 114, 121], D.str [114, 101, 112, 101, 97, 116], D.str [112, 108, 97, 110], D.str [111, 107], D.str [102, 97, 105, 108]] ((f + s * (i : Int)) % 8) = some (.str (ownF f.toNat s.toNat i)) := by
  obtain ⟨f, rfl⟩ := Int.eq_ofNat_of_zero_le f0
  obtain ⟨s, rfl⟩ := Int.eq_ofNat_of_zero_le s0
  have e : ((f : Int) + (s : Int) * (i : Int)) % 8 = (((f + s * i) % 8 : Nat) : Int) := by push_cast; rfl
  rw [e, at_nat (by simp; omega)]
  unfold ownF
  simp only [Int.toNat_natCast]
  generalize hk : (f + s * i) % 8 = k
  have hk8 : k < 8 := by omega
  have all : ∀ k : Fin 8, [D.str [97, 108, 108], D.str [97, 110, 121], D.str [110, 111, 116], D.str [114, 101, 116, 114, 121], D.str [114, 101, 112, 101, 97, 116], D.str [112, 108, 97, 110], D.str [111, 107], D.str [102, 97, 105, 108]][k.1]? = some (.str (ownL.getD k.1 [97])) := by decide
  exact all ⟨k, hk8⟩
theorem abc_atF {f s : Int} (f0 : 0 ≤ f) (s0 : 0 ≤ s) (i : Nat) : at? [97, 98, 99, 100, 101, 102, 103, 104, 105, 106, 107, 108, 109, 110, 111, 112, 113, 114, 115, 116, 117, 118, 119, 120, 121, 122] ((f + s * (i : Int)) % 26) = some (letF f.toNat s.toNat i) := by
  obtain ⟨f, rfl⟩ := Int.eq_ofNat_of_zero_le f0
  obtain ⟨s, rfl⟩ := Int.eq_ofNat_of_zero_le s0
  have e : ((f : Int) + (s : Int) * (i : Int)) % 26 = (((f + s * i) % 26 : Nat) : Int) := by push_cast; rfl
  rw [e, at_nat (by simp; omega)]
  unfold letF
  simp only [Int.toNat_natCast]
  generalize hk : (f + s * i) % 26 = k
  have hk8 : k < 26 := by omega
  have all : ∀ k : Fin 26, [97, 98, 99, 100, 101, 102, 103, 104, 105, 106, 107, 108, 109, 110, 111, 112, 113, 114, 115, 116, 117, 118, 119, 120, 121, 122][k.1]? = some (97 + k.1) := by decide
  exact all ⟨k, hk8⟩
theorem ownF_ok (f s k : Nat) : StepW (ownF f s k) ∧ ownF f s k ∈ ownL := by
  unfold ownF
  have hk : (f + s * k) % 8 < 8 := Nat.mod_lt _ (by decide)
  generalize (f + s * k) % 8 = j at hk
  have all : ∀ k : Fin 8, StepW (ownL.getD k.1 [97]) ∧ ownL.getD k.1 [97] ∈ ownL := by unfold StepW; decide
  exact all ⟨j, hk⟩
theorem nodup_range {α : Type} (F : Nat → α) {n m : Nat} (h : n ≤ m) (k : ((List.range m).map F).Nodup) : ((List.range n).map F).Nodup := by
  have e : List.range n = (List.range m).take n := by rw [List.take_range, Nat.min_eq_left h]
  rw [e, List.map_take]
  exact k.sublist (List.take_sublist _ _)
theorem own_nodup {f s n : Nat} (hf : f < 8) (hs : s ∈ [1, 3, 5, 7]) (hn : n ≤ 8) : ((List.range n).map (ownF f s)).Nodup := by
  refine nodup_range _ hn ?_
  have all : ∀ f : Fin 8, ∀ s ∈ [1, 3, 5, 7], ((List.range 8).map (ownF f.1 s)).Nodup := by decide +kernel
  exact all ⟨f, hf⟩ s hs
theorem let_nodup {f s n : Nat} (hf : f < 26) (hs : s ∈ [1, 3, 5, 7]) (hn : n ≤ 8) : ((List.range n).map fun k => [letF f s k]).Nodup := by
  refine nodup_range _ hn ?_
  have all : ∀ f : Fin 26, ∀ s ∈ [1, 3, 5, 7], ((List.range 8).map fun k => [letF f.1 s k]).Nodup := by decide +kernel
  exact all ⟨f, hf⟩ s hs
theorem insF_inj {stem : S} {u : Int} {x y : S} (e : insF stem u x = insF stem u y) : x = y := by
  unfold insF at e
  exact List.append_cancel_left (List.append_cancel_right e)
theorem insF_len {stem : S} {u : Int} {c : Nat} (h0 : 0 ≤ u) (h1 : u < stem.length + 1) : (insF stem u [c]).length = stem.length + 1 := by
  obtain ⟨k, rfl⟩ := Int.eq_ofNat_of_zero_le h0
  unfold insF
  rw [cut_to (by omega), cut_from (by omega)]
  simp; omega
theorem words_full {g : G} (h : g.fn "_law_words" = some d__law_words) (hd : g.fn "_law_draw" = some d__law_draw) {n : Nat} {M : Hm} {p m : Nat} {many : Int} (hp : Pool M p m) (hm : 0 < many) (hm2 : many ≤ 8) (hmm : m < 900000000000) :
    (callF g (n + 2) "_law_words" [.ref p, .int many] M).wp fun d M' => ∃ (q : Nat) (ws : List S), d = .ref q ∧ M'[q]? = some (.lst (ws.map .str)) ∧ ws.length = many.toNat ∧ (∀ w ∈ ws, StepW w) ∧ WordsOk ws ∧ Pool M' p (m + 11) ∧ Ext p M M' ∧ M.length ≤ q := by
  refine call_wp h rfl (by decide) ?_
  have hpl := hp.lt
  have oa := own_at
  generalize hown : [D.str [97, 108, 108], D.str [97, 110, 121], D.str [110, 111, 116], D.str [114, 101, 116, 114, 121], D.str [114, 101, 112, 101, 97, 116], D.str [112, 108, 97, 110], D.str [111, 107], D.str [102, 97, 105, 108]] = own at oa
  dsimp! only [d__law_words, hd, hown]
  have ho : own.length = 8 := by rw [← hown]; rfl
  refine ⟨by rw [ho]; decide, by decide, ?_⟩
  have g1 : Grow M (M ++ [O.lst own]) := .one
  have g2 : Grow M (M ++ [O.lst own] ++ [.lst [.int 1, .int 3, .int 5, .int 7]]) := g1.trans .one
  have lq : (M ++ [O.lst own]).length = M.length + 1 := by simp
  refine (draw_ext hd (hp.grow g2) (by decide) (by decide) (by omega)).mono fun d M2 ⟨r, e, r0, r1, p2, x2, l2⟩ => ?_
  subst e
  have q2 : M2[(M ++ [O.lst own]).length]? = some (.lst [.int 1, .int 3, .int 5, .int 7]) := x2.get len_new (by omega)
  have o2 : M2[M.length]? = some (.lst own) := x2.get (Grow.one.get len_new) (by omega)
  obtain ⟨s, hs, s0, s1, hs4⟩ := pick4' r r0 r1
  simp only [e_subL, q2, lkL_some, hs, op_some]
  refine (draw_ext hd p2 (by decide) (by decide) (by omega)).mono fun d M3 ⟨f, e, f0, f1, p3, x3, l3⟩ => ?_
  subst e
  refine (draw_ext hd p3 (by decide) (by decide) (by omega)).mono fun d M4 ⟨b, e, b0, b1, p4, x4, l4⟩ => ?_
  subst e
  have o4 : M4[M.length]? = some (.lst own) := x4.get (x3.get o2 (by omega)) (by omega)
  have x04 : Ext p M M4 := g2.ext.trans (x2.trans (x3.trans x4))
  have ml : M.length ≤ M4.length := x04.1
  have bs : bits s ≤ 5 := bits_le (by omega) (by omega)
  have hk : ((many - 0).toNat) = many.toNat := by simp
  have hln : many.toNat ≤ LN := by have : LN = 16777216 := rfl; omega
  have hH : HALF = 4611686018427387904 := rfl
  simp only [deqI, op_some]
  refine cnd_by (fun _ => ?_) fun _ => ?_
  · refine ⟨by omega, ?_⟩
    rw [evC_none, hk]
    refine comp_wp _ (K := fun i acc M' => M' = M4 ∧ acc = ((List.range i).map (ownF f.toNat s.toNat)).map .str) ⟨rfl, rfl⟩ (fun i x acc M' hx hl ⟨e, hT⟩ => ?_) (by rw [rng_len]; exact hln) (fun acc M' hl ⟨e, hT⟩ => ?_)
    · subst e
      obtain ⟨rfl, hi⟩ := rng_at hx
      refine ⟨rfl, ?_⟩
      have bi : bits (i : Int) ≤ 10 := bits_le (by omega) (by omega)
      dsimp! only [o4]
      have hw : at? own ((f + s * (i : Int)) % 8) = some (.str (ownF f.toNat s.toNat i)) := by
        rw [← hown]
        exact own_atF f0 (Int.le_of_lt s0) i
      refine ⟨by omega, by decide, ?_⟩
      rw [hw, op_some, hT]
      rw [List.range_succ, List.map_append, List.map_append]; rfl
    · subst e
      rw [rng_len] at hT
      generalize hzs : (List.range many.toNat).map (ownF f.toNat s.toNat) = zs at hT
      have hzl : zs.length = many.toNat := by rw [← hzs]; simp
      have h1 : ∀ w ∈ zs, StepW w ∧ w ∈ ownL := fun w hw => by
        rw [← hzs] at hw
        obtain ⟨k, _, rfl⟩ := List.mem_map.mp hw
        exact ownF_ok _ _ _
      have hnd : zs.Nodup := by rw [← hzs]; exact own_nodup (by omega) hs4 (by omega)
      subst hT
      refine ⟨rfl, ?_⟩
      rw [bag_new, Option.bind_some, strs_map, op_some]
      refine ⟨by omega, _, ssort zs, rfl, len_new, by rw [(ssort_perm zs).length_eq, hzl], ssort_all fun w hw => (h1 w hw).1, ⟨(ssort_perm zs).nodup_iff.mpr hnd, .inl fun w hw => (h1 w ((ssort_perm zs).mem_iff.mp hw)).2⟩, (p4.grow (Grow.one.trans .one)).le (by omega), x04.trans (Grow.one.trans .one).ext, by simp; omega⟩
  · refine (draw_ext hd p4 (by decide) (by decide) (by omega)).mono fun d M5 ⟨k, e, k0, k1, p5, x5, l5⟩ => ?_
    subst e
    simp only [e_asI]
    refine ⟨by omega, ?_⟩
    rw [evC_none]
    have hk5 : (k - 0).toNat = k.toNat := by simp
    rw [hk5]
    refine comp_wp _ (K := Texts p (m + 4) M5 fun w => ∃ c, w = [c] ∧ 97 ≤ c ∧ c ≤ 122) ⟨[], rfl, (fun _ h => by cases h), p5, .refl⟩ (fun i x acc M' hx hl hT => ?_) (by rw [rng_len]; have : LN = 16777216 := rfl; omega) (fun acc M6 hl hT => ?_)
    · obtain ⟨rfl, hi⟩ := rng_at hx
      refine ⟨rfl, ?_⟩
      dsimp! only [hd]
      obtain ⟨zs, _, _, pT, _⟩ := id hT
      refine (draw_ext hd pT (by decide) (by decide) (by omega)).mono fun d M7 ⟨c, e, c0, c1, p7, x7, l7⟩ => ?_
      subst e
      obtain ⟨ch, hc, hc1, hc2⟩ := abc_at c c0 c1
      simp only [e_subS]
      refine ⟨by decide, ?_⟩
      rw [hc, op_some]
      exact hT.snoc ⟨ch, rfl, hc1, hc2⟩ p7 x7
    · obtain ⟨zs, rfl, h1, h2, h3⟩ := hT
      rw [rng_len, List.length_map] at hl
      rw [rng_len] at h2
      refine ⟨rfl, ?_⟩
      rw [seq_new, Option.bind_some, strs_map, op_some, joined_nil]
      obtain ⟨fl, fs, fa⟩ := flat_len (k := 0) zs h1
      generalize hst : zs.flatten = stem at fl fa ⊢
      have hLN : LN = 16777216 := rfl
      have hk6 : k.toNat < 6 := by omega
      refine ⟨by rw [fs]; omega, by omega, ?_⟩
      have p6 : Pool (M6 ++ [O.lst (zs.map D.str)]) p (m + 9) := (h2.grow .one).le (by omega)
      refine (draw_ext hd p6 (by omega) (by have : bits ((stem.length : Int) + 1) ≤ 5 := bits_le (by omega) (by omega); omega) (by omega)).mono fun d M7 ⟨u, e, u0, u1, p7, x7, l7⟩ => ?_
      subst e
      refine (draw_ext hd p7 (by decide) (by decide) (by omega)).mono fun d M8 ⟨v, e, v0, v1, p8, x8, l8⟩ => ?_
      subst e
      refine ⟨by decide, by omega, ?_⟩
      have x08 : Ext p M M8 := x04.trans (x5.trans (h3.trans (Grow.one.ext.trans (x7.trans x8))))
      have ml8 : M.length ≤ M8.length := x08.1
      rw [hk]
      refine comp_wp _ (K := fun i acc M' => M' = M8 ∧ acc = ((List.range i).map fun k => [letF v.toNat s.toNat k]).map .str) ⟨rfl, rfl⟩ (fun i x acc M' hx hl' ⟨e, ey⟩ => ?_) (by rw [rng_len]; exact hln) (fun acc M' hl' ⟨e, ey⟩ => ?_)
      · subst e ey
        obtain ⟨rfl, hi⟩ := rng_at hx
        refine ⟨rfl, ?_⟩
        have bi : bits (i : Int) ≤ 10 := bits_le (by omega) (by omega)
        dsimp! only []
        have hc := abc_atF v0 (Int.le_of_lt s0) i
        refine ⟨by omega, by decide, by decide, ?_⟩
        rw [hc, op_some]
        rw [List.range_succ, List.map_append, List.map_append]; rfl
      · rw [rng_len] at ey
        generalize hys : (List.range many.toNat).map (fun k => [letF v.toNat s.toNat k]) = ys at ey
        have hyl : ys.length = many.toNat := by rw [← hys]; simp
        have hy : ∀ w ∈ ys, ∃ c, w = [c] ∧ 97 ≤ c ∧ c ≤ 122 := fun w hw => by
          rw [← hys] at hw
          obtain ⟨k, _, rfl⟩ := List.mem_map.mp hw
          exact ⟨_, rfl, by unfold letF; omega, by unfold letF; omega⟩
        have hyn : ys.Nodup := by rw [← hys]; exact let_nodup (by omega) hs4 (by omega)
        subst e ey
        refine ⟨rfl, ?_⟩
        simp only [e_itL, len_new, lkL_some]
        have hok : It.ok ⟨ys.map D.str, [(M'.length, .lst (ys.map D.str))]⟩ (M' ++ [.lst (ys.map D.str)]) = true := by simp [It.ok]
        refine comp_wp _ (K := fun i acc M9 => M9 = M' ++ [.lst (ys.map D.str)] ∧ acc = ((ys.take i).map (insF stem u)).map .str) ⟨rfl, rfl⟩ (fun i x acc M9 hx hl9 ⟨e, eu⟩ => ?_) (by rw [List.length_map]; omega) (fun acc M9 hl9 ⟨e, eu⟩ => ?_)
        · subst e eu
          refine ⟨hok, ?_⟩
          rw [List.getElem?_map] at hx
          cases hyi : ys[i]? with
          | none => rw [hyi] at hx; cases hx
          | some y =>
            rw [hyi] at hx
            cases hx
            obtain ⟨c, rfl, c1, c2⟩ := hy y (List.mem_of_getElem? hyi)
            obtain ⟨t1, t2, t3, t4⟩ := cut_step u0 (by simpa using u1) (by omega) fa c1 c2
            dsimp! only []
            refine ⟨by omega, by omega, by omega, by rw [List.length_append]; simp only [List.length_cons, List.length_nil]; omega, by rw [List.take_add_one, hyi, List.map_append, List.map_append]; rfl⟩
        · rw [List.length_map, List.take_length] at eu
          generalize hus : ys.map (insF stem u) = us at eu
          have hul : us.length = many.toNat := by rw [← hus, List.length_map, hyl]
          have hu : ∀ w ∈ us, StepW w ∧ w.length = stem.length + 1 := fun w hw => by
            rw [← hus] at hw
            obtain ⟨y, hy', rfl⟩ := List.mem_map.mp hw
            obtain ⟨c, rfl, c1, c2⟩ := hy y hy'
            exact ⟨(cut_step u0 (by simpa using u1) (by omega) fa c1 c2).2.2.2, insF_len u0 (by simpa using u1)⟩
          have hun : us.Nodup := by
            rw [← hus]
            exact List.pairwise_map.mpr (hyn.imp fun h e => h (insF_inj e))
          subst e eu
          refine ⟨hok, ?_⟩
          rw [bag_new, Option.bind_some, strs_map, op_some]
          refine ⟨by omega, _, ssort us, rfl, len_new, by rw [(ssort_perm us).length_eq, hul], ssort_all fun w hw => (hu w hw).1, ⟨(ssort_perm us).nodup_iff.mpr hun, .inr ⟨stem.length + 1, fun w hw => (hu w ((ssort_perm us).mem_iff.mp hw)).2⟩⟩, (p8.grow (Grow.one.trans (Grow.one.trans .one))).le (by omega), x08.trans (Grow.one.trans (Grow.one.trans .one)).ext, by simp; omega⟩
/-! ## is_plan of what is written like a plan -/
theorem isStepD_iff {s : S} : isStepD (.str s) = true ↔ StepW s := by
  unfold isStepD StepW
  simp only [Bool.and_eq_true, decide_eq_true_eq, List.all_eq_true, abc_mem]
theorem innerD_enc {t : Tr} (hg : good t) (hl : ∀ s, t ≠ .leaf s) : ∃ l, enc t = .tup l ∧ innerD l = some (encs t.parts) := by
  cases t with
  | leaf s => exact absurd rfl (hl s)
  | no t => exact ⟨_, rfl, rfl⟩
  | rep b t k =>
    refine ⟨_, rfl, ?_⟩
    have h1 : decide (1 ≤ k) = true := by simpa using hg.1
    have h2 : decide (k ≤ 1000000000000000000000000000000) = true := by simpa using hg.2.1
    cases b <;> simp [innerD, repW, wRet, wRep, isTimesD, h1, h2, Tr.parts, encs]
    all_goals exact ⟨of_decide_eq_true h1, of_decide_eq_true h2⟩
  | grp b l =>
    refine ⟨_, rfl, ?_⟩
    have h1 : 2 ≤ (encs l).length := by rw [encs_len]; exact hg.1
    cases b <;> simp [innerD, grpW, wNot, wAll, wAny, h1, Tr.parts]
theorem goD_encs {k : Nat} (ih : ∀ t, good t → wst k (enc t) = if dep t ≤ k ∧ (lvs t).length ≤ 60 then some (lvs t) else none) : ∀ (ps : List Tr) (acc : List S), goods ps → acc.length ≤ 60 →
    goD (wst k) acc (encs ps) = if deps ps ≤ k ∧ acc.length + (lvss ps).length ≤ 60 then some (acc ++ lvss ps) else none
  | [], acc, _, h => by simp [encs, goD, deps, lvss, h]
  | t :: ps, acc, hg, h => by
    simp only [encs, goD, ih t hg.1]
    by_cases h1 : dep t ≤ k ∧ (lvs t).length ≤ 60
    · rw [if_pos h1]
      by_cases h2 : 60 < acc.length + (lvs t).length
      · simp only [h2, if_true]
        rw [if_neg]
        rintro ⟨_, h3⟩
        simp only [lvss, List.length_append] at h3
        omega
      · simp only [h2, if_false]
        rw [goD_encs ih ps (acc ++ lvs t) hg.2 (by rw [List.length_append]; omega)]
        simp only [deps, lvss, List.length_append, List.append_assoc]
        have : (deps ps ≤ k ∧ acc.length + (lvs t).length + (lvss ps).length ≤ 60) ↔ (max (dep t) (deps ps) ≤ k ∧ acc.length + ((lvs t).length + (lvss ps).length) ≤ 60) := by omega
        simp only [this]
    · rw [if_neg h1]
      simp only
      rw [if_neg]
      rintro ⟨h2, h3⟩
      simp only [deps, lvss, List.length_append] at h2 h3
      omega
theorem dep_pos (t : Tr) : 1 ≤ dep t := by cases t <;> simp [dep]
theorem wst_enc : ∀ (k : Nat) (t : Tr), 1 ≤ k → good t → wst k (enc t) = if dep t ≤ k ∧ (lvs t).length ≤ 60 then some (lvs t) else none := by
  intro k
  induction k with
  | zero => intro t h; omega
  | succ k ih =>
    intro t _ hg
    by_cases hl : ∃ s, t = .leaf s
    · obtain ⟨s, rfl⟩ := hl
      have : isStepD (.str s) = true := isStepD_iff.mpr hg
      simp [enc, wst, this, strD, dep, lvs]
    · have hl' : ∀ s, t ≠ .leaf s := fun s e => hl ⟨s, e⟩
      obtain ⟨l, e, hi⟩ := innerD_enc hg hl'
      have hd := deps_parts hl'
      have hlv := lvss_parts hl'
      rw [e]
      have h0 : wst (k + 1) (.tup l) = if 1 ≤ k then goD (wst k) [] (encs t.parts) else none := by
        simp only [wst, isStepD, hi, Bool.false_eq_true, if_false]
      rw [h0]
      by_cases hk : 1 ≤ k
      · rw [if_pos hk, goD_encs (fun t h => ih t hk h) t.parts [] (goods_parts hg) (by simp), hlv, ← hd]
        simp
      · rw [if_neg hk, if_neg]
        rintro ⟨h2, _⟩
        have : 1 ≤ deps t.parts := by
          cases hp : t.parts with
          | nil => cases t with
            | leaf s => exact absurd rfl (hl' s)
            | grp b l => have h2 := hg.1; simp [Tr.parts] at hp; rw [hp] at h2; simp at h2
            | _ => simp [Tr.parts] at hp
          | cons a r => simp only [deps]; have := dep_pos a; omega
        omega
theorem isPlan_good {t : Tr} (hg : good t) : isPlanD (enc t) = decide (dep t ≤ 8 ∧ (lvs t).length ≤ 60 ∧ (dedup (lvs t)).length ≤ 8) := by
  unfold isPlanD
  rw [wst_enc 8 t (by decide) hg]
  by_cases h : dep t ≤ 8 ∧ (lvs t).length ≤ 60
  · rw [if_pos h]
    simp [h.1, h.2]
  · rw [if_neg h]
    symm
    simp only [decide_eq_false_iff_not]
    exact fun z => h ⟨z.1, z.2.1⟩
mutual
theorem wf_enc {M : Hm} : ∀ t : Tr, good t → (lvs t).length ≤ LN → Wf M (enc t)
  | .leaf s, h, _ => .str s (by have := h.2.1; have : LN = 16777216 := rfl; omega)
  | .no t, h, hl => .tup _ (fun d hd => by
      rcases List.mem_cons.mp hd with rfl | hd
      · exact .str _ (by decide)
      · rw [List.mem_singleton.mp hd]; exact wf_enc t h hl) (by show 2 ≤ LN; decide)
  | .rep b t k, h, hl => .tup _ (fun d hd => by
      rcases List.mem_cons.mp hd with rfl | hd
      · exact .str _ (by cases b <;> decide)
      · rcases List.mem_cons.mp hd with rfl | hd
        · exact wf_enc t h.2.2 hl
        · rw [List.mem_singleton.mp hd]; exact .int k) (by show 3 ≤ LN; decide)
  | .grp b l, h, hl => .tup _ (fun d hd => by
      rcases List.mem_cons.mp hd with rfl | hd
      · exact .str _ (by cases b <;> decide)
      · rw [List.mem_singleton.mp hd]
        have := lvss_pos0 l h.2
        exact .tup _ (wfs_enc l h.2 hl) (by rw [encs_len]; simp only [lvs] at hl; omega)) (by show 2 ≤ LN; decide)
theorem wfs_enc {M : Hm} : ∀ l : List Tr, goods l → (lvss l).length ≤ LN → ∀ d ∈ encs l, Wf M d
  | [], _, _, d, hd => by cases hd
  | t :: l, h, hl, d, hd => by
    simp only [lvss, List.length_append] at hl
    rcases List.mem_cons.mp (show d ∈ enc t :: encs l from hd) with rfl | hd
    · exact wf_enc t h.1 (by omega)
    · exact wfs_enc l h.2 (by omega) d hd
end
theorem is_plan_good {g : G} (G : HasPlan g) {n : Nat} {M : Hm} {t : Tr} (hn : 13 ≤ n) (hg : good t) (hl : (lvs t).length ≤ LN) : (callF g n "is_plan" [enc t] M).wp fun d M' => d = .bl (decide (dep t ≤ 8 ∧ (lvs t).length ≤ 60 ∧ (dedup (lvs t)).length ≤ 8)) ∧ Grow M M' := by
  rw [← isPlan_good hg]
  exact is_plan_any G hn (wf_enc t hg hl)
end Rp

namespace Rp
open PySem PySem.Spec PyProof.Rows
/-! ## data that may be shown -/
mutual
def Nice : PyData → Prop
  | .none => True
  | .bool _ => True
  | .int i => bits i ≤ 1900
  | .str s => ∃ w : S, s = toS w ∧ ∀ c ∈ w, 97 ≤ c ∧ c ≤ 122
  | .list xs => Nices xs
  | .tuple xs => Nices xs
  | .dict _ => False
def Nices : List PyData → Prop
  | [] => True
  | x :: xs => Nice x ∧ Nices xs
end
mutual
def wtP : PyData → Nat
  | .none => 4
  | .bool _ => 5
  | .int i => bits i + 2
  | .str s => 4 * s.length + 2
  | .list xs => wtPs xs + 3
  | .tuple xs => wtPs xs + 3
  | .dict _ => 0
def wtPs : List PyData → Nat
  | [] => 0
  | x :: xs => wtP x + 2 + wtPs xs
end
theorem toS_len (w : S) : (toS w).length = w.length := by simp [toS, Str.length]
mutual
theorem nice_ok : ∀ p : PyData, Nice p → p.showable = true ∧ p.canLay0 = true ∧ p.shown.length ≤ wtP p
  | .none, _ => ⟨rfl, rfl, by show (4 : Nat) ≤ 4; decide⟩
  | .bool b, _ => ⟨rfl, rfl, by cases b <;> decide⟩
  | .int i, h => ⟨by simp only [PyData.showable, decide_eq_true_eq]; have h : bits i ≤ 1900 := h; unfold bits at h; omega, rfl, int_len (Nat.le_refl _)⟩
  | .str s, ⟨w, e, h⟩ => by subst e; exact ⟨rfl, strOk_of h, by have := text_len h; simp only [PyData.shown, wtP, toS_len]; exact this⟩
  | .list xs, h => by
    obtain ⟨h1, h2, h3⟩ := nices_ok xs h
    exact ⟨by simp only [PyData.showable, h1], by simp only [PyData.canLay0, h2], by have := list_len (PyData.shownAll xs); simp only [PyData.shown, wtP]; omega⟩
  | .tuple xs, h => by
    obtain ⟨h1, h2, h3⟩ := nices_ok xs h
    exact ⟨by simp only [PyData.showable, h1], by simp only [PyData.canLay0, h2], by have := tup_len (PyData.shownAll xs); simp only [PyData.shown, wtP]; omega⟩
  | .dict _, h => h.elim
theorem nices_ok : ∀ xs : List PyData, Nices xs → PyData.showableAll xs = true ∧ PyData.canLayAll0 xs = true ∧ piled (PyData.shownAll xs) ≤ wtPs xs
  | [], _ => ⟨rfl, rfl, Nat.le_refl _⟩
  | x :: xs, h => by
    obtain ⟨h1, h2, h3⟩ := nice_ok x h.1
    obtain ⟨h4, h5, h6⟩ := nices_ok xs h.2
    refine ⟨by simp [PyData.showableAll, h1, h4], by simp [PyData.canLayAll0, h2, h5], ?_⟩
    simp only [PyData.shownAll, piled_cons, wtPs]; omega
end
theorem RpOk.of {p : PyData} (h : Nice p) (hd : p.depth ≤ 64) (hw : wtP p ≤ 16000000) : RpOk p := by
  obtain ⟨h1, h2, h3⟩ := nice_ok p h
  have hLN : LN = 16777216 := rfl
  unfold RpOk SeqAt.shaped
  rw [h1, h2, decide_eq_true hd, decide_eq_true (by omega)]; rfl
theorem shaped_of {p : PyData} (h : Nice p) (hd : p.depth ≤ 64) : SeqAt.shaped p = true := by
  obtain ⟨h1, h2, h3⟩ := nice_ok p h
  unfold SeqAt.shaped
  rw [h2, decide_eq_true hd]; rfl
mutual
theorem nice_pdT : ∀ t : Tr, good t → Nice (pdT t)
  | .leaf s, h => ⟨s, rfl, h.2.2⟩
  | .no t, h => ⟨⟨[110, 111, 116], rfl, by decide⟩, nice_pdT t h, trivial⟩
  | .rep b t k, h => ⟨⟨repW b, rfl, by cases b <;> decide⟩, nice_pdT t h.2.2, by
      have : bits k ≤ 110 := bits_le (by have := h.1; omega) (Int.lt_of_le_of_lt h.2.1 (by decide))
      show bits k ≤ 1900; omega, trivial⟩
  | .grp b l, h => ⟨⟨grpW b, rfl, by cases b <;> decide⟩, nices_pdT l h.2, trivial⟩
theorem nices_pdT : ∀ l : List Tr, goods l → Nices (pdTs l)
  | [], _ => trivial
  | t :: l, h => ⟨nice_pdT t h.1, nices_pdT l h.2⟩
end
theorem wt_word {w : S} (h : w.length ≤ 6) : wtP (.str (toS w)) ≤ 26 := by simp only [wtP, toS_len]; omega
mutual
theorem wt_pdT : ∀ t : Tr, good t → wtP (pdT t) ≤ 200 * ((lvs t).length * dep t)
  | .leaf s, h => by
    have := wt_word h.2.1
    simp only [pdT, lvs, dep, List.length_singleton]
    omega
  | .no t, h => by
    have h1 := wt_pdT t h
    have h2 := lvs_pos0 t h
    have h4 : wtP (.str (toS [110, 111, 116])) ≤ 26 := wt_word (by decide)
    simp only [pdT, lvs, dep]
    simp only [wtP, wtPs, Nat.mul_add] at h4 ⊢
    omega
  | .rep b t k, h => by
    have h1 := wt_pdT t h.2.2
    have h2 := lvs_pos0 t h.2.2
    have h4 : wtP (.str (toS (repW b))) ≤ 26 := wt_word (by cases b <;> decide)
    have h5 : bits k ≤ 110 := bits_le (by have := h.1; omega) (Int.lt_of_le_of_lt h.2.1 (by decide))
    simp only [pdT, lvs, dep]
    simp only [wtP, wtPs, Nat.mul_add] at h4 ⊢
    omega
  | .grp b l, h => by
    have h1 := wts_pdT l h.2
    have h2 := lvss_pos0 l h.2
    have h0 := h.1
    have h4 : wtP (.str (toS (grpW b))) ≤ 26 := wt_word (by cases b <;> decide)
    simp only [pdT, lvs, dep]
    simp only [wtP, wtPs, Nat.mul_add] at h1 h4 ⊢
    omega
theorem wts_pdT : ∀ l : List Tr, goods l → wtPs (pdTs l) ≤ 200 * ((lvss l).length * deps l) + 2 * l.length
  | [], _ => by simp [pdTs, wtPs]
  | t :: l, h => by
    have h1 := wt_pdT t h.1
    have h2 := wts_pdT l h.2
    have e1 : (lvs t).length * dep t ≤ (lvs t).length * max (dep t) (deps l) := Nat.mul_le_mul_left _ (by omega)
    have e2 : (lvss l).length * deps l ≤ (lvss l).length * max (dep t) (deps l) := Nat.mul_le_mul_left _ (by omega)
    simp only [pdTs, wtPs, lvss, deps, List.length_append, List.length_cons, Nat.add_mul]
    omega
end
theorem deq_enc {M : Hm} {t : Tr} (h : PlanOk t) : deq M (enc t) (enc t) = some true := by
  have hd := h.dep
  obtain ⟨_, _, h3⟩ := pdT_ok t h.good
  exact deq_same (n := 64) (m := 64) (Dat.enc (by omega)) (Dat.enc (by omega)) (by decide) (by decide) (shaped_of (nice_pdT t h.good) (by omega))
theorem nice_encL {p : S × Bool} (h : StepW p.1) : Nice (.tuple [.str (toS p.1), .bool p.2]) := ⟨⟨p.1, rfl, h.2.2⟩, trivial, trivial⟩
theorem feq_str {s : S} : feq (.str s) (.str s) = true := by simp [feq]
theorem encs_leaf : ∀ us : List S, encs (us.map .leaf) = us.map .str
  | [] => rfl
  | u :: us => by simp [encs, enc, encs_leaf us]
theorem lvss_leaf : ∀ us : List S, lvss (us.map .leaf) = us
  | [] => rfl
  | u :: us => by simp [lvss, lvs, lvss_leaf us]
theorem sizs_leaf : ∀ us : List S, (sizs (us.map .leaf)).sum = us.length
  | [] => rfl
  | u :: us => by simp [sizs, siz, sizs_leaf us]; omega
theorem deps_leaf : ∀ us : List S, deps (us.map .leaf) ≤ 1
  | [] => by simp [deps]
  | u :: us => by have := deps_leaf us; simp only [List.map_cons, deps, dep]; omega
theorem goods_leaf : ∀ us : List S, (∀ w ∈ us, StepW w) → goods (us.map .leaf)
  | [], _ => trivial
  | u :: us, h => ⟨h u (by simp), goods_leaf us fun w hw => h w (by simp [hw])⟩
theorem grp_leaves {bb : Bool} {us : List S} (h2 : 2 ≤ us.length) (hok : ∀ w ∈ us, StepW w) : good (.grp bb (us.map .leaf)) ∧ dep (.grp bb (us.map .leaf)) ≤ 2 ∧ lvs (.grp bb (us.map .leaf)) = us ∧ enc (.grp bb (us.map .leaf)) = .tup [.str (grpW bb), .tup (us.map .str)] :=
  ⟨⟨by rw [List.length_map]; exact h2, goods_leaf us hok⟩, by have := deps_leaf us; simp only [dep]; omega, lvss_leaf us, by simp only [enc, encs_leaf]⟩
theorem two_at {a b : D} {r : Int} (h0 : 0 ≤ r) (h1 : r < 2) : at? [a, b] r = some (if r = 0 then a else b) := by
  have : r = 0 ∨ r = 1 := by omega
  rcases this with rfl | rfl <;> rfl
theorem grp_plan {bb : Bool} {ws : List S} (h2 : 2 ≤ ws.length) (h8 : ws.length ≤ 8) (hok : ∀ w ∈ ws, StepW w) : PlanOk (.grp bb (ws.map .leaf)) := by
  obtain ⟨k1, k2, k3, k4⟩ := grp_leaves (bb := bb) h2 hok
  exact ⟨k1, by omega, by rw [k3]; omega, by rw [k3]; exact Nat.le_trans (nodup_len (dedup_nodup _) fun x hx => dedup_mem.mp hx) h8⟩
def P3 (p : S × Bool) : PyData := .list [.tuple [.str (toS p.1), .bool p.2], .tuple [.str (toS p.1), .bool p.2], .tuple [.str (toS p.1), .bool p.2]]
theorem P3_ok {p : S × Bool} (h : StepW p.1) : RpOk (P3 p) := by
  have h1 := nice_encL h
  have hw := wt_word h.2.1
  refine .of ⟨h1, h1, h1, trivial⟩ (by simp [P3, PyData.depth, PyData.depthAll]) ?_
  simp only [P3, wtP, wtPs] at hw ⊢
  omega
theorem P3_dat {M : Hm} {q : Nat} {p : S × Bool} (h : M[q]? = some (.lst [encL p, encL p, encL p])) : pd M FUEL (.ref q) = some (P3 p) :=
  (Dat.lst (n := 2) h (.cons dat_encL (.cons dat_encL (.cons dat_encL .nil)))).fuel (by decide)
theorem stepA {c : Nat} (h : 97 ≤ c ∧ c ≤ 122) : StepW [c] := ⟨by simp, by simp, fun x hx => by rw [List.mem_singleton.mp hx]; exact h⟩
theorem leaf_ok {c : Nat} (h : 97 ≤ c ∧ c ≤ 122) : PlanOk (.leaf [c]) := ⟨stepA h, by simp [dep], by simp [lvs], by simp [lvs, dedup]⟩
end Rp

namespace Rp
open PySem
/-! ## how values are shown -/
/-- k = 0: without references, 1: with a list, 2: with a dict -/
def Sh0 (k n : Nat) (M : Hm) (d : D) (p : PyData) (w : Nat) : Prop :=
  (∀ m, n < m → (k ≠ 2 → pd M m d = some p) ∧ (k ≠ 1 → pdD M m d = some p) ∧ dr M m d = decide (k = 2)) ∧ (k ≠ 2 → p.canLay0 = true) ∧ p.showable = true ∧ p.depth ≤ n ∧ p.shown.length ≤ w
def Sh (P k n : Nat) (M : Hm) (d : D) (p : PyData) (w : Nat) : Prop := ∀ M', Ext P M M' → Sh0 k n M' d p w
def Shs0 (k n : Nat) (M : Hm) (l : List D) (ps : List PyData) (w : Nat) : Prop :=
  (∀ m, n < m → (k ≠ 2 → pds M m l = some ps) ∧ (k ≠ 1 → pdDs M m l = some ps) ∧ drs M m l = decide (k = 2)) ∧ (k ≠ 2 → PyData.canLayAll0 ps = true) ∧ PyData.showableAll ps = true ∧ PyData.depthAll ps ≤ n ∧ piled (PyData.shownAll ps) ≤ w
def Shs (P k n : Nat) (M : Hm) (l : List D) (ps : List PyData) (w : Nat) : Prop := ∀ M', Ext P M M' → Shs0 k n M' l ps w
variable {P : Nat}
theorem Sh.grow {k n : Nat} {M M' : Hm} {d : D} {p : PyData} {w : Nat} (h : Sh P k n M d p w) (g : Ext P M M') : Sh P k n M' d p w := fun M2 g2 => h M2 (g.trans g2)
theorem Shs.grow {k n : Nat} {M M' : Hm} {d : List D} {p : List PyData} {w : Nat} (h : Shs P k n M d p w) (g : Ext P M M') : Shs P k n M' d p w := fun M2 g2 => h M2 (g.trans g2)
theorem Sh.le {k n n' : Nat} {M : Hm} {d : D} {p : PyData} {w w' : Nat} (h : Sh P k n M d p w) (hn : n ≤ n') (hw : w ≤ w') : Sh P k n' M d p w' := fun M2 g2 => by
  obtain ⟨a, b, c, d, e⟩ := h M2 g2
  exact ⟨fun m hm => a m (by omega), b, c, by omega, by omega⟩
theorem Shs.nil {n : Nat} {M : Hm} : Shs P 0 n M [] [] 0 := fun M' _ => ⟨fun m _ => ⟨fun _ => by simp only [pds], fun _ => by simp only [pdDs], by simp only [drs]; rfl⟩, fun _ => rfl, rfl, Nat.zero_le _, Nat.le_refl _⟩
theorem Shs.cons {k j n : Nat} {M : Hm} {d : D} {l : List D} {p : PyData} {ps : List PyData} {w w' : Nat} (h : Sh P k n M d p w) (t : Shs P j n M l ps w') (hkj : k = 0 ∨ j = 0) (hk : k ≤ 2) (hj : j ≤ 2) : Shs P (k + j) n M (d :: l) (p :: ps) (w + 2 + w') := fun M' g => by
  obtain ⟨a, b, c, e, f⟩ := h M' g
  obtain ⟨a', b', c', e', f'⟩ := t M' g
  refine ⟨fun m hm => ?_, fun hne => ?_, by simp [PyData.showableAll, c, c'], by simp only [PyData.depthAll]; omega, by simp only [PyData.shownAll, piled_cons]; omega⟩
  · obtain ⟨a1, a2, a3⟩ := a m hm
    obtain ⟨b1, b2, b3⟩ := a' m hm
    refine ⟨fun hne => ?_, fun hne => ?_, ?_⟩
    · simp only [pds, a1 (by omega), b1 (by omega)]
    · simp only [pdDs, a2 (by omega), b2 (by omega)]
    · simp only [drs, a3, b3]
      rcases hkj with rfl | rfl <;> simp
  · simp only [PyData.canLayAll0, b (by omega), b' (by omega), Bool.and_self]
theorem Sh.tup {k n : Nat} {M : Hm} {l : List D} {ps : List PyData} {w : Nat} (h : Shs P k n M l ps w) : Sh P k (n + 1) M (.tup l) (.tuple ps) (w + 3) := fun M' g => by
  obtain ⟨a, b, c, e, f⟩ := h M' g
  refine ⟨fun m hm => ?_, fun hne => by simpa only [PyData.canLay0] using b hne, by simpa only [PyData.showable] using c, by simp only [PyData.depth]; omega, by have := tup_len (PyData.shownAll ps); simp only [PyData.shown]; omega⟩
  obtain ⟨m, rfl⟩ : ∃ j, m = j + 1 := ⟨m - 1, by omega⟩
  obtain ⟨a1, a2, a3⟩ := a m (by omega)
  exact ⟨fun hne => by simp only [pd, a1 hne, Option.map_some], fun hne => by simp only [pdD, a2 hne, Option.map_some], by simp only [dr, a3]⟩
theorem Sh.lst {n : Nat} {M : Hm} {q : Nat} {l : List D} {ps : List PyData} {w : Nat} (hq : M[q]? = some (.lst l)) (hP : q ≠ P) (h : Shs P 0 n M l ps w) : Sh P 1 (n + 1) M (.ref q) (.list ps) (w + 3) := fun M' g => by
  obtain ⟨a, b, c, e, f⟩ := h M' g
  have hq' := g.get hq hP
  refine ⟨fun m hm => ?_, fun hne => by simpa only [PyData.canLay0] using b (by decide), by simpa only [PyData.showable] using c, by simp only [PyData.depth]; omega, by have := list_len (PyData.shownAll ps); simp only [PyData.shown]; omega⟩
  obtain ⟨m, rfl⟩ : ∃ j, m = j + 1 := ⟨m - 1, by omega⟩
  obtain ⟨a1, a2, a3⟩ := a m (by omega)
  exact ⟨fun hne => by simp only [pd, hq', a1 (by decide), Option.map_some], fun hne => absurd rfl hne, by simp only [dr, hq']; rfl⟩
theorem Sh.dct {n : Nat} {M : Hm} {q : Nat} (hq : M[q]? = some (.sd [] [])) (hP : q ≠ P) : Sh P 2 (n + 1) M (.ref q) (.dict []) 2 := fun M' g => by
  have hq' := g.get hq hP
  refine ⟨fun m hm => ?_, fun hne => absurd rfl hne, rfl, by simp [PyData.depth, PyData.depthKv], by decide⟩
  obtain ⟨m, rfl⟩ : ∃ j, m = j + 1 := ⟨m - 1, by omega⟩
  exact ⟨fun hne => absurd rfl hne, fun hne => by simp only [pdD, hq'], by simp only [dr, hq']; rfl⟩
/-- such a value may be shown -/
theorem Sh.shown {k n : Nat} {M : Hm} {d : D} {p : PyData} {w : Nat} (h : Sh P k n M d p w) (hn : n ≤ 60) (hw : w ≤ 16000000) : ∀ M', Ext P M M' → pdX M' d = some p ∧ (p.showable && decide (p.shown.length ≤ LN)) = true := fun M' g => by
  have hLN : LN = 16777216 := rfl
  obtain ⟨a, b, c, e, f⟩ := h M' g
  obtain ⟨a1, a2, a3⟩ := a FUEL (by unfold FUEL; omega)
  refine ⟨?_, by rw [c, decide_eq_true (by omega)]; rfl⟩
  unfold pdX
  rw [a3]
  by_cases hk : k = 2
  · rw [if_pos (decide_eq_true hk), a2 (by omega)]
    simp only []
    rw [if_pos (by omega)]
  · rw [if_neg (by simp [hk]), a1 hk]
    simp only []
    rw [if_pos]
    unfold SeqAt.shaped
    rw [b hk, decide_eq_true (by omega)]; rfl
/-! values without references -/
mutual
def wv : D → Nat
  | .non => 4
  | .bl _ => 5
  | .int i => bits i + 2
  | .str s => 4 * s.length + 2
  | .tup l => wvs l + 3
  | _ => 0
def wvs : List D → Nat
  | [] => 0
  | x :: l => wv x + 2 + wvs l
end
mutual
def dv : D → Nat
  | .tup l => dvs l + 1
  | _ => 0
def dvs : List D → Nat
  | [] => 0
  | x :: l => max (dv x) (dvs l)
end
mutual
def plb : D → Bool
  | .non => true
  | .bl _ => true
  | .int i => decide (bits i ≤ 1900)
  | .str s => PyData.canLay0 (.str (toS s)) && decide ((PyData.str (toS s)).shown.length ≤ 4 * s.length + 2)
  | .tup l => plbs l
  | _ => false
def plbs : List D → Bool
  | [] => true
  | x :: l => plb x && plbs l
end
theorem plbs_mem : ∀ {l : List D}, plbs l = true → ∀ x ∈ l, plb x = true
  | x :: l, h, y, hy => by
    simp only [plbs, Bool.and_eq_true] at h
    rcases List.mem_cons.mp hy with rfl | hy
    · exact h.1
    · exact plbs_mem h.2 y hy
mutual
theorem pl_sh : ∀ (d : D), plb d = true → ∃ p, ∀ M, Sh P 0 (dv d) M d p (wv d)
  | .non, _ => ⟨.none, fun M M' _ => ⟨fun m hm => by obtain ⟨m, rfl⟩ : ∃ j, m = j + 1 := ⟨m - 1, by omega⟩; exact ⟨fun _ => by simp only [pd], fun _ => by simp only [pdD], by simp only [dr]; rfl⟩, fun _ => rfl, rfl, Nat.zero_le _, by decide⟩⟩
  | .bl b, _ => ⟨.bool b, fun M M' _ => ⟨fun m hm => by obtain ⟨m, rfl⟩ : ∃ j, m = j + 1 := ⟨m - 1, by omega⟩; exact ⟨fun _ => by simp only [pd], fun _ => by simp only [pdD], by simp only [dr]; rfl⟩, fun _ => rfl, rfl, Nat.zero_le _, by cases b <;> decide⟩⟩
  | .int i, h => by
    have h : bits i ≤ 1900 := of_decide_eq_true h
    exact ⟨.int i, fun M M' _ => ⟨fun m hm => by obtain ⟨m, rfl⟩ : ∃ j, m = j + 1 := ⟨m - 1, by omega⟩; exact ⟨fun _ => by simp only [pd], fun _ => by simp only [pdD], by simp only [dr]; rfl⟩, fun _ => rfl, by simp only [PyData.showable, decide_eq_true_eq]; unfold bits at h; omega, Nat.zero_le _, int_len (Nat.le_refl _)⟩⟩
  | .str s, h => by
    simp only [plb, Bool.and_eq_true, decide_eq_true_eq] at h
    exact ⟨.str (toS s), fun M M' _ => ⟨fun m hm => by obtain ⟨m, rfl⟩ : ∃ j, m = j + 1 := ⟨m - 1, by omega⟩; exact ⟨fun _ => by simp only [pd, toS], fun _ => by simp only [pdD, toS], by simp only [dr]; rfl⟩, fun _ => h.1, rfl, Nat.zero_le _, h.2⟩⟩
  | .tup l, h => by
    obtain ⟨ps, hs⟩ := pls_sh l h
    exact ⟨.tuple ps, fun M => .tup (hs M)⟩
  | .rol _, h => by cases h
  | .ref _, h => by cases h
  | .fn _, h => by cases h
  | .cls _, h => by cases h
  | .ty _, h => by cases h
  | .rod _ _, h => by cases h
  | .bod _ _, h => by cases h
theorem pls_sh : ∀ (l : List D), plbs l = true → ∃ ps, ∀ M, Shs P 0 (dvs l) M l ps (wvs l)
  | [], _ => ⟨[], fun M => .nil⟩
  | x :: l, h => by
    simp only [plbs, Bool.and_eq_true] at h
    obtain ⟨p, hp⟩ := pl_sh x h.1
    obtain ⟨ps, hs⟩ := pls_sh l h.2
    refine ⟨p :: ps, fun M => ?_⟩
    have h1 := (hp M).le (show dv x ≤ dvs (x :: l) by simp only [dvs]; omega) (Nat.le_refl _)
    have h2 : Shs P 0 (dvs (x :: l)) M l ps (wvs l) := fun M' g => by
      obtain ⟨a, b, c, d, e⟩ := hs M M' g
      have : dvs l ≤ dvs (x :: l) := by simp only [dvs]; omega
      exact ⟨fun m hm => a m (by omega), b, c, by omega, e⟩
    exact Shs.cons h1 h2 (.inl rfl) (by decide) (by decide)
end
theorem wvs_app : ∀ (a b : List D), wvs (a ++ b) = wvs a + wvs b
  | [], b => by simp [wvs]
  | x :: a, b => by simp only [List.cons_append, wvs, wvs_app a b]; omega
theorem wvs_mem : ∀ {l : List D} {x : D}, x ∈ l → wv x + 2 ≤ wvs l
  | y :: l, x, h => by
    simp only [wvs]
    rcases List.mem_cons.mp h with rfl | h
    · omega
    · have := wvs_mem h; omega
theorem dvs_mem : ∀ {l : List D} {x : D}, x ∈ l → dv x ≤ dvs l
  | y :: l, x, h => by
    simp only [dvs]
    rcases List.mem_cons.mp h with rfl | h
    · omega
    · have := dvs_mem h; omega
theorem dvs_app : ∀ (a b : List D), dvs (a ++ b) = max (dvs a) (dvs b)
  | [], b => by simp [dvs]
  | x :: a, b => by simp only [List.cons_append, dvs, dvs_app a b]; omega
theorem plbs_app : ∀ (a b : List D), plbs (a ++ b) = (plbs a && plbs b)
  | [], b => by simp [plbs]
  | x :: a, b => by simp only [List.cons_append, plbs, plbs_app a b, Bool.and_assoc]
/-- one value among others without references -/
theorem shs_mid {k n : Nat} {M : Hm} {a b : List D} {x : D} {p : PyData} {w : Nat} (ha : plbs a = true) (hb : plbs b = true) (h : Sh P k n M x p w) (hk : k ≤ 2) (hda : dvs a ≤ n) (hdb : dvs b ≤ n) : ∃ ps, Shs P k n M (a ++ x :: b) ps (wvs a + (w + 2 + wvs b)) := by
  induction a with
  | nil =>
    obtain ⟨ps, hs⟩ := pls_sh b hb
    have h2 : Shs P 0 n M b ps (wvs b) := fun M' g => by
      obtain ⟨a, b, c, d, e⟩ := hs M M' g
      exact ⟨fun m hm => a m (by omega), b, c, by omega, e⟩
    have := Shs.cons h h2 (.inr rfl) hk (by decide)
    exact ⟨_, by simpa [wvs] using this⟩
  | cons y a ih =>
    simp only [plbs, Bool.and_eq_true] at ha
    simp only [dvs] at hda
    obtain ⟨ps, hs⟩ := ih ha.2 (by omega)
    obtain ⟨q, hq⟩ := pl_sh y ha.1
    have := Shs.cons ((hq M).le (show dv y ≤ n by omega) (Nat.le_refl _)) hs (.inl rfl) (by decide) hk
    rw [Nat.zero_add] at this
    refine ⟨q :: ps, ?_⟩
    have e : wv y + 2 + (wvs a + (w + 2 + wvs b)) = wvs (y :: a) + (w + 2 + wvs b) := by simp only [wvs]; omega
    rw [e] at this
    exact this
theorem plb_word {w : S} (h : StepW w) : plb (.str w) = true := by
  simp only [plb, Bool.and_eq_true, decide_eq_true_eq]
  refine ⟨?_, ?_⟩
  · simp only [PyData.canLay0]; exact strOk_of h.2.2
  · have := text_len h.2.2; simp only [PyData.shown]; exact this
mutual
theorem plb_enc : ∀ t : Tr, good t → plb (enc t) = true ∧ dv (enc t) ≤ 2 * dep t ∧ wv (enc t) ≤ 300 * ((lvs t).length * dep t) ∧ 1 ≤ (lvs t).length
  | .leaf s, h => ⟨plb_word h, Nat.zero_le _, by have := h.2.1; simp only [enc, wv, lvs, dep, List.length_singleton]; omega, by simp [lvs]⟩
  | .no t, h => by
    obtain ⟨a, b, c, e⟩ := plb_enc t h
    refine ⟨?_, by simp only [enc, dv, dvs, dep]; omega, ?_, e⟩
    · simp only [enc, plb, plbs, a, Bool.and_true]; decide +kernel
    · simp only [enc, wv, wvs, lvs, dep, List.length_cons, List.length_nil, Nat.mul_add, Nat.mul_one]; omega
  | .rep b t k, h => by
    obtain ⟨a, b', c, e⟩ := plb_enc t h.2.2
    have hb : bits k ≤ 100 := bits_le (by have := h.1; omega) (by
      have := h.2.1
      exact Int.lt_of_le_of_lt this (by decide +kernel))
    refine ⟨?_, by cases b <;> simp only [enc, dv, dvs, dep] <;> omega, ?_, e⟩
    · have hk : decide (bits k ≤ 1900) = true := decide_eq_true (by omega)
      cases b <;> simp only [enc, plb, plbs, a, hk, Bool.and_true] <;> decide +kernel
    · have hw : (repW b).length ≤ 6 := by cases b <;> decide
      simp only [enc, wv, wvs, lvs, dep, List.length_cons, List.length_nil, Nat.mul_add, Nat.mul_one]; omega
  | .grp b l, h => by
    obtain ⟨a, b', c, e⟩ := plbs_enc l h.2
    have hl := h.1
    refine ⟨?_, by cases b <;> simp only [enc, dv, dvs, dep] <;> omega, ?_, by simp only [lvs]; omega⟩
    · cases b <;> simp only [enc, plb, plbs, a, Bool.and_true] <;> decide +kernel
    · have hw : (grpW b).length ≤ 6 := by cases b <;> decide
      simp only [enc, wv, wvs, lvs, dep, List.length_cons, List.length_nil, Nat.mul_add, Nat.mul_one]; omega
theorem plbs_enc : ∀ l : List Tr, goods l → plbs (encs l) = true ∧ dvs (encs l) ≤ 2 * deps l ∧ wvs (encs l) ≤ 300 * ((lvss l).length * deps l) + 2 * (lvss l).length ∧ l.length ≤ (lvss l).length
  | [], _ => ⟨rfl, Nat.zero_le _, Nat.zero_le _, Nat.zero_le _⟩
  | t :: l, h => by
    obtain ⟨a, b, c, e⟩ := plb_enc t h.1
    obtain ⟨a', b', c', e'⟩ := plbs_enc l h.2
    refine ⟨by simp only [encs, plbs, a, a', Bool.and_self], by simp only [encs, dvs, deps]; omega, ?_, by simp only [lvss, List.length_append, List.length_cons]; omega⟩
    have h1 : (lvs t).length * dep t ≤ (lvs t).length * deps (t :: l) := Nat.mul_le_mul_left _ (by simp only [deps]; omega)
    have h2 : (lvss l).length * deps l ≤ (lvss l).length * deps (t :: l) := Nat.mul_le_mul_left _ (by simp only [deps]; omega)
    simp only [encs, wvs, lvss, List.length_append, Nat.add_mul]
    omega
end
theorem wf_nil {M : Hm} : ∀ y ∈ ([] : List D), Wf M y := fun y h => by cases h
theorem wf_cons {M : Hm} {x : D} {l : List D} (h : Wf M x) (k : ∀ y ∈ l, Wf M y) : ∀ y ∈ x :: l, Wf M y := fun y hy => by
  rcases List.mem_cons.mp hy with rfl | h'
  · exact h
  · exact k y h'
theorem wf_app {M : Hm} {l r : List D} (h : ∀ y ∈ l, Wf M y) (k : ∀ y ∈ r, Wf M y) : ∀ y ∈ l ++ r, Wf M y := fun y hy => (List.mem_append.mp hy).elim (h y) (k y)
theorem Wf.tup0 {M : Hm} {l : List D} (h : ∀ y ∈ l, Wf M y) (hl : l.length ≤ 1000) : Wf M (.tup l) := .tup l h (by have : LN = 16777216 := rfl; omega)
theorem Wf.str0 {M : Hm} {s : S} (h : s.length ≤ 1000) : Wf M (.str s) := .str s (by have : LN = 16777216 := rfl; omega)
theorem Wf.ext {M M' : Hm} {p : Nat} (x : Ext p M M') (hp : ∃ l, M'[p]? = some (.lst l)) {d : D} (h : Wf M d) : Wf M' d := by
  induction h with
  | non => exact .non
  | bl b => exact .bl b
  | int i => exact .int i
  | str s h => exact .str s h
  | tup l h hl ih => exact .tup l ih hl
  | lst n l h =>
    by_cases e : n = p
    · obtain ⟨l', h'⟩ := hp; exact .lst n l' (by rw [e]; exact h')
    · exact .lst n l (x.get h e)
  | dct n ks l h =>
    by_cases e : n = p
    · obtain ⟨l', h'⟩ := hp; exact .lst n l' (by rw [e]; exact h')
    · exact .dct n ks l (x.get h e)
theorem pool_set {M : Hm} {p q m : Nat} {o : O} (h : Pool M p m) (n : q ≠ p) : Pool (M.set q o) p m := by
  obtain ⟨a, b, c, h1, r⟩ := h
  exact ⟨a, b, c, by rw [List.getElem?_set_ne n]; exact h1, r⟩
theorem ext_set {M M' : Hm} {p i : Nat} {o : O} (x : Ext p M M') (h : M.length ≤ i) : Ext p M (M'.set i o) := ⟨by rw [List.length_set]; exact x.1, fun k hk hn => by rw [List.getElem?_set_ne (by omega)]; exact x.2 k hk hn⟩
end Rp

namespace Rp
open PySem
namespace K01
def d__law_steps : Def := ⟨9, 2,
 (.cons (.ite (.isi (.var 0) ["str"]) (.cons (.asg (.name 5) (.and (.cmp2 .le .le (.int 1) (.bi .len (.cons (.var 0) .nil)) (.int 6)) (.bi .all (.cons (.lc (.cmp .in (.var 8) (.str [97, 98, 99, 100, 101, 102, 103, 104, 105, 106, 107, 108, 109, 110, 111, 112, 113, 114, 115, 116, 117, 118, 119, 120, 121, 122])) (.name 8) (.ex (.var 0)) .none [8]) .nil))))
 (.cons (.ret (.ife (.and (.var 5) (.cmp .gt (.var 1) (.int 0))) (.lst (.cons (.var 0) .nil)) .non))
 .nil)) .nil)
 (.cons (.ite (.or (.not (.isi (.var 0) ["tuple"])) (.or (.cmp .lt (.var 1) (.int 2)) (.or (.cmp .lt (.bi .len (.cons (.var 0) .nil)) (.int 2)) (.not (.isi (.sub (.var 0) (.int 0)) ["str"]))))) (.cons (.ret .non)
 .nil) .nil)
 (.cons (.asg (.name 2) .non)
 (.cons (.ite (.and (.cmp .eq (.sub (.var 0) (.int 0)) (.str [110, 111, 116])) (.cmp .eq (.bi .len (.cons (.var 0) .nil)) (.int 2))) (.cons (.asg (.name 2) (.sl (.var 0) (.some (.int 1)) .none))
 .nil) .nil)
 (.cons (.ite (.and (.cmp .in (.sub (.var 0) (.int 0)) (.lst (.cons (.str [114, 101, 116, 114, 121]) (.cons (.str [114, 101, 112, 101, 97, 116]) .nil)))) (.cmp .eq (.bi .len (.cons (.var 0) .nil)) (.int 3))) (.cons (.asg (.name 6) (.and (.isi (.sub (.var 0) (.int 2)) ["int"]) (.not (.isi (.sub (.var 0) (.int 2)) ["bool"]))))
 (.cons (.asg (.name 2) (.ife (.and (.var 6) (.cmp2 .le .le (.int 1) (.sub (.var 0) (.int 2)) (.bin .pow (.int 10) (.int 30)))) (.sl (.var 0) (.some (.int 1)) (.some (.int 2))) .non))
 .nil)) .nil)
 (.cons (.ite (.and (.cmp .in (.sub (.var 0) (.int 0)) (.lst (.cons (.str [97, 108, 108]) (.cons (.str [97, 110, 121]) .nil)))) (.and (.cmp .eq (.bi .len (.cons (.var 0) .nil)) (.int 2)) (.and (.isi (.sub (.var 0) (.int 1)) ["tuple"]) (.cmp .gt (.bi .len (.cons (.sub (.var 0) (.int 1)) .nil)) (.int 1))))) (.cons (.asg (.name 2) (.sub (.var 0) (.int 1)))
 .nil) .nil)
 (.cons (.ite (.cmp .is (.var 2) .non) (.cons (.ret .non)
 .nil) .nil)
 (.cons (.asg (.name 3) (.lst .nil))
 (.cons (.for (.name 4) (.ex (.var 2)) (.cons (.asg (.name 7) (.call "_law_steps" (.cons (.var 4) (.cons (.bin .sub (.var 1) (.int 1)) .nil)) [] .nil))
 (.cons (.ite (.cmp .is (.var 7) .non) (.cons (.ret .non)
 .nil) .nil)
 (.cons (.ex (.me .extend (.var 3) (.cons (.var 7) .nil)))
 .nil))))
 (.cons (.ret (.var 3))
 .nil))))))))))⟩
def d__law_is_tree : Def := ⟨2, 1,
 (.cons (.asg (.name 1) (.call "_law_steps" (.cons (.var 0) (.cons (.int 8) .nil)) [] .nil))
 (.cons (.ret (.and (.cmp .isnot (.var 1) .non) (.and (.cmp .le (.bi .len (.cons (.var 1) .nil)) (.int 60)) (.cmp .le (.bi .len (.cons (.bi .set (.cons (.var 1) .nil)) .nil)) (.int 8)))))
 .nil))⟩
def d__law_odd : Def := ⟨2, 1,
 (.cons (.asg (.name 1) (.lst (.cons .non (.cons (.bl true) (.cons (.bl false) (.cons (.int 0) (.cons (.int 1) (.cons (.str []) (.cons (.str [65]) (.cons (.str [97, 98, 99, 100, 101, 102, 103]) (.cons (.str [97, 32, 98]) (.cons (.str [97, 10]) (.cons (.tup .nil) (.cons (.lst .nil) (.cons (.sdd [] .nil) (.cons (.tup (.cons (.str [97]) .nil)) (.cons (.tup (.cons (.str [110, 111, 116]) .nil)) (.cons (.tup (.cons (.str [110, 111, 116]) (.cons (.str [97]) (.cons (.str [98]) .nil)))) .nil))))))))))))))))))
 (.cons (.asg (.name 1) (.bin .add (.var 1) (.lst (.cons (.tup (.cons (.str [114, 101, 116, 114, 121]) (.cons (.str [97]) .nil))) (.cons (.tup (.cons (.str [114, 101, 116, 114, 121]) (.cons (.str [97]) (.cons (.int 0) .nil)))) (.cons (.tup (.cons (.str [114, 101, 116, 114, 121]) (.cons (.str [97]) (.cons (.bl true) .nil)))) (.cons (.tup (.cons (.str [114, 101, 116, 114, 121]) (.cons (.str [97]) (.cons (.bin .add (.bin .pow (.int 10) (.int 30)) (.int 1)) .nil)))) (.cons (.tup (.cons (.str [97, 108, 108]) (.cons (.tup (.cons (.str [97]) .nil)) .nil))) .nil))))))))
 (.cons (.asg (.name 1) (.bin .add (.var 1) (.lst (.cons (.tup (.cons (.str [114, 101, 116, 114, 121]) (.cons (.str [97]) (.cons (.str [50]) .nil)))) (.cons (.tup (.cons (.str [114, 101, 112, 101, 97, 116]) (.cons (.int 2) (.cons (.str [97]) .nil)))) (.cons (.tup (.cons (.str [97, 108, 108]) (.cons (.tup .nil) .nil))) (.cons (.tup (.cons (.str [97, 110, 121]) (.cons (.lst (.cons (.str [97]) (.cons (.str [98]) .nil))) .nil))) (.cons (.tup (.cons (.str [97, 108, 108]) (.cons (.str [97, 98]) .nil))) (.cons (.lst (.cons (.str [110, 111, 116]) (.cons (.str [97]) .nil))) .nil)))))))))
 (.cons (.asg (.name 1) (.bin .add (.var 1) (.lst (.cons (.tup (.cons (.str [97, 108, 108]) (.cons (.tup (.cons (.str [97]) (.cons (.str [98]) .nil))) (.cons (.int 1) .nil)))) (.cons (.tup (.cons (.str [78, 111, 116]) (.cons (.str [97]) .nil))) (.cons (.tup (.cons .non (.cons (.str [97]) .nil))) (.cons (.tup (.cons (.tup (.cons (.str [97]) .nil)) (.cons (.str [97]) .nil))) (.cons (.tup (.cons (.str [110, 111, 116]) (.cons (.tup (.cons (.str [110, 111, 116]) (.cons (.str [98]) .nil))) .nil))) (.cons (.tup (.cons (.str [97, 110, 121]) (.cons (.sdd [] .nil) .nil))) .nil)))))))))
 (.cons (.ret (.sub (.bin .add (.var 1) (.lst (.cons (.tup (.cons (.str [114, 101, 116, 114, 121]) (.cons (.str [98]) (.cons (.bin .pow (.int 10) (.int 30)) .nil)))) (.cons (.str [114, 101, 116, 114, 121]) (.cons (.tup (.cons (.str [115, 116, 101, 112]) (.cons (.str [97]) .nil))) (.cons (.tup (.cons (.str [114, 101, 116, 114, 121]) (.cons (.str [97]) (.cons .non .nil)))) .nil)))))) (.call "_law_draw" (.cons (.var 0) (.cons (.int 37) .nil)) [] .nil)))
 .nil)))))⟩
def d__law_bent : Def := ⟨5, 3,
 (.cons (.ite (.or (.not (.isi (.var 1) ["tuple"])) (.or (.cmp .eq (.var 1) (.tup .nil)) (.or (.cmp .eq (.var 2) (.int 0)) (.cmp .eq (.call "_law_draw" (.cons (.var 0) (.cons (.int 6) .nil)) [] .nil) (.int 0))))) (.cons (.ret (.call "_law_odd" (.cons (.var 0) .nil) [] .nil))
 .nil) .nil)
 (.cons (.asg (.tup (.cons (.name 3) (.cons (.name 4) .nil))) (.tup (.cons (.call "_law_draw" (.cons (.var 0) (.cons (.int 8) .nil)) [] .nil) (.cons (.call "_law_draw" (.cons (.var 0) (.cons (.bi .len (.cons (.var 1) .nil)) .nil)) [] .nil) .nil))))
 (.cons (.ite (.cmp .eq (.var 3) (.int 0)) (.cons (.ret (.bi .list (.cons (.var 1) .nil)))
 .nil) .nil)
 (.cons (.ite (.cmp .eq (.var 3) (.int 1)) (.cons (.ret (.bin .add (.sl (.var 1) .none (.some (.var 4))) (.sl (.var 1) (.some (.bin .add (.var 4) (.int 1))) .none)))
 .nil) .nil)
 (.cons (.ite (.cmp .eq (.var 3) (.int 2)) (.cons (.ret (.bin .add (.bin .add (.sl (.var 1) .none (.some (.var 4))) (.tup (.cons (.call "_law_odd" (.cons (.var 0) .nil) [] .nil) .nil))) (.sl (.var 1) (.some (.var 4)) .none)))
 .nil) .nil)
 (.cons (.ite (.cmp .eq (.var 3) (.int 3)) (.cons (.ret (.rev (.var 1)))
 .nil) .nil)
 (.cons (.ret (.bin .add (.bin .add (.sl (.var 1) .none (.some (.var 4))) (.tup (.cons (.call "_law_bent" (.cons (.var 0) (.cons (.sub (.var 1) (.var 4)) (.cons (.bin .sub (.var 2) (.int 1)) .nil))) [] .nil) .nil))) (.sl (.var 1) (.some (.bin .add (.var 4) (.int 1))) .none)))
 .nil)))))))⟩
def d__law_told_right : Def := ⟨4, 1,
 (.cons (.asg (.tup (.cons (.name 2) (.cons (.name 3) .nil))) (.tup (.cons (.call "_law_is_tree" (.cons (.var 0) .nil) [] .nil) (.cons (.bi .reprd (.cons (.var 0) .nil)) .nil))))
 (.cons (.asg (.name 1) (.lst (.cons (.call "is_plan" (.cons (.var 0) .nil) [] .nil) (.cons (.call "is_plan" .nil ["value"] (.cons (.var 0) .nil)) (.cons (.call "is_plan" (.cons (.var 0) .nil) [] .nil) .nil)))))
 (.cons (.ret (.and (.cmp .eq (.bi .repr (.cons (.var 1) .nil)) (.bi .repr (.cons (.bin .mul (.lst (.cons (.var 2) .nil)) (.int 3)) .nil))) (.cmp .eq (.bi .reprd (.cons (.var 0) .nil)) (.var 3))))
 .nil)))⟩
def d__law_right : Def := ⟨4, 1,
 (.cons (.asg (.name 1) (.call "_law_words" (.cons (.var 0) (.cons (.bin .add (.int 1) (.call "_law_draw" (.cons (.var 0) (.cons (.int 8) .nil)) [] .nil)) .nil)) [] .nil))
 (.cons (.asg (.name 2) (.call "_law_tree" (.cons (.var 0) (.cons (.var 1) (.cons (.bin .add (.int 1) (.call "_law_draw" (.cons (.var 0) (.cons (.int 8) .nil)) [] .nil)) (.cons (.int 60) (.cons (.int 99) .nil))))) [] .nil))
 (.cons (.ite (.or (.not (.call "_law_is_tree" (.cons (.var 2) .nil) [] .nil)) (.not (.call "_law_told_right" (.cons (.var 2) .nil) [] .nil))) (.cons (.ret (.bl false))
 .nil) .nil)
 (.cons (.for (.name 3) (.rng1 (.int 12)) (.cons (.ite (.or (.not (.call "_law_told_right" (.cons (.call "_law_bent" (.cons (.var 0) (.cons (.var 2) (.cons (.int 8) .nil))) [] .nil) .nil) [] .nil)) (.not (.call "_law_told_right" (.cons (.call "_law_odd" (.cons (.var 0) .nil) [] .nil) .nil) [] .nil))) (.cons (.ret (.bl false))
 .nil) .nil)
 .nil))
 (.cons (.ret (.and (.call "_law_told_right" (.cons (.bi .listx (.cons (.var 2) .nil)) .nil) [] .nil) (.call "_law_told_right" (.cons (.tup (.cons (.var 2) .nil)) .nil) [] .nil)))
 .nil)))))⟩
def d_law : Def := ⟨2, 1,
 (.cons (.ret (.bi .all (.cons (.lc (.call "_law_right" (.cons (.call "_law_pool" (.cons (.call "_law_cell" (.cons (.var 0) (.cons (.var 1) .nil)) [] .nil) .nil) [] .nil) .nil) [] .nil) (.name 1) (.rng1 (.bi .max (.cons (.int 2) (.cons (.bi .min (.cons (.bi .len (.cons (.var 0) .nil)) (.cons (.int 5) .nil))) .nil)))) .none [1]) .nil)))
 .nil)⟩

variable {g : G}
structure Has (g : G) : Prop extends HasPlan0 g, HasLaw g where
  steps : g.fn "_law_steps" = some d__law_steps
  is_tree : g.fn "_law_is_tree" = some d__law_is_tree
  odd : g.fn "_law_odd" = some d__law_odd
  bent : g.fn "_law_bent" = some d__law_bent
  told : g.fn "_law_told_right" = some d__law_told_right
  right : g.fn "_law_right" = some d__law_right
  law : g.fn "law" = some d_law
  kw : ["value"] ∈ g.kw "is_plan"
/-! the steps of any value, told by the law -/
def goU (f : D → Option (List S)) : List S → List D → Option (List S)
  | acc, [] => some acc
  | acc, p :: ps => match f p with
    | none => none
    | some ss => goU f (acc ++ ss) ps
def wsu : Nat → D → Option (List S)
  | 0, _ => none
  | k + 1, v => if isStepD v then some [strD v] else match v with
    | .tup l => if 1 ≤ k then (match innerD l with | some ps => goU (wsu k) [] ps | none => none) else none
    | _ => none
theorem wsu_succ (k : Nat) (v : D) : wsu (k + 1) v = if isStepD v then some [strD v] else (match v with
    | .tup l => if 1 ≤ k then (match innerD l with | some ps => goU (wsu k) [] ps | none => none) else none
    | _ => none) := by cases v <;> rfl
theorem goU_len {f : D → Option (List S)} : ∀ {ps : List D} {acc r : List S}, goU f acc ps = some r → acc.length ≤ r.length
  | [], acc, r, h => by cases h; exact Nat.le_refl _
  | p :: ps, acc, r, h => by
    simp only [goU] at h
    split at h
    · cases h
    · have := goU_len h
      simp at this; omega
def cap (o : Option (List S)) : Option (List S) := match o with | some ss => if ss.length ≤ 60 then some ss else none | none => none
theorem goD_goU {f f' : D → Option (List S)} (hf : ∀ d, f d = cap (f' d)) : ∀ (ps : List D) (acc : List S), acc.length ≤ 60 → goD f acc ps = cap (goU f' acc ps)
  | [], acc, h => by simp [goD, goU, cap, h]
  | p :: ps, acc, h => by
    simp only [goD, goU, hf]
    cases hp : f' p with
    | none => rfl
    | some ss =>
      have big : 60 < acc.length + ss.length → cap (goU f' (acc ++ ss) ps) = none := fun hb => by
        cases hg : goU f' (acc ++ ss) ps with
        | none => rfl
        | some r =>
          have := goU_len hg
          simp only [List.length_append] at this
          simp only [cap]
          rw [if_neg (by omega)]
      by_cases h60 : ss.length ≤ 60
      · simp only [cap, if_pos h60]
        by_cases hb : 60 < acc.length + ss.length
        · rw [if_pos hb]; exact (big hb).symm
        · rw [if_neg hb]; exact goD_goU hf ps (acc ++ ss) (by simp; omega)
      · simp only [cap, if_neg h60]
        exact (big (by omega)).symm
theorem wst_wsu : ∀ (k : Nat) (v : D), 1 ≤ k → wst k v = cap (wsu k v)
  | 0, v, h => by omega
  | 1, v, _ => by
    by_cases hs : isStepD v = true
    · simp [wst, wsu, hs, cap]
    · rw [Bool.not_eq_true] at hs
      cases v <;> simp [wst, wsu, hs, cap]
  | k + 2, v, _ => by
    by_cases hs : isStepD v = true
    · simp [wst, wsu, hs, cap]
    · rw [Bool.not_eq_true] at hs
      have ih : ∀ d, wst (k + 1) d = cap (wsu (k + 1) d) := fun d => wst_wsu (k + 1) d (by omega)
      cases v with
      | tup l =>
        have e1 : wst (k + 2) (.tup l) = match innerD l with | some ps => goD (wst (k + 1)) [] ps | none => none := by
          rw [wst]; rw [if_neg (by rw [hs]; decide)]; exact if_pos (by omega)
        have e2 : wsu (k + 2) (.tup l) = match innerD l with | some ps => goU (wsu (k + 1)) [] ps | none => none := by
          rw [wsu_succ]; rw [if_neg (by rw [hs]; decide)]; exact if_pos (by omega)
        rw [e1, e2]
        cases innerD l with
        | none => rfl
        | some ps => exact goD_goU ih ps [] (by simp)
      | _ => simp [wst, wsu, hs, cap]
/-- few steps in small values -/
theorem goU_small {f : D → Option (List S)} : ∀ {ps : List D} {acc r : List S}, (∀ p ∈ ps, ∀ ss, f p = some ss → ss.length ≤ wv p) → goU f acc ps = some r → r.length ≤ acc.length + wvs ps
  | [], acc, r, _, h => by cases h; exact Nat.le_add_right _ _
  | p :: ps, acc, r, hp, h => by
    simp only [goU] at h
    split at h
    · cases h
    · next ss hs =>
      have h1 := hp p (by simp) ss hs
      have := goU_small (fun q hq => hp q (by simp [hq])) h
      simp only [List.length_append] at this
      simp only [wvs]; omega
theorem innerD_small {l ps : List D} (h : innerD l = some ps) : wvs ps ≤ wvs l := by
  unfold innerD at h
  split at h
  · split at h
    · cases h; simp only [wvs]; omega
    · split at h
      · split at h
        · split at h
          · cases h; simp only [wvs, wv]; omega
          · cases h
        · cases h
      · cases h
  · split at h
    · split at h
      · cases h; simp only [wvs]; omega
      · cases h
    · cases h
  · cases h
theorem wsu_small : ∀ (k : Nat) (v : D) (ss : List S), wsu k v = some ss → ss.length ≤ wv v
  | 0, v, ss, h => by cases h
  | k + 1, v, ss, h => by
    rw [wsu_succ] at h
    split at h
    · next hs =>
      cases h
      cases v <;> first | (simp [isStepD] at hs; done) | (simp only [wv, List.length_singleton]; omega)
    · split at h
      · next l =>
        split at h
        · split at h
          · next ps hi =>
            have := goU_small (fun p _ ss hs => wsu_small k p ss hs) h
            have h2 := innerD_small hi
            simp only [List.length_nil] at this
            simp only [wv]; omega
          · cases h
        · cases h
      · cases h

def xA (w : S) (l : List D) : D := if w = wNot ∧ l.length = 2 then .tup (l.drop 1) else .non
def xB (w : S) (l : List D) : D := if (w = wRet ∨ w = wRep) ∧ l.length = 3 then (match l with | [_, x, y] => if isTimesD y then .tup [x] else .non | _ => .non) else xA w l
def xC (w : S) (l : List D) : D := if (w = wAll ∨ w = wAny) ∧ l.length = 2 then (match l with | [_, .tup ps] => if 2 ≤ ps.length then .tup ps else .non | _ => .non) else xB w l
theorem w_ne : wNot ≠ wAll ∧ wNot ≠ wAny ∧ wNot ≠ wRet ∧ wNot ≠ wRep ∧ wAll ≠ wRet ∧ wAll ≠ wRep ∧ wAny ≠ wRet ∧ wAny ≠ wRep := by decide
theorem xC_inner (w : S) (b : D) (r : List D) : xC w (.str w :: b :: r) = optD (innerD (.str w :: b :: r)) := by
  obtain ⟨n1, n2, n3, n4, n5, n6, n7, n8⟩ := w_ne
  match r with
  | [] =>
    by_cases hn : w = wNot
    · subst hn
      simp [xC, xB, xA, innerD, optD, n1, n2]
    · by_cases ha : w = wAll ∨ w = wAny
      · have : xC w [.str w, b] = (match ([.str w, b] : List D) with | [_, .tup ps] => if 2 ≤ ps.length then D.tup ps else .non | _ => .non) := by unfold xC; rw [if_pos ⟨ha, rfl⟩]
        rw [this]
        simp only [innerD, if_neg hn, if_pos ha]
        cases b with
        | tup ps => simp only []; split <;> rfl
        | _ => rfl
      · simp [xC, xB, xA, innerD, optD, hn, ha]
  | [y] =>
    by_cases hr : w = wRet ∨ w = wRep
    · have ha : ¬ ((w = wAll ∨ w = wAny) ∧ ([.str w, b, y] : List D).length = 2) := fun h => by simp at h
      have : xC w [.str w, b, y] = if isTimesD y then .tup [b] else .non := by unfold xC xB; rw [if_neg ha, if_pos ⟨hr, rfl⟩]
      rw [this]
      simp only [innerD, if_pos hr]
      split <;> rfl
    · simp [xC, xB, xA, innerD, optD, hr]
  | y :: z :: r =>
    rw [innerD_ne (by simp) (by simp)]
    simp [xC, xB, xA, optD]
theorem isInt {M : Hm} {d : D} (h : Wf M d) : (∃ i, d = .int i) ∨ (∃ b, d = .bl b) ∨ (isty M d ["int"] = some false ∧ (∀ i, d ≠ .int i)) := by
  cases h with
  | int i => exact .inl ⟨i, rfl⟩
  | bl b => exact .inr (.inl ⟨b, rfl⟩)
  | str s h => exact .inr (.inr ⟨rfl, nofun⟩)
  | non => exact .inr (.inr ⟨rfl, nofun⟩)
  | tup l h hl => exact .inr (.inr ⟨rfl, nofun⟩)
  | lst k l h => exact .inr (.inr ⟨by rw [isty_of (tyL h)]; decide, nofun⟩)
  | dct k ks l h => exact .inr (.inr ⟨by rw [isty_of (tyD h)]; decide, nofun⟩)
def stR (M M' : Hm) (d : D) : Option (List S) → Prop
  | some ss => ∃ q, d = .ref q ∧ M'[q]? = some (.lst (ss.map .str)) ∧ M.length ≤ q
  | none => d = .non
theorem law_steps_any (G : Has g) : ∀ (k : Nat) (v : D) (n : Nat) (M : Hm), Wf M v → wv v ≤ 1000000 → 1 ≤ k → k ≤ 8 → k + 3 ≤ n → (callF g n "_law_steps" [v, .int k] M).wp fun d M' => stR M M' d (wsu k v) ∧ Grow M M' := by
  intro k
  induction k with
  | zero => intro v n M _ _ h; omega
  | succ k ih =>
    intro v n M hv hwv _ hk8 hn
    have hLN : LN = 16777216 := rfl
    refine call_wp' G.steps (by omega) rfl (by decide) ?_
    show (exB (callF g (n - 1)) g d__law_steps.body [some v, some (.int (k + 1 : Nat)), none, none, none, none, none, none, none] M).wp _
    rcases isStr hv with ⟨s, rfl, hs⟩ | hns
    · -- a text
      have c0 : decide ((0 : Int) < ((k + 1 : Nat) : Int)) = true := decide_eq_true (by omega)
      refine bcons_wp (fun ρ M' => False) ?_ fun ρ M' h => h.elim
      simp! only []
      have fin : ∀ b M1, b = isStepD (.str s) → Grow M M1 → cnd (b = true) (1 ≤ LN ∧ stR M (M1 ++ [.lst [.str s]]) (.ref M1.length) (wsu (k + 1) (.str s)) ∧ Grow M (M1 ++ [.lst [.str s]])) (stR M M1 .non (wsu (k + 1) (.str s)) ∧ Grow M M1) := fun b M1 hb g1 => by
        refine cnd_by (fun h => ?_) fun h => ?_
        · have : wsu (k + 1) (.str s) = some [s] := by rw [wsu_succ, if_pos (by rw [← hb]; exact h)]; rfl
          rw [this]
          exact ⟨by decide, ⟨_, rfl, len_new, g1.len⟩, g1.trans .one⟩
        · have : wsu (k + 1) (.str s) = none := by rw [wsu_succ, if_neg (by rw [← hb]; exact h)]
          rw [this]
          exact ⟨rfl, g1⟩
      refine ⟨hs, ?_⟩
      by_cases h1 : 1 ≤ s.length
      · have c1 : decide (1 ≤ (s.length : Int)) = true := decide_eq_true (by omega)
        by_cases h2 : s.length ≤ 6
        · have c2 : decide ((s.length : Int) ≤ 6) = true := decide_eq_true (by omega)
          simp! only [c1, c2]
          refine ⟨hs, ?_⟩
          rw [evC_none]
          refine comp_wp _ (K := fun i acc M' => M' = M ∧ acc = ((s.take i).map fun c => decide (c ∈ ABC)).map .bl) ⟨rfl, rfl⟩ (fun i x acc M' hx hl ⟨e, ha⟩ => ?_) (by rw [List.length_map]; omega) (fun acc M' hl ⟨e, ha⟩ => ?_)
          · subst e
            refine ⟨rfl, ?_⟩
            rw [List.getElem?_map] at hx
            cases hc : s[i]? with
            | none => rw [hc] at hx; cases hx
            | some c =>
              rw [hc] at hx
              cases hx
              have hin : inS (.str [c]) [97, 98, 99, 100, 101, 102, 103, 104, 105, 106, 107, 108, 109, 110, 111, 112, 113, 114, 115, 116, 117, 118, 119, 120, 121, 122] = some (decide (c ∈ ABC)) := rfl
              simp! only [hin]
              rw [List.take_add_one, hc, ha]; simp
          · subst e
            refine ⟨rfl, ?_⟩
            rw [List.length_map, List.take_length] at ha
            rw [lsq_new, Option.bind_some, ha, bls_map, op_some, c0]
            have hb : ((s.map fun c => decide (c ∈ ABC)).all id) = isStepD (.str s) := by
              simp only [isStepD, h1, h2, decide_true, Bool.true_and]
              rw [List.all_map]; rfl
            have f := fin _ (M' ++ [.lst acc]) hb .one
            rw [ha] at f
            clear hb
            generalize ((s.map fun c => decide (c ∈ ABC)).all id) = bb at f ⊢
            cases bb with
            | true => unfold cnd at f ⊢; simp only [if_true] at f ⊢; exact f
            | false => unfold cnd at f ⊢; simp only [Bool.false_eq_true, if_false] at f ⊢; exact f
        · have c2 : decide ((s.length : Int) ≤ 6) = false := decide_eq_false (by omega)
          have f := fin false M (by simp [isStepD, h2]) .refl
          simp only [Bool.false_eq_true, cnd_false] at f
          simp! only [c1, c2]
          exact f
      · have c1 : decide (1 ≤ (s.length : Int)) = false := decide_eq_false (by omega)
        have f := fin false M (by simp [isStepD, h1]) .refl
        simp only [Bool.false_eq_true, cnd_false] at f
        simp! only [c1]
        exact f
    · refine bcons_wp (fun ρ M' => ρ = [some v, some (.int (k + 1 : Nat)), none, none, none, none, none, none, none] ∧ M' = M) ?_ fun ρ M' ⟨e, e1⟩ => ?_
      · simp! only [hns]
      subst e e1
      have hnstep : isStepD v = false := by
        cases v with
        | str s => simp [isty, tyOf, istyN] at hns
        | _ => rfl
      have hnone : (∀ l, v ≠ .tup l) ∨ k = 0 ∨ (∃ l, v = .tup l ∧ innerD l = none) → wsu (k + 1) v = none := fun h => by
        rw [wsu_succ, if_neg (by rw [hnstep]; decide)]
        rcases h with h | h | ⟨l, e, h⟩
        · cases v with
          | tup l => exact absurd rfl (h l)
          | _ => rfl
        · split
          · rw [if_neg (by omega)]
          · rfl
        · subst e
          simp only [h]
          split <;> rfl
      refine bcons_wp (fun ρ M1 => (∃ w b r, v = .tup (.str w :: b :: r) ∧ (∀ x ∈ .str w :: b :: r, Wf M' x) ∧ 1 ≤ k) ∧ ρ = [some v, some (.int (k + 1 : Nat)), none, none, none, none, none, none, none] ∧ M1 = M') ?_ fun ρ M1 ⟨⟨w, b, r, ev, hw, hk1⟩, e, e1⟩ => ?_
      · rcases isTup hv with ⟨l, rfl, hw, hl⟩ | ⟨h, h2⟩
        · by_cases hk : 1 ≤ k
          · have c1 : decide (((k + 1 : Nat) : Int) < 2) = false := decide_eq_false (by omega)
            match l, hw with
            | [], hw =>
              have := hnone (.inr (.inr ⟨_, rfl, rfl⟩))
              simp! only [c1]
              rw [this]; exact ⟨rfl, .refl⟩
            | [a], hw =>
              have := hnone (.inr (.inr ⟨_, rfl, innerD_ne (by simp) (by simp)⟩))
              simp! only [c1]
              rw [this]; exact ⟨rfl, .refl⟩
            | a :: b :: r, hw =>
              have c2 : decide (((((a :: b :: r : List D)).length : Nat) : Int) < 2) = false := decide_eq_false (by simp; omega)
              simp only [List.length_cons] at c2
              have ha0 : at? (a :: b :: r) 0 = some a := a_0
              rcases isStr (hw a (by simp)) with ⟨w, rfl, _⟩ | hna
              · simp! only [c1, c2, ha0]
                exact ⟨w, b, r, rfl, hw, hk⟩
              · have hi : innerD (a :: b :: r) = none := by
                  unfold innerD
                  split
                  · next w x h => cases h; simp [isty, tyOf, istyN] at hna
                  · next w x y h => cases h; simp [isty, tyOf, istyN] at hna
                  · rfl
                have := hnone (.inr (.inr ⟨_, rfl, hi⟩))
                simp! only [c1, c2, ha0, hna]
                rw [this]; exact ⟨rfl, .refl⟩
          · have c1 : decide (((k + 1 : Nat) : Int) < 2) = true := decide_eq_true (by omega)
            have := hnone (.inr (.inl (by omega)))
            simp! only [c1]
            rw [this]; exact ⟨rfl, .refl⟩
        · have := hnone (.inl h2)
          simp! only [h]
          rw [this]; exact ⟨rfl, .refl⟩
      subst ev e e1
      obtain ⟨l, hl⟩ : ∃ l, l = D.str w :: b :: r := ⟨_, rfl⟩
      have ha0 : at? l 0 = some (.str w) := by rw [hl]; exact a_0
      refine bcons_wp (fun ρ M2 => ρ = [some (.tup l), some (.int (k + 1 : Nat)), some .non, none, none, none, none, none, none] ∧ M2 = M1) ?_ fun ρ M2 ⟨e, e1⟩ => ?_
      · rw [← hl]; simp! only []
      subst e e1
      have hlen : 2 ≤ l.length := by rw [hl]; simp
      have hwl : ∀ x ∈ l, Wf M2 x := by rw [hl]; exact hw
      have fN : feq (.str w) (.str [110, 111, 116]) = decide (w = wNot) := by
        show (w == wNot) = _
        by_cases h : w = wNot
        · subst h; decide
        · rw [decide_eq_false h]; simpa using h
      refine bcons_wp (fun ρ M3 => ρ = [some (.tup l), some (.int (k + 1 : Nat)), some (xA w l), none, none, none, none, none, none] ∧ M3 = M2) ?_ fun ρ M3 ⟨e, e1⟩ => ?_
      · by_cases hN : w = wNot
        · by_cases h2 : l.length = 2
          · have c1 : ((l.length : Int) == 2) = true := by rw [h2]; rfl
            have c2 : cut l (some 1) none = l.drop 1 := cut_from (k := 1) (by omega)
            have hx : xA w l = .tup (l.drop 1) := if_pos ⟨hN, h2⟩
            simp! only [ha0, fN, decide_eq_true hN, c1, c2, hx]
          · have c1 : ((l.length : Int) == 2) = false := by rw [beq_eq_false_iff_ne]; omega
            have hx : xA w l = .non := if_neg (fun h => h2 h.2)
            simp! only [ha0, fN, decide_eq_true hN, c1, hx]
        · have hx : xA w l = .non := if_neg (fun h => hN h.1)
          simp! only [ha0, fN, decide_eq_false hN, hx]
      subst e e1
      have iR : ∀ M : Hm, inQ (M ++ [.lst [.str [114, 101, 116, 114, 121], .str [114, 101, 112, 101, 97, 116]]]) (.str w) (.ref M.length) = some (decide (w = wRet ∨ w = wRep)) := fun M => by
        have : inQ (M ++ [.lst [.str [114, 101, 116, 114, 121], .str [114, 101, 112, 101, 97, 116]]]) (.str w) (.ref M.length) = some ([wRet, wRep].any fun x => x == w) := by simp only [inQ, seq?, len_new]; rfl
        rw [this]
        congr 1
        by_cases h1 : w = wRet
        · subst h1; decide
        · by_cases h2 : w = wRep
          · subst h2; decide
          · rw [decide_eq_false (by simp [h1, h2])]
            simp [Ne.symm h1, Ne.symm h2]
      have iA : ∀ M : Hm, inQ (M ++ [.lst [.str [97, 108, 108], .str [97, 110, 121]]]) (.str w) (.ref M.length) = some (decide (w = wAll ∨ w = wAny)) := fun M => by
        have : inQ (M ++ [.lst [.str [97, 108, 108], .str [97, 110, 121]]]) (.str w) (.ref M.length) = some ([wAll, wAny].any fun x => x == w) := by simp only [inQ, seq?, len_new]; rfl
        rw [this]
        congr 1
        by_cases h1 : w = wAll
        · subst h1; decide
        · by_cases h2 : w = wAny
          · subst h2; decide
          · rw [decide_eq_false (by simp [h1, h2])]
            simp [Ne.symm h1, Ne.symm h2]
      refine bcons_wp (fun ρ M4 => (∃ z6, ρ = [some (.tup l), some (.int (k + 1 : Nat)), some (xB w l), none, none, none, z6, none, none]) ∧ Grow M3 M4) ?_ fun ρ M4 ⟨⟨z6, e⟩, g4⟩ => ?_
      · by_cases hR : w = wRet ∨ w = wRep
        · by_cases h3 : l.length = 3
          · obtain ⟨y, hr⟩ : ∃ y, r = [y] := by
              rw [hl] at h3
              match r, h3 with
              | [y], _ => exact ⟨y, rfl⟩
            subst hr
            have c1 : ((l.length : Int) == 3) = true := by rw [h3]; rfl
            have ha2 : at? l 2 = some y := by rw [hl]; exact a_2
            have c2 : cut l (some 1) (some 2) = [b] := by rw [hl]; rfl
            have hx : xB w l = if isTimesD y then .tup [b] else .non := by unfold xB; rw [if_pos ⟨hR, h3⟩, hl]
            have hy := (hwl y (by rw [hl]; simp)).grow (M' := M3 ++ [.lst [.str [114, 101, 116, 114, 121], .str [114, 101, 112, 101, 97, 116]]]) .one
            have p30 : (10 : Int) ^ Int.toNat 30 = 1000000000000000000000000000000 := by decide
            have n10 : Int.natAbs 10 < 2 ^ 64 := by decide
            rw [hx]
            rcases isInt hy with ⟨i, rfl⟩ | ⟨b', rfl⟩ | ⟨hyi, hyn⟩
            · cases h1 : decide (1 ≤ i) with
              | false =>
                simp! only [ha0, iR, decide_eq_true hR, c1, ha2, h1, isTimesD]
                exact ⟨by decide, ⟨_, rfl⟩, .one⟩
              | true =>
                cases h30 : decide (i ≤ 1000000000000000000000000000000) with
                | false =>
                  simp! only [ha0, iR, decide_eq_true hR, c1, ha2, h1, p30, h30, isTimesD]
                  exact ⟨by decide, by decide, ⟨_, rfl⟩, .one⟩
                | true =>
                  simp! only [ha0, iR, decide_eq_true hR, c1, ha2, h1, p30, h30, isTimesD, c2]
                  exact ⟨by decide, by decide, ⟨_, rfl⟩, .one⟩
            · simp! only [ha0, iR, decide_eq_true hR, c1, ha2, isTimesD]
              exact ⟨by decide, ⟨_, rfl⟩, .one⟩
            · have hyt : isTimesD y = false := by cases y <;> first | rfl | exact absurd rfl (hyn _)
              simp! only [ha0, iR, decide_eq_true hR, c1, ha2, hyi, hyt]
              exact ⟨by decide, ⟨_, rfl⟩, .one⟩
          · have c1 : ((l.length : Int) == 3) = false := by rw [beq_eq_false_iff_ne]; omega
            have hx : xB w l = xA w l := if_neg (fun h => h3 h.2)
            simp! only [ha0, iR, decide_eq_true hR, c1, hx]
            exact ⟨by decide, ⟨_, rfl⟩, .one⟩
        · have hx : xB w l = xA w l := if_neg (fun h => hR h.1)
          simp! only [ha0, iR, decide_eq_false hR, hx]
          exact ⟨by decide, ⟨_, rfl⟩, .one⟩
      subst e
      refine bcons_wp (fun ρ M5 => ρ = [some (.tup l), some (.int (k + 1 : Nat)), some (xC w l), none, none, none, z6, none, none] ∧ Grow M4 M5) ?_ fun ρ M5 ⟨e, g5⟩ => ?_
      · by_cases hA : w = wAll ∨ w = wAny
        · by_cases h2 : l.length = 2
          · have hr : r = [] := by
              rw [hl] at h2
              match r, h2 with
              | [], _ => rfl
            subst hr
            have c1 : ((l.length : Int) == 2) = true := by rw [h2]; rfl
            have ha1 : at? l 1 = some b := by rw [hl]; exact a_1
            have hb := (hwl b (by rw [hl]; simp)).grow (g4.trans (.one (o := .lst [.str [97, 108, 108], .str [97, 110, 121]])))
            have hB0 : xB w l = .non := by
              have n := w_ne
              have h1 : ¬ ((w = wRet ∨ w = wRep) ∧ l.length = 3) := fun h => by omega
              have h2' : ¬ (w = wNot ∧ l.length = 2) := fun h => by
                rcases hA with h' | h'
                · exact n.1 (h.1.symm.trans h')
                · exact n.2.1 (h.1.symm.trans h')
              unfold xB xA
              rw [if_neg h1, if_neg h2']
            have hx : xC w l = match b with | .tup ps => if 2 ≤ ps.length then D.tup ps else .non | _ => .non := by
              unfold xC; rw [if_pos ⟨hA, h2⟩, hl]
              cases b <;> rfl
            rcases isTup hb with ⟨ps, rfl, hp, hpl⟩ | ⟨hbt, hbn⟩
            · by_cases hp2 : 2 ≤ ps.length
              · have c3 : decide ((1 : Int) < (ps.length : Int)) = true := decide_eq_true (by omega)
                simp! only [ha0, iA, decide_eq_true hA, c1, ha1, c3, hx, if_pos hp2]
                exact ⟨by decide, .one⟩
              · have c3 : decide ((1 : Int) < (ps.length : Int)) = false := decide_eq_false (by omega)
                simp! only [ha0, iA, decide_eq_true hA, c1, ha1, c3, hx, if_neg hp2, hB0]
                exact ⟨by decide, .one⟩
            · have hx' : xC w l = .non := by rw [hx]; cases b <;> first | rfl | exact absurd rfl (hbn _)
              simp! only [ha0, iA, decide_eq_true hA, c1, ha1, hbt, hx', hB0]
              exact ⟨by decide, .one⟩
          · have c1 : ((l.length : Int) == 2) = false := by rw [beq_eq_false_iff_ne]; omega
            have hx : xC w l = xB w l := if_neg (fun h => h2 h.2)
            simp! only [ha0, iA, decide_eq_true hA, c1, hx]
            exact ⟨by decide, .one⟩
        · have hx : xC w l = xB w l := if_neg (fun h => hA h.1)
          simp! only [ha0, iA, decide_eq_false hA, hx]
          exact ⟨by decide, .one⟩
      subst e
      have gA := g4.trans g5
      have hxc : xC w l = optD (innerD l) := by rw [hl]; exact xC_inner w b r
      rw [hxc]
      rw [← hl] at hwv hnone hnstep ⊢
      have hw' : wsu (k + 1) (.tup l) = match innerD l with | some ps => goU (wsu k) [] ps | none => none := by
        rw [wsu_succ, if_neg (by rw [hnstep]; decide)]; exact if_pos hk1
      cases hI : innerD l with
      | none =>
        rw [hI] at hw'
        rw [hw']
        simp! only [optD]
        exact ⟨rfl, gA⟩
      | some ps =>
        rw [hI] at hw'
        rw [hw']
        have hps := innerD_wf hwl hI
        have hpw := innerD_small hI
        have hpw2 : wvs ps ≤ 1000000 := by simp only [wv] at hwv; omega
        simp! only [optD, reduceCtorEq]
        refine ⟨by decide, ?_⟩
        refine loop_wp (inv := fun xs ρ M6 => ∃ (acc : List S) (a c : Option D), (∀ p ∈ xs, Wf M5 p) ∧ goU (wsu k) [] ps = goU (wsu k) acc xs ∧ acc.length + wvs xs ≤ 1000000 ∧ ρ = [some (.tup l), some (.int (k + 1 : Nat)), some (.tup ps), some (.ref M5.length), a, none, z6, c, none] ∧ M6[M5.length]? = some (.lst (acc.map .str)) ∧ Grow M5 M6) ?_ ?_ _ _ _ ⟨[], none, none, fun p hp => (hps p hp).grow gA, rfl, by simpa using hpw2, rfl, len_new, .one⟩
        · rintro x xs ρ M6 ⟨acc, a, c, hx, hgo, hacc, rfl, hs3, gr⟩
          refine ⟨rfl, ?_⟩
          simp! only [G.steps]
          rw [show ((k + 1 : Nat) : Int) - 1 = (k : Nat) by omega]
          have hwx : wv x + 2 ≤ wvs (x :: xs) := by simp only [wvs]; omega
          refine (ih x (n - 1) M6 ((hx x (by simp)).grow gr) (by omega) hk1 (by omega) (by omega)).mono fun d M7 ⟨e, g7⟩ => ?_
          simp only [goU] at hgo
          cases hw7 : wsu k x with
          | none =>
            rw [hw7] at e hgo
            have e : d = .non := e
            subst e
            simp! only []
            rw [hgo]
            exact ⟨rfl, gA.trans (gr.trans g7)⟩
          | some ss =>
            rw [hw7] at e hgo
            obtain ⟨q, e, hq, hql⟩ := e
            subst e
            have hss := wsu_small k x ss hw7
            have hs4 := g7.get hs3
            simp only [wvs] at hacc
            simp! only [tyL hs4, hs4, hq, reduceCtorEq, Option.bind_some, List.length_append, List.length_map]
            refine ⟨by omega, acc ++ ss, _, _, fun p hp => hx p (List.mem_cons_of_mem _ hp), hgo, by rw [List.length_append]; omega, rfl, ?_, (gr.trans g7).set (Nat.le_refl _)⟩
            rw [get_set hs4, List.map_append]
        · rintro ρ M6 ⟨acc, a, c, hx, hgo, hacc, rfl, hs3, gr⟩
          refine ⟨rfl, ?_⟩
          simp! only []
          rw [hgo]
          exact ⟨⟨_, rfl, hs3, gA.len⟩, gA.trans gr⟩

/-- a value that may be told -/
def Vt (P : Nat) (M : Hm) (v : D) : Prop := Wf M v ∧ wv v ≤ 1000000 ∧ ∃ k n p w, Sh P k n M v p w ∧ n ≤ 60 ∧ w ≤ 1000000
theorem is_tree_any (G : Has g) {n : Nat} {M : Hm} {v : D} (hn : 13 ≤ n) (hv : Wf M v) (hw : wv v ≤ 1000000) : (callF g n "_law_is_tree" [v] M).wp fun d M' => d = .bl (isPlanD v) ∧ Grow M M' := by
  have hLN : LN = 16777216 := rfl
  refine call_wp' G.is_tree (by omega) rfl (by decide) ?_
  simp! only [d__law_is_tree, G.steps]
  refine (law_steps_any G 8 v (n - 1) M hv hw (by decide) (by decide) (by omega)).mono fun d M1 ⟨e, gr⟩ => ?_
  have hww := wst_wsu 8 v (by decide)
  cases hu : wsu 8 v with
  | none =>
    rw [hu] at e hww
    have e : d = .non := e
    subst e
    simp! only [isPlanD, hww, cap]
    exact gr
  | some ss =>
    rw [hu] at e hww
    obtain ⟨q, e, hq, _⟩ := e
    subst e
    by_cases h60 : ss.length ≤ 60
    · have c1 : decide ((ss.length : Int) ≤ 60) = true := decide_eq_true (by omega)
      have hw8 : wst 8 v = some ss := by rw [hww]; simp [cap, h60]
      simp! only [hq, Option.bind_some, olen, List.length_map, c1, isPlanD, hw8]
      have hs : seq? M1 (.ref q) = some (ss.map .str) := by simp only [seq?, hq]
      simp! only [reduceCtorEq, hs, Option.bind_some, strs_map, len_new, olen, List.length_map]
      refine ⟨by omega, ?_, gr.trans .one⟩
      congr 1
      rw [decide_eq_decide]
      omega
    · have c1 : decide ((ss.length : Int) ≤ 60) = false := decide_eq_false (by omega)
      have hw8 : wst 8 v = none := by rw [hww]; simp [cap, h60]
      simp! only [hq, Option.bind_some, olen, List.length_map, c1, isPlanD, hw8]
      first | exact gr | exact ⟨by decide, gr⟩
def B3 (b : Bool) : PyData := .list [.bool b, .bool b, .bool b]
theorem B3_dat {M : Hm} {q : Nat} {b : Bool} (h : M[q]? = some (.lst [.bl b, .bl b, .bl b])) : pd M FUEL (.ref q) = some (B3 b) := (Dat.lst (n := 2) h (.cons .bl (.cons .bl (.cons .bl .nil)))).fuel (by decide)
theorem B3_ok (b : Bool) : RpOk (B3 b) := .of ⟨trivial, trivial, trivial, trivial⟩ (by cases b <;> decide) (by cases b <;> decide)
theorem told_any (G : Has g) {n : Nat} {M : Hm} {v : D} (hn : 20 ≤ n) {P : Nat} (hv : Vt P M v) : (callF g n "_law_told_right" [v] M).wp fun d M' => d = .bl true ∧ Grow M M' := by
  obtain ⟨hw, hwv, k, nn, p, w, hs, hn6, hw6⟩ := hv
  have hX := hs.shown hn6 (by omega)
  refine call_wp' G.told (by omega) rfl (by decide) ?_
  simp! only [d__law_told_right, G.is_tree]
  refine (is_tree_any G (by omega) hw hwv).mono fun d M1 ⟨e, g1⟩ => ?_
  subst e
  obtain ⟨x1, y1⟩ := hX M1 g1.ext
  simp! only [x1, y1, G.is_plan, G.kw]
  refine ⟨by decide, (is_plan_any0 G.toHasPlan0 (by omega) (hw.grow g1)).mono fun d M2 ⟨e, g2⟩ => ?_⟩
  subst e
  refine (is_plan_any0 G.toHasPlan0 (by omega) (hw.grow (g1.trans g2))).mono fun d M3 ⟨e, g3⟩ => ?_
  subst e
  refine (is_plan_any0 G.toHasPlan0 (by omega) (hw.grow ((g1.trans g2).trans g3))).mono fun d M4 ⟨e, g4⟩ => ?_
  subst e
  have g14 := ((g1.trans g2).trans g3).trans g4
  have ok := B3_ok (isPlanD v)
  simp! only [B3_dat len_new, len_new, lkL_some]
  rw [show Int.toNat 3 = 3 from rfl]
  simp! only [List.flatten_cons, List.flatten_nil, B3_dat len_new, feq_str]
  obtain ⟨x2, y2⟩ := hX (M4 ++ [.lst [.bl (isPlanD v), .bl (isPlanD v), .bl (isPlanD v)]] ++ [.lst [.bl (isPlanD v)]] ++ [.lst [.bl (isPlanD v), .bl (isPlanD v), .bl (isPlanD v)]]) (g14.trans (Grow.one.trans (Grow.one.trans .one))).ext
  simp! only [x2, y2, feq_str]
  exact ⟨by decide, ok, by decide, ⟨by decide, by decide, by decide⟩, ok, g14.trans (Grow.one.trans (Grow.one.trans .one))⟩

theorem vt_plain {M : Hm} {x : D} (h : plb x = true) (hw : wv x ≤ 1000) (hd : dv x ≤ 5) (hf : Wf M x) {P : Nat} : Vt P M x := by
  obtain ⟨p, hp⟩ := pl_sh x h
  exact ⟨hf, by omega, 0, _, p, _, hp M, by omega, by omega⟩
/-- an odd value: shown in few letters -/
def Od (P : Nat) (M : Hm) (v : D) : Prop := Wf M v ∧ wv v ≤ 200 ∧ ∃ k p w, Sh P k 5 M v p w ∧ w ≤ 300 ∧ k ≤ 2
theorem Od.vt {P : Nat} {M : Hm} {v : D} (h : Od P M v) : Vt P M v := by
  obtain ⟨a, b, k, p, w, hs, hw, _⟩ := h
  exact ⟨a, by omega, k, 5, p, w, hs, by decide, by omega⟩
theorem Od.ext {P : Nat} {M M' : Hm} {v : D} (h : Od P M v) (x : Ext P M M') (hp : ∃ l, M'[P]? = some (.lst l)) : Od P M' v := by
  obtain ⟨a, b, k, p, w, hs, hw, hk⟩ := h
  exact ⟨Wf.ext x hp a, b, k, p, w, hs.grow x, hw, hk⟩
theorem Vt.ext {P : Nat} {M M' : Hm} {v : D} (h : Vt P M v) (x : Ext P M M') (hp : ∃ l, M'[P]? = some (.lst l)) : Vt P M' v := by
  obtain ⟨a, b, k, n, p, w, hs, hw, hk⟩ := h
  exact ⟨Wf.ext x hp a, b, k, n, p, w, hs.grow x, hw, hk⟩
theorem Od.grow {P : Nat} {M M' : Hm} {v : D} (h : Od P M v) (g : Grow M M') : Od P M' v := by
  obtain ⟨a, b, k, p, w, hs, hw, hk⟩ := h
  exact ⟨a.grow g, b, k, p, w, hs.grow g.ext, hw, hk⟩
theorem Vt.grow {P : Nat} {M M' : Hm} {v : D} (h : Vt P M v) (g : Grow M M') : Vt P M' v := by
  obtain ⟨a, b, k, n, p, w, hs, hw, hk⟩ := h
  exact ⟨a.grow g, b, k, n, p, w, hs.grow g.ext, hw, hk⟩
variable {P : Nat}
def wfk : Nat → D → Bool
  | 0, _ => false
  | _ + 1, .non => true
  | _ + 1, .bl _ => true
  | _ + 1, .int _ => true
  | _ + 1, .str s => decide (s.length ≤ 1000)
  | n + 1, .tup l => decide (l.length ≤ 1000) && l.all (wfk n)
  | _ + 1, _ => false
theorem wfk_ok {M : Hm} : ∀ (n : Nat) (d : D), wfk n d = true → Wf M d := by
  intro n
  induction n with
  | zero => intro d h; cases d <;> cases h
  | succ n ih =>
    intro d h
    cases d with
    | non => exact .non
    | bl b => exact .bl b
    | int i => exact .int i
    | str s => exact Wf.str0 (of_decide_eq_true h)
    | tup l =>
      simp only [wfk, Bool.and_eq_true, decide_eq_true_eq, List.all_eq_true] at h
      exact Wf.tup0 (fun y hy => ih y (h.2 y hy)) h.1
    | _ => cases h
def odk (x : D) : Bool := plb x && (decide (wv x ≤ 200) && (decide (dv x ≤ 5) && wfk 6 x))
theorem odk_ok {M : Hm} {x : D} (h : odk x = true) : Od P M x := by
  simp only [odk, Bool.and_eq_true, decide_eq_true_eq] at h
  obtain ⟨p, hp⟩ := pl_sh x h.1
  exact ⟨wfk_ok 6 x h.2.2.2, h.2.1, 0, p, _, (hp M).le h.2.2.1 (Nat.le_refl _), by omega, by decide⟩
theorem ods {M : Hm} {l : List D} (h : l.all odk = true) : ∀ x ∈ l, Od P M x := fun x hx => odk_ok (List.all_eq_true.mp h x hx)
theorem od_cons {M : Hm} {x : D} {l : List D} (h : Od P M x) (k : ∀ y ∈ l, Od P M y) : ∀ y ∈ x :: l, Od P M y := fun y hy => by
  rcases List.mem_cons.mp hy with rfl | h'
  · exact h
  · exact k y h'
theorem od_app {M : Hm} {l r : List D} (h : ∀ y ∈ l, Od P M y) (k : ∀ y ∈ r, Od P M y) : ∀ y ∈ l ++ r, Od P M y := fun y hy => (List.mem_append.mp hy).elim (h y) (k y)
theorem od_lst0 {M : Hm} {q : Nat} (h : M[q]? = some (.lst [])) (hP : q ≠ P) : Od P M (.ref q) := ⟨.lst _ _ h, Nat.zero_le _, 1, _, _, Sh.lst (n := 4) h hP .nil, by decide, by decide⟩
theorem od_dct {M : Hm} {q : Nat} (h : M[q]? = some (.sd [] [])) (hP : q ≠ P) : Od P M (.ref q) := ⟨.dct _ _ _ h, Nat.zero_le _, 2, _, _, Sh.dct (n := 4) h hP, by decide, by decide⟩
theorem od_lst2 {M : Hm} {q : Nat} {a b : D} (h : M[q]? = some (.lst [a, b])) (hP : q ≠ P) (hp : plbs [a, b] = true) (hw : wvs [a, b] ≤ 100) (hd : dvs [a, b] ≤ 3) : ∃ p, Sh P 1 4 M (.ref q) p 110 := by
  obtain ⟨ps, hs⟩ := pls_sh [a, b] hp
  have h3 : Shs P 0 3 M [a, b] ps 100 := fun M' g => by
    obtain ⟨x, b', c, d, e⟩ := hs M M' g
    exact ⟨fun m hm => x m (by omega), b', c, by omega, by omega⟩
  exact ⟨_, (Sh.lst h hP h3).le (Nat.le_refl _) (by decide)⟩
/-- (word, x) with x not among the plain -/
theorem od_pair {M : Hm} {w : S} {x : D} {k : Nat} {p : PyData} {u : Nat} (hx : Sh P k 4 M x p u) (hk : k ≤ 2) (hu : u ≤ 150) (hw : plb (.str w) = true) (hwl : w.length ≤ 10) (hf : Wf M x) (hxw : wv x ≤ 100) : Od P M (.tup [.str w, x]) := by
  obtain ⟨ps, hs⟩ := shs_mid (a := [.str w]) (b := []) (by simp [plbs, hw]) rfl hx hk (by simp [dvs, dv]) (by simp [dvs])
  refine ⟨Wf.tup0 (wf_cons (Wf.str0 (by omega)) (wf_cons hf wf_nil)) (by show 2 ≤ 1000; decide), by simp only [wv, wvs]; omega, k, _, _, Sh.tup hs, by simp only [wvs, wv]; omega, hk⟩

theorem odd_wp (G : Has g) {n m p : Nat} {M : Hm} (hn : 5 ≤ n) (hp : Pool M p m) (hm : m ≤ 500000000) : (callF g n "_law_odd" [.ref p] M).wp fun d M' => Od p M' d ∧ Pool M' p (m + 1) ∧ Ext p M M' := by
  have hLN : LN = 16777216 := rfl
  refine call_wp' G.odd (by omega) rfl (by decide) ?_
  show (exB (callF g (n - 1)) g d__law_odd.body [some (.ref p), none] M).wp _
  refine bcons_wp (fun ρ M1 => ∃ q L, ρ = [some (.ref p), some (.ref q)] ∧ M1[q]? = some (.lst L) ∧ L.length = 16 ∧ (∀ x ∈ L, Od p M1 x) ∧ Grow M M1) ?_ fun ρ M1 ⟨q1, L1, e, hq1, hL1, hw1, g1⟩ => ?_
  · simp! only []
    refine ⟨by decide, by decide, ⟨by decide, by decide⟩, by decide, by decide, by decide, by decide, _, _, rfl, len_new, rfl, ?_, (Grow.one.trans .one).trans .one⟩
    iterate 11 refine od_cons (odk_ok (by decide +kernel)) ?_
    exact od_cons (od_lst0 ((Grow.one.trans .one).get len_new) (by have := hp.lt; omega)) (od_cons (od_dct (Grow.one.get len_new) (by have := hp.lt; simp; omega)) (ods (by decide +kernel)))
  subst e
  have p30 : (10 : Int) ^ Int.toNat 30 = 1000000000000000000000000000000 := by decide
  refine bcons_wp (fun ρ M2 => ∃ q L, ρ = [some (.ref p), some (.ref q)] ∧ M2[q]? = some (.lst L) ∧ L.length = 21 ∧ (∀ x ∈ L, Od p M2 x) ∧ Grow M1 M2) ?_ fun ρ M2 ⟨q2, L2, e, hq2, hL2, hw2, g2⟩ => ?_
  · have hqo : ∀ o, (M1 ++ [o])[q1]? = some (.lst L1) := fun o => Grow.one.get hq1
    simp! only [hqo, lkL_some, p30, len_new]
    repeat refine ⟨by decide, ?_⟩
    refine ⟨by omega, _, _, rfl, len_new, by simp [hL1], od_app (fun x hx => (hw1 x hx).grow (Grow.one.trans .one)) (ods (by decide +kernel)), Grow.one.trans .one⟩
  subst e
  refine bcons_wp (fun ρ M3 => ∃ q L, ρ = [some (.ref p), some (.ref q)] ∧ M3[q]? = some (.lst L) ∧ L.length = 27 ∧ (∀ x ∈ L, Od p M3 x) ∧ Grow M2 M3) ?_ fun ρ M3 ⟨q3, L3, e, hq3, hL3, hw3, g3⟩ => ?_
  · simp! only [lkL_some]
    rw [((Grow.one.trans Grow.one).trans Grow.one).get hq2]
    simp! only [len_new, lkL_some]
    repeat refine ⟨by decide, ?_⟩
    refine ⟨by omega, _, _, rfl, len_new, by simp [hL2], od_app (fun x hx => (hw2 x hx).grow (((Grow.one.trans .one).trans .one).trans .one)) ?_, ((Grow.one.trans .one).trans .one).trans .one⟩
    iterate 3 refine od_cons (odk_ok (by decide +kernel)) ?_
    have hpl : p < M2.length := (hp.grow (g1.trans g2)).lt
    have h1 := fun (a b c : O) => (((Grow.one (M := M2 ++ [.lst [.str [97], .str [98]]]) (o := a)).trans (.one (o := b))).trans (.one (o := c))).get len_new
    obtain ⟨pp, hp1⟩ := od_lst2 (P := p) (h1 _ _ _) (by have := hpl; omega) (by decide +kernel) (by decide) (by decide)
    refine od_cons (od_pair hp1 (by decide) (by decide) (by decide +kernel) (by decide) (.lst _ _ (h1 _ _ _)) (Nat.zero_le _)) ?_
    refine od_cons (odk_ok (by decide +kernel)) ?_
    have h2 := fun (b c : O) => ((Grow.one (M := M2 ++ [.lst [.str [97], .str [98]]] ++ [.lst [.str [110, 111, 116], .str [97]]]) (o := b)).trans (.one (o := c))).get len_new
    obtain ⟨pq, hp2⟩ := od_lst2 (P := p) (h2 _ _) (by have := hpl; simp; omega) (by decide +kernel) (by decide) (by decide)
    exact od_cons ⟨.lst _ _ (h2 _ _), Nat.zero_le _, 1, pq, _, hp2.le (by decide) (Nat.le_refl _), by decide, by decide⟩ (fun _ h => by cases h)
  subst e
  refine bcons_wp (fun ρ M4 => ∃ q L, ρ = [some (.ref p), some (.ref q)] ∧ M4[q]? = some (.lst L) ∧ L.length = 33 ∧ (∀ x ∈ L, Od p M4 x) ∧ Grow M3 M4) ?_ fun ρ M4 ⟨q4, L4, e, hq4, hL4, hw4, g4⟩ => ?_
  · simp! only [lkL_some]
    rw [(Grow.one.trans Grow.one).get hq3]
    simp! only [len_new, lkL_some]
    repeat refine ⟨by decide, ?_⟩
    refine ⟨by omega, _, _, rfl, len_new, by simp [hL3], od_app (fun x hx => (hw3 x hx).grow ((Grow.one.trans .one).trans .one)) ?_, (Grow.one.trans .one).trans .one⟩
    iterate 5 refine od_cons (odk_ok (by decide +kernel)) ?_
    have hpl : p < M3.length := (hp.grow ((g1.trans g2).trans g3)).lt
    have h1 := fun (a b : O) => ((Grow.one (M := M3 ++ [.sd [] []]) (o := a)).trans (.one (o := b))).get len_new
    exact od_cons (od_pair (Sh.dct (n := 3) (h1 _ _) (by have := hpl; omega)) (by decide) (by decide) (by decide +kernel) (by decide) (.dct _ _ _ (h1 _ _)) (Nat.zero_le _)) (fun _ h => by cases h)
  subst e
  have hqo : ∀ o, (M4 ++ [o])[q4]? = some (.lst L4) := fun o => Grow.one.get hq4
  simp! only [hqo, lkL_some, G.draw, p30, len_new]
  repeat refine ⟨by decide, ?_⟩
  obtain ⟨L5, h5⟩ : ∃ L5, L5 = L4 ++ [D.tup [.str [114, 101, 116, 114, 121], .str [98], .int 1000000000000000000000000000000], .str [114, 101, 116, 114, 121], .tup [.str [115, 116, 101, 112], .str [97]], .tup [.str [114, 101, 116, 114, 121], .str [97], .non]] := ⟨_, rfl⟩
  have hw5 : ∀ x ∈ L5, Od p M4 x := by rw [h5]; exact od_app hw4 (ods (by decide +kernel))
  have hl5 : L5.length = 37 := by rw [h5]; simp [hL4]
  rw [← h5]
  have gA := ((g1.trans g2).trans g3).trans g4
  have pA := hp.grow gA
  have hpl : p < M4.length := pA.lt
  refine ⟨by omega, (draw_at G.draw (by omega) (pA.grow (Grow.one.trans .one)) (by decide) (by decide) (by omega)).mono fun d M5 ⟨r, e, r0, r1, p5, x5, l5⟩ => ?_⟩
  subst e
  obtain ⟨R, rfl⟩ := Int.eq_ofNat_of_zero_le r0
  have hRl : R < L5.length := by omega
  have hat2 : at? L5 (R : Int) = some L5[R] := by rw [at_nat hRl, List.getElem?_eq_getElem hRl]
  have hq5 := x5.get (len_new (o := .lst L5)) (by simp; omega)
  simp! only [hq5, hat2, lkL_some]
  have pl : ∃ l, M5[p]? = some (.lst l) := by obtain ⟨a, b, c, h, _⟩ := p5; exact ⟨_, h⟩
  exact ⟨((hw5 _ (List.getElem_mem hRl)).grow (Grow.one.trans .one)).ext x5 pl, p5, gA.ext.trans ((Grow.one.trans .one).ext.trans x5)⟩

/-- what is bent -/
def Bt (p : Nat) (M : Hm) (v d : D) : Prop := Wf M d ∧ wv d ≤ wv v + 300 ∧ ∃ k q w, Sh p k (dv v + 6) M d q w ∧ w ≤ wv v + 400 ∧ k ≤ 2
theorem Od.bt {p : Nat} {M : Hm} {v d : D} (h : Od p M d) : Bt p M v d := by
  obtain ⟨a, b, k, q, w, hs, hw, hk⟩ := h
  exact ⟨a, by omega, k, q, w, hs.le (by omega) (Nat.le_refl _), by omega, hk⟩
theorem deq_unit {M : Hm} {l : List D} (h : plb (.tup l) = true) (hd : dv (.tup l) ≤ 60) : deq M (.tup l) (.tup []) = some l.isEmpty := by
  obtain ⟨ps, hs⟩ := pls_sh (P := 0) l h
  obtain ⟨a, b, c, e, f⟩ := hs M M .refl
  simp only [dv] at hd
  have hp : pd M 64 (.tup l) = some (.tuple ps) := by simp only [pd, ((a 63 (by omega)).1 (by decide)), Option.map_some]
  have hsh : SeqAt.shaped (.tuple ps) = true := by
    unfold SeqAt.shaped
    rw [show (PyData.tuple ps).canLay0 = true by simpa only [PyData.canLay0] using b (by decide), decide_eq_true (by simp only [PyData.depth]; omega)]; rfl
  rw [deq_dat (n := 64) (m := 2) (show Dat 64 M (.tup l) (.tuple ps) from hp) (.tup .nil) (by decide) (by decide) hsh (by decide)]
  have hl : ps.isEmpty = l.isEmpty := by
    have := (a 63 (by omega)).1 (by decide)
    cases l with
    | nil => simp only [pds] at this; cases this; rfl
    | cons x l =>
      simp only [pds] at this
      split at this
      · split at this
        · cases this; rfl
        · cases this
      · cases this
  rw [← hl]
  cases ps <;> simp [PyData.eqv, PyData.eqvAll]
theorem plb_wf {M : Hm} : ∀ (n : Nat) (d : D), dv d ≤ n → plb d = true → wv d ≤ 1000000 → Wf M d := by
  have hLN : LN = 16777216 := rfl
  have lens : ∀ l : List D, 2 * l.length ≤ wvs l := fun l => by
    induction l with
    | nil => exact Nat.le_refl _
    | cons x l ih => simp only [wvs, List.length_cons]; omega
  intro n
  induction n with
  | zero =>
    intro d hd hp hw
    cases d with
    | non => exact .non
    | bl b => exact .bl b
    | int i => exact .int i
    | str s => exact .str s (by simp only [wv] at hw; omega)
    | tup l => simp only [dv] at hd; omega
    | _ => cases hp
  | succ n ih =>
    intro d hd hp hw
    cases d with
    | non => exact .non
    | bl b => exact .bl b
    | int i => exact .int i
    | str s => exact .str s (by simp only [wv] at hw; omega)
    | tup l =>
      simp only [wv] at hw
      simp only [dv] at hd
      have := lens l
      exact .tup l (fun x hx => ih x (by have := dvs_mem hx; omega) (plbs_mem hp x hx) (by have := wvs_mem hx; omega)) (by omega)
    | _ => cases hp
theorem take_drop {l : List D} {k : Nat} (h : k < l.length) : l = l.take k ++ l[k] :: l.drop (k + 1) := by
  rw [List.getElem_cons_drop]; exact (List.take_append_drop k l).symm
theorem bent_wp (G : Has g) : ∀ (k : Nat) (v : D) (n m p : Nat) (M : Hm), plb v = true → dv v ≤ 40 → wv v ≤ 500000 → k + 10 ≤ n → k ≤ 8 → Pool M p m → m + 4 * k ≤ 400000000 →
    (callF g n "_law_bent" [.ref p, v, .int k] M).wp fun d M' => Bt p M' v d ∧ Pool M' p (m + 4 * (k + 1)) ∧ Ext p M M' := by
  have hLN : LN = 16777216 := rfl
  intro k
  induction k with
  | zero =>
    intro v n m p M hp hd hw hn hk8 hP hm
    refine call_wp' G.bent (by omega) rfl (by decide) ?_
    show (exB (callF g (n - 1)) g d__law_bent.body [some (.ref p), some v, some (.int (0 : Nat)), none, none] M).wp _
    have odd := odd_wp G (n := n - 1) (by omega) hP (by omega)
    have fin : (callF g (n - 1) "_law_odd" [.ref p] M).wp fun d M' => Bt p M' v d ∧ Pool M' p (m + 4 * (0 + 1)) ∧ Ext p M M' := odd.mono fun d M' ⟨a, b, c⟩ => ⟨a.bt, b.le (by omega), c⟩
    rcases isTup (plb_wf _ v (Nat.le_refl _) hp (by omega) (M := M)) with ⟨l, rfl, _, _⟩ | ⟨h, _⟩
    · have hu := deq_unit (M := M) hp (by omega)
      cases hl : l.isEmpty with
      | true =>
        rw [hl] at hu
        refine bcons_wp (fun ρ M' => False) ?_ fun ρ M' h => h.elim
        simp! only [hu, G.odd]
        exact ⟨by decide, fin⟩
      | false =>
        rw [hl] at hu
        refine bcons_wp (fun ρ M' => False) ?_ fun ρ M' h => h.elim
        simp! only [hu, G.odd]
        exact ⟨by decide, fin⟩
    · refine bcons_wp (fun ρ M' => False) ?_ fun ρ M' h => h.elim
      simp! only [h, G.odd]
      exact fin
  | succ k ih =>
    intro v n m p M hp hd hw hn hk8 hP hm
    refine call_wp' G.bent (by omega) rfl (by decide) ?_
    show (exB (callF g (n - 1)) g d__law_bent.body [some (.ref p), some v, some (.int (k + 1 : Nat)), none, none] M).wp _
    have fin : ∀ M1, Pool M1 p (m + 1) → Ext p M M1 → (callF g (n - 1) "_law_odd" [.ref p] M1).wp fun d M' => Bt p M' v d ∧ Pool M' p (m + 4 * (k + 1 + 1)) ∧ Ext p M M' := fun M1 p1 x1 => (odd_wp G (by omega) p1 (by omega)).mono fun d M' ⟨a, b, c⟩ => ⟨a.bt, b.le (by omega), x1.trans c⟩
    have fin0 := fin M (hP.le (by omega)) .refl
    refine bcons_wp (fun ρ M1 => (∃ l, v = .tup l ∧ l ≠ []) ∧ ρ = [some (.ref p), some v, some (.int (k + 1 : Nat)), none, none] ∧ Pool M1 p (m + 1) ∧ Ext p M M1) ?_ fun ρ M1 ⟨⟨l, ev, hne⟩, e, p1, x1⟩ => ?_
    · rcases isTup (plb_wf _ v (Nat.le_refl _) hp (by omega) (M := M)) with ⟨l, rfl, _, _⟩ | ⟨h, _⟩
      · have hu := deq_unit (M := M) hp (by omega)
        cases hl : l.isEmpty with
        | true =>
          rw [hl] at hu
          simp! only [hu, G.odd]
          exact ⟨by decide, fin0⟩
        | false =>
          rw [hl] at hu
          have ck : (((k + 1 : Nat) : Int) == 0) = false := by rw [beq_eq_false_iff_ne]; omega
          simp! only [hu, ck, G.odd, G.draw]
          refine ⟨by decide, ?_⟩
          refine (draw_at G.draw (by omega) hP (by decide) (by decide) (by omega)).mono fun d M1 ⟨r, e, r0, r1, p1, x1, l1⟩ => ?_
          subst e
          simp! only [G.odd]
          refine cnd_by (fun hc => ?_) fun hc => ?_
          · exact fin M1 p1 x1
          · exact ⟨⟨l, rfl, by rintro rfl; cases hl⟩, p1, x1⟩
      · simp! only [h, G.odd]
        exact fin0
    subst ev e
    have hl1 : 1 ≤ l.length := by cases l with
      | nil => exact absurd rfl hne
      | cons x l => simp
    have lens : ∀ l : List D, 2 * l.length ≤ wvs l := fun l => by
      induction l with
      | nil => exact Nat.le_refl _
      | cons x l ih => simp only [wvs, List.length_cons]; omega
    have hll := lens l
    have hpl : plbs l = true := hp
    simp only [wv] at hw
    simp only [dv] at hd
    have hlb : bits (l.length : Int) < 9000 := by
      have : bits (l.length : Int) ≤ 20 := bits_le (by omega) (by omega)
      omega
    refine bcons_wp (fun ρ M2 => ∃ (w : Int) (j : Nat), ρ = [some (.ref p), some (.tup l), some (.int (k + 1 : Nat)), some (.int w), some (.int j)] ∧ 0 ≤ w ∧ w < 8 ∧ j < l.length ∧ Pool M2 p (m + 3) ∧ Ext p M M2) ?_ fun ρ M2 ⟨w, j, e, w0, w8, hj, p2, x2⟩ => ?_
    · simp! only [G.draw]
      refine (draw_at G.draw (by omega) p1 (by decide) (by decide) (by omega)).mono fun d M3 ⟨r, e, r0, r1, p3, x3, l3⟩ => ?_
      subst e
      refine (draw_at G.draw (by omega) p3 (by omega) hlb (by omega)).mono fun d M4 ⟨r', e, r0', r1', p4, x4, l4⟩ => ?_
      subst e
      refine ⟨by decide, r, r'.toNat, by rw [show ((r'.toNat : Nat) : Int) = r' by omega], r0, r1, by omega, p4, x1.trans (x3.trans x4)⟩
    subst e
    have hk1 : cut l none (some (j : Int)) = l.take j := cut_to (by omega)
    have hk2 : cut l (some ((j : Int) + 1)) none = l.drop (j + 1) := cut_from (k := j + 1) (by omega)
    have hk3 : cut l (some (j : Int)) none = l.drop j := cut_from (by omega)
    have wl : ∀ {M : Hm}, ∀ x ∈ l, Wf M x := fun x hx => plb_wf _ x (Nat.le_refl _) (plbs_mem hpl x hx) (by have := wvs_mem hx; omega)
    have htd := take_drop hj
    have e1 : wvs l = wvs (l.take j) + (wv l[j] + 2 + wvs (l.drop (j + 1))) := by
      have h : wvs l = wvs (l.take j ++ l[j] :: l.drop (j + 1)) := congrArg wvs htd
      rw [wvs_app] at h
      simpa only [wvs] using h
    have e2 : dvs l = max (dvs (l.take j)) (max (dv l[j]) (dvs (l.drop (j + 1)))) := by
      have h : dvs l = dvs (l.take j ++ l[j] :: l.drop (j + 1)) := congrArg dvs htd
      rw [dvs_app] at h
      simpa only [dvs] using h
    have e3 : plbs (l.take j) = true ∧ plb l[j] = true ∧ plbs (l.drop (j + 1)) = true := by
      have h : plbs l = plbs (l.take j ++ l[j] :: l.drop (j + 1)) := congrArg plbs htd
      rw [hpl, plbs_app] at h
      simp only [plbs] at h
      have h := h.symm
      simp only [Bool.and_eq_true] at h
      exact h
    have f1 : wvs l = wvs (l.take j) + wvs (l.drop j) := by
      have h : wvs l = wvs (l.take j ++ l.drop j) := congrArg wvs (List.take_append_drop j l).symm
      rwa [wvs_app] at h
    have f2 : dvs l = max (dvs (l.take j)) (dvs (l.drop j)) := by
      have h : dvs l = dvs (l.take j ++ l.drop j) := congrArg dvs (List.take_append_drop j l).symm
      rwa [dvs_app] at h
    have f3 : plbs (l.drop j) = true := by
      have h : plbs l = plbs (l.take j ++ l.drop j) := congrArg plbs (List.take_append_drop j l).symm
      rw [hpl, plbs_app, e3.1, Bool.true_and] at h
      exact h.symm
    have wt : ∀ {M : Hm}, ∀ x ∈ l.take j, Wf M x := fun x hx => wl x (List.mem_of_mem_take hx)
    have wd : ∀ {M : Hm} (i : Nat), ∀ x ∈ l.drop i, Wf M x := fun i x hx => wl x (List.mem_of_mem_drop hx)
    have p2' := p2.le (show m + 3 ≤ m + 4 * (k + 1 + 1) by omega)
    -- a plain tuple
    have plain : ∀ {M' : Hm} (r : List D), plbs r = true → wvs r ≤ wvs l → dvs r ≤ dvs l → (∀ x ∈ r, Wf M' x) → Bt p M' (.tup l) (.tup r) := fun {M'} r h1 h2 h3 h4 => by
      obtain ⟨q, hq⟩ := pl_sh (P := p) (.tup r) h1
      have := lens r
      refine ⟨.tup r h4 (by omega), by simp only [wv]; omega, 0, q, _, (hq M').le (by simp only [dv]; omega) (Nat.le_refl _), by simp only [wv]; omega, by decide⟩
    -- one value among the others
    have mid : ∀ {M' : Hm} (a b : List D) (x : D) (kk nn : Nat) (q : PyData) (u : Nat), plbs a = true → plbs b = true → dvs a ≤ dvs l → dvs b ≤ dvs l → Sh p kk nn M' x q u → nn ≤ dvs l + 6 → kk ≤ 2 → wvs a + (u + 2 + wvs b) + 3 ≤ wvs l + 3 + 400 → wvs a + (wv x + 2 + wvs b) + 3 ≤ wvs l + 3 + 300 → Wf M' x → (∀ y ∈ a, Wf M' y) → (∀ y ∈ b, Wf M' y) → (a ++ [x] ++ b).length ≤ 1000000 → Bt p M' (.tup l) (.tup (a ++ [x] ++ b)) := fun {M'} a b x kk nn q u ha hb hda hdb hs hnn hkk hu hwx hx hwa hwb hlen => by
      obtain ⟨ps, hps⟩ := shs_mid (n := dvs l + 6) ha hb (hs.le hnn (Nat.le_refl _)) hkk (by omega) (by omega)
      have ee : a ++ [x] ++ b = a ++ x :: b := by simp
      rw [ee] at hlen ⊢
      refine ⟨.tup _ (fun y hy => ?_) (by omega), by simp only [wv, wvs_app, wvs]; omega, kk, _, _, (Sh.tup hps).le (by simp only [dv]; omega) (Nat.le_refl _), by simp only [wv]; omega, hkk⟩
      rcases List.mem_append.mp hy with h | h
      · exact hwa y h
      · rcases List.mem_cons.mp h with rfl | h
        · exact hx
        · exact hwb y h
    have hw8 : w = 0 ∨ w = 1 ∨ w = 2 ∨ w = 3 ∨ 3 < w := by omega
    have hPq : p < M2.length := p2.lt
    rcases hw8 with rfl | rfl | rfl | rfl | hw4
    · simp! only [seq?]
      obtain ⟨ps, hs⟩ := pls_sh (P := p) l hpl
      have h2 : Bt p (M2 ++ [.lst l]) (.tup l) (.ref M2.length) := ⟨.lst _ _ len_new, Nat.zero_le _, 1, _, _, (Sh.lst len_new (by omega) (hs _)).le (by simp only [dv]; omega) (Nat.le_refl _), by simp only [wv]; omega, by decide⟩
      exact ⟨h2, p2'.grow .one, x2.trans Grow.one.ext⟩
    · simp! only [hk1, hk2, List.length_take, List.length_drop]
      exact ⟨by omega, plain _ (by rw [plbs_app, e3.1, e3.2.2]; rfl) (by rw [wvs_app]; omega) (by rw [dvs_app]; omega) (wf_app wt (wd _)), p2', x2⟩
    · simp! only [hk1, hk3, G.odd]
      refine (odd_wp G (by omega) p2 (by omega)).mono fun d M3 ⟨od, p3, x3⟩ => ?_
      obtain ⟨od1, od2, kk, q, u, hs, hu, hkk⟩ := od
      have hlen : (l.take j ++ [d] ++ l.drop j).length ≤ 1000000 := by simp; omega
      refine ⟨by decide, by simp; omega, by simp; omega, mid (l.take j) (l.drop j) d kk 5 q u e3.1 f3 (by omega) (by omega) hs (by omega) hkk (by omega) (by omega) od1 wt (wd _) hlen, p3.le (by omega), x2.trans x3⟩
    · simp! only []
      have hr : ∀ l : List D, plbs l.reverse = plbs l ∧ wvs l.reverse = wvs l ∧ dvs l.reverse = dvs l := fun l => by
        induction l with
        | nil => exact ⟨rfl, rfl, rfl⟩
        | cons x l ih =>
          obtain ⟨a, b, c⟩ := ih
          refine ⟨by rw [List.reverse_cons, plbs_app, a]; (simp only [plbs, Bool.and_true]; exact Bool.and_comm _ _), by rw [List.reverse_cons, wvs_app, b]; simp only [wvs]; omega, by rw [List.reverse_cons, dvs_app, c]; simp only [dvs]; omega⟩
      obtain ⟨a, b, c⟩ := hr l
      exact ⟨plain _ (by rw [a]; exact hpl) (by omega) (by omega) (fun x hx => wl x (List.mem_reverse.mp hx)), p2', x2⟩
    · have c0 : (w == 0) = false := by rw [beq_eq_false_iff_ne]; omega
      have c1 : (w == 1) = false := by rw [beq_eq_false_iff_ne]; omega
      have c2 : (w == 2) = false := by rw [beq_eq_false_iff_ne]; omega
      have c3 : (w == 3) = false := by rw [beq_eq_false_iff_ne]; omega
      have hat : at? l (j : Int) = some l[j] := by rw [at_nat hj, List.getElem?_eq_getElem hj]
      simp! only [hk1, hk2, c0, c1, c2, c3, hat, G.bent]
      rw [show ((k + 1 : Nat) : Int) - 1 = (k : Nat) by omega]
      have hj1 := wvs_mem (List.getElem_mem hj)
      have hj2 := dvs_mem (List.getElem_mem hj)
      refine (ih l[j] (n - 1) (m + 3) p M2 e3.2.1 (by omega) (by omega) (by omega) (by omega) p2 (by omega)).mono fun d M3 ⟨bt, p3, x3⟩ => ?_
      obtain ⟨bt1, bt2, kk, q, u, hs, hu, hkk⟩ := bt
      have hlen : (l.take j ++ [d] ++ l.drop (j + 1)).length ≤ 1000000 := by simp; omega
      refine ⟨by decide, by simp; omega, by simp; omega, mid (l.take j) (l.drop (j + 1)) d kk (dv l[j] + 6) q u e3.1 e3.2.2 (by omega) (by omega) hs (by omega) hkk (by omega) (by omega) bt1 wt (wd _) hlen, p3.le (by omega), x2.trans x3⟩
theorem Bt.vt {p : Nat} {M : Hm} {v d : D} (h : Bt p M v d) (hd : dv v ≤ 40) (hw : wv v ≤ 500000) : Vt p M d := by
  obtain ⟨a, b, k, q, w, hs, hu, hkk⟩ := h
  exact ⟨a, by omega, k, dv v + 6, q, w, hs, by omega, by omega⟩
theorem plain_vt {p : Nat} {M : Hm} {v : D} (h : plb v = true) (hd : dv v ≤ 40) (hw : wv v ≤ 500000) : Vt p M v := by
  obtain ⟨q, hq⟩ := pl_sh (P := p) v h
  exact ⟨plb_wf _ v (Nat.le_refl _) h (by omega), by omega, 0, _, q, _, hq M, by omega, by omega⟩
theorem chars_plb : ∀ s : S, (∀ c ∈ s, 97 ≤ c ∧ c ≤ 122) → plbs (s.map fun c => D.str [c]) = true ∧ dvs (s.map fun c => D.str [c]) = 0 ∧ wvs (s.map fun c => D.str [c]) = 8 * s.length
  | [], _ => ⟨rfl, rfl, rfl⟩
  | c :: s, hh => by
    obtain ⟨x, y, z⟩ := chars_plb s fun c' hc' => hh c' (by simp [hc'])
    have hw : StepW [c] := ⟨by simp, by simp, fun c' hc' => by rw [List.mem_singleton.mp hc']; exact hh c (by simp)⟩
    exact ⟨by simp only [List.map_cons, plbs, plb_word hw, x, Bool.and_self], by simp only [List.map_cons, dvs, dv, y]; rfl, by simp only [List.map_cons, wvs, wv, z, List.length_cons, List.length_nil]; omega⟩
theorem right_wp (G : Has g) {n p : Nat} {M : Hm} (hn : 60 ≤ n) (hp : Pool M p 0) : (callF g n "_law_right" [.ref p] M).wp fun d _ => d = .bl true := by
  refine call_wp' G.right (by omega) rfl (by decide) ?_
  have hLN : LN = 16777216 := rfl
  show (exB (callF g (n - 1)) g d__law_right.body [some (.ref p), none, none, none] M).wp _
  refine bcons_wp (fun ρ M2 => ∃ (q : Nat) (ws : List S), ρ = [some (.ref p), some (.ref q), none, none] ∧ M2[q]? = some (.lst (ws.map .str)) ∧ (∀ w ∈ ws, StepW w) ∧ 1 ≤ ws.length ∧ ws.length ≤ 8 ∧ Pool M2 p 20 ∧ q ≠ p) ?_ fun ρ M2 ⟨q, ws, e, hq, hok, hl1, hl8, p2, hqp⟩ => ?_
  · simp! only [G.draw, G.words]
    refine (draw_at G.draw (by omega) hp (by decide) (by decide) (by omega)).mono fun d M1 ⟨r, e, r0, r1, p1, x1, l1⟩ => ?_
    subst e
    simp! only []
    refine (words_at G.words G.draw (by omega) p1 (by omega) (by omega) (by omega)).mono fun d M2 ⟨q, ws, e, hq, hl, hok, p2, x2, hqm⟩ => ?_
    subst e
    exact ⟨q, ws, rfl, hq, hok, by omega, by omega, p2.le (by omega), by have := p1.lt; omega⟩
  subst e
  refine bcons_wp (fun ρ M3 => ∃ t, ρ = [some (.ref p), some (.ref q), some (enc t), none] ∧ PlanOk t ∧ Pool M3 p 110000) ?_ fun ρ M3 ⟨t, e, hP, p3⟩ => ?_
  · simp! only [G.draw, G.tree]
    refine (draw_at G.draw (by omega) p2 (by decide) (by decide) (by omega)).mono fun d M3 ⟨r, e, r0, r1, p3, x3, l3⟩ => ?_
    subst e
    simp! only [G.tree]
    refine (tree_at G.tree G.often G.draw (by omega) (by decide) (by omega) (by omega) hok hqp (by omega) (by omega) p3 (x3.get hq hqp) (by decide) (by decide) (by omega)).mono fun d M4 ⟨t, e, T, p4, x4⟩ => ?_
    subst e
    exact ⟨t, rfl, T.planOk (by omega) (by decide) (by omega), p4.le (by omega)⟩
  subst e
  obtain ⟨a1, a2, a3, a4⟩ := plb_enc t hP.good
  have hdl := hP.dep
  have hlv := hP.leaves
  have h480 : (lvs t).length * dep t ≤ 60 * 8 := Nat.mul_le_mul hlv hdl
  have vt : ∀ M, Vt p M (enc t) := fun M => plain_vt a1 (by omega) (by omega)
  have hpt : isPlanD (enc t) = true := by rw [isPlan_good hP.good]; exact decide_eq_true ⟨hdl, hlv, hP.steps⟩
  refine bcons_wp (fun ρ M4 => ρ = [some (.ref p), some (.ref q), some (enc t), none] ∧ Pool M4 p 110000) ?_ fun ρ M4 ⟨e, p4⟩ => ?_
  · simp! only [G.is_tree, G.told]
    refine (is_tree_any G (by omega) (vt M3).1 (vt M3).2.1).mono fun d M4 ⟨e, g4⟩ => ?_
    rw [hpt] at e
    subst e
    simp! only [G.told]
    refine (told_any G (by omega) (vt M4)).mono fun d M5 ⟨e, g5⟩ => ?_
    subst e
    simp! only []
    exact p3.grow (g4.trans g5)
  subst e
  refine bcons_wp (fun ρ M5 => ∃ z3 m, ρ = [some (.ref p), some (.ref q), some (enc t), z3] ∧ Pool M5 p m) ?_ fun ρ M5 ⟨z3, m5, e, p5⟩ => ?_
  · simp! only []
    have h12 : ((12 : Int) - 0).toNat = 12 := rfl
    generalize ((12 : Int) - 0).toNat = N12 at h12 ⊢
    refine ⟨by decide, ?_⟩
    refine for_ix (fun k ρ M' => ∃ z3, ρ = [some (.ref p), some (.ref q), some (enc t), z3] ∧ Pool M' p (110000 + 50 * k)) ⟨_, rfl, p4⟩ (fun k x ρ M' hx ⟨z3, e, p'⟩ => ?_) (fun ρ M' ⟨z3, e, p'⟩ => ?_)
    · subst e
      obtain ⟨rfl, hk⟩ := rng_at hx
      refine ⟨rfl, ?_⟩
      rw [e_tname]
      refine ⟨by simp, ?_⟩
      have hb := bent_wp G 8 (enc t) (n - 1) (110000 + 50 * k) p M' a1 (by omega) (by omega) (by omega) (by decide) p' (by omega)
      simp! only [G.bent, G.told, G.odd]
      refine hb.mono fun d M6 ⟨bt, p6, x6⟩ => ?_
      refine (told_any G (by omega) (bt.vt (by omega) (by omega))).mono fun d' M7 ⟨e, g7⟩ => ?_
      subst e
      simp! only [G.told, G.odd]
      refine (odd_wp G (by omega) (p6.grow g7) (by omega)).mono fun d'' M8 ⟨od, p8, x8⟩ => ?_
      refine (told_any G (by omega) od.vt).mono fun d' M9 ⟨e, g9⟩ => ?_
      subst e
      simp! only []
      exact ⟨_, rfl, (p8.grow g9).le (by omega)⟩
    · subst e
      exact ⟨rfl, _, _, rfl, p'⟩
  subst e
  have vtup : ∀ M, Vt p M (.tup [enc t]) := fun M => plain_vt (by simp only [plb, plbs, a1, Bool.and_true]) (by simp only [dv, dvs]; omega) (by simp only [wv, wvs]; omega)
  have fin : ∀ M1 q1 L, M1[q1]? = some (.lst L) → q1 ≠ p → plbs L = true → dvs L ≤ 40 → wvs L ≤ 500000 → (callF g (n - 1) "_law_told_right" [.ref q1] M1).wp fun x M' => tst M' x fun t' => cnd (t' = true) (1 ≤ LN ∧ (callF g (n - 1) "_law_told_right" [.tup [enc t]] M').wp fun d _ => d = .bl true) (x = .bl true) := fun M1 q1 L h1 h2 h3 h4 h5 => by
    obtain ⟨ps, hs⟩ := pls_sh (P := p) L h3
    have v1 : Vt p M1 (.ref q1) := ⟨.lst _ _ h1, Nat.zero_le _, 1, dvs L + 1, _, _, Sh.lst h1 h2 (hs _), by omega, by omega⟩
    refine (told_any G (by omega) v1).mono fun d M2 ⟨e, g2⟩ => ?_
    subst e
    simp! only []
    exact ⟨by decide, (told_any G (by omega) (vtup M2)).mono fun d M3 ⟨e, _⟩ => e⟩
  have hpl : p < M5.length := p5.lt
  cases t with
  | leaf s =>
    have hs := hP.good
    have e : enc (.leaf s) = .str s := rfl
    have hsl := hs.2.1
    have hm := chars_plb s hs.2.2
    rw [e] at fin ⊢
    simp! only [G.told]
    refine ⟨by omega, fin _ _ _ len_new (by omega) hm.1 (by omega) (by omega)⟩
  | no u =>
    have e : enc (.no u) = .tup [.str [110, 111, 116], enc u] := rfl
    rw [e] at fin a1 a2 a3 ⊢
    simp! only [G.told]
    exact fin _ _ _ len_new (by omega) a1 (by simp only [dv] at a2; omega) (by simp only [wv] at a3; omega)
  | rep b u j =>
    obtain ⟨l, e⟩ : ∃ l, enc (.rep b u j) = .tup l := ⟨_, rfl⟩
    rw [e] at fin a1 a2 a3 ⊢
    simp! only [G.told]
    exact fin _ _ _ len_new (by omega) a1 (by simp only [dv] at a2; omega) (by simp only [wv] at a3; omega)
  | grp b u =>
    obtain ⟨l, e⟩ : ∃ l, enc (.grp b u) = .tup l := ⟨_, rfl⟩
    rw [e] at fin a1 a2 a3 ⊢
    simp! only [G.told]
    exact fin _ _ _ len_new (by omega) a1 (by simp only [dv] at a2; omega) (by simp only [wv] at a3; omega)
theorem law_true (G : Has g) (ns : List Int) (hl : ns.length ≤ 63) : ∃ M, callF g 100 "law" [.rol (ns.map .int)] [] = .ok (.bl true) M := by
  refine wp_true (call_wp' G.law (by decide) rfl (by decide) ?_)
  show (exB (callF g 99) g d_law.body [some (.rol (ns.map .int)), none] []).wp _
  rw [show d_law.body = .cons (.ret (driveE 1 5)) .nil from rfl, e_bcons, e_ret]
  exact drive_wp 1 (by decide) (by decide) (by rw [G.right]; rfl) G.pool G.cell rfl (by simp) (by decide) hl (fun M p hp => right_wp G (by decide) hp) fun M' => rfl
end K01
end Rp

namespace Lw
open Rp
theorem has : K01.Has gg := by repeat' (first | rfl | decide | constructor)
theorem law_true (ns : List Int) (h : ns.length ≤ 63) : ∃ M, callF gg 100 "law" [.rol (ns.map .int)] [] = .ok (.bl true) M := K01.law_true has ns h
end Lw

open PySem PySem.W PyProof.Rows Rp in
set_option maxHeartbeats 0 in
theorem PySem.Challenge.cw_retryplans_k01_plans_among_any_values_holds : PySem.Challenge.rw_retryplans_k01_plans_among_any_values.Holds := by
  w_on; o_law; k_head; (case hw => w_witness2)
  k_fill
  refine walk_g (l := PySem.Challenge.rw_retryplans_k01_plans_among_any_values) (n := 63) (k := 100) (f := "law") (dd := Lw.d_law) (g := Lw.gg) rfl (by decide) rfl ⟨rfl, by decide, by decide⟩ rfl (fun w h Y => PySem.W.kIn_of Y) rfl ?T rfl Lw.law_true
  case T =>
    intro w mg h KX G XP
    refine Lw.law_text ?bl ?fs ?cs
    case bl =>
      refine (rpC ?rpb0 (rpC ?rpb1 (rpC ?rpb2 (rpC ?rpb3 (rpC ?rpb4 (rpC ?rpb5 (rpC ?rpb6 (rpC ?rpb7 (rpC ?rpb8 (rpC ?rpb9 (rpC ?rpb10 (rpC ?rpb11 (rpC ?rpb12 (rpC ?rpb13 (rpC ?rpb14 (rpC ?rpb15 (rpC ?rpb16 (rpC ?rpb17 (rpC ?rpb18 (rpC ?rpb19 (rpC ?rpb20 rpN)))))))))))))))))))))
      case rpb0 => (refine PySem.W.mg_none_of KX G ?_; k_is)
      case rpb1 => (refine PySem.W.mg_none_of KX G ?_; k_is)
      case rpb2 => (refine PySem.W.mg_none_of KX G ?_; k_is)
      case rpb3 => (refine PySem.W.mg_none_of KX G ?_; k_is)
      case rpb4 => (refine PySem.W.mg_none_of KX G ?_; k_is)
      case rpb5 => (refine PySem.W.mg_none_of KX G ?_; k_is)
      case rpb6 => (refine PySem.W.mg_none_of KX G ?_; k_is)
      case rpb7 => (refine PySem.W.mg_none_of KX G ?_; k_is)
      case rpb8 => (refine PySem.W.mg_none_of KX G ?_; k_is)
      case rpb9 => (refine PySem.W.mg_none_of KX G ?_; k_is)
      case rpb10 => (refine PySem.W.mg_none_of KX G ?_; k_is)
      case rpb11 => (refine PySem.W.mg_none_of KX G ?_; k_is)
      case rpb12 => (refine PySem.W.mg_none_of KX G ?_; k_is)
      case rpb13 => (refine PySem.W.mg_none_of KX G ?_; k_is)
      case rpb14 => (refine PySem.W.mg_none_of KX G ?_; k_is)
      case rpb15 => (refine PySem.W.mg_none_of KX G ?_; k_is)
      case rpb16 => (refine PySem.W.mg_none_of KX G ?_; k_is)
      case rpb17 => (refine PySem.W.mg_none_of KX G ?_; k_is)
      case rpb18 => (refine PySem.W.mg_none_of KX G ?_; k_is)
      case rpb19 => (refine PySem.W.mg_none_of KX G ?_; k_is)
      case rpb20 => (refine PySem.W.mg_none_of KX G ?_; k_is)
    case fs =>
      refine (rpC ?rpf0 (rpC ?rpf1 (rpC ?rpf2 (rpC ?rpf3 (rpC ?rpf4 (rpC ?rpf5 (rpC ?rpf6 (rpC ?rpf7 (rpC ?rpf8 (rpC ?rpf9 (rpC ?rpf10 (rpC ?rpf11 (rpC ?rpf12 (rpC ?rpf13 (rpC ?rpf14 (rpC ?rpf15 (rpC ?rpf16 (rpC ?rpf17 (rpC ?rpf18 rpN)))))))))))))))))))
      case rpf0 => (refine' DefAt.of KX G Lw.ok_is_step ?rpa0 ?rpl0 ?rpc0 ?rpk0; (case rpa0 => k_is); (case rpl0 => k_is); (case rpc0 => k_is); (case rpk0 => k_is))
      case rpf1 => (refine' DefAt.of KX G Lw.ok_is_integer ?rpa1 ?rpl1 ?rpc1 ?rpk1; (case rpa1 => k_is); (case rpl1 => k_is); (case rpc1 => k_is); (case rpk1 => k_is))
      case rpf2 => (refine' DefAt.of KX G Lw.ok_is_times ?rpa2 ?rpl2 ?rpc2 ?rpk2; (case rpa2 => k_is); (case rpl2 => k_is); (case rpc2 => k_is); (case rpk2 => k_is))
      case rpf3 => (refine' DefAt.of KX G Lw.ok_inner_values ?rpa3 ?rpl3 ?rpc3 ?rpk3; (case rpa3 => k_is); (case rpl3 => k_is); (case rpc3 => k_is); (case rpk3 => k_is))
      case rpf4 => (refine' DefAt.of KX G Lw.ok_written_steps ?rpa4 ?rpl4 ?rpc4 ?rpk4; (case rpa4 => k_is); (case rpl4 => k_is); (case rpc4 => k_is); (case rpk4 => k_is))
      case rpf5 => (refine' DefAt.of KX G Lw.ok_is_plan ?rpa5 ?rpl5 ?rpc5 ?rpk5; (case rpa5 => k_is); (case rpl5 => k_is); (case rpc5 => k_is); (case rpk5 => k_is))
      case rpf6 => (refine' DefAt.of KX G Lw.ok__law_cell ?rpa6 ?rpl6 ?rpc6 ?rpk6; (case rpa6 => k_is); (case rpl6 => k_is); (case rpc6 => k_is); (case rpk6 => k_is))
      case rpf7 => (refine' DefAt.of KX G Lw.ok__law_pool ?rpa7 ?rpl7 ?rpc7 ?rpk7; (case rpa7 => k_is); (case rpl7 => k_is); (case rpc7 => k_is); (case rpk7 => k_is))
      case rpf8 => (refine' DefAt.of KX G Lw.ok__law_draw ?rpa8 ?rpl8 ?rpc8 ?rpk8; (case rpa8 => k_is); (case rpl8 => k_is); (case rpc8 => k_is); (case rpk8 => k_is))
      case rpf9 => (refine' DefAt.of KX G Lw.ok__law_words ?rpa9 ?rpl9 ?rpc9 ?rpk9; (case rpa9 => k_is); (case rpl9 => k_is); (case rpc9 => k_is); (case rpk9 => k_is))
      case rpf10 => (refine' DefAt.of KX G Lw.ok__law_often ?rpa10 ?rpl10 ?rpc10 ?rpk10; (case rpa10 => k_is); (case rpl10 => k_is); (case rpc10 => k_is); (case rpk10 => k_is))
      case rpf11 => (refine' DefAt.of KX G Lw.ok__law_tree ?rpa11 ?rpl11 ?rpc11 ?rpk11; (case rpa11 => k_is); (case rpl11 => k_is); (case rpc11 => k_is); (case rpk11 => k_is))
      case rpf12 => (refine' DefAt.of KX G Lw.ok__law_steps ?rpa12 ?rpl12 ?rpc12 ?rpk12; (case rpa12 => k_is); (case rpl12 => k_is); (case rpc12 => k_is); (case rpk12 => k_is))
      case rpf13 => (refine' DefAt.of KX G Lw.ok__law_is_tree ?rpa13 ?rpl13 ?rpc13 ?rpk13; (case rpa13 => k_is); (case rpl13 => k_is); (case rpc13 => k_is); (case rpk13 => k_is))
      case rpf14 => (refine' DefAt.of KX G Lw.ok__law_odd ?rpa14 ?rpl14 ?rpc14 ?rpk14; (case rpa14 => k_is); (case rpl14 => k_is); (case rpc14 => k_is); (case rpk14 => k_is))
      case rpf15 => (refine' DefAt.of KX G Lw.ok__law_bent ?rpa15 ?rpl15 ?rpc15 ?rpk15; (case rpa15 => k_is); (case rpl15 => k_is); (case rpc15 => k_is); (case rpk15 => k_is))
      case rpf16 => (refine' DefAt.of KX G Lw.ok__law_told_right ?rpa16 ?rpl16 ?rpc16 ?rpk16; (case rpa16 => k_is); (case rpl16 => k_is); (case rpc16 => k_is); (case rpk16 => k_is))
      case rpf17 => (refine' DefAt.of KX G Lw.ok__law_right ?rpa17 ?rpl17 ?rpc17 ?rpk17; (case rpa17 => k_is); (case rpl17 => k_is); (case rpc17 => k_is); (case rpk17 => k_is))
      case rpf18 => (refine' DefAt.of KX G Lw.ok_law ?rpa18 ?rpl18 ?rpc18 ?rpk18; (case rpa18 => k_is); (case rpl18 => k_is); (case rpc18 => k_is); (case rpk18 => k_is))
    case cs =>
      refine (rpC ?rpg0 (rpC ?rpg1 (rpC ?rpg2 (rpC ?rpg3 (rpC ?rpg4 (rpC ?rpg5 rpN))))))
      case rpg0 => exact ConAt.loose XP ((List.Mem.head _))
      case rpg1 => (refine' ConAt.int KX G ?rpca1; (case rpca1 => k_is))
      case rpg2 => (refine' ConAt.int KX G ?rpca2; (case rpca2 => k_is))
      case rpg3 => (refine' ConAt.int KX G ?rpca3; (case rpca3 => k_is))
      case rpg4 => (refine' ConAt.str KX G ?rpca4 ?rpce4; (case rpca4 => k_is); (case rpce4 => decide +kernel))
      case rpg5 => (refine' ConAt.int KX G ?rpca5; (case rpca5 => k_is))

