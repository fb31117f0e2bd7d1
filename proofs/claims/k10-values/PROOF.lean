import PyProof.Rows.All
import PyProof.ReprReads
import HandS.ForMost
import HandS.Exc
import HandS.More
import HandS.IsInst
import HandS.Flow
import HandS.Wide
import HandS.Text
import HandS.TryMany
import HandS.TupAny
import HandS.Conv
import HandS.MapJoin
import HandS.Iter
import HandS.Comp
import HandS.SlotsVar
import KE.GoesMore
import KE.GoesEnum
import HandS.Zip
import HandS.SetKeys
import PyProof.Rows.SetFrom
import HandS.SetBool
import HandS.Ends
import HandS.HeadEnd
import HandS.Head2
import HandS.HeadHook2
import HandS.HeadHook4
import PyProof.ReprLen
import PyProof.Rows.RegStrFacts
import KE.KStateDown
import Wide.FinOn
import OpenK.AllK
import PySem.Challenge.RW_backfilled_k10_values_and_columns
set_option Elab.async false
section
/-! E0: pure data, the intermediate program text, its big-step evaluator. No model of Python here but PyData's eqv and shown. -/
set_option linter.all false
namespace Ev
open PySem

/-! ### data -/
/-- a value: tuples by structure, everything that changes by its number in the heap -/
inductive D where
  | non
  | bl (b : Bool)
  | int (i : Int)
  | str (s : List Nat)
  | tup (xs : List D)
  | ref (a : Nat)
  | nim
  | cls (c : Nat)
  | ty (t : Nat)
  | fn (f : Nat)
  /-- a list, a dict (keys, values), an instance (fields, values) that nothing changes any more -/
  | vl (xs : List D)
  | vd (ks vs : List D)
  | vi (c : Nat) (ns : List Nat) (vs : List D)
  | exv (c : Nat) (v : List D)
  | clo (f : Nat) (caps : List D)

/-- what stands in the heap -/
inductive O where
  | lst (xs : List D)
  | dic (kvs : List (D × D))
  | set (xs : List D)
  | ins (c : Nat) (fs : List (Nat × D))

structure Ob where
  o : O
  /-- locked: read, never written -/
  lk : Bool

abbrev Hp := List Ob
abbrev Loc := List (Option D)

mutual
def D.beq : D → D → Bool
  | .non, .non => true
  | .bl a, .bl b => a == b
  | .int a, .int b => decide (a = b)
  | .str a, .str b => decide (a = b)
  | .tup a, .tup b => D.beqs a b
  | .ref a, .ref b => decide (a = b)
  | .nim, .nim => true
  | .cls a, .cls b => decide (a = b)
  | .ty a, .ty b => decide (a = b)
  | .fn a, .fn b => decide (a = b)
  | .vl a, .vl b => D.beqs a b
  | .vd a x, .vd b y => D.beqs a b && D.beqs x y
  | .vi a m x, .vi b n y => decide (a = b) && (decide (m = n) && D.beqs x y)
  | .exv a x, .exv b y => decide (a = b) && D.beqs x y
  | .clo a x, .clo b y => decide (a = b) && D.beqs x y
  | _, _ => false
def D.beqs : List D → List D → Bool
  | [], [] => true
  | a :: x, b :: y => D.beq a b && D.beqs x y
  | _, _ => false
end
mutual
theorem D.beq_eq : ∀ a b : D, D.beq a b = true → a = b := by
  intro a b h
  match a, b, h with
  | .non, .non, _ => rfl
  | .bl a, .bl b, h => simp [D.beq] at h; rw [h]
  | .int a, .int b, h => simp [D.beq] at h; rw [h]
  | .str a, .str b, h => simp [D.beq] at h; rw [h]
  | .tup a, .tup b, h => rw [D.beq] at h; rw [D.beqs_eq a b h]
  | .ref a, .ref b, h => simp [D.beq] at h; rw [h]
  | .nim, .nim, _ => rfl
  | .cls a, .cls b, h => simp [D.beq] at h; rw [h]
  | .ty a, .ty b, h => simp [D.beq] at h; rw [h]
  | .fn a, .fn b, h => simp [D.beq] at h; rw [h]
  | .vl a, .vl b, h => rw [D.beq] at h; rw [D.beqs_eq a b h]
  | .vd a x, .vd b y, h =>
    rw [D.beq, Bool.and_eq_true] at h
    rw [D.beqs_eq a b h.1, D.beqs_eq x y h.2]
  | .vi a m x, .vi b n y, h =>
    rw [D.beq, Bool.and_eq_true, Bool.and_eq_true, decide_eq_true_eq, decide_eq_true_eq] at h
    rw [h.1, h.2.1, D.beqs_eq x y h.2.2]
  | .exv a x, .exv b y, h =>
    rw [D.beq, Bool.and_eq_true, decide_eq_true_eq] at h
    rw [h.1, D.beqs_eq x y h.2]
  | .clo a x, .clo b y, h =>
    rw [D.beq, Bool.and_eq_true, decide_eq_true_eq] at h
    rw [h.1, D.beqs_eq x y h.2]
theorem D.beqs_eq : ∀ a b : List D, D.beqs a b = true → a = b := by
  intro a b h
  match a, b, h with
  | [], [], _ => rfl
  | a :: x, b :: y, h =>
    rw [D.beqs, Bool.and_eq_true] at h
    rw [D.beq_eq a b h.1, D.beqs_eq x y h.2]
end
mutual
theorem D.beq_self : ∀ a : D, D.beq a a = true := by
  intro a
  match a with
  | .non => rfl
  | .bl a => simp [D.beq]
  | .int a => simp [D.beq]
  | .str a => simp [D.beq]
  | .tup a => rw [D.beq]; exact D.beqs_self a
  | .ref a => simp [D.beq]
  | .nim => rfl
  | .cls a => simp [D.beq]
  | .ty a => simp [D.beq]
  | .fn a => simp [D.beq]
  | .vl a => rw [D.beq]; exact D.beqs_self a
  | .vd a x => rw [D.beq, D.beqs_self a, D.beqs_self x]; rfl
  | .vi a m x => rw [D.beq, D.beqs_self x]; simp
  | .exv a x => rw [D.beq, D.beqs_self x]; simp
  | .clo a x => rw [D.beq, D.beqs_self x]; simp
theorem D.beqs_self : ∀ a : List D, D.beqs a a = true := by
  intro a
  match a with
  | [] => rfl
  | a :: x => rw [D.beqs, D.beq_self a, D.beqs_self x]; rfl
end
mutual
/-- no number of the heap is within -/
def D.pur : D → Bool
  | .ref _ => false
  | .nim => false
  | .tup a => D.purs a
  | .vl a => D.purs a
  | .vd a x => D.purs a && D.purs x
  | .vi _ _ x => D.purs x
  | .exv _ x => D.purs x
  | .clo _ x => D.purs x
  | _ => true
def D.purs : List D → Bool
  | [] => true
  | a :: x => D.pur a && D.purs x
end
theorem D.purs_all : ∀ {xs : List D}, D.purs xs = true ↔ ∀ x ∈ xs, D.pur x = true
  | [] => by simp [D.purs]
  | a :: x => by simp [D.purs, D.purs_all (xs := x)]
instance : DecidableEq D := fun a b => if h : D.beq a b = true then .isTrue (D.beq_eq a b h) else .isFalse fun e => h (e ▸ D.beq_self a)
instance : Inhabited D := ⟨.non⟩
end Ev
end
section
/-! E1: the intermediate text and its evaluator. -/
set_option linter.all false
namespace Ev
open PySem

/-! ### the text -/
inductive BOp where
  | add | sub | mul | fdiv | mod | pow
  deriving DecidableEq
inductive COp where
  | eq | ne | lt | le | gt | ge | is | isn | in_ | nin
  deriving DecidableEq
/-- built-in functions -/
inductive BF where
  | len | all | any | abs | min | max | repr | sorted | sum | ord | isi
  deriving DecidableEq
/-- built-in classes that are called -/
inductive BT where
  | int | bool | str | list | tuple | dict | set | listH
  deriving DecidableEq

mutual
inductive E where
  | loc (i : Nat)
  | con (d : D)
  | glo (g : Nat)
  | and (a b : E)
  | or (a b : E)
  | not (a : E)
  | neg (a : E)
  | bin (o : BOp) (a b : E)
  | cmp (o : COp) (a b : E)
  | cmp2 (o o2 : COp) (a b c : E)
  | ite (c a b : E)
  | tup (es : EL)
  /-- k: it is changed later -/
  | lst (k : Bool) (es : EL)
  | dic (k : Bool) (kvs : KL)
  | idx (a i : E)
  | sli (a : E) (lo hi : OE)
  | rev (a : E)
  | att (a : E) (f : Nat)
  | call (f : Nat) (es : EL)
  | mk (c : Nat) (es : EL)
  | met (a : E) (m : Nat) (es : EL)
  | bf (b : BF) (es : EL)
  | bt (b : BT) (es : EL)
  | app (a : E) (es : EL)
  | lc (k : Bool) (own : List Nat) (e : E) (t : T) (i : I) (c : EL)
  | sc (own : List Nat) (e : E) (t : T) (i : I) (c : EL)
  | dc (own : List Nat) (k v : E) (t : T) (i : I) (c : EL)
  | fst (es : EL)
  | lam (f : Nat) (caps : List Nat)
  /-- len(set(a)) -/
  | uln (a : E)
inductive EL where
  | nil
  | cons (star : Bool) (e : E) (r : EL)
inductive KL where
  | nil
  | cons (k v : E) (r : KL)
inductive OE where
  | no
  | yes (e : E)
inductive T where
  | loc (i : Nat)
  | tup (ts : TL)
  | att (e : E) (f : Nat)
  | sub (e i : E)
inductive TL where
  | nil
  | cons (t : T) (r : TL)
inductive I where
  | it (e : E)
  | rng (es : EL)
  | zip (a b : E)
  | enum (a : E)
  | items (a : E)
  | vals (a : E)
end
mutual
inductive S where
  | ex (e : E)
  | asg (t : T) (e : E)
  | par (is : List Nat) (es : EL)
  | aug (i : Nat) (o : BOp) (e : E)
  | augA (a : E) (f : Nat) (o : BOp) (e : E)
  | augS (a i : E) (o : BOp) (e : E)
  | ret (e : E)
  | if_ (c : E) (a b : SL)
  | whl (c : E) (b : SL)
  | for_ (t : T) (i : I) (b : SL)
  | brk
  | cnt
  | pas
  | rai (c : Nat) (es : EL)
  | tr (b : SL) (hs : HL)
  | mat (e : E) (cs : CL)
inductive SL where
  | nil
  | cons (s : S) (r : SL)
inductive HL where
  | nil
  | cons (cs : List Nat) (i : Option Nat) (b : SL) (r : HL)
inductive CL where
  | nil
  | cons (ds : List D) (b : SL) (r : CL)
  | dflt (b : SL)
end

structure Fn where
  np : Nat
  ns : Nat
  dfl : List D
  body : SL
  /-- behind a call all is dropped that the call made, but its result -/
  gc : Bool := false
structure Prog where
  fn : Nat → Option Fn
  meth : Nat → Nat → Option Nat
  prop : Nat → Nat → Option Nat
  glob : Nat → Option D
  /-- a class whose instances are values -/
  val : Nat → Bool
  /-- a class's ancestors among the program's own, itself first -/
  anc : Nat → List Nat
  /-- how many fields an exception's class has -/
  exc : Nat → Option Nat

/-! ### results -/
inductive R (α : Type) where
  | ok (a : α) (h : Hp)
  | exc (c : Nat) (v : List D) (h : Hp)
  | bad
inductive RS where
  | nxt (l : Loc) (h : Hp)
  | ret (d : D) (l : Loc) (h : Hp)
  | brk (l : Loc) (h : Hp)
  | cnt (l : Loc) (h : Hp)
  | exc (c : Nat) (v : List D) (l : Loc) (h : Hp)
  | bad
variable {α β : Type}
def R.bind (x : R α) (f : α → Hp → R β) : R β := match x with
  | .ok a h => f a h
  | .exc c v h => .exc c v h
  | .bad => .bad
@[simp] theorem R.bind_ok {a : α} {h : Hp} {f : α → Hp → R β} : (R.ok a h).bind f = f a h := rfl
@[simp] theorem R.bind_exc {c : Nat} {v : List D} {h : Hp} {f : α → Hp → R β} : (R.exc c v h : R α).bind f = .exc c v h := rfl
@[simp] theorem R.bind_bad {f : α → Hp → R β} : (R.bad : R α).bind f = .bad := rfl
def R.toS (x : R α) (l : Loc) (f : α → Hp → RS) : RS := match x with
  | .ok a h => f a h
  | .exc c v h => .exc c v l h
  | .bad => .bad
@[simp] theorem R.toS_ok {a : α} {h : Hp} {l : Loc} {f : α → Hp → RS} : (R.ok a h).toS l f = f a h := rfl
@[simp] theorem R.toS_exc {c : Nat} {v : List D} {h : Hp} {l : Loc} {f : α → Hp → RS} : (R.exc c v h : R α).toS l f = .exc c v l h := rfl
@[simp] theorem R.toS_bad {l : Loc} {f : α → Hp → RS} : (R.bad : R α).toS l f = .bad := rfl
def RS.bind (x : RS) (f : Loc → Hp → RS) : RS := match x with
  | .nxt l h => f l h
  | r => r
@[simp] theorem RS.bind_nxt {l : Loc} {h : Hp} {f : Loc → Hp → RS} : (RS.nxt l h).bind f = f l h := rfl
@[simp] theorem RS.bind_ret {d : D} {l : Loc} {h : Hp} {f : Loc → Hp → RS} : (RS.ret d l h).bind f = .ret d l h := rfl
@[simp] theorem RS.bind_brk {l : Loc} {h : Hp} {f : Loc → Hp → RS} : (RS.brk l h).bind f = .brk l h := rfl
@[simp] theorem RS.bind_cnt {l : Loc} {h : Hp} {f : Loc → Hp → RS} : (RS.cnt l h).bind f = .cnt l h := rfl
@[simp] theorem RS.bind_exc {c : Nat} {v : List D} {l : Loc} {h : Hp} {f : Loc → Hp → RS} : (RS.exc c v l h).bind f = .exc c v l h := rfl
@[simp] theorem RS.bind_bad {f : Loc → Hp → RS} : (RS.bad).bind f = .bad := rfl

/-! ### loops -/
inductive Turn (σ ρ : Type) where
  | go (s : σ)
  | stop (r : ρ)
section
variable {σ ρ : Type}
def iterN (f : σ → Turn σ ρ) : Nat → σ → Option ρ
  | 0, _ => none
  | n + 1, s => match f s with
    | .stop r => some r
    | .go s' => iterN f n s'
theorem iterN_mono {f : σ → Turn σ ρ} : ∀ {n m : Nat} {s : σ} {r : ρ}, n ≤ m → iterN f n s = some r → iterN f m s = some r := by
  intro n
  induction n with
  | zero => intro m s r _ h; simp [iterN] at h
  | succ n ih =>
    intro m s r hm h
    obtain ⟨k, rfl⟩ : ∃ k, m = k + 1 := ⟨m - 1, by omega⟩
    unfold iterN at h ⊢
    cases e : f s with
    | stop r' => rw [e] at h; exact h
    | go s' => rw [e] at h; exact ih (by omega) h
open Classical in
/-- the loop's end, or d if it has none -/
noncomputable def iter (f : σ → Turn σ ρ) (d : ρ) (s : σ) : ρ := if h : ∃ n r, iterN f n s = some r then h.choose_spec.choose else d
theorem iter_of {f : σ → Turn σ ρ} {d : ρ} {n : Nat} {s : σ} {r : ρ} (e : iterN f n s = some r) : iter f d s = r := by
  have h : ∃ n r, iterN f n s = some r := ⟨n, r, e⟩
  unfold iter
  rw [dif_pos h]
  have e2 := h.choose_spec.choose_spec
  have a := iterN_mono (Nat.le_max_left h.choose n) e2
  have b := iterN_mono (Nat.le_max_right h.choose n) e
  rw [a] at b
  exact Option.some.inj b
theorem iter_stop {f : σ → Turn σ ρ} {d : ρ} {s : σ} {r : ρ} (e : f s = .stop r) : iter f d s = r := iter_of (n := 1) (by unfold iterN; rw [e])
theorem iter_go {f : σ → Turn σ ρ} {d : ρ} {s s' : σ} (e : f s = .go s') : iter f d s = iter f d s' := by
  by_cases h : ∃ n r, iterN f n s' = some r
  · obtain ⟨n, r, hr⟩ := h
    rw [iter_of hr]
    refine iter_of (n := n + 1) ?_
    unfold iterN
    rw [e]
    exact hr
  · have h2 : ¬ ∃ n r, iterN f n s = some r := by
      rintro ⟨n, r, hr⟩
      cases n with
      | zero => simp [iterN] at hr
      | succ n =>
        unfold iterN at hr
        rw [e] at hr
        exact h ⟨n, r, hr⟩
    unfold iter
    rw [dif_neg h, dif_neg h2]
/-- either it ends after some turns, or it is d -/
theorem iter_cases (f : σ → Turn σ ρ) (d : ρ) (s : σ) : (∃ n, iterN f n s = some (iter f d s)) ∨ iter f d s = d := by
  by_cases h : ∃ n r, iterN f n s = some r
  · obtain ⟨n, r, hr⟩ := h
    exact .inl ⟨n, by rw [hr, iter_of hr]⟩
  · right
    unfold iter
    rw [dif_neg h]
end

/-! ### reading data -/
def mapO (f : α → Option β) : List α → Option (List β)
  | [] => some []
  | a :: r => match f a with
    | none => none
    | some b => (mapO f r).map (b :: ·)
/-- the datum that a value is, dicts too -/
def toPy (h : Hp) : Nat → D → Option PyData
  | _, .non => some .none
  | _, .bl b => some (.bool b)
  | _, .int i => some (.int i)
  | _, .str s => some (.str ⟨s.toArray⟩)
  | n + 1, .tup xs => (mapO (toPy h n) xs).map .tuple
  | n + 1, .vl xs => (mapO (toPy h n) xs).map .list
  | n + 1, .ref a => match h[a]? with
    | some ⟨.lst xs, _⟩ => (mapO (toPy h n) xs).map .list
    | _ => none
  | _, _ => none
def asStr (s : List Nat) : Str := ⟨s.toArray⟩
def ofStr (s : Str) : List Nat := s.cps.toList

def okLen (n : Nat) : Bool := decide (n ≤ sizeLine)
/-- truth, where it is plain -/
def truth (h : Hp) : D → Option Bool
  | .non => some false
  | .bl b => some b
  | .int i => some (i != 0)
  | .str s => if okLen s.length then some (!s.isEmpty) else none
  | .tup xs => some (!xs.isEmpty)
  | .vl xs => some (!xs.isEmpty)
  | .ref a => match h[a]? with
    | some ⟨.lst xs, _⟩ => some (!xs.isEmpty)
    | _ => none
  | _ => none

/-- a new object -/
def new (h : Hp) (o : O) : R D := .ok (.ref h.length) (h ++ [⟨o, false⟩])
/-- a store into an object that may be written -/
def put (h : Hp) (a : Nat) (o : O) : Option Hp := match h[a]? with
  | some ⟨_, false⟩ => some (h.set a ⟨o, false⟩)
  | _ => none

def idxN (n : Nat) (i : Int) : Option Nat := if 0 ≤ i then (if i < n then some i.toNat else none) else if -(n : Int) ≤ i then some (i + n).toNat else none
def atI (xs : List α) (i : Int) : Option α := (idxN xs.length i).bind fun j => xs[j]?
def cutIx (n d : Nat) : Option Int → Nat
  | none => d
  | some v => if v < 0 then (v + (n : Int)).toNat else min v.toNat n
def cut (xs : List α) (lo hi : Option Int) : List α := (xs.drop (cutIx xs.length 0 lo)).take (cutIx xs.length xs.length hi - cutIx xs.length 0 lo)

/-- keys of dicts: ints, texts, tuples of such at any depth up to 8; no bools -/
def keyOk : Nat → D → Bool
  | _, .int _ => true
  | _, .str _ => true
  | _, .non => true
  | n + 1, .tup xs => xs.all (keyOk n)
  | _, _ => false
def dget (kvs : List (D × D)) (k : D) : Option D := (kvs.find? fun p => decide (p.1 = k)).map (·.2)
def dput (kvs : List (D × D)) (k v : D) : List (D × D) := if kvs.any fun p => decide (p.1 = k) then kvs.map fun p => if p.1 = k then (p.1, v) else p else kvs ++ [(k, v)]
def ddel (kvs : List (D × D)) (k : D) : List (D × D) := kvs.filter fun p => !decide (p.1 = k)

/-- an object without numbers of the heap -/
def O.pur : O → Bool
  | .lst xs => D.purs xs
  | .dic kvs => D.purs (kvs.map (·.1)) && D.purs (kvs.map (·.2))
  | .set xs => D.purs xs
  | .ins _ fs => D.purs (fs.map (·.2))
/-- what was there is as it was, or without numbers -/
def GcOk (h h' : Hp) : Prop := ∀ i ob, h'[i]? = some ob → i < h.length → h[i]? = some ob ∨ ob.o.pur = true
/-- a result as a value -/
def frz (n : Nat) (h : Hp) (d : D) : Option D := if d.pur then some d else match d with
  | .ref a => if n ≤ a then (match h[a]? with
    | some ⟨.lst xs, false⟩ => if D.purs xs then some (.vl xs) else none
    | some ⟨.ins c fs, false⟩ => if D.purs (fs.map (·.2)) then some (.vi c (fs.map (·.1)) (fs.map (·.2))) else none
    | _ => none) else none
  | _ => none
open Classical in
/-- what was made since h is dropped -/
noncomputable def gcR (h : Hp) (r : R D) : R D := match r with
  | .ok d h' => if GcOk h h' ∧ h.length ≤ h'.length then (match frz h.length h' d with
    | some d' => .ok d' (h'.take h.length)
    | none => .bad) else .bad
  | .exc c v h' => if GcOk h h' ∧ h.length ≤ h'.length ∧ D.purs v = true then .exc c v (h'.take h.length) else .bad
  | .bad => .bad
def fput (fs : List (Nat × D)) (f : Nat) (v : D) : List (Nat × D) := match fs with
  | [] => [(f, v)]
  | p :: r => if p.1 = f then (f, v) :: r else p :: fput r f v
def fget (fs : List (Nat × D)) (f : Nat) : Option D := fs.lookup f
end Ev
end
section
/-! E2: the evaluator. -/
set_option linter.all false
namespace Ev
open PySem

/-! ### names that the evaluator knows -/
abbrev mContains : Nat := 0
abbrev mLen : Nat := 1
abbrev mBool : Nat := 2
abbrev mEq : Nat := 3
abbrev mSub : Nat := 4
abbrev mAdd : Nat := 5
abbrev mCall : Nat := 6
abbrev mGet : Nat := 7
abbrev mInit : Nat := 8
abbrev mAppend : Nat := 10
abbrev mExtend : Nat := 11
abbrev mPop : Nat := 12
abbrev mClear : Nat := 13
abbrev mInsert : Nat := 14
abbrev mIndex : Nat := 15
abbrev mSplit : Nat := 16
abbrev mJoin : Nat := 17
abbrev mDGet : Nat := 18
abbrev mSetdefault : Nat := 19
abbrev mUpdate : Nat := 20
abbrev mItems : Nat := 21
abbrev mValues : Nat := 22
/-- built-in classes by number -/
abbrev tInt : Nat := 0
abbrev tBool : Nat := 1
abbrev tStr : Nat := 2
abbrev tList : Nat := 3
abbrev tTuple : Nat := 4
abbrev tDict : Nat := 5
abbrev tSet : Nat := 6
abbrev tValueError : Nat := 7
abbrev tException : Nat := 8
abbrev tLookupError : Nat := 9

/-! ### operators -/
def b2i (b : Bool) : Int := if b then 1 else 0
/-- == of flat values; none: not flat -/
def eqFlat : D → D → Option Bool
  | .non, .non => some true
  | .bl a, .bl b => some (a == b)
  | .bl a, .int b => some (b2i a == b)
  | .int a, .bl b => some (a == b2i b)
  | .int a, .int b => some (a == b)
  | .str a, .str b => some (a == b)
  | .non, .bl _ | .non, .int _ | .non, .str _ | .bl _, .non | .int _, .non | .str _, .non => some false
  | .bl _, .str _ | .int _, .str _ | .str _, .bl _ | .str _, .int _ => some false
  | _, _ => none
def isFlat : D → Bool
  | .non | .bl _ | .int _ | .str _ => true
  | _ => false
/-- == item by item -/
def eqAll (f : D → D → Option Bool) : List D → List D → Option Bool
  | [], [] => some true
  | x :: xs, y :: ys => match f x y, eqAll f xs ys with
    | some a, some b => some (a && b)
    | _, _ => none
  | _, _ => some false
/-- flat, a tuple, a list -/
inductive Shp where
  | flat
  | tup (xs : List D)
  | lst (xs : List D)
def shp (h : Hp) : D → Option Shp
  | .tup xs => some (.tup xs)
  | .vl xs => some (.lst xs)
  | .ref a => match h[a]? with
    | some ⟨.lst xs, _⟩ => some (.lst xs)
    | _ => none
  | x => if isFlat x then some .flat else none
/-- == of data at any depth (lists, tuples); none: something else is within -/
def deq (h : Hp) : Nat → D → D → Option Bool
  | 0, x, y => eqFlat x y
  | n + 1, x, y => match shp h x, shp h y with
    | some .flat, some .flat => eqFlat x y
    | some (.tup xs), some (.tup ys) => eqAll (deq h n) xs ys
    | some (.lst xs), some (.lst ys) => eqAll (deq h n) xs ys
    | some _, some _ => some false
    | _, _ => none
abbrev dq : Nat := 40
/-- the items of a list -/
def lstOf (h : Hp) : D → Option (List D)
  | .vl xs => some xs
  | .ref a => match h[a]? with
    | some ⟨.lst xs, _⟩ => some xs
    | _ => none
  | _ => none
def isKey : D → Bool
  | .int _ => true
  | .str _ => true
  | _ => false
/-- the datum, dicts too, for repr -/
def toPyR (h : Hp) : Nat → D → Option PyData
  | _, .non => some .none
  | _, .bl b => some (.bool b)
  | _, .int i => some (.int i)
  | _, .str s => some (.str (asStr s))
  | n + 1, .tup xs => (mapO (toPyR h n) xs).map .tuple
  | n + 1, .vl xs => (mapO (toPyR h n) xs).map .list
  | n + 1, .vd ks vs => if ks.all isKey then (match mapO (toPyR h n) ks, mapO (toPyR h n) vs with
    | some ks, some vs => some (.dict (ks.zip vs))
    | _, _ => none) else none
  | n + 1, .ref a => match h[a]? with
    | some ⟨.lst xs, _⟩ => (mapO (toPyR h n) xs).map .list
    | _ => none
  | _, _ => none
def reprD (h : Hp) (d : D) : Option (List Nat) := match toPyR h dq d with
  | some p => if PyData.showable p && okLen p.shown.length then some (ofStr p.shown) else none
  | none => none

def okMul (i j : Int) : Bool := decide (i.natAbs < 2 ^ 64) || (decide (j.natAbs < 2 ^ 64) || decide (i.natAbs.log2 + j.natAbs.log2 < 1000000))
def okDiv (j : Int) : Bool := decide (0 < j) && decide (j.natAbs.log2 < 9000)
def okPow (i j : Int) : Bool := decide (0 ≤ j) && (decide (j ≤ 1000000) && decide (i.natAbs < 2 ^ 64))
/-- a list's or a tuple's items, a text's length is small -/
def rep (n : Nat) (xs : List α) : List α := (List.replicate n xs).flatten
def evBin (h : Hp) (o : BOp) (x y : D) : R D := match o, x, y with
  | .add, .int i, .int j => .ok (.int (i + j)) h
  | .sub, .int i, .int j => .ok (.int (i - j)) h
  | .mul, .int i, .int j => if okMul i j then .ok (.int (i * j)) h else .bad
  | .fdiv, .int i, .int j => if okDiv j then .ok (.int (i / j)) h else .bad
  | .mod, .int i, .int j => if 0 < j then .ok (.int (i % j)) h else .bad
  | .pow, .int i, .int j => if okPow i j then .ok (.int (i ^ j.toNat)) h else .bad
  | .add, .str a, .str b => if okLen (a.length + b.length) then .ok (.str (a ++ b)) h else .bad
  | .mul, .str a, .int k => if 0 ≤ k && (decide (k < 2 ^ 30) && okLen (a.length * k.toNat)) then .ok (.str (rep k.toNat a)) h else .bad
  | .add, .tup a, .tup b => if okLen (a.length + b.length) then .ok (.tup (a ++ b)) h else .bad
  | .add, x, y => match lstOf h x, lstOf h y with
    | some xs, some ys => if okLen (xs.length + ys.length) then .ok (.vl (xs ++ ys)) h else .bad
    | _, _ => .bad
  | .mul, x, .int k => match lstOf h x with
    | some xs => if 0 ≤ k && (decide (k < 2 ^ 30) && okLen (xs.length * k.toNat)) then .ok (.vl (rep k.toNat xs)) h else .bad
    | _ => .bad
  | _, _, _ => .bad

def ltList : List Nat → List Nat → Bool
  | _, [] => false
  | [], _ :: _ => true
  | a :: x, b :: y => if a < b then true else if a = b then ltList x y else false
/-- an order's answer, for ints and texts -/
def evOrd (o : COp) (x y : D) : Option Bool := match x, y with
  | .int i, .int j => match o with
    | .lt => some (decide (i < j))
    | .le => some (decide (i ≤ j))
    | .gt => some (decide (j < i))
    | .ge => some (decide (j ≤ i))
    | _ => none
  | .str a, .str b => match o with
    | .lt => some (ltList a b)
    | .le => some (!ltList b a)
    | .gt => some (ltList b a)
    | .ge => some (!ltList a b)
    | _ => none
  | _, _ => none
/-- is -/
def hasV : D → Bool
  | .exv .. | .nim | .clo .. => false
  | _ => true
def evIs (x y : D) : Option Bool := match y with
  | .non => if hasV x then some (decide (x = .non)) else none
  | .bl b => if hasV x then some (decide (x = .bl b)) else none
  | .ref b => match x with
    | .ref a => some (decide (a = b))
    | _ => none
  | _ => none
/-- all items can be compared: their answers -/
def anyEqT (h : Hp) (x : D) (ys : List D) : Option Bool := (mapO (fun y => deq h dq y x) ys).map (·.any id)
/-- x in y, where y is built-in -/
def evIn (h : Hp) (x y : D) : Option Bool := match y with
  | .str s => match x with
    | .str [c] => some (decide (c ∈ s))
    | _ => none
  | .tup ys => anyEqT h x ys
  | .vl ys => anyEqT h x ys
  | .ref a => match h[a]? with
    | some ⟨.lst ys, _⟩ => anyEqT h x ys
    | some ⟨.dic kvs, _⟩ => none
    | _ => none
  | _ => none

/-! ### built-in functions -/
def isSub (P : Prog) (c d : Nat) : Bool := (P.anc c).contains d
/-- isinstance of a value and a class -/
def isIns (P : Prog) (h : Hp) (x c : D) : Option Bool := match c with
  | .ty t => if 6 < t then none else match x with
    | .non => some false
    | .bl _ => some (t == tBool || t == tInt)
    | .int _ => some (t == tInt)
    | .str _ => some (t == tStr)
    | .tup _ => some (t == tTuple)
    | .vl _ => some (t == tList)
    | .vd _ _ => some (t == tDict)
    | .vi _ _ _ => some false
    | .ref a => match h[a]? with
      | some ⟨.lst _, _⟩ => some (t == tList)
      | some ⟨.dic _, _⟩ => some (t == tDict)
      | some ⟨.ins _ _, _⟩ => some false
      | _ => none
    | _ => none
  | .cls d => match x with
    | .non | .bl _ | .int _ | .str _ | .tup _ => some false
    | .vl _ => some false
    | .vd _ _ => some false
    | .vi c _ _ => some (isSub P c d)
    | .ref a => match h[a]? with
      | some ⟨.lst _, _⟩ => some false
      | some ⟨.dic _, _⟩ => some false
      | some ⟨.ins c _, _⟩ => some (isSub P c d)
      | _ => none
    | .exv c _ => some (isSub P c d)
    | _ => none
  | _ => none
def allB (b : Bool) : List D → Option Bool
  | [] => some b
  | .bl x :: r => match allB b r with
    | some y => some (if b then x && y else x || y)
    | none => none
  | _ => none
def allInts : List D → Option (List Int)
  | [] => some []
  | .int i :: r => (allInts r).map (i :: ·)
  | _ => none
def seqOf (h : Hp) : D → Option (List D)
  | .tup xs => some xs
  | d => lstOf h d
/-- rows and the like are sorted: by the first item, then the second, ..; items of one place are of one kind -/
def ltRow : List D → List D → Option Bool
  | _, [] => some false
  | [], _ :: _ => some true
  | a :: x, b :: y => match a, b with
    | .int i, .int j => if i < j then some true else if i = j then ltRow x y else some false
    | .str s, .str t => if ltList s t then some true else if s = t then ltRow x y else some false
    | _, _ => none
def rowsLt : D → D → Bool
  | .tup x, .tup y => (ltRow x y).getD false
  | .int i, .int j => decide (i < j)
  | .str s, .str t => ltList s t
  | _, _ => false
def insRow (x : D) : List D → List D
  | [] => [x]
  | y :: r => if rowsLt x y then x :: y :: r else y :: insRow x r
/-- all are tuples of one shape of ints and texts (or all are ints, or all are texts) -/
def kindOf : D → Nat
  | .int _ => 1
  | .str _ => 2
  | _ => 0
def shapeOf : D → Option (List Nat)
  | .tup xs => if xs.isEmpty || xs.any (fun x => kindOf x == 0) then none else some (xs.map kindOf)
  | .int _ => some [1]
  | .str _ => some [2]
  | _ => none
def isTup : D → Bool
  | .tup _ => true
  | _ => false
def sameShape : List D → Bool
  | [] => true
  | x :: r => (shapeOf x).isSome && r.all fun y => decide (shapeOf y = shapeOf x) && (isTup y == isTup x)
def sortD (xs : List D) : List D := xs.foldr insRow []
/-- what is there for the first time -/
def firsts (xs : List D) : List D := xs.foldl (fun acc x => if acc.any fun y => decide (y = x) then acc else acc ++ [x]) []
def dedup : List D → List D
  | [] => []
  | x :: r => x :: (dedup r).filter fun y => !decide (y = x)
def evBF (P : Prog) (h : Hp) (b : BF) (args : List D) : R D := match b, args with
  | .len, [.str s] => if okLen s.length then .ok (.int s.length) h else .bad
  | .len, [.tup xs] => .ok (.int xs.length) h
  | .len, [.vl xs] => .ok (.int xs.length) h
  | .len, [.ref a] => match h[a]? with
    | some ⟨.lst xs, _⟩ => .ok (.int xs.length) h
    | some ⟨.set xs, _⟩ => .ok (.int xs.length) h
    | _ => .bad
  | .all, [x] => match (lstOf h x).bind (allB true) with
    | some k => .ok (.bl k) h
    | none => .bad
  | .any, [x] => match (lstOf h x).bind (allB false) with
    | some k => .ok (.bl k) h
    | none => .bad
  | .abs, [.int i] => .ok (.int (if i < 0 then -i else i)) h
  | .min, [.int i, .int j] => .ok (.int (if j < i then j else i)) h
  | .max, [.int i, .int j] => .ok (.int (if j > i then j else i)) h
  | .repr, [x] => match reprD h x with
    | some s => .ok (.str s) h
    | none => .bad
  | .isi, [x, c] => match isIns P h x c with
    | some k => .ok (.bl k) h
    | none => .bad
  | _, _ => .bad
def evBT (P : Prog) (h : Hp) (b : BT) (args : List D) : R D := match b, args with
  | .int, [.int i] => .ok (.int i) h
  | .int, [.bl k] => .ok (.int (b2i k)) h
  | .bool, [.bl k] => .ok (.bl k) h
  | .bool, [.int i] => .ok (.bl (i != 0)) h
  | .str, [.int i] => if i.natAbs.log2 < 1920 then .ok (.str (ofStr (toString i : Str))) h else .bad
  | .list, [x] => match seqOf h x with
    | some xs => .ok (.vl xs) h
    | none => .bad
  | .listH, [x] => match seqOf h x with
    | some xs => new h (.lst xs)
    | none => .bad
  | .tuple, [x] => match seqOf h x with
    | some xs => .ok (.tup xs) h
    | none => .bad
  | _, _ => .bad
/-- a list's method -/
def evMetL (h : Hp) (m a : Nat) (args : List D) : R D := match h[a]? with
  | some ⟨.lst xs, _⟩ =>
    if m = mAppend then match args with
      | [y] => if okLen (xs.length + 1) then (match put h a (.lst (xs ++ [y])) with | some h' => .ok .non h' | none => .bad) else .bad
      | _ => .bad
    else if m = mExtend then match args with
      | [y] => match lstOf h y with
        | some ys => if okLen (xs.length + ys.length) then (match put h a (.lst (xs ++ ys)) with | some h' => .ok .non h' | none => .bad) else .bad
        | none => .bad
      | _ => .bad
    else if m = mPop then match args with
      | [] => match xs[xs.length - 1]? with
        | some y => match put h a (.lst xs.dropLast) with
          | some h' => .ok y h'
          | none => .bad
        | none => .bad
      | _ => .bad
    else if m = mClear then match args with
      | [] => match put h a (.lst []) with
        | some h' => .ok .non h'
        | none => .bad
      | _ => .bad
    else if m = mInsert then match args with
      | [.int i, y] => if decide (0 ≤ i) && (decide (i < 2 ^ 62) && okLen (xs.length + 1)) then (match put h a (.lst (xs.take i.toNat ++ [y] ++ xs.drop i.toNat)) with | some h' => .ok .non h' | none => .bad) else .bad
      | _ => .bad
    else .bad
  | _ => .bad
/-- a text's method -/
def evMetS (h : Hp) (m : Nat) (s : List Nat) (args : List D) : R D :=
  if m = mSplit then match args with
    | [.str b] => if !b.isEmpty && okLen (s.length + 2) then .ok (.vl ((Txt.split (asStr s) (asStr b)).map fun z => .str (ofStr z))) h else .bad
    | _ => .bad
  else .bad
/-- x[i] of built-in objects -/
def evIdx (h : Hp) (x i : D) : R D := match x, i with
  | .str s, .int i => if okLen s.length then (match atI s i with | some c => .ok (.str [c]) h | none => .bad) else .bad
  | .tup xs, .int i => match atI xs i with
    | some v => .ok v h
    | none => .bad
  | .vl xs, .int i => match atI xs i with
    | some v => .ok v h
    | none => .bad
  | .ref a, i => match h[a]? with
    | some ⟨.lst xs, _⟩ => match i with
      | .int i => match atI xs i with
        | some v => .ok v h
        | none => .bad
      | _ => .bad
    | some ⟨.dic kvs, _⟩ => .bad
    | _ => .bad
  | _, _ => .bad
def evSli (h : Hp) (x : D) (lo hi : Option Int) : R D := match x with
  | .str s => if okLen s.length then .ok (.str (cut s lo hi)) h else .bad
  | .tup xs => .ok (.tup (cut xs lo hi)) h
  | x => match lstOf h x with
    | some xs => .ok (.vl (cut xs lo hi)) h
    | none => .bad
/-- x[i] = v of built-in objects -/
def evSet (h : Hp) (x i v : D) : Option Hp := match x with
  | .ref a => match h[a]? with
    | some ⟨.lst xs, _⟩ => match i with
      | .int i => (idxN xs.length i).bind fun j => put h a (.lst (xs.set j v))
      | _ => none
    | some ⟨.dic kvs, _⟩ => none
    | _ => none
  | _ => none

abbrev Call := Nat → List D → Hp → R D
end Ev
end
section
/-! E3: the evaluator of the text. -/
set_option linter.all false
namespace Ev
open PySem

/-- what is walked -/
inductive Src where
  | lst (a : Nat)
  | seq (xs : List D)
  | rng (lo step : Int) (n : Nat)
  | zip (s t : Src)
  | enum (s : Src)
  | keys (a : Nat)
  | items (a : Nat)
  | vals (a : Nat)
/-- the i-th item; none: it cannot be walked -/
def Src.at (h : Hp) : Src → Nat → Option (Option D)
  | .lst a, i => match h[a]? with
    | some ⟨.lst xs, _⟩ => some xs[i]?
    | _ => none
  | .seq xs, i => some xs[i]?
  | .rng lo st n, i => some (if i < n then some (.int (lo + i * st)) else none)
  | .zip s t, i => match s.at h i, t.at h i with
    | some (some x), some (some y) => some (some (.tup [x, y]))
    | some _, some _ => if i = 0 then some none else match s.at h (i - 1), t.at h (i - 1) with
      | some (some _), some (some _) => some none
      | _, _ => none
    | _, _ => none
  | .enum s, i => match s.at h i with
    | some (some x) => some (some (.tup [.int i, x]))
    | some none => some none
    | none => none
  | .keys a, i => match h[a]? with
    | some ⟨.dic kvs, true⟩ => some (kvs[i]?.map (·.1))
    | _ => none
  | .items a, i => match h[a]? with
    | some ⟨.dic kvs, true⟩ => some (kvs[i]?.map fun p => .tup [p.1, p.2])
    | _ => none
  | .vals a, i => match h[a]? with
    | some ⟨.dic kvs, true⟩ => some (kvs[i]?.map (·.2))
    | _ => none
/-- the object that is locked while it is walked -/
def Src.lock : Src → Option Nat
  | .keys a => some a
  | .items a => some a
  | .vals a => some a
  | _ => none
def setLk (h : Hp) (a : Nat) (k : Bool) : Hp := match h[a]? with
  | some ⟨o, _⟩ => h.set a ⟨o, k⟩
  | none => h
def lkOf (h : Hp) (a : Nat) : Bool := match h[a]? with
  | some ⟨_, k⟩ => k
  | none => false
def locked (s : Src) (h : Hp) : Hp := match s.lock with
  | some a => setLk h a true
  | none => h
/-- behind the walk: as it was ahead of it, in h0 -/
def unlocked (s : Src) (h0 h : Hp) : Hp := match s.lock with
  | some a => setLk h a (lkOf h0 a)
  | none => h

/-- the slots of a block's own names are empty -/
def wipe (l : Loc) : List Nat → Loc
  | [] => l
  | i :: r => wipe (l.set i none) r

def rngSrc : List D → Option Src
  | [.int n] => if decide (-(2 ^ 62) ≤ n) && decide (n < 2 ^ 62) then some (.rng 0 1 n.toNat) else none
  | [.int a, .int b] => if decide (-(2 ^ 62) ≤ a) && (decide (a < 2 ^ 62) && (decide (-(2 ^ 62) ≤ b) && decide (b < 2 ^ 62))) then some (.rng a 1 (b - a).toNat) else none
  | _ => none
def srcOf (h : Hp) : D → Option Src
  | .vl xs => some (.seq xs)
  | .tup xs => some (.seq xs)
  | .str s => some (.seq (s.map fun c => .str [c]))
  | .ref a => match h[a]? with
    | some ⟨.lst _, _⟩ => some (.lst a)
    | _ => none
  | _ => none

/-- what zip takes: lists and tuples -/
def zipS (h : Hp) (d : D) : Option Src := match d with
  | .str _ => none
  | d => srcOf h d
/-- a list comprehension's turns: step gives the element, or none if a test fails -/
def lcTurn (s : Src) (step : D → Hp → R (Option D)) : Nat × Hp × List D → Turn (Nat × Hp × List D) (R (List D)) := fun (i, h, acc) => match s.at h i with
  | none => .stop .bad
  | some none => .stop (.ok acc h)
  | some (some d) => match step d h with
    | .ok (some v) h' => if okLen (acc.length + 1) then .go (i + 1, h', acc ++ [v]) else .stop .bad
    | .ok none h' => .go (i + 1, h', acc)
    | _ => .stop .bad
noncomputable def lcLoop (s : Src) (step : D → Hp → R (Option D)) (h : Hp) : R (List D) := match iter (lcTurn s step) .bad (0, locked s h, []) with
  | .ok acc h' => .ok acc (unlocked s h h')
  | _ => .bad
/-- a set comprehension's turns -/
def scTurn (s : Src) (step : D → Hp → R (Option D)) : Nat × Hp × List D → Turn (Nat × Hp × List D) (R (List D)) := fun (i, h, acc) => match s.at h i with
  | none => .stop .bad
  | some none => .stop (.ok acc h)
  | some (some d) => match step d h with
    | .ok (some v) h' => if isKey v && decide (acc.length < 4000) then .go (i + 1, h', acc ++ [v]) else .stop .bad
    | .ok none h' => .go (i + 1, h', acc)
    | _ => .stop .bad
noncomputable def scLoop (s : Src) (step : D → Hp → R (Option D)) (h : Hp) : R (List D) := match s.lock with
  | none => (match iter (scTurn s step) .bad (0, h, []) with
    | .ok acc h' => .ok acc h'
    | _ => .bad)
  | some _ => .bad
def forTurn (s : Src) (asg : D → Loc → Hp → R Loc) (body : Loc → Hp → RS) : Nat × Loc × Hp → Turn (Nat × Loc × Hp) RS := fun (i, l, h) => match s.at h i with
  | none => .stop .bad
  | some none => .stop (.nxt l h)
  | some (some d) => match asg d l h with
    | .ok l' h' => match body l' h' with
      | .nxt l2 h2 => .go (i + 1, l2, h2)
      | .cnt l2 h2 => .go (i + 1, l2, h2)
      | .brk l2 h2 => .stop (.nxt l2 h2)
      | r => .stop r
    | .exc c v h' => .stop (.exc c v l h')
    | .bad => .stop .bad
/-- a walk over what is locked may not be left early -/
noncomputable def forLoop (s : Src) (asg : D → Loc → Hp → R Loc) (body : Loc → Hp → RS) (l : Loc) (h : Hp) : RS := match s.lock with
  | none => iter (forTurn s asg body) .bad (0, l, h)
  | some a => match iter (forTurn s asg body) .bad (0, l, locked s h) with
    | .nxt l' h' => .nxt l' (unlocked s h h')
    | .ret d l' h' => .ret d l' (unlocked s h h')
    | _ => .bad
def whTurn (test : Loc → Hp → R Bool) (body : Loc → Hp → RS) : Loc × Hp → Turn (Loc × Hp) RS := fun (l, h) => match test l h with
  | .ok true h' => match body l h' with
    | .nxt l2 h2 => .go (l2, h2)
    | .cnt l2 h2 => .go (l2, h2)
    | .brk l2 h2 => .stop (.nxt l2 h2)
    | r => .stop r
  | .ok false h' => .stop (.nxt l h')
  | .exc c v h' => .stop (.exc c v l h')
  | .bad => .stop .bad

/-- the class of an instance -/
def insOf (h : Hp) : D → Option Nat
  | .vi c _ _ => some c
  | .ref a => match h[a]? with
    | some ⟨.ins c _, _⟩ => some c
    | _ => none
  | _ => none
/-- NotImplemented is no value but == 's answer -/
def plain (r : R D) : R D := match r with
  | .ok .nim _ => .bad
  | r => r
section
variable (P : Prog) (C : Call)
/-- == and != -/
def evEq (h : Hp) (x y : D) : R Bool := match deq h dq x y with
  | some k => .ok k h
  | none => match insOf h x with
    | some c => match P.meth c mEq with
      | some f => (C f [x, y] h).bind fun r h' => match r with
        | .bl k => .ok k h'
        | _ => .bad
      | none => .bad
    | none => .bad
def evCmp (o : COp) (x y : D) (h : Hp) : R D := match o with
  | .eq => (evEq P C h x y).bind fun k h' => .ok (.bl k) h'
  | .ne => (evEq P C h x y).bind fun k h' => .ok (.bl !k) h'
  | .is => match evIs x y with
    | some k => .ok (.bl k) h
    | none => .bad
  | .isn => match evIs x y with
    | some k => .ok (.bl !k) h
    | none => .bad
  | .in_ => match evIn h x y with
    | some k => .ok (.bl k) h
    | none => match insOf h y with
      | some c => match P.meth c mContains with
        | some f => (C f [y, x] h).bind fun r h' => match r with
          | .bl k => .ok (.bl k) h'
          | _ => .bad
        | none => .bad
      | none => .bad
  | .nin => match evIn h x y with
    | some k => .ok (.bl !k) h
    | none => match insOf h y with
      | some c => match P.meth c mContains with
        | some f => (C f [y, x] h).bind fun r h' => match r with
          | .bl k => .ok (.bl !k) h'
          | _ => .bad
        | none => .bad
      | none => .bad
  | o => match evOrd o x y with
    | some k => .ok (.bl k) h
    | none => .bad
def evOp (o : BOp) (x y : D) (h : Hp) : R D := match insOf h x with
  | some c => match (match o with | .add => P.meth c mAdd | .sub => P.meth c mSub | _ => none) with
    | some f => C f [x, y] h
    | none => .bad
  | none => evBin h o x y
/-- x[y] -/
def evGet (x y : D) (h : Hp) : R D := match insOf h x with
  | some c => match P.meth c mGet with
    | some f => C f [x, y] h
    | none => .bad
  | none => evIdx h x y
/-- x op= y of ints -/
def evIop (o : BOp) (x y : D) (h : Hp) : R D := match o, x, y with
  | .add, .int i, .int j => .ok (.int (i + j)) h
  | .sub, .int i, .int j => .ok (.int (i - j)) h
  | _, _, _ => .bad
/-- x.f -/
def evAtt (x : D) (f : Nat) (h : Hp) : R D := match x with
  | .ref a => match h[a]? with
    | some ⟨.ins c fs, _⟩ => match P.prop c f with
      | some g => C g [x] h
      | none => match fget fs f with
        | some v => .ok v h
        | none => .bad
    | _ => .bad
  | .vi c ns vs => match P.prop c f with
    | some g => C g [x] h
    | none => match (ns.zip vs).lookup f with
      | some v => .ok v h
      | none => .bad
  | .exv _ [v] => .ok v h
  | _ => .bad
/-- x.m, ahead of its arguments -/
inductive Callee where
  | own (f : Nat)
  | lst (a : Nat)
  | str (s : List Nat)
  | no
def callee (x : D) (m : Nat) (h : Hp) : Callee := match x with
  | .ref a => match h[a]? with
    | some ⟨.ins c fs, _⟩ => match fget fs m, P.meth c m with
      | none, some f => .own f
      | _, _ => .no
    | some ⟨.lst _, _⟩ => if 10 ≤ m && m ≤ 14 then .lst a else .no
    | _ => .no
  | .vi c ns _ => match ns.contains m, P.meth c m with
    | false, some f => .own f
    | _, _ => .no
  | .str s => if m = mSplit then .str s else .no
  | _ => .no
/-- x.m(args) -/
def evCallM (k : Callee) (x : D) (m : Nat) (args : List D) (h : Hp) : R D := match k with
  | .own f => plain (C f (x :: args) h)
  | .lst a => evMetL h m a args
  | .str s => evMetS h m s args
  | .no => .bad
noncomputable def evMk (c : Nat) (args : List D) (h : Hp) : R D :=
  let r : R D := match P.meth c mInit with
    | some f => (C f (.ref h.length :: args) (h ++ [⟨.ins c [], false⟩])).bind fun r h' => match r with
      | .non => .ok (.ref h.length) h'
      | _ => .bad
    | none => .bad
  if P.val c then gcR h r else r
def evApp (x : D) (args : List D) (h : Hp) : R D := match x with
  | .clo f caps => C f (caps ++ args) h
  | x => match insOf h x with
    | some c => match P.meth c mCall with
      | some f => C f (x :: args) h
      | none => .bad
    | none => .bad
def pieces : List D → Option (List Nat)
  | [] => some []
  | .str s :: r => (pieces r).map (s ++ ·)
  | .int i :: r => if i.natAbs.log2 < 1920 then (pieces r).map (ofStr (toString i : Str) ++ ·) else none
  | _ => none

/-- a new list -/
def lsR (k : Bool) (h : Hp) (xs : List D) : R D := if k then new h (.lst xs) else .ok (.vl xs) h
/-- a new dict -/
def dcR (k : Bool) (h : Hp) (ps : List (D × D)) : R D := if k then new h (.dic ps) else .ok (.vd (ps.map (·.1)) (ps.map (·.2))) h
mutual
noncomputable def evE : E → Loc → Hp → R D
  | .loc i, l, h => match l[i]? with
    | some (some d) => .ok d h
    | _ => .bad
  | .con d, _, h => .ok d h
  | .glo g, _, h => match P.glob g with
    | some d => .ok d h
    | none => .bad
  | .and a b, l, h => (evE a l h).bind fun x h1 => match truth h1 x with
    | some true => evE b l h1
    | some false => .ok x h1
    | none => .bad
  | .or a b, l, h => (evE a l h).bind fun x h1 => match truth h1 x with
    | some true => .ok x h1
    | some false => evE b l h1
    | none => .bad
  | .not a, l, h => (evE a l h).bind fun x h1 => match truth h1 x with
    | some k => .ok (.bl !k) h1
    | none => .bad
  | .neg a, l, h => (evE a l h).bind fun x h1 => match x with
    | .int i => .ok (.int (-i)) h1
    | _ => .bad
  | .bin o a b, l, h => (evE a l h).bind fun x h1 => (evE b l h1).bind fun y h2 => evOp P C o x y h2
  | .cmp o a b, l, h => (evE a l h).bind fun x h1 => (evE b l h1).bind fun y h2 => evCmp P C o x y h2
  | .cmp2 o o2 a b c, l, h => (evE a l h).bind fun x h1 => (evE b l h1).bind fun y h2 => (evCmp P C o x y h2).bind fun r h3 => match r with
    | .bl true => (evE c l h3).bind fun z h4 => evCmp P C o2 y z h4
    | .bl false => .ok (.bl false) h3
    | _ => .bad
  | .ite c a b, l, h => (evE c l h).bind fun x h1 => match truth h1 x with
    | some true => evE a l h1
    | some false => evE b l h1
    | none => .bad
  | .tup es, l, h => (evEL es l h).bind fun xs h1 => if okLen xs.length then .ok (.tup xs) h1 else .bad
  | .lst k es, l, h => (evEL es l h).bind fun xs h1 => if okLen xs.length then lsR k h1 xs else .bad
  | .dic k kvs, l, h => (evKL kvs l h).bind fun ps h1 => if ps.all (fun p => keyOk 8 p.1) && decide (ps.length ≤ 15) then dcR k h1 (ps.foldl (fun acc p => dput acc p.1 p.2) []) else .bad
  | .idx a i, l, h => (evE a l h).bind fun x h1 => (evE i l h1).bind fun y h2 => evGet P C x y h2
  | .sli a lo hi, l, h => (evE a l h).bind fun x h1 => (evO lo l h1).bind fun y h2 => (evO hi l h2).bind fun z h3 => evSli h3 x y z
  | .rev a, l, h => (evE a l h).bind fun x h1 => match lstOf h1 x with
    | some xs => .ok (.vl xs.reverse) h1
    | none => .bad
  | .att a f, l, h => (evE a l h).bind fun x h1 => evAtt P C x f h1
  | .call f es, l, h => (evEL es l h).bind fun xs h1 => plain (C f xs h1)
  | .mk c es, l, h => (evEL es l h).bind fun xs h1 => evMk P C c xs h1
  | .met a m es, l, h => (evE a l h).bind fun x h1 => match callee P x m h1 with
    | .no => .bad
    | k => (evEL es l h1).bind fun xs h2 => evCallM C k x m xs h2
  | .bf b es, l, h => (evEL es l h).bind fun xs h1 => evBF P h1 b xs
  | .bt b es, l, h => (evEL es l h).bind fun xs h1 => evBT P h1 b xs
  | .app a es, l, h => (evE a l h).bind fun x h1 => (evEL es l h1).bind fun xs h2 => evApp P C x xs h2
  | .lc k own e t i c, l, h => (evI i l h).bind fun s h1 => (lcLoop s (fun d h => (evT t d (wipe l own) h).bind fun l2 h2 => (evC c l2 h2).bind fun k h3 =>
      if k then (evE e l2 h3).bind fun v h4 => .ok (some v) h4 else .ok none h3) h1).bind fun vs h2 => lsR k h2 vs
  | .sc own e t i c, l, h => (evI i l h).bind fun s h1 => (scLoop s (fun d h => (evT t d (wipe l own) h).bind fun l2 h2 => (evC c l2 h2).bind fun k h3 =>
      if k then (evE e l2 h3).bind fun v h4 => .ok (some v) h4 else .ok none h3) h1).bind fun vs h2 => .ok (.int (firsts vs).length) h2
  | .uln a, l, h => (evE a l h).bind fun x h1 => match lstOf h1 x with
    | some xs => if xs.all isKey && decide (xs.length < 4000) then .ok (.int (firsts xs).length) h1 else .bad
    | none => .bad
  | .dc own e v t i c, l, h => (evI i l h).bind fun s h1 => (lcLoop s (fun d h => (evT t d (wipe l own) h).bind fun l2 h2 => (evC c l2 h2).bind fun k h3 =>
      if k then (evE e l2 h3).bind fun x h4 => (evE v l2 h4).bind fun y h5 => .ok (some (.tup [x, y])) h5 else .ok none h3) h1).bind fun vs h2 => .bad
  | .fst es, l, h => (evEL es l h).bind fun xs h1 => match pieces xs with
    | some s => if okLen s.length then .ok (.str s) h1 else .bad
    | none => .bad
  | .lam f caps, l, h => match mapO (fun i => (l[i]?).join) caps with
    | some vs => .ok (.clo f vs) h
    | none => .bad
noncomputable def evEL : EL → Loc → Hp → R (List D)
  | .nil, _, h => .ok [] h
  | .cons false e r, l, h => (evE e l h).bind fun x h1 => (evEL r l h1).bind fun xs h2 => .ok (x :: xs) h2
  | .cons true e r, l, h => (evE e l h).bind fun x h1 => match seqOf h1 x with
    | some ys => (evEL r l h1).bind fun xs h2 => .ok (ys ++ xs) h2
    | none => .bad
noncomputable def evKL : KL → Loc → Hp → R (List (D × D))
  | .nil, _, h => .ok [] h
  | .cons k v r, l, h => (evE k l h).bind fun x h1 => (evE v l h1).bind fun y h2 => (evKL r l h2).bind fun ps h3 => .ok ((x, y) :: ps) h3
noncomputable def evO : OE → Loc → Hp → R (Option Int)
  | .no, _, h => .ok none h
  | .yes e, l, h => (evE e l h).bind fun x h1 => match x with
    | .int i => .ok (some i) h1
    | _ => .bad
/-- tests, from the left -/
noncomputable def evC : EL → Loc → Hp → R Bool
  | .nil, _, h => .ok true h
  | .cons _ e r, l, h => (evE e l h).bind fun x h1 => match truth h1 x with
    | some true => evC r l h1
    | some false => .ok false h1
    | none => .bad
noncomputable def evT : T → D → Loc → Hp → R Loc
  | .loc i, d, l, h => if i < l.length then .ok (l.set i (some d)) h else .bad
  | .tup ts, d, l, h => match d with
    | .tup xs => evTL ts xs l h
    | _ => .bad
  | .att e f, d, l, h => (evE e l h).bind fun x h1 => match x with
    | .ref a => match h1[a]? with
      | some ⟨.ins c fs, _⟩ => if (fput fs f d).length ≤ 1000 then (match put h1 a (.ins c (fput fs f d)) with | some h2 => .ok l h2 | none => .bad) else .bad
      | _ => .bad
    | _ => .bad
  | .sub e i, d, l, h => (evE e l h).bind fun x h1 => (evE i l h1).bind fun y h2 => match evSet h2 x y d with
    | some h3 => .ok l h3
    | none => .bad
noncomputable def evTL : TL → List D → Loc → Hp → R Loc
  | .nil, [], l, h => .ok l h
  | .cons t r, x :: xs, l, h => match evT t x l h with
    | .ok l1 h1 => evTL r xs l1 h1
    | _ => .bad
  | _, _, _, _ => .bad
noncomputable def evI : I → Loc → Hp → R Src
  | .it e, l, h => (evE e l h).bind fun x h1 => match srcOf h1 x with
    | some s => .ok s h1
    | none => .bad
  | .rng es, l, h => (evEL es l h).bind fun xs h1 => match rngSrc xs with
    | some s => .ok s h1
    | none => .bad
  | .zip a b, l, h => (evE a l h).bind fun x h1 => (evE b l h1).bind fun y h2 => match zipS h2 x, zipS h2 y with
    | some s, some t => .ok (.zip s t) h2
    | _, _ => .bad
  | .enum a, l, h => (evE a l h).bind fun x h1 => match srcOf h1 x with
    | some s => if s.lock.isNone then .ok (.enum s) h1 else .bad
    | none => .bad
  | .items a, l, h => (evE a l h).bind fun x h1 => match x with
    | .ref r => match h1[r]? with
      | some ⟨.dic _, _⟩ => .ok (.items r) h1
      | _ => .bad
    | _ => .bad
  | .vals a, l, h => (evE a l h).bind fun x h1 => match x with
    | .ref r => match h1[r]? with
      | some ⟨.dic _, _⟩ => .ok (.vals r) h1
      | _ => .bad
    | _ => .bad
end

def evParSet : List Nat → List D → Loc → Option Loc
  | [], [], l => some l
  | i :: is, d :: ds, l => if i < l.length then evParSet is ds (l.set i (some d)) else none
  | _, _, _ => none
mutual
noncomputable def evS : S → Loc → Hp → RS
  | .ex e, l, h => (evE P C e l h).toS l fun _ h1 => .nxt l h1
  | .asg t e, l, h => (evE P C e l h).toS l fun d h1 => (evT P C t d l h1).toS l fun l2 h2 => .nxt l2 h2
  | .par is es, l, h => (evEL P C es l h).toS l fun ds h1 => match evParSet is ds l with
    | some l2 => .nxt l2 h1
    | none => .bad
  | .aug i o e, l, h => match l[i]? with
    | some (some x) => (evE P C e l h).toS l fun y h1 => (evIop o x y h1).toS l fun z h2 => .nxt (l.set i (some z)) h2
    | _ => .bad
  | .augA a f o e, l, h => (evE P C a l h).toS l fun x h1 => (evAtt P C x f h1).toS l fun v h2 => (evE P C e l h2).toS l fun y h3 => (evIop o v y h3).toS l fun z h4 => match x with
    | .ref a => match h4[a]? with
      | some ⟨.ins c fs, _⟩ => match put h4 a (.ins c (fput fs f z)) with
        | some h5 => .nxt l h5
        | none => .bad
      | _ => .bad
    | _ => .bad
  | .augS a i o e, l, h => (evE P C a l h).toS l fun x h1 => (evE P C i l h1).toS l fun k h2 => (evGet P C x k h2).toS l fun v h3 => (evE P C e l h3).toS l fun y h4 => (evIop o v y h4).toS l fun z h5 => match evSet h5 x k z with
    | some h6 => .nxt l h6
    | none => .bad
  | .ret e, l, h => (evE P C e l h).toS l fun d h1 => .ret d l h1
  | .if_ c a b, l, h => (evE P C c l h).toS l fun x h1 => match truth h1 x with
    | some true => evSL a l h1
    | some false => evSL b l h1
    | none => .bad
  | .whl c b, l, h => iter (whTurn (fun l h => (evE P C c l h).bind fun x h1 => match truth h1 x with | some k => .ok k h1 | none => .bad) (fun l h => evSL b l h)) .bad (l, h)
  | .for_ t i b, l, h => (evI P C i l h).toS l fun s h1 => forLoop s (fun d l h => evT P C t d l h) (fun l h => evSL b l h) l h1
  | .brk, l, h => .brk l h
  | .cnt, l, h => .cnt l h
  | .pas, l, h => .nxt l h
  | .rai c es, l, h => (evEL P C es l h).toS l fun vs h1 => if P.exc c = some vs.length then .exc c vs l h1 else .bad
  | .tr b hs, l, h => match evSL b l h with
    | .exc c v l1 h1 => evHL hs c v l1 h1
    | r => r
  | .mat e cs, l, h => (evE P C e l h).toS l fun x h1 => evCL cs x l h1
noncomputable def evSL : SL → Loc → Hp → RS
  | .nil, l, h => .nxt l h
  | .cons s r, l, h => (evS s l h).bind fun l1 h1 => evSL r l1 h1
noncomputable def evHL : HL → Nat → List D → Loc → Hp → RS
  | .nil, c, v, l, h => .exc c v l h
  | .cons cs i b r, c, v, l, h => if cs.any fun d => isSub P c d then (match i with
      | none => evSL b l h
      | some i => if i < l.length then (match evSL b (l.set i (some (.exv c v))) h with
        | .nxt l2 h2 => .nxt (l2.set i none) h2
        | .ret d l2 h2 => .ret d (l2.set i none) h2
        | _ => .bad) else .bad)
    else evHL r c v l h
noncomputable def evCL : CL → D → Loc → Hp → RS
  | .nil, _, l, h => .nxt l h
  | .cons ds b r, x, l, h => match anyEqT h x ds with
    | some true => evSL b l h
    | some false => evCL r x l h
    | none => .bad
  | .dflt b, _, l, h => evSL b l h
end
end

def padTo (f : Fn) (args : List D) : Option (List D) :=
  if args.length ≤ f.np && decide (f.np ≤ args.length + f.dfl.length) then some (args ++ f.dfl.drop (f.dfl.length - (f.np - args.length))) else none
/-- a body's end -/
def RS.out : RS → R D
  | .nxt _ h1 => .ok .non h1
  | .ret d _ h1 => .ok d h1
  | .exc c v _ h1 => .exc c v h1
  | _ => .bad
noncomputable def fin (F : Fn) (h : Hp) (r : RS) : R D := if F.gc then gcR h r.out else r.out
/-- the call of a def, at most n deep -/
noncomputable def callN (P : Prog) : Nat → Call
  | 0 => fun _ _ _ => .bad
  | n + 1 => fun f args h => match P.fn f with
    | none => .bad
    | some F => match padTo F args with
      | none => .bad
      | some vs => fin F h (evSL P (callN P n) F.body (vs.map some ++ List.replicate (F.ns - F.np) none) h)
end Ev
end
section
/-! E4: how data and heaps of the evaluator lie in the abstract heap of the layer. -/
set_option linter.all false
set_option maxRecDepth 100000
namespace Ev
open PySem PySem.Spec
open L2 (V HO RelV Vals VK XK WX SqL SqT Inv PE PT PA PS PSs PG PGs PI Cx upd upd_same upd_ne Rd Room)

/-- where things of the text stand -/
structure Lk where
  prog : Program
  w : World
  K : PySem.W.Frag
  mg : Str → Option Value
  P : Prog
  /-- a def's, a class's address; a field's or method's name -/
  fa : Nat → Addr
  ca : Nat → Addr
  fld : Nat → Str
  /-- an exception class's field -/
  xf : Nat → Str

abbrev LH := L2.Hp
abbrev LS := L2.St
/-- the numbered objects' addresses; what is being built -/
structure Mu where
  ix : List Addr
  ow : List Addr
instance : Membership Addr Mu := ⟨fun μ a => a ∈ μ.ix ∨ a ∈ μ.ow⟩
theorem Mu.mem_def {a : Addr} {μ : Mu} : a ∈ μ ↔ a ∈ μ.ix ∨ a ∈ μ.ow := Iff.rfl
def Mu.num (μ : Mu) (p : Addr) : Mu := ⟨μ.ix ++ [p], μ.ow⟩
/-- D is being built -/
def Mu.own (μ : Mu) (p : Addr) : Mu := ⟨μ.ix, p :: μ.ow⟩

/-- the built-in classes' names -/
def tyName : Nat → String
  | 0 => "int"
  | 1 => "bool"
  | 2 => "str"
  | 3 => "list"
  | 4 => "tuple"
  | 5 => "dict"
  | 6 => "set"
  | 7 => "ValueError"
  | 8 => "Exception"
  | _ => "LookupError"
/-- a flat value -/
def vOf : D → V
  | .bl b => .bl b
  | .int i => .int i
  | .str s => .str (asStr s)
  | _ => .non
variable (ρ : Lk)
/-- a list that nothing changes -/
def SqF (K : PySem.W.Frag) (H : LH) (a : Addr) (xs : List V) : Prop :=
  (∃ o, H a = some (.frz o (.lst xs))) ∨
    ∃ (its : Array Value) (n : Nat), K.lookup a = some { cls := .type "list", data := .seq its n } ∧ its.size ≤ sizeLine ∧ Vals xs its.toList
theorem SqF.sq {K : PySem.W.Frag} {H : LH} {a : Addr} {xs : List V} (h : SqF K H a xs) : SqL K H a xs := by
  rcases h with h | ⟨its, n, h1, h2, h3⟩
  · exact .inl (.inr h)
  · exact .inr ⟨_, its, n, h1, rfl, rfl, rfl, h2, h3⟩
/-- a list, by its object -/
def SqX (K : PySem.W.Frag) (H : LH) (a : Addr) (xs : List V) : Prop := H a = some (.lst xs) ∨ SqF K H a xs
theorem SqX.sq {K : PySem.W.Frag} {H : LH} {a : Addr} {xs : List V} (h : SqX K H a xs) : SqL K H a xs := h.elim (fun z => .inl (.inl z)) SqF.sq
/-! ### data -/
def keyK : D → L2.Key
  | .int i => .inl i
  | .str s => .inr (asStr s)
  | _ => .inl 0
def isKeyT : D → Bool
  | .tup xs => xs.all isKey
  | _ => false
def keyT : D → List L2.Key
  | .tup xs => xs.map keyK
  | _ => []
/-- perhaps locked -/
def Hd (H : LH) (a : Addr) (u : HO) : Prop := H a = some u ∨ ∃ o, H a = some (.frz o u)
/-- a dict: keys ints and texts, or tuples of these -/
def DicAt (H : LH) (a : Addr) (ks : List D) (vs : List V) : Prop :=
  vs.length = ks.length ∧ ((ks.all isKey = true ∧ Hd H a (.dK ((ks.map keyK).zip vs))) ∨ (ks.all isKeyT = true ∧ Hd H a (.dT ((ks.map keyT).zip vs))))
mutual
def RD (μ : Mu) (H : LH) : D → V → Prop
  | .non, v => v = .non
  | .bl b, v => v = .bl b
  | .int i, v => v = .int i
  | .str s, v => v = .str (asStr s)
  | .tup xs, v => ∃ a vs, v = .ref a ∧ SqT ρ.K H a vs ∧ RDs μ H xs vs
  | .ref i, v => ∃ a, μ.ix[i]? = some a ∧ v = .ref a
  | .vl xs, v => ∃ a vs, v = .ref a ∧ (SqF ρ.K H a vs ∨ (a ∉ μ ∧ H a = some (.lst vs))) ∧ RDs μ H xs vs
  | .vd ks xs, v => ∃ a vs, v = .ref a ∧ a ∉ μ ∧ DicAt H a ks vs ∧ RDs μ H xs vs
  | .vi c ns xs, v => ∃ a dx vs, v = .ref a ∧ a ∉ μ ∧ H a = some (.ins (ρ.ca c) dx ((ns.map ρ.fld).zip vs)) ∧ vs.length = ns.length ∧ RDs μ H xs vs ∧ ρ.P.anc c ≠ []
  | .cls c, v => v = .ref (ρ.ca c) ∧ ρ.P.anc c ≠ []
  | .ty t, v => v = .ty (tyName t)
  | .fn f, v => v = .ref (ρ.fa f)
  | .nim, _ => False
  | .exv _ _, _ => False
  | .clo _ _, _ => False
def RDs (μ : Mu) (H : LH) : List D → List V → Prop
  | [], vs => vs = []
  | x :: xs, vs => ∃ v r, vs = v :: r ∧ RD μ H x v ∧ RDs μ H xs r
end
/-- an instance's fields -/
def RF (μ : Mu) (H : LH) : List (Nat × D) → List (Str × V) → Prop
  | [], vs => vs = []
  | p :: r, vs => ∃ v q, vs = (ρ.fld p.1, v) :: q ∧ RD ρ μ H p.2 v ∧ RF μ H r q
/-! ### objects -/
def RO (μ : Mu) (H : LH) (a : Addr) : Ob → Prop
  | ⟨.lst xs, false⟩ => ∃ vs, H a = some (.lst vs) ∧ RDs ρ μ H xs vs
  | ⟨.ins c fs, false⟩ => ∃ dx vs, H a = some (.ins (ρ.ca c) dx vs) ∧ RF ρ μ H fs vs ∧ ρ.P.anc c ≠ []
  | ⟨.dic kvs, false⟩ => ∃ vs, DicAt H a (kvs.map (·.1)) vs ∧ RDs ρ μ H (kvs.map (·.2)) vs
  | _ => False
/-- the numbered objects lie at the addresses μ -/
structure HR (μ : Mu) (h : Hp) (H : LH) : Prop where
  len : μ.ix.length = h.length
  nd : μ.ix.Nodup
  at_ : ∀ (i : Nat) (ob : Ob) (a : Addr), h[i]? = some ob → μ.ix[i]? = some a → RO ρ μ H a ob
  ow : ∀ b ∈ μ.ow, b ∉ μ.ix ∧ ∃ o, H b = some o
/-- what grows from μ, H to μ', H' -/
structure Ext (μ : Mu) (H : LH) (μ' : Mu) (H' : LH) : Prop where
  pre : μ.ix <+: μ'.ix
  keep : ∀ b o, b ∉ μ.ix → H b = some o → H' b = some o
  frz : ∀ b o u, H b = some (.frz o u) → H' b = some (.frz o u)
  fresh : ∀ b, b ∈ μ'.ix → b ∉ μ.ix → H b = none
  ow : ∀ b ∈ μ'.ow, b ∈ μ.ow ∨ (b ∉ μ.ix ∧ H b = none)
  owk : ∀ b ∈ μ.ow, b ∈ μ'.ow
/-- the frame's names -/
def LR (μ : Mu) (H : LH) (l : Loc) (σ : LS) : Prop := σ.length = l.length ∧ ∀ (i : Nat) (d : D), l[i]? = some (some d) → ∃ v, σ[i]? = some (some v) ∧ RD ρ μ H d v

variable {ρ}
theorem Ext.rfl {μ : Mu} {H : LH} : Ext μ H μ H := ⟨List.prefix_refl _, fun _ _ _ e => e, fun _ _ _ e => e, fun _ h1 h2 => absurd h1 h2, fun _ h => .inl h, fun _ h => h⟩
theorem Ext.trans {μ μ1 μ2 : Mu} {H H1 H2 : LH} (a : Ext μ H μ1 H1) (b : Ext μ1 H1 μ2 H2) : Ext μ H μ2 H2 where
  pre := a.pre.trans b.pre
  keep := fun c o hc e => b.keep c o (fun hm => by
    have z := a.fresh c hm hc
    rw [z] at e
    cases e) (a.keep c o hc e)
  frz := fun c o u e => b.frz c o u (a.frz c o u e)
  fresh := fun c h1 h2 => by
    by_cases hm : c ∈ μ1.ix
    · exact a.fresh c hm h2
    · have z := b.fresh c h1 hm
      cases e : H c with
      | none => rfl
      | some o =>
        have q := a.keep c o h2 e
        rw [z] at q
        cases q
  ow := fun c hc => by
    rcases b.ow c hc with z | ⟨z1, z2⟩
    · exact a.ow c z
    · have n : c ∉ μ.ix := fun hm => z1 (a.pre.subset hm)
      refine .inr ⟨n, ?_⟩
      cases e : H c with
      | none => rfl
      | some o => rw [a.keep c o n e] at z2; cases z2
  owk := fun c hc => b.owk c (a.owk c hc)
theorem Ext.at {μ μ' : Mu} {H H' : LH} (x : Ext μ H μ' H') {i : Nat} {a : Addr} (e : μ.ix[i]? = some a) : μ'.ix[i]? = some a := by
  obtain ⟨t, e2⟩ := x.pre
  rw [← e2, List.getElem?_append_left (List.getElem?_eq_some_iff.mp e).1]
  exact e
theorem HR.mem {μ : Mu} {h : Hp} {H : LH} (R : HR ρ μ h H) {a : Addr} (ha : a ∈ μ.ix) : ∃ (i : Nat) (ob : Ob), h[i]? = some ob ∧ μ.ix[i]? = some a ∧ RO ρ μ H a ob := by
  obtain ⟨i, hi, e⟩ := List.getElem_of_mem ha
  have hi2 : i < h.length := by rw [← R.len]; exact hi
  exact ⟨i, h[i], List.getElem?_eq_getElem hi2, by rw [List.getElem?_eq_getElem hi, e], R.at_ i _ a (List.getElem?_eq_getElem hi2) (by rw [List.getElem?_eq_getElem hi, e])⟩
/-- what a numbered object is, is no tuple and no frozen tuple -/
theorem RO.notTup {μ : Mu} {H : LH} {a : Addr} {ob : Ob} (r : RO ρ μ H a ob) {vs : List V} : H a ≠ some (.tup vs) := fun e => by
  obtain ⟨o, k⟩ := ob
  cases o <;> cases k
  case lst.false => obtain ⟨ws, q, _⟩ := r; rw [e] at q; cases q
  case ins.false => obtain ⟨dx, ws, q, _⟩ := r; rw [e] at q; cases q
  case dic.false => obtain ⟨ws, ⟨_, (⟨_, q | ⟨o, q⟩⟩ | ⟨_, q | ⟨o, q⟩⟩)⟩, _⟩ := r <;> (rw [e] at q; cases q)
  all_goals exact r
theorem RO.there {μ : Mu} {H : LH} {a : Addr} {ob : Ob} (r : RO ρ μ H a ob) : ∃ o, H a = some o := by
  obtain ⟨o, k⟩ := ob
  cases o <;> cases k
  case lst.false => obtain ⟨ws, q, _⟩ := r; exact ⟨_, q⟩
  case ins.false => obtain ⟨dx, ws, q, _⟩ := r; exact ⟨_, q⟩
  case dic.false => obtain ⟨ws, ⟨_, (⟨_, q | ⟨o, q⟩⟩ | ⟨_, q | ⟨o, q⟩⟩)⟩, _⟩ := r <;> exact ⟨_, q⟩
  all_goals exact r.elim
theorem HR.noTup {μ : Mu} {h : Hp} {H : LH} (R : HR ρ μ h H) {a : Addr} {vs : List V} (e : H a = some (.tup vs)) : a ∉ μ.ix := fun ha => by
  obtain ⟨i, ob, _, _, r⟩ := R.mem ha
  exact r.notTup e
theorem HR.new {μ : Mu} {h : Hp} {H : LH} (R : HR ρ μ h H) {a : Addr} (e : H a = none) : a ∉ μ := fun ha => by
  rcases ha with ha | ha
  · obtain ⟨i, ob, _, _, r⟩ := R.mem ha
    obtain ⟨o, q⟩ := r.there
    rw [e] at q
    cases q
  · obtain ⟨_, o, q⟩ := R.ow a ha
    rw [e] at q
    cases q
theorem HR.get {μ : Mu} {h : Hp} {H : LH} (R : HR ρ μ h H) {i : Nat} {ob : Ob} (e : h[i]? = some ob) : ∃ a, μ.ix[i]? = some a ∧ RO ρ μ H a ob := by
  have hi : i < μ.ix.length := by rw [R.len]; exact (List.getElem?_eq_some_iff.mp e).1
  exact ⟨μ.ix[i], List.getElem?_eq_getElem hi, R.at_ i ob _ e (List.getElem?_eq_getElem hi)⟩
/-- tuples, and what is frozen, what is not numbered, stay -/
structure Stays (μ : Mu) (H : LH) (μ' : Mu) (H' : LH) : Prop where
  tup : ∀ b vs, H b = some (.tup vs) → H' b = some (.tup vs)
  frz : ∀ b o u, H b = some (.frz o u) → H' b = some (.frz o u)
  keep : ∀ b o, b ∉ μ → H b = some o → H' b = some o ∧ b ∉ μ'
theorem Ext.stays {μ μ' : Mu} {h : Hp} {H H' : LH} (R : HR ρ μ h H) (x : Ext μ H μ' H') : Stays μ H μ' H' := ⟨fun b vs e => x.keep b _ (R.noTup e) e, x.frz, fun b o hb e => by
  have hi : b ∉ μ.ix := fun z => hb (.inl z)
  refine ⟨x.keep b o hi e, fun hm => ?_⟩
  rcases hm with hm | hm
  · have z := x.fresh b hm hi
    rw [z] at e
    cases e
  · rcases x.ow b hm with z | ⟨_, z⟩
    · exact hb (.inr z)
    · rw [z] at e; cases e⟩
theorem Stays.sqT {K : PySem.W.Frag} {μ μ' : Mu} {H H' : LH} (s : Stays μ H μ' H') {a : Addr} {vs : List V} (e : SqT K H a vs) : SqT K H' a vs := by
  rcases e with (e | ⟨o, e⟩) | e
  · exact .inl (.inl (s.tup _ _ e))
  · exact .inl (.inr ⟨o, s.frz _ _ _ e⟩)
  · exact .inr e
theorem Stays.sqF {K : PySem.W.Frag} {μ μ' : Mu} {H H' : LH} (s : Stays μ H μ' H') {a : Addr} {vs : List V} (e : SqF K H a vs) : SqF K H' a vs := by
  rcases e with ⟨o, e⟩ | e
  · exact .inl ⟨o, s.frz _ _ _ e⟩
  · exact .inr e
theorem Stays.hd {μ μ' : Mu} {H H' : LH} (s : Stays μ H μ' H') {a : Addr} {u : HO} (hn : a ∉ μ) (e : Hd H a u) : Hd H' a u := by
  rcases e with e | ⟨o, e⟩
  · exact .inl (s.keep a _ hn e).1
  · exact .inr ⟨o, s.frz _ _ _ e⟩
theorem Hd.there {H : LH} {a : Addr} {u : HO} (e : Hd H a u) : ∃ o, H a = some o := by
  rcases e with e | ⟨o, e⟩ <;> exact ⟨_, e⟩
theorem DicAt.there {H : LH} {a : Addr} {ks : List D} {vs : List V} (e : DicAt H a ks vs) : ∃ o, H a = some o := by
  rcases e.2 with e | e <;> exact e.2.there
theorem Stays.dic {μ μ' : Mu} {H H' : LH} (s : Stays μ H μ' H') {a : Addr} {ks : List D} {vs : List V} (hn : a ∉ μ) (e : DicAt H a ks vs) : DicAt H' a ks vs :=
  ⟨e.1, e.2.imp (fun z => ⟨z.1, s.hd hn z.2⟩) (fun z => ⟨z.1, s.hd hn z.2⟩)⟩
theorem Stays.out {μ μ' : Mu} {H H' : LH} (s : Stays μ H μ' H') {a : Addr} (hn : a ∉ μ) (e : ∃ o, H a = some o) : a ∉ μ' := by
  obtain ⟨o, e⟩ := e
  exact (s.keep a o hn e).2
/-- μ' has what μ has -/
def Sub (μ μ' : Mu) : Prop := ∀ (i : Nat) (a : Addr), μ.ix[i]? = some a → μ'.ix[i]? = some a
theorem Ext.sub {μ μ' : Mu} {H H' : LH} (x : Ext μ H μ' H') : Sub μ μ' := fun _ _ e => x.at e
mutual
theorem RD.mono {μ μ' : Mu} {H H' : LH} (s : Stays μ H μ' H') (m : Sub μ μ') : ∀ {d : D} {v : V}, RD ρ μ H d v → RD ρ μ' H' d v := by
  intro d v r
  match d, r with
  | .non, r => exact r
  | .bl _, r => exact r
  | .int _, r => exact r
  | .str _, r => exact r
  | .cls _, r => exact r
  | .ty _, r => exact r
  | .fn _, r => exact r
  | .vl xs, r =>
    rw [RD] at r ⊢
    obtain ⟨a, vs, e, t, q⟩ := r
    exact ⟨a, vs, e, t.imp s.sqF fun z => ⟨(s.keep _ _ z.1 z.2).2, (s.keep _ _ z.1 z.2).1⟩, RDs.mono s m q⟩
  | .vd ks xs, r =>
    rw [RD] at r ⊢
    obtain ⟨a, vs, e, n, t, q⟩ := r
    exact ⟨a, vs, e, s.out n t.there, s.dic n t, RDs.mono s m q⟩
  | .vi c ns xs, r =>
    rw [RD] at r ⊢
    obtain ⟨a, dx, vs, e, n, t, l, q, z⟩ := r
    exact ⟨a, dx, vs, e, (s.keep _ _ n t).2, (s.keep _ _ n t).1, l, RDs.mono s m q, z⟩
  | .ref i, r =>
    rw [RD] at r ⊢
    obtain ⟨a, e, z⟩ := r
    exact ⟨a, m i a e, z⟩
  | .tup xs, r =>
    rw [RD] at r ⊢
    obtain ⟨a, vs, e, t, q⟩ := r
    exact ⟨a, vs, e, s.sqT t, RDs.mono s m q⟩
  | .nim, r => rw [RD] at r; exact r.elim
  | .exv _ _, r => rw [RD] at r; exact r.elim
  | .clo _ _, r => rw [RD] at r; exact r.elim
theorem RDs.mono {μ μ' : Mu} {H H' : LH} (s : Stays μ H μ' H') (m : Sub μ μ') : ∀ {d : List D} {v : List V}, RDs ρ μ H d v → RDs ρ μ' H' d v := by
  intro d v r
  match d, r with
  | [], r => rw [RDs] at r ⊢; exact r
  | x :: xs, r =>
    rw [RDs] at r ⊢
    obtain ⟨y, q, e, a, b⟩ := r
    exact ⟨y, q, e, RD.mono s m a, RDs.mono s m b⟩
end
theorem RF.mono {μ μ' : Mu} {H H' : LH} (s : Stays μ H μ' H') (m : Sub μ μ') : ∀ {d : List (Nat × D)} {v : List (Str × V)}, RF ρ μ H d v → RF ρ μ' H' d v
  | [], _, r => r
  | p :: xs, _, r => by
    rw [RF] at r ⊢
    obtain ⟨y, q, e, a, b⟩ := r
    exact ⟨y, q, e, RD.mono s m a, RF.mono s m b⟩
theorem RO.mono {μ μ' : Mu} {H H' : LH} (s : Stays μ H μ' H') (m : Sub μ μ') {a : Addr} {ob : Ob} (e : ∀ o, H a = some o → H' a = some o) (r : RO ρ μ H a ob) : RO ρ μ' H' a ob := by
  obtain ⟨o, k⟩ := ob
  cases o <;> cases k
  case lst.false => obtain ⟨ws, q, z⟩ := r; exact ⟨ws, e _ q, z.mono s m⟩
  case ins.false => obtain ⟨dx, ws, q, z, hc⟩ := r; exact ⟨dx, ws, e _ q, z.mono s m, hc⟩
  case dic.false =>
    obtain ⟨ws, ⟨l, q⟩, z⟩ := r
    refine ⟨ws, ⟨l, q.imp (fun y => ⟨y.1, ?_⟩) (fun y => ⟨y.1, ?_⟩)⟩, z.mono s m⟩
    · exact y.2.imp (e _) fun ⟨o, w⟩ => ⟨o, e _ w⟩
    · exact y.2.imp (e _) fun ⟨o, w⟩ => ⟨o, e _ w⟩
  all_goals exact r
theorem LR.mono {μ μ' : Mu} {H H' : LH} (s : Stays μ H μ' H') (m : Sub μ μ') {l : Loc} {σ : LS} (r : LR ρ μ H l σ) : LR ρ μ' H' l σ := ⟨r.1, fun i d e => by
  obtain ⟨v, h1, h2⟩ := r.2 i d e
  exact ⟨v, h1, h2.mono s m⟩⟩
theorem RDs.length {μ : Mu} {H : LH} : ∀ {d : List D} {v : List V}, RDs ρ μ H d v → v.length = d.length
  | [], _, r => by rw [RDs] at r; subst r; rfl
  | x :: xs, _, r => by
    rw [RDs] at r
    obtain ⟨y, q, rfl, a, b⟩ := r
    rw [List.length_cons, List.length_cons, b.length]
theorem RDs.get {μ : Mu} {H : LH} : ∀ {d : List D} {v : List V} {i : Nat} {x : D}, RDs ρ μ H d v → d[i]? = some x → ∃ u, v[i]? = some u ∧ RD ρ μ H x u
  | [], _, i, x, _, e => by simp at e
  | y :: xs, _, 0, x, r, e => by
    rw [RDs] at r
    obtain ⟨u, q, rfl, a, b⟩ := r
    simp at e
    subst e
    exact ⟨u, rfl, a⟩
  | y :: xs, _, i + 1, x, r, e => by
    rw [RDs] at r
    obtain ⟨u, q, rfl, a, b⟩ := r
    obtain ⟨w, h1, h2⟩ := RDs.get (i := i) b (by simpa using e)
    exact ⟨w, by simpa using h1, h2⟩
theorem RDs.append {μ : Mu} {H : LH} : ∀ {d e : List D} {v w : List V}, RDs ρ μ H d v → RDs ρ μ H e w → RDs ρ μ H (d ++ e) (v ++ w)
  | [], _, _, _, r, q => by rw [RDs] at r; rw [r]; exact q
  | x :: xs, _, _, _, r, q => by
    rw [RDs] at r
    obtain ⟨u, z, rfl, a, b⟩ := r
    show RDs ρ μ H (x :: (xs ++ _)) (u :: (z ++ _))
    rw [RDs]
    exact ⟨u, _, rfl, a, b.append q⟩
theorem RDs.one {μ : Mu} {H : LH} {d : D} {v : V} (r : RD ρ μ H d v) : RDs ρ μ H [d] [v] := by
  rw [RDs]
  exact ⟨v, [], rfl, r, by rw [RDs]⟩
theorem RDs.two {μ : Mu} {H : LH} {d e : D} {v w : V} (r : RD ρ μ H d v) (q : RD ρ μ H e w) : RDs ρ μ H [d, e] [v, w] := by
  rw [RDs]
  exact ⟨v, [w], rfl, r, RDs.one q⟩
theorem RDs.take {μ : Mu} {H : LH} : ∀ {d : List D} {v : List V} (n : Nat), RDs ρ μ H d v → RDs ρ μ H (d.take n) (v.take n)
  | _, _, 0, _ => by rw [List.take_zero, List.take_zero, RDs]
  | [], _, n + 1, r => by rw [RDs] at r; rw [r, List.take_nil, List.take_nil, RDs]
  | x :: xs, _, n + 1, r => by
    rw [RDs] at r
    obtain ⟨u, z, rfl, a, b⟩ := r
    rw [List.take_succ_cons, List.take_succ_cons, RDs]
    exact ⟨u, _, rfl, a, b.take n⟩
theorem RDs.drop {μ : Mu} {H : LH} : ∀ {d : List D} {v : List V} (n : Nat), RDs ρ μ H d v → RDs ρ μ H (d.drop n) (v.drop n)
  | _, _, 0, r => by rw [List.drop_zero, List.drop_zero]; exact r
  | [], _, n + 1, r => by rw [RDs] at r; rw [r, List.drop_nil, List.drop_nil, RDs]
  | x :: xs, _, n + 1, r => by
    rw [RDs] at r
    obtain ⟨u, z, rfl, a, b⟩ := r
    rw [List.drop_succ_cons, List.drop_succ_cons]
    exact b.drop n
theorem RDs.set {μ : Mu} {H : LH} {x : D} {u : V} (q : RD ρ μ H x u) : ∀ {d : List D} {v : List V} (n : Nat), RDs ρ μ H d v → RDs ρ μ H (d.set n x) (v.set n u)
  | [], _, n, r => by rw [RDs] at r; rw [r, List.set_nil, List.set_nil, RDs]
  | y :: xs, _, 0, r => by
    rw [RDs] at r
    obtain ⟨w, z, rfl, a, b⟩ := r
    rw [List.set_cons_zero, List.set_cons_zero, RDs]
    exact ⟨u, _, rfl, q, b⟩
  | y :: xs, _, n + 1, r => by
    rw [RDs] at r
    obtain ⟨w, z, rfl, a, b⟩ := r
    rw [List.set_cons_succ, List.set_cons_succ, RDs]
    exact ⟨w, _, rfl, a, b.set q n⟩
/-- flat values are what they are -/
theorem RD.flat {μ : Mu} {H : LH} {d : D} {v : V} (f : isFlat d = true) (r : RD ρ μ H d v) : v = vOf d ∧ L2.flatV v = true := by
  cases d <;> first | (simp [isFlat] at f; done) | (rw [RD] at r; subst r; exact ⟨by rfl, by rfl⟩)
theorem RDs.flat {μ : Mu} {H : LH} : ∀ {d : List D} {v : List V}, d.all isFlat = true → RDs ρ μ H d v → v = d.map vOf ∧ v.all L2.flatV = true
  | [], _, _, r => by rw [RDs] at r; subst r; exact ⟨by rfl, by rfl⟩
  | x :: xs, _, f, r => by
    rw [RDs] at r
    obtain ⟨u, z, rfl, a, b⟩ := r
    rw [List.all_cons, Bool.and_eq_true] at f
    obtain ⟨h1, h2⟩ := RD.flat f.1 a
    obtain ⟨h3, h4⟩ := RDs.flat f.2 b
    rw [h3, List.map_cons, ← h1]
    refine ⟨by rfl, ?_⟩
    rw [List.all_cons, ← h3, h2, h4]; rfl
theorem RD.of_flat {μ : Mu} {H : LH} {d : D} (f : isFlat d = true) : RD ρ μ H d (vOf d) := by
  cases d <;> first | (simp [isFlat] at f; done) | (rw [RD]; rfl)
theorem RDs.of_flat {μ : Mu} {H : LH} : ∀ {d : List D}, d.all isFlat = true → RDs ρ μ H d (d.map vOf)
  | [], _ => by rw [RDs]; rfl
  | x :: xs, f => by
    rw [List.all_cons, Bool.and_eq_true] at f
    rw [List.map_cons, RDs]
    exact ⟨_, _, rfl, RD.of_flat f.1, RDs.of_flat f.2⟩
/-! ### new objects, changed objects -/
theorem Ext.tup {μ : Mu} {h : Hp} {H : LH} (R : HR ρ μ h H) {p : Addr} (e : H p = none) (o : HO) : Ext μ H μ (upd H p o) where
  pre := List.prefix_refl _
  keep := fun b u _ q => by rw [upd_ne (L2.ne_of_none q e)]; exact q
  frz := fun b u w q => by rw [upd_ne (L2.ne_of_none q e)]; exact q
  fresh := fun b h1 h2 => absurd h1 h2
  ow := fun _ h => .inl h
  owk := fun _ h => h
/-- something that is not numbered is laid -/
theorem HR.beside {μ : Mu} {h : Hp} {H : LH} (R : HR ρ μ h H) {p : Addr} (e : H p = none) (o : HO) : HR ρ μ h (upd H p o) := by
  have x := Ext.tup R e o
  refine ⟨R.len, R.nd, fun i ob a h1 h2 => ?_, fun b hb => ?_⟩
  · refine (R.at_ i ob a h1 h2).mono (x.stays R) x.sub fun u q => ?_
    rw [upd_ne (L2.ne_of_none q e)]
    exact q
  · obtain ⟨h1, u, q⟩ := R.ow b hb
    exact ⟨h1, u, by rw [upd_ne (L2.ne_of_none q e)]; exact q⟩
theorem Ext.num {μ : Mu} {h : Hp} {H : LH} (R : HR ρ μ h H) {p : Addr} (e : H p = none) (o : HO) : Ext μ H (μ.num p) (upd H p o) where
  pre := List.prefix_append _ _
  keep := fun b u _ q => by rw [upd_ne (L2.ne_of_none q e)]; exact q
  frz := fun b u w q => by rw [upd_ne (L2.ne_of_none q e)]; exact q
  fresh := fun b h1 h2 => by
    rcases List.mem_append.mp h1 with q | q
    · exact absurd q h2
    · rw [List.mem_singleton.mp q]; exact e
  ow := fun _ h => .inl h
  owk := fun _ h => h
theorem HR.newI {μ : Mu} {h : Hp} {H : LH} (R : HR ρ μ h H) {a : Addr} (e : H a = none) : a ∉ μ.ix := fun z => R.new e (.inl z)
/-- a new numbered object -/
theorem HR.push {μ : Mu} {h : Hp} {H : LH} (R : HR ρ μ h H) {p : Addr} (e : H p = none) {o : HO} {ob : Ob} (r : RO ρ (μ.num p) (upd H p o) p ob) : HR ρ (μ.num p) (h ++ [ob]) (upd H p o) := by
  have x := Ext.num R e o
  have hp := R.newI e
  refine ⟨by show (μ.ix ++ [p]).length = _; rw [List.length_append, List.length_append, R.len]; rfl, ?_, fun i ob' a h1 h2 => ?_, fun b hb => ?_⟩
  · show (μ.ix ++ [p]).Nodup
    rw [List.nodup_append]
    exact ⟨R.nd, by simp, fun a ha b hb => by rw [List.mem_singleton.mp hb]; exact fun z => hp (z ▸ ha)⟩
  · have h2 : (μ.ix ++ [p])[i]? = some a := h2
    by_cases hi : i < h.length
    · rw [List.getElem?_append_left hi] at h1
      rw [List.getElem?_append_left (by rw [R.len]; exact hi)] at h2
      refine (R.at_ i ob' a h1 h2).mono (x.stays R) x.sub fun u q => ?_
      rw [upd_ne (L2.ne_of_none q e)]
      exact q
    · have hi2 : i = h.length := by
        have := (List.getElem?_eq_some_iff.mp h1).1
        rw [List.length_append] at this
        simp at this
        omega
      subst hi2
      rw [List.getElem?_append_right (Nat.le_refl _), Nat.sub_self] at h1
      rw [List.getElem?_append_right (by rw [R.len]; exact Nat.le_refl _), R.len, Nat.sub_self] at h2
      simp at h1 h2
      subst h1
      subst h2
      exact r
  · obtain ⟨h1, u, q⟩ := R.ow b hb
    refine ⟨fun z => ?_, u, by rw [upd_ne (L2.ne_of_none q e)]; exact q⟩
    rcases List.mem_append.mp z with z | z
    · exact h1 z
    · rw [List.mem_singleton.mp z, e] at q; cases q
theorem HR.last {μ : Mu} {h : Hp} {H : LH} (R : HR ρ μ h H) (p : Addr) : (μ.num p).ix[h.length]? = some p := by
  show (μ.ix ++ [p])[h.length]? = _
  rw [List.getElem?_append_right (by rw [R.len]; exact Nat.le_refl _), R.len, Nat.sub_self]
  rfl
/-- a numbered object is changed -/
theorem Ext.set {μ : Mu} {h : Hp} {H : LH} (R : HR ρ μ h H) {i : Nat} {a : Addr} {ob : Ob} (hi : h[i]? = some ob) (ha : μ.ix[i]? = some a) (nf : ∀ o u, H a ≠ some (.frz o u)) (o : HO) : Ext μ H μ (upd H a o) where
  pre := List.prefix_refl _
  keep := fun b u hb q => by
    have ne : b ≠ a := fun z => by subst z; exact hb (List.mem_of_getElem? ha)
    rw [upd_ne ne]
    exact q
  frz := fun b u w q => by
    have ne : b ≠ a := fun z => by subst z; exact nf u w q
    rw [upd_ne ne]
    exact q
  fresh := fun b h1 h2 => absurd h1 h2
  ow := fun _ h => .inl h
  owk := fun _ h => h
theorem HR.set {μ : Mu} {h : Hp} {H : LH} (R : HR ρ μ h H) {i : Nat} {a : Addr} {ob ob' : Ob} (hi : h[i]? = some ob) (ha : μ.ix[i]? = some a) (nf : ∀ o u, H a ≠ some (.frz o u)) {o : HO} (r : RO ρ μ (upd H a o) a ob') : HR ρ μ (h.set i ob') (upd H a o) := by
  have x := Ext.set R hi ha nf o
  refine ⟨by rw [List.length_set]; exact R.len, R.nd, fun j ob2 b h1 h2 => ?_, fun b hb => ?_⟩
  · by_cases hj : i = j
    · subst hj
      rw [List.getElem?_set_self (List.getElem?_eq_some_iff.mp hi).1] at h1
      rw [ha] at h2
      cases h1
      cases h2
      exact r
    · rw [List.getElem?_set_ne hj] at h1
      have hne : b ≠ a := fun z => by
        subst z
        obtain ⟨l1, e1⟩ := List.getElem?_eq_some_iff.mp ha
        obtain ⟨l2, e2⟩ := List.getElem?_eq_some_iff.mp h2
        exact hj ((List.getElem_inj R.nd).mp (e1.trans e2.symm))
      refine (R.at_ j ob2 b h1 h2).mono (x.stays R) x.sub fun u q => ?_
      rw [upd_ne hne]
      exact q
  · obtain ⟨h1, u, q⟩ := R.ow b hb
    exact ⟨h1, u, x.keep b u h1 q⟩
/-! ### what is being built -/
theorem Ext.own {μ : Mu} {h : Hp} {H : LH} (R : HR ρ μ h H) {D : Addr} (hD : H D = none) (o : HO) : Ext μ H (μ.own D) (upd H D o) where
  pre := List.prefix_refl _
  keep := fun b u _ q => by rw [upd_ne (L2.ne_of_none q hD)]; exact q
  frz := fun b u w q => by rw [upd_ne (L2.ne_of_none q hD)]; exact q
  fresh := fun b h1 h2 => absurd h1 h2
  ow := fun b hb => by
    rcases List.mem_cons.mp hb with z | z
    · subst z; exact .inr ⟨R.newI hD, hD⟩
    · exact .inl z
  owk := fun b hb => List.mem_cons_of_mem _ hb
theorem HR.own {μ : Mu} {h : Hp} {H : LH} (R : HR ρ μ h H) {D : Addr} {o : HO} (hD : H D = none) : HR ρ (μ.own D) h (upd H D o) := by
  have x := Ext.own R hD o
  refine ⟨R.len, R.nd, fun i ob a h1 h2 => ?_, fun b hb => ?_⟩
  · exact (R.at_ i ob a h1 h2).mono (x.stays R) x.sub fun u q => by
      rw [upd_ne (L2.ne_of_none q hD)]
      exact q
  · rcases List.mem_cons.mp hb with z | z
    · subst z; exact ⟨R.newI hD, o, upd_same⟩
    · obtain ⟨h1, u, q⟩ := R.ow b z
      exact ⟨h1, u, by rw [upd_ne (L2.ne_of_none q hD)]; exact q⟩
/-- it is let go -/
def Mu.let (μ : Mu) (D : Addr) : Mu := ⟨μ.ix, μ.ow.filter fun b => !decide (b = D)⟩
theorem Mu.mem_let {μ : Mu} {D b : Addr} : b ∈ (μ.let D).ow ↔ b ∈ μ.ow ∧ b ≠ D := by
  show b ∈ μ.ow.filter _ ↔ _
  rw [List.mem_filter]
  simp
theorem Stays.let {μ : Mu} {H : LH} {D : Addr} : Stays μ H (μ.let D) H := ⟨fun _ _ e => e, fun _ _ _ e => e, fun b o hb eo => ⟨eo, fun hm => by
  rcases hm with hm | hm
  · exact hb (.inl hm)
  · exact hb (.inr (Mu.mem_let.mp hm).1)⟩⟩
theorem Sub.let {μ : Mu} {D : Addr} : Sub μ (μ.let D) := fun _ _ e => e
theorem HR.let {μ : Mu} {h : Hp} {H : LH} (R : HR ρ μ h H) (D : Addr) : HR ρ (μ.let D) h H :=
  ⟨R.len, R.nd, fun i ob a h1 h2 => (R.at_ i ob a h1 h2).mono Stays.let Sub.let fun _ q => q, fun b hb => R.ow b (Mu.mem_let.mp hb).1⟩
theorem Ext.let {μ μ' : Mu} {H H' : LH} {D : Addr} (hD : D ∉ μ.ow) (x : Ext μ H μ' H') : Ext μ H (μ'.let D) H' :=
  ⟨x.pre, x.keep, x.frz, x.fresh, fun b hb => x.ow b (Mu.mem_let.mp hb).1, fun b hb => Mu.mem_let.mpr ⟨x.owk b hb, fun z => hD (z ▸ hb)⟩⟩
/-- .. it may be written -/
theorem HR.write {μ : Mu} {h : Hp} {H : LH} (R : HR ρ μ h H) {D : Addr} {o o' : HO} (hD : D ∈ μ.ow) (e : H D = some o) (nt : ∀ vs, o ≠ .tup vs) (nf : ∀ a b, o ≠ .frz a b) : HR ρ μ h (upd H D o') ∧ Stays μ H μ (upd H D o') := by
  have st : Stays μ H μ (upd H D o') := ⟨fun b vs q => by
    rw [upd_ne (fun z => by subst z; rw [e] at q; cases q; exact nt _ rfl)]; exact q, fun b a u q => by
    rw [upd_ne (fun z => by subst z; rw [e] at q; cases q; exact nf _ _ rfl)]; exact q, fun b u hb q => by
    rw [upd_ne (fun z => by subst z; exact hb (.inr hD))]; exact ⟨q, hb⟩⟩
  refine ⟨⟨R.len, R.nd, fun i ob a h1 h2 => ?_, fun b hb => ?_⟩, st⟩
  · refine (R.at_ i ob a h1 h2).mono st (fun _ _ e => e) fun u q => ?_
    rw [upd_ne (fun z => (R.ow D hD).1 (by rw [← z]; exact List.mem_of_getElem? h2))]
    exact q
  · by_cases z : b = D
    · subst z; exact ⟨(R.ow b hb).1, o', upd_same⟩
    · obtain ⟨h1, u, q⟩ := R.ow b hb
      exact ⟨h1, u, by rw [upd_ne z]; exact q⟩
/-- .. what was kept since its start is kept -/
theorem Ext.write {μ μ' : Mu} {H H' : LH} {D : Addr} {o o' : HO} (hD : H D = none) (x : Ext μ H μ' H') (e : H' D = some o) (nf : ∀ a b, o ≠ .frz a b) : Ext μ H μ' (upd H' D o') :=
  ⟨x.pre, fun b u hb q => by rw [upd_ne (L2.ne_of_none q hD)]; exact x.keep b u hb q, fun b a u q => by rw [upd_ne (L2.ne_of_none q hD)]; exact x.frz b a u q, x.fresh, x.ow, x.owk⟩
/-- what is built is numbered -/
theorem adopt {μ : Mu} {h : Hp} {H : LH} (R : HR ρ μ h H) {p : Addr} {vs : List V} {ds : List D} (hD : p ∈ μ.ow) (e : H p = some (.lst vs)) (r : RDs ρ μ H ds vs) : HR ρ ((μ.let p).num p) (h ++ [⟨.lst ds, false⟩]) H := by
  have hp := (R.ow p hD).1
  have sub : Sub μ ((μ.let p).num p) := fun i a e => by
    show (μ.ix ++ [p])[i]? = some a
    rw [List.getElem?_append_left (List.getElem?_eq_some_iff.mp e).1]; exact e
  have sp : Stays μ H ((μ.let p).num p) H := ⟨fun _ _ e => e, fun _ _ _ e => e, fun b o hb eo => ⟨eo, fun hm => by
    rcases hm with hm | hm
    · rcases List.mem_append.mp hm with hm | hm
      · exact hb (.inl hm)
      · rw [List.mem_singleton.mp hm] at hb; exact hb (.inr hD)
    · exact hb (.inr (Mu.mem_let.mp hm).1)⟩⟩
  refine ⟨by show (μ.ix ++ [p]).length = _; rw [List.length_append, List.length_append, R.len]; rfl, ?_, fun i ob' a h1 h2 => ?_, fun b hb => ?_⟩
  · show (μ.ix ++ [p]).Nodup
    rw [List.nodup_append]
    exact ⟨R.nd, by simp, fun a ha b hb => by rw [List.mem_singleton.mp hb]; exact fun z => hp (z ▸ ha)⟩
  · have h2 : (μ.ix ++ [p])[i]? = some a := h2
    by_cases hi : i < h.length
    · rw [List.getElem?_append_left hi] at h1
      rw [List.getElem?_append_left (by rw [R.len]; exact hi)] at h2
      exact (R.at_ i ob' a h1 h2).mono sp sub fun u q => q
    · have hi2 : i = h.length := by
        have := (List.getElem?_eq_some_iff.mp h1).1
        rw [List.length_append] at this
        simp at this
        omega
      subst hi2
      rw [List.getElem?_append_right (Nat.le_refl _), Nat.sub_self] at h1
      rw [List.getElem?_append_right (by rw [R.len]; exact Nat.le_refl _), R.len, Nat.sub_self] at h2
      simp at h1 h2
      subst h1
      subst h2
      exact ⟨vs, e, r.mono sp sub⟩
  · obtain ⟨hb1, hb2⟩ := Mu.mem_let.mp hb
    obtain ⟨h1, u, q⟩ := R.ow b hb1
    refine ⟨fun z => ?_, u, q⟩
    rcases List.mem_append.mp z with z | z
    · exact h1 z
    · exact hb2 (List.mem_singleton.mp z)
theorem Ext.adopt {μ μ' : Mu} {H H' : LH} {D : Addr} (hD : H D = none) (hn : D ∉ μ.ow) (x : Ext μ H μ' H') : Ext μ H ((μ'.let D).num D) H' :=
  have y := x.let hn
  ⟨y.pre.trans (List.prefix_append _ _), y.keep, y.frz, fun b hb hb1 => by
    rcases List.mem_append.mp hb with z | z
    · exact x.fresh b z hb1
    · rw [List.mem_singleton.mp z]; exact hD, y.ow, y.owk⟩
end Ev
end
section
/-! E5: what it is that the text computes what the evaluator computes; the first rules. -/
set_option linter.all false
set_option maxRecDepth 100000
set_option maxHeartbeats 1000000
noncomputable section
namespace Ev
open PySem PySem.Spec
open L2 (V HO RelV Vals VK XK WX SqL SqT Inv PE PT PW PA PS PSs PG PGs PI Cx upd upd_same upd_ne Rd Room EP TP thn OpR CallR TE TT TA)

section
variable (ρ : Lk)
/-- an error of the class c with its field's value -/
def XD (μ : Mu) (H : LH) (c : Nat) (vs : List D) (cls : Value) (dd : Option Addr) : Prop := cls = .ref (ρ.ca c) ∧ match vs with
  | [] => dd = none
  | [d] => ∃ x v, dd = some x ∧ H x = some (.xd [(ρ.xf c, v)]) ∧ RD ρ μ H d v
  | _ => False
/-- what is wanted of a result's ways out -/
def Good {α β : Type} (rel : Mu → LH → α → β → Prop) (W : WX) (r : R α) (μ : Mu) (σ : LS) (H : LH) (Q : β → LH → Prop) : Prop := match r with
  | .ok a h' => ∀ b H' μ', Ext μ H μ' H' → HR ρ μ' h' H' → rel μ' H' a b → Q b H'
  | .exc c vs h' => ∀ cls dd H' μ', Ext μ H μ' H' → HR ρ μ' h' H' → XD ρ μ' H' c vs cls dd → W cls dd σ H'
  | .bad => False
variable (C : Call) (W : WX)
abbrev relB : Mu → LH → Bool → Bool → Prop := fun _ _ a b => a = b
def tE (e : E) : TE := fun σ H Q => ∃ μ l h, LR ρ μ H l σ ∧ HR ρ μ h H ∧ Good ρ (RD ρ) W (evE ρ.P C e l h) μ σ H Q
def tEL (es : EL) : TA := fun σ H Q => ∃ μ l h, LR ρ μ H l σ ∧ HR ρ μ h H ∧ Good ρ (RDs ρ) W (evEL ρ.P C es l h) μ σ H Q
/-- a test -/
def evB (P : Prog) (C : Call) (e : E) (l : Loc) (h : Hp) : R Bool := (evE P C e l h).bind fun x h1 => match truth h1 x with
  | some k => .ok k h1
  | none => .bad
def tB (e : E) : TT := fun σ H Q => ∃ μ l h, LR ρ μ H l σ ∧ HR ρ μ h H ∧ Good ρ relB W (evB ρ.P C e l h) μ σ H Q
end

variable {ρ : Lk} {C : Call} {W : WX} {X : Cx}
theorem Good.bind {α α' β β' : Type} {rel1 : Mu → LH → α → β → Prop} {rel2 : Mu → LH → α' → β' → Prop} {r : R α} {f : α → Hp → R α'} {μ : Mu} {σ : LS} {H : LH} {Q : β' → LH → Prop} (g : Good ρ rel2 W (r.bind f) μ σ H Q) :
    Good ρ rel1 W r μ σ H (fun b H1 => ∃ a h1 μ1, r = .ok a h1 ∧ Ext μ H μ1 H1 ∧ HR ρ μ1 h1 H1 ∧ rel1 μ1 H1 a b ∧ Good ρ rel2 W (f a h1) μ1 σ H1 Q) := by
  cases r with
  | bad => exact g.elim
  | exc c vs h' => exact g
  | ok a h' =>
    intro b H1 μ1 x R rb
    refine ⟨a, h', μ1, by rfl, x, R, rb, ?_⟩
    have g' : Good ρ rel2 W (f a h') μ σ H Q := g
    cases e : f a h' with
    | bad => rw [e] at g'; exact g'
    | exc c vs h2 =>
      rw [e] at g'
      exact fun cls dd H' μ' x2 R2 q => g' cls dd H' μ' (x.trans x2) R2 q
    | ok a2 h2 =>
      rw [e] at g'
      exact fun b2 H' μ' x2 R2 q => g' b2 H' μ' (x.trans x2) R2 q
theorem Good.mono {α β : Type} {rel : Mu → LH → α → β → Prop} {r : R α} {μ : Mu} {σ : LS} {H : LH} {Q Q' : β → LH → Prop} (g : Good ρ rel W r μ σ H Q) (hq : ∀ b H', Q b H' → Q' b H') : Good ρ rel W r μ σ H Q' := by
  cases r with
  | bad => exact g.elim
  | exc c vs h' => exact g
  | ok a h' => exact fun b H1 μ1 x R rb => hq _ _ (g b H1 μ1 x R rb)
/-- an answer that is known -/
theorem Good.ok {α β : Type} {rel : Mu → LH → α → β → Prop} {a : α} {h' : Hp} {μ : Mu} {σ : LS} {H : LH} {Q : β → LH → Prop} (g : Good ρ rel W (.ok a h') μ σ H Q) {b : β} {H' : LH} {μ' : Mu} (x : Ext μ H μ' H') (R : HR ρ μ' h' H') (r : rel μ' H' a b) : Q b H' := g b H' μ' x R r
theorem PE.weak {e : Expr} {t t' : TE} (p : PE X e t) (w : ∀ σ H Q, t' σ H Q → t σ H Q) : PE X e t' := ⟨fun pins s σ H Q I h => p.run pins s σ H Q I (w _ _ _ h)⟩
theorem PT.weak {e : Expr} {t t' : TT} (p : PT X e t) (w : ∀ σ H Q, t' σ H Q → t σ H Q) : PT X e t' := ⟨fun pins s σ H Q I h => p.run pins s σ H Q I (w _ _ _ h)⟩
theorem PW.weak {e : Expr} {t t' : TT} (p : PW X e t) (w : ∀ σ H Q, t' σ H Q → t σ H Q) : PW X e t' := ⟨fun wh pins s σ H Q I h => p.run wh pins s σ H Q I (w _ _ _ h)⟩
theorem PA.weak {e : List Expr} {t t' : TA} (p : PA X e t) (w : ∀ σ H Q, t' σ H Q → t σ H Q) : PA X e t' := ⟨fun ps pins s σ H Q I h => p.run ps pins s σ H Q I (w _ _ _ h)⟩

/-! ### names, constants -/
theorem s_loc {i : Nat} {x : Str} {pos : Pos} (hN : X.N[i]? = some x) (hv : L2.Vis X.env.scope x) (hd : (x == ("__debug__" : Str)) = false) (hcd : (x == ("__classdict__" : Str)) = false) : PE X (.Name x pos) (tE ρ C W (.loc i)) := by
  refine PE.weak (L2.pe_var hN hv hd hcd) fun σ H Q ⟨μ, l, h, hl, R, g⟩ => ?_
  rw [evE] at g
  split at g
  · rename_i d e
    obtain ⟨v, e2, r⟩ := hl.2 i d e
    exact ⟨v, e2, g.ok Ext.rfl R r⟩
  · exact g.elim
/-- a constant -/
theorem s_con {d : D} {v : V} {e : Expr} (p : PE X e (L2.tC v)) (r : ∀ μ H, RD ρ μ H d v) : PE X e (tE ρ C W (.con d)) := by
  refine PE.weak p fun σ H Q ⟨μ, l, h, hl, R, g⟩ => ?_
  rw [evE] at g
  exact g.ok Ext.rfl R (r _ _)
theorem s_glo {d : D} {v : V} {e : Expr} {n : Nat} (p : PE X e (L2.tC v)) (hd : ρ.P.glob n = some d) (r : ∀ μ H, RD ρ μ H d v) : PE X e (tE ρ C W (.glo n)) := by
  refine PE.weak p fun σ H Q ⟨μ, l, h, hl, R, g⟩ => ?_
  rw [evE, hd] at g
  exact g.ok Ext.rfl R (r _ _)

/-! ### truth -/
theorem asStr_len (s : List Nat) : (asStr s).length = s.length := by show (asStr s).cps.size = _; simp [asStr]
/-- the truth of a value: the layer's; here the value's own object is looked at -/
theorem tru_go {pins : List (Addr × Obj)} {s : Shared} {σ : LS} {H : LH} {μ : Mu} {h : Hp} {d : D} {v : V} {u : Value} {k : Bool} {Q : Bool → LH → Prop} (I : Inv X pins σ H s) (hK : X.K = ρ.K) (R : HR ρ μ h H) (r : RD ρ μ H d v) (ru : RelV v u) (e : truth h d = some k) (q : Q k H) :
    wpAny (model X.prog X.w) X.A (truthy u) (TP X pins σ Q) X.xe s := by
  have go : L2.TruV X.K v H k → wpAny (model X.prog X.w) X.A (truthy u) (TP X pins σ Q) X.xe s := fun z => L2.tru_ok pins s σ H v u Q I ru ⟨k, z, q⟩
  cases d with
  | non => rw [RD] at r; subst r; refine go ?_; simp [truth] at e; exact e
  | bl b => rw [RD] at r; subst r; refine go ?_; simp [truth] at e; exact e.symm
  | int i => rw [RD] at r; subst r; refine go ?_; simp only [truth, Option.some.injEq] at e; exact e.symm
  | str z =>
    rw [RD] at r
    subst r
    simp only [truth] at e
    split at e
    · rename_i hz
      refine go ⟨by rw [asStr_len]; exact of_decide_eq_true hz, ?_⟩
      rw [asStr_len]
      rw [Option.some.injEq] at e
      rw [← e]
      cases z <;> simp
      omega
    · cases e
  | tup xs =>
    rw [RD] at r
    obtain ⟨a, vs, rfl, t, q⟩ := r
    refine go (.inr (.inl ⟨vs, by rw [hK]; exact t, ?_⟩))
    have n := q.length
    simp only [truth, Option.some.injEq] at e
    rw [← e]
    cases xs <;> cases vs <;> simp_all
  | vl xs =>
    rw [RD] at r
    obtain ⟨a, vs, rfl, t, q⟩ := r
    refine go (.inl ⟨vs, by rw [hK]; exact t.elim SqF.sq fun z => .inl (.inl z.2), ?_⟩)
    have n := q.length
    simp only [truth, Option.some.injEq] at e
    rw [← e]
    cases xs <;> cases vs <;> simp_all
  | ref i =>
    rw [RD] at r
    obtain ⟨a, ea, rfl⟩ := r
    simp only [truth] at e
    split at e
    · rename_i xs lk eo
      obtain ⟨b, eb, ro⟩ := R.get eo
      rw [ea] at eb
      cases eb
      cases lk with
      | true => exact ro.elim
      | false =>
        obtain ⟨vs, ev, rv⟩ := ro
        refine go (.inl ⟨vs, .inl (.inl ev), ?_⟩)
        have n := rv.length
        rw [Option.some.injEq] at e
        rw [← e]
        cases xs <;> cases vs <;> simp_all
    · cases e
  | _ => simp [truth] at e
end Ev
end
end
section
/-! E6: tests, and, or, not, arguments, displays. -/
set_option linter.all false
set_option maxRecDepth 100000
set_option maxHeartbeats 1000000
noncomputable section
namespace Ev
open PySem PySem.Spec PyProof.Rows
open L2 (V HO RelV Vals VK XK WX SqL SqT Inv PE PT PW PA PS PSs PG PGs PI Cx upd upd_same upd_ne Rd Room EP TP thn OpR CallR TE TT TA)

/-- where the text's part stands -/
structure Ct (ρ : Lk) (X : Cx) : Prop where
  K : X.K = ρ.K
  mg : X.mg = ρ.mg
  pr : X.prog = ρ.prog
  ww : X.w = ρ.w
  calm : X.calm = true
  hu : X.A.units + 200 < cLine
  gd : X.A.guards = some []
  hd : X.A.handled = none
  sm : ∃ o, X.base.get? sysModules = some o ∧ o.cls ≠ .type "list"

variable {ρ : Lk} {C : Call} {W : WX} {X : Cx} {pins : List (Addr × Obj)} {s : Shared} {σ : LS} {H : LH} {μ : Mu} {h : Hp}
/-- a value's truth, behind it the result's ways out -/
theorem tru_then {α β : Type} {rel : Mu → LH → α → β → Prop} {d : D} {v : V} {u : Value} {f : Bool → R α} {Q : β → LH → Prop} {Z : Bool → Shared → Prop} (c : Ct ρ X) (I : Inv X pins σ H s) (R : HR ρ μ h H) (r : RD ρ μ H d v) (ru : RelV v u)
    (g : Good ρ rel W (match truth h d with | some k => f k | none => .bad) μ σ H Q) (q : ∀ k s', Inv X pins σ H s' → Good ρ rel W (f k) μ σ H Q → truth h d = some k → Z k s') : wpAny (model X.prog X.w) X.A (truthy u) Z X.xe s := by
  cases e : truth h d with
  | none => rw [e] at g; exact g.elim
  | some k =>
    rw [e] at g
    refine thn (tru_go (Q := fun b H' => b = k ∧ H' = H) I c.K R r ru e ⟨rfl, rfl⟩) fun b s' ⟨H', I', e1, e2⟩ => ?_
    subst e1
    subst e2
    exact q b s' I' g e

section
variable {a b e : Expr} {a' b' e' c' : E} {pos : Pos} {rest : List Expr}
/-- and as a value -/
theorem s_and (c : Ct ρ X) (ha : PE X a (tE ρ C W a')) (hb : PE X (.BoolOp .And (b :: rest) pos) (tE ρ C W b')) : PE X (.BoolOp .And (a :: b :: rest) pos) (tE ρ C W (.and a' b')) := by
  refine ⟨fun pins s σ H Q I ⟨μ, l, h, hl, R, g⟩ => ?_⟩
  rw [evE] at g
  refine BoolOp_and (thn (ha.run pins s σ H _ I ⟨μ, l, h, hl, R, g.bind⟩) fun v s1 ⟨x, H1, I1, r1, d, h1, μ1, er, x1, R1, rd, g1⟩ => ?_)
  have g2 : Good ρ (RD ρ) W (match truth h1 d with | some k => (if k then evE ρ.P C b' l h1 else .ok d h1) | none => .bad) μ1 σ H1 Q := by
    cases e : truth h1 d with
    | none => rw [e] at g1; exact g1
    | some k => rw [e] at g1; cases k <;> exact g1
  refine tru_then c I1 R1 rd r1 g2 fun k s2 I2 g3 ek => ?_
  cases k with
  | true => exact hb.run pins s2 σ H1 Q I2 ⟨μ1, l, h1, hl.mono (x1.stays R) x1.sub, R1, g3⟩
  | false => exact ⟨x, H1, I2, r1, g3.ok Ext.rfl R1 rd⟩
theorem s_or (c : Ct ρ X) (ha : PE X a (tE ρ C W a')) (hb : PE X (.BoolOp .Or (b :: rest) pos) (tE ρ C W b')) : PE X (.BoolOp .Or (a :: b :: rest) pos) (tE ρ C W (.or a' b')) := by
  refine ⟨fun pins s σ H Q I ⟨μ, l, h, hl, R, g⟩ => ?_⟩
  rw [evE] at g
  refine BoolOp_or (thn (ha.run pins s σ H _ I ⟨μ, l, h, hl, R, g.bind⟩) fun v s1 ⟨x, H1, I1, r1, d, h1, μ1, er, x1, R1, rd, g1⟩ => ?_)
  have g2 : Good ρ (RD ρ) W (match truth h1 d with | some k => (if k then .ok d h1 else evE ρ.P C b' l h1) | none => .bad) μ1 σ H1 Q := by
    cases e : truth h1 d with
    | none => rw [e] at g1; exact g1
    | some k => rw [e] at g1; cases k <;> exact g1
  refine tru_then c I1 R1 rd r1 g2 fun k s2 I2 g3 ek => ?_
  cases k with
  | false => exact hb.run pins s2 σ H1 Q I2 ⟨μ1, l, h1, hl.mono (x1.stays R) x1.sub, R1, g3⟩
  | true => exact ⟨x, H1, I2, r1, g3.ok Ext.rfl R1 rd⟩
theorem s_one {op : BoolOp} (ha : PE X a (tE ρ C W a')) : PE X (.BoolOp op [a] pos) (tE ρ C W a') := L2.pe_one ha
theorem s_not (c : Ct ρ X) (ha : PE X a (tE ρ C W a')) : PE X (.UnaryOp .Not a pos) (tE ρ C W (.not a')) := by
  refine ⟨fun pins s σ H Q I ⟨μ, l, h, hl, R, g⟩ => ?_⟩
  rw [evE] at g
  refine UnaryOp_ (thn (ha.run pins s σ H _ I ⟨μ, l, h, hl, R, g.bind⟩) fun v s1 ⟨x, H1, I1, r1, d, h1, μ1, er, x1, R1, rd, g1⟩ => ?_)
  refine not_of (tru_then (rel := RD ρ) (Q := Q) (f := fun k => (Ev.R.ok (D.bl !k) h1 : Ev.R D)) c I1 R1 rd r1 g1 fun k s2 I2 g3 ek => ?_)
  exact ⟨.bl !k, H1, I2, rfl, g3.ok Ext.rfl R1 (by rw [RD])⟩
theorem s_neg (ha : PE X a (tE ρ C W a')) : PE X (.UnaryOp .USub a pos) (tE ρ C W (.neg a')) := by
  refine ⟨fun pins s σ H Q I ⟨μ, l, h, hl, R, g⟩ => ?_⟩
  rw [evE] at g
  refine UnaryOp_ (thn (ha.run pins s σ H _ I ⟨μ, l, h, hl, R, g.bind⟩) fun v s1 ⟨x, H1, I1, r1, d, h1, μ1, er, x1, R1, rd, g1⟩ => ?_)
  cases d with
  | int i =>
    rw [RD] at rd
    subst rd
    exact L2.un_neg pins s1 σ H1 _ v Q I1 r1 ⟨i, rfl, g1.ok Ext.rfl R1 (by rw [RD])⟩
  | _ => exact g1.elim

/-! ### tests -/
/-- any expression but and, or, not, a comparison, a conditional one -/
theorem t_plain (c : Ct ρ X) (ha : PE X e (tE ρ C W e')) (he : ∀ whole, isTrue e X.env whole = (do let v ← whole; standAt e.pos; holding [v] (truthy v))) : PT X e (tB ρ C W e') := by
  refine ⟨fun pins s σ H Q I ⟨μ, l, h, hl, R, g⟩ => ?_⟩
  unfold evB at g
  refine isTrue_plain (thn (ha.run pins s σ H _ I ⟨μ, l, h, hl, R, g.bind⟩) fun v s1 ⟨x, H1, I1, r1, d, h1, μ1, er, x1, R1, rd, g1⟩ => ?_) (he _)
  exact tru_then (rel := relB) (Q := Q) (f := fun k => (Ev.R.ok k h1 : Ev.R Bool)) c I1 R1 rd r1 g1 fun k s2 I2 g3 ek => ⟨H1, I2, g3.ok Ext.rfl R1 rfl⟩
theorem evB_and {l : Loc} : evB ρ.P C (.and a' b') l h = (evB ρ.P C a' l h).bind fun k h1 => if k then evB ρ.P C b' l h1 else .ok false h1 := by
  unfold evB
  rw [evE]
  cases evE ρ.P C a' l h with
  | bad => rfl
  | exc => rfl
  | ok d h1 =>
    simp only [R.bind_ok]
    cases e : truth h1 d with
    | none => rfl
    | some k => cases k <;> simp [R.bind, e]
theorem evB_or {l : Loc} : evB ρ.P C (.or a' b') l h = (evB ρ.P C a' l h).bind fun k h1 => if k then .ok true h1 else evB ρ.P C b' l h1 := by
  unfold evB
  rw [evE]
  cases evE ρ.P C a' l h with
  | bad => rfl
  | exc => rfl
  | ok d h1 =>
    simp only [R.bind_ok]
    cases e : truth h1 d with
    | none => rfl
    | some k => cases k <;> simp [R.bind, e]
theorem evB_not {l : Loc} : evB ρ.P C (.not a') l h = (evB ρ.P C a' l h).bind fun k h1 => .ok (!k) h1 := by
  unfold evB
  rw [evE]
  cases evE ρ.P C a' l h with
  | bad => rfl
  | exc => rfl
  | ok d h1 =>
    simp only [R.bind_ok]
    cases e : truth h1 d with
    | none => rfl
    | some k => rfl
theorem t_and1 {op : BoolOp} (ha : PT X a (tB ρ C W a')) : PW X (.BoolOp op [a] pos) (tB ρ C W a') := by
  cases op with
  | And => exact L2.pw_and1 ha
  | Or => exact L2.pw_or1 ha
theorem t_and (ha : PT X a (tB ρ C W a')) (hb : PW X (.BoolOp .And (b :: rest) pos) (tB ρ C W b')) : PW X (.BoolOp .And (a :: b :: rest) pos) (tB ρ C W (.and a' b')) := by
  refine PW.weak (L2.pw_and ha hb) fun σ H Q ⟨μ, l, h, hl, R, g⟩ => ?_
  rw [evB_and] at g
  refine ⟨μ, l, h, hl, R, g.bind.mono fun k H1 ⟨k', h1, μ1, er, x1, R1, e, g1⟩ => ?_⟩
  obtain rfl : k' = k := e
  cases k' with
  | true => exact ⟨μ1, l, h1, hl.mono (x1.stays R) x1.sub, R1, g1⟩
  | false => exact g1.ok Ext.rfl R1 rfl
theorem t_or (ha : PT X a (tB ρ C W a')) (hb : PW X (.BoolOp .Or (b :: rest) pos) (tB ρ C W b')) : PW X (.BoolOp .Or (a :: b :: rest) pos) (tB ρ C W (.or a' b')) := by
  refine PW.weak (L2.pw_or ha hb) fun σ H Q ⟨μ, l, h, hl, R, g⟩ => ?_
  rw [evB_or] at g
  refine ⟨μ, l, h, hl, R, g.bind.mono fun k H1 ⟨k', h1, μ1, er, x1, R1, e, g1⟩ => ?_⟩
  obtain rfl : k' = k := e
  cases k' with
  | false => exact ⟨μ1, l, h1, hl.mono (x1.stays R) x1.sub, R1, g1⟩
  | true => exact g1.ok Ext.rfl R1 rfl
theorem t_not (ha : PT X a (tB ρ C W a')) : PT X (.UnaryOp .Not a pos) (tB ρ C W (.not a')) := by
  refine PT.weak (L2.pt_not ha) fun σ H Q ⟨μ, l, h, hl, R, g⟩ => ?_
  rw [evB_not] at g
  refine ⟨μ, l, h, hl, R, g.bind.mono fun k H1 ⟨k', h1, μ1, er, x1, R1, e, g1⟩ => ?_⟩
  obtain rfl : k' = k := e
  exact g1.ok Ext.rfl R1 rfl
theorem evE_ite {l : Loc} : evE ρ.P C (.ite c' a' b') l h = (evB ρ.P C c' l h).bind fun k h1 => if k then evE ρ.P C a' l h1 else evE ρ.P C b' l h1 := by
  unfold evB
  rw [evE]
  cases evE ρ.P C c' l h with
  | bad => rfl
  | exc => rfl
  | ok d h1 =>
    simp only [R.bind_ok]
    cases e : truth h1 d with
    | none => rfl
    | some k => cases k <;> rfl
theorem s_ite (hc : PT X e (tB ρ C W c')) (ha : PE X a (tE ρ C W a')) (hb : PE X b (tE ρ C W b')) : PE X (.IfExp e a b pos) (tE ρ C W (.ite c' a' b')) := by
  refine PE.weak (L2.pe_ifExp hc ha hb) fun σ H Q ⟨μ, l, h, hl, R, g⟩ => ?_
  rw [evE_ite] at g
  refine ⟨μ, l, h, hl, R, g.bind.mono fun k H1 ⟨k', h1, μ1, er, x1, R1, e, g1⟩ => ?_⟩
  obtain rfl : k' = k := e
  cases k' with
  | true => exact ⟨μ1, l, h1, hl.mono (x1.stays R) x1.sub, R1, g1⟩
  | false => exact ⟨μ1, l, h1, hl.mono (x1.stays R) x1.sub, R1, g1⟩
end

/-! ### arguments, displays -/
section
variable {e : Expr} {es : List Expr} {e' : E} {es' : EL} {pos : Pos}
theorem s_nil : PA X [] (tEL ρ C W .nil) := by
  refine PA.weak L2.pa_nil fun σ H Q ⟨μ, l, h, hl, R, g⟩ => ?_
  rw [evEL] at g
  exact g.ok Ext.rfl R (by rw [RDs])
theorem s_cons (ha : PE X e (tE ρ C W e')) (hr : PA X es (tEL ρ C W es')) (hs : starEach (e :: es) X.env = (false, eval e X.env) :: starEach es X.env) : PA X (e :: es) (tEL ρ C W (.cons false e' es')) := by
  refine PA.weak (L2.pa_cons ha hr hs) fun σ H Q ⟨μ, l, h, hl, R, g⟩ => ?_
  rw [evEL] at g
  refine ⟨μ, l, h, hl, R, g.bind.mono fun v H1 ⟨d, h1, μ1, er, x1, R1, rd, g1⟩ => ?_⟩
  have g2 : Good ρ (RDs ρ) W ((evEL ρ.P C es' l h1).bind fun xs h2 => .ok (d :: xs) h2) μ1 σ H1 Q := g1
  refine ⟨μ1, l, h1, hl.mono (x1.stays R) x1.sub, R1, g2.bind.mono fun vs H2 ⟨ds, h2, μ2, er2, x2, R2, rds, g3⟩ => ?_⟩
  refine g3.ok Ext.rfl R2 ?_
  rw [RDs]
  exact ⟨v, vs, rfl, rd.mono (x2.stays R1) x2.sub, rds⟩
theorem s_tup {k : Nat} (ha : PA X es (tEL ρ C W es')) : PE X (.Tuple es k pos) (tE ρ C W (.tup es')) := by
  refine PE.weak (L2.pe_tup ha) fun σ H Q ⟨μ, l, h, hl, R, g⟩ => ?_
  rw [evE] at g
  refine ⟨μ, l, h, hl, R, g.bind.mono fun vs H1 ⟨ds, h1, μ1, er, x1, R1, rd, g1⟩ => ?_⟩
  by_cases z : okLen ds.length = true
  · rw [if_pos z] at g1
    refine ⟨by rw [rd.length]; exact of_decide_eq_true z, fun p hp => ?_⟩
    have xt := Ext.tup R1 hp (.tup vs)
    refine g1.ok xt (R1.beside hp _) ?_
    rw [RD]
    exact ⟨p, vs, rfl, .inl (.inl upd_same), rd.mono (xt.stays R1) xt.sub⟩
  · rw [if_neg z] at g1
    exact g1.elim
/-- a new list -/
theorem new_lst {ds : List D} {vs : List V} {Q : VK} (R : HR ρ μ h H) (rd : RDs ρ μ H ds vs) (g : Good ρ (RD ρ) W (new h (.lst ds)) μ σ H Q) {p : Addr} (hp : H p = none) : Q (.ref p) (upd H p (.lst vs)) := by
  have xt := Ext.num R hp (.lst vs)
  refine Good.ok g xt (R.push hp ⟨vs, upd_same, rd.mono (xt.stays R) xt.sub⟩) ?_
  rw [RD]
  exact ⟨p, R.last p, rfl⟩
/-- .. that nothing changes -/
theorem new_val {ds : List D} {vs : List V} {Q : VK} (R : HR ρ μ h H) (rd : RDs ρ μ H ds vs) (g : Good ρ (RD ρ) W (.ok (.vl ds) h) μ σ H Q) {p : Addr} (hp : H p = none) : Q (.ref p) (upd H p (.lst vs)) := by
  have xt := Ext.tup R hp (.lst vs)
  refine Good.ok g xt (R.beside hp _) ?_
  rw [RD]
  exact ⟨p, vs, rfl, .inr ⟨R.new hp, upd_same⟩, rd.mono (xt.stays R) xt.sub⟩
theorem new_ls {k : Bool} {ds : List D} {vs : List V} {Q : VK} (R : HR ρ μ h H) (rd : RDs ρ μ H ds vs) (g : Good ρ (RD ρ) W (lsR k h ds) μ σ H Q) {p : Addr} (hp : H p = none) : Q (.ref p) (upd H p (.lst vs)) := by
  unfold lsR at g
  cases k with
  | true => exact new_lst R rd g hp
  | false => exact new_val R rd g hp
theorem s_lst {k : Bool} (ha : PA X es (tEL ρ C W es')) : PE X (.List es pos) (tE ρ C W (.lst k es')) := by
  refine PE.weak (L2.pe_lst ha) fun σ H Q ⟨μ, l, h, hl, R, g⟩ => ?_
  rw [evE] at g
  refine ⟨μ, l, h, hl, R, g.bind.mono fun vs H1 ⟨ds, h1, μ1, er, x1, R1, rd, g1⟩ => ?_⟩
  by_cases z : okLen ds.length = true
  · rw [if_pos z] at g1
    exact ⟨by rw [rd.length]; exact of_decide_eq_true z, fun p hp => new_ls R1 rd g1 hp⟩
  · rw [if_neg z] at g1
    exact g1.elim
end
end Ev
end
end
section
/-! E7: == of data at any depth, in. -/
set_option linter.all false
set_option maxRecDepth 100000
set_option maxHeartbeats 1000000
noncomputable section
namespace Ev
open PySem PySem.Spec PyProof.Rows PySem.SeqAt
open L2 (V HO RelV Vals VK XK WX SqL SqT Inv PE PT PW PA PS PSs PG PGs PI Cx upd upd_same upd_ne Rd Room EP TP thn OpR CallR TE TT TA)
variable {ρ : Lk} {C : Call} {W : WX} {X : Cx} {pins : List (Addr × Obj)} {s : Shared} {σ : LS} {H : LH} {μ : Mu} {h : Hp}

/-- what is numbered is no tuple of the written part -/
theorem no_tup (I : Inv X pins σ H s) (hK : X.K = ρ.K) {a : Addr} {ob : Ob} (r : RO ρ μ H a ob) {vs : List V} : ¬ SqT ρ.K H a vs := fun t => by
  obtain ⟨o, ho⟩ := r.there
  rcases t with (t | ⟨u, t⟩) | ⟨o', its, n, hk, _⟩
  · exact r.notTup t
  · obtain ⟨oo, k⟩ := ob
    cases oo <;> cases k
    case lst.false => obtain ⟨ws, q, _⟩ := r; rw [t] at q; cases q
    case ins.false => obtain ⟨dx, ws, q, _⟩ := r; rw [t] at q; cases q
    case dic.false => obtain ⟨ws, ⟨_, (⟨_, q | ⟨o, q⟩⟩ | ⟨_, q | ⟨o, q⟩⟩)⟩, _⟩ := r <;> (rw [t] at q; cases q)
    all_goals exact r
  · have q := (I.bs a o' (I.mod.kin a o' (by rw [hK]; exact hk))).2
    rw [ho] at q
    cases q
theorem relV_fun {x y : V} {u : Value} (a : L2.RelV x u) (b : L2.RelV y u) : x = y := by
  cases x <;> cases y <;> simp only [L2.RelV] at a b <;> first
    | rfl
    | (subst a; cases b; done)
    | (subst a; injection b with b; subst b; rfl)
    | (obtain ⟨_, rfl⟩ := a; obtain ⟨_, b⟩ := b; first | (cases b; done) | (injection b with b; subst b; rfl))
    | (obtain ⟨_, rfl⟩ := a; cases b; done)
    | (obtain ⟨_, rfl⟩ := b; cases a; done)
theorem vals_fun : ∀ {vs ws : List V} {its : List Value}, Vals vs its → Vals ws its → vs = ws
  | _, _, _, .nil, .nil => rfl
  | _, _, _, .cons a r, .cons b q => by rw [relV_fun a b, vals_fun r q]
theorem sqT_same (I : Inv X pins σ H s) (hK : X.K = ρ.K) {a : Addr} {vs ws : List V} (t : SqT ρ.K H a vs) (q : SqT ρ.K H a ws) : vs = ws := by
  rw [← hK] at t q
  obtain ⟨its, r, p, _⟩ := I.tuple t
  obtain ⟨its2, r2, p2, _⟩ := I.tuple q
  obtain ⟨o, e, _, n, d⟩ := p
  obtain ⟨o2, e2, _, n2, d2⟩ := p2
  rw [e] at e2
  cases e2
  rw [d] at d2
  injection d2 with d3
  have d4 : its = its2 := by
    have := congrArg Array.toList d3
    simpa using this
  subst d4
  exact vals_fun r r2
theorem asStr_inj {a b : List Nat} (h : asStr a = asStr b) : a = b := by
  unfold asStr at h
  injection h with h
  simpa using congrArg Array.toList h
theorem asStr_beq (a b : List Nat) : (asStr a == asStr b) = (a == b) := by
  by_cases e : a = b
  · subst e; simp
  · have e2 : ¬ asStr a = asStr b := fun z => e (asStr_inj z)
    rw [beq_eq_false_iff_ne.mpr e, beq_eq_false_iff_ne.mpr e2]
theorem vOf_inj : ∀ {a b : D}, isFlat a = true → isFlat b = true → vOf a = vOf b → a = b := by
  intro a b ha hb e
  cases a <;> cases b <;> simp_all [isFlat, vOf]
  exact asStr_inj e
theorem eqFlat_eqV {x y : D} {k : Bool} (e : eqFlat x y = some k) : isFlat x = true ∧ isFlat y = true ∧ L2.eqV (vOf x) (vOf y) = k := by
  cases x <;> cases y <;> simp only [eqFlat, Option.some.injEq] at e <;> first
    | (cases e; done)
    | (subst e; refine ⟨rfl, rfl, ?_⟩; simp only [vOf, L2.eqV, b2i]; done)
    | (refine ⟨rfl, rfl, ?_⟩; subst e; simp only [vOf, L2.eqV, b2i, asStr_beq])
theorem eqFlat_self {x : D} {k : Bool} (e : eqFlat x x = some k) : k = true := by
  cases x <;> simp_all [eqFlat]
theorem shp_flat {x : D} (e : shp h x = some .flat) : isFlat x = true := by
  cases x <;> simp_all [shp, isFlat]
  split at e <;> simp at e
theorem shp_tup {x : D} {xs : List D} (e : shp h x = some (.tup xs)) : x = .tup xs := by
  cases x <;> simp_all [shp, isFlat]
  split at e <;> simp at e
theorem shp_lst {x : D} {xs : List D} (e : shp h x = some (.lst xs)) : lstOf h x = some xs := by
  cases x <;> simp_all [shp, isFlat, lstOf]
  rename_i a
  split at e <;> simp_all
/-- the list that a number stands for -/
theorem HR.lst (R : HR ρ μ h H) {i : Nat} {xs : List D} {lk : Bool} (e : h[i]? = some ⟨.lst xs, lk⟩) {v : V} (r : RD ρ μ H (.ref i) v) : ∃ a vs, v = .ref a ∧ μ.ix[i]? = some a ∧ H a = some (.lst vs) ∧ RDs ρ μ H xs vs ∧ lk = false := by
  rw [RD] at r
  obtain ⟨a, ea, rfl⟩ := r
  obtain ⟨b, eb, ro⟩ := R.get e
  rw [ea] at eb
  cases eb
  cases lk with
  | true => exact ro.elim
  | false =>
    obtain ⟨vs, ev, rv⟩ := ro
    exact ⟨a, vs, rfl, ea, ev, rv, rfl⟩
/-- the list that a datum is -/
theorem lst_atX (R : HR ρ μ h H) {d : D} {xs : List D} (e : lstOf h d = some xs) {v : V} (r : RD ρ μ H d v) : ∃ a vs, v = .ref a ∧ SqX ρ.K H a vs ∧ RDs ρ μ H xs vs := by
  unfold lstOf at e
  split at e
  · rw [Option.some.injEq] at e
    subst e
    rw [RD] at r
    obtain ⟨a, vs, rfl, t, q⟩ := r
    exact ⟨a, vs, rfl, t.elim .inr fun z => .inl z.2, q⟩
  · split at e
    · rename_i eo
      rw [Option.some.injEq] at e
      subst e
      obtain ⟨a, vs, rfl, _, ev, rv, _⟩ := R.lst eo r
      exact ⟨a, vs, rfl, .inl ev, rv⟩
    · cases e
  · cases e
theorem lst_at (R : HR ρ μ h H) {d : D} {xs : List D} (e : lstOf h d = some xs) {v : V} (r : RD ρ μ H d v) : ∃ a vs, v = .ref a ∧ SqL ρ.K H a vs ∧ RDs ρ μ H xs vs := by
  obtain ⟨a, vs, h1, h2, h3⟩ := lst_atX R e r
  exact ⟨a, vs, h1, h2.sq, h3⟩
/-- its object -/
theorem SqX.obj {a : Addr} {vs : List V} (I : Inv X pins σ H s) (t : SqX X.K H a vs) : ∃ (its : List Value) (n : Nat), Vals vs its ∧ vs.length ≤ sizeLine ∧ s.heap.get? a = some { cls := .type "list", data := .seq its.toArray n } := by
  have frz : (H a = some (.lst vs) ∨ ∃ o, H a = some (.frz o (.lst vs))) → ∃ (its : List Value) (n : Nat), Vals vs its ∧ vs.length ≤ sizeLine ∧ s.heap.get? a = some { cls := .type "list", data := .seq its.toArray n } := by
    rintro (e | ⟨o, e⟩)
    · obtain ⟨z, its, n, r, q⟩ := (show L2.ObjOk X.prog X.w H s.heap a (.lst vs) from I.hok _ _ e)
      exact ⟨its, n, r, z, q⟩
    · obtain ⟨_, z, its, n, r, q⟩ := (show L2.ObjOk X.prog X.w H s.heap a (.frz o (.lst vs)) from I.hok _ _ e)
      exact ⟨its, n, r, z, q⟩
  rcases t with e | e | ⟨its, n, h1, h2, h3⟩
  · exact frz (.inl e)
  · exact frz (.inr e)
  · refine ⟨its.toList, n, h3, ?_, I.kIn a _ h1⟩
    have := h3.length
    simp only [Array.length_toList] at this
    omega
theorem sqL_same (I : Inv X pins σ H s) (hK : X.K = ρ.K) {a : Addr} {vs ws : List V} (t : SqL ρ.K H a vs) (q : SqL ρ.K H a ws) : vs = ws := by
  rw [← hK] at t q
  obtain ⟨its, r, p, _⟩ := I.list t
  obtain ⟨its2, r2, p2, _⟩ := I.list q
  obtain ⟨o, n, e, _, _, d⟩ := p
  obtain ⟨o2, n2, e2, _, _, d2⟩ := p2
  rw [e] at e2
  cases e2
  rw [d] at d2
  injection d2 with d3
  have d4 : its = its2 := by
    have := congrArg Array.toList d3
    simpa using this
  subst d4
  exact vals_fun r r2
theorem sq_clash (I : Inv X pins σ H s) (hK : X.K = ρ.K) {a : Addr} {vs ws : List V} (t : SqL ρ.K H a vs) (q : SqT ρ.K H a ws) : False := by
  rw [← hK] at t q
  obtain ⟨its, r, p, _⟩ := I.list t
  obtain ⟨its2, r2, p2, _⟩ := I.tuple q
  have p := p.isList
  obtain ⟨o, e, c, _⟩ := p
  obtain ⟨o2, e2, c2, _⟩ := p2
  rw [e] at e2
  cases e2
  rw [c] at c2
  exact absurd c2 (by decide)
theorem eqAll_len {f : D → D → Option Bool} : ∀ {xs ys : List D}, xs.length ≠ ys.length → ∀ {k : Bool}, eqAll f xs ys = some k → k = false
  | [], [], hn, _, _ => absurd rfl hn
  | [], _ :: _, _, k, e => by simpa [eqAll] using e.symm
  | _ :: _, [], _, k, e => by simpa [eqAll] using e.symm
  | x :: xs, y :: ys, hn, k, e => by
    rw [eqAll] at e
    split at e
    · rename_i a b e1 e2
      have z := eqAll_len (xs := xs) (ys := ys) (by simpa using hn) e2
      rw [Option.some.injEq] at e
      rw [← e, z, Bool.and_false]
    · cases e
theorem eqAll_get {f : D → D → Option Bool} : ∀ {xs ys : List D} {k : Bool}, eqAll f xs ys = some k → ∀ (j : Nat) x y, xs[j]? = some x → ys[j]? = some y → ∃ b, f x y = some b
  | [], _, _, _, j, x, y, h, _ => by simp at h
  | _ :: _, [], _, _, j, x, y, _, h => by simp at h
  | x :: xs, y :: ys, k, e, j, x', y', q1, q2 => by
    rw [eqAll] at e
    split at e
    · rename_i a b e1 e2
      cases j with
      | zero =>
        simp at q1 q2
        subst q1 q2
        exact ⟨a, e1⟩
      | succ j => exact eqAll_get e2 j x' y' (by simpa using q1) (by simpa using q2)
    · cases e
/-- the answer at the j-th items -/
def pairB (f : D → D → Option Bool) (xs ys : List D) (j : Nat) : Bool := match xs[j]?, ys[j]? with
  | some x, some y => (f x y).getD false
  | _, _ => false
theorem pairB_at {f : D → D → Option Bool} {xs ys : List D} {j : Nat} {x y : D} {b : Bool} (h1 : xs[j]? = some x) (h2 : ys[j]? = some y) (e : f x y = some b) : pairB f xs ys j = b := by
  unfold pairB
  rw [h1, h2]
  simp only [e, Option.getD_some]
/-- item by item -/
theorem eqAll_at {f : D → D → Option Bool} : ∀ {xs ys : List D}, xs.length = ys.length → ∀ {k : Bool}, eqAll f xs ys = some k → (∀ (j : Nat) x y, xs[j]? = some x → ys[j]? = some y → ∃ b, f x y = some b) ∧ k = (List.range xs.length).all (pairB f xs ys)
  | [], [], _, k, e => by
    simp [eqAll] at e
    subst e
    exact ⟨fun j x y h => by simp at h, by simp⟩
  | x :: xs, y :: ys, hl, k, e => by
    rw [eqAll] at e
    split at e
    · rename_i a b e1 e2
      obtain ⟨h1, h2⟩ := eqAll_at (xs := xs) (ys := ys) (by simpa using hl) e2
      rw [Option.some.injEq] at e
      refine ⟨fun j x' y' q1 q2 => ?_, ?_⟩
      · cases j with
        | zero =>
          simp at q1 q2
          subst q1 q2
          exact ⟨a, e1⟩
        | succ j => exact h1 j x' y' (by simpa using q1) (by simpa using q2)
      · rw [← e, h2, List.length_cons, List.range_succ_eq_map, List.all_cons, List.all_map]
        rw [pairB_at (List.getElem?_cons_zero) (List.getElem?_cons_zero) e1]
        congr 1
    · cases e
  | [], _ :: _, hl, _, _ => by simp at hl
  | _ :: _, [], hl, _, _ => by simp at hl
/-- what lies at one value is equal -/
theorem deq_same (I : Inv X pins σ H s) (c : Ct ρ X) (R : HR ρ μ h H) : ∀ (n : Nat) (x y : D) (v : V) (k : Bool), RD ρ μ H x v → RD ρ μ H y v → deq h n x y = some k → k = true := by
  intro n
  induction n with
  | zero =>
    intro x y v k rx ry e
    rw [deq] at e
    obtain ⟨f1, f2, e1⟩ := eqFlat_eqV e
    have q : x = y := vOf_inj f1 f2 ((RD.flat f1 rx).1.symm.trans (RD.flat f2 ry).1)
    subst q
    exact eqFlat_self e
  | succ n ih =>
    intro x y v k rx ry e
    have items : ∀ (xs ys : List D) (vs : List V), RDs ρ μ H xs vs → RDs ρ μ H ys vs → eqAll (deq h n) xs ys = some k → k = true := by
      intro xs ys vs r1 r2 e
      obtain ⟨h1, h2⟩ := eqAll_at (by rw [← r1.length, ← r2.length]) e
      rw [h2, List.all_eq_true]
      intro j hj
      rw [List.mem_range] at hj
      have hj2 : j < ys.length := by rw [← r2.length, r1.length]; exact hj
      obtain ⟨b, eb⟩ := h1 j _ _ (List.getElem?_eq_getElem hj) (List.getElem?_eq_getElem hj2)
      obtain ⟨u1, a1, b1⟩ := r1.get (List.getElem?_eq_getElem hj)
      obtain ⟨u2, a2, b2⟩ := r2.get (List.getElem?_eq_getElem hj2)
      rw [a1] at a2
      cases a2
      have z := ih _ _ _ _ b1 b2 eb
      rw [pairB_at (List.getElem?_eq_getElem hj) (List.getElem?_eq_getElem hj2) eb, z]
    have clash : ∀ (xs : List D) (i : D) (ys : List D), RD ρ μ H (.tup xs) v → RD ρ μ H i v → lstOf h i = some ys → False := by
      intro xs i ys r1 r2 eo
      obtain ⟨a, vs, rfl, ev, rv⟩ := lst_at R eo r2
      rw [RD] at r1
      obtain ⟨a', ws, e2, t, _⟩ := r1
      cases e2
      exact sq_clash I c.K ev t
    rw [deq] at e
    split at e
    · rename_i e1 e2
      obtain ⟨f1, f2, _⟩ := eqFlat_eqV e
      have q : x = y := vOf_inj f1 f2 ((RD.flat f1 rx).1.symm.trans (RD.flat f2 ry).1)
      subst q
      exact eqFlat_self e
    · rename_i xs ys e1 e2
      rw [shp_tup e1, RD] at rx
      rw [shp_tup e2, RD] at ry
      obtain ⟨a, vs, rfl, t, q⟩ := rx
      obtain ⟨a2, vs2, e3, t2, q2⟩ := ry
      cases e3
      have z := sqT_same I c.K t t2
      subst z
      exact items xs ys vs q q2 e
    · rename_i xs ys e1 e2
      obtain ⟨a, vs, rfl, ev, rv⟩ := lst_at R (shp_lst e1) rx
      obtain ⟨a2, vs2, e3, ev2, rv2⟩ := lst_at R (shp_lst e2) ry
      cases e3
      have z := sqL_same I c.K ev ev2
      subst z
      exact items xs ys vs rv rv2 e
    · rename_i p q n1 n2 n3 e1 e2
      exfalso
      have kindV : ∀ (z : D) (sh : Shp), shp h z = some sh → RD ρ μ H z v → match sh with
          | .flat => isFlat z = true
          | .tup xs => z = .tup xs
          | .lst xs => lstOf h z = some xs := fun z sh ez rz => by
        cases sh with
        | flat => exact shp_flat ez
        | tup xs => exact shp_tup ez
        | lst xs => exact shp_lst ez
      have k1 := kindV x p e1 rx
      have k2 := kindV y q e2 ry
      have ft : ∀ (z : D) (xs : List D), isFlat z = true → RD ρ μ H z v → RD ρ μ H (.tup xs) v → False := fun z xs f r1 r2 => by
        rw [RD] at r2
        obtain ⟨a, vs, rfl, _⟩ := r2
        have q := (RD.flat f r1).1
        cases z <;> simp [vOf] at q
      have fl : ∀ (z i : D) (ys : List D), isFlat z = true → RD ρ μ H z v → RD ρ μ H i v → lstOf h i = some ys → False := fun z i ys f r1 r2 eo => by
        obtain ⟨a, _, rfl, _⟩ := lst_at R eo r2
        have q := (RD.flat f r1).1
        cases z <;> simp [vOf] at q
      cases p with
      | flat =>
        cases q with
        | flat => exact n1 rfl rfl
        | tup ys => exact ft x ys k1 rx (k2 ▸ ry)
        | lst ys => exact fl x y ys k1 rx ry k2
      | tup xs =>
        cases q with
        | flat => exact ft y xs k2 ry (k1 ▸ rx)
        | tup ys => exact n2 _ _ rfl rfl
        | lst ys => exact clash xs y ys (k1 ▸ rx) ry k2
      | lst xs =>
        cases q with
        | flat => exact fl y x xs k2 ry rx k1
        | tup ys => exact clash ys x xs (k2 ▸ ry) rx k1
        | lst ys => exact n3 _ _ rfl rfl
    · cases e
theorem RcAt.flat {A : Around} {v w : V} {u z : Value} (fv : L2.flatV v = true) (fw : L2.flatV w = true) (ru : RelV v u) (rz : RelV w z) : RcAt A s u z (L2.eqV v w) := by
  cases v <;> first
    | (simp [L2.flatV] at fv; done)
    | skip
  all_goals cases w <;> first
    | (simp [L2.flatV] at fw; done)
    | skip
  all_goals simp only [L2.RelV] at ru rz
  · subst ru rz; exact RcAt.none_none
  · subst ru rz; exact RcAt.none_bool _
  · subst ru; obtain ⟨t, rfl⟩ := rz; exact RcAt.none_int _ t
  · subst ru; obtain ⟨t, rfl⟩ := rz; exact RcAt.none_str _ t
  · subst ru rz; exact RcAt.bool_none _
  · subst ru rz; exact RcAt.bool_bool _ _
  · subst ru; obtain ⟨t, rfl⟩ := rz; exact RcAt.bool_int _ _ t
  · subst ru; obtain ⟨t, rfl⟩ := rz; exact RcAt.bool_str _ _ t
  · subst rz; obtain ⟨t, rfl⟩ := ru; exact RcAt.int_none _ t
  · subst rz; obtain ⟨t, rfl⟩ := ru; exact RcAt.int_bool _ t _
  · obtain ⟨t, rfl⟩ := ru; obtain ⟨t2, rfl⟩ := rz; exact RcAt.int_int _ t _ t2
  · obtain ⟨t, rfl⟩ := ru; obtain ⟨t2, rfl⟩ := rz; exact RcAt.int_str _ t _ t2
  · subst rz; obtain ⟨t, rfl⟩ := ru; exact RcAt.str_none _ t
  · subst rz; obtain ⟨t, rfl⟩ := ru; exact RcAt.str_bool _ t _
  · obtain ⟨t, rfl⟩ := ru; obtain ⟨t2, rfl⟩ := rz; exact RcAt.str_int _ t _ t2
  · obtain ⟨t, rfl⟩ := ru; obtain ⟨t2, rfl⟩ := rz; exact RcAt.str_str _ t _ t2
theorem RcAt.flat_list {A : Around} {v : V} {u : Value} (fv : L2.flatV v = true) (ru : RelV v u) {b : Addr} {items : Array Value} (hl : s.heap.IsList b items) (hu : A.units < cLine) : RcAt A s u (.ref b) false ∧ RcAt A s (.ref b) u false := by
  cases v <;> first
    | (simp [L2.flatV] at fv; done)
    | skip
  all_goals simp only [L2.RelV] at ru
  · subst ru; exact ⟨RcAt.none_list hl hu, RcAt.list_none hl hu⟩
  · subst ru; exact ⟨RcAt.bool_list _ hl hu, RcAt.list_bool _ hl hu⟩
  · obtain ⟨t, rfl⟩ := ru; exact ⟨RcAt.int_list _ t hl hu, RcAt.list_int _ t hl hu⟩
  · obtain ⟨t, rfl⟩ := ru; exact ⟨RcAt.str_list _ t hl hu, RcAt.list_str _ t hl hu⟩
theorem RcAt.flat_tup {A : Around} {v : V} {u : Value} (fv : L2.flatV v = true) (ru : RelV v u) {b : Addr} {items : Array Value} (hl : s.heap.IsTuple b items) (hu : A.units < cLine) : RcAt A s u (.ref b) false ∧ RcAt A s (.ref b) u false := by
  cases v <;> first
    | (simp [L2.flatV] at fv; done)
    | skip
  all_goals simp only [L2.RelV] at ru
  · subst ru; exact ⟨RcAt.none_tuple hl hu, RcAt.tuple_none hl hu⟩
  · subst ru; exact ⟨RcAt.bool_tuple _ hl hu, RcAt.tuple_bool _ hl hu⟩
  · obtain ⟨t, rfl⟩ := ru; exact ⟨RcAt.int_tuple _ t hl hu, RcAt.tuple_int _ t hl hu⟩
  · obtain ⟨t, rfl⟩ := ru; exact ⟨RcAt.str_tuple _ t hl hu, RcAt.tuple_str _ t hl hu⟩
theorem EqAt.flat_list {A : Around} {v : V} {u : Value} (fv : L2.flatV v = true) (ru : RelV v u) {b : Addr} {items : Array Value} (hl : s.heap.IsList b items) (hu : A.units < cLine) : EqAt A s u (.ref b) false ∧ EqAt A s (.ref b) u false := by
  cases v <;> first
    | (simp [L2.flatV] at fv; done)
    | skip
  all_goals simp only [L2.RelV] at ru
  · subst ru; exact ⟨EqAt.none_list hl hu, EqAt.list_none hl hu⟩
  · subst ru; exact ⟨EqAt.bool_list _ hl hu, EqAt.list_bool _ hl hu⟩
  · obtain ⟨t, rfl⟩ := ru; exact ⟨EqAt.int_list _ t hl hu, EqAt.list_int _ t hl hu⟩
  · obtain ⟨t, rfl⟩ := ru; exact ⟨EqAt.str_list _ t hl hu, EqAt.list_str _ t hl hu⟩
theorem EqAt.flat_tup {A : Around} {v : V} {u : Value} (fv : L2.flatV v = true) (ru : RelV v u) {b : Addr} {items : Array Value} (hl : s.heap.IsTuple b items) (hu : A.units < cLine) : EqAt A s u (.ref b) false ∧ EqAt A s (.ref b) u false := by
  cases v <;> first
    | (simp [L2.flatV] at fv; done)
    | skip
  all_goals simp only [L2.RelV] at ru
  · subst ru; exact ⟨EqAt.none_tuple hl hu, EqAt.tuple_none hl hu⟩
  · subst ru; exact ⟨EqAt.bool_tuple _ hl hu, EqAt.tuple_bool _ hl hu⟩
  · obtain ⟨t, rfl⟩ := ru; exact ⟨EqAt.int_tuple _ t hl hu, EqAt.tuple_int _ t hl hu⟩
  · obtain ⟨t, rfl⟩ := ru; exact ⟨EqAt.str_tuple _ t hl hu, EqAt.tuple_str _ t hl hu⟩
theorem vals_get {vs : List V} {its : List Value} (r : Vals vs its) {j : Nat} (hj : j < its.length) : ∃ v, vs[j]? = some v ∧ RelV v its[j] := by
  have hj2 : j < vs.length := by rw [r.length]; exact hj
  obtain ⟨u, e, q⟩ := r.get (List.getElem?_eq_getElem hj2)
  rw [List.getElem?_eq_getElem hj] at e
  cases e
  exact ⟨_, List.getElem?_eq_getElem hj2, q⟩
/-- == of data, as richcompare and as the test on items -/
theorem deq_at (I : Inv X pins σ H s) (c : Ct ρ X) (R : HR ρ μ h H) : ∀ (n : Nat) (A : Around), A.units + n + 1 < cLine → ∀ (x y : D) (v w : V) (u z : Value) (k : Bool), RD ρ μ H x v → RD ρ μ H y w → RelV v u → RelV w z → deq h n x y = some k →
    RcAt A s u z k ∧ EqAt A s u z k := by
  intro n
  induction n with
  | zero =>
    intro A hA x y v w u z k rx ry ru rz e
    rw [deq] at e
    obtain ⟨f1, f2, e1⟩ := eqFlat_eqV e
    obtain ⟨e3, g1⟩ := RD.flat f1 rx
    obtain ⟨e4, g2⟩ := RD.flat f2 ry
    rw [← e1, ← e3, ← e4]
    exact ⟨RcAt.flat g1 g2 ru rz, L2.eqAt_V ru rz g1 g2⟩
  | succ n ih =>
    intro A hA x y v w u z k rx ry ru rz e
    have hA0 : A.units < cLine := by omega
    have hA1 : A.in1.units + n + 1 < cLine := by show A.units + 1 + n + 1 < cLine; omega
    have e' := e
    -- from richcompare of two objects
    have both : ∀ (a b : Addr), v = .ref a → w = .ref b → RcAt A s u z k → RcAt A s u z k ∧ EqAt A s u z k := fun a b ea eb rc => by
      subst ea eb
      cases ru
      cases rz
      refine ⟨rc, ?_⟩
      by_cases hab : a = b
      · subst hab
        have := deq_same I c R (n + 1) x y _ k rx ry e
        subst this
        exact EqAt.same _
      · exact EqAt.of_refs hab rc
    have items : ∀ (xs ys : List D) (vs ws : List V) (its jts : List Value), RDs ρ μ H xs vs → RDs ρ μ H ys ws → Vals vs its → Vals ws jts → (∀ (j : Nat) x y, xs[j]? = some x → ys[j]? = some y → ∃ b, deq h n x y = some b) →
        ∀ j (h1 : j < its.toArray.size) (h2 : j < jts.toArray.size), EqAt A.in1 s its.toArray[j] jts.toArray[j] (pairB (deq h n) xs ys j) := by
      intro xs ys vs ws its jts r1 r2 q1 q2 hb j h1 h2
      have h1' : j < its.length := by simpa using h1
      have h2' : j < jts.length := by simpa using h2
      obtain ⟨v1, a1, b1⟩ := vals_get q1 h1'
      obtain ⟨v2, a2, b2⟩ := vals_get q2 h2'
      have l1 : j < xs.length := by rw [← r1.length, q1.length]; exact h1'
      have l2 : j < ys.length := by rw [← r2.length, q2.length]; exact h2'
      obtain ⟨u1, c1, d1⟩ := r1.get (List.getElem?_eq_getElem l1)
      obtain ⟨u2, c2, d2⟩ := r2.get (List.getElem?_eq_getElem l2)
      rw [a1] at c1
      cases c1
      rw [a2] at c2
      cases c2
      obtain ⟨b, eb⟩ := hb j _ _ (List.getElem?_eq_getElem l1) (List.getElem?_eq_getElem l2)
      rw [pairB_at (List.getElem?_eq_getElem l1) (List.getElem?_eq_getElem l2) eb]
      simp only [List.getElem_toArray]
      exact (ih A.in1 hA1 _ _ _ _ _ _ _ d1 d2 b1 b2 eb).2
    rw [deq] at e
    split at e
    · rename_i e1 e2
      obtain ⟨f1, f2, e1⟩ := eqFlat_eqV e
      obtain ⟨e3, g1⟩ := RD.flat f1 rx
      obtain ⟨e4, g2⟩ := RD.flat f2 ry
      rw [← e1, ← e3, ← e4]
      exact ⟨RcAt.flat g1 g2 ru rz, L2.eqAt_V ru rz g1 g2⟩
    · rename_i xs ys e1 e2
      have rx2 := rx
      have ry2 := ry
      rw [shp_tup e1, RD] at rx2
      rw [shp_tup e2, RD] at ry2
      obtain ⟨a, vs, ea, t, q⟩ := rx2
      obtain ⟨b, ws, eb, t2, q2⟩ := ry2
      rw [← c.K] at t t2
      obtain ⟨its, v1, p1, _⟩ := I.tuple t
      obtain ⟨jts, v2, p2, _⟩ := I.tuple t2
      refine both a b ea eb ?_
      have l1 : its.length = xs.length := by rw [← v1.length, q.length]
      have l2 : jts.length = ys.length := by rw [← v2.length, q2.length]
      subst ea eb
      cases ru
      cases rz
      by_cases hl : xs.length = ys.length
      · obtain ⟨h1, h2⟩ := eqAll_at hl e
        have := RcAt.tuples p1 p2 hA0 (items xs ys vs ws its jts q q2 v1 v2 h1)
        have hs : its.toArray.size = xs.length := by simpa using l1
        have hs2 : jts.toArray.size = xs.length := by rw [hl]; simpa using l2
        rw [hs, hs2, Nat.min_self, ← h2] at this
        simpa using this
      · have ek := eqAll_len hl e
        subst ek
        have := RcAt.tuples p1 p2 hA0 (items xs ys vs ws its jts q q2 v1 v2 (eqAll_get e))
        have hs : (its.toArray.size == jts.toArray.size) = false := by
          rw [beq_eq_false_iff_ne]
          simp only [List.size_toArray]
          omega
        rw [hs, Bool.and_false] at this
        exact this
    · rename_i xs ys e1 e2
      obtain ⟨a, vs, ea, ev, q⟩ := lst_at R (shp_lst e1) rx
      obtain ⟨b, ws, eb, ev2, q2⟩ := lst_at R (shp_lst e2) ry
      rw [← c.K] at ev ev2
      obtain ⟨its, v1, p1, _⟩ := I.list ev
      obtain ⟨jts, v2, p2, _⟩ := I.list ev2
      refine both a b ea eb ?_
      have l1 : its.length = xs.length := by rw [← v1.length, q.length]
      have l2 : jts.length = ys.length := by rw [← v2.length, q2.length]
      subst ea eb
      cases ru
      cases rz
      by_cases hl : xs.length = ys.length
      · obtain ⟨h1, h2⟩ := eqAll_at hl e
        have hs : its.toArray.size = xs.length := by simpa using l1
        have hs2 : jts.toArray.size = xs.length := by rw [hl]; simpa using l2
        have := RcAt.lists p1.isList p2.isList (by rw [hs, hs2]) hA0 (items xs ys vs ws its jts q q2 v1 v2 h1)
        rw [hs, ← h2] at this
        exact this
      · have ek := eqAll_len hl e
        subst ek
        refine RcAt.lists_lengths p1.isList p2.isList ?_ hA0
        rw [bne_iff_ne]
        simp only [List.size_toArray]
        omega
    · rename_i p q n1 n2 n3 e1 e2
      obtain rfl : k = false := by simpa using e.symm
      cases p with
      | flat =>
        have f := shp_flat e1
        obtain ⟨ev, g1⟩ := RD.flat f rx
        cases q with
        | flat => exact (n1 rfl rfl).elim
        | tup ys =>
          rw [shp_tup e2, RD] at ry
          obtain ⟨b, ws, rfl, t2, q2⟩ := ry
          rw [← c.K] at t2
          obtain ⟨jts, v2, p2, _⟩ := I.tuple t2
          cases rz
          exact ⟨(RcAt.flat_tup g1 ru p2 hA0).1, (EqAt.flat_tup g1 ru p2 hA0).1⟩
        | lst ys =>
          obtain ⟨b, ws, rfl, ev2, q2⟩ := lst_at R (shp_lst e2) ry
          rw [← c.K] at ev2
          obtain ⟨jts, v2, p2, _⟩ := I.list ev2
          cases rz
          exact ⟨(RcAt.flat_list g1 ru p2.isList hA0).1, (EqAt.flat_list g1 ru p2.isList hA0).1⟩
      | tup xs =>
        have rx2 := rx
        rw [shp_tup e1, RD] at rx2
        obtain ⟨a, vs, rfl, t, q1⟩ := rx2
        rw [← c.K] at t
        obtain ⟨its, v1, p1, _⟩ := I.tuple t
        cases q with
        | flat =>
          have f := shp_flat e2
          obtain ⟨ev, g1⟩ := RD.flat f ry
          cases ru
          exact ⟨(RcAt.flat_tup g1 rz p1 hA0).2, (EqAt.flat_tup g1 rz p1 hA0).2⟩
        | tup ys => exact (n2 _ _ rfl rfl).elim
        | lst ys =>
          obtain ⟨b, ws, rfl, ev2, q2⟩ := lst_at R (shp_lst e2) ry
          rw [← c.K] at ev2
          obtain ⟨jts, v2, p2, _⟩ := I.list ev2
          refine both a b rfl rfl ?_
          cases ru
          cases rz
          exact RcAt.tuple_list p1 p2.isList hA0
      | lst xs =>
        obtain ⟨a, vs, rfl, ev1, q1⟩ := lst_at R (shp_lst e1) rx
        rw [← c.K] at ev1
        obtain ⟨its, v1, p1, _⟩ := I.list ev1
        cases q with
        | flat =>
          have f := shp_flat e2
          obtain ⟨ev, g1⟩ := RD.flat f ry
          cases ru
          exact ⟨(RcAt.flat_list g1 rz p1.isList hA0).2, (EqAt.flat_list g1 rz p1.isList hA0).2⟩
        | tup ys =>
          have ry2 := ry
          rw [shp_tup e2, RD] at ry2
          obtain ⟨b, ws, rfl, t2, q2⟩ := ry2
          rw [← c.K] at t2
          obtain ⟨jts, v2, p2, _⟩ := I.tuple t2
          refine both a b rfl rfl ?_
          cases ru
          cases rz
          exact RcAt.list_tuple p1.isList p2 hA0
        | lst ys => exact (n3 _ _ rfl rfl).elim
    · cases e
end Ev
end
end
section
/-! E8: calls of defs; comparisons. -/
set_option linter.all false
set_option maxRecDepth 100000
set_option maxHeartbeats 1000000
noncomputable section
namespace Ev
open PySem PySem.Spec PyProof.Rows PySem.SeqAt
open L2 (V HO Vals VK XK WX SqL SqT Inv PE PT PW PA PS PSs PG PGs PI Cx upd upd_same upd_ne Rd Room EP TP thn OpR CallR TE TT TA)
variable {ρ : Lk} {C : Call} {W : WX} {X : Cx} {pins : List (Addr × Obj)} {s : Shared} {σ : LS} {H : LH} {μ : Mu} {h : Hp}

/-! ### calls -/
/-- a result's value -/
def RU (ρ : Lk) (μ : Mu) (H : LH) (d : D) (u : Value) : Prop := match d with
  | .nim => u = Value.notImplemented
  | d => ∃ v, RD ρ μ H d v ∧ L2.RelV v u
/-- what a call leaves -/
def CEnd (ρ : Lk) (C : Call) (outer : List Env) (s : Shared) (H : LH) (μ : Mu) (f : Nat) (ds : List D) (h : Hp) (r : Result) (s' : Shared) : Prop := match r with
  | .ok (.ret u) => ∃ d h' H' μ', C f ds h = .ok d h' ∧ s'.os = s.os ∧ AllBare s'.gens ∧ L2.Un (L2.frs outer) [] H H' s.heap s'.heap ∧ L2.HOk ρ.prog ρ.w H' s'.heap ∧ Ext μ H μ' H' ∧ HR ρ μ' h' H' ∧ RU ρ μ' H' d u
  | .ok _ => False
  | .error e => ∃ c vs h', C f ds h = .exc c vs h' ∧ L2.CX ρ.prog ρ.w outer H s (fun cls dd H' => ∃ μ', Ext μ H μ' H' ∧ HR ρ μ' h' H' ∧ XD ρ μ' H' c vs cls dd) e s'
/-- all defs do what C says, k deep at most -/
def FnsOk (ρ : Lk) (base : Heap) (k : Nat) (C : Call) : Prop :=
  ∀ (f : Nat) (ds : List D) (h : Hp) (A : Around) (outer : List Env) (s : Shared) (H : LH) (us : List Value) (vs : List V) (μ : Mu),
    Room k A → A.guards = some [] → L2.Env0 ρ.prog ρ.w ρ.K ρ.mg base A outer s H → Vals vs us → RDs ρ μ H ds vs → HR ρ μ h H → C f ds h ≠ .bad →
    codeAny (model ρ.prog ρ.w) A (.call (.ref (ρ.fa f)) ⟨us, []⟩) (CEnd ρ C outer s H μ f ds h) s
/-- .. for the part X of the text; W: what is wanted of an error -/
structure Cf (ρ : Lk) (C : Call) (W : WX) (X : Cx) (k : Nat) : Prop where
  ct : Ct ρ X
  fns : FnsOk ρ X.base k C
  room : Room (k + 3) X.A
  tk : L2.Takes X W
variable {k : Nat}
/-- an around in which a call may be made -/
structure Fits (X : Cx) (k : Nat) (A : Around) : Prop where
  room : Room k A
  gd : A.guards = some []
  fr : A.frames = some X.stack
/-- what is wanted behind a call -/
def CallGood (ρ : Lk) (W : WX) (C : Call) (f : Nat) (ds : List D) (h : Hp) (μ : Mu) (σ : LS) (H : LH) (Z : D → Hp → LH → Mu → Prop) : Prop := match C f ds h with
  | .ok d h' => ∀ H' μ', Ext μ H μ' H' → HR ρ μ' h' H' → Z d h' H' μ'
  | .exc c vs h' => ∀ cls dd H' μ', Ext μ H μ' H' → HR ρ μ' h' H' → XD ρ μ' H' c vs cls dd → W cls dd σ H'
  | .bad => False
theorem run_call (c : Cf ρ C W X k) {A : Around} (ft : Fits X k A) {f : Nat} {ds : List D} {vs : List V} {us : List Value} {Z : D → Hp → LH → Mu → Prop} (I : Inv X pins σ H s) (r : Vals vs us) (rd : RDs ρ μ H ds vs) (R : HR ρ μ h H)
    (g : CallGood ρ W C f ds h μ σ H Z) : codeAny (model X.prog X.w) A (.call (.ref (ρ.fa f)) ⟨us, []⟩) (fun r s' => match r with
      | .ok (.ret u) => ∃ d h' H' μ', C f ds h = .ok d h' ∧ Inv X pins σ H' s' ∧ Ext μ H μ' H' ∧ HR ρ μ' h' H' ∧ RU ρ μ' H' d u ∧ Z d h' H' μ'
      | .ok _ => False
      | .error e => X.xe e s') s := by
  have e0 : L2.Env0 ρ.prog ρ.w ρ.K ρ.mg X.base A X.stack s H := by
    have z := I.env0
    rw [c.ct.pr, c.ct.ww, c.ct.K, c.ct.mg] at z
    exact ⟨ft.fr, z.mod, z.bs, z.bsz, z.funs, z.frf, z.hok, z.bare⟩
  have nb : C f ds h ≠ .bad := fun e => by
    unfold CallGood at g
    rw [e] at g
    exact g
  have q := c.fns f ds h A X.stack s H us vs μ ft.room ft.gd e0 r rd R nb
  rw [← c.ct.pr, ← c.ct.ww] at q
  refine codeAny_mono q fun r s' hq => ?_
  cases r with
  | error e =>
    obtain ⟨cc, ws, h', er, x⟩ := hq
    unfold CallGood at g
    rw [er] at g
    rw [← c.ct.pr, ← c.ct.ww] at x
    exact c.tk e s' (L2.XE.of_call I (fun cls dd H' ⟨μ', x1, R1, xd⟩ => g cls dd H' μ' x1 R1 xd) x)
  | ok fl =>
    cases fl with
    | ret u =>
      obtain ⟨d, h', H', μ', er, ho, hg, hu, hok, x, R1, ru⟩ := hq
      unfold CallGood at g
      rw [er] at g
      rw [← c.ct.pr, ← c.ct.ww] at hok
      exact ⟨d, h', H', μ', er, I.call' (ch := []) ho hu hok hg (fun b z => absurd z (by simp)), x, R1, ru, g H' μ' x R1⟩
    | next => exact hq
    | brk => exact hq
    | cont => exact hq

/-! ### == -/
/-- != of data -/
theorem dne_at (I : Inv X pins σ H s) (c : Ct ρ X) (R : HR ρ μ h H) (n : Nat) (A : Around) (hA : A.units + n + 2 < cLine) (x y : D) (v w : V) (u z : Value) (k : Bool) (rx : RD ρ μ H x v) (ry : RD ρ μ H y w) (ru : L2.RelV v u) (rz : L2.RelV w z) (e : deq h n x y = some k) :
    RcNeAt A s u z (!k) := by
  have hA0 : A.units < cLine := by omega
  have flatflat : ∀ {v w : V} {u z : Value}, L2.flatV v = true → L2.flatV w = true → L2.RelV v u → L2.RelV w z → RcNeAt A s u z (!L2.eqV v w) := by
    intro v w u z fv fw ru rz
    cases v <;> first
      | (simp [L2.flatV] at fv; done)
      | skip
    all_goals cases w <;> first
      | (simp [L2.flatV] at fw; done)
      | skip
    all_goals simp only [L2.RelV] at ru rz
    · subst ru rz; exact RcNeAt.none_none
    · subst ru rz; exact RcNeAt.none_bool _
    · subst ru; obtain ⟨t, rfl⟩ := rz; exact RcNeAt.none_int _ t
    · subst ru; obtain ⟨t, rfl⟩ := rz; exact RcNeAt.none_str _ t
    · subst ru rz; exact RcNeAt.bool_none _
    · subst ru rz; exact RcNeAt.bool_bool _ _
    · subst ru; obtain ⟨t, rfl⟩ := rz; exact RcNeAt.bool_int _ _ t
    · subst ru; obtain ⟨t, rfl⟩ := rz; exact RcNeAt.bool_str _ _ t
    · subst rz; obtain ⟨t, rfl⟩ := ru; exact RcNeAt.int_none _ t
    · subst rz; obtain ⟨t, rfl⟩ := ru; exact RcNeAt.int_bool _ t _
    · obtain ⟨t, rfl⟩ := ru; obtain ⟨t2, rfl⟩ := rz; exact RcNeAt.int_int _ t _ t2
    · obtain ⟨t, rfl⟩ := ru; obtain ⟨t2, rfl⟩ := rz; exact RcNeAt.int_str _ t _ t2
    · subst rz; obtain ⟨t, rfl⟩ := ru; exact RcNeAt.str_none _ t
    · subst rz; obtain ⟨t, rfl⟩ := ru; exact RcNeAt.str_bool _ t _
    · obtain ⟨t, rfl⟩ := ru; obtain ⟨t2, rfl⟩ := rz; exact RcNeAt.str_int _ t _ t2
    · obtain ⟨t, rfl⟩ := ru; obtain ⟨t2, rfl⟩ := rz; exact RcNeAt.str_str _ t _ t2
  have flatlist : ∀ {v : V} {u : Value}, L2.flatV v = true → L2.RelV v u → ∀ {b : Addr} {items : Array Value}, s.heap.IsList b items → RcNeAt A s u (.ref b) true ∧ RcNeAt A s (.ref b) u true := by
    intro v u fv ru b items hl
    cases v <;> first
      | (simp [L2.flatV] at fv; done)
      | skip
    all_goals simp only [L2.RelV] at ru
    · subst ru; exact ⟨RcNeAt.none_list hl hA0, RcNeAt.list_none hl hA0⟩
    · subst ru; exact ⟨RcNeAt.bool_list _ hl hA0, RcNeAt.list_bool _ hl hA0⟩
    · obtain ⟨t, rfl⟩ := ru; exact ⟨RcNeAt.int_list _ t hl hA0, RcNeAt.list_int _ t hl hA0⟩
    · obtain ⟨t, rfl⟩ := ru; exact ⟨RcNeAt.str_list _ t hl hA0, RcNeAt.list_str _ t hl hA0⟩
  have flattup : ∀ {v : V} {u : Value}, L2.flatV v = true → L2.RelV v u → ∀ {b : Addr} {items : Array Value}, s.heap.IsTuple b items → RcNeAt A s u (.ref b) true ∧ RcNeAt A s (.ref b) u true := by
    intro v u fv ru b items hl
    cases v <;> first
      | (simp [L2.flatV] at fv; done)
      | skip
    all_goals simp only [L2.RelV] at ru
    · subst ru; exact ⟨RcNeAt.none_tuple hl hA0, RcNeAt.tuple_none hl hA0⟩
    · subst ru; exact ⟨RcNeAt.bool_tuple _ hl hA0, RcNeAt.tuple_bool _ hl hA0⟩
    · obtain ⟨t, rfl⟩ := ru; exact ⟨RcNeAt.int_tuple _ t hl hA0, RcNeAt.tuple_int _ t hl hA0⟩
    · obtain ⟨t, rfl⟩ := ru; exact ⟨RcNeAt.str_tuple _ t hl hA0, RcNeAt.tuple_str _ t hl hA0⟩
  have base : ∀ {x y : D} {k : Bool}, RD ρ μ H x v → RD ρ μ H y w → eqFlat x y = some k → RcNeAt A s u z (!k) := by
    intro x y k rx ry e
    obtain ⟨f1, f2, e1⟩ := eqFlat_eqV e
    obtain ⟨e3, g1⟩ := RD.flat f1 rx
    obtain ⟨e4, g2⟩ := RD.flat f2 ry
    rw [← e1, ← e3, ← e4]
    exact flatflat g1 g2 ru rz
  cases n with
  | zero =>
    rw [deq] at e
    exact base rx ry e
  | succ n =>
    have hA1 : A.in1.units + n + 1 < cLine := by show A.units + 1 + n + 1 < cLine; omega
    have items : ∀ (xs ys : List D) (vs ws : List V) (its jts : List Value), RDs ρ μ H xs vs → RDs ρ μ H ys ws → Vals vs its → Vals ws jts → (∀ (j : Nat) x y, xs[j]? = some x → ys[j]? = some y → ∃ b, deq h n x y = some b) →
        ∀ j (h1 : j < its.toArray.size) (h2 : j < jts.toArray.size), EqAt A.in1 s its.toArray[j] jts.toArray[j] (pairB (deq h n) xs ys j) := by
      intro xs ys vs ws its jts r1 r2 q1 q2 hb j h1 h2
      have h1' : j < its.length := by simpa using h1
      have h2' : j < jts.length := by simpa using h2
      obtain ⟨v1, a1, b1⟩ := vals_get q1 h1'
      obtain ⟨v2, a2, b2⟩ := vals_get q2 h2'
      have l1 : j < xs.length := by rw [← r1.length, q1.length]; exact h1'
      have l2 : j < ys.length := by rw [← r2.length, q2.length]; exact h2'
      obtain ⟨u1, c1, d1⟩ := r1.get (List.getElem?_eq_getElem l1)
      obtain ⟨u2, c2, d2⟩ := r2.get (List.getElem?_eq_getElem l2)
      rw [a1] at c1
      cases c1
      rw [a2] at c2
      cases c2
      obtain ⟨b, eb⟩ := hb j _ _ (List.getElem?_eq_getElem l1) (List.getElem?_eq_getElem l2)
      rw [pairB_at (List.getElem?_eq_getElem l1) (List.getElem?_eq_getElem l2) eb]
      simp only [List.getElem_toArray]
      exact (deq_at I c R n A.in1 hA1 _ _ _ _ _ _ _ d1 d2 b1 b2 eb).2
    rw [deq] at e
    split at e
    · exact base rx ry e
    · rename_i xs ys e1 e2
      rw [shp_tup e1, RD] at rx
      rw [shp_tup e2, RD] at ry
      obtain ⟨a, vs, rfl, t, q⟩ := rx
      obtain ⟨b, ws, rfl, t2, q2⟩ := ry
      rw [← c.K] at t t2
      obtain ⟨its, v1, p1, _⟩ := I.tuple t
      obtain ⟨jts, v2, p2, _⟩ := I.tuple t2
      have l1 : its.length = xs.length := by rw [← v1.length, q.length]
      have l2 : jts.length = ys.length := by rw [← v2.length, q2.length]
      cases ru
      cases rz
      have := RcNeAt.tuples p1 p2 hA0 (items xs ys vs ws its jts q q2 v1 v2 (eqAll_get e))
      have hs : its.toArray.size = xs.length := by simpa using l1
      have hs2 : jts.toArray.size = ys.length := by simpa using l2
      by_cases hl : xs.length = ys.length
      · obtain ⟨h1, h2⟩ := eqAll_at hl e
        rw [hs, hs2, ← hl, Nat.min_self, ← h2] at this
        simpa using this
      · have ek := eqAll_len hl e
        subst ek
        have hz : (its.toArray.size == jts.toArray.size) = false := by
          rw [beq_eq_false_iff_ne]
          omega
        rw [hz, Bool.and_false] at this
        exact this
    · rename_i xs ys e1 e2
      obtain ⟨a, vs, rfl, ev, q⟩ := lst_at R (shp_lst e1) rx
      obtain ⟨b, ws, rfl, ev2, q2⟩ := lst_at R (shp_lst e2) ry
      rw [← c.K] at ev ev2
      obtain ⟨its, v1, p1, _⟩ := I.list ev
      obtain ⟨jts, v2, p2, _⟩ := I.list ev2
      have l1 : its.length = xs.length := by rw [← v1.length, q.length]
      have l2 : jts.length = ys.length := by rw [← v2.length, q2.length]
      cases ru
      cases rz
      have hs : its.toArray.size = xs.length := by simpa using l1
      have hs2 : jts.toArray.size = ys.length := by simpa using l2
      by_cases hl : xs.length = ys.length
      · obtain ⟨h1, h2⟩ := eqAll_at hl e
        have := RcNeAt.lists p1.isList p2.isList (by rw [hs, hs2, hl]) hA0 (items xs ys vs ws its jts q q2 v1 v2 h1)
        rw [hs, ← h2] at this
        exact this
      · have ek := eqAll_len hl e
        subst ek
        refine RcNeAt.lists_lengths p1.isList p2.isList ?_ hA0
        rw [bne_iff_ne]
        omega
    · rename_i p q n1 n2 n3 e1 e2
      obtain rfl : k = false := by simpa using e.symm
      cases p with
      | flat =>
        have f := shp_flat e1
        obtain ⟨ev, g1⟩ := RD.flat f rx
        cases q with
        | flat => exact (n1 rfl rfl).elim
        | tup ys =>
          rw [shp_tup e2, RD] at ry
          obtain ⟨b, ws, rfl, t2, q2⟩ := ry
          rw [← c.K] at t2
          obtain ⟨jts, v2, p2, _⟩ := I.tuple t2
          cases rz
          exact (flattup g1 ru p2).1
        | lst ys =>
          obtain ⟨b, ws, rfl, ev2, q2⟩ := lst_at R (shp_lst e2) ry
          rw [← c.K] at ev2
          obtain ⟨jts, v2, p2, _⟩ := I.list ev2
          cases rz
          exact (flatlist g1 ru p2.isList).1
      | tup xs =>
        rw [shp_tup e1, RD] at rx
        obtain ⟨a, vs, rfl, t, q1⟩ := rx
        rw [← c.K] at t
        obtain ⟨its, v1, p1, _⟩ := I.tuple t
        cases ru
        cases q with
        | flat =>
          have f := shp_flat e2
          obtain ⟨ev, g1⟩ := RD.flat f ry
          exact (flattup g1 rz p1).2
        | tup ys => exact (n2 _ _ rfl rfl).elim
        | lst ys =>
          obtain ⟨b, ws, rfl, ev2, q2⟩ := lst_at R (shp_lst e2) ry
          rw [← c.K] at ev2
          obtain ⟨jts, v2, p2, _⟩ := I.list ev2
          cases rz
          exact RcNeAt.tuple_list p1 p2.isList hA0
      | lst xs =>
        obtain ⟨a, vs, rfl, ev1, q1⟩ := lst_at R (shp_lst e1) rx
        rw [← c.K] at ev1
        obtain ⟨its, v1, p1, _⟩ := I.list ev1
        cases ru
        cases q with
        | flat =>
          have f := shp_flat e2
          obtain ⟨ev, g1⟩ := RD.flat f ry
          exact (flatlist g1 rz p1.isList).2
        | tup ys =>
          rw [shp_tup e2, RD] at ry
          obtain ⟨b, ws, rfl, t2, q2⟩ := ry
          rw [← c.K] at t2
          obtain ⟨jts, v2, p2, _⟩ := I.tuple t2
          cases rz
          exact RcNeAt.list_tuple p1.isList p2 hA0
        | lst ys => exact (n3 _ _ rfl rfl).elim
    · cases e
end Ev
end
end
section
/-! E9: comparisons. -/
set_option linter.all false
set_option maxRecDepth 100000
set_option maxHeartbeats 1000000
noncomputable section
namespace Ev
open PySem PySem.Spec PyProof.Rows PySem.SeqAt
open L2 (V HO Vals VK XK WX SqL SqT Inv PE PT PW PA PS PSs PG PGs PI Cx upd upd_same upd_ne Rd Room EP TP thn OpR CallR TE TT TA)
variable {ρ : Lk} {C : Call} {W : WX} {X : Cx} {pins : List (Addr × Obj)} {s : Shared} {σ : LS} {H : LH} {μ : Mu} {h : Hp} {k : Nat}

def opOf : COp → CmpOp
  | .eq => .Eq
  | .ne => .NotEq
  | .lt => .Lt
  | .le => .LtE
  | .gt => .Gt
  | .ge => .GtE
  | .is => .Is
  | .isn => .IsNot
  | .in_ => .In
  | .nin => .NotIn
/-- a bool answer -/
theorem end_bl {Q : VK} {b : Bool} (I : Inv X pins σ H s) (R : HR ρ μ h H) (g : Good ρ (RD ρ) W (.ok (.bl b) h) μ σ H Q) : EP X pins σ Q (.bool b) s := ⟨.bl b, H, I, rfl, g.ok Ext.rfl R (by rw [RD])⟩

theorem is_bool_gen {M : Model} {A : Around} {E : Value → Shared → Prop} {v : Value} {b : Bool} {Q : Value → Shared → Prop} (hv : ∀ p, v ≠ .builtin p) (q : Q (.bool (v == .bool b)) s) : wpAny M A (compareOp .Is v (.bool b)) Q E s := by
  cases v <;> first
    | exact wpAny_pure q
    | exact absurd rfl (hv _)
theorem isnot_bool_gen {M : Model} {A : Around} {E : Value → Shared → Prop} {v : Value} {b : Bool} {Q : Value → Shared → Prop} (hv : ∀ p, v ≠ .builtin p) (q : Q (.bool (!(v == .bool b))) s) : wpAny M A (compareOp .IsNot v (.bool b)) Q E s := by
  cases v <;> first
    | exact wpAny_pure q
    | exact absurd rfl (hv _)
theorem relV_nb {v : V} {u : Value} (r : L2.RelV v u) : ∀ p, u ≠ .builtin p := by
  intro p e
  subst e
  cases v <;> simp [L2.RelV] at r
theorem relV_none {v : V} {u : Value} (r : L2.RelV v u) : (u == Value.none) = decide (v = .non) := by
  cases v <;> simp only [L2.RelV] at r <;> first
    | (subst r; rfl)
    | (obtain ⟨t, rfl⟩ := r; rfl)
theorem relV_bool {v : V} {u : Value} {b : Bool} (r : L2.RelV v u) : (u == Value.bool b) = decide (v = .bl b) := by
  cases v <;> simp only [L2.RelV] at r <;> first
    | (subst r; cases b <;> rfl)
    | (obtain ⟨t, rfl⟩ := r; rfl)
    | skip
  subst r
  rename_i c
  cases b <;> cases c <;> rfl
theorem rd_non {x : D} {v : V} (r : RD ρ μ H x v) : decide (x = .non) = decide (v = .non) := by
  cases x <;> rw [RD] at r <;> first
    | (subst r; rfl)
    | (obtain ⟨a, _, rfl, _⟩ := r; rfl)
    | (obtain ⟨a, _, _, rfl, _⟩ := r; rfl)
    | (obtain ⟨a, _, rfl⟩ := r; rfl)
    | (obtain ⟨rfl, _⟩ := r; rfl)
    | exact r.elim
theorem rd_bl {x : D} {v : V} {b : Bool} (r : RD ρ μ H x v) : decide (x = .bl b) = decide (v = .bl b) := by
  cases x <;> rw [RD] at r <;> first
    | (subst r; first | rfl | (simp; done))
    | (obtain ⟨a, _, rfl, _⟩ := r; rfl)
    | (obtain ⟨a, _, _, rfl, _⟩ := r; rfl)
    | (obtain ⟨a, _, rfl⟩ := r; rfl)
    | (obtain ⟨rfl, _⟩ := r; rfl)
    | exact r.elim
theorem is_run (I : Inv X pins σ H s) (R : HR ρ μ h H) {x y : D} {v w : V} {u z : Value} {b : Bool} {Q : VK} (rx : RD ρ μ H x v) (ry : RD ρ μ H y w) (ru : L2.RelV v u) (rz : L2.RelV w z) (e : evIs x y = some b) :
    (Good ρ (RD ρ) W (.ok (.bl b) h) μ σ H Q → wpAny (model X.prog X.w) X.A (compareOp .Is u z) (EP X pins σ Q) X.xe s) ∧ (Good ρ (RD ρ) W (.ok (.bl !b) h) μ σ H Q → wpAny (model X.prog X.w) X.A (compareOp .IsNot u z) (EP X pins σ Q) X.xe s) := by
  unfold evIs at e
  split at e
  · split at e
    · rw [RD] at ry
      subst ry
      cases rz
      rw [Option.some.injEq] at e
      refine ⟨fun g => is_none_gen ?_, fun g => isnot_none_gen ?_⟩
      · rw [relV_none ru, ← rd_non rx, e]; exact end_bl I R g
      · rw [relV_none ru, ← rd_non rx, e]; exact end_bl I R g
    · cases e
  · split at e
    · rename_i c _
      rw [RD] at ry
      subst ry
      cases rz
      rw [Option.some.injEq] at e
      refine ⟨fun g => is_bool_gen (relV_nb ru) ?_, fun g => isnot_bool_gen (relV_nb ru) ?_⟩
      · rw [relV_bool ru, ← rd_bl rx, e]; exact end_bl I R g
      · rw [relV_bool ru, ← rd_bl rx, e]; exact end_bl I R g
    · cases e
  · split at e
    · rename_i _ j _ i
      rw [RD] at rx ry
      obtain ⟨a, ea, rfl⟩ := rx
      obtain ⟨a2, ea2, rfl⟩ := ry
      rw [Option.some.injEq] at e
      have hi : i < h.length := by rw [← R.len]; exact (List.getElem?_eq_some_iff.mp ea).1
      have hj : j < h.length := by rw [← R.len]; exact (List.getElem?_eq_some_iff.mp ea2).1
      have r1 := R.at_ i _ a (List.getElem?_eq_getElem hi) ea
      have r2 := R.at_ j _ a2 (List.getElem?_eq_getElem hj) ea2
      have obj : ∀ {a : Addr} {ob : Ob}, RO ρ μ H a ob → ∃ o, s.heap.get? a = some o ∧ o.cls ≠ .type "tuple" := fun {a ob} r => by
        obtain ⟨o, lk⟩ := ob
        cases o <;> cases lk
        case lst.false => obtain ⟨ws, q, _⟩ := r; exact L2.obj_there I q rfl
        case ins.false => obtain ⟨dx, ws, q, _⟩ := r; exact L2.obj_there I q rfl
        case dic.false =>
          obtain ⟨ws, ⟨_, (⟨_, q | ⟨fo, q⟩⟩ | ⟨_, q | ⟨fo, q⟩⟩)⟩, _⟩ := r
          · obtain ⟨_, _, vs, _, o, es, ep, h1, h2, _⟩ := (show L2.ObjOk X.prog X.w H s.heap _ (.dK _) from I.hok _ _ q)
            exact ⟨o, h1, by rw [h2.1]; decide +kernel⟩
          · obtain ⟨_, _, _, vs, _, o, es, ep, h1, h2, _⟩ := (show L2.ObjOk X.prog X.w H s.heap _ (.frz fo (.dK _)) from I.hok _ _ q)
            exact ⟨o, h1, by rw [h2.1]; decide +kernel⟩
          · obtain ⟨_, _, vs, _, o, es, ep, h1, h2, _⟩ := (show L2.ObjOk X.prog X.w H s.heap _ (.dT _) from I.hok _ _ q)
            exact ⟨o, h1, by rw [h2.1]; decide +kernel⟩
          · obtain ⟨_, _, _, vs, _, o, es, ep, h1, h2, _⟩ := (show L2.ObjOk X.prog X.w H s.heap _ (.frz fo (.dT _)) from I.hok _ _ q)
            exact ⟨o, h1, by rw [h2.1]; decide +kernel⟩
        all_goals exact r.elim
      obtain ⟨o1, e1, n1⟩ := obj r1
      obtain ⟨o2, e2, n2⟩ := obj r2
      have ij : decide (a = a2) = b := by
        rw [← e]
        by_cases hij : i = j
        · subst hij
          rw [ea] at ea2
          cases ea2
          simp
        · have : a ≠ a2 := fun q => by
            subst q
            obtain ⟨l1, g1⟩ := List.getElem?_eq_some_iff.mp ea
            obtain ⟨l2, g2⟩ := List.getElem?_eq_some_iff.mp ea2
            exact hij ((List.getElem_inj R.nd).mp (g1.trans g2.symm))
          simp [this, hij]
      obtain rfl : u = .ref a := ru
      obtain rfl : z = .ref a2 := rz
      by_cases z : a = a2
      · subst z
        obtain rfl : b = true := by rw [← ij]; simp
        exact ⟨fun g => wpAny_is_ref_self (end_bl I R g), fun g => wpAny_isNot_ref_self (end_bl I R g)⟩
      · obtain rfl : b = false := by rw [← ij]; simp [z]
        exact ⟨fun g => wpAny_is_ref_other z e1 e2 n1 (end_bl I R g), fun g => wpAny_isNot_ref_other z e1 e2 n1 (end_bl I R g)⟩
    · cases e
  · cases e

/-! ### in -/
theorem mapO_get {α β : Type} {f : α → Option β} : ∀ {xs : List α} {ys : List β}, mapO f xs = some ys → xs.length = ys.length ∧ ∀ (i : Nat) x, xs[i]? = some x → ∃ y, ys[i]? = some y ∧ f x = some y
  | [], ys, e => by
    rw [mapO, Option.some.injEq] at e
    subst e
    exact ⟨rfl, fun i x h => by simp at h⟩
  | a :: r, ys, e => by
    rw [mapO] at e
    split at e
    · cases e
    · rename_i b eb
      cases er : mapO f r with
      | none => rw [er] at e; cases e
      | some zs =>
        rw [er] at e
        simp only [Option.map_some, Option.some.injEq] at e
        subst e
        obtain ⟨h1, h2⟩ := mapO_get er
        refine ⟨by simp [h1], fun i x hx => ?_⟩
        cases i with
        | zero => simp at hx; subst hx; exact ⟨b, rfl, eb⟩
        | succ i => exact h2 i x (by simpa using hx)
/-- one value, one answer -/
theorem deq_cong (I : Inv X pins σ H s) (c : Ct ρ X) (R : HR ρ μ h H) : ∀ (n : Nat) (d d' x : D) (v : V) (k k' : Bool), RD ρ μ H d v → RD ρ μ H d' v → deq h n d x = some k → deq h n d' x = some k' → k = k' := by
  intro n
  induction n with
  | zero =>
    intro d d' x v k k' r r' e e'
    rw [deq] at e e'
    obtain ⟨f1, _, _⟩ := eqFlat_eqV e
    obtain ⟨f2, _, _⟩ := eqFlat_eqV e'
    have q : d = d' := vOf_inj f1 f2 ((RD.flat f1 r).1.symm.trans (RD.flat f2 r').1)
    subst q
    rw [e] at e'
    exact Option.some.inj e'
  | succ n ih =>
    intro d d' x v k k' r r' e e'
    by_cases hd : d = d'
    · subst hd
      rw [e] at e'
      exact Option.some.inj e'
    · -- then both are tuples
      have sd : ∃ p, shp h d = some p := by
        rw [deq] at e
        cases z : shp h d with
        | none => rw [z] at e; cases e
        | some p => exact ⟨p, rfl⟩
      have sd' : ∃ p, shp h d' = some p := by
        rw [deq] at e'
        cases z : shp h d' with
        | none => rw [z] at e'; cases e'
        | some p => exact ⟨p, rfl⟩
      obtain ⟨p, e1⟩ := sd
      obtain ⟨p', e2⟩ := sd'
      have ft : ∀ (z : D) (xs : List D), isFlat z = true → RD ρ μ H z v → RD ρ μ H (.tup xs) v → False := fun z xs f r1 r2 => by
        rw [RD] at r2
        obtain ⟨a, vs, rfl, _⟩ := r2
        have q := (RD.flat f r1).1
        cases z <;> simp [vOf] at q
      have fl : ∀ (z i : D) (ys : List D), isFlat z = true → RD ρ μ H z v → RD ρ μ H i v → lstOf h i = some ys → False := fun z i ys f r1 r2 eo => by
        obtain ⟨a, _, rfl, _⟩ := lst_at R eo r2
        have q := (RD.flat f r1).1
        cases z <;> simp [vOf] at q
      have clash : ∀ (xs : List D) (i : D) (ys : List D), RD ρ μ H (.tup xs) v → RD ρ μ H i v → lstOf h i = some ys → False := by
        intro xs i ys r1 r2 eo
        obtain ⟨a, vs, rfl, ev, rv⟩ := lst_at R eo r2
        rw [RD] at r1
        obtain ⟨a', ws, e2, t, _⟩ := r1
        cases e2
        exact sq_clash I c.K ev t
      have itemsC : ∀ (xs ys zs : List D) (vs : List V), RDs ρ μ H xs vs → RDs ρ μ H ys vs → eqAll (deq h n) xs zs = some k → eqAll (deq h n) ys zs = some k' → k = k' := by
        intro xs ys zs vs q q2 e e'
        have hl : xs.length = ys.length := by rw [← q.length, ← q2.length]
        by_cases hz : xs.length = zs.length
        · obtain ⟨h1, h2⟩ := eqAll_at hz e
          obtain ⟨h3, h4⟩ := eqAll_at (hl.symm.trans hz) e'
          rw [h2, h4, hl]
          have : ∀ j ∈ List.range ys.length, pairB (deq h n) xs zs j = pairB (deq h n) ys zs j := by
            intro j hj
            rw [List.mem_range] at hj
            have l1 : j < xs.length := by omega
            have l3 : j < zs.length := by omega
            obtain ⟨b, eb⟩ := h1 j _ _ (List.getElem?_eq_getElem l1) (List.getElem?_eq_getElem l3)
            obtain ⟨b', eb'⟩ := h3 j _ _ (List.getElem?_eq_getElem hj) (List.getElem?_eq_getElem l3)
            obtain ⟨u1, a1, b1⟩ := q.get (List.getElem?_eq_getElem l1)
            obtain ⟨u2, a2, b2⟩ := q2.get (List.getElem?_eq_getElem hj)
            rw [a1] at a2
            cases a2
            rw [pairB_at (List.getElem?_eq_getElem l1) (List.getElem?_eq_getElem l3) eb, pairB_at (List.getElem?_eq_getElem hj) (List.getElem?_eq_getElem l3) eb']
            exact ih _ _ _ _ _ _ b1 b2 eb eb'
          rw [Bool.eq_iff_iff, List.all_eq_true, List.all_eq_true]
          exact ⟨fun z j hj => (this j hj) ▸ z j hj, fun z j hj => (this j hj).symm ▸ z j hj⟩
        · rw [eqAll_len hz e, eqAll_len (fun z => hz (hl.trans z)) e']
      cases p with
      | flat =>
        have f1 := shp_flat e1
        cases p' with
        | flat => exact absurd (vOf_inj f1 (shp_flat e2) ((RD.flat f1 r).1.symm.trans (RD.flat (shp_flat e2) r').1)) hd
        | tup ys => exact (ft d ys f1 r (shp_tup e2 ▸ r')).elim
        | lst ys => exact (fl d d' ys f1 r r' (shp_lst e2)).elim
      | lst xs =>
        cases p' with
        | flat => exact (fl d' d xs (shp_flat e2) r' r (shp_lst e1)).elim
        | tup ys => exact (clash ys d xs (shp_tup e2 ▸ r') r (shp_lst e1)).elim
        | lst ys =>
          obtain ⟨a, vs, rfl, t, q⟩ := lst_at R (shp_lst e1) r
          obtain ⟨a2, vs2, z, t2, q2⟩ := lst_at R (shp_lst e2) r'
          cases z
          have z := sqL_same I c.K t t2
          subst z
          rw [deq, e1] at e
          rw [deq, e2] at e'
          cases ex : shp h x with
          | none => rw [ex] at e; cases e
          | some px =>
            rw [ex] at e e'
            cases px with
            | flat => cases e; cases e'; rfl
            | tup zs => cases e; cases e'; rfl
            | lst zs => exact itemsC xs ys zs vs q q2 e e'
      | tup xs =>
        cases p' with
        | flat => exact (ft d' xs (shp_flat e2) r' (shp_tup e1 ▸ r)).elim
        | lst ys => exact (clash xs d' ys (shp_tup e1 ▸ r) r' (shp_lst e2)).elim
        | tup ys =>
          rw [shp_tup e1, RD] at r
          rw [shp_tup e2, RD] at r'
          obtain ⟨a, vs, rfl, t, q⟩ := r
          obtain ⟨a2, vs2, z, t2, q2⟩ := r'
          cases z
          have z := sqT_same I c.K t t2
          subst z
          rw [deq, e1] at e
          rw [deq, e2] at e'
          cases ex : shp h x with
          | none => rw [ex] at e; cases e
          | some px =>
            rw [ex] at e e'
            cases px with
            | flat => cases e; cases e'; rfl
            | lst zs => cases e; cases e'; rfl
            | tup zs => exact itemsC xs ys zs vs q q2 e e'
/-- x is among the items -/
theorem in_items (I : Inv X pins σ H s) (c : Ct ρ X) (R : HR ρ μ h H) {A : Around} (hA : A.units + dq + 2 < cLine) {x : D} {v : V} {u : Value} (rx : RD ρ μ H x v) (ru : L2.RelV v u) {ys : List D} {ws : List V} {its : List Value} (ry : RDs ρ μ H ys ws) (rv : Vals ws its) {b : Bool} (e : anyEqT h x ys = some b) :
    ∃ f : Value → Bool, (∀ y, y ∈ its.toArray → EqAt A s y u (f y)) ∧ its.toArray.any f = b := by
  unfold anyEqT at e
  cases em : mapO (fun y => deq h dq y x) ys with
  | none => rw [em] at e; cases e
  | some bs =>
    rw [em] at e
    simp only [Option.map_some, Option.some.injEq] at e
    obtain ⟨hl, hg⟩ := mapO_get em
    -- the items one by one
    have one : ∀ (i : Nat) y, its[i]? = some y → ∃ d w k, ys[i]? = some d ∧ RD ρ μ H d w ∧ L2.RelV w y ∧ bs[i]? = some k ∧ deq h dq d x = some k := by
      intro i y hy
      have hi : i < its.length := (List.getElem?_eq_some_iff.mp hy).1
      obtain ⟨w, a1, b1⟩ := vals_get rv hi
      have l1 : i < ys.length := by rw [← ry.length, rv.length]; exact hi
      obtain ⟨w2, c1, d1⟩ := ry.get (List.getElem?_eq_getElem l1)
      rw [a1] at c1
      cases c1
      obtain ⟨k, k1, k2⟩ := hg i _ (List.getElem?_eq_getElem l1)
      rw [List.getElem?_eq_getElem hi] at hy
      cases hy
      exact ⟨_, _, k, List.getElem?_eq_getElem l1, d1, b1, k1, k2⟩
    let f : Value → Bool := fun y => @decide (∃ (i : Nat) (d : D) (w : V), its[i]? = some y ∧ RD ρ μ H d w ∧ L2.RelV w y ∧ deq h dq d x = some true) (Classical.propDecidable _)
    have fk : ∀ (i : Nat) y d w k, its[i]? = some y → RD ρ μ H d w → L2.RelV w y → deq h dq d x = some k → ys[i]? = some d → EqAt A s y u k := fun i y d w k h1 h2 h3 h4 h5 =>
      (deq_at I c R dq A (by omega) d x w v y u k h2 rx h3 ru h4).2
    -- one value, one answer
    have uniq : ∀ {d d' : D} {w w' : V} {y : Value} {k k' : Bool}, RD ρ μ H d w → RD ρ μ H d' w' → L2.RelV w y → L2.RelV w' y → deq h dq d x = some k → deq h dq d' x = some k' → k = k' := by
      intro d d' w w' y k k' r1 r2 q1 q2 e1 e2
      have z := relV_fun q1 q2
      subst z
      exact deq_cong I c R dq d d' x w k k' r1 r2 e1 e2
    refine ⟨f, fun y hy => ?_, ?_⟩
    · obtain ⟨i, hi, ei⟩ := List.getElem_of_mem (show y ∈ its by simpa using hy)
      have hi' : its[i]? = some y := by rw [List.getElem?_eq_getElem hi, ei]
      obtain ⟨d, w, k, h1, h2, h3, h4, h5⟩ := one i y hi'
      have q := fk i y d w k hi' h2 h3 h5 h1
      have : f y = k := by
        show @decide _ (Classical.propDecidable _) = k
        cases k with
        | true => exact @decide_eq_true _ (Classical.propDecidable _) ⟨i, d, w, hi', h2, h3, h5⟩
        | false =>
          refine @decide_eq_false _ (Classical.propDecidable _) ?_
          rintro ⟨i', d', w', g1, g2, g3, g4⟩
          exact Bool.noConfusion (uniq h2 g2 h3 g3 h5 g4)
      rw [this]
      exact q
    · have fb : ∀ (i : Nat) y b, its[i]? = some y → bs[i]? = some b → f y = b := fun i y b hy hb => by
        obtain ⟨d, w, k, h1, h2, h3, h4, h5⟩ := one i y hy
        rw [hb] at h4
        cases h4
        show @decide _ (Classical.propDecidable _) = b
        cases b with
        | true => exact @decide_eq_true _ (Classical.propDecidable _) ⟨i, d, w, hy, h2, h3, h5⟩
        | false =>
          refine @decide_eq_false _ (Classical.propDecidable _) ?_
          rintro ⟨i', d', w', g1, g2, g3, g4⟩
          exact Bool.noConfusion (uniq h2 g2 h3 g3 h5 g4)
      have lb : bs.length = its.length := by rw [← hl, ← ry.length, rv.length]
      have hm : its.map f = bs := by
        refine List.ext_getElem? fun i => ?_
        rw [List.getElem?_map]
        by_cases hi : i < its.length
        · rw [List.getElem?_eq_getElem hi, List.getElem?_eq_getElem (by omega)]
          simp only [Option.map_some, Option.some.injEq]
          exact fb i _ _ (List.getElem?_eq_getElem hi) (List.getElem?_eq_getElem (by omega))
        · rw [List.getElem?_eq_none (by omega), List.getElem?_eq_none (by omega)]
          rfl
      rw [← e, ← hm]
      simp [List.any_map]
end Ev
end
end
section
/-! E10: comparisons as expressions and as tests. -/
set_option linter.all false
set_option maxRecDepth 100000
set_option maxHeartbeats 1000000
noncomputable section
namespace Ev
open PySem PySem.Spec PyProof.Rows PySem.SeqAt
open L2 (V HO Vals VK XK WX SqL SqT Inv PE PT PW PA PS PSs PG PGs PI Cx upd upd_same upd_ne Rd Room EP TP thn OpR CallR TE TT TA)
variable {ρ : Lk} {C : Call} {W : WX} {X : Cx} {pins : List (Addr × Obj)} {s : Shared} {σ : LS} {H : LH} {μ : Mu} {h : Hp} {k : Nat}

def bopOf : BOp → Operator
  | .add => .Add
  | .sub => .Sub
  | .mul => .Mult
  | .fdiv => .FloorDiv
  | .mod => .Mod
  | .pow => .Pow
def isIn (h : Hp) (x : D) : Prop := ∃ c, insOf h x = some c
/-- what the operations on instances of the program's own classes do -/
structure Own (ρ : Lk) (C : Call) (W : WX) (X : Cx) : Prop where
  cmp : ∀ {pins : List (Addr × Obj)} {s : Shared} {σ : LS} {H : LH} {μ : Mu} {h : Hp} {o : COp} {x y : D} {v w : V} {u z : Value} {Q : VK}, Inv X pins σ H s → HR ρ μ h H → RD ρ μ H x v → RD ρ μ H y w → L2.RelV v u → L2.RelV w z →
    isIn h x ∨ isIn h y → o = .eq ∨ o = .ne ∨ o = .in_ ∨ o = .nin → Good ρ (RD ρ) W (evCmp ρ.P C o x y h) μ σ H Q → wpAny (model X.prog X.w) X.A (compareOp (opOf o) u z) (EP X pins σ Q) X.xe s
  op : ∀ {pins : List (Addr × Obj)} {s : Shared} {σ : LS} {H : LH} {μ : Mu} {h : Hp} {o : BOp} {x y : D} {v w : V} {u z : Value} {Q : VK}, Inv X pins σ H s → HR ρ μ h H → RD ρ μ H x v → RD ρ μ H y w → L2.RelV v u → L2.RelV w z →
    isIn h x → Good ρ (RD ρ) W (evOp ρ.P C o x y h) μ σ H Q → wpAny (model X.prog X.w) X.A (binaryOp (bopOf o) u z) (EP X pins σ Q) X.xe s
  get : ∀ {value slice : Expr} {pins : List (Addr × Obj)} {s : Shared} {σ : LS} {H : LH} {μ : Mu} {h : Hp} {x y : D} {v w : V} {u z : Value} {Q : VK}, Inv X pins σ H s → HR ρ μ h H → RD ρ μ H x v → RD ρ μ H y w → L2.RelV v u → L2.RelV w z →
    isIn h x → Good ρ (RD ρ) W (evGet ρ.P C x y h) μ σ H Q → subscripted slice false u z = operate [u, z] (getItem u z) → wpAny (model X.prog X.w) X.A (subscriptTail value slice u z) (EP X pins σ Q) X.xe s
  isi : ∀ {pins : List (Addr × Obj)} {s : Shared} {σ : LS} {H : LH} {μ : Mu} {h : Hp} {x y : D} {v w : V} {u z : Value} {Q : VK}, Inv X pins σ H s → HR ρ μ h H → RD ρ μ H x v → RD ρ μ H y w → L2.RelV v u → L2.RelV w z →
    isIn h x ∨ (∃ d, y = .cls d) → Good ρ (RD ρ) W (evBF ρ.P h .isi [x, y]) μ σ H Q → wpAny (model X.prog X.w) X.A (call (.builtin "isinstance") [u, z]) (EP X pins σ Q) X.xe s
  met : ∀ {pl : Sem Bool} {pins : List (Addr × Obj)} {s : Shared} {σ : LS} {H : LH} {μ : Mu} {h : Hp} {x : D} {m f : Nat} {a : Addr} {Q : Value × List Value → Shared → Prop}, Inv X pins σ H s → HR ρ μ h H → RD ρ μ H x (.ref a) →
    callee ρ.P x m h = .own f → (PySem.W.keepIn X.K (.ref (ρ.fa f)) = true → Q (.ref (ρ.fa f), [.ref a]) s) → wpAny (model X.prog X.w) X.A (getMethod (.ref a) (ρ.fld m) pl) Q X.xe s
abbrev OwnAll (ρ : Lk) (C : Call) (k : Nat) : Prop := ∀ (W : WX) (X : Cx), Cf ρ C W X k → Own ρ C W X

theorem ltList_eq' : ∀ a b : List Nat, ltList a b = decide (a < b)
  | [], [] => by simp [ltList]
  | _ :: _, [] => by simp [ltList]
  | [], _ :: _ => by simp [ltList]
  | a :: x, b :: y => by
    rw [ltList, ltList_eq' x y]
    by_cases h : a < b
    · simp [h, List.cons_lt_cons_iff]
    · by_cases e : a = b
      · subst e
        simp [List.cons_lt_cons_iff]
      · simp [h, e, List.cons_lt_cons_iff]
theorem ltList_eq {a b : List Nat} {i : Decidable (a < b)} : ltList a b = @decide (a < b) i := by
  rw [ltList_eq']
  congr
theorem ord_run (I : Inv X pins σ H s) (R : HR ρ μ h H) {o : COp} {x y : D} {v w : V} {u z : Value} {b : Bool} {Q : VK} (rx : RD ρ μ H x v) (ry : RD ρ μ H y w) (ru : L2.RelV v u) (rz : L2.RelV w z) (e : evOrd o x y = some b) (g : Good ρ (RD ρ) W (.ok (.bl b) h) μ σ H Q) :
    wpAny (model X.prog X.w) X.A (compareOp (opOf o) u z) (EP X pins σ Q) X.xe s := by
  have q : Q (.bl b) H := g.ok Ext.rfl R (by rw [RD])
  unfold evOrd at e
  split at e
  · rw [RD] at rx ry
    subst rx ry
    split at e <;> first
      | cases e
      | skip
    · exact L2.op_lt pins s σ H _ _ u z Q I ru rz ⟨_, _, rfl, rfl, q⟩
    · exact L2.op_le pins s σ H _ _ u z Q I ru rz ⟨_, _, rfl, rfl, q⟩
    · exact L2.op_gt pins s σ H _ _ u z Q I ru rz ⟨_, _, rfl, rfl, q⟩
    · exact L2.op_ge pins s σ H _ _ u z Q I ru rz ⟨_, _, rfl, rfl, q⟩
  · rw [RD] at rx ry
    subst rx ry
    rename_i a c
    have l1 : (asStr a).cps.toList = a := by simp [asStr]
    have l2 : (asStr c).cps.toList = c := by simp [asStr]
    split at e <;> first
      | (rw [Option.some.injEq] at e; rw [← e] at q)
      | cases e
    · exact L2.op_lt_str pins s σ H _ _ u z Q I ru rz ⟨_, _, rfl, rfl, by rw [ltList_eq (i := inferInstance), ← l1, ← l2] at q; exact q⟩
    · exact L2.op_le_str pins s σ H _ _ u z Q I ru rz ⟨_, _, rfl, rfl, by rw [ltList_eq (i := inferInstance), ← l1, ← l2] at q; exact q⟩
    · exact L2.op_gt_str pins s σ H _ _ u z Q I ru rz ⟨_, _, rfl, rfl, by rw [ltList_eq (i := inferInstance), ← l1, ← l2] at q; exact q⟩
    · exact L2.op_ge_str pins s σ H _ _ u z Q I ru rz ⟨_, _, rfl, rfl, by rw [ltList_eq (i := inferInstance), ← l1, ← l2] at q; exact q⟩
  · cases e
/-- x in y -/
theorem in_run (c : Ct ρ X) (I : Inv X pins σ H s) (R : HR ρ μ h H) {x y : D} {v w : V} {u z : Value} {b : Bool} {Q : VK} (rx : RD ρ μ H x v) (ry : RD ρ μ H y w) (ru : L2.RelV v u) (rz : L2.RelV w z) (e : evIn h x y = some b) :
    (Good ρ (RD ρ) W (.ok (.bl b) h) μ σ H Q → wpAny (model X.prog X.w) X.A (compareOp .In u z) (EP X pins σ Q) X.xe s) ∧ (Good ρ (RD ρ) W (.ok (.bl !b) h) μ σ H Q → wpAny (model X.prog X.w) X.A (compareOp .NotIn u z) (EP X pins σ Q) X.xe s) := by
  have hu := c.hu
  have seqL : ∀ {a : Addr} {ys : List D} {ws : List V}, w = .ref a → SqL X.K H a ws → RDs ρ μ H ys ws → anyEqT h x ys = some b → (Good ρ (RD ρ) W (.ok (.bl b) h) μ σ H Q → wpAny (model X.prog X.w) X.A (compareOp .In u z) (EP X pins σ Q) X.xe s) ∧ (Good ρ (RD ρ) W (.ok (.bl !b) h) μ σ H Q → wpAny (model X.prog X.w) X.A (compareOp .NotIn u z) (EP X pins σ Q) X.xe s) := by
    intro a ys ws ew sq rys ea
    subst ew
    cases rz
    obtain ⟨its, v1, p1, _⟩ := I.list sq
    obtain ⟨f, hf, hb⟩ := in_items I c R (A := X.A.in1) (by show X.A.units + 1 + dq + 2 < cLine; have : dq = 40 := rfl; omega) rx ru rys v1 ea
    exact ⟨fun g => in_listAt f p1.isList hf (by rw [hb]; exact end_bl I R g), fun g => notIn_listAt f p1.isList hf (by rw [hb]; exact end_bl I R g)⟩
  unfold evIn at e
  split at e
  · split at e
    · rename_i s2 _ c2
      rw [RD] at rx ry
      subst rx ry
      rw [Option.some.injEq] at e
      have hs : (asStr s2).cps.toList = s2 := by simp [asStr]
      refine ⟨fun g => L2.op_in_sign pins s σ H _ _ u z Q I ru rz ⟨c2, asStr s2, rfl, rfl, ?_⟩, fun g => L2.op_notIn_sign pins s σ H _ _ u z Q I ru rz ⟨c2, asStr s2, rfl, rfl, ?_⟩⟩
      · rw [hs, e]; exact g.ok Ext.rfl R (by rw [RD])
      · rw [hs, e]; exact g.ok Ext.rfl R (by rw [RD])
    · cases e
  · rename_i ys
    rw [RD] at ry
    obtain ⟨a, ws, rfl, t, rys⟩ := ry
    cases rz
    rw [← c.K] at t
    obtain ⟨its, v1, p1, _⟩ := I.tuple t
    obtain ⟨f, hf, hb⟩ := in_items I c R (A := X.A.in1) (by show X.A.units + 1 + dq + 2 < cLine; have : dq = 40 := rfl; omega) rx ru rys v1 e
    exact ⟨fun g => in_tupleAt f p1 hf (by rw [hb]; exact end_bl I R g), fun g => notIn_tupleAt f p1 hf (by rw [hb]; exact end_bl I R g)⟩
  · rename_i ys
    obtain ⟨a, vs, ew, ev, rv⟩ := lst_at (xs := ys) R rfl ry
    exact seqL ew (by rw [c.K]; exact ev) rv e
  · rename_i i
    split at e
    · rename_i ys lk eo
      obtain ⟨a, vs, ew, ea, ev, rv, rfl⟩ := R.lst eo ry
      exact seqL ew (.inl (.inl ev)) rv e
    · rename_i kvs lk eo
      cases e
    · cases e
  · cases e
theorem cmp_run (c : Cf ρ C W X k) (ow : Own ρ C W X) (I : Inv X pins σ H s) (R : HR ρ μ h H) {o : COp} {x y : D} {v w : V} {u z : Value} {Q : VK} (rx : RD ρ μ H x v) (ry : RD ρ μ H y w) (ru : L2.RelV v u) (rz : L2.RelV w z) (g : Good ρ (RD ρ) W (evCmp ρ.P C o x y h) μ σ H Q) :
    wpAny (model X.prog X.w) X.A (compareOp (opOf o) u z) (EP X pins σ Q) X.xe s := by
  have hu := c.ct.hu
  have d40 : dq = 40 := rfl
  -- a value with no answer by itself is an instance
  have own : (o = .eq ∨ o = .ne) → deq h dq x y = none → wpAny (model X.prog X.w) X.A (compareOp (opOf o) u z) (EP X pins σ Q) X.xe s := by
    intro ho e
    have g0 := g
    have g1 : Good ρ (RD ρ) W ((evEq ρ.P C h x y).bind fun k h' => .ok (.bl (if o = .eq then k else !k)) h') μ σ H Q := by
      rcases ho with rfl | rfl <;> exact g
    unfold evEq at g1
    rw [e] at g1
    simp only [] at g1
    split at g1
    · rename_i cc eo
      exact ow.cmp I R rx ry ru rz (.inl ⟨cc, eo⟩) (by rcases ho with rfl | rfl <;> simp) g0
    · exact g1.elim
  have ownIn : (o = .in_ ∨ o = .nin) → evIn h x y = none → wpAny (model X.prog X.w) X.A (compareOp (opOf o) u z) (EP X pins σ Q) X.xe s := by
    intro ho e
    have fin : isIn h y → wpAny (model X.prog X.w) X.A (compareOp (opOf o) u z) (EP X pins σ Q) X.xe s := fun q =>
      ow.cmp I R rx ry ru rz (.inr q) (by rcases ho with rfl | rfl <;> simp) g
    have ok : isIn h y := by
      rcases ho with rfl | rfl
      all_goals
        have g1 := g
        unfold evCmp at g1
        simp only [e] at g1
        split at g1
        · rename_i cc eo
          exact ⟨cc, eo⟩
        · exact g1.elim
    exact fin ok
  cases o with
  | eq =>
    cases e : deq h dq x y with
    | none => exact own (.inl rfl) e
    | some b =>
      have g1 : Good ρ (RD ρ) W (.ok (.bl b) h) μ σ H Q := by
        unfold evCmp evEq at g
        rw [e] at g
        exact g
      exact (deq_at I c.ct R dq X.A (by omega) x y v w u z b rx ry ru rz e).1 X.prog X.w X.xe _ (end_bl I R g1)
  | ne =>
    cases e : deq h dq x y with
    | none => exact own (.inr rfl) e
    | some b =>
      have g1 : Good ρ (RD ρ) W (.ok (.bl !b) h) μ σ H Q := by
        unfold evCmp evEq at g
        rw [e] at g
        exact g
      exact (dne_at I c.ct R dq X.A (by omega) x y v w u z b rx ry ru rz e) X.prog X.w X.xe _ (end_bl I R g1)
  | lt =>
    unfold evCmp at g
    cases e : evOrd .lt x y with
    | none => simp only [e] at g; exact g.elim
    | some b => simp only [e] at g; exact ord_run I R rx ry ru rz e g
  | le =>
    unfold evCmp at g
    cases e : evOrd .le x y with
    | none => simp only [e] at g; exact g.elim
    | some b => simp only [e] at g; exact ord_run I R rx ry ru rz e g
  | gt =>
    unfold evCmp at g
    cases e : evOrd .gt x y with
    | none => simp only [e] at g; exact g.elim
    | some b => simp only [e] at g; exact ord_run I R rx ry ru rz e g
  | ge =>
    unfold evCmp at g
    cases e : evOrd .ge x y with
    | none => simp only [e] at g; exact g.elim
    | some b => simp only [e] at g; exact ord_run I R rx ry ru rz e g
  | is =>
    unfold evCmp at g
    cases e : evIs x y with
    | none => simp only [e] at g; exact g.elim
    | some b => simp only [e] at g; exact (is_run I R rx ry ru rz e).1 g
  | isn =>
    unfold evCmp at g
    cases e : evIs x y with
    | none => simp only [e] at g; exact g.elim
    | some b => simp only [e] at g; exact (is_run I R rx ry ru rz e).2 g
  | in_ =>
    cases e : evIn h x y with
    | none => exact ownIn (.inl rfl) e
    | some b =>
      have g1 : Good ρ (RD ρ) W (.ok (.bl b) h) μ σ H Q := by
        unfold evCmp at g
        simp only [e] at g
        exact g
      exact (in_run c.ct I R rx ry ru rz e).1 g1
  | nin =>
    cases e : evIn h x y with
    | none => exact ownIn (.inr rfl) e
    | some b =>
      have g1 : Good ρ (RD ρ) W (.ok (.bl !b) h) μ σ H Q := by
        unfold evCmp at g
        simp only [e] at g
        exact g
      exact (in_run c.ct I R rx ry ru rz e).2 g1

section
variable {a b e : Expr} {a' b' e' : E} {pos : Pos}
theorem s_cmp (c : Cf ρ C W X k) (ow : Own ρ C W X) {o : COp} (ha : PE X a (tE ρ C W a')) (hb : PE X b (tE ρ C W b')) (hm : behindInMarks (opOf o) b = false) : PE X (.Compare a [opOf o] [b] pos) (tE ρ C W (.cmp o a' b')) := by
  refine ⟨fun pins s σ H Q I ⟨μ, l, h, hl, R, g⟩ => ?_⟩
  rw [evE] at g
  refine wpAny_Compare1 (thn (ha.run pins s σ H _ I ⟨μ, l, h, hl, R, g.bind⟩) fun v s1 ⟨x, H1, I1, r1, d, h1, μ1, er, x1, R1, rd, g1⟩ => ?_) hm
  refine thn (hb.run pins s1 σ H1 _ I1 ⟨μ1, l, h1, hl.mono (x1.stays R) x1.sub, R1, Good.bind g1⟩) fun u s2 ⟨y, H2, I2, r2, d2, h2, μ2, er2, x2, R2, rd2, g2⟩ => ?_
  exact cmp_run c ow I2 R2 (rd.mono (x2.stays R1) x2.sub) rd2 r1 r2 g2
/-- a bool's datum -/
theorem rd_of_bl {b : Bool} {d : D} (r : RD ρ μ H d (.bl b)) : d = .bl b := by
  cases d <;> rw [RD] at r <;> first
    | (injection r with r; rw [r]; done)
    | (cases r; done)
    | (obtain ⟨_, _, z, _, _⟩ := r; cases z; done)
    | (obtain ⟨_, _, _, z, _⟩ := r; cases z; done)
    | (obtain ⟨_, _, z⟩ := r; injection z)
    | (obtain ⟨z, _⟩ := r; cases z)
/-- a comparison's answer is a bool -/
theorem evCmp_bl {P : Prog} {o : COp} {x y d : D} {h h' : Hp} (e : evCmp P C o x y h = .ok d h') : ∃ b, d = .bl b := by
  unfold evCmp at e
  split at e
  · cases q : evEq P C h x y with
    | ok b h1 => rw [q] at e; cases e; exact ⟨_, rfl⟩
    | exc => rw [q] at e; cases e
    | bad => rw [q] at e; cases e
  · cases q : evEq P C h x y with
    | ok b h1 => rw [q] at e; cases e; exact ⟨_, rfl⟩
    | exc => rw [q] at e; cases e
    | bad => rw [q] at e; cases e
  · split at e
    · cases e; exact ⟨_, rfl⟩
    · cases e
  · split at e
    · cases e; exact ⟨_, rfl⟩
    · cases e
  · split at e
    · cases e; exact ⟨_, rfl⟩
    · split at e
      · split at e
        · rename_i f _
          cases q : C f [y, x] h with
          | ok r h1 =>
            rw [q] at e
            simp only [R.bind_ok] at e
            split at e
            · cases e; exact ⟨_, rfl⟩
            · cases e
          | exc => rw [q] at e; cases e
          | bad => rw [q] at e; cases e
        · cases e
      · cases e
  · split at e
    · cases e; exact ⟨_, rfl⟩
    · split at e
      · split at e
        · rename_i f _
          cases q : C f [y, x] h with
          | ok r h1 =>
            rw [q] at e
            simp only [R.bind_ok] at e
            split at e
            · cases e; exact ⟨_, rfl⟩
            · cases e
          | exc => rw [q] at e; cases e
          | bad => rw [q] at e; cases e
        · cases e
      · cases e
  · split at e
    · cases e; exact ⟨_, rfl⟩
    · cases e
/-- .. so its truth is known -/
theorem Good.tru {α β : Type} {rel : Mu → LH → α → β → Prop} {r : R D} {f : Bool → Hp → R α} {Q : β → LH → Prop} (hb : ∀ d h', r = .ok d h' → ∃ b, d = .bl b) (g : Good ρ rel W (r.bind fun x h1 => match truth h1 x with | some k => f k h1 | none => .bad) μ σ H Q) :
    Good ρ (RD ρ) W r μ σ H (fun v H1 => ∃ b h1 μ1, v = .bl b ∧ r = .ok (.bl b) h1 ∧ Ext μ H μ1 H1 ∧ HR ρ μ1 h1 H1 ∧ Good ρ rel W (f b h1) μ1 σ H1 Q) := by
  refine (Good.bind (rel1 := RD ρ) g).mono fun v H1 ⟨d, h1, μ1, er, x1, R1, rd, g1⟩ => ?_
  obtain ⟨b, rfl⟩ := hb _ _ er
  rw [RD] at rd
  exact ⟨b, h1, μ1, rd, er, x1, R1, g1⟩
theorem bAssoc {α β γ : Type} (r : Ev.R α) (f : α → Hp → Ev.R β) (g : β → Hp → Ev.R γ) : (r.bind f).bind g = r.bind fun a h => (f a h).bind g := by cases r <;> rfl
theorem t_cmp (c : Cf ρ C W X k) (ow : Own ρ C W X) {o : COp} (ha : PE X a (tE ρ C W a')) (hb : PE X b (tE ρ C W b')) (hm : behindInMarks (opOf o) b = false) : PT X (.Compare a [opOf o] [b] pos) (tB ρ C W (.cmp o a' b')) := by
  refine ⟨fun pins s σ H Q I ⟨μ, l, h, hl, R, g⟩ => ?_⟩
  unfold evB at g
  rw [evE] at g
  rw [bAssoc] at g
  refine wpAny_isTrue_Compare1 (thn (ha.run pins s σ H _ I ⟨μ, l, h, hl, R, g.bind⟩) fun v s1 ⟨x, H1, I1, r1, d, h1, μ1, er, x1, R1, rd, g1⟩ => ?_) hm
  rw [bAssoc] at g1
  refine thn (hb.run pins s1 σ H1 _ I1 ⟨μ1, l, h1, hl.mono (x1.stays R) x1.sub, R1, Good.bind g1⟩) fun u s2 ⟨y, H2, I2, r2, d2, h2, μ2, er2, x2, R2, rd2, g2⟩ => ?_
  refine thn (cmp_run c ow I2 R2 (rd.mono (x2.stays R1) x2.sub) rd2 r1 r2 (Good.tru (fun d h' => evCmp_bl) g2)) fun z s3 ⟨t, H3, I3, r3, q, h3, μ3, et, er3, x3, R3, g3⟩ => ?_
  subst et
  cases r3
  exact wpAny_truthy_bool ⟨H3, I3, g3.ok Ext.rfl R3 rfl⟩
/-- a op b op2 c -/
theorem s_cmp2 {c1 : Expr} {c1' : E} (c : Cf ρ C W X k) (ow : Own ρ C W X) {o o2 : COp} (ha : PE X a (tE ρ C W a')) (hb : PE X b (tE ρ C W b')) (hc : PE X c1 (tE ρ C W c1')) (hm : lastMarks [opOf o, opOf o2] [b, c1] = false) : PE X (.Compare a [opOf o, opOf o2] [b, c1] pos) (tE ρ C W (.cmp2 o o2 a' b' c1')) := by
  refine ⟨fun pins s σ H Q I ⟨μ, l, h, hl, R, g⟩ => ?_⟩
  rw [evE] at g
  refine Compare_chain (thn (ha.run pins s σ H _ I ⟨μ, l, h, hl, R, g.bind⟩) fun v s1 ⟨x, H1, I1, r1, d, h1, μ1, er, x1, R1, rd, g1⟩ => chain_link ?_) hm
  have hl1 := hl.mono (x1.stays R) x1.sub
  refine thn (hb.run pins s1 σ H1 _ I1 ⟨μ1, l, h1, hl1, R1, Good.bind g1⟩) fun u s2 ⟨y, H2, I2, r2, d2, h2, μ2, er2, x2, R2, rd2, g2⟩ => ?_
  refine thn (cmp_run c ow I2 R2 (rd.mono (x2.stays R1) x2.sub) rd2 r1 r2 (Good.bind g2)) fun z s3 ⟨t, H3, I3, r3, q, h3, μ3, er3, x3, R3, rd3, g3⟩ => ?_
  obtain ⟨b, rfl⟩ := evCmp_bl er3
  rw [RD] at rd3
  subst rd3
  cases r3
  refine wpAny_truthy_bool ?_
  cases b with
  | false =>
    rw [if_neg (by simp)]
    exact ⟨.bl false, H3, I3, rfl, Good.ok g3 Ext.rfl R3 (by rw [RD])⟩
  | true =>
    rw [if_pos rfl]
    have hl3 := (hl1.mono (x2.stays R1) x2.sub).mono (x3.stays R2) x3.sub
    refine chain_last (thn (hc.run pins s3 σ H3 _ I3 ⟨μ3, l, h3, hl3, R3, Good.bind g3⟩) fun u4 s4 ⟨y4, H4, I4, r4, d4, h4, μ4, er4, x4, R4, rd4, g4⟩ => ?_)
    exact cmp_run c ow I4 R4 ((rd2.mono (x3.stays R2) x3.sub).mono (x4.stays R3) x4.sub) rd4 r2 r4 g4
theorem t_cmp2 {c1 : Expr} {c1' : E} (c : Cf ρ C W X k) (ow : Own ρ C W X) {o o2 : COp} (ha : PE X a (tE ρ C W a')) (hb : PE X b (tE ρ C W b')) (hc : PE X c1 (tE ρ C W c1')) (hm : lastMarks [opOf o, opOf o2] [b, c1] = false) : PT X (.Compare a [opOf o, opOf o2] [b, c1] pos) (tB ρ C W (.cmp2 o o2 a' b' c1')) := by
  refine ⟨fun pins s σ H Q I ⟨μ, l, h, hl, R, g⟩ => ?_⟩
  unfold evB at g
  rw [evE, bAssoc] at g
  refine isTrue_chain (thn (ha.run pins s σ H _ I ⟨μ, l, h, hl, R, g.bind⟩) fun v s1 ⟨x, H1, I1, r1, d, h1, μ1, er, x1, R1, rd, g1⟩ => test_link ?_) hm
  rw [bAssoc] at g1
  have hl1 := hl.mono (x1.stays R) x1.sub
  refine thn (hb.run pins s1 σ H1 _ I1 ⟨μ1, l, h1, hl1, R1, Good.bind g1⟩) fun u s2 ⟨y, H2, I2, r2, d2, h2, μ2, er2, x2, R2, rd2, g2⟩ => ?_
  rw [bAssoc] at g2
  refine thn (cmp_run c ow I2 R2 (rd.mono (x2.stays R1) x2.sub) rd2 r1 r2 (Good.bind g2)) fun z s3 ⟨t, H3, I3, r3, q, h3, μ3, er3, x3, R3, rd3, g3⟩ => ?_
  obtain ⟨b, rfl⟩ := evCmp_bl er3
  rw [RD] at rd3
  subst rd3
  cases r3
  refine wpAny_truthy_bool ?_
  cases b with
  | false =>
    rw [if_neg (by simp)]
    exact ⟨H3, I3, Good.ok (a := false) g3 Ext.rfl R3 rfl⟩
  | true =>
    rw [if_pos rfl]
    have hl3 := (hl1.mono (x2.stays R1) x2.sub).mono (x3.stays R2) x3.sub
    simp only [bAssoc] at g3
    refine test_last (thn (hc.run pins s3 σ H3 _ I3 ⟨μ3, l, h3, hl3, R3, Good.bind g3⟩) fun u4 s4 ⟨y4, H4, I4, r4, d4, h4, μ4, er4, x4, R4, rd4, g4⟩ => ?_)
    refine thn (cmp_run c ow I4 R4 ((rd2.mono (x3.stays R2) x3.sub).mono (x4.stays R3) x4.sub) rd4 r2 r4 (Good.tru (fun d h' => evCmp_bl) g4)) fun z s5 ⟨t, H5, I5, r5, q, h5, μ5, et, er5, x5, R5, g5⟩ => ?_
    subst et
    cases r5
    exact wpAny_truthy_bool ⟨H5, I5, g5.ok Ext.rfl R5 rfl⟩
end
end Ev
end
end
section
/-! E11: operators, places, slices. -/
set_option linter.all false
set_option maxRecDepth 100000
set_option maxHeartbeats 1000000
noncomputable section
namespace Ev
open PySem PySem.Spec PyProof.Rows PySem.SeqAt
open L2 (V HO Vals VK XK WX SqL SqT Inv PE PT PW PA PS PSs PG PGs PI Cx upd upd_same upd_ne Rd Room EP TP thn OpR CallR TE TT TA)
variable {ρ : Lk} {C : Call} {W : WX} {X : Cx} {pins : List (Addr × Obj)} {s : Shared} {σ : LS} {H : LH} {μ : Mu} {h : Hp} {k : Nat}

theorem rep_zero {α : Type} (xs : List α) : rep 0 xs = [] := rfl
theorem foldl_arr (a : List Nat) : ∀ (n : Nat) (acc : Array Nat), ((List.replicate n a.toArray).foldl (· ++ ·) acc) = acc ++ ((List.replicate n a).flatten).toArray
  | 0, acc => by simp
  | n + 1, acc => by
    rw [List.replicate_succ, List.foldl_cons, foldl_arr a n, List.replicate_succ, List.flatten_cons]
    apply Array.ext'
    simp
theorem mul_rep (a : List Nat) (n : Int) (h : 0 ≤ n) : Txt.mul (asStr a) n = asStr (rep n.toNat a) := by
  unfold Txt.mul
  by_cases h1 : n < 1
  · rw [if_pos h1]
    have : n.toNat = 0 := by omega
    rw [this]; rfl
  · rw [if_neg h1]
    split
    · rename_i e
      rw [Bool.or_eq_true] at e
      rcases e with e | e
      · have : n = 1 := by simpa using e
        subst this
        show asStr a = asStr ((List.replicate 1 a).flatten)
        simp
      · rw [asStr_len] at e
        have : a = [] := by simpa using e
        subst this
        unfold rep
        simp
    · unfold asStr rep
      rw [foldl_arr]
      simp
theorem str_add (a b : List Nat) : asStr a ++ asStr b = asStr (a ++ b) := by
  show Str.append (asStr a) (asStr b) = _
  unfold Str.append asStr
  simp
theorem foldl_rep' {its : List Value} (m : Nat) : List.foldl (fun x1 x2 => x1 ++ x2) #[] (List.replicate m its.toArray) = (List.replicate m its).flatten.toArray := by
  have g : ∀ (m : Nat) (acc : List Value), List.foldl (fun x1 x2 => x1 ++ x2) acc.toArray (List.replicate m its.toArray) = (acc ++ (List.replicate m its).flatten).toArray := by
    intro m
    induction m with
    | zero => intro acc; simp
    | succ m ih =>
      intro acc
      rw [List.replicate_succ, List.foldl_cons, List.replicate_succ, List.flatten_cons]
      have := ih (acc ++ its)
      rw [List.append_assoc] at this
      rw [← this]
      congr 1
      simp
  have := g m []
  rw [List.nil_append] at this
  exact this
/-- list + list -/
theorem cat_run (I : Inv X pins σ H s) {a b : Addr} {vs ws : List V} (ta : SqX X.K H a vs) (tb : SqX X.K H b ws) (hz : vs.length + ws.length ≤ sizeLine) {Q : VK} (q : ∀ p, H p = none → Q (.ref p) (upd H p (.lst (vs ++ ws)))) :
    wpAny (model X.prog X.w) X.A (binaryOp .Add (.ref a) (.ref b)) (EP X pins σ Q) X.xe s := by
  obtain ⟨its, n, r, z, e⟩ := ta.obj I
  obtain ⟨its2, n2, r2, z2, e2⟩ := tb.obj I
  refine PySem.P.add_list e e2 ?_ (by rw [List.size_toArray, List.size_toArray, ← r.length, ← r2.length]; exact hz)
  have ea : its.toArray ++ its2.toArray = (its ++ its2).toArray := by simp
  rw [ea]
  exact ⟨.ref _, _, I.lnew (t' := s.toks) (r.append r2) (by rw [List.length_append]; omega), rfl, q _ I.fresh⟩
/-- list * int -/
theorem rep_run (I : Inv X pins σ H s) {l : Addr} {xs : List V} {k : Int} {t : Tok} (ta : SqX X.K H l xs) (h1 : -(2 ^ 63) ≤ k) (h2 : k < 2 ^ 63) (hz : xs.length * k.toNat ≤ sizeLine) {Q : VK} (q : ∀ p, H p = none → Q (.ref p) (upd H p (.lst (List.replicate k.toNat xs).flatten))) :
    wpAny (model X.prog X.w) X.A (binaryOp .Mult (.ref l) (.int k t)) (EP X pins σ Q) X.xe s := by
  obtain ⟨its, n, r, z, e⟩ := ta.obj I
  have hlen : its.toArray.size * k.toNat ≤ sizeLine := by rw [List.size_toArray, ← r.length]; exact hz
  have hcap : ¬ its.toArray.size * k.toNat > (2 ^ 63 - 1) / 8 := by
    have : (sizeLine : Nat) ≤ (2 ^ 63 - 1) / 8 := by decide
    omega
  have hfit : ¬ (!Builtin.List.listFitsIndex k) = true := by simp [Builtin.List.listFitsIndex]; omega
  have hlong : ¬ Builtin.List.listTooLong (its.toArray.size * k.toNat) = true := by simp [Builtin.List.listTooLong, sizeLine] at hlen ⊢; omega
  have hnew : List.foldl (fun x1 x2 => x1 ++ x2) #[] (List.replicate (if its.toArray.isEmpty = true then 0 else k.toNat) its.toArray) = (List.replicate k.toNat its).flatten.toArray := by
    rw [foldl_rep']
    cases its with
    | nil => simp
    | cons a r' => rw [if_neg (by simp)]
  refine wpAny_binaryOp_repeat_ref (T := "list") (U := "int") (by decide) ⟨_, e, rfl⟩ (fun s' => typeIs_int s' k t) noFill_list_mul F.fills_int_mul F.slot_int_rmul repeat_list F.slot_int_index.lookup
    (call_meets F.slot_int_rmul (typeIs_int s k t) F.entry_int_rmul (F.args_int_rmul_2 _ _) (int___rmul___int_list k t l its.toArray n)
      ⟨e, rfl, ⟨_, e, rfl⟩, call_meets F.slot_list_mul ⟨_, e, rfl⟩ F.entry_list_mul (F.args_list_mul_2 _ _) (AutoListH.list___mul___list_int_3 l its.toArray n k t hfit hcap hlong) ⟨e, ?_⟩⟩)
  rw [hnew]
  exact ⟨.ref _, _, I.lnew (t' := s.toks) (r.rep k.toNat) (by rw [PyProof.Rows.lm_len_rep_flat, Nat.mul_comm]; exact hz), rfl, q _ I.fresh⟩
theorem bin_run (c : Ct ρ X) (I : Inv X pins σ H s) (R : HR ρ μ h H) {o : BOp} {x y : D} {v w : V} {u z : Value} {Q : VK} (rx : RD ρ μ H x v) (ry : RD ρ μ H y w) (ru : L2.RelV v u) (rz : L2.RelV w z) (g : Good ρ (RD ρ) W (evBin h o x y) μ σ H Q) :
    wpAny (model X.prog X.w) X.A (binaryOp (bopOf o) u z) (EP X pins σ Q) X.xe s := by
  unfold evBin at g
  split at g
  · rw [RD] at rx; rw [RD] at ry; subst rx ry
    exact L2.op_add pins s σ H _ _ u z Q I ru rz ⟨_, _, rfl, rfl, g.ok Ext.rfl R (by rw [RD])⟩
  · rw [RD] at rx; rw [RD] at ry; subst rx ry
    exact L2.op_sub pins s σ H _ _ u z Q I ru rz ⟨_, _, rfl, rfl, g.ok Ext.rfl R (by rw [RD])⟩
  · rw [RD] at rx; rw [RD] at ry; subst rx ry
    split at g
    · rename_i i j e
      unfold okMul at e
      simp only [Bool.or_eq_true, decide_eq_true_eq] at e
      rcases e with e | e | e
      · exact L2.op_mul pins s σ H _ _ u z Q I ru rz ⟨_, _, rfl, rfl, .inl (by omega), g.ok Ext.rfl R (by rw [RD])⟩
      · exact L2.op_mul pins s σ H _ _ u z Q I ru rz ⟨_, _, rfl, rfl, .inr (by omega), g.ok Ext.rfl R (by rw [RD])⟩
      · exact L2.op_mulW pins s σ H _ _ u z Q I ru rz ⟨_, _, rfl, rfl, e, g.ok Ext.rfl R (by rw [RD])⟩
    · exact g.elim
  · rw [RD] at rx; rw [RD] at ry; subst rx ry
    split at g
    · rename_i i j e
      unfold okDiv at e
      simp only [Bool.and_eq_true, decide_eq_true_eq] at e
      exact L2.op_fdivW pins s σ H _ _ u z Q I ru rz ⟨_, _, rfl, rfl, e, g.ok Ext.rfl R (by rw [RD])⟩
    · exact g.elim
  · rw [RD] at rx; rw [RD] at ry; subst rx ry
    split at g
    · rename_i i j e
      exact L2.op_mod pins s σ H _ _ u z Q I ru rz ⟨_, _, rfl, rfl, e, g.ok Ext.rfl R (by rw [RD])⟩
    · exact g.elim
  · rw [RD] at rx; rw [RD] at ry; subst rx ry
    split at g
    · rename_i i j e
      unfold okPow at e
      simp only [Bool.and_eq_true, decide_eq_true_eq] at e
      exact L2.op_pow pins s σ H _ _ u z Q I ru rz ⟨_, _, rfl, rfl, e, g.ok Ext.rfl R (by rw [RD])⟩
    · exact g.elim
  · rw [RD] at rx; rw [RD] at ry; subst rx ry
    split at g
    · rename_i a b e
      exact L2.op_add_str pins s σ H _ _ u z Q I ru rz ⟨_, _, rfl, rfl, by rw [asStr_len, asStr_len]; exact of_decide_eq_true e, by rw [str_add]; exact g.ok Ext.rfl R (by rw [RD])⟩
    · exact g.elim
  · rw [RD] at rx; rw [RD] at ry; subst rx ry
    split at g
    · rename_i a n e
      simp only [Bool.and_eq_true, decide_eq_true_eq] at e
      obtain ⟨e1, e2, e3⟩ := e
      have e3 := of_decide_eq_true e3
      obtain ⟨t, rfl⟩ := ru
      obtain ⟨t2, rfl⟩ := rz
      have hsz : sizeLine = 2 ^ 24 := rfl
      refine SB.mul ⟨?_, fun h1 h2 => ?_, fun h1 h2 => ?_⟩ fun t' k => ⟨.str (asStr (rep n.toNat a)), H, I.tok k, ⟨t', by rw [mul_rep _ _ e1]⟩, g.ok Ext.rfl R (by rw [RD])⟩
      · have a1 : ¬ n < -(2 ^ 63 : Int) := by omega
        have a2 : ¬ n ≥ 2 ^ 63 := by omega
        rw [decide_eq_false a1, decide_eq_false a2]; rfl
      · rw [asStr_len]
        have h3 : (a.length * n.toNat : Nat) ≤ 2 ^ 24 := by rw [← hsz]; exact e3
        intro hc
        have hn : 0 < n := by omega
        have h4 : (a.length : Int) * n ≤ 2 ^ 24 := by
          have : ((a.length * n.toNat : Nat) : Int) ≤ ((2 ^ 24 : Nat) : Int) := by exact_mod_cast h3
          rw [Int.natCast_mul, Int.toNat_of_nonneg e1] at this
          exact this
        have h5 := Int.mul_ediv_self_le (x := (2 ^ 63 - 1 : Int)) (k := n) (by omega)
        have h6 : (a.length : Int) ≤ (2 ^ 63 - 1) / n := by
          refine (Int.le_ediv_iff_mul_le hn).mpr ?_
          omega
        omega
      · rw [asStr_len]
        show decide (_ > _) = false
        exact decide_eq_false (by omega)
    · exact g.elim
  · rw [RD] at rx; rw [RD] at ry
    obtain ⟨a1, vs, rfl, t1, q1⟩ := rx
    obtain ⟨a2, ws, rfl, t2, q2⟩ := ry
    split at g
    · rename_i a b e
      have e := of_decide_eq_true e
      refine L2.op_catA pins s σ H _ _ u z Q I ru rz ⟨a1, a2, vs, ws, rfl, rfl, by rw [c.K]; exact t1, by rw [c.K]; exact t2, by rw [q1.length, q2.length]; exact e, fun z => ?_, fun _ z => ?_, fun _ _ p hp => ?_⟩
      · subst z
        have : a = [] := List.eq_nil_of_length_eq_zero (by rw [← q1.length]; rfl)
        subst this
        exact g.ok Ext.rfl R (by rw [RD]; exact ⟨a2, ws, rfl, t2, q2⟩)
      · subst z
        have : b = [] := List.eq_nil_of_length_eq_zero (by rw [← q2.length]; rfl)
        subst this
        exact g.ok Ext.rfl R (by rw [RD, List.append_nil]; exact ⟨a1, vs, rfl, t1, q1⟩)
      · have xt := Ext.tup R hp (.tup (vs ++ ws))
        refine g.ok xt (R.beside hp _) ?_
        rw [RD]
        exact ⟨p, _, rfl, .inl (.inl upd_same), (q1.append q2).mono (xt.stays R) xt.sub⟩
    · exact g.elim
  · split at g
    · rename_i xs ys o1 o2
      split at g
      · rename_i e
        have e := of_decide_eq_true e
        obtain ⟨a, vs, rfl, ev, rv⟩ := lst_atX R o1 rx
        obtain ⟨b, ws, rfl, ev2, rv2⟩ := lst_atX R o2 ry
        cases ru
        cases rz
        rw [← c.K] at ev ev2
        exact cat_run I ev ev2 (by rw [rv.length, rv2.length]; exact e) fun p hp => new_val R (rv.append rv2) g hp
      · exact g.elim
    · exact g.elim
  · split at g
    · rename_i xs o1
      split at g
      · rename_i e
        simp only [Bool.and_eq_true, decide_eq_true_eq] at e
        obtain ⟨e1, e2, e3⟩ := e
        have e3 := of_decide_eq_true e3
        obtain ⟨a, vs, rfl, ev, rv⟩ := lst_atX R o1 rx
        rw [RD] at ry
        subst ry
        have hr : ∀ n : Nat, RDs ρ μ H (rep n xs) (List.replicate n vs).flatten := fun n => by
          induction n with
          | zero => show RDs ρ μ H [] []; rw [RDs]
          | succ n ih =>
            show RDs ρ μ H ((List.replicate (n + 1) xs).flatten) _
            rw [List.replicate_succ, List.flatten_cons, List.replicate_succ, List.flatten_cons]
            exact rv.append ih
        cases ru
        obtain ⟨t, rfl⟩ := rz
        rw [← c.K] at ev
        exact rep_run I ev (by omega) (by omega) (by rw [rv.length]; exact e3) fun p hp => new_val R (hr _) g hp
      · exact g.elim
    · exact g.elim
  · exact g.elim
theorem op_run (c : Ct ρ X) (ow : Own ρ C W X) (I : Inv X pins σ H s) (R : HR ρ μ h H) {o : BOp} {x y : D} {v w : V} {u z : Value} {Q : VK} (rx : RD ρ μ H x v) (ry : RD ρ μ H y w) (ru : L2.RelV v u) (rz : L2.RelV w z) (g : Good ρ (RD ρ) W (evOp ρ.P C o x y h) μ σ H Q) :
    wpAny (model X.prog X.w) X.A (binaryOp (bopOf o) u z) (EP X pins σ Q) X.xe s := by
  have g0 := g
  unfold evOp at g
  split at g
  · rename_i cc eo
    exact ow.op I R rx ry ru rz ⟨cc, eo⟩ g0
  · exact bin_run c I R rx ry ru rz g
section
variable {a b e : Expr} {a' b' e' : E} {pos : Pos}
theorem s_bin (c : Ct ρ X) (ow : Own ρ C W X) {o : BOp} (ha : PE X a (tE ρ C W a')) (hb : PE X b (tE ρ C W b')) : PE X (.BinOp a (bopOf o) b pos) (tE ρ C W (.bin o a' b')) := by
  refine ⟨fun pins s σ H Q I ⟨μ, l, h, hl, R, g⟩ => ?_⟩
  rw [evE] at g
  refine wpAny_BinOp (thn (ha.run pins s σ H _ I ⟨μ, l, h, hl, R, g.bind⟩) fun v s1 ⟨x, H1, I1, r1, d, h1, μ1, er, x1, R1, rd, g1⟩ => ?_)
  refine thn (hb.run pins s1 σ H1 _ I1 ⟨μ1, l, h1, hl.mono (x1.stays R) x1.sub, R1, Good.bind g1⟩) fun u s2 ⟨y, H2, I2, r2, d2, h2, μ2, er2, x2, R2, rd2, g2⟩ => ?_
  exact op_run c ow I2 R2 (rd.mono (x2.stays R1) x2.sub) rd2 r1 r2 g2
/-! ### places -/
theorem idxN_ix (n : Nat) (i : Int) : idxN n i = L2.ixN n i := rfl
theorem RDs.atI {ds : List D} {vs : List V} {i : Int} {d : D} (r : RDs ρ μ H ds vs) (e : Ev.atI ds i = some d) : ∃ v, L2.atI vs i = some v ∧ RD ρ μ H d v := by
  unfold Ev.atI at e
  unfold L2.atI
  rw [idxN_ix] at e
  rw [r.length]
  cases q : L2.ixN ds.length i with
  | none => rw [q] at e; cases e
  | some j =>
    rw [q] at e
    exact r.get e
theorem ix_run (c : Ct ρ X) (value slice : Expr) (I : Inv X pins σ H s) (R : HR ρ μ h H) {x y : D} {v w : V} {u z : Value} {Q : VK} (rx : RD ρ μ H x v) (ry : RD ρ μ H y w) (ru : L2.RelV v u) (rz : L2.RelV w z) (g : Good ρ (RD ρ) W (evIdx h x y) μ σ H Q)
    (hs : subscripted slice false u z = operate [u, z] (getItem u z)) : wpAny (model X.prog X.w) X.A (subscriptTail value slice u z) (EP X pins σ Q) X.xe s := by
  unfold evIdx at g
  split at g
  · rw [RD] at rx; rw [RD] at ry; subst rx ry
    rename_i s2 i
    split at g
    · rename_i e
      split at g
      · rename_i cc ec
        refine L2.ix_str value slice pins s σ H _ _ u z Q I ru rz ⟨_, _, cc, rfl, rfl, by rw [asStr_len]; exact of_decide_eq_true e, ?_, g.ok Ext.rfl R (by rw [RD]; rfl)⟩ hs
        show L2.atI (asStr s2).cps.toList i = some cc
        rw [show (asStr s2).cps.toList = s2 by simp [asStr]]
        exact ec
      · exact g.elim
    · exact g.elim
  · rw [RD] at ry; subst ry
    split at g
    · rename_i e
      rw [RD] at rx
      obtain ⟨a, vs, rfl, t, q⟩ := rx
      obtain ⟨v2, e2, r2⟩ := q.atI e
      exact L2.ix_tup value slice pins s σ H _ _ u z Q I ru rz ⟨a, vs, _, v2, rfl, rfl, by rw [c.K]; exact t, e2, g.ok Ext.rfl R r2⟩ hs
    · exact g.elim
  · rw [RD] at ry; subst ry
    rename_i xs i
    split at g
    · rename_i e
      obtain ⟨a, vs, rfl, ev, rv⟩ := lst_at (xs := xs) R rfl rx
      obtain ⟨v2, e4, r2⟩ := rv.atI e
      exact L2.ix_list value slice pins s σ H _ _ u z Q I ru rz ⟨_, _, _, v2, rfl, rfl, by rw [c.K]; exact ev, e4, g.ok Ext.rfl R r2⟩ hs
    · exact g.elim
  · split at g
    · rename_i xs lk o1
      split at g
      · rw [RD] at ry; subst ry
        obtain ⟨a, vs, rfl, ea, ev, rv, rfl⟩ := R.lst o1 rx
        split at g
        · rename_i e
          obtain ⟨v2, e4, r2⟩ := rv.atI e
          exact L2.ix_list value slice pins s σ H _ _ u z Q I ru rz ⟨_, _, _, v2, rfl, rfl, .inl (.inl ev), e4, g.ok Ext.rfl R r2⟩ hs
        · exact g.elim
      · exact g.elim
    · exact g.elim
    · exact g.elim
  · exact g.elim
end
end Ev
end
end
section
/-! E12: x[i], slices, repr, built-in functions. -/
set_option linter.all false
set_option maxRecDepth 100000
set_option maxHeartbeats 1000000
noncomputable section
namespace Ev
open PySem PySem.Spec PyProof.Rows PySem.SeqAt
open L2 (V HO Vals VK XK WX SqL SqT Inv PE PT PW PA PS PSs PG PGs PI Cx upd upd_same upd_ne Rd Room EP TP thn OpR CallR TE TT TA)
variable {ρ : Lk} {C : Call} {W : WX} {X : Cx} {pins : List (Addr × Obj)} {s : Shared} {σ : LS} {H : LH} {μ : Mu} {h : Hp} {k : Nat}

theorem evGet_cases (P : Prog) (C : Call) (x y : D) (h : Hp) : isIn h x ∨ evGet P C x y h = evIdx h x y := by
  unfold evGet
  split
  · rename_i c eo
    exact .inl ⟨c, eo⟩
  · exact .inr rfl
theorem mapO_map {α β γ : Type} (T : β → Option γ) (f : α → β) : ∀ xs : List α, mapO T (xs.map f) = mapO (fun p => T (f p)) xs
  | [] => rfl
  | a :: r => by simp only [List.map_cons, mapO, mapO_map T f r]
section
variable {a b e : Expr} {a' b' e' : E} {pos : Pos}
theorem s_idx (c : Ct ρ X) (ow : Own ρ C W X) (ha : PE X a (tE ρ C W a')) (hb : PE X b (tE ρ C W b')) (hs : L2.PlainIx b) : PE X (.Subscript a b pos) (tE ρ C W (.idx a' b')) := by
  refine ⟨fun pins s σ H Q I ⟨μ, l, h, hl, R, g⟩ => ?_⟩
  rw [evE] at g
  refine Subscript_ (thn (ha.run pins s σ H _ I ⟨μ, l, h, hl, R, g.bind⟩) fun v s1 ⟨x, H1, I1, r1, d, h1, μ1, er, x1, R1, rd, g1⟩ => ?_)
  refine thn (hb.run pins s1 σ H1 _ I1 ⟨μ1, l, h1, hl.mono (x1.stays R) x1.sub, R1, Good.bind g1⟩) fun u s2 ⟨y, H2, I2, r2, d2, h2, μ2, er2, x2, R2, rd2, g2⟩ => ?_
  have rd' := rd.mono (x2.stays R1) x2.sub
  rcases evGet_cases ρ.P C d d2 h2 with z | z
  · exact ow.get I2 R2 rd' rd2 r1 r2 z g2 (hs _ _)
  · rw [z] at g2
    exact ix_run c a b I2 R2 rd' rd2 r1 r2 g2 (hs _ _)
/-! ### slices -/
def relO : Mu → LH → Option Int → Option Int → Prop := fun _ _ a b => a = b
def tO (ρ : Lk) (C : Call) (W : WX) (o : OE) : L2.TO := fun σ H Q => ∃ μ l h, LR ρ μ H l σ ∧ HR ρ μ h H ∧ Good ρ relO W (evO ρ.P C o l h) μ σ H Q
theorem s_no : L2.PO X none (tO ρ C W .no) := ⟨fun pins s σ H Q I ⟨μ, l, h, hl, R, g⟩ => by
  rw [evO] at g
  exact L2.po_none.run pins s σ H Q I (g.ok Ext.rfl R rfl)⟩
theorem s_yes (ha : PE X a (tE ρ C W a')) : L2.PO X (some a) (tO ρ C W (.yes a')) := ⟨fun pins s σ H Q I ⟨μ, l, h, hl, R, g⟩ => by
  rw [evO] at g
  refine (L2.po_some ha).run pins s σ H Q I ⟨μ, l, h, hl, R, g.bind.mono fun v H1 ⟨d, h1, μ1, er, x1, R1, rd, g1⟩ => ?_⟩
  cases d with
  | int i =>
    rw [RD] at rd
    exact ⟨i, rd, Good.ok g1 Ext.rfl R1 rfl⟩
  | _ => exact g1.elim⟩
def rSli (ρ : Lk) : V → Option Int → Option Int → LH → VK → Prop := fun x lo hi H Q => ∃ (W : WX) (μ : Mu) (σ : LS) (h : Hp) (d : D), HR ρ μ h H ∧ RD ρ μ H d x ∧ Good ρ (RD ρ) W (evSli h d lo hi) μ σ H Q
theorem RDs.cut {ds : List D} {vs : List V} (r : RDs ρ μ H ds vs) (lo hi : Option Int) : RDs ρ μ H (Ev.cut ds lo hi) (L2.cutV vs lo hi) := by
  unfold Ev.cut L2.cutV
  have e : ∀ n d o, cutIx n d o = HT.sIx n d o := fun n d o => by cases o <;> rfl
  rw [e, e, r.length]
  exact (r.drop _).take _
theorem sli_run (c : Ct ρ X) : L2.SlR X (rSli ρ) := by
  intro pins s σ H x v vl vu lo hi sl Q I rx hs pl pu ⟨W, μ, σ', h, d, R, rd, g⟩
  unfold evSli at g
  split at g
  · rename_i s2
    rw [RD] at rd
    subst rd
    split at g
    · rename_i e
      refine L2.sl_str pins s σ H _ v vl vu lo hi sl Q I rx hs pl pu ⟨_, rfl, by rw [asStr_len]; exact of_decide_eq_true e, ?_⟩
      refine g.ok Ext.rfl R ?_
      rw [RD]
      have hz : (asStr s2).cps.toList = s2 := by simp [asStr]
      have e2 : ∀ n d o, cutIx n d o = HT.sIx n d o := fun n d o => by cases o <;> rfl
      unfold L2.cutS Ev.cut
      rw [hz, asStr_len, e2, e2]
      rfl
    · exact g.elim
  · rw [RD] at rd
    obtain ⟨a, vs, rfl, t, q⟩ := rd
    refine L2.sl_tupA pins s σ H _ v vl vu lo hi sl Q I rx hs pl pu ⟨a, vs, rfl, by rw [c.K]; exact t, fun hw => ?_, fun hw p hp => ?_⟩
    · refine g.ok Ext.rfl R ?_
      rw [RD]
      refine ⟨a, vs, rfl, t, ?_⟩
      have := q.cut lo hi
      have e3 : L2.cutV vs lo hi = vs := by
        unfold L2.cutV
        rw [hw.1, hw.2]
        simp
      rw [e3] at this
      exact this
    · have xt := Ext.tup R hp (.tup (L2.cutV vs lo hi))
      refine g.ok xt (R.beside hp _) ?_
      rw [RD]
      exact ⟨p, _, rfl, .inl (.inl upd_same), (q.cut lo hi).mono (xt.stays R) xt.sub⟩
  · split at g
    · rename_i xs o1
      obtain ⟨a, vs, rfl, ev, rv⟩ := lst_at R o1 rd
      exact L2.sl_list pins s σ H _ v vl vu lo hi sl Q I rx hs pl pu ⟨a, vs, rfl, by rw [c.K]; exact ev, fun p hp => new_val R (rv.cut lo hi) g hp⟩
    · exact g.elim
theorem s_sli (c : Ct ρ X) {lo hi : Option Expr} {lo' hi' : OE} {p2 : Pos} (ha : PE X a (tE ρ C W a')) (hl : L2.PO X lo (tO ρ C W lo')) (hh : L2.PO X hi (tO ρ C W hi')) : PE X (.Subscript a (.Slice lo hi none p2) pos) (tE ρ C W (.sli a' lo' hi')) := by
  refine PE.weak (L2.pe_slice (sli_run c) ha hl hh) fun σ H Q ⟨μ, l, h, hl, R, g⟩ => ?_
  rw [evE] at g
  refine ⟨μ, l, h, hl, R, g.bind.mono fun v H1 ⟨d, h1, μ1, er, x1, R1, rd, g1⟩ => ?_⟩
  have hl1 := hl.mono (x1.stays R) x1.sub
  refine ⟨μ1, l, h1, hl1, R1, (Good.bind g1).mono fun o1 H2 ⟨o1', h2, μ2, er2, x2, R2, e2, g2⟩ => ?_⟩
  obtain rfl : o1' = o1 := e2
  refine ⟨μ2, l, h2, hl1.mono (x2.stays R1) x2.sub, R2, (Good.bind g2).mono fun o2 H3 ⟨o2', h3, μ3, er3, x3, R3, e3, g3⟩ => ?_⟩
  obtain rfl : o2' = o2 := e3
  exact ⟨W, μ3, σ, h3, d, R3, (rd.mono (x2.stays R1) x2.sub).mono (x3.stays R2) x3.sub, g3⟩
end

/-! ### repr -/
theorem depthAll_le {n : Nat} : ∀ {ps : List PyData}, (∀ p ∈ ps, p.depth ≤ n) → PyData.depthAll ps ≤ n
  | [], _ => Nat.zero_le _
  | p :: r, h => by
    rw [PyData.depthAll]
    exact Nat.max_le.mpr ⟨h p List.mem_cons_self, depthAll_le fun q hq => h q (List.mem_cons_of_mem _ hq)⟩
def OnlyNum (as : List Addr) : Prop := ∀ b ∈ as, b ≠ sysModules
theorem readsList {T : D → Option PyData} {n : Nat} (one : ∀ (d : D) (v : V) (u : Value) (p : PyData), T d = some p → RD ρ μ H d v → L2.RelV v u → (∃ as, Reads s.heap u p as ∧ OnlyNum as) ∧ p.depth ≤ n) :
    ∀ (ds : List D) (vs : List V) (us : List Value) (ps : List PyData), mapO T ds = some ps → RDs ρ μ H ds vs → Vals vs us → (∃ as, ReadsAll s.heap us ps as ∧ OnlyNum as) ∧ ∀ p ∈ ps, p.depth ≤ n
  | [], vs, us, ps, e, r, v => by
    rw [RDs] at r
    subst r
    cases v
    rw [mapO, Option.some.injEq] at e
    subst e
    exact ⟨⟨[], .nil, fun b hb => by simp at hb⟩, fun p hp => by simp at hp⟩
  | d :: ds, vs, us, ps, e, r, v => by
    rw [RDs] at r
    obtain ⟨x, q, rfl, a, b⟩ := r
    cases v with
    | cons r1 r2 =>
      rw [mapO] at e
      split at e
      · cases e
      · rename_i p ep
        cases em : mapO T ds with
        | none => rw [em] at e; cases e
        | some ps' =>
          rw [em] at e
          simp only [Option.map_some, Option.some.injEq] at e
          subst e
          obtain ⟨⟨as, h1, h2⟩, h3⟩ := one d x _ p ep a r1
          obtain ⟨⟨bs, h4, h5⟩, h6⟩ := readsList one ds q _ ps' em b r2
          refine ⟨⟨_, .cons h1 h4, fun c hc => ?_⟩, fun c hc => ?_⟩
          · rcases List.mem_append.mp hc with z | z
            · exact h2 c z
            · exact h5 c z
          · rcases List.mem_cons.mp hc with z | z
            · subst z; exact h3
            · exact h6 c z
theorem zip_fst {α β : Type} : ∀ {a : List α} {b : List β}, a.length = b.length → (a.zip b).map (·.1) = a
  | [], [], _ => rfl
  | x :: a, y :: b, h => by simp at h; simp [zip_fst h]
theorem zip_snd {α β : Type} : ∀ {a : List α} {b : List β}, a.length = b.length → (a.zip b).map (·.2) = b
  | [], [], _ => rfl
  | x :: a, y :: b, h => by simp at h; simp [zip_snd h]
theorem depthKv_le {n : Nat} : ∀ {kvs : List (PyData × PyData)}, (∀ p ∈ kvs, p.1.depth ≤ n ∧ p.2.depth ≤ n) → PyData.depthKv kvs ≤ n
  | [], _ => Nat.zero_le _
  | (a, b) :: r, h => by
    rw [PyData.depthKv]
    have z := h (a, b) List.mem_cons_self
    exact Nat.max_le.mpr ⟨Nat.max_le.mpr z, depthKv_le fun q hq => h q (List.mem_cons_of_mem _ hq)⟩
theorem no_sys (I : Inv X pins σ H s) (c : Ct ρ X) {a : Addr} {o : HO} (e : H a = some o) : a ≠ sysModules := fun z => by
  obtain ⟨b, eb, _⟩ := c.sm
  have := (I.bs _ b eb).2
  rw [← z, e] at this
  cases this
theorem no_sysL (I : Inv X pins σ H s) (c : Ct ρ X) {a : Addr} {vs : List V} (t : SqX X.K H a vs) : a ≠ sysModules := by
  rcases t with e | ⟨o, e⟩ | ⟨its, n, e, _⟩
  · exact no_sys I c e
  · exact no_sys I c e
  · intro z
    obtain ⟨b, eb, nb⟩ := c.sm
    have q := I.kIn a _ e
    rw [z, (I.bs _ b eb).1] at q
    cases q
    exact nb rfl
/-- a dict's keys and values -/
theorem kk_lists : ∀ {ks : List D} {vs : List V} {vv : List (L2.Key × Value)} {es : List DictEntry}, ks.all isKey = true → vs.length = ks.length → L2.KV ((ks.map keyK).zip vs) vv → Pairs (L2.mixKind X.prog X.w) es vv →
    RDs ρ μ H ks (ks.map fun d => L2.kV (keyK d)) ∧ Vals (ks.map fun d => L2.kV (keyK d)) (es.map (·.key)) ∧ Vals vs (es.map (·.val))
  | [], vs, _, _, _, hl, kv, pr => by
    have : vs = [] := List.eq_nil_of_length_eq_zero hl
    subst this
    cases kv
    cases pr
    exact ⟨by rw [List.map_nil, RDs], .nil, .nil⟩
  | k :: ks, vs, _, _, hk, hl, kv, pr => by
    rw [List.all_cons, Bool.and_eq_true] at hk
    cases vs with
    | nil => simp at hl
    | cons v vs =>
      cases kv with
      | cons e1 kv' =>
        cases pr with
        | cons i1 i2 pr' =>
          obtain ⟨h1, h2, h3⟩ := kk_lists hk.2 (by simpa using hl) kv' pr'
          obtain ⟨ee, er⟩ := e1
          simp only [] at ee er
          refine ⟨?_, .cons ?_ h2, .cons (by have z := er; rw [← i2] at z; exact z) h3⟩
          · rw [List.map_cons, RDs]
            refine ⟨_, _, rfl, ?_, h1⟩
            cases k <;> simp [isKey] at hk <;> (rw [RD]; rfl)
          · rw [L2.mixKind_is, ← ee] at i1
            rcases L2.keyIs_shape i1 with ⟨i, t, e1, e2⟩ | ⟨x, t, e1, e2⟩
            · show L2.RelV (L2.kV (keyK k)) _; rw [e1]; exact ⟨t, e2⟩
            · show L2.RelV (L2.kV (keyK k)) _; rw [e1]; exact ⟨t, e2⟩
theorem readsD (I : Inv X pins σ H s) (c : Ct ρ X) (R : HR ρ μ h H) : ∀ (n : Nat) (d : D) (v : V) (u : Value) (p : PyData), toPyR h n d = some p → RD ρ μ H d v → L2.RelV v u → (∃ as, Reads s.heap u p as ∧ OnlyNum as) ∧ p.depth ≤ n := by
  intro n
  induction n with
  | zero =>
    intro d v u p e r ru
    have nil : OnlyNum [] := fun b hb => by simp at hb
    cases d <;> simp [toPyR] at e <;> rw [RD] at r <;> subst r <;> subst e <;> simp only [L2.RelV] at ru
    · subst ru; exact ⟨⟨_, .none, nil⟩, by simp [PyData.depth]⟩
    · subst ru; exact ⟨⟨_, .bool _, nil⟩, by simp [PyData.depth]⟩
    · obtain ⟨t, rfl⟩ := ru; exact ⟨⟨_, .int _ _, nil⟩, by simp [PyData.depth]⟩
    · obtain ⟨t, rfl⟩ := ru; exact ⟨⟨_, .str _ _, nil⟩, by simp [PyData.depth]⟩
  | succ n ih =>
    intro d v u p e r ru
    have nil : OnlyNum [] := fun b hb => by simp at hb
    have lst : ∀ (xs : List D), (mapO (toPyR h n) xs).map PyData.list = some p → lstOf h d = some xs → (∃ as, Reads s.heap u p as ∧ OnlyNum as) ∧ p.depth ≤ n + 1 := by
      intro xs e el
      cases em : mapO (toPyR h n) xs with
      | none => rw [em] at e; cases e
      | some ps =>
        rw [em] at e
        simp only [Option.map_some, Option.some.injEq] at e
        subst e
        obtain ⟨a, vs, rfl, ev, rv⟩ := lst_atX R el r
        rw [← c.K] at ev
        obtain ⟨its, v1, ⟨o, nn, h1, h2, _, h3⟩, _⟩ := I.list ev.sq
        cases ru
        obtain ⟨⟨as, g1, g2⟩, g3⟩ := readsList ih xs vs its ps em rv v1
        refine ⟨⟨a :: as, .list h1 h2 h3 (by simpa using g1), fun b hb => ?_⟩, by rw [PyData.depth]; have := depthAll_le g3; omega⟩
        rcases List.mem_cons.mp hb with z | z
        · subst z; exact no_sysL I c ev
        · exact g2 b z
    cases d with
    | non => simp [toPyR] at e; rw [RD] at r; subst r e; cases ru; exact ⟨⟨_, .none, nil⟩, by simp [PyData.depth]⟩
    | bl b => simp [toPyR] at e; rw [RD] at r; subst r e; cases ru; exact ⟨⟨_, .bool _, nil⟩, by simp [PyData.depth]⟩
    | int i => simp [toPyR] at e; rw [RD] at r; subst r e; obtain ⟨t, rfl⟩ := ru; exact ⟨⟨_, .int _ _, nil⟩, by simp [PyData.depth]⟩
    | str z => simp [toPyR] at e; rw [RD] at r; subst r e; obtain ⟨t, rfl⟩ := ru; exact ⟨⟨_, .str _ _, nil⟩, by simp [PyData.depth]⟩
    | tup xs =>
      rw [toPyR] at e
      cases em : mapO (toPyR h n) xs with
      | none => rw [em] at e; cases e
      | some ps =>
        rw [em] at e
        simp only [Option.map_some, Option.some.injEq] at e
        subst e
        rw [RD] at r
        obtain ⟨a, vs, rfl, t, q⟩ := r
        rw [← c.K] at t
        obtain ⟨its, v1, ⟨o, h1, h2, nn, h3⟩, _⟩ := I.tuple t
        cases ru
        obtain ⟨⟨as, g1, g2⟩, g3⟩ := readsList ih xs vs its ps em q v1
        exact ⟨⟨as, .tuple h1 h2 h3 (by simpa using g1), g2⟩, by rw [PyData.depth]; have := depthAll_le g3; omega⟩
    | vl xs =>
      rw [toPyR] at e
      exact lst xs (e) rfl
    | vd ks ws =>
      rw [toPyR] at e
      split at e
      · rename_i hk
        split at e
        · rename_i ks' vs' ek ev'
          rw [Option.some.injEq] at e
          subst e
          rw [RD] at r
          obtain ⟨a, vs, rfl, _, ⟨hl, hd⟩, rvs⟩ := r
          cases ru
          have dK : ∃ o, H a = some o ∧ L2.ObjOk X.prog X.w H s.heap a (.dK ((ks.map keyK).zip vs)) := by
            rcases hd with ⟨_, hd | ⟨o, hd⟩⟩ | ⟨ht, hd⟩
            · exact ⟨_, hd, I.hok _ _ hd⟩
            · exact ⟨_, hd, (show L2.ObjOk X.prog X.w H s.heap a (.frz o (.dK ((ks.map keyK).zip vs))) from I.hok _ _ hd).2⟩
            · have kn : ks = [] := by
                cases ks with
                | nil => rfl
                | cons k r =>
                  rw [List.all_cons, Bool.and_eq_true] at ht hk
                  cases k <;> simp [isKey, isKeyT] at hk ht
              subst kn
              have vn : vs = [] := List.eq_nil_of_length_eq_zero hl
              subst vn
              have em : ∀ {h : Heap}, L2.ObjOk X.prog X.w H h a (.dT []) → L2.ObjOk X.prog X.w H h a (.dK []) := by
                rintro h ⟨l, sy, xs, px, o, es, ep, h1, h2, h3, h4, h5⟩
                cases px
                refine ⟨l, sy, [], .nil, o, es, ep, h1, h2, h3, ?_⟩
                have : es = #[] := by
                  cases es
                  simpa using h4
                subst this
                exact ⟨fun q hq => by simp at hq, .nil, .nil⟩
              rcases hd with hd | ⟨o, hd⟩
              · exact ⟨_, hd, em (I.hok _ _ hd)⟩
              · exact ⟨_, hd, em (show L2.ObjOk X.prog X.w H s.heap a (.frz o (.dT [])) from I.hok _ _ hd).2⟩
          obtain ⟨ho, eh, _, low, vv, kv, o, es, ep, h1, h2, h3, h4, h5, _⟩ := dK
          obtain ⟨q1, q2, q4⟩ := kk_lists (ρ := ρ) (X := X) (μ := μ) (H := H) hk hl kv h5
          obtain ⟨⟨as, g1, g2⟩, g3⟩ := readsList ih _ _ _ _ ek q1 q2
          obtain ⟨⟨bs, g4, g5⟩, g6⟩ := readsList ih _ _ _ _ ev' rvs q4
          have hl : ks'.length = vs'.length := by
            have z1 := (mapO_get ek).1
            have z2 := (mapO_get ev').1
            have z3 := rvs.length
            omega
          refine ⟨⟨a :: as ++ bs, .dict h1 h2.1 h3 (by rw [zip_fst hl]; exact g1) (by rw [zip_snd hl]; exact g4), fun b hb => ?_⟩, ?_⟩
          · rcases List.mem_append.mp hb with z | z
            · rcases List.mem_cons.mp z with z | z
              · subst z; exact no_sys I c eh
              · exact g2 b z
            · exact g5 b z
          · rw [PyData.depth]
            have := depthKv_le (n := n) (kvs := ks'.zip vs') fun p hp => ⟨g3 _ (List.of_mem_zip hp).1, g6 _ (List.of_mem_zip hp).2⟩
            omega
        · cases e
      · cases e
    | ref i =>
      rw [toPyR] at e
      split at e
      · rename_i xs lk eo
        exact lst xs e (by show (match h[i]? with | some ⟨.lst xs, _⟩ => some xs | _ => none) = _; rw [eo])
      · cases e
    | _ => simp [toPyR] at e
theorem ofStr_asStr (x : Str) : asStr (ofStr x) = x := by
  obtain ⟨a⟩ := x
  simp [asStr, ofStr]
theorem repr_run (I : Inv X pins σ H s) (c : Ct ρ X) (R : HR ρ μ h H) {d : D} {v : V} {u : Value} {z : List Nat} {Q : VK} (r : RD ρ μ H d v) (ru : L2.RelV v u) (e : reprD h d = some z) (q : Q (.str (asStr z)) H) :
    wpAny (model X.prog X.w) X.A (call (.builtin "repr") [u]) (EP X pins σ Q) X.xe s := by
  unfold reprD at e
  split at e
  · rename_i p ep
    split at e
    · rename_i hz
      rw [Option.some.injEq] at e
      subst e
      rw [ofStr_asStr] at q
      rw [Bool.and_eq_true] at hz
      have hsz : p.shown.length ≤ sizeLine := of_decide_eq_true hz.2
      have hsh := hz.1
      obtain ⟨⟨as, rd, on⟩, dp⟩ := readsD I c R dq d v u p ep r ru
      have hu := c.hu
      have dq40 : dq = 40 := rfl
      have deep : ∀ (a : Addr) (as : List Addr), u = .ref a → Reads s.heap (.ref a) p as → OnlyNum as → wpAny (model X.prog X.w) X.A (call (.builtin "repr") [.ref a]) (EP X pins σ Q) X.xe s := fun a as _ rd on => by
        exact repr_of_reads' rd hsh (fun _ hm => on _ hm rfl) c.gd (by omega) (fun b o e => e) (fun h' u tk hk => ⟨.str _, H, I.kept hk, ⟨u, rfl⟩, q⟩) hsz
      cases rd with
      | none => rw [PyData.shown] at q; exact PySem.P.repr_of_none ⟨.str _, H, I.tok _, ⟨_, rfl⟩, q⟩
      | bool b => rw [PyData.shown] at q; exact PySem.P.repr_of_bool ⟨.str _, H, I.tok _, ⟨_, rfl⟩, q⟩
      | int i t =>
        rw [PyData.shown] at q
        rw [PyData.showable] at hsh
        exact PySem.P.repr_of_int (of_decide_eq_true hsh) ⟨.str _, H, I.tok _, ⟨_, rfl⟩, q⟩
      | str x t =>
        rw [PyData.shown] at q hsz
        exact PySem.P.repr_of_str ⟨.str _, H, I.tok _, ⟨_, rfl⟩, q⟩ hsz
      | @list a o vs n xs as h1 h2 h3 h4 => exact deep a _ rfl (.list h1 h2 h3 h4) on
      | @tuple a o vs n xs as h1 h2 h3 h4 => exact deep a _ rfl (.tuple h1 h2 h3 h4) on
      | @dict a o es n kvs as bs h1 h2 h3 h4 h5 => exact deep a _ rfl (.dict h1 h2 h3 h4 h5) on
    · cases e
  · cases e
end Ev
end
end
section
/-! E13: built-in functions. -/
set_option linter.all false
set_option maxRecDepth 100000
set_option maxHeartbeats 1000000
noncomputable section
namespace Ev
open PySem PySem.Spec PyProof.Rows PySem.SeqAt
open L2 (V HO Vals VK XK WX SqL SqT Inv PE PT PW PA PS PSs PG PGs PI Cx upd upd_same upd_ne Rd Room EP TP thn OpR CallR TE TT TA)
variable {ρ : Lk} {C : Call} {W : WX} {X : Cx} {pins : List (Addr × Obj)} {s : Shared} {σ : LS} {H : LH} {μ : Mu} {h : Hp} {k : Nat}

def bfId : BF → String
  | .len => "len"
  | .all => "all"
  | .any => "any"
  | .abs => "abs"
  | .min => "min"
  | .max => "max"
  | .repr => "repr"
  | .sorted => "sorted"
  | .sum => "sum"
  | .ord => "ord"
  | .isi => "isinstance"
theorem RDs.two_inv {x y : D} {vs : List V} (r : RDs ρ μ H [x, y] vs) : ∃ v w, vs = [v, w] ∧ RD ρ μ H x v ∧ RD ρ μ H y w := by
  rw [RDs] at r
  obtain ⟨v, q, rfl, a, b⟩ := r
  rw [RDs] at b
  obtain ⟨w, q, rfl, b, c⟩ := b
  rw [RDs] at c
  subst c
  exact ⟨v, w, rfl, a, b⟩
theorem RDs.one_inv {x : D} {vs : List V} (r : RDs ρ μ H [x] vs) : ∃ v, vs = [v] ∧ RD ρ μ H x v := by
  rw [RDs] at r
  obtain ⟨v, q, rfl, a, b⟩ := r
  rw [RDs] at b
  subst b
  exact ⟨v, rfl, a⟩
theorem allB_bl {b k : Bool} : ∀ {xs : List D} {vs : List V}, RDs ρ μ H xs vs → allB b xs = some k → ∃ bs : List Bool, vs = bs.map V.bl ∧ k = (if b then bs.all id else bs.any id) := by
  intro xs
  induction xs generalizing k with
  | nil =>
    intro vs r e
    rw [RDs] at r
    subst r
    rw [allB, Option.some.injEq] at e
    subst e
    exact ⟨[], rfl, by cases b <;> rfl⟩
  | cons x xs ih =>
    intro vs r e
    rw [RDs] at r
    obtain ⟨v, q, rfl, a, c⟩ := r
    cases x <;> simp only [allB] at e <;> try (cases e; done)
    rename_i z
    cases er : allB b xs with
    | none => rw [er] at e; cases e
    | some y =>
      rw [er] at e
      simp only [Option.some.injEq] at e
      subst e
      obtain ⟨bs, rfl, e2⟩ := ih c er
      rw [RD] at a
      subst a
      refine ⟨z :: bs, rfl, ?_⟩
      rw [e2]
      cases b <;> simp
/-- a list that is read -/
theorem lstOf_sq (R : HR ρ μ h H) {d : D} {v : V} {xs : List D} (rd : RD ρ μ H d v) (e : lstOf h d = some xs) : ∃ a vs, v = .ref a ∧ SqL ρ.K H a vs ∧ RDs ρ μ H xs vs := lst_at R e rd
/-! ### isinstance -/
theorem kit_all (a : String) (f : Nat → Bool) (h0 : L2.kitB a "int" = some (f 0)) (h1 : L2.kitB a "bool" = some (f 1)) (h2 : L2.kitB a "str" = some (f 2)) (h3 : L2.kitB a "list" = some (f 3)) (h4 : L2.kitB a "tuple" = some (f 4)) (h5 : L2.kitB a "dict" = some (f 5)) (h6 : L2.kitB a "set" = some (f 6)) {K : PySem.W.Frag} : ∀ t, t ≤ 6 → PySem.W.kitOne K (.type a) (.type (tyName t)) = some (f t)
  | 0, _ => L2.kit_ty h0
  | 1, _ => L2.kit_ty h1
  | 2, _ => L2.kit_ty h2
  | 3, _ => L2.kit_ty h3
  | 4, _ => L2.kit_ty h4
  | 5, _ => L2.kit_ty h5
  | 6, _ => L2.kit_ty h6
  | n + 7, h => by omega
theorem kit_non {K : PySem.W.Frag} : ∀ t, t ≤ 6 → PySem.W.kitOne K (.type "NoneType") (.type (tyName t)) = some false := kit_all _ (fun _ => false) (by decide +kernel) (by decide +kernel) (by decide +kernel) (by decide +kernel) (by decide +kernel) (by decide +kernel) (by decide +kernel)
theorem kit_bool {K : PySem.W.Frag} : ∀ t, t ≤ 6 → PySem.W.kitOne K (.type "bool") (.type (tyName t)) = some (t == tBool || t == tInt) := kit_all _ (fun t => t == tBool || t == tInt) (by decide +kernel) (by decide +kernel) (by decide +kernel) (by decide +kernel) (by decide +kernel) (by decide +kernel) (by decide +kernel)
theorem kit_int {K : PySem.W.Frag} : ∀ t, t ≤ 6 → PySem.W.kitOne K (.type "int") (.type (tyName t)) = some (t == tInt) := kit_all _ (fun t => t == tInt) (by decide +kernel) (by decide +kernel) (by decide +kernel) (by decide +kernel) (by decide +kernel) (by decide +kernel) (by decide +kernel)
theorem kit_str {K : PySem.W.Frag} : ∀ t, t ≤ 6 → PySem.W.kitOne K (.type "str") (.type (tyName t)) = some (t == tStr) := kit_all _ (fun t => t == tStr) (by decide +kernel) (by decide +kernel) (by decide +kernel) (by decide +kernel) (by decide +kernel) (by decide +kernel) (by decide +kernel)
theorem kit_list {K : PySem.W.Frag} : ∀ t, t ≤ 6 → PySem.W.kitOne K (.type "list") (.type (tyName t)) = some (t == tList) := kit_all _ (fun t => t == tList) (by decide +kernel) (by decide +kernel) (by decide +kernel) (by decide +kernel) (by decide +kernel) (by decide +kernel) (by decide +kernel)
theorem kit_tuple {K : PySem.W.Frag} : ∀ t, t ≤ 6 → PySem.W.kitOne K (.type "tuple") (.type (tyName t)) = some (t == tTuple) := kit_all _ (fun t => t == tTuple) (by decide +kernel) (by decide +kernel) (by decide +kernel) (by decide +kernel) (by decide +kernel) (by decide +kernel) (by decide +kernel)
theorem kit_dict {K : PySem.W.Frag} : ∀ t, t ≤ 6 → PySem.W.kitOne K (.type "dict") (.type (tyName t)) = some (t == tDict) := kit_all _ (fun t => t == tDict) (by decide +kernel) (by decide +kernel) (by decide +kernel) (by decide +kernel) (by decide +kernel) (by decide +kernel) (by decide +kernel)
theorem isi_run (c : Ct ρ X) (ow : Own ρ C W X) (I : Inv X pins σ H s) (R : HR ρ μ h H) {x y : D} {v w : V} {u z : Value} {Q : VK} (rx : RD ρ μ H x v) (ry : RD ρ μ H y w) (ru : L2.RelV v u) (rz : L2.RelV w z) (g : Good ρ (RD ρ) W (evBF ρ.P h .isi [x, y]) μ σ H Q) :
    wpAny (model X.prog X.w) X.A (call (.builtin "isinstance") [u, z]) (EP X pins σ Q) X.xe s := by
  by_cases hown : isIn h x ∨ (∃ d, y = .cls d)
  · exact ow.isi I R rx ry ru rz hown g
  · rw [not_or] at hown
    obtain ⟨n1, n2⟩ := hown
    have g0 := g
    simp only [evBF] at g
    cases e : isIns ρ.P h x y with
    | none => rw [e] at g; exact g.elim
    | some b =>
      rw [e] at g
      have q : Q (.bl b) H := Good.ok g Ext.rfl R (by rw [RD])
      unfold isIns at e
      cases y with
      | cls d => exact (n2 ⟨d, rfl⟩).elim
      | ty t =>
        rw [RD] at ry
        subst ry
        by_cases ht : 6 < t
        · simp only [ht, if_true] at e; cases e
        · have ht : t ≤ 6 := by omega
          simp only [show ¬ 6 < t by omega, if_false] at e
          have fin : ∀ {tv : String}, L2.TyX X.K H v (.type tv) → PySem.W.kitOne X.K (.type tv) (.type (tyName t)) = some b → wpAny (model X.prog X.w) X.A (call (.builtin "isinstance") [u, z]) (EP X pins σ Q) X.xe s := fun {tv} ty ek =>
            L2.call_isi pins s σ H [v, .ty (tyName t)] [u, z] Q I (.cons ru (.cons rz .nil)) ⟨v, _, _, _, b, rfl, .ty _, ty, ek, q⟩
          have dic : ∀ {a : Addr} {ks : List D} {vs : List V}, DicAt H a ks vs → v = .ref a → PySem.W.kitOne X.K (.type "dict") (.type (tyName t)) = some b → wpAny (model X.prog X.w) X.A (call (.builtin "isinstance") [u, z]) (EP X pins σ Q) X.xe s := fun {a ks vs} da ea ek => by
            subst ea
            have ob : ∃ o, s.heap.get? a = some o ∧ o.cls = .type "dict" := by
              rcases da.2 with ⟨_, q | ⟨fo, q⟩⟩ | ⟨_, q | ⟨fo, q⟩⟩
              · obtain ⟨_, _, vs, _, o, es, ep, h1, h2, _⟩ := (show L2.ObjOk X.prog X.w H s.heap _ (.dK _) from I.hok _ _ q)
                exact ⟨o, h1, h2.1⟩
              · obtain ⟨_, _, _, vs, _, o, es, ep, h1, h2, _⟩ := (show L2.ObjOk X.prog X.w H s.heap _ (.frz fo (.dK _)) from I.hok _ _ q)
                exact ⟨o, h1, h2.1⟩
              · obtain ⟨_, _, vs, _, o, es, ep, h1, h2, _⟩ := (show L2.ObjOk X.prog X.w H s.heap _ (.dT _) from I.hok _ _ q)
                exact ⟨o, h1, h2.1⟩
              · obtain ⟨_, _, _, vs, _, o, es, ep, h1, h2, _⟩ := (show L2.ObjOk X.prog X.w H s.heap _ (.frz fo (.dT _)) from I.hok _ _ q)
                exact ⟨o, h1, h2.1⟩
            cases (show u = Value.ref a from ru)
            cases (show z = Value.type (tyName t) from rz)
            exact PySem.W.kia_one PySem.W.kitx_dict I.kIn ob ek (fun z => nomatch z) fun tk => ⟨.bl b, H, I.tok tk, rfl, q⟩
          cases x with
          | non => rw [RD] at rx; subst rx; simp at e; subst e; exact fin (.base .non) (kit_non t ht)
          | bl k => rw [RD] at rx; subst rx; simp only [Option.some.injEq] at e; subst e; exact fin (.base (.bl _)) (kit_bool t ht)
          | int i => rw [RD] at rx; subst rx; simp only [Option.some.injEq] at e; subst e; exact fin (.base (.int _)) (kit_int t ht)
          | str s2 => rw [RD] at rx; subst rx; simp only [Option.some.injEq] at e; subst e; exact fin (.base (.str _)) (kit_str t ht)
          | tup xs =>
            rw [RD] at rx
            obtain ⟨a, vs, rfl, t1, q1⟩ := rx
            simp only [Option.some.injEq] at e
            subst e
            rw [← c.K] at t1
            rcases t1 with (t1 | ⟨o, t1⟩) | ⟨o, its, n, t1, t2, _⟩
            · exact fin (.base (.tup t1)) (kit_tuple t ht)
            · exact fin (.fTuple t1) (kit_tuple t ht)
            · exact fin (.kTuple t1 t2) (kit_tuple t ht)
          | ref i =>
            simp only [] at e
            split at e
            · rename_i xs lk eo
              obtain ⟨a, vs, rfl, ea, ev, rv, rfl⟩ := R.lst eo rx
              simp only [Option.some.injEq] at e
              subst e
              exact fin (.base (.lst ev)) (kit_list t ht)
            · rename_i kvs lk eo
              obtain ⟨a, ea, ro⟩ := R.get eo
              rw [RD] at rx
              obtain ⟨a2, ea2, rfl⟩ := rx
              rw [ea] at ea2
              cases ea2
              simp only [Option.some.injEq] at e
              subst e
              cases lk with
              | true => exact ro.elim
              | false =>
                obtain ⟨ks, eh, rk⟩ := ro
                exact dic eh rfl (kit_dict t ht)
            · rename_i cc fs lk eo
              exact (n1 ⟨cc, by show (match h[i]? with | some ⟨.ins c _, _⟩ => some c | _ => none) = _; rw [eo]⟩).elim
            · cases e
          | vl xs =>
            rw [RD] at rx
            obtain ⟨a, vs, rfl, t1, q1⟩ := rx
            simp only [Option.some.injEq] at e
            subst e
            rw [← c.K] at t1
            rcases t1 with (⟨o, t1⟩ | ⟨its, n, t1, _⟩) | ⟨_, t1⟩
            · exact fin (.base (.frz t1)) (kit_list t ht)
            · exact fin (.kList t1 rfl) (kit_list t ht)
            · exact fin (.base (.lst t1)) (kit_list t ht)
          | vd ks xs =>
            rw [RD] at rx
            obtain ⟨a, vs, rfl, _, t1, q1⟩ := rx
            simp only [Option.some.injEq] at e
            subst e
            exact dic t1 rfl (kit_dict t ht)
          | vi cc ns xs => exact (n1 ⟨cc, rfl⟩).elim
          | _ => simp at e
      | _ => simp at e
/-! ### the built-in functions -/
theorem bf_run (c : Ct ρ X) (ow : Own ρ C W X) (I : Inv X pins σ H s) (R : HR ρ μ h H) {b : BF} {ds : List D} {vs : List V} {us : List Value} {Q : VK} (rd : RDs ρ μ H ds vs) (ru : Vals vs us) (g : Good ρ (RD ρ) W (evBF ρ.P h b ds) μ σ H Q) :
    wpAny (model X.prog X.w) X.A (call (.builtin (bfId b)) us) (EP X pins σ Q) X.xe s := by
  have g0 := g
  unfold evBF at g
  split at g
  · -- len of a text
    obtain ⟨v, rfl, r1⟩ := rd.one_inv
    rw [RD] at r1
    subst r1
    split at g
    · rename_i e
      exact L2.call_len pins s σ H _ us Q I ru ⟨_, _, rfl, ⟨by rw [asStr_len]; exact of_decide_eq_true e, rfl⟩, by rw [asStr_len]; exact g.ok Ext.rfl R (by rw [RD])⟩
    · exact g.elim
  · obtain ⟨v, rfl, r1⟩ := rd.one_inv
    rw [RD] at r1
    obtain ⟨a, ws, rfl, t, q⟩ := r1
    exact L2.call_len pins s σ H _ us Q I ru ⟨_, ws.length, rfl, .inr ⟨ws, by rw [c.K]; exact t, rfl⟩, by rw [q.length]; exact g.ok Ext.rfl R (by rw [RD])⟩
  · obtain ⟨v, rfl, r1⟩ := rd.one_inv
    rename_i xs
    obtain ⟨a, vs, rfl, ev, rv⟩ := lst_at (xs := xs) R rfl r1
    exact L2.call_len pins s σ H _ us Q I ru ⟨_, xs.length, rfl, .inl ⟨_, by rw [c.K]; exact ev, rv.length.symm⟩, Good.ok g Ext.rfl R (by rw [RD])⟩
  · obtain ⟨v, rfl, r1⟩ := rd.one_inv
    split at g
    · rename_i xs lk eo
      obtain ⟨a, ws, rfl, ea, ev, rv, rfl⟩ := R.lst eo r1
      exact L2.call_len pins s σ H _ us Q I ru ⟨_, ws.length, rfl, .inl ⟨ws, .inl (.inl ev), rfl⟩, by rw [rv.length]; exact g.ok Ext.rfl R (by rw [RD])⟩
    · rename_i xs lk eo
      obtain ⟨a, ea, ro⟩ := R.get eo
      cases lk <;> exact ro.elim
    · exact g.elim
  · obtain ⟨v, rfl, r1⟩ := rd.one_inv
    rename_i x
    cases el : lstOf h x with
    | none => rw [el] at g; exact g.elim
    | some xs =>
      rw [el] at g
      simp only [Option.bind_some] at g
      cases ea : allB true xs with
      | none => rw [ea] at g; exact g.elim
      | some kk =>
        rw [ea] at g
        obtain ⟨a, ws, rfl, sq, rs⟩ := lstOf_sq R r1 el
        obtain ⟨bs, rfl, e2⟩ := allB_bl rs ea
        exact L2.cr_all c.calm pins s σ H _ us Q I ru ⟨a, bs, rfl, by rw [c.K]; exact sq, by rw [if_pos rfl] at e2; rw [← e2]; exact Good.ok g Ext.rfl R (by rw [RD])⟩
  · obtain ⟨v, rfl, r1⟩ := rd.one_inv
    rename_i x
    cases el : lstOf h x with
    | none => rw [el] at g; exact g.elim
    | some xs =>
      rw [el] at g
      simp only [Option.bind_some] at g
      cases ea : allB false xs with
      | none => rw [ea] at g; exact g.elim
      | some kk =>
        rw [ea] at g
        obtain ⟨a, ws, rfl, sq, rs⟩ := lstOf_sq R r1 el
        obtain ⟨bs, rfl, e2⟩ := allB_bl rs ea
        exact L2.cr_any c.calm pins s σ H _ us Q I ru ⟨a, bs, rfl, by rw [c.K]; exact sq, by rw [if_neg (by simp)] at e2; rw [← e2]; exact Good.ok g Ext.rfl R (by rw [RD])⟩
  · obtain ⟨v, rfl, r1⟩ := rd.one_inv
    rw [RD] at r1
    subst r1
    exact L2.call_abs pins s σ H _ us Q I ru ⟨_, rfl, g.ok Ext.rfl R (by rw [RD])⟩
  · obtain ⟨v, w, rfl, r1, r2⟩ := rd.two_inv
    rw [RD] at r1; rw [RD] at r2
    subst r1 r2
    exact L2.call_min2 c.calm pins s σ H _ us Q I ru ⟨_, _, rfl, g.ok Ext.rfl R (by rw [RD])⟩
  · obtain ⟨v, w, rfl, r1, r2⟩ := rd.two_inv
    rw [RD] at r1; rw [RD] at r2
    subst r1 r2
    exact L2.call_max2 c.calm pins s σ H _ us Q I ru ⟨_, _, rfl, g.ok Ext.rfl R (by rw [RD])⟩
  · obtain ⟨v, rfl, r1⟩ := rd.one_inv
    rename_i x
    cases e : reprD h x with
    | none => rw [e] at g; exact g.elim
    | some z =>
      rw [e] at g
      obtain ⟨u, rfl, rv⟩ := L2.vals1 ru
      exact repr_run I c R r1 rv e (Good.ok g Ext.rfl R (by rw [RD]))
  · obtain ⟨v, w, rfl, r1, r2⟩ := rd.two_inv
    obtain ⟨u, z, rfl, q1, q2⟩ := L2.vals2 ru
    exact isi_run c ow I R r1 r2 q1 q2 g0
  · exact g.elim
theorem s_bf {b : BF} {p pos : Pos} {e : Expr} {es : List Expr} {es' : EL} (c : Ct ρ X) (ow : Own ρ C W X) (ha : PA X (e :: es) (tEL ρ C W es')) (hg : L2.Gl X (bfId b : Str)) (hm : X.mg (bfId b : Str) = none) (hv : bootBuiltins (bfId b : Str) = some (.builtin (bfId b))) (hn : (bfId b : Str) ≠ "__name__") (hdb : ((bfId b : Str) == ("__debug__" : Str)) = false)
    (he : starEach (e :: es) X.env = (false, eval e X.env) :: starEach es X.env) (hpl : (backTo pos (starEach es X.env)).any (·.1) = false) : PE X (.Call (.Name (bfId b : Str) p) (e :: es) [] pos) (tE ρ C W (.bf b es')) := by
  refine ⟨fun pins s σ H Q I ⟨μ, l, h, hl, R, g⟩ => ?_⟩
  rw [evE] at g
  refine wpAny_Call_Name_kw (L2.ld_blt I hg hm hv ?_ hn hdb)
  refine PyProof.Rows.callWith_builtin1 (thn (ha.run pos pins s σ H _ I ⟨μ, l, h, hl, R, g.bind⟩) fun us s1 ⟨vs, H1, I1, r1, ds, h1, μ1, er, x1, R1, rd, g1⟩ => ?_) he hpl
  exact bf_run c ow I1 R1 rd r1 g1
end Ev
end
end
section
/-! E14: calls of built-in classes, methods of built-in objects. -/
set_option linter.all false
set_option maxRecDepth 100000
set_option maxHeartbeats 1000000
noncomputable section
namespace Ev
open PySem PySem.Spec PyProof.Rows PySem.SeqAt
open L2 (V HO Vals VK XK WX SqL SqT Inv PE PT PW PA PS PSs PG PGs PI Cx upd upd_same upd_ne Rd Room EP TP thn OpR CallR TE TT TA)
variable {ρ : Lk} {C : Call} {W : WX} {X : Cx} {pins : List (Addr × Obj)} {s : Shared} {σ : LS} {H : LH} {μ : Mu} {h : Hp} {k : Nat}

def btId : BT → String
  | .int => "int"
  | .bool => "bool"
  | .str => "str"
  | .list => "list"
  | .tuple => "tuple"
  | .dict => "dict"
  | .set => "set"
  | .listH => "list"
/-- a list or a tuple that is read -/
theorem seqOf_sq (R : HR ρ μ h H) {d : D} {v : V} {xs : List D} (rd : RD ρ μ H d v) (e : seqOf h d = some xs) : ∃ a vs, v = .ref a ∧ RDs ρ μ H xs vs ∧ (SqL ρ.K H a vs ∨ (SqT ρ.K H a vs ∧ d = .tup xs)) := by
  unfold seqOf at e
  split at e
  · cases e
    rw [RD] at rd
    obtain ⟨a, vs, rfl, t, q⟩ := rd
    exact ⟨a, vs, rfl, q, .inr ⟨t, rfl⟩⟩
  · obtain ⟨a, vs, e1, e2, e3⟩ := lstOf_sq R rd e
    exact ⟨a, vs, e1, e3, .inl e2⟩
theorem bt_run (c : Ct ρ X) (I : Inv X pins σ H s) (R : HR ρ μ h H) {b : BT} {ds : List D} {vs : List V} {us : List Value} {Q : VK} (rd : RDs ρ μ H ds vs) (ru : Vals vs us) (g : Good ρ (RD ρ) W (evBT ρ.P h b ds) μ σ H Q) :
    wpAny (model X.prog X.w) X.A (call (.type (btId b)) us) (EP X pins σ Q) X.xe s := by
  unfold evBT at g
  split at g
  · obtain ⟨v, rfl, r1⟩ := rd.one_inv
    rw [RD] at r1
    subst r1
    exact L2.call_int1 pins s σ H _ us Q I ru (.inl ⟨_, rfl, g.ok Ext.rfl R (by rw [RD])⟩)
  · obtain ⟨v, rfl, r1⟩ := rd.one_inv
    rw [RD] at r1
    subst r1
    exact L2.call_int1 pins s σ H _ us Q I ru (.inr ⟨_, rfl, g.ok Ext.rfl R (by rw [RD]; rfl)⟩)
  · obtain ⟨v, rfl, r1⟩ := rd.one_inv
    rw [RD] at r1
    subst r1
    exact L2.call_bool1 pins s σ H _ us Q I ru (.inr ⟨_, rfl, g.ok Ext.rfl R (by rw [RD])⟩)
  · obtain ⟨v, rfl, r1⟩ := rd.one_inv
    rw [RD] at r1
    subst r1
    exact L2.call_bool1 pins s σ H _ us Q I ru (.inl ⟨_, rfl, g.ok Ext.rfl R (by rw [RD])⟩)
  · obtain ⟨v, rfl, r1⟩ := rd.one_inv
    rw [RD] at r1
    subst r1
    split at g
    · rename_i e
      exact L2.call_str_int pins s σ H _ us Q I ru ⟨_, rfl, e, g.ok Ext.rfl R (by rw [RD, ofStr_asStr])⟩
    · exact g.elim
  · obtain ⟨v, rfl, r1⟩ := rd.one_inv
    rename_i x
    cases es : seqOf h x with
    | some xs =>
      rw [es] at g
      obtain ⟨a, ws, rfl, rs, sq⟩ := seqOf_sq R r1 es
      exact L2.call_list_of pins s σ H _ us Q I ru ⟨a, ws, rfl, by rw [c.K]; exact sq.imp (fun z => z) (fun z => z.1), fun p hp => new_val R rs g hp⟩
    | none =>
      rw [es] at g
      exact g.elim
  · obtain ⟨v, rfl, r1⟩ := rd.one_inv
    rename_i x
    cases es : seqOf h x with
    | some xs =>
      rw [es] at g
      obtain ⟨a, ws, rfl, rs, sq⟩ := seqOf_sq R r1 es
      exact L2.call_list_of pins s σ H _ us Q I ru ⟨a, ws, rfl, by rw [c.K]; exact sq.imp (fun z => z) (fun z => z.1), fun p hp => new_lst R rs g hp⟩
    | none =>
      rw [es] at g
      exact g.elim
  · obtain ⟨v, rfl, r1⟩ := rd.one_inv
    rename_i x
    cases es : seqOf h x with
    | some xs =>
      rw [es] at g
      obtain ⟨a, ws, rfl, rs, sq⟩ := seqOf_sq R r1 es
      refine L2.call_tuple_of pins s σ H _ us Q I ru ⟨a, ws, rfl, ?_⟩
      rcases sq with sq | ⟨sq, e⟩
      · refine .inl ⟨by rw [c.K]; exact sq, fun p hp => ?_⟩
        have xt := Ext.tup R hp (.tup ws)
        refine Good.ok g xt (R.beside hp _) ?_
        rw [RD]
        exact ⟨p, ws, rfl, .inl (.inl upd_same), rs.mono (xt.stays R) xt.sub⟩
      · subst e
        exact .inr ⟨by rw [c.K]; exact sq, Good.ok g Ext.rfl R r1⟩
    | none =>
      rw [es] at g
      exact g.elim
  · exact g.elim
theorem s_bt {b : BT} {p pos : Pos} {e : Expr} {es : List Expr} {es' : EL} (c : Ct ρ X) (ha : PA X (e :: es) (tEL ρ C W es')) (hg : L2.Gl X (btId b : Str)) (hm : X.mg (btId b : Str) = none) (hv : bootBuiltins (btId b : Str) = some (.type (btId b))) (hn : (btId b : Str) ≠ "__name__") (hdb : ((btId b : Str) == ("__debug__" : Str)) = false)
    (he : starEach (e :: es) X.env = (false, eval e X.env) :: starEach es X.env) (hpl : (backTo pos (starEach es X.env)).any (·.1) = false) : PE X (.Call (.Name (btId b : Str) p) (e :: es) [] pos) (tE ρ C W (.bt b es')) := by
  refine ⟨fun pins s σ H Q I ⟨μ, l, h, hl, R, g⟩ => ?_⟩
  rw [evE] at g
  refine wpAny_Call_Name_kw (L2.ld_blt I hg hm hv ?_ hn hdb)
  refine PyProof.Rows.callWith_type1 (thn (ha.run pos pins s σ H _ I ⟨μ, l, h, hl, R, g.bind⟩) fun us s1 ⟨vs, H1, I1, r1, ds, h1, μ1, er, x1, R1, rd, g1⟩ => ?_) he hpl
  exact bt_run c I1 R1 rd r1 g1
end Ev
end
end
section
/-! E15: calls of methods. -/
set_option linter.all false
set_option maxRecDepth 100000
set_option maxHeartbeats 1000000
noncomputable section
namespace Ev
open PySem PySem.Spec PyProof.Rows PySem.SeqAt
open L2 (V HO Vals VK XK WX SqL SqT Inv PE PT PW PA PS PSs PG PGs PI Cx upd upd_same upd_ne Rd Room EP TP thn OpR CallR TE TT TA)
variable {ρ : Lk} {C : Call} {W : WX} {X : Cx} {pins : List (Addr × Obj)} {s : Shared} {σ : LS} {H : LH} {μ : Mu} {h : Hp} {k : Nat}

theorem method_any {o : Expr} {name : Str} {apos pos : Pos} {args : List Expr} {env : Env} {prog : Program} {w : World} {A : Around} {E : Value → Shared → Prop} {Q : Value → Shared → Prop}
    (hbase : attributeBase o name env (eval o env) = eval o env) (hf : methodCallForm (args.length + 0) (backTo pos (starEach args env)) (backToKw pos (keywordEach [] env)) = true) (hline : (apos.endLine == pos.line) = true)
    (h : wpAny (model prog w) A (eval o env) (fun ov s₁ => wpAny (model prog w) A (getMethod ov name (do return (← importBound o env).getD true)) (fun p s₂ => wpAny (model prog w) A (callWith pos p.1 p.2 (backTo pos (starEach args env)) []) Q E s₂) E s₁) E s) :
    wpAny (model prog w) A (eval (.Call (.Attribute o name apos) args [] pos) env) Q E s := by
  rw [arm_eval_Call, hbase]
  refine wpAny_bind (wpAny_mono h (fun ov s₁ h₁ => ?_) fun _ _ e => e)
  refine wpAny_bind (wpAny_standAt ?_)
  have hp : methodCallPos true o env apos pos = pure pos := by
    unfold methodCallPos
    rw [hline]
    rfl
  have hf2 : methodCallForm (args.length + ([] : List Keyword).length) (backTo pos (starEach args env)) (backToKw pos (keywordEach [] env)) = true := hf
  unfold methodCall
  rw [hf2]
  refine wpAny_bind (wpAny_holding (wpAny_mono h₁ (fun p s₂ h₂ => ?_) fun _ _ e => e))
  exact wpAny_bind (wpAny_of_eq hp h₂)
/-! ### methods of built-in objects, by values -/
def bmName : Nat → Option Str
  | 10 => some "append"
  | 11 => some "extend"
  | 12 => some "pop"
  | 13 => some "clear"
  | 14 => some "insert"
  | 16 => some "split"
  | _ => none
theorem HR.put (R : HR ρ μ h H) {a : Nat} {h' : Hp} {p : Addr} {xs : List D} {lk : Bool} {ys : List V} (eo : h[a]? = some ⟨.lst xs, lk⟩) (ep : μ.ix[a]? = some p) {ws : List D} (e : Ev.put h a (.lst ws) = some h') (r : RDs ρ μ H ws ys) :
    Ext μ H μ (upd H p (.lst ys)) ∧ HR ρ μ h' (upd H p (.lst ys)) := by
  unfold Ev.put at e
  rw [eo] at e
  cases lk with
  | true => cases e
  | false =>
    simp only [Option.some.injEq] at e
    subst e
    obtain ⟨b, eb, ro⟩ := R.get eo
    rw [ep] at eb
    cases eb
    obtain ⟨vs, ev, rv⟩ := ro
    have nf : ∀ o u, H p ≠ some (.frz o u) := fun o u z => by rw [ev] at z; cases z
    have x := Ext.set R eo ep nf (.lst ys)
    exact ⟨x, R.set eo ep nf ⟨ys, upd_same, r.mono (x.stays R) x.sub⟩⟩
def bmIdL : Nat → String
  | 10 => "list.append"
  | 11 => "list.extend"
  | 12 => "list.pop"
  | 13 => "list.clear"
  | _ => "list.insert"
def isL (m : Nat) : Prop := m = 10 ∨ m = 11 ∨ m = 12 ∨ m = 13 ∨ m = 14
theorem slotL {m : Nat} (hm : isL m) : ∃ x, bmName m = some x ∧ Slot "list" x (bmIdL m) ∧ typeOf (.builtin (bmIdL m)) = pure (.type "method_descriptor") := by
  rcases hm with rfl | rfl | rfl | rfl | rfl
  · exact ⟨_, rfl, F.slot_list_append, F.type_list_append⟩
  · exact ⟨_, rfl, F.slot_list_extend, F.type_list_extend⟩
  · exact ⟨_, rfl, F.slot_list_pop, F.type_list_pop⟩
  · exact ⟨_, rfl, F.slot_list_clear, F.type_list_clear⟩
  · exact ⟨_, rfl, F.slot_list_insert, F.type_list_insert⟩
theorem RDs.dropLast {ds : List D} {vs : List V} (r : RDs ρ μ H ds vs) : RDs ρ μ H ds.dropLast vs.dropLast := by
  rw [List.dropLast_eq_take, List.dropLast_eq_take, r.length]
  exact r.take _
theorem isL_of {m a : Nat} {ds : List D} {h : Hp} (e : evMetL h m a ds ≠ .bad) : isL m := by
  unfold evMetL at e
  split at e
  · repeat' (split at e)
    all_goals first
      | (exact absurd rfl e; done)
      | (subst_vars; simp [isL]; done)
  · exact absurd rfl e
/-- l.extend(b) -/
theorem extend_run (I : Inv X pins σ H s) {l b : Addr} {xs zs : List V} (hH : H l = some (.lst xs)) (tb : SqX X.K H b zs) (hz : xs.length + zs.length ≤ sizeLine) {Q : VK} (q : Q .non (upd H l (.lst (xs ++ zs)))) :
    wpAny (model X.prog X.w) X.A (call (.builtin "list.extend") [.ref l, .ref b]) (EP X pins σ Q) X.xe s := by
  obtain ⟨z, its, n, r, hl, e⟩ := I.lstM hH
  obtain ⟨its2, n2, r2, z2, e2⟩ := tb.obj I
  have hl2 := r2.length
  have hsz : its.toArray.size + its2.toArray.size ≤ sizeLine := by rw [List.size_toArray, List.size_toArray]; omega
  have hlong : ¬ (!its.toArray.isEmpty && Builtin.List.listTooLong (its.toArray.size + its2.toArray.size)) = true := by
    rw [show Builtin.List.listTooLong (its.toArray.size + its2.toArray.size) = false by simp [Builtin.List.listTooLong, sizeLine] at hsz ⊢; omega, Bool.and_false]
    exact Bool.false_ne_true
  refine call_meets F.slot_list_extend ⟨_, e, rfl⟩ F.entry_list_extend (F.args_list_extend_2 _ _)
    (AutoSeq1.list_extend_list_list_0 l its.toArray n b its2.toArray n2 hlong (by rw [List.size_toArray]; omega) (by omega)) ⟨e, e2, ?_⟩
  refine ⟨.non, _, I.lset (its' := its ++ its2) hH e (by simp) (r.append r2) ?_, rfl, q⟩
  rw [List.length_append]
  omega
theorem lst_run (hK : X.K = ρ.K) (I : Inv X pins σ H s) (R : HR ρ μ h H) {a m : Nat} {ds : List D} {vs : List V} {us : List Value} {p : Addr} {Q : VK} (ep : μ.ix[a]? = some p) (rd : RDs ρ μ H ds vs) (ru : Vals vs us) (g : Good ρ (RD ρ) W (evMetL h m a ds) μ σ H Q) :
    wpAny (model X.prog X.w) X.A (call (.builtin (bmIdL m)) (.ref p :: us)) (EP X pins σ Q) X.xe s := by
  unfold evMetL at g
  split at g
  · rename_i xs lk eo
    obtain ⟨b, eb, ro⟩ := R.get eo
    rw [ep] at eb
    cases eb
    have lf : ∃ ws, H p = some (.lst ws) ∧ RDs ρ μ H xs ws := by
      cases lk with
      | true => exact ro.elim
      | false => exact ro
    obtain ⟨ws, ev, rv⟩ := lf
    have hz : sizeLine = 2 ^ 24 := rfl
    split at g
    · rename_i em
      subst em
      split at g
      · rename_i y
        obtain ⟨v, rfl, r1⟩ := rd.one_inv
        split at g
        · rename_i hl
          have hl := of_decide_eq_true hl
          split at g
          · rename_i h' eh
            obtain ⟨x, R'⟩ := R.put eo ep eh (rv.append (RDs.one r1))
            exact L2.mt_append pins s σ H (.ref p) _ (.ref p) us Q I rfl ru ⟨p, ws, v, rfl, rfl, ev, by rw [rv.length]; omega, Good.ok g x R' (by rw [RD])⟩
          · exact g.elim
        · exact g.elim
      · exact g.elim
    · split at g
      · rename_i em
        subst em
        split at g
        · rename_i y
          split at g
          · rename_i ys eo2
            obtain ⟨v, rfl, r1⟩ := rd.one_inv
            obtain ⟨q, zs, rfl, ev2, rv2⟩ := lst_atX R eo2 r1
            obtain ⟨u, rfl, ru1⟩ := L2.vals1 ru
            cases ru1
            rw [← hK] at ev2
            split at g
            · rename_i hl
              have hl := of_decide_eq_true hl
              split at g
              · rename_i h' eh
                obtain ⟨x, R'⟩ := R.put eo ep eh (rv.append rv2)
                exact extend_run I ev ev2 (by rw [rv.length, rv2.length]; exact hl) (Good.ok g x R' (by rw [RD]))
              · exact g.elim
            · exact g.elim
          · exact g.elim
        · exact g.elim
      · split at g
        · rename_i em
          subst em
          split at g
          · rw [RDs] at rd
            subst rd
            split at g
            · rename_i y ey
              split at g
              · rename_i h' eh
                obtain ⟨x, R'⟩ := R.put eo ep eh rv.dropLast
                obtain ⟨v, e1, r1⟩ := rv.get ey
                exact L2.mt_pop pins s σ H (.ref p) _ (.ref p) us Q I rfl ru ⟨p, ws, v, rfl, rfl, ev, by rw [rv.length]; exact e1, Good.ok g x R' (r1.mono (x.stays R) x.sub)⟩
              · exact g.elim
            · exact g.elim
          · exact g.elim
        · split at g
          · rename_i em
            subst em
            split at g
            · rw [RDs] at rd
              subst rd
              split at g
              · rename_i h' eh
                obtain ⟨x, R'⟩ := R.put (ys := []) eo ep eh (by rw [RDs])
                exact L2.mt_clear pins s σ H (.ref p) _ (.ref p) us Q I rfl ru ⟨p, ws, rfl, rfl, ev, Good.ok g x R' (by rw [RD])⟩
              · exact g.elim
            · exact g.elim
          · split at g
            · rename_i em
              subst em
              split at g
              · rename_i i y
                obtain ⟨v, w, rfl, r1, r2⟩ := rd.two_inv
                rw [RD] at r1
                subst r1
                split at g
                · rename_i hl
                  simp only [Bool.and_eq_true, decide_eq_true_eq] at hl
                  obtain ⟨h1, h2, h3⟩ := hl
                  have h3 := of_decide_eq_true h3
                  split at g
                  · rename_i h' eh
                    obtain ⟨x, R'⟩ := R.put eo ep eh (((rv.take i.toNat).append (RDs.one r2)).append (rv.drop i.toNat))
                    exact L2.mt_insert pins s σ H (.ref p) _ (.ref p) us Q I rfl ru ⟨p, ws, i, w, rfl, rfl, ev, by rw [rv.length]; omega, h1, by omega, Good.ok g x R' (by rw [RD])⟩
                  · exact g.elim
                · exact g.elim
              · exact g.elim
            · exact g.elim
  · exact g.elim
theorem str_run (I : Inv X pins σ H s) (R : HR ρ μ h H) {m : Nat} {z : List Nat} {ds : List D} {vs : List V} {u : Value} {us : List Value} {Q : VK} (rz : L2.RelV (.str (asStr z)) u) (rd : RDs ρ μ H ds vs) (ru : Vals vs us) (g : Good ρ (RD ρ) W (evMetS h m z ds) μ σ H Q) :
    m = mSplit ∧ wpAny (model X.prog X.w) X.A (call (.builtin "str.split") (u :: us)) (EP X pins σ Q) X.xe s := by
  unfold evMetS at g
  split at g
  · rename_i em
    subst em
    refine ⟨rfl, ?_⟩
    split at g
    · rename_i b
      obtain ⟨v, rfl, r1⟩ := rd.one_inv
      rw [RD] at r1
      subst r1
      split at g
      · rename_i hl
        rw [Bool.and_eq_true] at hl
        have hl2 := of_decide_eq_true hl.2
        refine L2.mt_split pins s σ H _ _ u us Q I rz ru ⟨asStr z, asStr b, rfl, rfl, ?_, by rw [asStr_len]; exact hl2, fun p hp => ?_⟩
        · rw [asStr_len]
          have := hl.1
          cases b <;> simp at this ⊢
        · have e : ∀ ys : List Str, RDs ρ μ H (ys.map fun z => .str (ofStr z)) (ys.map V.str) := fun ys => by
            induction ys with
            | nil => rw [List.map_nil, List.map_nil, RDs]
            | cons y r ih =>
              rw [List.map_cons, List.map_cons, RDs]
              exact ⟨_, _, rfl, by rw [RD, ofStr_asStr], ih⟩
          exact new_val R (e _) g hp
      · exact g.elim
    · exact g.elim
  · exact g.elim
/-! ### o.m(..) -/
section
variable {o e : Expr} {es : List Expr} {o' : E} {es' : EL} {apos pos : Pos} {x : Str} {m : Nat}
/-- the arguments and the call, with at least one argument -/
structure MArgs (X : Cx) (pos : Pos) (args : List Expr) (t : TA) : Prop where
  plain : (backTo pos (starEach args X.env)).any (·.1) = false
  run : PA X args t
theorem evalArgs_any {M : Model} {A : Around} {E : Value → Shared → Prop} {f : Value} {args : List Expr} {pos : Pos} {env : Env} {us : Args → Shared → Prop} (hp : (backTo pos (starEach args env)).any (·.1) = false)
    (h : wpAny M A (spliced (backTo pos (starEach args env))) (fun vs s' => us ⟨vs, []⟩ s') E s) : wpAny M A (evalArgs f true (backTo pos (starEach args env)) []) us E s := by
  have gen : ∀ ts : List (Bool × Sem Value), ts.any (·.1) = false → wpAny M A (spliced ts) (fun vs s' => us ⟨vs, []⟩ s') E s → wpAny M A (evalArgs f true ts []) us E s := fun ts hts h => by
    unfold evalArgs
    cases ts with
    | nil =>
      show wpAny M A (spliced [] >>= _) us E s
      exact wpAny_bind (wpAny_mono h (fun vs s' q => wpAny_holding (wpAny_bind (wpAny_pure (wpAny_bind (wpAny_pure (wpAny_pure q)))))) fun _ _ x => x)
    | cons a r =>
      obtain ⟨b, x⟩ := a
      cases b with
      | true => simp at hts
      | false =>
        show wpAny M A (spliced ((false, x) :: r) >>= _) us E s
        exact wpAny_bind (wpAny_mono h (fun vs s' q => wpAny_holding (wpAny_bind (wpAny_pure (wpAny_bind (wpAny_pure (wpAny_pure q)))))) fun _ _ x => x)
  exact gen _ hp h
theorem callK {M : Model} {A : Around} {E : Value → Shared → Prop} {K : PySem.W.Frag} {f : Value} {first : List Value} {args : List Expr} {pos : Pos} {env : Env} {Q : Value → Shared → Prop} (hk : PySem.W.keepIn K f = true) (hp : (backTo pos (starEach args env)).any (·.1) = false)
    (h : wpAny M A (spliced (backTo pos (starEach args env))) (fun vs s' => K.In s'.heap ∧ wpAny M A (call f (first ++ vs)) Q E s') E s) : wpAny M A (callWith pos f first (backTo pos (starEach args env)) []) Q E s :=
  PySem.W.callWith_of (P := fun h => K.In h) (by rw [hp]; rfl) (fun h X => PySem.W.keeps_K hk h X) (evalArgs_any hp h)
theorem callBI {M : Model} {A : Around} {E : Value → Shared → Prop} {id : String} {first : List Value} {args : List Expr} {pos : Pos} {env : Env} {Q : Value → Shared → Prop} (hp : (backTo pos (starEach args env)).any (·.1) = false)
    (h : wpAny M A (spliced (backTo pos (starEach args env))) (fun vs s' => wpAny M A (call (.builtin id) (first ++ vs)) Q E s') E s) : wpAny M A (callWith pos (.builtin id) first (backTo pos (starEach args env)) []) Q E s :=
  Calls.callWith_builtin hp (evalArgs_any hp h)
def PlainEnd (ρ : Lk) (W : WX) (r : R D) (μ : Mu) (σ : LS) (H : LH) (Q : VK) : Prop := match r with
  | .ok d h' => ∀ H' μ', Ext μ H μ' H' → HR ρ μ' h' H' → d ≠ .nim ∧ ∀ v, RD ρ μ' H' d v → Q v H'
  | .exc c vs h' => ∀ cls dd H' μ', Ext μ H μ' H' → HR ρ μ' h' H' → XD ρ μ' H' c vs cls dd → W cls dd σ H'
  | .bad => False
theorem Good.plain {r : R D} {Q : VK} (g : Good ρ (RD ρ) W (Ev.plain r) μ σ H Q) : PlainEnd ρ W r μ σ H Q := by
  cases r with
  | bad => exact g
  | exc => exact g
  | ok d h' =>
    intro H' μ' x2 R2
    refine ⟨fun z => ?_, fun v rv => ?_⟩
    · subst z; exact g.elim
    · cases d <;> first | exact g v H' μ' x2 R2 rv | (rw [RD] at rv; exact rv.elim)
/-- the call of a def, its values at hand -/
theorem run_plain (c : Cf ρ C W X k) {f : Nat} {ds : List D} {vs : List V} {us : List Value} {Q : VK} (I : Inv X pins σ H s) (ru : Vals vs us) (rd : RDs ρ μ H ds vs) (R : HR ρ μ h H) (g : Good ρ (RD ρ) W (Ev.plain (C f ds h)) μ σ H Q) :
    wpAny (model X.prog X.w) X.A (call (.ref (ρ.fa f)) us) (EP X pins σ Q) X.xe s := by
  have g1 := g.plain
  refine wpAny_call (codeAny_mono (run_call (Z := fun d h' H' μ' => d ≠ .nim ∧ ∀ v, RD ρ μ' H' d v → Q v H') c ⟨c.room.mono (by omega), c.ct.gd, I.ok.frames⟩ I ru rd R ?_) fun r s' hr => ?_)
  · unfold CallGood
    cases ec : C f ds h with
    | ok d h' => rw [ec] at g1; exact g1
    | exc cc ws h' => rw [ec] at g1; exact g1
    | bad => rw [ec] at g1; exact g1
  · cases r with
    | error e => exact hr
    | ok fl =>
      cases fl with
      | ret u =>
        obtain ⟨d, h', H', μ', ec, I2, x2, R2, ru, z1, z2⟩ := hr
        unfold RU at ru
        split at ru
        · exact (z1 rfl).elim
        · obtain ⟨v, rv, rr⟩ := ru
          exact ⟨v, H', I2, rr, z2 v rv⟩
      | next => exact False.elim hr
      | brk => exact False.elim hr
      | cont => exact False.elim hr
theorem s_call {f : Nat} {p : Pos} (c : Cf ρ C W X k) (hg : L2.Gl X x) (hm : X.mg x = some (.ref (ρ.fa f))) (hk : PySem.W.keepIn X.K (.ref (ρ.fa f)) = true) (ha : PA X es (tEL ρ C W es'))
    (hdb : (x == ("__debug__" : Str)) = false) (hpl : (backTo pos (starEach es X.env)).any (·.1) = false) :
    PE X (.Call (.Name x p) es [] pos) (tE ρ C W (.call f es')) := by
  refine ⟨fun pins s σ H Q I ⟨μ, l, h, hl, R, g⟩ => ?_⟩
  rw [evE] at g
  refine wpAny_Call_Name_kw (L2.ld_glob I hg hm ?_ hdb)
  exact callK hk hpl (thn (ha.run pos pins s σ H _ I ⟨μ, l, h, hl, R, g.bind⟩) fun us s1 ⟨vs, H1, I1, r1, ds, h1, μ1, er, x1, R1, rd, g1⟩ => ⟨I1.kIn, run_plain (us := us) c I1 r1 rd R1 g1⟩)
theorem s_met (c : Cf ρ C W X k) (ow : Own ρ C W X) (hx : x = ρ.fld m) (hb : ∀ z, bmName m = some z → z = x) (ho : PE X o (tE ρ C W o')) (ha : PA X es (tEL ρ C W es')) (hpl : (backTo pos (starEach es X.env)).any (·.1) = false)
    (hbase : attributeBase o x X.env (eval o X.env) = eval o X.env) (hf : methodCallForm (es.length + 0) (backTo pos (starEach es X.env)) (backToKw pos (keywordEach [] X.env)) = true) (hline : (apos.endLine == pos.line) = true) :
    PE X (.Call (.Attribute o x apos) es [] pos) (tE ρ C W (.met o' m es')) := by
  refine ⟨fun pins s σ H Q I ⟨μ, l, h, hl, R, g⟩ => ?_⟩
  rw [evE] at g
  refine method_any hbase hf hline (thn (ho.run pins s σ H _ I ⟨μ, l, h, hl, R, g.bind⟩) fun v s1 ⟨u, H1, I1, r1, d, h1, μ1, er, x1, R1, rd, g1⟩ => ?_)
  have hl1 := hl.mono (x1.stays R) x1.sub
  have run : Good ρ (RD ρ) W ((evEL ρ.P C es' l h1).bind fun xs h2 => evCallM C (callee ρ.P d m h1) d m xs h2) μ1 σ H1 Q → wpAny (model X.prog X.w) X.A (spliced (backTo pos (starEach es X.env))) (fun us s2 => ∃ vs H2 ds h2 μ2, Inv X pins σ H2 s2 ∧ Vals vs us ∧ Ext μ1 H1 μ2 H2 ∧ HR ρ μ2 h2 H2 ∧ RDs ρ μ2 H2 ds vs ∧ Good ρ (RD ρ) W (evCallM C (callee ρ.P d m h1) d m ds h2) μ2 σ H2 Q) X.xe s1 := fun g1 =>
    thn (ha.run pos pins s1 σ H1 _ I1 ⟨μ1, l, h1, hl1, R1, Good.bind g1⟩) fun us s2 ⟨vs, H2, I2, r2, ds, h2, μ2, er2, x2, R2, rds, g2⟩ => ⟨vs, H2, ds, h2, μ2, I2, r2, x2, R2, rds, g2⟩
  have g2 : callee ρ.P d m h1 ≠ .no ∧ Good ρ (RD ρ) W ((evEL ρ.P C es' l h1).bind fun xs h2 => evCallM C (callee ρ.P d m h1) d m xs h2) μ1 σ H1 Q := by
    cases ek : callee ρ.P d m h1 <;> rw [ek] at g1 <;> first
      | exact g1.elim
      | exact ⟨by simp, g1⟩
  obtain ⟨nn, g2⟩ := g2
  have run1 := run g2
  cases ek : callee ρ.P d m h1 with
  | no => exact (nn ek).elim
  | own f =>
    rw [ek] at run1
    have rd0 := rd
    have hr : ∃ a, u = .ref a := by
      unfold callee at ek
      split at ek
      · rw [RD] at rd
        obtain ⟨a, ea, rfl⟩ := rd
        exact ⟨a, rfl⟩
      · rw [RD] at rd
        obtain ⟨a, dx, vs, rfl, _⟩ := rd
        exact ⟨a, rfl⟩
      · split at ek <;> cases ek
      · cases ek
    obtain ⟨a, rfl⟩ := hr
    obtain rfl : v = .ref a := r1
    rw [hx]
    refine ow.met I1 R1 rd0 ek fun hk => ?_
    refine callK hk hpl (thn run1 fun us s2 ⟨vs, H2, ds, h2, μ2, I2, r2, x2, R2, rds, g3⟩ => ⟨I2.kIn, ?_⟩)
    refine run_plain (vs := .ref a :: vs) c I2 (.cons rfl r2) ?_ R2 g3
    rw [RDs]
    exact ⟨_, _, rfl, rd0.mono (x2.stays R1) x2.sub, rds⟩
  | lst a =>
    rw [ek] at run1
    unfold callee at ek
    split at ek
    · rename_i i
      split at ek
      · split at ek <;> cases ek
      · rename_i xs lk eo
        split at ek
        · rename_i hm
          cases ek
          have hm2 : isL m := by
            simp only [Bool.and_eq_true, decide_eq_true_eq] at hm
            unfold isL
            omega
          obtain ⟨z, hz, sl, ty⟩ := slotL hm2
          have := hb z hz
          subst this
          obtain ⟨p, ws, rfl, ep, ev, rv, e0⟩ := R1.lst eo rd
          obtain rfl : v = .ref p := r1
          obtain ⟨t1, t2⟩ := L2.tyV_is I1 (show L2.RelV (.ref p) (.ref p) from rfl) (T := "list") (.inl ⟨rfl, ws, .inl (.inl ev)⟩)
          refine getMethod_builtin t1 F.plainAttrs_list sl ty t2 ?_
          refine callBI hpl (thn run1 fun us s2 ⟨vs, H2, ds, h2, μ2, I2, r2, x2, R2, rds, g3⟩ => ?_)
          exact lst_run c.ct.K I2 R2 (x2.at ep) rds r2 g3
        · cases ek
      · cases ek
    · split at ek <;> cases ek
    · split at ek <;> cases ek
    · cases ek
  | str z =>
    rw [ek] at run1
    unfold callee at ek
    split at ek
    · split at ek
      · split at ek <;> cases ek
      · split at ek <;> cases ek
      · cases ek
    · split at ek <;> cases ek
    · rename_i s3
      split at ek
      · rename_i hm
        cases ek
        subst hm
        have := hb _ (rfl : bmName mSplit = some "split")
        subst this
        rw [RD] at rd
        subst rd
        obtain ⟨t1, t2⟩ := L2.tyV_is I1 r1 (T := "str") rfl
        refine getMethod_builtin t1 F.plainAttrs_str F.slot_str_split F.type_str_split t2 ?_
        refine callBI hpl (thn run1 fun us s2 ⟨vs, H2, ds, h2, μ2, I2, r2, x2, R2, rds, g3⟩ => ?_)
        exact (str_run I2 R2 r1 rds r2 g3).2
      · cases ek
    · cases ek
end
end Ev
end
end
section
/-! E16: what is walked; list comprehensions. -/
set_option linter.all false
set_option maxRecDepth 100000
set_option maxHeartbeats 1000000
noncomputable section
namespace Ev
open PySem PySem.Spec PyProof.Rows PySem.SeqAt
open L2 (V HO Vals VK XK WX SqL SqT Inv PE PT PW PA PS PSs PG PGs PI Cx upd upd_same upd_ne Rd Room EP TP thn OpR CallR TE TT TA It TI PIE Turn FpOk)
variable {ρ : Lk} {C : Call} {W : WX} {X : Cx} {pins : List (Addr × Obj)} {s : Shared} {σ : LS} {H : LH} {μ : Mu} {h : Hp} {k : Nat}

/-- the walk J gives what the source says, from μ, H on -/
structure Walk (ρ : Lk) (μ0 : Mu) (H0 : LH) (S : Src) (J : It) : Prop where
  go : ∀ (μ : Mu) (h : Hp) (H : LH) (i : Nat) (d : D), Ext μ0 H0 μ H → HR ρ μ h H → S.at h i = some (some d) → J.go i H ∧ ∀ x H', J.yld i H x H' → ∃ μ', Ext μ H μ' H' ∧ HR ρ μ' h H' ∧ RD ρ μ' H' d x
  stop : ∀ (μ : Mu) (h : Hp) (H : LH) (i : Nat), Ext μ0 H0 μ H → HR ρ μ h H → S.at h i = some none → J.stop i H
  free : S.lock = none
def relW (ρ : Lk) : Mu → LH → Src → It → Prop := fun μ H S J => Walk ρ μ H S J
def tI (ρ : Lk) (C : Call) (W : WX) (i : I) : TI := fun σ H R => ∃ μ l h, LR ρ μ H l σ ∧ HR ρ μ h H ∧ Good ρ (relW ρ) W (evI ρ.P C i l h) μ σ H R
theorem RDs.none_of {ds : List D} {vs : List V} {i : Nat} (r : RDs ρ μ H ds vs) (e : ds[i]? = none) : vs.length ≤ i := by
  rw [r.length]
  rw [List.getElem?_eq_none_iff] at e
  exact e
theorem Src.free_of {S : Src} (h : S.lock = none) : True := trivial
/-- a list -/
theorem walk_lst {K : PySem.W.Frag} (hK : K = ρ.K) {a : Nat} {p : Addr} (ep : μ.ix[a]? = some p) : Walk ρ μ H (.lst a) (L2.Itl K p) where
  free := rfl
  go := fun μ1 h1 H1 i d x R e => by
    simp only [Src.at] at e
    split at e
    · rename_i xs lk eo
      rw [Option.some.injEq] at e
      obtain ⟨b, eb, ro⟩ := R.get eo
      have ep1 := x.at ep
      rw [ep1] at eb
      cases eb
      cases lk with
      | true => exact ro.elim
      | false =>
        obtain ⟨vs, ev, rv⟩ := ro
        obtain ⟨v, e1, r1⟩ := rv.get e
        refine ⟨⟨vs, v, .inl (.inl ev), e1⟩, fun y H' ⟨e2, q⟩ => ?_⟩
        subst e2
        have := q vs (.inl (.inl ev))
        rw [e1] at this
        cases this
        exact ⟨μ1, Ext.rfl, R, r1⟩
    · cases e
  stop := fun μ1 h1 H1 i x R e => by
    simp only [Src.at] at e
    split at e
    · rename_i xs lk eo
      rw [Option.some.injEq] at e
      obtain ⟨b, eb, ro⟩ := R.get eo
      have ep1 := x.at ep
      rw [ep1] at eb
      cases eb
      cases lk with
      | true => exact ro.elim
      | false =>
        obtain ⟨vs, ev, rv⟩ := ro
        exact ⟨vs, .inl (.inl ev), rv.none_of e⟩
    · cases e
theorem walk_vl {K : PySem.W.Frag} (hK : K = ρ.K) (R0 : HR ρ μ h H) {p : Addr} {xs : List D} (rd : RD ρ μ H (.vl xs) (.ref p)) : Walk ρ μ H (.seq xs) (L2.Itl K p) where
  free := rfl
  go := fun μ1 h1 H1 i d x R e => by
    simp only [Src.at, Option.some.injEq] at e
    obtain ⟨a, vs, ea, sq, rv⟩ := lst_at (xs := xs) R rfl (rd.mono (x.stays R0) x.sub)
    cases ea
    rw [← hK] at sq
    obtain ⟨v, e1, r1⟩ := rv.get e
    refine ⟨⟨_, v, sq, e1⟩, fun y H' ⟨e2, q⟩ => ?_⟩
    subst e2
    have := q _ sq
    rw [e1] at this
    cases this
    exact ⟨μ1, Ext.rfl, R, r1⟩
  stop := fun μ1 h1 H1 i x R e => by
    simp only [Src.at, Option.some.injEq] at e
    obtain ⟨a, vs, ea, sq, rv⟩ := lst_at (xs := xs) R rfl (rd.mono (x.stays R0) x.sub)
    cases ea
    rw [← hK] at sq
    exact ⟨_, sq, rv.none_of e⟩
theorem walk_tup {K : PySem.W.Frag} (hK : K = ρ.K) (R0 : HR ρ μ h H) {p : Addr} {xs : List D} {vs : List V} (rd : RDs ρ μ H xs vs) (sq : SqT ρ.K H p vs) : Walk ρ μ H (.seq xs) (L2.Itt K p) where
  free := rfl
  go := fun μ1 h1 H1 i d x R e => by
    simp only [Src.at, Option.some.injEq] at e
    have sq1 : SqT K H1 p vs := by rw [hK]; exact (x.stays R0).sqT sq
    obtain ⟨v, e1, r1⟩ := (rd.mono (x.stays R0) x.sub).get e
    refine ⟨⟨_, v, sq1, e1⟩, fun y H' ⟨e2, q⟩ => ?_⟩
    subst e2
    have := q _ sq1
    rw [e1] at this
    cases this
    exact ⟨μ1, Ext.rfl, R, r1⟩
  stop := fun μ1 h1 H1 i x R e => by
    simp only [Src.at, Option.some.injEq] at e
    have sq1 : SqT K H1 p vs := by rw [hK]; exact (x.stays R0).sqT sq
    exact ⟨_, sq1, rd.none_of e⟩
theorem walk_str (z : List Nat) : Walk ρ μ H (.seq (z.map fun c => .str [c])) (L2.Its (asStr z)) where
  free := rfl
  go := fun μ1 h1 H1 i d x R e => by
    simp only [Src.at, Option.some.injEq, List.getElem?_map] at e
    cases ez : z[i]? with
    | none => rw [ez] at e; cases e
    | some c =>
      rw [ez] at e
      simp only [Option.map_some, Option.some.injEq] at e
      subst e
      have hi := (List.getElem?_eq_some_iff.mp ez).1
      refine ⟨by show i < (asStr z).cps.size; simpa [asStr] using hi, fun y H' ⟨e2, c', e3, e4⟩ => ?_⟩
      subst e2
      have : c' = c := by
        have q : (asStr z).cps[i]? = z[i]? := by simp [asStr]
        rw [q, ez] at e3
        cases e3
        rfl
      subst this
      subst e4
      exact ⟨μ1, Ext.rfl, R, by rw [RD]; rfl⟩
  stop := fun μ1 h1 H1 i x R e => by
    simp only [Src.at, Option.some.injEq] at e
    rw [List.getElem?_eq_none_iff, List.length_map] at e
    show (asStr z).cps.size ≤ i
    simpa [asStr] using e
theorem walk_rng (lo : Int) (n : Nat) : Walk ρ μ H (.rng lo 1 n) (L2.Itr lo n) where
  free := rfl
  go := fun μ1 h1 H1 i d x R e => by
    simp only [Src.at, Option.some.injEq] at e
    split at e
    · rename_i hi
      cases e
      refine ⟨hi, fun y H' ⟨e2, e3⟩ => ?_⟩
      subst e2 e3
      exact ⟨μ1, Ext.rfl, R, by rw [RD, Int.mul_one]⟩
    · cases e
  stop := fun μ1 h1 H1 i x R e => by
    simp only [Src.at, Option.some.injEq] at e
    split at e
    · cases e
    · rename_i hi
      exact Nat.le_of_not_lt hi
/-- iter(v) of a value that is walked -/
theorem iter_run (c : Ct ρ X) {tg : Expr} (I : Inv X pins σ H s) (R : HR ρ μ h H) {d : D} {v : V} {u : Value} {S : Src} {Q : It → LH → Prop} (rd : RD ρ μ H d v) (ru : L2.RelV v u) (e : srcOf h d = some S) (hf : S.lock = none) (q : ∀ J, Walk ρ μ H S J → Q J H) :
    wpAny (model X.prog X.w) X.A (pyIter u) (PIE X pins σ tg Q) X.xe s := by
  have lst : ∀ {a : Addr} {vs : List V}, v = .ref a → SqL X.K H a vs → Q (L2.Itl X.K a) H → wpAny (model X.prog X.w) X.A (pyIter u) (PIE X pins σ tg Q) X.xe s := fun {a vs} ev sq qq => by
    subst ev
    cases ru
    obtain ⟨its, rv, p, hz⟩ := I.list sq
    exact wpAny_pyIter_list p.isList (L2.pi_one (tk := s.toks) I _ (L2.turn_list a _) ⟨_, Heap.get?_push_size _ rfl, rfl, rfl⟩ qq)
  unfold srcOf at e
  split at e
  · rename_i xs
    obtain ⟨a, vs, rfl, sq, rv⟩ := lst_at (xs := xs) R rfl rd
    cases e
    exact lst rfl (by rw [c.K]; exact sq) (q _ (walk_vl c.K R rd))
  · cases e
    rw [RD] at rd
    obtain ⟨a, vs, rfl, t, rv⟩ := rd
    cases ru
    obtain ⟨its, r1, p, hz⟩ := I.tuple (by rw [c.K]; exact t)
    exact wpAny_pyIter_tuple (show s.heap.IsTuple a its.toArray from p) (L2.pi_one (tk := s.toks) I _ (L2.turn_tuple a _) ⟨_, Heap.get?_push_size _ rfl, rfl, rfl⟩ (q _ (walk_tup c.K R rv t)))
  · rename_i z
    cases e
    rw [RD] at rd
    subst rd
    obtain ⟨t, rfl⟩ := ru
    cases ha : (asStr z).cps.all (· < 128)
    · exact wpAny_pyIter_wide ha (L2.pi_one (tk := s.toks) I _ (L2.turn_str _ (asStr z) t "str_iterator" (.inr rfl)) ⟨_, Heap.get?_push_size _ rfl, rfl, rfl⟩ (q _ (walk_str z)))
    · exact wpAny_pyIter_ascii ha (L2.pi_one (tk := s.toks) I _ (L2.turn_str _ (asStr z) t "str_ascii_iterator" (.inl rfl)) ⟨_, Heap.get?_push_size _ rfl, rfl, rfl⟩ (q _ (walk_str z)))
  · rename_i a
    split at e
    · rename_i xs lk eo
      cases e
      obtain ⟨p, ws, rfl, ep, ev, rv, e0⟩ := R.lst eo rd
      exact lst rfl (.inl (.inl ev)) (q _ (walk_lst c.K ep))
    · cases e
  · cases e
theorem srcOf_free {d : D} {S : Src} (e : srcOf h d = some S) : S.lock = none := by
  unfold srcOf at e
  split at e
  · cases e; rfl
  · cases e; rfl
  · cases e; rfl
  · split at e
    · cases e; rfl
    · cases e
  · cases e
section
variable {e : Expr} {e' : E} {tg : Expr}
theorem s_it (c : Ct ρ X) (he : PE X e (tE ρ C W e')) : PI X tg e (tI ρ C W (.it e')) := by
  refine ⟨fun pins s σ H R0 I ⟨μ, l, h, hl, R, g⟩ => ?_⟩
  rw [evI] at g
  refine thn (he.run pins s σ H _ I ⟨μ, l, h, hl, R, g.bind⟩) fun v s1 ⟨u, H1, I1, r1, d, h1, μ1, er, x1, R1, rd, g1⟩ => ?_
  cases es : srcOf h1 d with
  | none => rw [es] at g1; exact g1.elim
  | some S =>
    rw [es] at g1
    exact iter_run c I1 R1 rd r1 es (srcOf_free es) fun J w => Good.ok g1 Ext.rfl R1 w
theorem s_rng {p pos : Pos} {es : List Expr} {es' : EL} (ha : PA X es (tEL ρ C W es')) (hg : L2.Gl X "range") (hm : X.mg "range" = none) (hpl : (backTo pos (starEach es X.env)).any (·.1) = false) : PI X tg (.Call (.Name "range" p) es [] pos) (tI ρ C W (.rng es')) := by
  refine ⟨fun pins s σ H Rr I ⟨μ, l, h, hl, R, g⟩ => ?_⟩
  rw [evI] at g
  refine Call_ (L2.ld_blt I hg hm boot_range (PyProof.Rows.callWith_type hpl (evalArgs_any hpl (thn (ha.run pos pins s σ H _ I ⟨μ, l, h, hl, R, g.bind⟩) fun us s1 ⟨vs, H1, I1, r1, ds, h1, μ1, er, x1, R1, rd, g1⟩ => ?_))))
  cases es : rngSrc ds with
  | none => rw [es] at g1; exact g1.elim
  | some S =>
    rw [es] at g1
    unfold rngSrc at es
    split at es
    · rename_i n
      split at es
      · rename_i hb
        cases es
        rw [Bool.and_eq_true, decide_eq_true_eq, decide_eq_true_eq] at hb
        obtain ⟨v, rfl, rv⟩ := rd.one_inv
        rw [RD] at rv
        subst rv
        obtain ⟨u, rfl, t, rfl⟩ := L2.vals1 r1
        exact call_range_1 (L2.range_it I1 (by omega) (by omega) hb.1 hb.2 (Good.ok g1 Ext.rfl R1 (by rw [Int.sub_zero]; exact walk_rng 0 n.toNat)))
      · cases es
    · rename_i a b
      split at es
      · rename_i hb
        cases es
        simp only [Bool.and_eq_true, decide_eq_true_eq] at hb
        obtain ⟨v, w, rfl, rv, rw'⟩ := rd.two_inv
        rw [RD] at rv rw'
        subst rv rw'
        obtain ⟨u, z, rfl, ⟨t, rfl⟩, ⟨t2, rfl⟩⟩ := L2.vals2 r1
        exact call_range_2 (L2.range_it I1 hb.1 hb.2.1 hb.2.2.1 hb.2.2.2 (Good.ok g1 Ext.rfl R1 (walk_rng a (b - a).toNat)))
      · cases es
    · cases es
end
end Ev
end
end
section
/-! E17: targets; list comprehensions. -/
set_option linter.all false
set_option maxRecDepth 100000
set_option maxHeartbeats 1000000
noncomputable section
namespace Ev
open PySem PySem.Spec PyProof.Rows PySem.SeqAt
open L2 (V HO Vals VK XK WX SqL SqT Inv PE PT PW PA PS PSs PG PGs PI Cx upd upd_same upd_ne Rd Room EP TP thn OpR CallR TE TT TA It TI PIE Turn FpOk TG TGs PTs)
variable {ρ : Lk} {C : Call} {W : WX} {X : Cx} {pins : List (Addr × Obj)} {s : Shared} {σ : LS} {H : LH} {μ : Mu} {h : Hp} {k : Nat}

/-! ### targets -/
mutual
/-- the slots that a target stores -/
def slT : T → List Nat
  | .loc i => [i]
  | .tup ts => slTL ts
  | .att _ _ => []
  | .sub _ _ => []
def slTL : TL → List Nat
  | .nil => []
  | .cons t r => slT t ++ slTL r
end
def GoodT (ρ : Lk) (W : WX) (sl : List Nat) (r : R Loc) (μ : Mu) (σ : LS) (H : LH) (Q : LS → LH → Prop) : Prop := match r with
  | .ok l' h' => ∀ σ' H' μ', Ext μ H μ' H' → HR ρ μ' h' H' → LR ρ μ' H' l' σ' → (∀ i, i ∉ sl → σ'[i]? = σ[i]?) → σ'.length = σ.length → Q σ' H'
  | .exc c vs h' => ∀ cls dd H' μ', Ext μ H μ' H' → HR ρ μ' h' H' → XD ρ μ' H' c vs cls dd → W cls dd σ H'
  | .bad => False
def tT (ρ : Lk) (C : Call) (W : WX) (t : T) : TG := fun v σ H Q => ∃ μ d l h, LR ρ μ H l σ ∧ HR ρ μ h H ∧ RD ρ μ H d v ∧ GoodT ρ W (slT t) (evT ρ.P C t d l h) μ σ H Q
def tTs (ρ : Lk) (C : Call) (W : WX) (ts : TL) : TGs := fun vs σ H Q => ∃ μ ds l h, LR ρ μ H l σ ∧ HR ρ μ h H ∧ RDs ρ μ H ds vs ∧ GoodT ρ W (slTL ts) (evTL ρ.P C ts ds l h) μ σ H Q
theorem LR.set {l : Loc} {σ : LS} {i : Nat} {d : D} {v : V} (hl : LR ρ μ H l σ) (r : RD ρ μ H d v) : LR ρ μ H (l.set i (some d)) (σ.set i (some v)) := by
  refine ⟨by rw [List.length_set, List.length_set]; exact hl.1, fun j e q => ?_⟩
  by_cases hij : i = j
  · subst hij
    by_cases hi : i < l.length
    · rw [List.getElem?_set_self hi] at q
      cases q
      exact ⟨v, by rw [List.getElem?_set_self (by rw [hl.1]; exact hi)], r⟩
    · rw [List.getElem?_eq_none (by rw [List.length_set]; omega)] at q
      cases q
  · rw [List.getElem?_set_ne hij] at q
    obtain ⟨w, e1, e2⟩ := hl.2 j e q
    exact ⟨w, by rw [List.getElem?_set_ne hij]; exact e1, e2⟩
/-- several targets have no error's way out -/
theorem evTL_noexc {P : Prog} : ∀ (ts : TL) (ds : List D) (l : Loc) (h : Hp) (c : Nat) (vs : List D) (h' : Hp), evTL P C ts ds l h ≠ .exc c vs h' := by
  intro ts ds l h c vs h' z
  induction ds generalizing ts l h with
  | nil => cases ts <;> simp [evTL] at z
  | cons d r ih =>
    cases ts with
    | nil => simp [evTL] at z
    | cons t ts =>
      rw [evTL] at z
      cases q : evT P C t d l h with
      | bad => rw [q] at z; cases z
      | exc => rw [q] at z; cases z
      | ok l2 h2 => rw [q] at z; exact ih ts l2 h2 z
def lenTL : TL → Nat
  | .nil => 0
  | .cons _ r => lenTL r + 1
theorem evTL_len {P : Prog} : ∀ (ts : TL) (ds : List D) (l : Loc) (h : Hp) (l' : Loc) (h' : Hp), evTL P C ts ds l h = .ok l' h' → ds.length = lenTL ts := by
  intro ts ds l h l' h' z
  induction ds generalizing ts l h with
  | nil => cases ts with
    | nil => rfl
    | cons t ts => simp [evTL] at z
  | cons d r ih =>
    cases ts with
    | nil => simp [evTL] at z
    | cons t ts =>
      rw [evTL] at z
      cases q : evT P C t d l h with
      | bad => rw [q] at z; cases z
      | exc => rw [q] at z; cases z
      | ok l2 h2 =>
        rw [q] at z
        rw [List.length_cons, lenTL, ih ts l2 h2 z]
section
variable {e : Expr} {es : List Expr} {t' : T} {ts' : TL} {pos : Pos}
theorem g_loc {i : Nat} {x : Str} (hN : X.N.Nodup) (hi : X.N[i]? = some x) (hx : L2.Loc X.env.scope x) (hf : X.fn x = true ∨ X.env.scope.names.lookup x = some .local) : PG X (.Name x pos) (tT ρ C W (.loc i)) := by
  refine ⟨fun pins s σ H v u Q I ru ⟨μ, d, l, h, hl, R, rd, g⟩ => ?_⟩
  refine (L2.pg_name hN hi hx hf).run pins s σ H v u Q I ru ?_
  rw [evT] at g
  split at g
  · rename_i hlt
    refine g (σ.set i (some v)) H μ Ext.rfl R (hl.set rd) (fun j hj => ?_) (by rw [List.length_set])
    rw [List.getElem?_set_ne]
    intro z
    subst z
    exact hj (by rw [slT]; simp)
  · exact g.elim
theorem gs_nil : PGs X [] (tTs ρ C W .nil) := by
  refine ⟨fun pins s σ H vs us Q I ru ⟨μ, ds, l, h, hl, R, rd, g⟩ => ?_⟩
  refine L2.pgs_nil.run pins s σ H vs us Q I ru ?_
  cases ds with
  | nil =>
    rw [evTL] at g
    rw [RDs] at rd
    exact ⟨rd, g σ H μ Ext.rfl R hl (fun _ _ => rfl) rfl⟩
  | cons d r =>
    rw [evTL] at g
    · exact g.elim
    all_goals simp
theorem gs_cons (h1 : PG X e (tT ρ C W t')) (h2 : PGs X es (tTs ρ C W ts')) (hs : (assignEach (e :: es) X.env).map (·.2) = assign e X.env :: (assignEach es X.env).map (·.2)) : PGs X (e :: es) (tTs ρ C W (.cons t' ts')) := by
  refine ⟨fun pins s σ H vs us Q I ru ⟨μ, ds, l, h, hl, R, rd, g⟩ => ?_⟩
  refine (L2.pgs_cons h1 h2 hs).run pins s σ H vs us Q I ru ?_
  cases ds with
  | nil =>
    rw [evTL] at g
    · exact g.elim
    all_goals simp
  | cons d r =>
    rw [evTL] at g
    rw [RDs] at rd
    obtain ⟨v, q, rfl, rv, rq⟩ := rd
    refine ⟨v, q, rfl, μ, d, l, h, hl, R, rv, ?_⟩
    cases et : evT ρ.P C t' d l h with
    | bad => rw [et] at g; exact g
    | exc => rw [et] at g; exact g.elim
    | ok l1 h1' =>
      rw [et] at g
      intro σ1 H1 μ1 x1 R1 hl1 hk1 hn1
      refine ⟨μ1, r, l1, h1', hl1, R1, rq.mono (x1.stays R) x1.sub, ?_⟩
      have g : GoodT ρ W (slTL (.cons t' ts')) (evTL ρ.P C ts' r l1 h1') μ σ H Q := g
      cases e2 : evTL ρ.P C ts' r l1 h1' with
      | bad => rw [e2] at g; exact g
      | exc c2 vs2 h2' =>
        exact (evTL_noexc _ _ _ _ _ _ _ e2).elim
      | ok l2 h2' =>
        rw [e2] at g
        intro σ2 H2 μ2 x2 R2 hl2 hk2 hn2
        refine g σ2 H2 μ2 (x1.trans x2) R2 hl2 (fun i hi => ?_) (hn2.trans hn1)
        rw [slTL, List.mem_append, not_or] at hi
        rw [hk2 i hi.2, hk1 i hi.1]
theorem g_tup {j : Nat} (c : Ct ρ X) (h : PGs X es (tTs ρ C W ts')) (hn : (assignEach es X.env).length = es.length) (hst : (assignEach es X.env).findIdx? (·.1) = none) (hl : es.length = lenTL ts') : PG X (.Tuple es j pos) (tT ρ C W (.tup ts')) := by
  refine ⟨fun pins s σ H v u Q I ru ⟨μ, d, l, h0, hl0, R, rd, g⟩ => ?_⟩
  refine (L2.pg_tup (n := es.length) c.calm h hn hst).run pins s σ H v u Q I ru ?_
  cases d with
  | tup xs =>
    rw [evT] at g
    have g : GoodT ρ W (slTL ts') (evTL ρ.P C ts' xs l h0) μ σ H Q := g
    rw [RD] at rd
    obtain ⟨a, vs, rfl, t, q⟩ := rd
    have hlen : xs.length = es.length := by
      cases e2 : evTL ρ.P C ts' xs l h0 with
      | ok l2 h2 => rw [hl]; exact evTL_len _ _ _ _ _ _ e2
      | bad => rw [e2] at g; exact g.elim
      | exc => exact (evTL_noexc _ _ _ _ _ _ _ e2).elim
    exact ⟨a, vs, rfl, by rw [c.K]; exact t, by rw [q.length]; exact hlen, μ, xs, l, h0, hl0, R, q, g⟩
  | _ => simp only [evT] at g; exact g.elim
end
/-! ### tests of a comprehension -/
def tCd (ρ : Lk) (C : Call) (W : WX) (cs : EL) : TT := fun σ H Q => ∃ μ l h, LR ρ μ H l σ ∧ HR ρ μ h H ∧ Good ρ relB W (evC ρ.P C cs l h) μ σ H Q
theorem cd_nil : PTs X [] (tCd ρ C W .nil) := ⟨fun pins s σ H Q I ⟨μ, l, h, hl, R, g⟩ => by
  rw [evC] at g
  exact L2.pts_nil.run pins s σ H Q I (g.ok Ext.rfl R rfl)⟩
theorem cd_one {c : Expr} {c' : E} {b : Bool} (h : PT X c (tB ρ C W c')) : PTs X [c] (tCd ρ C W (.cons b c' .nil)) := ⟨fun pins s σ H Q I ⟨μ, l, h0, hl, R, g⟩ => by
  refine (L2.pts_one h).run pins s σ H Q I ⟨μ, l, h0, hl, R, ?_⟩
  have e : evC ρ.P C (.cons b c' .nil) l h0 = evB ρ.P C c' l h0 := by
    unfold evB
    rw [evC]
    cases evE ρ.P C c' l h0 with
    | bad => rfl
    | exc => rfl
    | ok d h1 =>
      simp only [Ev.R.bind_ok]
      cases q : truth h1 d with
      | none => rfl
      | some k => cases k <;> simp only [evC]
  rw [e] at g
  exact g⟩
/-! ### list comprehensions -/
theorem wipe_at : ∀ (l : Loc) (own : List Nat) (i : Nat) (d : D), (Ev.wipe l own)[i]? = some (some d) → l[i]? = some (some d) ∧ i ∉ own
  | l, [], i, d, e => ⟨e, by simp⟩
  | l, j :: r, i, d, e => by
    rw [Ev.wipe] at e
    obtain ⟨e1, e2⟩ := wipe_at (l.set j none) r i d e
    by_cases hij : j = i
    · subst hij
      by_cases hj : j < l.length
      · rw [List.getElem?_set_self hj] at e1; cases e1
      · rw [List.getElem?_eq_none (by rw [List.length_set]; omega)] at e1; cases e1
    · rw [List.getElem?_set_ne hij] at e1
      exact ⟨e1, by simp only [List.mem_cons, not_or]; exact ⟨fun z => hij z.symm, e2⟩⟩
theorem wipe_len : ∀ (l : Loc) (own : List Nat), (Ev.wipe l own).length = l.length
  | l, [] => rfl
  | l, j :: r => by rw [Ev.wipe, wipe_len (l.set j none) r, List.length_set]
theorem LR.wipe {l : Loc} {σ : LS} (hl : LR ρ μ H l σ) (own : List Nat) : LR ρ μ H (Ev.wipe l own) (L2.wipe σ own) := by
  refine ⟨by rw [L2.wipe_length, wipe_len, hl.1], fun i d e => ?_⟩
  obtain ⟨e1, e2⟩ := wipe_at l own i d e
  obtain ⟨v, h1, h2⟩ := hl.2 i d e1
  exact ⟨v, by rw [L2.wipe_out e2]; exact h1, h2⟩
theorem wipe_mem {σ : LS} {i : Nat} : ∀ {vs : List Nat}, i ∈ vs → (L2.wipe σ vs)[i]? = if i < σ.length then some none else none
  | v :: r, hm => by
    rw [L2.wipe]
    by_cases hvi : v = i
    · subst hvi
      by_cases hv : v < σ.length
      · rw [List.getElem?_set_self (by rw [L2.wipe_length]; exact hv), if_pos hv]
      · rw [List.getElem?_eq_none (by rw [List.length_set, L2.wipe_length]; omega), if_neg hv]
    · rw [List.getElem?_set_ne hvi]
      rcases List.mem_cons.mp hm with z | z
      · exact absurd z.symm hvi
      · exact wipe_mem z
theorem wipe_same {σ σ' : LS} {vs : List Nat} (hl : σ'.length = σ.length) (h : ∀ i, i ∉ vs → σ'[i]? = σ[i]?) : L2.wipe σ' vs = L2.wipe σ vs := by
  refine List.ext_getElem? fun i => ?_
  by_cases hi : i ∈ vs
  · rw [wipe_mem hi, wipe_mem hi, hl]
  · rw [L2.wipe_out hi, L2.wipe_out hi, h i hi]
abbrev noW : WX := fun _ _ _ _ => False
end Ev
end
end
section
/-! E18: list comprehensions. -/
set_option linter.all false
set_option maxRecDepth 100000
set_option maxHeartbeats 1000000
noncomputable section
namespace Ev
open PySem PySem.Spec PyProof.Rows PySem.SeqAt
open L2 (V HO Vals VK XK WX SqL SqT Inv PE PT PW PA PS PSs PG PGs PI Cx upd upd_same upd_ne Rd Room EP TP thn OpR CallR TE TT TA It TI PIE Turn FpOk TG TGs PTs)
variable {ρ : Lk} {C : Call} {W : WX} {X : Cx} {pins : List (Addr × Obj)} {s : Shared} {σ : LS} {H : LH} {μ : Mu} {h : Hp} {k : Nat}

/-- what one turn of a comprehension computes -/
def lcStep (P : Prog) (C : Call) (own : List Nat) (e : E) (t : T) (c : EL) (l : Loc) (d : D) (h : Hp) : R (Option D) :=
  (evT P C t d (Ev.wipe l own) h).bind fun l2 h2 => (evC P C c l2 h2).bind fun k h3 => if k then (evE P C e l2 h3).bind fun v h4 => .ok (some v) h4 else .ok none h3
theorem evE_lc {P : Prog} {kf : Bool} {own : List Nat} {e : E} {t : T} {i : I} {c : EL} {l : Loc} {h : Hp} : evE P C (.lc kf own e t i c) l h = (evI P C i l h).bind fun S h1 => (lcLoop S (lcStep P C own e t c l) h1).bind fun vs h2 => lsR kf h2 vs := by
  rw [evE]
  rfl
/-- the loop's state: what is left of it ends as it ends -/
def LcW (ρ : Lk) (S : Src) (step : D → Hp → R (Option D)) (out : R (List D)) (μ1 : Mu) (H1 : LH) (D : Addr) (i m : Nat) (H : LH) : Prop :=
  ∃ μ h acc vacc, iterN (lcTurn S step) m (i, h, acc) = some out ∧ Ext μ1 H1 μ H ∧ HR ρ μ h H ∧ D ∈ μ.ow ∧ H D = some (.lst vacc) ∧ RDs ρ μ H acc vacc
/-- the new list is kept -/
theorem Ext.away {μ μ' : Mu} {h : Hp} {H H' : LH} (R : HR ρ μ h H) (x : Ext μ H μ' H') {p : Addr} {o : HO} (hp : p ∈ μ.ow) (e : H p = some o) : p ∈ μ'.ow ∧ H' p = some o :=
  ⟨x.owk p hp, x.keep p o (R.ow p hp).1 e⟩
theorem ok_of_bind {α β : Type} {r : Ev.R α} {f : α → Hp → Ev.R β} {b : β} {h' : Hp} (e : r.bind f = .ok b h') : ∃ a h1, r = .ok a h1 ∧ f a h1 = .ok b h' := by
  cases r with
  | ok l1 h1 => exact ⟨l1, h1, rfl, e⟩
  | exc => cases e
  | bad => cases e
theorem lc_good {kf : Bool} {own : List Nat} {e' : E} {t' : T} {i' : I} {c' : EL} {Q : VK} (hsl : ∀ i ∈ slT t', i ∈ own) (hq : tE ρ C W (.lc kf own e' t' i' c') σ H Q) : L2.tLc (tI ρ C W i') (tT ρ C noW t') (tCd ρ C noW c') (tE ρ C noW e') own σ H Q := by
  obtain ⟨μ, l, h, hl, R, g⟩ := hq
  rw [evE_lc] at g
  refine ⟨μ, l, h, hl, R, g.bind.mono fun J H1 ⟨S, h1, μ1, er, x1, R1, wk, g1⟩ D hD => ?_⟩
  have wk : Walk ρ μ1 H1 S J := wk
  have hl1 := hl.mono (x1.stays R) x1.sub
  -- the loop ends well
  have hlk := wk.free
  have hloop : ∃ acc h2 n, lcLoop S (lcStep ρ.P C own e' t' c' l) h1 = .ok acc h2 ∧ iterN (lcTurn S (lcStep ρ.P C own e' t' c' l)) n (0, h1, []) = some (.ok acc h2) := by
    cases el : lcLoop S (lcStep ρ.P C own e' t' c' l) h1 with
    | bad => rw [el] at g1; exact g1.elim
    | exc c vs h2 =>
      unfold lcLoop at el
      split at el <;> cases el
    | ok acc h2 =>
      unfold lcLoop at el
      split at el
      · rename_i acc' h' eit
        have e1 : locked S h1 = h1 := by unfold locked; rw [hlk]
        have e2 : unlocked S h1 h' = h' := by unfold unlocked; rw [hlk]
        rw [e2] at el
        cases el
        rw [e1] at eit
        rcases iter_cases (lcTurn S (lcStep ρ.P C own e' t' c' l)) .bad (0, h1, []) with ⟨n, q⟩ | q
        · rw [eit] at q
          exact ⟨acc, h2, n, rfl, q⟩
        · rw [eit] at q
          cases q
      · cases el
  obtain ⟨acc, h2, n, el, en⟩ := hloop
  rw [el] at g1
  have g1 : Good ρ (RD ρ) W (lsR kf h2 acc) μ1 σ H1 Q := g1
  have x0 : Ext μ1 H1 (μ1.own D) (upd H1 D (.lst [])) := Ext.own R1 hD _
  have hD0 : D ∉ μ1.ow := fun z => R1.new hD (.inr z)
  refine ⟨LcW ρ S (lcStep ρ.P C own e' t' c' l) (.ok acc h2) μ1 H1 D, ⟨n, μ1.own D, h1, [], [], en, x0, R1.own hD, List.mem_cons_self, upd_same, by rw [RDs]⟩, fun i m H2 ⟨μ2, h3, ac, vac, en2, x2, R2, hD2, eD2, rac⟩ => ?_⟩
  cases m with
  | zero => simp [iterN] at en2
  | succ m =>
    rw [iterN] at en2
    cases ea : S.at h3 i with
    | none =>
      simp only [lcTurn, ea] at en2
      cases en2
    | some od =>
      cases od with
      | none =>
        simp only [lcTurn, ea, Option.some.injEq] at en2
        cases en2
        refine .inl ⟨wk.stop μ2 h2 H2 i x2 R2 ea, ?_⟩
        unfold lsR at g1
        cases kf with
        | true =>
          have x3 := Ext.adopt hD hD0 x2
          refine Good.ok g1 x3 (adopt R2 hD2 eD2 rac) ?_
          rw [RD]
          refine ⟨D, ?_, rfl⟩
          show (μ2.ix ++ [D])[h2.length]? = some D
          rw [← R2.len, List.getElem?_append_right (Nat.le_refl _), Nat.sub_self]
          rfl
        | false =>
          refine Good.ok g1 (x2.let hD0) (R2.let D) ?_
          rw [RD]
          exact ⟨D, vac, rfl, .inr ⟨fun z => z.elim (R2.ow D hD2).1 fun z => (Mu.mem_let.mp z).2 rfl, eD2⟩, rac.mono Stays.let Sub.let⟩
      | some d =>
        obtain ⟨go, yl⟩ := wk.go μ2 h3 H2 i d x2 R2 ea
        refine .inr ⟨go, fun H' => LcW ρ S (lcStep ρ.P C own e' t' c' l) (.ok acc h2) μ1 H1 D (i + 1) m H', fun H' w => ⟨m, Nat.lt_succ_self m, w⟩, fun x H3 yx => ?_⟩
        obtain ⟨μ3, x3, R3, rd3⟩ := yl x H3 yx
        obtain ⟨hD3, eD3⟩ := x3.away R2 hD2 eD2
        have rac3 := rac.mono (x3.stays R2) x3.sub
        have hl3 := ((hl1.mono (x2.stays R1) x2.sub).mono (x3.stays R2) x3.sub).wipe own
        simp only [lcTurn, ea] at en2
        -- the turn's value
        cases es : lcStep ρ.P C own e' t' c' l d h3 with
        | bad => rw [es] at en2; cases en2
        | exc => rw [es] at en2; cases en2
        | ok ov h4 =>
          have es0 := es
          unfold lcStep at es
          obtain ⟨l5, h5, et, es⟩ := ok_of_bind es
          obtain ⟨kk, h6, ec, es⟩ := ok_of_bind es
          refine ⟨μ3, d, _, h3, hl3, R3, rd3, ?_⟩
          rw [et]
          intro σ4 H4 μ4 x4 R4 hl4 hk4 hn4
          refine ⟨?_, μ4, l5, h5, hl4, R4, ?_⟩
          · refine List.ext_getElem? fun j => ?_
            by_cases hj : j ∈ own
            · rw [wipe_mem hj, wipe_mem hj, hn4, L2.wipe_length]
            · rw [L2.wipe_out hj, L2.wipe_out hj, hk4 j (fun z => hj (hsl j z)), L2.wipe_out hj]
          · rw [ec]
            intro b H5 μ5 x5 R5 eb
            obtain rfl : kk = b := eb
            cases kk with
            | false =>
              rw [if_neg (by simp)] at es
              cases es
              rw [es0] at en2
              simp only [] at en2
              rw [if_neg (by simp)]
              have xx := (x3.trans x4).trans x5
              obtain ⟨hD5, eD5⟩ := xx.away R2 hD2 eD2
              exact ⟨μ5, h4, ac, vac, en2, x2.trans xx, R5, hD5, eD5, rac.mono (xx.stays R2) xx.sub⟩
            | true =>
              rw [if_pos rfl] at es
              obtain ⟨v6, h7, ee, es⟩ := ok_of_bind es
              cases es
              rw [es0] at en2
              simp only [] at en2
              rw [if_pos rfl]
              refine ⟨μ5, l5, h6, hl4.mono (x5.stays R4) x5.sub, R5, ?_⟩
              rw [ee]
              intro y H6 μ6 x6 R6 ry
              have xx := ((x3.trans x4).trans x5).trans x6
              obtain ⟨hD6, eD6⟩ := xx.away R2 hD2 eD2
              have rac6 := rac.mono (xx.stays R2) xx.sub
              by_cases hz : okLen (ac.length + 1) = true
              · rw [if_pos hz] at en2
                simp only [] at en2
                have hz := of_decide_eq_true hz
                obtain ⟨R7, st7⟩ := R6.write (o' := .lst (vac ++ [y])) hD6 eD6 (fun _ z => by cases z) (fun _ _ z => by cases z)
                exact ⟨vac, eD6, by rw [rac6.length]; omega, μ6, h4, ac ++ [v6], vac ++ [y], en2, (x2.trans xx).write hD eD6 (fun _ _ z => by cases z), R7, hD6, upd_same, (rac6.append (RDs.one ry)).mono st7 fun _ _ e => e⟩
              · rw [if_neg hz] at en2
                cases en2
section
variable {elt tg iter : Expr} {ifs : List Expr} {scope : Scope} {own : List (Str × Nat)} {pos : Pos} {e' : E} {t' : T} {i' : I} {c' : EL}
theorem s_lc {kf : Bool} (c : Ct ρ X) (hN : X.N.Nodup) (hi : PI X tg iter (tI ρ C W i')) (ok : L2.BlkOk X.N X.env.scope scope own) (hsl : ∀ i ∈ slT t', i ∈ own.map (·.2))
    (hg : ∀ (s : Shared) (H : LH) (A : Addr) (cl : List (Str × Addr)) (fp : List Addr), PG (X.blk s H scope (compEnvC scope cl A X.env) fp) tg (tT ρ C noW t'))
    (ht : ∀ (s : Shared) (H : LH) (A : Addr) (cl : List (Str × Addr)) (fp : List Addr), PTs (X.blk s H scope (compEnvC scope cl A X.env) fp) ifs (tCd ρ C noW c'))
    (he : ∀ (s : Shared) (H : LH) (A : Addr) (cl : List (Str × Addr)) (fp : List Addr), PE (X.blk s H scope (compEnvC scope cl A X.env) fp) elt (tE ρ C noW e'))
    (hs : ∀ x, foldedSetIterable iter X.env x = pure x) : PE X (.ListComp elt [⟨tg, iter, ifs, 0⟩] scope pos) (tE ρ C W (.lc kf (own.map (·.2)) e' t' i' c')) :=
  PE.weak (L2.pe_lc c.calm hN hi ok hg ht he hs) fun σ H Q hq => lc_good hsl hq
end
end Ev
end
end
section
/-! E19: statements. -/
set_option linter.all false
set_option maxRecDepth 100000
set_option maxHeartbeats 1000000
noncomputable section
namespace Ev
open PySem PySem.Spec PyProof.Rows PySem.SeqAt
open L2 (V HO Vals VK XK WX SqL SqT Inv PE PT PW PA PS PSs PG PGs PI Cx upd upd_same upd_ne Rd Room EP TP thn OpR CallR TE TT TA It TI PIE Turn FpOk TG TGs PTs TS Ends)
variable {ρ : Lk} {C : Call} {W : WX} {X : Cx} {pins : List (Addr × Obj)} {s : Shared} {σ : LS} {H : LH} {μ : Mu} {h : Hp} {k : Nat}

def GoodS (ρ : Lk) (W : WX) (r : RS) (D : Ends) (μ : Mu) (H : LH) : Prop := match r with
  | .nxt l h' => ∀ σ' H' μ', Ext μ H μ' H' → HR ρ μ' h' H' → LR ρ μ' H' l σ' → D.nx σ' H'
  | .ret d _ h' => ∀ v H' μ', Ext μ H μ' H' → HR ρ μ' h' H' → RD ρ μ' H' d v → D.rt v H'
  | .brk l h' => ∀ σ' H' μ', Ext μ H μ' H' → HR ρ μ' h' H' → LR ρ μ' H' l σ' → D.bk σ' H'
  | .cnt l h' => ∀ σ' H' μ', Ext μ H μ' H' → HR ρ μ' h' H' → LR ρ μ' H' l σ' → D.ct σ' H'
  | .exc c vs l h' => ∀ cls dd σ' H' μ', Ext μ H μ' H' → HR ρ μ' h' H' → LR ρ μ' H' l σ' → XD ρ μ' H' c vs cls dd → W cls dd σ' H'
  | .bad => False
def tS (ρ : Lk) (C : Call) (W : WX) (st : S) : TS := fun D σ H => ∃ μ l h, LR ρ μ H l σ ∧ HR ρ μ h H ∧ GoodS ρ W (evS ρ.P C st l h) D μ H
def tSL (ρ : Lk) (C : Call) (W : WX) (st : SL) : TS := fun D σ H => ∃ μ l h, LR ρ μ H l σ ∧ HR ρ μ h H ∧ GoodS ρ W (evSL ρ.P C st l h) D μ H
theorem GoodS.shift {r : RS} {D : Ends} {μ1 : Mu} {H1 : LH} (g : GoodS ρ W r D μ H) (x : Ext μ H μ1 H1) : GoodS ρ W r D μ1 H1 := by
  cases r with
  | nxt l h' => exact fun σ' H' μ' x2 R2 l2 => g σ' H' μ' (x.trans x2) R2 l2
  | ret d l h' => exact fun v H' μ' x2 R2 l2 => g v H' μ' (x.trans x2) R2 l2
  | brk l h' => exact fun σ' H' μ' x2 R2 l2 => g σ' H' μ' (x.trans x2) R2 l2
  | cnt l h' => exact fun σ' H' μ' x2 R2 l2 => g σ' H' μ' (x.trans x2) R2 l2
  | exc c vs l h' => exact fun cls dd σ' H' μ' x2 R2 l2 => g cls dd σ' H' μ' (x.trans x2) R2 l2
  | bad => exact g
/-- an expression of a statement -/
theorem GoodS.toS {α β : Type} {rel : Mu → LH → α → β → Prop} {r : R α} {l : Loc} {f : α → Hp → RS} {D : Ends} (hl : LR ρ μ H l σ) (R : HR ρ μ h H) (g : GoodS ρ W (r.toS l f) D μ H) :
    Good ρ rel W r μ σ H (fun b H1 => ∃ a h1 μ1, r = .ok a h1 ∧ Ext μ H μ1 H1 ∧ HR ρ μ1 h1 H1 ∧ rel μ1 H1 a b ∧ GoodS ρ W (f a h1) D μ1 H1) := by
  cases r with
  | bad => exact g.elim
  | exc c vs h' => exact fun cls dd H' μ' x R' xd => g cls dd σ H' μ' x R' (hl.mono (x.stays R) x.sub) xd
  | ok a h' =>
    have g : GoodS ρ W (f a h') D μ H := g
    exact fun b H1 μ1 x1 R1 rb => ⟨a, h', μ1, rfl, x1, R1, rb, g.shift x1⟩
/-- a store of a statement -/
theorem GoodS.toT {sl : List Nat} {r : Ev.R Loc} {l : Loc} {f : Loc → Hp → RS} {D : Ends} (hl : LR ρ μ H l σ) (R : HR ρ μ h H) (g : GoodS ρ W (r.toS l f) D μ H) :
    GoodT ρ W sl r μ σ H (fun σ1 H1 => ∃ l1 h1 μ1, r = .ok l1 h1 ∧ Ext μ H μ1 H1 ∧ HR ρ μ1 h1 H1 ∧ LR ρ μ1 H1 l1 σ1 ∧ GoodS ρ W (f l1 h1) D μ1 H1) := by
  cases r with
  | bad => exact g.elim
  | exc c vs h' => exact fun cls dd H' μ' x R' xd => g cls dd σ H' μ' x R' (hl.mono (x.stays R) x.sub) xd
  | ok a h' =>
    have g : GoodS ρ W (f a h') D μ H := g
    exact fun σ1 H1 μ1 x1 R1 l1 _ _ => ⟨a, h', μ1, rfl, x1, R1, l1, g.shift x1⟩
theorem GoodT.mono {sl : List Nat} {r : R Loc} {Q Q' : LS → LH → Prop} (g : GoodT ρ W sl r μ σ H Q) (hq : ∀ σ' H', Q σ' H' → Q' σ' H') : GoodT ρ W sl r μ σ H Q' := by
  cases r with
  | bad => exact g
  | exc => exact g
  | ok a h' => exact fun σ1 H1 μ1 x1 R1 l1 k1 n1 => hq _ _ (g σ1 H1 μ1 x1 R1 l1 k1 n1)
theorem PS.weak {st : Stmt} {t t' : TS} (p : PS X st t) (w : ∀ D σ H, t' D σ H → t D σ H) : PS X st t' := ⟨fun pins s σ H D I h => p.run pins s σ H D I (w _ _ _ h)⟩
theorem PSs.weak {st : List Stmt} {t t' : TS} (p : PSs X st t) (w : ∀ D σ H, t' D σ H → t D σ H) : PSs X st t' := ⟨fun pins s σ H D I h => p.run pins s σ H D I (w _ _ _ h)⟩
section
variable {e tg : Expr} {e' : E} {t' : T} {st : Stmt} {rest : List Stmt} {s' : S} {r' : SL} {pos : Pos}
theorem b_nil : PSs X [] (tSL ρ C W .nil) := PSs.weak L2.pss_nil fun D σ H ⟨μ, l, h, hl, R, g⟩ => by
  rw [evSL] at g
  exact g σ H μ Ext.rfl R hl
theorem b_cons (h1 : PS X st (tS ρ C W s')) (h2 : PSs X rest (tSL ρ C W r')) : PSs X (st :: rest) (tSL ρ C W (.cons s' r')) := PSs.weak (L2.pss_cons h1 h2) fun D σ H ⟨μ, l, h, hl, R, g⟩ => by
  rw [evSL] at g
  refine ⟨μ, l, h, hl, R, ?_⟩
  cases ev : evS ρ.P C s' l h with
  | nxt l1 h1' =>
    rw [ev] at g
    have g : GoodS ρ W (evSL ρ.P C r' l1 h1') D μ H := g
    exact fun σ1 H1 μ1 x1 R1 l2 => ⟨μ1, l1, h1', l2, R1, g.shift x1⟩
  | ret d l1 h1' => rw [ev] at g; exact g
  | brk l1 h1' => rw [ev] at g; exact g
  | cnt l1 h1' => rw [ev] at g; exact g
  | exc c vs l1 h1' => rw [ev] at g; exact g
  | bad => rw [ev] at g; exact g
theorem c_pas : PS X (.Pass pos) (tS ρ C W .pas) := PS.weak L2.ps_pass fun D σ H ⟨μ, l, h, hl, R, g⟩ => by
  rw [evS] at g
  exact g σ H μ Ext.rfl R hl
theorem c_brk : PS X (.Break pos) (tS ρ C W .brk) := PS.weak L2.ps_break fun D σ H ⟨μ, l, h, hl, R, g⟩ => by
  rw [evS] at g
  exact g σ H μ Ext.rfl R hl
theorem c_cnt : PS X (.Continue pos) (tS ρ C W .cnt) := PS.weak L2.ps_continue fun D σ H ⟨μ, l, h, hl, R, g⟩ => by
  rw [evS] at g
  exact g σ H μ Ext.rfl R hl
theorem c_ex (he : PE X e (tE ρ C W e')) (hs : swapsWith e none pos.line X.env = pure false) : PS X (.Expr e pos) (tS ρ C W (.ex e')) := PS.weak (L2.ps_expr he hs) fun D σ H ⟨μ, l, h, hl, R, g⟩ => by
  rw [evS] at g
  refine ⟨μ, l, h, hl, R, (GoodS.toS hl R g).mono fun v H1 ⟨d, h1, μ1, er, x1, R1, rd, g1⟩ => ?_⟩
  exact g1 σ H1 μ1 Ext.rfl R1 (hl.mono (x1.stays R) x1.sub)
theorem c_ret (he : PE X e (tE ρ C W e')) : PS X (.Return (some e) pos) (tS ρ C W (.ret e')) := PS.weak (L2.ps_ret he) fun D σ H ⟨μ, l, h, hl, R, g⟩ => by
  rw [evS] at g
  refine ⟨μ, l, h, hl, R, (GoodS.toS hl R g).mono fun v H1 ⟨d, h1, μ1, er, x1, R1, rd, g1⟩ => ?_⟩
  exact g1 v H1 μ1 Ext.rfl R1 rd
theorem c_retN : PS X (.Return none pos) (tS ρ C W (.ret (.con .non))) := PS.weak L2.ps_retN fun D σ H ⟨μ, l, h, hl, R, g⟩ => by
  rw [evS, evE] at g
  have g : GoodS ρ W (.ret .non l h) D μ H := g
  exact g .non H μ Ext.rfl R (by rw [RD])
theorem asg_weak {D : Ends} {ei : E} (hq : tS ρ C W (.asg t' ei) D σ H) : tE ρ C W ei σ H fun x H1 => tT ρ C W t' x σ H1 D.nx := by
  obtain ⟨μ, l, h, hl, R, g⟩ := hq
  rw [evS] at g
  refine ⟨μ, l, h, hl, R, (GoodS.toS hl R g).mono fun v H1 ⟨d, h1, μ1, er, x1, R1, rd, g1⟩ => ?_⟩
  have hl1 := hl.mono (x1.stays R) x1.sub
  refine ⟨μ1, d, l, h1, hl1, R1, rd, (GoodS.toT hl1 R1 g1).mono fun σ2 H2 ⟨l2, h2, μ2, er2, x2, R2, hl2, g2⟩ => ?_⟩
  exact g2 σ2 H2 μ2 Ext.rfl R2 hl2
theorem c_asg (he : PE X e (tE ρ C W e')) (hg : PG X tg (tT ρ C W t')) (hs : swapsWithSole [tg] e pos.line X.env = pure false) (hw : swappedStores [tg] e X.env = pure none) (h1 : (assignEach [tg] X.env).map (·.2) = [assign tg X.env]) : PS X (.Assign [tg] e pos) (tS ρ C W (.asg t' e')) :=
  PS.weak (L2.ps_asg he hg hs hw h1) fun D σ H hq => asg_weak hq
/-! ### if -/
theorem tB_of {c' : E} {l : Loc} {f : Bool → Hp → RS} {D : Ends} (hl : LR ρ μ H l σ) (R : HR ρ μ h H) (g : GoodS ρ W ((evE ρ.P C c' l h).toS l fun x h1 => match truth h1 x with | some k => f k h1 | none => .bad) D μ H) :
    Good ρ relB W (evB ρ.P C c' l h) μ σ H (fun b H1 => ∃ h1 μ1, Ext μ H μ1 H1 ∧ HR ρ μ1 h1 H1 ∧ LR ρ μ1 H1 l σ ∧ GoodS ρ W (f b h1) D μ1 H1) := by
  have e : (evE ρ.P C c' l h).toS l (fun x h1 => match truth h1 x with | some k => f k h1 | none => .bad) = (evB ρ.P C c' l h).toS l f := by
    unfold evB
    cases evE ρ.P C c' l h with
    | bad => rfl
    | exc => rfl
    | ok d h1 =>
      simp only [Ev.R.toS_ok, Ev.R.bind_ok]
      cases truth h1 d <;> rfl
  rw [e] at g
  refine (GoodS.toS (rel := relB) hl R g).mono fun b H1 ⟨b', h1, μ1, er, x1, R1, rb, g1⟩ => ?_
  obtain rfl : b' = b := rb
  exact ⟨h1, μ1, x1, R1, hl.mono (x1.stays R) x1.sub, g1⟩
theorem c_if {c : Expr} {p q : List Stmt} {c' : E} {p' q' : SL} (hc : PT X c (tB ρ C W c')) (hp : PSs X p (tSL ρ C W p')) (hq : PSs X q (tSL ρ C W q')) : PS X (.If c p q pos) (tS ρ C W (.if_ c' p' q')) := PS.weak (L2.ps_if hc hp hq) fun D σ H ⟨μ, l, h, hl, R, g⟩ => by
  rw [evS] at g
  have g2 : GoodS ρ W ((evE ρ.P C c' l h).toS l fun x h1 => match truth h1 x with | some k => (if k then evSL ρ.P C p' l h1 else evSL ρ.P C q' l h1) | none => .bad) D μ H := by
    cases ev : evE ρ.P C c' l h with
    | bad => rw [ev] at g; exact g
    | exc => rw [ev] at g; exact g
    | ok d h1 =>
      rw [ev] at g
      simp only [Ev.R.toS_ok] at g ⊢
      cases et : truth h1 d with
      | none => rw [et] at g; exact g
      | some k => rw [et] at g; cases k <;> exact g
  refine ⟨μ, l, h, hl, R, (tB_of (f := fun k h1 => if k then evSL ρ.P C p' l h1 else evSL ρ.P C q' l h1) hl R g2).mono fun b H1 ⟨h1, μ1, x1, R1, hl1, g1⟩ => ?_⟩
  cases b with
  | true => rw [if_pos rfl]; exact ⟨μ1, l, h1, hl1, R1, g1⟩
  | false => rw [if_neg (by simp)]; exact ⟨μ1, l, h1, hl1, R1, g1⟩
end
end Ev
end
end
section
/-! E20: loops, further statements. -/
set_option linter.all false
set_option maxRecDepth 100000
set_option maxHeartbeats 1000000
noncomputable section
namespace Ev
open PySem PySem.Spec PyProof.Rows PySem.SeqAt
open L2 (V HO Vals VK XK WX SqL SqT Inv PE PT PW PA PS PSs PG PGs PI Cx upd upd_same upd_ne Rd Room EP TP thn OpR CallR TE TT TA It TI PIE Turn FpOk TG TGs PTs TS Ends)
variable {ρ : Lk} {C : Call} {W : WX} {X : Cx} {pins : List (Addr × Obj)} {s : Shared} {σ : LS} {H : LH} {μ : Mu} {h : Hp} {k : Nat}

theorem GoodT.shift {sl : List Nat} {r : Ev.R Loc} {Q : LS → LH → Prop} {μ1 : Mu} {H1 : LH} (g : GoodT ρ W sl r μ σ H Q) (x : Ext μ H μ1 H1) : GoodT ρ W sl r μ1 σ H1 Q := by
  cases r with
  | bad => exact g
  | exc => exact fun cls dd H' μ' x2 R' xd => g cls dd H' μ' (x.trans x2) R' xd
  | ok l h => exact fun σ' H' μ' x2 R' hl' hk hn => g σ' H' μ' (x.trans x2) R' hl' hk hn
section
variable {e tg iter c : Expr} {e' c' : E} {t' : T} {i' : I} {b : List Stmt} {b' : SL} {pos : Pos}
/-! ### while -/
/-- what is left of a while loop ends as it ends -/
def WhW (ρ : Lk) (C : Call) (W : WX) (c' : E) (b' : SL) (out : RS) (D : Ends) (m : Nat) (σ : LS) (H : LH) : Prop :=
  ∃ μ l h, iterN (whTurn (fun l h => evB ρ.P C c' l h) (fun l h => evSL ρ.P C b' l h)) m (l, h) = some out ∧ LR ρ μ H l σ ∧ HR ρ μ h H ∧ GoodS ρ W out D μ H
theorem c_whl (hp : PassesOwn (model X.prog X.w) X.A X.env X.xe) (hc : PT X c (tB ρ C W c')) (hb : PSs X b (tSL ρ C W b')) : PS X (.While c b [] pos) (tS ρ C W (.whl c' b')) := PS.weak (L2.ps_while hp hc hb) fun D σ H ⟨μ, l, h, hl, R, g⟩ => by
  rw [evS] at g
  have g : GoodS ρ W (Ev.iter (whTurn (fun l h => evB ρ.P C c' l h) (fun l h => evSL ρ.P C b' l h)) .bad (l, h)) D μ H := g
  generalize hout : Ev.iter (whTurn (fun l h => evB ρ.P C c' l h) (fun l h => evSL ρ.P C b' l h)) .bad (l, h) = out at g
  have hn : ∃ n, iterN (whTurn (fun l h => evB ρ.P C c' l h) (fun l h => evSL ρ.P C b' l h)) n (l, h) = some out := by
    rcases iter_cases (whTurn (fun l h => evB ρ.P C c' l h) (fun l h => evSL ρ.P C b' l h)) .bad (l, h) with ⟨n, q⟩ | q
    · rw [hout] at q; exact ⟨n, q⟩
    · rw [hout] at q; subst q; exact g.elim
  obtain ⟨n, en⟩ := hn
  have nb : out ≠ .bad := fun z => by subst z; exact g
  refine ⟨WhW ρ C W c' b' out D, ⟨n, μ, l, h, en, hl, R, g⟩, fun m σ1 H1 ⟨μ1, l1, h1, en1, hl1, R1, g1⟩ => ?_⟩
  cases m with
  | zero => simp [iterN] at en1
  | succ m =>
    rw [iterN] at en1
    refine ⟨μ1, l1, h1, hl1, R1, ?_⟩
    cases et : evB ρ.P C c' l1 h1 with
    | bad =>
      simp only [whTurn, et, Option.some.injEq] at en1
      exact nb en1.symm
    | exc cc vs h2 =>
      simp only [whTurn, et, Option.some.injEq] at en1
      subst en1
      exact fun cls dd H' μ' x R' xd => g1 cls dd σ1 H' μ' x R' (hl1.mono (x.stays R1) x.sub) xd
    | ok kk h2 =>
      simp only [whTurn, et] at en1
      intro bb H2 μ2 x2 R2 eb
      obtain rfl : kk = bb := eb
      have hl2 := hl1.mono (x2.stays R1) x2.sub
      cases kk with
      | false =>
        rw [if_neg (by simp)]
        simp only [Option.some.injEq] at en1
        subst en1
        exact g1 σ1 H2 μ2 x2 R2 hl2
      | true =>
        rw [if_pos rfl]
        refine ⟨fun σ' H' => WhW ρ C W c' b' out D m σ' H', fun σ' H' w => ⟨m, Nat.lt_succ_self m, w⟩, μ2, l1, h2, hl2, R2, ?_⟩
        cases eb : evSL ρ.P C b' l1 h2 with
        | nxt l3 h3 =>
          simp only [eb] at en1
          exact fun σ3 H3 μ3 x3 R3 hl3 => ⟨μ3, l3, h3, en1, hl3, R3, g1.shift (x2.trans x3)⟩
        | cnt l3 h3 =>
          simp only [eb] at en1
          exact fun σ3 H3 μ3 x3 R3 hl3 => ⟨μ3, l3, h3, en1, hl3, R3, g1.shift (x2.trans x3)⟩
        | brk l3 h3 =>
          simp only [eb, Option.some.injEq] at en1
          subst en1
          exact fun σ3 H3 μ3 x3 R3 hl3 => g1 σ3 H3 μ3 (x2.trans x3) R3 hl3
        | ret d l3 h3 =>
          simp only [eb, Option.some.injEq] at en1
          subst en1
          exact fun v H3 μ3 x3 R3 r => g1 v H3 μ3 (x2.trans x3) R3 r
        | exc cc vs l3 h3 =>
          simp only [eb, Option.some.injEq] at en1
          subst en1
          exact fun cls dd σ3 H3 μ3 x3 R3 hl3 xd => g1 cls dd σ3 H3 μ3 (x2.trans x3) R3 hl3 xd
        | bad =>
          simp only [eb, Option.some.injEq] at en1
          exact absurd en1.symm nb
/-! ### for -/
def FoW (ρ : Lk) (C : Call) (W : WX) (Sr : Src) (t' : T) (b' : SL) (out : RS) (D : Ends) (μ0 : Mu) (H0 : LH) (i m : Nat) (σ : LS) (H : LH) : Prop :=
  ∃ μ l h, iterN (forTurn Sr (fun d l h => evT ρ.P C t' d l h) (fun l h => evSL ρ.P C b' l h)) m (i, l, h) = some out ∧ LR ρ μ H l σ ∧ HR ρ μ h H ∧ Ext μ0 H0 μ H ∧ GoodS ρ W out D μ H
theorem c_for (hp : PassesOwn (model X.prog X.w) X.A X.env X.xe) (hc : X.calm = true) (hi : PI X tg iter (tI ρ C W i')) (hg : PG X tg (tT ρ C W t')) (hb : PSs X b (tSL ρ C W b')) (hs : ∀ x, foldedSetIterable iter X.env x = pure x) :
    PS X (.For tg iter b [] pos) (tS ρ C W (.for_ t' i' b')) := PS.weak (L2.ps_for hp hc hi hg hb hs) fun D σ H ⟨μ, l, h, hl, R, g⟩ => by
  rw [evS] at g
  refine ⟨μ, l, h, hl, R, (GoodS.toS (rel := relW ρ) hl R g).mono fun J H1 ⟨Sr, h1, μ1, er, x1, R1, wk, g1⟩ => ?_⟩
  have wk : Walk ρ μ1 H1 Sr J := wk
  have hl1 := hl.mono (x1.stays R) x1.sub
  unfold forLoop at g1
  rw [wk.free] at g1
  simp only [] at g1
  generalize hout : Ev.iter (forTurn Sr (fun d l h => evT ρ.P C t' d l h) (fun l h => evSL ρ.P C b' l h)) .bad (0, l, h1) = out at g1
  have hn : ∃ n, iterN (forTurn Sr (fun d l h => evT ρ.P C t' d l h) (fun l h => evSL ρ.P C b' l h)) n (0, l, h1) = some out := by
    rcases iter_cases (forTurn Sr (fun d l h => evT ρ.P C t' d l h) (fun l h => evSL ρ.P C b' l h)) .bad (0, l, h1) with ⟨n, q⟩ | q
    · rw [hout] at q; exact ⟨n, q⟩
    · rw [hout] at q; subst q; exact g1.elim
  obtain ⟨n, en⟩ := hn
  have nb : out ≠ .bad := fun z => by subst z; exact g1
  refine ⟨FoW ρ C W Sr t' b' out D μ1 H1, ⟨n, μ1, l, h1, en, hl1, R1, Ext.rfl, g1⟩, fun i m σ2 H2 ⟨μ2, l2, h2, en2, hl2, R2, x2, g2⟩ => ?_⟩
  cases m with
  | zero => simp [iterN] at en2
  | succ m =>
    rw [iterN] at en2
    cases ea : Sr.at h2 i with
    | none =>
      simp only [forTurn, ea, Option.some.injEq] at en2
      exact absurd en2.symm nb
    | some od =>
      cases od with
      | none =>
        simp only [forTurn, ea, Option.some.injEq] at en2
        subst en2
        exact .inl ⟨wk.stop μ2 h2 H2 i x2 R2 ea, g2 σ2 H2 μ2 Ext.rfl R2 hl2⟩
      | some d =>
        obtain ⟨go, yl⟩ := wk.go μ2 h2 H2 i d x2 R2 ea
        refine .inr ⟨go, fun σ' H' => FoW ρ C W Sr t' b' out D μ1 H1 (i + 1) m σ' H', fun σ' H' w => ⟨m, Nat.lt_succ_self m, w⟩, fun x H3 yx => ?_⟩
        obtain ⟨μ3, x3, R3, rd3⟩ := yl x H3 yx
        have hl3 := hl2.mono (x3.stays R2) x3.sub
        refine ⟨μ3, d, l2, h2, hl3, R3, rd3, ?_⟩
        cases et : evT ρ.P C t' d l2 h2 with
        | bad =>
          simp only [forTurn, ea, et, Option.some.injEq] at en2
          exact nb en2.symm
        | exc cc vs h4 =>
          simp only [forTurn, ea, et, Option.some.injEq] at en2
          subst en2
          exact fun cls dd H' μ' x R' xd => g2 cls dd σ2 H' μ' (x3.trans x) R' (hl3.mono (x.stays R3) x.sub) xd
        | ok l4 h4 =>
          simp only [forTurn, ea, et] at en2
          intro σ4 H4 μ4 x4 R4 hl4 _ _
          refine ⟨μ4, l4, h4, hl4, R4, ?_⟩
          have xx := x3.trans x4
          cases eb : evSL ρ.P C b' l4 h4 with
          | nxt l5 h5 =>
            simp only [eb] at en2
            exact fun σ5 H5 μ5 x5 R5 hl5 => ⟨μ5, l5, h5, en2, hl5, R5, x2.trans (xx.trans x5), g2.shift (xx.trans x5)⟩
          | cnt l5 h5 =>
            simp only [eb] at en2
            exact fun σ5 H5 μ5 x5 R5 hl5 => ⟨μ5, l5, h5, en2, hl5, R5, x2.trans (xx.trans x5), g2.shift (xx.trans x5)⟩
          | brk l5 h5 =>
            simp only [eb, Option.some.injEq] at en2
            subst en2
            exact fun σ5 H5 μ5 x5 R5 hl5 => g2 σ5 H5 μ5 (xx.trans x5) R5 hl5
          | ret d5 l5 h5 =>
            simp only [eb, Option.some.injEq] at en2
            subst en2
            exact fun v H5 μ5 x5 R5 r => g2 v H5 μ5 (xx.trans x5) R5 r
          | exc cc vs l5 h5 =>
            simp only [eb, Option.some.injEq] at en2
            subst en2
            exact fun cls dd σ5 H5 μ5 x5 R5 hl5 xd => g2 cls dd σ5 H5 μ5 (xx.trans x5) R5 hl5 xd
          | bad =>
            simp only [eb, Option.some.injEq] at en2
            exact absurd en2.symm nb
/-! ### x[i] = v -/
def tSetV (ρ : Lk) : L2.TSet := fun o i v H Q => ∃ (μ : Mu) (h : Hp) (x y d : D), HR ρ μ h H ∧ RD ρ μ H x o ∧ RD ρ μ H y i ∧ RD ρ μ H d v ∧ match evSet h x y d with
  | some h' => ∀ H' μ', Ext μ H μ' H' → HR ρ μ' h' H' → Q H'
  | none => False
theorem set_run : L2.PSet X (tSetV ρ) := by
  intro pins s σ H o i v ov iv u Q I ro ri rv ⟨μ, h, x, y, d, R, rx, ry, rd, g⟩
  unfold evSet at g
  split at g
  · rename_i h' e
    split at e
    · rename_i a
      split at e
      · rename_i xs lk eo
        split at e
        · rename_i ii
          rw [RD] at ry
          subst ry
          obtain ⟨p, ws, rfl, ep, ev, rvs, e0⟩ := R.lst eo rx
          cases ej : idxN xs.length ii with
          | none => rw [ej] at e; cases e
          | some j =>
            rw [ej] at e
            simp only [Option.bind_some] at e
            obtain ⟨x1, R1⟩ := R.put eo ep e (RDs.set rd j rvs)
            exact L2.set_list pins s σ H _ _ v ov iv u Q I ro ri rv ⟨p, ws, ii, j, rfl, rfl, ev, by rw [rvs.length, ← idxN_ix]; exact ej, g _ _ x1 R1⟩
        · cases e
      · cases e
      · cases e
    · cases e
  · exact g.elim
theorem g_sub {o i : Expr} {o' i' : E} (ho : PE X o (tE ρ C W o')) (hi : PE X i (tE ρ C W i')) (hs : ∀ v, assign (.Subscript o i pos) X.env v = (do
      let ov ← holding [v] (eval o X.env)
      let iv ← holding [v, ov] (eval i X.env)
      standAt pos
      holding [v, ov, iv] (setItem ov iv v)
      release [v, ov, iv] [])) : PG X (.Subscript o i pos) (tT ρ C W (.sub o' i')) := by
  refine ⟨fun pins s σ H v u Q I ru ⟨μ, d, l, h, hl, R, rd, g⟩ => ?_⟩
  refine (L2.pg_sub ho hi (set_run (ρ := ρ)) hs).run pins s σ H v u Q I ru ?_
  rw [evT] at g
  have g1 : Good ρ (RD ρ) W (evE ρ.P C o' l h) μ σ H (fun b H1 => ∃ a h1 μ1, evE ρ.P C o' l h = .ok a h1 ∧ Ext μ H μ1 H1 ∧ HR ρ μ1 h1 H1 ∧ RD ρ μ1 H1 a b ∧ GoodT ρ W (slT (.sub o' i')) ((evE ρ.P C i' l h1).bind fun y h2 => match evSet h2 a y d with
      | some h3 => .ok l h3
      | none => .bad) μ1 σ H1 Q) := by
    cases ee : evE ρ.P C o' l h with
    | bad => rw [ee] at g; exact g.elim
    | exc => rw [ee] at g; exact g
    | ok a h1 =>
      rw [ee] at g
      intro b H1 μ1 x1 R1 rb
      refine ⟨a, h1, μ1, rfl, x1, R1, rb, ?_⟩
      simp only [Ev.R.bind_ok] at g
      exact GoodT.shift g x1
  refine ⟨μ, l, h, hl, R, g1.mono fun b H1 ⟨a, h1, μ1, ea, x1, R1, rb, g2⟩ => ?_⟩
  have hl1 := hl.mono (x1.stays R) x1.sub
  refine ⟨μ1, l, h1, hl1, R1, ?_⟩
  cases ei : evE ρ.P C i' l h1 with
  | bad => rw [ei] at g2; exact g2.elim
  | exc => rw [ei] at g2; exact g2
  | ok y h2 =>
    rw [ei] at g2
    simp only [Ev.R.bind_ok] at g2
    intro iv H2 μ2 x2 R2 ri
    refine ⟨μ2, h2, a, y, d, R2, rb.mono (x2.stays R1) x2.sub, ri, (rd.mono (x1.stays R) x1.sub).mono (x2.stays R1) x2.sub, ?_⟩
    cases es : evSet h2 a y d with
    | none => rw [es] at g2; exact g2
    | some h3 =>
      rw [es] at g2
      intro H3 μ3 x3 R3
      exact g2 σ H3 μ3 (x2.trans x3) R3 ((hl1.mono (x2.stays R1) x2.sub).mono (x3.stays R2) x3.sub) (fun _ _ => rfl) rfl
/-! ### name = [..] on one line; a, b = x, y; name op= e -/
theorem c_setLc {kf : Bool} {elt : Expr} {ifs : List Expr} {scope : Scope} {own : List (Str × Nat)} {cc : EL} {j : Nat} {y : Str} {py spos : Pos} (ct : Ct ρ X) (hN : X.N.Nodup) (hy : X.N[j]? = some y) (hyl : X.env.scope.names.lookup y = some .local)
    (hsw : swapsWith (.ListComp elt [⟨tg, iter, ifs, 0⟩] scope pos) (some (.Name y py)) spos.line X.env = pure true) (hi : PI X tg iter (tI ρ C W i')) (ok : L2.BlkOk X.N X.env.scope scope own) (hsl : ∀ i ∈ slT t', i ∈ own.map (·.2))
    (hg : ∀ (s : Shared) (H : LH) (A : Addr) (cl : List (Str × Addr)) (fp : List Addr), PG (X.blk s H scope (compEnvC scope cl A X.env) fp) tg (tT ρ C noW t'))
    (ht : ∀ (s : Shared) (H : LH) (A : Addr) (cl : List (Str × Addr)) (fp : List Addr), PTs (X.blk s H scope (compEnvC scope cl A X.env) fp) ifs (tCd ρ C noW cc))
    (he : ∀ (s : Shared) (H : LH) (A : Addr) (cl : List (Str × Addr)) (fp : List Addr), PE (X.blk s H scope (compEnvC scope cl A X.env) fp) elt (tE ρ C noW e'))
    (hs : ∀ x, foldedSetIterable iter X.env x = pure x) : PS X (.Assign [.Name y py] (.ListComp elt [⟨tg, iter, ifs, 0⟩] scope pos) spos) (tS ρ C W (.asg (.loc j) (.lc kf (own.map (·.2)) e' t' i' cc))) :=
  PS.weak (L2.ps_setLc ct.calm hN hy hyl hsw hi ok hg ht he hs) fun D σ H hq => by
    refine lc_good (kf := kf) hsl ?_
    obtain ⟨μ, l, h, hl, R, g⟩ := asg_weak hq
    refine ⟨μ, l, h, hl, R, g.mono fun v H1 ⟨μ1, d, l1, h1, hl1, R1, rd, g1⟩ => ?_⟩
    rw [evT] at g1
    split at g1
    · rename_i hlt
      refine g1 (σ.set j (some v)) H1 μ1 Ext.rfl R1 (hl1.set rd) (fun i hi => ?_) (by rw [List.length_set])
      rw [List.getElem?_set_ne]
      intro z
      subst z
      exact hi (by rw [slT]; simp)
    · exact g1.elim
theorem c_par {a1 b1 : Expr} {es' : EL} {i j : Nat} {x y : Str} {px py pt : Pos} {kt k2 : Nat} {pt2 : Pos} (hc : X.calm = true) (hN : X.N.Nodup) (hi : X.N[i]? = some x) (hj : X.N[j]? = some y) (hij : i ≠ j) (hx : X.env.scope.names.lookup x = some .local) (hy : X.env.scope.names.lookup y = some .local) (ha : PA X [a1, b1] (tEL ρ C W es'))
    (hw : swappedStores [.Tuple [.Name x px, .Name y py] kt pt] (.Tuple [a1, b1] k2 pt2) X.env = pure (some [x, y])) (hs : swapsWithSole [.Tuple [.Name x px, .Name y py] kt pt] (.Tuple [a1, b1] k2 pt2) pos.line X.env = pure false) :
    PS X (.Assign [.Tuple [.Name x px, .Name y py] kt pt] (.Tuple [a1, b1] k2 pt2) pos) (tS ρ C W (.par [i, j] es')) :=
  PS.weak (L2.ps_par hc hN hi hj hij hx hy ha hw hs) fun D σ H ⟨μ, l, h, hl, R, g⟩ => by
    rw [evS] at g
    refine ⟨μ, l, h, hl, R, (GoodS.toS (rel := RDs ρ) hl R g).mono fun vs H1 ⟨ds, h1, μ1, er, x1, R1, rd, g1⟩ => ?_⟩
    have hl1 := hl.mono (x1.stays R) x1.sub
    cases ds with
    | nil => simp [evParSet] at g1; exact g1.elim
    | cons d r =>
      cases r with
      | nil =>
        by_cases h1 : i < l.length <;> simp [evParSet, h1] at g1 <;> exact g1.elim
      | cons d2 r2 =>
        cases r2 with
        | cons d3 r3 =>
          by_cases h1 : i < l.length <;> by_cases h2 : j < l.length <;> simp [evParSet, h1, h2] at g1 <;> exact g1.elim
        | nil =>
          obtain ⟨v, w, rfl, r1, r2⟩ := rd.two_inv
          refine ⟨v, w, rfl, ?_⟩
          by_cases h1 : i < l.length
          · by_cases h2 : j < l.length
            · simp [evParSet, h1, h2] at g1
              exact g1 _ H1 μ1 Ext.rfl R1 ((hl1.set r1).set r2)
            · simp [evParSet, h1, h2] at g1; exact g1.elim
          · simp [evParSet, h1] at g1; exact g1.elim
def iopOf : BOp → Option Operator
  | .add => some .Add
  | .sub => some .Sub
  | _ => none
theorem iop_run {o : BOp} {op : Operator} (ho : iopOf o = some op) (I : Inv X pins σ H s) (R : HR ρ μ h H) {x y : D} {v w : V} {u z : Value} {Q : VK} (rx : RD ρ μ H x v) (ry : RD ρ μ H y w) (ru : L2.RelV v u) (rz : L2.RelV w z) (g : Good ρ (RD ρ) W (evIop o x y h) μ σ H Q) :
    wpAny (model X.prog X.w) X.A (inplaceOp op u z) (EP X pins σ Q) X.xe s := by
  unfold evIop at g
  split at g
  · cases ho
    rw [RD] at rx ry
    subst rx ry
    exact L2.iop_add pins s σ H _ _ u z Q I ru rz ⟨_, _, rfl, rfl, g.ok Ext.rfl R (by rw [RD])⟩
  · cases ho
    rw [RD] at rx ry
    subst rx ry
    exact L2.iop_sub pins s σ H _ _ u z Q I ru rz ⟨_, _, rfl, rfl, g.ok Ext.rfl R (by rw [RD])⟩
  · exact g.elim
def tIpV (ρ : Lk) (W : WX) (o : BOp) (σ : LS) : L2.TIp := fun x y H Q => ∃ (μ : Mu) (h : Hp) (d d2 : D), HR ρ μ h H ∧ RD ρ μ H d x ∧ RD ρ μ H d2 y ∧ Good ρ (RD ρ) W (evIop o d d2 h) μ σ H Q
theorem c_aug {i : Nat} {x : Str} {o : BOp} {op : Operator} {pos' : Pos} (ho : iopOf o = some op) (hN : X.N.Nodup) (hi : X.N[i]? = some x) (hx : L2.Loc X.env.scope x) (he : PE X e (tE ρ C W e')) (hf : X.fn x = true ∨ X.env.scope.names.lookup x = some .local) :
    PS X (.AugAssign (.Name x pos') op e pos) (tS ρ C W (.aug i o e')) :=
  PS.weak (L2.ps_aug (ti := fun x y H Q => ∃ σ, tIpV ρ noW o σ x y H Q) hN hi hx he (fun pins s σ H x y v u Q I rx ry ⟨σ', μ, h, d, d2, R, r1, r2, g⟩ => by
    refine iop_run (W := noW) ho I R r1 r2 rx ry ?_
    unfold evIop at g ⊢
    split at g <;> first | exact g | exact g.elim) hf) fun D σ H ⟨μ, l, h, hl, R, g⟩ => by
    rw [evS] at g
    split at g
    · rename_i d ed
      obtain ⟨v, ev, rv⟩ := hl.2 i d ed
      refine ⟨v, ev, μ, l, h, hl, R, (GoodS.toS (rel := RD ρ) hl R g).mono fun w H1 ⟨d2, h1, μ1, er, x1, R1, rd, g1⟩ => ?_⟩
      have hl1 := hl.mono (x1.stays R) x1.sub
      refine ⟨σ, μ1, h1, d, d2, R1, rv.mono (x1.stays R) x1.sub, rd, ?_⟩
      have g2 := GoodS.toS (rel := RD ρ) hl1 R1 g1
      have ne : ∀ c vs h', evIop o d d2 h1 ≠ .exc c vs h' := fun c vs h' z => by
        unfold evIop at z
        split at z <;> cases z
      cases ei : evIop o d d2 h1 with
      | bad => rw [ei] at g2; exact g2
      | exc c vs h' => exact (ne _ _ _ ei).elim
      | ok z h2 =>
        rw [ei] at g2
        intro b H2 μ2 x2 R2 rb
        obtain ⟨a, h3, μ3, e3, x3, R3, r3, g3⟩ := g2 b H2 μ2 x2 R2 rb
        cases e3
        have hl3 := hl1.mono (x3.stays R1) x3.sub
        exact g3 _ H2 μ3 Ext.rfl R3 (hl3.set r3)
    · exact g.elim
end
end Ev
end
end
section
/-! E21g: what a call made is dropped behind it. -/
set_option linter.all false
set_option maxRecDepth 100000
set_option maxHeartbeats 1000000
noncomputable section
namespace Ev
open PySem PySem.Spec
open L2 (V HO Vals VK XK WX SqL SqT upd upd_same upd_ne)
variable {ρ : Lk} {σ : LS} {H : LH} {μ : Mu} {h : Hp}
mutual
/-- all numbers are below n -/
def D.low (n : Nat) : D → Prop
  | .ref a => a < n
  | .tup a => D.lows n a
  | .vl a => D.lows n a
  | .vd a x => D.lows n x
  | .vi _ _ x => D.lows n x
  | _ => True
def D.lows (n : Nat) : List D → Prop
  | [] => True
  | a :: x => D.low n a ∧ D.lows n x
end
mutual
theorem D.low_pur {n : Nat} : ∀ (d : D), d.pur = true → d.low n := by
  intro d h
  match d, h with
  | .tup a, h => rw [D.pur] at h; rw [D.low]; exact D.lows_pur a h
  | .vl a, h => rw [D.pur] at h; rw [D.low]; exact D.lows_pur a h
  | .vd a x, h => rw [D.pur, Bool.and_eq_true] at h; rw [D.low]; exact D.lows_pur x h.2
  | .vi _ _ x, h => rw [D.pur] at h; rw [D.low]; exact D.lows_pur x h
  | .ref _, h => simp [D.pur] at h
  | .non, _ => trivial
  | .bl _, _ => trivial
  | .int _, _ => trivial
  | .str _, _ => trivial
  | .nim, _ => trivial
  | .cls _, _ => trivial
  | .ty _, _ => trivial
  | .fn _, _ => trivial
  | .exv _ _, _ => trivial
  | .clo _ _, _ => trivial
theorem D.lows_pur {n : Nat} : ∀ (ds : List D), D.purs ds = true → D.lows n ds := by
  intro ds h
  match ds, h with
  | [], _ => trivial
  | a :: x, h => rw [D.purs, Bool.and_eq_true] at h; exact ⟨D.low_pur a h.1, D.lows_pur x h.2⟩
end
mutual
theorem RD.low : ∀ {d : D} {v : V}, RD ρ μ H d v → d.low μ.ix.length := by
  intro d v r
  match d, r with
  | .tup xs, r => rw [RD] at r; obtain ⟨_, _, _, _, q⟩ := r; rw [D.low]; exact RDs.low q
  | .vl xs, r => rw [RD] at r; obtain ⟨_, _, _, _, q⟩ := r; rw [D.low]; exact RDs.low q
  | .vd ks xs, r => rw [RD] at r; obtain ⟨_, _, _, _, _, q⟩ := r; rw [D.low]; exact RDs.low q
  | .vi _ _ xs, r => rw [RD] at r; obtain ⟨_, _, _, _, _, _, _, q, _⟩ := r; rw [D.low]; exact RDs.low q
  | .ref i, r => rw [RD] at r; obtain ⟨a, e, _⟩ := r; exact (List.getElem?_eq_some_iff.mp e).1
  | .non, _ => trivial
  | .bl _, _ => trivial
  | .int _, _ => trivial
  | .str _, _ => trivial
  | .nim, _ => trivial
  | .cls _, _ => trivial
  | .ty _, _ => trivial
  | .fn _, _ => trivial
  | .exv _ _, _ => trivial
  | .clo _ _, _ => trivial
theorem RDs.low : ∀ {d : List D} {v : List V}, RDs ρ μ H d v → D.lows μ.ix.length d := by
  intro d v r
  match d, r with
  | [], _ => trivial
  | x :: xs, r => rw [RDs] at r; obtain ⟨_, _, _, a, b⟩ := r; exact ⟨RD.low a, RDs.low b⟩
end
/-- the first n numbers alone -/
def Mu.cut (μ : Mu) (n : Nat) : Mu := ⟨μ.ix.take n, μ.ow⟩
theorem Mu.mem_cut {a : Addr} {n : Nat} (h : a ∉ μ) : a ∉ μ.cut n := fun z => h (z.elim (fun z => .inl (List.mem_of_mem_take z)) .inr)
mutual
theorem RD.trim {n : Nat} : ∀ {d : D} {v : V}, d.low n → RD ρ μ H d v → RD ρ (μ.cut n) H d v := by
  intro d v lo r
  match d, lo, r with
  | .tup xs, lo, r => rw [D.low] at lo; rw [RD] at r ⊢; obtain ⟨a, vs, e, t, q⟩ := r; exact ⟨a, vs, e, t, RDs.trim lo q⟩
  | .vl xs, lo, r => rw [D.low] at lo; rw [RD] at r ⊢; obtain ⟨a, vs, e, t, q⟩ := r; exact ⟨a, vs, e, t.imp id fun z => ⟨Mu.mem_cut z.1, z.2⟩, RDs.trim lo q⟩
  | .vd ks xs, lo, r => rw [D.low] at lo; rw [RD] at r ⊢; obtain ⟨a, vs, e, t, u, q⟩ := r; exact ⟨a, vs, e, Mu.mem_cut t, u, RDs.trim lo q⟩
  | .vi _ _ xs, lo, r => rw [D.low] at lo; rw [RD] at r ⊢; obtain ⟨a, dx, vs, e, t, u, w, q, z⟩ := r; exact ⟨a, dx, vs, e, Mu.mem_cut t, u, w, RDs.trim lo q, z⟩
  | .ref i, lo, r => rw [D.low] at lo; rw [RD] at r ⊢; obtain ⟨a, e, z⟩ := r; exact ⟨a, by show (μ.ix.take n)[i]? = _; rw [List.getElem?_take_of_lt lo]; exact e, z⟩
  | .non, _, r => rw [RD] at r ⊢; exact r
  | .bl _, _, r => rw [RD] at r ⊢; exact r
  | .int _, _, r => rw [RD] at r ⊢; exact r
  | .str _, _, r => rw [RD] at r ⊢; exact r
  | .nim, _, r => rw [RD] at r; exact r.elim
  | .cls _, _, r => rw [RD] at r ⊢; exact r
  | .ty _, _, r => rw [RD] at r ⊢; exact r
  | .fn _, _, r => rw [RD] at r ⊢; exact r
  | .exv _ _, _, r => rw [RD] at r; exact r.elim
  | .clo _ _, _, r => rw [RD] at r; exact r.elim
theorem RDs.trim {n : Nat} : ∀ {d : List D} {v : List V}, D.lows n d → RDs ρ μ H d v → RDs ρ (μ.cut n) H d v := by
  intro d v lo r
  match d, lo, r with
  | [], _, r => rw [RDs] at r ⊢; exact r
  | x :: xs, lo, r => rw [D.lows] at lo; rw [RDs] at r ⊢; obtain ⟨y, q, e, a, b⟩ := r; exact ⟨y, q, e, RD.trim lo.1 a, RDs.trim lo.2 b⟩
end
theorem RF.split : ∀ {fs : List (Nat × D)} {vs : List (Str × V)}, RF ρ μ H fs vs → ∃ ws, vs = ((fs.map (·.1)).map ρ.fld).zip ws ∧ ws.length = fs.length ∧ RDs ρ μ H (fs.map (·.2)) ws
  | [], vs, r => by
    rw [RF] at r
    exact ⟨[], by rw [r]; rfl, rfl, by rw [List.map_nil, RDs]⟩
  | p :: r0, vs, r => by
    rw [RF] at r
    obtain ⟨v, q, rfl, a, b⟩ := r
    obtain ⟨ws, rfl, h2, h3⟩ := RF.split b
    exact ⟨v :: ws, rfl, by rw [List.length_cons, List.length_cons, h2], by rw [List.map_cons, RDs]; exact ⟨_, _, rfl, a, h3⟩⟩
theorem RF.of_split : ∀ {fs : List (Nat × D)} {ws : List V}, ws.length = fs.length → RDs ρ μ H (fs.map (·.2)) ws → RF ρ μ H fs (((fs.map (·.1)).map ρ.fld).zip ws)
  | [], _, h, r => by
    rw [RF]
    rfl
  | p :: r0, [], h, r => by simp at h
  | p :: r0, w :: ws, h, r => by
    rw [List.map_cons, RDs] at r
    obtain ⟨v, q, e, a, b⟩ := r
    cases e
    rw [RF]
    exact ⟨w, _, rfl, a, RF.of_split (by simpa using h) b⟩
/-- an object's numbers -/
def O.low (n : Nat) : O → Prop
  | .lst xs => D.lows n xs
  | .dic kvs => D.lows n (kvs.map (·.2))
  | .set xs => True
  | .ins _ fs => D.lows n (fs.map (·.2))
theorem O.low_pur {n : Nat} {o : O} (h : o.pur = true) : o.low n := by
  cases o with
  | lst xs => exact D.lows_pur _ h
  | dic kvs => simp only [O.pur, Bool.and_eq_true] at h; exact D.lows_pur _ h.2
  | set xs => trivial
  | ins c fs => exact D.lows_pur _ h
theorem RO.low {a : Addr} {ob : Ob} (r : RO ρ μ H a ob) : ob.o.low μ.ix.length := by
  obtain ⟨o, k⟩ := ob
  cases o <;> cases k
  case lst.false => obtain ⟨ws, q, z⟩ := r; exact z.low
  case ins.false => obtain ⟨dx, ws, q, z, hc⟩ := r; obtain ⟨us, _, _, z⟩ := z.split; exact z.low
  case dic.false => obtain ⟨ws, q, z⟩ := r; exact z.low
  all_goals exact r.elim
theorem RO.trim {n : Nat} {a : Addr} {ob : Ob} (lo : ob.o.low n) (r : RO ρ μ H a ob) : RO ρ (μ.cut n) H a ob := by
  obtain ⟨o, k⟩ := ob
  cases o <;> cases k
  case lst.false => obtain ⟨ws, q, z⟩ := r; exact ⟨ws, q, z.trim lo⟩
  case ins.false =>
    obtain ⟨dx, ws, q, z, hc⟩ := r
    obtain ⟨us, rfl, hl, z⟩ := z.split
    exact ⟨dx, _, q, RF.of_split hl (z.trim lo), hc⟩
  case dic.false => obtain ⟨ws, q, z⟩ := r; exact ⟨ws, q, z.trim lo⟩
  all_goals exact r.elim
/-- the heap without what was made since -/
theorem gc_base {μ' : Mu} {h' : Hp} {H' : LH} (R0 : HR ρ μ h H) (x : Ext μ H μ' H') (R : HR ρ μ' h' H') (g : GcOk h h') (hl : h.length ≤ h'.length) : Ext μ H (μ'.cut h.length) H' ∧ HR ρ (μ'.cut h.length) (h'.take h.length) H' := by
  have e0 : (μ'.cut h.length).ix = μ.ix := by
    obtain ⟨t, e⟩ := x.pre
    show μ'.ix.take h.length = _
    rw [← e, ← R0.len, List.take_append_of_le_length (Nat.le_refl _), List.take_length]
  refine ⟨⟨by rw [e0]; exact List.prefix_refl _, x.keep, x.frz, fun b hb hn => by rw [e0] at hb; exact absurd hb hn, x.ow, x.owk⟩, ?_⟩
  refine ⟨by rw [e0, R0.len, List.length_take]; omega, by rw [e0]; exact R0.nd, fun i ob a h1 h2 => ?_, fun b hb => ?_⟩
  · have hi : i < h.length := by
      have := (List.getElem?_eq_some_iff.mp h1).1
      rw [List.length_take] at this
      omega
    rw [List.getElem?_take_of_lt hi] at h1
    have h3 : μ'.ix[i]? = some a := by
      have h2 : (μ'.ix.take h.length)[i]? = some a := h2
      rw [List.getElem?_take_of_lt hi] at h2
      exact h2
    refine (R.at_ i ob a h1 h3).trim ?_
    rcases g i ob h1 hi with z | z
    · rw [e0] at h2
      have := (R0.at_ i ob a z h2).low
      rw [R0.len] at this
      exact this
    · exact O.low_pur z
  · obtain ⟨h1, u, q⟩ := R.ow b hb
    exact ⟨fun z => h1 (List.mem_of_mem_take z), u, q⟩
theorem frz_ok {μ' : Mu} {h' : Hp} {H' : LH} {n : Nat} (R : HR ρ μ' h' H') {d d' : D} {v : V} (rd : RD ρ μ' H' d v) (e : frz n h' d = some d') : RD ρ (μ'.cut n) H' d' v := by
  unfold frz at e
  split at e
  · rename_i hp
    cases e
    exact rd.trim (D.low_pur _ hp)
  · split at e
    · rename_i a
      split at e
      · rename_i hn
        rw [RD] at rd
        obtain ⟨p, ep, rfl⟩ := rd
        have out : p ∉ μ'.cut n := fun z => by
          rcases z with z | z
          · obtain ⟨j, hj, ej⟩ := List.getElem_of_mem z
            have l1 : j < n := by have := hj; show j < n; rw [show (μ'.cut n).ix = μ'.ix.take n from rfl, List.length_take] at this; omega
            obtain ⟨l2, e2⟩ := List.getElem?_eq_some_iff.mp ep
            have l3 : j < μ'.ix.length := by rw [show (μ'.cut n).ix = μ'.ix.take n from rfl, List.length_take] at hj; omega
            have e3 : μ'.ix[j] = p := by rw [← ej]; exact (List.getElem_take ..).symm
            have := (List.getElem_inj R.nd).mp (e3.trans e2.symm)
            omega
          · exact (R.ow p z).1 (List.mem_of_getElem? ep)
        split at e
        · rename_i xs eo
          split at e
          · rename_i hp
            cases e
            obtain ⟨b, eb, ro⟩ := R.get eo
            rw [ep] at eb
            cases eb
            obtain ⟨vs, ev, rv⟩ := ro
            rw [RD]
            exact ⟨p, vs, rfl, .inr ⟨out, ev⟩, rv.trim (D.lows_pur _ hp)⟩
          · cases e
        · rename_i c fs eo
          split at e
          · rename_i hp
            cases e
            obtain ⟨b, eb, ro⟩ := R.get eo
            rw [ep] at eb
            cases eb
            obtain ⟨dx, ws, ev, rf, hc⟩ := ro
            obtain ⟨us, rfl, hl, rv⟩ := rf.split
            rw [RD]
            exact ⟨p, dx, us, rfl, out, ev, by rw [hl, List.length_map], rv.trim (D.lows_pur _ hp), hc⟩
          · cases e
        · cases e
      · cases e
    · cases e
theorem XD.trim {n : Nat} {c : Nat} {vs : List D} {cls : Value} {dd : Option Addr} (hp : D.purs vs = true) (x : XD ρ μ H c vs cls dd) : XD ρ (μ.cut n) H c vs cls dd := by
  obtain ⟨e, z⟩ := x
  refine ⟨e, ?_⟩
  cases vs with
  | nil => exact z
  | cons d r =>
    cases r with
    | nil =>
      obtain ⟨x, v, h1, h2, h3⟩ := z
      rw [D.purs, Bool.and_eq_true] at hp
      exact ⟨x, v, h1, h2, h3.trim (D.low_pur _ hp.1)⟩
    | cons => exact z
/-- behind a call -/
theorem gc_ok {μ' : Mu} {h' : Hp} {H' : LH} {d : D} {v : V} (R0 : HR ρ μ h H) (x : Ext μ H μ' H') (R : HR ρ μ' h' H') (rd : RD ρ μ' H' d v) (nb : gcR h (.ok d h') ≠ .bad) :
    ∃ d2 μ2, gcR h (.ok d h') = .ok d2 (h'.take h.length) ∧ Ext μ H μ2 H' ∧ HR ρ μ2 (h'.take h.length) H' ∧ RD ρ μ2 H' d2 v := by
  unfold gcR at nb ⊢
  simp only [] at nb ⊢
  split at nb
  · rename_i g
    rw [if_pos g]
    cases e : frz h.length h' d with
    | none => rw [e] at nb; exact absurd rfl nb
    | some d2 =>
      obtain ⟨h1, h2⟩ := gc_base R0 x R g.1 g.2
      exact ⟨d2, _, rfl, h1, h2, frz_ok R rd e⟩
  · exact absurd rfl nb
theorem gc_exc {μ' : Mu} {h' : Hp} {H' : LH} {c : Nat} {vs : List D} {cls : Value} {dd : Option Addr} (R0 : HR ρ μ h H) (x : Ext μ H μ' H') (R : HR ρ μ' h' H') (xd : XD ρ μ' H' c vs cls dd) (nb : gcR h (.exc c vs h') ≠ .bad) :
    ∃ μ2, gcR h (.exc c vs h') = .exc c vs (h'.take h.length) ∧ Ext μ H μ2 H' ∧ HR ρ μ2 (h'.take h.length) H' ∧ XD ρ μ2 H' c vs cls dd := by
  unfold gcR at nb ⊢
  simp only [] at nb ⊢
  split at nb
  · rename_i g
    rw [if_pos g]
    obtain ⟨h1, h2⟩ := gc_base R0 x R g.1 g.2.1
    exact ⟨_, rfl, h1, h2, xd.trim g.2.2⟩
  · exact absurd rfl nb
end Ev
end
end
section
/-! E21: defs. -/
set_option linter.all false
set_option maxRecDepth 100000
set_option maxHeartbeats 1000000
noncomputable section
namespace Ev
open PySem PySem.Spec PyProof.Rows PySem.SeqAt
open L2 (V HO Vals VK XK WX SqL SqT Inv PE PT PW PA PS PSs PG PGs PI Cx upd upd_same upd_ne Rd Room EP TP thn OpR CallR TE TT TA It TI PIE Turn FpOk TG TGs PTs TS Ends)
variable {ρ : Lk} {C : Call} {W : WX} {X : Cx} {pins : List (Addr × Obj)} {s : Shared} {σ : LS} {H : LH} {μ : Mu} {h : Hp} {k : Nat}

/-- how an error lies behind a call -/
abbrev cxt (ρ : Lk) : L2.CXT := fun outer H s E e s' => L2.CX ρ.prog ρ.w outer H s E e s'
/-- the text's part X is a def's body: its names N, its scope -/
structure Body (ρ : Lk) (C : Call) (W : WX) (X : Cx) (k : Nat) (N : List Str) (scope : Scope) : Prop where
  cf : Cf ρ C W X k
  ps : PassesOwn (model X.prog X.w) X.A X.env X.xe
  hN : X.N = N
  sc : X.env.scope = scope
  fn : X.fn = fun _ => true
  nd : N.Nodup
  fk : scope.kind = .function
  st : X.stack = X.env :: X.outer
  fr : X.env.frame = some X.env.locals
  ex : X.ex = []
/-- what stands at a def's address -/
structure FnAt (ρ : Lk) (f : Nat) (F : Fn) : Prop where
  go : ∃ (name qual : Str) (params : Arguments) (body : List Stmt) (scope : Scope) (dV kV doc pm cdv ct oc : Value) (an od : Option Addr) (osl : Array (Option Value)) (N ps : List Str) (dvs : List Value),
    ρ.K.lookup (ρ.fa f) = some ⟨oc, od, .func (PySem.W.fnOf name qual params body scope dV kV doc pm an cdv ct), osl⟩ ∧ PySem.W.codeIn ρ.K cdv qual = true ∧ L2.FnScope N ps scope ∧ ps.length = F.np ∧ N.length = F.ns ∧
    (∀ (s : Shared) (us : List Value) (j : Nat), ρ.K.In s.heap → us.length + j = F.np → j ≤ dvs.length → BindsTo s (PySem.W.fnOf name qual params body scope dV kV doc pm an cdv ct) ⟨us, []⟩ (ps.zip (us ++ dvs.drop (dvs.length - j)))) ∧
    dvs.length = F.dfl.length ∧ (∀ μ H, ∃ vs, RDs ρ μ H F.dfl vs ∧ Vals vs dvs) ∧
    ∀ (C : Call) (W : WX) (X : Cx) (k : Nat), Body ρ C W X k N scope → OwnAll ρ C k → PSs X body (tSL ρ C W F.body)
theorem padTo_some {F : Fn} {ds es : List D} (e : padTo F ds = some es) : ∃ j, ds.length + j = F.np ∧ j ≤ F.dfl.length ∧ es = ds ++ F.dfl.drop (F.dfl.length - j) := by
  unfold padTo at e
  split at e
  · rename_i hc
    rw [Bool.and_eq_true, decide_eq_true_eq, decide_eq_true_eq] at hc
    rw [Option.some.injEq] at e
    exact ⟨F.np - ds.length, by omega, by omega, e.symm⟩
  · cases e
theorem Vals.map_some {vs : List V} {n : Nat} {ds : List D} (r : RDs ρ μ H ds vs) : LR ρ μ H (ds.map some ++ List.replicate n none) (vs.map some ++ List.replicate n none) := by
  refine ⟨by simp [r.length], fun i d e => ?_⟩
  by_cases hi : i < ds.length
  · rw [List.getElem?_append_left (by simpa using hi), List.getElem?_map] at e
    cases ed : ds[i]? with
    | none => rw [ed] at e; cases e
    | some d' =>
      rw [ed] at e
      cases e
      obtain ⟨v, e1, r1⟩ := r.get ed
      exact ⟨v, by rw [List.getElem?_append_left (by simp [r.length]; exact hi), List.getElem?_map, e1]; rfl, r1⟩
  · rw [List.getElem?_append_right (by simpa using hi), List.getElem?_replicate] at e
    split at e <;> cases e
theorem callN_succ {P : Prog} {n f : Nat} {ds : List D} {h : Hp} (nb : callN P (n + 1) f ds h ≠ .bad) : ∃ F es, P.fn f = some F ∧ padTo F ds = some es ∧
    callN P (n + 1) f ds h = fin F h (evSL P (callN P n) F.body (es.map some ++ List.replicate (F.ns - F.np) none) h) := by
  rw [callN] at nb
  simp only [] at nb
  cases ef : P.fn f with
  | none => rw [ef] at nb; exact absurd rfl nb
  | some F =>
    rw [ef] at nb
    simp only [] at nb
    cases ep : padTo F ds with
    | none => rw [ep] at nb; exact absurd rfl nb
    | some es => exact ⟨F, es, rfl, ep, by rw [callN]; simp only [ef, ep]⟩
/-- a body's end, the call's end -/
theorem fin_ok {F : Fn} {r : RS} {μ' : Mu} {h' : Hp} {H' : LH} {d : D} {v : V} (R0 : HR ρ μ h H) (x : Ext μ H μ' H') (R : HR ρ μ' h' H') (rd : RD ρ μ' H' d v) (nb : fin F h r ≠ .bad) (e : r.out = .ok d h') :
    ∃ d2 h2 μ2, fin F h r = .ok d2 h2 ∧ Ext μ H μ2 H' ∧ HR ρ μ2 h2 H' ∧ RD ρ μ2 H' d2 v := by
  unfold fin at nb ⊢
  rw [e] at nb ⊢
  cases eg : F.gc with
  | false => exact ⟨d, h', μ', rfl, x, R, rd⟩
  | true =>
    obtain ⟨d2, μ2, e2, h1, h2, h3⟩ := gc_ok R0 x R rd (by rw [eg] at nb; exact nb)
    exact ⟨d2, _, μ2, e2, h1, h2, h3⟩
theorem fin_exc {F : Fn} {r : RS} {μ' : Mu} {h' : Hp} {H' : LH} {c : Nat} {vs : List D} {cls : Value} {dd : Option Addr} (R0 : HR ρ μ h H) (x : Ext μ H μ' H') (R : HR ρ μ' h' H') (xd : XD ρ μ' H' c vs cls dd) (nb : fin F h r ≠ .bad) (e : r.out = .exc c vs h') :
    ∃ h2 μ2, fin F h r = .exc c vs h2 ∧ Ext μ H μ2 H' ∧ HR ρ μ2 h2 H' ∧ XD ρ μ2 H' c vs cls dd := by
  unfold fin at nb ⊢
  rw [e] at nb ⊢
  cases eg : F.gc with
  | false => exact ⟨h', μ', rfl, x, R, xd⟩
  | true =>
    obtain ⟨μ2, e2, h1, h2, h3⟩ := gc_exc R0 x R xd (by rw [eg] at nb; exact nb)
    exact ⟨_, μ2, e2, h1, h2, h3⟩
theorem fin_nb {F : Fn} {r : RS} (nb : fin F h r ≠ .bad) : r.out ≠ .bad := fun z => by
  unfold fin at nb
  rw [z] at nb
  cases e : F.gc <;> rw [e] at nb <;> exact nb rfl
/-- a def, by its body -/
theorem fn_run {base : Heap} {kk : Nat} {n f : Nat} {F : Fn} {ds es : List D} {A : Around} {outer : List Env} {us : List Value} {vs : List V} (at_ : FnAt ρ f F) (ep : padTo F ds = some es)
    (fns : FnsOk ρ base kk (callN ρ.P n)) (own : OwnAll ρ (callN ρ.P n) kk) (hsm : ∃ o, base.get? sysModules = some o ∧ o.cls ≠ .type "list") (rm : Room (kk + 4) A) (gd : A.guards = some []) (e0 : L2.Env0 ρ.prog ρ.w ρ.K ρ.mg base A outer s H) (rv : Vals vs us) (rd : RDs ρ μ H ds vs) (R : HR ρ μ h H)
    (er : callN ρ.P (n + 1) f ds h = fin F h (evSL ρ.P (callN ρ.P n) F.body (es.map some ++ List.replicate (F.ns - F.np) none) h)) (nb : callN ρ.P (n + 1) f ds h ≠ .bad) :
    codeAny (model ρ.prog ρ.w) A (.call (.ref (ρ.fa f)) ⟨us, []⟩) (CEnd ρ (callN ρ.P (n + 1)) outer s H μ f ds h) s := by
  obtain ⟨name, qual, params, body, scope, dV, kV, doc, pm, cdv, ct, oc, an, od, osl, N, ps, dvs, lk, hcd, S, hnp, hns, hbind, hdl, hdv, hbody⟩ := at_.go
  obtain ⟨j, j1, j2, rfl⟩ := padTo_some ep
  obtain ⟨wd, rwd, rvd⟩ := hdv μ H
  have KX : ρ.K.In s.heap := e0.mod.kin.keeps fun b o e => (e0.bs b o e).1
  have lim : s.heap.NoLimit := e0.mod.nolimit.keeps fun b o e => (e0.bs b o e).1
  have rall : RDs ρ μ H (ds ++ F.dfl.drop (F.dfl.length - j)) (vs ++ wd.drop (F.dfl.length - j)) := rd.append (rwd.drop _)
  have vall : Vals (vs ++ wd.drop (F.dfl.length - j)) (us ++ dvs.drop (dvs.length - j)) := rv.append (by rw [hdl]; exact rvd.drop _)
  have hlen : (vs ++ wd.drop (F.dfl.length - j)).length = ps.length := by
    rw [rall.length, hnp, List.length_append, List.length_drop]
    omega
  have hlu : us.length = ds.length := by rw [← rv.length, rd.length]
  have kinds : ∀ y ∈ ps.zip (us ++ dvs.drop (dvs.length - j)), scope.names.lookup y.1 = some .local ∨ (scope.names.lookup y.1 = some .cell ∧ ((cellsFrom (s.heap.objs.size + 1) scope.names []).lookup y.1).isSome = true) := by
    intro ⟨y, v⟩ hy
    have hm := (List.of_mem_zip hy).1
    exact (S.par y hm).imp (fun q => q) fun q => ⟨q, PySem.W.cellsFrom_some _ _ _ (.inl q)⟩
  refine codeAny_call_function rm.depth (KX _ _ lk) rfl S.co S.gen rfl (PySem.W.codeRec_of KX hcd) (hbind s us j KX (by rw [hlu]; exact j1) (by rw [hdl]; exact j2) _ _ _ _ ?_)
  refine wpAny_newFunctionEnv_cells S.kind kinds fun env he s1 fresh => ?_
  subst he
  refine ⟨lim.keeps fresh.toInCall.keep, codeAny_func ?_⟩
  -- the wishes
  generalize hRS : evSL ρ.P (callN ρ.P n) F.body ((ds ++ F.dfl.drop (F.dfl.length - j)).map some ++ List.replicate (F.ns - F.np) none) h = rs at er
  rw [er] at nb
  have nbo := fin_nb nb
  let E : XK := fun cls dd H' => ∃ c ws h' μ', rs.out = .exc c ws h' ∧ Ext μ H μ' H' ∧ HR ρ μ' h' H' ∧ XD ρ μ' H' c ws cls dd
  let Q : VK := fun v H' => ∃ d h' μ', rs.out = .ok d h' ∧ Ext μ H μ' H' ∧ HR ρ μ' h' H' ∧ RD ρ μ' H' d v
  generalize hX : L2.cxOf (cxt ρ) ρ.prog ρ.w ρ.K ρ.mg base N qual scope (ρ.fa f) cdv A outer s H E = X
  have I : Inv X [] (L2.start N (vs ++ wd.drop (F.dfl.length - j))) H s1 := by
    rw [← hX]
    exact L2.inv_start S rm.hd e0 hlen vall fresh
  have rm1 : Room (kk + 3) (A.deeper (envOfC qual scope s.heap.objs.size (ρ.fa f) cdv)) := rm.deeper _
  have cf : Cf ρ (callN ρ.P n) (fun cls dd _ H' => E cls dd H') X kk := by
    subst hX
    refine ⟨⟨rfl, rfl, rfl, rfl, rfl, ?_, gd, rm1.hd, hsm⟩, fns, rm1, ?_⟩
    · have := rm1.un
      show (A.deeper _).units + 200 < cLine
      omega
    · exact L2.takes_of rfl rfl rfl rfl
  have bd : Body ρ (callN ρ.P n) (fun cls dd _ H' => E cls dd H') X kk N scope := by
    refine ⟨cf, ?_, ?_, ?_, ?_, S.nd, S.kind, ?_, ?_, ?_⟩
    · subst hX; exact L2.passes_of rfl
    all_goals subst hX; rfl
  have run := hbody _ _ X kk bd own
  have LR0 : LR ρ μ H ((ds ++ F.dfl.drop (F.dfl.length - j)).map some ++ List.replicate (F.ns - F.np) none) (L2.start N (vs ++ wd.drop (F.dfl.length - j))) := by
    unfold L2.start
    rw [hlen, hnp, hns]
    exact Vals.map_some rall
  have good : GoodS ρ (fun cls dd _ H' => E cls dd H') (evSL ρ.P (callN ρ.P n) F.body ((ds ++ F.dfl.drop (F.dfl.length - j)).map some ++ List.replicate (F.ns - F.np) none) h) { nx := fun _ H' => Q .non H', rt := Q } μ H := by
    rw [hRS]
    cases rs with
    | nxt l h1 => exact fun σ' H' μ' x R' _ => ⟨.non, h1, μ', rfl, x, R', by rw [RD]⟩
    | ret d l h1 => exact fun v H' μ' x R' r => ⟨d, h1, μ', rfl, x, R', r⟩
    | exc c ws l h1 => exact fun cls dd σ' H' μ' x R' _ xd => ⟨c, ws, h1, μ', rfl, x, R', xd⟩
    | brk l h1 => exact (nbo rfl).elim
    | cnt l h1 => exact (nbo rfl).elim
    | bad => exact (nbo rfl).elim
  have got := run.run [] s1 _ H _ I ⟨μ, _, h, LR0, R, good⟩
  have fin : ∀ {σ' : LS} {H' : LH} {v : V} {u : Value} {s' : Shared}, Inv X [] σ' H' s' → L2.RelV v u → Q v H' → CEnd ρ (callN ρ.P (n + 1)) outer s H μ f ds h (.ok (.ret u)) s' := by
    intro σ' H' v u s' J ru ⟨d0, h0, μ0, e0, x0, R0', r0⟩
    obtain ⟨d, h', μ', e1, x, R', r⟩ := fin_ok R x0 R0' r0 nb e0
    rw [← er] at e1
    subst hX
    refine ⟨d, h', H', μ', e1, J.os, J.bare, J.base, J.hok, x, R', ?_⟩
    unfold RU
    split
    · rw [RD] at r; exact r.elim
    · exact ⟨v, r, ru⟩
  have hA : X.A = A.deeper (envOfC qual scope s.heap.objs.size (ρ.fa f) cdv) := by subst hX; rfl
  have henv : X.env = envOfC qual scope s.heap.objs.size (ρ.fa f) cdv := by subst hX; rfl
  have hp : X.prog = ρ.prog := by subst hX; rfl
  have hw : X.w = ρ.w := by subst hX; rfl
  have hxe : X.xe = fun e s' => wpAny (model ρ.prog ρ.w) (A.deeper (envOfC qual scope s.heap.objs.size (ρ.fa f) cdv)) (leaving (envOfC qual scope s.heap.objs.size (ρ.fa f) cdv) e) (fun _ s'' => cxt ρ outer H s E e s'') (fun e' s'' => cxt ρ outer H s E e' s'') s' := by subst hX; rfl
  rw [hA, henv, hp, hw] at got
  have err : ∀ {e : Value} {s' : Shared}, cxt ρ outer H s E e s' → CEnd ρ (callN ρ.P (n + 1)) outer s H μ f ds h (.error e) s' := by
    intro e s' ⟨a, B, H', cls, dd, e1, e2, e3, e4, e5, e6, e7, c, ws, h0, μ0, p1, p2, p3, p4⟩
    obtain ⟨h', μ', q1, q2, q3, q4⟩ := fin_exc R p2 p3 p4 nb p1
    rw [← er] at q1
    exact ⟨c, ws, h', q1, a, B, H', cls, dd, e1, e2, e3, e4, e5, e6, e7, μ', q2, q3, q4⟩
  refine wpAny_mono got (fun fl s' hs => ?_) fun e s' hs => ?_
  · cases fl with
    | ret u =>
      obtain ⟨v, σ', H', J, ru, q⟩ := hs
      exact fin J ru q
    | next =>
      obtain ⟨σ', H', J, q⟩ := hs
      exact fin (v := V.non) (u := Value.none) J rfl q
    | brk =>
      obtain ⟨_, _, _, q⟩ := hs
      exact q.elim
    | cont =>
      obtain ⟨_, _, _, q⟩ := hs
      exact q.elim
  · rw [hxe] at hs
    exact wpAny_mono hs (fun _ s'' z => err z) fun e' s'' z => err z
theorem fns_ok {base : Heap} (hsm : ∃ o, base.get? sysModules = some o ∧ o.cls ≠ .type "list") (hall : ∀ f F, ρ.P.fn f = some F → FnAt ρ f F) (own : ∀ n, FnsOk ρ base (4 * n) (callN ρ.P n) → OwnAll ρ (callN ρ.P n) (4 * n)) : ∀ n, FnsOk ρ base (4 * n) (callN ρ.P n)
  | 0 => fun f ds h A outer s H us vs μ _ _ _ _ _ _ nb => absurd rfl nb
  | n + 1 => fun f ds h A outer s H us vs μ rm gd e0 rv rd R nb => by
    obtain ⟨F, es, ef, ep, er⟩ := callN_succ nb
    have ih := fns_ok hsm hall own n
    exact fn_run (hall f F ef) ep ih (own n ih) hsm rm gd e0 rv rd R er nb
end Ev
end
end
section
/-! E22: what the forms of the text give. -/
set_option linter.all false
set_option maxRecDepth 100000
set_option maxHeartbeats 1000000
noncomputable section
namespace Ev
open PySem PySem.Spec PyProof.Rows PySem.SeqAt
open L2 (V HO Vals VK XK WX SqL SqT Inv PE PT PW PA PS PSs PG PGs PI Cx upd upd_same upd_ne Rd Room EP TP thn OpR CallR TE TT TA It TI PIE Turn FpOk TG TGs PTs TS Ends)

def isStar : Expr → Bool
  | .Starred _ _ => true
  | _ => false
def isSlice : Expr → Bool
  | .Slice _ _ _ _ => true
  | _ => false
def isSetD : Expr → Bool
  | .Set _ _ _ => true
  | _ => false
def isComp : Expr → Bool
  | .ListComp _ _ _ _ => true
  | .SetComp _ _ _ _ => true
  | .DictComp _ _ _ _ _ => true
  | _ => false
def isSup : Expr → Bool
  | .Call (.Name _ _) [] [] _ => true
  | _ => false
def isIf : Expr → Bool
  | .IfExp _ _ _ _ => true
  | _ => false
def isSeqT : Expr → Bool
  | .Tuple _ _ _ => true
  | .List _ _ => true
  | _ => false
variable {env : Env}
theorem star_cons {e : Expr} {es : List Expr} (h : isStar e = false) : starEach (e :: es) env = (false, eval e env) :: starEach es env := by
  cases e <;> first
    | (simp [isStar] at h; done)
    | rfl
theorem star_none : ∀ {es : List Expr} {pos : Pos}, es.any isStar = false → (backTo pos (starEach es env)).any (·.1) = false
  | [], _, _ => rfl
  | e :: es, pos, h => by
    rw [List.any_cons, Bool.or_eq_false_iff] at h
    rw [star_cons h.1]
    show (false || (backTo pos (starEach es env)).any (·.1)) = false
    rw [star_none h.2]
    rfl
theorem star_len : ∀ {es : List Expr}, (starEach es env).length = es.length
  | [] => rfl
  | e :: es => by
    cases e <;> (show (starEach es env).length + 1 = es.length + 1; rw [star_len])
theorem all_not {α : Type} : ∀ {l : List (Bool × α)}, l.any (·.1) = false → l.all (fun x => !x.1) = true
  | [], _ => rfl
  | (b, x) :: r, h => by
    rw [List.any_cons, Bool.or_eq_false_iff] at h
    rw [List.all_cons, h.1, all_not h.2]
    rfl
theorem few_args {es : List Expr} {pos : Pos} (h : es.any isStar = false) (hl : es.length < 30) : methodCallForm (es.length + 0) (backTo pos (starEach es env)) (backToKw pos (keywordEach [] env)) = true := by
  unfold methodCallForm
  rw [show (backTo pos (starEach es env)).all (fun x => !x.1) = true from all_not (star_none h)]
  show (true && true && decide (es.length + 0 + 0 < 30)) = true
  simp [hl]
theorem no_marks {op : CmpOp} {b : Expr} (h : isSetD b = false) : behindInMarks op b = false := by
  cases b <;> first
    | (simp [isSetD] at h; done)
    | rfl
theorem no_marks2 {o o2 : CmpOp} {b c : Expr} (h : isSetD c = false) : lastMarks [o, o2] [b, c] = false := no_marks h
theorem plain_ix {b : Expr} (h : isSlice b = false) : L2.PlainIx b := fun o i => by
  cases b <;> first
    | (simp [isSlice] at h; done)
    | rfl
theorem no_fold {e : Expr} (h : isSetD e = false) (x : Value) : foldedSetIterable e env x = pure x := by
  cases e <;> first
    | (simp [isSetD] at h; done)
    | rfl
theorem no_swap {e : Expr} {t : Option Expr} {l : Nat} (h : isComp e = false) : swapsWith e t l env = pure false := by
  cases e <;> first
    | (simp [isComp] at h; done)
    | rfl
theorem no_swap1 {e t : Expr} {l : Nat} (h : isComp e = false) : swapsWithSole [t] e l env = pure false := no_swap h
theorem asg_sub {o i : Expr} {pos : Pos} (h : isSlice i = false) (v : Value) : assign (.Subscript o i pos) env v = (do
      let ov ← holding [v] (eval o env)
      let iv ← holding [v, ov] (eval i env)
      standAt pos
      holding [v, ov, iv] (setItem ov iv v)
      release [v, ov, iv] []) := by
  cases i <;> first
    | (simp [isSlice] at h; done)
    | rfl
theorem no_super {o : Expr} {x : Str} (h : isSup o = false) : attributeBase o x env (eval o env) = eval o env := by
  unfold attributeBase
  split
  · simp [isSup] at h
  · rfl
theorem no_par1 {t e : Expr} (h : isSeqT t = false) : swappedStores [t] e env = pure none := by
  cases t <;> first
    | (simp [isSeqT] at h; done)
    | (unfold swappedStores; rfl)
theorem no_par2 {t e : Expr} (h : isSeqT e = false) : swappedStores [t] e env = pure none := by
  cases e <;> first
    | (simp [isSeqT] at h; done)
    | (cases t <;> (unfold swappedStores; rfl))
theorem asg_one {t : Expr} (h : isStar t = false) : (assignEach [t] env).map (·.2) = [assign t env] := by
  cases t <;> first
    | (simp [isStar] at h; done)
    | rfl
theorem asg_cons {t : Expr} {ts : List Expr} (h : isStar t = false) : (assignEach (t :: ts) env).map (·.2) = assign t env :: (assignEach ts env).map (·.2) := by
  cases t <;> first
    | (simp [isStar] at h; done)
    | rfl
theorem asg_len : ∀ {ts : List Expr}, (assignEach ts env).length = ts.length
  | [] => rfl
  | t :: ts => by
    cases t <;> (show (assignEach ts env).length + 1 = ts.length + 1; rw [asg_len])
theorem asg_nostar : ∀ {ts : List Expr}, ts.any isStar = false → (assignEach ts env).findIdx? (·.1) = none
  | [], _ => rfl
  | t :: ts, h => by
    rw [List.any_cons, Bool.or_eq_false_iff] at h
    have e : ∃ f, assignEach (t :: ts) env = (false, f) :: assignEach ts env := by
      cases t <;> first
        | (simp [isStar] at h; done)
        | exact ⟨_, rfl⟩
    obtain ⟨f, e⟩ := e
    rw [e, List.findIdx?_cons, asg_nostar h.2]
    rfl
theorem sw_cell {elt : Expr} {gs : List Comprehension} {scope : Scope} {pos py : Pos} {y : Str} {l : Nat} (hy : (env.scope.names.lookup y == some NameKind.local) = false) : swapsWithSole [.Name y py] (.ListComp elt gs scope pos) l env = pure false := by
  have ky : (env.kindOf y == some NameKind.local) = false := hy
  show swapsWith (.ListComp elt gs scope pos) (some (.Name y py)) l env = pure false
  unfold swapsWith
  simp only [ky, Bool.and_false, Bool.false_and]
theorem sw_other {elt t : Expr} {gs : List Comprehension} {scope : Scope} {pos : Pos} {l : Nat} (ht : ∀ y p, t ≠ .Name y p) : swapsWithSole [t] (.ListComp elt gs scope pos) l env = pure false := by
  cases t <;> first
    | (exact absurd rfl (ht _ _); done)
    | rfl
/-- tests: what is no not, and, or, comparison, conditional -/
def isPlainT : Expr → Bool
  | .UnaryOp .Not _ _ => false
  | .BoolOp _ _ _ => false
  | .IfExp _ _ _ _ => false
  | .Compare _ _ _ _ => false
  | _ => true
theorem plain_t {e : Expr} (h : isPlainT e = true) : ∀ whole, isTrue e env whole = (do let v ← whole; standAt e.pos; holding [v] (truthy v)) := by
  intro whole
  cases e <;> first
    | (simp [isPlainT] at h; done)
    | rfl
    | (rename_i op a pos; cases op <;> first | (simp [isPlainT] at h; done) | rfl)
/-- a, b = x, y: two names of the block, on one line -/
theorem par_two {x y : Str} {px py pt : Pos} {kt k2 : Nat} {a b : Expr} {p2 : Pos} (hk : env.scope.kind = .function) (hx : env.scope.names.lookup x = some .local) (hy : env.scope.names.lookup y = some .local) (hl : (px.line == py.line) = true) (hxy : x ≠ y) (hs : isStar a = false ∧ isStar b = false)
    (hf : ([a, b].all (foldedForSure 8)) = false) (hc : ([a, b].all (constantsAlone 8)) = false) : swappedStores [.Tuple [.Name x px, .Name y py] kt pt] (.Tuple [a, b] k2 p2) env = pure (some [x, y]) := by
  have kx : env.kindOf x = some .local := hx
  have ky : env.kindOf y = some .local := hy
  have hb : env.blockKind = .function := by unfold Env.blockKind; rw [hk]; rfl
  have hl2 : (py.line == px.line) = true := by rw [beq_iff_eq] at hl ⊢; exact hl.symm
  have hne : (x == y) = false := by simpa using hxy
  have hne2 : (y == x) = false := by simpa using fun z => hxy z.symm
  have hed : ([x, y] : List Str).eraseDups = [x, y] := by
    rw [List.eraseDups_cons]
    have : (List.filter (fun b => !b == x) [y]) = [y] := by
      simp [hne2]
    rw [this, List.eraseDups_cons]
    rfl
  unfold swappedStores
  simp only [Expr.pos, List.head?_cons, Option.map_some, Option.getD_some, List.length_cons, List.length_nil, hb]
  simp only [kx, ky, hl2, hf, hc, List.filterMap_cons, List.filterMap_nil, beq_self_eq_true, Bool.and_self, if_true, hed]
  obtain ⟨h1, h2⟩ := hs
  refine (if_neg (by decide)).trans ?_
  refine (if_neg ?_).trans ?_
  · simp only [List.any_cons, List.any_nil, Bool.or_false, Bool.or_eq_true]
    rintro (z | z)
    · split at z
      · simp [isStar] at h1
      · cases z
    · split at z
      · simp [isStar] at h2
      · cases z
  · rfl
end Ev
end
end
section
/-! E27: zip of lists and tuples, mixed. -/
set_option linter.all false
set_option maxRecDepth 100000
set_option maxHeartbeats 1000000
noncomputable section
namespace Ev
open PySem PySem.Spec PyProof.Rows PySem.SeqAt PySem.Calls
open L2 (V HO Vals VK XK WX SqL SqT Inv PE PT PW PA PS PSs PG PGs PI Cx upd upd_same upd_ne Rd Room EP TP thn OpR CallR TE TT TA It TI PIE Turn FpOk)
variable {ρ : Lk} {C : Call} {W : WX} {X : Cx} {pins : List (Addr × Obj)} {s : Shared} {σ : LS} {H : LH} {μ : Mu} {h : Hp} {k : Nat}

/-- a list or a tuple that a zip walks -/
inductive Zk where
  | l (a : Addr)
  | t (a : Addr)
def Zk.ad : Zk → Addr
  | .l a => a
  | .t a => a
def Zk.sq (K : PySem.W.Frag) (H : LH) : Zk → List V → Prop
  | .l a, vs => SqL K H a vs
  | .t a, vs => SqT K H a vs
def Zk.turn : Zk → Addr → Nat → Heap → Prop
  | .l a, it, i, h => h.IsListIter it a i
  | .t a, it, i, h => h.IsTupleIter it a i
def Zk.its : Zk → Heap → Array Value → Prop
  | .l a, h, is => h.IsList a is
  | .t a, h, is => h.IsTuple a is
theorem Zk.keepT {z : Zk} {it : Addr} {i : Nat} {h h' : Heap} (x : z.turn it i h) (k : ∀ o, h.get? it = some o → h'.get? it = some o) : z.turn it i h' := by
  cases z with
  | l a => exact Heap.IsListIter.at x k
  | t a => exact Heap.IsTupleIter.at x k
theorem Zk.obj {z : Zk} {it : Addr} {i : Nat} {h : Heap} (x : z.turn it i h) : ∃ o, h.get? it = some o ∧ ∀ v, o.data ≠ .cell v := by
  cases z with
  | l a =>
    obtain ⟨o, e, _, d⟩ := x
    exact ⟨o, e, fun v q => by rw [d] at q; cases q⟩
  | t a =>
    obtain ⟨o, e, _, d⟩ := x
    exact ⟨o, e, fun v q => by rw [d] at q; cases q⟩
theorem Zk.draws {P : Program} {w : World} {A : Around} (hh : A.handled = none) (z : Zk) (it : Addr) (hne : z.ad ≠ it) (is : Array Value) : Draws P w A it [it, z.ad] is.size (fun i v => is[i]? = some v) (fun i h => z.turn it i h ∧ z.its h is) := by
  cases z with
  | l a => exact Draws.list hh it a hne is
  | t a => exact Draws.tuple hh it a hne is
theorem Zk.at {z : Zk} (I : Inv X pins σ H s) {vs : List V} (q : z.sq X.K H vs) : ∃ its : List Value, Vals vs its ∧ z.its s.heap its.toArray ∧ z.ad < s.heap.objs.size := by
  cases z with
  | l a =>
    obtain ⟨its, r, p, _⟩ := I.list q
    exact ⟨its, r, p.isList, p.lt⟩
  | t a =>
    obtain ⟨its, r, p, _⟩ := I.tuple q
    obtain ⟨o, e, _⟩ := id p
    exact ⟨its, r, p, Heap.lt_size e⟩
theorem Zk.inj {z : Zk} (I : Inv X pins σ H s) {vs ws : List V} (q : z.sq X.K H vs) (r : z.sq X.K H ws) : vs = ws := by
  cases z with
  | l a => exact I.list_inj q r
  | t a => exact I.tuple_inj q r
/-- both, as they stand at each turn -/
def ItM (K : PySem.W.Frag) (a b : Zk) : It :=
  ⟨fun i H => ∃ xs ys x y, a.sq K H xs ∧ b.sq K H ys ∧ xs[i]? = some x ∧ ys[i]? = some y,
    fun i H v H' => ∃ T x y, v = .ref T ∧ H T = none ∧ H' = upd H T (.tup [x, y]) ∧ (∀ xs, a.sq K H xs → xs[i]? = some x) ∧ ∀ ys, b.sq K H ys → ys[i]? = some y,
    fun i H => ∃ xs ys, a.sq K H xs ∧ b.sq K H ys ∧ i ≤ xs.length ∧ i ≤ ys.length ∧ (i = xs.length ∨ i = ys.length)⟩
theorem turn_mix {P : Program} {w : World} {K : PySem.W.Frag} {elts : List Expr} {kk : Nat} {tpos : Pos} {a b : Zk} {z TI TO i1 i2 : Addr} (S : ZipSep2 z TI TO i1 i2 [i1, a.ad] [i2, b.ad]) (n1 : a.ad ≠ i1) (n2 : b.ad ≠ i2) :
    L2.Turn P w K (.Tuple elts kk tpos) (ItM K a b) [z, TI, TO, i1, i2] z (fun i h => IsZip h z TI TO .none ∧ IsTupOf2 h TI (.ref i1) (.ref i2) ∧ (∃ x y, IsTupOf2 h TO x y) ∧ a.turn i1 i h ∧ b.turn i2 i h) where
  mem := by simp
  obj := fun i h ⟨hz, hI, ⟨x, y, hO⟩, t1, t2⟩ c hc => by
    simp only [List.mem_cons, List.not_mem_nil, or_false] at hc
    rcases hc with e | e | e | e | e <;> rw [e]
    · exact ⟨_, hz, fun v q => nomatch q⟩
    · exact ⟨_, hI, fun v q => nomatch q⟩
    · exact ⟨_, hO, fun v q => nomatch q⟩
    · exact Zk.obj t1
    · exact Zk.obj t2
  keep := fun i h h' ⟨hz, hI, ⟨x, y, hO⟩, t1, t2⟩ k => ⟨k z (by simp) _ hz, k TI (by simp) _ hI, ⟨x, y, k TO (by simp) _ hO⟩, Zk.keepT t1 (k i1 (by simp)), Zk.keepT t2 (k i2 (by simp))⟩
  item := by
    intro X eP ew eK calm i pins s σ H E I hf st hgo
    subst eP ew eK
    obtain ⟨hz, hI, ⟨x0, y0, hO⟩, t1, t2⟩ := st
    obtain ⟨xs, ys, x, y, q1, q2, e1, e2⟩ := hgo
    obtain ⟨is, r1, p1, _⟩ := Zk.at I q1
    obtain ⟨js, r2, p2, _⟩ := Zk.at I q2
    obtain ⟨u1, f1, g1⟩ := r1.get e1
    obtain ⟨u2, f2, g2⟩ := r2.get e2
    have hd := I.ok.hd calm
    have lt1 : i < is.toArray.size := by simpa using (List.getElem?_eq_some_iff.mp f1).1
    have lt2 : i < js.toArray.size := by simpa using (List.getElem?_eq_some_iff.mp f2).1
    have zl : z < s.heap.objs.size := Heap.lt_size hz
    refine wpAny_pyNext_zipD2_item S (Zk.draws (P := X.prog) (w := X.w) (A := X.A.in1) hd a i1 n1 is.toArray) (Zk.draws (P := X.prog) (w := X.w) (A := X.A.in1) hd b i2 n2 js.toArray) hz hI hO ⟨t1, p1⟩ ⟨t2, p2⟩ lt1 lt2 fun w1 w2 h1 tk d1 d2 hz1 hO1 st1 st2 hT hsz hk => ?_
    have ew1 : w1 = u1 := by simpa [f1] using d1.symm
    have ew2 : w2 = u2 := by simpa [f2] using d2.symm
    subst ew1 ew2
    refine ⟨_, rfl, wpAny_letOwnedTupleGo_zip (s := { s with heap := h1, toks := tk }) hz1 fun h2 hz2 sb => ?_⟩
    have hT2 : h2.get? s.heap.objs.size = some { cls := .type "tuple", data := .seq #[w1, w2] } := (sb.2 _ (Nat.ne_of_gt zl)).trans hT
    have new : L2.ObjOk X.prog X.w (upd H s.heap.objs.size (.tup [x, y])) h2 s.heap.objs.size (.tup [x, y]) := ⟨by show 2 ≤ sizeLine; decide, [w1, w2], .cons g1 (.cons g2 .nil), ⟨_, hT2, rfl, _, rfl⟩⟩
    have moved : ∀ c o, c ∉ [z, TI, TO, i1, i2] → s.heap.get? c = some o → h2.get? c = some o := fun c o hc q => by
      simp only [List.mem_cons, List.not_mem_nil, or_false, not_or] at hc
      exact (sb.2 c hc.1).trans (hk c o hc.1 hc.2.2.1 hc.2.2.2.1 hc.2.2.2.2 q)
    have I1 : Inv X pins σ (upd H s.heap.objs.size (.tup [x, y])) { s with heap := h2, toks := tk } := I.turnedNew (ch := [z, TI, TO, i1, i2]) moved hf (Nat.le_refl _) new
    refine ⟨.ref s.heap.objs.size, _, I1, rfl, ⟨_, x, y, rfl, I.hok.fresh (Nat.le_refl _), rfl, fun l hl => by rw [Zk.inj I hl q1]; exact e1, fun l hl => by rw [Zk.inj I hl q2]; exact e2⟩, ⟨hz2, ?_, ⟨w1, w2, ?_⟩, ?_, ?_⟩, fun c hc => ?_⟩
    · exact (sb.2 _ S.TIz).trans (hk _ _ S.TIz S.TITO S.TIi1 S.TIi2 hI)
    · exact (sb.2 _ S.TOz).trans hO1
    · exact Zk.keepT st1.1 fun o q => (sb.2 _ S.zi1.symm).trans q
    · exact Zk.keepT st2.1 fun o q => (sb.2 _ S.zi2.symm).trans q
    · have below : c < s.heap.objs.size := by
        have hc2 := hc
        simp only [List.mem_cons, List.not_mem_nil, or_false] at hc2
        rcases hc2 with e | e | e | e | e <;> rw [e]
        · exact zl
        · exact Heap.lt_size hI
        · exact Heap.lt_size hO
        · obtain ⟨_, q, _⟩ := Zk.obj t1; exact Heap.lt_size q
        · obtain ⟨_, q, _⟩ := Zk.obj t2; exact Heap.lt_size q
      rw [upd_ne (Nat.ne_of_lt below)]
      exact (hf c hc).1
  done := by
    intro X eP ew eK calm i pins s σ H E I hf st hstop
    subst eP ew eK
    obtain ⟨hz, hI, ⟨x0, y0, hO⟩, t1, t2⟩ := st
    obtain ⟨xs, ys, q1, q2, l1, l2, le⟩ := hstop
    obtain ⟨is, r1, p1, _⟩ := Zk.at I q1
    obtain ⟨js, r2, p2, _⟩ := Zk.at I q2
    have hd := I.ok.hd calm
    have s1 : is.toArray.size = xs.length := by rw [List.size_toArray, r1.length]
    have s2 : js.toArray.size = ys.length := by rw [List.size_toArray, r2.length]
    refine wpAny_pyNext_zipD2_end S (Zk.draws (P := X.prog) (w := X.w) (A := X.A.in1) hd a i1 n1 is.toArray) (Zk.draws (P := X.prog) (w := X.w) (A := X.A.in1) hd b i2 n2 js.toArray) hz hI hO ⟨t1, p1⟩ ⟨t2, p2⟩ (by omega) (by omega) (by omega) fun h1 tk hk => ⟨rfl, ?_⟩
    refine I.turnedL (ch := [z, TI, TO, i1, i2]) (fun c o hc q => ?_) hf
    simp only [List.mem_cons, List.not_mem_nil, or_false, not_or] at hc
    exact hk c o hc.1 hc.2.2.1 hc.2.2.2.1 hc.2.2.2.2 q
  self := fun A i s Q E st h => wpAny_pyIter_zip st.1 h
/-! ### in the intermediate text -/
/-- the source is that list or tuple -/
def ZkOf (ρ : Lk) (K : PySem.W.Frag) (μ0 : Mu) (H0 : LH) (S : Src) (z : Zk) : Prop := ∀ (μ : Mu) (h : Hp) (H : LH), Ext μ0 H0 μ H → HR ρ μ h H → (∃ i od, S.at h i = some od) → ∃ vs, z.sq K H vs ∧ ∀ (i : Nat) (od : Option D), S.at h i = some od → match od with
  | some d => ∃ v, vs[i]? = some v ∧ RD ρ μ H d v
  | none => vs.length ≤ i
theorem walk_zip {K : PySem.W.Frag} {S T : Src} {a b : Zk} (za : ZkOf ρ K μ H S a) (zb : ZkOf ρ K μ H T b) : Walk ρ μ H (.zip S T) (ItM K a b) where
  free := rfl
  go := fun μ1 h1 H1 i d x R e => by
    simp only [Src.at] at e
    split at e
    · rename_i p q e1 e2
      rw [Option.some.injEq, Option.some.injEq] at e
      subst e
      obtain ⟨vs, s1, a1⟩ := za μ1 h1 H1 x R ⟨i, _, e1⟩
      obtain ⟨ws, s2, a2⟩ := zb μ1 h1 H1 x R ⟨i, _, e2⟩
      obtain ⟨v, g1, r1⟩ := a1 i _ e1
      obtain ⟨w, g2, r2⟩ := a2 i _ e2
      refine ⟨⟨vs, ws, v, w, s1, s2, g1, g2⟩, fun y H2 ⟨A, v', w', ey, hA, eH, k1, k2⟩ => ?_⟩
      have := k1 vs s1
      rw [g1] at this
      cases this
      have := k2 ws s2
      rw [g2] at this
      cases this
      subst ey eH
      have xt := Ext.tup R hA (.tup [v, w])
      refine ⟨μ1, xt, R.beside hA _, ?_⟩
      rw [RD]
      exact ⟨A, [v, w], rfl, .inl (.inl upd_same), (RDs.two r1 r2).mono (xt.stays R) xt.sub⟩
    · split at e
      · cases e
      · split at e <;> cases e
    · cases e
  stop := fun μ1 h1 H1 i x R e => by
    simp only [Src.at] at e
    split at e
    · cases e
    · rename_i o1 o2 hno e1 e2
      obtain ⟨vs, s1, a1⟩ := za μ1 h1 H1 x R ⟨i, _, e1⟩
      obtain ⟨ws, s2, a2⟩ := zb μ1 h1 H1 x R ⟨i, _, e2⟩
      have g1 := a1 i _ e1
      have g2 := a2 i _ e2
      have low : i ≤ vs.length ∧ i ≤ ws.length := by
        split at e
        · omega
        · split at e
          · rename_i hi _ _ p q e3 e4
            obtain ⟨v, g3, _⟩ := a1 (i - 1) _ e3
            obtain ⟨w, g4, _⟩ := a2 (i - 1) _ e4
            have l3 := (List.getElem?_eq_some_iff.mp g3).1
            have l4 := (List.getElem?_eq_some_iff.mp g4).1
            omega
          · cases e
      refine ⟨vs, ws, s1, s2, low.1, low.2, ?_⟩
      cases o1 with
      | none => left; have : vs.length ≤ i := g1; omega
      | some p =>
        cases o2 with
        | none => right; have : ws.length ≤ i := g2; omega
        | some q => exact (hno p q rfl rfl).elim
    · cases e
theorem zk_lst {K : PySem.W.Frag} (hK : K = ρ.K) {a : Nat} {p : Addr} (ep : μ.ix[a]? = some p) : ZkOf ρ K μ H (.lst a) (.l p) := fun μ1 h1 H1 x R ⟨i, od, e⟩ => by
  simp only [Src.at] at e
  split at e
  · rename_i xs lk eo
    obtain ⟨b, eb, ro⟩ := R.get eo
    rw [x.at ep] at eb
    cases eb
    cases lk with
    | true => exact ro.elim
    | false =>
      obtain ⟨vs, ev, rv⟩ := ro
      refine ⟨vs, .inl (.inl ev), fun j oj ej => ?_⟩
      simp only [Src.at, eo, Option.some.injEq] at ej
      subst ej
      cases q : xs[j]? with
      | none => exact rv.none_of q
      | some d => exact rv.get q
  · cases e
theorem zk_vl {K : PySem.W.Frag} (hK : K = ρ.K) (R0 : HR ρ μ h H) {p : Addr} {xs : List D} (rd : RD ρ μ H (.vl xs) (.ref p)) : ZkOf ρ K μ H (.seq xs) (.l p) := fun μ1 h1 H1 x R _ => by
  obtain ⟨a, vs, ea, sq, rv⟩ := lst_at (xs := xs) R rfl (rd.mono (x.stays R0) x.sub)
  cases ea
  refine ⟨vs, show SqL K H1 p vs by rw [hK]; exact sq, fun j oj ej => ?_⟩
  simp only [Src.at, Option.some.injEq] at ej
  subst ej
  cases q : xs[j]? with
  | none => exact rv.none_of q
  | some d => exact rv.get q
theorem zk_tup {K : PySem.W.Frag} (hK : K = ρ.K) (R0 : HR ρ μ h H) {p : Addr} {xs : List D} {vs : List V} (rd : RDs ρ μ H xs vs) (sq : SqT ρ.K H p vs) : ZkOf ρ K μ H (.seq xs) (.t p) := fun μ1 h1 H1 x R _ => by
  refine ⟨vs, show SqT K H1 p vs by rw [hK]; exact (x.stays R0).sqT sq, fun j oj ej => ?_⟩
  simp only [Src.at, Option.some.injEq] at ej
  subst ej
  have rv := rd.mono (x.stays R0) x.sub
  cases q : xs[j]? with
  | none => exact rv.none_of q
  | some d => exact rv.get q
theorem zk_of (c : Ct ρ X) (R : HR ρ μ h H) {d : D} {v : V} {S : Src} (rd : RD ρ μ H d v) (e : zipS h d = some S) : ∃ z, ZkOf ρ X.K μ H S z ∧ v = .ref z.ad ∧ ∃ vs, z.sq X.K H vs := by
  unfold zipS at e
  split at e
  · cases e
  · unfold srcOf at e
    split at e
    · rename_i xs _
      obtain ⟨a, vs, rfl, sq, rv⟩ := lst_at (xs := xs) R rfl rd
      cases e
      exact ⟨.l _, zk_vl c.K R rd, rfl, _, by rw [c.K]; exact sq⟩
    · cases e
      rw [RD] at rd
      obtain ⟨a, vs, ev, t, rv⟩ := rd
      exact ⟨.t a, zk_tup c.K R rv t, ev, vs, by rw [c.K]; exact t⟩
    · rename_i z _
      rename_i hno
      exact (hno _ rfl).elim
    · rename_i a
      split at e
      · rename_i xs lk eo
        cases e
        obtain ⟨p, ws, ev0, ep, ev, rv, e0⟩ := R.lst eo rd
        exact ⟨.l p, zk_lst c.K ep, ev0, ws, .inl (.inl ev)⟩
      · cases e
    · cases e
theorem s_zip {a b : Expr} {a' b' : E} {p pos tpos : Pos} {elts : List Expr} {kk : Nat} (c : Ct ρ X) (ha : PE X a (tE ρ C W a')) (hb : PE X b (tE ρ C W b')) (hg : L2.Gl X "zip") (hm : X.mg "zip" = none) (sa : isStar a = false) (sb : isStar b = false) :
    PI X (.Tuple elts kk tpos) (.Call (.Name "zip" p) [a, b] [] pos) (tI ρ C W (.zip a' b')) := by
  refine ⟨fun pins s σ H Rr I ⟨μ, l, h, hl, R, g⟩ => ?_⟩
  rw [evI] at g
  have hpl : (backTo pos (starEach [a, b] X.env)).any (·.1) = false := star_none (by simp [sa, sb])
  have args : PA X [a, b] (tEL ρ C W (.cons false a' (.cons false b' .nil))) := s_cons ha (s_cons hb s_nil (star_cons sb)) (star_cons sa)
  have g0 : Good ρ (relW ρ) W ((evEL ρ.P C (.cons false a' (.cons false b' .nil)) l h).bind fun ds h2 => match ds with
      | [x, y] => (match zipS h2 x, zipS h2 y with
        | some S, some T => .ok (.zip S T) h2
        | _, _ => .bad)
      | _ => .bad) μ σ H Rr := by
    cases e1 : evE ρ.P C a' l h with
    | bad => rw [e1] at g; exact g.elim
    | exc => rw [e1] at g; simp only [evEL, e1]; exact g
    | ok x h1 =>
      rw [e1] at g
      simp only [Ev.R.bind_ok] at g
      cases e2 : evE ρ.P C b' l h1 with
      | bad => rw [e2] at g; exact g.elim
      | exc => rw [e2] at g; simp only [evEL, e1, e2, Ev.R.bind_ok]; exact g
      | ok y h2 =>
        rw [e2] at g
        simp only [evEL, e1, e2, Ev.R.bind_ok] at g ⊢
        exact g
  refine Call_ (L2.ld_blt I hg hm PyProof.Rows.boot_zip (PyProof.Rows.callWith_type hpl (evalArgs_any hpl (thn (args.run pos pins s σ H _ I ⟨μ, l, h, hl, R, g0.bind⟩) fun us s1 ⟨vs, H1, I1, r1, ds, h1, μ1, er, x1, R1, rd, g1⟩ => ?_))))
  split at g1
  · rename_i x y
    split at g1
    · rename_i S T e1 e2
      obtain ⟨v, w, rfl, rv, rw'⟩ := rd.two_inv
      obtain ⟨za, qa, rfl, ws1, sq1⟩ := zk_of c R1 rv e1
      obtain ⟨zb, qb, rfl, ws2, sq2⟩ := zk_of c R1 rw' e2
      obtain ⟨u, z, rfl, ru, rz⟩ := L2.vals2 r1
      cases ru
      cases rz
      obtain ⟨is, _, p1, l1⟩ := Zk.at I1 sq1
      obtain ⟨js, _, p2, l2⟩ := Zk.at I1 sq2
      have beg : ∀ z : Zk, ∀ is, ∃ o, Begins (.ref z.ad) o (fun h => z.its h is) ∧ ∀ (h : Heap) it, h.get? it = some o → z.turn it 0 h := fun z is => by
        cases z with
        | l a => exact ⟨_, begins_list a is, fun h it e => ⟨_, e, rfl, rfl⟩⟩
        | t a => exact ⟨_, begins_tuple a is, fun h it e => ⟨_, e, rfl, rfl⟩⟩
      obtain ⟨o1, B1, T1⟩ := beg za is.toArray
      obtain ⟨o2, B2, T2⟩ := beg zb js.toArray
      refine zip_begins2 B1 B2 p1 p2 fun h2 hz hI hO g1' g2' hsz hk => wpAny_pyIter_zip hz ?_
      have I2 : Inv X pins σ H1 { s1 with heap := h2 } := I1.kept (t' := s1.toks) hk
      have sep := zip_sep2 (N := s1.heap.objs.size) (fp1 := [za.ad]) (fp2 := [zb.ad]) (fun b hb => by rw [List.mem_singleton.mp hb]; exact l1) (fun b hb => by rw [List.mem_singleton.mp hb]; exact l2)
      refine ⟨s1.heap.objs.size + 4, [s1.heap.objs.size + 4, s1.heap.objs.size + 2, s1.heap.objs.size + 3, s1.heap.objs.size, s1.heap.objs.size + 1], _, ItM X.K za zb, H1, rfl, I2, turn_mix sep (Nat.ne_of_lt l1) (Nat.ne_of_lt (Nat.lt_succ_of_lt l2)), ⟨hz, hI, ⟨_, _, hO⟩, T1 _ _ g1', T2 _ _ g2'⟩, fun b hb => ?_, Good.ok g1 Ext.rfl R1 (walk_zip qa qb)⟩
      have hle : s1.heap.objs.size ≤ b := by
        simp only [List.mem_cons, List.not_mem_nil, or_false] at hb
        rcases hb with e | e | e | e | e <;> rw [e]
        · exact Nat.le_add_right _ _
        · exact Nat.le_add_right _ _
        · exact Nat.le_add_right _ _
        · exact Nat.le_refl _
        · exact Nat.le_add_right _ _
      exact I1.fpOk hle (I1.hok.fresh hle)
    · exact g1.elim
  · exact g1.elim
end Ev
end
end
section
/-! E28: how many values differ: len(set(xs)), len({..}). -/
set_option linter.all false
set_option maxRecDepth 100000
set_option maxHeartbeats 3200000
noncomputable section
namespace Ev
open PySem PySem.Spec PyProof.Rows PySem.SeqAt PySem.Calls
open L2 (V HO Vals VK XK WX SqL SqT Inv PE PT PW PA PS PSs PG PGs PI Cx upd upd_same upd_ne Rd Room EP TP thn OpR CallR TE TT TA It TI PIE FpOk TG TGs PTs)

/-- keys met for the first time -/
def memK (l : List L2.Key) : L2.Key → Bool := fun k => l.any fun y => decide (y = k)
def fkStep (acc : List L2.Key) (k : L2.Key) : List L2.Key := if memK acc k then acc else acc ++ [k]
def fk (ks : List L2.Key) : List L2.Key := ks.foldl fkStep []
theorem fk_snoc (ks : List L2.Key) (k : L2.Key) : fk (ks ++ [k]) = if memK (fk ks) k then fk ks else fk ks ++ [k] := by
  unfold fk
  rw [List.foldl_append]
  rfl
theorem fk_len (ks : List L2.Key) : (fk ks).length ≤ ks.length := by
  have gen : ∀ (ks acc : List L2.Key), (ks.foldl fkStep acc).length ≤ acc.length + ks.length := by
    intro ks
    induction ks with
    | nil => intro acc; exact Nat.le_refl _
    | cons k r ih =>
      intro acc
      rw [List.foldl_cons]
      refine Nat.le_trans (ih _) ?_
      have : (fkStep acc k).length ≤ acc.length + 1 := by
        unfold fkStep
        split <;> simp
      rw [List.length_cons]
      omega
  have := gen ks []
  simpa [fk] using this
theorem memK_snoc (l : List L2.Key) (k k' : L2.Key) : memK (l ++ [k]) k' = (memK l k' || decide (k' = k)) := by
  unfold memK
  rw [List.any_append]
  congr 1
  simp only [List.any_cons, List.any_nil, Bool.or_false]
  exact decide_eq_decide.mpr eq_comm
section
variable {prog : Program} {w : World} {A : Around} {R : Result → Shared → Prop} {I : Addr} {fp wr : List Addr} {G : Array GenState → Array GenState → Prop} {n : Nat} {P : Nat → Value → Prop} {St : Nat → Shared → Prop}
theorem setK_cong {h : Heap} {a : Addr} {S T : L2.Key → Bool} {m m' : Nat} (x : h.SetOf (L2.mixKind prog w) a S m) (e : ∀ k, S k = T k) (em : m = m') : h.SetOf (L2.mixKind prog w) a T m' := by
  obtain rfl : S = T := funext e
  subst em
  exact x
theorem setK_stay {h h' : Heap} {a : Addr} {S : L2.Key → Bool} {m : Nat} (x : h.SetOf (L2.mixKind prog w) a S m) (k : ∀ o, h.get? a = some o → h'.get? a = some o) : h'.SetOf (L2.mixKind prog w) a S m := by
  obtain ⟨o, es, ep, t, ho, r⟩ := x
  exact ⟨o, es, ep, t, k o ho, r⟩
theorem set_turns (Wk : WalksS prog w A.in1 I fp wr G n P St) (S0 : Addr) (out : S0 ∉ fp) (ks : List L2.Key) (hn : ks.length = n) (val : ∀ i v, P i v → ∃ k, ks[i]? = some k ∧ (L2.mixKind prog w).is k v = true ∧ v.scannable = true) (few : n + 1 < scanBound) :
    ∀ (j i : Nat) (s : Shared), n - i = j → i ≤ n → St i s → s.heap.SetOf (L2.mixKind prog w) S0 (memK (fk (ks.take i))) (fk (ks.take i)).length →
      (∀ s', Moved (S0 :: wr) G s s' → s'.heap.SetOf (L2.mixKind prog w) S0 (memK (fk ks)) (fk ks).length → R (.ok (.ret .none)) s') →
      codeAny (model prog w) A (.builtin "set.update.loop" ⟨[.ref S0, .ref I], []⟩) R s := by
  have outW : S0 ∉ wr := fun z => out (Wk.sub _ z)
  have more : ∀ b ∈ wr, b ∈ S0 :: wr := fun b hb => List.mem_cons_of_mem _ hb
  intro j
  induction j with
  | zero =>
    intro i s ej hi st now fin
    obtain rfl : i = n := by omega
    refine codeAny_builtin F.entry_set_update_loop ?_
    rw [Around.under_plainId F.plain_set_update_loop _]
    show wpAny _ A.in1 (pyNext (.ref I) >>= _) _ _ s
    refine wpAny_bind (Wk.done s _ _ st fun s2 mv => ?_)
    show wpAny _ A.in1 (ret Value.none) _ _ s2
    rw [List.take_of_length_le (by omega)] at now
    exact wpAny_pure (fin s2 (mv.mono more) (setK_stay now fun o e => mv.heap S0 o outW e))
  | succ j ih =>
    intro i s ej hi st now fin
    have lt : i < n := by omega
    refine codeAny_builtin F.entry_set_update_loop ?_
    rw [Around.under_plainId F.plain_set_update_loop _]
    show wpAny _ A.in1 (pyNext (.ref I) >>= _) _ _ s
    refine wpAny_bind (Wk.item i s _ _ lt st fun v s2 pv st2 mv => ?_)
    obtain ⟨k, ek, hk, sc⟩ := val i v pv
    have now2 : s2.heap.SetOf (L2.mixKind prog w) S0 (memK (fk (ks.take i))) (fk (ks.take i)).length := setK_stay now fun o e => mv.heap S0 o outW e
    show wpAny _ A.in1 (holding [v] (setAdd S0 v) >>= _) _ _ s2
    refine wpAny_bind (wpAny_holding ?_)
    unfold setAdd
    refine wpAny_holding ?_
    refine wpAny_bind ((L2.mixKind prog w).pyHash hk ?_)
    have room : (fk (ks.take i)).length + 1 < scanBound := by
      have a1 := fk_len (ks.take i)
      have a2 : (ks.take i).length ≤ i := by rw [List.length_take]; omega
      omega
    refine wpAny_setAddHashed_of (knd := L2.mixKind prog w) (s := { s2 with toks := s2.toks + 1 }) hk sc now2 room fun h2 sb put => ?_
    have et : ks.take (i + 1) = ks.take i ++ [k] := by rw [List.take_add_one, ek]; rfl
    have next : h2.SetOf (L2.mixKind prog w) S0 (memK (fk (ks.take (i + 1)))) (fk (ks.take (i + 1))).length := by
      refine setK_cong put (fun k' => ?_) ?_
      · rw [et, fk_snoc]
        cases q : memK (fk (ks.take i)) k with
        | true =>
          rw [if_pos rfl]
          by_cases e : k' = k
          · subst e; rw [q]; simp
          · simp [e]
        | false =>
          rw [if_neg (by simp), memK_snoc]
      · rw [et, fk_snoc]
        cases q : memK (fk (ks.take i)) k with
        | true => rw [if_pos rfl, if_pos rfl]
        | false => rw [if_neg (by simp), if_neg (by simp), List.length_append]; rfl
    refine wpAny_pure ⟨plainId_quiet F.plain_set_update_loop _, ih (i + 1) _ (by omega) lt (Wk.frame _ s2 _ _ st2 (Nat.le_succ _) fun b hb o e => ?_) next fun s3 mv3 last => ?_⟩
    · rw [sb.2 b (fun z : b = S0 => out (by rw [← z]; exact hb))]
      exact e
    · refine fin s3 (Moved.trans Wk.gtrans ((mv.mono more).then_heap (Nat.le_succ _) fun b o hb e => ?_) mv3) last
      rw [sb.2 b (fun z : b = S0 => hb (by rw [z]; exact List.mem_cons_self))]
      exact e
end
/-- a new set -/
abbrev freshS (led : Bool) : Obj := { cls := .type "set", dict := none, data := .set #[] 0 (.fresh 0 0 led) }
/-- set(xs) of a list of ints and texts -/
theorem call_set_keys {prog : Program} {w : World} {A : Around} {E : Value → Shared → Prop} {s : Shared} {l : Addr} {items : Array Value} {ks : List L2.Key} {Q : Value → Shared → Prop} (hh : A.handled = none) (hl : s.heap.IsList l items) (hk : ks.length = items.size)
    (val : ∀ (i : Nat) (v : Value), items[i]? = some v → ∃ k, ks[i]? = some k ∧ (L2.mixKind prog w).is k v = true ∧ v.scannable = true) (few : items.size + 1 < scanBound)
    (fin : ∀ (h' : Heap) (tk : Nat), h'.SetOf (L2.mixKind prog w) s.heap.objs.size (memK (fk ks)) (fk ks).length → (∀ b o, b < s.heap.objs.size → s.heap.get? b = some o → h'.get? b = some o) → Q (.ref s.heap.objs.size) { s with heap := h', toks := tk }) :
    wpAny (model prog w) A (call (.type "set") [.ref l]) Q E s := by
  obtain ⟨cc, tl, hmro⟩ := F.called_set.mro
  have made := F.called_set.made
  have sub0 := F.called_set.sub
  refine wpAny_call (codeAny_of_tree ?_)
  show wpAny _ _ (callAny (.type "set") _) _ _ _
  refine wpAny_pure ⟨Code.quiet_builtin _ (by decide +kernel), codeAny_builtin F.entry_type_call ?_⟩
  rw [Around.under_plain (weight_type_call_type "set" [.ref l] []) rfl]
  have q1 := F.called_set.notType
  have q2 := F.called_set.canCreate
  have q3 := F.typeCall_set_1 (.ref l)
  repeat (any_goals (first | assumption | wp_step))
  refine codeAny_mono (code_set_new_1 (.ref l) (E := E) (Q₁ := fun obj s1 => ∃ led : Bool, obj = .ref s.heap.objs.size ∧ s1 = { s with heap := s.heap.push { cls := .type "set", dict := none, data := .set #[] 0 (.fresh 0 0 led) } }) fun led => ⟨led, rfl, rfl⟩) fun r s1 hr => ?_
  cases r with
  | error e => exact hr
  | ok fl =>
    cases fl with
    | ret obj =>
      obtain ⟨led, rfl, rfl⟩ := hr
      have at0 : (s.heap.push (freshS led)).get? s.heap.objs.size = some (freshS led) := Heap.get?_push_size _ rfl
      have ty : Shared.TypeIs { s with heap := s.heap.push (freshS led) } (.ref s.heap.objs.size) "set" := ⟨_, at0, rfl⟩
      have w1 := F.called_set.init.lookup
      have w2 := F.called_set.init.bind (.ref s.heap.objs.size)
      repeat (any_goals (first | assumption | wp_step))
      refine codeAny_mono (codeAny_call_builtin (R := wants (fun r s2 => r = .none ∧ ∃ h' tk, s2 = { s with heap := h', toks := tk } ∧ h'.SetOf (L2.mixKind prog w) s.heap.objs.size (memK (fk ks)) (fk ks).length ∧
          (∀ b o, b < s.heap.objs.size → s.heap.get? b = some o → h'.get? b = some o)) E) F.called_set.init.plain F.entry_set_init (check_set_init_1 ty ?_)) fun r2 s2 hr2 => ?_
      · obtain ⟨⟨ocls, odict, odata, oslots⟩, hol, hcl, nl, hdl⟩ := hl
        simp only at hcl hdl
        subst hcl hdl
        have at1 : (s.heap.push (freshS led)).get? l = some { cls := .type "list", dict := odict, data := .seq items nl, slots := oslots } := Heap.get?_push_of_some _ hol
        have w3 := F.sub_list_set
        have w4 := F.sub_list_frozenset
        have w5 : (Value.type "list" == Value.type "dict") = false := by decide
        have li : (s.heap.push (freshS led)).IsList l items := ⟨_, at1, rfl, nl, rfl⟩
        unfold Builtin.«set.__init__» noKeywords Builtin.Frozenset.updateFrom
        generalize hPI : pyIter = PI
        wp_walk
        subst hPI
        refine wpAny_pyIter_list li ?_
        refine wpAny_bind (wpAny_runValue ?_)
        have below : l < s.heap.objs.size := Heap.lt_size hol
        have hh3 : A.in1.in1.in1.handled = none := by simp [hh]
        have sz : (s.heap.push (freshS led)).objs.size = s.heap.objs.size + 1 := Heap.size_push ..
        have apart : l ≠ (s.heap.push (freshS led)).objs.size := by rw [sz]; exact Nat.ne_of_lt (Nat.lt_succ_of_lt below)
        have outF : s.heap.objs.size ∉ [(s.heap.push (freshS led)).objs.size, l] := by
          rw [sz]
          simp only [List.mem_cons, List.not_mem_nil, or_false, not_or]
          exact ⟨Nat.ne_of_lt (Nat.lt_succ_self _), Nat.ne_of_gt below⟩
        refine set_turns ((Walks.list hh3 _ l apart items).toS) s.heap.objs.size outF ks hk val few (items.size - 0) 0 _ (by omega) (Nat.zero_le _) ⟨⟨_, Heap.get?_push_size _ rfl, rfl, rfl⟩, li.push _⟩ ?_ ?_
        · have at2 : ((s.heap.push (freshS led)).push { cls := .type "list_iterator", data := .fields #[.ref l, .int 0 0] }).get? s.heap.objs.size = some (freshS led) := Heap.get?_push_of_some _ at0
          exact ⟨_, #[], 0, _, at2, ⟨rfl, rfl, rfl⟩, rfl, (fun e he => by simp at he), (fun k => by simp [memK, fk]), (by decide), (by rfl), rfl⟩
        · intro s' mv got
          obtain ⟨h', g', d', tk', os'⟩ := s'
          have eg : g' = s.gens := mv.gens
          have ed : d' = s.drawn := mv.drawn
          have eo : os' = s.os := mv.os
          subst eg ed eo
          show wpAny _ _ _ _ _ _
          refine wpAny_pure ?_
          show wpAny _ _ (ret Value.none) _ _ _
          refine wpAny_pure ⟨rfl, h', tk', rfl, got, fun b o hb e => ?_⟩
          have b1 : b ≠ s.heap.objs.size := Nat.ne_of_lt hb
          have b2 : b ≠ (s.heap.push (freshS led)).objs.size := by rw [sz]; exact Nat.ne_of_lt (Nat.lt_succ_of_lt hb)
          exact mv.heap b o (by simp only [List.mem_cons, List.not_mem_nil, or_false, not_or]; exact ⟨b1, b2⟩) (Heap.get?_push_of_some _ (Heap.get?_push_of_some _ e))
      · cases r2 with
        | error e => exact hr2
        | ok fl2 =>
          cases fl2 with
          | ret r =>
            obtain ⟨rfl, h', tk, rfl, got, kp⟩ := hr2
            repeat (any_goals (first | assumption | wp_step))
            exact fin _ _ got kp
          | _ => exact hr2.elim
    | _ => exact hr.elim
/-! ### in the intermediate text -/
variable {ρ : Lk} {C : Call} {W : WX} {X : Cx} {pins : List (Addr × Obj)} {s : Shared} {σ : LS} {H : LH} {μ : Mu} {h : Hp} {k : Nat}
def keyOf : D → L2.Key
  | .int i => .inl i
  | .str s => .inr (asStr s)
  | _ => .inl 0
theorem keyOf_rel {d : D} {v : V} (h : isKey d = true) (r : RD ρ μ H d v) : v = L2.kV (keyOf d) := by
  cases d <;> simp [isKey] at h <;> rw [RD] at r <;> subst r <;> rfl
theorem keyOf_inj {a b : D} (ha : isKey a = true) (hb : isKey b = true) (e : keyOf a = keyOf b) : a = b := by
  cases a <;> simp [isKey] at ha <;> cases b <;> simp [isKey] at hb <;> simp only [keyOf] at e
  · injection e with e; rw [e]
  · cases e
  · cases e
  · injection e with e; rw [asStr_inj e]
theorem firsts_keys : ∀ (xs : List D), xs.all isKey = true → (firsts xs).length = (fk (xs.map keyOf)).length := by
  have gen : ∀ (xs acc : List D), xs.all isKey = true → acc.all isKey = true →
      (xs.foldl (fun acc x => if acc.any fun y => decide (y = x) then acc else acc ++ [x]) acc).map keyOf = (xs.map keyOf).foldl fkStep (acc.map keyOf) := by
    intro xs
    induction xs with
    | nil => intro acc _ _; rfl
    | cons x r ih =>
      intro acc h1 h2
      rw [List.all_cons, Bool.and_eq_true] at h1
      rw [List.foldl_cons, List.map_cons, List.foldl_cons]
      have same : (acc.any fun y => decide (y = x)) = memK (acc.map keyOf) (keyOf x) := by
        unfold memK
        rw [List.any_map, Bool.eq_iff_iff, List.any_eq_true, List.any_eq_true]
        constructor
        · rintro ⟨y, hy, e⟩
          exact ⟨y, hy, by rw [of_decide_eq_true e]; simp⟩
        · rintro ⟨y, hy, e⟩
          refine ⟨y, hy, decide_eq_true ?_⟩
          exact keyOf_inj (List.all_eq_true.mp h2 y hy) h1.1 (of_decide_eq_true e)
      have step : (if acc.any fun y => decide (y = x) then acc else acc ++ [x]).map keyOf = fkStep (acc.map keyOf) (keyOf x) := by
        unfold fkStep
        rw [same]
        cases memK (acc.map keyOf) (keyOf x) with
        | true => rfl
        | false => rw [if_neg (by simp), if_neg (by simp), List.map_append]; rfl
      rw [ih _ h1.2 (by
        split
        · exact h2
        · rw [List.all_append, h2, List.all_cons, h1.1]; rfl), step]
  intro xs h
  have := congrArg List.length (gen xs [] h rfl)
  rw [List.length_map] at this
  exact this
theorem s_uln {a : Expr} {a' : E} {p p2 q pos : Pos} (c : Ct ρ X) (hg : L2.Gl X "len") (hm : X.mg "len" = none) (hg2 : L2.Gl X "set") (hm2 : X.mg "set" = none) (ha : PE X a (tE ρ C W a')) (sa : isStar a = false) :
    PE X (.Call (.Name "len" p) [.Call (.Name "set" p2) [a] [] q] [] pos) (tE ρ C W (.uln a')) := by
  refine ⟨fun pins s σ H Q I ⟨μ, l, h, hl, R, g⟩ => ?_⟩
  rw [evE] at g
  have na := star_cons (env := X.env) (e := a) (es := []) sa
  refine Call_ (L2.ld_blt I hg hm PySem.boot_len ?_)
  refine PyProof.Rows.callWith_builtin1 (PyProof.Rows.args_cons ?_ rfl) rfl rfl
  refine Call_ (L2.ld_blt I hg2 hm2 PyProof.Rows.boot_set ?_)
  refine PyProof.Rows.callWith_type1 (PyProof.Rows.args_cons (thn (ha.run pins s σ H _ I ⟨μ, l, h, hl, R, g.bind⟩) fun v s1 ⟨x, H1, I1, r1, d, h1, μ1, er, x1, R1, rd, g1⟩ => PyProof.Rows.args_nil ?_) na) na rfl
  cases el : lstOf h1 d with
  | none => rw [el] at g1; exact g1.elim
  | some xs =>
    rw [el] at g1
    simp only [] at g1
    split at g1
    · rename_i hk
      rw [Bool.and_eq_true, decide_eq_true_eq] at hk
      obtain ⟨ad, vs, rfl, sq, rs⟩ := lstOf_sq R1 rd el
      cases r1
      rw [← c.K] at sq
      obtain ⟨its, rv, pl, hz⟩ := I1.list sq
      have len1 : its.length = xs.length := by rw [← rv.length, rs.length]
      have val : ∀ (i : Nat) (v : Value), its.toArray[i]? = some v → ∃ kk, (xs.map keyOf)[i]? = some kk ∧ (L2.mixKind X.prog X.w).is kk v = true ∧ v.scannable = true := by
        intro i v hv
        have hv : its[i]? = some v := by simpa using hv
        have hi := (List.getElem?_eq_some_iff.mp hv).1
        have hx : xs[i]? = some xs[i] := List.getElem?_eq_getElem (by omega)
        obtain ⟨y, e1, r1⟩ := rs.get hx
        obtain ⟨u, e2, r2⟩ := rv.get e1
        rw [hv] at e2
        cases e2
        rw [keyOf_rel (List.all_eq_true.mp hk.1 _ (List.mem_of_getElem? hx)) r1] at r2
        exact ⟨keyOf xs[i], by rw [List.getElem?_map, hx]; rfl, L2.kV_is r2, L2.key_scan r2⟩
      refine call_set_keys (ks := xs.map keyOf) c.hd pl.isList (by rw [List.length_map, List.size_toArray, len1]) val (by rw [List.size_toArray, len1]; unfold scanBound; omega) fun h' tk st kp => ?_
      refine PyProof.Rows.args_nil ?_
      obtain ⟨o, es, ep, t, ho, hex, hd, _, _, _, hf, hn⟩ := st
      have I2 : Inv X pins σ H1 { s1 with heap := h', toks := tk } := I1.kept fun b o e => kp b o (Heap.lt_size e) e
      have small := fk_len (xs.map keyOf)
      rw [List.length_map] at small
      refine call_len_set ho hex hd hf (by rw [hn]; omega) ⟨.int _, H1, I2.tok _, ⟨_, rfl⟩, ?_⟩
      rw [hn, ← firsts_keys xs hk.1]
      exact Good.ok g1 Ext.rfl R1 (by rw [RD])
    · exact g1.elim
theorem s_dic0 {kf : Bool} {pos : Pos} : PE X (.Dict [] [] pos) (tE ρ C W (.dic kf .nil)) := PE.weak L2.pe_dnewK fun σ H Q ⟨μ, l, h, hl, R, g⟩ p hp => by
  rw [evE, evKL] at g
  have g : Good ρ (RD ρ) W (dcR kf h []) μ σ H Q := g
  have da : DicAt (upd H p (.dK [])) p [] [] := ⟨rfl, .inl ⟨rfl, .inl upd_same⟩⟩
  cases kf with
  | true =>
    have xt := Ext.num R hp (.dK [])
    refine Good.ok g xt (R.push hp ⟨[], da, by rw [List.map_nil, RDs]⟩) ?_
    rw [RD]
    exact ⟨p, R.last p, rfl⟩
  | false =>
    have xt := Ext.tup R hp (.dK [])
    refine Good.ok g xt (R.beside hp _) ?_
    rw [List.map_nil, List.map_nil, RD]
    exact ⟨p, [], rfl, R.new hp, da, by rw [RDs]⟩
end Ev
end
end
section
/-! E29: len({..}). -/
set_option linter.all false
set_option maxRecDepth 100000
set_option maxHeartbeats 1000000
noncomputable section
namespace Ev
open PySem PySem.Spec PyProof.Rows PySem.SeqAt PySem.Calls
open L2 (V HO Vals VK XK WX SqL SqT Inv PE PT PW PA PS PSs PG PGs PI Cx upd upd_same upd_ne Rd Room EP TP thn thnF OpR CallR TE TT TA It TI PIE FpOk TG TGs PTs)
variable {ρ : Lk} {C : Call} {W : WX} {X : Cx} {pins : List (Addr × Obj)} {s : Shared} {σ : LS} {H : LH} {μ : Mu} {h : Hp} {k : Nat}

theorem evE_sc {P : Prog} {own : List Nat} {e : E} {t : T} {i : I} {c : EL} {l : Loc} {h : Hp} : evE P C (.sc own e t i c) l h = (evI P C i l h).bind fun S h1 => (scLoop S (lcStep P C own e t c l) h1).bind fun vs h2 => .ok (.int (firsts vs).length) h2 := by
  rw [evE]
  rfl
/-- the set at D of the keys of these -/
abbrev setD (X : Cx) (D : Addr) (acc : List Ev.D) : HO := L2.SetK X.prog X.w D (memK (fk (acc.map keyOf))) (fk (acc.map keyOf)).length
/-- what is left of the loop ends as it ends -/
def ScW (ρ : Lk) (X : Cx) (S : Src) (step : Ev.D → Hp → R (Option Ev.D)) (out : R (List Ev.D)) (μ1 : Mu) (H1 : LH) (D : Addr) (i m : Nat) (H : LH) : Prop :=
  ∃ μ h acc, iterN (scTurn S step) m (i, h, acc) = some out ∧ Ext μ1 H1 μ H ∧ HR ρ μ h H ∧ D ∈ μ.ow ∧ H D = some (setD X D acc) ∧ acc.all isKey = true ∧ acc.length ≤ 4000
/-- a key is put into the set -/
theorem put_key {E : Value → Shared → Prop} {D : Addr} {acc : List Ev.D} {d : Ev.D} {u : Value} {Q : Value → Shared → Prop} (I : Inv X pins σ H s) (hD : H D = some (setD X D acc)) (small : acc.length < 4000) (ru : L2.RelV (L2.kV (keyOf d)) u)
    (fin : ∀ s', Inv X pins σ (upd H D (setD X D (acc ++ [d]))) s' → Q .none s') : wpAny (model X.prog X.w) X.A (call (.builtin "set.add") [.ref D, u]) Q E s := by
  have n1 := fk_len (acc.map keyOf)
  rw [List.length_map] at n1
  refine call_set_add (L2.kV_is ru) (L2.key_scan ru) (L2.setK_get I hD) (by unfold scanBound; omega) fun h2 sb new => ?_
  have there : ∃ o, h2.get? D = some o := by
    obtain ⟨o, _, _, _, ho, _⟩ := id new
    exact ⟨o, ho⟩
  have new2 : h2.SetOf (L2.mixKind X.prog X.w) D (memK (fk ((acc ++ [d]).map keyOf))) (fk ((acc ++ [d]).map keyOf)).length := by
    refine setK_cong new (fun kk => ?_) ?_
    · rw [List.map_append, List.map_cons, List.map_nil, fk_snoc]
      cases q : memK (fk (acc.map keyOf)) (keyOf d) with
      | true =>
        rw [if_pos rfl]
        by_cases e : kk = keyOf d
        · subst e; rw [q]; simp
        · simp [e]
      | false => rw [if_neg (by simp), memK_snoc]
    · rw [List.map_append, List.map_cons, List.map_nil, fk_snoc]
      cases q : memK (fk (acc.map keyOf)) (keyOf d) with
      | true => rw [if_pos rfl, if_pos rfl]
      | false => rw [if_neg (by simp), if_neg (by simp), List.length_append]; rfl
  exact fin _ (I.write (e := D) (t' := s.toks + 1) (by rw [hD]; trivial) (.inl rfl) (fun b o hb e => (sb.2 b hb).trans e) there (L2.setK_new new2))

theorem key_of {d : D} {y : V} (hk : isKey d = true) (r : RD ρ μ H d y) : y = L2.kV (keyOf d) := keyOf_rel hk r
/-- one turn of the loop -/
theorem sc_turn {own : List Nat} {e' : E} {t' : T} {c' : EL} {l : Loc} {S : Src} {J : It} {out : List D} {h2 : Hp} {μ1 : Mu} {H1 : LH} {A : Addr} (hsl : ∀ i ∈ slT t', i ∈ own) (hl1 : LR ρ μ1 H1 l σ) (R1 : HR ρ μ1 h H1) (wk : Walk ρ μ1 H1 S J) (hA : H1 A = none)
    {i m : Nat} {H2 : LH} (w : ScW ρ X S (lcStep ρ.P C own e' t' c' l) (.ok out h2) μ1 H1 A i m H2) :
    (J.stop i H2 ∧ ∃ μ2, Ext μ1 H1 μ2 H2 ∧ HR ρ μ2 h2 H2 ∧ A ∈ μ2.ow ∧ H2 A = some (setD X A out) ∧ out.all isKey = true ∧ out.length ≤ 4000) ∨
    (J.go i H2 ∧ ∃ Nx : LH → Prop, (∀ H', Nx H' → ∃ m', m' < m ∧ ScW ρ X S (lcStep ρ.P C own e' t' c' l) (.ok out h2) μ1 H1 A (i + 1) m' H') ∧
      ∀ x H', J.yld i H2 x H' → tT ρ C noW t' x (L2.wipe σ own) H' fun σ2 H3 => L2.wipe σ2 own = L2.wipe σ own ∧ tCd ρ C noW c' σ2 H3 fun b H4 =>
        if b = true then tE ρ C noW e' σ2 H4 fun y H5 => ∃ acc d, isKey d = true ∧ y = L2.kV (keyOf d) ∧ H5 A = some (setD X A acc) ∧ acc.length < 4000 ∧ Nx (upd H5 A (setD X A (acc ++ [d]))) else Nx H4) := by
  obtain ⟨μ2, h3, ac, en2, x2, R2, hD2, eD2, all2, le2⟩ := w
  cases m with
  | zero => simp [iterN] at en2
  | succ m =>
    rw [iterN] at en2
    cases ea : S.at h3 i with
    | none =>
      simp only [scTurn, ea] at en2
      cases en2
    | some od =>
      cases od with
      | none =>
        simp only [scTurn, ea, Option.some.injEq] at en2
        cases en2
        exact .inl ⟨wk.stop μ2 h2 H2 i x2 R2 ea, μ2, x2, R2, hD2, eD2, all2, le2⟩
      | some d =>
        obtain ⟨go, yl⟩ := wk.go μ2 h3 H2 i d x2 R2 ea
        refine .inr ⟨go, fun H' => ScW ρ X S (lcStep ρ.P C own e' t' c' l) (.ok out h2) μ1 H1 A (i + 1) m H', fun H' w => ⟨m, Nat.lt_succ_self m, w⟩, fun x H3 yx => ?_⟩
        obtain ⟨μ3, x3, R3, rd3⟩ := yl x H3 yx
        have hl3 := ((hl1.mono (x2.stays R1) x2.sub).mono (x3.stays R2) x3.sub).wipe own
        simp only [scTurn, ea] at en2
        -- the turn's value
        cases es : lcStep ρ.P C own e' t' c' l d h3 with
        | bad => rw [es] at en2; cases en2
        | exc => rw [es] at en2; cases en2
        | ok ov h4 =>
          have es0 := es
          unfold lcStep at es
          obtain ⟨l5, h5, et, es⟩ := ok_of_bind es
          obtain ⟨kk, h6, ec, es⟩ := ok_of_bind es
          refine ⟨μ3, d, _, h3, hl3, R3, rd3, ?_⟩
          rw [et]
          intro σ4 H4 μ4 x4 R4 hl4 hk4 hn4
          refine ⟨?_, μ4, l5, h5, hl4, R4, ?_⟩
          · refine List.ext_getElem? fun j => ?_
            by_cases hj : j ∈ own
            · rw [wipe_mem hj, wipe_mem hj, hn4, L2.wipe_length]
            · rw [L2.wipe_out hj, L2.wipe_out hj, hk4 j (fun z => hj (hsl j z)), L2.wipe_out hj]
          · rw [ec]
            intro b H5 μ5 x5 R5 eb
            obtain rfl : kk = b := eb
            cases kk with
            | false =>
              rw [if_neg (by simp)] at es
              cases es
              rw [es0] at en2
              simp only [] at en2
              rw [if_neg (by simp)]
              have xx := (x3.trans x4).trans x5
              obtain ⟨hD5, eD5⟩ := xx.away R2 hD2 eD2
              exact ⟨μ5, h4, ac, en2, x2.trans xx, R5, hD5, eD5, all2, le2⟩
            | true =>
              rw [if_pos rfl] at es
              obtain ⟨v6, h7, ee, es⟩ := ok_of_bind es
              cases es
              rw [es0] at en2
              simp only [] at en2
              rw [if_pos rfl]
              refine ⟨μ5, l5, h6, hl4.mono (x5.stays R4) x5.sub, R5, ?_⟩
              rw [ee]
              intro y H6 μ6 x6 R6 ry
              have xx := ((x3.trans x4).trans x5).trans x6
              obtain ⟨hD6, eD6⟩ := xx.away R2 hD2 eD2
              by_cases hz : (isKey v6 && decide (ac.length < 4000)) = true
              · rw [if_pos hz] at en2
                simp only [] at en2
                rw [Bool.and_eq_true, decide_eq_true_eq] at hz
                obtain ⟨R7, st7⟩ := R6.write (o' := setD X A (ac ++ [v6])) hD6 eD6 (fun _ z => by cases z) (fun _ _ z => by cases z)
                refine ⟨ac, v6, hz.1, key_of hz.1 ry, eD6, hz.2, μ6, h4, ac ++ [v6], en2, (x2.trans xx).write hA eD6 (fun _ _ z => by cases z), R7, hD6, upd_same, ?_, by rw [List.length_append]; exact hz.2⟩
                · rw [List.all_append, all2, List.all_cons, hz.1]; rfl
              · rw [if_neg hz] at en2
                cases en2
section
variable {elt tg iter : Expr} {ifs : List Expr} {scope : Scope} {own : List (Str × Nat)} {p pos cpos : Pos} {e' : E} {t' : T} {i' : I} {c' : EL}
theorem s_sc (c : Ct ρ X) (hN : X.N.Nodup) (hgl : L2.Gl X "len") (hml : X.mg "len" = none) (hi : PI X tg iter (tI ρ C W i')) (ok : L2.BlkOk X.N X.env.scope scope own) (hsl : ∀ i ∈ slT t', i ∈ own.map (·.2))
    (hg : ∀ (s : Shared) (H : LH) (A : Addr) (cl : List (Str × Addr)) (fp : List Addr), PG (X.blk s H scope (compEnvC scope cl A X.env) fp) tg (tT ρ C noW t'))
    (ht : ∀ (s : Shared) (H : LH) (A : Addr) (cl : List (Str × Addr)) (fp : List Addr), PTs (X.blk s H scope (compEnvC scope cl A X.env) fp) ifs (tCd ρ C noW c'))
    (he : ∀ (s : Shared) (H : LH) (A : Addr) (cl : List (Str × Addr)) (fp : List Addr), PE (X.blk s H scope (compEnvC scope cl A X.env) fp) elt (tE ρ C noW e'))
    (hs : ∀ x, foldedSetIterable iter X.env x = pure x) : PE X (.Call (.Name "len" p) [.SetComp elt [⟨tg, iter, ifs, 0⟩] scope cpos] [] pos) (tE ρ C W (.sc (own.map (·.2)) e' t' i' c')) := by
  refine ⟨fun pins s σ H Q I ⟨μ, l, h, hl, R, g⟩ => ?_⟩
  rw [evE_sc] at g
  refine Call_ (L2.ld_blt I hgl hml PySem.boot_len ?_)
  refine PyProof.Rows.callWith_builtin1 (PyProof.Rows.args_cons ?_ rfl) rfl rfl
  rw [PpSet.eval_SetComp]
  have caught : ∀ y ∈ scope.names, y.2 = .free → ∃ a, X.env.cells.lookup y.1 = some a := fun y hy e => (ok.free y hy e).elim (fun q => I.ok.has _ (.inl q)) fun q => I.ok.has _ (.inr q)
  refine wpAny_comprehension_free (use := none) rfl hs (L2.closure_ok caught) ok.kind (fun y hy e => by rw [ok.uniq y hy, e]) (thn (hi.run pins s σ H _ I ⟨μ, l, h, hl, R, g.bind⟩) fun xv s1 hx => thn hx fun itv s2 hpie => ?_)
  obtain ⟨it, fp, tn, J, H2, rfl, I2, T, st2, f2, S, h1, μ1, er, x1, R1, wk, g1⟩ := hpie
  have wk : Walk ρ μ1 H2 S J := wk
  have hl1 := hl.mono (x1.stays R) x1.sub
  refine PpSet.newSet_ok (L2.newEnv_comp ?_)
  -- the loop ends well
  have ends : ∃ acc h2 n, scLoop S (lcStep ρ.P C (own.map (·.2)) e' t' c' l) h1 = .ok acc h2 ∧ iterN (scTurn S (lcStep ρ.P C (own.map (·.2)) e' t' c' l)) n (0, h1, []) = some (.ok acc h2) := by
    cases el : scLoop S (lcStep ρ.P C (own.map (·.2)) e' t' c' l) h1 with
    | bad => rw [el] at g1; exact g1.elim
    | exc cc vs h2 =>
      unfold scLoop at el
      rw [wk.free] at el
      simp only [] at el
      split at el <;> cases el
    | ok acc h2 =>
      unfold scLoop at el
      rw [wk.free] at el
      simp only [] at el
      split at el
      · rename_i a1 h3 eit
        cases el
        rcases iter_cases (scTurn S (lcStep ρ.P C (own.map (·.2)) e' t' c' l)) .bad (0, h1, []) with ⟨n, q⟩ | q
        · rw [eit] at q
          exact ⟨acc, h2, n, rfl, q⟩
        · rw [eit] at q
          cases q
      · cases el
  obtain ⟨acc, h2, n0, el, en⟩ := ends
  rw [el] at g1
  have g1 : Good ρ (RD ρ) W (.ok (.int (firsts acc).length) h2) μ1 σ H2 Q := g1
  generalize hD : s2.heap.objs.size = D
  have freshD : H2 D = none := I2.hok.fresh (Nat.le_of_eq hD)
  have x0 : Ext μ1 H2 (μ1.own D) (upd H2 D (setD X D [])) := Ext.own R1 freshD _
  generalize es3 : ({ s2 with heap := s2.heap.push { cls := .type "set", dict := none, data := .set #[] 0 (.fresh 0 0 (!X.w.params.followText "set-order")) } } : Shared) = s3
  have heap3 : s3.heap = s2.heap.push { cls := .type "set", dict := none, data := .set #[] 0 (.fresh 0 0 (!X.w.params.followText "set-order")) } := by rw [← es3]
  have I3 : Inv X pins σ (upd H2 D (setD X D [])) s3 := by
    rw [← es3]
    refine I2.laid (t' := s2.toks) (fun b o e => Heap.get?_push_of_some _ e) (Nat.le_of_eq hD) (L2.setK_new ?_)
    rw [← hD]
    exact ⟨_, #[], 0, _, Heap.get?_push_size _ rfl, ⟨rfl, rfl, rfl⟩, rfl, (fun e he => by simp at he), (fun kk => by simp [memK, fk]), (by decide), (by rfl), rfl⟩
  have old : ∀ b ∈ fp, b < s2.heap.objs.size := fun b hb => by
    obtain ⟨o, e, _⟩ := T.obj _ _ st2 b hb
    exact Heap.lt_size e
  have f3 : ∀ b ∈ fp, FpOk X pins (upd H2 D (setD X D [])) b ∧ b < s3.heap.objs.size := fun b hb => by
    have lt := old b hb
    refine ⟨⟨?_, (f2 b hb).2⟩, by rw [heap3, Heap.size_push]; exact Nat.lt_succ_of_lt lt⟩
    rw [upd_ne (by rw [← hD]; exact Nat.ne_of_lt lt)]
    exact (f2 b hb).1
  have st3 : tn 0 s3.heap := T.keep _ _ _ st2 fun b _ o e => by rw [heap3]; exact Heap.get?_push_of_some _ e
  have I4 := L2.block_start I3 ok hN f3
  generalize hcl : cellsFrom (s3.heap.objs.size + 1) scope.names (L2.cloFrom X.env.cells scope.names []) = cl at I4
  have pg := hg s3 (upd H2 D (setD X D [])) s3.heap.objs.size cl fp
  have pt := ht s3 (upd H2 D (setD X D [])) s3.heap.objs.size cl fp
  have pe := he s3 (upd H2 D (setD X D [])) s3.heap.objs.size cl fp
  show codeAny _ _ (.compStart (.SetComp elt [⟨tg, iter, ifs, 0⟩] scope cpos) 0 (.ref it) (.ref D) (compEnvC scope cl s3.heap.objs.size X.env)) (compPost (model X.prog X.w) X.A X.xe none _ (.ref D) s3.heap.objs.size) { s3 with heap := pushCells (s3.heap.push { cls := .type "dict", data := .dict #[] }) scope.names }
  have nfp : ∀ b ∈ fp, (upd H2 D (setD X D [])) b = none := fun b hb => (f3 b hb).1.1
  generalize hce : compEnvC scope cl s3.heap.objs.size X.env = ce at I4 pg pt pe ⊢
  have cL : ce.locals = s3.heap.objs.size := by subst hce; rfl
  have w0 : ScW ρ X S (lcStep ρ.P C (own.map (·.2)) e' t' c' l) (.ok acc h2) μ1 H2 D 0 n0 (upd H2 D (setD X D [])) := ⟨μ1.own D, h1, [], en, x0, R1.own freshD, List.mem_cons_self, upd_same, rfl, by simp⟩
  generalize hH3 : upd H2 D (setD X D []) = H3 at I3 I4 pg pt pe w0 nfp f3
  generalize hs4 : ({ s3 with heap := pushCells (s3.heap.push { cls := .type "dict", data := .dict #[] }) scope.names } : Shared) = s4 at I4 ⊢
  have st4 : tn 0 s4.heap := T.keep _ _ _ st3 fun b _ o e => by rw [← hs4]; exact pushCells_keeps _ _ _ _ (Heap.get?_push_of_some _ e)
  have stat : ∀ {σ' : LS} {H' : LH} {s' : Shared}, Inv (X.blk s3 H3 scope ce fp) [] σ' H' s' → (∀ b ∈ fp, H' b = none) → ∀ b ∈ fp, FpOk (X.blk s3 H3 scope ce fp) [] H' b := fun {σ' H' s'} I' hn b hb =>
    ⟨hn b hb, (I'.ok.exf b hb).1, I'.ok.exfs b hb, .inl hb, fun x c e => (I'.ok.exf b hb).2 x c e, fun p hp => absurd (show p ∈ ([] : List (Addr × Obj)) ++ [] from hp) (by simp)⟩
  have loop : codeAny (model X.prog X.w) X.A (.compLoop (.SetComp elt [⟨tg, iter, ifs, 0⟩] scope cpos) 0 (.ref it) (.ref D) ce) (compPost (model X.prog X.w) X.A X.xe none (fun v s₁ => wpAny (model X.prog X.w) X.A (spliced (backTo pos (starEach [] X.env))) (fun vs s₂ => wpAny (model X.prog X.w) X.A (call (.builtin "len") (v :: vs)) (L2.EP X pins σ Q) X.xe s₂) X.xe s₁) (.ref D) s3.heap.objs.size) s4 := by
    refine PpSet.compLoopS_any (fun n s' => ∃ i H', Inv (X.blk s3 H3 scope ce fp) [] (L2.wipe σ (own.map (·.2))) H' s' ∧ tn i s'.heap ∧ (∀ b ∈ fp, H' b = none) ∧ ScW ρ X S (lcStep ρ.P C (own.map (·.2)) e' t' c' l) (.ok acc h2) μ1 H2 D i n H') ?_ n0 ⟨0, H3, I4, st4, nfp, w0⟩
    rintro n s5 ⟨i, H5, I5, st5, n5, w5⟩
    rcases sc_turn hsl hl1 R1 wk freshD w5 with ⟨stop, μ5, x5, R5, hD5, eD5, all5, le5⟩ | ⟨go, Nx, hNx, step⟩
    · have td := T.done (X.blk s3 H3 scope ce fp) rfl rfl rfl c.calm i [] s5 _ H5 (fun _ _ => False) I5 (stat I5 n5) st5 stop
      refine thnF td fun r s6 ⟨hr, I6⟩ => ?_
      subst hr
      -- back in the def's context
      have I7 : Inv X pins σ H5 s6 := I3.call' (ch := fp) I6.os I6.base I6.hok I6.bare fun b hb => ⟨(f3 b hb).1.2.2.2.1, (f3 b hb).1.2.1, (f3 b hb).1.2.2.2.2.1, (f3 b hb).1.2.2.2.2.2⟩
      have nC : H5 s3.heap.objs.size = none := by
        have z : H5 ce.locals = none := I6.free
        rw [cL] at z
        exact z
      obtain ⟨m, hn, _⟩ := I6.loc
      have hn : s6.heap.Ns ce.locals m := hn
      rw [cL] at hn
      obtain ⟨f0, f1, f2', f3', f4, f5⟩ := (I3.fpOk (Nat.le_refl _) nC : FpOk X pins H5 s3.heap.objs.size)
      refine ⟨m, hn, fun h'' sb => ?_⟩
      have I8 := I7.turned (t' := s6.toks) (fun b o hb e => (sb.2 b hb).trans e) f0 f1 f3' f4 f5
      refine PyProof.Rows.args_nil ?_
      obtain ⟨o, ese, ep, tt, ho, hex, hd, hh, _, _, hf, hnn⟩ := L2.setK_get I8 eD5
      have small := fk_len (acc.map keyOf)
      rw [List.length_map] at small
      refine call_len_set ho hex hd hf (by rw [hnn]; omega) ⟨.int _, H5, I8.tok _, ⟨_, rfl⟩, ?_⟩
      rw [hnn, ← firsts_keys acc all5]
      exact Good.ok g1 x5 R5 (by rw [RD])
    · have ti := T.item (X.blk s3 H3 scope ce fp) rfl rfl rfl c.calm i [] s5 _ H5 (fun _ _ => False) I5 (stat I5 n5) st5 go
      refine thnF ti fun r s6 ⟨u, hr, h6⟩ => ?_
      subst hr
      refine thnF h6 fun _ s7 ⟨x, H7, I7, r7, y7, st7, n7⟩ => ?_
      have I7' := I7.pinned (stat I7 n7) (T.obj _ _ st7)
      refine thnF (pg.run _ s7 _ H7 x u _ I7' r7 (step x H7 y7)) fun _ s8 ⟨σ8, H8, I8, hw8, q8⟩ => ?_
      refine thnF (pt.run _ s8 σ8 H8 _ I8 q8) fun b s9 ⟨H9, I9, q9⟩ => ?_
      -- the turn's end
      have fin : ∀ {s' : Shared} {H' : LH}, Inv (X.blk s3 H3 scope ce fp) ([] ++ L2.pinsAt fp s7.heap) σ8 H' s' → Nx H' → ∃ m, m < n ∧ ∃ i H', Inv (X.blk s3 H3 scope ce fp) [] (L2.wipe σ (own.map (·.2))) H' s' ∧ tn i s'.heap ∧ (∀ b ∈ fp, H' b = none) ∧ ScW ρ X S (lcStep ρ.P C (own.map (·.2)) e' t' c' l) (.ok acc h2) μ1 H2 D i m H' := fun {s' H'} I' nx => by
        obtain ⟨m', hm, w'⟩ := hNx H' nx
        have pin' : ∀ b ∈ fp, ∀ o, s7.heap.get? b = some o → s'.heap.get? b = some o ∧ H' b = none := fun b hb o e =>
          let z := I'.pin (b, o) (List.mem_append_right _ (List.mem_append_right _ (L2.mem_pinsAt hb e)))
          ⟨z.1, z.2.1⟩
        have hl : (L2.wipe σ (own.map (·.2))).length = σ8.length := by rw [← hw8, L2.wipe_length]
        refine ⟨m', hm, i + 1, H', (I'.unpinned (pins := [])).weak hl (fun j v e => ?_), T.keep _ _ _ st7 fun b hb o e => (pin' b hb o e).1, fun b hb => ?_, w'⟩
        · rw [← hw8] at e
          exact (L2.wipe_some e).1
        · obtain ⟨o, e, _⟩ := T.obj _ _ st7 b hb
          exact (pin' b hb o e).2
      cases b with
      | false =>
        simp only [Bool.false_eq_true, if_false] at q9 ⊢
        exact fin I9 q9
      | true =>
        simp only [if_true] at q9 ⊢
        refine thnF (pe.run _ s9 σ8 H9 _ I9 q9) fun z s10 ⟨yv, H10, I10, r10, ac, d, kd, ey, hD10, hz10, nx⟩ => ?_
        subst ey
        exact put_key (X := X.blk s3 H3 scope ce fp) I10 hD10 hz10 r10 fun s11 I11 => fin I11 nx
  exact PpSet.codeAny_compStart_set loop (T.self X.A 0 _ _ _ st4 loop)
end
end Ev
end
end
section
/-! E23: from the text to the intermediate text. -/
set_option linter.all false
set_option maxRecDepth 100000
set_option maxHeartbeats 1000000
namespace Ev
open PySem

/-- names: of the frame, of the module -/
structure Gm where
  N : List Str
  sc : Scope
  /-- all names may be stored (a def's body); else those of the block -/
  fn : Bool
  blk : List (Str × NameKind)
  gl : List (Str × Nat)
  df : List (Str × Nat)
  cl : List (Str × Nat)
  fld : List (Str × Nat)
  /-- where things are made that are changed later -/
  hp : List (Nat × Nat) := []
def bltN : List Str := ["len", "all", "any", "abs", "min", "max", "repr", "isinstance", "int", "bool", "str", "list", "tuple", "dict", "set", "range", "zip", "enumerate", "sorted", "sum", "ord"]
def tyNum (x : Str) : Option Nat :=
  if x = "int" then some 0 else if x = "bool" then some 1 else if x = "str" then some 2 else if x = "list" then some 3 else if x = "tuple" then some 4 else if x = "dict" then some 5 else if x = "set" then some 6 else none
def bfOf (x : Str) : Option BF :=
  if x = "len" then some .len else if x = "all" then some .all else if x = "any" then some .any else if x = "abs" then some .abs else if x = "min" then some .min else if x = "max" then some .max else if x = "repr" then some .repr else if x = "isinstance" then some .isi else none
def btOf (x : Str) (hp : Bool) : Option BT :=
  if x = "int" then some .int else if x = "bool" then some .bool else if x = "str" then some .str else if x = "list" then some (if hp then .listH else .list) else if x = "tuple" then some .tuple else none
def copOf : CmpOp → COp
  | .Eq => .eq
  | .NotEq => .ne
  | .Lt => .lt
  | .LtE => .le
  | .Gt => .gt
  | .GtE => .ge
  | .Is => .is
  | .IsNot => .isn
  | .In => .in_
  | .NotIn => .nin
def bopN : Operator → Option BOp
  | .Add => some .add
  | .Sub => some .sub
  | .Mult => some .mul
  | .FloorDiv => some .fdiv
  | .Mod => some .mod
  | .Pow => some .pow
  | _ => none
def isLocK : Option NameKind → Bool
  | some .local => true
  | some .cell => true
  | _ => false
def isVisK : Option NameKind → Bool
  | some .local => true
  | some .cell => true
  | some .free => true
  | _ => false
def isGlK : Option NameKind → Bool
  | some .globalImplicit => true
  | _ => false
def isLocal : Option NameKind → Bool
  | some .local => true
  | _ => false
def isCell : Option NameKind → Bool
  | some .cell => true
  | _ => false
def ixOf (N : List Str) (x : Str) : Option Nat := N.findIdx? (fun y => decide (y = x))
def okName (x : Str) : Bool := !(x == ("__debug__" : Str)) && (!(x == ("__classdict__" : Str)) && !(decide (x = ("__name__" : Str))))
def Gm.isH (Γ : Gm) (p : Pos) : Bool := Γ.hp.contains (p.line, p.col)
/-- a name's slot, for reading -/
def Gm.slot (Γ : Gm) (x : Str) : Option Nat := if okName x && isVisK (Γ.sc.names.lookup x) then ixOf Γ.N x else none
/-- .. for storing -/
def Gm.store (Γ : Gm) (x : Str) : Option Nat := if isLocK (Γ.sc.names.lookup x) && (Γ.fn || (isCell (Γ.blk.lookup x) || isLocal (Γ.sc.names.lookup x))) then ixOf Γ.N x else none
def Gm.glob (Γ : Gm) (x : Str) : Bool := okName x && isGlK (Γ.sc.names.lookup x)
/-- the names of a block -/
def relC (scope sc : Scope) : Scope := { scope with names := scope.names.map fun (n, k) => if (k == .free && sc.kind == .function && sc.names.lookup n == some .cell) then (n, .cell) else (n, k) }
def Gm.inner (Γ : Gm) (scope : Scope) : Gm := { Γ with sc := relC scope Γ.sc, fn := false, blk := scope.names }
def ownOf (N : List Str) (scope : Scope) : List (Str × Nat) := scope.names.filterMap fun p => if isLocK (some p.2) then (ixOf N p.1).map fun i => (p.1, i) else none
def seqO {α β γ : Type} (a : Option α) (b : Option β) (f : α → β → γ) : Option γ := match a, b with
  | some x, some y => some (f x y)
  | _, _ => none
def subsL (a b : List Nat) : Bool := a.all fun i => b.contains i
def cConst : Const → Option D
  | .none => some .non
  | .bool b => some (.bl b)
  | .int i => some (.int i)
  | .str s => some (.str (ofStr s))
  | _ => none
def cListE (f : Expr → Option E) : List Expr → Option EL
  | [] => some .nil
  | e :: r => if isStar e then none else seqO (f e) (cListE f r) (fun a b => .cons false a b)
def cBoolE (f : Expr → Option E) (op : BoolOp) : List Expr → Option E
  | [] => none
  | [a] => if isIf a then none else f a
  | a :: r => if isIf a then none else seqO (f a) (cBoolE f op r) (fun x y => match op with | .And => .and x y | .Or => .or x y)
def cOptE (f : Expr → Option E) : Option Expr → Option OE
  | none => some .no
  | some e => (f e).map .yes
def cTst (f : Expr → Option E) (e : Expr) : Option E := if isIf e then none else f e
/-- targets of names and tuples of names -/
def cTg (Γ : Gm) : Nat → Expr → Option T
  | n + 1, .Name x _ => (Γ.store x).map .loc
  | n + 1, .Tuple es _ _ =>
    if es.any isStar then none else (es.foldr (fun e acc => seqO (cTg Γ n e) acc fun t ts => .cons t ts) (some .nil)).map .tup
  | _, _ => none
/-- what is walked -/
def cIt (f : Expr → Option E) (Γ : Gm) (tg it : Expr) : Option I := match it with
  | .Call (.Name x _) es [] _ => if x = "range" then (if Γ.glob x && !es.any isStar then (cListE f es).map .rng else none) else if x = "zip" then (match tg, es with
    | .Tuple _ _ _, [a, b] => if Γ.glob x && !(isStar a || isStar b) then seqO (f a) (f b) .zip else none
    | _, _ => none) else if x = "enumerate" then none else (f it).map .it
  | _ => (f it).map .it
/-- the parts of a comprehension -/
def cComp (f : Expr → Option E) (fi : Scope → Expr → Option E) (Γ : Gm) (elt tg it : Expr) (ifs : List Expr) (scope : Scope) (mk : List Nat → E → T → I → EL → E) : Option E :=
  let own := ownOf Γ.N scope
  if isSetD it || (!L2.blkC Γ.N Γ.sc scope own) then none else match cTg (Γ.inner scope) 8 tg, cIt f Γ tg it, fi scope elt with
    | some t, some i, some e => if subsL (slT t) (own.map (·.2)) then (match ifs with
        | [] => some (mk (own.map (·.2)) e t i .nil)
        | [c] => (cTst (fi scope) c).map fun c => mk (own.map (·.2)) e t i (.cons false c .nil)
        | _ => none) else none
    | _, _, _ => none
/-- len(set(a)), len({..}) -/
def cLen (f : Expr → Option E) (fi : Scope → Expr → Option E) (Γ : Gm) (x : Str) (es : List Expr) : Option E := if x = "len" then (match es with
  | [.Call (.Name y _) [a] [] _] => if y = "set" then (if Γ.glob y && !isStar a then (f a).map .uln else none) else none
  | [.SetComp elt [⟨tg, it, ifs, 0⟩] scope _] => cComp f fi Γ elt tg it ifs scope .sc
  | _ => none) else none
def cEb (f : Expr → Option E) (fi : Scope → Expr → Option E) (Γ : Gm) (e : Expr) : Option E := match e with
    | .Constant c _ _ => (cConst c).map .con
    | .Name x _ => match Γ.slot x with
      | some i => some (.loc i)
      | none => if Γ.glob x then (match Γ.gl.lookup x with
        | some g => some (.glo g)
        | none => if bltN.contains x then (tyNum x).map fun t => .con (.ty t) else none) else none
    | .BoolOp op vs _ => cBoolE f op vs
    | .UnaryOp .Not a _ => (cTst f a).map .not
    | .UnaryOp .USub a _ => (f a).map .neg
    | .BinOp a op b _ => match bopN op with
      | some o => seqO (f a) (f b) (.bin o)
      | none => none
    | .Compare a [o] [b] _ => if isSetD b then none else seqO (f a) (f b) (.cmp (copOf o))
    | .Compare a [o, o2] [b, c] _ => if isSetD c then none else match f a, f b, f c with
      | some x, some y, some z => some (.cmp2 (copOf o) (copOf o2) x y z)
      | _, _, _ => none
    | .IfExp c a b _ => match cTst f c, f a, f b with
      | some x, some y, some z => some (.ite x y z)
      | _, _, _ => none
    | .Tuple es _ _ => (cListE f es).map .tup
    | .List es pos => (cListE f es).map (.lst (Γ.isH pos))
    | .Subscript a (.Slice lo hi none _) _ => match f a, cOptE f lo, cOptE f hi with
      | some x, some y, some z => some (.sli x y z)
      | _, _, _ => none
    | .Subscript a b _ => if isSlice b then none else seqO (f a) (f b) .idx
    | .Call (.Name x _) es [] cp => if es.any isStar then none else if !Γ.glob x then none else match Γ.df.lookup x with
      | some g => (cListE f es).map (.call g)
      | none => if !bltN.contains x || es.isEmpty then none else match cLen f fi Γ x es with
        | some e => some e
        | none => match bfOf x with
          | some b => (cListE f es).map (.bf b)
          | none => match btOf x (Γ.isH cp) with
            | some b => (cListE f es).map (.bt b)
            | none => none
    | .Call (.Attribute o x p1) es [] p2 => if es.any isStar || (isSup o || (!decide (es.length < 30) || !(p1.endLine == p2.line))) then none else match Γ.fld.lookup x with
      | some m => seqO (f o) (cListE f es) fun a b => .met a m b
      | none => none
    | .ListComp elt [⟨tg, it, ifs, 0⟩] scope pos =>
      cComp f fi Γ elt tg it ifs scope (.lc (Γ.isH pos))
    | .Dict [] [] pos => some (.dic (Γ.isH pos) .nil)
    | _ => none
def cE : Nat → Gm → Expr → Option E
  | 0, _, _ => none
  | n + 1, Γ, e => cEb (cE n Γ) (fun scope => cE n (Γ.inner scope)) Γ e
end Ev
end
section
/-! E24: the intermediate text computes what the text computes: expressions. -/
set_option linter.all false
set_option maxRecDepth 100000
set_option maxHeartbeats 1000000
noncomputable section
namespace Ev
open PySem PySem.Spec PyProof.Rows PySem.SeqAt
open L2 (V HO Vals VK XK WX SqL SqT Inv PE PT PW PA PS PSs PG PGs PI Cx upd upd_same upd_ne Rd Room EP TP thn OpR CallR TE TT TA It TI PIE Turn FpOk TG TGs PTs TS Ends)
variable {ρ : Lk} {C : Call} {W : WX} {X : Cx} {k : Nat} {Γ : Gm}

structure Fit (Γ : Gm) (X : Cx) : Prop where
  N : X.N = Γ.N
  sc : X.env.scope = Γ.sc
  nd : Γ.N.Nodup
  fn : Γ.fn = true → X.fn = fun _ => true
  blk : Γ.fn = false → X.fn = fun x => Γ.blk.lookup x == some .cell
structure GOk (ρ : Lk) (Γ : Gm) : Prop where
  gl : ∀ x g, Γ.gl.lookup x = some g → ∃ d u v, ρ.P.glob g = some d ∧ ρ.mg x = some u ∧ L2.RelV v u ∧ ∀ μ H, RD ρ μ H d v
  df : ∀ x f, Γ.df.lookup x = some f → ρ.mg x = some (.ref (ρ.fa f)) ∧ PySem.W.keepIn ρ.K (.ref (ρ.fa f)) = true
  bl : ∀ x, bltN.contains x = true → ρ.mg x = none
  fld : ∀ x m, Γ.fld.lookup x = some m → x = ρ.fld m ∧ ∀ z, bmName m = some z → z = x
theorem ixOf_get {N : List Str} {x : Str} {i : Nat} (h : ixOf N x = some i) : N[i]? = some x := by
  unfold ixOf at h
  obtain ⟨h1, h2, h3⟩ := List.findIdx?_eq_some_iff_getElem.mp h
  rw [List.getElem?_eq_getElem h1]
  rw [of_decide_eq_true h2]
theorem okName_of {x : Str} (h : okName x = true) : (x == ("__debug__" : Str)) = false ∧ (x == ("__classdict__" : Str)) = false ∧ x ≠ "__name__" := by
  unfold okName at h
  simp only [Bool.and_eq_true, Bool.not_eq_true', decide_eq_false_iff_not] at h
  exact ⟨h.1, h.2.1, h.2.2⟩
theorem Gm.slot_ok (F : Fit Γ X) {x : Str} {i : Nat} (h : Γ.slot x = some i) : okName x = true ∧ X.N[i]? = some x ∧ L2.Vis X.env.scope x := by
  unfold Gm.slot at h
  split at h
  · rename_i hc
    rw [Bool.and_eq_true] at hc
    refine ⟨hc.1, by rw [F.N]; exact ixOf_get h, ?_⟩
    have h2 := hc.2
    unfold isVisK at h2
    unfold L2.Vis
    rw [F.sc]
    split at h2 <;> rename_i q <;> first
      | exact .inl q
      | exact .inr (.inl q)
      | exact .inr (.inr q)
      | cases h2
  · cases h
theorem isLocK_of {o : Option NameKind} (h : isLocK o = true) : o = some .local ∨ o = some .cell := by
  unfold isLocK at h
  split at h
  · exact .inl rfl
  · exact .inr rfl
  · cases h
theorem isLocal_of {o : Option NameKind} (h : isLocal o = true) : o = some .local := by
  unfold isLocal at h
  split at h
  · rfl
  · cases h
theorem isCell_of {o : Option NameKind} (h : isCell o = true) : o = some .cell := by
  unfold isCell at h
  split at h
  · rfl
  · cases h
theorem isGlK_of {o : Option NameKind} (h : isGlK o = true) : o = some .globalImplicit := by
  unfold isGlK at h
  split at h
  · rfl
  · cases h
theorem Gm.store_ok (F : Fit Γ X) {x : Str} {i : Nat} (h : Γ.store x = some i) : X.N[i]? = some x ∧ L2.Loc X.env.scope x ∧ (X.fn x = true ∨ X.env.scope.names.lookup x = some .local) := by
  unfold Gm.store at h
  split at h
  · rename_i hc
    rw [Bool.and_eq_true] at hc
    refine ⟨by rw [F.N]; exact ixOf_get h, ?_, ?_⟩
    · unfold L2.Loc
      rw [F.sc]
      exact isLocK_of hc.1
    · have h2 := hc.2
      rw [Bool.or_eq_true] at h2
      rcases h2 with h2 | h2
      · exact .inl (by rw [F.fn h2])
      · rw [Bool.or_eq_true] at h2
        cases hf : Γ.fn with
        | true => exact .inl (by rw [F.fn hf])
        | false =>
          rcases h2 with h2 | h2
          · exact .inl (by rw [F.blk hf]; show (Γ.blk.lookup x == some NameKind.cell) = true; rw [isCell_of h2]; rfl)
          · exact .inr (by rw [F.sc]; exact isLocal_of h2)
  · cases h
theorem Gm.glob_ok (F : Fit Γ X) {x : Str} (h : Γ.glob x = true) : okName x = true ∧ L2.Gl X x := by
  unfold Gm.glob at h
  rw [Bool.and_eq_true] at h
  refine ⟨h.1, ?_⟩
  unfold L2.Gl Env.kindOf
  rw [F.sc]
  exact isGlK_of h.2
theorem seqO_some {α β γ : Type} {a : Option α} {b : Option β} {f : α → β → γ} {c : γ} (h : seqO a b f = some c) : ∃ x y, a = some x ∧ b = some y ∧ f x y = c := by
  unfold seqO at h
  split at h
  · cases h; exact ⟨_, _, rfl, rfl, rfl⟩
  · cases h
theorem map_some' {α β : Type} {a : Option α} {f : α → β} {c : β} (h : a.map f = some c) : ∃ x, a = some x ∧ f x = c := by
  cases a with
  | none => cases h
  | some x => cases h; exact ⟨x, rfl, rfl⟩
/-! ### lists -/
theorem cListE_ok {f : Expr → Option E} (hf : ∀ e e', f e = some e' → PE X e (tE ρ C W e')) : ∀ es es', cListE f es = some es' → PA X es (tEL ρ C W es')
  | [], es', h => by cases h; exact s_nil
  | e :: r, es', h => by
    rw [cListE] at h
    split at h
    · cases h
    · rename_i hs
      obtain ⟨a, b, h1, h2, rfl⟩ := seqO_some h
      exact s_cons (hf e a h1) (cListE_ok hf r b h2) (star_cons (by simpa using hs))
theorem cBoolE_ok (c : Ct ρ X) {f : Expr → Option E} (hf : ∀ e e', f e = some e' → PE X e (tE ρ C W e') ∧ (isIf e = false → PT X e (tB ρ C W e'))) {op : BoolOp} {pos : Pos} : ∀ vs e', cBoolE f op vs = some e' → PE X (.BoolOp op vs pos) (tE ρ C W e') ∧ PW X (.BoolOp op vs pos) (tB ρ C W e')
  | [], e', h => by cases h
  | [a], e', h => by
    rw [cBoolE] at h
    split at h
    · cases h
    · rename_i hi
      obtain ⟨h1, h2⟩ := hf a e' h
      exact ⟨s_one h1, t_and1 (h2 (by simpa using hi))⟩
  | a :: b :: r, e', h => by
    rw [cBoolE] at h
    · split at h
      · cases h
      · rename_i hi
        obtain ⟨x, y, h1, h2, rfl⟩ := seqO_some h
        obtain ⟨a1, a2⟩ := hf a x h1
        obtain ⟨b1, b2⟩ := cBoolE_ok c hf (b :: r) y h2
        have a2 := a2 (by simpa using hi)
        cases op with
        | And => exact ⟨s_and c a1 b1, t_and a2 b2⟩
        | Or => exact ⟨s_or c a1 b1, t_or a2 b2⟩
    · intro z; cases z
theorem cOptE_ok {f : Expr → Option E} (hf : ∀ e e', f e = some e' → PE X e (tE ρ C W e')) {o : Option Expr} {o' : OE} (h : cOptE f o = some o') : L2.PO X o (tO ρ C W o') := by
  cases o with
  | none => cases h; exact s_no
  | some e =>
    obtain ⟨x, h1, rfl⟩ := map_some' h
    exact s_yes (hf e x h1)
/-! ### targets -/
theorem cTg_ok (c : Ct ρ X) (F : Fit Γ X) : ∀ n tg t, cTg Γ n tg = some t → PG X tg (tT ρ C W t)
  | 0, tg, t, h => by cases tg <;> simp [cTg] at h
  | n + 1, tg, t, h => by
    cases tg <;> simp only [cTg] at h <;> try (cases h; done)
    · rename_i x pos
      obtain ⟨i, h1, rfl⟩ := map_some' h
      obtain ⟨a1, a2, a3⟩ := Gm.store_ok F h1
      exact g_loc (by rw [F.N]; exact F.nd) a1 a2 a3
    · rename_i es j pos
      split at h
      · cases h
      · rename_i hs
        obtain ⟨ts, h1, rfl⟩ := map_some' h
        have hs : es.any isStar = false := by simpa using hs
        have key : ∀ (es : List Expr) ts, es.any isStar = false → es.foldr (fun e acc => seqO (cTg Γ n e) acc fun t ts => TL.cons t ts) (some .nil) = some ts → PGs X es (tTs ρ C W ts) ∧ es.length = lenTL ts := by
          intro es
          induction es with
          | nil => intro ts _ h; cases h; exact ⟨gs_nil, rfl⟩
          | cons e r ih =>
            intro ts hs h
            rw [List.any_cons, Bool.or_eq_false_iff] at hs
            rw [List.foldr_cons] at h
            obtain ⟨a, b, h1, h2, rfl⟩ := seqO_some h
            obtain ⟨q1, q2⟩ := ih b hs.2 h2
            exact ⟨gs_cons (cTg_ok c F n e a h1) q1 (asg_cons hs.1), by rw [List.length_cons, q2, lenTL]⟩
        obtain ⟨q1, q2⟩ := key es ts hs h1
        exact g_tup c q1 asg_len (asg_nostar hs) q2
/-! ### expressions -/
theorem copOf_ok (o : CmpOp) : opOf (copOf o) = o := by cases o <;> rfl
theorem bopN_ok {o : Operator} {b : BOp} (h : bopN o = some b) : bopOf b = o := by
  cases o <;> simp [bopN] at h <;> subst h <;> rfl
theorem tyNum_ok {x : Str} {t : Nat} (h : tyNum x = some t) : bootBuiltins x = some (.type (tyName t)) := by
  unfold tyNum at h
  repeat' (split at h)
  all_goals first
    | (cases h; done)
    | (cases h; subst_vars; first | exact boot_int | exact boot_bool | exact boot_str | exact boot_list | exact boot_tuple | exact boot_dict | exact boot_set)
theorem bfOf_ok {x : Str} {b : BF} (h : bfOf x = some b) : x = (bfId b : Str) ∧ bootBuiltins x = some (.builtin (bfId b)) := by
  unfold bfOf at h
  repeat' (split at h)
  all_goals first
    | (cases h; done)
    | (cases h; subst_vars; refine ⟨rfl, ?_⟩; first | exact PySem.boot_len | exact boot_all | exact boot_any | exact boot_abs | exact boot_min | exact boot_max | exact boot_repr | exact boot_isinstance)
theorem btOf_ok {x : Str} {b : BT} {hp : Bool} (h : btOf x hp = some b) : x = (btId b : Str) ∧ bootBuiltins x = some (.type (btId b)) := by
  unfold btOf at h
  repeat' (split at h)
  all_goals first
    | (cases h; done)
    | (cases h; subst_vars; refine ⟨rfl, ?_⟩; first | exact boot_int | exact boot_bool | exact boot_str | exact boot_list | exact boot_tuple)
theorem cConst_ok {cc : Const} {d : D} {j : Nat} {pos : Pos} (h : cConst cc = some d) : PE X (.Constant cc j pos) (tE ρ C W (.con d)) := by
  cases cc <;> simp only [cConst] at h <;> try (cases h; done)
  · cases h; exact s_con L2.pe_non fun _ _ => by rw [RD]
  · cases h; exact s_con L2.pe_bl fun _ _ => by rw [RD]
  · cases h; exact s_con L2.pe_int fun _ _ => by rw [RD]
  · cases h; exact s_con L2.pe_str fun _ _ => by rw [RD, ofStr_asStr]
theorem t_ite {a b e : Expr} {a' b' c' : E} {pos : Pos} (hc : PT X e (tB ρ C W c')) (ha : PT X a (tB ρ C W a')) (hb : PT X b (tB ρ C W b')) : PT X (.IfExp e a b pos) (tB ρ C W (.ite c' a' b')) := by
  refine ⟨fun pins s σ H Q I ⟨μ, l, h, hl, R, g⟩ => ?_⟩
  have e1 : evB ρ.P C (.ite c' a' b') l h = (evB ρ.P C c' l h).bind fun k h1 => if k then evB ρ.P C a' l h1 else evB ρ.P C b' l h1 := by
    unfold evB
    rw [evE]
    cases evE ρ.P C c' l h with
    | bad => rfl
    | exc => rfl
    | ok d h1 =>
      simp only [Ev.R.bind_ok]
      cases e : truth h1 d with
      | none => rfl
      | some k => cases k <;> rfl
  rw [e1] at g
  refine isTrue_IfExp (thn (hc.run pins s σ H _ I ⟨μ, l, h, hl, R, g.bind⟩) fun bb s1 ⟨H1, I1, k', h1, μ1, er, x1, R1, e, g1⟩ => ?_)
  obtain rfl : k' = bb := e
  have hl1 := hl.mono (x1.stays R) x1.sub
  cases k' with
  | true => exact ha.run pins s1 σ H1 Q I1 ⟨μ1, l, h1, hl1, R1, g1⟩
  | false => exact hb.run pins s1 σ H1 Q I1 ⟨μ1, l, h1, hl1, R1, g1⟩
/-- a block's context -/
theorem Cf.blk (c : Cf ρ C W X k) (s : Shared) (H : LH) (scope : Scope) (cenv : Env) (fp : List Addr) : Cf ρ C noW (X.blk s H scope cenv fp) k :=
  ⟨⟨c.ct.K, c.ct.mg, c.ct.pr, c.ct.ww, c.ct.calm, c.ct.hu, c.ct.gd, c.ct.hd, c.ct.sm⟩, c.fns, c.room, L2.takes_none5⟩
theorem Fit.inner (F : Fit Γ X) (s : Shared) (H : LH) (scope : Scope) (A : Addr) (cl : List (Str × Addr)) (fp : List Addr) : Fit (Γ.inner scope) (X.blk s H scope (compEnvC scope cl A X.env) fp) := by
  refine ⟨F.N, ?_, F.nd, fun h => (by simp [Gm.inner] at h), fun _ => rfl⟩
  show relabel scope X.env = relC scope Γ.sc
  rw [← F.sc]
  rfl
theorem GOk.blk (G : GOk ρ Γ) (scope : Scope) : GOk ρ (Γ.inner scope) := ⟨G.gl, G.df, G.bl, G.fld⟩
theorem subsL_of {a b : List Nat} (h : subsL a b = true) : ∀ i ∈ a, i ∈ b := fun i hi => by
  unfold subsL at h
  rw [List.all_eq_true] at h
  exact List.contains_iff_mem.mp (h i hi)
theorem cIt_ok (c : Cf ρ C W X k) (G : GOk ρ Γ) (F : Fit Γ X) {f : Expr → Option E} (hf : ∀ e e', f e = some e' → PE X e (tE ρ C W e')) {tg it : Expr} {i : I} (h : cIt f Γ tg it = some i) : PI X tg it (tI ρ C W i) := by
  have dflt : ∀ {i}, (f it).map I.it = some i → PI X tg it (tI ρ C W i) := fun h => by
    obtain ⟨x, h1, rfl⟩ := map_some' h
    exact s_it c.ct (hf it x h1)
  unfold cIt at h
  split at h
  · rename_i x p es pos
    split at h
    · rename_i ex
      subst ex
      split at h
      · rename_i hc
        rw [Bool.and_eq_true] at hc
        obtain ⟨es', h1, rfl⟩ := map_some' h
        obtain ⟨_, hg⟩ := Gm.glob_ok F hc.1
        exact s_rng (cListE_ok hf es es' h1) hg (by rw [c.ct.mg]; exact G.bl _ (by decide +kernel)) (star_none (by simpa using hc.2))
      · cases h
    · split at h
      · rename_i ex
        subst ex
        split at h
        · rename_i a b
          split at h
          · rename_i hc
            simp only [Bool.and_eq_true, Bool.not_eq_true', Bool.or_eq_false_iff] at hc
            obtain ⟨h0, sa, sb⟩ := hc
            obtain ⟨y, z, h1, h2, rfl⟩ := seqO_some h
            obtain ⟨_, hg⟩ := Gm.glob_ok F h0
            exact s_zip c.ct (hf _ y h1) (hf _ z h2) hg (by rw [c.ct.mg]; exact G.bl _ (by decide +kernel)) sa sb
          · cases h
        · cases h
      · split at h
        · cases h
        · exact dflt h
  · exact dflt h
/-- the rule of a comprehension -/
abbrev CompR (ρ : Lk) (C : Call) (W : WX) (X : Cx) (P : Expr → List Comprehension → Scope → Expr) (mk : List Nat → E → T → I → EL → E) : Prop :=
  ∀ {elt tg iter : Expr} {ifs : List Expr} {scope : Scope} {own : List (Str × Nat)} {e' : E} {t' : T} {i' : I} {c' : EL}, PI X tg iter (tI ρ C W i') → L2.BlkOk X.N X.env.scope scope own → (∀ i ∈ slT t', i ∈ own.map (·.2)) →
    (∀ (s : Shared) (H : LH) (A : Addr) (cl : List (Str × Addr)) (fp : List Addr), PG (X.blk s H scope (compEnvC scope cl A X.env) fp) tg (tT ρ C noW t')) →
    (∀ (s : Shared) (H : LH) (A : Addr) (cl : List (Str × Addr)) (fp : List Addr), PTs (X.blk s H scope (compEnvC scope cl A X.env) fp) ifs (tCd ρ C noW c')) →
    (∀ (s : Shared) (H : LH) (A : Addr) (cl : List (Str × Addr)) (fp : List Addr), PE (X.blk s H scope (compEnvC scope cl A X.env) fp) elt (tE ρ C noW e')) →
    (∀ x, foldedSetIterable iter X.env x = pure x) → PE X (P elt [⟨tg, iter, ifs, 0⟩] scope) (tE ρ C W (mk (own.map (·.2)) e' t' i' c'))
theorem cComp_ok (c : Cf ρ C W X k) (G : GOk ρ Γ) (F : Fit Γ X) {f : Expr → Option E} {fi : Scope → Expr → Option E} (hf : ∀ e e', f e = some e' → PE X e (tE ρ C W e'))
    (hfi : ∀ (scope : Scope) (s : Shared) (H : LH) (A : Addr) (cl : List (Str × Addr)) (fp : List Addr) e e', fi scope e = some e' → PE (X.blk s H scope (compEnvC scope cl A X.env) fp) e (tE ρ C noW e') ∧ (isIf e = false → PT (X.blk s H scope (compEnvC scope cl A X.env) fp) e (tB ρ C noW e')))
    {P : Expr → List Comprehension → Scope → Expr} {mk : List Nat → E → T → I → EL → E} (rule : CompR ρ C W X P mk) {elt tg it : Expr} {ifs : List Expr} {scope : Scope} {e' : E} (h : cComp f fi Γ elt tg it ifs scope mk = some e') : PE X (P elt [⟨tg, it, ifs, 0⟩] scope) (tE ρ C W e') := by
  unfold cComp at h
  simp only [] at h
  split at h
  · cases h
  · rename_i hs
    simp only [Bool.or_eq_true, Bool.not_eq_true', not_or, Bool.not_eq_true, Bool.not_eq_false] at hs
    obtain ⟨s1, s2⟩ := hs
    split at h
    · rename_i t i e0 h1 h2 h3
      split at h
      · rename_i hsub
        have bok : L2.BlkOk X.N X.env.scope scope (ownOf Γ.N scope) := by
          rw [F.N, F.sc]
          exact L2.blkOk_by s2
        split at h
        · cases h
          exact rule (cIt_ok c G F hf h2) bok (subsL_of hsub) (fun s H A cl fp => cTg_ok (c.blk s H scope _ fp).ct (F.inner s H scope A cl fp) 8 tg t h1) (fun s H A cl fp => cd_nil) (fun s H A cl fp => (hfi scope s H A cl fp _ _ h3).1) (no_fold s1)
        · rename_i cond
          obtain ⟨cc, h4, rfl⟩ := map_some' h
          unfold cTst at h4
          split at h4
          · cases h4
          · rename_i hi
            exact rule (cIt_ok c G F hf h2) bok (subsL_of hsub) (fun s H A cl fp => cTg_ok (c.blk s H scope _ fp).ct (F.inner s H scope A cl fp) 8 tg t h1) (fun s H A cl fp => cd_one ((hfi scope s H A cl fp _ _ h4).2 (by simpa using hi))) (fun s H A cl fp => (hfi scope s H A cl fp _ _ h3).1) (no_fold s1)
        · cases h
      · cases h
    · cases h
theorem cLen_ok (c : Cf ρ C W X k) (G : GOk ρ Γ) (F : Fit Γ X) {f : Expr → Option E} {fi : Scope → Expr → Option E} (hf : ∀ e e', f e = some e' → PE X e (tE ρ C W e'))
    (hfi : ∀ (scope : Scope) (s : Shared) (H : LH) (A : Addr) (cl : List (Str × Addr)) (fp : List Addr) e e', fi scope e = some e' → PE (X.blk s H scope (compEnvC scope cl A X.env) fp) e (tE ρ C noW e') ∧ (isIf e = false → PT (X.blk s H scope (compEnvC scope cl A X.env) fp) e (tB ρ C noW e')))
    {x : Str} {es : List Expr} {p pos : Pos} {e' : E} (hgl : L2.Gl X x) (h : cLen f fi Γ x es = some e') : PE X (.Call (.Name x p) es [] pos) (tE ρ C W e') := by
  have hN : X.N.Nodup := by rw [F.N]; exact F.nd
  have hm : ∀ y, bltN.contains y = true → X.mg y = none := fun y hy => by rw [c.ct.mg]; exact G.bl y hy
  unfold cLen at h
  split at h
  · rename_i ex
    subst ex
    split at h
    · split at h
      · rename_i ey
        subst ey
        split at h
        · rename_i hc
          rw [Bool.and_eq_true] at hc
          obtain ⟨y, h1, rfl⟩ := map_some' h
          obtain ⟨_, hg⟩ := Gm.glob_ok F hc.1
          exact s_uln c.ct hgl (hm _ (by decide +kernel)) hg (hm _ (by decide +kernel)) (hf _ y h1) (by simpa using hc.2)
        · cases h
      · cases h
    · exact cComp_ok (P := fun e g s => .Call (.Name "len" p) [.SetComp e g s _] [] pos) c G F hf hfi (fun hi ok hsl hg ht he hs => s_sc c.ct hN hgl (hm _ (by decide +kernel)) hi ok hsl hg ht he hs) h
    · cases h
  · cases h
theorem cE_ok (own : OwnAll ρ C k) : ∀ (n : Nat) (Γ : Gm) (W : WX) (X : Cx), Cf ρ C W X k → GOk ρ Γ → Fit Γ X → ∀ e e', cE n Γ e = some e' → PE X e (tE ρ C W e') ∧ (isIf e = false → PT X e (tB ρ C W e'))
  | 0, Γ, W, X, _, _, _, e, e', h => by cases h
  | n + 1, Γ, W, X, c, G, F, e, e', h => by
    have ih := cE_ok own n Γ W X c G F
    have ihE : ∀ e e', cE n Γ e = some e' → PE X e (tE ρ C W e') := fun e e' h => (ih e e' h).1
    have ow := own W X c
    have ct := c.ct
    have ihI := fun (scope : Scope) (s : Shared) (H : LH) (A : Addr) (cl : List (Str × Addr)) (fp : List Addr) => cE_ok own n (Γ.inner scope) noW _ (c.blk s H scope (compEnvC scope cl A X.env) fp) (G.blk scope) (F.inner s H scope A cl fp)
    -- a test by its value's truth
    have pl : ∀ {e e'}, isPlainT e = true → PE X e (tE ρ C W e') → PE X e (tE ρ C W e') ∧ (isIf e = false → PT X e (tB ρ C W e')) := fun hp he => ⟨he, fun _ => t_plain ct he (plain_t hp)⟩
    have tst : ∀ {e e'}, cTst (cE n Γ) e = some e' → PT X e (tB ρ C W e') := fun {e e'} h => by
      unfold cTst at h
      split at h
      · cases h
      · rename_i hi
        exact (ih e e' h).2 (by simpa using hi)
    rw [cE] at h
    unfold cEb at h
    split at h
    · -- a constant
      obtain ⟨d, h1, rfl⟩ := map_some' h
      exact pl rfl (cConst_ok h1)
    · -- a name
      rename_i x pos
      split at h
      · rename_i i hi
        cases h
        obtain ⟨h1, h2, h3⟩ := Gm.slot_ok F hi
        obtain ⟨n1, n2, _⟩ := okName_of h1
        exact pl rfl (s_loc h2 h3 n1 n2)
      · split at h
        · rename_i hg
          obtain ⟨hk, hgl⟩ := Gm.glob_ok F hg
          obtain ⟨n1, n2, n3⟩ := okName_of hk
          split at h
          · rename_i g hl
            cases h
            obtain ⟨d, u, v, e1, e2, e3, e4⟩ := G.gl x g hl
            exact pl rfl (s_glo (L2.pe_glob hgl (by rw [ct.mg]; exact e2) e3 n1) e1 e4)
          · split at h
            · rename_i hb
              obtain ⟨t, h1, rfl⟩ := map_some' h
              exact pl rfl (s_con (L2.pe_bltn hgl (by rw [ct.mg]; exact G.bl x hb) (tyNum_ok h1) (show L2.RelV (.ty (tyName t)) (.type (tyName t)) from rfl) n3 n1) fun _ _ => by rw [RD])
            · cases h
        · cases h
    · -- and, or
      obtain ⟨h1, h2⟩ := cBoolE_ok ct (pos := _) ih _ _ h
      exact ⟨h1, fun _ => h2.pt⟩
    · -- not
      rename_i a pos
      obtain ⟨x, h1, rfl⟩ := map_some' h
      have h2 := tst h1
      unfold cTst at h1
      split at h1
      · cases h1
      · exact ⟨s_not ct (ihE a x h1), fun _ => t_not h2⟩
    · -- minus
      obtain ⟨x, h1, rfl⟩ := map_some' h
      exact pl rfl (s_neg (ihE _ x h1))
    · -- a op b
      rename_i a op b pos
      split at h
      · rename_i o ho
        obtain ⟨x, y, h1, h2, rfl⟩ := seqO_some h
        rw [← bopN_ok ho]
        exact pl rfl (s_bin ct ow (ihE a x h1) (ihE b y h2))
      · cases h
    · -- a op b, compared
      rename_i a o b pos
      split at h
      · cases h
      · rename_i hs
        obtain ⟨x, y, h1, h2, rfl⟩ := seqO_some h
        have e := copOf_ok o
        generalize copOf o = q at e ⊢
        subst e
        have hm := no_marks (op := opOf q) (b := b) (by simpa using hs)
        exact ⟨s_cmp c ow (ihE a x h1) (ihE b y h2) hm, fun _ => t_cmp c ow (ihE a x h1) (ihE b y h2) hm⟩
    · -- a op b op2 c
      rename_i a o o2 b c1 pos
      split at h
      · cases h
      · rename_i hs
        split at h
        · rename_i x y z h1 h2 h3
          cases h
          have e := copOf_ok o
          have e2 := copOf_ok o2
          generalize copOf o = q at e ⊢
          generalize copOf o2 = q2 at e2 ⊢
          subst e e2
          have hm := no_marks2 (o := opOf q) (o2 := opOf q2) (b := b) (c := c1) (by simpa using hs)
          exact ⟨s_cmp2 c ow (ihE _ x h1) (ihE _ y h2) (ihE _ z h3) hm, fun _ => t_cmp2 c ow (ihE _ x h1) (ihE _ y h2) (ihE _ z h3) hm⟩
        · cases h
    · -- a if c else b
      rename_i c1 a b pos
      split at h
      · rename_i x y z h1 h2 h3
        cases h
        exact ⟨s_ite (tst h1) (ihE _ y h2) (ihE _ z h3), fun hi => by simp [isIf] at hi⟩
      · cases h
    · -- a tuple
      obtain ⟨x, h1, rfl⟩ := map_some' h
      exact pl rfl (s_tup (cListE_ok ihE _ _ h1))
    · -- a list
      obtain ⟨x, h1, rfl⟩ := map_some' h
      exact pl rfl (s_lst (cListE_ok ihE _ _ h1))
    · -- a slice
      rename_i a lo hi p1 p2
      split at h
      · rename_i x y z h1 h2 h3
        cases h
        exact pl rfl (s_sli ct (ihE a x h1) (cOptE_ok ihE h2) (cOptE_ok ihE h3))
      · cases h
    · -- a place
      rename_i a b pos _
      split at h
      · cases h
      · rename_i hs
        obtain ⟨x, y, h1, h2, rfl⟩ := seqO_some h
        exact pl rfl (s_idx ct ow (ihE a x h1) (ihE b y h2) (plain_ix (by simpa using hs)))
    · -- the call of a name
      rename_i x p1 es p2
      split at h
      · cases h
      · rename_i hs
        have hs : es.any isStar = false := by simpa using hs
        split at h
        · cases h
        · rename_i hg
          have hg : Γ.glob x = true := by simpa using hg
          obtain ⟨hk, hgl⟩ := Gm.glob_ok F hg
          obtain ⟨n1, n2, n3⟩ := okName_of hk
          split at h
          · rename_i f hf
            obtain ⟨y, h1, rfl⟩ := map_some' h
            obtain ⟨d1, d2⟩ := G.df x f hf
            exact pl rfl (s_call c hgl (by rw [ct.mg]; exact d1) (by rw [ct.K]; exact d2) (cListE_ok ihE _ _ h1) n1 (star_none hs))
          · split at h
            · cases h
            · rename_i hb
              simp only [Bool.or_eq_true, Bool.not_eq_true', not_or, Bool.not_eq_false, List.isEmpty_iff] at hb
              have hm : X.mg x = none := by rw [ct.mg]; exact G.bl x hb.1
              cases es with
              | nil => exact absurd rfl hb.2
              | cons e0 er =>
                have hs2 := hs
                rw [List.any_cons, Bool.or_eq_false_iff] at hs2
                split at h
                · rename_i e9 h9
                  cases h
                  exact pl rfl (cLen_ok c G F ihE ihI hgl h9)
                · split at h
                  · rename_i b hb2
                    obtain ⟨y, h1, rfl⟩ := map_some' h
                    obtain ⟨rfl, hv⟩ := bfOf_ok hb2
                    exact pl rfl (s_bf ct ow (cListE_ok ihE _ _ h1) hgl hm hv n3 n1 (star_cons hs2.1) (star_none hs2.2))
                  · split at h
                    · rename_i b hb2
                      obtain ⟨y, h1, rfl⟩ := map_some' h
                      obtain ⟨rfl, hv⟩ := btOf_ok hb2
                      exact pl rfl (s_bt ct (cListE_ok ihE _ _ h1) hgl hm hv n3 n1 (star_cons hs2.1) (star_none hs2.2))
                    · cases h
    · -- a method
      rename_i o x p1 es p2
      split at h
      · cases h
      · rename_i hs
        simp only [Bool.or_eq_true, Bool.not_eq_true', not_or, Bool.not_eq_true, Bool.not_eq_false, decide_eq_false_iff_not, Decidable.not_not] at hs
        obtain ⟨s1, s2, s3, s4⟩ := hs
        split at h
        · rename_i m hm
          obtain ⟨a, b, h1, h2, rfl⟩ := seqO_some h
          obtain ⟨f1, f2⟩ := G.fld x m hm
          exact pl rfl (s_met c ow f1 f2 (ihE o a h1) (cListE_ok ihE es b h2) (star_none s1) (no_super s2) (few_args s1 s3) s4)
        · cases h
    · -- a list comprehension
      rename_i elt tg it ifs scope pos
      exact pl rfl (cComp_ok (P := fun e g s => .ListComp e g s pos) c G F ihE ihI (fun hi ok hsl hg ht he hs => s_lc ct (by rw [F.N]; exact F.nd) hi ok hsl hg ht he hs) h)
    · -- {}
      cases h
      exact pl rfl s_dic0
    · cases h
end Ev
end
end
section
/-! E25: statements; defs from their text. -/
set_option linter.all false
set_option maxRecDepth 100000
set_option maxHeartbeats 1000000
namespace Ev
open PySem
def cTgt (f : Expr → Option E) (Γ : Gm) (tg : Expr) : Option T := match tg with
  | .Subscript o i _ => if isSlice i then none else seqO (f o) (f i) .sub
  | tg => cTg Γ 8 tg
/-- one name on a line of its own list's -/
def cSetLc (f : Expr → Option E) (Γ : Gm) (tg e : Expr) (spos : Pos) : Option S := match tg, e with
  | .Name y py, .ListComp elt gens scope pos =>
    if isLocal (Γ.sc.names.lookup y) then (if (py.line == pos.line) && !(scope.names.any fun (n, k) => n == y && (k == .local || k == .cell)) then seqO (Γ.store y) (f e) (fun i x => .asg (.loc i) x) else none)
    else seqO (cTgt f Γ tg) (f e) .asg
  | _, _ => none
def cPar (f : Expr → Option E) (Γ : Gm) (tg e : Expr) : Option S := match tg, e with
  | .Tuple [.Name x px, .Name y py] _ _, .Tuple [a, b] _ _ =>
    if isLocal (Γ.sc.names.lookup x) && (isLocal (Γ.sc.names.lookup y) && ((px.line == py.line) && (!decide (x = y) && (!isStar a && (!isStar b && (!([a, b].all (foldedForSure 8)) && !([a, b].all (constantsAlone 8)))))))) then
      match Γ.store x, Γ.store y, f a, f b with
      | some i, some j, some a', some b' => some (.par [i, j] (.cons false a' (.cons false b' .nil)))
      | _, _, _, _ => none
    else none
  | _, _ => none
def cAsg (f : Expr → Option E) (Γ : Gm) (tg e : Expr) (pos : Pos) : Option S :=
  if isStar tg then none else if isComp e then cSetLc f Γ tg e pos else if isSeqT tg && isSeqT e then cPar f Γ tg e else seqO (cTgt f Γ tg) (f e) .asg
def cSList (g : Stmt → Option S) : List Stmt → Option SL
  | [] => some .nil
  | s :: r => seqO (g s) (cSList g r) .cons
def cSb (f : Expr → Option E) (g : Stmt → Option S) (Γ : Gm) (s : Stmt) : Option S := match s with
  | .Expr e _ => if isComp e then none else (f e).map .ex
  | .Assign [tg] e pos => cAsg f Γ tg e pos
  | .AugAssign (.Name x _) .Add e _ => seqO (Γ.store x) (f e) fun i x => .aug i .add x
  | .AugAssign (.Name x _) .Sub e _ => seqO (Γ.store x) (f e) fun i x => .aug i .sub x
  | .Return (some e) _ => (f e).map .ret
  | .Return none _ => some (.ret (.con .non))
  | .If c a b _ => match cTst f c, cSList g a, cSList g b with
    | some x, some y, some z => some (.if_ x y z)
    | _, _, _ => none
  | .While c b [] _ => seqO (cTst f c) (cSList g b) .whl
  | .For tg it b [] _ => if isSetD it then none else match cTgt f Γ tg, cIt f Γ tg it, cSList g b with
    | some x, some y, some z => some (.for_ x y z)
    | _, _, _ => none
  | .Pass _ => some .pas
  | .Break _ => some .brk
  | .Continue _ => some .cnt
  | _ => none
def cS : Nat → Gm → Stmt → Option S
  | 0, _, _ => none
  | n + 1, Γ, s => cSb (cE 40 Γ) (cS n Γ) Γ s
def cBody (Γ : Gm) (b : List Stmt) : Option SL := cSList (cS 40 Γ) b
end Ev
noncomputable section
namespace Ev
open PySem PySem.Spec PyProof.Rows PySem.SeqAt
open L2 (V HO Vals VK XK WX SqL SqT Inv PE PT PW PA PS PSs PG PGs PI Cx upd upd_same upd_ne Rd Room EP TP thn OpR CallR TE TT TA It TI PIE Turn FpOk TG TGs PTs TS Ends)
variable {ρ : Lk} {C : Call} {W : WX} {X : Cx} {k : Nat} {Γ : Gm}

structure SFit (ρ : Lk) (C : Call) (W : WX) (X : Cx) (k : Nat) (Γ : Gm) : Prop where
  cf : Cf ρ C W X k
  ps : PassesOwn (model X.prog X.w) X.A X.env X.xe
  F : Fit Γ X
  fn : Γ.fn = true
  fk : Γ.sc.kind = .function
theorem cTgt_ok (c : Ct ρ X) (F : Fit Γ X) {f : Expr → Option E} (hf : ∀ e e', f e = some e' → PE X e (tE ρ C W e')) {tg : Expr} {t : T} (h : cTgt f Γ tg = some t) : PG X tg (tT ρ C W t) := by
  unfold cTgt at h
  split at h
  · split at h
    · cases h
    · rename_i hs
      obtain ⟨x, y, h1, h2, rfl⟩ := seqO_some h
      exact g_sub (hf _ x h1) (hf _ y h2) (asg_sub (by simpa using hs))
  · exact cTg_ok c F 8 _ t h
theorem cSList_ok {g : Stmt → Option S} (hg : ∀ s s', g s = some s' → PS X s (tS ρ C W s')) : ∀ b b', cSList g b = some b' → PSs X b (tSL ρ C W b')
  | [], b', h => by cases h; exact b_nil
  | s :: r, b', h => by
    rw [cSList] at h
    obtain ⟨x, y, h1, h2, rfl⟩ := seqO_some h
    exact b_cons (hg s x h1) (cSList_ok hg r y h2)
/-- a list comprehension's parts -/
theorem lc_parts {n : Nat} {elt : Expr} {gens : List Comprehension} {scope : Scope} {pos : Pos} {e' : E} (h : cE n Γ (.ListComp elt gens scope pos) = some e') : ∃ m tg it ifs t i e c, n = m + 1 ∧ gens = [⟨tg, it, ifs, 0⟩] ∧ e' = .lc (Γ.isH pos) ((ownOf Γ.N scope).map (·.2)) e t i c ∧ isSetD it = false ∧ L2.blkC Γ.N Γ.sc scope (ownOf Γ.N scope) = true ∧
    cTg (Γ.inner scope) 8 tg = some t ∧ cIt (cE m Γ) Γ tg it = some i ∧ cE m (Γ.inner scope) elt = some e ∧ subsL (slT t) ((ownOf Γ.N scope).map (·.2)) = true ∧ ((ifs = [] ∧ c = .nil) ∨ ∃ cond cc, ifs = [cond] ∧ c = .cons false cc .nil ∧ cTst (cE m (Γ.inner scope)) cond = some cc) := by
  cases n with
  | zero => cases h
  | succ m =>
    rw [cE] at h
    unfold cEb at h
    split at h
    all_goals first
      | (rename_i q; cases q; done)
      | skip
    · rename_i elt tg it ifs scope pos heq
      injection heq with q1 q2 q3 q4
      subst q1 q2 q3 q4
      unfold cComp at h
      simp only [] at h
      split at h
      · cases h
      · rename_i hs
        simp only [Bool.or_eq_true, Bool.not_eq_true', not_or, Bool.not_eq_true, Bool.not_eq_false] at hs
        split at h
        · rename_i t i e0 h1 h2 h3
          split at h
          · rename_i hsub
            split at h
            · cases h
              exact ⟨m, tg, it, _, t, i, e0, _, rfl, rfl, rfl, hs.1, hs.2, h1, h2, h3, hsub, .inl ⟨rfl, rfl⟩⟩
            · obtain ⟨cc, h4, rfl⟩ := map_some' h
              exact ⟨m, tg, it, _, t, i, e0, _, rfl, rfl, rfl, hs.1, hs.2, h1, h2, h3, hsub, .inr ⟨_, cc, rfl, rfl, h4⟩⟩
            · cases h
          · cases h
        · cases h
    · cases h
theorem cAsg_ok (own : OwnAll ρ C k) (S : SFit ρ C W X k Γ) (G : GOk ρ Γ) {n : Nat} {tg e : Expr} {pos : Pos} {s' : Ev.S} (h : cAsg (cE n Γ) Γ tg e pos = some s') : PS X (.Assign [tg] e pos) (tS ρ C W s') := by
  have c := S.cf
  have ct := c.ct
  have F := S.F
  have hf : ∀ e e', cE n Γ e = some e' → PE X e (tE ρ C W e') := fun e e' h => (cE_ok own n Γ W X c G F e e' h).1
  unfold cAsg at h
  split at h
  · cases h
  · rename_i hst
    have h1 := asg_one (env := X.env) (t := tg) (by simpa using hst)
    split at h
    · -- a comprehension
      unfold cSetLc at h
      split at h
      · rename_i y py elt gens scope cpos _
        split at h
        · rename_i hl
          split at h
          · rename_i hc
            rw [Bool.and_eq_true] at hc
            obtain ⟨i, x, h2, h3, rfl⟩ := seqO_some h
            obtain ⟨m, tg, it, ifs, t, i2, e0, c0, rfl, rfl, rfl, s1, s2, g1, g2, g3, hsub, hc0⟩ := lc_parts h3
            obtain ⟨a1, _, _⟩ := Gm.store_ok F h2
            have hyl : X.env.scope.names.lookup y = some .local := by rw [F.sc]; exact isLocal_of hl
            have hk : X.env.scope.kind = .function := by rw [F.sc]; exact S.fk
            have hN : X.N.Nodup := by rw [F.N]; exact F.nd
            have bok : L2.BlkOk X.N X.env.scope scope (ownOf Γ.N scope) := by
              rw [F.N, F.sc]
              exact L2.blkOk_by s2
            have inner := fun (s : Shared) (H : LH) (A : Addr) (cl : List (Str × Addr)) (fp : List Addr) => cE_ok own m (Γ.inner scope) noW _ (c.blk s H scope (compEnvC scope cl A X.env) fp) (G.blk scope) (F.inner s H scope A cl fp)
            have hsw := L2.sw_true (elt := elt) (gs := [⟨tg, it, ifs, 0⟩]) (l := pos.line) hk hyl hc.1 (by simpa using hc.2)
            have hf2 : ∀ e e', cE m Γ e = some e' → PE X e (tE ρ C W e') := fun e e' h => (cE_ok own m Γ W X c G F e e' h).1
            rcases hc0 with ⟨rfl, rfl⟩ | ⟨cond, cc, rfl, rfl, h4⟩
            · exact c_setLc ct hN a1 hyl hsw (cIt_ok c G F hf2 g2) bok (subsL_of hsub) (fun s H A cl fp => cTg_ok (c.blk s H scope _ fp).ct (F.inner s H scope A cl fp) 8 tg t g1) (fun s H A cl fp => cd_nil) (fun s H A cl fp => (inner s H A cl fp _ _ g3).1) (no_fold s1)
            · unfold cTst at h4
              split at h4
              · cases h4
              · rename_i hi
                exact c_setLc ct hN a1 hyl hsw (cIt_ok c G F hf2 g2) bok (subsL_of hsub) (fun s H A cl fp => cTg_ok (c.blk s H scope _ fp).ct (F.inner s H scope A cl fp) 8 tg t g1) (fun s H A cl fp => cd_one ((inner s H A cl fp _ _ h4).2 (by simpa using hi))) (fun s H A cl fp => (inner s H A cl fp _ _ g3).1) (no_fold s1)
          · cases h
        · rename_i hl
          obtain ⟨t, x, h2, h3, rfl⟩ := seqO_some h
          refine c_asg (hf _ x h3) (cTgt_ok ct F hf h2) (sw_cell ?_) (no_par1 rfl) h1
          rw [F.sc]
          cases q : Γ.sc.names.lookup y with
          | none => rfl
          | some kk =>
            rw [q] at hl
            cases kk <;> first
              | rfl
              | exact absurd rfl hl
      · cases h
    · rename_i hcomp
      have hcomp : isComp e = false := by simpa using hcomp
      split at h
      · -- two names
        unfold cPar at h
        split at h
        · rename_i x px y py kt pt a b k2 p2 _ _
          split at h
          · rename_i hc
            simp only [Bool.and_eq_true, Bool.not_eq_true', decide_eq_false_iff_not] at hc
            obtain ⟨l1, l2, hl, hxy, sa, sb, hff, hca⟩ := hc
            split at h
            · rename_i i j a' b' e1 e2 e3 e4
              cases h
              obtain ⟨a1, _, _⟩ := Gm.store_ok F e1
              obtain ⟨a2, _, _⟩ := Gm.store_ok F e2
              have hx : X.env.scope.names.lookup x = some .local := by rw [F.sc]; exact isLocal_of l1
              have hy : X.env.scope.names.lookup y = some .local := by rw [F.sc]; exact isLocal_of l2
              have hk : X.env.scope.kind = .function := by rw [F.sc]; exact S.fk
              have hN : X.N.Nodup := by rw [F.N]; exact F.nd
              have hij : i ≠ j := fun z => by subst z; rw [a1] at a2; cases a2; exact hxy rfl
              have ha : PA X [a, b] (tEL ρ C W (.cons false a' (.cons false b' .nil))) := s_cons (hf _ _ e3) (s_cons (hf _ _ e4) s_nil (star_cons sb)) (star_cons sa)
              exact c_par ct.calm hN a1 a2 hij hx hy ha (par_two hk hx hy hl hxy ⟨sa, sb⟩ hff hca) (no_swap1 hcomp)
            · cases h
          · cases h
        · cases h
      · rename_i hseq
        have hp : swappedStores [tg] e X.env = pure none := by
          cases q1 : isSeqT tg with
          | false => exact no_par1 q1
          | true =>
            rw [q1] at hseq
            exact no_par2 (by simpa using hseq)
        obtain ⟨t, x, h2, h3, rfl⟩ := seqO_some h
        exact c_asg (hf _ x h3) (cTgt_ok ct F hf h2) (no_swap1 hcomp) hp h1
theorem cS_ok (own : OwnAll ρ C k) (S : SFit ρ C W X k Γ) (G : GOk ρ Γ) : ∀ (n : Nat) (s : Stmt) (s' : Ev.S), cS n Γ s = some s' → PS X s (tS ρ C W s')
  | 0, s, s', h => by cases h
  | n + 1, s, s', h => by
    have c := S.cf
    have ct := c.ct
    have F := S.F
    have both := cE_ok own 40 Γ W X c G F
    have hf : ∀ e e', cE 40 Γ e = some e' → PE X e (tE ρ C W e') := fun e e' h => (both e e' h).1
    have hg := cS_ok own S G n
    have tst : ∀ {e e'}, cTst (cE 40 Γ) e = some e' → PT X e (tB ρ C W e') := fun {e e'} h => by
      unfold cTst at h
      split at h
      · cases h
      · rename_i hi
        exact (both e e' h).2 (by simpa using hi)
    have hN : X.N.Nodup := by rw [F.N]; exact F.nd
    rw [cS] at h
    unfold cSb at h
    split at h
    · split at h
      · cases h
      · rename_i hc
        obtain ⟨x, h1, rfl⟩ := map_some' h
        exact c_ex (hf _ x h1) (no_swap (by simpa using hc))
    · exact cAsg_ok own S G h
    · obtain ⟨i, x, h1, h2, rfl⟩ := seqO_some h
      obtain ⟨a1, a2, a3⟩ := Gm.store_ok F h1
      exact c_aug rfl hN a1 a2 (hf _ x h2) a3
    · obtain ⟨i, x, h1, h2, rfl⟩ := seqO_some h
      obtain ⟨a1, a2, a3⟩ := Gm.store_ok F h1
      exact c_aug rfl hN a1 a2 (hf _ x h2) a3
    · obtain ⟨x, h1, rfl⟩ := map_some' h
      exact c_ret (hf _ x h1)
    · cases h
      exact c_retN
    · split at h
      · rename_i x y z h1 h2 h3
        cases h
        exact c_if (tst h1) (cSList_ok hg _ y h2) (cSList_ok hg _ z h3)
      · cases h
    · obtain ⟨x, y, h1, h2, rfl⟩ := seqO_some h
      exact c_whl S.ps (tst h1) (cSList_ok hg _ y h2)
    · split at h
      · cases h
      · rename_i hs
        split at h
        · rename_i x y z h1 h2 h3
          cases h
          exact c_for S.ps ct.calm (cIt_ok c G F hf h2) (cTgt_ok ct F hf h1) (cSList_ok hg _ z h3) (no_fold (by simpa using hs))
        · cases h
    · cases h; exact c_pas
    · cases h; exact c_brk
    · cases h; exact c_cnt
    · cases h
theorem cBody_ok (own : OwnAll ρ C k) (S : SFit ρ C W X k Γ) (G : GOk ρ Γ) {b : List Stmt} {b' : SL} (h : cBody Γ b = some b') : PSs X b (tSL ρ C W b') := cSList_ok (cS_ok own S G 40) b b' h
/-! ### defs -/
theorem fnAt_by {f : Nat} {F : Fn} {name qual : Str} {params : Arguments} {body : List Stmt} {dV kV doc pm cdv ct oc : Value} {an od : Option Addr} {osl : Array (Option Value)} {ps : List Str} (G : GOk ρ Γ) (hfn : Γ.fn = true) (nd : Γ.N.Nodup)
    (lk : ρ.K.lookup (ρ.fa f) = some ⟨oc, od, .func (PySem.W.fnOf name qual params body Γ.sc dV kV doc pm an cdv ct), osl⟩) (hcd : PySem.W.codeIn ρ.K cdv qual = true) (Sc : L2.FnScope Γ.N ps Γ.sc) (h1 : ps.length = F.np) (h2 : Γ.N.length = F.ns) (h3 : F.dfl = [])
    (hb : ∀ us : List Value, us.length = ps.length → bindArgs (PySem.W.fnOf name qual params body Γ.sc dV kV doc pm an cdv ct) ⟨us, []⟩ = pure (ps.zip us)) (hc : cBody Γ body = some F.body) : FnAt ρ f F := by
  refine ⟨name, qual, params, body, Γ.sc, dV, kV, doc, pm, cdv, ct, oc, an, od, osl, Γ.N, ps, [], lk, hcd, Sc, h1, h2, fun s us j hk hj h0 => ?_, by rw [h3]; rfl, fun μ H => ⟨[], by rw [h3, RDs], .nil⟩, fun C W X k B own => ?_⟩
  · have : j = 0 := by simpa using h0
    subst this
    refine BindsTo.of_eq ?_
    rw [List.drop_nil, List.append_nil]
    exact hb us (by omega)
  · have F0 : Fit Γ X := ⟨B.hN, B.sc, nd, fun _ => B.fn, fun z => by rw [hfn] at z; cases z⟩
    exact cBody_ok own ⟨B.cf, B.ps, F0, hfn, B.fk⟩ G hc
end Ev
end
end
section
/-! E26: the law's end. -/
set_option linter.all false
set_option maxRecDepth 100000
set_option maxHeartbeats 1000000
noncomputable section
namespace Ev
open PySem PySem.Spec PyProof.Rows PySem.SeqAt PySem.Calls
open L2 (V HO Vals VK XK WX SqL SqT Inv PE PT PW PA PS PSs PG PGs PI Cx upd upd_same upd_ne Rd Room EP TP thn OpR CallR TE TT TA)

/-! ### what the module's top leaves -/
/-- a list of the top: flat values -/
structure LsD where
  x : Str
  its : List D
def dvOf : D → He.Dv
  | .bl b => .bl b
  | .int i => .int i
  | .str s => .str (asStr s)
  | _ => .non
theorem dvOf_v {K : PySem.W.Frag} (d : D) : (dvOf d).v K = vOf d := by cases d <;> rfl
def slotB (K : PySem.W.Frag) (a : Addr) : Bool := match K.lookup a with
  | some o => o.slots.isEmpty
  | none => false
def LsD.ok (K : PySem.W.Frag) (l : LsD) : Bool := l.its.all isFlat && (He.lstB K l.x (l.its.map dvOf) && slotB K (He.ga K l.x))
theorem LsD.sq {K : PySem.W.Frag} {l : LsD} (h : l.ok K = true) (H : LH) : SqF K H (He.ga K l.x) (l.its.map vOf) ∧ l.its.all isFlat = true := by
  unfold LsD.ok at h
  rw [Bool.and_eq_true, Bool.and_eq_true] at h
  refine ⟨?_, h.1⟩
  have q := He.lstB_ok h.2.1 fun _ => none
  rw [List.map_map] at q
  have e : (He.Dv.v K ∘ dvOf) = vOf := funext fun d => dvOf_v d
  rw [e] at q
  rcases q with (q | ⟨o, q⟩) | ⟨o, its, n, h1, h2, h3, h4, h5, h6⟩
  · cases q
  · cases q
  · have hs := h.2.2
    unfold slotB at hs
    rw [h1] at hs
    obtain ⟨c, dd, da, sl⟩ := o
    simp only [] at h2 h3 h4 hs
    subst h2 h3 h4
    have hs : sl = #[] := by simpa using hs
    subst hs
    exact .inr ⟨its, n, h1, h5, h6⟩
abbrev AlX : Type := He.AlD × Bool
def chkX (ls : List LsD) (K : PySem.W.Frag) : Bool := (ls.all fun l => l.ok K) && (match K.lookup sysModules with | some o => (match o.cls with | .type s => !decide (s = "list") | _ => true) | none => false)
def kOf (n : Nat) (g : Addr → Option Obj) : PySem.W.Frag := He.frG g (sysModules :: He.asD g n)
def obX (n : Nat) (fa : List He.Fa) (fn : List He.DefD) (ls : List LsD) (g : Addr → Option Obj) : AlX := (He.obsD fa fn (kOf n g), chkX ls (kOf n g))
structure SaysX (fa : List He.Fa) (fn : List He.DefD) (ls : List LsD) (K : PySem.W.Frag) : Prop where
  d : He.SaysD fa fn K
  l : ∀ l ∈ ls, l.ok K = true
  sm : ∃ o, K.lookup sysModules = some o ∧ o.cls ≠ .type "list"
theorem saysX_of {n : Nat} {fa : List He.Fa} {fn : List He.DefD} {ls : List LsD} {g : Addr → Option Obj} (h : obX n fa fn ls g = (He.valD fn, true)) : SaysX fa fn ls (kOf n g) := by
  unfold obX at h
  rw [Prod.mk.injEq] at h
  have c := h.2
  unfold chkX at c
  rw [Bool.and_eq_true, List.all_eq_true] at c
  refine ⟨h.1, c.1, ?_⟩
  have c2 := c.2
  split at c2
  · rename_i o e
    refine ⟨o, e, fun z => ?_⟩
    rw [z] at c2
    exact absurd c2 (by decide)
  · cases c2
def hookX (n : Nat) (fa : List He.Fa) (fn : List He.DefD) (ls : List LsD) : PySem.W.Hook where
  α := AlX
  obs := fun s => obX n fa fn ls s.heap.get?
  val := fun _ => (He.valD fn, true)
  says := fun _ h => ∃ K : PySem.W.Frag, K.In h ∧ SaysX fa fn ls K
  of := fun _ _ e => ⟨_, He.frG_in, saysX_of e⟩
  keeps := fun _ _ _ ⟨K, hK, c⟩ k => ⟨K, PySem.W.Frag.In.keeps hK k, c⟩
theorem obX_eq {n : Nat} {fa : List He.Fa} {fn : List He.DefD} {ls : List LsD} {g : Addr → Option Obj} {s : Shared} (h : ∀ a, g a = s.heap.get? a) : obX n fa fn ls g = (hookX n fa fn ls).obs s := by
  have e : g = s.heap.get? := funext h
  rw [e]
  rfl
/-! ### the law's call -/
theorem room_law {n : Nat} (h : n ≤ 57) : Room (4 * n) callerA := ⟨rfl, by show 301 + 3 * (4 * n) + 5 < 1000; omega, by show 4 + 16 * (4 * n) + 200 < 9900; omega⟩
theorem law_run {P : Program} {w : World} {ρ : Lk} {mb : Str → Option Value} {n f0 : Nat} {a : Addr} {s1 : Shared} {vs : List Value} {ns : List Int} (hp : ρ.prog = P) (hw : ρ.w = w) (hn : n ≤ 57)
    (KX : ρ.K.In s1.heap) (hns : s1.heap.Ns mainGlobals ρ.mg) (hb : s1.heap.Ns builtinsNs mb) (hbb : ∀ x : Str, x ≠ "__name__" → mb x = bootBuiltins x) (hlim : s1.heap.NoLimit) (hg : s1.gens = #[])
    (ha : s1.heap.get? a = some { cls := .type "list", data := .seq vs.toArray }) (hi : IntsAre vs ns) (hl : ns.length ≤ sizeLine) (hsm : ∃ o, ρ.K.lookup sysModules = some o ∧ o.cls ≠ .type "list")
    (hall : ∀ f F, ρ.P.fn f = some F → FnAt ρ f F) (own : ∀ (base : Heap) (n : Nat), FnsOk ρ base (4 * n) (callN ρ.P n) → OwnAll ρ (callN ρ.P n) (4 * n))
    (hev : ∃ h', callN ρ.P n f0 [.vl (ns.map D.int)] [] = .ok (.bl true) h') :
    codeAny (model P w) callerA (.call (.ref (ρ.fa f0)) ⟨[.ref a], []⟩) (fun r s' => r = .ok (.ret (.bool true)) ∧ OldK s1.heap s'.heap ∧ s'.os = s1.os ∧ AllBare s'.gens) s1 := by
  subst hp hw
  obtain ⟨hout, hev⟩ := hev
  have rv := L2.vals_ints hi
  have fl : (ns.map D.int).all isFlat = true := by rw [List.all_map]; exact List.all_eq_true.mpr fun _ _ => rfl
  have em : (ns.map D.int).map vOf = ns.map V.int := by rw [List.map_map]; rfl
  -- from an abstract heap that tracks the script at most
  have core : ∀ H : LH, (∀ b, H b = none ∨ ∃ o xs, H b = some (.frz o (.lst xs))) → SqF ρ.K H a (ns.map V.int) → L2.HOk ρ.prog ρ.w H s1.heap → (∀ b, H b ≠ none → b = a) → (H a ≠ none → ρ.K.lookup a = none) →
      codeAny (model ρ.prog ρ.w) callerA (.call (.ref (ρ.fa f0)) ⟨[.ref a], []⟩) (fun r s' => r = .ok (.ret (.bool true)) ∧ OldK s1.heap s'.heap ∧ s'.os = s1.os ∧ AllBare s'.gens) s1 := by
    intro H only sq ok hA hK
    have keepB : ∀ {b : Addr} {o : Obj}, s1.heap.get? b = some o → H b = none → (L2.hidT s1.heap H).get? b = some o := fun e z => L2.hidT_get e z
    have notA : ∀ {b : Addr} {o : Obj} {es : Array DictEntry} {ep : Nat}, s1.heap.get? b = some o → o.data = .dict es ep → H b = none := by
      intro b o es ep e d
      by_cases z : H b = none
      · exact z
      · have e2 := hA b z
        subst e2
        rw [ha] at e
        cases e
        have d2 : Data.seq vs.toArray _ = Data.dict es ep := d
        cases d2
    have nsB : ∀ {b : Addr} {m : Str → Option Value}, s1.heap.Ns b m → (L2.hidT s1.heap H).Ns b m := fun ⟨o, es, ep, e, d, r⟩ => ⟨o, es, ep, keepB e (notA e d), d, r⟩
    have inB : ρ.K.In (L2.hidT s1.heap H) := by
      intro b o e
      refine keepB (KX b o e) ?_
      by_cases z : H b = none
      · exact z
      · have e2 := hA b z
        subst e2
        rw [hK z] at e
        cases e
    have md : L2.Mod ρ.K ρ.mg (L2.hidT s1.heap H) := by
      obtain ⟨mc, l1, l2⟩ := hlim
      exact ⟨inB, nsB hns, ⟨mb, nsB hb, hbb⟩, mc, nsB l1, l2⟩
    have smB : ∃ o, (L2.hidT s1.heap H).get? sysModules = some o ∧ o.cls ≠ .type "list" := by
      obtain ⟨o, e, z⟩ := hsm
      exact ⟨o, inB _ _ e, z⟩
    have env : L2.Env0 ρ.prog ρ.w ρ.K ρ.mg (L2.hidT s1.heap H) callerA [] s1 H :=
      ⟨rfl, md, fun b o e => L2.of_hidT e, Nat.le_of_eq (L2.hidT_size _ _), trivial, fun b hb => absurd (show b ∈ ([] : List Addr) from hb) (by simp), ok, .of_eq hg⟩
    have fns := fns_ok smB hall (own (L2.hidT s1.heap H)) n
    have rd : RDs ρ ⟨[], []⟩ H [.vl (ns.map D.int)] [.ref a] := by
      rw [RDs]
      refine ⟨_, _, rfl, ?_, by rw [RDs]⟩
      rw [RD]
      exact ⟨a, _, rfl, .inl sq, by rw [← em]; exact RDs.of_flat fl⟩
    have R0 : HR ρ ⟨[], []⟩ [] H := ⟨rfl, List.nodup_nil, fun i ob a h _ => by simp at h, fun b hb => absurd (show b ∈ ([] : List Addr) from hb) (by simp)⟩
    refine codeAny_mono (fns f0 [.vl (ns.map D.int)] [] callerA [] s1 H [.ref a] [.ref a] ⟨[], []⟩ (room_law hn) rfl env (.cons rfl .nil) rd R0 (by rw [hev]; exact fun z => by cases z)) fun r s' q => ?_
    cases r with
    | error e =>
      obtain ⟨c, ws, h', ec, _⟩ := q
      rw [hev] at ec
      cases ec
    | ok flw =>
      cases flw with
      | next => exact q.elim
      | brk => exact q.elim
      | cont => exact q.elim
      | ret u =>
        obtain ⟨d, h', H', μ', ec, os, bare, un, hok', x, R', ru⟩ := q
        rw [hev] at ec
        cases ec
        obtain ⟨v, rv2, ru2⟩ := (show ∃ v, RD ρ μ' H' (.bl true) v ∧ L2.RelV v u from ru)
        rw [RD] at rv2
        subst rv2
        obtain rfl : u = Value.bool true := ru2
        refine ⟨rfl, OldK.of_keep fun b o e => ?_, os, bare⟩
        by_cases z : H b = none
        · exact un.keep b o e z (by intro m; exact absurd (show b ∈ ([] : List Addr) from m) (by simp)) (by simp)
        · rcases only b with q | ⟨ob, xs, q⟩
          · exact absurd q z
          · obtain ⟨e1, _⟩ := ok b _ q
            obtain ⟨e2, _⟩ := hok' b _ (un.frzs b ob _ q)
            rw [e] at e1
            cases e1
            exact e2
  cases hk : ρ.K.lookup a with
  | some o =>
    have e := KX a o hk
    rw [ha] at e
    cases e
    exact core (fun _ => none) (fun _ => .inl rfl) (.inr ⟨vs.toArray, _, hk, by rw [List.size_toArray, hi.length]; exact hl, by simpa using rv⟩) (fun b u z => by cases z) (fun b z => absurd rfl z) fun z => absurd rfl z
  | none =>
    let H0 : LH := fun b => if b = a then some (.frz { cls := .type "list", data := .seq vs.toArray } (.lst (ns.map V.int))) else none
    have at0 : H0 a = some (.frz { cls := .type "list", data := .seq vs.toArray } (.lst (ns.map V.int))) := if_pos rfl
    have off0 : ∀ b, b ≠ a → H0 b = none := fun b z => if_neg z
    refine core H0 (fun b => ?_) (.inl ⟨_, at0⟩) (fun b u z => ?_) (fun b z => ?_) fun _ => hk
    · by_cases q : b = a
      · subst q; exact .inr ⟨_, _, at0⟩
      · exact .inl (off0 b q)
    · by_cases q : b = a
      · subst q
        rw [at0] at z
        cases z
        exact ⟨ha, by rw [List.length_map]; exact hl, vs, _, rv, ha⟩
      · rw [off0 b q] at z
        cases z
    · by_cases q : b = a
      · exact q
      · exact absurd (off0 b q) z
/-- the goal that the head leaves -/
theorem walk_ev {l : PySem.W.OpenLaw} {m n : Nat} {q : Program} {loose : List Str} {XP : (Str → Option Value) → Heap → Prop} {YP : World → Heap → Prop} {d : DefRec} (hn : l.most = some m) (hm : m ≤ sizeLine) (hdf : d.params.defaults = []) (h57 : n ≤ 57)
    (F : ∀ (w : World) (mg : Str → Option Value) (fa : Addr) (h : Heap), YP w h → h.Ns mainGlobals mg → mg d.name = some (.ref fa) → ∀ (a : Addr) (ns : List Int), ns.length ≤ m →
      ∃ (ρ : Lk) (f0 : Nat), ρ.prog = l.prog ∧ ρ.w = w ∧ ρ.mg = mg ∧ ρ.fa f0 = fa ∧ ρ.K.In h ∧ (∃ o, ρ.K.lookup sysModules = some o ∧ o.cls ≠ .type "list") ∧ (∀ f F, ρ.P.fn f = some F → FnAt ρ f F) ∧
        (∀ (base : Heap) (n : Nat), FnsOk ρ base (4 * n) (callN ρ.P n) → OwnAll ρ (callN ρ.P n) (4 * n)) ∧ ∃ h', callN ρ.P n f0 [.vl (ns.map D.int)] [] = .ok (.bl true) h') :
    PySem.W.WalkO q loose XP YP l.row.toRowW d [] (fun f vs => PySem.call f vs) := by
  refine Att.attach_call hn hdf fun w s0 s1 mg mb fa o pm cd doc a vs ns G Y ho hd hcd hmg hobj hints hlen hg => ?_
  obtain ⟨ρ, f0, hp, hw, hmg2, hfa, KX, sm, hall, own, hev⟩ := F w mg fa _ Y G.T.g hmg a ns hlen
  subst hmg2 hfa
  exact law_run hp hw h57 KX G.T.g G.T.b G.T.builtins G.T.nolimit hg hobj hints (Nat.le_trans hlen hm) sm hall own hev
end Ev
end
end
section
/-! E30: a law's table: its defs, the module's names. -/
set_option linter.all false
set_option maxRecDepth 100000
set_option maxHeartbeats 1000000
noncomputable section
namespace Ev
open PySem PySem.Spec PyProof.Rows PySem.SeqAt PySem.Calls
open L2 (V HO Vals VK XK WX SqL SqT Inv PE PT PW PA PS PSs PG PGs PI Cx upd upd_same upd_ne Rd Room EP TP thn OpR CallR TE TT TA)
variable {ρ : Lk} {C : Call} {W : WX} {X : Cx}

/-- a program without classes has no own objects -/
theorem own_none (h : ρ.P.anc = fun _ => []) : ∀ (C : Call) (k : Nat), OwnAll ρ C k := fun C k W X c => by
  have no : ∀ {μ : Mu} {h : Hp} {H : LH} {x : D} {v : V}, HR ρ μ h H → RD ρ μ H x v → isIn h x → False := fun {μ h H x v} R r ⟨cc, e⟩ => by
    unfold insOf at e
    split at e
    · rw [RD] at r
      obtain ⟨_, _, _, _, _, _, _, _, hc⟩ := r
      exact hc (by rw [‹ρ.P.anc = _›])
    · rw [RD] at r
      obtain ⟨a, ea, _⟩ := r
      split at e
      · rename_i eo
        have ro := R.at_ _ _ a eo ea
        rename_i lk
        cases lk with
        | true => exact ro
        | false => obtain ⟨_, _, _, _, hc⟩ := ro; exact hc (by rw [‹ρ.P.anc = _›])
      · cases e
    · cases e
  have noc : ∀ {μ : Mu} {H : LH} {y : D} {v : V}, RD ρ μ H y v → (∃ d, y = .cls d) → False := fun r ⟨d, e⟩ => by
    subst e
    rw [RD] at r
    exact r.2 (by rw [h])
  refine ⟨fun {_ _ _ _ _ _ _ _ _ _ _ _ _ _} I R rx ry ru rz q => ?_, fun {_ _ _ _ _ _ _ _ _ _ _ _ _ _} I R rx ry ru rz q => ?_, fun {_ _ _ _ _ _ _ _ _ _ _ _ _ _ _} I R rx ry ru rz q => ?_, fun {_ _ _ _ _ _ _ _ _ _ _ _ _} I R rx ry ru rz q => ?_, fun {_ _ _ _ _ _ _ x m f a _} I R rx ek => ?_⟩
  · rcases q with q | q
    · exact (no R rx q).elim
    · exact (no R ry q).elim
  · exact (no R rx q).elim
  · exact (no R rx q).elim
  · rcases q with q | q
    · exact (no R rx q).elim
    · exact (noc ry q).elim
  · refine (no R rx ?_).elim
    unfold callee at ek
    split at ek
    · split at ek
      · rename_i c fs _ eo
        exact ⟨c, by unfold insOf; simp only [eo]⟩
      · split at ek <;> cases ek
      · cases ek
    · exact ⟨_, rfl⟩
    · split at ek <;> cases ek
    · cases ek
structure DefT where
  id : Nat
  x : Str
  st : Stmt
  N : List Str
  ps : List Str
  hp : List (Nat × Nat) := []
structure Tab where
  defs : List DefT
  gls : List (Str × (Nat × D))
  ls : List LsD
  fld : List (Str × Nat)
theorem zip_lookup {α β : Type} {f : Nat} {b : β} : ∀ (ids : List Nat) (xs : List α) (ys : List β), xs.length = ids.length → (ids.zip ys).lookup f = some b → ∃ (i : Nat) (a : α), xs[i]? = some a ∧ ys[i]? = some b ∧ (ids.zip xs).lookup f = some a
  | [], _, _, _, h => by simp at h
  | _ :: _, [], _, h, _ => by simp at h
  | _ :: _, _ :: _, [], _, h => by simp at h
  | k :: ids, x :: xs, y :: ys, hl, h => by
    rw [List.zip_cons_cons, List.lookup_cons] at h ⊢
    split at h
    · rename_i e
      cases h
      exact ⟨0, x, rfl, rfl, rfl⟩
    · rename_i e
      obtain ⟨i, a, h1, h2, h3⟩ := zip_lookup ids xs ys (by simpa using hl) h
      exact ⟨i + 1, a, h1, h2, h3⟩
def DefT.d (d : DefT) : He.DefD := ⟨(d.x, none), d.x, d.x, L2.defArgs d.st, L2.defBody d.st, L2.defScope d.st, [], []⟩
def faOf : Str × (Nat × D) → He.Fa
  | (x, (_, .int i)) => .int x i
  | (x, (_, .str s)) => .str x (asStr s)
  | (x, _) => .glo x
def Tab.fa (t : Tab) : List He.Fa := t.defs.map (fun d => .glo d.x) ++ (bltN.map .free ++ t.gls.map faOf)
def Tab.fn (t : Tab) : List He.DefD := t.defs.map DefT.d
def Tab.gm (t : Tab) (d : DefT) : Gm := { N := d.N, sc := L2.defScope d.st, fn := true, blk := [], gl := t.gls.map fun p => (p.1, p.2.1), df := t.defs.map fun d => (d.x, d.id), cl := [], fld := t.fld, hp := d.hp }
def Tab.P (t : Tab) (fns : List Fn) (ns : List Int) : Prog where
  fn f := ((t.defs.map (·.id)).zip fns).lookup f
  meth _ _ := none
  prop _ _ := none
  glob g := (t.gls.map (·.2)).lookup g
  val _ := false
  anc _ := []
  exc _ := none
def fldN (l : List (Str × Nat)) (m : Nat) : Str := match l.find? (fun p => p.2 == m) with
  | some p => p.1
  | none => ""
def Tab.lk (t : Tab) (prog : Program) (w : World) (K : PySem.W.Frag) (mg : Str → Option Value) (fns : List Fn) (ns : List Int) : Lk where
  prog := prog
  w := w
  K := K
  mg := mg
  P := t.P fns ns
  fa f := match ((t.defs.map (·.id)).zip t.defs).lookup f with
    | some d => He.ga K d.x
    | none => 0
  ca _ := 0
  fld m := fldN t.fld m
  xf _ := ""
def glB (t : Tab) : Str × (Nat × D) → Bool
  | (_, (_, .int _)) => true
  | (_, (_, .str _)) => true
  | (x, (_, .vl its)) => t.ls.any fun l => decide (l.x = x) && decide (l.its = its)
  | _ => false
def Tab.ids (t : Tab) : Bool := (t.defs.all fun d => match ((t.defs.map (·.id)).zip t.defs).lookup d.id with | some e => decide (e.x = d.x) | none => false) && t.gls.all fun p => decide ((t.gls.map (·.2)).lookup p.2.1 = some p.2.2)
def Tab.ok (t : Tab) : Bool := (t.gls.all (glB t) && t.ids) && t.fld.all fun p => decide (fldN t.fld p.2 = p.1) && (match bmName p.2 with | some z => decide (z = p.1) | none => true)
section
variable {t : Tab} {prog : Program} {w : World} {K : PySem.W.Frag} {h : Heap} {mg : Str → Option Value} {fns : List Fn} {ns : List Int} {a : Addr}
theorem lookup_mem {α : Type} {x : Str} {v : α} : ∀ {l : List (Str × α)}, l.lookup x = some v → (x, v) ∈ l
  | [], h => by cases h
  | p :: r, h => by
    rw [List.lookup_cons] at h
    split at h
    · rename_i e
      cases h
      have e : x = p.1 := by simpa using e
      rw [e]; exact List.mem_cons_self
    · exact List.mem_cons_of_mem _ (lookup_mem h)
theorem map_lookup {α : Type} {x : Str} {v : Nat} {g : α → Str × Nat} : ∀ {l : List α}, (l.map g).lookup x = some v → ∃ a ∈ l, g a = (x, v)
  | [], h => by cases h
  | p :: r, h => by
    rw [List.map_cons, List.lookup_cons] at h
    split at h
    · rename_i e
      cases h
      have e : x = (g p).1 := by simpa using e
      exact ⟨p, List.mem_cons_self, by rw [e]⟩
    · obtain ⟨a, m, e⟩ := map_lookup h
      exact ⟨a, List.mem_cons_of_mem _ m, e⟩
theorem Tab.gok (ht : t.ok = true) (KX : K.In h) (G : h.Ns mainGlobals mg) (c : SaysX t.fa t.fn t.ls K) (d : DefT) : GOk (t.lk prog w K mg fns ns) (t.gm d) := by
  unfold Tab.ok at ht
  rw [Bool.and_eq_true, Bool.and_eq_true, List.all_eq_true, List.all_eq_true] at ht
  obtain ⟨⟨ht1, ht2⟩, ht3⟩ := ht
  unfold Tab.ids at ht2
  rw [Bool.and_eq_true, List.all_eq_true, List.all_eq_true] at ht2
  refine ⟨fun x g e => ?_, fun x f e => ?_, fun x hx => ?_, fun x m e => ?_⟩
  · obtain ⟨⟨x', i, dd⟩, mem, e0⟩ := map_lookup (show (t.gls.map fun p => (p.1, p.2.1)).lookup x = some g from e)
    cases e0
    have hb := ht1 _ mem
    have fact : (faOf (x', (i, dd))).ok K = true := c.d.facts (List.mem_append_right _ (List.mem_append_right _ (List.mem_map_of_mem mem)))
    have pg : (t.lk prog w K mg fns ns).P.glob i = some dd := of_decide_eq_true (ht2.2 _ mem)
    unfold glB at hb
    split at hb
    · rename_i e
      cases e
      obtain ⟨tk, e2⟩ := He.int_ok KX G fact
      exact ⟨_, _, .int _, pg, e2, ⟨tk, rfl⟩, fun _ _ => by rw [RD]⟩
    · rename_i e
      cases e
      obtain ⟨tk, e2⟩ := He.str_ok KX G fact
      exact ⟨_, _, .str _, pg, e2, ⟨tk, rfl⟩, fun _ _ => by rw [RD]⟩
    · rename_i e
      cases e
      rename_i x its
      rw [List.any_eq_true] at hb
      obtain ⟨l, ml, hb⟩ := hb
      rw [Bool.and_eq_true, decide_eq_true_eq, decide_eq_true_eq] at hb
      obtain ⟨ex, ei⟩ := hb
      subst ex ei
      have e2 := He.glo_ok KX G fact
      refine ⟨_, _, .ref _, pg, e2, rfl, fun μ H => ?_⟩
      rw [RD]
      obtain ⟨s1, s2⟩ := LsD.sq (c.l l ml) H
      exact ⟨_, _, rfl, .inl s1, RDs.of_flat s2⟩
    · cases hb
  · obtain ⟨dd, mem, e0⟩ := map_lookup (show (t.defs.map fun d => (d.x, d.id)).lookup x = some f from e)
    cases e0
    have hb := ht2.1 _ mem
    have e1 : (t.lk prog w K mg fns ns).fa dd.id = He.ga K dd.x := by
      show (match ((t.defs.map (·.id)).zip t.defs).lookup dd.id with | some d => He.ga K d.x | none => 0) = _
      split at hb
      · rename_i e2 e3
        rw [of_decide_eq_true hb]
      · cases hb
    rw [e1]
    obtain ⟨fd, F⟩ := c.d.defs (d := dd.d) (List.mem_map_of_mem mem)
    exact ⟨He.glo_ok KX G (c.d.facts (List.mem_append_left _ (List.mem_map_of_mem mem))), F.kp⟩
  · exact He.free_ok KX G (c.d.facts (List.mem_append_right _ (List.mem_append_left _ (List.mem_map_of_mem (List.contains_iff_mem.mp hx)))))
  · have hb := ht3 _ (lookup_mem e)
    rw [Bool.and_eq_true, decide_eq_true_eq] at hb
    refine ⟨hb.1.symm, fun z ez => ?_⟩
    have h2 := hb.2
    have ez : bmName m = some z := ez
    simp only [ez, decide_eq_true_eq] at h2
    exact h2
/-- a def of the table -/
structure DefOk (t : Tab) (fns : List Fn) (i : Nat) (d : DefT) (F : Fn) : Prop where
  sc : L2.FnScope d.N d.ps (L2.defScope d.st)
  np : d.ps.length = F.np
  ns : d.N.length = F.ns
  df : F.dfl = []
  bd : ∀ (kV doc pm cdv ct : Value) (an : Option Addr) (us : List Value), us.length = d.ps.length → bindArgs (PySem.W.fnOf d.x d.x (L2.defArgs d.st) (L2.defBody d.st) (L2.defScope d.st) .none kV doc pm an cdv ct) ⟨us, []⟩ = pure (d.ps.zip us)
  co : cBody (t.gm d) (L2.defBody d.st) = some F.body
theorem Tab.fnAt (ht : t.ok = true) (KX : K.In h) (G : h.Ns mainGlobals mg) (c : SaysX t.fa t.fn t.ls K) (hl : t.defs.length = fns.length) (hd : ∀ i d F, t.defs[i]? = some d → fns[i]? = some F → DefOk t fns i d F) :
    ∀ f F, (t.lk prog w K mg fns ns).P.fn f = some F → FnAt (t.lk prog w K mg fns ns) f F := fun f F e => by
  have e : ((t.defs.map (·.id)).zip fns).lookup f = some F := e
  obtain ⟨i, dd, ed, ef, e2⟩ := zip_lookup (t.defs.map (·.id)) t.defs fns (by rw [List.length_map]) e
  have o := hd i _ F ed ef
  obtain ⟨fd, FD⟩ := c.d.defs (d := dd.d) (List.mem_map_of_mem (List.mem_of_getElem? ed))
  obtain ⟨oc, od, dV, kV, doc, pm, an, cdv, ct, osl, rfl, lk, hcd, hD, _⟩ := FD.ex
  have hD : dV = .none := by
    rcases hD with ⟨_, q⟩ | ⟨e, _⟩
    · exact q
    · exact absurd rfl e
  subst hD
  have e1 : (t.lk prog w K mg fns ns).fa f = He.ga K dd.x := by
    show (match ((t.defs.map (·.id)).zip t.defs).lookup f with | some d => He.ga K d.x | none => 0) = _
    rw [e2]
  exact fnAt_by (Γ := t.gm dd) (t.gok ht KX G c _) rfl o.sc.nd (by rw [e1]; exact lk) hcd o.sc o.np o.ns o.df (fun us hu => o.bd _ _ _ _ _ _ us hu) o.co
end
end Ev
end
end
section
/-! E31: what an evaluation ends by: rules for plain proofs about the evaluator. -/
set_option linter.all false
set_option maxRecDepth 100000
set_option maxHeartbeats 1000000
namespace Ev
open PySem
variable {α β : Type}

/-- it ends by a value, and so -/
def R.sat (r : R α) (Q : α → Hp → Prop) : Prop := match r with
  | .ok a h => Q a h
  | _ => False
@[simp] theorem R.sat_ok {a : α} {h : Hp} {Q : α → Hp → Prop} : (R.ok a h).sat Q = Q a h := rfl
@[simp] theorem R.sat_bad {Q : α → Hp → Prop} : (R.bad : R α).sat Q = False := rfl
@[simp] theorem R.sat_exc {c : Nat} {v : List D} {h : Hp} {Q : α → Hp → Prop} : (R.exc c v h : R α).sat Q = False := rfl
theorem R.sat_bind {r : R α} {f : α → Hp → R β} {Q : β → Hp → Prop} : (r.bind f).sat Q = r.sat fun a h => (f a h).sat Q := by cases r <;> rfl
theorem R.sat.mono {r : R α} {Q Q' : α → Hp → Prop} (s : r.sat Q) (w : ∀ a h, Q a h → Q' a h) : r.sat Q' := by
  cases r with
  | ok a h => exact w a h s
  | exc => exact s
  | bad => exact s
theorem R.sat.ok {r : R α} {Q : α → Hp → Prop} (s : r.sat Q) : ∃ a h, r = .ok a h ∧ Q a h := by
  cases r with
  | ok a h => exact ⟨a, h, rfl, s⟩
  | exc => exact s.elim
  | bad => exact s.elim
theorem R.eq_of {r : R α} {a : α} {h : Hp} (s : r.sat fun x h' => x = a ∧ h' = h) : r = .ok a h := by
  obtain ⟨_, _, e, rfl, rfl⟩ := s.ok
  exact e
/-- a statement goes on, or returns -/
def RS.sat (r : RS) (N : Loc → Hp → Prop) (T : D → Hp → Prop) : Prop := match r with
  | .nxt l h => N l h
  | .ret d _ h => T d h
  | _ => False
@[simp] theorem RS.sat_nxt {l : Loc} {h : Hp} {N : Loc → Hp → Prop} {T : D → Hp → Prop} : (RS.nxt l h).sat N T = N l h := rfl
@[simp] theorem RS.sat_ret {d : D} {l : Loc} {h : Hp} {N : Loc → Hp → Prop} {T : D → Hp → Prop} : (RS.ret d l h).sat N T = T d h := rfl
@[simp] theorem RS.sat_bad {N : Loc → Hp → Prop} {T : D → Hp → Prop} : (RS.bad).sat N T = False := rfl
theorem RS.sat_bind {r : RS} {f : Loc → Hp → RS} {N : Loc → Hp → Prop} {T : D → Hp → Prop} : (r.bind f).sat N T = r.sat (fun l h => (f l h).sat N T) T := by cases r <;> rfl
theorem R.sat_toS {r : R α} {l : Loc} {f : α → Hp → RS} {N : Loc → Hp → Prop} {T : D → Hp → Prop} : (r.toS l f).sat N T = r.sat fun a h => (f a h).sat N T := by cases r <;> rfl
theorem RS.sat.mono {r : RS} {N N' : Loc → Hp → Prop} {T T' : D → Hp → Prop} (s : r.sat N T) (w : ∀ l h, N l h → N' l h) (v : ∀ d h, T d h → T' d h) : r.sat N' T' := by
  cases r with
  | nxt l h => exact w l h s
  | ret d l h => exact v d h s
  | brk => exact s.elim
  | cnt => exact s.elim
  | exc => exact s.elim
  | bad => exact s.elim
/-- a call by the def's body -/
theorem callN_sat {P : Prog} {n f : Nat} {F : Fn} {args vs : List D} {h : Hp} {Q : D → Hp → Prop} (ef : P.fn f = some F) (ep : padTo F args = some vs)
    (gc : F.gc = false) (s : (evSL P (callN P n) F.body (vs.map some ++ List.replicate (F.ns - F.np) none) h).sat (fun _ h' => Q .non h') Q) : (callN P (n + 1) f args h).sat Q := by
  rw [callN]
  simp only [ef, ep]
  unfold fin
  rw [gc]
  cases e : evSL P (callN P n) F.body (vs.map some ++ List.replicate (F.ns - F.np) none) h <;> rw [e] at s <;> first
    | exact s
    | exact s.elim
/-- a list comprehension -/
theorem lcLoop_sat {S : Src} {stp : D → Hp → R (Option D)} {h : Hp} {Q : List D → Hp → Prop} (xs : List D) (Iv : Nat → List D → Hp → Prop) (lock : S.lock = none) (hat : ∀ i acc h, Iv i acc h → S.at h i = some xs[i]?) (h0 : Iv 0 [] h)
    (step : ∀ i d acc h, xs[i]? = some d → Iv i acc h → (stp d h).sat fun o h' => match o with | some v => okLen (acc.length + 1) = true ∧ Iv (i + 1) (acc ++ [v]) h' | none => Iv (i + 1) acc h')
    (fin : ∀ acc h, Iv xs.length acc h → Q acc h) : (lcLoop S stp h).sat Q := by
  have run : ∀ (k i : Nat) (acc : List D) (h : Hp), k + i = xs.length → Iv i acc h → (iter (lcTurn S stp) .bad (i, h, acc)).sat Q := by
    intro k
    induction k with
    | zero =>
      intro i acc h e iv
      have a := hat i acc h iv
      rw [List.getElem?_eq_none (by omega)] at a
      rw [iter_stop (r := .ok acc h) (by simp only [lcTurn, a])]
      have : i = xs.length := by omega
      subst this
      exact fin acc h iv
    | succ k ih =>
      intro i acc h e iv
      have a := hat i acc h iv
      have ed : xs[i]? = some xs[i] := List.getElem?_eq_getElem (by omega)
      rw [ed] at a
      obtain ⟨o, h', es, q⟩ := (step i _ acc h ed iv).ok
      cases o with
      | some v =>
        rw [iter_go (s' := (i + 1, h', acc ++ [v])) (by simp only [lcTurn, a, es, q.1]; rfl)]
        exact ih (i + 1) _ _ (by omega) q.2
      | none =>
        rw [iter_go (s' := (i + 1, h', acc)) (by simp only [lcTurn, a, es])]
        exact ih (i + 1) _ _ (by omega) q
  have e1 : locked S h = h := by unfold locked; rw [lock]
  have e2 : ∀ h', unlocked S h h' = h' := fun h' => by unfold unlocked; rw [lock]
  unfold lcLoop
  rw [e1]
  obtain ⟨acc, h', e, q⟩ := (run xs.length 0 [] h (by omega) h0).ok
  rw [e]
  simp only [e2]
  exact q
theorem scLoop_sat {S : Src} {stp : D → Hp → R (Option D)} {h : Hp} {Q : List D → Hp → Prop} (xs : List D) (Iv : Nat → List D → Hp → Prop) (lock : S.lock = none) (hat : ∀ i acc h, Iv i acc h → S.at h i = some xs[i]?) (h0 : Iv 0 [] h)
    (step : ∀ i d acc h, xs[i]? = some d → Iv i acc h → (stp d h).sat fun o h' => match o with | some v => (isKey v && decide (acc.length < 4000)) = true ∧ Iv (i + 1) (acc ++ [v]) h' | none => Iv (i + 1) acc h')
    (fin : ∀ acc h, Iv xs.length acc h → Q acc h) : (scLoop S stp h).sat Q := by
  have run : ∀ (k i : Nat) (acc : List D) (h : Hp), k + i = xs.length → Iv i acc h → (iter (scTurn S stp) .bad (i, h, acc)).sat Q := by
    intro k
    induction k with
    | zero =>
      intro i acc h e iv
      have a := hat i acc h iv
      rw [List.getElem?_eq_none (by omega)] at a
      rw [iter_stop (r := .ok acc h) (by simp only [scTurn, a])]
      have : i = xs.length := by omega
      subst this
      exact fin acc h iv
    | succ k ih =>
      intro i acc h e iv
      have a := hat i acc h iv
      have ed : xs[i]? = some xs[i] := List.getElem?_eq_getElem (by omega)
      rw [ed] at a
      obtain ⟨o, h', es, q⟩ := (step i _ acc h ed iv).ok
      cases o with
      | some v =>
        rw [iter_go (s' := (i + 1, h', acc ++ [v])) (by simp only [scTurn, a, es, q.1]; rfl)]
        exact ih (i + 1) _ _ (by omega) q.2
      | none =>
        rw [iter_go (s' := (i + 1, h', acc)) (by simp only [scTurn, a, es])]
        exact ih (i + 1) _ _ (by omega) q
  unfold scLoop
  rw [lock]
  obtain ⟨acc, h', e, q⟩ := (run xs.length 0 [] h (by omega) h0).ok
  simp only [e]
  exact q
/-- a loop without break and continue -/
theorem forLoop_sat {S : Src} {asg : D → Loc → Hp → R Loc} {body : Loc → Hp → RS} {l : Loc} {h : Hp} {N : Loc → Hp → Prop} {T : D → Hp → Prop} (xs : List D) (Iv : Nat → Loc → Hp → Prop) (lock : S.lock = none) (hat : ∀ i l h, Iv i l h → S.at h i = some xs[i]?) (h0 : Iv 0 l h)
    (step : ∀ i d l h, xs[i]? = some d → Iv i l h → (asg d l h).sat fun l' h' => (body l' h').sat (fun l2 h2 => Iv (i + 1) l2 h2) T)
    (fin : ∀ l h, Iv xs.length l h → N l h) : (forLoop S asg body l h).sat N T := by
  have run : ∀ (k i : Nat) (l : Loc) (h : Hp), k + i = xs.length → Iv i l h → (iter (forTurn S asg body) .bad (i, l, h)).sat N T := by
    intro k
    induction k with
    | zero =>
      intro i l h e iv
      have a := hat i l h iv
      rw [List.getElem?_eq_none (by omega)] at a
      rw [iter_stop (r := .nxt l h) (by simp only [forTurn, a])]
      have : i = xs.length := by omega
      subst this
      exact fin l h iv
    | succ k ih =>
      intro i l h e iv
      have a := hat i l h iv
      have ed : xs[i]? = some xs[i] := List.getElem?_eq_getElem (by omega)
      rw [ed] at a
      obtain ⟨l', h', es, q⟩ := (step i _ l h ed iv).ok
      cases eb : body l' h' with
      | nxt l2 h2 =>
        rw [eb] at q
        rw [iter_go (s' := (i + 1, l2, h2)) (by simp only [forTurn, a, es, eb])]
        exact ih (i + 1) _ _ (by omega) q
      | ret d l2 h2 =>
        rw [eb] at q
        rw [iter_stop (r := .ret d l2 h2) (by simp only [forTurn, a, es, eb])]
        exact q
      | brk => rw [eb] at q; exact q.elim
      | cnt => rw [eb] at q; exact q.elim
      | exc => rw [eb] at q; exact q.elim
      | bad => rw [eb] at q; exact q.elim
  unfold forLoop
  rw [lock]
  exact run xs.length 0 l h (by omega) h0
theorem take_fm {xs : List D} {g : D → Option D} {i : Nat} {d : D} (e : xs[i]? = some d) : (xs.take (i + 1)).filterMap g = (xs.take i).filterMap g ++ (g d).toList := by
  rw [List.take_add_one, e, List.filterMap_append]
  cases q : g d <;> simp [q]
theorem fm_len {xs : List D} {g : D → Option D} {i : Nat} (h : i < xs.length) (ok : okLen xs.length = true) : okLen (((xs.take i).filterMap g).length + 1) = true := by
  have a := List.length_filterMap_le g (xs.take i)
  rw [List.length_take] at a
  have ok := of_decide_eq_true ok
  exact decide_eq_true (by omega)
/-- a list comprehension whose turns only add objects -/
theorem lc_fm {S : Src} {stp : D → Hp → R (Option D)} {h : Hp} {Q : List D → Hp → Prop} (xs : List D) (g : D → Option D) (lock : S.lock = none) (hat : ∀ h', h <+: h' → ∀ i, S.at h' i = some xs[i]?) (ok : okLen xs.length = true)
    (step : ∀ d ∈ xs, ∀ h', h <+: h' → (stp d h').sat fun o h'' => o = g d ∧ h' <+: h'') (fin : ∀ h', h <+: h' → Q (xs.filterMap g) h') : (lcLoop S stp h).sat Q := by
  refine lcLoop_sat xs (fun i acc h' => acc = (xs.take i).filterMap g ∧ h <+: h') lock (fun i acc h' q => hat h' q.2 i) ⟨rfl, List.prefix_refl _⟩ (fun i d acc h' e ⟨ea, x⟩ => ?_) fun acc h' ⟨ea, x⟩ => ?_
  · refine (step d (List.mem_of_getElem? e) h' x).mono fun o h2 ⟨eo, x2⟩ => ?_
    have t := take_fm (g := g) e
    rw [← eo] at t
    cases o with
    | some v => exact ⟨by rw [ea]; exact fm_len (List.getElem?_eq_some_iff.mp e).1 ok, by rw [t, ea]; rfl, x.trans x2⟩
    | none => exact ⟨by rw [t, ea]; simp, x.trans x2⟩
  · rw [ea, List.take_length]
    exact fin h' x
theorem sc_fm {S : Src} {stp : D → Hp → R (Option D)} {h : Hp} {Q : List D → Hp → Prop} (xs : List D) (g : D → Option D) (lock : S.lock = none) (hat : ∀ h', h <+: h' → ∀ i, S.at h' i = some xs[i]?) (ok : xs.length ≤ 4000) (key : ∀ d ∈ xs, ∀ v, g d = some v → isKey v = true)
    (step : ∀ d ∈ xs, ∀ h', h <+: h' → (stp d h').sat fun o h'' => o = g d ∧ h' <+: h'') (fin : ∀ h', h <+: h' → Q (xs.filterMap g) h') : (scLoop S stp h).sat Q := by
  refine scLoop_sat xs (fun i acc h' => acc = (xs.take i).filterMap g ∧ h <+: h') lock (fun i acc h' q => hat h' q.2 i) ⟨rfl, List.prefix_refl _⟩ (fun i d acc h' e ⟨ea, x⟩ => ?_) fun acc h' ⟨ea, x⟩ => ?_
  · refine (step d (List.mem_of_getElem? e) h' x).mono fun o h2 ⟨eo, x2⟩ => ?_
    have t := take_fm (g := g) e
    rw [← eo] at t
    cases o with
    | some v =>
      refine ⟨?_, by rw [t, ea]; rfl, x.trans x2⟩
      have lt := (List.getElem?_eq_some_iff.mp e).1
      have a := List.length_filterMap_le g (xs.take i)
      rw [List.length_take] at a
      rw [Bool.and_eq_true, decide_eq_true_eq]
      exact ⟨key d (List.mem_of_getElem? e) v eo.symm, by rw [ea]; omega⟩
    | none => exact ⟨by rw [t, ea]; simp, x.trans x2⟩
  · rw [ea, List.take_length]
    exact fin h' x
theorem allB_true {xs : List Bool} : allB true (xs.map D.bl) = some (xs.all id) := by
  induction xs with
  | nil => rfl
  | cons x r ih => rw [List.map_cons, allB, ih]; simp
@[simp] theorem truth_bl {h : Hp} {b : Bool} : truth h (.bl b) = some b := rfl
@[simp] theorem truth_non {h : Hp} : truth h .non = some false := rfl
theorem allB_map {f : α → Bool} {xs : List α} : allB true (xs.map (D.bl ∘ f)) = some (xs.all f) := by
  induction xs with
  | nil => rfl
  | cons x r ih => rw [List.map_cons, Function.comp_apply, allB, ih]; simp
section
variable {P : Prog} {C : Call} {h : Hp} {i j : Int}
theorem op_add : evOp P C .add (.int i) (.int j) h = .ok (.int (i + j)) h := rfl
theorem op_sub : evOp P C .sub (.int i) (.int j) h = .ok (.int (i - j)) h := rfl
theorem op_mul (q : okMul i j = true) : evOp P C .mul (.int i) (.int j) h = .ok (.int (i * j)) h := by show (if okMul i j then _ else _) = _; rw [if_pos q]
theorem op_fdiv (q : okDiv j = true) : evOp P C .fdiv (.int i) (.int j) h = .ok (.int (i / j)) h := by show (if okDiv j then _ else _) = _; rw [if_pos q]
theorem op_mod (q : 0 < j) : evOp P C .mod (.int i) (.int j) h = .ok (.int (i % j)) h := by show (if 0 < j then _ else _) = _; rw [if_pos q]
theorem op_pow (q : okPow i j = true) : evOp P C .pow (.int i) (.int j) h = .ok (.int (i ^ j.toNat)) h := by show (if okPow i j then _ else _) = _; rw [if_pos q]
theorem okMul_l (q : i.natAbs < 2 ^ 64) : okMul i j = true := by unfold okMul; rw [decide_eq_true q]; rfl
theorem okMul_r (q : j.natAbs < 2 ^ 64) : okMul i j = true := by unfold okMul; rw [decide_eq_true q]; simp
end
end Ev
end
section
/-! E32: the evaluator's equations as rules for simp. -/
set_option linter.all false
set_option maxRecDepth 100000
set_option autoImplicit true
namespace Ev
open PySem
section
variable {P : Prog} {C : Call}

@[simp] theorem evE_s1 : evE P C (.loc i) l h = (match l[i]? with
    | some (some d) => .ok d h
    | _ => .bad) := by first | (rw [evE]; done) | (rw [evE]; rfl)
@[simp] theorem evE_s2 : evE P C (.con d) w1 h = (.ok d h) := by first | (rw [evE]; done) | (rw [evE]; rfl)
@[simp] theorem evE_s3 : evE P C (.glo g) w1 h = (match P.glob g with
    | some d => .ok d h
    | none => .bad) := by first | (rw [evE]; done) | (rw [evE]; rfl)
@[simp] theorem evE_s4 : evE P C (.and a b) l h = ((evE P C a l h).bind fun x h1 => match truth h1 x with
    | some true => evE P C b l h1
    | some false => .ok x h1
    | none => .bad) := by first | (rw [evE]; done) | (rw [evE]; rfl)
@[simp] theorem evE_s5 : evE P C (.or a b) l h = ((evE P C a l h).bind fun x h1 => match truth h1 x with
    | some true => .ok x h1
    | some false => evE P C b l h1
    | none => .bad) := by first | (rw [evE]; done) | (rw [evE]; rfl)
@[simp] theorem evE_s6 : evE P C (.not a) l h = ((evE P C a l h).bind fun x h1 => match truth h1 x with
    | some k => .ok (.bl !k) h1
    | none => .bad) := by first | (rw [evE]; done) | (rw [evE]; rfl)
@[simp] theorem evE_s7 : evE P C (.neg a) l h = ((evE P C a l h).bind fun x h1 => match x with
    | .int i => .ok (.int (-i)) h1
    | _ => .bad) := by first | (rw [evE]; done) | (rw [evE]; rfl)
@[simp] theorem evE_s8 : evE P C (.bin o a b) l h = ((evE P C a l h).bind fun x h1 => (evE P C b l h1).bind fun y h2 => evOp P C o x y h2) := by first | (rw [evE]; done) | (rw [evE]; rfl)
@[simp] theorem evE_s9 : evE P C (.cmp o a b) l h = ((evE P C a l h).bind fun x h1 => (evE P C b l h1).bind fun y h2 => evCmp P C o x y h2) := by first | (rw [evE]; done) | (rw [evE]; rfl)
@[simp] theorem evE_s10 : evE P C (.cmp2 o o2 a b c) l h = ((evE P C a l h).bind fun x h1 => (evE P C b l h1).bind fun y h2 => (evCmp P C o x y h2).bind fun r h3 => match r with
    | .bl true => (evE P C c l h3).bind fun z h4 => evCmp P C o2 y z h4
    | .bl false => .ok (.bl false) h3
    | _ => .bad) := by first | (rw [evE]; done) | (rw [evE]; rfl)
@[simp] theorem evE_s11 : evE P C (.ite c a b) l h = ((evE P C c l h).bind fun x h1 => match truth h1 x with
    | some true => evE P C a l h1
    | some false => evE P C b l h1
    | none => .bad) := by first | (rw [evE]; done) | (rw [evE]; rfl)
@[simp] theorem evE_s12 : evE P C (.tup es) l h = ((evEL P C es l h).bind fun xs h1 => if okLen xs.length then .ok (.tup xs) h1 else .bad) := by first | (rw [evE]; done) | (rw [evE]; rfl)
@[simp] theorem evE_s13 : evE P C (.lst k es) l h = ((evEL P C es l h).bind fun xs h1 => if okLen xs.length then lsR k h1 xs else .bad) := by first | (rw [evE]; done) | (rw [evE]; rfl)
@[simp] theorem evE_s14 : evE P C (.dic k kvs) l h = ((evKL P C kvs l h).bind fun ps h1 => if ps.all (fun p => keyOk 8 p.1) && decide (ps.length ≤ 15) then dcR k h1 (ps.foldl (fun acc p => dput acc p.1 p.2) []) else .bad) := by first | (rw [evE]; done) | (rw [evE]; rfl)
@[simp] theorem evE_s15 : evE P C (.idx a i) l h = ((evE P C a l h).bind fun x h1 => (evE P C i l h1).bind fun y h2 => evGet P C x y h2) := by first | (rw [evE]; done) | (rw [evE]; rfl)
@[simp] theorem evE_s16 : evE P C (.sli a lo hi) l h = ((evE P C a l h).bind fun x h1 => (evO P C lo l h1).bind fun y h2 => (evO P C hi l h2).bind fun z h3 => evSli h3 x y z) := by first | (rw [evE]; done) | (rw [evE]; rfl)
@[simp] theorem evE_s17 : evE P C (.rev a) l h = ((evE P C a l h).bind fun x h1 => match lstOf h1 x with
    | some xs => .ok (.vl xs.reverse) h1
    | none => .bad) := by first | (rw [evE]; done) | (rw [evE]; rfl)
@[simp] theorem evE_s18 : evE P C (.att a f) l h = ((evE P C a l h).bind fun x h1 => evAtt P C x f h1) := by first | (rw [evE]; done) | (rw [evE]; rfl)
@[simp] theorem evE_s19 : evE P C (.call f es) l h = ((evEL P C es l h).bind fun xs h1 => plain (C f xs h1)) := by first | (rw [evE]; done) | (rw [evE]; rfl)
@[simp] theorem evE_s20 : evE P C (.mk c es) l h = ((evEL P C es l h).bind fun xs h1 => evMk P C c xs h1) := by first | (rw [evE]; done) | (rw [evE]; rfl)
@[simp] theorem evE_s21 : evE P C (.met a m es) l h = ((evE P C a l h).bind fun x h1 => match callee P x m h1 with
    | .no => .bad
    | k => (evEL P C es l h1).bind fun xs h2 => evCallM C k x m xs h2) := by first | (rw [evE]; done) | (rw [evE]; rfl)
@[simp] theorem evE_s22 : evE P C (.bf b es) l h = ((evEL P C es l h).bind fun xs h1 => evBF P h1 b xs) := by first | (rw [evE]; done) | (rw [evE]; rfl)
@[simp] theorem evE_s23 : evE P C (.bt b es) l h = ((evEL P C es l h).bind fun xs h1 => evBT P h1 b xs) := by first | (rw [evE]; done) | (rw [evE]; rfl)
@[simp] theorem evE_s24 : evE P C (.app a es) l h = ((evE P C a l h).bind fun x h1 => (evEL P C es l h1).bind fun xs h2 => evApp P C x xs h2) := by first | (rw [evE]; done) | (rw [evE]; rfl)
@[simp] theorem evE_s25 : evE P C (.lc k own e t i c) l h = ((evI P C i l h).bind fun s h1 => (lcLoop s (fun d h => (evT P C t d (wipe l own) h).bind fun l2 h2 => (evC P C c l2 h2).bind fun k h3 =>
      if k then (evE P C e l2 h3).bind fun v h4 => .ok (some v) h4 else .ok none h3) h1).bind fun vs h2 => lsR k h2 vs) := by first | (rw [evE]; done) | (rw [evE]; rfl)
@[simp] theorem evE_s26 : evE P C (.sc own e t i c) l h = ((evI P C i l h).bind fun s h1 => (scLoop s (fun d h => (evT P C t d (wipe l own) h).bind fun l2 h2 => (evC P C c l2 h2).bind fun k h3 =>
      if k then (evE P C e l2 h3).bind fun v h4 => .ok (some v) h4 else .ok none h3) h1).bind fun vs h2 => .ok (.int (firsts vs).length) h2) := by first | (rw [evE]; done) | (rw [evE]; rfl)
@[simp] theorem evE_s27 : evE P C (.uln a) l h = ((evE P C a l h).bind fun x h1 => match lstOf h1 x with
    | some xs => if xs.all isKey && decide (xs.length < 4000) then .ok (.int (firsts xs).length) h1 else .bad
    | none => .bad) := by first | (rw [evE]; done) | (rw [evE]; rfl)
@[simp] theorem evE_s28 : evE P C (.dc own e v t i c) l h = ((evI P C i l h).bind fun s h1 => (lcLoop s (fun d h => (evT P C t d (wipe l own) h).bind fun l2 h2 => (evC P C c l2 h2).bind fun k h3 =>
      if k then (evE P C e l2 h3).bind fun x h4 => (evE P C v l2 h4).bind fun y h5 => .ok (some (.tup [x, y])) h5 else .ok none h3) h1).bind fun vs h2 => .bad) := by first | (rw [evE]; done) | (rw [evE]; rfl)
@[simp] theorem evE_s29 : evE P C (.fst es) l h = ((evEL P C es l h).bind fun xs h1 => match pieces xs with
    | some s => if okLen s.length then .ok (.str s) h1 else .bad
    | none => .bad) := by first | (rw [evE]; done) | (rw [evE]; rfl)
@[simp] theorem evE_s30 : evE P C (.lam f caps) l h = (match mapO (fun i => (l[i]?).join) caps with
    | some vs => .ok (.clo f vs) h
    | none => .bad) := by first | (rw [evE]; done) | (rw [evE]; rfl)
@[simp] theorem evEL_s1 : evEL P C (.nil) w1 h = (.ok [] h) := by first | (rw [evEL]; done) | (rw [evEL]; rfl)
@[simp] theorem evEL_s2 : evEL P C (.cons false e r) l h = ((evE P C e l h).bind fun x h1 => (evEL P C r l h1).bind fun xs h2 => .ok (x :: xs) h2) := by first | (rw [evEL]; done) | (rw [evEL]; rfl)
@[simp] theorem evEL_s3 : evEL P C (.cons true e r) l h = ((evE P C e l h).bind fun x h1 => match seqOf h1 x with
    | some ys => (evEL P C r l h1).bind fun xs h2 => .ok (ys ++ xs) h2
    | none => .bad) := by first | (rw [evEL]; done) | (rw [evEL]; rfl)
@[simp] theorem evKL_s1 : evKL P C (.nil) w1 h = (.ok [] h) := by first | (rw [evKL]; done) | (rw [evKL]; rfl)
@[simp] theorem evKL_s2 : evKL P C (.cons k v r) l h = ((evE P C k l h).bind fun x h1 => (evE P C v l h1).bind fun y h2 => (evKL P C r l h2).bind fun ps h3 => .ok ((x, y) :: ps) h3) := by first | (rw [evKL]; done) | (rw [evKL]; rfl)
@[simp] theorem evO_s1 : evO P C (.no) w1 h = (.ok none h) := by first | (rw [evO]; done) | (rw [evO]; rfl)
@[simp] theorem evO_s2 : evO P C (.yes e) l h = ((evE P C e l h).bind fun x h1 => match x with
    | .int i => .ok (some i) h1
    | _ => .bad) := by first | (rw [evO]; done) | (rw [evO]; rfl)
@[simp] theorem evC_s1 : evC P C (.nil) w1 h = (.ok true h) := by first | (rw [evC]; done) | (rw [evC]; rfl)
@[simp] theorem evC_s2 : evC P C (.cons w1 e r) l h = ((evE P C e l h).bind fun x h1 => match truth h1 x with
    | some true => evC P C r l h1
    | some false => .ok false h1
    | none => .bad) := by first | (rw [evC]; done) | (rw [evC]; rfl)
@[simp] theorem evT_s1 : evT P C (.loc i) d l h = (if i < l.length then .ok (l.set i (some d)) h else .bad) := by first | (rw [evT]; done) | (rw [evT]; rfl) | (rw [evT.eq_def]; rfl) | (cases d <;> (rw [evT] <;> first | rfl | (intros; contradiction)))
@[simp] theorem evT_s2 : evT P C (.tup ts) d l h = (match d with
    | .tup xs => evTL P C ts xs l h
    | _ => .bad) := by first | (rw [evT]; done) | (rw [evT]; rfl) | (rw [evT.eq_def]; rfl) | (cases d <;> (rw [evT] <;> first | rfl | (intros; contradiction)))
@[simp] theorem evT_s3 : evT P C (.att e f) d l h = ((evE P C e l h).bind fun x h1 => match x with
    | .ref a => match h1[a]? with
      | some ⟨.ins c fs, _⟩ => if (fput fs f d).length ≤ 1000 then (match put h1 a (.ins c (fput fs f d)) with | some h2 => .ok l h2 | none => .bad) else .bad
      | _ => .bad
    | _ => .bad) := by first | (rw [evT]; done) | (rw [evT]; rfl) | (rw [evT.eq_def]; rfl) | (cases d <;> (rw [evT] <;> first | rfl | (intros; contradiction)))
@[simp] theorem evT_s4 : evT P C (.sub e i) d l h = ((evE P C e l h).bind fun x h1 => (evE P C i l h1).bind fun y h2 => match evSet h2 x y d with
    | some h3 => .ok l h3
    | none => .bad) := by first | (rw [evT]; done) | (rw [evT]; rfl) | (rw [evT.eq_def]; rfl) | (cases d <;> (rw [evT] <;> first | rfl | (intros; contradiction)))
@[simp] theorem evTL_s1 : evTL P C (.nil) ([]) l h = (.ok l h) := by first | (rw [evTL]; done) | (rw [evTL]; rfl)
@[simp] theorem evTL_s2 : evTL P C (.cons t r) (x :: xs) l h = (match evT P C t x l h with
    | .ok l1 h1 => evTL P C r xs l1 h1
    | _ => .bad) := by first | (rw [evTL]; done) | (rw [evTL]; rfl)
@[simp] theorem evI_s1 : evI P C (.it e) l h = ((evE P C e l h).bind fun x h1 => match srcOf h1 x with
    | some s => .ok s h1
    | none => .bad) := by first | (rw [evI]; done) | (rw [evI]; rfl)
@[simp] theorem evI_s2 : evI P C (.rng es) l h = ((evEL P C es l h).bind fun xs h1 => match rngSrc xs with
    | some s => .ok s h1
    | none => .bad) := by first | (rw [evI]; done) | (rw [evI]; rfl)
@[simp] theorem evI_s3 : evI P C (.zip a b) l h = ((evE P C a l h).bind fun x h1 => (evE P C b l h1).bind fun y h2 => match zipS h2 x, zipS h2 y with
    | some s, some t => .ok (.zip s t) h2
    | _, _ => .bad) := by first | (rw [evI]; done) | (rw [evI]; rfl)
@[simp] theorem evI_s4 : evI P C (.enum a) l h = ((evE P C a l h).bind fun x h1 => match srcOf h1 x with
    | some s => if s.lock.isNone then .ok (.enum s) h1 else .bad
    | none => .bad) := by first | (rw [evI]; done) | (rw [evI]; rfl)
@[simp] theorem evI_s5 : evI P C (.items a) l h = ((evE P C a l h).bind fun x h1 => match x with
    | .ref r => match h1[r]? with
      | some ⟨.dic _, _⟩ => .ok (.items r) h1
      | _ => .bad
    | _ => .bad) := by first | (rw [evI]; done) | (rw [evI]; rfl)
@[simp] theorem evI_s6 : evI P C (.vals a) l h = ((evE P C a l h).bind fun x h1 => match x with
    | .ref r => match h1[r]? with
      | some ⟨.dic _, _⟩ => .ok (.vals r) h1
      | _ => .bad
    | _ => .bad) := by first | (rw [evI]; done) | (rw [evI]; rfl)
@[simp] theorem evS_s1 : evS P C (.ex e) l h = ((evE P C e l h).toS l fun _ h1 => .nxt l h1) := by first | (rw [evS]; done) | (rw [evS]; rfl)
@[simp] theorem evS_s2 : evS P C (.asg t e) l h = ((evE P C e l h).toS l fun d h1 => (evT P C t d l h1).toS l fun l2 h2 => .nxt l2 h2) := by first | (rw [evS]; done) | (rw [evS]; rfl)
@[simp] theorem evS_s3 : evS P C (.par is es) l h = ((evEL P C es l h).toS l fun ds h1 => match evParSet is ds l with
    | some l2 => .nxt l2 h1
    | none => .bad) := by first | (rw [evS]; done) | (rw [evS]; rfl)
@[simp] theorem evS_s4 : evS P C (.aug i o e) l h = (match l[i]? with
    | some (some x) => (evE P C e l h).toS l fun y h1 => (evIop o x y h1).toS l fun z h2 => .nxt (l.set i (some z)) h2
    | _ => .bad) := by first | (rw [evS]; done) | (rw [evS]; rfl)
@[simp] theorem evS_s5 : evS P C (.augA a f o e) l h = ((evE P C a l h).toS l fun x h1 => (evAtt P C x f h1).toS l fun v h2 => (evE P C e l h2).toS l fun y h3 => (evIop o v y h3).toS l fun z h4 => match x with
    | .ref a => match h4[a]? with
      | some ⟨.ins c fs, _⟩ => match put h4 a (.ins c (fput fs f z)) with
        | some h5 => .nxt l h5
        | none => .bad
      | _ => .bad
    | _ => .bad) := by first | (rw [evS]; done) | (rw [evS]; rfl)
@[simp] theorem evS_s6 : evS P C (.augS a i o e) l h = ((evE P C a l h).toS l fun x h1 => (evE P C i l h1).toS l fun k h2 => (evGet P C x k h2).toS l fun v h3 => (evE P C e l h3).toS l fun y h4 => (evIop o v y h4).toS l fun z h5 => match evSet h5 x k z with
    | some h6 => .nxt l h6
    | none => .bad) := by first | (rw [evS]; done) | (rw [evS]; rfl)
@[simp] theorem evS_s7 : evS P C (.ret e) l h = ((evE P C e l h).toS l fun d h1 => .ret d l h1) := by first | (rw [evS]; done) | (rw [evS]; rfl)
@[simp] theorem evS_s8 : evS P C (.if_ c a b) l h = ((evE P C c l h).toS l fun x h1 => match truth h1 x with
    | some true => evSL P C a l h1
    | some false => evSL P C b l h1
    | none => .bad) := by first | (rw [evS]; done) | (rw [evS]; rfl)
@[simp] theorem evS_s9 : evS P C (.whl c b) l h = (iter (whTurn (fun l h => (evE P C c l h).bind fun x h1 => match truth h1 x with | some k => .ok k h1 | none => .bad) (fun l h => evSL P C b l h)) .bad (l, h)) := by first | (rw [evS]; done) | (rw [evS]; rfl)
@[simp] theorem evS_s10 : evS P C (.for_ t i b) l h = ((evI P C i l h).toS l fun s h1 => forLoop s (fun d l h => evT P C t d l h) (fun l h => evSL P C b l h) l h1) := by first | (rw [evS]; done) | (rw [evS]; rfl)
@[simp] theorem evS_s11 : evS P C (.brk) l h = (.brk l h) := by first | (rw [evS]; done) | (rw [evS]; rfl)
@[simp] theorem evS_s12 : evS P C (.cnt) l h = (.cnt l h) := by first | (rw [evS]; done) | (rw [evS]; rfl)
@[simp] theorem evS_s13 : evS P C (.pas) l h = (.nxt l h) := by first | (rw [evS]; done) | (rw [evS]; rfl)
@[simp] theorem evS_s14 : evS P C (.rai c es) l h = ((evEL P C es l h).toS l fun vs h1 => if P.exc c = some vs.length then .exc c vs l h1 else .bad) := by first | (rw [evS]; done) | (rw [evS]; rfl)
@[simp] theorem evS_s15 : evS P C (.tr b hs) l h = (match evSL P C b l h with
    | .exc c v l1 h1 => evHL P C hs c v l1 h1
    | r => r) := by first | (rw [evS]; done) | (rw [evS]; rfl)
@[simp] theorem evS_s16 : evS P C (.mat e cs) l h = ((evE P C e l h).toS l fun x h1 => evCL P C cs x l h1) := by first | (rw [evS]; done) | (rw [evS]; rfl)
@[simp] theorem evSL_s1 : evSL P C (.nil) l h = (.nxt l h) := by first | (rw [evSL]; done) | (rw [evSL]; rfl)
@[simp] theorem evSL_s2 : evSL P C (.cons s r) l h = ((evS P C s l h).bind fun l1 h1 => evSL P C r l1 h1) := by first | (rw [evSL]; done) | (rw [evSL]; rfl)
@[simp] theorem evHL_s1 : evHL P C (.nil) c v l h = (.exc c v l h) := by first | (rw [evHL]; done) | (rw [evHL]; rfl) | (rw [evHL.eq_def]; done) | (rw [evHL.eq_def]; rfl)
@[simp] theorem evHL_s2 : evHL P C (.cons cs i b r) c v l h = (if cs.any fun d => isSub P c d then (match i with
      | none => evSL P C b l h
      | some i => if i < l.length then (match evSL P C b (l.set i (some (.exv c v))) h with
        | .nxt l2 h2 => .nxt (l2.set i none) h2
        | .ret d l2 h2 => .ret d (l2.set i none) h2
        | _ => .bad) else .bad)
    else evHL P C r c v l h) := by first | (rw [evHL]; done) | (rw [evHL]; rfl) | (rw [evHL.eq_def]; done) | (rw [evHL.eq_def]; rfl)
@[simp] theorem evCL_s1 : evCL P C (.nil) w1 l h = (.nxt l h) := by first | (rw [evCL]; done) | (rw [evCL]; rfl)
@[simp] theorem evCL_s2 : evCL P C (.cons ds b r) x l h = (match anyEqT h x ds with
    | some true => evSL P C b l h
    | some false => evCL P C r x l h
    | none => .bad) := by first | (rw [evCL]; done) | (rw [evCL]; rfl)
@[simp] theorem evCL_s3 : evCL P C (.dflt b) w1 l h = (evSL P C b l h) := by first | (rw [evCL]; done) | (rw [evCL]; rfl)
end
section
variable {α β : Type}
@[simp] theorem sat_bind' {r : R α} {f : α → Hp → R β} {Q : β → Hp → Prop} : (r.bind f).sat Q = r.sat fun a h => (f a h).sat Q := R.sat_bind
@[simp] theorem sat_sbind' {r : RS} {f : Loc → Hp → RS} {N : Loc → Hp → Prop} {T : D → Hp → Prop} : (r.bind f).sat N T = r.sat (fun l h => (f l h).sat N T) T := RS.sat_bind
@[simp] theorem sat_toS' {r : R α} {l : Loc} {f : α → Hp → RS} {N : Loc → Hp → Prop} {T : D → Hp → Prop} : (r.toS l f).sat N T = r.sat fun a h => (f a h).sat N T := R.sat_toS
end
end Ev
end
section
/-! E33: built-ins as rules for simp. -/
set_option linter.all false
set_option maxRecDepth 100000
namespace Ev
open PySem
variable {P : Prog} {C : Call} {h : Hp} {x y : D}
@[simp] theorem cmp_eq : evCmp P C .eq x y h = (evEq P C h x y).bind fun k h' => .ok (.bl k) h' := rfl
@[simp] theorem cmp_ne : evCmp P C .ne x y h = (evEq P C h x y).bind fun k h' => .ok (.bl !k) h' := rfl
/-- an answer, if there is one -/
def ofO (o : Option Bool) (h : Hp) : R D := match o with
  | some k => .ok (.bl k) h
  | none => .bad
@[simp] theorem ofO_some {k : Bool} : ofO (some k) h = .ok (.bl k) h := rfl
@[simp] theorem cmp_lt : evCmp P C .lt x y h = ofO (evOrd .lt x y) h := by unfold evCmp ofO; rfl
@[simp] theorem cmp_le : evCmp P C .le x y h = ofO (evOrd .le x y) h := by unfold evCmp ofO; rfl
@[simp] theorem cmp_gt : evCmp P C .gt x y h = ofO (evOrd .gt x y) h := by unfold evCmp ofO; rfl
@[simp] theorem cmp_ge : evCmp P C .ge x y h = ofO (evOrd .ge x y) h := by unfold evCmp ofO; rfl
@[simp] theorem cmp_is : evCmp P C .is x y h = ofO (evIs x y) h := by unfold evCmp ofO; rfl
@[simp] theorem cmp_isn : evCmp P C .isn x y h = ofO ((evIs x y).map (!·)) h := by unfold evCmp ofO; simp only []; cases evIs x y <;> rfl
@[simp] theorem ord_lt_i {i j : Int} : evOrd .lt (.int i) (.int j) = some (decide (i < j)) := rfl
@[simp] theorem ord_le_i {i j : Int} : evOrd .le (.int i) (.int j) = some (decide (i ≤ j)) := rfl
@[simp] theorem ord_gt_i {i j : Int} : evOrd .gt (.int i) (.int j) = some (decide (j < i)) := rfl
@[simp] theorem ord_ge_i {i j : Int} : evOrd .ge (.int i) (.int j) = some (decide (j ≤ i)) := rfl
theorem in_eq : evCmp P C .in_ x y h = match evIn h x y with
    | some k => .ok (.bl k) h
    | none => match insOf h y with
      | some c => match P.meth c mContains with
        | some f => (C f [y, x] h).bind fun r h' => match r with
          | .bl k => .ok (.bl k) h'
          | _ => .bad
        | none => .bad
      | none => .bad := by unfold evCmp; rfl
/-- x in built-in things -/
theorem in_some {k : Bool} (e : evIn h x y = some k) : evCmp P C .in_ x y h = .ok (.bl k) h := by rw [in_eq, e]
theorem nin_some {k : Bool} (e : evIn h x y = some k) : evCmp P C .nin x y h = .ok (.bl !k) h := by unfold evCmp; simp only [e]
@[simp] theorem in_vl {ys : List D} : evIn h x (.vl ys) = anyEqT h x ys := rfl
@[simp] theorem in_tup {ys : List D} : evIn h x (.tup ys) = anyEqT h x ys := rfl
@[simp] theorem in_str {c : Nat} {s : List Nat} : evIn h (.str [c]) (.str s) = some (decide (c ∈ s)) := rfl
@[simp] theorem cmp_in_str {c : Nat} {s : List Nat} : evCmp P C .in_ (.str [c]) (.str s) h = .ok (.bl (decide (c ∈ s))) h := rfl
@[simp] theorem cmp_nin_str {c : Nat} {s : List Nat} : evCmp P C .nin (.str [c]) (.str s) h = .ok (.bl !(decide (c ∈ s))) h := rfl
@[simp] theorem cmp_in_vl {ys : List D} : evCmp P C .in_ x (.vl ys) h = ofO (anyEqT h x ys) h := by unfold evCmp ofO; simp only [in_vl, insOf]; try (cases anyEqT h x ys <;> rfl)
@[simp] theorem cmp_in_tup {ys : List D} : evCmp P C .in_ x (.tup ys) h = ofO (anyEqT h x ys) h := by unfold evCmp ofO; simp only [in_tup, insOf]; try (cases anyEqT h x ys <;> rfl)
@[simp] theorem cmp_nin_vl {ys : List D} : evCmp P C .nin x (.vl ys) h = ofO ((anyEqT h x ys).map (!·)) h := by unfold evCmp ofO; simp only [in_vl, insOf]; try (cases anyEqT h x ys <;> rfl)
@[simp] theorem cmp_nin_tup {ys : List D} : evCmp P C .nin x (.tup ys) h = ofO ((anyEqT h x ys).map (!·)) h := by unfold evCmp ofO; simp only [in_tup, insOf]; try (cases anyEqT h x ys <;> rfl)
@[simp] theorem bf_len_s {s : List Nat} : evBF P h .len [.str s] = if okLen s.length then .ok (.int s.length) h else .bad := rfl
@[simp] theorem bf_len_t {xs : List D} : evBF P h .len [.tup xs] = .ok (.int xs.length) h := rfl
@[simp] theorem bf_len_l {xs : List D} : evBF P h .len [.vl xs] = .ok (.int xs.length) h := rfl
@[simp] theorem bf_all {xs : List D} : evBF P h .all [.vl xs] = ofO (allB true xs) h := by simp only [evBF, lstOf, Option.bind_some]; cases allB true xs <;> rfl
@[simp] theorem bf_any {xs : List D} : evBF P h .any [.vl xs] = ofO (allB false xs) h := by simp only [evBF, lstOf, Option.bind_some]; cases allB false xs <;> rfl
@[simp] theorem bf_abs {i : Int} : evBF P h .abs [.int i] = .ok (.int (if i < 0 then -i else i)) h := rfl
@[simp] theorem bf_min {i j : Int} : evBF P h .min [.int i, .int j] = .ok (.int (if j < i then j else i)) h := rfl
@[simp] theorem bf_max {i j : Int} : evBF P h .max [.int i, .int j] = .ok (.int (if j > i then j else i)) h := rfl
@[simp] theorem bf_repr : evBF P h .repr [x] = match reprD h x with
  | some s => .ok (.str s) h
  | none => .bad := rfl
@[simp] theorem bf_isi : evBF P h .isi [x, y] = ofO (isIns P h x y) h := by simp only [evBF]; cases isIns P h x y <;> rfl
@[simp] theorem get_vl {xs : List D} {i : Int} : evGet P C (.vl xs) (.int i) h = match atI xs i with
  | some v => .ok v h
  | none => .bad := rfl
@[simp] theorem get_tup {xs : List D} {i : Int} : evGet P C (.tup xs) (.int i) h = match atI xs i with
  | some v => .ok v h
  | none => .bad := rfl
@[simp] theorem get_str {s : List Nat} {i : Int} : evGet P C (.str s) (.int i) h = if okLen s.length then (match atI s i with | some c => .ok (.str [c]) h | none => .bad) else .bad := rfl
@[simp] theorem src_vl {xs : List D} : srcOf h (.vl xs) = some (.seq xs) := rfl
@[simp] theorem src_tup {xs : List D} : srcOf h (.tup xs) = some (.seq xs) := rfl
@[simp] theorem src_str {s : List Nat} : srcOf h (.str s) = some (.seq (s.map fun c => .str [c])) := rfl
@[simp] theorem zip_vl {xs : List D} : zipS h (.vl xs) = some (.seq xs) := rfl
@[simp] theorem zip_tup {xs : List D} : zipS h (.tup xs) = some (.seq xs) := rfl
@[simp] theorem lsR_f {xs : List D} : lsR false h xs = .ok (.vl xs) h := rfl
@[simp] theorem lsR_t {xs : List D} : lsR true h xs = .ok (.ref h.length) (h ++ [⟨.lst xs, false⟩]) := rfl
@[simp] theorem lst_vl {xs : List D} : lstOf h (.vl xs) = some xs := rfl
@[simp] theorem seq_vl {xs : List D} : seqOf h (.vl xs) = some xs := rfl
@[simp] theorem seq_tup {xs : List D} : seqOf h (.tup xs) = some xs := rfl
@[simp] theorem bt_list {xs : List D} : evBT P h .list [.vl xs] = .ok (.vl xs) h := rfl
@[simp] theorem bt_list_t {xs : List D} : evBT P h .list [.tup xs] = .ok (.vl xs) h := rfl
@[simp] theorem bt_tuple {xs : List D} : evBT P h .tuple [.vl xs] = .ok (.tup xs) h := rfl
@[simp] theorem bt_tuple_t {xs : List D} : evBT P h .tuple [.tup xs] = .ok (.tup xs) h := rfl
@[simp] theorem bt_int_b {b : Bool} : evBT P h .int [.bl b] = .ok (.int (b2i b)) h := rfl
@[simp] theorem bt_int_i {i : Int} : evBT P h .int [.int i] = .ok (.int i) h := rfl
@[simp] theorem op_add_i {i j : Int} : evOp P C .add (.int i) (.int j) h = .ok (.int (i + j)) h := rfl
@[simp] theorem op_sub_i {i j : Int} : evOp P C .sub (.int i) (.int j) h = .ok (.int (i - j)) h := rfl
@[simp] theorem op_add_s {a b : List Nat} : evOp P C .add (.str a) (.str b) h = if okLen (a.length + b.length) then .ok (.str (a ++ b)) h else .bad := rfl
@[simp] theorem op_add_t {a b : List D} : evOp P C .add (.tup a) (.tup b) h = if okLen (a.length + b.length) then .ok (.tup (a ++ b)) h else .bad := rfl
@[simp] theorem op_add_l {a b : List D} : evOp P C .add (.vl a) (.vl b) h = if okLen (a.length + b.length) then .ok (.vl (a ++ b)) h else .bad := rfl
@[simp] theorem sli_t {xs : List D} {lo hi : Option Int} : evSli h (.tup xs) lo hi = .ok (.tup (cut xs lo hi)) h := rfl
@[simp] theorem sli_l {xs : List D} {lo hi : Option Int} : evSli h (.vl xs) lo hi = .ok (.vl (cut xs lo hi)) h := rfl
@[simp] theorem sli_s {s : List Nat} {lo hi : Option Int} : evSli h (.str s) lo hi = if okLen s.length then .ok (.str (cut s lo hi)) h else .bad := rfl
@[simp] theorem ofO_sat_some {k : Bool} {Q : D → Hp → Prop} : (ofO (some k) h).sat Q = Q (.bl k) h := rfl
/-- name = e; .. -/
theorem asg_loc {i : Nat} {e : E} {r : SL} {l : Loc} {N : Loc → Hp → Prop} {T : D → Hp → Prop} (hi : i < l.length) (s : (evE P C e l h).sat fun d h' => (evSL P C r (l.set i (some d)) h').sat N T) : (evSL P C (.cons (.asg (.loc i) e) r) l h).sat N T := by
  simp only [evSL_s2, evS_s2, sat_sbind', sat_toS', evT_s1, hi, if_true, R.sat_ok, RS.sat_nxt]
  exact s
/-- return e -/
theorem ret_e {e : E} {r : SL} {l : Loc} {N : Loc → Hp → Prop} {T : D → Hp → Prop} (s : (evE P C e l h).sat T) : (evSL P C (.cons (.ret e) r) l h).sat N T := by
  simp only [evSL_s2, evS_s7, sat_sbind', sat_toS', RS.sat_ret]
  exact s
theorem R.sat_of {α : Type} {r : R α} {a : α} {h' : Hp} {Q : α → Hp → Prop} (e : r = .ok a h') (q : Q a h') : r.sat Q := by rw [e]; exact q
end Ev
end
section
/-! L1: names, values, days, columns, rows; the law's pool: what the defs compute. -/
set_option linter.all false
set_option maxRecDepth 100000
set_option maxHeartbeats 1000000
namespace EvL
open PySem Ev
/-- is_integer -/
def B0 : SL := (.cons (.ret (.and (.bf .isi (.cons false (.loc 0) (.cons false (.con (.ty 0)) .nil))) (.not (.bf .isi (.cons false (.loc 0) (.cons false (.con (.ty 1)) .nil)))))) .nil)
/-- is_name -/
def B1 : SL := (.cons (.if_ (.or (.not (.bf .isi (.cons false (.loc 0) (.cons false (.con (.ty 2)) .nil)))) (.or (.not (.cmp2 .le .le (.con (.int 1)) (.bf .len (.cons false (.loc 0) .nil)) (.con (.int 8)))) (.cmp .in_ (.loc 0) (.glo 2)))) (.cons (.ret (.con (.bl false))) .nil) .nil) (.cons (.ret (.bf .all (.cons false (.lc false [1] (.cmp .in_ (.loc 1) (.glo 0)) (.loc 1) (.it (.loc 0)) .nil) .nil))) .nil))
/-- is_value -/
def B2 : SL := (.cons (.if_ (.bf .isi (.cons false (.loc 0) (.cons false (.con (.ty 2)) .nil))) (.cons (.ret (.and (.cmp .le (.bf .len (.cons false (.loc 0) .nil)) (.con (.int 20))) (.bf .all (.cons false (.lc false [1] (.cmp .in_ (.loc 1) (.glo 1)) (.loc 1) (.it (.loc 0)) .nil) .nil)))) .nil) .nil) (.cons (.ret (.call 0 (.cons false (.loc 0) .nil))) .nil))
/-- kind_of -/
def B3 : SL := (.cons (.ret (.ite (.bf .isi (.cons false (.loc 0) (.cons false (.con (.ty 2)) .nil))) (.con (.str [116, 101, 120, 116])) (.con (.str [110, 117, 109, 98, 101, 114])))) .nil)
/-- is_day -/
def B4 : SL := (.cons (.ret (.and (.call 0 (.cons false (.loc 0) .nil)) (.cmp2 .le .le (.con (.int 0)) (.loc 0) (.glo 4)))) .nil)
/-- is_column -/
def B5 : SL := (.cons (.if_ (.or (.not (.bf .isi (.cons false (.loc 0) (.cons false (.con (.ty 4)) .nil)))) (.or (.cmp .ne (.bf .len (.cons false (.loc 0) .nil)) (.con (.int 2))) (.not (.call 1 (.cons false (.idx (.loc 0) (.con (.int 0))) .nil))))) (.cons (.ret (.con (.bl false))) .nil) .nil) (.cons (.ret (.and (.bf .isi (.cons false (.idx (.loc 0) (.con (.int 1))) (.cons false (.con (.ty 2)) .nil))) (.cmp .in_ (.idx (.loc 0) (.con (.int 1))) (.glo 3)))) .nil))
/-- is_columns -/
def B6 : SL := (.cons (.if_ (.or (.not (.bf .isi (.cons false (.loc 0) (.cons false (.con (.ty 3)) .nil)))) (.not (.cmp2 .le .le (.con (.int 1)) (.bf .len (.cons false (.loc 0) .nil)) (.glo 5)))) (.cons (.ret (.con (.bl false))) .nil) .nil) (.cons (.if_ (.not (.bf .all (.cons false (.lc false [1] (.call 5 (.cons false (.loc 1) .nil)) (.loc 1) (.it (.loc 0)) .nil) .nil))) (.cons (.ret (.con (.bl false))) .nil) .nil) (.cons (.ret (.cmp .eq (.sc [2, 3] (.loc 2) (.tup (.cons (.loc 2) (.cons (.loc 3) .nil))) (.it (.loc 0)) .nil) (.bf .len (.cons false (.loc 0) .nil)))) .nil)))
/-- is_row -/
def B7 : SL := (.cons (.if_ (.or (.not (.bf .isi (.cons false (.loc 0) (.cons false (.con (.ty 4)) .nil)))) (.cmp .ne (.bf .len (.cons false (.loc 0) .nil)) (.bf .len (.cons false (.loc 1) .nil)))) (.cons (.ret (.con (.bl false))) .nil) .nil) (.cons (.ret (.bf .all (.cons false (.lc false [2, 3, 4] (.and (.call 2 (.cons false (.loc 2) .nil)) (.cmp .eq (.call 3 (.cons false (.loc 2) .nil)) (.loc 4))) (.tup (.cons (.loc 2) (.cons (.tup (.cons (.loc 3) (.cons (.loc 4) .nil))) .nil))) (.zip (.loc 0) (.loc 1)) .nil) .nil))) .nil))
/-- _law_pool -/
def B8 : SL := (.cons (.asg (.loc 2) (.con (.int 0))) (.cons (.if_ (.cmp .lt (.loc 1) (.bf .len (.cons false (.loc 0) .nil))) (.cons (.asg (.loc 2) (.idx (.loc 0) (.loc 1))) .nil) .nil) (.cons (.asg (.loc 3) (.bf .abs (.cons false (.loc 2) .nil))) (.cons (.asg (.loc 4) (.bin .mod (.bin .pow (.bin .add (.bin .add (.bin .add (.bin .mod (.loc 2) (.con (.int 2147483629))) (.bin .mul (.bin .mul (.con (.int 104729)) (.loc 1)) (.loc 1))) (.bin .mul (.con (.int 7919)) (.loc 1))) (.con (.int 11))) (.con (.int 3))) (.con (.int 2147483647)))) (.cons (.ret (.lst true (.cons false (.bin .mul (.loc 3) (.bt .int (.cons false (.cmp .ge (.loc 3) (.bin .pow (.con (.int 10)) (.con (.int 18)))) .nil))) (.cons false (.loc 4) .nil)))) .nil)))))
/-- _law_take -/
def B9 : SL := (.cons (.if_ (.cmp .gt (.idx (.loc 0) (.con (.int 0))) (.con (.int 0))) (.cons (.asg (.loc 2) (.bin .mod (.idx (.loc 0) (.con (.int 0))) (.loc 1))) (.cons (.asg (.sub (.loc 0) (.con (.int 0))) (.bin .fdiv (.idx (.loc 0) (.con (.int 0))) (.loc 1))) (.cons (.ret (.loc 2)) .nil))) .nil) (.cons (.asg (.sub (.loc 0) (.con (.int 1))) (.bin .mod (.bin .add (.bin .mul (.idx (.loc 0) (.con (.int 1))) (.con (.int 48271))) (.con (.int 11))) (.con (.int 2147483647)))) (.cons (.ret (.bin .mod (.bin .fdiv (.bin .mod (.bin .mul (.idx (.loc 0) (.con (.int 1))) (.idx (.loc 0) (.con (.int 1)))) (.con (.int 2147483629))) (.con (.int 64))) (.loc 1))) .nil)))
def wordsD : List D := (["last", "where", "with", "keep", "rename", "join", "union", "minus", "group", "count", "sum", "least", "greatest", "and", "or", "not", "today"] : List Str).map fun s => .str (ofStr s)
def lets : List Nat := ofStr "abcdefghijklmnopqrstuvwxyz"
def sgns : List Nat := ofStr "abcdefghijklmnopqrstuvwxyz0123456789 "
abbrev kText : D := .str [116, 101, 120, 116]
abbrev kNum : D := .str [110, 117, 109, 98, 101, 114]
/-- the defs and names of values -/
structure HasV (P : Prog) : Prop where
  f0 : P.fn 0 = some ⟨1, 1, [], B0, false⟩
  f1 : P.fn 1 = some ⟨1, 2, [], B1, false⟩
  f2 : P.fn 2 = some ⟨1, 2, [], B2, false⟩
  f3 : P.fn 3 = some ⟨1, 1, [], B3, false⟩
  f4 : P.fn 4 = some ⟨1, 1, [], B4, false⟩
  f5 : P.fn 5 = some ⟨1, 1, [], B5, false⟩
  f6 : P.fn 6 = some ⟨1, 4, [], B6, false⟩
  f7 : P.fn 7 = some ⟨2, 5, [], B7, false⟩
  g0 : P.glob 0 = some (.str lets)
  g1 : P.glob 1 = some (.str sgns)
  g2 : P.glob 2 = some (.vl wordsD)
  g3 : P.glob 3 = some (.vl [kNum, kText])
  g4 : P.glob 4 = some (.int 999)
  g5 : P.glob 5 = some (.int 10)
/-- the draws -/
structure HasP (P : Prog) : Prop where
  f8 : P.fn 8 = some ⟨2, 5, [], B8, false⟩
  f9 : P.fn 9 = some ⟨2, 3, [], B9, false⟩
mutual
/-- data whose kind can be asked for -/
def D.dat : D → Bool
  | .non => true
  | .bl _ => true
  | .int _ => true
  | .str s => okLen s.length
  | .tup xs => dats xs
  | .vl xs => dats xs
  | .vd _ _ => true
  | .vi _ _ _ => true
  | _ => false
def dats : List D → Bool
  | [] => true
  | x :: r => D.dat x && dats r
end
theorem dats_all : ∀ {xs : List D}, dats xs = true ↔ ∀ x ∈ xs, D.dat x = true
  | [] => by simp [dats]
  | a :: x => by simp [dats, dats_all (xs := x)]
variable {P : Prog} {n : Nat} {h : Hp} {d : D}
def isI : D → Bool
  | .int _ => true
  | _ => false
def isB : D → Bool
  | .bl _ => true
  | _ => false
def isS : D → Bool
  | .str _ => true
  | _ => false
def isL : D → Bool
  | .vl _ => true
  | _ => false
def isDc : D → Bool
  | .vd _ _ => true
  | _ => false
def isT : D → Bool
  | .tup _ => true
  | _ => false
theorem ins_ty (hd : D.dat d = true) : isIns P h d (.ty 0) = some (isB d || isI d) ∧ isIns P h d (.ty 1) = some (isB d) ∧ isIns P h d (.ty 2) = some (isS d) ∧ isIns P h d (.ty 3) = some (isL d) ∧ isIns P h d (.ty 4) = some (isT d) ∧ isIns P h d (.ty 5) = some (isDc d) := by
  cases d <;> simp [D.dat] at hd <;> exact ⟨rfl, rfl, rfl, rfl, rfl, rfl⟩
/-! ### rules -/
theorem plain_bl {b : Bool} {h : Hp} : Ev.plain (.ok (.bl b) h) = .ok (.bl b) h := rfl
theorem plain_ok {d : D} {h : Hp} (hd : D.dat d = true) : Ev.plain (.ok d h) = .ok d h := by cases d <;> simp [D.dat] at hd <;> rfl
/-- a list comprehension that changes nothing -/
theorem lc_pure {S : Src} {stp : D → Hp → R (Option D)} {h : Hp} (xs : List D) (g : D → Option D) (lock : S.lock = none) (hat : ∀ i, i ≤ xs.length → S.at h i = some xs[i]?) (ok : okLen xs.length = true)
    (step : ∀ d ∈ xs, (stp d h).sat fun o h' => o = g d ∧ h' = h) : lcLoop S stp h = .ok (xs.filterMap g) h := by
  refine R.eq_of (lcLoop_sat xs (fun i acc h' => i ≤ xs.length ∧ acc = (xs.take i).filterMap g ∧ h' = h) lock (fun i acc h' q => by rw [q.2.2]; exact hat i q.1) ⟨Nat.zero_le _, rfl, rfl⟩ (fun i d acc h' e ⟨_, ea, x⟩ => ?_) fun acc h' ⟨_, ea, x⟩ => ?_)
  · subst x
    refine (step d (List.mem_of_getElem? e)).mono fun o h2 ⟨eo, x2⟩ => ?_
    have t := take_fm (g := g) e
    have lt : i + 1 ≤ xs.length := (List.getElem?_eq_some_iff.mp e).1
    rw [← eo] at t
    cases o with
    | some v => exact ⟨by rw [ea]; exact fm_len (List.getElem?_eq_some_iff.mp e).1 ok, lt, by rw [t, ea]; rfl, x2⟩
    | none => exact ⟨lt, by rw [t, ea]; simp, x2⟩
  · rw [ea, List.take_length]
    exact ⟨rfl, x⟩
theorem lc_seq {stp : D → Hp → R (Option D)} {h : Hp} {Q : List D → Hp → Prop} (xs : List D) (g : D → Option D) (ok : okLen xs.length = true) (step : ∀ d ∈ xs, (stp d h).sat fun o h' => o = g d ∧ h' = h) (q : Q (xs.filterMap g) h) : (lcLoop (.seq xs) stp h).sat Q := by
  rw [lc_pure xs g rfl (fun _ _ => rfl) ok step]
  exact q
theorem sc_seq {stp : D → Hp → R (Option D)} {h : Hp} {Q : List D → Hp → Prop} (xs : List D) (g : D → Option D) (ok : xs.length ≤ 4000) (key : ∀ d ∈ xs, ∀ v, g d = some v → isKey v = true) (step : ∀ d ∈ xs, (stp d h).sat fun o h' => o = g d ∧ h' = h) (q : Q (xs.filterMap g) h) : (scLoop (.seq xs) stp h).sat Q := by
  refine scLoop_sat xs (fun i acc h' => acc = (xs.take i).filterMap g ∧ h' = h) rfl (fun i acc h' _ => rfl) ⟨rfl, rfl⟩ (fun i d acc h' e ⟨ea, x⟩ => ?_) fun acc h' ⟨ea, x⟩ => ?_
  · subst x
    refine (step d (List.mem_of_getElem? e)).mono fun o h2 ⟨eo, x2⟩ => ?_
    have t := take_fm (g := g) e
    rw [← eo] at t
    cases o with
    | some v =>
      refine ⟨?_, by rw [t, ea]; rfl, x2⟩
      have lt := (List.getElem?_eq_some_iff.mp e).1
      have a := List.length_filterMap_le g (xs.take i)
      rw [List.length_take] at a
      rw [Bool.and_eq_true, decide_eq_true_eq]
      exact ⟨key d (List.mem_of_getElem? e) v eo.symm, by rw [ea]; omega⟩
    | none => exact ⟨by rw [t, ea]; simp, x2⟩
  · rw [ea, List.take_length]
    subst x
    exact q
/-- the source is a zip of values -/
theorem lc_zip {stp : D → Hp → R (Option D)} {h : Hp} {Q : List D → Hp → Prop} (xs ys : List D) (hl : xs.length = ys.length) (g : D → Option D) (ok : okLen xs.length = true) (step : ∀ p ∈ xs.zip ys, (stp (.tup [p.1, p.2]) h).sat fun o h' => o = g (.tup [p.1, p.2]) ∧ h' = h) (q : Q (((xs.zip ys).map fun p => .tup [p.1, p.2]).filterMap g) h) : (lcLoop (.zip (.seq xs) (.seq ys)) stp h).sat Q := by
  have lz : ((xs.zip ys).map fun p => D.tup [p.1, p.2]).length = xs.length := by simp [hl]
  rw [lc_pure ((xs.zip ys).map fun p => .tup [p.1, p.2]) g rfl (fun i hi => ?_) (by rw [lz]; exact ok) (fun d hd => ?_)]
  · exact q
  · rw [lz] at hi
    simp only [Src.at, List.getElem?_map]
    by_cases hi : i < xs.length
    · have hi2 : i < ys.length := by omega
      rw [List.getElem?_eq_getElem hi, List.getElem?_eq_getElem hi2, List.getElem?_eq_getElem (l := xs.zip ys) (by simp; omega)]
      simp
    · rw [List.getElem?_eq_none (l := xs) (by omega), List.getElem?_eq_none (l := ys) (by omega), List.getElem?_eq_none (l := xs.zip ys) (by simp; omega)]
      by_cases z : i = 0
      · simp [z]
      · rw [List.getElem?_eq_getElem (l := xs) (by omega), List.getElem?_eq_getElem (l := ys) (by omega)]
        simp [z]
  · obtain ⟨p, hp, rfl⟩ := List.mem_map.mp hd
    exact step p hp
theorem fm_some {f : D → D} {xs : List D} : (xs.filterMap fun d => some (f d)) = xs.map f := by rw [← List.filterMap_eq_map]; rfl
theorem fm_all_some {α β : Type} {f : α → Option β} {g : α → β} : ∀ {l : List α}, (∀ x ∈ l, f x = some (g x)) → l.filterMap f = l.map g
  | [], _ => rfl
  | a :: r, h => by rw [List.filterMap_cons, h a List.mem_cons_self, List.map_cons, fm_all_some fun x hx => h x (List.mem_cons_of_mem _ hx)]
theorem allB_mapf {α : Type} {f : α → Bool} {xs : List α} : allB true (xs.map fun x => D.bl (f x)) = some (xs.all f) := allB_map (f := f)
theorem allB_fm {f : D → Bool} {xs : List D} : allB true (xs.filterMap fun d => some (.bl (f d))) = some (xs.all f) := by
  rw [fm_some (f := fun d => .bl (f d))]
  exact allB_map (f := f)
/-! ### names, values -/
def nmS (s : List Nat) : Bool := decide (1 ≤ s.length) && (decide (s.length ≤ 8) && (!(wordsD.any fun w => decide (w = .str s)) && s.all fun c => decide (c ∈ lets)))
def nm : D → Bool
  | .str s => nmS s
  | _ => false
def vlS (s : List Nat) : Bool := decide (s.length ≤ 20) && s.all fun c => decide (c ∈ sgns)
def vl : D → Bool
  | .str s => vlS s
  | d => isI d
def dy : D → Bool
  | .int i => decide (0 ≤ i) && decide (i ≤ 999)
  | _ => false
def kdOf (d : D) : D := if isS d then kText else kNum
@[simp] theorem dq_str {a b : List Nat} : deq h dq (.str a) (.str b) = some (decide (a = b)) := by
  show some (a == b) = _
  by_cases e : a = b
  · subst e; simp
  · simp [e]
@[simp] theorem dq_int {a b : Int} : deq h dq (.int a) (.int b) = some (decide (a = b)) := by
  show some (a == b) = _
  by_cases e : a = b
  · subst e; simp
  · simp [e]
theorem any_strs {s : List Nat} : ∀ {ws : List D}, ws.all isS = true → anyEqT h (.str s) ws = some (ws.any fun w => decide (w = .str s)) := by
  intro ws hw
  have : mapO (fun y => deq h dq y (.str s)) ws = some (ws.map fun w => decide (w = .str s)) := by
    induction ws with
    | nil => rfl
    | cons w r ih =>
      rw [List.all_cons, Bool.and_eq_true] at hw
      cases w <;> simp [isS] at hw
      rw [mapO, dq_str, ih (by rw [List.all_eq_true]; exact hw)]
      simp
  unfold anyEqT
  rw [this, Option.map_some, List.any_map]
  rfl
theorem is_integer_eq (H : HasV P) (hd : D.dat d = true) : callN P (n + 1) 0 [d] h = .ok (.bl (isI d)) h := by
  refine R.eq_of (callN_sat H.f0 rfl rfl ?_)
  obtain ⟨t0, t1, t2, t3, t4, t5⟩ := ins_ty (P := P) (h := h) hd
  cases d <;> simp [D.dat] at hd <;> simp [B0, t0, t1, isB, isI]
theorem chars_all {s : List Nat} {ls : List Nat} : ((s.map fun c => D.str [c]).filterMap (fun d => match d with | .str [c] => some (D.bl (decide (c ∈ ls))) | _ => none)) = (s.map fun c => decide (c ∈ ls)).map D.bl := by
  rw [List.filterMap_map, List.map_map, ← List.filterMap_eq_map]
  rfl
theorem is_name_eq (H : HasV P) (hd : D.dat d = true) : callN P (n + 1) 1 [d] h = .ok (.bl (nm d)) h := by
  refine R.eq_of (callN_sat H.f1 rfl rfl ?_)
  obtain ⟨t0, t1, t2, t3, t4, t5⟩ := ins_ty (P := P) (h := h) hd
  cases d <;> try (simp [D.dat] at hd; done)
  case str s =>
    have hz : okLen s.length = true := hd
    have aw := any_strs (h := h) (s := s) (ws := wordsD) (by decide +kernel)
    show (evSL _ _ _ _ _).sat _ fun x h' => x = .bl (nmS s) ∧ h' = h
    unfold nmS
    generalize (wordsD.any fun w => decide (w = .str s)) = wb at aw ⊢
    by_cases c1 : 1 ≤ s.length
    · have c1' : (1 : Int) ≤ s.length := by omega
      by_cases c2 : s.length ≤ 8
      · have c2' : (s.length : Int) ≤ 8 := by omega
        cases wb with
        | true => simp [B1, t2, isS, hz, H.g2, aw, c1', c2', c1, c2]
        | false =>
          simp [B1, t2, isS, hz, H.g2, aw, c1', c2', c1, c2]
          refine lc_seq _ (fun d => match d with | .str [c] => some (.bl (decide (c ∈ lets))) | _ => none) (by simpa using hz) (fun d hd => ?_) ?_
          · obtain ⟨c, hc, rfl⟩ := List.mem_map.mp hd
            simp [wipe, H.g0]
          · rw [chars_all]
            simp [allB_map]
      · have c2' : ¬ (s.length : Int) ≤ 8 := by omega
        simp [B1, t2, isS, hz, c1', c2', c1, c2]
    · have c1' : ¬ (1 : Int) ≤ s.length := by omega
      simp [B1, t2, isS, hz, c1', c1]
  all_goals simp [B1, t2, isS, nm]
theorem is_value_eq (H : HasV P) (hd : D.dat d = true) : callN P (n + 2) 2 [d] h = .ok (.bl (vl d)) h := by
  refine R.eq_of (callN_sat H.f2 rfl rfl ?_)
  obtain ⟨t0, t1, t2, t3, t4, t5⟩ := ins_ty (P := P) (h := h) hd
  have ii := is_integer_eq (n := n) (h := h) H hd
  cases d <;> try (simp [D.dat] at hd; done)
  case str s =>
    have hz : okLen s.length = true := hd
    show (evSL _ _ _ _ _).sat _ fun x h' => x = .bl (vlS s) ∧ h' = h
    unfold vlS
    by_cases c2 : s.length ≤ 20
    · have c2' : (s.length : Int) ≤ 20 := by omega
      simp [B2, t2, isS, hz, c2', c2]
      refine lc_seq _ (fun d => match d with | .str [c] => some (.bl (decide (c ∈ sgns))) | _ => none) (by simpa using hz) (fun d hd => ?_) ?_
      · obtain ⟨c, hc, rfl⟩ := List.mem_map.mp hd
        simp [wipe, H.g1]
      · rw [chars_all]
        simp [allB_map]
    · have c2' : ¬ (s.length : Int) ≤ 20 := by omega
      simp [B2, t2, isS, hz, c2', c2]
  all_goals simp [B2, t2, isS, ii, plain_bl, vl]
theorem kind_of_eq (H : HasV P) (hd : D.dat d = true) : callN P (n + 1) 3 [d] h = .ok (kdOf d) h := by
  refine R.eq_of (callN_sat H.f3 rfl rfl ?_)
  obtain ⟨t0, t1, t2, t3, t4, t5⟩ := ins_ty (P := P) (h := h) hd
  cases e : isS d <;> simp [B3, t2, e, kdOf]
theorem is_day_eq (H : HasV P) (hd : D.dat d = true) : callN P (n + 2) 4 [d] h = .ok (.bl (dy d)) h := by
  refine R.eq_of (callN_sat H.f4 rfl rfl ?_)
  have ii := is_integer_eq (n := n) (h := h) H hd
  cases d <;> try (simp [D.dat] at hd; done)
  case int i => by_cases c : 0 ≤ i <;> simp [B4, ii, isI, plain_bl, H.g4, c, dy]
  all_goals simp [B4, ii, isI, plain_bl, dy]
/-! ### columns -/
def col : D → Bool
  | .tup [a, b] => nm a && decide (b = kText ∨ b = kNum)
  | _ => false
def fstD : D → D
  | .tup (a :: _) => a
  | _ => .non
theorem col_key {y : D} (c : col y = true) : ∃ a b, y = .tup [a, b] ∧ nm a = true ∧ isKey a = true ∧ (b = kText ∨ b = kNum) := by
  unfold col at c
  split at c
  · rename_i a b
    rw [Bool.and_eq_true, decide_eq_true_eq] at c
    refine ⟨a, b, rfl, c.1, ?_, c.2⟩
    have := c.1
    cases a <;> simp [nm] at this <;> rfl
  · cases c
theorem any_kinds {s : List Nat} : anyEqT h (.str s) [kNum, kText] = some (decide (D.str s = kText ∨ D.str s = kNum)) := by
  rw [any_strs rfl]
  simp only [List.any_cons, List.any_nil, D.str.injEq, Bool.or_false]
  by_cases e1 : s = [116, 101, 120, 116]
  · subst e1; rfl
  · by_cases e2 : s = [110, 117, 109, 98, 101, 114]
    · subst e2; rfl
    · simp [e1, e2, Ne.symm e1, Ne.symm e2]
theorem is_column_eq (H : HasV P) (hd : D.dat d = true) : callN P (n + 2) 5 [d] h = .ok (.bl (col d)) h := by
  refine R.eq_of (callN_sat H.f5 rfl rfl ?_)
  obtain ⟨t0, t1, t2, t3, t4, t5⟩ := ins_ty (P := P) (h := h) hd
  cases d <;> try (simp [D.dat] at hd; done)
  case tup xs =>
    rw [D.dat] at hd
    match xs, hd with
    | [], _ => simp [B5, t4, isT, evEq, col]
    | [_], _ => simp [B5, t4, isT, evEq, col]
    | [a, b], hd =>
      simp only [dats, Bool.and_eq_true] at hd
      have en := is_name_eq (n := n) (h := h) H hd.1
      obtain ⟨_, _, u2, _⟩ := ins_ty (P := P) (h := h) hd.2.1
      have i0 : atI [a, b] 0 = some a := rfl
      have i1 : atI [a, b] 1 = some b := rfl
      cases q : nm a with
      | false => simp [B5, t4, isT, evEq, i0, i1, en, q, plain_bl, col]
      | true =>
        have hb := hd.2.1
        cases b <;> try (simp [D.dat] at hb; done)
        case str s => simp [B5, t4, isT, evEq, i0, i1, en, q, plain_bl, col, u2, isS, H.g3, any_kinds]
        all_goals simp [B5, t4, isT, evEq, i0, i1, en, q, plain_bl, col, u2, isS]
    | a :: b :: c :: r, _ =>
      have : ¬ ((r.length : Int) + 1 + 1 + 1 = 2) := by omega
      simp [B5, t4, isT, evEq, col, this]
  all_goals simp [B5, t4, isT, col]
def colsL (xs : List D) : Bool := decide (1 ≤ xs.length) && (decide (xs.length ≤ 10) && (xs.all col && decide ((firsts (xs.map fstD)).length = xs.length)))
def cols : D → Bool
  | .vl xs => colsL xs
  | _ => false
theorem is_columns_eq (H : HasV P) (hd : D.dat d = true) : callN P (n + 3) 6 [d] h = .ok (.bl (cols d)) h := by
  refine R.eq_of (callN_sat H.f6 rfl rfl ?_)
  obtain ⟨t0, t1, t2, t3, t4, t5⟩ := ins_ty (P := P) (h := h) hd
  cases d <;> try (simp [D.dat] at hd; done)
  case vl xs =>
    rw [D.dat, dats_all] at hd
    show (evSL _ _ _ _ _).sat _ fun x h' => x = .bl (colsL xs) ∧ h' = h
    unfold colsL
    by_cases c1 : 1 ≤ xs.length
    · have c1' : (1 : Int) ≤ xs.length := by omega
      by_cases c2 : xs.length ≤ 10
      · have c2' : (xs.length : Int) ≤ 10 := by omega
        have okl : okLen xs.length = true := decide_eq_true (by unfold sizeLine; omega)
        simp [B6, t3, isL, H.g5, c1, c2, c1', c2']
        refine lc_seq xs (fun y => some (.bl (col y))) okl (fun y hy => ?_) ?_
        · simp [wipe, is_column_eq (n := n) (h := h) H (hd y hy), plain_bl]
        · cases q : xs.all col with
          | false => simp [allB_mapf, q]
          | true =>
            simp [allB_mapf, q]
            refine sc_seq xs (fun y => some (fstD y)) (by omega) (fun y hy v ev => ?_) (fun y hy => ?_) ?_
            · obtain ⟨a, b, rfl, _, k, _⟩ := col_key (List.all_eq_true.mp q y hy)
              cases ev
              exact k
            · obtain ⟨a, b, rfl, _, k, _⟩ := col_key (List.all_eq_true.mp q y hy)
              simp [wipe, fstD]
            · rw [fm_some]
              simp [evEq]
              omega
      · have c2' : ¬ (xs.length : Int) ≤ 10 := by omega
        simp [B6, t3, isL, H.g5, c1, c2, c1', c2']
    · have c1' : ¬ (1 : Int) ≤ xs.length := by omega
      simp [B6, t3, isL, H.g5, c1, c1']
  all_goals simp [B6, t3, isL, cols]
/-! ### rows -/
def knd : D → D
  | .tup [_, k] => k
  | _ => .non
/-- a row of such kinds -/
def rowK (xs ks : List D) : Bool := decide (xs.length = ks.length) && (xs.zip ks).all fun p => vl p.1 && decide (kdOf p.1 = p.2)
def rowOk (d : D) (ks : List D) : Bool := match d with
  | .tup xs => rowK xs ks
  | _ => false
/-- well-formed columns: pairs, the kinds texts -/
def pairB2 : D → Bool
  | .tup [a, .str s] => D.dat a
  | _ => false
theorem kd_str (d : D) : ∃ s, kdOf d = .str s := by unfold kdOf; split <;> exact ⟨_, rfl⟩
theorem is_row_eq (H : HasV P) (hd : D.dat d = true) {cs : List D} (hc : cs.all pairB2 = true) (hn : okLen cs.length = true) : callN P (n + 3) 7 [d, .vl cs] h = .ok (.bl (rowOk d (cs.map knd))) h := by
  refine R.eq_of (callN_sat H.f7 rfl rfl ?_)
  obtain ⟨t0, t1, t2, t3, t4, t5⟩ := ins_ty (P := P) (h := h) hd
  cases d <;> try (simp [D.dat] at hd; done)
  case tup xs =>
    rw [D.dat, dats_all] at hd
    show (evSL _ _ _ _ _).sat _ fun x h' => x = .bl (rowK xs (cs.map knd)) ∧ h' = h
    unfold rowK
    by_cases c1 : xs.length = cs.length
    · have c1' : (xs.length : Int) = cs.length := by omega
      simp [B7, t4, isT, evEq, c1, c1']
      have okl : okLen xs.length = true := by rw [c1]; exact hn
      refine lc_zip xs cs c1 (fun p => match p with | .tup [x, .tup [_, k]] => some (.bl (vl x && decide (kdOf x = k))) | _ => none) okl (fun p hp => ?_) ?_
      · obtain ⟨x, c⟩ := p
        have hx := hd x (List.of_mem_zip hp).1
        have hk := List.all_eq_true.mp hc c (List.of_mem_zip hp).2
        unfold pairB2 at hk
        split at hk
        · rename_i a s
          have e1 := is_value_eq (n := n) (h := h) H hx
          have e2 := kind_of_eq (n := n + 1) (h := h) H hx
          obtain ⟨s2, e3⟩ := kd_str x
          cases q : vl x <;> simp [wipe, e1, e2, q, plain_bl, e3, evEq, Ev.plain]
        · cases hk
      · have e : (((xs.zip cs).map fun p => D.tup [p.1, p.2]).filterMap fun p => match p with | .tup [x, .tup [_, k]] => some (D.bl (vl x && decide (kdOf x = k))) | _ => none) = (xs.zip (cs.map knd)).map fun p => D.bl (vl p.1 && decide (kdOf p.1 = p.2)) := by
          rw [List.filterMap_map, List.zip_map_right, List.map_map]
          refine fm_all_some fun p hp => ?_
          have hk := List.all_eq_true.mp hc p.2 (List.of_mem_zip hp).2
          unfold pairB2 at hk
          split at hk
          · rename_i e; simp [e, knd]
          · cases hk
        rw [e]
        simp [allB_mapf]
    · have c1' : ¬ (xs.length : Int) = cs.length := by omega
      simp [B7, t4, isT, evEq, c1, c1']
  all_goals simp [B7, t4, isT, rowOk]
/-! ### draws -/
/-- the pool stands at p -/
def Pool (h : Hp) (p : Nat) : Prop := ∃ A B : Int, 0 ≤ A ∧ 0 ≤ B ∧ h[p]? = some ⟨.lst [.int A, .int B], false⟩
/-- all but the pool is as it was -/
def Kp (p : Nat) (h h' : Hp) : Prop := h'.length = h.length ∧ ∀ i, i ≠ p → h'[i]? = h[i]?
theorem Kp.rfl {p : Nat} {h : Hp} : Kp p h h := ⟨Eq.refl _, fun _ _ => Eq.refl _⟩
theorem Kp.trans {p : Nat} {h h1 h2 : Hp} (a : Kp p h h1) (b : Kp p h1 h2) : Kp p h h2 := ⟨b.1.trans a.1, fun i hi => (b.2 i hi).trans (a.2 i hi)⟩
theorem take_sat (H : HasP P) {p : Nat} {m : Int} (hp : Pool h p) (hm : 0 < m) (hs : m < 2 ^ 60) : (callN P (n + 1) 9 [.ref p, .int m] h).sat fun x h' => (∃ r : Int, x = .int r ∧ 0 ≤ r ∧ r < m) ∧ Pool h' p ∧ Kp p h h' := by
  obtain ⟨A, B, hA, hB, e⟩ := hp
  have lt := (List.getElem?_eq_some_iff.mp e).1
  have i0 : ∀ a b : Int, atI [D.int a, D.int b] 0 = some (.int a) := fun _ _ => Eq.refl _
  have i1 : ∀ a b : Int, atI [D.int a, D.int b] 1 = some (.int b) := fun _ _ => Eq.refl _
  have kp : ∀ o, Kp p h (h.set p o) := fun o => ⟨List.length_set .., fun i hi => List.getElem?_set_ne (Ne.symm hi)⟩
  refine callN_sat H.f9 rfl rfl ?_
  by_cases c : 0 < A
  · have dv : okDiv m = true := by
      unfold okDiv
      rw [decide_eq_true hm]
      have : m.natAbs.log2 < 60 := by
        by_cases z : m.natAbs = 0
        · rw [z]; decide
        · exact (Nat.log2_lt z).mpr (by omega)
      simp; omega
    simp [B9, evCmp, evOrd, evGet, insOf, evIdx, e, i0, i1, c, op_mod hm, op_fdiv dv, evSet, idxN, put]
    refine ⟨⟨Int.emod_nonneg _ (by omega), Int.emod_lt_of_pos _ hm⟩, ⟨_, B, ?_, hB, by rw [List.getElem?_set_self lt]⟩, kp _⟩
    exact Int.ediv_nonneg hA (by omega)
  · have m1 : okMul B 48271 = true := okMul_r (by decide)
    have b0 := Int.emod_nonneg (B * 48271 + 11) (show (2147483647 : Int) ≠ 0 by decide)
    have b1 := Int.emod_lt_of_pos (B * 48271 + 11) (show (0 : Int) < 2147483647 by decide)
    generalize eB : (B * 48271 + 11) % 2147483647 = B2 at b0 b1
    have m2 : okMul B2 B2 = true := okMul_l (by omega)
    have dv : okDiv 64 = true := by decide +kernel
    have e2 : (h.set p ⟨.lst [.int A, .int B2], false⟩)[p]? = some ⟨.lst [.int A, .int B2], false⟩ := List.getElem?_set_self lt
    simp [B9, evCmp, evOrd, evGet, insOf, evIdx, e, i0, i1, c, op_mul m1, op_add, op_mod (show (0 : Int) < 2147483647 by decide), eB, evSet, idxN, put, e2, op_mul m2, op_mod (show (0 : Int) < 2147483629 by decide), op_fdiv dv, op_mod hm]
    exact ⟨⟨Int.emod_nonneg _ (by omega), Int.emod_lt_of_pos _ hm⟩, ⟨A, B2, hA, b0, e2⟩, kp _⟩
theorem pool_sat (H : HasP P) (ns : List Int) (k : Nat) (hk : k < 64) : (callN P (n + 1) 8 [.vl (ns.map D.int), .int k] h).sat fun x h' => x = .ref h.length ∧ ∃ A B : Int, 0 ≤ A ∧ 0 ≤ B ∧ h' = h ++ [⟨.lst [.int A, .int B], false⟩] := by
  have fin : ∀ c : Int, (evSL P (callN P n) (match B8 with | .cons _ (.cons _ r) => r | _ => .nil) [some (.vl (ns.map D.int)), some (.int k), some (.int c), none, none] h).sat (fun _ _ => False) fun x h' => x = .ref h.length ∧ ∃ A B : Int, 0 ≤ A ∧ 0 ≤ B ∧ h' = h ++ [⟨.lst [.int A, .int B], false⟩] := by
    intro c
    have hkk : (k : Int) * k ≤ 4096 := by
      have : k * k ≤ 64 * 64 := Nat.mul_le_mul (by omega) (by omega)
      exact_mod_cast this
    have kk0 : (0 : Int) ≤ (k : Int) * k := by exact_mod_cast Nat.zero_le _
    have m1 : okMul 104729 k = true := okMul_l (by decide)
    have m2 : okMul (104729 * k) k = true := okMul_r (by simp; omega)
    have m3 : okMul 7919 k = true := okMul_l (by decide)
    have md := Int.emod_nonneg c (show (2147483629 : Int) ≠ 0 by decide)
    have ml := Int.emod_lt_of_pos c (show (0 : Int) < 2147483629 by decide)
    have e1 : (104729 * k * k : Int) = 104729 * (k * k) := Int.mul_assoc _ _ _
    have p1 : okPow (c % 2147483629 + 104729 * k * k + 7919 * k + 11) 3 = true := by
      unfold okPow
      rw [Bool.and_eq_true, Bool.and_eq_true]
      refine ⟨by decide, by decide, decide_eq_true ?_⟩
      rw [e1]
      omega
    have p2 : okPow 10 18 = true := by decide
    have m4 : ∀ (x : Int) (b : Bool), okMul x (b2i b) = true := fun x b => okMul_r (by cases b <;> decide)
    have ok2 : okLen 2 = true := by decide +kernel
    simp only [B8, evSL, evS, evE, evEL, evT, evBF, evBT, R.sat_bind, RS.sat_bind, R.sat_toS, evCmp, evOrd, op_add, op_mod (show (0 : Int) < 2147483629 by decide), op_mod (show (0 : Int) < 2147483647 by decide), op_mul m1, op_mul m2, op_mul m3, op_mul (m4 _ _), op_pow p1, op_pow p2, R.sat_ok, RS.sat_nxt, RS.sat_ret, List.getElem?_cons_zero, List.getElem?_cons_succ, List.length_cons, List.length_nil, List.set_cons_zero, List.set_cons_succ, Nat.reduceAdd, Nat.reduceLT, Nat.zero_add, ↓reduceIte]
    rw [if_pos ok2]
    refine ⟨rfl, _, _, ?_, ?_, rfl⟩
    · refine Int.mul_nonneg (by split <;> omega) ?_
      have nn : ∀ b : Bool, 0 ≤ b2i b := fun b => by cases b <;> decide
      exact nn _
    · exact Int.emod_nonneg _ (by decide)
  refine callN_sat H.f8 rfl rfl ?_
  have fin2 := fun c => (fin c).mono (N' := fun _ h' => (fun x h' => x = D.ref h.length ∧ ∃ A B : Int, 0 ≤ A ∧ 0 ≤ B ∧ h' = h ++ [⟨.lst [.int A, .int B], false⟩]) .non h') (fun _ _ q => q.elim) (fun _ _ q => q)
  have lenm : (ns.map D.int).length = ns.length := List.length_map _
  by_cases c1 : k < ns.length
  · have c1' : (k : Int) < ns.length := by omega
    have ix : atI (ns.map D.int) (k : Int) = some (.int ns[k]) := by
      unfold atI idxN
      rw [lenm, if_pos (by omega), if_pos c1']
      simp [c1]
    have f3 := fin2 ns[k]
    simp only [B8] at f3 ⊢
    simp [evBF, evCmp, evOrd, c1', evGet, insOf, evIdx, ix] at f3 ⊢
    exact f3
  · have c1' : ¬ (k : Int) < ns.length := by omega
    have f3 := fin2 0
    simp only [B8] at f3 ⊢
    simp [evBF, evCmp, evOrd, c1'] at f3 ⊢
    exact f3
end EvL
end
section
/-! L2: repr of data. -/
set_option linter.all false
set_option maxRecDepth 100000
set_option maxHeartbeats 1000000
namespace EvL
open PySem Ev
mutual
def pyOf : D → PyData
  | .bl b => .bool b
  | .int i => .int i
  | .str s => .str (asStr s)
  | .tup xs => .tuple (pyOfs xs)
  | .vl xs => .list (pyOfs xs)
  | .vd ks vs => .dict ((pyOfs ks).zip (pyOfs vs))
  | _ => .none
def pyOfs : List D → List PyData
  | [] => []
  | x :: r => pyOf x :: pyOfs r
end
mutual
/-- it can be shown -/
def D.rp : D → Bool
  | .non => true
  | .bl _ => true
  | .int i => decide (i.natAbs.log2 < 1920)
  | .str s => s.all fun c => decide (c < 16 ^ 8)
  | .tup xs => rps xs
  | .vl xs => rps xs
  | .vd ks vs => ks.all isKey && (decide (ks.length = vs.length) && (rps ks && rps vs))
  | _ => false
def rps : List D → Bool
  | [] => true
  | x :: r => D.rp x && rps r
end
mutual
def D.dep : D → Nat
  | .tup xs => deps xs + 1
  | .vl xs => deps xs + 1
  | .vd ks vs => max (deps ks) (deps vs) + 1
  | _ => 0
def deps : List D → Nat
  | [] => 0
  | x :: r => max (D.dep x) (deps r)
end
theorem toPyR_flat {h : Hp} {d : D} (n : Nat) (hd : isFlat d = true) : toPyR h n d = some (pyOf d) := by
  cases d <;> simp [isFlat] at hd <;> cases n <;> rfl
theorem rps_all : ∀ {xs : List D}, rps xs = true ↔ ∀ x ∈ xs, D.rp x = true
  | [] => by simp [rps]
  | a :: x => by simp [rps, rps_all (xs := x)]
theorem deps_le {n : Nat} : ∀ {xs : List D}, deps xs ≤ n ↔ ∀ x ∈ xs, D.dep x ≤ n
  | [] => by simp [deps]
  | a :: x => by simp [deps, deps_le (xs := x), Nat.max_le]
theorem pyOfs_map : ∀ (xs : List D), pyOfs xs = xs.map pyOf
  | [] => rfl
  | a :: x => by rw [pyOfs, pyOfs_map x]; rfl
theorem mapO_all {α β : Type} {f : α → Option β} {g : α → β} : ∀ {xs : List α}, (∀ x ∈ xs, f x = some (g x)) → mapO f xs = some (xs.map g)
  | [], _ => rfl
  | a :: r, h => by rw [mapO, h a List.mem_cons_self]; simp only []; rw [mapO_all fun x hx => h x (List.mem_cons_of_mem _ hx)]; rfl
theorem toPyR_of {h : Hp} : ∀ (n : Nat) (d : D), D.rp d = true → D.dep d ≤ n → toPyR h n d = some (pyOf d) := by
  intro n
  induction n with
  | zero =>
    intro d hr hd
    by_cases f : isFlat d = true
    · exact toPyR_flat 0 f
    · cases d <;> simp [D.rp, D.dep, isFlat] at hr hd f
  | succ n ih =>
    intro d hr hd
    by_cases f : isFlat d = true
    · exact toPyR_flat _ f
    · have all : ∀ xs, rps xs = true → deps xs ≤ n → mapO (toPyR h n) xs = some (pyOfs xs) := fun xs h1 h2 => by
        rw [pyOfs_map]
        exact mapO_all fun x hx => ih x (rps_all.mp h1 x hx) (deps_le.mp h2 x hx)
      cases d <;> simp [D.rp, D.dep, isFlat] at hr hd f
      · rename_i xs; rw [toPyR, all xs hr hd]; rfl
      · rename_i xs; rw [toPyR, all xs hr hd]; rfl
      · rename_i ks vs
        have hk : ks.all isKey = true := List.all_eq_true.mpr hr.1
        rw [toPyR, if_pos hk, all ks hr.2.2.1 (by omega), all vs hr.2.2.2 (by omega)]
        rfl
mutual
theorem rp_show : ∀ (d : D), D.rp d = true → (pyOf d).showable = true ∧ (pyOf d).leavesShort 1921 = true := by
  intro d h
  match d, h with
  | .non, _ => exact ⟨rfl, rfl⟩
  | .bl _, _ => exact ⟨rfl, rfl⟩
  | .int i, h =>
    rw [D.rp, decide_eq_true_eq] at h
    exact ⟨decide_eq_true h, decide_eq_true (PyProof.Rows.int_text_len_1921 h)⟩
  | .str s, h =>
    refine ⟨rfl, ?_⟩
    rw [D.rp] at h
    rw [pyOf, PyData.leavesShort]
    simpa [asStr] using h
  | .tup xs, h => rw [D.rp] at h; rw [pyOf]; exact rps_show xs h
  | .vl xs, h => rw [D.rp] at h; rw [pyOf]; exact rps_show xs h
  | .vd ks vs, h =>
    rw [D.rp, Bool.and_eq_true, Bool.and_eq_true, Bool.and_eq_true] at h
    obtain ⟨k1, k2⟩ := rps_show ks h.2.2.1
    obtain ⟨v1, v2⟩ := rps_show vs h.2.2.2
    rw [pyOf]
    have gen : ∀ (a b : List PyData), PyData.showableAll a = true → PyData.leavesShortAll 1921 a = true → PyData.showableAll b = true → PyData.leavesShortAll 1921 b = true → PyData.showableKv (a.zip b) = true ∧ PyData.leavesShortKv 1921 (a.zip b) = true := by
      intro a
      induction a with
      | nil => intro b _ _ _ _; exact ⟨rfl, rfl⟩
      | cons x r ih =>
        intro b h1 h2 h3 h4
        cases b with
        | nil => exact ⟨rfl, rfl⟩
        | cons y q =>
          simp only [PyData.showableAll, PyData.leavesShortAll, Bool.and_eq_true] at h1 h2 h3 h4
          obtain ⟨i1, i2⟩ := ih q h1.2 h2.2 h3.2 h4.2
          rw [List.zip_cons_cons, PyData.showableKv, PyData.leavesShortKv]
          simp [h1.1, h2.1, h3.1, h4.1, i1, i2]
    exact gen _ _ k1 k2 v1 v2
theorem rps_show : ∀ (ds : List D), rps ds = true → PyData.showableAll (pyOfs ds) = true ∧ PyData.leavesShortAll 1921 (pyOfs ds) = true := by
  intro ds h
  match ds, h with
  | [], _ => exact ⟨rfl, rfl⟩
  | d :: r, h =>
    rw [rps, Bool.and_eq_true] at h
    obtain ⟨h1, h2⟩ := rp_show d h.1
    obtain ⟨h3, h4⟩ := rps_show r h.2
    rw [pyOfs, PyData.showableAll, PyData.leavesShortAll, h1, h2, h3, h4]
    exact ⟨rfl, rfl⟩
end
/-- data that are shown in few signs -/
structure Rp (k w : Nat) (d : D) : Prop where
  rp : D.rp d = true
  dep : D.dep d ≤ k
  wt : (pyOf d).weight ≤ w
theorem repr_some {k w : Nat} {d : D} (r : Rp k w d) (hk : k ≤ 40) (hw : w ≤ 8000) (h : Hp) : reprD h d = some (ofStr (pyOf d).shown) := by
  obtain ⟨h1, h2⟩ := rp_show d r.rp
  have e := PyData.shown_le 1921 (by decide) (pyOf d) h2
  have hl : okLen (pyOf d).shown.length = true := by
    refine decide_eq_true ?_
    have := r.wt
    rw [sizeLine_eq]
    have h3 : (1921 + 2) * (pyOf d).weight ≤ 1923 * 8000 := Nat.mul_le_mul (by decide) (by omega)
    omega
  unfold reprD
  rw [toPyR_of dq d r.rp (by have := r.dep; show D.dep d ≤ 40; omega)]
  simp only [h1, hl, Bool.and_self, if_true]
theorem wts_le {w : Nat} : ∀ {xs : List D}, (∀ x ∈ xs, (pyOf x).weight ≤ w) → PyData.weightAll (pyOfs xs) ≤ (w + 1) * xs.length
  | [], _ => Nat.zero_le _
  | a :: r, h => by
    have h1 := h a List.mem_cons_self
    have h2 := wts_le (xs := r) fun x hx => h x (List.mem_cons_of_mem _ hx)
    rw [pyOfs, PyData.weightAll, List.length_cons, Nat.mul_succ]
    omega
theorem Rp.vl {k w : Nat} {xs : List D} (h : ∀ x ∈ xs, Rp k w x) : Rp (k + 1) ((w + 1) * xs.length) (.vl xs) :=
  ⟨by rw [D.rp]; exact rps_all.mpr fun x hx => (h x hx).rp, by rw [D.dep]; exact Nat.succ_le_succ (deps_le.mpr fun x hx => (h x hx).dep), by rw [pyOf, PyData.weight]; exact wts_le fun x hx => (h x hx).wt⟩
theorem Rp.tup {k w : Nat} {xs : List D} (h : ∀ x ∈ xs, Rp k w x) : Rp (k + 1) ((w + 1) * xs.length) (.tup xs) :=
  ⟨by rw [D.rp]; exact rps_all.mpr fun x hx => (h x hx).rp, by rw [D.dep]; exact Nat.succ_le_succ (deps_le.mpr fun x hx => (h x hx).dep), by rw [pyOf, PyData.weight]; exact wts_le fun x hx => (h x hx).wt⟩
theorem Rp.mono {k w k' w' : Nat} {d : D} (r : Rp k w d) (h1 : k ≤ k') (h2 : w ≤ w') : Rp k' w' d := ⟨r.rp, Nat.le_trans r.dep h1, Nat.le_trans r.wt h2⟩
theorem Rp.str {s : List Nat} (h : s.all (fun c => decide (c < 16 ^ 8)) = true) : Rp 0 s.length (.str s) := ⟨by rw [D.rp]; exact h, Nat.zero_le _, by rw [pyOf, PyData.weight]; simp [asStr]⟩
theorem Rp.int {i : Int} {k : Nat} (hk : k ≤ 1920) (h : i.natAbs.log2 < k) : Rp 0 k (.int i) := ⟨decide_eq_true (by omega), Nat.zero_le _, by
  show (if i == 0 then 0 else i.natAbs.log2 + 1) ≤ k
  split <;> omega⟩
theorem Rp.bl (b : Bool) : Rp 0 0 (.bl b) := ⟨rfl, Nat.zero_le _, Nat.le_refl _⟩
theorem Rp.non : Rp 0 0 .non := ⟨rfl, Nat.zero_le _, Nat.le_refl _⟩
end EvL
end
section
/-! k10: the law's own defs. -/
set_option linter.all false
set_option maxRecDepth 100000
set_option maxHeartbeats 1000000
namespace EvL
open PySem Ev
/-- _law_words -/
def B10 : SL := (.cons (.ret (.met (.con (.str [108, 97, 115, 116, 32, 119, 104, 101, 114, 101, 32, 119, 105, 116, 104, 32, 107, 101, 101, 112, 32, 114, 101, 110, 97, 109, 101, 32, 106, 111, 105, 110, 32, 117, 110, 105, 111, 110, 32, 109, 105, 110, 117, 115, 32, 103, 114, 111, 117, 112, 32, 99, 111, 117, 110, 116, 32, 115, 117, 109, 32, 108, 101, 97, 115, 116, 32, 103, 114, 101, 97, 116, 101, 115, 116, 32, 97, 110, 100, 32, 111, 114, 32, 110, 111, 116, 32, 116, 111, 100, 97, 121])) 16 (.cons false (.con (.str [32])) .nil))) .nil)
/-- _law_is_name -/
def B11 : SL := (.cons (.if_ (.or (.not (.bf .isi (.cons false (.loc 0) (.cons false (.con (.ty 2)) .nil)))) (.or (.cmp .in_ (.loc 0) (.call 10 .nil)) (.not (.cmp2 .le .le (.con (.int 1)) (.bf .len (.cons false (.loc 0) .nil)) (.con (.int 8)))))) (.cons (.ret (.con (.bl false))) .nil) .nil) (.cons (.ret (.cmp .eq (.lc false [1] (.loc 1) (.loc 1) (.it (.loc 0)) (.cons false (.not (.cmp2 .le .le (.con (.str [97])) (.loc 1) (.con (.str [122])))) .nil)) (.lst false .nil))) .nil))
/-- _law_kind -/
def B12 : SL := (.cons (.if_ (.bf .isi (.cons false (.loc 0) (.cons false (.con (.ty 2)) .nil))) (.cons (.asg (.loc 1) (.lc false [2] (.loc 2) (.loc 2) (.it (.loc 0)) (.cons false (.or (.cmp2 .le .le (.con (.str [97])) (.loc 2) (.con (.str [122]))) (.or (.cmp2 .le .le (.con (.str [48])) (.loc 2) (.con (.str [57]))) (.cmp .eq (.loc 2) (.con (.str [32]))))) .nil))) (.cons (.ret (.ite (.cmp2 .eq .le (.bf .len (.cons false (.loc 1) .nil)) (.bf .len (.cons false (.loc 0) .nil)) (.con (.int 20))) (.con (.str [116, 101, 120, 116])) (.con .non))) .nil)) .nil) (.cons (.ret (.ite (.and (.bf .isi (.cons false (.loc 0) (.cons false (.con (.ty 0)) .nil))) (.not (.bf .isi (.cons false (.loc 0) (.cons false (.con (.ty 1)) .nil))))) (.con (.str [110, 117, 109, 98, 101, 114])) (.con .non))) .nil))
/-- _law_is_column -/
def B13 : SL := (.cons (.if_ (.or (.not (.bf .isi (.cons false (.loc 0) (.cons false (.con (.ty 4)) .nil)))) (.or (.cmp .ne (.bf .len (.cons false (.loc 0) .nil)) (.con (.int 2))) (.not (.call 11 (.cons false (.idx (.loc 0) (.con (.int 0))) .nil))))) (.cons (.ret (.con (.bl false))) .nil) .nil) (.cons (.ret (.and (.bf .isi (.cons false (.idx (.loc 0) (.con (.int 1))) (.cons false (.con (.ty 2)) .nil))) (.cmp .in_ (.idx (.loc 0) (.con (.int 1))) (.lst false (.cons false (.con (.str [110, 117, 109, 98, 101, 114])) (.cons false (.con (.str [116, 101, 120, 116])) .nil)))))) .nil))
/-- _law_is_columns -/
def B14 : SL := (.cons (.if_ (.or (.not (.bf .isi (.cons false (.loc 0) (.cons false (.con (.ty 3)) .nil)))) (.not (.cmp2 .le .le (.con (.int 1)) (.bf .len (.cons false (.loc 0) .nil)) (.con (.int 10))))) (.cons (.ret (.con (.bl false))) .nil) .nil) (.cons (.if_ (.cmp .ne (.lc false [1] (.loc 1) (.loc 1) (.it (.loc 0)) (.cons false (.not (.call 13 (.cons false (.loc 1) .nil))) .nil)) (.lst false .nil)) (.cons (.ret (.con (.bl false))) .nil) .nil) (.cons (.ret (.cmp .eq (.uln (.lc false [1] (.idx (.loc 1) (.con (.int 0))) (.loc 1) (.it (.loc 0)) .nil)) (.bf .len (.cons false (.loc 0) .nil)))) .nil)))
/-- _law_is_row -/
def B15 : SL := (.cons (.if_ (.or (.not (.bf .isi (.cons false (.loc 0) (.cons false (.con (.ty 4)) .nil)))) (.cmp .ne (.bf .len (.cons false (.loc 0) .nil)) (.bf .len (.cons false (.loc 1) .nil)))) (.cons (.ret (.con (.bl false))) .nil) .nil) (.cons (.ret (.cmp .eq (.lc false [2] (.call 12 (.cons false (.loc 2) .nil)) (.loc 2) (.it (.loc 0)) .nil) (.lc false [3, 4] (.loc 4) (.tup (.cons (.loc 3) (.cons (.loc 4) .nil))) (.it (.loc 1)) .nil))) .nil))
/-- _law_odd -/
def B16 : SL := (.cons (.asg (.loc 1) (.lst false (.cons false (.con .non) (.cons false (.con (.bl true)) (.cons false (.con (.bl false)) (.cons false (.con (.str [])) (.cons false (.con (.str [65])) (.cons false (.con (.str [97, 49])) (.cons false (.con (.str [97, 32, 98])) (.cons false (.con (.str [97, 126])) (.cons false (.con (.str [110, 105, 110, 101, 115, 105, 103, 110, 115])) (.cons false (.con (.str [115, 117, 109])) (.cons false (.con (.str [116, 111, 100, 97, 121])) (.cons false (.tup .nil) (.cons false (.lst false .nil) (.cons false (.dic false .nil) (.cons false (.tup (.cons false (.con (.str [97])) .nil)) (.cons false (.lst false (.cons false (.con (.str [97])) .nil)) .nil)))))))))))))))))) (.cons (.asg (.loc 1) (.bin .add (.loc 1) (.lst false (.cons false (.neg (.con (.int 1))) (.cons false (.con (.int 999)) (.cons false (.con (.int 1000)) (.cons false (.bin .pow (.con (.int 10)) (.con (.int 39))) (.cons false (.bin .mul (.con (.str [97])) (.con (.int 20))) (.cons false (.bin .mul (.con (.str [97])) (.con (.int 21))) (.cons false (.con (.str [48])) (.cons false (.con (.str [97, 95, 98])) (.cons false (.con (.str [97, 10])) (.cons false (.con (.str [32])) (.cons false (.con (.str [101, 105, 103, 104, 116])) (.cons false (.con (.str [97, 98, 99, 100, 101, 102, 103, 104])) (.cons false (.tup (.cons false (.con (.str [97])) (.cons false (.con (.str [116, 101, 120, 116])) .nil))) .nil)))))))))))))))) (.cons (.ret (.idx (.loc 1) (.call 9 (.cons false (.loc 0) (.cons false (.con (.int 29)) .nil))))) .nil)))
/-- _law_bent -/
def B17 : SL := (.cons (.par [2, 3] (.cons false (.call 9 (.cons false (.loc 0) (.cons false (.bf .len (.cons false (.loc 1) .nil)) .nil))) (.cons false (.call 16 (.cons false (.loc 0) .nil)) .nil))) (.cons (.asg (.loc 4) (.lst false (.cons false (.bin .add (.bin .add (.sli (.loc 1) .no (.yes (.loc 2))) (.lst false (.cons false (.loc 3) .nil))) (.sli (.loc 1) (.yes (.bin .add (.loc 2) (.con (.int 1)))) .no)) (.cons false (.bin .add (.sli (.loc 1) .no (.yes (.loc 2))) (.sli (.loc 1) (.yes (.bin .add (.loc 2) (.con (.int 1)))) .no)) (.cons false (.bin .add (.loc 1) (.lst false (.cons false (.idx (.loc 1) (.loc 2)) .nil))) (.cons false (.loc 1) .nil)))))) (.cons (.ret (.idx (.loc 4) (.call 9 (.cons false (.loc 0) (.cons false (.con (.int 4)) .nil))))) .nil)))
/-- _law_right -/
def B18 : SL := (.cons (.asg (.loc 2) (.lst false (.cons false (.call 1 (.cons false (.loc 1) .nil)) (.cons false (.call 2 (.cons false (.loc 1) .nil)) (.cons false (.call 4 (.cons false (.loc 1) .nil)) (.cons false (.call 6 (.cons false (.loc 1) .nil)) (.cons false (.call 7 (.cons false (.loc 1) (.cons false (.loc 0) .nil))) .nil))))))) (.cons (.asg (.loc 3) (.and (.cmp .eq (.call 12 (.cons false (.loc 1) .nil)) (.con (.str [110, 117, 109, 98, 101, 114]))) (.cmp2 .le .le (.con (.int 0)) (.loc 1) (.con (.int 999))))) (.cons (.asg (.loc 4) (.lst false (.cons false (.call 11 (.cons false (.loc 1) .nil)) (.cons false (.cmp .isn (.call 12 (.cons false (.loc 1) .nil)) (.con .non)) (.cons false (.loc 3) (.cons false (.call 14 (.cons false (.loc 1) .nil)) (.cons false (.call 15 (.cons false (.loc 1) (.cons false (.loc 0) .nil))) .nil))))))) (.cons (.ret (.cmp .eq (.bf .repr (.cons false (.loc 2) .nil)) (.bf .repr (.cons false (.loc 4) .nil)))) .nil))))
/-- law -/
def B19 : SL := (.cons (.for_ (.loc 1) (.rng (.cons false (.bf .max (.cons false (.con (.int 1)) (.cons false (.bf .min (.cons false (.bf .len (.cons false (.loc 0) .nil)) (.cons false (.con (.int 6)) .nil))) .nil))) .nil)) (.cons (.asg (.loc 2) (.call 8 (.cons false (.loc 0) (.cons false (.loc 1) .nil)))) (.cons (.asg (.loc 3) (.lc false [4] (.bin .add (.loc 4) (.bin .mul (.con (.str [120])) (.call 9 (.cons false (.loc 2) (.cons false (.con (.int 8)) .nil))))) (.loc 4) (.it (.sli (.con (.str [97, 98, 99, 100, 101, 102, 103, 104, 105, 106, 107])) .no (.yes (.bin .add (.con (.int 1)) (.call 9 (.cons false (.loc 2) (.cons false (.con (.int 11)) .nil))))))) .nil)) (.cons (.asg (.loc 5) (.lc false [6] (.tup (.cons false (.loc 6) (.cons false (.idx (.lst false (.cons false (.con (.str [110, 117, 109, 98, 101, 114])) (.cons false (.con (.str [116, 101, 120, 116])) .nil))) (.call 9 (.cons false (.loc 2) (.cons false (.con (.int 2)) .nil)))) .nil))) (.loc 6) (.it (.loc 3)) .nil)) (.cons (.asg (.loc 7) (.lst true .nil)) (.cons (.for_ (.tup (.cons (.loc 6) (.cons (.loc 8) .nil))) (.it (.loc 5)) (.cons (.ex (.met (.loc 7) 10 (.cons false (.ite (.cmp .eq (.loc 8) (.con (.str [116, 101, 120, 116]))) (.idx (.lst false (.cons false (.con (.str [116, 101, 97])) (.cons false (.con (.str [])) (.cons false (.con (.str [97, 32, 49])) .nil)))) (.call 9 (.cons false (.loc 2) (.cons false (.con (.int 3)) .nil)))) (.bin .sub (.call 9 (.cons false (.loc 2) (.cons false (.con (.int 99)) .nil))) (.con (.int 50)))) .nil))) .nil)) (.cons (.for_ (.loc 9) (.rng (.cons false (.con (.int 8)) .nil)) (.cons (.asg (.loc 10) (.call 17 (.cons false (.loc 2) (.cons false (.loc 5) .nil)))) (.cons (.asg (.loc 11) (.bf .repr (.cons false (.loc 10) .nil))) (.cons (.if_ (.or (.not (.call 18 (.cons false (.sli (.loc 5) .no (.yes (.con (.int 10)))) (.cons false (.loc 10) .nil)))) (.not (.call 18 (.cons false (.sli (.loc 5) .no (.yes (.con (.int 10)))) (.cons false (.bt .tuple (.cons false (.call 17 (.cons false (.loc 2) (.cons false (.sli (.loc 7) .no (.yes (.con (.int 10)))) .nil))) .nil)) .nil))))) (.cons (.ret (.con (.bl false))) .nil) .nil) (.cons (.asg (.loc 12) (.bt .tuple (.cons false (.call 17 (.cons false (.loc 2) (.cons false (.lst false (.cons false (.con (.str [110, 97, 109, 101])) (.cons false (.con (.str [116, 101, 120, 116])) .nil))) .nil))) .nil))) (.cons (.if_ (.or (.not (.call 18 (.cons false (.sli (.loc 5) .no (.yes (.con (.int 10)))) (.cons false (.bin .add (.lst false (.cons false (.loc 12) .nil)) (.sli (.loc 5) (.yes (.con (.int 1))) .no)) .nil)))) (.cmp .ne (.bf .repr (.cons false (.loc 10) .nil)) (.loc 11))) (.cons (.ret (.con (.bl false))) .nil) .nil) (.cons (.if_ (.not (.call 18 (.cons false (.sli (.loc 5) .no (.yes (.con (.int 10)))) (.cons false (.call 16 (.cons false (.loc 2) .nil)) .nil)))) (.cons (.ret (.con (.bl false))) .nil) .nil) .nil))))))) .nil))))))) (.cons (.ret (.cmp .eq (.lc false [13] (.loc 13) (.loc 13) (.it (.call 10 .nil)) (.cons false (.cmp .isn (.call 1 (.cons false (.loc 13) .nil)) (.con (.bl false))) .nil)) (.lst false .nil))) .nil))
/-- the law's own defs -/
structure HasK (P : Prog) : Prop extends HasV P, HasP P where
  f10 : P.fn 10 = some ⟨0, 0, [], B10, false⟩
  f11 : P.fn 11 = some ⟨1, 2, [], B11, false⟩
  f12 : P.fn 12 = some ⟨1, 3, [], B12, false⟩
  f13 : P.fn 13 = some ⟨1, 1, [], B13, false⟩
  f14 : P.fn 14 = some ⟨1, 2, [], B14, false⟩
  f15 : P.fn 15 = some ⟨2, 5, [], B15, false⟩
  f16 : P.fn 16 = some ⟨1, 2, [], B16, false⟩
  f17 : P.fn 17 = some ⟨2, 5, [], B17, false⟩
  f18 : P.fn 18 = some ⟨2, 5, [], B18, false⟩
  f19 : P.fn 19 = some ⟨1, 14, [], B19, false⟩
variable {P : Prog} {n : Nat} {h : Hp} {d : D}
theorem law_words_eq (H : HasK P) : callN P (n + 1) 10 [] h = .ok (.vl wordsD) h := by
  refine R.eq_of (callN_sat H.f10 rfl rfl ?_)
  simp [B10, callee, evCallM, evMetS, mSplit]
  rw [if_pos (by decide +kernel)]
  exact ⟨by decide +kernel, rfl⟩
theorem mem_lets (c : Nat) : decide (c ∈ lets) = (decide (97 ≤ c) && decide (c ≤ 122)) := by
  have e : lets = (List.range 26).map (· + 97) := by decide +kernel
  rw [e, Bool.eq_iff_iff]
  simp
  constructor
  · rintro ⟨a, h1, rfl⟩; omega
  · intro ⟨h1, h2⟩; exact ⟨c - 97, by omega, by omega⟩
theorem mem_sgns (c : Nat) : decide (c ∈ sgns) = ((decide (97 ≤ c) && decide (c ≤ 122)) || ((decide (48 ≤ c) && decide (c ≤ 57)) || decide (c = 32))) := by
  have e : sgns = (List.range 26).map (· + 97) ++ ((List.range 10).map (· + 48) ++ [32]) := by decide +kernel
  rw [e, Bool.eq_iff_iff]
  simp
  constructor
  · rintro (⟨a, h1, rfl⟩ | ⟨a, h1, rfl⟩ | rfl) <;> omega
  · rintro (⟨h1, h2⟩ | ⟨h1, h2⟩ | rfl)
    · exact .inl ⟨c - 97, by omega, by omega⟩
    · exact .inr (.inl ⟨c - 48, by omega, by omega⟩)
    · exact .inr (.inr rfl)
@[simp] theorem le_ch (a b : Nat) : evOrd .le (.str [a]) (.str [b]) = some (decide (a ≤ b)) := by
  simp only [evOrd, ltList]
  by_cases h1 : b < a
  · rw [if_pos h1, decide_eq_false (by omega)]; rfl
  · rw [if_neg h1]
    by_cases h2 : b = a
    · rw [if_pos h2, decide_eq_true (by omega)]; rfl
    · rw [if_neg h2, decide_eq_true (by omega)]; rfl
@[simp] theorem dq_nil {xs : List D} : deq h dq (.vl xs) (.vl []) = some xs.isEmpty := by
  show (match shp h (.vl xs), shp h (.vl []) with
    | some .flat, some .flat => eqFlat (.vl xs) (.vl [])
    | some (.tup xs), some (.tup ys) => eqAll (deq h 39) xs ys
    | some (.lst xs), some (.lst ys) => eqAll (deq h 39) xs ys
    | some _, some _ => some false
    | _, _ => none) = _
  cases xs <;> rfl
@[simp] theorem ok0 : okLen 0 = true := by decide +kernel
@[simp] theorem ok2 : okLen 2 = true := by decide +kernel
theorem empty_not {p : D → Bool} : ∀ {xs : List D}, (xs.filterMap fun y => if p y then none else some y).isEmpty = xs.all p
  | [] => rfl
  | y :: r => by
    rw [List.filterMap_cons, List.all_cons]
    cases q : p y with
    | true => simp [empty_not]
    | false => simp
theorem empty_chars {s : List Nat} {p : Nat → Bool} : ((s.map fun c => D.str [c]).filterMap (fun d => match d with | .str [c] => if p c then none else some d | _ => none)).isEmpty = s.all p := by
  induction s with
  | nil => rfl
  | cons c r ih =>
    rw [List.map_cons, List.filterMap_cons, List.all_cons]
    cases q : p c with
    | true => simp [q]; simpa using ih
    | false => simp [q]
theorem law_is_name_eq (H : HasK P) (hd : D.dat d = true) : callN P (n + 2) 11 [d] h = .ok (.bl (nm d)) h := by
  refine R.eq_of (callN_sat H.f11 rfl rfl ?_)
  obtain ⟨t0, t1, t2, t3, t4, t5⟩ := ins_ty (P := P) (h := h) hd
  have ew := law_words_eq (n := n) (h := h) H
  cases d <;> try (simp [D.dat] at hd; done)
  case str s =>
    have hz : okLen s.length = true := hd
    have aw := any_strs (h := h) (s := s) (ws := wordsD) (by decide +kernel)
    show (evSL _ _ _ _ _).sat _ fun x h' => x = .bl (nmS s) ∧ h' = h
    unfold nmS
    generalize (wordsD.any fun w => decide (w = .str s)) = wb at aw ⊢
    cases wb with
    | true => simp [B11, t2, isS, hz, ew, Ev.plain, aw]
    | false =>
      by_cases c1 : 1 ≤ s.length
      · have c1' : (1 : Int) ≤ s.length := by omega
        by_cases c2 : s.length ≤ 8
        · have c2' : (s.length : Int) ≤ 8 := by omega
          simp [B11, t2, isS, hz, ew, Ev.plain, aw, c1', c2', c1, c2]
          refine lc_seq _ (fun d => match d with | .str [c] => if decide (c ∈ lets) then none else some d | _ => none) (by simpa using hz) (fun d hd => ?_) ?_
          · obtain ⟨c, hc, rfl⟩ := List.mem_map.mp hd
            have m := mem_lets c
            by_cases q1 : 97 ≤ c
            · by_cases q2 : c ≤ 122 <;> simp [wipe, q1, q2, m]
            · simp [wipe, q1, m]
          · have em := empty_chars (s := s) (p := fun c => decide (c ∈ lets))
            generalize ((s.map fun c => D.str [c]).filterMap (fun d => match d with | .str [c] => if decide (c ∈ lets) then none else some d | _ => none)) = xs at em ⊢
            simp [evEq, em]
        · have c2' : ¬ (s.length : Int) ≤ 8 := by omega
          simp [B11, t2, isS, hz, ew, Ev.plain, aw, c1', c2', c1, c2]
      · have c1' : ¬ (1 : Int) ≤ s.length := by omega
        simp [B11, t2, isS, hz, ew, Ev.plain, aw, c1', c1]
  all_goals simp [B11, t2, isS, nm]
/-- the law's kind -/
def lkd (d : D) : D := if vl d then kdOf d else .non
theorem fm_len_all {s : List Nat} {p : Nat → Bool} : decide (((s.map fun c => D.str [c]).filterMap (fun d => match d with | .str [c] => if p c then some d else none | _ => none)).length = s.length) = s.all p ∧ ((s.map fun c => D.str [c]).filterMap (fun d => match d with | .str [c] => if p c then some d else none | _ => none)).length ≤ s.length := by
  induction s with
  | nil => exact ⟨rfl, Nat.le_refl _⟩
  | cons c r ih =>
    rw [List.map_cons, List.filterMap_cons, List.length_cons, List.all_cons]
    cases q : p c with
    | true =>
      simp only [q, if_true, List.length_cons, Bool.true_and]
      rw [← ih.1]
      refine ⟨?_, by omega⟩
      by_cases z : ((r.map fun c => D.str [c]).filterMap (fun d => match d with | .str [c] => if p c then some d else none | _ => none)).length = r.length
      · rw [decide_eq_true z, decide_eq_true (by omega)]
      · rw [decide_eq_false z, decide_eq_false (by omega)]
    | false =>
      simp only [q, Bool.false_eq_true, if_false, Bool.false_and]
      exact ⟨decide_eq_false (by omega), by omega⟩
theorem law_kind_eq (H : HasK P) (hd : D.dat d = true) : callN P (n + 1) 12 [d] h = .ok (lkd d) h := by
  refine R.eq_of (callN_sat H.f12 rfl rfl ?_)
  obtain ⟨t0, t1, t2, t3, t4, t5⟩ := ins_ty (P := P) (h := h) hd
  cases d <;> try (simp [D.dat] at hd; done)
  case str s =>
    have hz : okLen s.length = true := hd
    simp [B12, t2, isS]
    refine lc_seq _ (fun d => match d with | .str [c] => if decide (c ∈ sgns) then some d else none | _ => none) (by simpa using hz) (fun d hd => ?_) ?_
    · obtain ⟨c, hc, rfl⟩ := List.mem_map.mp hd
      have m := mem_sgns c
      simp only [m]
      by_cases z : c = 32
      · subst z; simp [wipe, evEq]
      · by_cases a1 : 97 ≤ c <;> by_cases a2 : c ≤ 122 <;> by_cases a3 : 48 ≤ c <;> by_cases a4 : c ≤ 57 <;> simp [wipe, evEq, z, a1, a2, a3, a4]
    · obtain ⟨q, le⟩ := fm_len_all (s := s) (p := fun c => decide (c ∈ sgns))
      generalize ((s.map fun c => D.str [c]).filterMap (fun d => match d with | .str [c] => if decide (c ∈ sgns) then some d else none | _ => none)) = xs at q le ⊢
      have e : lkd (.str s) = if decide (s.length ≤ 20) && decide (xs.length = s.length) then kText else .non := by
        unfold lkd
        show (if vlS s then kText else .non) = _
        unfold vlS
        rw [q]
      rw [e]
      by_cases c1 : xs.length = s.length
      · have c1' : (xs.length : Int) = s.length := by omega
        by_cases c2 : s.length ≤ 20
        · have c2' : (s.length : Int) ≤ 20 := by omega
          simp [hz, evEq, c1, c1', c2, c2']
        · have c2' : ¬ (s.length : Int) ≤ 20 := by omega
          simp [hz, evEq, c1, c1', c2, c2']
      · have c1' : ¬ (xs.length : Int) = s.length := by omega
        simp [hz, evEq, c1, c1']
  all_goals simp [B12, t0, t1, t2, isS, isI, isB, lkd, vl, kdOf]
theorem law_is_column_eq (H : HasK P) (hd : D.dat d = true) : callN P (n + 3) 13 [d] h = .ok (.bl (col d)) h := by
  refine R.eq_of (callN_sat H.f13 rfl rfl ?_)
  obtain ⟨t0, t1, t2, t3, t4, t5⟩ := ins_ty (P := P) (h := h) hd
  cases d <;> try (simp [D.dat] at hd; done)
  case tup xs =>
    rw [D.dat] at hd
    match xs, hd with
    | [], _ => simp [B13, t4, isT, evEq, col]
    | [_], _ => simp [B13, t4, isT, evEq, col]
    | [a, b], hd =>
      simp only [dats, Bool.and_eq_true] at hd
      have en := law_is_name_eq (n := n) (h := h) H hd.1
      obtain ⟨_, _, u2, _⟩ := ins_ty (P := P) (h := h) hd.2.1
      have i0 : atI [a, b] 0 = some a := rfl
      have i1 : atI [a, b] 1 = some b := rfl
      cases q : nm a with
      | false => simp [B13, t4, isT, evEq, i0, i1, en, q, plain_bl, col]
      | true =>
        have hb := hd.2.1
        cases b <;> try (simp [D.dat] at hb; done)
        case str s => simp [B13, t4, isT, evEq, i0, i1, en, q, plain_bl, col, u2, isS, any_kinds]
        all_goals simp [B13, t4, isT, evEq, i0, i1, en, q, plain_bl, col, u2, isS]
    | a :: b :: c :: r, _ =>
      have : ¬ ((r.length : Int) + 1 + 1 + 1 = 2) := by omega
      simp [B13, t4, isT, evEq, col, this]
  all_goals simp [B13, t4, isT, col]
theorem law_is_columns_eq (H : HasK P) (hd : D.dat d = true) : callN P (n + 4) 14 [d] h = .ok (.bl (cols d)) h := by
  refine R.eq_of (callN_sat H.f14 rfl rfl ?_)
  obtain ⟨t0, t1, t2, t3, t4, t5⟩ := ins_ty (P := P) (h := h) hd
  cases d <;> try (simp [D.dat] at hd; done)
  case vl xs =>
    rw [D.dat, dats_all] at hd
    show (evSL _ _ _ _ _).sat _ fun x h' => x = .bl (colsL xs) ∧ h' = h
    unfold colsL
    by_cases c1 : 1 ≤ xs.length
    · have c1' : (1 : Int) ≤ xs.length := by omega
      by_cases c2 : xs.length ≤ 10
      · have c2' : (xs.length : Int) ≤ 10 := by omega
        have okl : okLen xs.length = true := decide_eq_true (by unfold sizeLine; omega)
        simp [B14, t3, isL, c1, c2, c1', c2']
        refine lc_seq xs (fun y => if col y then none else some y) okl (fun y hy => ?_) ?_
        · cases q : col y <;> simp [wipe, law_is_column_eq (n := n) (h := h) H (hd y hy), plain_bl, q]
        · have em := empty_not (p := col) (xs := xs)
          generalize (xs.filterMap fun y => if col y then none else some y) = ys at em ⊢
          cases q : xs.all col with
          | false => rw [q] at em; simp [evEq, em, q]
          | true =>
            rw [q] at em
            simp [evEq, em, q]
            refine lc_seq xs (fun y => some (fstD y)) okl (fun y hy => ?_) ?_
            · obtain ⟨a, b, rfl, _, k, _⟩ := col_key (List.all_eq_true.mp q y hy)
              have i0 : atI [a, b] 0 = some a := rfl
              simp [wipe, fstD, i0]
            · rw [fm_some]
              have ky : (xs.map fstD).all isKey = true := by
                rw [List.all_map, List.all_eq_true]
                intro y hy
                obtain ⟨a, b, rfl, _, k, _⟩ := col_key (List.all_eq_true.mp q y hy)
                exact k
              have ln : (xs.map fstD).length = xs.length := List.length_map _
              generalize xs.map fstD = zs at ky ln ⊢
              have lt : zs.length < 4000 := by omega
              simp only [lsR_f, R.sat_ok, lst_vl, ky, lt, decide_true, Bool.and_self, if_true]
              simp [evEq]
              have z : ((firsts zs).length : Int) = xs.length ↔ (firsts zs).length = xs.length := by omega
              rw [if_pos (List.all_eq_true.mp ky)]
              simp [z]
      · have c2' : ¬ (xs.length : Int) ≤ 10 := by omega
        simp [B14, t3, isL, c1, c2, c1', c2']
    · have c1' : ¬ (1 : Int) ≤ xs.length := by omega
      simp [B14, t3, isL, c1, c1']
  all_goals simp [B14, t3, isL, cols]
/-- lists of texts and Nones -/
theorem eqAll_kinds : ∀ {xs ks : List D}, (∀ k ∈ ks, k = kText ∨ k = kNum) → eqAll (deq h 39) (xs.map lkd) ks = some (rowK xs ks) := by
  have one : ∀ (x k : D), k = kText ∨ k = kNum → deq h 39 (lkd x) k = some (vl x && decide (kdOf x = k)) := by
    intro x k hk
    unfold lkd
    cases q : vl x with
    | false => rw [if_neg (by simp)]; rcases hk with rfl | rfl <;> rfl
    | true =>
      rw [if_pos rfl]
      unfold kdOf
      cases isS x <;> rcases hk with rfl | rfl <;> first | rfl | (show some _ = some _; decide)
  intro xs
  induction xs with
  | nil => intro ks hk; cases ks <;> simp [eqAll, rowK]
  | cons x r ih =>
    intro ks hk
    cases ks with
    | nil => simp [eqAll, rowK]
    | cons k q =>
      rw [List.map_cons, eqAll, one x k (hk k List.mem_cons_self), ih fun z hz => hk z (List.mem_cons_of_mem _ hz)]
      unfold rowK
      simp only [List.length_cons, List.zip_cons_cons, List.all_cons, Nat.add_right_cancel_iff]
      cases vl x <;> cases decide (kdOf x = k) <;> simp
theorem dq_lists {xs ys : List D} : deq h dq (.vl xs) (.vl ys) = eqAll (deq h 39) xs ys := rfl
/-- columns as the law draws them -/
def colk : D → Bool
  | .tup [.str s, k] => okLen s.length && decide (k = kText ∨ k = kNum)
  | _ => false
theorem colk_pair {d : D} (h : colk d = true) : pairB2 d = true ∧ (knd d = kText ∨ knd d = kNum) ∧ D.dat d = true ∧ ∃ s k, d = .tup [.str s, k] := by
  unfold colk at h
  split at h
  · rename_i s k
    rw [Bool.and_eq_true, decide_eq_true_eq] at h
    refine ⟨?_, h.2, ?_, s, k, rfl⟩
    · rcases h.2 with rfl | rfl <;> exact h.1
    · have : D.dat k = true := by rcases h.2 with rfl | rfl <;> decide +kernel
      simp [D.dat, dats, h.1, this]
  · cases h
theorem law_is_row_eq (H : HasK P) (hd : D.dat d = true) {cs : List D} (hc : cs.all colk = true) (hn : okLen cs.length = true) : callN P (n + 2) 15 [d, .vl cs] h = .ok (.bl (rowOk d (cs.map knd))) h := by
  refine R.eq_of (callN_sat H.f15 rfl rfl ?_)
  obtain ⟨t0, t1, t2, t3, t4, t5⟩ := ins_ty (P := P) (h := h) hd
  cases d <;> try (simp [D.dat] at hd; done)
  case tup xs =>
    rw [D.dat, dats_all] at hd
    show (evSL _ _ _ _ _).sat _ fun x h' => x = .bl (rowK xs (cs.map knd)) ∧ h' = h
    by_cases c1 : xs.length = cs.length
    · have c1' : (xs.length : Int) = cs.length := by omega
      simp [B15, t4, isT, evEq, c1, c1']
      have okl : okLen xs.length = true := by rw [c1]; exact hn
      refine lc_seq xs (fun x => some (lkd x)) okl (fun x hx => ?_) ?_
      · have e1 := law_kind_eq (n := n) (h := h) H (hd x hx)
        have e2 : ∀ h', Ev.plain (.ok (lkd x) h') = .ok (lkd x) h' := fun h' => by
          unfold lkd kdOf
          split
          · split <;> rfl
          · rfl
        simp [wipe, e1, e2]
      · simp
        refine lc_seq cs (fun c => some (knd c)) hn (fun c hc' => ?_) ?_
        · obtain ⟨_, _, _, s, k, rfl⟩ := colk_pair (List.all_eq_true.mp hc c hc')
          simp [wipe, knd]
        · simp only [List.filterMap_eq_map', dq_lists] 
          rw [eqAll_kinds fun k hk => ?_]
          · simp
          · obtain ⟨c, hc', rfl⟩ := List.mem_map.mp hk
            exact (colk_pair (List.all_eq_true.mp hc c hc')).2.1
    · have c1' : ¬ (xs.length : Int) = cs.length := by omega
      simp [B15, t4, isT, evEq, c1, c1', rowK]
  all_goals simp [B15, t4, isT, rowOk]
end EvL
end
section
/-! k10: odd values, bent lists, the law's comparison. -/
set_option linter.all false
set_option maxRecDepth 100000
set_option maxHeartbeats 1000000
namespace EvL
open PySem Ev
variable {P : Prog} {n : Nat} {h : Hp} {d : D}
/-- a draw in a text -/
theorem take_then (H : HasP P) {p : Nat} {m : Int} (hp : Pool h p) (hm : 0 < m) (hs : m < 2 ^ 60) {Q : D → Hp → Prop} (q : ∀ r h', 0 ≤ r → r < m → Pool h' p → Kp p h h' → Q (.int r) h') : (Ev.plain (callN P (n + 1) 9 [.ref p, .int m] h)).sat Q := by
  obtain ⟨x, h', e, ⟨r, rfl, h1, h2⟩, h3, h4⟩ := (take_sat (n := n) H hp hm hs).ok
  rw [e]
  exact q r h' h1 h2 h3 h4
theorem at_mem {xs : List D} {r : Int} (h0 : 0 ≤ r) (h1 : r < xs.length) : ∃ v ∈ xs, atI xs r = some v := by
  have h2 : r.toNat < xs.length := by omega
  refine ⟨xs[r.toNat], List.getElem_mem h2, ?_⟩
  unfold atI idxN
  rw [if_pos h0, if_pos h1]
  simp [h2]
def oddL : List D := [.non, .bl true, .bl false, .str [], .str [65], .str [97, 49], .str [97, 32, 98], .str [97, 126], .str [110, 105, 110, 101, 115, 105, 103, 110, 115], .str [115, 117, 109], .str [116, 111, 100, 97, 121], .tup [], .vl [], .vd [] [], .tup [.str [97]], .vl [.str [97]],
  .int (-1), .int 999, .int 1000, .int (10 ^ 39), .str (rep 20 [97]), .str (rep 21 [97]), .str [48], .str [97, 95, 98], .str [97, 10], .str [32], .str [101, 105, 103, 104, 116], .str [97, 98, 99, 100, 101, 102, 103, 104], .tup [.str [97], .str [116, 101, 120, 116]]]
theorem odd_all : oddL.all (fun x => D.dat x && (D.rp x && (decide (D.dep x ≤ 2) && decide ((pyOf x).weight ≤ 200)))) = true := by decide +kernel
theorem odd_dat {x : D} (hx : x ∈ oddL) : D.dat x = true ∧ Rp 2 200 x := by
  have := List.all_eq_true.mp odd_all x hx
  simp only [Bool.and_eq_true, decide_eq_true_eq] at this
  exact ⟨this.1, this.2.1, this.2.2.1, this.2.2.2⟩
theorem op_mul_s {a : List Nat} {k : Int} {C : Call} (e : (decide (0 ≤ k) && (decide (k < 2 ^ 30) && okLen (a.length * k.toNat))) = true) : evOp P C .mul (.str a) (.int k) h = .ok (.str (rep k.toNat a)) h := by
  show (if 0 ≤ k && (decide (k < 2 ^ 30) && okLen (a.length * k.toNat)) then _ else _) = _
  rw [if_pos e]
theorem odd_ev (C : Call) (p : Nat) (h : Hp) : evSL P C B16 [some (.ref p), none] h = ((((Ev.plain (C 9 [.ref p, .int 29] h)).bind fun r h1 => evGet P C (.vl oddL) r h1).toS [some (.ref p), some (.vl oddL)] fun d h1 => .ret d [some (.ref p), some (.vl oddL)] h1).bind fun l1 h1 => evSL P C .nil l1 h1) := by
  kernel_rfl
theorem odd_sat (H : HasK P) {p : Nat} (hp : Pool h p) : (callN P (n + 2) 16 [.ref p] h).sat fun x h' => x ∈ oddL ∧ Pool h' p ∧ Kp p h h' := by
  refine callN_sat H.f16 rfl rfl ?_
  show (evSL P (callN P (n + 1)) B16 [some (.ref p), none] h).sat _ _
  rw [odd_ev]
  simp only [sat_bind', sat_sbind', sat_toS']
  refine take_then H.toHasP hp (by decide) (by decide) fun r h' h0 h1 hp' kp => ?_
  obtain ⟨v, hv, e⟩ := at_mem (xs := oddL) h0 h1
  simp only [get_vl, e, R.sat_ok, RS.sat_ret]
  exact ⟨hv, hp', kp⟩

theorem cut_mem {α : Type} {xs : List α} {lo hi : Option Int} {x : α} (hx : x ∈ cut xs lo hi) : x ∈ xs := List.mem_of_mem_drop (List.mem_of_mem_take hx)
theorem cut_len {α : Type} {xs : List α} {lo hi : Option Int} : (cut xs lo hi).length ≤ xs.length := by
  unfold cut
  rw [List.length_take, List.length_drop]
  omega
theorem bent_ev1 (C : Call) (p : Nat) (ts : List D) (h : Hp) : evSL P C B17 [some (.ref p), some (.vl ts), none, none, none] h = ((((Ev.plain (C 9 [.ref p, .int ts.length] h)).bind fun r h1 => ((Ev.plain (C 16 [.ref p] h1)).bind fun x h2 => .ok [x] h2).bind fun xs h2 => .ok (r :: xs) h2).toS [some (.ref p), some (.vl ts), none, none, none] fun ds h1 => match evParSet [2, 3] ds [some (.ref p), some (.vl ts), none, none, none] with
      | some l2 => .nxt l2 h1
      | none => .bad).bind fun l1 h1 => evSL P C (match B17 with | .cons _ r => r | _ => .nil) l1 h1) := by
  kernel_rfl
theorem okLen_of {n : Nat} (h : n ≤ sizeLine) : okLen n = true := decide_eq_true h
theorem bent_sat (H : HasK P) {p : Nat} (hp : Pool h p) {ts : List D} (h1 : 1 ≤ ts.length) (h2 : ts.length ≤ 100) : (callN P (n + 3) 17 [.ref p, .vl ts] h).sat fun x h' => (∃ ys, x = .vl ys ∧ (∀ y ∈ ys, y ∈ ts ∨ y ∈ oddL) ∧ ys.length ≤ 2 * ts.length + 2) ∧ Pool h' p ∧ Kp p h h' := by
  refine callN_sat H.f17 rfl rfl ?_
  show (evSL P (callN P (n + 2)) B17 [some (.ref p), some (.vl ts), none, none, none] h).sat _ _
  rw [bent_ev1]
  simp only [sat_bind', sat_sbind', sat_toS']
  refine take_then H.toHasP hp (by omega) (by omega) fun r h3 r0 r1 hp3 k3 => ?_
  obtain ⟨x, h4, ex, hx, hp4, k4⟩ := (odd_sat (n := n) H hp3).ok
  have pl : Ev.plain (R.ok x h4) = .ok x h4 := plain_ok (odd_dat hx).1
  rw [ex, pl]
  obtain ⟨v, hv, ev⟩ := at_mem (xs := ts) r0 (by omega)
  have c1 := cut_len (xs := ts) (lo := none) (hi := some r)
  have c2 := cut_len (xs := ts) (lo := some (r + 1)) (hi := none)
  have m1 := fun y => cut_mem (xs := ts) (lo := none) (hi := some r) (x := y)
  have m2 := fun y => cut_mem (xs := ts) (lo := some (r + 1)) (hi := none) (x := y)
  have hz : sizeLine = 2 ^ 24 := rfl
  have o1 : okLen ((cut ts none (some r)).length + 1) = true := okLen_of (by omega)
  have o2 : okLen ((cut ts none (some r)).length + 1 + (cut ts (some (r + 1)) none).length) = true := okLen_of (by omega)
  have o3 : okLen ((cut ts none (some r)).length + (cut ts (some (r + 1)) none).length) = true := okLen_of (by omega)
  have o4 : okLen (ts.length + 1) = true := okLen_of (by omega)
  have ok1 : okLen 1 = true := by decide +kernel
  have ok4 : okLen 4 = true := by decide +kernel
  simp [evParSet, B17, ok1, o1, o2, o3, o4, ok4, ev]
  refine take_then H.toHasP hp4 (by decide) (by decide) fun r5 h5 r50 r51 hp5 k5 => ?_
  obtain ⟨w, hw, ew⟩ := at_mem (xs := [D.vl (cut ts none (some r) ++ x :: cut ts (some (r + 1)) none), D.vl (cut ts none (some r) ++ cut ts (some (r + 1)) none), D.vl (ts ++ [v]), D.vl ts]) r50 r51
  simp [ew]
  refine ⟨?_, hp5, (k3.trans k4).trans k5⟩
  simp only [List.mem_cons, List.not_mem_nil, or_false] at hw
  rcases hw with rfl | rfl | rfl | rfl
  · refine ⟨_, rfl, fun y hy => ?_, by simp; omega⟩
    rcases List.mem_append.mp hy with z | z
    · exact .inl (m1 y z)
    · rcases List.mem_cons.mp z with z | z
      · subst z; exact .inr hx
      · exact .inl (m2 y z)
  · refine ⟨_, rfl, fun y hy => ?_, by simp; omega⟩
    rcases List.mem_append.mp hy with z | z
    · exact .inl (m1 y z)
    · exact .inl (m2 y z)
  · refine ⟨_, rfl, fun y hy => ?_, by simp; omega⟩
    rcases List.mem_append.mp hy with z | z
    · exact .inl z
    · rw [List.mem_singleton.mp z]; exact .inl hv
  · exact ⟨_, rfl, fun y hy => .inl hy, by omega⟩

end EvL
end
section
/-! k10: the law's comparison. -/
set_option linter.all false
set_option maxRecDepth 100000
set_option maxHeartbeats 1000000
namespace EvL
open PySem Ev
variable {P : Prog} {n : Nat} {h : Hp} {d : D}
/-- both lists of answers are shown alike -/
theorem right_eq (H : HasK P) (hd : D.dat d = true) {cs : List D} (hc : cs.all colk = true) (hn : okLen cs.length = true) : callN P (n + 6) 18 [.vl cs, d] h = .ok (.bl true) h := by
  refine R.eq_of (callN_sat H.f18 rfl rfl ?_)
  have hc2 : cs.all pairB2 = true := List.all_eq_true.mpr fun c hx => (colk_pair (List.all_eq_true.mp hc c hx)).1
  have e1 := is_name_eq (n := n + 4) (h := h) H.toHasV hd
  have e2 := is_value_eq (n := n + 3) (h := h) H.toHasV hd
  have e3 := is_day_eq (n := n + 3) (h := h) H.toHasV hd
  have e4 := is_columns_eq (n := n + 2) (h := h) H.toHasV hd
  have e5 := is_row_eq (n := n + 2) (h := h) H.toHasV hd hc2 hn
  have e6 := law_is_name_eq (n := n + 3) (h := h) H hd
  have e7 := law_kind_eq (n := n + 4) (h := h) H hd
  have e8 := law_is_columns_eq (n := n + 1) (h := h) H hd
  have e9 := law_is_row_eq (n := n + 3) (h := h) H hd hc hn
  have ok5 : okLen 5 = true := by decide +kernel
  -- the law's kind
  have p7 : Ev.plain (.ok (lkd d) h) = .ok (lkd d) h := by
    unfold lkd kdOf
    split
    · split <;> rfl
    · rfl
  have k7 : deq h dq (lkd d) kNum = some (isI d) := by
    unfold lkd kdOf
    cases d <;> try (simp [D.dat] at hd; done)
    case str s => cases q : vl (.str s) <;> rfl
    all_goals rfl
  have i7 : evIs (lkd d) .non = some (!vl d) := by
    unfold lkd kdOf
    cases q : vl d with
    | false => rfl
    | true => cases isS d <;> rfl
  -- the day
  have dayv : ∀ (Q : D → Hp → Prop), Q (.bl (dy d)) h → (evE P (callN P (n + 5)) (.and (.cmp .eq (.call 12 (.cons false (.loc 1) .nil)) (.con (.str [110, 117, 109, 98, 101, 114]))) (.cmp2 .le .le (.con (.int 0)) (.loc 1) (.con (.int 999)))) [some (.vl cs), some d, some (.vl [.bl (nm d), .bl (vl d), .bl (dy d), .bl (cols d), .bl (rowOk d (cs.map knd))]), none, none] h).sat Q := by
    intro Q q
    cases z : isI d with
    | false =>
      have : dy d = false := by cases d <;> simp [isI] at z <;> rfl
      rw [this] at q
      simp [e7, p7, evEq, k7, z]
      exact q
    | true =>
      cases d <;> simp [isI] at z
      rename_i i
      have q : Q (.bl (decide (0 ≤ i) && decide (i ≤ 999))) h := q
      by_cases c : 0 ≤ i
      · simp [e7, p7, evEq, k7, isI, c]
        simpa [c] using q
      · simp [e7, p7, evEq, k7, isI, c]
        simpa [c] using q
  have shown : ∃ s, reprD h (.vl [.bl (nm d), .bl (vl d), .bl (dy d), .bl (cols d), .bl (rowOk d (cs.map knd))]) = some s := by
    have r : Rp 1 5 (.vl [.bl (nm d), .bl (vl d), .bl (dy d), .bl (cols d), .bl (rowOk d (cs.map knd))]) := Rp.mono (Rp.vl (w := 0) (k := 0) fun x hx => by
      simp only [List.mem_cons, List.not_mem_nil, or_false] at hx
      rcases hx with rfl | rfl | rfl | rfl | rfl <;> exact Rp.bl _) (by decide) (by simp)
    exact ⟨_, repr_some r (by decide) (by decide) h⟩
  obtain ⟨s, es⟩ := shown
  show (evSL P (callN P (n + 5)) B18 [some (.vl cs), some d, none, none, none] h).sat _ _
  refine asg_loc (by simp) (R.sat_of (a := .vl [.bl (nm d), .bl (vl d), .bl (dy d), .bl (cols d), .bl (rowOk d (cs.map knd))]) (h' := h) (R.eq_of ?_) ?_)
  · simp [e1, e2, e3, e4, e5, plain_bl, ok5]
  refine asg_loc (by simp) (dayv _ ?_)
  refine asg_loc (by simp) (R.sat_of (a := .vl [.bl (nm d), .bl (vl d), .bl (dy d), .bl (cols d), .bl (rowOk d (cs.map knd))]) (h' := h) (R.eq_of ?_) ?_)
  · simp [e6, e7, e8, e9, plain_bl, ok5, p7, i7]
  refine ret_e ?_
  simp [es, evEq]
end EvL
end
section
/-! k10: the law. -/
set_option linter.all false
set_option maxRecDepth 100000
set_option maxHeartbeats 1000000
namespace EvL
open PySem Ev
variable {P : Prog} {n : Nat} {h : Hp} {d : D}
/-- a name as the law draws it -/
def okName (x : D) : Prop := ∃ s, x = .str s ∧ s.length ≤ 9 ∧ s.all (fun c => decide (c < 16 ^ 8)) = true
theorem cut_to {α : Type} {xs : List α} {v : Int} (h0 : 0 ≤ v) : cut xs none (some v) = xs.take v.toNat := by
  unfold cut
  show (xs.drop 0).take ((if v < 0 then (v + (xs.length : Int)).toNat else min v.toNat xs.length) - 0) = _
  rw [if_neg (by omega), List.drop_zero, Nat.sub_zero, Nat.min_def]
  split
  · rfl
  · rw [List.take_length, List.take_of_length_le (by omega)]
theorem rep_all {k : Nat} {a : List Nat} {p : Nat → Bool} (h : a.all p = true) : (rep k a).all p = true := by
  unfold rep
  rw [List.all_flatten]
  simp only [List.all_eq_true]
  intro x hx
  rw [(List.mem_replicate.mp hx).2]
  exact List.all_eq_true.mp h
theorem rep_len {k : Nat} {a : List Nat} : (rep k a).length = k * a.length := by
  unfold rep
  rw [List.length_flatten, List.map_replicate, List.sum_replicate_nat]
abbrev nameE : E := (.lc false [4] (.bin .add (.loc 4) (.bin .mul (.con (.str [120])) (.call 9 (.cons false (.loc 2) (.cons false (.con (.int 8)) .nil))))) (.loc 4) (.it (.sli (.con (.str [97, 98, 99, 100, 101, 102, 103, 104, 105, 106, 107])) .no (.yes (.bin .add (.con (.int 1)) (.call 9 (.cons false (.loc 2) (.cons false (.con (.int 11)) .nil))))))) .nil)
theorem names_sat (H : HasP P) {p : Nat} (hp : Pool h p) {a0 a1 a3 a4 a5 a6 a7 a8 a9 a10 a11 a12 a13 : Option D} :
    (evE P (callN P (n + 1)) nameE [a0, a1, some (.ref p), a3, a4, a5, a6, a7, a8, a9, a10, a11, a12, a13] h).sat fun d h' => ∃ ns, d = .vl ns ∧ 1 ≤ ns.length ∧ ns.length ≤ 11 ∧ (∀ x ∈ ns, okName x) ∧ Pool h' p ∧ Kp p h h' := by
  have k11 : okLen 11 = true := by decide +kernel
  simp only [nameE, evE_s25, evI_s1, evE_s16, evE_s2, evO_s1, evO_s2, evE_s8, evE_s19, evEL_s1, evEL_s2, evE_s1, sat_bind', R.sat_ok, List.getElem?_cons_succ, List.getElem?_cons_zero]
  refine take_then H hp (by decide) (by decide) fun r h1 r0 r1 hp1 k1 => ?_
  simp only [op_add_i, R.sat_ok, sli_s, List.length_cons, List.length_nil, Nat.reduceAdd, Nat.zero_add, k11, if_true, src_str, ↓reduceIte]
  rw [cut_to (by omega)]
  generalize hs : ([97, 98, 99, 100, 101, 102, 103, 104, 105, 106, 107] : List Nat).take (1 + r).toNat = s
  have sl : s.length = (1 + r).toNat := by rw [← hs, List.length_take]; simp; omega
  have sa : s.all (fun c => decide (c < 16 ^ 8)) = true := by
    rw [← hs, List.all_eq_true]
    intro c hc
    have := List.mem_of_mem_take hc
    simp only [List.mem_cons, List.not_mem_nil, or_false] at this
    rcases this with rfl | rfl | rfl | rfl | rfl | rfl | rfl | rfl | rfl | rfl | rfl <;> decide
  refine lcLoop_sat (s.map fun c => D.str [c]) (fun i acc h' => acc.length = i ∧ (∀ x ∈ acc, okName x) ∧ Pool h' p ∧ Kp p h h') rfl (fun _ _ _ _ => rfl) ⟨rfl, fun x hx => by simp at hx, hp1, k1⟩ (fun i d acc h2 ed ⟨al, ao, hp2, k2⟩ => ?_) fun acc h2 ⟨al, ao, hp2, k2⟩ => ?_
  · obtain ⟨c, hc, rfl⟩ := List.mem_map.mp (List.mem_of_getElem? ed)
    have hi : i < s.length := by have := (List.getElem?_eq_some_iff.mp ed).1; simpa using this
    simp only [wipe, evT_s1, List.set_cons_succ, List.set_cons_zero, List.length_cons, List.length_nil, Nat.reduceAdd, Nat.reduceLT, if_true, sat_bind', R.sat_ok, evC_s1, evE_s8, evE_s1, evE_s2, evE_s19, evEL_s1, evEL_s2, List.getElem?_cons_succ, List.getElem?_cons_zero, ↓reduceIte]
    refine take_then H hp2 (by decide) (by decide) fun r3 h3 r30 r31 hp3 k3 => ?_
    rw [op_mul_s (by
      rw [Bool.and_eq_true, Bool.and_eq_true, decide_eq_true_eq, decide_eq_true_eq]
      refine ⟨r30, by omega, okLen_of ?_⟩
      have : sizeLine = 2 ^ 24 := rfl
      simp only [List.length_cons, List.length_nil]
      omega)]
    have rl := rep_len (k := r3.toNat) (a := [120])
    have ol : okLen ([c].length + (rep r3.toNat [120]).length) = true := okLen_of (by
      have : sizeLine = 2 ^ 24 := rfl
      rw [rl]
      simp only [List.length_cons, List.length_nil]
      omega)
    simp only [R.sat_ok, op_add_s, ol, if_true]
    refine ⟨okLen_of (by have : sizeLine = 2 ^ 24 := rfl; omega), by simp [al], fun x hx => ?_, hp3, k2.trans k3⟩
    rcases List.mem_append.mp hx with z | z
    · exact ao x z
    · rw [List.mem_singleton.mp z]
      refine ⟨_, rfl, ?_, ?_⟩
      · rw [List.length_append, rl]; simp only [List.length_cons, List.length_nil]; omega
      · rw [List.all_append, rep_all (by decide), Bool.and_true, List.all_cons, List.all_nil, Bool.and_true]
        exact List.all_eq_true.mp sa c hc
  · simp only [lsR_f, R.sat_ok]
    rw [List.length_map, sl] at al
    exact ⟨acc, rfl, by omega, by omega, ao, hp2, k2⟩

abbrev colE : E := (.lc false [6] (.tup (.cons false (.loc 6) (.cons false (.idx (.lst false (.cons false (.con (.str [110, 117, 109, 98, 101, 114])) (.cons false (.con (.str [116, 101, 120, 116])) .nil))) (.call 9 (.cons false (.loc 2) (.cons false (.con (.int 2)) .nil)))) .nil))) (.loc 6) (.it (.loc 3)) .nil)
/-- a column as the law draws it -/
def okCol (x : D) : Prop := colk x = true ∧ Rp 1 40 x
theorem okCol_of {s : List Nat} {k : D} (hs : s.length ≤ 9) (ha : s.all (fun c => decide (c < 16 ^ 8)) = true) (hk : k = kText ∨ k = kNum) : okCol (.tup [.str s, k]) := by
  have hz : sizeLine = 2 ^ 24 := rfl
  refine ⟨?_, ?_⟩
  · show (okLen s.length && decide (k = kText ∨ k = kNum)) = true
    rw [okLen_of (by omega), decide_eq_true hk]
    rfl
  · refine Rp.mono (Rp.tup (k := 0) (w := 9) fun x hx => ?_) (by decide) (by simp)
    simp only [List.mem_cons, List.not_mem_nil, or_false] at hx
    rcases hx with rfl | rfl
    · exact Rp.mono (Rp.str ha) (by decide) hs
    · rcases hk with rfl | rfl <;> exact Rp.mono (Rp.str (by decide)) (by decide) (by decide)
theorem cols_sat (H : HasP P) {p : Nat} (hp : Pool h p) {ns : List D} (hn : ∀ x ∈ ns, okName x) (h1 : 1 ≤ ns.length) (h2 : ns.length ≤ 11) {a0 a1 a4 a5 a6 a7 a8 a9 a10 a11 a12 a13 : Option D} :
    (evE P (callN P (n + 1)) colE [a0, a1, some (.ref p), some (.vl ns), a4, a5, a6, a7, a8, a9, a10, a11, a12, a13] h).sat fun d h' => ∃ cs, d = .vl cs ∧ cs.length = ns.length ∧ (∀ x ∈ cs, okCol x) ∧ Pool h' p ∧ Kp p h h' := by
  simp only [colE, evE_s25, evI_s1, evE_s1, sat_bind', R.sat_ok, List.getElem?_cons_succ, List.getElem?_cons_zero, src_vl]
  refine lcLoop_sat ns (fun i acc h' => acc.length = i ∧ (∀ x ∈ acc, okCol x) ∧ Pool h' p ∧ Kp p h h') rfl (fun _ _ _ _ => rfl) ⟨rfl, fun x hx => by simp at hx, hp, Kp.rfl⟩ (fun i d acc h2 ed ⟨al, ao, hp2, k2⟩ => ?_) fun acc h2 ⟨al, ao, hp2, k2⟩ => ?_
  · obtain ⟨s, rfl, s1, s2⟩ := hn d (List.mem_of_getElem? ed)
    have hi := (List.getElem?_eq_some_iff.mp ed).1
    simp only [wipe, evT_s1, List.set_cons_succ, List.set_cons_zero, List.length_cons, List.length_nil, Nat.reduceAdd, Nat.reduceLT, if_true, sat_bind', R.sat_ok, evC_s1, evE_s12, evE_s15, evE_s13, evE_s1, evE_s2, evE_s19, evEL_s1, evEL_s2, List.getElem?_cons_succ, List.getElem?_cons_zero, ok2, lsR_f, ↓reduceIte, Nat.zero_add]
    refine take_then H hp2 (by decide) (by decide) fun r3 h3 r30 r31 hp3 k3 => ?_
    obtain ⟨v, hv, ev⟩ := at_mem (xs := [kNum, kText]) r30 r31
    simp only [get_vl, ev, R.sat_ok, List.length_cons, List.length_nil, Nat.reduceAdd, ok2, if_true]
    refine ⟨okLen_of (by have : sizeLine = 2 ^ 24 := rfl; omega), by simp [al], fun x hx => ?_, hp3, k2.trans k3⟩
    rcases List.mem_append.mp hx with z | z
    · exact ao x z
    · rw [List.mem_singleton.mp z]
      refine okCol_of s1 s2 ?_
      simp only [List.mem_cons, List.not_mem_nil, or_false] at hv
      exact hv.symm
  · simp only [lsR_f, R.sat_ok]
    exact ⟨acc, rfl, al, ao, hp2, k2⟩
/-- a row as it grows: the pool at p, the row at q -/
def okCell (x : D) : Prop := D.dat x = true ∧ Rp 0 20 x
abbrev rowS : S := (.for_ (.tup (.cons (.loc 6) (.cons (.loc 8) .nil))) (.it (.loc 5)) (.cons (.ex (.met (.loc 7) 10 (.cons false (.ite (.cmp .eq (.loc 8) (.con (.str [116, 101, 120, 116]))) (.idx (.lst false (.cons false (.con (.str [116, 101, 97])) (.cons false (.con (.str [])) (.cons false (.con (.str [97, 32, 49])) .nil)))) (.call 9 (.cons false (.loc 2) (.cons false (.con (.int 3)) .nil)))) (.bin .sub (.call 9 (.cons false (.loc 2) (.cons false (.con (.int 99)) .nil))) (.con (.int 50)))) .nil))) .nil))
theorem okCell_tea {v : D} (hv : v ∈ [D.str [116, 101, 97], .str [], .str [97, 32, 49]]) : okCell v := by
  simp only [List.mem_cons, List.not_mem_nil, or_false] at hv
  rcases hv with rfl | rfl | rfl <;> exact ⟨by decide +kernel, Rp.mono (Rp.str (by decide)) (by decide) (by decide)⟩
theorem okCell_int {i : Int} (h0 : -50 ≤ i) (h1 : i < 49) : okCell (.int i) := by
  refine ⟨rfl, Rp.mono (Rp.int (k := 20) (by decide) ?_) (by decide) (by decide)⟩
  by_cases z : i.natAbs = 0
  · rw [z]; decide
  · exact (Nat.log2_lt z).mpr (by omega)
theorem append_sat {q : Nat} {xs : List D} {x : D} (e : h[q]? = some ⟨.lst xs, false⟩) (hl : okLen (xs.length + 1) = true) {C : Call} : evCallM C (.lst q) (.ref q) 10 [x] h = .ok .non (h.set q ⟨.lst (xs ++ [x]), false⟩) := by
  simp [evCallM, evMetL, e, mAppend, hl, put]
theorem row_sat (H : HasP P) {p q : Nat} (hpq : p ≠ q) (hp : Pool h p) (hq : h[q]? = some ⟨.lst [], false⟩) {cs : List D} (hc : ∀ x ∈ cs, okCol x) (h2 : cs.length ≤ 11) {a0 a1 a3 a4 a6 a8 a9 a10 a11 a12 a13 : Option D} {N : Ev.Loc → Hp → Prop} {T : D → Hp → Prop}
    (fin : ∀ b6 b8 h' rs, Pool h' p → h'[q]? = some ⟨.lst rs, false⟩ → rs.length = cs.length → (∀ x ∈ rs, okCell x) → h'.length = h.length → N [a0, a1, some (.ref p), a3, a4, some (.vl cs), b6, some (.ref q), b8, a9, a10, a11, a12, a13] h') :
    (evS P (callN P (n + 1)) rowS [a0, a1, some (.ref p), a3, a4, some (.vl cs), a6, some (.ref q), a8, a9, a10, a11, a12, a13] h).sat N T := by
  have k3 : okLen 3 = true := by decide +kernel
  simp only [rowS, evS_s10, evI_s1, evE_s1, sat_bind', sat_toS', R.sat_ok, List.getElem?_cons_succ, List.getElem?_cons_zero, src_vl]
  refine forLoop_sat cs (fun i l h' => ∃ b6 b8 rs, l = [a0, a1, some (.ref p), a3, a4, some (.vl cs), b6, some (.ref q), b8, a9, a10, a11, a12, a13] ∧ Pool h' p ∧ h'[q]? = some ⟨.lst rs, false⟩ ∧ rs.length = i ∧ (∀ x ∈ rs, okCell x) ∧ h'.length = h.length) rfl (fun _ _ _ _ => rfl)
    ⟨a6, a8, [], rfl, hp, hq, rfl, fun x hx => by simp at hx, rfl⟩ (fun i d l h' ed => ?_) fun l h' ⟨b6, b8, rs, el, hp', hq', rl, ra, hl⟩ => ?_
  · rintro ⟨b6, b8, rs, rfl, hp', hq', rl, ra, hl⟩
    have hi := (List.getElem?_eq_some_iff.mp ed).1
    obtain ⟨_, hk, _, s, k, rfl⟩ := colk_pair (hc d (List.mem_of_getElem? ed)).1
    have ol : okLen (rs.length + 1) = true := okLen_of (by have : sizeLine = 2 ^ 24 := rfl; omega)
    have cal : ∀ P : Prog, callee P (.ref q) 10 h' = .lst q := fun P => by simp [callee, hq']
    have app : ∀ (x : D) (h3 : Hp), okCell x → Pool h3 p → Kp p h' h3 → (evCallM (callN P (n + 1)) (.lst q) (.ref q) 10 [x] h3).sat fun a h4 => ∃ b6' b8' rs', [a0, a1, some (D.ref p), a3, a4, some (.vl cs), some (.str s), some (.ref q), some k, a9, a10, a11, a12, a13] = [a0, a1, some (D.ref p), a3, a4, some (.vl cs), b6', some (.ref q), b8', a9, a10, a11, a12, a13] ∧ Pool h4 p ∧ h4[q]? = some ⟨.lst rs', false⟩ ∧ rs'.length = i + 1 ∧ (∀ x ∈ rs', okCell x) ∧ h4.length = h.length := fun x h3 hx hp3 k3 => by
      have hq3 : h3[q]? = some ⟨.lst rs, false⟩ := by rw [k3.2 q (Ne.symm hpq)]; exact hq'
      have lt := (List.getElem?_eq_some_iff.mp hq3).1
      rw [append_sat hq3 ol]
      refine ⟨_, _, rs ++ [x], rfl, ?_, List.getElem?_set_self lt, by rw [List.length_append, rl]; rfl, fun y hy => ?_, by rw [List.length_set, k3.1, hl]⟩
      · obtain ⟨A, B, hA, hB, e⟩ := hp3
        exact ⟨A, B, hA, hB, by rw [List.getElem?_set_ne (Ne.symm hpq)]; exact e⟩
      · rcases List.mem_append.mp hy with z | z
        · exact ra y z
        · rw [List.mem_singleton.mp z]; exact hx
    have kk : k = kText ∨ k = kNum := hk
    simp only [evT_s2, evTL_s2, evT_s1, evTL_s1, List.set_cons_succ, List.set_cons_zero, List.length_cons, List.length_nil, Nat.reduceAdd, Nat.reduceLT, if_true, sat_bind', sat_sbind', sat_toS', R.sat_ok, evSL_s1, evSL_s2, evS_s1, evE_s21, evE_s1, List.getElem?_cons_succ, List.getElem?_cons_zero, ↓reduceIte, cal, evEL_s1, evEL_s2, evE_s11, evE_s9, evE_s2, cmp_eq, evEq]
    rcases kk with rfl | rfl
    · simp only [dq_str, decide_true, Ev.R.bind_ok, R.sat_ok, truth_bl, evE_s15, evE_s13, evEL_s1, evEL_s2, evE_s2, evE_s19, evE_s1, sat_bind', List.getElem?_cons_succ, List.getElem?_cons_zero, List.length_cons, List.length_nil, Nat.reduceAdd, k3, if_true, lsR_f]
      refine take_then H hp' (by decide) (by decide) fun r3 h3 r30 r31 hp3 k3 => ?_
      obtain ⟨v, hv, ev⟩ := at_mem (xs := [D.str [116, 101, 97], .str [], .str [97, 32, 49]]) r30 r31
      simp only [get_vl, ev, R.sat_ok]
      exact (app v h3 (okCell_tea hv) hp3 k3).mono fun a h4 q => q
    · simp only [dq_str, show (([110, 117, 109, 98, 101, 114] : List Nat) = [116, 101, 120, 116]) = False by decide, decide_false, Ev.R.bind_ok, R.sat_ok, truth_bl, evE_s8, evEL_s1, evEL_s2, evE_s2, evE_s19, evE_s1, sat_bind', List.getElem?_cons_succ, List.getElem?_cons_zero]
      refine take_then H hp' (by decide) (by decide) fun r3 h3 r30 r31 hp3 k3 => ?_
      simp only [op_sub_i, R.sat_ok]
      exact (app _ h3 (okCell_int (by omega) (by omega)) hp3 k3).mono fun a h4 q => q
  · subst el
    exact fin b6 b8 h' rs hp' hq' rl ra hl
end EvL
end
section
/-! k10: the law's turns. -/
set_option linter.all false
set_option maxRecDepth 100000
set_option maxHeartbeats 1000000
namespace EvL
open PySem Ev
variable {P : Prog} {n : Nat} {h : Hp} {d : D}
theorem bent_then (H : HasK P) {p : Nat} (hp : Pool h p) {ts : List D} (h1 : 1 ≤ ts.length) (h2 : ts.length ≤ 100) {Q : D → Hp → Prop} (q : ∀ ys h', (∀ y ∈ ys, y ∈ ts ∨ y ∈ oddL) → ys.length ≤ 2 * ts.length + 2 → Pool h' p → Kp p h h' → Q (.vl ys) h') : (Ev.plain (callN P (n + 3) 17 [.ref p, .vl ts] h)).sat Q := by
  obtain ⟨x, h', e, ⟨ys, rfl, y1, y2⟩, h3, h4⟩ := (bent_sat (n := n) H hp h1 h2).ok
  rw [e]
  exact q ys h' y1 y2 h3 h4
theorem odd_then (H : HasK P) {p : Nat} (hp : Pool h p) {Q : D → Hp → Prop} (q : ∀ x h', x ∈ oddL → Pool h' p → Kp p h h' → Q x h') : (Ev.plain (callN P (n + 2) 16 [.ref p] h)).sat Q := by
  obtain ⟨x, h', e, hx, h3, h4⟩ := (odd_sat (n := n) H hp).ok
  rw [e, plain_ok (odd_dat hx).1]
  exact q x h' hx h3 h4
theorem right_then (H : HasK P) (hd : D.dat d = true) {cs : List D} (hc : ∀ x ∈ cs, okCol x) (hl : cs.length ≤ 11) : Ev.plain (callN P (n + 6) 18 [.vl (cut cs none (some 10)), d] h) = .ok (.bl true) h := by
  have hc2 : (cut cs none (some 10)).all colk = true := List.all_eq_true.mpr fun x hx => (hc x (cut_mem hx)).1
  have hn : okLen (cut cs none (some 10)).length = true := okLen_of (by have : sizeLine = 2 ^ 24 := rfl; have := cut_len (xs := cs) (lo := none) (hi := some 10); omega)
  rw [right_eq H hd hc2 hn]
  rfl
theorem sli_ref {q : Nat} {rs : List D} {k : Bool} {lo hi : Option Int} (e : h[q]? = some ⟨.lst rs, k⟩) : evSli h (.ref q) lo hi = .ok (.vl (cut rs lo hi)) h := by
  unfold evSli
  simp only [lstOf, e]
abbrev ret0 : SL := .cons (.ret (.con (.bl false))) .nil
abbrev c10 : E := .sli (.loc 5) .no (.yes (.con (.int 10)))
abbrev t1 : S := .asg (.loc 10) (.call 17 (.cons false (.loc 2) (.cons false (.loc 5) .nil)))
abbrev t2 : S := .asg (.loc 11) (.bf .repr (.cons false (.loc 10) .nil))
abbrev t3 : S := .if_ (.or (.not (.call 18 (.cons false c10 (.cons false (.loc 10) .nil)))) (.not (.call 18 (.cons false c10 (.cons false (.bt .tuple (.cons false (.call 17 (.cons false (.loc 2) (.cons false (.sli (.loc 7) .no (.yes (.con (.int 10)))) .nil))) .nil)) .nil))))) ret0 .nil
abbrev t4 : S := .asg (.loc 12) (.bt .tuple (.cons false (.call 17 (.cons false (.loc 2) (.cons false (.lst false (.cons false (.con (.str [110, 97, 109, 101])) (.cons false (.con (.str [116, 101, 120, 116])) .nil))) .nil))) .nil))
abbrev t5 : S := .if_ (.or (.not (.call 18 (.cons false c10 (.cons false (.bin .add (.lst false (.cons false (.loc 12) .nil)) (.sli (.loc 5) (.yes (.con (.int 1))) .no)) .nil)))) (.cmp .ne (.bf .repr (.cons false (.loc 10) .nil)) (.loc 11))) ret0 .nil
abbrev t6 : S := .if_ (.not (.call 18 (.cons false c10 (.cons false (.call 16 (.cons false (.loc 2) .nil)) .nil)))) ret0 .nil
abbrev turnB : SL := .cons t1 (.cons t2 (.cons t3 (.cons t4 (.cons t5 (.cons t6 .nil)))))
theorem okCol_dat {x : D} (h : okCol x) : D.dat x = true := (colk_pair h.1).2.2.1
theorem turn_sat (H : HasK P) {p q : Nat} (hpq : p ≠ q) (hp : Pool h p) {rs : List D} (hq : h[q]? = some ⟨.lst rs, false⟩) {cs : List D} (hc : ∀ x ∈ cs, okCol x) (h1 : 1 ≤ cs.length) (h2 : cs.length ≤ 11) (hr : ∀ x ∈ rs, okCell x) (hl : rs.length = cs.length) {a0 a1 a3 a4 a6 a8 a9 a10 a11 a12 a13 : Option D} {N : Ev.Loc → Hp → Prop} {T : D → Hp → Prop}
    (fin : ∀ b10 b11 b12 h', Pool h' p → h'[q]? = some ⟨.lst rs, false⟩ → N [a0, a1, some (.ref p), a3, a4, some (.vl cs), a6, some (.ref q), a8, a9, b10, b11, b12, a13] h') :
    (evSL P (callN P (n + 6)) turnB [a0, a1, some (.ref p), a3, a4, some (.vl cs), a6, some (.ref q), a8, a9, a10, a11, a12, a13] h).sat N T := by
  have hz : sizeLine = 2 ^ 24 := rfl
  have k1 : okLen 1 = true := by decide +kernel
  have datL : ∀ {ts ys : List D}, (∀ y ∈ ys, y ∈ ts ∨ y ∈ oddL) → (∀ t ∈ ts, D.dat t = true) → dats ys = true := fun {ts ys} hy ht => dats_all.mpr fun y hm => (hy y hm).elim (ht y) fun z => (odd_dat z).1
  refine asg_loc (by simp) ?_
  simp only [evE_s19, evEL_s1, evEL_s2, evE_s1, sat_bind', R.sat_ok, List.getElem?_cons_succ, List.getElem?_cons_zero]
  refine bent_then (n := n + 3) H hp h1 (by omega) fun ys ha hy hyl hpa ka => ?_
  have hqa : ha[q]? = some ⟨.lst rs, false⟩ := by rw [ka.2 q (Ne.symm hpq)]; exact hq
  have dy : D.dat (.vl ys) = true := datL hy fun t ht => okCol_dat (hc t ht)
  have ry : Rp 3 (201 * ys.length) (.vl ys) := Rp.vl (k := 2) (w := 200) fun x hx => (hy x hx).elim (fun z => Rp.mono (hc x z).2 (by decide) (by decide)) fun z => (odd_dat z).2
  have ey := repr_some ry (by decide) (by omega)
  refine asg_loc (by simp) ?_
  simp only [evE_s22, evEL_s1, evEL_s2, evE_s1, sat_bind', R.sat_ok, List.getElem?_cons_succ, List.getElem?_cons_zero, List.set_cons_succ, List.set_cons_zero, bf_repr, ey]
  -- the columns, the row
  rw [evSL_s2]
  simp only [evS_s8, evE_s5, evE_s6, evE_s19, evEL_s1, evEL_s2, evE_s16, evO_s1, evO_s2, evE_s1, evE_s2, sat_bind', sat_sbind', sat_toS', R.sat_ok, List.getElem?_cons_succ, List.getElem?_cons_zero, sli_l, right_then (n := n) H dy hc h2, truth_bl, Bool.not_true, evE_s23]
  simp only [sli_ref hqa, R.sat_ok]
  have lr : (cut rs none (some 10)).length = min 10 rs.length := by rw [cut_to (by decide), List.length_take]; rfl
  refine bent_then (n := n + 3) H hpa (by omega) (by omega) fun ys2 hb hy2 hyl2 hpb kb => ?_
  have dy2 : D.dat (.tup ys2) = true := datL hy2 fun t ht => (hr t (cut_mem ht)).1
  have hqb : hb[q]? = some ⟨.lst rs, false⟩ := by rw [kb.2 q (Ne.symm hpq)]; exact hqa
  simp only [bt_tuple, R.sat_ok, right_then (n := n) H dy2 hc h2, truth_bl, Bool.not_true, RS.sat_nxt, evSL_s1]
  -- a pair
  refine asg_loc (by simp) ?_
  simp only [evE_s23, evE_s19, evEL_s1, evEL_s2, evE_s1, evE_s2, evE_s13, sat_bind', R.sat_ok, List.getElem?_cons_succ, List.getElem?_cons_zero, List.length_cons, List.length_nil, Nat.reduceAdd, Nat.zero_add, ok2, if_true, lsR_f]
  refine bent_then (n := n + 3) H hpb (by simp) (by simp) fun ys3 hc3 hy3 hyl3 hpc kc => ?_
  have dy3 : D.dat (.tup ys3) = true := datL hy3 fun t ht => by
    simp only [List.mem_cons, List.not_mem_nil, or_false] at ht
    rcases ht with rfl | rfl <;> decide +kernel
  have hqc : hc3[q]? = some ⟨.lst rs, false⟩ := by rw [kc.2 q (Ne.symm hpq)]; exact hqb
  have cl := cut_len (xs := cs) (lo := some 1) (hi := none)
  have ol : okLen ([D.tup ys3].length + (cut cs (some 1) none).length) = true := okLen_of (by simp only [List.length_cons, List.length_nil]; omega)
  have dy4 : D.dat (.vl ([D.tup ys3] ++ cut cs (some 1) none)) = true := by
    rw [D.dat, dats_all]
    intro x hx
    rcases List.mem_append.mp hx with z | z
    · rw [List.mem_singleton.mp z]; exact dy3
    · exact okCol_dat (hc x (cut_mem z))
  simp only [bt_tuple, R.sat_ok, List.set_cons_succ, List.set_cons_zero]
  rw [evSL_s2]
  simp only [evS_s8, evE_s5, evE_s6, evE_s19, evEL_s1, evEL_s2, evE_s16, evO_s1, evO_s2, evE_s1, evE_s2, evE_s8, evE_s13, sat_bind', sat_sbind', sat_toS', R.sat_ok, List.getElem?_cons_succ, List.getElem?_cons_zero, sli_l, lsR_f]
  simp only [List.length_cons, List.length_nil, Nat.zero_add, k1, if_true, R.sat_ok, op_add_l, show okLen (1 + (cut cs (some 1) none).length) = true from ol, right_then (n := n) H dy4 hc h2, truth_bl, Bool.not_true, evE_s9, evE_s22, evEL_s1, evEL_s2, evE_s1, sat_bind', List.getElem?_cons_succ, List.getElem?_cons_zero, bf_repr, ey, cmp_ne, evEq, dq_str, decide_true, Ev.R.bind_ok, RS.sat_nxt, evSL_s1]
  -- an odd value
  rw [evSL_s2]
  simp only [evS_s8, evE_s6, evE_s19, evEL_s1, evEL_s2, evE_s16, evO_s1, evO_s2, evE_s1, evE_s2, sat_bind', sat_sbind', sat_toS', R.sat_ok, List.getElem?_cons_succ, List.getElem?_cons_zero, sli_l]
  refine odd_then (n := n + 4) H hpc fun x hd hx hpd kd => ?_
  simp only [right_then (n := n) H (odd_dat hx).1 hc h2, R.sat_ok, truth_bl, Bool.not_true, RS.sat_nxt, evSL_s1]
  exact fin _ _ _ hd hpd (by rw [kd.2 q (Ne.symm hpq)]; exact hqc)
end EvL
end
section
/-! k10: the whole law. -/
set_option linter.all false
set_option maxRecDepth 100000
set_option maxHeartbeats 1000000
namespace EvL
open PySem Ev
variable {P : Prog} {n : Nat} {h : Hp} {d : D}
/-- the numbers from lo on -/
theorem rng_at {h : Hp} {m i : Nat} : (Src.rng 0 1 m).at h i = some ((List.range m).map fun j : Nat => D.int (j : Int))[i]? := by
  simp only [Src.at, List.getElem?_map, List.getElem?_range', Int.zero_add, Int.mul_one]
  by_cases hi : i < m
  · rw [if_pos hi, List.getElem?_range hi]; rfl
  · rw [if_neg hi, List.getElem?_eq_none (by simpa using hi)]; rfl
abbrev cellB : SL := .cons (.asg (.loc 2) (.call 8 (.cons false (.loc 0) (.cons false (.loc 1) .nil)))) (.cons (.asg (.loc 3) nameE) (.cons (.asg (.loc 5) colE) (.cons (.asg (.loc 7) (.lst true .nil)) (.cons rowS (.cons (.for_ (.loc 9) (.rng (.cons false (.con (.int 8)) .nil)) turnB) .nil)))))
abbrev endE : E := .cmp .eq (.lc false [13] (.loc 13) (.loc 13) (.it (.call 10 .nil)) (.cons false (.cmp .isn (.call 1 (.cons false (.loc 13) .nil)) (.con (.bl false))) .nil)) (.lst false .nil)
theorem B19_eq : B19 = .cons (.for_ (.loc 1) (.rng (.cons false (.bf .max (.cons false (.con (.int 1)) (.cons false (.bf .min (.cons false (.bf .len (.cons false (.loc 0) .nil)) (.cons false (.con (.int 6)) .nil))) .nil))) .nil)) cellB) (.cons (.ret endE) .nil) := rfl
theorem cell_sat (H : HasK P) (ns : List Int) {k : Nat} (hk : k < 64) {a2 a3 a4 a5 a6 a7 a8 a9 a10 a11 a12 a13 : Option D} {N : Ev.Loc → Hp → Prop} {T : D → Hp → Prop}
    (fin : ∀ b2 b3 b4 b5 b6 b7 b8 b9 b10 b11 b12 b13 h', N [some (.vl (ns.map D.int)), some (.int k), b2, b3, b4, b5, b6, b7, b8, b9, b10, b11, b12, b13] h') :
    (evSL P (callN P (n + 6)) cellB [some (.vl (ns.map D.int)), some (.int k), a2, a3, a4, a5, a6, a7, a8, a9, a10, a11, a12, a13] h).sat N T := by
  refine asg_loc (by simp) ?_
  simp only [evE_s19, evEL_s1, evEL_s2, evE_s1, sat_bind', R.sat_ok, List.getElem?_cons_succ, List.getElem?_cons_zero]
  obtain ⟨_, _, e, rfl, A, B, hA, hB, rfl⟩ := (pool_sat (n := n + 5) (h := h) H.toHasP ns k hk).ok
  rw [e]
  show ((evSL P _ _ _ (h ++ [(⟨.lst [.int A, .int B], false⟩ : Ob)])).sat N T)
  have hp : Pool (h ++ [(⟨.lst [.int A, .int B], false⟩ : Ob)]) h.length := ⟨A, B, hA, hB, by simp⟩
  have hlen : (h ++ [(⟨.lst [.int A, .int B], false⟩ : Ob)]).length = h.length + 1 := by simp
  generalize h ++ [(⟨.lst [.int A, .int B], false⟩ : Ob)] = h1 at hp hlen ⊢
  generalize h.length = p at hp hlen ⊢
  simp only [List.set_cons_succ, List.set_cons_zero]
  refine asg_loc (by simp) ((names_sat (n := n + 5) H.toHasP hp).mono fun d h2 ⟨nl, ed, n1, n2, n3, hp2, k2⟩ => ?_)
  subst ed
  simp only [List.set_cons_succ, List.set_cons_zero]
  refine asg_loc (by simp) ((cols_sat (n := n + 5) H.toHasP hp2 n3 n1 n2).mono fun d h3 ⟨cs, ed, c1, c2, hp3, k3⟩ => ?_)
  subst ed
  simp only [List.set_cons_succ, List.set_cons_zero]
  refine asg_loc (by simp) ?_
  simp only [evE_s13, evEL_s1, sat_bind', R.sat_ok, List.length_nil, ok0, if_true, lsR_t, List.set_cons_succ, List.set_cons_zero]
  have l3 : h3.length = p + 1 := by rw [k3.1, k2.1, hlen]
  have hp4 : Pool (h3 ++ [(⟨.lst [], false⟩ : Ob)]) p := by
    obtain ⟨A, B, hA, hB, e⟩ := hp3
    exact ⟨A, B, hA, hB, by rw [List.getElem?_append_left (List.getElem?_eq_some_iff.mp e).1]; exact e⟩
  have hq : (h3 ++ [(⟨.lst [], false⟩ : Ob)])[h3.length]? = some ⟨.lst [], false⟩ := by simp
  rw [evSL_s2, RS.sat_bind]
  refine row_sat (n := n + 5) H.toHasP (by omega) hp4 hq c2 (by omega) fun b6 b8 h5 rs hp5 hq5 rl ra hl5 => ?_
  rw [evSL_s2, RS.sat_bind]
  simp only [evS_s10, evI_s2, evEL_s1, evEL_s2, evE_s2, sat_bind', sat_toS', R.sat_ok, rngSrc]
  rw [if_pos (by decide)]
  simp only [R.sat_ok]
  refine forLoop_sat ((List.range 8).map fun j : Nat => D.int (j : Int)) (fun i l h' => ∃ b9 b10 b11 b12, l = [some (.vl (ns.map D.int)), some (.int k), some (.ref p), some (.vl nl), a4, some (.vl cs), b6, some (.ref h3.length), b8, b9, b10, b11, b12, a13] ∧ Pool h' p ∧ h'[h3.length]? = some ⟨.lst rs, false⟩) rfl (fun _ _ _ _ => rng_at)
    ⟨_, _, _, _, rfl, hp5, hq5⟩ (fun i d l h' ed => ?_) fun l h' ⟨b9, b10, b11, b12, el, _⟩ => ?_
  · rintro ⟨b9, b10, b11, b12, rfl, hp6, hq6⟩
    simp only [evT_s1, List.length_cons, List.length_nil, Nat.reduceAdd, Nat.reduceLT, if_true, R.sat_ok, List.set_cons_succ, List.set_cons_zero, ↓reduceIte]
    exact turn_sat (n := n) H (by omega) hp6 hq6 c2 (by omega) (by omega) ra rl fun c10 c11 c12 h7 hp7 hq7 => ⟨_, _, _, _, rfl, hp7, hq7⟩
  · subst el
    rw [evSL_s1]
    exact fin _ _ _ _ _ _ _ _ _ _ _ _ _
theorem words_no : wordsD.all (fun w => D.dat w && !nm w) = true := by decide +kernel
theorem law_sat (H : HasK P) (ns : List Int) (hn : ns.length ≤ 63) : (callN P (n + 7) 19 [.vl (ns.map D.int)] h).sat fun x _ => x = .bl true := by
  refine callN_sat H.f19 rfl rfl ?_
  show (evSL P (callN P (n + 6)) B19 [some (.vl (ns.map D.int)), none, none, none, none, none, none, none, none, none, none, none, none, none] h).sat _ _
  rw [B19_eq, evSL_s2, RS.sat_bind]
  simp only [evS_s10, evI_s2, evEL_s1, evEL_s2, evE_s22, evE_s1, evE_s2, sat_bind', sat_toS', R.sat_ok, List.getElem?_cons_zero, bf_len_l, bf_min, bf_max, List.length_map]
  have hm : ∃ m : Nat, m ≤ 6 ∧ rngSrc [D.int (if (if (6 : Int) < ns.length then 6 else (ns.length : Int)) > 1 then (if (6 : Int) < ns.length then 6 else (ns.length : Int)) else 1)] = some (.rng 0 1 m) := by
    refine ⟨(if (if (6 : Int) < ns.length then 6 else (ns.length : Int)) > 1 then (if (6 : Int) < ns.length then 6 else (ns.length : Int)) else 1).toNat, by split <;> (try split) <;> omega, ?_⟩
    unfold rngSrc
    simp only []
    rw [if_pos]
    rw [Bool.and_eq_true, decide_eq_true_eq, decide_eq_true_eq]
    constructor
    · split <;> (try split) <;> omega
    · split <;> (try split) <;> omega
  obtain ⟨m, m6, em⟩ := hm
  simp only [em, R.sat_ok]
  refine forLoop_sat ((List.range m).map fun j : Nat => D.int (j : Int)) (fun i l h' => ∃ b1 b2 b3 b4 b5 b6 b7 b8 b9 b10 b11 b12 b13, l = [some (.vl (ns.map D.int)), b1, b2, b3, b4, b5, b6, b7, b8, b9, b10, b11, b12, b13]) rfl (fun _ _ _ _ => rng_at)
    ⟨_, _, _, _, _, _, _, _, _, _, _, _, _, rfl⟩ (fun i d l h' ed => ?_) fun l h' ⟨b1, b2, b3, b4, b5, b6, b7, b8, b9, b10, b11, b12, b13, el⟩ => ?_
  · rintro ⟨b1, b2, b3, b4, b5, b6, b7, b8, b9, b10, b11, b12, b13, rfl⟩
    obtain ⟨j, hj, rfl⟩ := List.mem_map.mp (List.mem_of_getElem? ed)
    rw [List.mem_range] at hj
    simp only [evT_s1, List.length_cons, List.length_nil, Nat.reduceAdd, Nat.reduceLT, if_true, R.sat_ok, List.set_cons_succ, List.set_cons_zero, ↓reduceIte]
    exact cell_sat H ns (by omega) fun c2 c3 c4 c5 c6 c7 c8 c9 c10 c11 c12 c13 h' => ⟨_, _, _, _, _, _, _, _, _, _, _, _, _, rfl⟩
  · subst el
    refine ret_e ?_
    have ew : Ev.plain (callN P (n + 6) 10 [] h') = .ok (.vl wordsD) h' := by rw [law_words_eq (n := n + 5) H]; rfl
    have ln : okLen wordsD.length = true := by decide +kernel
    simp only [endE, evE_s9, evE_s25, evI_s1, evE_s19, evEL_s1, sat_bind', R.sat_ok, ew, src_vl, evE_s13, List.length_nil, ok0, if_true, lsR_f, cmp_eq, evEq]
    refine lc_seq wordsD (fun _ => none) ln (fun w hw => ?_) ?_
    · have q := List.all_eq_true.mp words_no w hw
      rw [Bool.and_eq_true, Bool.not_eq_true'] at q
      have e1 := is_name_eq (n := n + 5) (h := h') H.toHasV q.1
      simp [wipe, e1, q.2, plain_bl, evIs, hasV]
    · simp
end EvL
end
section
/-! law_k10_values_and_columns: its table, its defs by the intermediate text. -/
set_option linter.all false
set_option maxRecDepth 100000
set_option maxHeartbeats 4000000
namespace EvLaw
open PySem PySem.Spec PyProof.Rows Ev EvL
abbrev topS (i : Nat) : PySem.Stmt := PySem.Challenge.pw_backfilled_k10_values_and_columns.main.body.getD i (.Pass ⟨0, 0, 0, 0⟩)
def d0 : DefT := ⟨0, "is_integer", topS 7, ["value"], ["value"], []⟩
def d1 : DefT := ⟨1, "is_name", topS 8, ["value", "letter"], ["value"], []⟩
def d2 : DefT := ⟨2, "is_value", topS 9, ["value", "sign"], ["value"], []⟩
def d3 : DefT := ⟨3, "kind_of", topS 10, ["value"], ["value"], []⟩
def d4 : DefT := ⟨4, "is_day", topS 11, ["value"], ["value"], []⟩
def d5 : DefT := ⟨5, "is_column", topS 12, ["value"], ["value"], []⟩
def d6 : DefT := ⟨6, "is_columns", topS 13, ["value", "column", "name", "kind"], ["value"], []⟩
def d7 : DefT := ⟨7, "is_row", topS 14, ["value", "columns", "one", "name", "kind"], ["value", "columns"], []⟩
def d8 : DefT := ⟨8, "_law_pool", topS 16, ["_law_script", "_law_k", "_law_cell", "_law_size", "_law_seed"], ["_law_script", "_law_k"], [(43, 11)]⟩
def d9 : DefT := ⟨9, "_law_take", topS 17, ["_law_pool_here", "_law_many", "_law_found"], ["_law_pool_here", "_law_many"], []⟩
def d10 : DefT := ⟨10, "_law_words", topS 18, [], [], []⟩
def d11 : DefT := ⟨11, "_law_is_name", topS 19, ["_law_value", "_law_letter"], ["_law_value"], []⟩
def d12 : DefT := ⟨12, "_law_kind", topS 20, ["_law_value", "_law_good", "_law_sign"], ["_law_value"], []⟩
def d13 : DefT := ⟨13, "_law_is_column", topS 21, ["_law_value"], ["_law_value"], []⟩
def d14 : DefT := ⟨14, "_law_is_columns", topS 22, ["_law_value", "_law_column"], ["_law_value"], []⟩
def d15 : DefT := ⟨15, "_law_is_row", topS 23, ["_law_value", "_law_columns", "_law_one", "_law_name", "_law_kind_here"], ["_law_value", "_law_columns"], []⟩
def d16 : DefT := ⟨16, "_law_odd", topS 24, ["_law_pool_here", "_law_some"], ["_law_pool_here"], []⟩
def d17 : DefT := ⟨17, "_law_bent", topS 25, ["_law_pool_here", "_law_things", "_law_at", "_law_odd_here", "_law_some"], ["_law_pool_here", "_law_things"], []⟩
def d18 : DefT := ⟨18, "_law_right", topS 26, ["_law_columns", "_law_value", "_law_told", "_law_day", "_law_due"], ["_law_columns", "_law_value"], []⟩
def d19 : DefT := ⟨19, "law", topS 27, ["_law_script", "_law_k", "_law_pool_here", "_law_names", "_law_letter", "_law_columns", "_law_name", "_law_row", "_law_kind_here", "_law_turn", "_law_bent_here", "_law_kept", "_law_pair", "_law_word"], ["_law_script"], [(94, 19)]⟩
def tab : Tab where
  defs := [d0, d1, d2, d3, d4, d5, d6, d7, d8, d9, d10, d11, d12, d13, d14, d15, d16, d17, d18, d19]
  gls := [("LETTERS", (0, .str (ofStr "abcdefghijklmnopqrstuvwxyz"))), ("SIGNS", (1, .str (ofStr "abcdefghijklmnopqrstuvwxyz0123456789 "))), ("WORDS", (2, .vl [.str (ofStr "last"), .str (ofStr "where"), .str (ofStr "with"), .str (ofStr "keep"), .str (ofStr "rename"), .str (ofStr "join"), .str (ofStr "union"), .str (ofStr "minus"), .str (ofStr "group"), .str (ofStr "count"), .str (ofStr "sum"), .str (ofStr "least"), .str (ofStr "greatest"), .str (ofStr "and"), .str (ofStr "or"), .str (ofStr "not"), .str (ofStr "today")])), ("KINDS", (3, .vl [.str (ofStr "number"), .str (ofStr "text")])), ("LAST_DAY", (4, .int 999)), ("MOST_COLUMNS", (5, .int 10))]
  ls := [⟨"WORDS", [.str (ofStr "last"), .str (ofStr "where"), .str (ofStr "with"), .str (ofStr "keep"), .str (ofStr "rename"), .str (ofStr "join"), .str (ofStr "union"), .str (ofStr "minus"), .str (ofStr "group"), .str (ofStr "count"), .str (ofStr "sum"), .str (ofStr "least"), .str (ofStr "greatest"), .str (ofStr "and"), .str (ofStr "or"), .str (ofStr "not"), .str (ofStr "today")]⟩, ⟨"KINDS", [.str (ofStr "number"), .str (ofStr "text")]⟩]
  fld := [("split", 16), ("append", 10)]

/-- _law_words -/
def B10 : SL := (.cons (.ret (.met (.con (.str [108, 97, 115, 116, 32, 119, 104, 101, 114, 101, 32, 119, 105, 116, 104, 32, 107, 101, 101, 112, 32, 114, 101, 110, 97, 109, 101, 32, 106, 111, 105, 110, 32, 117, 110, 105, 111, 110, 32, 109, 105, 110, 117, 115, 32, 103, 114, 111, 117, 112, 32, 99, 111, 117, 110, 116, 32, 115, 117, 109, 32, 108, 101, 97, 115, 116, 32, 103, 114, 101, 97, 116, 101, 115, 116, 32, 97, 110, 100, 32, 111, 114, 32, 110, 111, 116, 32, 116, 111, 100, 97, 121])) 16 (.cons false (.con (.str [32])) .nil))) .nil)
/-- _law_is_name -/
def B11 : SL := (.cons (.if_ (.or (.not (.bf .isi (.cons false (.loc 0) (.cons false (.con (.ty 2)) .nil)))) (.or (.cmp .in_ (.loc 0) (.call 10 .nil)) (.not (.cmp2 .le .le (.con (.int 1)) (.bf .len (.cons false (.loc 0) .nil)) (.con (.int 8)))))) (.cons (.ret (.con (.bl false))) .nil) .nil) (.cons (.ret (.cmp .eq (.lc false [1] (.loc 1) (.loc 1) (.it (.loc 0)) (.cons false (.not (.cmp2 .le .le (.con (.str [97])) (.loc 1) (.con (.str [122])))) .nil)) (.lst false .nil))) .nil))
/-- _law_kind -/
def B12 : SL := (.cons (.if_ (.bf .isi (.cons false (.loc 0) (.cons false (.con (.ty 2)) .nil))) (.cons (.asg (.loc 1) (.lc false [2] (.loc 2) (.loc 2) (.it (.loc 0)) (.cons false (.or (.cmp2 .le .le (.con (.str [97])) (.loc 2) (.con (.str [122]))) (.or (.cmp2 .le .le (.con (.str [48])) (.loc 2) (.con (.str [57]))) (.cmp .eq (.loc 2) (.con (.str [32]))))) .nil))) (.cons (.ret (.ite (.cmp2 .eq .le (.bf .len (.cons false (.loc 1) .nil)) (.bf .len (.cons false (.loc 0) .nil)) (.con (.int 20))) (.con (.str [116, 101, 120, 116])) (.con .non))) .nil)) .nil) (.cons (.ret (.ite (.and (.bf .isi (.cons false (.loc 0) (.cons false (.con (.ty 0)) .nil))) (.not (.bf .isi (.cons false (.loc 0) (.cons false (.con (.ty 1)) .nil))))) (.con (.str [110, 117, 109, 98, 101, 114])) (.con .non))) .nil))
/-- _law_is_column -/
def B13 : SL := (.cons (.if_ (.or (.not (.bf .isi (.cons false (.loc 0) (.cons false (.con (.ty 4)) .nil)))) (.or (.cmp .ne (.bf .len (.cons false (.loc 0) .nil)) (.con (.int 2))) (.not (.call 11 (.cons false (.idx (.loc 0) (.con (.int 0))) .nil))))) (.cons (.ret (.con (.bl false))) .nil) .nil) (.cons (.ret (.and (.bf .isi (.cons false (.idx (.loc 0) (.con (.int 1))) (.cons false (.con (.ty 2)) .nil))) (.cmp .in_ (.idx (.loc 0) (.con (.int 1))) (.lst false (.cons false (.con (.str [110, 117, 109, 98, 101, 114])) (.cons false (.con (.str [116, 101, 120, 116])) .nil)))))) .nil))
/-- _law_is_columns -/
def B14 : SL := (.cons (.if_ (.or (.not (.bf .isi (.cons false (.loc 0) (.cons false (.con (.ty 3)) .nil)))) (.not (.cmp2 .le .le (.con (.int 1)) (.bf .len (.cons false (.loc 0) .nil)) (.con (.int 10))))) (.cons (.ret (.con (.bl false))) .nil) .nil) (.cons (.if_ (.cmp .ne (.lc false [1] (.loc 1) (.loc 1) (.it (.loc 0)) (.cons false (.not (.call 13 (.cons false (.loc 1) .nil))) .nil)) (.lst false .nil)) (.cons (.ret (.con (.bl false))) .nil) .nil) (.cons (.ret (.cmp .eq (.uln (.lc false [1] (.idx (.loc 1) (.con (.int 0))) (.loc 1) (.it (.loc 0)) .nil)) (.bf .len (.cons false (.loc 0) .nil)))) .nil)))
/-- _law_is_row -/
def B15 : SL := (.cons (.if_ (.or (.not (.bf .isi (.cons false (.loc 0) (.cons false (.con (.ty 4)) .nil)))) (.cmp .ne (.bf .len (.cons false (.loc 0) .nil)) (.bf .len (.cons false (.loc 1) .nil)))) (.cons (.ret (.con (.bl false))) .nil) .nil) (.cons (.ret (.cmp .eq (.lc false [2] (.call 12 (.cons false (.loc 2) .nil)) (.loc 2) (.it (.loc 0)) .nil) (.lc false [3, 4] (.loc 4) (.tup (.cons (.loc 3) (.cons (.loc 4) .nil))) (.it (.loc 1)) .nil))) .nil))
/-- _law_odd -/
def B16 : SL := (.cons (.asg (.loc 1) (.lst false (.cons false (.con .non) (.cons false (.con (.bl true)) (.cons false (.con (.bl false)) (.cons false (.con (.str [])) (.cons false (.con (.str [65])) (.cons false (.con (.str [97, 49])) (.cons false (.con (.str [97, 32, 98])) (.cons false (.con (.str [97, 126])) (.cons false (.con (.str [110, 105, 110, 101, 115, 105, 103, 110, 115])) (.cons false (.con (.str [115, 117, 109])) (.cons false (.con (.str [116, 111, 100, 97, 121])) (.cons false (.tup .nil) (.cons false (.lst false .nil) (.cons false (.dic false .nil) (.cons false (.tup (.cons false (.con (.str [97])) .nil)) (.cons false (.lst false (.cons false (.con (.str [97])) .nil)) .nil)))))))))))))))))) (.cons (.asg (.loc 1) (.bin .add (.loc 1) (.lst false (.cons false (.neg (.con (.int 1))) (.cons false (.con (.int 999)) (.cons false (.con (.int 1000)) (.cons false (.bin .pow (.con (.int 10)) (.con (.int 39))) (.cons false (.bin .mul (.con (.str [97])) (.con (.int 20))) (.cons false (.bin .mul (.con (.str [97])) (.con (.int 21))) (.cons false (.con (.str [48])) (.cons false (.con (.str [97, 95, 98])) (.cons false (.con (.str [97, 10])) (.cons false (.con (.str [32])) (.cons false (.con (.str [101, 105, 103, 104, 116])) (.cons false (.con (.str [97, 98, 99, 100, 101, 102, 103, 104])) (.cons false (.tup (.cons false (.con (.str [97])) (.cons false (.con (.str [116, 101, 120, 116])) .nil))) .nil)))))))))))))))) (.cons (.ret (.idx (.loc 1) (.call 9 (.cons false (.loc 0) (.cons false (.con (.int 29)) .nil))))) .nil)))
/-- _law_bent -/
def B17 : SL := (.cons (.par [2, 3] (.cons false (.call 9 (.cons false (.loc 0) (.cons false (.bf .len (.cons false (.loc 1) .nil)) .nil))) (.cons false (.call 16 (.cons false (.loc 0) .nil)) .nil))) (.cons (.asg (.loc 4) (.lst false (.cons false (.bin .add (.bin .add (.sli (.loc 1) .no (.yes (.loc 2))) (.lst false (.cons false (.loc 3) .nil))) (.sli (.loc 1) (.yes (.bin .add (.loc 2) (.con (.int 1)))) .no)) (.cons false (.bin .add (.sli (.loc 1) .no (.yes (.loc 2))) (.sli (.loc 1) (.yes (.bin .add (.loc 2) (.con (.int 1)))) .no)) (.cons false (.bin .add (.loc 1) (.lst false (.cons false (.idx (.loc 1) (.loc 2)) .nil))) (.cons false (.loc 1) .nil)))))) (.cons (.ret (.idx (.loc 4) (.call 9 (.cons false (.loc 0) (.cons false (.con (.int 4)) .nil))))) .nil)))
/-- _law_right -/
def B18 : SL := (.cons (.asg (.loc 2) (.lst false (.cons false (.call 1 (.cons false (.loc 1) .nil)) (.cons false (.call 2 (.cons false (.loc 1) .nil)) (.cons false (.call 4 (.cons false (.loc 1) .nil)) (.cons false (.call 6 (.cons false (.loc 1) .nil)) (.cons false (.call 7 (.cons false (.loc 1) (.cons false (.loc 0) .nil))) .nil))))))) (.cons (.asg (.loc 3) (.and (.cmp .eq (.call 12 (.cons false (.loc 1) .nil)) (.con (.str [110, 117, 109, 98, 101, 114]))) (.cmp2 .le .le (.con (.int 0)) (.loc 1) (.con (.int 999))))) (.cons (.asg (.loc 4) (.lst false (.cons false (.call 11 (.cons false (.loc 1) .nil)) (.cons false (.cmp .isn (.call 12 (.cons false (.loc 1) .nil)) (.con .non)) (.cons false (.loc 3) (.cons false (.call 14 (.cons false (.loc 1) .nil)) (.cons false (.call 15 (.cons false (.loc 1) (.cons false (.loc 0) .nil))) .nil))))))) (.cons (.ret (.cmp .eq (.bf .repr (.cons false (.loc 2) .nil)) (.bf .repr (.cons false (.loc 4) .nil)))) .nil))))
/-- law -/
def B19 : SL := (.cons (.for_ (.loc 1) (.rng (.cons false (.bf .max (.cons false (.con (.int 1)) (.cons false (.bf .min (.cons false (.bf .len (.cons false (.loc 0) .nil)) (.cons false (.con (.int 6)) .nil))) .nil))) .nil)) (.cons (.asg (.loc 2) (.call 8 (.cons false (.loc 0) (.cons false (.loc 1) .nil)))) (.cons (.asg (.loc 3) (.lc false [4] (.bin .add (.loc 4) (.bin .mul (.con (.str [120])) (.call 9 (.cons false (.loc 2) (.cons false (.con (.int 8)) .nil))))) (.loc 4) (.it (.sli (.con (.str [97, 98, 99, 100, 101, 102, 103, 104, 105, 106, 107])) .no (.yes (.bin .add (.con (.int 1)) (.call 9 (.cons false (.loc 2) (.cons false (.con (.int 11)) .nil))))))) .nil)) (.cons (.asg (.loc 5) (.lc false [6] (.tup (.cons false (.loc 6) (.cons false (.idx (.lst false (.cons false (.con (.str [110, 117, 109, 98, 101, 114])) (.cons false (.con (.str [116, 101, 120, 116])) .nil))) (.call 9 (.cons false (.loc 2) (.cons false (.con (.int 2)) .nil)))) .nil))) (.loc 6) (.it (.loc 3)) .nil)) (.cons (.asg (.loc 7) (.lst true .nil)) (.cons (.for_ (.tup (.cons (.loc 6) (.cons (.loc 8) .nil))) (.it (.loc 5)) (.cons (.ex (.met (.loc 7) 10 (.cons false (.ite (.cmp .eq (.loc 8) (.con (.str [116, 101, 120, 116]))) (.idx (.lst false (.cons false (.con (.str [116, 101, 97])) (.cons false (.con (.str [])) (.cons false (.con (.str [97, 32, 49])) .nil)))) (.call 9 (.cons false (.loc 2) (.cons false (.con (.int 3)) .nil)))) (.bin .sub (.call 9 (.cons false (.loc 2) (.cons false (.con (.int 99)) .nil))) (.con (.int 50)))) .nil))) .nil)) (.cons (.for_ (.loc 9) (.rng (.cons false (.con (.int 8)) .nil)) (.cons (.asg (.loc 10) (.call 17 (.cons false (.loc 2) (.cons false (.loc 5) .nil)))) (.cons (.asg (.loc 11) (.bf .repr (.cons false (.loc 10) .nil))) (.cons (.if_ (.or (.not (.call 18 (.cons false (.sli (.loc 5) .no (.yes (.con (.int 10)))) (.cons false (.loc 10) .nil)))) (.not (.call 18 (.cons false (.sli (.loc 5) .no (.yes (.con (.int 10)))) (.cons false (.bt .tuple (.cons false (.call 17 (.cons false (.loc 2) (.cons false (.sli (.loc 7) .no (.yes (.con (.int 10)))) .nil))) .nil)) .nil))))) (.cons (.ret (.con (.bl false))) .nil) .nil) (.cons (.asg (.loc 12) (.bt .tuple (.cons false (.call 17 (.cons false (.loc 2) (.cons false (.lst false (.cons false (.con (.str [110, 97, 109, 101])) (.cons false (.con (.str [116, 101, 120, 116])) .nil))) .nil))) .nil))) (.cons (.if_ (.or (.not (.call 18 (.cons false (.sli (.loc 5) .no (.yes (.con (.int 10)))) (.cons false (.bin .add (.lst false (.cons false (.loc 12) .nil)) (.sli (.loc 5) (.yes (.con (.int 1))) .no)) .nil)))) (.cmp .ne (.bf .repr (.cons false (.loc 10) .nil)) (.loc 11))) (.cons (.ret (.con (.bl false))) .nil) .nil) (.cons (.if_ (.not (.call 18 (.cons false (.sli (.loc 5) .no (.yes (.con (.int 10)))) (.cons false (.call 16 (.cons false (.loc 2) .nil)) .nil)))) (.cons (.ret (.con (.bl false))) .nil) .nil) .nil))))))) .nil))))))) (.cons (.ret (.cmp .eq (.lc false [13] (.loc 13) (.loc 13) (.it (.call 10 .nil)) (.cons false (.cmp .isn (.call 1 (.cons false (.loc 13) .nil)) (.con (.bl false))) .nil)) (.lst false .nil))) .nil))
def fns : List Fn := [⟨1, 1, [], B0, false⟩, ⟨1, 2, [], B1, false⟩, ⟨1, 2, [], B2, false⟩, ⟨1, 1, [], B3, false⟩, ⟨1, 1, [], B4, false⟩, ⟨1, 1, [], B5, false⟩, ⟨1, 4, [], B6, false⟩, ⟨2, 5, [], B7, false⟩, ⟨2, 5, [], B8, false⟩, ⟨2, 3, [], B9, false⟩, ⟨0, 0, [], B10, false⟩, ⟨1, 2, [], B11, false⟩, ⟨1, 3, [], B12, false⟩, ⟨1, 1, [], B13, false⟩, ⟨1, 2, [], B14, false⟩, ⟨2, 5, [], B15, false⟩, ⟨1, 2, [], B16, false⟩, ⟨2, 5, [], B17, false⟩, ⟨2, 5, [], B18, false⟩, ⟨1, 14, [], B19, false⟩]
theorem ok0 : DefOk tab fns 0 d0 ⟨1, 1, [], B0, false⟩ := ⟨⟨rfl, rfl, rfl, by decide +kernel, rfl, by decide +kernel, by decide +kernel⟩, rfl, rfl, rfl, fun _ _ _ _ _ _ us hl => match us, hl with | [u0], _ => by kernel_rfl, by kernel_rfl⟩
theorem ok1 : DefOk tab fns 1 d1 ⟨1, 2, [], B1, false⟩ := ⟨⟨rfl, rfl, rfl, by decide +kernel, rfl, by decide +kernel, by decide +kernel⟩, rfl, rfl, rfl, fun _ _ _ _ _ _ us hl => match us, hl with | [u0], _ => by kernel_rfl, by kernel_rfl⟩
theorem ok2 : DefOk tab fns 2 d2 ⟨1, 2, [], B2, false⟩ := ⟨⟨rfl, rfl, rfl, by decide +kernel, rfl, by decide +kernel, by decide +kernel⟩, rfl, rfl, rfl, fun _ _ _ _ _ _ us hl => match us, hl with | [u0], _ => by kernel_rfl, by kernel_rfl⟩
theorem ok3 : DefOk tab fns 3 d3 ⟨1, 1, [], B3, false⟩ := ⟨⟨rfl, rfl, rfl, by decide +kernel, rfl, by decide +kernel, by decide +kernel⟩, rfl, rfl, rfl, fun _ _ _ _ _ _ us hl => match us, hl with | [u0], _ => by kernel_rfl, by kernel_rfl⟩
theorem ok4 : DefOk tab fns 4 d4 ⟨1, 1, [], B4, false⟩ := ⟨⟨rfl, rfl, rfl, by decide +kernel, rfl, by decide +kernel, by decide +kernel⟩, rfl, rfl, rfl, fun _ _ _ _ _ _ us hl => match us, hl with | [u0], _ => by kernel_rfl, by kernel_rfl⟩
theorem ok5 : DefOk tab fns 5 d5 ⟨1, 1, [], B5, false⟩ := ⟨⟨rfl, rfl, rfl, by decide +kernel, rfl, by decide +kernel, by decide +kernel⟩, rfl, rfl, rfl, fun _ _ _ _ _ _ us hl => match us, hl with | [u0], _ => by kernel_rfl, by kernel_rfl⟩
theorem ok6 : DefOk tab fns 6 d6 ⟨1, 4, [], B6, false⟩ := ⟨⟨rfl, rfl, rfl, by decide +kernel, rfl, by decide +kernel, by decide +kernel⟩, rfl, rfl, rfl, fun _ _ _ _ _ _ us hl => match us, hl with | [u0], _ => by kernel_rfl, by kernel_rfl⟩
theorem ok7 : DefOk tab fns 7 d7 ⟨2, 5, [], B7, false⟩ := ⟨⟨rfl, rfl, rfl, by decide +kernel, rfl, by decide +kernel, by decide +kernel⟩, rfl, rfl, rfl, fun _ _ _ _ _ _ us hl => match us, hl with | [u0, u1], _ => by kernel_rfl, by kernel_rfl⟩
theorem ok8 : DefOk tab fns 8 d8 ⟨2, 5, [], B8, false⟩ := ⟨⟨rfl, rfl, rfl, by decide +kernel, rfl, by decide +kernel, by decide +kernel⟩, rfl, rfl, rfl, fun _ _ _ _ _ _ us hl => match us, hl with | [u0, u1], _ => by kernel_rfl, by kernel_rfl⟩
theorem ok9 : DefOk tab fns 9 d9 ⟨2, 3, [], B9, false⟩ := ⟨⟨rfl, rfl, rfl, by decide +kernel, rfl, by decide +kernel, by decide +kernel⟩, rfl, rfl, rfl, fun _ _ _ _ _ _ us hl => match us, hl with | [u0, u1], _ => by kernel_rfl, by kernel_rfl⟩
theorem ok10 : DefOk tab fns 10 d10 ⟨0, 0, [], B10, false⟩ := ⟨⟨rfl, rfl, rfl, by decide +kernel, rfl, by decide +kernel, by decide +kernel⟩, rfl, rfl, rfl, fun _ _ _ _ _ _ us hl => match us, hl with | [], _ => by kernel_rfl, by kernel_rfl⟩
theorem ok11 : DefOk tab fns 11 d11 ⟨1, 2, [], B11, false⟩ := ⟨⟨rfl, rfl, rfl, by decide +kernel, rfl, by decide +kernel, by decide +kernel⟩, rfl, rfl, rfl, fun _ _ _ _ _ _ us hl => match us, hl with | [u0], _ => by kernel_rfl, by kernel_rfl⟩
theorem ok12 : DefOk tab fns 12 d12 ⟨1, 3, [], B12, false⟩ := ⟨⟨rfl, rfl, rfl, by decide +kernel, rfl, by decide +kernel, by decide +kernel⟩, rfl, rfl, rfl, fun _ _ _ _ _ _ us hl => match us, hl with | [u0], _ => by kernel_rfl, by kernel_rfl⟩
theorem ok13 : DefOk tab fns 13 d13 ⟨1, 1, [], B13, false⟩ := ⟨⟨rfl, rfl, rfl, by decide +kernel, rfl, by decide +kernel, by decide +kernel⟩, rfl, rfl, rfl, fun _ _ _ _ _ _ us hl => match us, hl with | [u0], _ => by kernel_rfl, by kernel_rfl⟩
theorem ok14 : DefOk tab fns 14 d14 ⟨1, 2, [], B14, false⟩ := ⟨⟨rfl, rfl, rfl, by decide +kernel, rfl, by decide +kernel, by decide +kernel⟩, rfl, rfl, rfl, fun _ _ _ _ _ _ us hl => match us, hl with | [u0], _ => by kernel_rfl, by kernel_rfl⟩
theorem ok15 : DefOk tab fns 15 d15 ⟨2, 5, [], B15, false⟩ := ⟨⟨rfl, rfl, rfl, by decide +kernel, rfl, by decide +kernel, by decide +kernel⟩, rfl, rfl, rfl, fun _ _ _ _ _ _ us hl => match us, hl with | [u0, u1], _ => by kernel_rfl, by kernel_rfl⟩
theorem ok16 : DefOk tab fns 16 d16 ⟨1, 2, [], B16, false⟩ := ⟨⟨rfl, rfl, rfl, by decide +kernel, rfl, by decide +kernel, by decide +kernel⟩, rfl, rfl, rfl, fun _ _ _ _ _ _ us hl => match us, hl with | [u0], _ => by kernel_rfl, by kernel_rfl⟩
theorem ok17 : DefOk tab fns 17 d17 ⟨2, 5, [], B17, false⟩ := ⟨⟨rfl, rfl, rfl, by decide +kernel, rfl, by decide +kernel, by decide +kernel⟩, rfl, rfl, rfl, fun _ _ _ _ _ _ us hl => match us, hl with | [u0, u1], _ => by kernel_rfl, by kernel_rfl⟩
theorem ok18 : DefOk tab fns 18 d18 ⟨2, 5, [], B18, false⟩ := ⟨⟨rfl, rfl, rfl, by decide +kernel, rfl, by decide +kernel, by decide +kernel⟩, rfl, rfl, rfl, fun _ _ _ _ _ _ us hl => match us, hl with | [u0, u1], _ => by kernel_rfl, by kernel_rfl⟩
theorem ok19 : DefOk tab fns 19 d19 ⟨1, 14, [], B19, false⟩ := ⟨⟨rfl, rfl, rfl, by decide +kernel, rfl, by decide +kernel, by decide +kernel⟩, rfl, rfl, rfl, fun _ _ _ _ _ _ us hl => match us, hl with | [u0], _ => by kernel_rfl, by kernel_rfl⟩
theorem oks : ∀ i d F, tab.defs[i]? = some d → fns[i]? = some F → DefOk tab fns i d F
  | 0, _, _, h1, h2 => by cases h1; cases h2; exact ok0
  | 1, _, _, h1, h2 => by cases h1; cases h2; exact ok1
  | 2, _, _, h1, h2 => by cases h1; cases h2; exact ok2
  | 3, _, _, h1, h2 => by cases h1; cases h2; exact ok3
  | 4, _, _, h1, h2 => by cases h1; cases h2; exact ok4
  | 5, _, _, h1, h2 => by cases h1; cases h2; exact ok5
  | 6, _, _, h1, h2 => by cases h1; cases h2; exact ok6
  | 7, _, _, h1, h2 => by cases h1; cases h2; exact ok7
  | 8, _, _, h1, h2 => by cases h1; cases h2; exact ok8
  | 9, _, _, h1, h2 => by cases h1; cases h2; exact ok9
  | 10, _, _, h1, h2 => by cases h1; cases h2; exact ok10
  | 11, _, _, h1, h2 => by cases h1; cases h2; exact ok11
  | 12, _, _, h1, h2 => by cases h1; cases h2; exact ok12
  | 13, _, _, h1, h2 => by cases h1; cases h2; exact ok13
  | 14, _, _, h1, h2 => by cases h1; cases h2; exact ok14
  | 15, _, _, h1, h2 => by cases h1; cases h2; exact ok15
  | 16, _, _, h1, h2 => by cases h1; cases h2; exact ok16
  | 17, _, _, h1, h2 => by cases h1; cases h2; exact ok17
  | 18, _, _, h1, h2 => by cases h1; cases h2; exact ok18
  | 19, _, _, h1, h2 => by cases h1; cases h2; exact ok19
  | _ + 20, _, _, h1, _ => by cases h1
theorem tab_ok : tab.ok = true := by decide +kernel
end EvLaw
end
section
/-! k10: the head, the end. -/
set_option linter.all false
set_option maxRecDepth 100000
set_option maxHeartbeats 0
namespace EvLaw
open PySem PySem.Spec PyProof.Rows Ev EvL
abbrev rwL := PySem.Challenge.rw_backfilled_k10_values_and_columns
abbrev R : PySem.W.OpenRow := PySem.W.OpenLaw.row rwL
abbrev hk : PySem.W.Hook := hookX 4 tab.fa tab.fn tab.ls
def ob (s : PySem.W.SharedT) : AlX := obX 4 tab.fa tab.fn tab.ls (HandSHeadRun.getT s)
theorem ob_eq (s : PySem.W.SharedT) : ob s = hk.obs s.abs := obX_eq (HandSHeadRun.getT_eq s)
abbrev looseN : List Str := ["is_integer", "is_name", "is_value", "kind_of", "is_day", "is_column", "is_columns", "is_row", "_law_pool", "_law_take", "_law_words", "_law_is_name", "_law_kind", "_law_is_column", "_law_is_columns", "_law_is_row", "_law_odd", "_law_bent", "_law_right", "LETTERS", "SIGNS", "WORDS", "KINDS", "LAST_DAY", "MOST_COLUMNS"]
theorem run (w : World) : HandSHeadRun.RunEq R (PySem.W.view R.prog [27]) hk ob 1500 looseN w := by
  intro os
  kernel_rfl
theorem has (ns : List Int) : HasK (tab.P fns ns) where
  f0 := rfl
  f1 := rfl
  f2 := rfl
  f3 := rfl
  f4 := rfl
  f5 := rfl
  f6 := rfl
  f7 := rfl
  g0 := rfl
  g1 := rfl
  g2 := rfl
  g3 := rfl
  g4 := rfl
  g5 := rfl
  f8 := rfl
  f9 := rfl
  f10 := rfl
  f11 := rfl
  f12 := rfl
  f13 := rfl
  f14 := rfl
  f15 := rfl
  f16 := rfl
  f17 := rfl
  f18 := rfl
  f19 := rfl
theorem main (ns : List Int) (h : ns.length ≤ 63) : ∃ h', callN (tab.P fns ns) 57 19 [.vl (ns.map D.int)] [] = .ok (.bl true) h' := by
  obtain ⟨x, h', e, rfl⟩ := (law_sat (n := 50) (h := []) (has ns) ns h).ok
  exact ⟨h', e⟩
end EvLaw
open PySem PySem.W PySem.Calls PyProof.Rows Ev EvLaw
theorem PySem.Challenge.cw_backfilled_k10_values_and_columns_holds : PySem.Challenge.rw_backfilled_k10_values_and_columns.Holds := by
  w_on; o_law
  refine HandSHeadRun.head_any (r := OpenLaw.row PySem.Challenge.rw_backfilled_k10_values_and_columns) (q := view (OpenLaw.row PySem.Challenge.rw_backfilled_k10_values_and_columns).prog [27]) (H := EvLaw.hk) (ob := EvLaw.ob) (M := 1500) (loose := EvLaw.looseN) (d := HandSHeadRun.topDef (OpenLaw.row PySem.Challenge.rw_backfilled_k10_values_and_columns).prog 27) (kwd := []) EvLaw.ob_eq
    (by kernel_rfl) (fun s => by kernel_rfl) EvLaw.run (by kernel_rfl) (by kernel_rfl) (by kernel_rfl) (by rfl) (by first | assumption | decide +kernel) (by decide +kernel) ⟨rfl, rfl, rfl, rfl, rfl, by decide +kernel⟩ ?hw ?hc
  case hw => w_witness2
  case hc =>
    refine walk_ev (l := PySem.Challenge.rw_backfilled_k10_values_and_columns) (m := 63) (n := 57) rfl (by decide) (by kernel_rfl) (by decide) ?F
    intro w mg fa h Y G hmg0 a ns hns
    obtain ⟨K, KX, c⟩ := Y
    have hmg : mg ("law" : PySem.Str) = some (.ref fa) := by
      have e : (HandSHeadRun.topDef (OpenLaw.row PySem.Challenge.rw_backfilled_k10_values_and_columns).prog 27).name = ("law" : PySem.Str) := by kernel_rfl
      rw [← e]
      exact hmg0
    have f : (He.Fa.glo "law").ok K = true := c.d.facts (List.mem_append_left _ (List.mem_map_of_mem (f := fun d : DefT => He.Fa.glo d.x) (List.mem_of_getElem? (show tab.defs[19]? = some d19 from rfl))))
    have e := hmg.symm.trans (He.glo_ok KX G f)
    cases e
    exact ⟨tab.lk _ w K mg fns ns, 19, rfl, rfl, rfl, rfl, KX, c.sm, tab.fnAt tab_ok KX G c rfl oks, fun base n _ => own_none rfl _ _, main ns hns⟩
end
