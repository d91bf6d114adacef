import PyProof.Rows.All
import Wide.All
import OpenK.AllK
import Wide.FinOn
import HandS.ForMost
import HandS.ForExc
import HandS.TupAny
import HandS.IsInst
import PyProof.ReprRoads
import PyProof.ReprBulk
import HandS.Style
import HandS.Zip
import HandS.Defaults
import HandS.HeadHook4
import HandS.HeadEnd
import HandS.HeadWalk
import HandS.EndBits
import KE.SortData
import HandS.Head2
import HandS.Deep
import KE.GoesMore
import HandS.Flow
import HandS.Conv
import PySem.Challenge.RW_wayhouse_k22_likings_and_what_is_told
set_option Elab.async false
set_option linter.all false
set_option maxRecDepth 100000
/-! R0: trees of draws, what a def's mirror computes over data. -/
namespace R
open PySem L2

/-- what a mirror computes: a value, an exception (its class, its fields), nothing known, or a draw below n -/
inductive T (α : Type) where
  | ret (a : α)
  | exc (c : Str) (fs : List (Str × PyData))
  | stuck
  | draw (n : Int) (k : Int → T α)

namespace T
variable {α β γ : Type}
def bind : T α → (α → T β) → T β
  | .ret a, f => f a
  | .exc c fs, _ => .exc c fs
  | .stuck, _ => .stuck
  | .draw n k, f => .draw n fun r => (k r).bind f
instance : Monad T := { pure := T.ret, bind := T.bind }
theorem bind_def (t : T α) (f : α → T β) : (t >>= f) = t.bind f := rfl
@[simp] theorem ret_bind (a : α) (f : α → T β) : (T.ret a >>= f) = f a := rfl
@[simp] theorem pure_eq (a : α) : (pure a : T α) = .ret a := rfl
@[simp] theorem exc_bind (c fs) (f : α → T β) : (T.exc c fs >>= f) = .exc c fs := rfl
@[simp] theorem stuck_bind (f : α → T β) : (T.stuck >>= f) = .stuck := rfl
@[simp] theorem draw_bind (n) (k : Int → T α) (f : α → T β) : (T.draw n k >>= f) = .draw n fun r => k r >>= f := rfl
theorem bind_assoc' (t : T α) (f : α → T β) (g : β → T γ) : (t.bind f).bind g = t.bind fun a => (f a).bind g := by
  induction t with
  | ret a => rfl
  | exc c fs => rfl
  | stuck => rfl
  | draw n k ih => simp only [bind]; congr; funext r; exact ih r
@[simp] theorem bind_assoc (t : T α) (f : α → T β) (g : β → T γ) : ((t >>= f) >>= g) = t >>= fun a => f a >>= g := bind_assoc' t f g
theorem bind_ret (t : T α) : (t >>= T.ret) = t := by
  show t.bind T.ret = t
  induction t with
  | ret a => rfl
  | exc c fs => rfl
  | stuck => rfl
  | draw n k ih => simp only [bind]; congr; funext r; exact ih r

/-- b: how many draws are left; Q: what is wanted of a value, E: of an exception -/
def wp : T α → Nat → (α → Nat → Prop) → (Str → List (Str × PyData) → Nat → Prop) → Prop
  | .ret a, b, Q, _ => Q a b
  | .exc c fs, b, _, E => E c fs b
  | .stuck, _, _, _ => False
  | .draw n k, b, Q, E => (0 < n ∧ n < 1073741824) ∧ ∃ b', b = b' + 1 ∧ ∀ r, 0 ≤ r → r < n → wp (k r) b' Q E
theorem wp_mono {t : T α} {b : Nat} {Q Q' : α → Nat → Prop} {E E' : Str → List (Str × PyData) → Nat → Prop} (h : wp t b Q E) (hq : ∀ a b', Q a b' → Q' a b') (he : ∀ c fs b', E c fs b' → E' c fs b') : wp t b Q' E' := by
  induction t generalizing b with
  | ret a => exact hq _ _ h
  | exc c fs => exact he _ _ _ h
  | stuck => exact h
  | draw n k ih =>
    obtain ⟨h0, b', e, h⟩ := h
    exact ⟨h0, b', e, fun r h1 h2 => ih r (h r h1 h2)⟩
theorem wp_bind' {t : T α} {f : α → T β} {b : Nat} {Q : β → Nat → Prop} {E : Str → List (Str × PyData) → Nat → Prop} : wp (t.bind f) b Q E ↔ wp t b (fun a b' => wp (f a) b' Q E) E := by
  induction t generalizing b with
  | ret a => exact Iff.rfl
  | exc c fs => exact Iff.rfl
  | stuck => exact Iff.rfl
  | draw n k ih =>
    constructor
    · rintro ⟨h0, b', e, h⟩
      exact ⟨h0, b', e, fun r h1 h2 => (ih r).mp (h r h1 h2)⟩
    · rintro ⟨h0, b', e, h⟩
      exact ⟨h0, b', e, fun r h1 h2 => (ih r).mpr (h r h1 h2)⟩
theorem wp_bind {t : T α} {f : α → T β} {b : Nat} {Q : β → Nat → Prop} {E : Str → List (Str × PyData) → Nat → Prop} : wp (t >>= f) b Q E ↔ wp t b (fun a b' => wp (f a) b' Q E) E := wp_bind'

/-- whatever is drawn, it ends with a value of which Q holds -/
def all : T α → (α → Prop) → Prop
  | .ret a, Q => Q a
  | .exc _ _, _ => False
  | .stuck, _ => False
  | .draw n k, Q => (0 < n ∧ n < 1073741824) ∧ ∀ r, 0 ≤ r → r < n → all (k r) Q
theorem all_mono {t : T α} {Q Q' : α → Prop} (h : all t Q) (hq : ∀ a, Q a → Q' a) : all t Q' := by
  induction t with
  | ret a => exact hq _ h
  | exc c fs => exact h
  | stuck => exact h
  | draw n k ih => exact ⟨h.1, fun r h1 h2 => ih r (h.2 r h1 h2)⟩
theorem all_bind {t : T α} {f : α → T β} {Q : β → Prop} : all (t >>= f) Q ↔ all t fun a => all (f a) Q := by
  show all (t.bind f) Q ↔ _
  induction t with
  | ret a => exact Iff.rfl
  | exc c fs => exact Iff.rfl
  | stuck => exact Iff.rfl
  | draw n k ih =>
    constructor
    · rintro ⟨h0, h⟩
      exact ⟨h0, fun r h1 h2 => (ih r).mp (h r h1 h2)⟩
    · rintro ⟨h0, h⟩
      exact ⟨h0, fun r h1 h2 => (ih r).mpr (h r h1 h2)⟩
theorem all_ret {a : α} {Q : α → Prop} : all (.ret a) Q ↔ Q a := Iff.rfl
theorem all_draw {n : Int} {k : Int → T α} {Q : α → Prop} : all (.draw n k) Q ↔ (0 < n ∧ n < 1073741824) ∧ ∀ r, 0 ≤ r → r < n → all (k r) Q := Iff.rfl
/-- how many draws at most -/
def sup (f : Nat → Nat) : Nat → Nat
  | 0 => 0
  | n + 1 => max (sup f n) (f n)
theorem le_sup (f : Nat → Nat) : ∀ {n i : Nat}, i < n → f i ≤ sup f n
  | n + 1, i, h => by
    unfold sup
    by_cases e : i = n
    · subst e; exact Nat.le_max_right _ _
    · exact Nat.le_trans (le_sup f (by omega)) (Nat.le_max_left _ _)
def dep : T α → Nat
  | .ret _ => 0
  | .exc _ _ => 0
  | .stuck => 0
  | .draw n k => sup (fun i => dep (k (i : Int))) n.toNat + 1
theorem wp_of_all {t : T α} {Q : α → Prop} (h : all t Q) : ∀ {b : Nat}, dep t ≤ b → wp t b (fun a _ => Q a) fun _ _ _ => False := by
  induction t with
  | ret a => intro b _; exact h
  | exc c fs => intro b _; exact h
  | stuck => intro b _; exact h
  | draw n k ih =>
    intro b hb
    unfold dep at hb
    refine ⟨h.1, b - 1, by omega, fun r h1 h2 => ih r (h.2 r h1 h2) ?_⟩
    have := le_sup (fun i => dep (k (i : Int))) (n := n.toNat) (i := r.toNat) (by omega)
    have e : ((r.toNat : Nat) : Int) = r := Int.toNat_of_nonneg h1
    simp only [e] at this
    omega
end T

/-- the same, not to be unfolded by chance -/
structure AllE {α : Type} (t : T α) (Q : α → Prop) : Prop where
  h : t.all Q
theorem AllE.mono {α : Type} {t : T α} {Q Q' : α → Prop} (h : AllE t Q) (hq : ∀ a, Q a → Q' a) : AllE t Q' := ⟨T.all_mono h.h hq⟩
theorem AllE.bind {α β : Type} {t : T α} {f : α → T β} {Q : β → Prop} {P : α → Prop} (h : AllE t P) (hf : ∀ a, P a → AllE (f a) Q) : AllE (t >>= f) Q := ⟨T.all_bind.mpr (T.all_mono h.h fun a p => (hf a p).h)⟩
theorem AllE.ret {α : Type} {a : α} {Q : α → Prop} (h : Q a) : AllE (.ret a) Q := ⟨h⟩
theorem AllE.draw {α : Type} {n : Int} {k : Int → T α} {Q : α → Prop} (h0 : 0 < n) (h1 : n < 1073741824) (h : ∀ r, 0 ≤ r → r < n → AllE (k r) Q) : AllE (.draw n k) Q := ⟨⟨h0, h1⟩, fun r a b => (h r a b).h⟩

/-- a def's names by slot -/
abbrev Env := List (Option PyData)
def nth : Env → Nat → Option PyData
  | [], _ => none
  | x :: _, 0 => x
  | _ :: r, i + 1 => nth r i
@[simp] theorem nth_nil (i : Nat) : nth [] i = none := by cases i <;> rfl
@[simp] theorem nth_zero (x) (r : Env) : nth (x :: r) 0 = x := rfl
@[simp] theorem nth_succ (x) (r : Env) (i : Nat) : nth (x :: r) (i + 1) = nth r i := rfl
def put : Env → Nat → PyData → Env
  | [], _, _ => []
  | _ :: r, 0, d => some d :: r
  | x :: r, i + 1, d => x :: put r i d
@[simp] theorem put_nil (i d) : put [] i d = [] := by cases i <;> rfl
@[simp] theorem put_zero (x d) (r : Env) : put (x :: r) 0 d = some d :: r := rfl
@[simp] theorem put_succ (x d) (r : Env) (i : Nat) : put (x :: r) (i + 1) d = x :: put r i d := rfl
theorem put_length : ∀ (ρ : Env) (i d), (put ρ i d).length = ρ.length
  | [], _, _ => by simp
  | _ :: _, 0, _ => rfl
  | _ :: r, i + 1, d => by simp [put_length r i d]
theorem nth_put : ∀ (ρ : Env) (i : Nat) (d : PyData) (j : Nat), nth (put ρ i d) j = if j = i ∧ i < ρ.length then some d else nth ρ j
  | [], i, d, j => by simp
  | x :: r, 0, d, 0 => by simp
  | x :: r, 0, d, j + 1 => by simp
  | x :: r, i + 1, d, 0 => by simp
  | x :: r, i + 1, d, j + 1 => by simp [nth_put r i d j]
theorem nth_put_ne {ρ : Env} {i j : Nat} {d : PyData} (h : j ≠ i) : nth (put ρ i d) j = nth ρ j := by rw [nth_put, if_neg fun q => h q.1]
theorem nth_put_some {ρ : Env} {i : Nat} {d e : PyData} (h : nth (put ρ i d) i = some e) : e = d ∨ ¬ i < ρ.length := by
  rw [nth_put] at h
  by_cases q : i < ρ.length
  · rw [if_pos ⟨rfl, q⟩] at h; exact .inl (Option.some.inj h).symm
  · exact .inr q
theorem nth_lt : ∀ {ρ : Env} {i : Nat} {d}, nth ρ i = some d → i < ρ.length
  | x :: r, 0, d, h => by simp
  | x :: r, i + 1, d, h => by have := nth_lt (ρ := r) h; simp; omega
/-- slots forgotten -/
def wiped (ρ : Env) : List Nat → Env
  | [] => ρ
  | v :: vs => (wiped ρ vs).set v none
theorem nth_eq (ρ : Env) (i : Nat) : nth ρ i = (ρ[i]?).join := by
  induction ρ generalizing i with
  | nil => simp
  | cons x r ih => cases i with
    | zero => simp
    | succ i => simp [ih]
theorem put_eq (ρ : Env) (i : Nat) (d : PyData) : put ρ i d = ρ.set i (some d) := by
  induction ρ generalizing i with
  | nil => simp
  | cons x r ih => cases i with
    | zero => simp
    | succ i => simp [ih]

/-- how a statement ends -/
inductive Out where
  | nx (ρ : Env) | ret (d : PyData) | brk (ρ : Env) | ct (ρ : Env)

end R

set_option Elab.async false
set_option linter.all false
set_option maxRecDepth 100000
/-! RD: what operators and built-ins make of data. -/
namespace R
open PySem L2
def getv (i : Nat) (ρ : Env) : T PyData := match nth ρ i with | some d => .ret d | none => .stuck
/-- a condition that the model wants -/
def need (c : Bool) (t : T α) : T α := if c = true then t else .stuck
def addD : PyData → PyData → T PyData
  | .int a, .int b => .ret (.int (a + b))
  | .str x, .str y => need (x.length + y.length ≤ sizeLine) (.ret (.str (x ++ y)))
  | .list xs, .list ys => need (xs.length + ys.length ≤ sizeLine) (.ret (.list (xs ++ ys)))
  | .tuple xs, .tuple ys => need (xs.length + ys.length ≤ sizeLine) (.ret (.tuple (xs ++ ys)))
  | _, _ => .stuck
def subD : PyData → PyData → T PyData
  | .int a, .int b => .ret (.int (a - b))
  | _, _ => .stuck
def mulD : PyData → PyData → T PyData
  | .int a, .int b => need ((-18446744073709551616 < a ∧ a < 18446744073709551616) ∨ (-18446744073709551616 < b ∧ b < 18446744073709551616)) (.ret (.int (a * b)))
  | .list xs, .int k => need (-9223372036854775808 ≤ k ∧ k < 9223372036854775808 ∧ xs.length * k.toNat ≤ sizeLine) (.ret (.list (List.replicate k.toNat xs).flatten))
  | _, _ => .stuck
def fdivD : PyData → PyData → T PyData
  | .int a, .int b => need (0 < b ∧ b < 1073741824) (.ret (.int (a / b)))
  | _, _ => .stuck
def modD : PyData → PyData → T PyData
  | .int a, .int b => need (0 < b) (.ret (.int (a % b)))
  | _, _ => .stuck
def powD : PyData → PyData → T PyData
  | .int a, .int b => need (0 ≤ b ∧ b ≤ 1000000 ∧ a.natAbs < 18446744073709551616) (.ret (.int (a ^ b.toNat)))
  | _, _ => .stuck
def shlD : PyData → PyData → T PyData
  | .int a, .int b => need (0 ≤ b ∧ b ≤ 1000000 ∧ a.natAbs < 18446744073709551616) (.ret (.int (a * 2 ^ b.toNat)))
  | _, _ => .stuck
def shrD : PyData → PyData → T PyData
  | .int a, .int b => need (0 ≤ b) (.ret (.int (a / 2 ^ b.toNat)))
  | _, _ => .stuck
def negD : PyData → T PyData
  | .int a => .ret (.int (-a))
  | _ => .stuck
/-! comparisons: True or False -/
def eqT : PyData → PyData → T Bool
  | .str x, .str y => .ret (x == y)
  | a, b => need (SeqAt.shaped a && SeqAt.shaped b) (.ret (PyData.eqv a b))
def neT : PyData → PyData → T Bool
  | .str x, .str y => .ret (!(x == y))
  | a, b => need (SeqAt.shaped a && SeqAt.shaped b) (.ret (!PyData.eqv a b))
def ltT : PyData → PyData → T Bool
  | .int a, .int b => .ret (decide (a < b))
  | _, _ => .stuck
def leT : PyData → PyData → T Bool
  | .int a, .int b => .ret (decide (a ≤ b))
  | _, _ => .stuck
def gtT : PyData → PyData → T Bool
  | .int a, .int b => .ret (decide (b < a))
  | _, _ => .stuck
def geT : PyData → PyData → T Bool
  | .int a, .int b => .ret (decide (b ≤ a))
  | _, _ => .stuck
def isNone : PyData → Bool
  | .none => true
  | _ => false
/-- a test's outcome as a value -/
def bV (t : T Bool) : T PyData := t >>= fun b => .ret (.bool b)
/-- the truth of a value -/
def truT : PyData → T Bool
  | .none => .ret false
  | .bool b => .ret b
  | .int i => .ret (i != 0)
  | .str x => need (x.length ≤ sizeLine) (.ret (x.length != 0))
  | .list xs => .ret (!xs.isEmpty)
  | .tuple xs => .ret (!xs.isEmpty)
  | _ => .stuck
/-- the truth of what must be True or False -/
def boolT : PyData → T Bool
  | .bool b => .ret b
  | _ => .stuck
def andT (a b : T Bool) : T Bool := a >>= fun x => if x = true then b else .ret false
def orT (a b : T Bool) : T Bool := a >>= fun x => if x = true then .ret true else b
def notT (a : T Bool) : T Bool := a >>= fun x => .ret (!x)
/-! items, slices -/
def idxD : PyData → PyData → T PyData
  | .list xs, .int i => (match atI xs i with | some d => .ret d | none => .stuck)
  | .tuple xs, .int i => (match atI xs i with | some d => .ret d | none => .stuck)
  | .str z, .int i => need (z.length ≤ sizeLine) (match atI z.cps.toList i with | some c => .ret (.str ⟨#[c]⟩) | none => .stuck)
  | _, _ => .stuck
def cutD (xs : List PyData) (lo hi : Option Int) : List PyData := (xs.drop (HT.sIx xs.length 0 lo)).take (HT.sIx xs.length xs.length hi - HT.sIx xs.length 0 lo)
def sliceD : PyData → Option Int → Option Int → T PyData
  | .list xs, lo, hi => .ret (.list (cutD xs lo hi))
  | .tuple xs, lo, hi => .ret (.tuple (cutD xs lo hi))
  | .str z, lo, hi => need (z.length ≤ sizeLine) (.ret (.str (cutS z lo hi)))
  | _, _, _ => .stuck
def partT (t : T PyData) : T (Option Int) := t >>= fun d => match d with | .int i => .ret (some i) | _ => .stuck
/-! built-ins -/
def lenD : PyData → T PyData
  | .list xs => .ret (.int xs.length)
  | .tuple xs => .ret (.int xs.length)
  | .str x => need (x.length ≤ sizeLine) (.ret (.int x.length))
  | .dict kvs => .ret (.int kvs.length)
  | _ => .stuck
def tupleD : PyData → T PyData
  | .list xs => .ret (.tuple xs)
  | .tuple xs => .ret (.tuple xs)
  | _ => .stuck
def listD : PyData → T PyData
  | .list xs => .ret (.list xs)
  | .tuple xs => .ret (.list xs)
  | _ => .stuck
def max2D : PyData → PyData → T PyData
  | .int i, .int j => .ret (.int (if j > i then j else i))
  | _, _ => .stuck
def min2D : PyData → PyData → T PyData
  | .int i, .int j => .ret (.int (if j < i then j else i))
  | _, _ => .stuck
def intsOf : List PyData → Option (List Int)
  | [] => some []
  | .int i :: r => (intsOf r).map (i :: ·)
  | _ :: _ => none
def sumD : PyData → T PyData
  | .list xs => (match intsOf xs with | some ns => .ret (.int ns.sum) | none => .stuck)
  | _ => .stuck
def reprD (d : PyData) : T PyData := need (d.showable && decide (d.shown.length ≤ sizeLine) && decide (d.depth ≤ 100) && !d.hasDict) (.ret (.str d.shown))
inductive Ty where | int | bool | str | tuple | list | dict
def isaD : Ty → PyData → Bool
  | .int, .int _ => true
  | .int, .bool _ => true
  | .bool, .bool _ => true
  | .str, .str _ => true
  | .tuple, .tuple _ => true
  | .list, .list _ => true
  | .dict, .dict _ => true
  | _, _ => false
end R

set_option Elab.async false
set_option linter.all false
set_option maxRecDepth 100000
/-! R1: how data lies in the abstract heap, the invariant, readings of mirrors. -/
namespace R
open PySem PySem.Spec L2

/-- the deck: its object, its cells' object, how it is laid (0: a list [cells, sum, turn]; 1: a dict with cells, stir, turn; 2: a dict with cells, seed, at), how many draws there are in all -/
structure Dk where
  p : Addr
  q : Addr
  ne : p ≠ q
  form : Nat
  cap : Nat
def Dk.own (d : Dk) (a : Addr) : Prop := a = d.p ∨ a = d.q
def dkObj (form : Nat) (q : Addr) (s n : Int) : HO := match form with
  | 0 => .lst [.ref q, .int s, .int n]
  | 1 => .dK [(.inr "cells", .ref q), (.inr "stir", .int s), (.inr "turn", .int n)]
  | _ => .dK [(.inr "cells", .ref q), (.inr "seed", .int s), (.inr "at", .int n)]
/-- with b draws left -/
def Dk.ok (d : Dk) (b : Nat) (H : Hp) : Prop := ∃ (cells : List Int) (s n : Int), H d.p = some (dkObj d.form d.q s n) ∧ H d.q = some (.lst (cells.map V.int)) ∧
  cells.length ≤ 63 ∧ (∀ c ∈ cells, Builtin.Int.intBits c ≤ 2 ^ 20) ∧ 0 ≤ s ∧ s < 9223372036854775808 ∧ 0 ≤ n ∧ n.toNat + b ≤ d.cap
theorem Dk.stab (d : Dk) : ∀ b H H', (∀ a, d.own a → H' a = H a) → d.ok b H → d.ok b H' := fun b H H' h ⟨cells, s, n, h1, h2, h3⟩ =>
  ⟨cells, s, n, (h _ (.inl rfl)).trans h1, (h _ (.inr rfl)).trans h2, h3⟩
theorem Dk.there (d : Dk) : ∀ b H a, d.ok b H → d.own a → H a ≠ none := fun b H a ⟨cells, s, n, h1, h2, h3⟩ o => by
  rcases o with rfl | rfl
  · rw [h1]; simp
  · rw [h2]; simp
structure G where
  Fz : Hp
  dk : Option Dk
  b : Nat
def G.isDk (g : G) (a : Addr) : Prop := ∃ d, g.dk = some d ∧ d.own a

/-- stands for the deck where it is handed on -/
def dkD (f : Nat) : PyData := .dict [(.none, .int (f : Int))]
def keyD : Key → PyData
  | .inl i => .int i
  | .inr x => .str x
def keyTD (ks : List Key) : PyData := .tuple (ks.map keyD)

mutual
inductive Rep (K : PySem.W.Frag) (g : G) : V → PyData → Prop
  | non : Rep K g .non .none
  | bl (b : Bool) : Rep K g (.bl b) (.bool b)
  | int (i : Int) : Rep K g (.int i) (.int i)
  | str (x : Str) : Rep K g (.str x) (.str x)
  | lst {a : Addr} {xs : List V} {ds : List PyData} : g.Fz a = some (.lst xs) → RepAll K g xs ds → Rep K g (.ref a) (.list ds)
  | tup {a : Addr} {xs : List V} {ds : List PyData} : SqT K g.Fz a xs → RepAll K g xs ds → Rep K g (.ref a) (.tuple ds)
  | dK {a : Addr} {ks : List Key} {vs : List V} {ds : List PyData} : g.Fz a = some (.dK (ks.zip vs)) → ks.length = vs.length → RepAll K g vs ds → Rep K g (.ref a) (.dict ((ks.map keyD).zip ds))
  | dT {a : Addr} {ks : List (List Key)} {vs : List V} {ds : List PyData} : g.Fz a = some (.dT (ks.zip vs)) → ks.length = vs.length → RepAll K g vs ds → Rep K g (.ref a) (.dict ((ks.map keyTD).zip ds))
  | dk {d : Dk} : g.dk = some d → Rep K g (.ref d.p) (dkD d.form)
inductive RepAll (K : PySem.W.Frag) (g : G) : List V → List PyData → Prop
  | nil : RepAll K g [] []
  | cons {v : V} {vs : List V} {d : PyData} {ds : List PyData} : Rep K g v d → RepAll K g vs ds → RepAll K g (v :: vs) (d :: ds)
end

section
variable {K : PySem.W.Frag} {g g' : G}
theorem RepAll.length : ∀ {vs : List V} {ds : List PyData}, RepAll K g vs ds → vs.length = ds.length
  | _, _, .nil => rfl
  | _, _, .cons _ h => by simp [h.length]
theorem RepAll.append : ∀ {vs ws : List V} {ds es : List PyData}, RepAll K g vs ds → RepAll K g ws es → RepAll K g (vs ++ ws) (ds ++ es)
  | _, _, _, _, .nil, h => h
  | _, _, _, _, .cons r t, h => .cons r (RepAll.append t h)
theorem RepAll.get : ∀ {vs : List V} {ds : List PyData} {i : Nat} {v : V}, RepAll K g vs ds → vs[i]? = some v → ∃ d, ds[i]? = some d ∧ Rep K g v d
  | _, _, _, _, .nil, e => by simp at e
  | _, _, 0, _, .cons r _, e => by simp at e; subst e; exact ⟨_, rfl, r⟩
  | _, _, i + 1, v, .cons _ t, e => by
    obtain ⟨d, h1, h2⟩ := RepAll.get (i := i) (v := v) t (by simpa using e)
    exact ⟨d, by simpa using h1, h2⟩
theorem RepAll.getD' : ∀ {vs : List V} {ds : List PyData} {i : Nat} {d : PyData}, RepAll K g vs ds → ds[i]? = some d → ∃ v, vs[i]? = some v ∧ Rep K g v d
  | _, _, _, _, .nil, e => by simp at e
  | _, _, 0, _, .cons r _, e => by simp at e; subst e; exact ⟨_, rfl, r⟩
  | _, _, i + 1, v, .cons _ t, e => by
    obtain ⟨d, h1, h2⟩ := RepAll.getD' (i := i) (d := v) t (by simpa using e)
    exact ⟨d, by simpa using h1, h2⟩
theorem RepAll.take : ∀ {vs : List V} {ds : List PyData} (n : Nat), RepAll K g vs ds → RepAll K g (vs.take n) (ds.take n)
  | _, _, 0, _ => .nil
  | _, _, _ + 1, .nil => .nil
  | _, _, n + 1, .cons r t => .cons r (RepAll.take n t)
theorem RepAll.drop : ∀ {vs : List V} {ds : List PyData} (n : Nat), RepAll K g vs ds → RepAll K g (vs.drop n) (ds.drop n)
  | _, _, 0, r => r
  | _, _, _ + 1, .nil => .nil
  | _, _, n + 1, .cons _ t => RepAll.drop n t
theorem RepAll.reverse {vs : List V} {ds : List PyData} (h : RepAll K g vs ds) : RepAll K g vs.reverse ds.reverse := by
  induction vs generalizing ds with
  | nil => cases h; exact .nil
  | cons v vs ih => cases h with
    | cons r t => rw [List.reverse_cons, List.reverse_cons]; exact (ih t).append (.cons r .nil)
theorem RepAll.set {v : V} {d : PyData} (r : Rep K g v d) : ∀ {vs : List V} {ds : List PyData} (i : Nat), RepAll K g vs ds → RepAll K g (vs.set i v) (ds.set i d)
  | _, _, _, .nil => .nil
  | _, _, 0, .cons _ t => .cons r t
  | _, _, i + 1, .cons q t => .cons q (RepAll.set r i t)
theorem RepAll.nil_inv {vs : List V} (h : RepAll K g vs []) : vs = [] := by cases h; rfl
theorem RepAll.cons_inv {vs : List V} {d ds} (h : RepAll K g vs (d :: ds)) : ∃ v r, vs = v :: r ∧ Rep K g v d ∧ RepAll K g r ds := by cases h with | cons a b => exact ⟨_, _, rfl, a, b⟩

theorem Rd.mono {F F' : Hp} (h : ∀ a o, F a = some o → F' a = some o) {a u} (r : Rd F a u) : Rd F' a u := by
  rcases r with r | ⟨o, r⟩
  · exact .inl (h _ _ r)
  · exact .inr ⟨o, h _ _ r⟩
theorem SqL_mono {F F' : Hp} (h : ∀ a o, F a = some o → F' a = some o) {a xs} (r : SqL K F a xs) : SqL K F' a xs := by
  rcases r with r | r
  · exact .inl (Rd.mono h r)
  · exact .inr r
theorem SqT_mono {F F' : Hp} (h : ∀ a o, F a = some o → F' a = some o) {a xs} (r : SqT K F a xs) : SqT K F' a xs := by
  rcases r with r | r
  · exact .inl (Rd.mono h r)
  · exact .inr r
mutual
theorem Rep.mono (h : ∀ a o, g.Fz a = some o → g'.Fz a = some o) (hd : g'.dk = g.dk) : ∀ {v : V} {d : PyData}, Rep K g v d → Rep K g' v d
  | _, _, .non => .non
  | _, _, .bl b => .bl b
  | _, _, .int i => .int i
  | _, _, .str x => .str x
  | _, _, .lst s r => .lst (h _ _ s) (RepAll.mono h hd r)
  | _, _, .tup s r => .tup (SqT_mono h s) (RepAll.mono h hd r)
  | _, _, .dK s l r => .dK (h _ _ s) l (RepAll.mono h hd r)
  | _, _, .dT s l r => .dT (h _ _ s) l (RepAll.mono h hd r)
  | _, _, .dk e => .dk (hd.trans e)
theorem RepAll.mono (h : ∀ a o, g.Fz a = some o → g'.Fz a = some o) (hd : g'.dk = g.dk) : ∀ {vs : List V} {ds : List PyData}, RepAll K g vs ds → RepAll K g' vs ds
  | _, _, .nil => .nil
  | _, _, .cons r t => .cons (Rep.mono h hd r) (RepAll.mono h hd t)
end
end

structure GOk (g : G) (H : Hp) : Prop where
  sub : ∀ a o, g.Fz a = some o → H a = some o
  dkf : ∀ a, g.isDk a → g.Fz a = none
  dok : ∀ d, g.dk = some d → d.ok g.b H
structure Step (g : G) (H : Hp) (g' : G) (H' : Hp) : Prop where
  fz : ∀ a o, g.Fz a = some o → g'.Fz a = some o
  ok : GOk g' H'
  dk : g'.dk = g.dk
  keep : ∀ a o, H a = some o → ¬ g.isDk a → H' a = some o
  new : ∀ a, g'.Fz a ≠ none → g.Fz a ≠ none ∨ H a = none
section
variable {K : PySem.W.Frag} {g g1 g2 : G} {H H1 H2 : Hp}
theorem isDk_eq (e : g1.dk = g.dk) (a : Addr) : g1.isDk a ↔ g.isDk a := by unfold G.isDk; rw [e]
theorem GOk.dkt (h : GOk g H) {a : Addr} (q : g.isDk a) : H a ≠ none := by
  obtain ⟨d, e, o⟩ := q
  exact d.there _ _ _ (h.dok d e) o
theorem GOk.ndk (h : GOk g H) {a : Addr} (q : H a = none) : ¬ g.isDk a := fun z => h.dkt z q
theorem Step.refl (h : GOk g H) : Step g H g H := ⟨fun _ _ e => e, h, rfl, fun _ _ e _ => e, fun _ q => .inl q⟩
theorem Step.trans (a : Step g H g1 H1) (b : Step g1 H1 g2 H2) : Step g H g2 H2 where
  fz := fun p o e => b.fz p o (a.fz p o e)
  ok := b.ok
  dk := b.dk.trans a.dk
  keep := fun p o e n => b.keep p o (a.keep p o e n) fun z => n ((isDk_eq a.dk p).mp z)
  new := fun p q => by
    rcases b.new p q with z | z
    · exact a.new p z
    · by_cases hd : g.isDk p
      · exact absurd z (a.ok.dkt ((isDk_eq a.dk p).mpr hd))
      · cases e : H p with
        | none => exact .inr rfl
        | some o => rw [a.keep p o e hd] at z; cases z
theorem Rep.step (s : Step g H g1 H1) {v d} (r : Rep K g v d) : Rep K g1 v d := r.mono s.fz s.dk
theorem RepAll.step (s : Step g H g1 H1) {v d} (r : RepAll K g v d) : RepAll K g1 v d := r.mono s.fz s.dk
/-- a new object, frozen at once -/
theorem Step.laid (h : GOk g H) {p : Addr} {o : HO} (hp : H p = none) : Step g H { g with Fz := upd g.Fz p o } (upd H p o) where
  fz := fun a u e => by
    have : a ≠ p := fun z => by subst z; rw [h.sub _ _ e] at hp; cases hp
    show upd g.Fz p o a = _
    rw [upd_ne this]; exact e
  ok := by
    refine ⟨fun a u e => ?_, fun a q => ?_, fun d e => ?_⟩
    · by_cases z : a = p
      · subst z
        have e : upd g.Fz a o a = some u := e
        rw [upd_same] at e ⊢; exact e
      · have e : upd g.Fz p o a = some u := e
        rw [upd_ne z] at e ⊢; exact h.sub _ _ e
    · have n : a ≠ p := fun z => by subst z; exact h.dkt (show g.isDk a from q) hp
      show upd g.Fz p o a = none
      rw [upd_ne n]; exact h.dkf a q
    · refine d.stab _ _ _ (fun a q => ?_) (h.dok d e)
      rw [upd_ne fun z => ?_]
      subst z
      exact d.there _ _ _ (h.dok d e) q hp
  dk := rfl
  keep := fun a u e _ => by rw [upd_ne (ne_of_none e hp)]; exact e
  new := fun a q => by
    by_cases z : a = p
    · subst z; exact .inr hp
    · left; have q : upd g.Fz p o a ≠ none := q
      rw [upd_ne z] at q; exact q
/-- a new object, not frozen -/
theorem Step.laidU (h : GOk g H) {p : Addr} {o : HO} (hp : H p = none) : Step g H g (upd H p o) where
  fz := fun _ _ e => e
  ok := by
    refine ⟨fun a u e => ?_, h.dkf, fun d e => ?_⟩
    · rw [upd_ne (ne_of_none (h.sub _ _ e) hp)]; exact h.sub _ _ e
    · refine d.stab _ _ _ (fun a q => ?_) (h.dok d e)
      rw [upd_ne fun z => ?_]
      subst z
      exact d.there _ _ _ (h.dok d e) q hp
  dk := rfl
  keep := fun a u e _ => by rw [upd_ne (ne_of_none e hp)]; exact e
  new := fun _ q => .inl q
end

/-- a list or a dict that its def alone has -/
inductive Own (K : PySem.W.Frag) (g : G) (H : Hp) (a : Addr) : PyData → Prop
  | lst {xs : List V} {ds : List PyData} : H a = some (.lst xs) → RepAll K g xs ds → Own K g H a (.list ds)
  | dK {ks : List Key} {vs : List V} {ds : List PyData} : H a = some (.dK (ks.zip vs)) → ks.length = vs.length → RepAll K g vs ds → Own K g H a (.dict ((ks.map keyD).zip ds))
  | dT {ks : List (List Key)} {vs : List V} {ds : List PyData} : H a = some (.dT (ks.zip vs)) → ks.length = vs.length → RepAll K g vs ds → Own K g H a (.dict ((ks.map keyTD).zip ds))
theorem Own.step {K : PySem.W.Frag} {g g1 : G} {H H1 : Hp} {a : Addr} {d : PyData} (s : Step g H g1 H1) (n : ¬ g.isDk a) (o : Own K g H a d) : Own K g1 H1 a d := by
  cases o with
  | lst h r => exact .lst (s.keep _ _ h n) (r.step s)
  | dK h l r => exact .dK (s.keep _ _ h n) l (r.step s)
  | dT h l r => exact .dT (s.keep _ _ h n) l (r.step s)
/-- to be read: frozen, or its def's own -/
def BRep (K : PySem.W.Frag) (g : G) (H : Hp) (v : V) (d : PyData) : Prop := Rep K g v d ∨ ∃ a, v = .ref a ∧ Own K g H a d ∧ ¬ g.isDk a
theorem BRep.step {K : PySem.W.Frag} {g g1 : G} {H H1 : Hp} {v : V} {d : PyData} (s : Step g H g1 H1) (r : BRep K g H v d) : BRep K g1 H1 v d := by
  rcases r with r | ⟨a, e, o, n⟩
  · exact .inl (r.step s)
  · exact .inr ⟨a, e, o.step s n, fun z => n ((isDk_eq s.dk a).mp z)⟩

/-- the heap and the frozen part at a def's entry -/
structure Ent where
  Bs : Hp
  F0 : Hp
/-- M: the slots whose list or dict is the def's own -/
structure MI (K : PySem.W.Frag) (M : List Nat) (en : Ent) (g : G) (σ : St) (H : Hp) (ρ : Env) : Prop where
  ok : GOk g H
  base : ∀ a o, en.Bs a = some o → ¬ g.isDk a → H a = some o
  new : ∀ a, g.Fz a ≠ none → en.F0 a ≠ none ∨ en.Bs a = none
  old : ∀ a o, en.F0 a = some o → g.Fz a = some o
  len : σ.length = ρ.length
  var : ∀ i d, nth ρ i = some d → i ∉ M → ∃ v, σ[i]? = some (some v) ∧ Rep K g v d
  own : ∀ i d, nth ρ i = some d → i ∈ M → ∃ a, σ[i]? = some (some (.ref a)) ∧ Own K g H a d ∧ en.Bs a = none ∧ g.Fz a = none ∧ ¬ g.isDk a
  dis : ∀ i j a, i ∈ M → j ∈ M → i ≠ j → nth ρ i ≠ none → nth ρ j ≠ none → σ[i]? = some (some (.ref a)) → σ[j]? ≠ some (some (.ref a))
/-- a return: the entry's objects stand, what is frozen is old or new -/
structure RetOk (en : Ent) (g : G) (H : Hp) : Prop where
  ok : GOk g H
  base : ∀ a o, en.Bs a = some o → ¬ g.isDk a → H a = some o
  new : ∀ a, g.Fz a ≠ none → en.F0 a ≠ none ∨ en.Bs a = none
  old : ∀ a o, en.F0 a = some o → g.Fz a = some o
theorem RetOk.step {en : Ent} {g g1 : G} {H H1 : Hp} (m : RetOk en g H) (s : Step g H g1 H1) : RetOk en g1 H1 where
  ok := s.ok
  base := fun a o e n => s.keep a o (m.base a o e fun z => n ((isDk_eq s.dk a).mpr z)) fun z => n ((isDk_eq s.dk a).mpr z)
  new := fun a q => by
    rcases s.new a q with z | z
    · exact m.new a z
    · cases e : en.Bs a with
      | none => exact .inr rfl
      | some o =>
        by_cases hd : g.isDk a
        · exact absurd z (m.ok.dkt hd)
        · rw [m.base a o e hd] at z; cases z
  old := fun a o e => s.fz a o (m.old a o e)
theorem MI.ret {K : PySem.W.Frag} {M : List Nat} {en : Ent} {g : G} {σ : St} {H : Hp} {ρ : Env} (m : MI K M en g σ H ρ) : RetOk en g H := ⟨m.ok, m.base, m.new, m.old⟩
theorem MI.step {K : PySem.W.Frag} {M : List Nat} {en : Ent} {g g1 : G} {σ : St} {H H1 : Hp} {ρ : Env} (m : MI K M en g σ H ρ) (s : Step g H g1 H1) : MI K M en g1 σ H1 ρ where
  ok := s.ok
  base := (m.ret.step s).base
  new := (m.ret.step s).new
  old := (m.ret.step s).old
  len := m.len
  var := fun i d e n => by
    obtain ⟨v, h1, h2⟩ := m.var i d e n
    exact ⟨v, h1, h2.step s⟩
  own := fun i d e n => by
    obtain ⟨a, h1, h2, h3, h4, h5⟩ := m.own i d e n
    refine ⟨a, h1, h2.step s h5, h3, ?_, fun z => h5 ((isDk_eq s.dk a).mp z)⟩
    cases q : g1.Fz a with
    | none => rfl
    | some o =>
      rcases s.new a (by rw [q]; simp) with z | z
      · exact absurd h4 z
      · exfalso
        cases h2 with
        | lst h _ => rw [h] at z; cases z
        | dK h _ _ => rw [h] at z; cases z
        | dT h _ _ => rw [h] at z; cases z
  dis := m.dis

/-! ### readings -/
/-- what every reading of a def is over: the module's part, the classes of exceptions, what is wanted of one -/
structure Ct where
  cls : Str → Value
  E : XK
/-- what is wanted of an exception -/
def XP (K : PySem.W.Frag) (C : Ct) (en : Ent) (dk : Option Dk) : Str → List (Str × PyData) → Nat → Prop := fun c fs b' => ∀ (g' : G) (H' : Hp) (od : Option Addr), RetOk en g' H' → g'.b = b' → g'.dk = dk →
  (fs ≠ [] → ∃ d vs, od = some d ∧ H' d = some (.xd ((fs.map (·.1)).zip vs)) ∧ RepAll K g' vs (fs.map (·.2))) → C.E (C.cls c) od H'
def tM (K : PySem.W.Frag) (C : Ct) (M : List Nat) (m : Env → T PyData) : TE := fun σ H Q => ∃ en g ρ, MI K M en g σ H ρ ∧
  (m ρ).wp g.b (fun d b' => ∀ (v : V) (g' : G) (H' : Hp), Step g H g' H' → g'.b = b' → Rep K g' v d → Q v H') (XP K C en g.dk)
def tR (K : PySem.W.Frag) (C : Ct) (M : List Nat) (m : Env → T PyData) : TE := fun σ H Q => ∃ en g ρ, MI K M en g σ H ρ ∧
  (m ρ).wp g.b (fun d b' => ∀ (v : V) (g' : G) (H' : Hp), Step g H g' H' → g'.b = b' → BRep K g' H' v d → Q v H') (XP K C en g.dk)
/-- a test -/
def tT (K : PySem.W.Frag) (C : Ct) (M : List Nat) (m : Env → T Bool) : TT := fun σ H Q => ∃ en g ρ, MI K M en g σ H ρ ∧
  (m ρ).wp g.b (fun d b' => ∀ (g' : G) (H' : Hp), Step g H g' H' → g'.b = b' → Q d H') (XP K C en g.dk)
/-- arguments -/
inductive BRepAll (K : PySem.W.Frag) (g : G) (H : Hp) : List V → List PyData → Prop
  | nil : BRepAll K g H [] []
  | cons {v : V} {vs : List V} {d : PyData} {ds : List PyData} : BRep K g H v d → BRepAll K g H vs ds → BRepAll K g H (v :: vs) (d :: ds)
theorem BRepAll.step {K : PySem.W.Frag} {g g1 : G} {H H1 : Hp} (s : Step g H g1 H1) : ∀ {v : List V} {d : List PyData}, BRepAll K g H v d → BRepAll K g1 H1 v d
  | _, _, .nil => .nil
  | _, _, .cons r t => .cons (r.step s) (t.step s)
theorem RepAll.b {K : PySem.W.Frag} {g : G} {H : Hp} : ∀ {v : List V} {d : List PyData}, RepAll K g v d → BRepAll K g H v d
  | _, _, .nil => .nil
  | _, _, .cons r t => .cons (.inl r) t.b
def tL (K : PySem.W.Frag) (C : Ct) (M : List Nat) (m : Env → T (List PyData)) : TA := fun σ H Q => ∃ en g ρ, MI K M en g σ H ρ ∧
  (m ρ).wp g.b (fun ds b' => ∀ (vs : List V) (g' : G) (H' : Hp), Step g H g' H' → g'.b = b' → RepAll K g' vs ds → Q vs H') (XP K C en g.dk)
def tLR (K : PySem.W.Frag) (C : Ct) (M : List Nat) (m : Env → T (List PyData)) : TA := fun σ H Q => ∃ en g ρ, MI K M en g σ H ρ ∧
  (m ρ).wp g.b (fun ds b' => ∀ (vs : List V) (g' : G) (H' : Hp), Step g H g' H' → g'.b = b' → BRepAll K g' H' vs ds → Q vs H') (XP K C en g.dk)
def SQ (K : PySem.W.Frag) (C : Ct) (M' Mb : List Nat) (en : Ent) (dk : Option Dk) (fz : Hp) (D : Ends) : Out → Nat → Prop
  | .nx ρ', b' => ∀ (σ' : St) (g' : G) (H' : Hp), MI K M' en g' σ' H' ρ' → g'.b = b' → g'.dk = dk → (∀ a o, fz a = some o → g'.Fz a = some o) → D.nx σ' H'
  | .brk ρ', b' => ∀ (σ' : St) (g' : G) (H' : Hp), MI K Mb en g' σ' H' ρ' → g'.b = b' → g'.dk = dk → (∀ a o, fz a = some o → g'.Fz a = some o) → D.bk σ' H'
  | .ct ρ', b' => ∀ (σ' : St) (g' : G) (H' : Hp), MI K Mb en g' σ' H' ρ' → g'.b = b' → g'.dk = dk → (∀ a o, fz a = some o → g'.Fz a = some o) → D.ct σ' H'
  | .ret d, b' => ∀ (v : V) (g' : G) (H' : Hp), RetOk en g' H' → g'.b = b' → g'.dk = dk → Rep K g' v d → D.rt v H'
theorem SQ.mono {K : PySem.W.Frag} {C : Ct} {M' Mb : List Nat} {en : Ent} {dk : Option Dk} {fz fz' : Hp} {D : Ends} (h : ∀ a o, fz a = some o → fz' a = some o) : ∀ {o : Out} {b : Nat}, SQ K C M' Mb en dk fz D o b → SQ K C M' Mb en dk fz' D o b
  | .nx _, _, q => fun σ' g' H' mi eb ed hf => q σ' g' H' mi eb ed fun a o e => hf a o (h a o e)
  | .brk _, _, q => fun σ' g' H' mi eb ed hf => q σ' g' H' mi eb ed fun a o e => hf a o (h a o e)
  | .ct _, _, q => fun σ' g' H' mi eb ed hf => q σ' g' H' mi eb ed fun a o e => hf a o (h a o e)
  | .ret _, _, q => q
/-- a statement, a block: M ahead of it, M' behind it, Mb at a break or a continue -/
def tS (K : PySem.W.Frag) (C : Ct) (M M' Mb : List Nat) (ms : Env → T Out) : TS := fun D σ H => ∃ en g ρ, MI K M en g σ H ρ ∧ (ms ρ).wp g.b (SQ K C M' Mb en g.dk g.Fz D) (XP K C en g.dk)
end R

set_option Elab.async false
set_option linter.all false
set_option maxRecDepth 100000
/-! R2: rules for expressions. -/
namespace L2
open PySem PySem.Spec
theorem PE.weak {X : Cx} {e : Expr} {t t' : TE} (h : PE X e t) (hw : ∀ σ H Q, t' σ H Q → t σ H Q) : PE X e t' := ⟨fun pins s σ H Q I q => h.run pins s σ H Q I (hw _ _ _ q)⟩
theorem PT.weak {X : Cx} {e : Expr} {t t' : TT} (h : PT X e t) (hw : ∀ σ H Q, t' σ H Q → t σ H Q) : PT X e t' := ⟨fun pins s σ H Q I q => h.run pins s σ H Q I (hw _ _ _ q)⟩
theorem PW.weak {X : Cx} {e : Expr} {t t' : TT} (h : PW X e t) (hw : ∀ σ H Q, t' σ H Q → t σ H Q) : PW X e t' := ⟨fun wh pins s σ H Q I q => h.run wh pins s σ H Q I (hw _ _ _ q)⟩
theorem PA.weak {X : Cx} {e : List Expr} {t t' : TA} (h : PA X e t) (hw : ∀ σ H Q, t' σ H Q → t σ H Q) : PA X e t' := ⟨fun pos pins s σ H Q I q => h.run pos pins s σ H Q I (hw _ _ _ q)⟩
theorem PO.weak {X : Cx} {e : Option Expr} {t t' : TO} (h : PO X e t) (hw : ∀ σ H Q, t' σ H Q → t σ H Q) : PO X e t' := ⟨fun pins s σ H Q I q => h.run pins s σ H Q I (hw _ _ _ q)⟩
theorem PS.weak {X : Cx} {e : Stmt} {t t' : TS} (h : PS X e t) (hw : ∀ D σ H, t' D σ H → t D σ H) : PS X e t' := ⟨fun pins s σ H D I q => h.run pins s σ H D I (hw _ _ _ q)⟩
theorem PSs.weak {X : Cx} {e : List Stmt} {t t' : TS} (h : PSs X e t) (hw : ∀ D σ H, t' D σ H → t D σ H) : PSs X e t' := ⟨fun pins s σ H D I q => h.run pins s σ H D I (hw _ _ _ q)⟩

end L2
namespace R
open PySem PySem.Spec L2
section
variable {K : PySem.W.Frag} {g : G} {H : Hp} {v : V}
/-! ### what data a value bears -/
theorem Rep.int_inv {i} (r : Rep K g v (.int i)) : v = .int i := by cases r; rfl
theorem Rep.bool_inv {i} (r : Rep K g v (.bool i)) : v = .bl i := by cases r; rfl
theorem Rep.str_inv {i} (r : Rep K g v (.str i)) : v = .str i := by cases r; rfl
theorem Rep.none_inv (r : Rep K g v .none) : v = .non := by cases r; rfl
theorem Rep.list_inv {ds} (r : Rep K g v (.list ds)) : ∃ a xs, v = .ref a ∧ g.Fz a = some (.lst xs) ∧ RepAll K g xs ds := by cases r with | lst h q => exact ⟨_, _, rfl, h, q⟩
theorem Rep.tup_inv {ds} (r : Rep K g v (.tuple ds)) : ∃ a xs, v = .ref a ∧ SqT K g.Fz a xs ∧ RepAll K g xs ds := by cases r with | tup h q => exact ⟨_, _, rfl, h, q⟩
theorem BRep.rep {d} (r : BRep K g H v d) (h : ∀ a, ¬ Own K g H a d) : Rep K g v d := by
  rcases r with r | ⟨a, _, o, _⟩
  · exact r
  · exact absurd o (h a)
theorem BRep.int {i} (r : BRep K g H v (.int i)) : v = .int i := (r.rep fun _ o => nomatch o).int_inv
theorem BRep.bool {i} (r : BRep K g H v (.bool i)) : v = .bl i := (r.rep fun _ o => nomatch o).bool_inv
theorem BRep.str {i} (r : BRep K g H v (.str i)) : v = .str i := (r.rep fun _ o => nomatch o).str_inv
theorem BRep.none (r : BRep K g H v .none) : v = .non := (r.rep fun _ o => nomatch o).none_inv
theorem BRep.tup {ds} (ok : GOk g H) (r : BRep K g H v (.tuple ds)) : ∃ a xs, v = .ref a ∧ SqT K H a xs ∧ RepAll K g xs ds := by
  obtain ⟨a, xs, e, h, q⟩ := (r.rep fun _ o => nomatch o).tup_inv
  exact ⟨a, xs, e, SqT_mono ok.sub h, q⟩
theorem BRep.list {ds} (ok : GOk g H) (r : BRep K g H v (.list ds)) : ∃ a xs, v = .ref a ∧ H a = some (.lst xs) ∧ RepAll K g xs ds := by
  rcases r with r | ⟨a, e, o, _⟩
  · obtain ⟨a, xs, e, h, q⟩ := r.list_inv
    exact ⟨a, xs, e, ok.sub _ _ h, q⟩
  · cases o with
    | lst h q => exact ⟨a, _, e, h, q⟩
theorem BRep.tupR {ds} (r : BRep K g H v (.tuple ds)) : Rep K g v (.tuple ds) := r.rep fun _ o => nomatch o
end

section
variable {X : Cx} {C : Ct} {M : List Nat}
/-- a frozen one may be read -/
theorem tM.r {K : PySem.W.Frag} {m : Env → T PyData} : ∀ σ H Q, tR K C M m σ H Q → tM K C M m σ H Q := fun σ H Q ⟨en, g, ρ, mi, w⟩ =>
  ⟨en, g, ρ, mi, T.wp_mono w (fun _ _ q v g' H' st eb r => q v g' H' st eb (.inl r)) fun _ _ _ z => z⟩
theorem mr {e : Expr} {m : Env → T PyData} (h : PE X e (tM X.K C M m)) : PE X e (tR X.K C M m) := h.weak tM.r

/-! ### names, constants -/
theorem me_var {x : Str} {pos : Pos} (i : Nat) (hi : i ∉ M) (hN : X.N[i]? = some x) (hv : Vis X.env.scope x) (hd : (x == ("__debug__" : Str)) = false) (hcd : (x == ("__classdict__" : Str)) = false) : PE X (.Name x pos) (tM X.K C M (getv i)) := by
  refine (pe_var hN hv hd hcd).weak fun σ H Q ⟨en, g, ρ, mi, w⟩ => ?_
  unfold getv at w
  split at w
  · rename_i d e
    obtain ⟨v, h1, h2⟩ := mi.var i d e hi
    exact ⟨v, h1, w v g H (.refl mi.ok) rfl h2⟩
  · exact w.elim
theorem mr_own {x : Str} {pos : Pos} (i : Nat) (hi : i ∈ M) (hN : X.N[i]? = some x) (hv : Vis X.env.scope x) (hd : (x == ("__debug__" : Str)) = false) (hcd : (x == ("__classdict__" : Str)) = false) : PE X (.Name x pos) (tR X.K C M (getv i)) := by
  refine (pe_var hN hv hd hcd).weak fun σ H Q ⟨en, g, ρ, mi, w⟩ => ?_
  unfold getv at w
  split at w
  · rename_i d e
    obtain ⟨a, h1, h2, _, _, h3⟩ := mi.own i d e hi
    exact ⟨_, h1, w _ g H (.refl mi.ok) rfl (.inr ⟨a, rfl, h2, h3⟩)⟩
  · exact w.elim
/-- a constant -/
theorem tC.m {K : PySem.W.Frag} {v : V} {d : PyData} (h : ∀ g, Rep K g v d) : ∀ σ H Q, tM K C M (fun _ => .ret d) σ H Q → tC v σ H Q := fun σ H Q ⟨en, g, ρ, mi, w⟩ => w v g H (.refl mi.ok) rfl (h g)
theorem me_int {i j pos} : PE X (.Constant (.int i) j pos) (tM X.K C M fun _ => .ret (.int i)) := pe_int.weak (tC.m fun _ => .int i)
theorem me_bl {i j pos} : PE X (.Constant (.bool i) j pos) (tM X.K C M fun _ => .ret (.bool i)) := pe_bl.weak (tC.m fun _ => .bl i)
theorem me_str {i j pos} : PE X (.Constant (.str i) j pos) (tM X.K C M fun _ => .ret (.str i)) := pe_str.weak (tC.m fun _ => .str i)
theorem me_non {j pos} : PE X (.Constant .none j pos) (tM X.K C M fun _ => .ret .none) := pe_non.weak (tC.m fun _ => .non)
/-- a module's constant -/
def GlD (K : PySem.W.Frag) (mg : Str → Option Value) (x : Str) (d : PyData) : Prop := ∃ v u, mg x = some u ∧ RelV v u ∧ ∀ g, Rep K g v d
theorem me_glob {x : Str} {d : PyData} {pos : Pos} (h : GlD X.K X.mg x d) (hg : Gl X x) (hd : (x == ("__debug__" : Str)) = false) : PE X (.Name x pos) (tM X.K C M fun _ => .ret d) := by
  obtain ⟨v, u, h1, h2, h3⟩ := h
  exact (pe_glob hg h1 h2 hd).weak (tC.m h3)

/-! ### operators -/
/-- what a value-level rule wants, from what the data's operation makes -/
def QV (K : PySem.W.Frag) (g : G) (H : Hp) (Q : VK) : PyData → Nat → Prop := fun d b' => ∀ (v : V) (g' : G) (H' : Hp), Step g H g' H' → g'.b = b' → Rep K g' v d → Q v H'
def Op2 (K : PySem.W.Frag) (r : R2) (f : PyData → PyData → T PyData) : Prop :=
  ∀ (g : G) (H : Hp) (x y : V) (d e : PyData) (Q : VK) (E : Str → List (Str × PyData) → Nat → Prop), GOk g H → BRep K g H x d → BRep K g H y e → (f d e).wp g.b (QV K g H Q) E → r x y H Q
def Un1 (K : PySem.W.Frag) (r : V → Hp → VK → Prop) (f : PyData → T PyData) : Prop :=
  ∀ (g : G) (H : Hp) (x : V) (d : PyData) (Q : VK) (E : Str → List (Str × PyData) → Nat → Prop), GOk g H → BRep K g H x d → (f d).wp g.b (QV K g H Q) E → r x H Q
theorem QV.step {K : PySem.W.Frag} {g g1 : G} {H H1 : Hp} {Q : VK} (s : Step g H g1 H1) {d b} (h : QV K g H Q d b) : QV K g1 H1 Q d b := fun v g' H' st eb r => h v g' H' (s.trans st) eb r
theorem wpStep {K : PySem.W.Frag} {g g1 : G} {H H1 : Hp} {Q : VK} {E : Str → List (Str × PyData) → Nat → Prop} (s : Step g H g1 H1) {t : T PyData} {b : Nat} (e : g1.b = b) (h : t.wp b (QV K g H Q) E) : t.wp g1.b (QV K g1 H1 Q) E := by
  rw [e]
  exact T.wp_mono h (fun _ _ q => q.step s) fun _ _ _ z => z
theorem two {K : PySem.W.Frag} {r : R2} {f : PyData → PyData → T PyData} {ma mb : Env → T PyData} (hf : Op2 K r f) : ∀ σ H Q, tM K C M (fun ρ => do let x ← ma ρ; let y ← mb ρ; f x y) σ H Q → tOp r (tR K C M ma) (tR K C M mb) σ H Q := by
  rintro σ H Q ⟨en, g, ρ, mi, w⟩
  refine ⟨en, g, ρ, mi, T.wp_mono (T.wp_bind.mp w) (fun d b1 w2 v g1 H1 st eb br => ⟨en, g1, ρ, mi.step st, ?_⟩) fun _ _ _ z => z⟩
  rw [eb, st.dk]
  refine T.wp_mono (T.wp_bind.mp w2) (fun e b2 w3 v2 g2 H2 st2 eb2 br2 => ?_) fun _ _ _ z => z
  exact hf g2 H2 v v2 d e Q _ st2.ok (br.step st2) br2 (wpStep (st.trans st2) eb2 w3)
theorem one {K : PySem.W.Frag} {r : V → Hp → VK → Prop} {f : PyData → T PyData} {ma : Env → T PyData} (hf : Un1 K r f) : ∀ σ H Q, tM K C M (fun ρ => do let x ← ma ρ; f x) σ H Q → tUn r (tR K C M ma) σ H Q := by
  rintro σ H Q ⟨en, g, ρ, mi, w⟩
  refine ⟨en, g, ρ, mi, T.wp_mono (T.wp_bind.mp w) (fun d b1 w2 v g1 H1 st eb br => ?_) fun _ _ _ z => z⟩
  exact hf g1 H1 v d Q _ st.ok br (wpStep st eb w2)
variable {a b : Expr} {ma mb : Env → T PyData} {pos : Pos}
theorem me_bin {op : Operator} {r : R2} {f : PyData → PyData → T PyData} (ho : OpR X (binaryOp op) r) (hf : Op2 X.K r f) (ha : PE X a (tR X.K C M ma)) (hb : PE X b (tR X.K C M mb)) : PE X (.BinOp a op b pos) (tM X.K C M fun ρ => do let x ← ma ρ; let y ← mb ρ; f x y) :=
  (pe_op ho ha hb).weak (two hf)
theorem need_wp {α : Type} {c : Bool} {t : T α} {b : Nat} {Q : α → Nat → Prop} {E} (h : (need c t).wp b Q E) : c = true ∧ t.wp b Q E := by
  unfold need at h
  split at h
  · exact ⟨by assumption, h⟩
  · exact h.elim
theorem op2I {Cn : Int → Int → Prop} {h : Int → Int → Int} {k : PyData → PyData → T PyData} {cb : Int → Int → Bool} {K : PySem.W.Frag}
    (hk : ∀ i j, k (.int i) (.int j) = need (cb i j) (.ret (.int (h i j)))) (hc : ∀ i j, cb i j = true → Cn i j) (hs : ∀ d e b Q E, (k d e).wp b Q E → ∃ i j, d = .int i ∧ e = .int j) : Op2 K (rI Cn fun i j => .int (h i j)) k := by
  intro g H x y d e Q E ok bx by' w
  obtain ⟨i, j, rfl, rfl⟩ := hs d e _ _ _ w
  rw [hk] at w
  obtain ⟨c, w⟩ := need_wp w
  exact ⟨i, j, bx.int, by'.int, hc i j c, w _ g H (.refl ok) rfl (.int _)⟩
theorem sub2 {K : PySem.W.Frag} : Op2 K (rI0 fun i j => .int (i - j)) subD := by
  intro g H x y d e Q E ok bx by' w
  cases d <;> first | exact w.elim | (cases e <;> first | exact w.elim | exact ⟨_, _, bx.int, by'.int, w _ g H (.refl ok) rfl (.int _)⟩)
theorem fdiv2 {K : PySem.W.Frag} : Op2 K (rI CDiv fun i j => .int (i / j)) fdivD :=
  op2I (cb := fun i j => decide (0 < j ∧ j < 1073741824)) (fun _ _ => rfl) (fun i j h => by have h := of_decide_eq_true h; exact h) fun d e b Q E w => by cases d <;> first | exact w.elim | (cases e <;> first | exact w.elim | exact ⟨_, _, rfl, rfl⟩)
theorem mod2 {K : PySem.W.Frag} : Op2 K (rI (fun _ j => 0 < j) fun i j => .int (i % j)) modD :=
  op2I (cb := fun i j => decide (0 < j)) (fun _ _ => rfl) (fun i j h => by have h := of_decide_eq_true h; exact h) fun d e b Q E w => by cases d <;> first | exact w.elim | (cases e <;> first | exact w.elim | exact ⟨_, _, rfl, rfl⟩)
theorem pow2 {K : PySem.W.Frag} : Op2 K (rI CPow fun i j => .int (i ^ j.toNat)) powD :=
  op2I (cb := fun i j => decide (0 ≤ j ∧ j ≤ 1000000 ∧ i.natAbs < 18446744073709551616)) (fun _ _ => rfl) (fun i j h => by have h := of_decide_eq_true h; exact h) fun d e b Q E w => by cases d <;> first | exact w.elim | (cases e <;> first | exact w.elim | exact ⟨_, _, rfl, rfl⟩)
theorem shl2 {K : PySem.W.Frag} : Op2 K (rI CPow fun i j => .int (i * 2 ^ j.toNat)) shlD :=
  op2I (cb := fun i j => decide (0 ≤ j ∧ j ≤ 1000000 ∧ i.natAbs < 18446744073709551616)) (fun _ _ => rfl) (fun i j h => by have h := of_decide_eq_true h; exact h) fun d e b Q E w => by cases d <;> first | exact w.elim | (cases e <;> first | exact w.elim | exact ⟨_, _, rfl, rfl⟩)
theorem shr2 {K : PySem.W.Frag} : Op2 K (rI (fun _ j => 0 ≤ j) fun i j => .int (i / 2 ^ j.toNat)) shrD :=
  op2I (cb := fun i j => decide (0 ≤ j)) (fun _ _ => rfl) (fun i j h => by have h := of_decide_eq_true h; exact h) fun d e b Q E w => by cases d <;> first | exact w.elim | (cases e <;> first | exact w.elim | exact ⟨_, _, rfl, rfl⟩)
theorem neg1 {K : PySem.W.Frag} : Un1 K (rU fun i => .int (-i)) negD := by
  intro g H x d Q E ok bx w
  cases d <;> first | exact w.elim | exact ⟨_, bx.int, w _ g H (.refl ok) rfl (.int _)⟩
/-- a new frozen object -/
theorem QV.new {K : PySem.W.Frag} {g : G} {H : Hp} {Q : VK} {d : PyData} {o : HO} (h : QV K g H Q d g.b) (ok : GOk g H) (hr : ∀ (p : Addr) (g' : G), g'.Fz p = some o → Step g H g' (upd H p o) → Rep K g' (.ref p) d) : ∀ p, H p = none → Q (.ref p) (upd H p o) := fun p hp =>
  h _ _ _ (Step.laid ok hp) rfl (hr p _ upd_same (Step.laid ok hp))
def rAddD (K : PySem.W.Frag) : R2 := fun x y H Q => rI0 (fun i j => .int (i + j)) x y H Q ∨ (∃ i j, x = .str i ∧ y = .str j ∧ i.length + j.length ≤ sizeLine ∧ Q (.str (i ++ j)) H) ∨ rCat x y H Q ∨ rCatA K x y H Q
theorem op_addD : OpR X (binaryOp .Add) (rAddD X.K) := op_add.or (op_add_str.or (op_cat.or op_catA))
theorem add2 {K : PySem.W.Frag} : Op2 K (rAddD K) addD := by
  intro g H x y d e Q E ok bx by' w
  cases d with
  | int i => cases e <;> first | exact w.elim | exact .inl ⟨_, _, bx.int, by'.int, w _ g H (.refl ok) rfl (.int _)⟩
  | str i => cases e with
    | str j =>
      obtain ⟨c, w⟩ := need_wp w
      exact .inr (.inl ⟨_, _, bx.str, by'.str, of_decide_eq_true c, w _ g H (.refl ok) rfl (.str _)⟩)
    | _ => exact w.elim
  | list xs => cases e with
    | list ys =>
      obtain ⟨c, w⟩ := need_wp w
      obtain ⟨a, vs, rfl, h1, r1⟩ := bx.list ok
      obtain ⟨b, ws, rfl, h2, r2⟩ := by'.list ok
      refine .inr (.inr (.inl ⟨a, b, vs, ws, rfl, rfl, h1, h2, by rw [r1.length, r2.length]; exact of_decide_eq_true c, QV.new w ok fun p g' h st => .lst h ?_⟩))
      exact (r1.append r2).step st
    | _ => exact w.elim
  | tuple xs => cases e with
    | tuple ys =>
      obtain ⟨c, w⟩ := need_wp w
      obtain ⟨a, vs, rfl, h1, r1⟩ := bx.tup ok
      obtain ⟨b, ws, rfl, h2, r2⟩ := by'.tup ok
      refine .inr (.inr (.inr ⟨a, b, vs, ws, rfl, rfl, h1, h2, by rw [r1.length, r2.length]; exact of_decide_eq_true c, fun z => ?_, fun _ z => ?_, fun _ _ => QV.new w ok fun p g' h st => .tup (SqT.of h) ?_⟩))
      · subst z; cases r1; exact w _ g H (.refl ok) rfl by'.tupR
      · subst z; cases r2; rw [List.append_nil] at w; exact w _ g H (.refl ok) rfl bx.tupR
      · exact (r1.append r2).step st
    | _ => exact w.elim
  | _ => exact w.elim
def rMulD : R2 := fun x y H Q => rI CMul (fun i j => .int (i * j)) x y H Q ∨ rRep x y H Q
theorem op_mulD : OpR X (binaryOp .Mult) rMulD := op_mul.or op_rep
theorem repAll_flat {K : PySem.W.Frag} {g : G} {vs : List V} {ds : List PyData} (r : RepAll K g vs ds) : ∀ n, RepAll K g (List.replicate n vs).flatten (List.replicate n ds).flatten
  | 0 => .nil
  | n + 1 => by rw [List.replicate_succ, List.replicate_succ, List.flatten_cons, List.flatten_cons]; exact r.append (repAll_flat r n)
theorem mul2 {K : PySem.W.Frag} : Op2 K rMulD mulD := by
  intro g H x y d e Q E ok bx by' w
  cases d with
  | int i => cases e with
    | int j =>
      obtain ⟨c, w⟩ := need_wp w
      have c := of_decide_eq_true c
      exact .inl ⟨_, _, bx.int, by'.int, c, w _ g H (.refl ok) rfl (.int _)⟩
    | _ => exact w.elim
  | list xs => cases e with
    | int k =>
      obtain ⟨c, w⟩ := need_wp w
      have c := of_decide_eq_true c
      obtain ⟨a, vs, rfl, h1, r1⟩ := bx.list ok
      refine .inr ⟨a, k, vs, rfl, by'.int, h1, c.1, c.2.1, by rw [r1.length]; exact c.2.2, QV.new w ok fun p g' h st => .lst h ?_⟩
      exact (repAll_flat r1 _).step st
    | _ => exact w.elim
  | _ => exact w.elim
theorem me_add (ha : PE X a (tR X.K C M ma)) (hb : PE X b (tR X.K C M mb)) : PE X (.BinOp a .Add b pos) (tM X.K C M fun ρ => do let x ← ma ρ; let y ← mb ρ; addD x y) := me_bin op_addD add2 ha hb
theorem me_sub (ha : PE X a (tR X.K C M ma)) (hb : PE X b (tR X.K C M mb)) : PE X (.BinOp a .Sub b pos) (tM X.K C M fun ρ => do let x ← ma ρ; let y ← mb ρ; subD x y) := me_bin op_sub sub2 ha hb
theorem me_mul (ha : PE X a (tR X.K C M ma)) (hb : PE X b (tR X.K C M mb)) : PE X (.BinOp a .Mult b pos) (tM X.K C M fun ρ => do let x ← ma ρ; let y ← mb ρ; mulD x y) := me_bin op_mulD mul2 ha hb
theorem me_fdiv (ha : PE X a (tR X.K C M ma)) (hb : PE X b (tR X.K C M mb)) : PE X (.BinOp a .FloorDiv b pos) (tM X.K C M fun ρ => do let x ← ma ρ; let y ← mb ρ; fdivD x y) := me_bin op_fdiv fdiv2 ha hb
theorem me_mod (ha : PE X a (tR X.K C M ma)) (hb : PE X b (tR X.K C M mb)) : PE X (.BinOp a .Mod b pos) (tM X.K C M fun ρ => do let x ← ma ρ; let y ← mb ρ; modD x y) := me_bin op_mod mod2 ha hb
theorem me_pow (ha : PE X a (tR X.K C M ma)) (hb : PE X b (tR X.K C M mb)) : PE X (.BinOp a .Pow b pos) (tM X.K C M fun ρ => do let x ← ma ρ; let y ← mb ρ; powD x y) := me_bin op_pow pow2 ha hb
theorem me_shl (ha : PE X a (tR X.K C M ma)) (hb : PE X b (tR X.K C M mb)) : PE X (.BinOp a .LShift b pos) (tM X.K C M fun ρ => do let x ← ma ρ; let y ← mb ρ; shlD x y) := me_bin op_shl shl2 ha hb
theorem me_shr (ha : PE X a (tR X.K C M ma)) (hb : PE X b (tR X.K C M mb)) : PE X (.BinOp a .RShift b pos) (tM X.K C M fun ρ => do let x ← ma ρ; let y ← mb ρ; shrD x y) := me_bin op_shr shr2 ha hb
theorem me_neg (ha : PE X a (tR X.K C M ma)) : PE X (.UnaryOp .USub a pos) (tM X.K C M fun ρ => do let x ← ma ρ; negD x) := (pe_un un_neg ha).weak (one neg1)

/-! ### tuples, lists -/
theorem ma_nil : PA X [] (tL X.K C M fun _ => .ret []) := pa_nil.weak fun σ H Q ⟨en, g, ρ, mi, w⟩ => w [] g H (.refl mi.ok) rfl .nil
theorem ma_cons {e : Expr} {es : List Expr} {m : Env → T PyData} {ms : Env → T (List PyData)} (ha : PE X e (tM X.K C M m)) (hr : PA X es (tL X.K C M ms)) (hs : starEach (e :: es) X.env = (false, eval e X.env) :: starEach es X.env) : PA X (e :: es) (tL X.K C M fun ρ => do let x ← m ρ; let r ← ms ρ; .ret (x :: r)) := by
  refine (pa_cons ha hr hs).weak ?_
  rintro σ H Q ⟨en, g, ρ, mi, w⟩
  refine ⟨en, g, ρ, mi, T.wp_mono (T.wp_bind.mp w) (fun d b1 w2 v g1 H1 st eb r => ⟨en, g1, ρ, mi.step st, ?_⟩) fun _ _ _ z => z⟩
  rw [eb, st.dk]
  refine T.wp_mono (T.wp_bind.mp w2) (fun ds b2 w3 vs g2 H2 st2 eb2 r2 => ?_) fun _ _ _ z => z
  exact w3 _ g2 H2 (st.trans st2) eb2 (.cons (r.step st2) r2)
theorem mar_nil : PA X [] (tLR X.K C M fun _ => .ret []) := pa_nil.weak fun σ H Q ⟨en, g, ρ, mi, w⟩ => w [] g H (.refl mi.ok) rfl .nil
theorem mar_cons {e : Expr} {es : List Expr} {m : Env → T PyData} {ms : Env → T (List PyData)} (ha : PE X e (tR X.K C M m)) (hr : PA X es (tLR X.K C M ms)) (hs : starEach (e :: es) X.env = (false, eval e X.env) :: starEach es X.env) : PA X (e :: es) (tLR X.K C M fun ρ => do let x ← m ρ; let r ← ms ρ; .ret (x :: r)) := by
  refine (pa_cons ha hr hs).weak ?_
  rintro σ H Q ⟨en, g, ρ, mi, w⟩
  refine ⟨en, g, ρ, mi, T.wp_mono (T.wp_bind.mp w) (fun d b1 w2 v g1 H1 st eb r => ⟨en, g1, ρ, mi.step st, ?_⟩) fun _ _ _ z => z⟩
  rw [eb, st.dk]
  refine T.wp_mono (T.wp_bind.mp w2) (fun ds b2 w3 vs g2 H2 st2 eb2 r2 => ?_) fun _ _ _ z => z
  exact w3 _ g2 H2 (st.trans st2) eb2 (.cons (r.step st2) r2)
variable {es : List Expr} {ms : Env → T (List PyData)}
def tupT (t : T (List PyData)) : T PyData := t >>= fun xs => need (xs.length ≤ sizeLine) (.ret (.tuple xs))
def lstT (t : T (List PyData)) : T PyData := t >>= fun xs => need (xs.length ≤ sizeLine) (.ret (.list xs))
theorem me_tup {x1} (h : PA X es (tL X.K C M ms)) : PE X (.Tuple es x1 pos) (tM X.K C M fun ρ => tupT (ms ρ)) := by
  refine (pe_tup h).weak ?_
  rintro σ H Q ⟨en, g, ρ, mi, w⟩
  refine ⟨en, g, ρ, mi, T.wp_mono (T.wp_bind.mp w) (fun ds b1 w2 vs g1 H1 st eb r => ?_) fun _ _ _ z => z⟩
  obtain ⟨c, w2⟩ := need_wp w2
  refine ⟨by rw [r.length]; exact of_decide_eq_true c, QV.new (K := X.K) (g := g1) (H := H1) (d := .tuple ds) ?_ st.ok fun p g' h st' => .tup (SqT.of h) (r.step st')⟩
  exact fun v g' H' st' e' r' => w2 v g' H' (st.trans st') (e'.trans eb) r'
theorem me_lst (h : PA X es (tL X.K C M ms)) : PE X (.List es pos) (tM X.K C M fun ρ => lstT (ms ρ)) := by
  refine (pe_lst h).weak ?_
  rintro σ H Q ⟨en, g, ρ, mi, w⟩
  refine ⟨en, g, ρ, mi, T.wp_mono (T.wp_bind.mp w) (fun ds b1 w2 vs g1 H1 st eb r => ?_) fun _ _ _ z => z⟩
  obtain ⟨c, w2⟩ := need_wp w2
  refine ⟨by rw [r.length]; exact of_decide_eq_true c, QV.new (K := X.K) (g := g1) (H := H1) (d := .list ds) ?_ st.ok fun p g' h st' => .lst h (r.step st')⟩
  exact fun v g' H' st' e' r' => w2 v g' H' (st.trans st') (e'.trans eb) r'
end
end R

set_option Elab.async false
set_option linter.all false
set_option maxRecDepth 100000
/-! R3: comparisons, tests, subscripts, built-ins. -/
namespace R
open PySem PySem.Spec L2
section
variable {K : PySem.W.Frag} {g : G} {H : Hp}
mutual
theorem Rep.dp' (ok : GOk g H) : ∀ (d : PyData) (v : V), Rep K g v d → d.hasDict = false → Dp K H v d
  | _, _, .non, _ => .non
  | _, _, .bl b, _ => .bl b
  | _, _, .int i, _ => .int i
  | _, _, .str x, _ => .str x
  | .list ds, _, .lst s r, h => .lst (SqL.of (ok.sub _ _ s)) (RepAll.dp' ok ds _ r (by simpa only [PyData.hasDict] using h))
  | .tuple ds, _, .tup s r, h => .tup (SqT_mono ok.sub s) (RepAll.dp' ok ds _ r (by simpa only [PyData.hasDict] using h))
  | _, _, .dK _ _ _, h => by simp [PyData.hasDict] at h
  | _, _, .dT _ _ _, h => by simp [PyData.hasDict] at h
  | _, _, .dk _, h => by simp [PyData.hasDict, dkD] at h
theorem RepAll.dp' (ok : GOk g H) : ∀ (ds : List PyData) (vs : List V), RepAll K g vs ds → PyData.hasDictAll ds = false → DpAll K H vs ds
  | _, _, .nil, _ => .nil
  | d :: ds, _, .cons r t, h => by
    have h' : d.hasDict = false ∧ PyData.hasDictAll ds = false := by simpa [PyData.hasDictAll] using h
    exact .cons (Rep.dp' ok d _ r h'.1) (RepAll.dp' ok ds _ t h'.2)
end
theorem BRep.dp' (ok : GOk g H) {d : PyData} {v : V} (r : BRep K g H v d) (h : d.hasDict = false) : Dp K H v d := by
  rcases r with r | ⟨a, rfl, o, _⟩
  · exact Rep.dp' ok d v r h
  · cases o with
    | lst e q => exact .lst (SqL.of e) (RepAll.dp' ok _ _ q (by simpa only [PyData.hasDict] using h))
    | dK _ _ _ => simp [PyData.hasDict] at h
    | dT _ _ _ => simp [PyData.hasDict] at h
theorem BRep.dp (ok : GOk g H) {d : PyData} {v : V} (r : BRep K g H v d) (h : d.canLay0 = true) : Dp K H v d := r.dp' ok (PyData.hasDict_of_canLay d h)
end

section
variable {X : Cx} {C : Ct} {M : List Nat} {a b c : Expr} {ma mb mc : Env → T PyData} {pos : Pos}
/-! ### comparisons -/
def QB (g : G) (H : Hp) (Q : Bool → Hp → Prop) : Bool → Nat → Prop := fun k b' => ∀ (g' : G) (H' : Hp), Step g H g' H' → g'.b = b' → Q k H'
def Op2B (K : PySem.W.Frag) (r : R2) (f : PyData → PyData → T Bool) : Prop :=
  ∀ (g : G) (H : Hp) (x y : V) (d e : PyData) (Q : VK) (E : Str → List (Str × PyData) → Nat → Prop), GOk g H → BRep K g H x d → BRep K g H y e → (f d e).wp g.b (QB g H fun k H' => Q (.bl k) H') E → r x y H Q
theorem bV_wp {K : PySem.W.Frag} {g : G} {H : Hp} {Q : VK} {E} {t : T Bool} {b : Nat} (h : (bV t).wp b (QV K g H Q) E) : t.wp b (QB g H fun k H' => Q (.bl k) H') E :=
  T.wp_mono (T.wp_bind.mp h) (fun k b' q g' H' st eb => q (.bl k) g' H' st eb (.bl k)) fun _ _ _ z => z
theorem me_cmp {op : CmpOp} {r : R2} {f : PyData → PyData → T Bool} (ho : OpR X (compareOp op) r) (hf : Op2B X.K r f) (hm : behindInMarks op b = false) (ha : PE X a (tR X.K C M ma)) (hb : PE X b (tR X.K C M mb)) : PE X (.Compare a [op] [b] pos) (tM X.K C M fun ρ => do let x ← ma ρ; let y ← mb ρ; bV (f x y)) :=
  (pe_cmpR ho ha hb hm).weak (two fun g H x y d e Q E ok bx by' w => hf g H x y d e Q E ok bx by' (bV_wp w))
theorem twoT {K : PySem.W.Frag} {r : R2} {f : PyData → PyData → T Bool} (hf : Op2B K r f) : ∀ σ H Q, tT K C M (fun ρ => do let x ← ma ρ; let y ← mb ρ; f x y) σ H Q → tTest (tOp r (tR K C M ma) (tR K C M mb)) σ H Q := by
  rintro σ H Q ⟨en, g, ρ, mi, w⟩
  refine ⟨en, g, ρ, mi, T.wp_mono (T.wp_bind.mp w) (fun d b1 w2 v g1 H1 st eb br => ⟨en, g1, ρ, mi.step st, ?_⟩) fun _ _ _ z => z⟩
  rw [eb, st.dk]
  refine T.wp_mono (T.wp_bind.mp w2) (fun e b2 w3 v2 g2 H2 st2 eb2 br2 => ?_) fun _ _ _ z => z
  refine hf g2 H2 v v2 d e _ _ st2.ok (br.step st2) br2 (?_ : T.wp _ _ _ (XP K C en g.dk))
  rw [eb2]
  exact T.wp_mono w3 (fun k b' q g' H' st' e' => ⟨k, rfl, q g' H' ((st.trans st2).trans st') e'⟩) fun _ _ _ z => z
theorem mt_cmp {op : CmpOp} {r : R2} {f : PyData → PyData → T Bool} (ho : OpR X (compareOp op) r) (hf : Op2B X.K r f) (hm : behindInMarks op b = false) (ha : PE X a (tR X.K C M ma)) (hb : PE X b (tR X.K C M mb)) : PT X (.Compare a [op] [b] pos) (tT X.K C M fun ρ => do let x ← ma ρ; let y ← mb ρ; f x y) :=
  (pt_cmpR ho ha hb hm).weak (twoT hf)
theorem cmpI {K : PySem.W.Frag} {h : Int → Int → Bool} {k : PyData → PyData → T Bool} (hk : ∀ i j, k (.int i) (.int j) = .ret (h i j)) (hs : ∀ d e b Q E, (k d e).wp b Q E → ∃ i j, d = .int i ∧ e = .int j) : Op2B K (rI0 fun i j => .bl (h i j)) k := by
  intro g H x y d e Q E ok bx by' w
  obtain ⟨i, j, rfl, rfl⟩ := hs d e _ _ _ w
  rw [hk] at w
  exact ⟨i, j, bx.int, by'.int, w g H (.refl ok) rfl⟩
theorem lt2 {K : PySem.W.Frag} : Op2B K (rI0 fun i j => .bl (decide (i < j))) ltT := cmpI (fun _ _ => rfl) fun d e b Q E w => by cases d <;> first | exact w.elim | (cases e <;> first | exact w.elim | exact ⟨_, _, rfl, rfl⟩)
theorem le2 {K : PySem.W.Frag} : Op2B K (rI0 fun i j => .bl (decide (i ≤ j))) leT := cmpI (fun _ _ => rfl) fun d e b Q E w => by cases d <;> first | exact w.elim | (cases e <;> first | exact w.elim | exact ⟨_, _, rfl, rfl⟩)
theorem gt2 {K : PySem.W.Frag} : Op2B K (rI0 fun i j => .bl (decide (j < i))) gtT := cmpI (fun _ _ => rfl) fun d e b Q E w => by cases d <;> first | exact w.elim | (cases e <;> first | exact w.elim | exact ⟨_, _, rfl, rfl⟩)
theorem ge2 {K : PySem.W.Frag} : Op2B K (rI0 fun i j => .bl (decide (j ≤ i))) geT := cmpI (fun _ _ => rfl) fun d e b Q E w => by cases d <;> first | exact w.elim | (cases e <;> first | exact w.elim | exact ⟨_, _, rfl, rfl⟩)
theorem shp {d e : PyData} (h : (SeqAt.shaped d && SeqAt.shaped e) = true) : SeqAt.shaped d = true ∧ SeqAt.shaped e = true := Bool.and_eq_true_iff.mp h
theorem eqT_cases {d e : PyData} {b : Nat} {Q E} (w : (eqT d e).wp b Q E) : (∃ x y, d = .str x ∧ e = .str y ∧ Q ((x == y)) b) ∨ ((SeqAt.shaped d && SeqAt.shaped e) = true ∧ Q (PyData.eqv d e) b) := by
  unfold eqT at w
  split at w
  · exact .inl ⟨_, _, rfl, rfl, w⟩
  · exact .inr (need_wp w)
theorem eq2 {K : PySem.W.Frag} : Op2B K (fun x y H Q => rEqD K x y H Q ∨ rEq x y H Q) eqT := by
  intro g H x y d e Q E ok bx by' w
  rcases eqT_cases w with ⟨u, v, rfl, rfl, w⟩ | ⟨c, w⟩
  · rw [bx.str, by'.str]
    refine .inr ⟨rfl, ?_⟩
    have z : decide (V.str u = V.str v) = (u == v) := by rw [Bool.eq_iff_iff]; simp
    rw [z]
    exact w g H (.refl ok) rfl
  · obtain ⟨c1, c2⟩ := shp c
    exact .inl ⟨d, e, bx.dp ok (SeqAt.canLay_of_shaped c1), by'.dp ok (SeqAt.canLay_of_shaped c2), c1, c2, w g H (.refl ok) rfl⟩
theorem neT_cases {d e : PyData} {b : Nat} {Q E} (w : (neT d e).wp b Q E) : (∃ x y, d = .str x ∧ e = .str y ∧ Q (!(x == y)) b) ∨ ((SeqAt.shaped d && SeqAt.shaped e) = true ∧ Q (!PyData.eqv d e) b) := by
  unfold neT at w
  split at w
  · exact .inl ⟨_, _, rfl, rfl, w⟩
  · exact .inr (need_wp w)
theorem ne2 {K : PySem.W.Frag} : Op2B K (fun x y H Q => rNeD K x y H Q ∨ rNe x y H Q) neT := by
  intro g H x y d e Q E ok bx by' w
  rcases neT_cases w with ⟨u, v, rfl, rfl, w⟩ | ⟨c, w⟩
  · rw [bx.str, by'.str]
    refine .inr ⟨rfl, ?_⟩
    have z : decide (V.str u = V.str v) = (u == v) := by rw [Bool.eq_iff_iff]; simp
    rw [z]
    exact w g H (.refl ok) rfl
  · obtain ⟨c1, c2⟩ := shp c
    exact .inl ⟨d, e, bx.dp ok (SeqAt.canLay_of_shaped c1), by'.dp ok (SeqAt.canLay_of_shaped c2), c1, c2, w g H (.refl ok) rfl⟩
theorem isN2 {K : PySem.W.Frag} {g : G} {H : Hp} {x : V} {d : PyData} (r : BRep K g H x d) : decide (x = .non) = isNone d := by
  rcases r with r | ⟨p, rfl, o, _⟩
  · cases r <;> first | rfl | exact decide_eq_false (fun z => nomatch z)
  · cases o <;> exact decide_eq_false (fun z => nomatch z)
def isNT (d e : PyData) : T Bool := .ret (isNone d)
theorem is2 {K : PySem.W.Frag} : Op2B K (fun x y H Q => y = .non ∧ Q (.bl (decide (x = .non))) H) (fun d e => match e with | .none => .ret (isNone d) | _ => .stuck) := by
  intro g H x y d e Q E ok bx by' w
  cases e <;> first | exact w.elim | skip
  exact ⟨by'.none, by rw [isN2 bx]; exact w g H (.refl ok) rfl⟩
theorem isnt2 {K : PySem.W.Frag} : Op2B K (fun x y H Q => y = .non ∧ Q (.bl (!decide (x = .non))) H) (fun d e => match e with | .none => .ret (!isNone d) | _ => .stuck) := by
  intro g H x y d e Q E ok bx by' w
  cases e <;> first | exact w.elim | skip
  exact ⟨by'.none, by rw [isN2 bx]; exact w g H (.refl ok) rfl⟩
/-! two comparisons in a row -/
def chainT (f f' : PyData → PyData → T Bool) (x y : PyData) (z : T PyData) : T Bool := f x y >>= fun k => if k = true then z >>= fun w => f' y w else .ret false
theorem chain3 {K : PySem.W.Frag} {r r' : R2} {f f' : PyData → PyData → T Bool} (hf : Op2B K r f) (hf' : Op2B K r' f') : ∀ σ H Q, tM K C M (fun ρ => do let x ← ma ρ; let y ← mb ρ; bV (chainT f f' x y (mc ρ))) σ H Q → tChain r r' (tR K C M ma) (tR K C M mb) (tR K C M mc) σ H Q := by
  rintro σ H Q ⟨en, g, ρ, mi, w⟩
  refine ⟨en, g, ρ, mi, T.wp_mono (T.wp_bind.mp w) (fun d b1 w2 v g1 H1 st eb br => ⟨en, g1, ρ, mi.step st, ?_⟩) fun _ _ _ z => z⟩
  rw [eb, st.dk]
  refine T.wp_mono (T.wp_bind.mp w2) (fun e b2 w3 v2 g2 H2 st2 eb2 br2 => ?_) fun _ _ _ z => z
  have w4 := T.wp_bind.mp (bV_wp (K := K) (g := g) (H := H) (Q := Q) w3)
  refine hf g2 H2 v v2 d e _ _ st2.ok (br.step st2) br2 (?_ : T.wp _ _ _ (XP K C en g.dk))
  rw [eb2]
  refine T.wp_mono w4 (fun k b3 w5 g3 H3 st3 e3 => ⟨k, rfl, ?_⟩) fun _ _ _ z => z
  cases k with
  | false => exact w5 g3 H3 ((st.trans st2).trans st3) e3
  | true =>
    have w5 := T.wp_bind.mp (show T.wp (mc ρ >>= fun w => f' e w) b3 _ _ from w5)
    refine ⟨en, g3, ρ, ((mi.step st).step st2).step st3, ?_⟩
    rw [e3, st3.dk, st2.dk, st.dk]
    refine T.wp_mono w5 (fun z b4 w6 v4 g4 H4 st4 e4 br4 => ?_) fun _ _ _ z => z
    refine hf' g4 H4 v2 v4 e z Q (XP K C en g.dk) st4.ok ((br2.step st3).step st4) br4 ?_
    rw [e4]
    exact T.wp_mono w6 (fun k b' q g' H' st' e' => q g' H' ((((st.trans st2).trans st3).trans st4).trans st') e') fun _ _ _ z => z
theorem me_chain {op op' : CmpOp} {r r' : R2} {f f' : PyData → PyData → T Bool} (ho : OpR X (compareOp op) r) (ho' : OpR X (compareOp op') r') (hf : Op2B X.K r f) (hf' : Op2B X.K r' f') (hm : lastMarks [op, op'] [b, c] = false)
    (ha : PE X a (tR X.K C M ma)) (hb : PE X b (tR X.K C M mb)) (hc : PE X c (tR X.K C M mc)) : PE X (.Compare a [op, op'] [b, c] pos) (tM X.K C M fun ρ => do let x ← ma ρ; let y ← mb ρ; bV (chainT f f' x y (mc ρ))) := (pe_chain ho ho' ha hb hc hm).weak (chain3 hf hf')
/-- from a value that is a bool to a test -/
theorem tT.of {K : PySem.W.Frag} {m : Env → T Bool} : ∀ σ H Q, tT K C M m σ H Q → tM K C M (fun ρ => bV (m ρ)) σ H (fun x H' => ∃ k, x = .bl k ∧ Q k H') := by
  rintro σ H Q ⟨en, g, ρ, mi, w⟩
  refine ⟨en, g, ρ, mi, T.wp_bind.mpr (T.wp_mono w (fun k b' q v g' H' st eb r => ⟨k, r.bool_inv, q g' H' st eb⟩) fun _ _ _ z => z)⟩
theorem mt_chain {op op' : CmpOp} {r r' : R2} {f f' : PyData → PyData → T Bool} (ho : OpR X (compareOp op) r) (ho' : OpR X (compareOp op') r') (hf : Op2B X.K r f) (hf' : Op2B X.K r' f') (hm : lastMarks [op, op'] [b, c] = false)
    (ha : PE X a (tR X.K C M ma)) (hb : PE X b (tR X.K C M mb)) (hc : PE X c (tR X.K C M mc)) : PT X (.Compare a [op, op'] [b, c] pos) (tT X.K C M fun ρ => do let x ← ma ρ; let y ← mb ρ; chainT f f' x y (mc ρ)) := by
  refine (pt_chain ho ho' ha hb hc hm).weak fun σ H Q h => ?_
  have h := tT.of σ H Q h
  refine chain3 hf hf' σ H _ ?_
  simpa only [bV, T.bind_assoc] using h

/-! ### tests -/
theorem mt_val {e : Expr} {m : Env → T PyData} (h : PE X e (tR X.K C M m)) (he : ∀ whole, isTrue e X.env whole = (do let v ← whole; standAt e.pos; holding [v] (truthy v))) : PT X e (tT X.K C M fun ρ => m ρ >>= truT) := by
  refine (pt_truth h he).weak ?_
  rintro σ H Q ⟨en, g, ρ, mi, w⟩
  refine ⟨en, g, ρ, mi, T.wp_mono (T.wp_bind.mp w) (fun d b1 w2 v g1 H1 st eb br => ?_) fun _ _ _ z => z⟩
  have fin : ∀ k, T.wp (.ret k) b1 (fun d b' => ∀ (g' : G) (H' : Hp), Step g H g' H' → g'.b = b' → Q d H') (XP X.K C en g.dk) → Q k H1 := fun k q => q g1 H1 st eb
  cases d with
  | none => exact ⟨false, by rw [br.none]; rfl, fin _ w2⟩
  | bool k => exact ⟨k, by rw [br.bool]; rfl, fin _ w2⟩
  | int i => exact ⟨_, by rw [br.int]; rfl, fin _ w2⟩
  | str x =>
    obtain ⟨cc, w2⟩ := need_wp w2
    have cc := of_decide_eq_true cc
    refine ⟨_, by rw [br.str]; exact ⟨cc, rfl⟩, ?_⟩
    have e : ((x.length : Int) != 0) = (x.length != 0) := by
      cases q : x.length with
      | zero => rfl
      | succ n => simp; omega
    rw [e]
    exact fin _ w2
  | list xs =>
    obtain ⟨p, vs, rfl, h1, r1⟩ := br.list st.ok
    refine ⟨_, .inl ⟨vs, SqL.of h1, rfl⟩, ?_⟩
    have e : vs.isEmpty = xs.isEmpty := by cases r1 <;> rfl
    rw [e]; exact fin _ w2
  | tuple xs =>
    obtain ⟨p, vs, rfl, h1, r1⟩ := br.tup st.ok
    refine ⟨_, .inr (.inl ⟨vs, h1, rfl⟩), ?_⟩
    have e : vs.isEmpty = xs.isEmpty := by cases r1 <;> rfl
    rw [e]; exact fin _ w2
  | dict kvs => exact w2.elim
variable {ta tb : Env → T Bool} {rest : List Expr}
theorem mw_and1 (ha : PT X a (tT X.K C M ta)) : PW X (.BoolOp .And [a] pos) (tT X.K C M ta) := pw_and1 ha
theorem mw_or1 (ha : PT X a (tT X.K C M ta)) : PW X (.BoolOp .Or [a] pos) (tT X.K C M ta) := pw_or1 ha
theorem mw_and (ha : PT X a (tT X.K C M ta)) (hb : PW X (.BoolOp .And (b :: rest) pos) (tT X.K C M tb)) : PW X (.BoolOp .And (a :: b :: rest) pos) (tT X.K C M fun ρ => andT (ta ρ) (tb ρ)) := by
  refine (pw_and ha hb).weak ?_
  rintro σ H Q ⟨en, g, ρ, mi, w⟩
  refine ⟨en, g, ρ, mi, T.wp_mono (T.wp_bind.mp w) (fun k b1 w2 g1 H1 st eb => ?_) fun _ _ _ z => z⟩
  cases k with
  | false => exact w2 g1 H1 st eb
  | true =>
    refine ⟨en, g1, ρ, mi.step st, ?_⟩
    rw [eb, st.dk]
    exact T.wp_mono (show T.wp (tb ρ) b1 _ _ from w2) (fun k b' q g' H' st' e' => q g' H' (st.trans st') e') fun _ _ _ z => z
theorem mw_or (ha : PT X a (tT X.K C M ta)) (hb : PW X (.BoolOp .Or (b :: rest) pos) (tT X.K C M tb)) : PW X (.BoolOp .Or (a :: b :: rest) pos) (tT X.K C M fun ρ => orT (ta ρ) (tb ρ)) := by
  refine (pw_or ha hb).weak ?_
  rintro σ H Q ⟨en, g, ρ, mi, w⟩
  refine ⟨en, g, ρ, mi, T.wp_mono (T.wp_bind.mp w) (fun k b1 w2 g1 H1 st eb => ?_) fun _ _ _ z => z⟩
  cases k with
  | true => exact w2 g1 H1 st eb
  | false =>
    refine ⟨en, g1, ρ, mi.step st, ?_⟩
    rw [eb, st.dk]
    exact T.wp_mono (show T.wp (tb ρ) b1 _ _ from w2) (fun k b' q g' H' st' e' => q g' H' (st.trans st') e') fun _ _ _ z => z
theorem mt_not (ha : PT X a (tT X.K C M ta)) : PT X (.UnaryOp .Not a pos) (tT X.K C M fun ρ => notT (ta ρ)) := by
  refine (pt_not ha).weak ?_
  rintro σ H Q ⟨en, g, ρ, mi, w⟩
  exact ⟨en, g, ρ, mi, T.wp_mono (T.wp_bind.mp w) (fun k b1 w2 g1 H1 st eb => w2 g1 H1 st eb) fun _ _ _ z => z⟩
/-! .. as values -/
def andV (x : T PyData) (y : T PyData) : T PyData := x >>= fun d => match d with | .bool true => y | .bool false => .ret (.bool false) | _ => .stuck
def orV (x : T PyData) (y : T PyData) : T PyData := x >>= fun d => match d with | .bool false => y | .bool true => .ret (.bool true) | _ => .stuck
def notV (x : T PyData) : T PyData := x >>= fun d => match d with | .bool k => .ret (.bool (!k)) | _ => .stuck
theorem me_one {op} (h : PE X a (tM X.K C M ma)) : PE X (.BoolOp op [a] pos) (tM X.K C M ma) := pe_one h
theorem me_and (ha : PE X a (tM X.K C M ma)) (hb : PE X (.BoolOp .And (b :: rest) pos) (tM X.K C M mb)) : PE X (.BoolOp .And (a :: b :: rest) pos) (tM X.K C M fun ρ => andV (ma ρ) (mb ρ)) := by
  refine (pe_and ha hb).weak ?_
  rintro σ H Q ⟨en, g, ρ, mi, w⟩
  refine ⟨en, g, ρ, mi, T.wp_mono (T.wp_bind.mp w) (fun d b1 w2 v g1 H1 st eb r => ?_) fun _ _ _ z => z⟩
  cases d <;> first | exact w2.elim | skip
  rename_i k
  refine ⟨k, r.bool_inv, ?_⟩
  cases k with
  | false => exact w2 _ g1 H1 st eb (.bl false)
  | true =>
    refine ⟨en, g1, ρ, mi.step st, ?_⟩
    rw [eb, st.dk]
    exact T.wp_mono (show T.wp (mb ρ) b1 _ _ from w2) (fun k b' q v' g' H' st' e' => q v' g' H' (st.trans st') e') fun _ _ _ z => z
theorem me_or (ha : PE X a (tM X.K C M ma)) (hb : PE X (.BoolOp .Or (b :: rest) pos) (tM X.K C M mb)) : PE X (.BoolOp .Or (a :: b :: rest) pos) (tM X.K C M fun ρ => orV (ma ρ) (mb ρ)) := by
  refine (pe_or ha hb).weak ?_
  rintro σ H Q ⟨en, g, ρ, mi, w⟩
  refine ⟨en, g, ρ, mi, T.wp_mono (T.wp_bind.mp w) (fun d b1 w2 v g1 H1 st eb r => ?_) fun _ _ _ z => z⟩
  cases d <;> first | exact w2.elim | skip
  rename_i k
  refine ⟨k, r.bool_inv, ?_⟩
  cases k with
  | true => exact w2 _ g1 H1 st eb (.bl true)
  | false =>
    refine ⟨en, g1, ρ, mi.step st, ?_⟩
    rw [eb, st.dk]
    exact T.wp_mono (show T.wp (mb ρ) b1 _ _ from w2) (fun k b' q v' g' H' st' e' => q v' g' H' (st.trans st') e') fun _ _ _ z => z
theorem me_not (ha : PE X a (tM X.K C M ma)) : PE X (.UnaryOp .Not a pos) (tM X.K C M fun ρ => notV (ma ρ)) := by
  refine (pe_not ha).weak ?_
  rintro σ H Q ⟨en, g, ρ, mi, w⟩
  refine ⟨en, g, ρ, mi, T.wp_mono (T.wp_bind.mp w) (fun d b1 w2 v g1 H1 st eb r => ?_) fun _ _ _ z => z⟩
  cases d <;> first | exact w2.elim | skip
  exact ⟨_, r.bool_inv, w2 _ g1 H1 st eb (.bl _)⟩
def iteT (t : T Bool) (x y : T α) : T α := t >>= fun k => if k = true then x else y
theorem me_ite {tc : Env → T Bool} (hc : PT X c (tT X.K C M tc)) (ha : PE X a (tM X.K C M ma)) (hb : PE X b (tM X.K C M mb)) : PE X (.IfExp c a b pos) (tM X.K C M fun ρ => iteT (tc ρ) (ma ρ) (mb ρ)) := by
  refine (pe_ifExp hc ha hb).weak ?_
  rintro σ H Q ⟨en, g, ρ, mi, w⟩
  refine ⟨en, g, ρ, mi, T.wp_mono (T.wp_bind.mp w) (fun k b1 w2 g1 H1 st eb => ?_) fun _ _ _ z => z⟩
  cases k with
  | true =>
    refine ⟨en, g1, ρ, mi.step st, ?_⟩
    rw [eb, st.dk]
    exact T.wp_mono (show T.wp (ma ρ) b1 _ _ from w2) (fun k b' q v' g' H' st' e' => q v' g' H' (st.trans st') e') fun _ _ _ z => z
  | false =>
    refine ⟨en, g1, ρ, mi.step st, ?_⟩
    rw [eb, st.dk]
    exact T.wp_mono (show T.wp (mb ρ) b1 _ _ from w2) (fun k b' q v' g' H' st' e' => q v' g' H' (st.trans st') e') fun _ _ _ z => z

/-! ### subscripts -/
theorem atI_rep {K : PySem.W.Frag} {g : G} {vs : List V} {ds : List PyData} {i : Int} {d : PyData} (r : RepAll K g vs ds) (h : atI ds i = some d) : ∃ v, atI vs i = some v ∧ Rep K g v d := by
  unfold atI at h ⊢
  rw [r.length]
  cases q : ixN ds.length i with
  | none => rw [q] at h; cases h
  | some j =>
    rw [q] at h
    obtain ⟨v, h1, h2⟩ := r.getD' (show ds[j]? = some d from h)
    exact ⟨v, h1, h2⟩
theorem ix2 {K : PySem.W.Frag} : Op2 K (rIx K) idxD := by
  intro g H x y d e Q E ok bx by' w
  cases d with
  | list xs => cases e with
    | int i =>
      obtain ⟨p, vs, rfl, h1, r1⟩ := bx.list ok
      simp only [idxD] at w
      split at w
      · rename_i d' e'
        obtain ⟨v, h2, h3⟩ := atI_rep r1 e'
        exact .inl ⟨p, vs, i, v, rfl, by'.int, SqL.of h1, h2, w v g H (.refl ok) rfl h3⟩
      · exact w.elim
    | _ => exact w.elim
  | tuple xs => cases e with
    | int i =>
      obtain ⟨p, vs, rfl, h1, r1⟩ := bx.tup ok
      simp only [idxD] at w
      split at w
      · rename_i d' e'
        obtain ⟨v, h2, h3⟩ := atI_rep r1 e'
        exact .inr (.inl ⟨p, vs, i, v, rfl, by'.int, h1, h2, w v g H (.refl ok) rfl h3⟩)
      · exact w.elim
    | _ => exact w.elim
  | str z => cases e with
    | int i =>
      obtain ⟨cc, w⟩ := need_wp w
      split at w
      · rename_i d' e'
        exact .inr (.inr ⟨z, i, _, bx.str, by'.int, of_decide_eq_true cc, e', w _ g H (.refl ok) rfl (.str _)⟩)
      · exact w.elim
    | _ => exact w.elim
  | _ => exact w.elim
theorem me_ix (hs : PlainIx b) (ha : PE X a (tR X.K C M ma)) (hb : PE X b (tR X.K C M mb)) : PE X (.Subscript a b pos) (tM X.K C M fun ρ => do let x ← ma ρ; let y ← mb ρ; idxD x y) := (pe_ix ix_seq ha hb hs).weak (two ix2)
/-! slices -/
def tO (K : PySem.W.Frag) (C : Ct) (M : List Nat) (m : Env → T (Option Int)) : TO := fun σ H Q => ∃ en g ρ, MI K M en g σ H ρ ∧
  (m ρ).wp g.b (fun d b' => ∀ (g' : G) (H' : Hp), Step g H g' H' → g'.b = b' → Q d H') (XP K C en g.dk)
theorem mo_none : PO X none (tO X.K C M fun _ => .ret none) := po_none.weak fun σ H Q ⟨en, g, ρ, mi, w⟩ => w g H (.refl mi.ok) rfl
theorem mo_some (h : PE X a (tR X.K C M ma)) : PO X (some a) (tO X.K C M fun ρ => partT (ma ρ)) := by
  refine (po_some h).weak ?_
  rintro σ H Q ⟨en, g, ρ, mi, w⟩
  refine ⟨en, g, ρ, mi, T.wp_mono (T.wp_bind.mp w) (fun d b1 w2 v g1 H1 st eb br => ?_) fun _ _ _ z => z⟩
  cases d <;> first | exact w2.elim | skip
  exact ⟨_, br.int, w2 g1 H1 st eb⟩
theorem cut_rep {K : PySem.W.Frag} {g : G} {vs : List V} {ds : List PyData} (r : RepAll K g vs ds) (lo hi : Option Int) : RepAll K g (cutV vs lo hi) (cutD ds lo hi) := by
  unfold cutV cutD
  rw [r.length]
  exact (r.drop _).take _
theorem cutD_whole {ds : List PyData} {lo hi : Option Int} (h : HT.sIx ds.length 0 lo = 0 ∧ HT.sIx ds.length ds.length hi = ds.length) : cutD ds lo hi = ds := by
  unfold cutD
  rw [h.1, h.2]
  simp
def rSlD (K : PySem.W.Frag) : V → Option Int → Option Int → Hp → VK → Prop := fun x lo hi H Q => rSlL K x lo hi H Q ∨ rSlA K x lo hi H Q ∨ rSlS x lo hi H Q
theorem sl_D : SlR X (rSlD X.K) := sl_list.or (sl_tupA.or sl_str)
variable {lo hi : Option Expr} {ml mh : Env → T (Option Int)} {p2 : Pos}
theorem me_slice (ha : PE X a (tR X.K C M ma)) (hl : PO X lo (tO X.K C M ml)) (hh : PO X hi (tO X.K C M mh)) : PE X (.Subscript a (.Slice lo hi none p2) pos) (tM X.K C M fun ρ => do let x ← ma ρ; let l ← ml ρ; let h ← mh ρ; sliceD x l h) := by
  refine (pe_slice sl_D ha hl hh).weak ?_
  rintro σ H Q ⟨en, g, ρ, mi, w⟩
  refine ⟨en, g, ρ, mi, T.wp_mono (T.wp_bind.mp w) (fun d b1 w2 v g1 H1 st eb br => ⟨en, g1, ρ, mi.step st, ?_⟩) fun _ _ _ z => z⟩
  rw [eb, st.dk]
  refine T.wp_mono (T.wp_bind.mp w2) (fun l b2 w3 g2 H2 st2 eb2 => ⟨en, g2, ρ, (mi.step st).step st2, ?_⟩) fun _ _ _ z => z
  rw [eb2, st2.dk, st.dk]
  refine T.wp_mono (T.wp_bind.mp w3) (fun h b3 w4 g3 H3 st3 eb3 => ?_) fun _ _ _ z => z
  have br := (br.step st2).step st3
  have w5 := wpStep (K := X.K) ((st.trans st2).trans st3) eb3 w4
  have ok := st3.ok
  cases d with
  | list xs =>
    obtain ⟨p, vs, rfl, h1, r1⟩ := br.list ok
    refine .inl ⟨p, vs, rfl, SqL.of h1, QV.new (K := X.K) (g := g3) (d := .list (cutD xs l h)) w5 ok fun p g' h st => .lst h ?_⟩
    exact (cut_rep r1 _ _).step st
  | tuple xs =>
    obtain ⟨p, vs, rfl, h1, r1⟩ := br.tup ok
    refine .inr (.inl ⟨p, vs, rfl, h1, fun z => ?_, fun _ => QV.new (K := X.K) (g := g3) (d := .tuple (cutD xs l h)) w5 ok fun p g' h st => .tup (SqT.of h) ((cut_rep r1 _ _).step st)⟩)
    rw [r1.length] at z
    have e := cutD_whole z
    refine w5 _ g3 H3 (.refl ok) rfl ?_
    rw [e]
    exact br.tupR
  | str z =>
    obtain ⟨cc, w5⟩ := need_wp w5
    exact .inr (.inr ⟨z, br.str, of_decide_eq_true cc, w5 _ g3 H3 (.refl ok) rfl (.str _)⟩)
  | _ => exact w5.elim

/-! ### built-ins -/
variable {x : Str} {p : Pos} {id T' : String} {e : Expr}
def Call1 (K : PySem.W.Frag) (r : List V → Hp → VK → Prop) (f : PyData → T PyData) : Prop :=
  ∀ (g : G) (H : Hp) (x : V) (d : PyData) (Q : VK) (E : Str → List (Str × PyData) → Nat → Prop), GOk g H → BRep K g H x d → (f d).wp g.b (QV K g H Q) E → r [x] H Q
def Call2 (K : PySem.W.Frag) (r : List V → Hp → VK → Prop) (f : PyData → PyData → T PyData) : Prop :=
  ∀ (g : G) (H : Hp) (x y : V) (d e : PyData) (Q : VK) (E : Str → List (Str × PyData) → Nat → Prop), GOk g H → BRep K g H x d → BRep K g H y e → (f d e).wp g.b (QV K g H Q) E → r [x, y] H Q
theorem cb1 {K : PySem.W.Frag} {r : List V → Hp → VK → Prop} {f : PyData → T PyData} (hf : Call1 K r f) : ∀ σ H Q, tM K C M (fun ρ => do let x ← ma ρ; f x) σ H Q → tCB r (tCons (tR K C M ma) tNil) σ H Q := one (r := fun x H Q => r [x] H Q) hf
theorem cb2 {K : PySem.W.Frag} {r : List V → Hp → VK → Prop} {f : PyData → PyData → T PyData} (hf : Call2 K r f) : ∀ σ H Q, tM K C M (fun ρ => do let x ← ma ρ; let y ← mb ρ; f x y) σ H Q → tCB r (tCons (tR K C M ma) (tCons (tR K C M mb) tNil)) σ H Q := two (r := fun x y H Q => r [x, y] H Q) hf
/-- f(e), a built-in function -/
theorem me_b1 {r : List V → Hp → VK → Prop} {f : PyData → T PyData} (hc : CallR X (.builtin id) r) (hf : Call1 X.K r f) (hg : Gl X x) (hm : X.mg x = none) (hv : bootBuiltins x = some (.builtin id)) (ha : PE X a (tR X.K C M ma)) (hn : x ≠ "__name__") (hdb : (x == ("__debug__" : Str)) = false) (he : starEach [a] X.env = [(false, eval a X.env)]) :
    PE X (.Call (.Name x p) [a] [] pos) (tM X.K C M fun ρ => do let x ← ma ρ; f x) :=
  (pe_callB hc hg hm hv (pa_cons ha pa_nil he) hn hdb he rfl).weak (cb1 hf)
theorem me_t1 {r : List V → Hp → VK → Prop} {f : PyData → T PyData} (hc : CallR X (.type id) r) (hf : Call1 X.K r f) (hg : Gl X x) (hm : X.mg x = none) (hv : bootBuiltins x = some (.type id)) (ha : PE X a (tR X.K C M ma)) (hn : x ≠ "__name__") (hdb : (x == ("__debug__" : Str)) = false) (he : starEach [a] X.env = [(false, eval a X.env)]) :
    PE X (.Call (.Name x p) [a] [] pos) (tM X.K C M fun ρ => do let x ← ma ρ; f x) :=
  (pe_callTy hc hg hm hv (pa_cons ha pa_nil he) hn hdb he rfl).weak (cb1 hf)
theorem me_b2 {r : List V → Hp → VK → Prop} {f : PyData → PyData → T PyData} (hc : CallR X (.builtin id) r) (hf : Call2 X.K r f) (hg : Gl X x) (hm : X.mg x = none) (hv : bootBuiltins x = some (.builtin id)) (ha : PE X a (tR X.K C M ma)) (hb : PE X b (tR X.K C M mb)) (hn : x ≠ "__name__") (hdb : (x == ("__debug__" : Str)) = false)
    (he : starEach [a, b] X.env = (false, eval a X.env) :: starEach [b] X.env) (he2 : starEach [b] X.env = [(false, eval b X.env)]) :
    PE X (.Call (.Name x p) [a, b] [] pos) (tM X.K C M fun ρ => do let x ← ma ρ; let y ← mb ρ; f x y) :=
  (pe_callB hc hg hm hv (pa_cons ha (pa_cons hb pa_nil he2) he) hn hdb he (by rw [he2]; rfl)).weak (cb2 hf)
theorem len1 {K : PySem.W.Frag} : Call1 K (fun xs H Q => (∃ p ys, xs = [.ref p] ∧ (SqL K H p ys ∨ SqT K H p ys) ∧ Q (.int ys.length) H) ∨ (∃ z, xs = [.str z] ∧ z.length ≤ sizeLine ∧ Q (.int z.length) H)) (fun d => match d with | .dict _ => .stuck | d => lenD d) := by
  intro g H x d Q E ok bx w
  cases d with
  | list xs =>
    obtain ⟨p, vs, rfl, h1, r1⟩ := bx.list ok
    exact .inl ⟨p, vs, rfl, .inl (SqL.of h1), by rw [r1.length]; exact w _ g H (.refl ok) rfl (.int _)⟩
  | tuple xs =>
    obtain ⟨p, vs, rfl, h1, r1⟩ := bx.tup ok
    exact .inl ⟨p, vs, rfl, .inr h1, by rw [r1.length]; exact w _ g H (.refl ok) rfl (.int _)⟩
  | str z =>
    obtain ⟨cc, w⟩ := need_wp w
    exact .inr ⟨z, by rw [bx.str], of_decide_eq_true cc, w _ g H (.refl ok) rfl (.int _)⟩
  | _ => exact w.elim
theorem tuple1 {K : PySem.W.Frag} : Call1 K (fun xs H Q => ∃ p ys, xs = [.ref p] ∧ ((SqL K H p ys ∧ ∀ l, H l = none → Q (.ref l) (upd H l (.tup ys))) ∨ (SqT K H p ys ∧ Q (.ref p) H))) tupleD := by
  intro g H x d Q E ok bx w
  cases d with
  | list xs =>
    obtain ⟨p, vs, rfl, h1, r1⟩ := bx.list ok
    exact ⟨p, vs, rfl, .inl ⟨SqL.of h1, QV.new (d := .tuple xs) w ok fun p g' h st => .tup (SqT.of h) (r1.step st)⟩⟩
  | tuple xs =>
    obtain ⟨p, vs, rfl, h1, r1⟩ := bx.tup ok
    exact ⟨p, vs, rfl, .inr ⟨h1, w _ g H (.refl ok) rfl bx.tupR⟩⟩
  | _ => exact w.elim
theorem list1 {K : PySem.W.Frag} : Call1 K (fun xs H Q => ∃ p ys, xs = [.ref p] ∧ (SqL K H p ys ∨ SqT K H p ys) ∧ ∀ l, H l = none → Q (.ref l) (upd H l (.lst ys))) listD := by
  intro g H x d Q E ok bx w
  cases d with
  | list xs =>
    obtain ⟨p, vs, rfl, h1, r1⟩ := bx.list ok
    exact ⟨p, vs, rfl, .inl (SqL.of h1), QV.new (d := .list xs) w ok fun p g' h st => .lst h (r1.step st)⟩
  | tuple xs =>
    obtain ⟨p, vs, rfl, h1, r1⟩ := bx.tup ok
    exact ⟨p, vs, rfl, .inr h1, QV.new (d := .list xs) w ok fun p g' h st => .lst h (r1.step st)⟩
  | _ => exact w.elim
theorem max2 {K : PySem.W.Frag} : Call2 K (fun xs H Q => ∃ i j, xs = [.int i, .int j] ∧ Q (.int (if j > i then j else i)) H) max2D := by
  intro g H x y d e Q E ok bx by' w
  cases d <;> first | exact w.elim | (cases e <;> first | exact w.elim | exact ⟨_, _, by rw [bx.int, by'.int], w _ g H (.refl ok) rfl (.int _)⟩)
theorem min2 {K : PySem.W.Frag} : Call2 K (fun xs H Q => ∃ i j, xs = [.int i, .int j] ∧ Q (.int (if j < i then j else i)) H) min2D := by
  intro g H x y d e Q E ok bx by' w
  cases d <;> first | exact w.elim | (cases e <;> first | exact w.elim | exact ⟨_, _, by rw [bx.int, by'.int], w _ g H (.refl ok) rfl (.int _)⟩)
theorem intsOf_rep {K : PySem.W.Frag} {g : G} : ∀ {ds : List PyData} {vs : List V} {ns : List Int}, RepAll K g vs ds → intsOf ds = some ns → vs = ns.map V.int
  | [], _, ns, .nil, h => by simp [intsOf] at h; subst h; rfl
  | .int i :: ds, _, ns, .cons r t, h => by
    simp only [intsOf, Option.map_eq_some_iff] at h
    obtain ⟨ms, h1, h2⟩ := h
    subst h2
    rw [r.int_inv, intsOf_rep t h1]; rfl
  | .none :: _, _, _, _, h => by simp [intsOf] at h
  | .bool _ :: _, _, _, _, h => by simp [intsOf] at h
  | .str _ :: _, _, _, _, h => by simp [intsOf] at h
  | .list _ :: _, _, _, _, h => by simp [intsOf] at h
  | .tuple _ :: _, _, _, _, h => by simp [intsOf] at h
  | .dict _ :: _, _, _, _, h => by simp [intsOf] at h
theorem sum1 {K : PySem.W.Frag} : Call1 K (rSum K) sumD := by
  intro g H x d Q E ok bx w
  cases d <;> first | exact w.elim | skip
  simp only [sumD] at w
  split at w
  · rename_i ns e
    obtain ⟨p, vs, rfl, h1, r1⟩ := bx.list ok
    rw [intsOf_rep r1 e] at h1
    exact ⟨p, ns, rfl, SqL.of h1, w _ g H (.refl ok) rfl (.int _)⟩
  · exact w.elim
/-- int(n), int(flag) -/
def intD : PyData → T PyData
  | .int i => .ret (.int i)
  | .bool k => .ret (.int (if k then 1 else 0))
  | _ => .stuck
theorem int1 {K : PySem.W.Frag} : Call1 K (fun xs H Q => (∃ i, xs = [.int i] ∧ Q (.int i) H) ∨ ∃ k, xs = [.bl k] ∧ Q (.int (if k then 1 else 0)) H) intD := by
  intro g H x d Q E ok bx w
  cases d <;> first | exact w.elim | skip
  · exact .inr ⟨_, by rw [bx.bool], w _ g H (.refl ok) rfl (.int _)⟩
  · exact .inl ⟨_, by rw [bx.int], w _ g H (.refl ok) rfl (.int _)⟩
def strD : PyData → T PyData
  | .int i => need (i.natAbs.log2 < 1920) (.ret (.str (toString i)))
  | _ => .stuck
theorem str1 {K : PySem.W.Frag} : Call1 K (fun xs H Q => ∃ i, xs = [.int i] ∧ i.natAbs.log2 < 1920 ∧ Q (.str (toString i)) H) strD := by
  intro g H x d Q E ok bx w
  cases d <;> first | exact w.elim | skip
  obtain ⟨cc, w⟩ := need_wp w
  exact ⟨_, by rw [bx.int], of_decide_eq_true cc, w _ g H (.refl ok) rfl (.str _)⟩
end
end R

set_option Elab.async false
set_option linter.all false
set_option maxRecDepth 100000
set_option maxHeartbeats 1000000
/-! R4: isinstance, repr, calls of defs. -/
namespace R
open PySem PySem.Spec L2
open PyProof.Rows hiding St
section
variable {X : Cx} {C : Ct} {M : List Nat} {a b c : Expr} {ma mb mc : Env → T PyData} {pos p : Pos} {x : Str}
/-! ### isinstance -/
def tyN : PyData → String
  | .none => "NoneType" | .bool _ => "bool" | .int _ => "int" | .str _ => "str" | .list _ => "list" | .tuple _ => "tuple" | .dict _ => "dict"
def Ty.n : Ty → String
  | .int => "int" | .bool => "bool" | .str => "str" | .tuple => "tuple" | .list => "list" | .dict => "dict"
def isDkD : PyData → Bool
  | .dict ((.none, _) :: _) => true
  | _ => false
def isaT (t : Ty) (d : PyData) : T Bool := need (!isDkD d) (.ret (isaD t d))
theorem kit_all : ∀ (t : Ty) (d : PyData), kitB (tyN d) t.n = some (isaD t d) := by
  intro t d
  cases t <;> cases d <;> simp only [tyN, Ty.n, isaD] <;> decide +kernel
theorem tyX_of {K : PySem.W.Frag} {g : G} {H : Hp} {v : V} {d : PyData} (ok : GOk g H) (r : BRep K g H v d) (n : isDkD d = false) : TyX K H v (.type (tyN d)) := by
  rcases r with r | ⟨q, rfl, o, _⟩
  · cases r with
    | non => exact .base .non
    | bl b => exact .base (.bl b)
    | int i => exact .base (.int i)
    | str x => exact .base (.str x)
    | lst h _ => exact .base (.lst (ok.sub _ _ h))
    | tup h _ =>
      rcases h with (h | ⟨o, h⟩) | ⟨o, its, k, h1, h2, _⟩
      · exact .base (.tup (ok.sub _ _ h))
      · exact .fTuple (ok.sub _ _ h)
      · exact .kTuple h1 h2
    | dK h _ _ => exact .base (.dK (ok.sub _ _ h))
    | dT h _ _ => exact .base (.dT (ok.sub _ _ h))
    | dk _ => simp [isDkD, dkD] at n
  · cases o with
    | lst h _ => exact .base (.lst h)
    | dK h _ _ => exact .base (.dK h)
    | dT h _ _ => exact .base (.dT h)
theorem isi_wp {K : PySem.W.Frag} (t : Ty) {g : G} {H : Hp} {v : V} {d : PyData} {Q : VK} {E} (ok : GOk g H) (r : BRep K g H v d) (w : (isaT t d).wp g.b (QB g H fun k H' => Q (.bl k) H') E) : rIsi K [v, .ty t.n] H Q := by
  obtain ⟨n, w⟩ := need_wp w
  exact ⟨v, .ty t.n, _, _, _, rfl, .ty _, tyX_of ok r (by simpa using n), kit_ty (kit_all t d), w g H (.refl ok) rfl⟩
theorem me_isa {y : Str} {p' : Pos} (t : Ty) (hg : Gl X "isinstance") (hm : X.mg "isinstance" = none) (hv : bootBuiltins "isinstance" = some (.builtin "isinstance")) (hg' : Gl X y) (hm' : X.mg y = none) (hv' : bootBuiltins y = some (.type t.n)) (hn : y ≠ "__name__") (hdb : (y == ("__debug__" : Str)) = false)
    (ha : PE X a (tR X.K C M ma)) (he : starEach [a, .Name y p'] X.env = (false, eval a X.env) :: starEach [.Name y p'] X.env) :
    PE X (.Call (.Name "isinstance" p) [a, .Name y p'] [] pos) (tM X.K C M fun ρ => do let x ← ma ρ; bV (isaT t x)) := by
  refine (pe_callB call_isi hg hm hv (pa_cons ha (pa_cons (pe_bltn (v := .ty t.n) hg' hm' hv' rfl hn hdb) pa_nil rfl) he) (by decide) (by decide) he rfl).weak ?_
  rintro σ H Q ⟨en, g, ρ, mi, w⟩
  refine ⟨en, g, ρ, mi, T.wp_mono (T.wp_bind.mp w) (fun d b1 w2 v g1 H1 st eb br => ?_) fun _ _ _ z => z⟩
  exact isi_wp t st.ok br (E := XP X.K C en g.dk) (bV_wp (wpStep st eb w2))
/-! ### repr -/
theorem call_reprD (hG : X.A.guards = some []) (hu : X.A.units + 110 < cLine) : CallR X (.builtin "repr") (fun xs H Q => ∃ v d, xs = [v] ∧ Dp X.K H v d ∧ d.showable = true ∧ d.shown.length ≤ sizeLine ∧ d.depth ≤ 100 ∧ d.hasDict = false ∧ Q (.str d.shown) H) := by
  intro pins s σ H xs us Q I r h
  obtain ⟨v, d, rfl, hd, hs, hz, hdp, hnd, q⟩ := h
  obtain ⟨u, rfl, ru⟩ := vals1 r
  obtain ⟨as, rd⟩ := Dp.reads I d v u hd ru
  have fin : ∀ h' u tk, (∀ b o, s.heap.get? b = some o → h'.get? b = some o) → EP X pins σ Q (.str d.shown u) { s with heap := h', toks := tk } := fun h' u tk hk => ⟨.str _, H, I.kept hk, ⟨_, rfl⟩, q⟩
  cases rd with
  | none => exact PySem.P.repr_of_none (fin s.heap _ _ fun _ _ e => e)
  | bool b => exact PySem.P.repr_of_bool (fin s.heap _ _ fun _ _ e => e)
  | int i t => exact PySem.P.repr_of_int (by simpa [PyData.showable] using hs) (fin s.heap _ _ fun _ _ e => e)
  | str x t => exact PySem.P.repr_of_str (fin s.heap _ _ fun _ _ e => e) (by simpa only [PyData.shown] using hz)
  | list h1 h2 h3 h4 => exact repr_of_reads' (.list h1 h2 h3 h4) hs (PyData.noDict_hsm hnd) hG (by omega) (fun _ _ e => e) fin hz
  | tuple h1 h2 h3 h4 => exact repr_of_reads' (.tuple h1 h2 h3 h4) hs (PyData.noDict_hsm hnd) hG (by omega) (fun _ _ e => e) fin hz
  | dict h1 h2 h3 h4 h5 => simp [PyData.hasDict] at hnd
theorem repr1 {K : PySem.W.Frag} : Call1 K (fun xs H Q => ∃ v d, xs = [v] ∧ Dp K H v d ∧ d.showable = true ∧ d.shown.length ≤ sizeLine ∧ d.depth ≤ 100 ∧ d.hasDict = false ∧ Q (.str d.shown) H) reprD := by
  intro g H x d Q E ok bx w
  obtain ⟨cc, w⟩ := need_wp w
  simp only [Bool.and_eq_true, decide_eq_true_eq, Bool.not_eq_true'] at cc
  obtain ⟨⟨⟨c1, c2⟩, c3⟩, c4⟩ := cc
  exact ⟨x, d, rfl, bx.dp' ok c4, c1, c2, c3, c4, w _ g H (.refl ok) rfl (.str _)⟩
end

/-! ### what a def promises, with no repr under way -/
structure RoomG (k : Nat) (A : Around) : Prop where
  r : Room k A
  g : A.guards = some []
theorem RoomG.deeper {k : Nat} {A : Around} (h : RoomG (k + 1) A) (env : PySem.Env) : RoomG k (A.deeper env) := ⟨h.r.deeper env, h.g⟩
theorem RoomG.mono {j k : Nat} {A : Around} (h : RoomG k A) (hj : j ≤ k) : RoomG j A := ⟨h.r.mono hj, h.g⟩
/-- as the layer's FnOk, asked only where no repr is under way -/
structure FnG (P : Program) (w : World) (K : PySem.W.Frag) (mg : Str → Option Value) (base : Heap) (CX : CXT) (k : Nat) (f : Addr) (fd : FuncData) (ps : List Str) (sp : Sp) : Prop where
  many : ∀ {vs H Q E}, sp vs H Q E → vs.length = ps.length
  goes : ∀ {A : Around} {fr : List PySem.Env} {s : Shared} {H : Hp} {ar : Args} {us : List Value} {vs : List V} {Q : VK} {E : XK}, RoomG k A → Env0 P w K mg base A fr s H → BindsTo s fd ar (ps.zip us) → Vals vs us → sp vs H Q E → codeAny (model P w) A (.call (.ref f) ar) (CR CX fr P w H s Q E) s
section
variable {P : Program} {w : World} {K : PySem.W.Frag} {mg : Str → Option Value} {base : Heap} {CX : CXT} {j k : Nat} {f : Addr} {fd : FuncData} {ps : List Str} {sp sp' : Sp}
theorem FnG.mono (F : FnG P w K mg base CX j f fd ps sp) (h : j ≤ k) : FnG P w K mg base CX k f fd ps sp := ⟨F.many, fun room => F.goes (room.mono h)⟩
theorem FnG.of (F : FnOk P w K mg base CX k f fd ps sp) : FnG P w K mg base CX k f fd ps sp := ⟨F.len _ _ _ _, fun room => F.run _ _ _ _ _ _ _ _ _ room.r⟩
theorem FnG.imp (F : FnG P w K mg base CX k f fd ps sp) (h : ∀ vs H Q E, sp' vs H Q E → sp vs H Q E) : FnG P w K mg base CX k f fd ps sp' := ⟨fun q => F.many (h _ _ _ _ q), fun room he hb hv hs => F.goes room he hb hv (h _ _ _ _ hs)⟩
end
/-- a frame's start: the parameters stand, the body runs, the end is a call's end -/
theorem fnG_of {CX : CXT} {P : Program} {w : World} {K : PySem.W.Frag} {mg : Str → Option Value} {base : Heap} {k : Nat} {f : Addr} {name qual : Str} {params : Arguments} {body : List Stmt} {sc : Scope} {dV kV doc pm cv ct oc : Value} {an od : Option Addr} {sl : Array (Option Value)} {N ps : List Str} {sp : Sp}
    (at_f : K.lookup f = some ⟨oc, od, .func (PySem.W.fnOf name qual params body sc dV kV doc pm an cv ct), sl⟩) (code : PySem.W.codeIn K cv qual = true) (S : FnScope N ps sc) (many : ∀ {vs H Q E}, sp vs H Q E → vs.length = ps.length)
    (does : ∀ {A : Around} {fr : List PySem.Env} {s : Shared} {H : Hp} {vs : List V} {Q : VK} {E : XK}, RoomG k (A.deeper (envOfC qual sc s.heap.objs.size f cv)) → sp vs H Q E → ∃ t, PSs (cxOf CX P w K mg base N qual sc f cv A fr s H E) body t ∧ t { nx := fun _ H' => Q .non H', rt := Q } (L2.start N vs) H) :
    FnG P w K mg base CX (k + 1) f (PySem.W.fnOf name qual params body sc dV kV doc pm an cv ct) ps sp where
  many := many
  goes := fun {A fr s H ar us vs Q E} room here binds rel want => by
    have stays : ∀ b o, base.get? b = some o → s.heap.get? b = some o := fun b o q => (here.bs b o q).1
    have inK := here.mod.kin.keeps stays
    have places : ∀ y ∈ ps.zip us, sc.names.lookup y.1 = some .local ∨ (sc.names.lookup y.1 = some .cell ∧ ((cellsFrom (s.heap.objs.size + 1) sc.names []).lookup y.1).isSome = true) := fun y hy =>
      (S.par y.1 (List.of_mem_zip (show (y.1, y.2) ∈ ps.zip us from hy)).1).imp id fun q => ⟨q, PySem.W.cellsFrom_some _ _ _ (.inl q)⟩
    refine codeAny_call_function room.r.depth (inK _ _ at_f) rfl S.co S.gen rfl (PySem.W.codeRec_of inK code) (binds _ _ _ _ (wpAny_newFunctionEnv_cells S.kind places fun env e s1 frame => ?_))
    cases e
    refine ⟨(here.mod.nolimit.keeps stays).keeps frame.toInCall.keep, codeAny_func ?_⟩
    obtain ⟨t, walk, reading⟩ := does (A := A) (fr := fr) (s := s) (room.deeper _) want
    have inv := inv_start (CX := CX) (E := E) (P := P) (w := w) (K := K) (mg := mg) (base := base) S room.r.hd here (many want) rel frame
    refine wpAny_mono (walk.run [] s1 _ H _ inv reading) (fun flow s2 end_ => ?_) fun _ _ raised => raised
    cases flow with
    | ret u => obtain ⟨v, _, H2, J, q, z⟩ := end_; exact ⟨v, H2, J.os, J.bare, J.base, J.hok, q, z⟩
    | next => obtain ⟨_, H2, J, z⟩ := end_; exact ⟨.non, H2, J.os, J.bare, J.base, J.hok, rfl, z⟩
    | brk => exact end_.elim fun _ ⟨_, _, z⟩ => z.elim
    | cont => exact end_.elim fun _ ⟨_, _, z⟩ => z.elim
/-- a call's end, in the caller -/
theorem call_ends {X : Cx} {CX : CXT} {E : XK} {pins : List (Addr × Obj)} {σ : L2.St} {H : Hp} {s : Shared} {Q : VK} {ar : Args} {f : Addr} (hx : Passes CX X E) (I : Inv X pins σ H s) (h : codeAny (model X.prog X.w) X.A (.call (.ref f) ar) (CR CX X.stack X.prog X.w H s Q E) s) :
    codeAny (model X.prog X.w) X.A (.call (.ref f) ar) (fun r s' => match r with | .ok (.ret u) => EP X pins σ Q u s' | .ok _ => False | .error e => X.xe e s') s := codeAny_mono h fun r s' q => by
  match r, q with
  | .error e, q => exact hx pins σ H s e s' I q
  | .ok (.ret u), q => exact I.after q
  | .ok .next, q => exact q.elim
  | .ok .brk, q => exact q.elim
  | .ok .cont, q => exact q.elim
theorem call_run {X : Cx} {CX : CXT} {k : Nat} {f : Addr} {fd : FuncData} {ps : List Str} {sp : Sp} {E : XK} {pins : List (Addr × Obj)} {σ : L2.St} {H : Hp} {s : Shared} {Q : VK} {us : List Value} {kw : List (Str × Value)} {zs : List Value} {vs : List V} (F : FnG X.prog X.w X.K X.mg X.base CX k f fd ps sp) (room : RoomG k X.A) (hx : Passes CX X E)
    (I : Inv X pins σ H s) (binds : BindsTo s fd ⟨us, kw⟩ (ps.zip zs)) (rel : Vals vs zs) (want : sp vs H Q E) : wpAny (model X.prog X.w) X.A (call (.ref f) us kw) (EP X pins σ Q) X.xe s := by
  refine wpAny_call (codeAny_mono (call_ends (pins := pins) (σ := σ) hx I (F.goes room I.env0 binds rel want)) fun r s' q => ?_)
  match r, q with
  | .error e, q => exact q
  | .ok (.ret u), q => exact q
section
variable {X : Cx} {CX : CXT} {k : Nat} {f : Addr} {fd : FuncData} {ps ks : List Str} {sp : Sp} {dvs : List V} {ds : List Value} {E : XK} {x : Str} {p pos : Pos} {e : Expr} {es : List Expr} {kws : List Keyword} {t tk : TA}
theorem peG_call (F : FnG X.prog X.w X.K X.mg X.base CX k f fd ps sp) (room : RoomG k X.A) (hg : Gl X x) (hm : X.mg x = some (.ref f)) (kept : PySem.W.keepIn X.K (.ref f) = true) (hb : Binds X.K fd ps ds) (hd : Vals dvs ds) (hx : Passes CX X E)
    (ha : PA X (e :: es) t) (hdb : (x == ("__debug__" : Str)) = false) (he : starEach (e :: es) X.env = (false, eval e X.env) :: starEach es X.env) (hpl : (backTo pos (starEach es X.env)).any (·.1) = false) : PE X (.Call (.Name x p) (e :: es) [] pos) (tCall sp dvs E t) where
  run := fun pins s σ H Q I h => wpAny_Call_Name_kw (ld_glob I hg hm (PySem.W.callWith_K (h₀ := X.base) I.ok.mod.kin kept (thn (ha.run pos pins s σ H _ I h) fun us s1 ⟨vs, H1, J, r, q⟩ => ⟨J.kIn, call_run F room hx J (hb s1 us J.kIn (by rw [← (r.append hd).length]; exact F.many q)) (r.append hd) q⟩) he hpl) hdb)
theorem peG_call0 (F : FnG X.prog X.w X.K X.mg X.base CX k f fd ps sp) (room : RoomG k X.A) (hg : Gl X x) (hm : X.mg x = some (.ref f)) (kept : PySem.W.keepIn X.K (.ref f) = true) (hb : Binds X.K fd ps ds) (hd : Vals dvs ds) (hx : Passes CX X E) (hdb : (x == ("__debug__" : Str)) = false) : PE X (.Call (.Name x p) [] [] pos) (tCall sp dvs E tNil) where
  run := fun pins s σ H Q I h => wpAny_Call_Name_kw (ld_glob I hg hm (PySem.W.callWith_K0 I.kIn kept (call_run F room hx I (hb s [] I.kIn (by rw [List.nil_append, ← hd.length]; exact F.many h)) hd h)) hdb)
end
end R

set_option Elab.async false
set_option linter.all false
set_option maxRecDepth 100000
set_option maxHeartbeats 1000000
/-! R5: calls, statements, defs. -/
namespace R
open PySem PySem.Spec L2
/-! ### what a mirrored def promises -/
def FldsOk (K : PySem.W.Frag) (g' : G) (H' : Hp) (fs : List (Str × PyData)) (od : Option Addr) : Prop := fs ≠ [] → ∃ d vs, od = some d ∧ H' d = some (.xd ((fs.map (·.1)).zip vs)) ∧ RepAll K g' vs (fs.map (·.2))
def spM (K : PySem.W.Frag) (cls : Str → Value) (n : Nat) (m : List PyData → T PyData) : Sp := fun vs H Q E => ∃ (g : G) (ds : List PyData), vs.length = n ∧ GOk g H ∧ RepAll K g vs ds ∧
  (m ds).wp g.b (QV K g H Q) fun c fs b' => ∀ (g' : G) (H' : Hp) (od : Option Addr), Step g H g' H' → g'.b = b' → FldsOk K g' H' fs od → E (cls c) od H'
section
variable {X : Cx} {C : Ct} {M : List Nat} {CX : CXT} {k n : Nat} {f : Addr} {fd : FuncData} {ps ks : List Str} {dvs : List V} {ds : List Value} {x : Str} {p pos : Pos} {e : Expr} {es : List Expr} {kws : List Keyword} {m : List PyData → T PyData} {ms mk : Env → T (List PyData)} {dd : List PyData}
theorem call_wp {K : PySem.W.Frag} {g g1 : G} {H H1 : Hp} {σ : L2.St} {ρ : Env} {en : Ent} {Q : VK} {vs : List V} {xs : List PyData} {b1 : Nat} (mi : MI K M en g σ H ρ) (st : Step g H g1 H1) (eb : g1.b = b1) (r : RepAll K g1 vs xs) (hn : vs.length = n)
    (w : (m xs).wp b1 (QV K g H Q) (XP K C en g.dk)) : spM K C.cls n m vs H1 Q C.E := by
  refine ⟨g1, xs, hn, st.ok, r, ?_⟩
  rw [eb]
  refine T.wp_mono w (fun d b' q => q.step st) fun c fs b' q g' H' od st' eb' hf => ?_
  exact q g' H' od ((mi.step st).ret.step st') eb' (st'.dk.trans st.dk) hf
/-- f(e, ..), what isn't written are the defaults dd -/
theorem me_call (F : FnG X.prog X.w X.K X.mg X.base CX k f fd ps (spM X.K C.cls n m)) (hr : RoomG k X.A) (hg : Gl X x) (hm : X.mg x = some (.ref f)) (hk : PySem.W.keepIn X.K (.ref f) = true) (hb : Binds X.K fd ps ds) (hd : Vals dvs ds) (hdd : ∀ g, RepAll X.K g dvs dd) (hx : Passes CX X C.E)
    (hn : (e :: es).length + dvs.length = n) (hl : ∀ ρ b Q E, (ms ρ).wp b Q E → (ms ρ).wp b (fun xs b' => xs.length = (e :: es).length ∧ Q xs b') E)
    (ha : PA X (e :: es) (tL X.K C M ms)) (hdb : (x == ("__debug__" : Str)) = false) (he : starEach (e :: es) X.env = (false, eval e X.env) :: starEach es X.env) (hpl : (backTo pos (starEach es X.env)).any (·.1) = false) :
    PE X (.Call (.Name x p) (e :: es) [] pos) (tM X.K C M fun ρ => do let xs ← ms ρ; m (xs ++ dd)) := by
  refine (peG_call F hr hg hm hk hb hd hx ha hdb he hpl).weak ?_
  rintro σ H Q ⟨en, g, ρ, mi, w⟩
  refine ⟨en, g, ρ, mi, T.wp_mono (hl _ _ _ _ (T.wp_bind.mp w)) (fun xs b1 w2 vs g1 H1 st eb r => ?_) fun _ _ _ z => z⟩
  refine call_wp mi st eb (r.append (hdd g1)) ?_ w2.2
  rw [List.length_append, r.length, w2.1]; exact hn
theorem me_call0 (F : FnG X.prog X.w X.K X.mg X.base CX k f fd ps (spM X.K C.cls n m)) (hr : RoomG k X.A) (hg : Gl X x) (hm : X.mg x = some (.ref f)) (hk : PySem.W.keepIn X.K (.ref f) = true) (hb : Binds X.K fd ps ds) (hd : Vals dvs ds) (hdd : ∀ g, RepAll X.K g dvs dd) (hx : Passes CX X C.E)
    (hn : dvs.length = n) (hdb : (x == ("__debug__" : Str)) = false) : PE X (.Call (.Name x p) [] [] pos) (tM X.K C M fun _ => m dd) := by
  refine (peG_call0 F hr hg hm hk hb hd hx hdb).weak ?_
  rintro σ H Q ⟨en, g, ρ, mi, w⟩
  exact call_wp mi (.refl mi.ok) rfl (hdd g) hn w
/-! how many arguments -/
theorem la_nil {b : Nat} {Q : List PyData → Nat → Prop} {E} (ρ : Env) (h : (T.ret [] : T (List PyData)).wp b Q E) : (T.ret [] : T (List PyData)).wp b (fun xs b' => xs.length = 0 ∧ Q xs b') E := ⟨rfl, h⟩
theorem la_cons {q : Env → T PyData} {r : Env → T (List PyData)} {j : Nat} (h : ∀ ρ b Q E, (r ρ).wp b Q E → (r ρ).wp b (fun xs b' => xs.length = j ∧ Q xs b') E) :
    ∀ ρ b Q E, (do let x ← q ρ; let y ← r ρ; .ret (x :: y) : T (List PyData)).wp b Q E → (do let x ← q ρ; let y ← r ρ; .ret (x :: y) : T (List PyData)).wp b (fun xs b' => xs.length = j + 1 ∧ Q xs b') E := by
  intro ρ b Q E w
  refine T.wp_bind.mpr (T.wp_mono (T.wp_bind.mp w) (fun x b1 w1 => T.wp_bind.mpr (T.wp_mono (h _ _ _ _ (T.wp_bind.mp w1)) (fun xs b2 w2 => ⟨by simp [w2.1], w2.2⟩) fun _ _ _ z => z)) fun _ _ _ z => z)
end

/-! ### statements -/
section
variable {X : Cx} {C : Ct} {M M' M2 Mb : List Nat} {st : Stmt} {rest : List Stmt} {s1 s2 : Env → T Out} {e : Expr} {m : Env → T PyData} {pos pos' : Pos} {x : Str}
def seqT (a b : Env → T Out) : Env → T Out := fun ρ => a ρ >>= fun o => match o with | .nx ρ' => b ρ' | o => .ret o
theorem mss_nil : PSs X [] (tS X.K C M M Mb fun ρ => .ret (.nx ρ)) := pss_nil.weak fun D σ H ⟨en, g, ρ, mi, w⟩ => w σ g H mi rfl rfl fun _ _ e => e
theorem mss_cons (h1 : PS X st (tS X.K C M M' Mb s1)) (h2 : PSs X rest (tS X.K C M' M2 Mb s2)) : PSs X (st :: rest) (tS X.K C M M2 Mb (seqT s1 s2)) := by
  refine (pss_cons h1 h2).weak ?_
  rintro D σ H ⟨en, g, ρ, mi, w⟩
  refine ⟨en, g, ρ, mi, T.wp_mono (T.wp_bind.mp w) (fun o b1 w2 => ?_) fun _ _ _ z => z⟩
  cases o with
  | nx ρ' => exact fun σ' g' H' mi' eb ed hf => ⟨en, g', ρ', mi', by rw [eb, ed]; exact T.wp_mono w2 (fun _ _ q => q.mono hf) fun _ _ _ z => z⟩
  | ret d => exact w2
  | brk ρ' => exact w2
  | ct ρ' => exact w2
theorem mss_one (h1 : PS X st (tS X.K C M M' Mb s1)) : PSs X [st] (tS X.K C M M' Mb s1) := pss_one h1
theorem ms_pass : PS X (.Pass pos) (tS X.K C M M Mb fun ρ => .ret (.nx ρ)) := ps_pass.weak fun D σ H ⟨en, g, ρ, mi, w⟩ => w σ g H mi rfl rfl fun _ _ e => e
theorem ms_break : PS X (.Break pos) (tS X.K C M M' M fun ρ => .ret (.brk ρ)) := ps_break.weak fun D σ H ⟨en, g, ρ, mi, w⟩ => w σ g H mi rfl rfl fun _ _ e => e
theorem ms_continue : PS X (.Continue pos) (tS X.K C M M' M fun ρ => .ret (.ct ρ)) := ps_continue.weak fun D σ H ⟨en, g, ρ, mi, w⟩ => w σ g H mi rfl rfl fun _ _ e => e
def retT (t : T PyData) : T Out := t >>= fun d => .ret (.ret d)
theorem ms_ret (he : PE X e (tM X.K C M m)) : PS X (.Return (some e) pos) (tS X.K C M M' Mb fun ρ => retT (m ρ)) := by
  refine (ps_ret he).weak ?_
  rintro D σ H ⟨en, g, ρ, mi, w⟩
  exact ⟨en, g, ρ, mi, T.wp_mono (T.wp_bind.mp w) (fun d b1 w2 v g' H' st eb r => w2 v g' H' (mi.step st).ret eb st.dk r) fun _ _ _ z => z⟩
/-- an own list is an own one no more: nothing changes it from now on -/
theorem MI.freeze {K : PySem.W.Frag} {en : Ent} {g : G} {σ : L2.St} {H : Hp} {ρ : Env} (mi : MI K M en g σ H ρ) (i : Nat) (hM : M.filter (· != i) = M') : ∃ g' : G, g'.b = g.b ∧ g'.dk = g.dk ∧ (∀ a o, g.Fz a = some o → g'.Fz a = some o) ∧ MI K M' en g' σ H ρ := by
  have mem : ∀ j, j ∈ M' ↔ j ∈ M ∧ j ≠ i := fun j => by rw [← hM, List.mem_filter]; simp
  by_cases hi : i ∈ M
  · cases e : nth ρ i with
    | none =>
      refine ⟨g, rfl, rfl, fun _ _ e => e, mi.ok, mi.base, mi.new, mi.old, mi.len, fun j d h n => ?_, fun j d h n => mi.own j d h ((mem j).mp n).1, fun j k a h1 h2 => mi.dis j k a ((mem j).mp h1).1 ((mem k).mp h2).1⟩
      by_cases z : j = i
      · subst z; rw [e] at h; cases h
      · exact mi.var j d h fun q => n ((mem j).mpr ⟨q, z⟩)
    | some d =>
      obtain ⟨a, h1, h2, h3, h4, h5⟩ := mi.own i d e hi
      obtain ⟨o, ho⟩ : ∃ o, H a = some o := by cases h2 <;> exact ⟨_, by assumption⟩
      have mono : ∀ b u, g.Fz b = some u → (upd g.Fz a o) b = some u := fun b u q => by
        rw [upd_ne (fun z => by rw [z, h4] at q; cases q)]; exact q
      have ra : Rep K { g with Fz := upd g.Fz a o } (.ref a) d := by
        cases h2 with
        | lst h r =>
          rw [h] at ho; cases ho
          exact .lst upd_same (RepAll.mono (g' := { g with Fz := upd g.Fz a _ }) mono rfl r)
        | dK h l r =>
          rw [h] at ho; cases ho
          exact .dK upd_same l (RepAll.mono (g' := { g with Fz := upd g.Fz a _ }) mono rfl r)
        | dT h l r =>
          rw [h] at ho; cases ho
          exact .dT upd_same l (RepAll.mono (g' := { g with Fz := upd g.Fz a _ }) mono rfl r)
      refine ⟨{ g with Fz := upd g.Fz a o }, rfl, rfl, mono, ⟨fun b u q => ?_, fun b q => ?_, mi.ok.dok⟩, mi.base, fun b q => ?_, fun b u q => mono _ _ (mi.old b u q), mi.len, fun j e' h n => ?_, fun j e' h n => ?_, fun j k a h1 h2 => mi.dis j k a ((mem j).mp h1).1 ((mem k).mp h2).1⟩
      · by_cases z : b = a
        · subst z
          have q : upd g.Fz b o b = some u := q
          rw [upd_same] at q; cases q; exact ho
        · have q : upd g.Fz a o b = some u := q
          rw [upd_ne z] at q; exact mi.ok.sub _ _ q
      · show upd g.Fz a o b = none
        have nb : b ≠ a := fun z => h5 (z ▸ q)
        rw [upd_ne nb]; exact mi.ok.dkf b q
      · by_cases z : b = a
        · subst z; exact .inr h3
        · have q : upd g.Fz a o b ≠ none := q
          rw [upd_ne z] at q; exact mi.new b q
      · by_cases z : j = i
        · subst z; rw [e] at h; cases h; exact ⟨_, h1, ra⟩
        · obtain ⟨v, q1, q2⟩ := mi.var j e' h fun q => n ((mem j).mpr ⟨q, z⟩)
          exact ⟨v, q1, Rep.mono (g' := { g with Fz := upd g.Fz a o }) mono rfl q2⟩
      · have nj := (mem j).mp n
        obtain ⟨b, q1, q2, q3, q4, q5⟩ := mi.own j e' h nj.1
        have nb : b ≠ a := fun z => mi.dis i j a hi nj.1 (Ne.symm nj.2) (by rw [e]; simp) (by rw [h]; simp) h1 (z ▸ q1)
        refine ⟨b, q1, ?_, q3, by show upd g.Fz a o b = none; rw [upd_ne nb]; exact q4, q5⟩
        cases q2 with
        | lst h' r => exact .lst h' (RepAll.mono (g' := { g with Fz := upd g.Fz a o }) mono rfl r)
        | dK h' l r => exact .dK h' l (RepAll.mono (g' := { g with Fz := upd g.Fz a o }) mono rfl r)
        | dT h' l r => exact .dT h' l (RepAll.mono (g' := { g with Fz := upd g.Fz a o }) mono rfl r)
  · have e : M' = M := by
      rw [← hM]
      exact List.filter_eq_self.mpr fun j hj => by simp; exact fun z => hi (z ▸ hj)
    rw [e]
    exact ⟨g, rfl, rfl, fun _ _ e => e, mi⟩
theorem tS.frz {K : PySem.W.Frag} (i : Nat) (hM : M.filter (· != i) = M') {s : Env → T Out} : ∀ D σ H, tS K C M M2 Mb s D σ H → tS K C M' M2 Mb s D σ H := by
  rintro D σ H ⟨en, g, ρ, mi, w⟩
  obtain ⟨g', e1, e2, e3, mi'⟩ := mi.freeze i hM
  exact ⟨en, g', ρ, mi', by rw [e1, e2]; exact T.wp_mono w (fun _ _ q => q.mono e3) fun _ _ _ z => z⟩
/-- from here on slot i is frozen -/
theorem mss_frz (i : Nat) (hM : M.filter (· != i) = M') (h : PSs X rest (tS X.K C M' M2 Mb s1)) : PSs X rest (tS X.K C M M2 Mb s1) := h.weak (tS.frz i hM)
theorem ms_frz (i : Nat) (hM : M.filter (· != i) = M') (h : PS X st (tS X.K C M' M2 Mb s1)) : PS X st (tS X.K C M M2 Mb s1) := h.weak (tS.frz i hM)
/-- fewer own ones are wanted behind it -/
theorem tS.less {K : PySem.W.Frag} (i : Nat) (hM : M'.filter (· != i) = M2) {s : Env → T Out} : ∀ D σ H, tS K C M M2 Mb s D σ H → tS K C M M' Mb s D σ H := by
  rintro D σ H ⟨en, g, ρ, mi, w⟩
  refine ⟨en, g, ρ, mi, T.wp_mono w (fun o b q => ?_) fun _ _ _ z => z⟩
  cases o with
  | ret d => exact q
  | nx ρ' => exact fun σ' g' H' mi' eb ed hf => let ⟨g2, e1, e2, e3, mi2⟩ := mi'.freeze i hM; q σ' g2 H' mi2 (e1.trans eb) (e2.trans ed) fun a o e => e3 a o (hf a o e)
  | brk ρ' => exact q
  | ct ρ' => exact q
theorem mss_less (i : Nat) (hM : M'.filter (· != i) = M2) (h : PSs X rest (tS X.K C M M' Mb s1)) : PSs X rest (tS X.K C M M2 Mb s1) := h.weak (tS.less i hM)
/-- an own list is handed back -/
theorem ms_retOwn (i : Nat) (hi : i ∈ M) (hN : X.N[i]? = some x) (hv : Vis X.env.scope x) (hd : (x == ("__debug__" : Str)) = false) (hcd : (x == ("__classdict__" : Str)) = false) : PS X (.Return (some (.Name x pos')) pos) (tS X.K C M M' Mb fun ρ => retT (getv i ρ)) :=
  ms_frz i rfl (ms_ret (me_var i (by simp) hN hv hd hcd))
def ifT (t : T Bool) (a b : T Out) : T Out := t >>= fun k => if k = true then a else b
theorem ms_if {c : Expr} {a b : List Stmt} {tc : Env → T Bool} (hc : PT X c (tT X.K C M tc)) (ha : PSs X a (tS X.K C M M' Mb s1)) (hb : PSs X b (tS X.K C M M' Mb s2)) : PS X (.If c a b pos) (tS X.K C M M' Mb fun ρ => ifT (tc ρ) (s1 ρ) (s2 ρ)) := by
  refine (ps_if hc ha hb).weak ?_
  rintro D σ H ⟨en, g, ρ, mi, w⟩
  refine ⟨en, g, ρ, mi, T.wp_mono (T.wp_bind.mp w) (fun k b1 w2 g1 H1 st eb => ?_) fun _ _ _ z => z⟩
  cases k with
  | true => exact ⟨en, g1, ρ, mi.step st, by rw [eb, st.dk]; exact T.wp_mono w2 (fun _ _ q => q.mono st.fz) fun _ _ _ z => z⟩
  | false => exact ⟨en, g1, ρ, mi.step st, by rw [eb, st.dk]; exact T.wp_mono w2 (fun _ _ q => q.mono st.fz) fun _ _ _ z => z⟩
/-- a slot gets frozen data -/
theorem MI.setV {K : PySem.W.Frag} {en : Ent} {g : G} {σ : L2.St} {H : Hp} {ρ : Env} (mi : MI K M en g σ H ρ) {i : Nat} (hi : i ∉ M) {v : V} {d : PyData} (r : Rep K g v d) : MI K M en g (σ.set i (some v)) H (put ρ i d) where
  ok := mi.ok
  base := mi.base
  new := mi.new
  old := mi.old
  len := by rw [List.length_set, put_length]; exact mi.len
  var := fun j e h hj => by
    by_cases z : j = i
    · subst z
      rw [nth_put] at h
      split at h
      · rename_i q
        cases h
        exact ⟨v, by rw [List.getElem?_set_self (by rw [mi.len]; exact q.2)], r⟩
      · rename_i q
        exact absurd (nth_lt h) (fun z => q ⟨rfl, z⟩)
    · rw [nth_put_ne z] at h
      rw [List.getElem?_set_ne (Ne.symm z)]
      exact mi.var j e h hj
  own := fun j e h hj => by
    have z : j ≠ i := fun z => hi (z ▸ hj)
    rw [nth_put_ne z] at h
    rw [List.getElem?_set_ne (Ne.symm z)]
    exact mi.own j e h hj
  dis := fun j k a hj hk n h1 h2 => by
    have zj : j ≠ i := fun z => hi (z ▸ hj)
    have zk : k ≠ i := fun z => hi (z ▸ hk)
    rw [nth_put_ne zj] at h1
    rw [nth_put_ne zk] at h2
    rw [List.getElem?_set_ne (Ne.symm zj), List.getElem?_set_ne (Ne.symm zk)]
    exact mi.dis j k a hj hk n h1 h2
def setT (i : Nat) (t : T PyData) (ρ : Env) : T Out := t >>= fun d => .ret (.nx (put ρ i d))
theorem ms_set (i : Nat) (hM : i ∉ M) (hN : X.N.Nodup) (hi : X.N[i]? = some x) (hx : Loc X.env.scope x) (hs : swapsWith e (some (.Name x pos')) pos.line X.env = pure false) (hf : X.fn x = true ∨ X.env.scope.names.lookup x = some .local) (he : PE X e (tM X.K C M m)) :
    PS X (.Assign [.Name x pos'] e pos) (tS X.K C M M Mb fun ρ => setT i (m ρ) ρ) := by
  refine (ps_set hN hi hx he hs hf).weak ?_
  rintro D σ H ⟨en, g, ρ, mi, w⟩
  refine ⟨en, g, ρ, mi, T.wp_mono (T.wp_bind.mp w) (fun d b1 w2 v g' H' st eb r => ?_) fun _ _ _ z => z⟩
  exact w2 _ g' H' ((mi.step st).setV hM r) eb st.dk st.fz
/-- x += e, x -= e of ints -/
theorem ms_aug {op : Operator} {ti : TIp} {f : PyData → PyData → T PyData} (i : Nat) (hM : i ∉ M) (ho : PIp X op ti) (hf2 : Op2 X.K ti f) (hN : X.N.Nodup) (hi : X.N[i]? = some x) (hx : Loc X.env.scope x) (hf : X.fn x = true ∨ X.env.scope.names.lookup x = some .local) (he : PE X e (tR X.K C M m)) :
    PS X (.AugAssign (.Name x pos') op e pos) (tS X.K C M M Mb fun ρ => setT i (do let a ← getv i ρ; let y ← m ρ; f a y) ρ) := by
  refine (ps_aug hN hi hx he ho hf).weak ?_
  rintro D σ H ⟨en, g, ρ, mi, w⟩
  have w := T.wp_bind.mp (T.wp_bind.mp w)
  unfold getv at w
  split at w
  · rename_i d e'
    obtain ⟨v, h1, h2⟩ := mi.var i d e' hM
    have w := T.wp_bind.mp (show T.wp (m ρ >>= fun y => f d y) g.b _ _ from w)
    refine ⟨v, h1, en, g, ρ, mi, T.wp_mono w (fun y b1 w2 v2 g1 H1 st eb br => ?_) fun _ _ _ z => z⟩
    refine hf2 g1 H1 v v2 d y _ (XP X.K C en g.dk) st.ok (.inl (h2.step st)) br ?_
    rw [eb]
    refine T.wp_mono w2 (fun z b2 w3 v3 g2 H2 st2 eb2 r2 => ?_) fun _ _ _ z => z
    exact w3 _ g2 H2 (((mi.step st).step st2).setV hM r2) eb2 (st2.dk.trans st.dk) (st.trans st2).fz
  · exact w.elim
theorem ip_of {op : Operator} {r : R2} (h : OpR X (inplaceOp op) r) : PIp X op r := fun pins s σ H x y v u Q I rx ry q => h pins s σ H x y v u Q I rx ry q
/-- e as a statement -/
theorem ms_expr (hs : swapsWith e none pos.line X.env = pure false) (he : PE X e (tM X.K C M m)) : PS X (.Expr e pos) (tS X.K C M M Mb fun ρ => m ρ >>= fun _ => .ret (.nx ρ)) := by
  refine (ps_expr he hs).weak ?_
  rintro D σ H ⟨en, g, ρ, mi, w⟩
  refine ⟨en, g, ρ, mi, T.wp_mono (T.wp_bind.mp w) (fun d b1 w2 v g' H' st eb r => ?_) fun _ _ _ z => z⟩
  exact w2 _ g' H' (mi.step st) eb st.dk st.fz
/-- a docstring -/
theorem ms_doc {z j pos pos'} : PS X (.Expr (.Constant (.str z) j pos) pos') (tS X.K C M M Mb fun ρ => .ret (.nx ρ)) := ps_doc.weak fun D σ H ⟨en, g, ρ, mi, w⟩ => w σ g H mi rfl rfl fun _ _ e => e

/-! ### defs -/
def bodyT (n N : Nat) (b : Env → T Out) : List PyData → T PyData := fun ds => b (ds.map some ++ List.replicate (N - n) none) >>= fun o => match o with | .ret d => .ret d | .nx _ => .ret .none | _ => .stuck
theorem RetOk.toStep {g g' : G} {H H' : Hp} (r : RetOk ⟨H, g.Fz⟩ g' H') (e : g'.dk = g.dk) : Step g H g' H' := ⟨r.old, r.ok, e, fun a o q n => r.base a o q fun z => n ((isDk_eq e a).mp z), r.new⟩
theorem nth_args {K : PySem.W.Frag} {g : G} : ∀ {vs : List V} {ds : List PyData} {k i : Nat} {d : PyData}, RepAll K g vs ds → nth (ds.map some ++ List.replicate k none) i = some d → ∃ v, (vs.map some ++ List.replicate k none)[i]? = some (some v) ∧ Rep K g v d
  | _, _, k, i, d, .nil, h => by
    simp only [List.map_nil, List.nil_append] at h
    rw [nth_eq, List.getElem?_replicate] at h
    split at h <;> cases h
  | _, _, k, 0, d, .cons r _, h => by simp at h; subst h; exact ⟨_, rfl, r⟩
  | _, _, k, i + 1, d, .cons _ t, h => by
    obtain ⟨v, h1, h2⟩ := nth_args (k := k) (i := i) t (by simpa using h)
    exact ⟨v, by simpa using h1, h2⟩
theorem MI.start {K : PySem.W.Frag} {g : G} {H : Hp} {N : List Str} {vs : List V} {ds : List PyData} {n : Nat} (ok : GOk g H) (r : RepAll K g vs ds) (hn : vs.length = n) : MI K [] ⟨H, g.Fz⟩ g (L2.start N vs) H (ds.map some ++ List.replicate (N.length - n) none) where
  ok := ok
  base := fun _ _ e _ => e
  new := fun _ q => .inl q
  old := fun _ _ e => e
  len := by unfold L2.start; simp [r.length, hn]; rw [← r.length, hn]
  var := fun i d h _ => by unfold L2.start; rw [hn]; exact nth_args r h
  own := fun _ _ _ h => nomatch h
  dis := fun _ _ _ h => nomatch h
theorem body_sp {K : PySem.W.Frag} {cls : Str → Value} {N : List Str} {n : Nat} {M' Mb : List Nat} {ms : Env → T Out} {vs : List V} {H : Hp} {Q : VK} {E : XK} (h : spM K cls n (bodyT n N.length ms) vs H Q E) : tS K ⟨cls, E⟩ [] M' Mb ms { nx := fun _ H' => Q .non H', rt := Q } (L2.start N vs) H := by
  obtain ⟨g, ds, hn, ok, r, w⟩ := h
  refine ⟨⟨H, g.Fz⟩, g, _, MI.start ok r hn, T.wp_mono (T.wp_bind.mp w) (fun o b1 w2 => ?_) fun c fs b' q g' H' od ro eb ed hf => q g' H' od (ro.toStep ed) eb hf⟩
  cases o with
  | nx ρ' => exact fun σ' g' H' mi' eb ed _ => w2 .non g' H' (mi'.ret.toStep ed) eb .non
  | ret d => exact fun v g' H' ro eb ed rd => w2 v g' H' (ro.toStep ed) eb rd
  | brk ρ' => exact w2.elim
  | ct ρ' => exact w2.elim
end
end R

set_option Elab.async false
set_option linter.all false
set_option maxRecDepth 100000
set_option maxHeartbeats 1000000
/-! R6: targets, own lists, loops. -/
namespace R
open PySem PySem.Spec L2
/-! ### targets -/
inductive Tg where | n (i : Nat) | t (ts : List Tg)
mutual
def asgT : Tg → PyData → Env → Option Env
  | .n i, d, ρ => some (put ρ i d)
  | .t ts, .tuple ds, ρ => asgTs ts ds ρ
  | .t _, _, _ => none
def asgTs : List Tg → List PyData → Env → Option Env
  | [], [], ρ => some ρ
  | t :: ts, d :: ds, ρ => (asgT t d ρ).bind fun ρ' => asgTs ts ds ρ'
  | _, _, _ => none
end
mutual
def Tg.slots : Tg → List Nat
  | .n i => [i]
  | .t ts => slotsTs ts
def slotsTs : List Tg → List Nat
  | [] => []
  | t :: ts => t.slots ++ slotsTs ts
end
mutual
def gOf (K : PySem.W.Frag) : Tg → TG
  | .n i => gName i
  | .t ts => gTup K ts.length (gsOf K ts)
def gsOf (K : PySem.W.Frag) : List Tg → TGs
  | [] => gNil
  | t :: ts => gCons (gOf K t) (gsOf K ts)
end
theorem wipe_set {σ : L2.St} {i : Nat} {x : Option V} : ∀ {vs : List Nat}, i ∈ vs → wipe (σ.set i x) vs = wipe σ vs
  | v :: vs, h => by
    unfold wipe
    by_cases q : i ∈ vs
    · rw [wipe_set q]
    · have e : i = v := by rcases List.mem_cons.mp h with z | z; exact z; exact absurd z q
      subst e
      have : ∀ (ws : List Nat) (σ : L2.St), (wipe (σ.set i x) ws).set i none = (wipe σ ws).set i none := by
        intro ws
        induction ws with
        | nil => intro σ; unfold wipe; rw [List.set_set]
        | cons w ws ih =>
          intro σ
          unfold wipe
          by_cases z : w = i
          · subst z; rw [List.set_set, List.set_set]; exact ih σ
          · rw [List.set_comm _ _ z, ih, List.set_comm _ _ (Ne.symm z)]
      exact this vs σ
section
variable {K : PySem.W.Frag} {M : List Nat} {en : Ent} {g : G} {H : Hp}
mutual
theorem asg_ok (t : Tg) (hM : ∀ i ∈ t.slots, i ∉ M) {σ : L2.St} {ρ ρ' : Env} {v : V} {d : PyData} (mi : MI K M en g σ H ρ) (r : Rep K g v d) (e : asgT t d ρ = some ρ') {Q : L2.St → Hp → Prop}
    (h : ∀ σ', MI K M en g σ' H ρ' → (∀ vs, (∀ i ∈ t.slots, i ∈ vs) → wipe σ' vs = wipe σ vs) → Q σ' H) : gOf K t v σ H Q := by
  cases t with
  | n i =>
    simp only [asgT, Option.some.injEq] at e
    subst e
    refine h _ (mi.setV (hM i (by simp [Tg.slots])) r) fun vs hv => wipe_set (hv i (by simp [Tg.slots]))
  | t ts =>
    cases d with
    | tuple ds =>
      obtain ⟨a, xs, rfl, hs, ra⟩ := r.tup_inv
      have e : asgTs ts ds ρ = some ρ' := e
      refine ⟨a, xs, rfl, SqT_mono mi.ok.sub hs, ?_, asg_oks ts hM mi ra e h⟩
      exact asg_len ts xs ds ρ ra e
    | _ => exact nomatch e
theorem asg_oks (ts : List Tg) (hM : ∀ i ∈ slotsTs ts, i ∉ M) {σ : L2.St} {ρ ρ' : Env} {vs : List V} {ds : List PyData} (mi : MI K M en g σ H ρ) (r : RepAll K g vs ds) (e : asgTs ts ds ρ = some ρ') {Q : L2.St → Hp → Prop}
    (h : ∀ σ', MI K M en g σ' H ρ' → (∀ vs, (∀ i ∈ slotsTs ts, i ∈ vs) → wipe σ' vs = wipe σ vs) → Q σ' H) : gsOf K ts vs σ H Q := by
  cases ts with
  | nil =>
    cases ds with
    | nil =>
      cases r
      simp only [asgTs, Option.some.injEq] at e
      subst e
      exact ⟨rfl, h σ mi fun _ _ => rfl⟩
    | cons d ds => exact nomatch e
  | cons t ts =>
    cases ds with
    | nil => exact nomatch e
    | cons d ds =>
      obtain ⟨v, vr, rfl, rv, rr⟩ := r.cons_inv
      have e : (asgT t d ρ).bind (fun ρ' => asgTs ts ds ρ') = some ρ' := e
      cases e1 : asgT t d ρ with
      | none => rw [e1] at e; exact nomatch e
      | some ρ1 =>
        rw [e1] at e
        refine ⟨v, vr, rfl, asg_ok t (fun i hi => hM i (by simp [slotsTs, hi])) mi rv e1 fun σ1 mi1 w1 => ?_⟩
        refine asg_oks ts (fun i hi => hM i (by simp [slotsTs, hi])) mi1 rr e fun σ2 mi2 w2 => ?_
        refine h σ2 mi2 fun ws hw => ?_
        rw [w2 ws fun i hi => hw i (by simp [slotsTs, hi]), w1 ws fun i hi => hw i (by simp [slotsTs, hi])]
theorem asg_len (ts : List Tg) (vs : List V) (ds : List PyData) {ρ' : Env} (ρ : Env) (r : RepAll K g vs ds) (e : asgTs ts ds ρ = some ρ') : vs.length = ts.length := by
  cases ts with
  | nil =>
    cases ds with
    | nil => cases r; rfl
    | cons d ds => exact nomatch e
  | cons t ts =>
    cases ds with
    | nil => exact nomatch e
    | cons d ds =>
      obtain ⟨v, vr, rfl, rv, rr⟩ := r.cons_inv
      have e : (asgT t d ρ).bind (fun ρ' => asgTs ts ds ρ') = some ρ' := e
      cases e1 : asgT t d ρ with
      | none => rw [e1] at e; exact nomatch e
      | some ρ1 =>
        rw [e1] at e
        simp [asg_len ts vr ds ρ1 rr e]
end
end
section
variable {X : Cx} {C : Ct} {M M' M2 Mb : List Nat} {pos pos' p1 apos cpos : Pos} {x : Str} {e : Expr} {es : List Expr} {m mi' : Env → T PyData} {t : Tg} {ts : List Tg}
theorem mg_name (i : Nat) (hN : X.N.Nodup) (hi : X.N[i]? = some x) (hx : Loc X.env.scope x) (hf : X.fn x = true ∨ X.env.scope.names.lookup x = some .local) : PG X (.Name x pos) (gOf X.K (.n i)) := pg_name hN hi hx hf
theorem mg_nil : PGs X [] (gsOf X.K []) := pgs_nil
theorem mg_cons (h1 : PG X e (gOf X.K t)) (h2 : PGs X es (gsOf X.K ts)) (hs : (assignEach (e :: es) X.env).map (·.2) = assign e X.env :: (assignEach es X.env).map (·.2)) : PGs X (e :: es) (gsOf X.K (t :: ts)) := pgs_cons h1 h2 hs
theorem mg_tup {k : Nat} (hc : X.calm = true) (h : PGs X es (gsOf X.K ts)) (hn : (assignEach es X.env).length = ts.length) (hst : (assignEach es X.env).findIdx? (·.1) = none) : PG X (.Tuple es k pos) (gOf X.K (.t ts)) := pg_tup hc h hn hst
def asgO (t : Tg) (d : PyData) (ρ : Env) : T Out := match asgT t d ρ with | some ρ' => .ret (.nx ρ') | none => .stuck
/-- a, b = e -/
theorem ms_asg {tg : Expr} (t : Tg) (hM : ∀ i ∈ t.slots, i ∉ M) (hg : PG X tg (gOf X.K t)) (hs : swapsWithSole [tg] e pos.line X.env = pure false) (hw : swappedStores [tg] e X.env = pure none) (h1 : (assignEach [tg] X.env).map (·.2) = [assign tg X.env]) (he : PE X e (tM X.K C M m)) :
    PS X (.Assign [tg] e pos) (tS X.K C M M Mb fun ρ => m ρ >>= fun d => asgO t d ρ) := by
  refine (ps_asg he hg hs hw h1).weak ?_
  rintro D σ H ⟨en, g, ρ, mi, w⟩
  refine ⟨en, g, ρ, mi, T.wp_mono (T.wp_bind.mp w) (fun d b1 w2 v g' H' st eb r => ?_) fun _ _ _ z => z⟩
  unfold asgO at w2
  split at w2
  · rename_i ρ' e'
    exact asg_ok t hM (mi.step st) r e' fun σ' mi'' _ => w2 σ' g' H' mi'' eb st.dk st.fz
  · exact w2.elim
variable {a b c : Expr} {ms : Env → T (List PyData)} {y z : Str} {px py pz pt pt2 : Pos} {kt k2 : Nat}
def par2T (i j : Nat) (t : T (List PyData)) (ρ : Env) : T Out := t >>= fun ds => match ds with | [d, e] => .ret (.nx (put (put ρ i d) j e)) | _ => .stuck
theorem ms_par2 (i j : Nat) (hMi : i ∉ M) (hMj : j ∉ M) (hc : X.calm = true) (hN : X.N.Nodup) (hi : X.N[i]? = some x) (hj : X.N[j]? = some y) (hij : i ≠ j)
    (hx : X.env.scope.names.lookup x = some .local) (hy : X.env.scope.names.lookup y = some .local) 
    (hw : swappedStores [.Tuple [.Name x px, .Name y py] kt pt] (.Tuple [a, b] k2 pt2) X.env = pure (some [x, y]))
    (hs : swapsWithSole [.Tuple [.Name x px, .Name y py] kt pt] (.Tuple [a, b] k2 pt2) pos.line X.env = pure false) (ha : PA X [a, b] (tL X.K C M ms)) :
    PS X (.Assign [.Tuple [.Name x px, .Name y py] kt pt] (.Tuple [a, b] k2 pt2) pos) (tS X.K C M M Mb fun ρ => par2T i j (ms ρ) ρ) := by
  refine (ps_par hc hN hi hj hij hx hy ha hw hs).weak ?_
  rintro D σ H ⟨en, g, ρ, mi, w⟩
  refine ⟨en, g, ρ, mi, T.wp_mono (T.wp_bind.mp w) (fun ds b1 w2 vs g' H' st eb r => ?_) fun _ _ _ z => z⟩
  match ds, r with
  | [d, e], .cons r1 (.cons r2 .nil) => exact ⟨_, _, rfl, w2 _ g' H' (((mi.step st).setV hMi r1).setV hMj r2) eb st.dk st.fz⟩
  | [], _ => exact w2.elim
  | [_], _ => exact w2.elim
  | _ :: _ :: _ :: _, _ => exact w2.elim
def par3T (i j l : Nat) (t : T (List PyData)) (ρ : Env) : T Out := t >>= fun ds => match ds with | [d, e, f] => .ret (.nx (put (put (put ρ i d) j e) l f)) | _ => .stuck
theorem ms_par3 (i j l : Nat) (hMi : i ∉ M) (hMj : j ∉ M) (hMl : l ∉ M) {ta : TA} (hp : ∀ t, PA X [a, b, c] t → PS X (.Assign [.Tuple [.Name x px, .Name y py, .Name z pz] kt pt] (.Tuple [a, b, c] k2 pt2) pos) (tPar3 i j l t)) (ha : PA X [a, b, c] (tL X.K C M ms)) :
    PS X (.Assign [.Tuple [.Name x px, .Name y py, .Name z pz] kt pt] (.Tuple [a, b, c] k2 pt2) pos) (tS X.K C M M Mb fun ρ => par3T i j l (ms ρ) ρ) := by
  refine (hp _ ha).weak ?_
  rintro D σ H ⟨en, g, ρ, mi, w⟩
  refine ⟨en, g, ρ, mi, T.wp_mono (T.wp_bind.mp w) (fun ds b1 w2 vs g' H' st eb r => ?_) fun _ _ _ z => z⟩
  match ds, r with
  | [d, e, f], .cons r1 (.cons r2 (.cons r3 .nil)) => exact ⟨_, _, _, rfl, w2 _ g' H' ((((mi.step st).setV hMi r1).setV hMj r2).setV hMl r3) eb st.dk st.fz⟩
  | [], _ => exact w2.elim
  | [_], _ => exact w2.elim
  | [_, _], _ => exact w2.elim
  | _ :: _ :: _ :: _ :: _, _ => exact w2.elim

/-! ### own lists -/
def tF (K : PySem.W.Frag) (C : Ct) (M : List Nat) (m : Env → T PyData) : TE := fun σ H Q => ∃ en g ρ, MI K M en g σ H ρ ∧
  (m ρ).wp g.b (fun d b' => ∀ (a : Addr) (g' : G) (H' : Hp), Step g H g' H' → g'.b = b' → Own K g' H' a d → H a = none → g'.Fz a = none → Q (.ref a) H') (XP K C en g.dk)
theorem Step.none_of {g g1 : G} {H H1 : Hp} (ok : GOk g H) (s : Step g H g1 H1) {p : Addr} (h : H1 p = none) : H p = none := by
  by_cases hd : g.isDk p
  · exact absurd h (s.ok.dkt ((isDk_eq s.dk p).mpr hd))
  · cases e : H p with
    | none => rfl
    | some o => rw [s.keep p o e hd] at h; cases h
theorem GOk.fz_none {g : G} {H : Hp} (ok : GOk g H) {p : Addr} (h : H p = none) : g.Fz p = none := by
  cases e : g.Fz p with
  | none => rfl
  | some o => rw [ok.sub _ _ e] at h; cases h
theorem MI.putOwn {K : PySem.W.Frag} {en : Ent} {g g' : G} {σ : L2.St} {H H' : Hp} {ρ : Env} (mi : MI K M en g σ H ρ) (st : Step g H g' H') {i : Nat} {a : Addr} {d : PyData} (hM : M' = i :: M.filter (· != i)) (o : Own K g' H' a d) (ha : H a = none) (hf : g'.Fz a = none) :
    MI K M' en g' (σ.set i (some (.ref a))) H' (put ρ i d) := by
  have mi2 := mi.step st
  have mem : ∀ j, j ≠ i → (j ∈ M' ↔ j ∈ M) := fun j n => by rw [hM]; simp [n]
  have na : ¬ g'.isDk a := fun z => mi.ok.ndk ha ((isDk_eq st.dk a).mp z)
  have nb : en.Bs a = none := by
    cases e : en.Bs a with
    | none => rfl
    | some u => rw [mi.base a u e (mi.ok.ndk ha)] at ha; cases ha
  refine ⟨mi2.ok, mi2.base, mi2.new, mi2.old, by rw [List.length_set, put_length]; exact mi2.len, fun j e h hj => ?_, fun j e h hj => ?_, fun j k b hj hk n h1 h2 q => ?_⟩
  · have z : j ≠ i := fun z => hj (by rw [hM, z]; simp)
    rw [nth_put_ne z] at h
    rw [List.getElem?_set_ne (Ne.symm z)]
    exact mi2.var j e h fun q => hj ((mem j z).mpr q)
  · by_cases z : j = i
    · subst z
      rw [nth_put] at h
      split at h
      · rename_i q
        cases h
        exact ⟨a, by rw [List.getElem?_set_self (by rw [mi.len]; exact q.2)], o, nb, hf, na⟩
      · rename_i q
        exact absurd (nth_lt h) (fun z => q ⟨rfl, z⟩)
    · rw [nth_put_ne z] at h
      rw [List.getElem?_set_ne (Ne.symm z)]
      exact mi2.own j e h ((mem j z).mp hj)
  · -- the address of another own slot stood ahead
    have old : ∀ l, l ≠ i → l ∈ M' → nth (put ρ i d) l ≠ none → σ[l]? ≠ some (some (.ref a)) := fun l nl hl h3 q3 => by
      rw [nth_put_ne nl] at h3
      cases e : nth ρ l with
      | none => exact h3 e
      | some u =>
        obtain ⟨c, q1, q2, _⟩ := mi.own l u e ((mem l nl).mp hl)
        rw [q1] at q3
        have ec : c = a := by injection q3 with q3; injection q3 with q3; injection q3
        subst ec
        cases q2 with
        | lst h _ => rw [h] at ha; cases ha
        | dK h _ _ => rw [h] at ha; cases ha
        | dT h _ _ => rw [h] at ha; cases ha
    by_cases zj : j = i
    · subst zj
      have nk : k ≠ j := Ne.symm n
      rw [List.getElem?_set] at q
      rw [List.getElem?_set_ne (Ne.symm nk)]
      simp only [if_true] at q
      split at q
      · injection q with q; injection q with q; injection q with q; subst q
        exact old k nk hk h2
      · cases q
    · rw [List.getElem?_set_ne (Ne.symm zj)] at q
      by_cases zk : k = i
      · subst zk
        rw [List.getElem?_set]
        simp only [if_true]
        split
        · intro z
          injection z with z; injection z with z; injection z with z; subst z
          exact old j zj hj h1 q
        · exact fun z => nomatch z
      · rw [List.getElem?_set_ne (Ne.symm zk)]
        rw [nth_put_ne zj] at h1
        rw [nth_put_ne zk] at h2
        exact mi2.dis j k b ((mem j zj).mp hj) ((mem k zk).mp hk) n h1 h2 q
/-- a slot gets a new list of its own -/
theorem ms_setF (i : Nat) (hM : M' = i :: M.filter (· != i)) (hN : X.N.Nodup) (hi : X.N[i]? = some x) (hx : Loc X.env.scope x) (hs : swapsWith e (some (.Name x pos')) pos.line X.env = pure false) (hf : X.fn x = true ∨ X.env.scope.names.lookup x = some .local) (he : PE X e (tF X.K C M m)) :
    PS X (.Assign [.Name x pos'] e pos) (tS X.K C M M' Mb fun ρ => setT i (m ρ) ρ) := by
  refine (ps_set hN hi hx he hs hf).weak ?_
  rintro D σ H ⟨en, g, ρ, mi, w⟩
  refine ⟨en, g, ρ, mi, T.wp_mono (T.wp_bind.mp w) (fun d b1 w2 v g' H' st eb o ha hf' => ?_) fun _ _ _ z => z⟩
  exact w2 _ g' H' (mi.putOwn st hM o ha hf') eb st.dk st.fz
theorem setT_nx {i : Nat} {m : Env → T PyData} : ∀ ρ b Q E, (setT i (m ρ) ρ).wp b Q E → (setT i (m ρ) ρ).wp b (fun o b' => (∃ ρ', o = .nx ρ') ∧ Q o b') E := fun ρ b Q E w =>
  T.wp_bind.mpr (T.wp_mono (T.wp_bind.mp w) (fun d b1 w2 => ⟨⟨_, rfl⟩, w2⟩) fun _ _ _ z => z)
theorem mf_lst (h : PA X es (tL X.K C M ms)) : PE X (.List es pos) (tF X.K C M fun ρ => lstT (ms ρ)) := by
  refine (pe_lst h).weak ?_
  rintro σ H Q ⟨en, g, ρ, mi, w⟩
  refine ⟨en, g, ρ, mi, T.wp_mono (T.wp_bind.mp w) (fun ds b1 w2 vs g1 H1 st eb r => ?_) fun _ _ _ z => z⟩
  obtain ⟨cc, w2⟩ := need_wp w2
  refine ⟨by rw [r.length]; exact of_decide_eq_true cc, fun p hp => ?_⟩
  exact w2 p g1 _ (st.trans (Step.laidU st.ok hp)) eb (.lst upd_same r) (st.none_of mi.ok hp) (st.ok.fz_none hp)
/-- list(e), a copy -/
theorem mf_list (hg : Gl X "list") (hm : X.mg "list" = none) (hv : bootBuiltins "list" = some (.type "list")) (ha : PE X a (tR X.K C M m)) (he : starEach [a] X.env = [(false, eval a X.env)]) :
    PE X (.Call (.Name "list" p1) [a] [] pos) (tF X.K C M fun ρ => do let x ← m ρ; listD x) := by
  refine (pe_callTy call_list_of hg hm hv (pa_cons ha pa_nil he) (by decide) (by decide) he rfl).weak ?_
  rintro σ H Q ⟨en, g, ρ, mi, w⟩
  refine ⟨en, g, ρ, mi, T.wp_mono (T.wp_bind.mp w) (fun d b1 w2 v g1 H1 st eb br => ?_) fun _ _ _ z => z⟩
  cases d with
  | list xs =>
    obtain ⟨p, vs, rfl, h1, r1⟩ := br.list st.ok
    exact ⟨p, vs, rfl, .inl (SqL.of h1), fun l hl => w2 l g1 _ (st.trans (Step.laidU st.ok hl)) eb (.lst upd_same r1) (st.none_of mi.ok hl) (st.ok.fz_none hl)⟩
  | tuple xs =>
    obtain ⟨p, vs, rfl, h1, r1⟩ := br.tup st.ok
    exact ⟨p, vs, rfl, .inr h1, fun l hl => w2 l g1 _ (st.trans (Step.laidU st.ok hl)) eb (.lst upd_same r1) (st.none_of mi.ok hl) (st.ok.fz_none hl)⟩
  | _ => exact w2.elim
/-- an own object is changed -/
theorem MI.change {K : PySem.W.Frag} {en : Ent} {g : G} {σ : L2.St} {H : Hp} {ρ : Env} (mi : MI K M en g σ H ρ) {i : Nat} {a : Addr} {d d' : PyData} {o : HO} (hi : i ∈ M) (e : nth ρ i = some d) (hs : σ[i]? = some (some (.ref a))) (hn : Own K g (upd H a o) a d') :
    MI K M en g σ (upd H a o) (put ρ i d') := by
  obtain ⟨a', q1, q2, q3, q4, q5⟩ := mi.own i d e hi
  have ea : a' = a := by rw [q1] at hs; injection hs with hs; injection hs with hs; injection hs
  subst ea
  refine ⟨⟨fun b u h => ?_, mi.ok.dkf, fun dk h => dk.stab _ _ _ (fun b hb => ?_) (mi.ok.dok dk h)⟩, fun b u h n => ?_, mi.new, mi.old, by rw [put_length]; exact mi.len, fun j f h hj => ?_, fun j f h hj => ?_, fun j k b hj hk n h1 h2 => ?_⟩
  · rw [upd_ne (fun z => by subst z; rw [q4] at h; cases h)]; exact mi.ok.sub _ _ h
  · rw [upd_ne (fun z => by subst z; exact q5 ⟨dk, h, hb⟩)]
  · rw [upd_ne (fun z => by subst z; rw [q3] at h; cases h)]; exact mi.base b u h n
  · have z : j ≠ i := fun z => hj (z ▸ hi)
    rw [nth_put_ne z] at h
    exact mi.var j f h hj
  · by_cases z : j = i
    · subst z
      rw [nth_put] at h
      split at h
      · cases h; exact ⟨a', q1, hn, q3, q4, q5⟩
      · rename_i q; exact absurd (nth_lt h) (fun z => q ⟨rfl, z⟩)
    · rw [nth_put_ne z] at h
      obtain ⟨b, r1, r2, r3, r4, r5⟩ := mi.own j f h hj
      have nb : b ≠ a' := fun z' => mi.dis j i b hj hi z (by rw [h]; simp) (by rw [e]; simp) r1 (z' ▸ q1)
      refine ⟨b, r1, ?_, r3, r4, r5⟩
      cases r2 with
      | lst h' r => exact .lst (by rw [upd_ne nb]; exact h') r
      | dK h' l r => exact .dK (by rw [upd_ne nb]; exact h') l r
      | dT h' l r => exact .dT (by rw [upd_ne nb]; exact h') l r
  · have n1 : nth ρ j ≠ none := fun z => by
      by_cases q : j = i
      · subst q; rw [e] at z; cases z
      · rw [nth_put_ne q] at h1; exact h1 z
    have n2 : nth ρ k ≠ none := fun z => by
      by_cases q : k = i
      · subst q; rw [e] at z; cases z
      · rw [nth_put_ne q] at h2; exact h2 z
    exact mi.dis j k b hj hk n n1 n2
def appT (i : Nat) (t : T PyData) (ρ : Env) : T Out := match nth ρ i with
  | some (.list xs) => t >>= fun d => need (xs.length < sizeLine) (.ret (.nx (put ρ i (.list (xs ++ [d])))))
  | _ => .stuck
/-- xs.append(e) -/
theorem ms_append (i : Nat) (hi : i ∈ M) (hN : X.N[i]? = some x) (hv : Vis X.env.scope x) (hd : (x == ("__debug__" : Str)) = false) (hcd : (x == ("__classdict__" : Str)) = false) (hs : swapsWith (.Call (.Attribute (.Name x p1) "append" apos) [e] [] cpos) none pos.line X.env = pure false)
    (hbase : attributeBase (.Name x p1) "append" X.env (eval (.Name x p1) X.env) = eval (.Name x p1) X.env) (hfew : ((backTo cpos (starEach [e] X.env)).all (fun x => !x.1) && (backToKw cpos (keywordEach [] X.env)).all (fun x => x.1.isSome)
      && decide ([e].length + ([] : List Keyword).length + (if ([] : List Keyword).isEmpty then 0 else 1) < 30)) = true) (hline : (apos.endLine == cpos.line) = true) (hst : starEach [e] X.env = [(false, eval e X.env)])
    (he : PE X e (tM X.K C M m)) : PS X (.Expr (.Call (.Attribute (.Name x p1) "append" apos) [e] [] cpos) pos) (tS X.K C M M Mb fun ρ => appT i (m ρ) ρ) := by
  refine (ps_expr (pe_bm PySem.F.plainAttrs_list PySem.F.slot_list_append PySem.F.type_list_append mt_append (pe_var hN hv hd hcd) (pa_cons he pa_nil hst) hbase hfew hline hst rfl) hs).weak ?_
  rintro D σ H ⟨en, g, ρ, mi, w⟩
  have w : (appT i (m ρ) ρ).wp g.b _ _ := w
  unfold appT at w
  split at w
  · rename_i xs e1
    obtain ⟨a, q1, q2, q3, q4, q5⟩ := mi.own i _ e1 hi
    cases q2 with
    | lst h r =>
      refine ⟨_, q1, .inl ⟨rfl, _, SqL.of h⟩, en, g, ρ, mi, T.wp_mono (T.wp_bind.mp w) (fun d b1 w2 v g1 H1 st eb rd => ?_) fun _ _ _ z => z⟩
      obtain ⟨cc, w2⟩ := need_wp w2
      have h1 := st.keep _ _ h q5
      refine ⟨a, _, v, rfl, rfl, h1, by rw [r.length]; exact of_decide_eq_true cc, ?_⟩
      refine w2 σ g1 _ ((mi.step st).change hi e1 q1 (.lst upd_same ((r.step st).append (.cons rd .nil)))) eb st.dk st.fz
  · exact w.elim
def stoT (i : Nat) (t : T PyData) (k : T PyData) (ρ : Env) : T Out := match nth ρ i with
  | some (.list xs) => t >>= fun d => k >>= fun j => (match j with
    | .int z => (match ixN xs.length z with | some j => .ret (.nx (put ρ i (.list (xs.set j d)))) | none => .stuck)
    | _ => .stuck)
  | _ => .stuck
/-- xs[k] = e -/
theorem ms_store {kx : Expr} (i : Nat) (hi : i ∈ M) (hN : X.N[i]? = some x) (hv : Vis X.env.scope x) (hd : (x == ("__debug__" : Str)) = false) (hcd : (x == ("__classdict__" : Str)) = false)
    (ha : ∀ v, assign (.Subscript (.Name x p1) kx pos') X.env v = (do
      let ov ← holding [v] (eval (.Name x p1) X.env)
      let iv ← holding [v, ov] (eval kx X.env)
      standAt pos'
      holding [v, ov, iv] (setItem ov iv v)
      release [v, ov, iv] []))
    (hs : swapsWithSole [.Subscript (.Name x p1) kx pos'] e pos.line X.env = pure false) (hw : swappedStores [.Subscript (.Name x p1) kx pos'] e X.env = pure none) (h1 : (assignEach [.Subscript (.Name x p1) kx pos'] X.env).map (·.2) = [assign (.Subscript (.Name x p1) kx pos') X.env])
    (he : PE X e (tM X.K C M m)) (hk : PE X kx (tM X.K C M mi')) : PS X (.Assign [.Subscript (.Name x p1) kx pos'] e pos) (tS X.K C M M Mb fun ρ => stoT i (m ρ) (mi' ρ) ρ) := by
  refine (ps_asg he (pg_sub (pe_var hN hv hd hcd) hk set_list ha) hs hw h1).weak ?_
  rintro D σ H ⟨en, g, ρ, mi, w⟩
  have w : (stoT i (m ρ) (mi' ρ) ρ).wp g.b _ _ := w
  unfold stoT at w
  split at w
  · rename_i xs e1
    refine ⟨en, g, ρ, mi, T.wp_mono (T.wp_bind.mp w) (fun d b1 w2 v g1 H1 st eb rd => ?_) fun _ _ _ z => z⟩
    have w2 := T.wp_bind.mp w2
    obtain ⟨a, q1, q2, q3, q4, q5⟩ := mi.own i _ e1 hi
    cases q2 with
    | lst h r =>
      refine ⟨_, q1, en, g1, ρ, mi.step st, ?_⟩
      rw [eb, st.dk]
      refine T.wp_mono w2 (fun j b2 w3 v2 g2 H2 st2 eb2 r2 => ?_) fun _ _ _ z => z
      cases j with
      | int z =>
        simp only at w3
        split at w3
        · rename_i jj ej
          have h2 := (st.trans st2).keep _ _ h q5
          refine ⟨a, _, z, jj, rfl, r2.int_inv, h2, by rw [r.length]; exact ej, ?_⟩
          exact w3 σ g2 _ (((mi.step st).step st2).change hi e1 q1 (.lst upd_same (((r.step (st.trans st2))).set (rd.step st2) jj))) eb2 (st2.dk.trans st.dk) (st.trans st2).fz
        · exact w3.elim
      | _ => exact w3.elim
  · exact w.elim
end
end R

set_option Elab.async false
set_option linter.all false
set_option maxRecDepth 100000
set_option maxHeartbeats 1000000
/-! R7: loops, comprehensions. -/
namespace R
open PySem PySem.Spec L2
/-- an iterator gives the items ds, whatever comes -/
def ItOk (K : PySem.W.Frag) (J : It) (g1 : G) (ds : List PyData) : Prop := ∀ (i : Nat) (g : G) (H : Hp), GOk g H → (∀ a o, g1.Fz a = some o → g.Fz a = some o) → g.dk = g1.dk →
  (∀ d, ds[i]? = some d → J.go i H ∧ ∀ x H', J.yld i H x H' → ∃ g', Step g H g' H' ∧ g'.b = g.b ∧ Rep K g' x d) ∧ (ds.length ≤ i → J.stop i H)
def tI (K : PySem.W.Frag) (C : Ct) (M : List Nat) (m : Env → T (List PyData)) : TI := fun σ H R => ∃ en g ρ, MI K M en g σ H ρ ∧
  (m ρ).wp g.b (fun ds b' => ∀ (J : It) (g' : G) (H' : Hp), Step g H g' H' → g'.b = b' → ItOk K J g' ds → R J H') (XP K C en g.dk)
end R
namespace L2
open PySem PySem.Spec
theorem PI.weak {X : Cx} {tg e : Expr} {t t' : TI} (h : PI X tg e t) (hw : ∀ σ H Q, t' σ H Q → t σ H Q) : PI X tg e t' := ⟨fun pins s σ H Q I q => h.run pins s σ H Q I (hw _ _ _ q)⟩
theorem PTs.weak {X : Cx} {e : List Expr} {t t' : TT} (h : PTs X e t) (hw : ∀ σ H Q, t' σ H Q → t σ H Q) : PTs X e t' := ⟨fun pins s σ H Q I q => h.run pins s σ H Q I (hw _ _ _ q)⟩
/-- a list or a tuple -/
theorem pi_seq {X : Cx} {tg l : Expr} {tl : TE} (hl : PE X l tl) : PI X tg l (fun σ H R => tl σ H fun x H1 => ∃ a, x = .ref a ∧ (((∃ xs, SqL X.K H1 a xs) ∧ R (Itl X.K a) H1) ∨ ((∃ xs, SqT X.K H1 a xs) ∧ R (Itt X.K a) H1))) := by
  refine ⟨fun pins s σ H R I h => ?_⟩
  refine thn (hl.run pins s σ H _ I h) fun v s1 ⟨x, H1, I1, r1, q1⟩ => ?_
  obtain ⟨a, e, q1⟩ := q1
  subst e
  cases r1
  have new : ∀ b, b ∈ [s1.heap.objs.size] → FpOk X pins H1 b := fun b hb => by
    have e : b = s1.heap.objs.size := by simpa using hb
    subst e
    exact I1.fpOk (Nat.le_refl _) (I1.hok.fresh (Nat.le_refl _))
  rcases q1 with ⟨⟨xs, hq⟩, q⟩ | ⟨⟨xs, hq⟩, q⟩
  · obtain ⟨its, rv, p, hz⟩ := I1.list hq
    refine wpAny_pyIter_list p.isList ?_
    exact ⟨s1.heap.objs.size, [s1.heap.objs.size], _, _, H1, rfl, I1.kept (t' := s1.toks) fun b o e => Heap.get?_push_of_some _ e, turn_list a _, ⟨_, Heap.get?_push_size _ rfl, rfl, rfl⟩, new, q⟩
  · obtain ⟨its, rv, p, hz⟩ := I1.tuple hq
    refine wpAny_pyIter_tuple (show s1.heap.IsTuple a its.toArray from p) ?_
    exact ⟨s1.heap.objs.size, [s1.heap.objs.size], _, _, H1, rfl, I1.kept (t' := s1.toks) fun b o e => Heap.get?_push_of_some _ e, turn_tuple a _, ⟨_, Heap.get?_push_size _ rfl, rfl, rfl⟩, new, q⟩
end L2
namespace R
open PySem PySem.Spec L2
section
variable {X : Cx} {C : Ct} {M M' M2 Mb : List Nat} {pos p tpos : Pos} {x : Str} {tg e e2 a b : Expr} {m m2 : Env → T PyData}
def itemsD : PyData → T (List PyData)
  | .list xs => .ret xs
  | .tuple xs => .ret xs
  | _ => .stuck
theorem it_list {K : PySem.W.Frag} {g1 : G} {a : Addr} {vs : List V} {ds : List PyData} (h : g1.Fz a = some (.lst vs)) (r : RepAll K g1 vs ds) : ItOk K (Itl K a) g1 ds := by
  intro i g H ok hf hd
  have hs : SqL K H a vs := SqL.of (ok.sub _ _ (hf _ _ h))
  refine ⟨fun d e => ?_, fun hl => ⟨vs, hs, by rw [r.length]; exact hl⟩⟩
  obtain ⟨v, h1, h2⟩ := r.getD' e
  refine ⟨⟨vs, v, hs, h1⟩, fun x H' ⟨e1, e2⟩ => ⟨g, ?_, rfl, ?_⟩⟩
  · rw [e1]; exact .refl ok
  · have := e2 vs hs
    rw [h1] at this; cases this
    exact h2.mono hf hd
theorem it_tup {K : PySem.W.Frag} {g1 : G} {a : Addr} {vs : List V} {ds : List PyData} (h : SqT K g1.Fz a vs) (r : RepAll K g1 vs ds) : ItOk K (Itt K a) g1 ds := by
  intro i g H ok hf hd
  have hs : SqT K H a vs := SqT_mono ok.sub (SqT_mono hf h)
  refine ⟨fun d e => ?_, fun hl => ⟨vs, hs, by rw [r.length]; exact hl⟩⟩
  obtain ⟨v, h1, h2⟩ := r.getD' e
  refine ⟨⟨vs, v, hs, h1⟩, fun x H' ⟨e1, e2⟩ => ⟨g, ?_, rfl, ?_⟩⟩
  · rw [e1]; exact .refl ok
  · have := e2 vs hs
    rw [h1] at this; cases this
    exact h2.mono hf hd
/-- for .. in e, a list or a tuple -/
theorem mi_seq (h : PE X e (tM X.K C M m)) : PI X tg e (tI X.K C M fun ρ => m ρ >>= itemsD) := by
  refine (pi_seq h).weak ?_
  rintro σ H R ⟨en, g, ρ, mi, w⟩
  refine ⟨en, g, ρ, mi, T.wp_mono (T.wp_bind.mp w) (fun d b1 w2 v g1 H1 st eb r => ?_) fun _ _ _ z => z⟩
  cases d with
  | list ds =>
    obtain ⟨a, vs, rfl, h1, r1⟩ := r.list_inv
    exact ⟨a, rfl, .inl ⟨⟨vs, SqL.of (st.ok.sub _ _ h1)⟩, w2 _ g1 H1 st eb (it_list h1 r1)⟩⟩
  | tuple ds =>
    obtain ⟨a, vs, rfl, h1, r1⟩ := r.tup_inv
    exact ⟨a, rfl, .inr ⟨⟨vs, SqT_mono st.ok.sub h1⟩, w2 _ g1 H1 st eb (it_tup h1 r1)⟩⟩
  | _ => exact w2.elim
def rangeL (lo : Int) (n : Nat) : List PyData := (List.range n).map fun (i : Nat) => .int (lo + (i : Int))
theorem rangeL_length (lo : Int) (n : Nat) : (rangeL lo n).length = n := by simp [rangeL]
theorem it_range {K : PySem.W.Frag} {g1 : G} (lo : Int) (n : Nat) : ItOk K (Itr lo n) g1 (rangeL lo n) := by
  intro i g H ok hf hd
  refine ⟨fun d e => ?_, fun hl => by rw [rangeL_length] at hl; exact hl⟩
  unfold rangeL at e
  rw [List.getElem?_map] at e
  obtain ⟨j, e1, e2⟩ := Option.map_eq_some_iff.mp e
  obtain ⟨h1, h2⟩ := List.getElem?_eq_some_iff.mp e1
  simp at h1 h2
  subst h2 e2
  refine ⟨h1, fun x H' ⟨q1, q2⟩ => ⟨g, by rw [q1]; exact .refl ok, rfl, by rw [q2]; exact .int _⟩⟩
def range1D : PyData → T (List PyData)
  | .int j => need (-4611686018427387904 ≤ j ∧ j < 4611686018427387904) (.ret (rangeL 0 j.toNat))
  | _ => .stuck
def range2D : PyData → PyData → T (List PyData)
  | .int i, .int j => need (-4611686018427387904 ≤ i ∧ i < 4611686018427387904 ∧ -4611686018427387904 ≤ j ∧ j < 4611686018427387904) (.ret (rangeL i (j - i).toNat))
  | _, _ => .stuck
theorem mi_range1 (hg : Gl X "range") (hm : X.mg "range" = none) (hs : starEach [a] X.env = [(false, eval a X.env)]) (ha : PE X a (tM X.K C M m)) : PI X tg (.Call (.Name "range" p) [a] [] pos) (tI X.K C M fun ρ => m ρ >>= range1D) := by
  refine (pi_range1 hg hm (pa_cons ha pa_nil hs) hs).weak ?_
  rintro σ H R ⟨en, g, ρ, mi, w⟩
  refine ⟨en, g, ρ, mi, T.wp_mono (T.wp_bind.mp w) (fun d b1 w2 v g1 H1 st eb r => ?_) fun _ _ _ z => z⟩
  cases d <;> first | exact w2.elim | skip
  obtain ⟨cc, w2⟩ := need_wp w2
  have cc := of_decide_eq_true cc
  exact ⟨_, by rw [r.int_inv], cc.1, cc.2, w2 _ g1 H1 st eb (it_range 0 _)⟩
theorem mi_range2 (hg : Gl X "range") (hm : X.mg "range" = none) (hs : starEach [a, b] X.env = (false, eval a X.env) :: starEach [b] X.env) (hs2 : starEach [b] X.env = [(false, eval b X.env)]) (ha : PE X a (tM X.K C M m)) (hb : PE X b (tM X.K C M m2)) :
    PI X tg (.Call (.Name "range" p) [a, b] [] pos) (tI X.K C M fun ρ => do let x ← m ρ; let y ← m2 ρ; range2D x y) := by
  refine (pi_range2 hg hm (pa_cons ha (pa_cons hb pa_nil hs2) hs) (by rw [hs, hs2]) hs2).weak ?_
  rintro σ H R ⟨en, g, ρ, mi, w⟩
  refine ⟨en, g, ρ, mi, T.wp_mono (T.wp_bind.mp w) (fun d b1 w2 v g1 H1 st eb r => ⟨en, g1, ρ, mi.step st, ?_⟩) fun _ _ _ z => z⟩
  rw [eb, st.dk]
  refine T.wp_mono (T.wp_bind.mp w2) (fun d2 b2 w3 v2 g2 H2 st2 eb2 r2 => ?_) fun _ _ _ z => z
  cases d <;> first | exact w3.elim | skip
  cases d2 <;> first | exact w3.elim | skip
  obtain ⟨cc, w3⟩ := need_wp w3
  have cc := of_decide_eq_true cc
  exact ⟨_, _, by rw [r.int_inv, r2.int_inv], cc, w3 _ g2 H2 (st.trans st2) eb2 (it_range _ _)⟩
def zipL (xs ys : List PyData) : List PyData := List.zipWith (fun x y => .tuple [x, y]) xs ys
def zipD : PyData → PyData → T (List PyData)
  | .list xs, .list ys => .ret (zipL xs ys)
  | .tuple xs, .tuple ys => .ret (zipL xs ys)
  | _, _ => .stuck
theorem zipL_get {xs ys : List PyData} {i : Nat} {d : PyData} (h : (zipL xs ys)[i]? = some d) : ∃ x y, xs[i]? = some x ∧ ys[i]? = some y ∧ d = .tuple [x, y] := by
  unfold zipL at h
  rw [List.getElem?_zipWith] at h
  cases e1 : xs[i]? with
  | none => rw [e1] at h; cases h
  | some x => cases e2 : ys[i]? with
    | none => rw [e1, e2] at h; cases h
    | some y => rw [e1, e2] at h; cases h; exact ⟨x, y, rfl, rfl, rfl⟩
theorem it_zipL {K : PySem.W.Frag} {g1 : G} {a b : Addr} {vs ws : List V} {ds es : List PyData} (h : g1.Fz a = some (.lst vs)) (h' : g1.Fz b = some (.lst ws)) (r : RepAll K g1 vs ds) (r' : RepAll K g1 ws es) : ItOk K (Itz K a b) g1 (zipL ds es) := by
  intro i g H ok hf hd
  have hs : SqL K H a vs := SqL.of (ok.sub _ _ (hf _ _ h))
  have hs' : SqL K H b ws := SqL.of (ok.sub _ _ (hf _ _ h'))
  refine ⟨fun d e => ?_, fun hl => ⟨vs, ws, hs, hs', ?_⟩⟩
  · obtain ⟨d1, d2, e1, e2, rfl⟩ := zipL_get e
    obtain ⟨v, h1, h2⟩ := r.getD' e1
    obtain ⟨w, h3, h4⟩ := r'.getD' e2
    refine ⟨⟨vs, ws, v, w, hs, hs', h1, h3⟩, fun x H' ⟨T, y1, y2, q1, q2, q3, q4, q5⟩ => ?_⟩
    have z1 := q4 vs hs
    have z2 := q5 ws hs'
    rw [h1] at z1; cases z1
    rw [h3] at z2; cases z2
    subst q1 q3
    have st := Step.laid (o := .tup [v, w]) ok q2
    exact ⟨_, st, rfl, .tup (SqT.of upd_same) (.cons ((h2.mono hf hd).step st) (.cons ((h4.mono hf hd).step st) .nil))⟩
  · rw [r.length, r'.length]
    unfold zipL at hl
    rw [List.length_zipWith] at hl
    omega
theorem it_zipT {K : PySem.W.Frag} {g1 : G} {a b : Addr} {vs ws : List V} {ds es : List PyData} (h : SqT K g1.Fz a vs) (h' : SqT K g1.Fz b ws) (r : RepAll K g1 vs ds) (r' : RepAll K g1 ws es) : ItOk K (RZ.ItzT K a b) g1 (zipL ds es) := by
  intro i g H ok hf hd
  have hs : SqT K H a vs := SqT_mono ok.sub (SqT_mono hf h)
  have hs' : SqT K H b ws := SqT_mono ok.sub (SqT_mono hf h')
  refine ⟨fun d e => ?_, fun hl => ⟨vs, ws, hs, hs', ?_⟩⟩
  · obtain ⟨d1, d2, e1, e2, rfl⟩ := zipL_get e
    obtain ⟨v, h1, h2⟩ := r.getD' e1
    obtain ⟨w, h3, h4⟩ := r'.getD' e2
    refine ⟨⟨vs, ws, v, w, hs, hs', h1, h3⟩, fun x H' ⟨T, y1, y2, q1, q2, q3, q4, q5⟩ => ?_⟩
    have z1 := q4 vs hs
    have z2 := q5 ws hs'
    rw [h1] at z1; cases z1
    rw [h3] at z2; cases z2
    subst q1 q3
    have st := Step.laid (o := .tup [v, w]) ok q2
    exact ⟨_, st, rfl, .tup (SqT.of upd_same) (.cons ((h2.mono hf hd).step st) (.cons ((h4.mono hf hd).step st) .nil))⟩
  · rw [r.length, r'.length]
    unfold zipL at hl
    rw [List.length_zipWith] at hl
    omega
variable {elts : List Expr} {kk : Nat}
theorem mi_zip (hg : Gl X "zip") (hm : X.mg "zip" = none) (hs : starEach [e, e2] X.env = (false, eval e X.env) :: starEach [e2] X.env) (hs2 : starEach [e2] X.env = [(false, eval e2 X.env)]) (ha : PE X e (tM X.K C M m)) (hb : PE X e2 (tM X.K C M m2)) :
    PI X (.Tuple elts kk tpos) (.Call (.Name "zip" p) [e, e2] [] pos) (tI X.K C M fun ρ => do let x ← m ρ; let y ← m2 ρ; zipD x y) := by
  refine (RZ.pi_zipA hg hm (pa_cons ha (pa_cons hb pa_nil hs2) hs) hs (by rw [hs2]; rfl)).weak ?_
  rintro σ H R ⟨en, g, ρ, mi, w⟩
  refine ⟨en, g, ρ, mi, T.wp_mono (T.wp_bind.mp w) (fun d b1 w2 v g1 H1 st eb r => ⟨en, g1, ρ, mi.step st, ?_⟩) fun _ _ _ z => z⟩
  rw [eb, st.dk]
  refine T.wp_mono (T.wp_bind.mp w2) (fun d2 b2 w3 v2 g2 H2 st2 eb2 r2 => ?_) fun _ _ _ z => z
  have r := r.step st2
  cases d with
  | list ds =>
    cases d2 <;> first | exact w3.elim | skip
    obtain ⟨a, vs, rfl, h1, q1⟩ := r.list_inv
    obtain ⟨b, ws, rfl, h2, q2⟩ := r2.list_inv
    exact ⟨a, b, vs, ws, rfl, .inl ⟨SqL.of (st2.ok.sub _ _ h1), SqL.of (st2.ok.sub _ _ h2), w3 _ g2 H2 (st.trans st2) eb2 (it_zipL h1 h2 q1 q2)⟩⟩
  | tuple ds =>
    cases d2 <;> first | exact w3.elim | skip
    obtain ⟨a, vs, rfl, h1, q1⟩ := r.tup_inv
    obtain ⟨b, ws, rfl, h2, q2⟩ := r2.tup_inv
    exact ⟨a, b, vs, ws, rfl, .inr ⟨SqT_mono st2.ok.sub h1, SqT_mono st2.ok.sub h2, w3 _ g2 H2 (st.trans st2) eb2 (it_zipT h1 h2 q1 q2)⟩⟩
  | _ => exact w3.elim
def enumL (xs : List PyData) : List PyData := List.zipWith (fun (i : Nat) x => .tuple [.int (i : Int), x]) (List.range xs.length) xs
def enumD : PyData → T (List PyData)
  | .list xs => .ret (enumL xs)
  | _ => .stuck
theorem enumL_get {xs : List PyData} {i : Nat} {d : PyData} (h : (enumL xs)[i]? = some d) : ∃ x, xs[i]? = some x ∧ d = .tuple [.int (i : Int), x] := by
  unfold enumL at h
  rw [List.getElem?_zipWith] at h
  cases e1 : (List.range xs.length)[i]? with
  | none => rw [e1] at h; cases h
  | some j => cases e2 : xs[i]? with
    | none => rw [e1, e2] at h; cases h
    | some y =>
      rw [e1, e2] at h; cases h
      obtain ⟨h1, h2⟩ := List.getElem?_eq_some_iff.mp e1
      simp at h2
      exact ⟨y, rfl, by rw [h2]⟩
theorem mi_enum (hg : Gl X "enumerate") (hm : X.mg "enumerate" = none) (hs : starEach [e] X.env = [(false, eval e X.env)]) (ha : PE X e (tM X.K C M m)) :
    PI X (.Tuple elts kk tpos) (.Call (.Name "enumerate" p) [e] [] pos) (tI X.K C M fun ρ => m ρ >>= enumD) := by
  refine (pi_enum hg hm (pa_cons ha pa_nil hs) hs).weak ?_
  rintro σ H R ⟨en, g, ρ, mi, w⟩
  refine ⟨en, g, ρ, mi, T.wp_mono (T.wp_bind.mp w) (fun d b1 w2 v g1 H1 st eb r => ?_) fun _ _ _ z => z⟩
  cases d <;> first | exact w2.elim | skip
  obtain ⟨a, vs, rfl, h1, r1⟩ := r.list_inv
  refine ⟨a, vs, rfl, SqL.of (st.ok.sub _ _ h1), w2 _ g1 H1 st eb ?_⟩
  intro i g H ok hf hd
  have hs : SqL X.K H a vs := SqL.of (ok.sub _ _ (hf _ _ h1))
  refine ⟨fun d e => ?_, fun hl => ⟨vs, hs, ?_⟩⟩
  · obtain ⟨d1, e1, rfl⟩ := enumL_get e
    obtain ⟨v, q1, q2⟩ := r1.getD' e1
    refine ⟨⟨vs, v, hs, q1⟩, fun x H' ⟨T, y1, z1, z2, z3, z4⟩ => ?_⟩
    have y := z4 vs hs
    rw [q1] at y; cases y
    subst z1 z3
    have st := Step.laid (o := .tup [.int i, v]) ok z2
    exact ⟨_, st, rfl, .tup (SqT.of upd_same) (.cons (.int _) (.cons ((q2.mono hf hd).step st) .nil))⟩
  · rw [r1.length]
    unfold enumL at hl
    rw [List.length_zipWith] at hl
    simp at hl
    omega

/-! ### for -/
def forT (f : PyData → Env → T Out) : List PyData → Env → T Out
  | [], ρ => .ret (.nx ρ)
  | d :: ds, ρ => f d ρ >>= fun o => match o with
    | .nx ρ' => forT f ds ρ'
    | .ct ρ' => forT f ds ρ'
    | .brk ρ' => .ret (.nx ρ')
    | .ret d => .ret (.ret d)
/-- one turn: the target, the body -/
def turnT (t : Tg) (b : Env → T Out) (d : PyData) (ρ : Env) : T Out := match asgT t d ρ with | some ρ' => b ρ' | none => .stuck
theorem ms_for {iter : Expr} {body : List Stmt} {mi' : Env → T (List PyData)} {sb : Env → T Out} (t : Tg) (hM : ∀ i ∈ t.slots, i ∉ M) (hp : PassesOwn (model X.prog X.w) X.A X.env X.xe) (hc : X.calm = true) (hs : ∀ x, foldedSetIterable iter X.env x = pure x)
    (hi : PI X tg iter (tI X.K C M mi')) (hg : PG X tg (gOf X.K t)) (hb : PSs X body (tS X.K C M M M sb)) : PS X (.For tg iter body [] pos) (tS X.K C M M Mb fun ρ => mi' ρ >>= fun ds => forT (turnT t sb) ds ρ) := by
  refine (ps_for hp hc hi hg hb hs).weak ?_
  rintro D σ H ⟨en, g, ρ, mi, w⟩
  refine ⟨en, g, ρ, mi, T.wp_mono (T.wp_bind.mp w) (fun ds b1 w2 J g1 H1 st eb it => ?_) fun _ _ _ z => z⟩
  refine ⟨fun i k σ H => k = ds.length - i ∧ i ≤ ds.length ∧ ∃ (g2 : G) (ρ2 : Env), MI X.K M en g2 σ H ρ2 ∧ (∀ a o, g1.Fz a = some o → g2.Fz a = some o) ∧ g2.dk = g.dk ∧ (forT (turnT t sb) (ds.drop i) ρ2).wp g2.b (SQ X.K C M Mb en g.dk g.Fz D) (XP X.K C en g.dk),
    ⟨ds.length, by simp, Nat.zero_le _, g1, ρ, mi.step st, fun _ _ e => e, st.dk, by rw [eb]; exact w2⟩, ?_⟩
  rintro i k σ2 H2 ⟨rfl, hi, g2, ρ2, mi2, hf, hd, w3⟩
  obtain ⟨it1, it2⟩ := it i g2 H2 mi2.ok hf (hd.trans st.dk.symm)
  by_cases hl : i < ds.length
  · have e : ds[i]? = some ds[i] := List.getElem?_eq_getElem hl
    obtain ⟨go, yl⟩ := it1 _ e
    rw [List.drop_eq_getElem_cons hl] at w3
    have w4 := T.wp_bind.mp w3
    refine .inr ⟨go, fun σ' H' => ∃ (g2 : G) (ρ2 : Env), MI X.K M en g2 σ' H' ρ2 ∧ (∀ a o, g1.Fz a = some o → g2.Fz a = some o) ∧ g2.dk = g.dk ∧ (forT (turnT t sb) (ds.drop (i + 1)) ρ2).wp g2.b (SQ X.K C M Mb en g.dk g.Fz D) (XP X.K C en g.dk),
      fun σ' H' h => ⟨ds.length - (i + 1), by omega, rfl, by omega, h⟩, fun x H' hy => ?_⟩
    obtain ⟨g3, st3, eb3, r3⟩ := yl x H' hy
    unfold turnT at w4
    split at w4
    · rename_i ρ3 e3
      refine asg_ok t hM (mi2.step st3) r3 e3 fun σ4 mi4 _ => ?_
      refine ⟨en, g3, ρ3, mi4, ?_⟩
      rw [eb3, st3.dk, hd]
      refine T.wp_mono w4 (fun o b5 w5 => ?_) fun _ _ _ z => z
      have hf3 : ∀ a o, g1.Fz a = some o → g3.Fz a = some o := fun a o q => st3.fz a o (hf a o q)
      have again : ∀ ρ', (forT (turnT t sb) (ds.drop (i + 1)) ρ').wp b5 (SQ X.K C M Mb en g.dk g.Fz D) (XP X.K C en g.dk) → ∀ (σ' : L2.St) (g' : G) (H' : Hp), MI X.K M en g' σ' H' ρ' → g'.b = b5 → g'.dk = g.dk → (∀ a o, g3.Fz a = some o → g'.Fz a = some o) → ∃ (g2 : G) (ρ2 : Env), MI X.K M en g2 σ' H' ρ2 ∧ (∀ a o, g1.Fz a = some o → g2.Fz a = some o) ∧ g2.dk = g.dk ∧ (forT (turnT t sb) (ds.drop (i + 1)) ρ2).wp g2.b (SQ X.K C M Mb en g.dk g.Fz D) (XP X.K C en g.dk) :=
        fun ρ' q σ' g' H' mi' eb' ed' hf' => ⟨g', ρ', mi', fun a o z => hf' a o (hf3 a o z), ed', by rw [eb']; exact q⟩
      cases o with
      | nx ρ' => exact fun σ' g' H' mi' eb' ed' hf' => again ρ' w5 σ' g' H' mi' eb' ed' hf'
      | ct ρ' => exact fun σ' g' H' mi' eb' ed' hf' => again ρ' w5 σ' g' H' mi' eb' ed' hf'
      | brk ρ' => exact fun σ' g' H' mi' eb' ed' hf' => w5 σ' g' H' mi' eb' ed' fun a o z => hf' a o (hf3 a o (st.fz a o z))
      | ret d => exact w5
    · exact w4.elim
  · have e : ds.drop i = [] := List.drop_eq_nil_of_le (by omega)
    rw [e] at w3
    exact .inl ⟨it2 (by omega), w3 σ2 g2 H2 mi2 rfl hd fun a o z => hf a o (st.fz a o z)⟩

/-! ### while -/
def whileT (c : Env → T Bool) (b : Env → T Out) : Nat → Env → T Out
  | 0, _ => .stuck
  | n + 1, ρ => c ρ >>= fun k => if k = true then b ρ >>= fun o => (match o with
      | .nx ρ' => whileT c b n ρ'
      | .ct ρ' => whileT c b n ρ'
      | .brk ρ' => .ret (.nx ρ')
      | .ret d => .ret (.ret d)) else .ret (.nx ρ)
theorem ms_while {c : Expr} {body : List Stmt} {tc : Env → T Bool} {sb : Env → T Out} (n : Nat) (hp : PassesOwn (model X.prog X.w) X.A X.env X.xe) (hc : PT X c (tT X.K C M tc)) (hb : PSs X body (tS X.K C M M M sb)) :
    PS X (.While c body [] pos) (tS X.K C M M Mb (whileT tc sb n)) := by
  refine (ps_while hp hc hb).weak ?_
  rintro D σ H ⟨en, g, ρ, mi, w⟩
  refine ⟨fun k σ H => ∃ (g2 : G) (ρ2 : Env), MI X.K M en g2 σ H ρ2 ∧ (∀ a o, g.Fz a = some o → g2.Fz a = some o) ∧ g2.dk = g.dk ∧ (whileT tc sb k ρ2).wp g2.b (SQ X.K C M Mb en g.dk g.Fz D) (XP X.K C en g.dk), ⟨n, g, ρ, mi, fun _ _ e => e, rfl, w⟩, ?_⟩
  rintro k σ2 H2 ⟨g2, ρ2, mi2, hf, hd, w2⟩
  cases k with
  | zero => exact w2.elim
  | succ k =>
    refine ⟨en, g2, ρ2, mi2, ?_⟩
    rw [hd]
    refine T.wp_mono (T.wp_bind.mp w2) (fun kb b3 w3 g3 H3 st3 eb3 => ?_) fun _ _ _ z => z
    have hf3 : ∀ a o, g.Fz a = some o → g3.Fz a = some o := fun a o q => st3.fz a o (hf a o q)
    cases kb with
    | false => exact w3 σ2 g3 H3 (mi2.step st3) eb3 (st3.dk.trans hd) hf3
    | true =>
      have w4 := T.wp_bind.mp (show T.wp (sb ρ2 >>= _) b3 _ _ from w3)
      refine ⟨fun σ' H' => ∃ (g2 : G) (ρ2 : Env), MI X.K M en g2 σ' H' ρ2 ∧ (∀ a o, g.Fz a = some o → g2.Fz a = some o) ∧ g2.dk = g.dk ∧ (whileT tc sb k ρ2).wp g2.b (SQ X.K C M Mb en g.dk g.Fz D) (XP X.K C en g.dk), fun σ' H' h => ⟨k, Nat.lt_succ_self k, h⟩, en, g3, ρ2, mi2.step st3, ?_⟩
      rw [eb3, st3.dk, hd]
      refine T.wp_mono w4 (fun o b5 w5 => ?_) fun _ _ _ z => z
      have again : ∀ ρ', (whileT tc sb k ρ').wp b5 (SQ X.K C M Mb en g.dk g.Fz D) (XP X.K C en g.dk) → ∀ (σ' : L2.St) (g' : G) (H' : Hp), MI X.K M en g' σ' H' ρ' → g'.b = b5 → g'.dk = g.dk → (∀ a o, g3.Fz a = some o → g'.Fz a = some o) → ∃ (g2 : G) (ρ2 : Env), MI X.K M en g2 σ' H' ρ2 ∧ (∀ a o, g.Fz a = some o → g2.Fz a = some o) ∧ g2.dk = g.dk ∧ (whileT tc sb k ρ2).wp g2.b (SQ X.K C M Mb en g.dk g.Fz D) (XP X.K C en g.dk) :=
        fun ρ' q σ' g' H' mi' eb' ed' hf' => ⟨g', ρ', mi', fun a o z => hf' a o (hf3 a o z), ed', by rw [eb']; exact q⟩
      cases o with
      | nx ρ' => exact fun σ' g' H' mi' eb' ed' hf' => again ρ' w5 σ' g' H' mi' eb' ed' hf'
      | ct ρ' => exact fun σ' g' H' mi' eb' ed' hf' => again ρ' w5 σ' g' H' mi' eb' ed' hf'
      | brk ρ' => exact fun σ' g' H' mi' eb' ed' hf' => w5 σ' g' H' mi' eb' ed' fun a o z => hf' a o (hf3 a o z)
      | ret d => exact w5

/-! ### list comprehensions -/
theorem mts_nil : PTs X [] (tT X.K C M fun _ => .ret true) := pts_nil.weak fun σ H Q ⟨en, g, ρ, mi, w⟩ => w g H (.refl mi.ok) rfl
theorem mts_one {c : Expr} {tc : Env → T Bool} (h : PT X c (tT X.K C M tc)) : PTs X [c] (tT X.K C M tc) := pts_one h
theorem nth_wiped : ∀ {vs : List Nat} {ρ : Env} {i : Nat} {d : PyData}, nth (wiped ρ vs) i = some d → nth ρ i = some d ∧ i ∉ vs
  | [], ρ, i, d, h => ⟨h, by simp⟩
  | v :: vs, ρ, i, d, h => by
    unfold wiped at h
    rw [nth_eq] at h
    by_cases e : v = i
    · subst e
      rw [List.getElem?_set] at h
      simp only [if_true] at h
      split at h <;> cases h
    · rw [List.getElem?_set_ne e, ← nth_eq] at h
      obtain ⟨h1, h2⟩ := nth_wiped h
      exact ⟨h1, by simp only [List.mem_cons, not_or]; exact ⟨fun z => e z.symm, h2⟩⟩
theorem wiped_length (ρ : Env) : ∀ vs : List Nat, (wiped ρ vs).length = ρ.length
  | [] => rfl
  | v :: vs => by unfold wiped; rw [List.length_set, wiped_length ρ vs]
theorem MI.wipe {K : PySem.W.Frag} {en : Ent} {g : G} {σ : L2.St} {H : Hp} {ρ : Env} (mi : MI K M en g σ H ρ) (vs : List Nat) : MI K M en g (L2.wipe σ vs) H (wiped ρ vs) where
  ok := mi.ok
  base := mi.base
  new := mi.new
  old := mi.old
  len := by rw [wipe_length, wiped_length]; exact mi.len
  var := fun i d h n => by
    obtain ⟨h1, h2⟩ := nth_wiped h
    rw [wipe_out h2]
    exact mi.var i d h1 n
  own := fun i d h n => by
    obtain ⟨h1, h2⟩ := nth_wiped h
    rw [wipe_out h2]
    exact mi.own i d h1 n
  dis := fun i j a hi hj n h1 h2 => by
    cases e1 : nth (wiped ρ vs) i with
    | none => exact absurd e1 h1
    | some d1 => cases e2 : nth (wiped ρ vs) j with
      | none => exact absurd e2 h2
      | some d2 =>
        obtain ⟨q1, q2⟩ := nth_wiped e1
        obtain ⟨q3, q4⟩ := nth_wiped e2
        rw [wipe_out q2, wipe_out q4]
        exact mi.dis i j a hi hj n (by rw [q1]; simp) (by rw [q3]; simp)
/-- an exception is nothing known -/
def nox {α : Type} : T α → T α
  | .ret a => .ret a
  | .exc _ _ => .stuck
  | .stuck => .stuck
  | .draw n k => .draw n fun r => nox (k r)
@[simp] theorem nox_ret {α : Type} (a : α) : nox (.ret a) = .ret a := rfl
theorem nox_wp {α : Type} {t : T α} {b : Nat} {Q E E'} (h : (nox t).wp b Q E) : t.wp b Q E' := by
  induction t generalizing b with
  | ret a => exact h
  | exc c fs => exact h.elim
  | stuck => exact h
  | draw n k ih =>
    obtain ⟨h0, b', e, h⟩ := h
    exact ⟨h0, b', e, fun r h1 h2 => ih r (h r h1 h2)⟩
/-- a turn of a comprehension: the item, or nothing -/
def compT (t : Tg) (tc : Env → T Bool) (te : Env → T PyData) (ρ : Env) (d : PyData) : T (Option PyData) := match asgT t d ρ with
  | some ρ' => nox (tc ρ') >>= fun k => if k = true then nox (te ρ') >>= fun y => .ret (some y) else .ret none
  | none => .stuck
def lcT (f : PyData → T (Option PyData)) : List PyData → T (List PyData)
  | [] => .ret []
  | d :: ds => f d >>= fun o => lcT f ds >>= fun r => .ret (match o with | some y => y :: r | none => r)
theorem lcT_len (f : PyData → T (Option PyData)) : ∀ (ds : List PyData) {b : Nat} {Q E}, (lcT f ds).wp b Q E → (lcT f ds).wp b (fun r b' => r.length ≤ ds.length ∧ Q r b') E
  | [], b, Q, E, h => ⟨Nat.le_refl _, h⟩
  | d :: ds, b, Q, E, h => by
    refine T.wp_bind.mpr (T.wp_mono (T.wp_bind.mp h) (fun o b1 w1 => T.wp_bind.mpr (T.wp_mono (lcT_len f ds (T.wp_bind.mp w1)) (fun r b2 w2 => ⟨?_, w2.2⟩) fun _ _ _ z => z)) fun _ _ _ z => z)
    cases o with
    | none => show r.length ≤ _; simp; omega
    | some y => show (y :: r).length ≤ _; simp; exact w2.1
/-- the block's own exceptions: none -/
def Ct.no (C : Ct) : Ct := { C with E := fun _ _ _ => False }
variable {elt iter : Expr} {ifs : List Expr} {scope : Scope} {own : List (Str × Nat)} {mit : Env → T (List PyData)} {tc : Env → T Bool} {te : Env → T PyData}
theorem lc_read {K : PySem.W.Frag} (t : Tg) (hM : ∀ i ∈ t.slots, i ∉ M) (hv : ∀ i ∈ t.slots, i ∈ own.map (·.2)) {Qd : PyData → Nat → Addr → G → Hp → Prop} {σ : L2.St} {H : Hp} {Q : VK} {en : Ent} {g : G} {ρ : Env} (mi : MI K M en g σ H ρ)
    (w : (mit ρ >>= fun ds => need (ds.length ≤ sizeLine) (lcT (compT t tc te (wiped ρ (own.map (·.2)))) ds)).wp g.b (fun r b' => ∀ (a : Addr) (g' : G) (H' : Hp), Step g H g' H' → g'.b = b' → Own K g' H' a (.list r) → H a = none → g'.Fz a = none → Q (.ref a) H') (XP K C en g.dk)) :
    tLc (tI K C M mit) (gOf K t) (tT K C.no M tc) (tM K C.no M te) (own.map (·.2)) σ H Q := by
  refine ⟨en, g, ρ, mi, T.wp_mono (T.wp_bind.mp w) (fun ds b1 w2 J g1 H1 st eb it D hD => ?_) fun _ _ _ z => z⟩
  obtain ⟨cc, w2⟩ := need_wp w2
  have cc := of_decide_eq_true cc
  have hDH : H D = none := st.none_of mi.ok hD
  have nD : ¬ g1.isDk D := st.ok.ndk hD
  refine ⟨fun i k H2 => k = ds.length - i ∧ i ≤ ds.length ∧ ∃ (g2 : G) (acc : List V) (rs : List PyData), Step g1 H1 g2 H2 ∧ H2 D = some (.lst acc) ∧ RepAll K g2 acc rs ∧ rs.length ≤ i ∧ g2.Fz D = none ∧
      (lcT (compT t tc te (wiped ρ (own.map (·.2)))) (ds.drop i)).wp g2.b (fun r b' => ∀ (a : Addr) (g' : G) (H' : Hp), Step g H g' H' → g'.b = b' → Own K g' H' a (.list (rs ++ r)) → H a = none → g'.Fz a = none → Q (.ref a) H') (XP K C en g.dk),
    ⟨ds.length, by simp, Nat.zero_le _, g1, [], [], Step.laidU st.ok hD, upd_same, .nil, Nat.le_refl _, st.ok.fz_none hD, by rw [eb]; exact w2⟩, ?_⟩
  rintro i k H2 ⟨rfl, hi, g2, acc, rs, st2, hacc, racc, hrs, hfD, w3⟩
  obtain ⟨it1, it2⟩ := it i g2 H2 st2.ok st2.fz st2.dk
  have nD2 : ¬ g2.isDk D := fun z => nD ((isDk_eq st2.dk D).mp z)
  by_cases hl : i < ds.length
  · have e : ds[i]? = some ds[i] := List.getElem?_eq_getElem hl
    obtain ⟨go, yl⟩ := it1 _ e
    rw [List.drop_eq_getElem_cons hl] at w3
    have w4 := T.wp_bind.mp w3
    refine .inr ⟨go, fun H' => ∃ (g2 : G) (acc : List V) (rs : List PyData), Step g1 H1 g2 H' ∧ H' D = some (.lst acc) ∧ RepAll K g2 acc rs ∧ rs.length ≤ i + 1 ∧ g2.Fz D = none ∧
      (lcT (compT t tc te (wiped ρ (own.map (·.2)))) (ds.drop (i + 1))).wp g2.b (fun r b' => ∀ (a : Addr) (g' : G) (H' : Hp), Step g H g' H' → g'.b = b' → Own K g' H' a (.list (rs ++ r)) → H a = none → g'.Fz a = none → Q (.ref a) H') (XP K C en g.dk),
      fun H' h => ⟨ds.length - (i + 1), by omega, rfl, by omega, h⟩, fun x H' hy => ?_⟩
    obtain ⟨g3, st3, eb3, r3⟩ := yl x H' hy
    unfold compT at w4
    split at w4
    · rename_i ρ3 e3
      have mi3 : MI K M en g3 (L2.wipe σ (own.map (·.2))) H' (wiped ρ (own.map (·.2))) := (((mi.step st).step st2).step st3).wipe _
      refine asg_ok t hM mi3 r3 e3 fun σ4 mi4 wq => ⟨?_, ?_⟩
      · have := wq _ hv
        rw [this]
        -- wiping twice
        have ww : ∀ (vs : List Nat) (σ : L2.St), L2.wipe (L2.wipe σ vs) vs = L2.wipe σ vs := by
          have sub : ∀ (us vs : List Nat) (σ : L2.St), (∀ u ∈ us, u ∈ vs) → L2.wipe (L2.wipe σ us) vs = L2.wipe σ vs := by
            intro us
            induction us with
            | nil => intro vs σ _; rfl
            | cons u us ih =>
              intro vs σ hu
              show L2.wipe ((L2.wipe σ us).set u none) vs = _
              rw [wipe_set (hu u (by simp))]
              exact ih vs σ fun z hz => hu z (by simp [hz])
          exact fun vs σ => sub vs vs σ fun _ h => h
        exact ww _ _
      · have w5 := T.wp_bind.mp w4
        refine ⟨en, g3, ρ3, mi4, ?_⟩
        rw [eb3]
        refine T.wp_mono (nox_wp w5 : (tc ρ3).wp g2.b _ (XP K C.no en g3.dk)) (fun kb b6 w6 g6 H6 st6 eb6 => ?_) fun _ _ _ z => z
        have hD6 : H6 D = some (.lst acc) := st6.keep _ _ (st3.keep _ _ hacc nD2) fun z => nD2 ((isDk_eq st3.dk D).mp z)
        have st16 : Step g1 H1 g6 H6 := (st2.trans st3).trans st6
        have fD6 : g6.Fz D = none := by
          cases q : g6.Fz D with
          | none => rfl
          | some o =>
            rcases (st3.trans st6).new D (by rw [q]; simp) with z | z
            · exact absurd hfD z
            · rw [hacc] at z; cases z
        cases kb with
        | false =>
          have w7 := T.wp_bind.mp (show T.wp (lcT _ (ds.drop (i + 1)) >>= _) b6 _ _ from w6)
          refine ⟨g6, acc, rs, st16, hD6, racc.step (st3.trans st6), by omega, fD6, ?_⟩
          rw [eb6]
          exact w7
        | true =>
          have w7 := T.wp_bind.mp (show T.wp (nox (te ρ3) >>= fun y => T.ret (some y)) b6 _ _ from w6)
          refine ⟨en, g6, ρ3, mi4.step st6, ?_⟩
          rw [eb6]
          refine T.wp_mono (nox_wp w7 : (te ρ3).wp b6 _ (XP K C.no en g6.dk)) (fun y b8 w8 v8 g8 H8 st8 eb8 r8 => ?_) fun _ _ _ z => z
          have w9 := T.wp_bind.mp (show T.wp (lcT _ (ds.drop (i + 1)) >>= _) b8 _ _ from w8)
          have n6 : ¬ g6.isDk D := fun z => nD ((isDk_eq st16.dk D).mp z)
          have hD8 : H8 D = some (.lst acc) := st8.keep _ _ hD6 n6
          have st18 : Step g1 H1 g8 H8 := st16.trans st8
          have fD8 : g8.Fz D = none := by
            cases q : g8.Fz D with
            | none => rfl
            | some o =>
              rcases st8.new D (by rw [q]; simp) with z | z
              · exact absurd fD6 z
              · rw [hD6] at z; cases z
          have rac8 := (racc.step (st3.trans st6)).step st8
          refine ⟨acc, hD8, by rw [rac8.length]; omega, g8, acc ++ [v8], rs ++ [y], ?_, upd_same, rac8.append (.cons r8 .nil), by simp; omega, fD8, ?_⟩
          · -- D was not there at H1
            refine ⟨st18.fz, ⟨fun b o q => ?_, st18.ok.dkf, fun dk q => dk.stab _ _ _ (fun b hb => ?_) (st18.ok.dok dk q)⟩, st18.dk, fun b o q n => ?_, st18.new⟩
            · rw [upd_ne (fun z => by subst z; rw [fD8] at q; cases q)]; exact st18.ok.sub _ _ q
            · rw [upd_ne (fun z => by subst z; exact nD ⟨dk, by rw [← st18.dk]; exact q, hb⟩)]
            · rw [upd_ne (ne_of_none q hD)]; exact st18.keep _ _ q n
          · rw [eb8]
            refine T.wp_mono w9 (fun r b10 w10 a g' H' s' e' o' => ?_) fun _ _ _ z => z
            rw [List.append_assoc] at o'
            exact w10 a g' H' s' e' o'
    · exact w4.elim
  · have e : ds.drop i = [] := List.drop_eq_nil_of_le (by omega)
    rw [e] at w3
    refine .inl ⟨it2 (by omega), w3 D g2 H2 (st.trans st2) rfl ?_ hDH hfD⟩
    rw [List.append_nil]
    exact .lst hacc racc
def lcD (t : Tg) (vs : List Nat) (mit : Env → T (List PyData)) (tc : Env → T Bool) (te : Env → T PyData) (ρ : Env) : T PyData := (mit ρ >>= fun ds => need (ds.length ≤ sizeLine) (lcT (compT t tc te (wiped ρ vs)) ds)) >>= fun r => .ret (.list r)
theorem mf_lc (t : Tg) (hM : ∀ i ∈ t.slots, i ∉ M) (hv : ∀ i ∈ t.slots, i ∈ own.map (·.2)) (hc : X.calm = true) (hN : X.N.Nodup) (ok : BlkOk X.N X.env.scope scope own) (hs : ∀ x, foldedSetIterable iter X.env x = pure x) (hi : PI X tg iter (tI X.K C M mit))
    (hg : ∀ (s : Shared) (H : Hp) (Cc : Addr) (cl : List (Str × Addr)) (fp : List Addr), PG (X.blk s H scope (compEnvC scope cl Cc X.env) fp) tg (gOf X.K t)) (ht : ∀ (s : Shared) (H : Hp) (Cc : Addr) (cl : List (Str × Addr)) (fp : List Addr), PTs (X.blk s H scope (compEnvC scope cl Cc X.env) fp) ifs (tT X.K C.no M tc))
    (he : ∀ (s : Shared) (H : Hp) (Cc : Addr) (cl : List (Str × Addr)) (fp : List Addr), PE (X.blk s H scope (compEnvC scope cl Cc X.env) fp) elt (tM X.K C.no M te)) :
    PE X (.ListComp elt [⟨tg, iter, ifs, 0⟩] scope pos) (tF X.K C M (lcD t (own.map (·.2)) mit tc te)) := by
  refine (pe_lc hc hN hi ok hg ht he hs).weak ?_
  rintro σ H Q ⟨en, g, ρ, mi, w⟩
  exact lc_read t hM hv (Qd := fun _ _ _ _ _ => True) mi (T.wp_mono (T.wp_bind.mp w) (fun r b' q => q) fun _ _ _ z => z)
/-- a new list may be frozen at once -/
theorem tF.frozen {K : PySem.W.Frag} {m : Env → T PyData} : ∀ σ H Q, tM K C M m σ H Q → tF K C M m σ H Q := by
  rintro σ H Q ⟨en, g, ρ, mi, w⟩
  refine ⟨en, g, ρ, mi, T.wp_mono w (fun d b' q a g' H' st eb o ha hf => ?_) fun _ _ _ z => z⟩
  obtain ⟨ob, ho⟩ : ∃ ob, H' a = some ob := by cases o <;> exact ⟨_, by assumption⟩
  have na : ¬ g'.isDk a := fun z => mi.ok.ndk ha ((isDk_eq st.dk a).mp z)
  have mono : ∀ b u, g'.Fz b = some u → (upd g'.Fz a ob) b = some u := fun b u q => by
    rw [upd_ne (fun z => by rw [z, hf] at q; cases q)]; exact q
  refine q (.ref a) { g' with Fz := upd g'.Fz a ob } H' ⟨fun b u z => mono _ _ (st.fz b u z), ⟨fun b u z => ?_, fun b z => ?_, st.ok.dok⟩, st.dk, st.keep, fun b z => ?_⟩ eb ?_
  · by_cases e : b = a
    · subst e
      have z : upd g'.Fz b ob b = some u := z
      rw [upd_same] at z; cases z; exact ho
    · have z : upd g'.Fz a ob b = some u := z
      rw [upd_ne e] at z; exact st.ok.sub _ _ z
  · show upd g'.Fz a ob b = none
    have nb : b ≠ a := fun e => na (e ▸ z)
    rw [upd_ne nb]; exact st.ok.dkf b z
  · by_cases e : b = a
    · subst e; exact .inr ha
    · have z : upd g'.Fz a ob b ≠ none := z
      rw [upd_ne e] at z; exact st.new b z
  · cases o with
    | lst h r =>
      rw [h] at ho; cases ho
      exact .lst upd_same (RepAll.mono (g' := { g' with Fz := upd g'.Fz a _ }) mono rfl r)
    | dK h l r =>
      rw [h] at ho; cases ho
      exact .dK upd_same l (RepAll.mono (g' := { g' with Fz := upd g'.Fz a _ }) mono rfl r)
    | dT h l r =>
      rw [h] at ho; cases ho
      exact .dT upd_same l (RepAll.mono (g' := { g' with Fz := upd g'.Fz a _ }) mono rfl r)
theorem me_F {e : Expr} {m : Env → T PyData} (h : PE X e (tF X.K C M m)) : PE X e (tM X.K C M m) := h.weak tF.frozen
/-- y = [..] on one line -/
theorem ms_setLc {py spos : Pos} {y : Str} (i : Nat) (hMi : i ∉ M) (t : Tg) (hM : ∀ i ∈ t.slots, i ∉ M) (hv : ∀ i ∈ t.slots, i ∈ own.map (·.2)) (hc : X.calm = true) (hN : X.N.Nodup) (hy : X.N[i]? = some y) (hyl : X.env.scope.names.lookup y = some .local)
    (hsw : swapsWith (.ListComp elt [⟨tg, iter, ifs, 0⟩] scope pos) (some (.Name y py)) spos.line X.env = pure true) (ok : BlkOk X.N X.env.scope scope own) (hs : ∀ x, foldedSetIterable iter X.env x = pure x) (hi : PI X tg iter (tI X.K C M mit))
    (hg : ∀ (s : Shared) (H : Hp) (Cc : Addr) (cl : List (Str × Addr)) (fp : List Addr), PG (X.blk s H scope (compEnvC scope cl Cc X.env) fp) tg (gOf X.K t)) (ht : ∀ (s : Shared) (H : Hp) (Cc : Addr) (cl : List (Str × Addr)) (fp : List Addr), PTs (X.blk s H scope (compEnvC scope cl Cc X.env) fp) ifs (tT X.K C.no M tc))
    (he : ∀ (s : Shared) (H : Hp) (Cc : Addr) (cl : List (Str × Addr)) (fp : List Addr), PE (X.blk s H scope (compEnvC scope cl Cc X.env) fp) elt (tM X.K C.no M te)) :
    PS X (.Assign [.Name y py] (.ListComp elt [⟨tg, iter, ifs, 0⟩] scope pos) spos) (tS X.K C M M Mb fun ρ => setT i (lcD t (own.map (·.2)) mit tc te ρ) ρ) := by
  refine (L2.ps_setLc hc hN hy hyl hsw hi ok hg ht he hs).weak ?_
  rintro D σ H ⟨en, g, ρ, mi, w⟩
  have h := tF.frozen (K := X.K) (C := C) (M := M) σ H (fun x H1 => gName i x σ H1 D.nx) (m := lcD t (own.map (·.2)) mit tc te) ⟨en, g, ρ, mi, T.wp_mono (T.wp_bind.mp w) (fun d b1 w2 v g' H' st eb r => w2 _ g' H' ((mi.step st).setV hMi r) eb st.dk st.fz) fun _ _ _ z => z⟩
  obtain ⟨en', g', ρ', mi', w'⟩ := h
  exact lc_read t hM hv (Qd := fun _ _ _ _ _ => True) mi' (T.wp_mono (T.wp_bind.mp w') (fun r b' q => q) fun _ _ _ z => z)
/-- y = [..], y's own -/
theorem ms_setLcF {py spos : Pos} {y : Str} (i : Nat) (hMM : M' = i :: M.filter (· != i)) (t : Tg) (hM : ∀ i ∈ t.slots, i ∉ M) (hv : ∀ i ∈ t.slots, i ∈ own.map (·.2)) (hc : X.calm = true) (hN : X.N.Nodup) (hy : X.N[i]? = some y) (hyl : X.env.scope.names.lookup y = some .local)
    (hsw : swapsWith (.ListComp elt [⟨tg, iter, ifs, 0⟩] scope pos) (some (.Name y py)) spos.line X.env = pure true) (ok : BlkOk X.N X.env.scope scope own) (hs : ∀ x, foldedSetIterable iter X.env x = pure x) (hi : PI X tg iter (tI X.K C M mit))
    (hg : ∀ (s : Shared) (H : Hp) (Cc : Addr) (cl : List (Str × Addr)) (fp : List Addr), PG (X.blk s H scope (compEnvC scope cl Cc X.env) fp) tg (gOf X.K t)) (ht : ∀ (s : Shared) (H : Hp) (Cc : Addr) (cl : List (Str × Addr)) (fp : List Addr), PTs (X.blk s H scope (compEnvC scope cl Cc X.env) fp) ifs (tT X.K C.no M tc))
    (he : ∀ (s : Shared) (H : Hp) (Cc : Addr) (cl : List (Str × Addr)) (fp : List Addr), PE (X.blk s H scope (compEnvC scope cl Cc X.env) fp) elt (tM X.K C.no M te)) :
    PS X (.Assign [.Name y py] (.ListComp elt [⟨tg, iter, ifs, 0⟩] scope pos) spos) (tS X.K C M M' Mb fun ρ => setT i (lcD t (own.map (·.2)) mit tc te ρ) ρ) := by
  refine (L2.ps_setLc hc hN hy hyl hsw hi ok hg ht he hs).weak ?_
  rintro D σ H ⟨en, g, ρ, mi, w⟩
  refine lc_read t hM hv (Qd := fun _ _ _ _ _ => True) mi (T.wp_mono (T.wp_bind.mp (T.wp_bind.mp w)) (fun r b' q a g' H' st eb o ha hf => ?_) fun _ _ _ z => z)
  exact q _ g' H' (mi.putOwn st hMM o ha hf) eb st.dk st.fz
end
end R

set_option Elab.async false
set_option linter.all false
set_option maxRecDepth 100000
set_option maxHeartbeats 1000000
/-! R8: calls by names, defs of the text. -/
namespace R
open PySem PySem.Spec L2
open PyProof.Rows hiding St
def pick {α : Type} (idx : List Nat) (l : List α) : List α := idx.filterMap (l[·]?)
theorem Vals.pick' {vs : List V} {us : List Value} (h : Vals vs us) : ∀ idx, Vals (pick idx vs) (pick idx us)
  | [] => .nil
  | i :: idx => by
    unfold pick
    rw [List.filterMap_cons, List.filterMap_cons]
    cases e : vs[i]? with
    | none => rw [h.none_of e]; exact Vals.pick' h idx
    | some v =>
      obtain ⟨u, h1, h2⟩ := h.get e
      rw [h1]
      exact .cons h2 (Vals.pick' h idx)
theorem RepAll.pick' {K : PySem.W.Frag} {g : G} {vs : List V} {ds : List PyData} (h : RepAll K g vs ds) : ∀ idx, RepAll K g (pick idx vs) (pick idx ds)
  | [] => .nil
  | i :: idx => by
    unfold pick
    rw [List.filterMap_cons, List.filterMap_cons]
    cases e : vs[i]? with
    | none =>
      have : ds[i]? = none := by
        have h1 := h.length
        have h2 : vs.length ≤ i := List.getElem?_eq_none_iff.mp e
        exact List.getElem?_eq_none_iff.mpr (by omega)
      rw [this]; exact RepAll.pick' h idx
    | some v =>
      obtain ⟨u, h1, h2⟩ := h.get e
      rw [h1]
      exact .cons h2 (RepAll.pick' h idx)
/-- how a call with keywords ks binds: ds the defaults; idx: the parameters, by their places among us, ws, ds -/
def KB (K : PySem.W.Frag) (fd : FuncData) (ps : List Str) (n : Nat) (ks : List Str) (idx : List Nat) (ds : List Value) : Prop :=
  ∀ (s : Shared) (us ws : List Value), K.In s.heap → us.length = n → ws.length = ks.length → BindsTo s fd ⟨us, ks.zip ws⟩ (ps.zip (pick idx (us ++ ws ++ ds)))
section
variable {X : Cx} {C : Ct} {M : List Nat} {CX : CXT} {k n : Nat} {f : Addr} {fd : FuncData} {ps ks : List Str} {dvs : List V} {ds : List Value} {x : Str} {p pos kpos : Pos} {e : Expr} {es : List Expr} {kws : List Keyword} {m : List PyData → T PyData} {mk1 : Env → T PyData} {ms mk : Env → T (List PyData)} {dd : List PyData} {idx : List Nat} {nm : Option Str} {j l : Nat}
theorem mk_nil : PK X [] (tL X.K C M fun _ => .ret []) := ⟨fun pos pins s σ H Q I ⟨en, g, ρ, mi, w⟩ => pk_nil.run pos pins s σ H Q I (w [] g H (.refl mi.ok) rfl .nil)⟩
theorem mk_cons (ha : PE X e (tM X.K C M mk1)) (hr : PK X kws (tL X.K C M mk)) : PK X (⟨nm, e, kpos⟩ :: kws) (tL X.K C M fun ρ => do let x ← mk1 ρ; let r ← mk ρ; .ret (x :: r)) := by
  refine ⟨fun pos pins s σ H Q I h => (pk_cons ha hr).run pos pins s σ H Q I ?_⟩
  obtain ⟨en, g, ρ, mi, w⟩ := h
  refine ⟨en, g, ρ, mi, T.wp_mono (T.wp_bind.mp w) (fun d b1 w2 v g1 H1 st eb r => ⟨en, g1, ρ, mi.step st, ?_⟩) fun _ _ _ z => z⟩
  rw [eb, st.dk]
  refine T.wp_mono (T.wp_bind.mp w2) (fun ds b2 w3 vs g2 H2 st2 eb2 r2 => ?_) fun _ _ _ z => z
  exact w3 _ g2 H2 (st.trans st2) eb2 (.cons (r.step st2) r2)
theorem kb_run {pins : List (Addr × Obj)} {σ : L2.St} {H : Hp} {s : Shared} {Q : VK} {us ws : List Value} {vs zs : List V} (F : FnG X.prog X.w X.K X.mg X.base CX k f fd ps (spM X.K C.cls j m)) (hr : RoomG k X.A) (hb : KB X.K fd ps n ks idx ds) (hd : Vals dvs ds) (hx : Passes CX X C.E)
    (I : Inv X pins σ H s) (r : Vals vs us) (rz : Vals zs ws) (hu : us.length = n) (hw : ws.length = ks.length) (h : spM X.K C.cls j m (pick idx (vs ++ zs ++ dvs)) H Q C.E) : wpAny (model X.prog X.w) X.A (call (.ref f) us (ks.zip ws)) (EP X pins σ Q) X.xe s := by
  exact call_run F hr hx I (hb s us ws I.kIn hu hw) (Vals.pick' ((r.append rz).append hd) idx) h
/-- f(k = e, ..) -/
theorem me_callK0 (F : FnG X.prog X.w X.K X.mg X.base CX k f fd ps (spM X.K C.cls j m)) (hr : RoomG k X.A) (hg : Gl X x) (hm : X.mg x = some (.ref f)) (hk : PySem.W.keepIn X.K (.ref f) = true) (hb : KB X.K fd ps 0 ks idx ds) (hd : Vals dvs ds) (hdd : ∀ g, RepAll X.K g dvs dd) (hx : Passes CX X C.E)
    (hlk : ∀ ρ b Q E, (mk ρ).wp b Q E → (mk ρ).wp b (fun xs b' => xs.length = l ∧ Q xs b') E) (hl : l = ks.length) (hj : ∀ xs : List PyData, xs.length = l → (pick idx (xs ++ dd)).length = j)
    (hkw : PK X kws (tL X.K C M mk)) (hall : (backToKw pos (keywordEach kws X.env)).all (·.1.isSome) = true) (hks : (backToKw pos (keywordEach kws X.env)).filterMap (·.1) = ks) (hpl : ((backTo pos (starEach [] X.env)).any (·.1) || (backToKw pos (keywordEach kws X.env)).any (·.1.isNone)) = false)
    (hdb : (x == ("__debug__" : Str)) = false) : PE X (.Call (.Name x p) [] kws pos) (tM X.K C M fun ρ => do let ys ← mk ρ; m (pick idx (ys ++ dd))) := by
  refine ⟨fun pins s σ H Q I h => ?_⟩
  obtain ⟨en, g, ρ, mi, w⟩ := h
  refine wpAny_Call_Name_kw (ld_glob I hg hm ?_ hdb)
  refine PySem.W.callWith_KW0 (h₀ := X.base) I.ok.mod.kin hk hall ?_ hpl
  have q : tL X.K C M mk σ H fun zs H2 => zs.length = l ∧ spM X.K C.cls j m (pick idx (zs ++ dvs)) H2 Q C.E := by
    refine ⟨en, g, ρ, mi, T.wp_mono (hlk _ _ _ _ (T.wp_bind.mp w)) (fun xs b1 w2 vs g1 H1 st eb r => ⟨by rw [r.length]; exact w2.1, ?_⟩) fun _ _ _ z => z⟩
    have ra := RepAll.pick' (r.append (hdd g1)) idx
    exact call_wp mi st eb ra (by rw [ra.length]; exact hj xs w2.1) w2.2
  refine thn (hkw.run pos pins s σ H _ I q) fun ws s2 ⟨zs, H2, I2, rz, hz, q2⟩ => ⟨I2.kIn, ?_⟩
  rw [hks]
  exact kb_run (vs := []) (us := []) F hr hb hd hx I2 .nil rz rfl (by rw [← rz.length, hz, hl]) q2
/-- f(e, .., k = e, ..) -/
theorem me_callK {le : Nat} (F : FnG X.prog X.w X.K X.mg X.base CX k f fd ps (spM X.K C.cls j m)) (hr : RoomG k X.A) (hg : Gl X x) (hm : X.mg x = some (.ref f)) (hk : PySem.W.keepIn X.K (.ref f) = true) (hb : KB X.K fd ps le ks idx ds) (hd : Vals dvs ds) (hdd : ∀ g, RepAll X.K g dvs dd) (hx : Passes CX X C.E)
    (hla : ∀ ρ b Q E, (ms ρ).wp b Q E → (ms ρ).wp b (fun xs b' => xs.length = le ∧ Q xs b') E) (hlk : ∀ ρ b Q E, (mk ρ).wp b Q E → (mk ρ).wp b (fun xs b' => xs.length = l ∧ Q xs b') E) (hl : l = ks.length)
    (hj : ∀ ys xs : List PyData, ys.length = le → xs.length = l → (pick idx (ys ++ xs ++ dd)).length = j)
    (ha : PA X (e :: es) (tL X.K C M ms)) (hkw : PK X kws (tL X.K C M mk)) (hall : (backToKw pos (keywordEach kws X.env)).all (·.1.isSome) = true) (hks : (backToKw pos (keywordEach kws X.env)).filterMap (·.1) = ks)
    (hpl : ((backTo pos (starEach (e :: es) X.env)).any (·.1) || (backToKw pos (keywordEach kws X.env)).any (·.1.isNone)) = false) (he : starEach (e :: es) X.env = (false, eval e X.env) :: starEach es X.env)
    (hdb : (x == ("__debug__" : Str)) = false) : PE X (.Call (.Name x p) (e :: es) kws pos) (tM X.K C M fun ρ => do let xs ← ms ρ; let ys ← mk ρ; m (pick idx (xs ++ ys ++ dd))) := by
  refine ⟨fun pins s σ H Q I h => ?_⟩
  obtain ⟨en, g, ρ, mi, w⟩ := h
  refine wpAny_Call_Name_kw (ld_glob I hg hm ?_ hdb)
  have q : tL X.K C M ms σ H fun vs H1 => vs.length = le ∧ tL X.K C M mk σ H1 fun zs H2 => zs.length = l ∧ spM X.K C.cls j m (pick idx (vs ++ zs ++ dvs)) H2 Q C.E := by
    refine ⟨en, g, ρ, mi, T.wp_mono (hla _ _ _ _ (T.wp_bind.mp w)) (fun ys b1 w2 vs g1 H1 st eb r => ⟨by rw [r.length]; exact w2.1, en, g1, ρ, mi.step st, ?_⟩) fun _ _ _ z => z⟩
    rw [eb, st.dk]
    refine T.wp_mono (hlk _ _ _ _ (T.wp_bind.mp w2.2)) (fun xs b2 w3 zs g2 H2 st2 eb2 r2 => ⟨by rw [r2.length]; exact w3.1, ?_⟩) fun _ _ _ z => z
    have ra := RepAll.pick' (((r.step st2).append r2).append (hdd g2)) idx
    exact call_wp mi (st.trans st2) eb2 ra (by rw [ra.length]; exact hj ys xs w2.1 w3.1) w3.2
  refine PySem.W.callWith_KW (h₀ := X.base) I.ok.mod.kin hk hall (thn (ha.run pos pins s σ H _ I q) fun us s1 ⟨vs, H1, I1, r, hv, q1⟩ => ?_) hpl he
  refine thn (hkw.run pos pins s1 σ H1 _ I1 q1) fun ws s2 ⟨zs, H2, I2, rz, hz, q2⟩ => ⟨I2.kIn, ?_⟩
  rw [hks]
  exact kb_run (us := us) F hr hb hd hx I2 r rz (by rw [← r.length, hv]) (by rw [← rz.length, hz, hl]) q2
end
/-! ### defs of the text -/
section
variable {P : Program} {w : World} {K : PySem.W.Frag} {mg : Str → Option Value} {base : Heap} {x qual : Str} {params : Arguments} {body : List Stmt} {scope : Scope} {dvs : List V} {kws : List (Str × V)} {f : Addr} {fd : FuncData}
/-- a def that lets no exception out, by its mirror -/
theorem fnM {cls : Str → Value} {N ps : List Str} {k n : Nat} {M' Mb : List Nat} {ms : Env → T Out} (F : FunD K x qual params body scope dvs kws f fd) (S : FnScope N ps scope) (hn : n = ps.length)
    (hbody : ∀ (cdv : Value) (A : Around) (outer : List PySem.Env) (s : Shared) (H : Hp) (E : XK), RoomG k (A.deeper (envOfC qual scope s.heap.objs.size f cdv)) → PSs (cxOf CX0 P w K mg base N qual scope f cdv A outer s H E).nox body (tS K ⟨cls, fun _ _ _ => False⟩ [] M' Mb ms)) :
    FnG P w K mg base CX0 (k + 1) f fd ps (spM K cls n (fun ds => nox (bodyT n N.length ms ds))) := by
  obtain ⟨oc, od, dV, kV, doc, pm, an, cdv, ct, osl, rfl, lk, hcd, _, _⟩ := F.ex
  refine fnG_of lk hcd S (fun ⟨_, _, h, _⟩ => h.trans hn) fun {A outer s H vs Q E} hr hsp => ⟨_, PSs.nox (hbody cdv A outer s H E hr), ?_⟩
  obtain ⟨g, ds, h1, h2, h3, h4⟩ := hsp
  exact body_sp (E := fun _ _ _ => False) ⟨g, ds, h1, h2, h3, nox_wp h4⟩
/-- how the keywords of a def without defaults bind -/
theorem kb_of {ps ks : List Str} {idx : List Nat} {n : Nat} (F : FunD K x qual params body scope [] kws f fd)
    (h : ∀ (kV doc pm : Value) (an : Option Addr) (cdv ct : Value) (us ws : List Value), us.length = n → ws.length = ks.length → bindArgs (PySem.W.fnOf x qual params body scope .none kV doc pm an cdv ct) ⟨us, ks.zip ws⟩ = pure (ps.zip (pick idx (us ++ ws ++ [])))) : KB K fd ps n ks idx [] := by
  obtain ⟨oc, od, dV, kV, doc, pm, an, cdv, ct, osl, rfl, lk, hcd, hD, hK⟩ := F.ex
  rcases hD with ⟨_, rfl⟩ | ⟨e, _⟩
  · exact fun s us ws _ hu hw => .of_eq (h kV doc pm an cdv ct us ws hu hw)
  · exact absurd rfl e
end
/-! ### draws -/
def drawT (f : Nat) : List PyData → T PyData
  | [.dict [(.none, .int k)], .int n] => if k = f then .draw n fun r => .ret (.int r) else .stuck
  | _ => .stuck
theorem zip_none {ks : List PyData} {ds : List PyData} {k : Int} (h : ks.zip ds = [(.none, .int k)]) : ∃ r, ks = .none :: r := by
  cases ks with
  | nil => exact nomatch h
  | cons a r => cases ds with
    | nil => exact nomatch h
    | cons b t =>
      simp only [List.zip_cons_cons, List.cons.injEq, Prod.mk.injEq] at h
      exact ⟨r, by rw [h.1.1]⟩
theorem Rep.dk_inv {K : PySem.W.Frag} {g : G} {v : V} {k : Int} (r : Rep K g v (.dict [(.none, .int k)])) : ∃ d, g.dk = some d ∧ v = .ref d.p ∧ k = d.form := by
  generalize hd : PyData.dict [(.none, .int k)] = D at r
  cases r with
  | dK h l q =>
    injection hd with hd
    obtain ⟨r, e⟩ := zip_none hd.symm
    rename_i ks _ _
    cases ks with
    | nil => exact nomatch e
    | cons a b =>
      simp only [List.map_cons, List.cons.injEq] at e
      cases a <;> exact nomatch e.1
  | dT h l q =>
    injection hd with hd
    obtain ⟨r, e⟩ := zip_none hd.symm
    rename_i ks _ _
    cases ks with
    | nil => exact nomatch e
    | cons a b =>
      simp only [List.map_cons, List.cons.injEq] at e
      exact nomatch e.1
  | dk h =>
    unfold dkD at hd
    injection hd with hd
    simp at hd
    exact ⟨_, h, rfl, hd⟩
  | _ => exact nomatch hd
/-- what a law's draw is to keep: from a deck with b + 1 draws left, any number below n, and a deck with b left -/
def spDraw (f : Nat) : Sp := fun vs H Q _ => ∃ (d : Dk) (n : Int) (b : Nat), vs = [.ref d.p, .int n] ∧ d.form = f ∧ 0 < n ∧ n < 1073741824 ∧ d.ok (b + 1) H ∧
  ∀ (r : Int) (H' : Hp), 0 ≤ r → r < n → d.ok b H' → (∀ a, ¬ d.own a → H a ≠ none → H' a = H a) → Q (.int r) H'
theorem draw_ok {P : Program} {w : World} {K : PySem.W.Frag} {mg : Str → Option Value} {base : Heap} {CX : CXT} {cls : Str → Value} {k : Nat} {f : Addr} {fd : FuncData} {ps : List Str} {fm : Nat} (hp : ps.length = 2) (F : FnOk P w K mg base CX k f fd ps (spDraw fm)) : FnG P w K mg base CX k f fd ps (spM K cls 2 (drawT fm)) := by
  refine (FnG.of F).imp fun vs H Q E h => ?_
  obtain ⟨g, ds, hl, ok, r, w⟩ := h
  unfold drawT at w
  split at w
  · rename_i kk n
    split at w
    · rename_i ek
      obtain ⟨v, vr, rfl, r1, rr⟩ := r.cons_inv
      obtain ⟨v2, vr2, rfl, r2, rr2⟩ := rr.cons_inv
      cases rr2
      obtain ⟨d, hd, rfl, hk⟩ := r1.dk_inv
      obtain ⟨⟨h0, h1⟩, b, eb, w⟩ := w
      refine ⟨d, n, b, by rw [r2.int_inv], by omega, h0, h1, eb ▸ ok.dok d hd, fun r H' hr0 hr1 hok keep => ?_⟩
      have dkf : ∀ a, g.isDk a ↔ d.own a := fun a => ⟨fun ⟨d', e', o⟩ => by rw [hd] at e'; cases e'; exact o, fun o => ⟨d, hd, o⟩⟩
      refine w r hr0 hr1 (.int r) { g with b := b } H' ⟨fun _ _ e => e, ⟨fun a o e => ?_, ok.dkf, fun d' e' => ?_⟩, rfl, fun a o e n => ?_, fun _ q => .inl q⟩ rfl (.int r)
      · have nd : ¬ d.own a := fun z => by rw [ok.dkf a ((dkf a).mpr z)] at e; cases e
        rw [keep a nd (by rw [ok.sub _ _ e]; simp)]; exact ok.sub _ _ e
      · have e' : g.dk = some d' := e'
        rw [hd] at e'; cases e'; exact hok
      · rw [keep a (fun z => n ((dkf a).mpr z)) (by rw [e]; simp)]; exact e
    · exact w.elim
  · exact w.elim
end R

set_option Elab.async false
set_option linter.all false
set_option maxRecDepth 100000
set_option maxHeartbeats 1000000
/-! R9: short forms. -/
namespace R
open PySem PySem.Spec L2
open PyProof.Rows hiding St
/-- a def of the text that stands, with its mirror -/
structure Cal (P : Program) (w : World) (K : PySem.W.Frag) (mg : Str → Option Value) (base : Heap) (CX : CXT) (cls : Str → Value) (x : Str) (st : Stmt) (kws : List (Str × V)) (k n : Nat) (ps : List Str) (m : List PyData → T PyData) : Prop where
  ex : ∃ (f : Addr) (fd : FuncData), FnG P w K mg base CX k f fd ps (spM K cls n m) ∧ mg x = some (.ref f) ∧ FunD K x x (defArgs st) (defBody st) (defScope st) [] kws f fd
section
variable {X : Cx} {C : Ct} {M : List Nat} {CX : CXT} {k n k' : Nat} {ps ks : List Str} {x : Str} {st : Stmt} {p pos : Pos} {e : Expr} {es : List Expr} {kws : List Keyword} {m : List PyData → T PyData} {ms mk : Env → T (List PyData)} {idx : List Nat} {l j : Nat}
theorem app_nil_m {ms : Env → T (List PyData)} {m : List PyData → T PyData} (ρ : Env) : (do let xs ← ms ρ; m (xs ++ [])) = (do let xs ← ms ρ; m xs) := by simp
/-- f(e, ..) -/
theorem mc (c : Cal X.prog X.w X.K X.mg X.base CX C.cls x st [] k n ps m) (hr : RoomG k' X.A) (hk : k ≤ k') (hx : Passes CX X C.E) (hb : ∀ (kV doc pm : Value) (an : Option Addr) (cdv ct : Value) (us : List Value), us.length = ps.length → bindArgs (PySem.W.fnOf x x (defArgs st) (defBody st) (defScope st) .none kV doc pm an cdv ct) ⟨us, []⟩ = pure (ps.zip us))
    (hn : (e :: es).length = n) (hl : ∀ ρ b Q E, (ms ρ).wp b Q E → (ms ρ).wp b (fun xs b' => xs.length = (e :: es).length ∧ Q xs b') E) (hg : Gl X x) (ha : PA X (e :: es) (tL X.K C M ms)) (hdb : (x == ("__debug__" : Str)) = false) (he : starEach (e :: es) X.env = (false, eval e X.env) :: starEach es X.env) (hpl : (backTo pos (starEach es X.env)).any (·.1) = false) :
    PE X (.Call (.Name x p) (e :: es) [] pos) (tM X.K C M fun ρ => do let xs ← ms ρ; m xs) := by
  obtain ⟨f, fd, F, hm, D⟩ := c.ex
  have h := me_call (dd := []) F (hr.mono hk) hg hm D.kp (D.bindsN hb) (dvs := []) .nil (fun _ => .nil) hx (by simpa using hn) hl ha hdb he hpl (M := M) (p := p)
  simpa only [List.append_nil] using h
/-- f(k = e, ..) -/
theorem mck0 (c : Cal X.prog X.w X.K X.mg X.base CX C.cls x st [] k n ps m) (hr : RoomG k' X.A) (hk : k ≤ k') (hx : Passes CX X C.E) (idx : List Nat) (ks : List Str) (hb : ∀ (kV doc pm : Value) (an : Option Addr) (cdv ct : Value) (us ws : List Value), us.length = 0 → ws.length = ks.length → bindArgs (PySem.W.fnOf x x (defArgs st) (defBody st) (defScope st) .none kV doc pm an cdv ct) ⟨us, ks.zip ws⟩ = pure (ps.zip (pick idx (us ++ ws ++ []))))
    (hlk : ∀ ρ b Q E, (mk ρ).wp b Q E → (mk ρ).wp b (fun xs b' => xs.length = l ∧ Q xs b') E) (hl : l = ks.length) (hj : ∀ xs : List PyData, xs.length = l → (pick idx (xs ++ [])).length = n) (hg : Gl X x)
    (hkw : PK X kws (tL X.K C M mk)) (hall : (backToKw pos (keywordEach kws X.env)).all (·.1.isSome) = true) (hks : (backToKw pos (keywordEach kws X.env)).filterMap (·.1) = ks) (hpl : ((backTo pos (starEach [] X.env)).any (·.1) || (backToKw pos (keywordEach kws X.env)).any (·.1.isNone)) = false)
    (hdb : (x == ("__debug__" : Str)) = false) : PE X (.Call (.Name x p) [] kws pos) (tM X.K C M fun ρ => do let ys ← mk ρ; m (pick idx ys)) := by
  obtain ⟨f, fd, F, hm, D⟩ := c.ex
  have h := me_callK0 (dd := []) F (hr.mono hk) hg hm D.kp (kb_of D hb) (dvs := []) .nil (fun _ => .nil) hx hlk hl hj hkw hall hks hpl hdb (M := M) (p := p)
  simpa only [List.append_nil] using h
variable {a b : Expr} {ma mb : Env → T PyData}
theorem boot_len' : bootBuiltins "len" = some (.builtin "len") := by decide +kernel
theorem boot_tuple' : bootBuiltins "tuple" = some (.type "tuple") := by decide +kernel
theorem boot_list' : bootBuiltins "list" = some (.type "list") := by decide +kernel
theorem boot_repr' : bootBuiltins "repr" = some (.builtin "repr") := by decide +kernel
theorem boot_sum' : bootBuiltins "sum" = some (.builtin "sum") := by decide +kernel
theorem boot_max' : bootBuiltins "max" = some (.builtin "max") := by decide +kernel
theorem boot_min' : bootBuiltins "min" = some (.builtin "min") := by decide +kernel
theorem boot_int' : bootBuiltins "int" = some (.type "int") := by decide +kernel
theorem boot_str' : bootBuiltins "str" = some (.type "str") := by decide +kernel
theorem boot_isi' : bootBuiltins "isinstance" = some (.builtin "isinstance") := by decide +kernel
theorem boot_ty : ∀ t : Ty, bootBuiltins (Str.ofString t.n) = some (.type t.n) := by
  intro t
  cases t <;> (show bootBuiltins (Str.ofString _) = some _; decide +kernel)
def len'D (d : PyData) : T PyData := match d with | .dict _ => .stuck | d => lenD d
theorem me_len (hg : Gl X "len") (hm : X.mg "len" = none) (ha : PE X a (tR X.K C M ma)) (he : starEach [a] X.env = [(false, eval a X.env)]) : PE X (.Call (.Name "len" p) [a] [] pos) (tM X.K C M fun ρ => do let x ← ma ρ; len'D x) := me_b1 (call_len_seq.or call_len_str) len1 hg hm boot_len' ha (by decide) (by decide) he
theorem me_tuple (hg : Gl X "tuple") (hm : X.mg "tuple" = none) (ha : PE X a (tR X.K C M ma)) (he : starEach [a] X.env = [(false, eval a X.env)]) : PE X (.Call (.Name "tuple" p) [a] [] pos) (tM X.K C M fun ρ => do let x ← ma ρ; tupleD x) := me_t1 call_tuple_of tuple1 hg hm boot_tuple' ha (by decide) (by decide) he
theorem me_list (hg : Gl X "list") (hm : X.mg "list" = none) (ha : PE X a (tR X.K C M ma)) (he : starEach [a] X.env = [(false, eval a X.env)]) : PE X (.Call (.Name "list" p) [a] [] pos) (tF X.K C M fun ρ => do let x ← ma ρ; listD x) := mf_list hg hm boot_list' ha he
theorem me_repr (hG : RoomG k' X.A) (hg : Gl X "repr") (hm : X.mg "repr" = none) (ha : PE X a (tR X.K C M ma)) (he : starEach [a] X.env = [(false, eval a X.env)]) : PE X (.Call (.Name "repr" p) [a] [] pos) (tM X.K C M fun ρ => do let x ← ma ρ; reprD x) :=
  me_b1 (call_reprD hG.g (by have := hG.r.un; omega)) repr1 hg hm boot_repr' ha (by decide) (by decide) he
theorem me_sum (hc : X.calm = true) (hg : Gl X "sum") (hm : X.mg "sum" = none) (ha : PE X a (tR X.K C M ma)) (he : starEach [a] X.env = [(false, eval a X.env)]) : PE X (.Call (.Name "sum" p) [a] [] pos) (tM X.K C M fun ρ => do let x ← ma ρ; sumD x) := me_b1 (cr_sum hc) sum1 hg hm boot_sum' ha (by decide) (by decide) he
theorem me_intc (hg : Gl X "int") (hm : X.mg "int" = none) (ha : PE X a (tR X.K C M ma)) (he : starEach [a] X.env = [(false, eval a X.env)]) : PE X (.Call (.Name "int" p) [a] [] pos) (tM X.K C M fun ρ => do let x ← ma ρ; intD x) := me_t1 call_int1 int1 hg hm boot_int' ha (by decide) (by decide) he
theorem me_strc (hg : Gl X "str") (hm : X.mg "str" = none) (ha : PE X a (tR X.K C M ma)) (he : starEach [a] X.env = [(false, eval a X.env)]) : PE X (.Call (.Name "str" p) [a] [] pos) (tM X.K C M fun ρ => do let x ← ma ρ; strD x) := me_t1 call_str_int str1 hg hm boot_str' ha (by decide) (by decide) he
theorem me_max (hc : X.calm = true) (hg : Gl X "max") (hm : X.mg "max" = none) (ha : PE X a (tR X.K C M ma)) (hb : PE X b (tR X.K C M mb)) (he : starEach [a, b] X.env = (false, eval a X.env) :: starEach [b] X.env) (he2 : starEach [b] X.env = [(false, eval b X.env)]) : PE X (.Call (.Name "max" p) [a, b] [] pos) (tM X.K C M fun ρ => do let x ← ma ρ; let y ← mb ρ; max2D x y) := me_b2 (call_max2 hc) max2 hg hm boot_max' ha hb (by decide) (by decide) he he2
theorem me_min (hc : X.calm = true) (hg : Gl X "min") (hm : X.mg "min" = none) (ha : PE X a (tR X.K C M ma)) (hb : PE X b (tR X.K C M mb)) (he : starEach [a, b] X.env = (false, eval a X.env) :: starEach [b] X.env) (he2 : starEach [b] X.env = [(false, eval b X.env)]) : PE X (.Call (.Name "min" p) [a, b] [] pos) (tM X.K C M fun ρ => do let x ← ma ρ; let y ← mb ρ; min2D x y) := me_b2 (call_min2 hc) min2 hg hm boot_min' ha hb (by decide) (by decide) he he2
theorem me_isi (t : Ty) {p' : Pos} (hg : Gl X "isinstance") (hm : X.mg "isinstance" = none) (hg' : Gl X (Str.ofString t.n)) (hm' : X.mg (Str.ofString t.n) = none) (ha : PE X a (tR X.K C M ma)) (he : starEach [a, .Name (Str.ofString t.n) p'] X.env = (false, eval a X.env) :: starEach [.Name (Str.ofString t.n) p'] X.env) :
    PE X (.Call (.Name "isinstance" p) [a, .Name (Str.ofString t.n) p'] [] pos) (tM X.K C M fun ρ => do let x ← ma ρ; bV (isaT t x)) := me_isa t hg hm boot_isi' hg' hm' (boot_ty t) (by cases t <;> decide) (by cases t <;> decide) ha he
def addI : PyData → PyData → T PyData
  | .int a, .int b => .ret (.int (a + b))
  | _, _ => .stuck
theorem addI2 {K : PySem.W.Frag} : Op2 K (rI0 fun i j => .int (i + j)) addI := by
  intro g H x y d e Q E ok bx by' w
  cases d <;> first | exact w.elim | (cases e <;> first | exact w.elim | exact ⟨_, _, bx.int, by'.int, w _ g H (.refl ok) rfl (.int _)⟩)
end
end R

set_option Elab.async false
set_option linter.all false
set_option maxRecDepth 100000
set_option maxHeartbeats 1000000
/-! R10: sorting. -/
namespace R
open PySem PySem.Spec L2
open PyProof.Rows hiding St
open PySem.W (alike AllAlike Sortable dataLe dataLt EachIs)
def isTup1 : PyData → Bool
  | .tuple (_ :: _) => true
  | _ => false
def noTup : PyData → Bool
  | .tuple _ => false
  | .none => false
  | _ => true
def sortOk (xs : List PyData) : Bool := xs.all (fun x => xs.all fun y => alike x y) && (xs.all isTup1 || xs.all noTup) && xs.all (fun x => decide (x.depth ≤ 64)) && decide (xs.length ≤ sizeLine)
def sortL (xs : List PyData) : List PyData := xs.mergeSort (dataLe false fun x => x)
def sortD : PyData → T PyData
  | .list xs => need (sortOk xs) (.ret (.list (sortL xs)))
  | _ => .stuck
theorem sortOk_inv {xs : List PyData} (h : sortOk xs = true) : AllAlike xs ∧ Sortable xs ∧ (∀ x ∈ xs, x.depth ≤ 64) ∧ xs.length ≤ sizeLine := by
  unfold sortOk at h
  simp only [Bool.and_eq_true, Bool.or_eq_true, List.all_eq_true, decide_eq_true_eq] at h
  obtain ⟨⟨⟨h1, h2⟩, h3⟩, h4⟩ := h
  refine ⟨h1, ?_, h3, h4⟩
  rcases h2 with h2 | h2
  · left
    intro d hd
    have := h2 d hd
    cases d with
    | tuple ys => cases ys with
      | nil => simp [isTup1] at this
      | cons a b => exact ⟨a, b, rfl⟩
    | _ => simp [isTup1] at this
  · right
    intro d hd
    have := h2 d hd
    cases d <;> first | (simp [noTup] at this; done) | exact ⟨(fun z => nomatch z), (fun _ z => nomatch z)⟩
theorem each_zip {K : PySem.W.Frag} {vs : List V} {us : List Value} {ds : List PyData} (r : Vals vs us) (hl : vs.length = ds.length) : EachIs (fun (u : Value) (b : V × PyData) => RelV b.1 u) us (vs.zip ds) := by
  induction vs generalizing us ds with
  | nil => cases r; exact .nil
  | cons v vs ih =>
    cases r with
    | cons r1 r2 => cases ds with
      | nil => exact nomatch hl
      | cons d ds => exact .cons r1 (ih r2 (by simpa using hl))
theorem each_reads {h : Heap} {us : List Value} {ds : List PyData} {as : List Addr} (r : ReadsAll h us ds as) : ∀ {vs : List V}, vs.length = ds.length → EachIs (fun (u : Value) (b : V × PyData) => ∃ as, Reads h u b.2 as) us (vs.zip ds) := by
  induction us generalizing ds as with
  | nil => intro vs hl; cases r; cases vs with
    | nil => exact .nil
    | cons _ _ => exact nomatch hl
  | cons u us ih => intro vs hl; cases r with
    | cons r1 r2 => cases vs with
      | nil => exact nomatch hl
      | cons v vs => exact .cons ⟨_, r1⟩ (ih r2 (by simpa using hl))
theorem vals_of_each {us : List Value} {bs : List (V × PyData)} (e : EachIs (fun (u : Value) (b : V × PyData) => RelV b.1 u) us bs) : Vals (bs.map (·.1)) us := by
  induction e with
  | nil => exact .nil
  | cons r _ ih => exact .cons r ih
theorem repAll_pairs {K : PySem.W.Frag} {g : G} {vs : List V} {ds : List PyData} (r : RepAll K g vs ds) : ∀ b ∈ vs.zip ds, Rep K g b.1 b.2 := by
  induction vs generalizing ds with
  | nil => intro b hb; simp at hb
  | cons v vs ih =>
    obtain _ | ⟨r1, r2⟩ := r
    rename_i d ds
    intro b hb
    rw [List.zip_cons_cons] at hb
    rcases List.mem_cons.mp hb with rfl | hb
    · exact r1
    · exact ih r2 b hb
theorem repAll_of_pairs {K : PySem.W.Frag} {g : G} : ∀ {bs : List (V × PyData)}, (∀ b ∈ bs, Rep K g b.1 b.2) → RepAll K g (bs.map (·.1)) (bs.map (·.2))
  | [], _ => .nil
  | b :: bs, h => .cons (h b (by simp)) (repAll_of_pairs fun c hc => h c (by simp [hc]))
theorem sort_snd {vs : List V} {ds : List PyData} (hl : vs.length = ds.length) : ((vs.zip ds).mergeSort (dataLe false fun b : V × PyData => b.2)).map (·.2) = sortL ds := by
  refine (PySem.W.sort_maps (r := dataLe false fun b : V × PyData => b.2) (s := dataLe false fun x => x) (fun b : V × PyData => b.2) fun a _ b _ => rfl).trans ?_
  unfold sortL
  rw [List.map_snd_zip (by omega)]
def rSortD (K : PySem.W.Frag) : List V → Hp → VK → Prop := fun vs H Q => ∃ (a : Addr) (xs : List V) (ds : List PyData), vs = [V.ref a] ∧ SqL K H a xs ∧ DpAll K H xs ds ∧ sortOk ds = true ∧
  ∀ p, H p = none → Q (.ref p) (upd H p (.lst (((xs.zip ds).mergeSort (dataLe false fun b : V × PyData => b.2)).map (·.1))))
theorem dpAll_len {K : PySem.W.Frag} {H : Hp} : ∀ {xs : List V} {ds : List PyData}, DpAll K H xs ds → xs.length = ds.length
  | _, _, .nil => rfl
  | _, _, .cons _ t => by simp [dpAll_len t]
variable {X : Cx}
theorem cr_sortD (hu : X.A.units + 70 < cLine) : CallR X (.builtin "sorted") (rSortD X.K) := by
  intro pins s σ H vs us Q I r h
  obtain ⟨a, xs, ds, rfl, hs, hd, hk, q⟩ := h
  obtain ⟨its, rv, hl, hz⟩ := I.list hs
  rw [Vals.ref1 r]
  obtain ⟨h1, h2, h3, h4⟩ := sortOk_inv hk
  have len := dpAll_len hd
  obtain ⟨as, rd⟩ := Dp.readsAll I ds xs its hd rv
  have em : (xs.zip ds).map (fun b : V × PyData => b.2) = ds := List.map_snd_zip (by omega)
  refine PySem.W.sorted_data (enc := fun b : V × PyData => b.2) (R := fun u b => RelV b.1 u) (bs := xs.zip ds) hl.isList (each_zip (K := X.K) rv len) (each_reads rd len) (by rw [em]; exact h1) (by rw [em]; exact h2) (by rw [List.length_zip]; omega) (fun b hb => ?_) fun out ho he => ?_
  · have := h3 b.2 (by rw [← em]; exact List.mem_map.mpr ⟨b, hb, rfl⟩)
    omega
  · obtain ⟨ep, he'⟩ := PyProof.Rows.sortedAll_at s.heap its out.toArray
    have rv' := vals_of_each he
    refine ⟨.ref _, upd H (s.heap.objs.size + 1) (.lst _), I.laid (t' := s.toks) (fun _ _ => PyProof.Rows.sortedAll_old) (Nat.le_succ _) ⟨?_, out, ep, rv', by simpa using he'⟩, rfl, q _ (I.hok.fresh (Nat.le_succ _))⟩
    rw [List.length_map, List.length_mergeSort, List.length_zip]; omega
theorem noDict_alike : ∀ d : PyData, alike d d = true → d.hasDict = false := by
  have all : (∀ d : PyData, alike d d = true → d.hasDict = false) ∧ (∀ ds : List PyData, PySem.W.alikeAll ds ds = true → PyData.hasDictAll ds = false) := by
    constructor
    · intro d
      exact PyData.rec (motive_1 := fun d => alike d d = true → d.hasDict = false) (motive_2 := fun ds => PySem.W.alikeAll ds ds = true → PyData.hasDictAll ds = false) (motive_3 := fun _ => True) (motive_4 := fun _ => True)
        (fun _ => by simp [PyData.hasDict]) (fun _ _ => by simp [PyData.hasDict]) (fun _ _ => by simp [PyData.hasDict]) (fun _ _ => by simp [PyData.hasDict])
        (fun xs ih h => by simp only [PyData.hasDict]; exact ih (by simpa [PySem.W.alike] using h)) (fun xs ih h => by simp only [PyData.hasDict]; exact ih (by simpa [PySem.W.alike] using h))
        (fun kvs _ h => by simp [PySem.W.alike] at h) (fun _ => by simp [PyData.hasDictAll])
        (fun x xs ih1 ih2 h => by
          have h' := PySem.W.alike_all_cons h
          simp [PyData.hasDictAll, ih1 h'.1, ih2 h'.2]) trivial (fun _ _ _ _ => trivial) (fun _ _ _ _ => trivial) d
    · intro ds
      exact PyData.rec_1 (motive_1 := fun d => alike d d = true → d.hasDict = false) (motive_2 := fun ds => PySem.W.alikeAll ds ds = true → PyData.hasDictAll ds = false) (motive_3 := fun _ => True) (motive_4 := fun _ => True)
        (fun _ => by simp [PyData.hasDict]) (fun _ _ => by simp [PyData.hasDict]) (fun _ _ => by simp [PyData.hasDict]) (fun _ _ => by simp [PyData.hasDict])
        (fun xs ih h => by simp only [PyData.hasDict]; exact ih (by simpa [PySem.W.alike] using h)) (fun xs ih h => by simp only [PyData.hasDict]; exact ih (by simpa [PySem.W.alike] using h))
        (fun kvs _ h => by simp [PySem.W.alike] at h) (fun _ => by simp [PyData.hasDictAll])
        (fun x xs ih1 ih2 h => by
          have h' := PySem.W.alike_all_cons h
          simp [PyData.hasDictAll, ih1 h'.1, ih2 h'.2]) trivial (fun _ _ _ _ => trivial) (fun _ _ _ _ => trivial) ds
  exact all.1
theorem noDictAll {ds : List PyData} (h : ∀ d ∈ ds, d.hasDict = false) : PyData.hasDictAll ds = false := by
  induction ds with
  | nil => simp [PyData.hasDictAll]
  | cons d ds ih => simp [PyData.hasDictAll, h d (by simp), ih fun e he => h e (by simp [he])]
variable {C : Ct} {M : List Nat} {a : Expr} {ma : Env → T PyData} {p pos : Pos} {k' : Nat}
theorem boot_sorted' : bootBuiltins "sorted" = some (.builtin "sorted") := by decide +kernel
theorem mf_sorted (hG : RoomG k' X.A) (hg : Gl X "sorted") (hm : X.mg "sorted" = none) (ha : PE X a (tR X.K C M ma)) (he : starEach [a] X.env = [(false, eval a X.env)]) : PE X (.Call (.Name "sorted" p) [a] [] pos) (tF X.K C M fun ρ => do let x ← ma ρ; sortD x) := by
  refine (pe_callB (cr_sortD (by have := hG.r.un; omega)) hg hm boot_sorted' (pa_cons ha pa_nil he) (by decide) (by decide) he rfl).weak ?_
  rintro σ H Q ⟨en, g, ρ, mi, w⟩
  refine ⟨en, g, ρ, mi, T.wp_mono (T.wp_bind.mp w) (fun d b1 w2 v g1 H1 st eb br => ?_) fun _ _ _ z => z⟩
  cases d <;> first | exact w2.elim | skip
  rename_i xs
  obtain ⟨cc, w2⟩ := need_wp w2
  obtain ⟨q, vs, rfl, h1, r1⟩ := br.list st.ok
  have inv := sortOk_inv cc
  have nd : PyData.hasDictAll xs = false := noDictAll fun d hd => noDict_alike d (inv.1 d hd d hd)
  refine ⟨q, vs, xs, rfl, SqL.of h1, RepAll.dp' st.ok xs vs r1 nd, cc, fun l hl => ?_⟩
  refine w2 l g1 _ (st.trans (Step.laidU st.ok hl)) eb (.lst upd_same ?_) (st.none_of mi.ok hl) (st.ok.fz_none hl)
  have := repAll_of_pairs (K := X.K) (g := g1) (bs := (vs.zip xs).mergeSort (dataLe false fun b : V × PyData => b.2)) fun b hb => repAll_pairs r1 b ((List.mergeSort_perm _ _).mem_iff.mp hb)
  rw [sort_snd r1.length] at this
  exact this
end R

set_option Elab.async false
set_option linter.all false
set_option maxRecDepth 100000
set_option maxHeartbeats 1000000
/-! R11: a law's end. -/
namespace R
open PySem PySem.Spec L2
open PyProof.Rows hiding St
/-- what the law's own deck is to be made: from the script's are -/
def spDeck (K : PySem.W.Frag) (form : Nat) : Sp := fun vs H Q _ => ∃ (a : Addr) (ns : List Int), vs = [.ref a] ∧ SqL K H a (ns.map V.int) ∧ ns.length ≤ 63 ∧ (∀ z ∈ ns, Builtin.Int.intBits z ≤ 1048576) ∧
  ∀ (p q : Addr) (s : Int) (cells : List Int) (H' : Hp), H p = none → H q = none → p ≠ q → (∀ b o, H b = some o → H' b = some o) → H' p = some (dkObj form q s 0) → H' q = some (.lst (cells.map V.int)) → cells.length ≤ 63 → (∀ c ∈ cells, Builtin.Int.intBits c ≤ 2 ^ 20) → 0 ≤ s → s < 9223372036854775808 → Q (.ref p) H'
/-- the promise of the law -/
def spLaw (K : PySem.W.Frag) : Sp := fun vs H Q _ => ∃ (a : Addr) (ns : List Int), vs = [.ref a] ∧ SqL K H a (ns.map V.int) ∧ ns.length ≤ 63 ∧ (∀ z ∈ ns, Builtin.Int.intBits z ≤ 1048576) ∧ ∀ H', Q (.bl true) H'
/-- behind the deck: the rest of the law, over all draws -/
theorem law_rest {K : PySem.W.Frag} {C : Ct} {M' Mb : List Nat} {ms : Env → T Out} {form : Nat} {D : Ends} {σ : L2.St} {ρ : Env} {H' : Hp} {p q : Addr} {s : Int} {cells : List Int} (hall : (ms ρ).all fun o => o = .ret (.bool true)) (hne : p ≠ q) (h1 : H' p = some (dkObj form q s 0)) (h2 : H' q = some (.lst (cells.map V.int))) (h3 : cells.length ≤ 63) (h4 : ∀ c ∈ cells, Builtin.Int.intBits c ≤ 2 ^ 20) (h5 : 0 ≤ s) (h6 : s < 9223372036854775808)
    (hl : σ.length = ρ.length) (hv : ∀ i d, nth ρ i = some d → σ[i]? = some (some (.ref p)) ∧ d = dkD form) (hq : ∀ H', D.rt (.bl true) H') : tS K C [] M' Mb ms D σ H' := by
  let d : Dk := ⟨p, q, hne, form, (ms ρ).dep⟩
  let g : G := ⟨fun _ => none, some d, (ms ρ).dep⟩
  refine ⟨⟨H', fun _ => none⟩, g, ρ, ⟨⟨(fun a o e => nomatch e), fun _ _ => rfl, fun d' e => ?_⟩, fun _ _ e _ => e, fun _ z => absurd rfl z, (fun a o e => nomatch e), hl, fun i e h _ => ?_, (fun _ _ _ z => nomatch z), (fun _ _ _ z => nomatch z)⟩, ?_⟩
  · cases e
    exact ⟨cells, s, 0, h1, h2, h3, h4, h5, h6, Int.le_refl _, by show (0 : Int).toNat + _ ≤ _; simp [g, d]⟩
  · obtain ⟨a1, a2⟩ := hv i e h
    refine ⟨_, a1, ?_⟩
    rw [a2]
    exact .dk (d := d) rfl
  · refine T.wp_mono (T.wp_of_all hall (Nat.le_refl _)) (fun o b z => ?_) fun _ _ _ z => z.elim
    subst z
    exact fun v g' H2 _ _ _ r => by rw [r.bool_inv]; exact hq H2
/-- the law's call, at the heap behind the top -/
theorem law_goes {P : Program} {w : World} {K : PySem.W.Frag} {mg mb : Str → Option Value} {k : Nat} {fa a : Addr} {fd : FuncData} {x : Str} {s1 : Shared} {vs : List Value} {ns : List Int}
    (inK : K.In s1.heap) (gl : s1.heap.Ns mainGlobals mg) (bl : s1.heap.Ns builtinsNs mb) (bb : ∀ x : Str, x ≠ "__name__" → mb x = bootBuiltins x) (lim : s1.heap.NoLimit) (gen : s1.gens = #[]) (at_a : s1.heap.get? a = some { cls := .type "list", data := .seq vs.toArray }) (are : IntsAre vs ns) (few : ns.length ≤ 63)
    (room : RoomG k callerA) (F : ∀ base : Heap, K.In base → base.Ns mainGlobals mg → FnG P w K mg base CX0 k fa fd [x] (spLaw K)) (binds : ∀ (s : Shared) (u : Value), BindsTo s fd ⟨[u], []⟩ [(x, u)]) (bits : ∀ z ∈ ns, Builtin.Int.intBits z ≤ 1048576) :
    codeAny (model P w) callerA (.call (.ref fa) ⟨[.ref a], []⟩) (fun r s' => r = .ok (.ret (.bool true)) ∧ OldK s1.heap s'.heap ∧ s'.os = s1.os ∧ AllBare s'.gens) s1 := by
  have line : ns.length ≤ sizeLine := Nat.le_trans few (by rw [sizeLine_eq]; decide)
  have script : HOk P w (fun b => if b = a then some (.frz { cls := .type "list", data := .seq vs.toArray } (.lst (ns.map V.int))) else none) s1.heap := fun b u z => by
    by_cases e : b = a
    · subst e
      have z : some (HO.frz _ _) = some u := (if_pos rfl).symm.trans z
      cases z
      exact ⟨at_a, by rw [List.length_map]; exact line, vs, _, vals_ints are, at_a⟩
    · exact nomatch (if_neg e).symm.trans z
  -- H tells at most the script, which stays
  have from_ : ∀ H : Hp, (∀ b u, H b = some u → b = a ∧ K.lookup a = none ∧ u = .frz { cls := .type "list", data := .seq vs.toArray } (.lst (ns.map V.int))) → HOk P w H s1.heap → SqL K H a (ns.map V.int) →
      codeAny (model P w) callerA (.call (.ref fa) ⟨[.ref a], []⟩) (fun r s' => r = .ok (.ret (.bool true)) ∧ OldK s1.heap s'.heap ∧ s'.os = s1.os ∧ AllBare s'.gens) s1 := fun H only hok sq => by
    have free : ∀ {b : Addr} {o : Obj}, s1.heap.get? b = some o → (b ≠ a ∨ K.lookup a ≠ none) → H b = none := fun {b o} _ n => by
      cases q : H b with
      | none => rfl
      | some u => obtain ⟨q1, q2, _⟩ := only b u q; exact n.elim (fun z => absurd q1 z) fun z => absurd q2 z
    have dict : ∀ {b : Addr} {m : Str → Option Value}, s1.heap.Ns b m → (hidT s1.heap H).Ns b m := fun {b m} ⟨o, es, ep, e, d, r⟩ => ⟨o, es, ep, hidT_get e (free e (.inl fun z => by subst z; rw [at_a] at e; cases e; exact nomatch d)), d, r⟩
    have part : K.In (hidT s1.heap H) := fun b o e => hidT_get (inK b o e) (by
      by_cases z : b = a
      · subst z; exact free (inK _ o e) (.inr (by rw [e]; simp))
      · exact free (inK b o e) (.inl z))
    have here : Env0 P w K mg (hidT s1.heap H) callerA [] s1 H := { frames := rfl, mod := ⟨part, dict gl, ⟨mb, dict bl, bb⟩, lim.elim fun mc ⟨l1, l2⟩ => ⟨mc, dict l1, l2⟩⟩, bs := fun b o e => of_hidT e, bsz := Nat.le_of_eq (hidT_size _ _), funs := trivial, frf := (fun b hb => nomatch hb), hok := hok, bare := .of_eq gen }
    refine codeAny_mono ((F _ part (dict gl)).goes (us := [.ref a]) (vs := [.ref a]) (Q := fun v _ => v = .bl true) (E := fun _ _ _ => False) room here (binds s1 (.ref a)) (.cons rfl .nil) ⟨a, ns, rfl, sq, few, bits, fun _ => rfl⟩) fun r s' end_ => ?_
    match r, end_ with
    | .ok (.ret u), ⟨v, H', os, bare, un, hok', rel, want⟩ =>
      cases (show v = .bl true from want)
      cases (show u = .bool true from rel)
      refine ⟨rfl, OldK.of_keep fun b o e => ?_, os, bare⟩
      cases q : H b with
      | none => exact un.keep b o e q (fun z => nomatch z) (fun z => nomatch z)
      | some u =>
        obtain ⟨_, _, z⟩ := only b u q
        subst z
        have e1 := (hok b _ q).1
        rw [e] at e1; cases e1
        exact (hok' b _ (un.frzs b _ _ q)).1
  cases own : K.lookup a with
  | none => exact from_ _ (fun b u z => by
      by_cases e : b = a
      · have z : some (HO.frz _ _) = some u := (if_pos e).symm.trans z
        cases z
        exact ⟨e, own, rfl⟩
      · exact nomatch (if_neg e).symm.trans z) script (.inl (.inr ⟨_, if_pos rfl⟩))
  | some o =>
    have e := inK a o own
    rw [at_a] at e; cases e
    exact from_ (fun _ => none) (fun _ _ z => nomatch z) (fun _ _ z => nomatch z) (.inr ⟨_, vs.toArray, _, own, rfl, rfl, rfl, by rw [List.size_toArray, are.length]; exact line, by simpa using vals_ints are⟩)
/-- the end of a law row -/
theorem law_walk {l : PySem.W.OpenLaw} {k : Nat} {q : Program} {loose : List Str} {XQ : (Str → Option Value) → Heap → Prop} {YP : World → Heap → Prop} {d : DefRec} {x : Str} (most : l.most = some 63) (nod : d.params.defaults = []) (room : RoomG k callerA)
    (F : ∀ (w : World) (mg : Str → Option Value) (fa : Addr) (h : Heap), YP w h → h.Ns mainGlobals mg → mg d.name = some (.ref fa) → ∃ (K : PySem.W.Frag) (fd : FuncData), K.In h ∧ (∀ (s : Shared) (u : Value), BindsTo s fd ⟨[u], []⟩ [(x, u)]) ∧ ∀ base : Heap, K.In base → base.Ns mainGlobals mg → FnG l.prog w K mg base CX0 k fa fd [x] (spLaw K)) :
    PySem.W.WalkO q loose XQ YP l.row.toRowW d [] (fun f vs => PySem.call f vs) :=
  Att.attach_callB most nod fun w s₀ s₁ mg mb fa o pm cd doc a vs ns Gr Y ho hd hcd hmg hobj hints hlen hbits hgen =>
    let ⟨_, _, inK, binds, hF⟩ := F w mg fa _ Y Gr.T.g hmg
    law_goes inK Gr.T.g Gr.T.b Gr.T.builtins Gr.T.nolimit hgen hobj hints hlen room hF binds hbits
end R

set_option Elab.async false
set_option linter.all false
set_option maxRecDepth 100000
set_option maxHeartbeats 1000000
/-! R12: a text's constants, its law, its head. -/
namespace R
open PySem PySem.Spec L2
open PyProof.Rows hiding St
/-! ### constants -/
/-- the items of a tuple of K -/
def tupAt (K : PySem.W.Frag) : Value → Option (List Value)
  | .ref a => (match K.lookup a with
    | some ⟨.type c, _, .seq its _, _⟩ => if c = "tuple" ∧ its.size ≤ sizeLine then some its.toList else none
    | _ => none)
  | _ => none
theorem tupAt_ok {K : PySem.W.Frag} {u : Value} {us : List Value} (h : tupAt K u = some us) : ∃ a, u = .ref a ∧ ∀ (H : Hp) (vs : List V), Vals vs us → SqT K H a vs := by
  unfold tupAt at h
  split at h
  · rename_i a
    split at h
    · rename_i c d its n sl q
      split at h
      · rename_i hc
        cases h
        exact ⟨a, rfl, fun H vs r => .inr ⟨_, its, n, q, by rw [hc.1], rfl, hc.2, r⟩⟩
      · cases h
    · cases h
  · cases h
mutual
def datB (K : PySem.W.Frag) (u : Value) : PyData → Bool
  | .none => He.relB .non u
  | .bool b => He.relB (.bl b) u
  | .int i => He.relB (.int i) u
  | .str x => He.relB (.str x) u
  | .tuple ds => (match tupAt K u with
    | some us => datBs K us ds
    | none => false)
  | _ => false
def datBs (K : PySem.W.Frag) (us : List Value) : List PyData → Bool
  | [] => us.isEmpty
  | d :: ds => (match us with
    | u :: r => datB K u d && datBs K r ds
    | [] => false)
end
mutual
theorem datB_ok {K : PySem.W.Frag} {u : Value} : ∀ {d : PyData}, datB K u d = true → ∃ v, RelV v u ∧ ∀ g, Rep K g v d
  | .none, h => ⟨.non, He.relB_ok (by simpa [datB] using h), fun _ => .non⟩
  | .bool b, h => ⟨.bl b, He.relB_ok (by simpa [datB] using h), fun _ => .bl b⟩
  | .int i, h => ⟨.int i, He.relB_ok (by simpa [datB] using h), fun _ => .int i⟩
  | .str x, h => ⟨.str x, He.relB_ok (by simpa [datB] using h), fun _ => .str x⟩
  | .tuple ds, h => by
    rw [datB] at h
    split at h
    · rename_i us e
      obtain ⟨a, rfl, q⟩ := tupAt_ok e
      obtain ⟨vs, h1, h2⟩ := datBs_ok h
      exact ⟨.ref a, rfl, fun g => .tup (q _ vs h1) (h2 g)⟩
    · cases h
  | .list _, h => by simp [datB] at h
  | .dict _, h => by simp [datB] at h
theorem datBs_ok {K : PySem.W.Frag} {us : List Value} : ∀ {ds : List PyData}, datBs K us ds = true → ∃ vs, Vals vs us ∧ ∀ g, RepAll K g vs ds
  | [], h => by
    rw [datBs.eq_def] at h
    have : us = [] := by simpa using h
    subst this
    exact ⟨[], .nil, fun _ => .nil⟩
  | d :: ds, h => by
    rw [datBs.eq_def] at h
    dsimp only at h
    split at h
    · rename_i u r
      have h := (Bool.and_eq_true _ _).mp h
      obtain ⟨v, h1, h2⟩ := datB_ok h.1
      obtain ⟨vs, h3, h4⟩ := datBs_ok h.2
      exact ⟨v :: vs, .cons h1 h3, fun g => .cons (h2 g) (h4 g)⟩
    · cases h
end
def gloB (K : PySem.W.Frag) (q : Str × PyData) : Bool := match PySem.W.nsIn K mainGlobals q.1 with
  | some (some u) => datB K u q.2
  | _ => false
theorem gloB_ok {K : PySem.W.Frag} {h : Heap} {mg : Str → Option Value} (X : K.In h) (G : h.Ns mainGlobals mg) {x : Str} {d : PyData} (e : gloB K (x, d) = true) : GlD K mg x d := by
  unfold gloB at e
  split at e
  · rename_i u q
    obtain ⟨v, h1, h2⟩ := datB_ok e
    exact ⟨v, u, PySem.W.mg_of X G q, h1, h2⟩
  · cases e
def constsB (cs : List (Str × PyData)) (K : PySem.W.Frag) : Bool := cs.all (gloB K)
theorem constsB_ok {K : PySem.W.Frag} {h : Heap} {mg : Str → Option Value} (X : K.In h) (G : h.Ns mainGlobals mg) {cs : List (Str × PyData)} (e : constsB cs K = true) (i : Nat) {x : Str} {d : PyData} (hi : cs[i]? = some (x, d)) : GlD K mg x d := gloB_ok X G (List.all_eq_true.mp e _ (List.mem_of_getElem? hi))
theorem la_nil' (ρ : R.Env) (b : Nat) (Q : List PyData → Nat → Prop) (E : Str → List (Str × PyData) → Nat → Prop) (h : (T.ret [] : T (List PyData)).wp b Q E) : (T.ret [] : T (List PyData)).wp b (fun xs b' => xs.length = 0 ∧ Q xs b') E := ⟨rfl, h⟩
/-! ### a def by fuel, at none -/
theorem fnG_stuck {P : Program} {w : World} {K : PySem.W.Frag} {mg : Str → Option Value} {base : Heap} {CX : CXT} {k n : Nat} {f : Addr} {fd : FuncData} {ps : List Str} {cls : Str → Value} (hn : n = ps.length) : FnG P w K mg base CX k f fd ps (spM K cls n fun _ => .stuck) where
  many := fun ⟨_, _, h, _⟩ => h.trans hn
  goes := fun _ _ _ _ ⟨_, _, _, _, _, h⟩ => False.elim h
/-! ### the law -/
theorem law_fn {P : Program} {w : World} {K : PySem.W.Frag} {mg : Str → Option Value} {base : Heap} {x : Str} {params : Arguments} {body : List Stmt} {scope : Scope} {f : Addr} {fd : FuncData} {cls : Str → Value} {N : List Str} {y : Str} {k form : Nat} {M' Mb : List Nat} {ms : Env → T Out}
    (F : FunD K x x params body scope [] [] f fd) (S : FnScope (y :: N) [y] scope)
    (hbody : ∀ (cdv : Value) (A : Around) (outer : List PySem.Env) (s : Shared) (H : Hp) (E : XK), RoomG k (A.deeper (envOfC x scope s.heap.objs.size f cdv)) → PSs (cxOf CX0 P w K mg base (y :: N) x scope f cdv A outer s H E).nox body (tSeq (tAsg (tCall (spDeck K form) [] E0 (tCons (tVar 0) tNil)) (gName 1)) (tS K ⟨cls, fun _ _ _ => False⟩ [] M' Mb ms)))
    (hN : 1 ≤ N.length) (hall : AllE (ms (none :: some (dkD form) :: List.replicate (N.length - 1) none)) fun o => o = .ret (.bool true)) :
    FnG P w K mg base CX0 (k + 1) f fd [y] (spLaw K) := by
  obtain ⟨oc, od, dV, kV, doc, pm, an, cdv, ct, osl, rfl, lk, hcd, _, _⟩ := F.ex
  refine fnG_of lk hcd S (fun ⟨a, ns, h, _⟩ => by rw [h]; rfl) fun {A outer s H vs Q E} hr hsp => ⟨_, PSs.nox (hbody cdv A outer s H E hr), ?_⟩
  obtain ⟨a, ns, rfl, h1, h2, h3, h4⟩ := hsp
  refine ⟨.ref a, rfl, ?_⟩
  refine ⟨a, ns, rfl, h1, h2, h3, fun p q s cells H' _ _ hpq _ hp hq hc1 hc2 hs1 hs2 => ?_⟩
  refine law_rest hall.h hpq hp hq hc1 hc2 hs1 hs2 ?_ (fun i d e => ?_) h4
  · obtain ⟨z, N, rfl⟩ : ∃ z N', N = z :: N' := by cases N with | nil => simp at hN | cons z N => exact ⟨z, N, rfl⟩
    simp [L2.start]
  · obtain ⟨z, N, rfl⟩ : ∃ z N', N = z :: N' := by cases N with | nil => simp at hN | cons z N => exact ⟨z, N, rfl⟩
    match i, e with
    | 0, e => simp [nth] at e
    | 1, e =>
      have : dkD form = d := by simpa [nth] using e
      exact ⟨rfl, this.symm⟩
    | i + 2, e =>
      exfalso
      have : ∀ (n i : Nat), nth (List.replicate n none) i ≠ some d := fun n => by
        induction n with
        | zero => intro i; simp [nth]
        | succ n ih =>
          intro i
          cases i with
          | zero => simp [List.replicate, nth]
          | succ i => simpa [List.replicate, nth] using ih i
      exact this _ i (by simpa [nth] using e)
end R

set_option Elab.async false
set_option linter.all false
set_option maxRecDepth 100000
set_option maxHeartbeats 1000000
/-! R13: reading mirrors. -/
namespace R
open PySem PySem.Spec L2
section
variable {α β : Type}
theorem need_true {c : Bool} {t : T α} (h : c = true) : need c t = t := if_pos h
theorem need_dec {c : Prop} [Decidable c] {t : T α} (h : c) : need (decide c) t = t := if_pos (decide_eq_true h)
theorem bV_ret (b : Bool) : bV (.ret b) = .ret (.bool b) := rfl
/-- how a def's body ends -/
def finT : Out → T PyData
  | .ret d => .ret d
  | .nx _ => .ret .none
  | _ => .stuck
@[simp] theorem finT_ret (d : PyData) : finT (.ret d) = .ret d := rfl
@[simp] theorem finT_nx (ρ : R.Env) : finT (.nx ρ) = .ret .none := rfl
def nxT (b : R.Env → T Out) : Out → T Out
  | .nx ρ => b ρ
  | o => .ret o
@[simp] theorem nxT_nx (b : R.Env → T Out) (ρ : R.Env) : nxT b (.nx ρ) = b ρ := rfl
@[simp] theorem nxT_ret (b : R.Env → T Out) (d : PyData) : nxT b (.ret d) = .ret (.ret d) := rfl
@[simp] theorem nxT_brk (b : R.Env → T Out) (ρ : R.Env) : nxT b (.brk ρ) = .ret (.brk ρ) := rfl
@[simp] theorem nxT_ct (b : R.Env → T Out) (ρ : R.Env) : nxT b (.ct ρ) = .ret (.ct ρ) := rfl
theorem seq_eq (a b : R.Env → T Out) (ρ : R.Env) : seqT a b ρ = a ρ >>= nxT b := by
  unfold seqT
  congr 1
/-- a turn's end -/
def onT (k : R.Env → T Out) : Out → T Out
  | .nx ρ' => k ρ'
  | .ct ρ' => k ρ'
  | .brk ρ' => .ret (.nx ρ')
  | .ret d => .ret (.ret d)
@[simp] theorem onT_nx (k : R.Env → T Out) (ρ : R.Env) : onT k (.nx ρ) = k ρ := rfl
@[simp] theorem onT_ct (k : R.Env → T Out) (ρ : R.Env) : onT k (.ct ρ) = k ρ := rfl
@[simp] theorem onT_brk (k : R.Env → T Out) (ρ : R.Env) : onT k (.brk ρ) = .ret (.nx ρ) := rfl
@[simp] theorem onT_ret (k : R.Env → T Out) (d : PyData) : onT k (.ret d) = .ret (.ret d) := rfl
theorem for_nil (f : PyData → R.Env → T Out) (ρ : R.Env) : forT f [] ρ = .ret (.nx ρ) := rfl
theorem for_cons (f : PyData → R.Env → T Out) (d : PyData) (ds : List PyData) (ρ : R.Env) : forT f (d :: ds) ρ = f d ρ >>= onT (forT f ds) := by
  show (f d ρ >>= _) = _
  congr 1
theorem while_step (c : R.Env → T Bool) (b : R.Env → T Out) (n : Nat) (ρ : R.Env) : whileT c b (n + 1) ρ = c ρ >>= fun k => if k = true then b ρ >>= onT (whileT c b n) else .ret (.nx ρ) := by
  show (c ρ >>= _) = _
  congr 1
theorem getv_0 (d : PyData) (r : R.Env) : getv 0 (some d :: r) = .ret d := rfl
theorem getv_s (i : Nat) (x : Option PyData) (r : R.Env) : getv (i + 1) (x :: r) = getv i r := rfl
theorem nox_bind {t : T α} {f : α → T β} : nox (t >>= f) = nox t >>= fun a => nox (f a) := by
  show nox (t.bind f) = (nox t).bind _
  induction t with
  | ret a => rfl
  | exc c fs => rfl
  | stuck => rfl
  | draw n k ih => simp only [T.bind, nox]; congr; funext r; exact ih r
theorem nox_draw (n : Int) (k : Int → T α) : nox (.draw n k) = .draw n fun r => nox (k r) := rfl
theorem draw_eq (f : Nat) (n : Int) : drawT f [dkD f, .int n] = .draw n fun r => .ret (.int r) := if_pos rfl
/-- all over nox -/
theorem all_nox {t : T α} {Q : α → Prop} : (nox t).all Q ↔ t.all Q := by
  induction t with
  | ret a => exact Iff.rfl
  | exc c fs => exact Iff.rfl
  | stuck => exact Iff.rfl
  | draw n k ih => exact ⟨fun h => ⟨h.1, fun r a b => (ih r).mp (h.2 r a b)⟩, fun h => ⟨h.1, fun r a b => (ih r).mpr (h.2 r a b)⟩⟩
theorem eqT_ok {a b : PyData} (ha : SeqAt.shaped a = true) (hb : SeqAt.shaped b = true) : eqT a b = .ret (PyData.eqv a b) := by
  unfold eqT
  split
  · rfl
  · exact need_true (by rw [ha, hb]; rfl)
theorem neT_ok {a b : PyData} (ha : SeqAt.shaped a = true) (hb : SeqAt.shaped b = true) : neT a b = .ret (!PyData.eqv a b) := by
  unfold neT
  split
  · rfl
  · exact need_true (by rw [ha, hb]; rfl)
theorem sh_int (i : Int) : SeqAt.shaped (.int i) = true := rfl
theorem eq_int (a b : Int) : eqT (.int a) (.int b) = .ret (decide (a = b)) := by rw [eqT_ok rfl rfl]; simp only [PyData.eqv]; rfl
theorem ne_int (a b : Int) : neT (.int a) (.int b) = .ret (!decide (a = b)) := by rw [neT_ok rfl rfl]; simp only [PyData.eqv]; rfl
theorem eq_str (a b : Str) : eqT (.str a) (.str b) = .ret (a == b) := rfl
theorem ne_str (a b : Str) : neT (.str a) (.str b) = .ret (!(a == b)) := rfl
end
end R

set_option Elab.async false
set_option linter.all false
set_option maxRecDepth 100000
set_option maxHeartbeats 1000000
/-! R14: small data, loops by invariants. -/
namespace R
open PySem PySem.Spec L2
mutual
/-- ints below 10 ** 12, plain texts, no dict -/
def small : PyData → Bool
  | .none => true
  | .bool _ => true
  | .int i => decide (i.natAbs < 1000000000000)
  | .str x => PyData.strOk x
  | .list xs => smallAll xs
  | .tuple xs => smallAll xs
  | .dict _ => false
def smallAll : List PyData → Bool
  | [] => true
  | x :: r => small x && smallAll r
end
theorem smallAll_iff : ∀ xs : List PyData, smallAll xs = true ↔ ∀ x ∈ xs, small x = true
  | [] => by simp [smallAll]
  | x :: r => by simp [smallAll, smallAll_iff r]
mutual
theorem small_lay : ∀ {d : PyData}, small d = true → d.canLay0 = true
  | .none, _ => rfl
  | .bool _, _ => rfl
  | .int _, _ => rfl
  | .str x, h => by simpa [small, PyData.canLay0] using h
  | .list xs, h => by simpa [PyData.canLay0] using smallAll_lay (xs := xs) (by simpa [small] using h)
  | .tuple xs, h => by simpa [PyData.canLay0] using smallAll_lay (xs := xs) (by simpa [small] using h)
  | .dict _, h => by simp [small] at h
theorem smallAll_lay : ∀ {xs : List PyData}, smallAll xs = true → PyData.canLayAll0 xs = true
  | [], _ => rfl
  | x :: r, h => by
    have h := Bool.and_eq_true_iff.mp (show (small x && smallAll r) = true by simpa [smallAll] using h)
    simp [PyData.canLayAll0, small_lay h.1, smallAll_lay h.2]
end
mutual
theorem small_short : ∀ {d : PyData}, small d = true → d.intsShort 13 = true
  | .none, _ => rfl
  | .bool _, _ => rfl
  | .int i, h => by
    have h : i.natAbs < 1000000000000 := by simpa [small] using h
    simpa [PyData.intsShort] using PyData.shown_int_le (i := i) (by simpa using h)
  | .str x, h => rfl
  | .list xs, h => by simpa [PyData.intsShort] using smallAll_short (xs := xs) (by simpa [small] using h)
  | .tuple xs, h => by simpa [PyData.intsShort] using smallAll_short (xs := xs) (by simpa [small] using h)
  | .dict _, h => by simp [small] at h
theorem smallAll_short : ∀ {xs : List PyData}, smallAll xs = true → PyData.intsShortAll 13 xs = true
  | [], _ => rfl
  | x :: r, h => by
    have h := Bool.and_eq_true_iff.mp (show (small x && smallAll r) = true by simpa [smallAll] using h)
    simp [PyData.intsShortAll, small_short h.1, smallAll_short h.2]
end
mutual
theorem small_show : ∀ {d : PyData}, small d = true → d.showable = true ∧ d.hasDict = false
  | .none, _ => ⟨rfl, rfl⟩
  | .bool _, _ => ⟨rfl, rfl⟩
  | .int i, h => by
    have h : i.natAbs < 1000000000000 := by simpa [small] using h
    refine ⟨?_, rfl⟩
    have : i.natAbs.log2 < 1920 := by
      by_cases z : i.natAbs = 0
      · rw [z]; decide
      · rw [Nat.log2_lt z]
        exact Nat.lt_of_lt_of_le h (by decide +kernel)
    simpa [PyData.showable] using this
  | .str x, h => ⟨rfl, rfl⟩
  | .list xs, h => by simpa [PyData.showable, PyData.hasDict] using smallAll_show (xs := xs) (by simpa [small] using h)
  | .tuple xs, h => by simpa [PyData.showable, PyData.hasDict] using smallAll_show (xs := xs) (by simpa [small] using h)
  | .dict _, h => by simp [small] at h
theorem smallAll_show : ∀ {xs : List PyData}, smallAll xs = true → PyData.showableAll xs = true ∧ PyData.hasDictAll xs = false
  | [], _ => ⟨rfl, rfl⟩
  | x :: r, h => by
    have h := Bool.and_eq_true_iff.mp (show (small x && smallAll r) = true by simpa [smallAll] using h)
    have h1 := small_show h.1
    have h2 := smallAll_show h.2
    simp [PyData.showableAll, PyData.hasDictAll, h1.1, h1.2, h2.1, h2.2]
end
mutual
theorem eqv_self : ∀ {d : PyData}, small d = true → PyData.eqv d d = true
  | .none, _ => rfl
  | .bool _, _ => by simp [PyData.eqv]
  | .int _, _ => by simp [PyData.eqv]
  | .str x, h => by simp [PyData.eqv]
  | .list xs, h => by simpa [PyData.eqv] using eqvAll_self (xs := xs) (by simpa [small] using h)
  | .tuple xs, h => by simpa [PyData.eqv] using eqvAll_self (xs := xs) (by simpa [small] using h)
  | .dict _, h => by simp [small] at h
theorem eqvAll_self : ∀ {xs : List PyData}, smallAll xs = true → PyData.eqvAll xs xs = true
  | [], _ => rfl
  | x :: r, h => by
    have h := Bool.and_eq_true_iff.mp (show (small x && smallAll r) = true by simpa [smallAll] using h)
    simp [PyData.eqvAll, eqv_self h.1, eqvAll_self h.2]
end
theorem small_shaped {d : PyData} (h : small d = true) (hd : d.depth ≤ 64) : SeqAt.shaped d = true := by
  unfold SeqAt.shaped
  rw [small_lay h, decide_eq_true hd]; rfl
theorem repr_ok {d : PyData} (h : small d = true) (hd : d.depth ≤ 64) (hb : d.bulk ≤ 1048576) : reprD d = .ret (.str d.shown) := by
  have h1 := small_show h
  have h2 := PyData.shown_fits_bulk (B := 13) (by decide) (by decide) (d := d) (PyData.leavesShort_of_canLay0 13 d (small_lay h) (small_short h)) (by simpa using hb)
  refine need_true ?_
  rw [h1.1, h1.2, decide_eq_true h2, decide_eq_true (show d.depth ≤ 100 by omega)]; rfl
theorem repr_int {i : Int} (h : i.natAbs < 1000000000000) : reprD (.int i) = .ret (.str (PyData.shown (.int i))) := repr_ok (by simpa [small] using h) (by simp [PyData.depth]) (by simp [PyData.bulk])
theorem bulkAll_le {c : Nat} : ∀ {xs : List PyData}, (∀ x ∈ xs, x.bulk ≤ c) → PyData.bulkAll xs ≤ xs.length * (c + 1)
  | [], _ => by simp [PyData.bulkAll]
  | x :: r, h => by
    have h1 := h x (by simp)
    have h2 := bulkAll_le (xs := r) fun y hy => h y (by simp [hy])
    simp only [PyData.bulkAll, List.length_cons, Nat.add_mul]
    omega
theorem depthAll_le {c : Nat} : ∀ {xs : List PyData}, (∀ x ∈ xs, x.depth ≤ c) → PyData.depthAll xs ≤ c
  | [], _ => by simp [PyData.depthAll]
  | x :: r, h => by
    have h1 := h x (by simp)
    have h2 := depthAll_le (xs := r) fun y hy => h y (by simp [hy])
    simp only [PyData.depthAll]
    omega
/-! ### loops -/
theorem for_inv {f : PyData → R.Env → T Out} : ∀ {ds : List PyData} (inv : Nat → R.Env), (∀ i d, ds[i]? = some d → f d (inv i) = .ret (.nx (inv (i + 1)))) → forT f ds (inv 0) = .ret (.nx (inv ds.length))
  | [], inv, _ => rfl
  | d :: ds, inv, h => by
    rw [for_cons, h 0 d rfl, T.ret_bind, onT_nx]
    exact for_inv (fun i => inv (i + 1)) fun i e he => h (i + 1) e (by simpa using he)
theorem for_all {f : PyData → R.Env → T Out} : ∀ {ds : List PyData} {ρ : R.Env} (P : Nat → R.Env → Prop), (∀ i d ρ, ds[i]? = some d → P i ρ → AllE (f d ρ) fun o => ∃ ρ', (o = .nx ρ' ∨ o = .ct ρ') ∧ P (i + 1) ρ') → P 0 ρ → AllE (forT f ds ρ) fun o => ∃ ρ', o = .nx ρ' ∧ P ds.length ρ'
  | [], ρ, P, _, h0 => .ret ⟨ρ, rfl, h0⟩
  | d :: ds, ρ, P, h, h0 => by
    rw [for_cons]
    refine (h 0 d ρ rfl h0).bind fun o ho => ?_
    obtain ⟨ρ', ho, h1⟩ := ho
    have := for_all (ds := ds) (ρ := ρ') (fun i => P (i + 1)) (fun i e ρ he => h (i + 1) e ρ (by simpa using he)) h1
    rcases ho with rfl | rfl <;> exact this
theorem while_inv {c : R.Env → T Bool} {b : R.Env → T Out} : ∀ {m n : Nat} (inv : Nat → R.Env), m < n → (∀ i, i < m → c (inv i) = .ret true) → (∀ i, i < m → b (inv i) = .ret (.nx (inv (i + 1)))) → c (inv m) = .ret false → whileT c b n (inv 0) = .ret (.nx (inv m))
  | 0, n + 1, inv, _, _, _, h => by rw [while_step, h, T.ret_bind]; rfl
  | m + 1, n + 1, inv, hn, hc, hb, h => by
    rw [while_step, hc 0 (by omega), T.ret_bind, if_pos rfl, hb 0 (by omega), T.ret_bind, onT_nx]
    exact while_inv (m := m) (n := n) (fun i => inv (i + 1)) (by omega) (fun i hi => hc (i + 1) (by omega)) (fun i hi => hb (i + 1) (by omega)) h
theorem range_get {lo : Int} {n i : Nat} {d : PyData} (h : (rangeL lo n)[i]? = some d) : i < n ∧ d = .int (lo + i) := by
  unfold rangeL at h
  rw [List.getElem?_map] at h
  obtain ⟨j, hj, rfl⟩ := Option.map_eq_some_iff.mp h
  by_cases hi : i < n
  · rw [List.getElem?_range hi] at hj; cases hj; exact ⟨hi, rfl⟩
  · rw [List.getElem?_eq_none (by simp; omega)] at hj; cases hj
theorem range1 {j : Int} (h1 : 0 ≤ j) (h2 : j < 4611686018427387904) : range1D (.int j) = .ret (rangeL 0 j.toNat) := need_true (decide_eq_true ⟨by omega, h2⟩)
/-- a comprehension turn by turn -/
theorem lc_map {f : PyData → T (Option PyData)} (g : PyData → Option PyData) : ∀ {ds : List PyData}, (∀ d ∈ ds, f d = .ret (g d)) → lcT f ds = .ret (ds.filterMap g)
  | [], _ => rfl
  | d :: ds, h => by
    show (f d >>= fun o => lcT f ds >>= fun r => .ret _) = _
    rw [h d (by simp), T.ret_bind, lc_map g (fun e he => h e (by simp [he])), T.ret_bind, List.filterMap_cons]
    cases g d <;> rfl
end R

set_option Elab.async false
set_option linter.all false
set_option maxRecDepth 100000
set_option maxHeartbeats 1000000
/-! R15: data operations at what they are asked of. -/
namespace R
open PySem PySem.Spec L2
section
variable {α : Type} (a b : Int) (x y : Str) (xs ys : List PyData) (d e : PyData) (p q : Bool) (ρ : R.Env)
theorem asg_n (i : Nat) : asgT (.n i) d ρ = some (put ρ i d) := id rfl
theorem asg_t (ts : List Tg) : asgT (.t ts) (.tuple xs) ρ = asgTs ts xs ρ := id rfl
theorem asgs_nil : asgTs [] [] ρ = some ρ := id rfl
theorem asgs_cons (t : Tg) (ts : List Tg) : asgTs (t :: ts) (d :: xs) ρ = (asgT t d ρ).bind fun ρ' => asgTs ts xs ρ' := id rfl
theorem asgO_of {t : Tg} {ρ' : R.Env} (h : asgT t d ρ = some ρ') : asgO t d ρ = .ret (.nx ρ') := by unfold asgO; rw [h]
theorem add_int : addD (.int a) (.int b) = .ret (.int (a + b)) := id rfl
theorem add_str : addD (.str x) (.str y) = need (x.length + y.length ≤ sizeLine) (.ret (.str (x ++ y))) := id rfl
theorem add_list : addD (.list xs) (.list ys) = need (xs.length + ys.length ≤ sizeLine) (.ret (.list (xs ++ ys))) := id rfl
theorem add_tup : addD (.tuple xs) (.tuple ys) = need (xs.length + ys.length ≤ sizeLine) (.ret (.tuple (xs ++ ys))) := id rfl
theorem sub_int : subD (.int a) (.int b) = .ret (.int (a - b)) := id rfl
theorem mul_int : mulD (.int a) (.int b) = need ((-18446744073709551616 < a ∧ a < 18446744073709551616) ∨ (-18446744073709551616 < b ∧ b < 18446744073709551616)) (.ret (.int (a * b))) := id rfl
theorem fdiv_int : fdivD (.int a) (.int b) = need (0 < b ∧ b < 1073741824) (.ret (.int (a / b))) := id rfl
theorem mod_int : modD (.int a) (.int b) = need (0 < b) (.ret (.int (a % b))) := id rfl
theorem neg_int : negD (.int a) = .ret (.int (-a)) := id rfl
theorem shr_int : shrD (.int a) (.int b) = need (0 ≤ b) (.ret (.int (a / 2 ^ b.toNat))) := id rfl
theorem shl_int : shlD (.int a) (.int b) = need (0 ≤ b ∧ b ≤ 1000000 ∧ a.natAbs < 18446744073709551616) (.ret (.int (a * 2 ^ b.toNat))) := id rfl
theorem pow_int : powD (.int a) (.int b) = need (0 ≤ b ∧ b ≤ 1000000 ∧ a.natAbs < 18446744073709551616) (.ret (.int (a ^ b.toNat))) := id rfl
theorem lt_int : ltT (.int a) (.int b) = .ret (decide (a < b)) := id rfl
theorem le_int : leT (.int a) (.int b) = .ret (decide (a ≤ b)) := id rfl
theorem gt_int : gtT (.int a) (.int b) = .ret (decide (b < a)) := id rfl
theorem ge_int : geT (.int a) (.int b) = .ret (decide (b ≤ a)) := id rfl
theorem addI_int : addI (.int a) (.int b) = .ret (.int (a + b)) := id rfl
theorem tru_none : truT .none = .ret false := id rfl
theorem tru_bool : truT (.bool p) = .ret p := id rfl
theorem tru_int : truT (.int a) = .ret (a != 0) := id rfl
theorem tru_list : truT (.list xs) = .ret (!xs.isEmpty) := id rfl
theorem tru_tup : truT (.tuple xs) = .ret (!xs.isEmpty) := id rfl
theorem idx_list {i : Int} (h : atI xs i = some d) : idxD (.list xs) (.int i) = .ret d := by
  show (match atI xs i with | some d => T.ret d | none => .stuck) = _
  rw [h]
theorem idx_tup {i : Int} (h : atI xs i = some d) : idxD (.tuple xs) (.int i) = .ret d := by
  show (match atI xs i with | some d => T.ret d | none => .stuck) = _
  rw [h]
theorem idx_t0 : idxD (.tuple (d :: xs)) (.int 0) = .ret d := idx_tup _ _ (atI_nat (j := 0) rfl)
theorem idx_t1 (d1 : PyData) : idxD (.tuple (d1 :: d :: xs)) (.int 1) = .ret d := idx_tup _ _ (atI_nat (j := 1) rfl)
theorem idx_t2 (d1 d2 : PyData) : idxD (.tuple (d1 :: d2 :: d :: xs)) (.int 2) = .ret d := idx_tup _ _ (atI_nat (j := 2) rfl)
theorem idx_t3 (d1 d2 d3 : PyData) : idxD (.tuple (d1 :: d2 :: d3 :: d :: xs)) (.int 3) = .ret d := idx_tup _ _ (atI_nat (j := 3) rfl)
theorem idx_l0 : idxD (.list (d :: xs)) (.int 0) = .ret d := idx_list _ _ (atI_nat (j := 0) rfl)
theorem idx_l1 (d1 : PyData) : idxD (.list (d1 :: d :: xs)) (.int 1) = .ret d := idx_list _ _ (atI_nat (j := 1) rfl)
theorem slice_list (lo hi : Option Int) : sliceD (.list xs) lo hi = .ret (.list (cutD xs lo hi)) := id rfl
theorem slice_tup (lo hi : Option Int) : sliceD (.tuple xs) lo hi = .ret (.tuple (cutD xs lo hi)) := id rfl
theorem part_int : partT (.ret (.int a)) = .ret (some a) := id rfl
theorem max_int : max2D (.int a) (.int b) = .ret (.int (if b > a then b else a)) := id rfl
theorem min_int : min2D (.int a) (.int b) = .ret (.int (if b < a then b else a)) := id rfl
theorem items_list : itemsD (.list xs) = .ret xs := id rfl
theorem items_tup : itemsD (.tuple xs) = .ret xs := id rfl
theorem tuple_list : tupleD (.list xs) = .ret (.tuple xs) := id rfl
theorem tuple_tup : tupleD (.tuple xs) = .ret (.tuple xs) := id rfl
theorem list_list : listD (.list xs) = .ret (.list xs) := id rfl
theorem list_tup : listD (.tuple xs) = .ret (.list xs) := id rfl
theorem len_list : len'D (.list xs) = .ret (.int xs.length) := id rfl
theorem len_tup : len'D (.tuple xs) = .ret (.int xs.length) := id rfl
theorem len_str : len'D (.str x) = need (x.length ≤ sizeLine) (.ret (.int x.length)) := id rfl
theorem isa_tt : isaT .tuple (.tuple xs) = .ret true := id rfl
theorem isa_tl : isaT .tuple (.list xs) = .ret false := id rfl
theorem isa_ti : isaT .tuple (.int a) = .ret false := id rfl
theorem isa_tb : isaT .tuple (.bool p) = .ret false := id rfl
theorem isa_ts : isaT .tuple (.str x) = .ret false := id rfl
theorem isa_tn : isaT .tuple .none = .ret false := id rfl
theorem isa_ii : isaT .int (.int a) = .ret true := id rfl
theorem isa_ib : isaT .int (.bool p) = .ret true := id rfl
theorem isa_is : isaT .int (.str x) = .ret false := id rfl
theorem isa_in : isaT .int .none = .ret false := id rfl
theorem isa_il : isaT .int (.list xs) = .ret false := id rfl
theorem isa_it : isaT .int (.tuple xs) = .ret false := id rfl
theorem isa_bi : isaT .bool (.int a) = .ret false := id rfl
theorem isa_bb : isaT .bool (.bool p) = .ret true := id rfl
theorem isa_bs : isaT .bool (.str x) = .ret false := id rfl
theorem isa_bn : isaT .bool .none = .ret false := id rfl
theorem isa_bl : isaT .bool (.list xs) = .ret false := id rfl
theorem isa_bt : isaT .bool (.tuple xs) = .ret false := id rfl
theorem isa_ss : isaT .str (.str x) = .ret true := id rfl
theorem isa_si : isaT .str (.int a) = .ret false := id rfl
theorem isa_sb : isaT .str (.bool p) = .ret false := id rfl
theorem isa_sn : isaT .str .none = .ret false := id rfl
theorem isa_sl : isaT .str (.list xs) = .ret false := id rfl
theorem isa_st : isaT .str (.tuple xs) = .ret false := id rfl
theorem isa_ll : isaT .list (.list xs) = .ret true := id rfl
theorem isa_lt : isaT .list (.tuple xs) = .ret false := id rfl
theorem zip_tup : zipD (.tuple xs) (.tuple ys) = .ret (zipL xs ys) := id rfl
theorem zip_list : zipD (.list xs) (.list ys) = .ret (zipL xs ys) := id rfl
theorem enum_list : enumD (.list xs) = .ret (enumL xs) := id rfl
theorem andV_eq (t u : T PyData) : andV t u = t >>= fun d => match d with | .bool true => u | .bool false => .ret (.bool false) | _ => .stuck := id rfl
theorem app_of {i : Nat} {t : T PyData} (h : nth ρ i = some (.list xs)) : appT i t ρ = t >>= fun d => need (xs.length < sizeLine) (.ret (.nx (put ρ i (.list (xs ++ [d]))))) := by
  unfold appT
  rw [h]
end
section
variable {α : Type} {f : PyData → T (Option PyData)}
theorem lc_on (h g : α → PyData) : ∀ {xs : List α}, (∀ a ∈ xs, f (h a) = .ret (some (g a))) → lcT f (xs.map h) = .ret (xs.map g)
  | [], _ => rfl
  | a :: xs, q => by
    show (f (h a) >>= fun o => lcT f (xs.map h) >>= fun r => .ret _) = _
    rw [q a (by simp), T.ret_bind, lc_on h g (fun b hb => q b (by simp [hb])), T.ret_bind]
    rfl
theorem at_all {L : List PyData} {P : PyData → Prop} (h : ∀ d ∈ L, P d) {r : Int} (h0 : 0 ≤ r) (h1 : r < L.length) : ∃ d, atI L r = some d ∧ P d := by
  obtain ⟨n, rfl⟩ : ∃ n : Nat, r = n := ⟨r.toNat, by omega⟩
  have hn : n < L.length := by omega
  exact ⟨L[n], atI_nat (List.getElem?_eq_getElem hn), h _ (List.getElem_mem hn)⟩
theorem need_tt (t : T α) : need true t = t := rfl
end
end R

set_option Elab.async false
set_option linter.all false
set_option maxRecDepth 100000
set_option maxHeartbeats 1000000
/-! R16: more operations. -/
namespace R
open PySem PySem.Spec L2
open PyProof.Rows hiding St
section
variable {X : Cx}
/-! ### is True, is False -/
def dataV : V → Bool
  | .non => true | .bl _ => true | .int _ => true | .str _ => true | .ref _ => true | _ => false
theorem op_isB : OpR X (compareOp .Is) (fun x y H Q => ∃ b, y = .bl b ∧ dataV x = true ∧ Q (.bl (decide (x = .bl b))) H) := by
  rintro pins s σ H x y v u Q I rx ry ⟨b, rfl, hx, q⟩
  cases ry
  have fin : ∀ v : Value, RelV x v → plainIs v (.bool b) = true ∧ (v == .bool b) = decide (x = .bl b) := fun v r => by
    cases x <;> first | (cases hx; done) | skip
    · cases r; exact ⟨rfl, rfl⟩
    · rename_i c; cases r; refine ⟨rfl, ?_⟩; cases c <;> cases b <;> rfl
    · obtain ⟨t, rfl⟩ := r; exact ⟨rfl, rfl⟩
    · obtain ⟨t, rfl⟩ := r; exact ⟨rfl, rfl⟩
    · cases r; exact ⟨rfl, rfl⟩
  obtain ⟨h1, h2⟩ := fin v rx
  exact wpAny_is_plain h1 ⟨.bl _, H, I, by rw [h2]; rfl, q⟩
theorem op_isntB : OpR X (compareOp .IsNot) (fun x y H Q => ∃ b, y = .bl b ∧ dataV x = true ∧ Q (.bl (!decide (x = .bl b))) H) := by
  rintro pins s σ H x y v u Q I rx ry ⟨b, rfl, hx, q⟩
  cases ry
  have fin : ∀ v : Value, RelV x v → plainIs v (.bool b) = true ∧ (v == .bool b) = decide (x = .bl b) := fun v r => by
    cases x <;> first | (cases hx; done) | skip
    · cases r; exact ⟨rfl, rfl⟩
    · rename_i c; cases r; refine ⟨rfl, ?_⟩; cases c <;> cases b <;> rfl
    · obtain ⟨t, rfl⟩ := r; exact ⟨rfl, rfl⟩
    · obtain ⟨t, rfl⟩ := r; exact ⟨rfl, rfl⟩
    · cases r; exact ⟨rfl, rfl⟩
  obtain ⟨h1, h2⟩ := fin v rx
  exact wpAny_isNot_plain h1 ⟨.bl _, H, I, by rw [h2]; rfl, q⟩
def isBoolD : PyData → Bool → Bool
  | .bool c, b => c == b
  | _, _ => false
def isbT : PyData → PyData → T Bool
  | d, .bool b => .ret (isBoolD d b)
  | _, _ => .stuck
def isntbT : PyData → PyData → T Bool
  | d, .bool b => .ret (!isBoolD d b)
  | _, _ => .stuck
theorem BRep.isB {K : PySem.W.Frag} {g : G} {H : Hp} {x : V} {d : PyData} (r : BRep K g H x d) (b : Bool) : dataV x = true ∧ decide (x = .bl b) = isBoolD d b := by
  rcases r with r | ⟨p, rfl, o, _⟩
  · cases r <;> first | exact ⟨rfl, rfl⟩ | skip
    rename_i c
    exact ⟨rfl, by cases c <;> cases b <;> rfl⟩
  · exact ⟨rfl, by cases o <;> exact decide_eq_false (fun z => nomatch z)⟩
theorem isb2 {K : PySem.W.Frag} : Op2B K (fun x y H Q => ∃ b, y = .bl b ∧ dataV x = true ∧ Q (.bl (decide (x = .bl b))) H) isbT := by
  intro g H x y d e Q E ok bx by' w
  cases e <;> first | exact w.elim | skip
  rename_i b
  obtain ⟨h1, h2⟩ := bx.isB b
  exact ⟨b, by'.bool, h1, by rw [h2]; exact w g H (.refl ok) rfl⟩
theorem isntb2 {K : PySem.W.Frag} : Op2B K (fun x y H Q => ∃ b, y = .bl b ∧ dataV x = true ∧ Q (.bl (!decide (x = .bl b))) H) isntbT := by
  intro g H x y d e Q E ok bx by' w
  cases e <;> first | exact w.elim | skip
  rename_i b
  obtain ⟨h1, h2⟩ := bx.isB b
  exact ⟨b, by'.bool, h1, by rw [h2]; exact w g H (.refl ok) rfl⟩
/-! ### in, not in -/
def flatD : PyData → Bool
  | .none => true | .bool _ => true | .int _ => true | .str _ => true | _ => false
theorem flat_eq {K : PySem.W.Frag} {g : G} {x y : V} {d e : PyData} (rx : Rep K g x d) (ry : Rep K g y e) (fd : flatD d = true) (fe : flatD e = true) : flatV x = true ∧ eqV y x = PyData.eqv e d := by
  cases rx <;> first | (cases fd; done) | skip
  all_goals (cases ry <;> first | (cases fe; done) | exact ⟨rfl, by simp [eqV, PyData.eqv]⟩)
theorem flat_all {K : PySem.W.Frag} {g : G} {x : V} {d : PyData} (rx : Rep K g x d) (fd : flatD d = true) : ∀ {ys : List V} {es : List PyData}, RepAll K g ys es → es.all flatD = true → ys.all flatV = true ∧ inV x ys = es.any fun z => PyData.eqv z d
  | _, _, .nil, _ => ⟨rfl, rfl⟩
  | _, _, .cons r t, h => by
    have h := (Bool.and_eq_true _ _).mp (show (flatD _ && List.all _ flatD) = true by simpa using h)
    obtain ⟨h1, h2⟩ := flat_all rx fd t h.2
    have e1 := (flat_eq r r h.1 h.1).1
    have e2 := (flat_eq rx r fd h.1).2
    refine ⟨by simp [e1, h1], ?_⟩
    show (eqV _ x || inV x _) = (PyData.eqv _ d || _)
    rw [e2, h2]
def inB (ds : List PyData) (d : PyData) : Bool := ds.any fun z => PyData.eqv z d
def inT (neg : Bool) : PyData → PyData → T Bool
  | d, .list ds => if (flatD d && ds.all flatD) = true then .ret (if neg then !inB ds d else inB ds d) else need (SeqAt.shaped d && SeqAt.shaped (.list ds)) (.ret (if neg then !inB ds d else inB ds d))
  | d, .tuple ds => need (flatD d && ds.all flatD) (.ret (if neg then !inB ds d else inB ds d))
  | _, _ => .stuck
theorem BRep.flat {K : PySem.W.Frag} {g : G} {H : Hp} {x : V} {d : PyData} (r : BRep K g H x d) (h : flatD d = true) : Rep K g x d := r.rep fun a o => by cases o <;> cases h
theorem in2 {K : PySem.W.Frag} : Op2B K (fun x y H Q => rIn K false x y H Q ∨ rInD K x y H Q) (inT false) := by
  intro g H x y d e Q E ok bx by' w
  cases e with
  | list ds =>
    obtain ⟨p, vs, rfl, h1, r1⟩ := by'.list ok
    by_cases c : (flatD d && ds.all flatD) = true
    · rw [inT, if_pos c] at w
      obtain ⟨c1, c2⟩ := Bool.and_eq_true_iff.mp c
      have f := flat_all (bx.flat c1) c1 r1 c2
      exact .inl ⟨p, vs, rfl, .inl (SqL.of h1), (flat_eq (bx.flat c1) (bx.flat c1) c1 c1).1, f.1, by rw [if_neg (by simp), f.2]; exact w g H (.refl ok) rfl⟩
    · rw [inT, if_neg c] at w
      obtain ⟨c, w⟩ := need_wp w
      obtain ⟨c1, c2⟩ := shp c
      exact .inr ⟨d, ds, bx.dp ok (SeqAt.canLay_of_shaped c1), by'.dp ok (SeqAt.canLay_of_shaped c2), c1, c2, w g H (.refl ok) rfl⟩
  | tuple ds =>
    obtain ⟨p, vs, rfl, h1, r1⟩ := by'.tup ok
    obtain ⟨c, w⟩ := need_wp w
    obtain ⟨c1, c2⟩ := Bool.and_eq_true_iff.mp c
    have f := flat_all (bx.flat c1) c1 r1 c2
    exact .inl ⟨p, vs, rfl, .inr h1, (flat_eq (bx.flat c1) (bx.flat c1) c1 c1).1, f.1, by rw [if_neg (by simp), f.2]; exact w g H (.refl ok) rfl⟩
  | _ => exact w.elim
theorem notin2 {K : PySem.W.Frag} : Op2B K (fun x y H Q => rIn K true x y H Q ∨ rNotInD K x y H Q) (inT true) := by
  intro g H x y d e Q E ok bx by' w
  cases e with
  | list ds =>
    obtain ⟨p, vs, rfl, h1, r1⟩ := by'.list ok
    by_cases c : (flatD d && ds.all flatD) = true
    · rw [inT, if_pos c] at w
      obtain ⟨c1, c2⟩ := Bool.and_eq_true_iff.mp c
      have f := flat_all (bx.flat c1) c1 r1 c2
      exact .inl ⟨p, vs, rfl, .inl (SqL.of h1), (flat_eq (bx.flat c1) (bx.flat c1) c1 c1).1, f.1, by rw [if_pos rfl, f.2]; exact w g H (.refl ok) rfl⟩
    · rw [inT, if_neg c] at w
      obtain ⟨c, w⟩ := need_wp w
      obtain ⟨c1, c2⟩ := shp c
      exact .inr ⟨d, ds, bx.dp ok (SeqAt.canLay_of_shaped c1), by'.dp ok (SeqAt.canLay_of_shaped c2), c1, c2, w g H (.refl ok) rfl⟩
  | tuple ds =>
    obtain ⟨p, vs, rfl, h1, r1⟩ := by'.tup ok
    obtain ⟨c, w⟩ := need_wp w
    obtain ⟨c1, c2⟩ := Bool.and_eq_true_iff.mp c
    have f := flat_all (bx.flat c1) c1 r1 c2
    exact .inl ⟨p, vs, rfl, .inr h1, (flat_eq (bx.flat c1) (bx.flat c1) c1 c1).1, f.1, by rw [if_pos rfl, f.2]; exact w g H (.refl ok) rfl⟩
  | _ => exact w.elim
end
end R

set_option Elab.async false
set_option linter.all false
set_option maxRecDepth 100000
set_option maxHeartbeats 1000000
/-! R17: rows turned about. -/
namespace R
open PySem PySem.Spec L2
open PyProof.Rows hiding St
section
variable {prog : Program} {w : World} {A : Around} {E : Value → Shared → Prop} {s : Shared}
theorem slice_back {sl : Addr} {u : Tok} {n : Nat} {Q : Int × Int × Nat → Shared → Prop} (at_ : s.heap.IsSliceOf sl .none .none (.int (-1) u)) (want : Q ((n : Int) - 1, -1, n) s) : wpAny (model prog w) A (Builtin.Slice.sliceApplied (.ref sl) (pure (n : Int))) Q E s := by
  obtain ⟨o, look, _, flds⟩ := id at_
  unfold Builtin.Slice.sliceApplied Builtin.Slice.sliceFields
  refine wpAny_bind (wpAny_bind (wpAny_field look flds (x := .none) rfl (wpAny_bind (wpAny_field look flds (x := .none) rfl (wpAny_bind (wpAny_field look flds (x := .int (-1) u) rfl (wpAny_pure ?_)))))))
  refine wpAny_bind (slicePart_int ?_)
  show wpAny _ _ (if ((-1 : Int) == 0) = true then _ else _) _ _ s
  rw [if_neg (by decide)]
  refine wpAny_bind (slicePart_none (wpAny_bind (slicePart_none (wpAny_bind (wpAny_pure ?_)))))
  have places : Builtin.Slice.slicePlaces ((n : Int) - 1) (-1) (-1) = n := by
    unfold Builtin.Slice.slicePlaces
    rw [if_neg (by decide)]
    by_cases z : (n : Int) - 1 > -1
    · rw [if_pos z, show (- -1 : Int) = 1 by decide, Int.ediv_one]; omega
    · rw [if_neg z]; omega
  show wpAny _ _ (pure ((n : Int) - 1, (-1 : Int), Builtin.Slice.slicePlaces ((n : Int) - 1) (-1) (-1))) _ _ s
  rw [places]
  exact wpAny_pure want
theorem pick_back (xs : Array Value) : ((List.range xs.size).filterMap fun (m : Nat) => xs[((xs.size : Int) - 1 + (m : Int) * (-1)).toNat]?).toArray = xs.toList.reverse.toArray := by
  have step : (fun (m : Nat) => xs[((xs.size : Int) - 1 + (m : Int) * (-1)).toNat]?) = fun m => xs[xs.size - 1 - m]? := by
    funext m
    rw [show ((xs.size : Int) - 1 + (m : Int) * (-1)).toNat = xs.size - 1 - m by omega]
  rw [step, ← PySem.W.krv_all xs, ← List.filterMap_reverse, ← PySem.W.krv_range, List.filterMap_map]
  rfl
theorem tuple_back {t sl : Addr} {items : Array Value} {u : Tok} {Q : Value → Shared → Prop} (ht : IsTup s.heap t items) (at_ : s.heap.IsSliceOf sl .none .none (.int (-1) u))
    (want : Q (.ref s.heap.objs.size) { s with heap := s.heap.push { cls := .type "tuple", data := .seq items.toList.reverse.toArray } }) (few : items.size ≤ sizeLine) : wpAny (model prog w) A (getItem (.ref t) (.ref sl)) Q E s := by
  have fits : sizeOk (.seq items.toList.reverse.toArray) := by
    show items.toList.reverse.toArray.size ≤ sizeLine
    simpa using few
  have kind : s.TypeIs (.ref sl) "slice" := by obtain ⟨o, look, c, _⟩ := id at_; exact ⟨o, look, c⟩
  unfold getItem
  try with_reducible refine wpAny_holding ?_
  first | refine wpAny_bind (wpAny_pure ?_) | skip
  refine wpAny_bind (wpAny_sequenceKey ht.typeIs (by decide) (wpAny_bind (wpAny_callSpecial?_slot (name := Str.ofString "__getitem__") ht.typeIs slot_tuple_getitem (wpAny_call_entry slot_tuple_getitem ht.typeIs entry_tuple_getitem ?_ (args_tuple_getitem _ _)))))
  show wpAny _ _ (Builtin.Tuple.tupleItemsOf (.ref t) >>= _) _ _ s
  refine wpAny_bind (tupleItemsOf_ ht (wpAny_bind (wpAny_typeOf kind ?_)))
  rw [if_pos (by decide)]
  refine wpAny_bind (slice_back at_ ?_)
  show wpAny _ _ (if (((items.size : Int) - 1) == 0 && (-1 : Int) == 1 && items.size == items.size) = true then _ else _) _ _ s
  rw [if_neg (by rw [show ((-1 : Int) == 1) = false by decide, Bool.and_false, Bool.false_and]; exact Bool.false_ne_true), pick_back]
  first
    | exact wpAny_bind (m := Builtin.Tuple.tupleExact _) (wpAny_newObj_type (wpAny_pure ⟨_, rfl, wpAny_pure want⟩) fits)
    | exact wpAny_bind (m := Builtin.Tuple.tupleExact _) (wpAny_newObj_type (wpAny_bind (wpAny_pure (wpAny_pure ⟨_, rfl, wpAny_pure want⟩))) fits)
    | exact wpAny_bind (wpAny_bind (m := Builtin.Tuple.tupleExact _) (wpAny_newObj_type (wpAny_pure (wpAny_pure ⟨_, rfl, wpAny_pure want⟩)) fits))
    | exact wpAny_bind (wpAny_bind (m := Builtin.Tuple.tupleExact _) (wpAny_newObj_type (wpAny_pure ⟨_, rfl, wpAny_pure want⟩) fits))
end
section
variable {X : Cx} {C : Ct} {M : List Nat} {e : Expr} {ma : R.Env → T PyData} {k : Nat} {p1 p2 p3 pos : Pos}
/-- x[::-1] of lists and of tuples -/
def tRevD (K : PySem.W.Frag) (te : TE) : TE := fun σ H Q => te σ H fun x H1 => ∃ a xs, x = .ref a ∧
  ((SqL K H1 a xs ∧ ∀ p, H1 p = none → Q (.ref p) (upd H1 p (.lst xs.reverse))) ∨ (SqT K H1 a xs ∧ ∀ p, H1 p = none → Q (.ref p) (upd H1 p (.tup xs.reverse))))
theorem pe_revD {te : TE} (he : PE X e te) : PE X (.Subscript e (.Slice none none (some (.UnaryOp .USub (.Constant (.int 1) k p1) p2)) p3) pos) (tRevD X.K te) where
  run := fun pins s σ H Q I h => by
    refine Subscript_ (thn (he.run pins s σ H _ I h) ?_)
    rintro v s1 ⟨x, H1, I1, r1, a, xs, rfl, q⟩
    cases r1
    have back : PO X (some (.UnaryOp .USub (.Constant (.int 1) k p1) p2)) (tPart (tUn (rU fun i => .int (-i)) (tC (.int 1)))) := po_some (pe_un un_neg pe_int)
    refine wpAny_Slice (thn (po_none.run pins s1 σ H1 (fun o Hn => o = none ∧ Hn = H1) I1 ⟨rfl, rfl⟩) ?_)
    rintro vl s2 ⟨_, _, I2, pl, rfl, rfl⟩
    refine thn (po_none.run pins s2 σ _ (fun o Hn => o = none ∧ Hn = _) I2 ⟨rfl, rfl⟩) ?_
    rintro vu s3 ⟨_, _, I3, pu, rfl, rfl⟩
    refine thn (back.run pins s3 σ _ (fun o Hn => o = some (-1) ∧ Hn = _) I3 ⟨1, rfl, -1, rfl, rfl, rfl⟩) ?_
    rintro vs s4 ⟨_, H4, I4, ps, rfl, rfl⟩
    cases pl
    cases pu
    cases ps with
    | int i tok =>
      generalize e5 : ({ s4 with heap := s4.heap.push { cls := .type "slice", data := .fields #[.none, .none, .int (-1) tok] } } : Shared) = s5
      have I5 : Inv X pins σ H4 s5 := by subst e5; exact I4.kept (t' := s4.toks) fun b ob z => Heap.get?_push_of_some _ z
      have at_ : s5.heap.IsSliceOf s4.heap.objs.size .none .none (.int (-1) tok) := by subst e5; exact Heap.IsSliceOf.new _ _ _ _
      rcases q with ⟨hx, q⟩ | ⟨hx, q⟩
      · obtain ⟨its, r, pl, few⟩ := I5.list hx
        have many := r.length
        refine tail_any (ops := [.ref a, .ref s4.heap.objs.size]) pl.isList.typeIs PySem.slot_list_getitem.lookup (wpAny_getItem_list_slice pl.isList at_ .none .none (.int (-1) tok) (by decide) ?_ (by rw [List.size_toArray]; omega)) (by with_unfolding_all rfl)
        rw [PySem.W.krv_pick]
        exact ⟨.ref _, _, I5.laid (t' := s5.toks) (o := .lst xs.reverse) (fun b ob z => Heap.get?_push_of_some _ z) (Nat.le_refl _) ⟨by rw [List.length_reverse]; exact few, _, 0, r.reverse, Heap.get?_push_size _ rfl⟩, rfl, q _ (I5.hok.fresh (Nat.le_refl _))⟩
      · obtain ⟨its, r, tp, few⟩ := I5.tuple hx
        have many := r.length
        refine tail_any (ops := [.ref a, .ref s4.heap.objs.size]) tp.typeIs slot_tuple_getitem.lookup (tuple_back tp at_ ?_ (by rw [List.size_toArray]; omega)) (by with_unfolding_all rfl)
        exact ⟨.ref _, _, I5.laid (t' := s5.toks) (o := .tup xs.reverse) (fun b ob z => Heap.get?_push_of_some _ z) (Nat.le_refl _) ⟨by rw [List.length_reverse]; exact few, _, r.reverse, IsTup.new _ _⟩, rfl, q _ (I5.hok.fresh (Nat.le_refl _))⟩
def revD : PyData → T PyData
  | .list xs => .ret (.list xs.reverse)
  | .tuple xs => .ret (.tuple xs.reverse)
  | _ => .stuck
theorem RepAll.back {K : PySem.W.Frag} {g : G} : ∀ {vs : List V} {ds : List PyData}, RepAll K g vs ds → RepAll K g vs.reverse ds.reverse
  | _, _, .nil => .nil
  | _, _, .cons r t => by rw [List.reverse_cons, List.reverse_cons]; exact (RepAll.back t).append (.cons r .nil)
theorem me_rev (ha : PE X e (tR X.K C M ma)) : PE X (.Subscript e (.Slice none none (some (.UnaryOp .USub (.Constant (.int 1) k p1) p2)) p3) pos) (tM X.K C M fun ρ => do let x ← ma ρ; revD x) := by
  refine (pe_revD ha).weak ?_
  rintro σ H Q ⟨en, g, ρ, mi, w⟩
  refine ⟨en, g, ρ, mi, T.wp_mono (T.wp_bind.mp w) (fun d b1 w2 v g1 H1 st eb br => ?_) fun _ _ _ z => z⟩
  have w5 := wpStep (K := X.K) st eb w2
  have ok := st.ok
  cases d with
  | list xs =>
    obtain ⟨p, vs, rfl, h1, r1⟩ := br.list ok
    exact ⟨p, vs, rfl, .inl ⟨SqL.of h1, QV.new (K := X.K) (g := g1) (d := .list xs.reverse) w5 ok fun p g' h st => .lst h (r1.back.step st)⟩⟩
  | tuple xs =>
    obtain ⟨p, vs, rfl, h1, r1⟩ := br.tup ok
    exact ⟨p, vs, rfl, .inr ⟨h1, QV.new (K := X.K) (g := g1) (d := .tuple xs.reverse) w5 ok fun p g' h st => .tup (SqT.of h) (r1.back.step st)⟩⟩
  | _ => exact w5.elim
end
end R

set_option Elab.async false
set_option linter.all false
set_option maxRecDepth 100000
set_option maxHeartbeats 1000000
/-! R18: enumerate of a tuple. -/
namespace R
open PySem PySem.Spec L2
open PyProof.Rows hiding St
open AutoSeq1 (wpAny_loadPart')
theorem enum_new (t : Addr) (items : Array Value) (n : Nat) (dct : Option Addr) (sl : Array (Option Value)) :
    Meets (Builtin.«enumerate.__new__» ⟨[.type "enumerate", .ref t], []⟩) (fun _ R s => s.heap.get? t = some ⟨.type "tuple", dct, .seq items n, sl⟩ ∧
      R (.ok (.ret (.ref (s.heap.push ⟨.type "tuple_iterator", none, .fields #[.ref t, .int 0 0], #[]⟩).objs.size)))
        { s with heap := (s.heap.push ⟨.type "tuple_iterator", none, .fields #[.ref t, .int 0 0], #[]⟩).push ⟨.type "enumerate", none, .fields #[.none, .bool false, .ref s.heap.objs.size, rawInt 0, .none, .none], #[]⟩ }) :=
  .of_wp fun prog w A R s h => by
    obtain ⟨hp, g, d, tk, os⟩ := s
    obtain ⟨look, want⟩ := h
    have sub := sub_enumerate
    have isT : Heap.IsTuple (Shared.heap ⟨hp, g, d, tk, os⟩) t items := ⟨_, look, rfl, n, rfl⟩
    wp_walk using wpAny_loadPart' look
    refine wpAny_stack_any fun st => wpAny_pure ?_
    split
    · rename_i c _ _ _ _ _
      cases (c == Value.type "enumerate") <;> (wp_walk using wpAny_loadPart' look, wpAny_pyIter_tuple isT; exact ⟨_, rfl, want⟩)
    · wp_walk using wpAny_loadPart' look, wpAny_pyIter_tuple isT
      exact ⟨_, rfl, want⟩
section
variable {prog : Program} {w : World} {A : Around} {E : Value → Shared → Prop} {s : Shared}
theorem call_enumT {t : Addr} {items : Array Value} {Q : Value → Shared → Prop} (ht : s.heap.IsTuple t items)
    (want : ∀ h', IsEnum h' (s.heap.objs.size + 1) s.heap.objs.size 0 .none → h'.IsTupleIter s.heap.objs.size t 0 → (∀ b o, s.heap.get? b = some o → h'.get? b = some o) → Q (.ref (s.heap.objs.size + 1)) { s with heap := h' }) :
    wpAny (model prog w) A (call (.type "enumerate") [.ref t]) Q E s := by
  obtain ⟨⟨c, dct, dt, sl⟩, look, hc, n, hd⟩ := ht
  obtain rfl : c = .type "tuple" := hc
  obtain rfl : dt = .seq items n := hd
  refine callType_new F.called_enumerate (by decide) (F.typeCall_enumerate_1 _) (F.newCall_enumerate_1 _) (fun obj => F.args_object_init_2 obj _) F.entry_enumerate_new (enum_new t items n dct sl) ⟨look, ?_⟩
  generalize e1 : s.heap.push ⟨.type "tuple_iterator", none, .fields #[.ref t, .int 0 0], #[]⟩ = h1
  have size1 : h1.objs.size = s.heap.objs.size + 1 := by subst e1; exact Heap.size_push ..
  have it1 : h1.IsTupleIter s.heap.objs.size t 0 := by subst e1; exact ⟨_, Heap.get?_push_size _ rfl, rfl, rfl⟩
  have old1 : ∀ b o, s.heap.get? b = some o → h1.get? b = some o := fun b o x => by subst e1; exact Heap.get?_push_of_some _ x
  show _ ∧ _
  rw [size1]
  have en : IsEnum (h1.push ⟨.type "enumerate", none, .fields #[.none, .bool false, .ref s.heap.objs.size, rawInt 0, .none, .none], #[]⟩) (s.heap.objs.size + 1) s.heap.objs.size 0 .none := by
    rw [← size1]; exact Heap.get?_push_size _ rfl
  exact ⟨⟨_, en, rfl⟩, want _ en (it1.at fun o x => Heap.get?_push_of_some _ x) fun b o x => Heap.get?_push_of_some _ (old1 b o x)⟩
end
/-- the tuple at a of n items, each item in a new pair -/
def ItE (K : PySem.W.Frag) (a : Addr) (n : Nat) : It :=
  ⟨fun i H => ∃ (xs : List V) (x : V), SqT K H a xs ∧ xs.length = n ∧ xs[i]? = some x,
    fun i H v H' => ∃ T x, v = .ref T ∧ H T = none ∧ H' = upd H T (.tup [.int (i : Nat), x]) ∧ ∀ xs, SqT K H a xs → xs[i]? = some x,
    fun i H => ∃ xs : List V, SqT K H a xs ∧ xs.length = n ∧ n ≤ i⟩
theorem turn_enumT {P : Program} {w : World} {K : PySem.W.Frag} {elts : List Expr} {kk : Nat} {tpos : Pos} (a e it : Addr) (n : Nat) :
    Turn P w K (.Tuple elts kk tpos) (ItE K a n) [e, it] e (fun i h => (∃ old, IsEnum h e it ((i : Nat) : Int) old) ∧ h.IsTupleIter it a i ∧ e ≠ it ∧ i ≤ n ∧ a ≠ it ∧ a ≠ e) where
  mem := List.mem_cons_self
  obj := fun i h ⟨⟨old, en⟩, ⟨o, look, _, flds⟩, _⟩ b hb => by
    rcases List.mem_cons.mp hb with rfl | hb
    · exact ⟨_, en, fun v z => nomatch z⟩
    · rw [List.mem_singleton.mp hb]
      exact ⟨o, look, fun v z => by rw [flds] at z; cases z⟩
  keep := fun i h h' ⟨⟨old, en⟩, ti, r⟩ k => ⟨⟨old, k e (by simp) _ en⟩, ti.at fun o x => k it (by simp) o x, r⟩
  item := by
    rintro X rfl rfl rfl calm i pins s σ H E I own ⟨⟨old, en⟩, ti, ne, le, n1, n2⟩ ⟨xs, x, hq, len, hx⟩
    obtain ⟨its, rv, tp, few⟩ := I.tuple hq
    obtain ⟨u, hu, ru⟩ := rv.get hx
    have hel : e < s.heap.objs.size := Heap.lt_size en
    have hil : it < s.heap.objs.size := by obtain ⟨_, z, _⟩ := ti; exact Heap.lt_size z
    have tup : s.heap.IsTuple a its.toArray := tp
    have hi : i < its.toArray.size := by
      have := (List.getElem?_eq_some_iff.mp hu).1
      simpa using this
    refine wpAny_pyNext_enum_itemD (Draws.tuple (A := X.A.in1) (I.ok.hd calm) it a n1 its.toArray) en ⟨ti, tup⟩ hi ne (by simp [ne, Ne.symm n2]) fun y h' tk hy out st' new _ keep => ?_
    obtain rfl : y = u := by
      have z : its.toArray[i]? = some u := by simpa using hu
      rw [z] at hy; exact (Option.some.inj hy).symm
    refine ⟨_, rfl, wpAny_letOwnedTupleGo_enum (s := { s with heap := h', toks := tk + 1 }) out fun h2 en2 same => ?_⟩
    have at2 : h2.get? s.heap.objs.size = some { cls := .type "tuple", data := .seq #[.int i tk, y] } := (same.2 _ (Nat.ne_of_gt hel)).trans new
    have fresh := I.turnedNew (h' := h2) (t' := tk + 1) (ch := [e, it]) (fun b ob hb z => (same.2 b (fun q => hb (by simp [q]))).trans (keep b ob (fun q => hb (by simp [q])) (fun q => hb (by simp [q])) z)) own (Nat.le_refl _)
      (show ObjOk X.prog X.w (upd H s.heap.objs.size (.tup [.int (i : Nat), x])) h2 s.heap.objs.size (.tup [.int (i : Nat), x]) from ⟨by show 2 ≤ sizeLine; decide, [.int i tk, y], .cons ⟨_, rfl⟩ (.cons ru .nil), ⟨_, at2, rfl, _, rfl⟩⟩)
    refine ⟨.ref s.heap.objs.size, _, fresh, rfl, ⟨_, x, rfl, I.hok.fresh (Nat.le_refl _), rfl, fun ys hy => by rw [I.tuple_inj hy hq]; exact hx⟩, ⟨⟨y, by rw [show ((i + 1 : Nat) : Int) = (i : Int) + 1 by omega]; exact en2⟩, st'.1.at fun o z => (same.2 it (Ne.symm ne)).trans z, ne, ?_, n1, n2⟩, fun b hb => ?_⟩
    · have := (List.getElem?_eq_some_iff.mp hx).1; omega
    · rcases List.mem_cons.mp hb with z | z
      · rw [upd_ne (by rw [z]; exact Nat.ne_of_lt hel)]; exact (own b hb).1
      · rw [upd_ne (by rw [List.mem_singleton.mp z]; exact Nat.ne_of_lt hil)]; exact (own b hb).1
  done := by
    rintro X rfl rfl rfl calm i pins s σ H E I own ⟨⟨old, en⟩, ti, ne, le, n1, n2⟩ ⟨xs, hq, len, ge⟩
    obtain ⟨its, rv, tp, few⟩ := I.tuple hq
    obtain ⟨f0, f1, f2, f3, f4, f5⟩ := own it (by simp)
    have end_ : i = its.toArray.size := by have := rv.length; simp; omega
    refine wpAny_pyNext_enum_endD (Draws.tuple (A := X.A.in1) (I.ok.hd calm) it a n1 its.toArray) en (by rw [← end_]; exact ⟨ti, tp⟩) fun h' eb => ⟨rfl, I.turned (t' := s.toks) (fun b o hb z => eb b o hb z) f0 f1 f3 f4 f5⟩
  self := fun A i s Q E ⟨⟨_, en⟩, _⟩ h => wpAny_pyIter_enum en h
end R

set_option Elab.async false
set_option linter.all false
set_option maxRecDepth 100000
set_option maxHeartbeats 1000000
/-! R19: enumerate of both, lists of a range, or, extend. -/
namespace R
open PySem PySem.Spec L2
open PyProof.Rows hiding St
section
variable {X : Cx} {C : Ct} {M M' M2 Mb : List Nat} {pos p tpos : Pos} {x : Str} {tg e a b : Expr} {rest : List Expr} {m ma mb : R.Env → T PyData} {elts : List Expr} {kk : Nat}
def iEnD (K : PySem.W.Frag) (ta : TA) : TI := fun σ H R => ta σ H fun vs H1 => ∃ a xs, vs = [.ref a] ∧ ((SqL K H1 a xs ∧ R (Ite K a) H1) ∨ (SqT K H1 a xs ∧ R (ItE K a xs.length) H1))
theorem pi_enumD {ta : TA} (hg : Gl X "enumerate") (hm : X.mg "enumerate" = none) (ha : PA X [e] ta) (hs : starEach [e] X.env = [(false, eval e X.env)]) :
    PI X (.Tuple elts kk tpos) (.Call (.Name "enumerate" p) [e] [] pos) (iEnD X.K ta) where
  run := fun pins s σ H R I h => by
    refine Call_ (ld_blt I hg hm boot_enumerate (callWith_type1 (thn (ha.run pos pins s σ H _ I h) ?_) hs rfl))
    rintro us s1 ⟨vs, H1, I1, r1, a, xs, rfl, want⟩
    obtain ⟨u, rfl, ru⟩ : ∃ u, us = [u] ∧ RelV (.ref a) u := by
      cases r1 with
      | cons r rr => cases rr; exact ⟨_, rfl, r⟩
    cases ru
    have own : ∀ c ∈ [s1.heap.objs.size + 1, s1.heap.objs.size], FpOk X pins H1 c := fun c hc => by
      have above : s1.heap.objs.size ≤ c := by
        rcases List.mem_cons.mp hc with z | z
        · rw [z]; exact Nat.le_succ _
        · rw [List.mem_singleton.mp z]; exact Nat.le_refl _
      exact I1.fpOk above (I1.hok.fresh above)
    rcases want with ⟨hq, want⟩ | ⟨hq, want⟩
    · obtain ⟨its, rv, pl, few⟩ := I1.list hq
      exact call_enumerate_list pl.isList fun h' en li _ keep => wpAny_pyIter_enum en ⟨s1.heap.objs.size + 1, _, _, _, H1, rfl, I1.kept (t' := s1.toks) keep, turn_enum a (s1.heap.objs.size + 1) s1.heap.objs.size, ⟨⟨.none, en⟩, li, Nat.succ_ne_self _⟩, own, want⟩
    · obtain ⟨its, rv, tp, few⟩ := I1.tuple hq
      have lt : a < s1.heap.objs.size := by obtain ⟨_, z, _⟩ := tp; exact Heap.lt_size z
      exact call_enumT tp fun h' en ti keep => wpAny_pyIter_enum en ⟨s1.heap.objs.size + 1, _, _, _, H1, rfl, I1.kept (t' := s1.toks) keep, turn_enumT a (s1.heap.objs.size + 1) s1.heap.objs.size xs.length, ⟨⟨.none, en⟩, ti, Nat.succ_ne_self _, Nat.zero_le _, Nat.ne_of_lt lt, Nat.ne_of_lt (Nat.lt_succ_of_lt lt)⟩, own, want⟩
def enum2D : PyData → T (List PyData)
  | .list xs => .ret (enumL xs)
  | .tuple xs => .ret (enumL xs)
  | _ => .stuck
theorem enumL_length (xs : List PyData) : (enumL xs).length = xs.length := by simp [enumL]
theorem mi_enum2 (hg : Gl X "enumerate") (hm : X.mg "enumerate" = none) (hs : starEach [e] X.env = [(false, eval e X.env)]) (ha : PE X e (tM X.K C M m)) :
    PI X (.Tuple elts kk tpos) (.Call (.Name "enumerate" p) [e] [] pos) (tI X.K C M fun ρ => m ρ >>= enum2D) := by
  refine (pi_enumD hg hm (pa_cons ha pa_nil hs) hs).weak ?_
  rintro σ H R ⟨en, g, ρ, mi, w⟩
  refine ⟨en, g, ρ, mi, T.wp_mono (T.wp_bind.mp w) (fun d b1 w2 v g1 H1 st eb r => ?_) fun _ _ _ z => z⟩
  cases d <;> first | exact w2.elim | skip
  · obtain ⟨a, vs, rfl, h1, r1⟩ := r.list_inv
    refine ⟨a, vs, rfl, .inl ⟨SqL.of (st.ok.sub _ _ h1), w2 _ g1 H1 st eb fun i g H ok hf hd => ?_⟩⟩
    have here : SqL X.K H a vs := SqL.of (ok.sub _ _ (hf _ _ h1))
    refine ⟨fun d e => ?_, fun hl => ⟨vs, here, by rw [enumL_length] at hl; rw [r1.length]; exact hl⟩⟩
    obtain ⟨d1, e1, rfl⟩ := enumL_get e
    obtain ⟨v, q1, q2⟩ := r1.getD' e1
    refine ⟨⟨vs, v, here, q1⟩, fun x H' ⟨T, y, z1, z2, z3, z4⟩ => ?_⟩
    have same := z4 vs here
    rw [q1] at same; cases same
    subst z1 z3
    exact ⟨_, Step.laid ok z2, rfl, .tup (SqT.of upd_same) (.cons (.int _) (.cons ((q2.mono hf hd).step (Step.laid ok z2)) .nil))⟩
  · obtain ⟨a, vs, rfl, h1, r1⟩ := r.tup_inv
    refine ⟨a, vs, rfl, .inr ⟨SqT_mono st.ok.sub h1, w2 _ g1 H1 st eb fun i g H ok hf hd => ?_⟩⟩
    have here : SqT X.K H a vs := SqT_mono ok.sub (SqT_mono hf h1)
    refine ⟨fun d e => ?_, fun hl => ⟨vs, here, rfl, by rw [enumL_length] at hl; rw [r1.length]; exact hl⟩⟩
    obtain ⟨d1, e1, rfl⟩ := enumL_get e
    obtain ⟨v, q1, q2⟩ := r1.getD' e1
    refine ⟨⟨vs, v, here, rfl, q1⟩, fun x H' ⟨T, y, z1, z2, z3, z4⟩ => ?_⟩
    have same := z4 vs here
    rw [q1] at same; cases same
    subst z1 z3
    exact ⟨_, Step.laid ok z2, rfl, .tup (SqT.of upd_same) (.cons (.int _) (.cons ((q2.mono hf hd).step (Step.laid ok z2)) .nil))⟩
end
end R

set_option Elab.async false
set_option linter.all false
set_option maxRecDepth 100000
set_option maxHeartbeats 1000000
/-! R20: or, and by truth; list(range); extend; join; new lists by +; own lists lent to calls. -/
namespace R
open PySem PySem.Spec L2
section
variable {X : Cx} {C : Ct} {M M' Mb : List Nat} {a b : Expr} {ma mb : Env → T PyData} {pos : Pos} {rest : List Expr}
theorem u65 {k : Nat} {A : Around} (r : Room k A) : A.units + 65 < cLine := by have := r.un; omega
/-- the truth of what is read -/
theorem tru_read {K : PySem.W.Frag} {g : G} {H : Hp} {v : V} {d : PyData} {b : Nat} {Q : Bool → Nat → Prop} {E} (ok : GOk g H) (br : BRep K g H v d) (w : (truT d).wp b Q E) : ∃ k, TruV K v H k ∧ Q k b := by
  cases d with
  | none => exact ⟨false, by rw [br.none]; rfl, w⟩
  | bool k => exact ⟨k, by rw [br.bool]; rfl, w⟩
  | int i => exact ⟨_, by rw [br.int]; rfl, w⟩
  | str x =>
    obtain ⟨cc, w⟩ := need_wp w
    have cc := of_decide_eq_true cc
    refine ⟨_, by rw [br.str]; exact ⟨cc, rfl⟩, ?_⟩
    have e : ((x.length : Int) != 0) = (x.length != 0) := by
      cases q : x.length with
      | zero => rfl
      | succ n => simp; omega
    rw [e]
    exact w
  | list xs =>
    obtain ⟨p, vs, rfl, h1, r1⟩ := br.list ok
    refine ⟨_, .inl ⟨vs, SqL.of h1, rfl⟩, ?_⟩
    have e : vs.isEmpty = xs.isEmpty := by cases r1 <;> rfl
    rw [e]; exact w
  | tuple xs =>
    obtain ⟨p, vs, rfl, h1, r1⟩ := br.tup ok
    refine ⟨_, .inr (.inl ⟨vs, h1, rfl⟩), ?_⟩
    have e : vs.isEmpty = xs.isEmpty := by cases r1 <;> rfl
    rw [e]; exact w
  | dict kvs => exact w.elim
def orX (x y : T PyData) : T PyData := x >>= fun d => truT d >>= fun k => if k = true then .ret d else y
def andX (x y : T PyData) : T PyData := x >>= fun d => truT d >>= fun k => if k = true then y else .ret d
theorem me_orX (ha : PE X a (tM X.K C M ma)) (hb : PE X (.BoolOp .Or (b :: rest) pos) (tM X.K C M mb)) : PE X (.BoolOp .Or (a :: b :: rest) pos) (tM X.K C M fun ρ => orX (ma ρ) (mb ρ)) := by
  refine (pe_orT ha hb).weak ?_
  rintro σ H Q ⟨en, g, ρ, mi, w⟩
  refine ⟨en, g, ρ, mi, T.wp_mono (T.wp_bind.mp w) (fun d b1 w2 v g1 H1 st eb r => ?_) fun _ _ _ z => z⟩
  obtain ⟨k, h1, h2⟩ := tru_read st.ok (.inl r) (T.wp_bind.mp w2)
  refine ⟨k, h1, ?_⟩
  cases k with
  | true => exact h2 _ g1 H1 st eb r
  | false =>
    refine ⟨en, g1, ρ, mi.step st, ?_⟩
    rw [eb, st.dk]
    exact T.wp_mono h2 (fun _ _ q v g' H' st' e' r' => q v g' H' (st.trans st') e' r') fun _ _ _ z => z
theorem me_andX (ha : PE X a (tM X.K C M ma)) (hb : PE X (.BoolOp .And (b :: rest) pos) (tM X.K C M mb)) : PE X (.BoolOp .And (a :: b :: rest) pos) (tM X.K C M fun ρ => andX (ma ρ) (mb ρ)) := by
  refine (pe_andT ha hb).weak ?_
  rintro σ H Q ⟨en, g, ρ, mi, w⟩
  refine ⟨en, g, ρ, mi, T.wp_mono (T.wp_bind.mp w) (fun d b1 w2 v g1 H1 st eb r => ?_) fun _ _ _ z => z⟩
  obtain ⟨k, h1, h2⟩ := tru_read st.ok (.inl r) (T.wp_bind.mp w2)
  refine ⟨k, h1, ?_⟩
  cases k with
  | false => exact h2 _ g1 H1 st eb r
  | true =>
    refine ⟨en, g1, ρ, mi.step st, ?_⟩
    rw [eb, st.dk]
    exact T.wp_mono h2 (fun _ _ q v g' H' st' e' r' => q v g' H' (st.trans st') e' r') fun _ _ _ z => z
def isnT : PyData → PyData → T Bool := fun d e => match e with | .none => .ret (isNone d) | _ => .stuck
def isntnT : PyData → PyData → T Bool := fun d e => match e with | .none => .ret (!isNone d) | _ => .stuck
theorem isn2 {K : PySem.W.Frag} : Op2B K (fun x y H Q => y = .non ∧ Q (.bl (decide (x = .non))) H) isnT := is2
theorem isntn2 {K : PySem.W.Frag} : Op2B K (fun x y H Q => y = .non ∧ Q (.bl (!decide (x = .non))) H) isntnT := isnt2
theorem isn_eq (d : PyData) : isnT d .none = .ret (isNone d) := id rfl
theorem isntn_eq (d : PyData) : isntnT d .none = .ret (!isNone d) := id rfl
/-! ### list(range(..)) -/
theorem rgV_rep {K : PySem.W.Frag} {g : G} (lo hi : Int) : RepAll K g (rgV lo hi) (rangeL lo (hi - lo).toNat) := by
  unfold rgV rangeL
  generalize List.range (hi - lo).toNat = l
  induction l with
  | nil => exact .nil
  | cons i r ih => exact .cons (.int _) ih
def listRgD (lo hi : PyData) : T PyData := match lo, hi with
  | .int i, .int j => need (0 ≤ i ∧ i ≤ 16777216 ∧ 0 ≤ j ∧ j ≤ 16777216) (.ret (.list (rangeL i (j - i).toNat)))
  | _, _ => .stuck
variable {p p' pos' : Pos}
theorem mf_listRg1 (hc : X.calm = true) (hg : Gl X "list") (hm : X.mg "list" = none) (hg' : Gl X "range") (hm' : X.mg "range" = none) (ha : PE X a (tM X.K C M ma)) (na : starEach [a] X.env = (false, eval a X.env) :: starEach [] X.env)
    (nb : starEach [.Call (.Name "range" p') [a] [] pos'] X.env = (false, eval (.Call (.Name "range" p') [a] [] pos') X.env) :: starEach [] X.env) :
    PE X (.Call (.Name "list" p) [.Call (.Name "range" p') [a] [] pos'] [] pos) (tF X.K C M fun ρ => do let x ← ma ρ; listRgD (.int 0) x) := by
  refine (pe_listRg hc hg hm (prg_1 hg' hm' ha na) nb).weak ?_
  rintro σ H Q ⟨en, g, ρ, mi, w⟩
  refine ⟨en, g, ρ, mi, T.wp_mono (T.wp_bind.mp w) (fun d b1 w2 v g1 H1 st eb r => ?_) fun _ _ _ z => z⟩
  cases d <;> first | exact w2.elim | skip
  rename_i n
  obtain ⟨cc, w2⟩ := need_wp w2
  have cc := of_decide_eq_true cc
  refine ⟨n, r.int_inv, RgOk.of_le (by omega) (by omega) (by omega) (by omega), fun q hq => ?_⟩
  refine w2 q g1 _ (st.trans (Step.laidU st.ok hq)) eb (.lst upd_same ?_) (st.none_of mi.ok hq) (st.ok.fz_none hq)
  exact rgV_rep 0 n
theorem mf_listRg2 (hc : X.calm = true) (hg : Gl X "list") (hm : X.mg "list" = none) (hg' : Gl X "range") (hm' : X.mg "range" = none) (ha : PE X a (tM X.K C M ma)) (hb : PE X b (tM X.K C M mb)) (na : starEach [a, b] X.env = (false, eval a X.env) :: starEach [b] X.env) (nb : starEach [b] X.env = (false, eval b X.env) :: starEach [] X.env) (hp : (backTo pos' (starEach [b] X.env)).any (·.1) = false)
    (nc : starEach [.Call (.Name "range" p') [a, b] [] pos'] X.env = (false, eval (.Call (.Name "range" p') [a, b] [] pos') X.env) :: starEach [] X.env) :
    PE X (.Call (.Name "list" p) [.Call (.Name "range" p') [a, b] [] pos'] [] pos) (tF X.K C M fun ρ => do let x ← ma ρ; let y ← mb ρ; listRgD x y) := by
  refine (pe_listRg hc hg hm (prg_2 hg' hm' ha hb na nb hp) nc).weak ?_
  rintro σ H Q ⟨en, g, ρ, mi, w⟩
  refine ⟨en, g, ρ, mi, T.wp_mono (T.wp_bind.mp w) (fun d b1 w2 v g1 H1 st eb r => ⟨en, g1, ρ, mi.step st, ?_⟩) fun _ _ _ z => z⟩
  rw [eb, st.dk]
  refine T.wp_mono (T.wp_bind.mp w2) (fun e b2 w3 v2 g2 H2 st2 eb2 r2 => ?_) fun _ _ _ z => z
  cases d <;> first | exact w3.elim | skip
  cases e <;> first | exact w3.elim | skip
  rename_i m n
  obtain ⟨cc, w3⟩ := need_wp w3
  have cc := of_decide_eq_true cc
  refine ⟨m, n, r.int_inv, r2.int_inv, RgOk.of_le (by omega) (by omega) (by omega) (by omega), fun q hq => ?_⟩
  refine w3 q g2 _ ((st.trans st2).trans (Step.laidU st2.ok hq)) eb2 (.lst upd_same (rgV_rep m n)) ((st.trans st2).none_of mi.ok hq) (st2.ok.fz_none hq)
/-! ### a new list by + -/
def catD : PyData → PyData → T PyData
  | .list xs, .list ys => need (xs.length + ys.length ≤ sizeLine) (.ret (.list (xs ++ ys)))
  | _, _ => .stuck
theorem mf_cat (ha : PE X a (tR X.K C M ma)) (hb : PE X b (tR X.K C M mb)) : PE X (.BinOp a .Add b pos) (tF X.K C M fun ρ => do let x ← ma ρ; let y ← mb ρ; catD x y) := by
  refine (pe_op op_cat ha hb).weak ?_
  rintro σ H Q ⟨en, g, ρ, mi, w⟩
  refine ⟨en, g, ρ, mi, T.wp_mono (T.wp_bind.mp w) (fun d b1 w2 v g1 H1 st eb br => ⟨en, g1, ρ, mi.step st, ?_⟩) fun _ _ _ z => z⟩
  rw [eb, st.dk]
  refine T.wp_mono (T.wp_bind.mp w2) (fun e b2 w3 v2 g2 H2 st2 eb2 br2 => ?_) fun _ _ _ z => z
  cases d <;> first | exact w3.elim | skip
  cases e <;> first | exact w3.elim | skip
  obtain ⟨cc, w3⟩ := need_wp w3
  obtain ⟨p1, vs, rfl, h1, r1⟩ := (br.step st2).list st2.ok
  obtain ⟨p2, ws, rfl, h2, r2⟩ := br2.list st2.ok
  refine ⟨p1, p2, vs, ws, rfl, rfl, h1, h2, by rw [r1.length, r2.length]; exact of_decide_eq_true cc, fun q hq => ?_⟩
  exact w3 q g2 _ ((st.trans st2).trans (Step.laidU st2.ok hq)) eb2 (.lst upd_same (r1.append r2)) ((st.trans st2).none_of mi.ok hq) (st2.ok.fz_none hq)
/-! ### xs.extend(e) -/
variable {x : Str} {e : Expr} {m : Env → T PyData} {p1 apos cpos : Pos}
def extD (xs : List PyData) : PyData → T PyData
  | .list ys => need (xs.length + ys.length ≤ sizeLine) (.ret (.list (xs ++ ys)))
  | _ => .stuck
def extT (i : Nat) (t : T PyData) (ρ : Env) : T Out := match nth ρ i with
  | some (.list xs) => t >>= fun d => extD xs d >>= fun z => .ret (.nx (put ρ i z))
  | _ => .stuck
theorem ms_extend (i : Nat) (hi : i ∈ M) (hN : X.N[i]? = some x) (hv : Vis X.env.scope x) (hd : (x == ("__debug__" : Str)) = false) (hcd : (x == ("__classdict__" : Str)) = false) (hs : swapsWith (.Call (.Attribute (.Name x p1) "extend" apos) [e] [] cpos) none pos.line X.env = pure false)
    (hbase : attributeBase (.Name x p1) "extend" X.env (eval (.Name x p1) X.env) = eval (.Name x p1) X.env) (hfew : ((backTo cpos (starEach [e] X.env)).all (fun x => !x.1) && (backToKw cpos (keywordEach [] X.env)).all (fun x => x.1.isSome)
      && decide ([e].length + ([] : List Keyword).length + (if ([] : List Keyword).isEmpty then 0 else 1) < 30)) = true) (hline : (apos.endLine == cpos.line) = true) (hst : starEach [e] X.env = [(false, eval e X.env)])
    (he : PE X e (tM X.K C M m)) : PS X (.Expr (.Call (.Attribute (.Name x p1) "extend" apos) [e] [] cpos) pos) (tS X.K C M M Mb fun ρ => extT i (m ρ) ρ) := by
  refine (ps_expr (pe_bm PySem.F.plainAttrs_list PySem.F.slot_list_extend PySem.F.type_list_extend mt_extend (pe_var hN hv hd hcd) (pa_cons he pa_nil hst) hbase hfew hline hst rfl) hs).weak ?_
  rintro D σ H ⟨en, g, ρ, mi, w⟩
  have w : (extT i (m ρ) ρ).wp g.b _ _ := w
  unfold extT at w
  split at w
  · rename_i xs e1
    obtain ⟨a, q1, q2, q3, q4, q5⟩ := mi.own i _ e1 hi
    cases q2 with
    | lst h r =>
      refine ⟨_, q1, .inl ⟨rfl, _, SqL.of h⟩, en, g, ρ, mi, T.wp_mono (T.wp_bind.mp w) (fun d b1 w2 v g1 H1 st eb rd => ?_) fun _ _ _ z => z⟩
      cases d <;> first | exact w2.elim | skip
      rename_i ys
      obtain ⟨cc, w2⟩ := need_wp (T.wp_bind.mp w2)
      have h1 := st.keep _ _ h q5
      obtain ⟨p2, ws, rfl, h2, r2⟩ := BRep.list (K := X.K) st.ok (.inl rd)
      refine ⟨a, p2, _, ws, rfl, rfl, h1, h2, by rw [r.length, r2.length]; exact of_decide_eq_true cc, ?_⟩
      refine w2 σ g1 _ ((mi.step st).change hi e1 q1 (.lst upd_same ((r.step st).append r2))) eb st.dk st.fz
  · exact w.elim
/-! ### sep.join(..) -/
def strsOf : List PyData → Option (List Str)
  | [] => some []
  | .str i :: r => (strsOf r).map (i :: ·)
  | _ :: _ => none
theorem strsOf_rep {K : PySem.W.Frag} {g : G} : ∀ {ds : List PyData} {ys : List Str} {vs : List V}, strsOf ds = some ys → RepAll K g vs ds → vs = ys.map V.str
  | [], ys, vs, h, r => by cases h; cases r; rfl
  | .str i :: ds, ys, vs, h, r => by
    unfold strsOf at h
    obtain ⟨zs, h1, rfl⟩ := Option.map_eq_some_iff.mp h
    cases r with
    | cons r1 r2 => rw [r1.str_inv, strsOf_rep h1 r2]; rfl
  | .none :: _, _, _, h, _ => nomatch h
  | .bool _ :: _, _, _, h, _ => nomatch h
  | .int _ :: _, _, _, h, _ => nomatch h
  | .list _ :: _, _, _, h, _ => nomatch h
  | .tuple _ :: _, _, _, h, _ => nomatch h
  | .dict _ :: _, _, _, h, _ => nomatch h
def joinS (z : Str) (xs : List PyData) : T PyData := match strsOf xs with
  | some ys => need ((ys.map (·.length)).sum + ys.length * z.length ≤ 16777216) (.ret (.str (Txt.join z ys)))
  | none => .stuck
theorem joinS_inv {z : Str} {xs : List PyData} {b : Nat} {Q E} (w : (joinS z xs).wp b Q E) : ∃ ys, strsOf xs = some ys ∧ (ys.map (·.length)).sum + ys.length * z.length ≤ 16777216 ∧ Q (.str (Txt.join z ys)) b := by
  unfold joinS at w
  cases e : strsOf xs with
  | none => rw [e] at w; exact w.elim
  | some ys =>
    rw [e] at w
    obtain ⟨cc, w⟩ := need_wp w
    exact ⟨ys, rfl, of_decide_eq_true cc, w⟩
def joinD : PyData → PyData → T PyData
  | .str z, .list xs => joinS z xs
  | .str z, .tuple xs => joinS z xs
  | _, _ => .stuck
def strO (t : T PyData) (k : PyData → T PyData) : T PyData := t >>= fun d => match d with | .str z => k (.str z) | _ => .stuck
theorem me_join (ha : PE X a (tR X.K C M ma)) (hb : PE X b (tR X.K C M mb)) (hs : starEach [b] X.env = [(false, eval b X.env)]) (hbase : attributeBase a "join" X.env (eval a X.env) = eval a X.env) (hline : (apos.endLine == pos.line) = true) :
    PE X (.Call (.Attribute a "join" apos) [b] [] pos) (tM X.K C M fun ρ => strO (ma ρ) fun x => do let y ← mb ρ; joinD x y) := by
  refine (pe_join ha hb hs hbase hline).weak ?_
  rintro σ H Q ⟨en, g, ρ, mi, w⟩
  refine ⟨en, g, ρ, mi, T.wp_mono (T.wp_bind.mp w) (fun d b1 w2 v g1 H1 st eb br => ?_) fun _ _ _ z => z⟩
  cases d <;> first | exact w2.elim | skip
  rename_i z
  refine ⟨⟨z, br.str⟩, en, g1, ρ, mi.step st, ?_⟩
  rw [eb, st.dk]
  refine T.wp_mono (T.wp_bind.mp w2) (fun e b2 w3 v2 g2 H2 st2 eb2 br2 => ?_) fun _ _ _ z => z
  cases e with
  | list xs =>
    obtain ⟨ys, hy, cc, w3⟩ := joinS_inv w3
    obtain ⟨p1, vs, rfl, h1, r1⟩ := br2.list st2.ok
    have e := strsOf_rep hy r1
    subst e
    exact ⟨z, p1, ys, br.str, rfl, .inl (SqL.of h1), cc, w3 _ g2 H2 (st.trans st2) eb2 (.str _)⟩
  | tuple xs =>
    obtain ⟨ys, hy, cc, w3⟩ := joinS_inv w3
    obtain ⟨p1, vs, rfl, h1, r1⟩ := br2.tup st2.ok
    have e := strsOf_rep hy r1
    subst e
    exact ⟨z, p1, ys, br.str, rfl, .inr h1, cc, w3 _ g2 H2 (st.trans st2) eb2 (.str _)⟩
  | _ => exact w3.elim
end
end R

set_option Elab.async false
set_option linter.all false
set_option maxRecDepth 100000
set_option maxHeartbeats 1000000
/-! R21: own lists and dicts lent to a call that tells no list and no dict. -/
namespace R
open PySem PySem.Spec L2
mutual
def immD : PyData → Bool
  | .none => true
  | .bool _ => true
  | .int _ => true
  | .str _ => true
  | .tuple xs => immAll xs
  | _ => false
def immAll : List PyData → Bool
  | [] => true
  | x :: r => immD x && immAll r
end
mutual
theorem Rep.imm {K : PySem.W.Frag} {g g' : G} (h : ∀ a xs, SqT K g.Fz a xs → SqT K g'.Fz a xs) : ∀ {v : V} {d : PyData}, Rep K g v d → immD d = true → Rep K g' v d
  | _, _, .non, _ => .non
  | _, _, .bl b, _ => .bl b
  | _, _, .int i, _ => .int i
  | _, _, .str x, _ => .str x
  | _, _, .lst s r, q => by simp [immD] at q
  | _, _, .tup s r, q => .tup (h _ _ s) (RepAll.imm h r (by simpa [immD] using q))
  | _, _, .dK s l r, q => by simp [immD] at q
  | _, _, .dT s l r, q => by simp [immD] at q
  | _, _, .dk e, q => by simp [immD, dkD] at q
theorem RepAll.imm {K : PySem.W.Frag} {g g' : G} (h : ∀ a xs, SqT K g.Fz a xs → SqT K g'.Fz a xs) : ∀ {vs : List V} {ds : List PyData}, RepAll K g vs ds → immAll ds = true → RepAll K g' vs ds
  | _, _, .nil, _ => .nil
  | _, _, .cons r t, q => by
    simp only [immAll, Bool.and_eq_true] at q
    exact .cons (Rep.imm h r q.1) (RepAll.imm h t q.2)
end
/-- a list or a dict -/
def Loose : HO → Prop
  | .lst _ => True
  | .dK _ => True
  | .dT _ => True
  | _ => False
/-- what is lent: frozen for a while -/
def lent (A : Addr → Prop) [DecidablePred A] (g : G) (H : Hp) : G := { g with Fz := fun a => if (g.Fz a).isNone ∧ A a then H a else g.Fz a }
def back (A : Addr → Prop) [DecidablePred A] (g g' : G) : G := { g' with Fz := fun a => if (g.Fz a).isNone ∧ A a then none else g'.Fz a }
section
variable {K : PySem.W.Frag} {A : Addr → Prop} [DecidablePred A] {g g' : G} {H H' : Hp}
theorem lent_of_some {a : Addr} {o : HO} (e : g.Fz a = some o) : (lent A g H).Fz a = some o := by
  show (if (g.Fz a).isNone ∧ A a then H a else g.Fz a) = _
  rw [if_neg (by rw [e]; simp), e]
theorem lent_ok (ok : GOk g H) (hA : ∀ a, A a → ¬ g.isDk a) : GOk (lent A g H) H where
  sub := fun a o e => by
    have e : (if (g.Fz a).isNone ∧ A a then H a else g.Fz a) = some o := e
    split at e
    · exact e
    · exact ok.sub _ _ e
  dkf := fun a q => by
    show (if (g.Fz a).isNone ∧ A a then H a else g.Fz a) = none
    have q : g.isDk a := q
    rw [if_neg (fun z => hA a z.2 q)]
    exact ok.dkf a q
  dok := ok.dok
theorem back_step (hA : ∀ a, A a → ¬ g.isDk a) (st : Step (lent A g H) H g' H') : Step g H (back A g g') H' where
  fz := fun a o e => by
    show (if (g.Fz a).isNone ∧ A a then none else g'.Fz a) = _
    rw [if_neg (by rw [e]; simp)]
    exact st.fz _ _ (lent_of_some e)
  ok := ⟨fun a o e => by
    have e : (if (g.Fz a).isNone ∧ A a then none else g'.Fz a) = some o := e
    split at e
    · cases e
    · exact st.ok.sub _ _ e, fun a q => by
    show (if (g.Fz a).isNone ∧ A a then none else g'.Fz a) = none
    split
    · rfl
    · exact st.ok.dkf a q, st.ok.dok⟩
  dk := st.dk
  keep := fun a o e n => st.keep a o e n
  new := fun a q => by
    have q : (if (g.Fz a).isNone ∧ A a then none else g'.Fz a) ≠ none := q
    split at q
    · exact absurd rfl q
    · rename_i z
      rcases st.new a q with c | c
      · have c : (if (g.Fz a).isNone ∧ A a then H a else g.Fz a) ≠ none := c
        rw [if_neg z] at c
        exact .inl c
      · exact .inr c
theorem back_sqt (hL : ∀ a, A a → g.Fz a = none → ∃ o, H a = some o ∧ Loose o) (st : Step (lent A g H) H g' H') (a : Addr) (xs : List V) (s : SqT K g'.Fz a xs) : SqT K (back A g g').Fz a xs := by
  have hn : ∀ o, g'.Fz a = some o → ¬ Loose o → (back A g g').Fz a = some o := fun o e n => by
    show (if (g.Fz a).isNone ∧ A a then none else g'.Fz a) = _
    rw [if_neg ?_, e]
    rintro ⟨z1, z2⟩
    have z1 : g.Fz a = none := by simpa using z1
    obtain ⟨u, hu, lu⟩ := hL a z2 z1
    have : (lent A g H).Fz a = some u := by
      show (if (g.Fz a).isNone ∧ A a then H a else g.Fz a) = _
      rw [if_pos ⟨by simpa using z1, z2⟩, hu]
    have := st.fz _ _ this
    rw [e] at this
    cases this
    exact n lu
  rcases s with (s | ⟨o, s⟩) | s
  · exact .inl (.inl (hn _ s fun z => z))
  · exact .inl (.inr ⟨o, hn _ s fun z => z⟩)
  · exact .inr s
theorem lent_mono : ∀ a o, g.Fz a = some o → (lent A g H).Fz a = some o := fun _ _ e => lent_of_some e
theorem BRep.lend {v : V} {d : PyData} (ok : GOk g H) (r : BRep K g H v d) (h : ∀ a, v = .ref a → A a) : Rep K (lent A g H) v d := by
  rcases r with r | ⟨a, e, o, n⟩
  · exact r.mono lent_mono rfl
  · have ha := h a e
    have at_ : ∀ o, H a = some o → (lent A g H).Fz a = some o := fun o ho => by
      show (if (g.Fz a).isNone ∧ A a then H a else g.Fz a) = _
      cases q : g.Fz a with
      | none => rw [if_pos ⟨rfl, ha⟩]; exact ho
      | some u => rw [if_neg (by simp)]; rw [← ok.sub _ _ q]; exact ho
    subst e
    cases o with
    | lst h r => exact .lst (at_ _ h) (r.mono lent_mono rfl)
    | dK h l r => exact .dK (at_ _ h) l (r.mono lent_mono rfl)
    | dT h l r => exact .dT (at_ _ h) l (r.mono lent_mono rfl)
theorem Own.loose {a : Addr} {d : PyData} (o : Own K g H a d) : ∃ u, H a = some u ∧ Loose u := by
  cases o with
  | lst h _ => exact ⟨_, h, trivial⟩
  | dK h _ _ => exact ⟨_, h, trivial⟩
  | dT h _ _ => exact ⟨_, h, trivial⟩
end
/-- all that some def has as its own -/
def AllOwn (K : PySem.W.Frag) (g : G) (H : Hp) (a : Addr) : Prop := ∃ d, Own K g H a d ∧ ¬ g.isDk a
noncomputable instance (K : PySem.W.Frag) (g : G) (H : Hp) : DecidablePred (AllOwn K g H) := fun _ => Classical.propDecidable _
theorem BRepAll.lend {K : PySem.W.Frag} {g : G} {H : Hp} (ok : GOk g H) : ∀ {vs : List V} {ds : List PyData}, BRepAll K g H vs ds → RepAll K (lent (AllOwn K g H) g H) vs ds
  | _, _, .nil => .nil
  | _, _, .cons (.inl r) t => .cons (r.mono lent_mono rfl) (t.lend ok)
  | _, _, .cons (.inr ⟨a, e, o, n⟩) t => .cons (BRep.lend (A := AllOwn K g H) ok (.inr ⟨a, e, o, n⟩) fun b h => by rw [e] at h; cases h; exact ⟨_, o, n⟩) (t.lend ok)
def lendT (t : T PyData) : T PyData := nox t >>= fun d => need (immD d) (.ret d)
section
variable {X : Cx} {C : Ct} {M : List Nat} {CX : CXT} {k n k' : Nat} {f : Addr} {fd : FuncData} {ps ks : List Str} {dvs : List V} {ds : List Value} {x : Str} {st : Stmt} {p pos : Pos} {e : Expr} {es : List Expr} {kws : List Keyword} {m : List PyData → T PyData} {ms mk : Env → T (List PyData)} {dd : List PyData}
theorem lend_wp {K : PySem.W.Frag} {g g1 : G} {H H1 : Hp} {Q : VK} {vs : List V} {xs : List PyData} {b1 : Nat} {E : XK} {E' : Str → List (Str × PyData) → Nat → Prop} (st : Step g H g1 H1) (eb : g1.b = b1) (r : BRepAll K g1 H1 vs xs) (hn : vs.length = n)
    (w : (lendT (m xs)).wp b1 (QV K g H Q) E') : spM K C.cls n m vs H1 Q E := by
  refine ⟨lent (AllOwn K g1 H1) g1 H1, xs, hn, lent_ok st.ok fun a h => h.elim fun _ q => q.2, r.lend st.ok, ?_⟩
  show (m xs).wp g1.b _ _
  rw [eb]
  refine nox_wp (T.wp_mono (T.wp_bind.mp w) (fun d b' w2 v g' H' st' eb' rd => ?_) fun c fs b' q => ?_) (E := fun _ _ _ => True)
  · obtain ⟨cc, w2⟩ := need_wp w2
    have hA : ∀ a, AllOwn K g1 H1 a → ¬ g1.isDk a := fun a h => h.elim fun _ q => q.2
    refine w2 v (back (AllOwn K g1 H1) g1 g') H' (st.trans (back_step hA st')) eb' ?_
    exact Rep.imm (fun a ys s => back_sqt (fun b h _ => h.elim fun _ q => q.1.loose) st' a ys s) rd cc
  · trivial
/-- f(e, ..), own lists and dicts among what is handed in -/
theorem mcL (c : Cal X.prog X.w X.K X.mg X.base CX C.cls x st [] k n ps m) (hr : RoomG k' X.A) (hk : k ≤ k') (hx : Passes CX X C.E) (hb : ∀ (kV doc pm : Value) (an : Option Addr) (cdv ct : Value) (us : List Value), us.length = ps.length → bindArgs (PySem.W.fnOf x x (defArgs st) (defBody st) (defScope st) .none kV doc pm an cdv ct) ⟨us, []⟩ = pure (ps.zip us))
    (hn : (e :: es).length = n) (hl : ∀ ρ b Q E, (ms ρ).wp b Q E → (ms ρ).wp b (fun xs b' => xs.length = (e :: es).length ∧ Q xs b') E) (hg : Gl X x) (ha : PA X (e :: es) (tLR X.K C M ms)) (hdb : (x == ("__debug__" : Str)) = false) (he : starEach (e :: es) X.env = (false, eval e X.env) :: starEach es X.env) (hpl : (backTo pos (starEach es X.env)).any (·.1) = false) :
    PE X (.Call (.Name x p) (e :: es) [] pos) (tM X.K C M fun ρ => do let xs ← ms ρ; lendT (m xs)) := by
  obtain ⟨f, fd, F, hm, D⟩ := c.ex
  refine (peG_call F (hr.mono hk) hg hm D.kp (D.bindsN hb) (dvs := []) .nil hx ha hdb he hpl).weak ?_
  rintro σ H Q ⟨en, g, ρ, mi, w⟩
  refine ⟨en, g, ρ, mi, T.wp_mono (hl _ _ _ _ (T.wp_bind.mp w)) (fun xs b1 w2 vs g1 H1 st eb r => ?_) fun _ _ _ z => z⟩
  show spM X.K C.cls n m (vs ++ []) H1 Q C.E
  rw [List.append_nil]
  have rl : ∀ {vs : List V} {ds : List PyData}, BRepAll X.K g1 H1 vs ds → vs.length = ds.length := fun {vs ds} r => by
    induction r with
    | nil => rfl
    | cons _ _ ih => simp [ih]
  exact lend_wp (C := C) st eb r (by rw [rl r, w2.1]; exact hn) w2.2
end
end R

set_option Elab.async false
set_option linter.all false
set_option maxRecDepth 100000
set_option maxHeartbeats 1000000
/-! R22: reading mirrors, further. -/
namespace R
open PySem PySem.Spec L2
section
variable {α : Type} {xs ys : List PyData} {a b : Int} {x y z : Str} {d e : PyData} {ρ : R.Env}
theorem rev_list : revD (.list xs) = .ret (.list xs.reverse) := id rfl
theorem rev_tup : revD (.tuple xs) = .ret (.tuple xs.reverse) := id rfl
theorem isb_eq {p : Bool} : isbT d (.bool p) = .ret (isBoolD d p) := id rfl
theorem isntb_eq {p : Bool} : isntbT d (.bool p) = .ret (!isBoolD d p) := id rfl
theorem isB_bool {p q : Bool} : isBoolD (.bool p) q = (p == q) := id rfl
theorem enum2_list : enum2D (.list xs) = .ret (enumL xs) := id rfl
theorem enum2_tup : enum2D (.tuple xs) = .ret (enumL xs) := id rfl
theorem cat_list : catD (.list xs) (.list ys) = need (xs.length + ys.length ≤ sizeLine) (.ret (.list (xs ++ ys))) := id rfl
theorem listRg_int : listRgD (.int a) (.int b) = need (0 ≤ a ∧ a ≤ 16777216 ∧ 0 ≤ b ∧ b ≤ 16777216) (.ret (.list (rangeL a (b - a).toNat))) := id rfl
theorem slice_str (lo hi : Option Int) : sliceD (.str z) lo hi = need (z.length ≤ sizeLine) (.ret (.str (cutS z lo hi))) := id rfl
theorem strO_str (k : PyData → T PyData) : strO (.ret (.str z)) k = k (.str z) := id rfl
theorem join_list {zs : List Str} : joinD (.str z) (.list (zs.map .str)) = need ((zs.map (·.length)).sum + zs.length * z.length ≤ 16777216) (.ret (.str (Txt.join z zs))) := by
  have e : strsOf (zs.map PyData.str) = some zs := by
    induction zs with
    | nil => rfl
    | cons z zs ih => simp [strsOf, ih]
  show joinS z _ = _
  unfold joinS
  rw [e]
theorem ext_list : extD xs (.list ys) = need (xs.length + ys.length ≤ sizeLine) (.ret (.list (xs ++ ys))) := id rfl
theorem lend_ret (h : immD d = true) : lendT (.ret d) = .ret d := by
  show need (immD d) (.ret d) = _
  exact need_true h
theorem need_p {c : Prop} [Decidable c] (t : T α) (h : c) : need (decide c) t = t := need_dec h
theorem mulL_int {k : Int} : mulD (.list xs) (.int k) = need (-9223372036854775808 ≤ k ∧ k < 9223372036854775808 ∧ xs.length * k.toNat ≤ sizeLine) (.ret (.list (List.replicate k.toNat xs).flatten)) := id rfl
theorem isNone_none : isNone .none = true := id rfl
theorem isNone_int : isNone (.int a) = false := id rfl
theorem isNone_bool {p : Bool} : isNone (.bool p) = false := id rfl
theorem isNone_str : isNone (.str x) = false := id rfl
theorem isNone_tup : isNone (.tuple xs) = false := id rfl
theorem isNone_list : isNone (.list xs) = false := id rfl
theorem idx_lit {L : List PyData} {i : Int} (h0 : 0 ≤ i) (h : L[i.toNat]? = some d) : idxD (.list L) (.int i) = .ret d := by
  obtain ⟨n, rfl⟩ : ∃ n : Nat, i = n := ⟨i.toNat, by omega⟩
  exact idx_list _ _ (atI_nat (by simpa using h))
theorem draw1 (n : Int) : drawT 1 [dkD 1, .int n] = .draw n fun r => .ret (.int r) := draw_eq 1 n
theorem draw0 (n : Int) : drawT 0 [dkD 0, .int n] = .draw n fun r => .ret (.int r) := draw_eq 0 n
theorem draw2 (n : Int) : drawT 2 [dkD 2, .int n] = .draw n fun r => .ret (.int r) := draw_eq 2 n
theorem AllE.eq {α β : Type} {t : T α} {v : α} {f : α → T β} {Q : β → Prop} (h : AllE t (· = v)) (hf : AllE (f v) Q) : AllE (t >>= f) Q := h.bind fun _ e => e ▸ hf
theorem AllE.nox {t : T α} {Q : α → Prop} (h : AllE t Q) : AllE (R.nox t) Q := ⟨all_nox.mpr h.h⟩
/-- an item of a list is drawn -/
theorem AllE.item {L : List PyData} {n : Int} {Q : α → Prop} {k : PyData → T α} (hn : n = L.length) (h0 : L ≠ []) (h1 : L.length < 1073741824) (hk : ∀ d ∈ L, AllE (k d) Q) : AllE (.draw n fun r => idxD (.list L) (.int r) >>= k) Q := by
  subst hn
  have hl : 0 < L.length := by cases L with | nil => exact absurd rfl h0 | cons _ _ => simp
  refine .draw (by omega) (by omega) fun r a b => ?_
  obtain ⟨n, rfl⟩ : ∃ n : Nat, r = n := ⟨r.toNat, by omega⟩
  have hn : n < L.length := by omega
  rw [idx_list _ _ (atI_nat (List.getElem?_eq_getElem hn)), T.ret_bind]
  exact hk _ (List.getElem_mem hn)
/-- what a comprehension makes, each item drawn -/
theorem lc_all {f : PyData → T (Option PyData)} {P : PyData → Prop} : ∀ {ds : List PyData}, (∀ d ∈ ds, AllE (f d) fun o => ∀ y, o = some y → P y) → AllE (lcT f ds) fun r => (∀ y ∈ r, P y) ∧ r.length ≤ ds.length
  | [], _ => .ret ⟨by simp, by simp⟩
  | d :: ds, h => by
    refine (h d (by simp)).bind fun o ho => ?_
    refine (lc_all (fun x hx => h x (by simp [hx]))).bind fun r hr => ?_
    cases o with
    | none => exact .ret ⟨hr.1, by simp; have := hr.2; omega⟩
    | some y =>
      refine .ret ⟨fun z hz => ?_, by simp; have := hr.2; omega⟩
      rcases List.mem_cons.mp hz with rfl | hz
      · exact ho _ rfl
      · exact hr.1 z hz
/-- .. with no test: just as many -/
theorem lc_allN {f : PyData → T (Option PyData)} {P : PyData → Prop} : ∀ {ds : List PyData}, (∀ d ∈ ds, AllE (f d) fun o => ∃ y, o = some y ∧ P y) → AllE (lcT f ds) fun r => (∀ y ∈ r, P y) ∧ r.length = ds.length
  | [], _ => .ret ⟨by simp, by simp⟩
  | d :: ds, h => by
    refine (h d (by simp)).bind fun o ho => ?_
    obtain ⟨y, rfl, hy⟩ := ho
    refine (lc_allN (fun x hx => h x (by simp [hx]))).bind fun r hr => ?_
    refine .ret ⟨fun z hz => ?_, by simp [hr.2]⟩
    rcases List.mem_cons.mp hz with rfl | hz
    · exact hy
    · exact hr.1 z hz
end
end R
namespace R
open PySem PySem.Spec L2
def enumK : Nat → List PyData → List PyData
  | _, [] => []
  | k, x :: r => .tuple [.int (k : Int), x] :: enumK (k + 1) r
theorem enumK_eq : ∀ (xs : List PyData) (k : Nat), List.zipWith (fun (i : Nat) x => PyData.tuple [.int (i : Int), x]) (List.range' k xs.length) xs = enumK k xs
  | [], _ => rfl
  | x :: xs, k => by
    rw [List.length_cons, List.range'_succ, List.zipWith_cons_cons, enumK_eq xs (k + 1)]
    rfl
theorem enumL_eq (xs : List PyData) : enumL xs = enumK 0 xs := by
  unfold enumL
  rw [List.range_eq_range', enumK_eq]
/-- a loop whose turns draw: what holds of the names between two turns -/
theorem for_allE {f : PyData → R.Env → T Out} {P : R.Env → Prop} {Q : Out → Prop} : ∀ {ds : List PyData} {ρ : R.Env}, P ρ → (∀ d ∈ ds, ∀ ρ, P ρ → AllE (f d ρ) fun o => (∃ ρ', (o = .nx ρ' ∨ o = .ct ρ') ∧ P ρ') ∨ (∃ d, o = .ret d ∧ Q o)) → AllE (forT f ds ρ) fun o => (∃ ρ', o = .nx ρ' ∧ P ρ') ∨ ∃ d, o = .ret d ∧ Q o
  | [], ρ, h, _ => .ret (.inl ⟨ρ, rfl, h⟩)
  | d :: ds, ρ, h, ht => by
    rw [for_cons]
    refine (ht d (by simp) ρ h).bind fun o ho => ?_
    rcases ho with ⟨ρ', e, p⟩ | ⟨v, e, q⟩
    · have : AllE (forT f ds ρ') fun o => (∃ ρ', o = .nx ρ' ∧ P ρ') ∨ ∃ d, o = .ret d ∧ Q o := for_allE p fun x hx => ht x (by simp [hx])
      rcases e with rfl | rfl <;> exact this
    · subst e
      exact .ret (.inr ⟨v, rfl, q⟩)
/-- .. none of whose turns returns -/
theorem for_nx {f : PyData → R.Env → T Out} {P : R.Env → Prop} {ds : List PyData} {ρ : R.Env} (h : P ρ) (ht : ∀ d ∈ ds, ∀ ρ, P ρ → AllE (f d ρ) fun o => ∃ ρ', o = .nx ρ' ∧ P ρ') : AllE (forT f ds ρ) fun o => ∃ ρ', o = .nx ρ' ∧ P ρ' := by
  refine (for_allE (Q := fun _ => False) h fun d hd ρ p => (ht d hd ρ p).mono fun o ho => ?_).mono fun o ho => ?_
  · obtain ⟨ρ', e, p⟩ := ho; exact .inl ⟨ρ', .inl e, p⟩
  · rcases ho with ho | ⟨_, _, ho⟩
    · exact ho
    · exact ho.elim
theorem mem_rangeL {lo : Int} {n : Nat} {d : PyData} (h : d ∈ rangeL lo n) : ∃ i : Nat, i < n ∧ d = .int (lo + i) := by
  unfold rangeL at h
  obtain ⟨i, hi, rfl⟩ := List.mem_map.mp h
  exact ⟨i, by simpa using hi, rfl⟩
theorem mem_enumK {d : PyData} : ∀ {xs : List PyData} {k : Nat}, d ∈ enumK k xs → ∃ (i : Nat) (x : PyData), d = .tuple [.int (i : Int), x] ∧ x ∈ xs ∧ k ≤ i ∧ i < k + xs.length
  | x :: xs, k, h => by
    rcases List.mem_cons.mp h with rfl | h
    · exact ⟨k, x, rfl, by simp, by simp, by simp⟩
    · obtain ⟨i, y, e, hy, h1, h2⟩ := mem_enumK h
      exact ⟨i, y, e, by simp [hy], by omega, by simp; omega⟩
end R
namespace R
open PySem PySem.Spec L2
/-- a loop that looks for something, and returns it -/
theorem for_search {α : Type} {f : PyData → R.Env → T Out} {P : R.Env → Prop} (enc : α → PyData) (hit : α → Option PyData) : ∀ {xs : List α} {ρ : R.Env}, P ρ →
    (∀ x ∈ xs, ∀ ρ, P ρ → (∃ v, hit x = some v ∧ f (enc x) ρ = .ret (.ret v)) ∨ (hit x = none ∧ ∃ ρ', f (enc x) ρ = .ret (.nx ρ') ∧ P ρ')) →
    (∃ v, xs.findSome? hit = some v ∧ forT f (xs.map enc) ρ = .ret (.ret v)) ∨ (xs.findSome? hit = none ∧ ∃ ρ', forT f (xs.map enc) ρ = .ret (.nx ρ') ∧ P ρ')
  | [], ρ, p, _ => .inr ⟨rfl, ρ, rfl, p⟩
  | x :: xs, ρ, p, h => by
    rcases h x (by simp) ρ p with ⟨v, h1, h2⟩ | ⟨h1, ρ', h2, p'⟩
    · refine .inl ⟨v, by simp [h1], ?_⟩
      rw [List.map_cons, for_cons, h2, T.ret_bind, onT_ret]
    · have ih := for_search (xs := xs) enc hit p' fun y hy => h y (List.mem_cons_of_mem _ hy)
      rw [List.map_cons, for_cons, h2, T.ret_bind, onT_nx]
      simpa [h1] using ih
theorem enumK_zip {α : Type} (enc : α → PyData) : ∀ (xs : List α) (k : Nat), enumK k (xs.map enc) = (xs.zipIdx k).map fun p => .tuple [.int (p.2 : Int), enc p.1]
  | [], _ => rfl
  | x :: xs, k => by
    rw [List.map_cons, enumK, List.zipIdx_cons, List.map_cons, enumK_zip enc xs (k + 1)]
end R
namespace R
open PySem PySem.Spec L2
/-- small, at most k deep, of at most n parts -/
def Fi (k n : Nat) (d : PyData) : Prop := small d = true ∧ d.depth ≤ k ∧ d.bulk ≤ n
theorem Fi.int {k n : Nat} {i : Int} (h : i.natAbs < 1000000000000) : Fi k n (.int i) := ⟨by simpa [small] using h, by simp [PyData.depth], by simp [PyData.bulk]⟩
theorem Fi.bool {k n : Nat} {b : Bool} : Fi k n (.bool b) := ⟨rfl, by simp [PyData.depth], by simp [PyData.bulk]⟩
theorem Fi.none {k n : Nat} : Fi k n .none := ⟨rfl, by simp [PyData.depth], by simp [PyData.bulk]⟩
theorem Fi.str {k n : Nat} {x : Str} (h : PyData.strOk x = true) (hl : x.cps.size ≤ n) : Fi k n (.str x) := ⟨by simpa [small] using h, by simp [PyData.depth], by simpa [PyData.bulk] using hl⟩
theorem Fi.tup {k c n : Nat} {xs : List PyData} (h : ∀ x ∈ xs, Fi k c x) (hl : xs.length * (c + 1) ≤ n) : Fi (k + 1) n (.tuple xs) :=
  ⟨by simp only [small]; exact (smallAll_iff xs).mpr fun x hx => (h x hx).1, by simp only [PyData.depth]; have := depthAll_le fun x hx => (h x hx).2.1; omega, by simp only [PyData.bulk]; have := bulkAll_le fun x hx => (h x hx).2.2; omega⟩
theorem Fi.lst {k c n : Nat} {xs : List PyData} (h : ∀ x ∈ xs, Fi k c x) (hl : xs.length * (c + 1) ≤ n) : Fi (k + 1) n (.list xs) :=
  ⟨by simp only [small]; exact (smallAll_iff xs).mpr fun x hx => (h x hx).1, by simp only [PyData.depth]; have := depthAll_le fun x hx => (h x hx).2.1; omega, by simp only [PyData.bulk]; have := bulkAll_le fun x hx => (h x hx).2.2; omega⟩
theorem Fi.mono {k k' n n' : Nat} {d : PyData} (h : Fi k n d) (hk : k ≤ k') (hn : n ≤ n') : Fi k' n' d := ⟨h.1, by have := h.2.1; omega, by have := h.2.2; omega⟩
theorem Fi.repr {k n : Nat} {d : PyData} (h : Fi k n d) (hk : k ≤ 64) (hn : n ≤ 1048576) : reprD d = .ret (.str d.shown) := repr_ok h.1 (by have := h.2.1; omega) (by have := h.2.2; omega)
theorem Fi.shaped {k n : Nat} {d : PyData} (h : Fi k n d) (hk : k ≤ 64) : SeqAt.shaped d = true := small_shaped h.1 (by have := h.2.1; omega)
end R
namespace R
open PySem PySem.Spec L2
theorem maps_of {α : Type} {enc : α → PyData} {p : α → Prop} : ∀ {r : List PyData}, (∀ y ∈ r, ∃ a, y = enc a ∧ p a) → ∃ as : List α, r = as.map enc ∧ ∀ a ∈ as, p a
  | [], _ => ⟨[], rfl, by simp⟩
  | y :: r, h => by
    obtain ⟨a, rfl, pa⟩ := h y (by simp)
    obtain ⟨as, rfl, ps⟩ := maps_of (enc := enc) (p := p) (r := r) fun z hz => h z (by simp [hz])
    exact ⟨a :: as, rfl, by simpa using ⟨pa, ps⟩⟩
/-- a comprehension: what is made is said of each item -/
theorem lcD_all {t : Tg} {vs : List Nat} {mit : R.Env → T (List PyData)} {tc : R.Env → T Bool} {te : R.Env → T PyData} {ρ : R.Env} {ds : List PyData} {P : PyData → Prop} (hm : mit ρ = .ret ds) (hl : ds.length ≤ sizeLine)
    (h : ∀ d ∈ ds, AllE (compT t tc te (wiped ρ vs) d) fun o => ∀ y, o = some y → P y) : AllE (lcD t vs mit tc te ρ) fun r => ∃ ys, r = .list ys ∧ (∀ y ∈ ys, P y) ∧ ys.length ≤ ds.length := by
  unfold lcD
  rw [hm, T.ret_bind, need_dec hl]
  exact (lc_all h).bind fun r hr => .ret ⟨r, rfl, hr⟩
theorem lcD_allN {t : Tg} {vs : List Nat} {mit : R.Env → T (List PyData)} {tc : R.Env → T Bool} {te : R.Env → T PyData} {ρ : R.Env} {ds : List PyData} {P : PyData → Prop} (hm : mit ρ = .ret ds) (hl : ds.length ≤ sizeLine)
    (h : ∀ d ∈ ds, AllE (compT t tc te (wiped ρ vs) d) fun o => ∃ y, o = some y ∧ P y) : AllE (lcD t vs mit tc te ρ) fun r => ∃ ys, r = .list ys ∧ (∀ y ∈ ys, P y) ∧ ys.length = ds.length := by
  unfold lcD
  rw [hm, T.ret_bind, need_dec hl]
  exact (lc_allN h).bind fun r hr => .ret ⟨r, rfl, hr⟩
/-- .. without draws -/
theorem lcD_eq {t : Tg} {vs : List Nat} {mit : R.Env → T (List PyData)} {tc : R.Env → T Bool} {te : R.Env → T PyData} {ρ : R.Env} {ds : List PyData} (g : PyData → Option PyData) (hm : mit ρ = .ret ds) (hl : ds.length ≤ sizeLine)
    (h : ∀ d ∈ ds, compT t tc te (wiped ρ vs) d = .ret (g d)) : lcD t vs mit tc te ρ = .ret (.list (ds.filterMap g)) := by
  unfold lcD
  rw [hm, T.ret_bind, need_dec hl, lc_map g h, T.ret_bind]
theorem comp_n {i : Nat} {tc : R.Env → T Bool} {te : R.Env → T PyData} {ρ : R.Env} {d : PyData} : compT (.n i) tc te ρ d = nox (tc (put ρ i d)) >>= fun k => if k = true then nox (te (put ρ i d)) >>= fun y => .ret (some y) else .ret none := rfl
theorem comp_t {ts : List Tg} {tc : R.Env → T Bool} {te : R.Env → T PyData} {ρ ρ' : R.Env} {xs : List PyData} (h : asgTs ts xs ρ = some ρ') : compT (.t ts) tc te ρ (.tuple xs) = nox (tc ρ') >>= fun k => if k = true then nox (te ρ') >>= fun y => .ret (some y) else .ret none := by
  unfold compT
  rw [asg_t, h]
theorem range8 : range1D (.int 8) = .ret (rangeL 0 8) := range1 (by decide) (by decide)
end R
namespace R
open PySem PySem.Spec L2
theorem max_i {a b : Int} : max2D (.int a) (.int b) = .ret (.int (max a b)) := by
  rw [max_int]
  congr 2
  split <;> omega
theorem min_i {a b : Int} : min2D (.int a) (.int b) = .ret (.int (min a b)) := by
  rw [min_int]
  congr 2
  split <;> omega
theorem lcD_on {α : Type} {t : Tg} {vs : List Nat} {mit : R.Env → T (List PyData)} {tc : R.Env → T Bool} {te : R.Env → T PyData} {ρ : R.Env} {xs : List α} (enc enc' : α → PyData) (p : α → Bool) (hm : mit ρ = .ret (xs.map enc)) (hl : xs.length ≤ sizeLine)
    (h : ∀ a ∈ xs, compT t tc te (wiped ρ vs) (enc a) = .ret (if p a = true then some (enc' a) else none)) : lcD t vs mit tc te ρ = .ret (.list ((xs.filter p).map enc')) := by
  unfold lcD
  rw [hm, T.ret_bind, need_dec (by simpa using hl)]
  have : lcT (compT t tc te (wiped ρ vs)) (xs.map enc) = .ret ((xs.filter p).map enc') := by
    clear hm hl
    induction xs with
    | nil => rfl
    | cons a xs ih =>
      show (compT t tc te (wiped ρ vs) (enc a) >>= fun o => lcT _ (xs.map enc) >>= fun r => .ret _) = _
      rw [h a (by simp), T.ret_bind, ih (fun b hb => h b (by simp [hb])), T.ret_bind, List.filter_cons]
      cases p a <;> rfl
  rw [this, T.ret_bind]
end R
namespace R
open PySem PySem.Spec L2
/-- a loop each of whose turns adds at most so much -/
theorem for_cnt {f : PyData → R.Env → T Out} {P : Nat → R.Env → Prop} (c B : Nat) : ∀ {ds : List PyData} {m : Nat} {ρ : R.Env}, (∀ d ∈ ds, ∀ m ρ, m + c ≤ B → P m ρ → AllE (f d ρ) fun o => ∃ ρ', o = .nx ρ' ∧ P (m + c) ρ') → m + ds.length * c ≤ B → P m ρ → AllE (forT f ds ρ) fun o => ∃ ρ', o = .nx ρ' ∧ P (m + ds.length * c) ρ'
  | [], m, ρ, _, _, p => .ret ⟨ρ, rfl, by simpa using p⟩
  | d :: ds, m, ρ, h, hb, p => by
    rw [List.length_cons, Nat.add_mul, Nat.one_mul] at hb
    rw [for_cons]
    refine (h d (by simp) m ρ (by omega) p).bind fun o ho => ?_
    obtain ⟨ρ', rfl, p'⟩ := ho
    rw [onT_nx]
    have ih := for_cnt (f := f) c B (ds := ds) (m := m + c) (ρ := ρ') (fun x hx => h x (by simp [hx])) (by omega) p'
    rw [show m + c + ds.length * c = m + (d :: ds).length * c by rw [List.length_cons, Nat.add_mul]; omega] at ih
    exact ih
end R
namespace R
open PySem PySem.Spec L2
theorem at_last {α : Type} {L : List α} {x : α} (h : L.getLast? = some x) : atI L (-1) = some x := by
  have hn : L ≠ [] := fun e => by subst e; cases h
  have hl : 0 < L.length := List.length_pos_iff.mpr hn
  rw [List.getLast?_eq_getElem?] at h
  unfold atI
  have : ixN L.length (-1) = some (L.length - 1) := by
    unfold ixN
    simp
    omega
  rw [this]
  exact h
end R

set_option Elab.async false
set_option linter.all false
set_option maxRecDepth 100000
set_option maxHeartbeats 1000000
/-! R23: short texts, sorted texts. -/
namespace R
open PySem PySem.Spec L2 TL
/-- a plain text of at most n signs -/
def Sk (n : Nat) (z : Str) : Prop := z.cps.size ≤ n ∧ PyData.strOk z = true
theorem strOk_iff {z : Str} : PyData.strOk z = true ↔ ∀ c ∈ tl z, c < 0x110000 := by
  unfold PyData.strOk
  rw [← Array.all_toList, List.all_eq_true]
  simp only [decide_eq_true_eq]
theorem Sk.iff {n : Nat} {z : Str} : Sk n z ↔ (tl z).length ≤ n ∧ ∀ c ∈ tl z, c < 0x110000 := by
  unfold Sk
  rw [strOk_iff]
  have : (tl z).length = z.cps.size := by simp [tl]
  rw [this]
theorem Sk.mono {m n : Nat} {z : Str} (h : Sk m z) (hm : m ≤ n) : Sk n z := ⟨Nat.le_trans h.1 hm, h.2⟩
theorem Sk.len {n : Nat} {z : Str} (h : Sk n z) : z.length ≤ n := h.1
theorem Sk.fi {k n m : Nat} {z : Str} (h : Sk n z) (hm : n ≤ m) : Fi k m (.str z) := Fi.str h.2 (Nat.le_trans h.1 hm)
theorem Sk.app {m n : Nat} {x y : Str} (h : Sk m x) (h' : Sk n y) : Sk (m + n) (x ++ y) := by
  rw [Sk.iff] at *
  rw [tl_append]
  refine ⟨by rw [List.length_append]; omega, fun c hc => ?_⟩
  rcases List.mem_append.mp hc with hc | hc
  · exact h.2 c hc
  · exact h'.2 c hc
theorem tl_cutS (z : Str) (lo hi : Option Int) : tl (cutS z lo hi) = ((tl z).drop (HT.sIx z.length 0 lo)).take (HT.sIx z.length z.length hi - HT.sIx z.length 0 lo) := by
  simp [tl, cutS]
theorem Sk.cut {n : Nat} {z : Str} (h : Sk n z) (lo hi : Option Int) : Sk n (cutS z lo hi) := by
  rw [Sk.iff] at *
  rw [tl_cutS]
  refine ⟨Nat.le_trans (List.length_take_le' ..) (Nat.le_trans (by rw [List.length_drop]; omega) h.1), fun c hc => h.2 c (List.mem_of_mem_drop (List.mem_of_mem_take hc))⟩
theorem Sk.one {c : Nat} (h : c < 0x110000) : Sk 1 ⟨#[c]⟩ := by
  rw [Sk.iff]
  exact ⟨by simp [tl], by simpa [tl] using h⟩
theorem joinL_len {S : List Nat} : ∀ {ps : List (List Nat)} {m : Nat}, (∀ p ∈ ps, p.length ≤ m) → (joinL S ps).length ≤ ps.length * (m + S.length)
  | [], m, _ => by simp [joinL]
  | [p], m, h => by
    have := h p (by simp)
    simp [joinL]; omega
  | p :: q :: r, m, h => by
    have h1 := h p (by simp)
    have h2 := joinL_len (S := S) (ps := q :: r) (m := m) fun x hx => h x (List.mem_cons_of_mem _ hx)
    simp only [joinL, List.length_append, List.length_cons, Nat.add_mul] at *
    omega
theorem joinL_all {S : List Nat} {P : Nat → Prop} (hS : ∀ c ∈ S, P c) : ∀ {ps : List (List Nat)}, (∀ p ∈ ps, ∀ c ∈ p, P c) → ∀ c ∈ joinL S ps, P c
  | [], _ => by simp [joinL]
  | [p], h => by simpa [joinL] using h p (by simp)
  | p :: q :: r, h => by
    have h2 := joinL_all hS (ps := q :: r) fun x hx => h x (List.mem_cons_of_mem _ hx)
    intro c hc
    simp only [joinL, List.mem_append] at hc
    rcases hc with hc | hc | hc
    · exact h p (by simp) c hc
    · exact hS c hc
    · exact h2 c hc
theorem Sk.join {m n : Nat} {z : Str} {ys : List Str} (hz : Sk n z) (h : ∀ y ∈ ys, Sk m y) : Sk (ys.length * (m + n)) (Txt.join z ys) := by
  rw [join_eq, Sk.iff, tl_join]
  have hz := Sk.iff.mp hz
  constructor
  · refine Nat.le_trans (joinL_len (m := m) fun p hp => ?_) ?_
    · obtain ⟨y, hy, rfl⟩ := List.mem_map.mp hp
      exact (Sk.iff.mp (h y hy)).1
    · rw [List.length_map]
      exact Nat.mul_le_mul_left _ (by omega)
  · refine joinL_all hz.2 fun p hp => ?_
    obtain ⟨y, hy, rfl⟩ := List.mem_map.mp hp
    exact (Sk.iff.mp (h y hy)).2
theorem sum_len {m : Nat} : ∀ {ys : List Str}, (∀ y ∈ ys, Sk m y) → (ys.map (·.length)).sum ≤ ys.length * m
  | [], _ => by simp
  | y :: ys, h => by
    have h1 := (h y (by simp)).len
    have h2 := sum_len (ys := ys) fun x hx => h x (by simp [hx])
    simp only [List.map_cons, List.sum_cons, List.length_cons, Nat.add_mul]
    omega
theorem idx_str {z : Str} {i : Int} {c : Nat} (h : z.length ≤ sizeLine) (e : atI z.cps.toList i = some c) : idxD (.str z) (.int i) = .ret (.str ⟨#[c]⟩) := by
  unfold idxD
  simp only
  rw [need_dec h, e]
theorem letters_at {i : Int} (h0 : 0 ≤ i) (h1 : i < 26) : ∃ c : Nat, idxD (.str "abcdefghijklmnopqrstuvwxyz") (.int i) = .ret (.str ⟨#[c]⟩) ∧ 97 ≤ c ∧ c ≤ 122 := by
  have hl : ("abcdefghijklmnopqrstuvwxyz" : Str).cps.toList.length = 26 := by decide +kernel
  have hc : ∀ c ∈ ("abcdefghijklmnopqrstuvwxyz" : Str).cps.toList, 97 ≤ c ∧ c ≤ 122 := by decide +kernel
  obtain ⟨n, rfl⟩ : ∃ n : Nat, i = n := ⟨i.toNat, by omega⟩
  have hn : n < ("abcdefghijklmnopqrstuvwxyz" : Str).cps.toList.length := by omega
  refine ⟨_, idx_str (by decide +kernel) (atI_nat (List.getElem?_eq_getElem hn)), hc _ (List.getElem_mem hn)⟩
/-! sorted texts -/
theorem sort_strs {zs : List Str} (hl : zs.length ≤ 1000000) : ∃ ws : List Str, sortD (.list (zs.map .str)) = .ret (.list (ws.map .str)) ∧ (∀ w ∈ ws, w ∈ zs) ∧ ws.length = zs.length := by
  have ok : sortOk (zs.map .str) = true := by
    unfold sortOk
    have a1 : ((zs.map PyData.str).all fun x => (zs.map PyData.str).all fun y => PySem.W.alike x y) = true := by simp [PySem.W.alike]
    have a2 : (zs.map PyData.str).all noTup = true := by simp [noTup]
    have a3 : ((zs.map PyData.str).all fun x => decide (x.depth ≤ 64)) = true := by simp [PyData.depth]
    rw [a1, a2, a3, decide_eq_true (show (zs.map PyData.str).length ≤ sizeLine by rw [sizeLine_eq]; simp; omega)]
    simp
  have p : (sortL (zs.map .str)).Perm (zs.map .str) := List.mergeSort_perm _ _
  obtain ⟨ws, e, h⟩ := maps_of (enc := PyData.str) (p := fun w => w ∈ zs) (r := sortL (zs.map .str)) fun y hy => by
    obtain ⟨w, hw, rfl⟩ := List.mem_map.mp (p.mem_iff.mp hy)
    exact ⟨w, rfl, hw⟩
  refine ⟨ws, ?_, h, ?_⟩
  · show need (sortOk _) _ = _
    rw [need_true ok, e]
  · have := p.length_eq
    rw [e] at this
    simpa using this
theorem sh_str {x : Str} (h : PyData.strOk x = true) : SeqAt.shaped (.str x) = true := small_shaped (by simpa [small] using h) (by simp [PyData.depth])
theorem eq_is {a : Int} {x : Str} (h : PyData.strOk x = true) : eqT (.int a) (.str x) = .ret false := by rw [eqT_ok rfl (sh_str h)]; simp [PyData.eqv]
theorem ne_is {a : Int} {x : Str} (h : PyData.strOk x = true) : neT (.int a) (.str x) = .ret true := by rw [neT_ok rfl (sh_str h)]; simp [PyData.eqv]
theorem eq_ns {x : Str} (h : PyData.strOk x = true) : eqT .none (.str x) = .ret false := by rw [eqT_ok rfl (sh_str h)]; simp [PyData.eqv]
theorem ne_ns {x : Str} (h : PyData.strOk x = true) : neT .none (.str x) = .ret true := by rw [neT_ok rfl (sh_str h)]; simp [PyData.eqv]
/-- a flat thing in a tuple of flat things -/
theorem in_flat {d : PyData} {ds : List PyData} (h : flatD d = true) (h' : ds.all flatD = true) (neg : Bool) : inT neg d (.tuple ds) = .ret (if neg then !inB ds d else inB ds d) := by
  show need (flatD d && ds.all flatD) _ = _
  rw [h, h']
  rfl
end R

set_option Elab.async false
set_option linter.all false
set_option maxRecDepth 100000
set_option maxHeartbeats 4000000
namespace Lw
open PySem PySem.Spec L2 R
/-! ### mirrors -/
def b_size_of : R.Env → T Out := (fun ρ => retT (do let x ← (T.ret (.int 65536)); let y ← getv 0 ρ; shrD x y))
def m_size_of : List PyData → T PyData := fun ds => nox (bodyT 1 1 b_size_of ds)
def b_has : R.Env → T Out := (seqT (fun ρ => getv 0 ρ >>= fun d => asgO (.t [(.n 2), (.n 3)]) d ρ) (fun ρ => retT (do let x ← getv 2 ρ; let y ← getv 1 ρ; bV (chainT leT ltT x y (do let x ← getv 2 ρ; let y ← (do let xs ← (do let x ← getv 3 ρ; let r ← (T.ret []); .ret (x :: r)); m_size_of xs); addD x y)))))
def m_has : List PyData → T PyData := fun ds => nox (bodyT 2 4 b_has ds)
def b_is_within : R.Env → T Out := (fun ρ => retT (andV (do let x ← (do let x ← getv 0 ρ; let y ← (T.ret (.int 1)); idxD x y); let y ← (do let x ← getv 1 ρ; let y ← (T.ret (.int 1)); idxD x y); bV (geT x y)) (do let xs ← (do let x ← getv 1 ρ; let r ← (do let x ← (do let x ← getv 0 ρ; let y ← (T.ret (.int 0)); idxD x y); let r ← (T.ret []); .ret (x :: r)); .ret (x :: r)); m_has xs)))
def m_is_within : List PyData → T PyData := fun ds => nox (bodyT 2 2 b_is_within ds)
def t1_word_for : PyData → R.Env → T Out := turnT (.t [(.n 3), (.n 4), (.n 5), (.n 6)]) (fun ρ => ifT (andT (do let x ← getv 3 ρ; let y ← getv 1 ρ; eqT x y) (andT (do let x ← (do let x ← getv 2 ρ; let y ← (T.ret (.int 1)); idxD x y); let y ← getv 5 ρ; leT x y) ((do let xs ← (do let x ← getv 2 ρ; let r ← (do let x ← getv 4 ρ; let r ← (T.ret []); .ret (x :: r)); .ret (x :: r)); m_is_within xs) >>= truT))) ((fun ρ => retT (getv 6 ρ)) ρ) ((fun ρ => T.ret (.nx ρ)) ρ))
def b_word_for : R.Env → T Out := (seqT (fun ρ => (getv 0 ρ >>= itemsD) >>= fun ds => forT t1_word_for ds ρ) (fun ρ => retT (T.ret PyData.none)))
def m_word_for : List PyData → T PyData := fun ds => nox (bodyT 3 7 b_word_for ds)
def b_liking : R.Env → T Out := (seqT (fun ρ => setT 3 (do let xs ← (do let x ← getv 0 ρ; let r ← (do let x ← getv 1 ρ; let r ← (do let x ← getv 2 ρ; let r ← (T.ret []); .ret (x :: r)); .ret (x :: r)); .ret (x :: r)); m_word_for xs) ρ) (seqT (fun ρ => ifT (do let x ← getv 3 ρ; let y ← (T.ret PyData.none); isnT x y) ((fun ρ => retT (T.ret (.int 5))) ρ) ((fun ρ => T.ret (.nx ρ)) ρ)) (fun ρ => retT (R.iteT (do let x ← getv 3 ρ; let y ← (T.ret (.str "bar")); eqT x y) (T.ret PyData.none) (getv 3 ρ)))))
def m_liking : List PyData → T PyData := fun ds => nox (bodyT 3 4 b_liking ds)
def b_is_told : R.Env → T Out := (fun ρ => retT (do let x ← (do let xs ← (do let x ← getv 0 ρ; let r ← (do let x ← getv 1 ρ; let r ← (do let x ← getv 2 ρ; let r ← (T.ret []); .ret (x :: r)); .ret (x :: r)); .ret (x :: r)); m_word_for xs); let y ← (T.ret (.str "hide")); bV (neT x y)))
def m_is_told : List PyData → T PyData := fun ds => nox (bodyT 3 3 b_is_told ds)
def b__law_pick : R.Env → T Out := (fun ρ => retT (do let x ← getv 1 ρ; let y ← (do let xs ← (do let x ← getv 0 ρ; let r ← (do let x ← (do let x ← getv 1 ρ; len'D x); let r ← (T.ret []); .ret (x :: r)); .ret (x :: r)); (drawT 1) xs); idxD x y))
def m__law_pick : List PyData → T PyData := fun ds => nox (bodyT 2 2 b__law_pick ds)
def x1__law_names : R.Env → T PyData := fun ρ => (do let x ← getv 2 ρ; let y ← (do let xs ← (do let x ← getv 0 ρ; let r ← (do let x ← (T.ret (.int 26)); let r ← (T.ret []); .ret (x :: r)); .ret (x :: r)); (drawT 1) xs); idxD x y)
def t2__law_names : PyData → R.Env → T Out := turnT (.n 8) (seqT (fun ρ => setT 9 (do let x ← getv 2 ρ; let y ← (do let x ← (do let x ← getv 4 ρ; let y ← (do let x ← (T.ret (.int 3)); let y ← getv 8 ρ; mulD x y); addD x y); let y ← (T.ret (.int 26)); modD x y); idxD x y) ρ) (fun ρ => appT 7 (do let x ← (lstT (do let x ← getv 9 ρ; let r ← (do let x ← (do let x ← (do let x ← (do let x ← getv 6 ρ; let l ← (T.ret none); let h ← (partT (getv 5 ρ)); sliceD x l h); let y ← getv 9 ρ; addD x y); let y ← (do let x ← getv 6 ρ; let l ← (partT (do let x ← getv 5 ρ; let y ← (T.ret (.int 1)); addD x y)); let h ← (T.ret none); sliceD x l h); addD x y); let r ← (do let x ← (do let x ← (do let x ← getv 6 ρ; let y ← getv 6 ρ; addD x y); let l ← (T.ret none); let h ← (partT (do let x ← (T.ret (.int 1)); let y ← getv 8 ρ; addD x y)); sliceD x l h); let r ← (T.ret []); .ret (x :: r)); .ret (x :: r)); .ret (x :: r))); let y ← getv 3 ρ; idxD x y) ρ))
def x3__law_names : R.Env → T PyData := fun ρ => (R.iteT (do let x ← getv 10 ρ; let y ← (tupT (do let x ← (T.ret (.str "home")); let r ← (do let x ← (T.ret (.str "none")); let r ← (T.ret []); .ret (x :: r)); .ret (x :: r))); inT false x y) (do let x ← (T.ret (.str "x")); let y ← (do let x ← getv 10 ρ; let l ← (partT (T.ret (.int 1))); let h ← (T.ret none); sliceD x l h); addD x y) (getv 10 ρ))
def b__law_names : R.Env → T Out := (seqT (fun ρ => setT 2 (T.ret (.str "abcdefghijklmnopqrstuvwxyz")) ρ) (seqT (fun ρ => par3T 3 4 5 (do let x ← (do let xs ← (do let x ← getv 0 ρ; let r ← (do let x ← (T.ret (.int 3)); let r ← (T.ret []); .ret (x :: r)); .ret (x :: r)); (drawT 1) xs); let r ← (do let x ← (do let xs ← (do let x ← getv 0 ρ; let r ← (do let x ← (T.ret (.int 26)); let r ← (T.ret []); .ret (x :: r)); .ret (x :: r)); (drawT 1) xs); let r ← (do let x ← (do let xs ← (do let x ← getv 0 ρ; let r ← (do let x ← (T.ret (.int 8)); let r ← (T.ret []); .ret (x :: r)); .ret (x :: r)); (drawT 1) xs); let r ← (T.ret []); .ret (x :: r)); .ret (x :: r)); .ret (x :: r)) ρ) (seqT (fun ρ => setT 6 (strO (T.ret (.str "")) fun x => do let y ← (lcD (.n 8) [8] (fun ρ => ((T.ret (.int 8)) >>= range1D)) (fun _ => T.ret true) x1__law_names ρ); joinD x y) ρ) (seqT (fun ρ => setT 7 (lstT (T.ret [])) ρ) (seqT (fun ρ => (getv 1 ρ >>= range1D) >>= fun ds => forT t2__law_names ds ρ) (fun ρ => retT (do let x ← (lcD (.n 10) [10] (fun ρ => (getv 7 ρ >>= itemsD)) (fun _ => T.ret true) x3__law_names ρ); sortD x)))))))
def m__law_names : List PyData → T PyData := fun ds => nox (bodyT 2 11 b__law_names ds)
def b__law_has : R.Env → T Out := (fun ρ => retT (do let x ← (do let x ← getv 0 ρ; let y ← (T.ret (.int 0)); idxD x y); let y ← getv 1 ρ; bV (chainT leT ltT x y (do let x ← (do let x ← getv 0 ρ; let y ← (T.ret (.int 0)); idxD x y); let y ← (do let x ← (T.ret (.int 65536)); let y ← (do let x ← getv 0 ρ; let y ← (T.ret (.int 1)); idxD x y); shrD x y); addD x y))))
def m__law_has : List PyData → T PyData := fun ds => nox (bodyT 2 2 b__law_has ds)
def b__law_is_in : R.Env → T Out := (fun ρ => retT (andV (do let x ← (do let x ← getv 1 ρ; let y ← (T.ret (.int 1)); idxD x y); let y ← (do let x ← getv 0 ρ; let y ← (T.ret (.int 1)); idxD x y); bV (leT x y)) (do let xs ← (do let x ← getv 1 ρ; let r ← (do let x ← (do let x ← getv 0 ρ; let y ← (T.ret (.int 0)); idxD x y); let r ← (T.ret []); .ret (x :: r)); .ret (x :: r)); m__law_has xs)))
def m__law_is_in : List PyData → T PyData := fun ds => nox (bodyT 2 2 b__law_is_in ds)
def b__law_about : R.Env → T Out := (seqT (fun ρ => setT 2 (do let xs ← (do let x ← getv 0 ρ; let r ← (do let x ← (lstT (do let x ← (do let xs ← (do let x ← getv 0 ρ; let r ← (do let x ← (T.ret (.int 17)); let r ← (T.ret []); .ret (x :: r)); .ret (x :: r)); (drawT 1) xs); let r ← (do let x ← (T.ret (.int 16)); let r ← (do let x ← (T.ret (.int 12)); let r ← (do let x ← (T.ret (.int 8)); let r ← (do let x ← (T.ret (.int 4)); let r ← (do let x ← (T.ret (.int 2)); let r ← (do let x ← (T.ret (.int 0)); let r ← (T.ret []); .ret (x :: r)); .ret (x :: r)); .ret (x :: r)); .ret (x :: r)); .ret (x :: r)); .ret (x :: r)); .ret (x :: r))); let r ← (T.ret []); .ret (x :: r)); .ret (x :: r)); m__law_pick xs) ρ) (seqT (fun ρ => setT 3 (do let x ← (T.ret (.int 65536)); let y ← getv 2 ρ; shrD x y) ρ) (fun ρ => retT (tupT (do let x ← (do let x ← (do let x ← getv 1 ρ; let y ← getv 3 ρ; fdivD x y); let y ← getv 3 ρ; mulD x y); let r ← (do let x ← getv 2 ρ; let r ← (T.ret []); .ret (x :: r)); .ret (x :: r))))))
def m__law_about : List PyData → T PyData := fun ds => nox (bodyT 2 4 b__law_about ds)
def t1__law_rules : PyData → R.Env → T Out := turnT (.n 6) (seqT (fun ρ => setT 7 (do let xs ← (do let x ← getv 0 ρ; let r ← (do let x ← (do let xs ← (do let x ← getv 0 ρ; let r ← (do let x ← getv 2 ρ; let r ← (T.ret []); .ret (x :: r)); .ret (x :: r)); m__law_pick xs); let r ← (T.ret []); .ret (x :: r)); .ret (x :: r)); m__law_about xs) ρ) (seqT (fun ρ => setT 8 (do let x ← (lstT (do let x ← (T.ret (.int 16)); let r ← (do let x ← (do let x ← getv 7 ρ; let y ← (T.ret (.int 1)); idxD x y); let r ← (do let x ← (do let x ← (T.ret (.int 16)); let y ← (do let x ← (do let x ← getv 7 ρ; let y ← (T.ret (.int 1)); idxD x y); let y ← (T.ret (.int 1)); addD x y); min2D x y); let r ← (do let x ← (do let xs ← (do let x ← getv 0 ρ; let r ← (do let x ← (T.ret (.int 17)); let r ← (T.ret []); .ret (x :: r)); .ret (x :: r)); (drawT 1) xs); let r ← (T.ret []); .ret (x :: r)); .ret (x :: r)); .ret (x :: r)); .ret (x :: r))); let y ← (do let xs ← (do let x ← getv 0 ρ; let r ← (do let x ← (T.ret (.int 4)); let r ← (T.ret []); .ret (x :: r)); .ret (x :: r)); (drawT 1) xs); idxD x y) ρ) (fun ρ => appT 5 (tupT (do let x ← (do let xs ← (do let x ← getv 0 ρ; let r ← (do let x ← getv 1 ρ; let r ← (T.ret []); .ret (x :: r)); .ret (x :: r)); m__law_pick xs); let r ← (do let x ← getv 7 ρ; let r ← (do let x ← getv 8 ρ; let r ← (do let x ← (do let xs ← (do let x ← getv 0 ρ; let r ← (do let x ← getv 3 ρ; let r ← (T.ret []); .ret (x :: r)); .ret (x :: r)); m__law_pick xs); let r ← (T.ret []); .ret (x :: r)); .ret (x :: r)); .ret (x :: r)); .ret (x :: r))) ρ)))
def b__law_rules : R.Env → T Out := (seqT (fun ρ => setT 5 (lstT (T.ret [])) ρ) (seqT (fun ρ => ((do let xs ← (do let x ← getv 0 ρ; let r ← (do let x ← (do let x ← getv 4 ρ; let y ← (T.ret (.int 1)); addD x y); let r ← (T.ret []); .ret (x :: r)); .ret (x :: r)); (drawT 1) xs) >>= range1D) >>= fun ds => forT t1__law_rules ds ρ) (fun ρ => retT (do let x ← getv 5 ρ; tupleD x))))
def m__law_rules : List PyData → T PyData := fun ds => nox (bodyT 5 9 b__law_rules ds)
def t1__law_word : PyData → R.Env → T Out := turnT (.t [(.n 3), (.n 4), (.n 5), (.n 6)]) (fun ρ => ifT (andT (do let x ← getv 3 ρ; let y ← getv 1 ρ; eqT x y) (andT (do let x ← (do let x ← getv 2 ρ; let y ← (T.ret (.int 1)); idxD x y); let y ← getv 5 ρ; leT x y) ((do let xs ← (do let x ← getv 2 ρ; let r ← (do let x ← getv 4 ρ; let r ← (T.ret []); .ret (x :: r)); .ret (x :: r)); m__law_is_in xs) >>= truT))) ((fun ρ => retT (getv 6 ρ)) ρ) ((fun ρ => T.ret (.nx ρ)) ρ))
def b__law_word : R.Env → T Out := (seqT (fun ρ => (getv 0 ρ >>= itemsD) >>= fun ds => forT t1__law_word ds ρ) (fun ρ => retT (T.ret PyData.none)))
def m__law_word : List PyData → T PyData := fun ds => nox (bodyT 3 7 b__law_word ds)
def x1__law_areas : R.Env → T PyData := fun ρ => (do let xs ← (do let x ← getv 0 ρ; let r ← (do let x ← getv 10 ρ; let r ← (T.ret []); .ret (x :: r)); .ret (x :: r)); m__law_about xs)
def x2__law_areas : R.Env → T PyData := fun ρ => (do let xs ← (do let x ← getv 0 ρ; let r ← (do let x ← getv 10 ρ; let r ← (T.ret []); .ret (x :: r)); .ret (x :: r)); m__law_about xs)
def t3__law_areas : PyData → R.Env → T Out := turnT (.t [(.n 4), (.n 5), (.n 6), (.n 7)]) (seqT (fun ρ => getv 5 ρ >>= fun d => asgO (.t [(.n 8), (.n 9)]) d ρ) (seqT (fun ρ => appT 3 (getv 5 ρ) ρ) (seqT (fun ρ => ifT (do let x ← getv 9 ρ; let y ← (T.ret (.int 16)); ltT x y) ((fun ρ => setT 3 (do let x ← getv 3 ρ; let y ← (lstT (do let x ← (tupT (do let x ← getv 8 ρ; let r ← (do let x ← (do let x ← getv 9 ρ; let y ← (T.ret (.int 1)); addD x y); let r ← (T.ret []); .ret (x :: r)); .ret (x :: r))); let r ← (do let x ← (tupT (do let x ← (do let x ← getv 8 ρ; let y ← (do let x ← (T.ret (.int 32768)); let y ← getv 9 ρ; shrD x y); addD x y); let r ← (do let x ← (do let x ← getv 9 ρ; let y ← (T.ret (.int 1)); addD x y); let r ← (T.ret []); .ret (x :: r)); .ret (x :: r))); let r ← (T.ret []); .ret (x :: r)); .ret (x :: r))); catD x y) ρ) ρ) ((fun ρ => T.ret (.nx ρ)) ρ)) (seqT (fun ρ => ifT (do let x ← getv 9 ρ; let y ← (T.ret (.int 0)); gtT x y) ((fun ρ => appT 3 (tupT (do let x ← (do let x ← (do let x ← getv 8 ρ; let y ← (do let x ← (T.ret (.int 131072)); let y ← getv 9 ρ; shrD x y); fdivD x y); let y ← (do let x ← (T.ret (.int 131072)); let y ← getv 9 ρ; shrD x y); mulD x y); let r ← (do let x ← (do let x ← getv 9 ρ; let y ← (T.ret (.int 1)); subD x y); let r ← (T.ret []); .ret (x :: r)); .ret (x :: r))) ρ) ρ) ((fun ρ => T.ret (.nx ρ)) ρ)) (fun ρ => appT 3 (tupT (do let x ← (do let x ← (do let x ← getv 8 ρ; let y ← (do let x ← (T.ret (.int 65536)); let y ← getv 6 ρ; shrD x y); fdivD x y); let y ← (do let x ← (T.ret (.int 65536)); let y ← getv 6 ρ; shrD x y); mulD x y); let r ← (do let x ← getv 6 ρ; let r ← (T.ret []); .ret (x :: r)); .ret (x :: r))) ρ)))))
def b__law_areas : R.Env → T Out := (seqT (fun ρ => setT 3 (do let x ← (lcD (.n 10) [10] (fun ρ => (getv 2 ρ >>= itemsD)) (fun _ => T.ret true) x1__law_areas ρ); let y ← (lcD (.n 10) [10] (fun ρ => (getv 2 ρ >>= itemsD)) (fun _ => T.ret true) x2__law_areas ρ); catD x y) ρ) (seqT (fun ρ => (getv 1 ρ >>= itemsD) >>= fun ds => forT t3__law_areas ds ρ) (fun ρ => retT (getv 3 ρ))))
def m__law_areas : List PyData → T PyData := fun ds => nox (bodyT 3 11 b__law_areas ds)
def b__law_right : R.Env → T Out := (seqT (fun ρ => setT 4 (do let x ← (tupT (do let x ← getv 0 ρ; let r ← (do let x ← getv 1 ρ; let r ← (do let x ← getv 3 ρ; let r ← (T.ret []); .ret (x :: r)); .ret (x :: r)); .ret (x :: r))); reprD x) ρ) (seqT (fun ρ => setT 5 (do let xs ← (do let x ← getv 0 ρ; let r ← (do let x ← getv 2 ρ; let r ← (do let x ← getv 3 ρ; let r ← (T.ret []); .ret (x :: r)); .ret (x :: r)); .ret (x :: r)); m__law_word xs) ρ) (seqT (fun ρ => setT 6 (R.iteT (do let x ← getv 5 ρ; let y ← (T.ret PyData.none); isnT x y) (T.ret (.int 5)) (R.iteT (do let x ← getv 5 ρ; let y ← (T.ret (.str "bar")); eqT x y) (T.ret PyData.none) (getv 5 ρ))) ρ) (seqT (fun ρ => setT 7 (lstT (do let x ← (do let xs ← (do let x ← getv 0 ρ; let r ← (do let x ← getv 2 ρ; let r ← (do let x ← getv 3 ρ; let r ← (T.ret []); .ret (x :: r)); .ret (x :: r)); .ret (x :: r)); m_liking xs); let r ← (do let x ← (do let ys ← (do let x ← getv 3 ρ; let r ← (do let x ← getv 2 ρ; let r ← (do let x ← getv 0 ρ; let r ← (T.ret []); .ret (x :: r)); .ret (x :: r)); .ret (x :: r)); m_liking (pick [2, 1, 0] ys)); let r ← (T.ret []); .ret (x :: r)); .ret (x :: r))) ρ) (seqT (fun ρ => ifT (do let x ← (do let x ← getv 7 ρ; reprD x); let y ← (do let x ← (lstT (do let x ← getv 6 ρ; let r ← (do let x ← getv 6 ρ; let r ← (T.ret []); .ret (x :: r)); .ret (x :: r))); reprD x); neT x y) ((fun ρ => retT (T.ret (.bool false))) ρ) ((fun ρ => T.ret (.nx ρ)) ρ)) (seqT (fun ρ => setT 6 (do let x ← (do let xs ← (do let x ← getv 1 ρ; let r ← (do let x ← getv 2 ρ; let r ← (do let x ← getv 3 ρ; let r ← (T.ret []); .ret (x :: r)); .ret (x :: r)); .ret (x :: r)); m__law_word xs); let y ← (T.ret (.str "hide")); bV (neT x y)) ρ) (seqT (fun ρ => setT 7 (lstT (do let x ← (do let xs ← (do let x ← getv 1 ρ; let r ← (do let x ← getv 2 ρ; let r ← (do let x ← getv 3 ρ; let r ← (T.ret []); .ret (x :: r)); .ret (x :: r)); .ret (x :: r)); m_is_told xs); let r ← (do let x ← (do let ys ← (do let x ← getv 2 ρ; let r ← (do let x ← getv 3 ρ; let r ← (do let x ← getv 1 ρ; let r ← (T.ret []); .ret (x :: r)); .ret (x :: r)); .ret (x :: r)); m_is_told (pick [2, 0, 1] ys)); let r ← (T.ret []); .ret (x :: r)); .ret (x :: r))) ρ) (fun ρ => retT (andV (do let x ← (do let x ← getv 7 ρ; reprD x); let y ← (do let x ← (lstT (do let x ← getv 6 ρ; let r ← (do let x ← getv 6 ρ; let r ← (T.ret []); .ret (x :: r)); .ret (x :: r))); reprD x); bV (eqT x y)) (do let x ← (do let x ← (tupT (do let x ← getv 0 ρ; let r ← (do let x ← getv 1 ρ; let r ← (do let x ← getv 3 ρ; let r ← (T.ret []); .ret (x :: r)); .ret (x :: r)); .ret (x :: r))); reprD x); let y ← getv 4 ρ; bV (eqT x y)))))))))))
def m__law_right : List PyData → T PyData := fun ds => nox (bodyT 4 8 b__law_right ds)
theorem e_size_of (x0 : PyData) : m_size_of [x0] = nox (b_size_of [some x0] >>= finT) := rfl
theorem e_has (x0 x1 : PyData) : m_has [x0, x1] = nox (b_has [some x0, some x1, none, none] >>= finT) := rfl
theorem e_is_within (x0 x1 : PyData) : m_is_within [x0, x1] = nox (b_is_within [some x0, some x1] >>= finT) := rfl
theorem e_word_for (x0 x1 x2 : PyData) : m_word_for [x0, x1, x2] = nox (b_word_for [some x0, some x1, some x2, none, none, none, none] >>= finT) := rfl
theorem e_liking (x0 x1 x2 : PyData) : m_liking [x0, x1, x2] = nox (b_liking [some x0, some x1, some x2, none] >>= finT) := rfl
theorem e_is_told (x0 x1 x2 : PyData) : m_is_told [x0, x1, x2] = nox (b_is_told [some x0, some x1, some x2] >>= finT) := rfl
theorem e__law_pick (x0 x1 : PyData) : m__law_pick [x0, x1] = nox (b__law_pick [some x0, some x1] >>= finT) := rfl
theorem e__law_names (x0 x1 : PyData) : m__law_names [x0, x1] = nox (b__law_names [some x0, some x1, none, none, none, none, none, none, none, none, none] >>= finT) := rfl
theorem e__law_has (x0 x1 : PyData) : m__law_has [x0, x1] = nox (b__law_has [some x0, some x1] >>= finT) := rfl
theorem e__law_is_in (x0 x1 : PyData) : m__law_is_in [x0, x1] = nox (b__law_is_in [some x0, some x1] >>= finT) := rfl
theorem e__law_about (x0 x1 : PyData) : m__law_about [x0, x1] = nox (b__law_about [some x0, some x1, none, none] >>= finT) := rfl
theorem e__law_rules (x0 x1 x2 x3 x4 : PyData) : m__law_rules [x0, x1, x2, x3, x4] = nox (b__law_rules [some x0, some x1, some x2, some x3, some x4, none, none, none, none] >>= finT) := rfl
theorem e__law_word (x0 x1 x2 : PyData) : m__law_word [x0, x1, x2] = nox (b__law_word [some x0, some x1, some x2, none, none, none, none] >>= finT) := rfl
theorem e__law_areas (x0 x1 x2 : PyData) : m__law_areas [x0, x1, x2] = nox (b__law_areas [some x0, some x1, some x2, none, none, none, none, none, none, none, none] >>= finT) := rfl
theorem e__law_right (x0 x1 x2 x3 : PyData) : m__law_right [x0, x1, x2, x3] = nox (b__law_right [some x0, some x1, some x2, some x3, none, none, none, none] >>= finT) := rfl
def x1_law : R.Env → T PyData := fun ρ => (do let xs ← (do let x ← getv 1 ρ; let r ← (do let x ← (T.ret (.int 65536)); let r ← (T.ret []); .ret (x :: r)); .ret (x :: r)); (drawT 1) xs)
def t2_law : PyData → R.Env → T Out := turnT (.n 8) (seqT (fun ρ => ifT (orT (notT ((do let xs ← (do let x ← getv 5 ρ; let r ← (do let x ← getv 6 ρ; let r ← (do let x ← getv 7 ρ; let r ← (do let x ← getv 8 ρ; let r ← (T.ret []); .ret (x :: r)); .ret (x :: r)); .ret (x :: r)); .ret (x :: r)); m__law_right xs) >>= truT)) (notT ((do let xs ← (do let x ← (tupT (T.ret [])); let r ← (do let x ← (tupT (T.ret [])); let r ← (do let x ← getv 7 ρ; let r ← (do let x ← getv 8 ρ; let r ← (T.ret []); .ret (x :: r)); .ret (x :: r)); .ret (x :: r)); .ret (x :: r)); m__law_right xs) >>= truT))) ((fun ρ => retT (T.ret (.bool false))) ρ) ((fun ρ => T.ret (.nx ρ)) ρ)) (fun ρ => ifT (notT ((do let xs ← (do let x ← (do let x ← getv 5 ρ; revD x); let r ← (do let x ← (do let x ← getv 6 ρ; let l ← (partT (T.ret (.int 1))); let h ← (T.ret none); sliceD x l h); let r ← (do let x ← getv 7 ρ; let r ← (do let x ← getv 8 ρ; let r ← (T.ret []); .ret (x :: r)); .ret (x :: r)); .ret (x :: r)); .ret (x :: r)); m__law_right xs) >>= truT)) ((fun ρ => retT (T.ret (.bool false))) ρ) ((fun ρ => T.ret (.nx ρ)) ρ)))
def t3_law : PyData → R.Env → T Out := turnT (.n 7) (fun ρ => ((do let xs ← (do let x ← getv 1 ρ; let r ← (do let x ← (do let x ← getv 5 ρ; let y ← getv 6 ρ; addD x y); let r ← (do let x ← getv 3 ρ; let r ← (T.ret []); .ret (x :: r)); .ret (x :: r)); .ret (x :: r)); m__law_areas xs) >>= itemsD) >>= fun ds => forT t2_law ds ρ)
def t4_law : PyData → R.Env → T Out := turnT (.n 2) (seqT (fun ρ => setT 3 (do let x ← (lcD (.n 9) [9] (fun ρ => ((T.ret (.int 3)) >>= range1D)) (fun _ => T.ret true) x1_law ρ); let y ← (lstT (do let x ← (T.ret (.int 0)); let r ← (do let x ← (T.ret (.int 65535)); let r ← (T.ret []); .ret (x :: r)); .ret (x :: r))); catD x y) ρ) (seqT (fun ρ => setT 4 (do let xs ← (do let x ← getv 1 ρ; let r ← (do let x ← (do let x ← (T.ret (.int 1)); let y ← (do let xs ← (do let x ← getv 1 ρ; let r ← (do let x ← (T.ret (.int 4)); let r ← (T.ret []); .ret (x :: r)); .ret (x :: r)); (drawT 1) xs); addD x y); let r ← (T.ret []); .ret (x :: r)); .ret (x :: r)); m__law_names xs) ρ) (seqT (fun ρ => setT 5 (do let xs ← (do let x ← getv 1 ρ; let r ← (do let x ← getv 4 ρ; let r ← (do let x ← getv 3 ρ; let r ← (do let x ← (lstT (do let x ← (T.ret (.int 0)); let r ← (do let x ← (T.ret (.int 9)); let r ← (do let x ← (T.ret (.int 9)); let r ← (do let x ← (T.ret (.int 5)); let r ← (do let x ← (T.ret (.int 4)); let r ← (do let x ← (T.ret (.str "bar")); let r ← (do let x ← (T.ret (.str "bar")); let r ← (do let x ← (do let xs ← (do let x ← getv 1 ρ; let r ← (do let x ← (T.ret (.int 10)); let r ← (T.ret []); .ret (x :: r)); .ret (x :: r)); (drawT 1) xs); let r ← (T.ret []); .ret (x :: r)); .ret (x :: r)); .ret (x :: r)); .ret (x :: r)); .ret (x :: r)); .ret (x :: r)); .ret (x :: r)); .ret (x :: r))); let r ← (do let x ← (T.ret (.int 8)); let r ← (T.ret []); .ret (x :: r)); .ret (x :: r)); .ret (x :: r)); .ret (x :: r)); .ret (x :: r)); m__law_rules xs) ρ) (seqT (fun ρ => setT 6 (do let xs ← (do let x ← getv 1 ρ; let r ← (do let x ← getv 4 ρ; let r ← (do let x ← getv 3 ρ; let r ← (do let x ← (lstT (do let x ← (T.ret (.str "tell")); let r ← (do let x ← (T.ret (.str "hide")); let r ← (T.ret []); .ret (x :: r)); .ret (x :: r))); let r ← (do let x ← (T.ret (.int 8)); let r ← (T.ret []); .ret (x :: r)); .ret (x :: r)); .ret (x :: r)); .ret (x :: r)); .ret (x :: r)); m__law_rules xs) ρ) (fun ρ => ((do let x ← getv 4 ρ; let y ← (lstT (do let x ← (T.ret (.str "zz")); let r ← (T.ret []); .ret (x :: r))); catD x y) >>= itemsD) >>= fun ds => forT t3_law ds ρ)))))
def b_law : R.Env → T Out := (seqT (fun ρ => ((T.ret (.int 4)) >>= range1D) >>= fun ds => forT t4_law ds ρ) (fun ρ => retT (T.ret (.bool true))))
def ρ0 : R.Env := none :: some (dkD 1) :: List.replicate (9 - 1) none
end Lw

set_option Elab.async false
set_option linter.all false
set_option maxRecDepth 100000
set_option maxHeartbeats 1000000
namespace Lw
open PySem R
abbrev Bk := Int × Int
def blk (p : Bk) : PyData := .tuple [.int p.1, .int p.2]
structure Rule where
  nm : Str
  ar : Bk
  lo : Int
  wd : PyData
def encR (r : Rule) : PyData := .tuple [.str r.nm, blk r.ar, .int r.lo, r.wd]
def sz (l : Int) : Int := 65536 / 2 ^ l.toNat
theorem size_eq {l : Int} (h : 0 ≤ l) : m_size_of [.int l] = .ret (.int (sz l)) := by
  rw [e_size_of]
  unfold b_size_of
  simp -implicitDefEqProofs (disch := omega) only [R.seq_eq, R.T.ret_bind, R.T.bind_assoc, R.T.stuck_bind, R.T.draw_bind, R.nxT_nx, R.nxT_ret, R.nxT_brk, R.nxT_ct, R.onT_nx, R.onT_ct, R.onT_brk, R.onT_ret, R.finT_ret, R.finT_nx, R.setT, R.retT, R.getv_0, R.getv_s, R.put_zero, R.put_succ, R.nth_zero, R.nth_succ, R.ifT, R.andT, R.orT, R.notT, R.bV, R.eq_int, R.ne_int, R.eq_str, R.ne_str, R.nox_ret, R.nox_draw, R.draw_eq, R.andV, R.orV, R.notV, R.iteT, R.chainT, R.lstT, R.tupT, R.par2T, R.par3T, R.asgO, R.asg_n, R.asg_t, R.asgs_nil, R.asgs_cons, R.turnT, R.appT, R.add_int, R.add_str, R.add_list, R.add_tup, R.sub_int, R.mul_int, R.fdiv_int, R.mod_int, R.neg_int, R.shr_int, R.shl_int, R.pow_int, R.lt_int, R.le_int, R.gt_int, R.ge_int, R.addI_int, R.tru_none, R.tru_bool, R.tru_int, R.tru_list, R.tru_tup, R.idx_t0, R.idx_t1, R.idx_t2, R.idx_t3, R.idx_l0, R.idx_l1, R.slice_list, R.slice_tup, R.part_int, R.max_i, R.min_i, R.items_list, R.items_tup, R.tuple_list, R.tuple_tup, R.list_list, R.list_tup, R.len_list, R.len_tup, R.len_str, R.isa_tt, R.isa_tl, R.isa_ti, R.isa_tb, R.isa_ts, R.isa_tn, R.isa_ii, R.isa_ib, R.isa_is, R.isa_in, R.isa_il, R.isa_it, R.isa_bi, R.isa_bb, R.isa_bs, R.isa_bn, R.isa_bl, R.isa_bt, R.isa_ss, R.isa_si, R.isa_sb, R.isa_sn, R.isa_sl, R.isa_st, R.isa_ll, R.isa_lt, R.zip_tup, R.zip_list, R.enum_list, R.need_tt, R.rev_list, R.rev_tup, R.isb_eq, R.isntb_eq, Option.bind_some, if_true, if_false, Bool.false_eq_true, Bool.not_true, Bool.not_false, R.enum2_list, R.enum2_tup, R.cat_list, R.listRg_int, R.slice_str, R.strO_str, R.isB_bool, R.isNone_none, R.isNone_int, R.isNone_bool, R.isNone_str, R.isNone_tup, R.isNone_list, R.isn_eq, R.isntn_eq, R.extT, R.ext_list, R.mulL_int, R.draw0, R.draw1, R.draw2, R.orX, R.andX, R.need_p, if_pos, if_neg, PySem.sizeLine_eq, List.length_cons, List.length_nil, List.length_map, List.length_append, decide_eq_true_eq, Bool.not_eq_true', Bool.not_eq_eq_eq_not, decide_eq_false_iff_not]
  rfl
def hasB (p : Bk) (x : Int) : Bool := decide (p.1 ≤ x) && decide (x < p.1 + sz p.2)
theorem has_eq {p : Bk} {x : Int} (h : 0 ≤ p.2) : m_has [blk p, .int x] = .ret (.bool (hasB p x)) := by
  rw [e_has]
  unfold b_has blk hasB
  simp -implicitDefEqProofs only [R.seq_eq, R.T.ret_bind, R.T.bind_assoc, R.T.stuck_bind, R.T.draw_bind, R.nxT_nx, R.nxT_ret, R.nxT_brk, R.nxT_ct, R.onT_nx, R.onT_ct, R.onT_brk, R.onT_ret, R.finT_ret, R.finT_nx, R.setT, R.retT, R.getv_0, R.getv_s, R.put_zero, R.put_succ, R.nth_zero, R.nth_succ, R.ifT, R.andT, R.orT, R.notT, R.bV, R.eq_int, R.ne_int, R.eq_str, R.ne_str, R.nox_ret, R.nox_draw, R.draw_eq, R.andV, R.orV, R.notV, R.iteT, R.chainT, R.lstT, R.tupT, R.par2T, R.par3T, R.asgO, R.asg_n, R.asg_t, R.asgs_nil, R.asgs_cons, R.turnT, R.appT, R.add_int, R.add_str, R.add_list, R.add_tup, R.sub_int, R.mul_int, R.fdiv_int, R.mod_int, R.neg_int, R.shr_int, R.shl_int, R.pow_int, R.lt_int, R.le_int, R.gt_int, R.ge_int, R.addI_int, R.tru_none, R.tru_bool, R.tru_int, R.tru_list, R.tru_tup, R.idx_t0, R.idx_t1, R.idx_t2, R.idx_t3, R.idx_l0, R.idx_l1, R.slice_list, R.slice_tup, R.part_int, R.max_i, R.min_i, R.items_list, R.items_tup, R.tuple_list, R.tuple_tup, R.list_list, R.list_tup, R.len_list, R.len_tup, R.len_str, R.isa_tt, R.isa_tl, R.isa_ti, R.isa_tb, R.isa_ts, R.isa_tn, R.isa_ii, R.isa_ib, R.isa_is, R.isa_in, R.isa_il, R.isa_it, R.isa_bi, R.isa_bb, R.isa_bs, R.isa_bn, R.isa_bl, R.isa_bt, R.isa_ss, R.isa_si, R.isa_sb, R.isa_sn, R.isa_sl, R.isa_st, R.isa_ll, R.isa_lt, R.zip_tup, R.zip_list, R.enum_list, R.need_tt, R.rev_list, R.rev_tup, R.isb_eq, R.isntb_eq, Option.bind_some, if_true, if_false, Bool.false_eq_true, Bool.not_true, Bool.not_false, R.enum2_list, R.enum2_tup, R.cat_list, R.listRg_int, R.slice_str, R.strO_str, R.isB_bool, R.isNone_none, R.isNone_int, R.isNone_bool, R.isNone_str, R.isNone_tup, R.isNone_list, R.isn_eq, R.isntn_eq, R.extT, R.ext_list, R.mulL_int, R.draw0, R.draw1, R.draw2, R.orX, R.andX, size_eq h]
  by_cases c : p.1 ≤ x <;> simp -implicitDefEqProofs only [R.seq_eq, R.T.ret_bind, R.T.bind_assoc, R.T.stuck_bind, R.T.draw_bind, R.nxT_nx, R.nxT_ret, R.nxT_brk, R.nxT_ct, R.onT_nx, R.onT_ct, R.onT_brk, R.onT_ret, R.finT_ret, R.finT_nx, R.setT, R.retT, R.getv_0, R.getv_s, R.put_zero, R.put_succ, R.nth_zero, R.nth_succ, R.ifT, R.andT, R.orT, R.notT, R.bV, R.eq_int, R.ne_int, R.eq_str, R.ne_str, R.nox_ret, R.nox_draw, R.draw_eq, R.andV, R.orV, R.notV, R.iteT, R.chainT, R.lstT, R.tupT, R.par2T, R.par3T, R.asgO, R.asg_n, R.asg_t, R.asgs_nil, R.asgs_cons, R.turnT, R.appT, R.add_int, R.add_str, R.add_list, R.add_tup, R.sub_int, R.mul_int, R.fdiv_int, R.mod_int, R.neg_int, R.shr_int, R.shl_int, R.pow_int, R.lt_int, R.le_int, R.gt_int, R.ge_int, R.addI_int, R.tru_none, R.tru_bool, R.tru_int, R.tru_list, R.tru_tup, R.idx_t0, R.idx_t1, R.idx_t2, R.idx_t3, R.idx_l0, R.idx_l1, R.slice_list, R.slice_tup, R.part_int, R.max_i, R.min_i, R.items_list, R.items_tup, R.tuple_list, R.tuple_tup, R.list_list, R.list_tup, R.len_list, R.len_tup, R.len_str, R.isa_tt, R.isa_tl, R.isa_ti, R.isa_tb, R.isa_ts, R.isa_tn, R.isa_ii, R.isa_ib, R.isa_is, R.isa_in, R.isa_il, R.isa_it, R.isa_bi, R.isa_bb, R.isa_bs, R.isa_bn, R.isa_bl, R.isa_bt, R.isa_ss, R.isa_si, R.isa_sb, R.isa_sn, R.isa_sl, R.isa_st, R.isa_ll, R.isa_lt, R.zip_tup, R.zip_list, R.enum_list, R.need_tt, R.rev_list, R.rev_tup, R.isb_eq, R.isntb_eq, Option.bind_some, if_true, if_false, Bool.false_eq_true, Bool.not_true, Bool.not_false, R.enum2_list, R.enum2_tup, R.cat_list, R.listRg_int, R.slice_str, R.strO_str, R.isB_bool, R.isNone_none, R.isNone_int, R.isNone_bool, R.isNone_str, R.isNone_tup, R.isNone_list, R.isn_eq, R.isntn_eq, R.extT, R.ext_list, R.mulL_int, R.draw0, R.draw1, R.draw2, R.orX, R.andX, c, decide_true, decide_false, Bool.true_and, Bool.false_and]
theorem lhas_eq {p : Bk} {x : Int} (h : 0 ≤ p.2) : m__law_has [blk p, .int x] = .ret (.bool (hasB p x)) := by
  rw [e__law_has]
  unfold b__law_has blk hasB sz
  simp -implicitDefEqProofs (disch := omega) only [R.seq_eq, R.T.ret_bind, R.T.bind_assoc, R.T.stuck_bind, R.T.draw_bind, R.nxT_nx, R.nxT_ret, R.nxT_brk, R.nxT_ct, R.onT_nx, R.onT_ct, R.onT_brk, R.onT_ret, R.finT_ret, R.finT_nx, R.setT, R.retT, R.getv_0, R.getv_s, R.put_zero, R.put_succ, R.nth_zero, R.nth_succ, R.ifT, R.andT, R.orT, R.notT, R.bV, R.eq_int, R.ne_int, R.eq_str, R.ne_str, R.nox_ret, R.nox_draw, R.draw_eq, R.andV, R.orV, R.notV, R.iteT, R.chainT, R.lstT, R.tupT, R.par2T, R.par3T, R.asgO, R.asg_n, R.asg_t, R.asgs_nil, R.asgs_cons, R.turnT, R.appT, R.add_int, R.add_str, R.add_list, R.add_tup, R.sub_int, R.mul_int, R.fdiv_int, R.mod_int, R.neg_int, R.shr_int, R.shl_int, R.pow_int, R.lt_int, R.le_int, R.gt_int, R.ge_int, R.addI_int, R.tru_none, R.tru_bool, R.tru_int, R.tru_list, R.tru_tup, R.idx_t0, R.idx_t1, R.idx_t2, R.idx_t3, R.idx_l0, R.idx_l1, R.slice_list, R.slice_tup, R.part_int, R.max_i, R.min_i, R.items_list, R.items_tup, R.tuple_list, R.tuple_tup, R.list_list, R.list_tup, R.len_list, R.len_tup, R.len_str, R.isa_tt, R.isa_tl, R.isa_ti, R.isa_tb, R.isa_ts, R.isa_tn, R.isa_ii, R.isa_ib, R.isa_is, R.isa_in, R.isa_il, R.isa_it, R.isa_bi, R.isa_bb, R.isa_bs, R.isa_bn, R.isa_bl, R.isa_bt, R.isa_ss, R.isa_si, R.isa_sb, R.isa_sn, R.isa_sl, R.isa_st, R.isa_ll, R.isa_lt, R.zip_tup, R.zip_list, R.enum_list, R.need_tt, R.rev_list, R.rev_tup, R.isb_eq, R.isntb_eq, Option.bind_some, if_true, if_false, Bool.false_eq_true, Bool.not_true, Bool.not_false, R.enum2_list, R.enum2_tup, R.cat_list, R.listRg_int, R.slice_str, R.strO_str, R.isB_bool, R.isNone_none, R.isNone_int, R.isNone_bool, R.isNone_str, R.isNone_tup, R.isNone_list, R.isn_eq, R.isntn_eq, R.extT, R.ext_list, R.mulL_int, R.draw0, R.draw1, R.draw2, R.orX, R.andX, R.need_p, if_pos, if_neg, PySem.sizeLine_eq, List.length_cons, List.length_nil, List.length_map, List.length_append, decide_eq_true_eq, Bool.not_eq_true', Bool.not_eq_eq_eq_not, decide_eq_false_iff_not]
  by_cases c : p.1 ≤ x <;> simp -implicitDefEqProofs only [R.seq_eq, R.T.ret_bind, R.T.bind_assoc, R.T.stuck_bind, R.T.draw_bind, R.nxT_nx, R.nxT_ret, R.nxT_brk, R.nxT_ct, R.onT_nx, R.onT_ct, R.onT_brk, R.onT_ret, R.finT_ret, R.finT_nx, R.setT, R.retT, R.getv_0, R.getv_s, R.put_zero, R.put_succ, R.nth_zero, R.nth_succ, R.ifT, R.andT, R.orT, R.notT, R.bV, R.eq_int, R.ne_int, R.eq_str, R.ne_str, R.nox_ret, R.nox_draw, R.draw_eq, R.andV, R.orV, R.notV, R.iteT, R.chainT, R.lstT, R.tupT, R.par2T, R.par3T, R.asgO, R.asg_n, R.asg_t, R.asgs_nil, R.asgs_cons, R.turnT, R.appT, R.add_int, R.add_str, R.add_list, R.add_tup, R.sub_int, R.mul_int, R.fdiv_int, R.mod_int, R.neg_int, R.shr_int, R.shl_int, R.pow_int, R.lt_int, R.le_int, R.gt_int, R.ge_int, R.addI_int, R.tru_none, R.tru_bool, R.tru_int, R.tru_list, R.tru_tup, R.idx_t0, R.idx_t1, R.idx_t2, R.idx_t3, R.idx_l0, R.idx_l1, R.slice_list, R.slice_tup, R.part_int, R.max_i, R.min_i, R.items_list, R.items_tup, R.tuple_list, R.tuple_tup, R.list_list, R.list_tup, R.len_list, R.len_tup, R.len_str, R.isa_tt, R.isa_tl, R.isa_ti, R.isa_tb, R.isa_ts, R.isa_tn, R.isa_ii, R.isa_ib, R.isa_is, R.isa_in, R.isa_il, R.isa_it, R.isa_bi, R.isa_bb, R.isa_bs, R.isa_bn, R.isa_bl, R.isa_bt, R.isa_ss, R.isa_si, R.isa_sb, R.isa_sn, R.isa_sl, R.isa_st, R.isa_ll, R.isa_lt, R.zip_tup, R.zip_list, R.enum_list, R.need_tt, R.rev_list, R.rev_tup, R.isb_eq, R.isntb_eq, Option.bind_some, if_true, if_false, Bool.false_eq_true, Bool.not_true, Bool.not_false, R.enum2_list, R.enum2_tup, R.cat_list, R.listRg_int, R.slice_str, R.strO_str, R.isB_bool, R.isNone_none, R.isNone_int, R.isNone_bool, R.isNone_str, R.isNone_tup, R.isNone_list, R.isn_eq, R.isntn_eq, R.extT, R.ext_list, R.mulL_int, R.draw0, R.draw1, R.draw2, R.orX, R.andX, c, decide_true, decide_false, Bool.true_and, Bool.false_and]
def inB' (p q : Bk) : Bool := decide (q.2 ≤ p.2) && hasB q p.1
theorem within_eq {p q : Bk} (h : 0 ≤ q.2) : m_is_within [blk p, blk q] = .ret (.bool (inB' p q)) := by
  have := has_eq (p := q) (x := p.1) h
  rw [e_is_within]
  unfold b_is_within inB'
  unfold blk at this ⊢
  simp -implicitDefEqProofs only [R.seq_eq, R.T.ret_bind, R.T.bind_assoc, R.T.stuck_bind, R.T.draw_bind, R.nxT_nx, R.nxT_ret, R.nxT_brk, R.nxT_ct, R.onT_nx, R.onT_ct, R.onT_brk, R.onT_ret, R.finT_ret, R.finT_nx, R.setT, R.retT, R.getv_0, R.getv_s, R.put_zero, R.put_succ, R.nth_zero, R.nth_succ, R.ifT, R.andT, R.orT, R.notT, R.bV, R.eq_int, R.ne_int, R.eq_str, R.ne_str, R.nox_ret, R.nox_draw, R.draw_eq, R.andV, R.orV, R.notV, R.iteT, R.chainT, R.lstT, R.tupT, R.par2T, R.par3T, R.asgO, R.asg_n, R.asg_t, R.asgs_nil, R.asgs_cons, R.turnT, R.appT, R.add_int, R.add_str, R.add_list, R.add_tup, R.sub_int, R.mul_int, R.fdiv_int, R.mod_int, R.neg_int, R.shr_int, R.shl_int, R.pow_int, R.lt_int, R.le_int, R.gt_int, R.ge_int, R.addI_int, R.tru_none, R.tru_bool, R.tru_int, R.tru_list, R.tru_tup, R.idx_t0, R.idx_t1, R.idx_t2, R.idx_t3, R.idx_l0, R.idx_l1, R.slice_list, R.slice_tup, R.part_int, R.max_i, R.min_i, R.items_list, R.items_tup, R.tuple_list, R.tuple_tup, R.list_list, R.list_tup, R.len_list, R.len_tup, R.len_str, R.isa_tt, R.isa_tl, R.isa_ti, R.isa_tb, R.isa_ts, R.isa_tn, R.isa_ii, R.isa_ib, R.isa_is, R.isa_in, R.isa_il, R.isa_it, R.isa_bi, R.isa_bb, R.isa_bs, R.isa_bn, R.isa_bl, R.isa_bt, R.isa_ss, R.isa_si, R.isa_sb, R.isa_sn, R.isa_sl, R.isa_st, R.isa_ll, R.isa_lt, R.zip_tup, R.zip_list, R.enum_list, R.need_tt, R.rev_list, R.rev_tup, R.isb_eq, R.isntb_eq, Option.bind_some, if_true, if_false, Bool.false_eq_true, Bool.not_true, Bool.not_false, R.enum2_list, R.enum2_tup, R.cat_list, R.listRg_int, R.slice_str, R.strO_str, R.isB_bool, R.isNone_none, R.isNone_int, R.isNone_bool, R.isNone_str, R.isNone_tup, R.isNone_list, R.isn_eq, R.isntn_eq, R.extT, R.ext_list, R.mulL_int, R.draw0, R.draw1, R.draw2, R.orX, R.andX, this]
  by_cases c : q.2 ≤ p.2 <;> simp -implicitDefEqProofs only [R.seq_eq, R.T.ret_bind, R.T.bind_assoc, R.T.stuck_bind, R.T.draw_bind, R.nxT_nx, R.nxT_ret, R.nxT_brk, R.nxT_ct, R.onT_nx, R.onT_ct, R.onT_brk, R.onT_ret, R.finT_ret, R.finT_nx, R.setT, R.retT, R.getv_0, R.getv_s, R.put_zero, R.put_succ, R.nth_zero, R.nth_succ, R.ifT, R.andT, R.orT, R.notT, R.bV, R.eq_int, R.ne_int, R.eq_str, R.ne_str, R.nox_ret, R.nox_draw, R.draw_eq, R.andV, R.orV, R.notV, R.iteT, R.chainT, R.lstT, R.tupT, R.par2T, R.par3T, R.asgO, R.asg_n, R.asg_t, R.asgs_nil, R.asgs_cons, R.turnT, R.appT, R.add_int, R.add_str, R.add_list, R.add_tup, R.sub_int, R.mul_int, R.fdiv_int, R.mod_int, R.neg_int, R.shr_int, R.shl_int, R.pow_int, R.lt_int, R.le_int, R.gt_int, R.ge_int, R.addI_int, R.tru_none, R.tru_bool, R.tru_int, R.tru_list, R.tru_tup, R.idx_t0, R.idx_t1, R.idx_t2, R.idx_t3, R.idx_l0, R.idx_l1, R.slice_list, R.slice_tup, R.part_int, R.max_i, R.min_i, R.items_list, R.items_tup, R.tuple_list, R.tuple_tup, R.list_list, R.list_tup, R.len_list, R.len_tup, R.len_str, R.isa_tt, R.isa_tl, R.isa_ti, R.isa_tb, R.isa_ts, R.isa_tn, R.isa_ii, R.isa_ib, R.isa_is, R.isa_in, R.isa_il, R.isa_it, R.isa_bi, R.isa_bb, R.isa_bs, R.isa_bn, R.isa_bl, R.isa_bt, R.isa_ss, R.isa_si, R.isa_sb, R.isa_sn, R.isa_sl, R.isa_st, R.isa_ll, R.isa_lt, R.zip_tup, R.zip_list, R.enum_list, R.need_tt, R.rev_list, R.rev_tup, R.isb_eq, R.isntb_eq, Option.bind_some, if_true, if_false, Bool.false_eq_true, Bool.not_true, Bool.not_false, R.enum2_list, R.enum2_tup, R.cat_list, R.listRg_int, R.slice_str, R.strO_str, R.isB_bool, R.isNone_none, R.isNone_int, R.isNone_bool, R.isNone_str, R.isNone_tup, R.isNone_list, R.isn_eq, R.isntn_eq, R.extT, R.ext_list, R.mulL_int, R.draw0, R.draw1, R.draw2, R.orX, R.andX, c, decide_true, decide_false, Bool.true_and, Bool.false_and]
theorem lin_eq {p q : Bk} (h : 0 ≤ q.2) : m__law_is_in [blk p, blk q] = .ret (.bool (inB' p q)) := by
  have := lhas_eq (p := q) (x := p.1) h
  rw [e__law_is_in]
  unfold b__law_is_in inB'
  unfold blk at this ⊢
  simp -implicitDefEqProofs only [R.seq_eq, R.T.ret_bind, R.T.bind_assoc, R.T.stuck_bind, R.T.draw_bind, R.nxT_nx, R.nxT_ret, R.nxT_brk, R.nxT_ct, R.onT_nx, R.onT_ct, R.onT_brk, R.onT_ret, R.finT_ret, R.finT_nx, R.setT, R.retT, R.getv_0, R.getv_s, R.put_zero, R.put_succ, R.nth_zero, R.nth_succ, R.ifT, R.andT, R.orT, R.notT, R.bV, R.eq_int, R.ne_int, R.eq_str, R.ne_str, R.nox_ret, R.nox_draw, R.draw_eq, R.andV, R.orV, R.notV, R.iteT, R.chainT, R.lstT, R.tupT, R.par2T, R.par3T, R.asgO, R.asg_n, R.asg_t, R.asgs_nil, R.asgs_cons, R.turnT, R.appT, R.add_int, R.add_str, R.add_list, R.add_tup, R.sub_int, R.mul_int, R.fdiv_int, R.mod_int, R.neg_int, R.shr_int, R.shl_int, R.pow_int, R.lt_int, R.le_int, R.gt_int, R.ge_int, R.addI_int, R.tru_none, R.tru_bool, R.tru_int, R.tru_list, R.tru_tup, R.idx_t0, R.idx_t1, R.idx_t2, R.idx_t3, R.idx_l0, R.idx_l1, R.slice_list, R.slice_tup, R.part_int, R.max_i, R.min_i, R.items_list, R.items_tup, R.tuple_list, R.tuple_tup, R.list_list, R.list_tup, R.len_list, R.len_tup, R.len_str, R.isa_tt, R.isa_tl, R.isa_ti, R.isa_tb, R.isa_ts, R.isa_tn, R.isa_ii, R.isa_ib, R.isa_is, R.isa_in, R.isa_il, R.isa_it, R.isa_bi, R.isa_bb, R.isa_bs, R.isa_bn, R.isa_bl, R.isa_bt, R.isa_ss, R.isa_si, R.isa_sb, R.isa_sn, R.isa_sl, R.isa_st, R.isa_ll, R.isa_lt, R.zip_tup, R.zip_list, R.enum_list, R.need_tt, R.rev_list, R.rev_tup, R.isb_eq, R.isntb_eq, Option.bind_some, if_true, if_false, Bool.false_eq_true, Bool.not_true, Bool.not_false, R.enum2_list, R.enum2_tup, R.cat_list, R.listRg_int, R.slice_str, R.strO_str, R.isB_bool, R.isNone_none, R.isNone_int, R.isNone_bool, R.isNone_str, R.isNone_tup, R.isNone_list, R.isn_eq, R.isntn_eq, R.extT, R.ext_list, R.mulL_int, R.draw0, R.draw1, R.draw2, R.orX, R.andX, this]
  by_cases c : q.2 ≤ p.2 <;> simp -implicitDefEqProofs only [R.seq_eq, R.T.ret_bind, R.T.bind_assoc, R.T.stuck_bind, R.T.draw_bind, R.nxT_nx, R.nxT_ret, R.nxT_brk, R.nxT_ct, R.onT_nx, R.onT_ct, R.onT_brk, R.onT_ret, R.finT_ret, R.finT_nx, R.setT, R.retT, R.getv_0, R.getv_s, R.put_zero, R.put_succ, R.nth_zero, R.nth_succ, R.ifT, R.andT, R.orT, R.notT, R.bV, R.eq_int, R.ne_int, R.eq_str, R.ne_str, R.nox_ret, R.nox_draw, R.draw_eq, R.andV, R.orV, R.notV, R.iteT, R.chainT, R.lstT, R.tupT, R.par2T, R.par3T, R.asgO, R.asg_n, R.asg_t, R.asgs_nil, R.asgs_cons, R.turnT, R.appT, R.add_int, R.add_str, R.add_list, R.add_tup, R.sub_int, R.mul_int, R.fdiv_int, R.mod_int, R.neg_int, R.shr_int, R.shl_int, R.pow_int, R.lt_int, R.le_int, R.gt_int, R.ge_int, R.addI_int, R.tru_none, R.tru_bool, R.tru_int, R.tru_list, R.tru_tup, R.idx_t0, R.idx_t1, R.idx_t2, R.idx_t3, R.idx_l0, R.idx_l1, R.slice_list, R.slice_tup, R.part_int, R.max_i, R.min_i, R.items_list, R.items_tup, R.tuple_list, R.tuple_tup, R.list_list, R.list_tup, R.len_list, R.len_tup, R.len_str, R.isa_tt, R.isa_tl, R.isa_ti, R.isa_tb, R.isa_ts, R.isa_tn, R.isa_ii, R.isa_ib, R.isa_is, R.isa_in, R.isa_il, R.isa_it, R.isa_bi, R.isa_bb, R.isa_bs, R.isa_bn, R.isa_bl, R.isa_bt, R.isa_ss, R.isa_si, R.isa_sb, R.isa_sn, R.isa_sl, R.isa_st, R.isa_ll, R.isa_lt, R.zip_tup, R.zip_list, R.enum_list, R.need_tt, R.rev_list, R.rev_tup, R.isb_eq, R.isntb_eq, Option.bind_some, if_true, if_false, Bool.false_eq_true, Bool.not_true, Bool.not_false, R.enum2_list, R.enum2_tup, R.cat_list, R.listRg_int, R.slice_str, R.strO_str, R.isB_bool, R.isNone_none, R.isNone_int, R.isNone_bool, R.isNone_str, R.isNone_tup, R.isNone_list, R.isn_eq, R.isntn_eq, R.extT, R.ext_list, R.mulL_int, R.draw0, R.draw1, R.draw2, R.orX, R.andX, c, decide_true, decide_false, Bool.true_and, Bool.false_and]
/-- a word of a rule -/
def wordOk (d : PyData) : Prop := (∃ i : Int, d = .int i ∧ 0 ≤ i ∧ i < 10) ∨ ∃ z : Str, d = .str z ∧ Sk 4 z
def ruleOk (r : Rule) : Prop := Sk 20 r.nm ∧ (0 ≤ r.ar.1 ∧ r.ar.1 < 65536 ∧ 0 ≤ r.ar.2 ∧ r.ar.2 ≤ 16) ∧ (0 ≤ r.lo ∧ r.lo ≤ 16) ∧ wordOk r.wd
def fit (z : Str) (p : Bk) (r : Rule) : Bool := (r.nm == z) && (decide (p.2 ≤ r.lo) && inB' p r.ar)
def hit (z : Str) (p : Bk) (r : Rule) : Option PyData := if fit z p r = true then some r.wd else none
def ff (z : Str) (p : Bk) (rs : List Rule) : Option PyData := rs.findSome? (hit z p)
def ffD (z : Str) (p : Bk) (rs : List Rule) : PyData := (ff z p rs).getD .none
theorem turn1 {z : Str} {p : Bk} {r : Rule} {a x3 x4 x5 x6 : Option PyData} (h : ruleOk r) : t1_word_for (encR r) [a, some (.str z), some (blk p), x3, x4, x5, x6] = if fit z p r = true then .ret (.ret r.wd) else .ret (.nx [a, some (.str z), some (blk p), some (.str r.nm), some (blk r.ar), some (.int r.lo), some r.wd]) := by
  obtain ⟨_, ⟨_, _, h2, _⟩, _⟩ := h
  have w := within_eq (p := p) (q := r.ar) h2
  unfold t1_word_for fit encR
  have e1 : idxD (blk p) (.int 1) = .ret (.int p.2) := rfl
  simp -implicitDefEqProofs only [R.seq_eq, R.T.ret_bind, R.T.bind_assoc, R.T.stuck_bind, R.T.draw_bind, R.nxT_nx, R.nxT_ret, R.nxT_brk, R.nxT_ct, R.onT_nx, R.onT_ct, R.onT_brk, R.onT_ret, R.finT_ret, R.finT_nx, R.setT, R.retT, R.getv_0, R.getv_s, R.put_zero, R.put_succ, R.nth_zero, R.nth_succ, R.ifT, R.andT, R.orT, R.notT, R.bV, R.eq_int, R.ne_int, R.eq_str, R.ne_str, R.nox_ret, R.nox_draw, R.draw_eq, R.andV, R.orV, R.notV, R.iteT, R.chainT, R.lstT, R.tupT, R.par2T, R.par3T, R.asgO, R.asg_n, R.asg_t, R.asgs_nil, R.asgs_cons, R.turnT, R.appT, R.add_int, R.add_str, R.add_list, R.add_tup, R.sub_int, R.mul_int, R.fdiv_int, R.mod_int, R.neg_int, R.shr_int, R.shl_int, R.pow_int, R.lt_int, R.le_int, R.gt_int, R.ge_int, R.addI_int, R.tru_none, R.tru_bool, R.tru_int, R.tru_list, R.tru_tup, R.idx_t0, R.idx_t1, R.idx_t2, R.idx_t3, R.idx_l0, R.idx_l1, R.slice_list, R.slice_tup, R.part_int, R.max_i, R.min_i, R.items_list, R.items_tup, R.tuple_list, R.tuple_tup, R.list_list, R.list_tup, R.len_list, R.len_tup, R.len_str, R.isa_tt, R.isa_tl, R.isa_ti, R.isa_tb, R.isa_ts, R.isa_tn, R.isa_ii, R.isa_ib, R.isa_is, R.isa_in, R.isa_il, R.isa_it, R.isa_bi, R.isa_bb, R.isa_bs, R.isa_bn, R.isa_bl, R.isa_bt, R.isa_ss, R.isa_si, R.isa_sb, R.isa_sn, R.isa_sl, R.isa_st, R.isa_ll, R.isa_lt, R.zip_tup, R.zip_list, R.enum_list, R.need_tt, R.rev_list, R.rev_tup, R.isb_eq, R.isntb_eq, Option.bind_some, if_true, if_false, Bool.false_eq_true, Bool.not_true, Bool.not_false, R.enum2_list, R.enum2_tup, R.cat_list, R.listRg_int, R.slice_str, R.strO_str, R.isB_bool, R.isNone_none, R.isNone_int, R.isNone_bool, R.isNone_str, R.isNone_tup, R.isNone_list, R.isn_eq, R.isntn_eq, R.extT, R.ext_list, R.mulL_int, R.draw0, R.draw1, R.draw2, R.orX, R.andX, e1, w]
  cases r.nm == z
  · simp -implicitDefEqProofs only [R.seq_eq, R.T.ret_bind, R.T.bind_assoc, R.T.stuck_bind, R.T.draw_bind, R.nxT_nx, R.nxT_ret, R.nxT_brk, R.nxT_ct, R.onT_nx, R.onT_ct, R.onT_brk, R.onT_ret, R.finT_ret, R.finT_nx, R.setT, R.retT, R.getv_0, R.getv_s, R.put_zero, R.put_succ, R.nth_zero, R.nth_succ, R.ifT, R.andT, R.orT, R.notT, R.bV, R.eq_int, R.ne_int, R.eq_str, R.ne_str, R.nox_ret, R.nox_draw, R.draw_eq, R.andV, R.orV, R.notV, R.iteT, R.chainT, R.lstT, R.tupT, R.par2T, R.par3T, R.asgO, R.asg_n, R.asg_t, R.asgs_nil, R.asgs_cons, R.turnT, R.appT, R.add_int, R.add_str, R.add_list, R.add_tup, R.sub_int, R.mul_int, R.fdiv_int, R.mod_int, R.neg_int, R.shr_int, R.shl_int, R.pow_int, R.lt_int, R.le_int, R.gt_int, R.ge_int, R.addI_int, R.tru_none, R.tru_bool, R.tru_int, R.tru_list, R.tru_tup, R.idx_t0, R.idx_t1, R.idx_t2, R.idx_t3, R.idx_l0, R.idx_l1, R.slice_list, R.slice_tup, R.part_int, R.max_i, R.min_i, R.items_list, R.items_tup, R.tuple_list, R.tuple_tup, R.list_list, R.list_tup, R.len_list, R.len_tup, R.len_str, R.isa_tt, R.isa_tl, R.isa_ti, R.isa_tb, R.isa_ts, R.isa_tn, R.isa_ii, R.isa_ib, R.isa_is, R.isa_in, R.isa_il, R.isa_it, R.isa_bi, R.isa_bb, R.isa_bs, R.isa_bn, R.isa_bl, R.isa_bt, R.isa_ss, R.isa_si, R.isa_sb, R.isa_sn, R.isa_sl, R.isa_st, R.isa_ll, R.isa_lt, R.zip_tup, R.zip_list, R.enum_list, R.need_tt, R.rev_list, R.rev_tup, R.isb_eq, R.isntb_eq, Option.bind_some, if_true, if_false, Bool.false_eq_true, Bool.not_true, Bool.not_false, R.enum2_list, R.enum2_tup, R.cat_list, R.listRg_int, R.slice_str, R.strO_str, R.isB_bool, R.isNone_none, R.isNone_int, R.isNone_bool, R.isNone_str, R.isNone_tup, R.isNone_list, R.isn_eq, R.isntn_eq, R.extT, R.ext_list, R.mulL_int, R.draw0, R.draw1, R.draw2, R.orX, R.andX, Bool.false_and]
  · by_cases c : p.2 ≤ r.lo
    · simp -implicitDefEqProofs only [R.seq_eq, R.T.ret_bind, R.T.bind_assoc, R.T.stuck_bind, R.T.draw_bind, R.nxT_nx, R.nxT_ret, R.nxT_brk, R.nxT_ct, R.onT_nx, R.onT_ct, R.onT_brk, R.onT_ret, R.finT_ret, R.finT_nx, R.setT, R.retT, R.getv_0, R.getv_s, R.put_zero, R.put_succ, R.nth_zero, R.nth_succ, R.ifT, R.andT, R.orT, R.notT, R.bV, R.eq_int, R.ne_int, R.eq_str, R.ne_str, R.nox_ret, R.nox_draw, R.draw_eq, R.andV, R.orV, R.notV, R.iteT, R.chainT, R.lstT, R.tupT, R.par2T, R.par3T, R.asgO, R.asg_n, R.asg_t, R.asgs_nil, R.asgs_cons, R.turnT, R.appT, R.add_int, R.add_str, R.add_list, R.add_tup, R.sub_int, R.mul_int, R.fdiv_int, R.mod_int, R.neg_int, R.shr_int, R.shl_int, R.pow_int, R.lt_int, R.le_int, R.gt_int, R.ge_int, R.addI_int, R.tru_none, R.tru_bool, R.tru_int, R.tru_list, R.tru_tup, R.idx_t0, R.idx_t1, R.idx_t2, R.idx_t3, R.idx_l0, R.idx_l1, R.slice_list, R.slice_tup, R.part_int, R.max_i, R.min_i, R.items_list, R.items_tup, R.tuple_list, R.tuple_tup, R.list_list, R.list_tup, R.len_list, R.len_tup, R.len_str, R.isa_tt, R.isa_tl, R.isa_ti, R.isa_tb, R.isa_ts, R.isa_tn, R.isa_ii, R.isa_ib, R.isa_is, R.isa_in, R.isa_il, R.isa_it, R.isa_bi, R.isa_bb, R.isa_bs, R.isa_bn, R.isa_bl, R.isa_bt, R.isa_ss, R.isa_si, R.isa_sb, R.isa_sn, R.isa_sl, R.isa_st, R.isa_ll, R.isa_lt, R.zip_tup, R.zip_list, R.enum_list, R.need_tt, R.rev_list, R.rev_tup, R.isb_eq, R.isntb_eq, Option.bind_some, if_true, if_false, Bool.false_eq_true, Bool.not_true, Bool.not_false, R.enum2_list, R.enum2_tup, R.cat_list, R.listRg_int, R.slice_str, R.strO_str, R.isB_bool, R.isNone_none, R.isNone_int, R.isNone_bool, R.isNone_str, R.isNone_tup, R.isNone_list, R.isn_eq, R.isntn_eq, R.extT, R.ext_list, R.mulL_int, R.draw0, R.draw1, R.draw2, R.orX, R.andX, c, decide_true, Bool.true_and]
    · simp -implicitDefEqProofs only [R.seq_eq, R.T.ret_bind, R.T.bind_assoc, R.T.stuck_bind, R.T.draw_bind, R.nxT_nx, R.nxT_ret, R.nxT_brk, R.nxT_ct, R.onT_nx, R.onT_ct, R.onT_brk, R.onT_ret, R.finT_ret, R.finT_nx, R.setT, R.retT, R.getv_0, R.getv_s, R.put_zero, R.put_succ, R.nth_zero, R.nth_succ, R.ifT, R.andT, R.orT, R.notT, R.bV, R.eq_int, R.ne_int, R.eq_str, R.ne_str, R.nox_ret, R.nox_draw, R.draw_eq, R.andV, R.orV, R.notV, R.iteT, R.chainT, R.lstT, R.tupT, R.par2T, R.par3T, R.asgO, R.asg_n, R.asg_t, R.asgs_nil, R.asgs_cons, R.turnT, R.appT, R.add_int, R.add_str, R.add_list, R.add_tup, R.sub_int, R.mul_int, R.fdiv_int, R.mod_int, R.neg_int, R.shr_int, R.shl_int, R.pow_int, R.lt_int, R.le_int, R.gt_int, R.ge_int, R.addI_int, R.tru_none, R.tru_bool, R.tru_int, R.tru_list, R.tru_tup, R.idx_t0, R.idx_t1, R.idx_t2, R.idx_t3, R.idx_l0, R.idx_l1, R.slice_list, R.slice_tup, R.part_int, R.max_i, R.min_i, R.items_list, R.items_tup, R.tuple_list, R.tuple_tup, R.list_list, R.list_tup, R.len_list, R.len_tup, R.len_str, R.isa_tt, R.isa_tl, R.isa_ti, R.isa_tb, R.isa_ts, R.isa_tn, R.isa_ii, R.isa_ib, R.isa_is, R.isa_in, R.isa_il, R.isa_it, R.isa_bi, R.isa_bb, R.isa_bs, R.isa_bn, R.isa_bl, R.isa_bt, R.isa_ss, R.isa_si, R.isa_sb, R.isa_sn, R.isa_sl, R.isa_st, R.isa_ll, R.isa_lt, R.zip_tup, R.zip_list, R.enum_list, R.need_tt, R.rev_list, R.rev_tup, R.isb_eq, R.isntb_eq, Option.bind_some, if_true, if_false, Bool.false_eq_true, Bool.not_true, Bool.not_false, R.enum2_list, R.enum2_tup, R.cat_list, R.listRg_int, R.slice_str, R.strO_str, R.isB_bool, R.isNone_none, R.isNone_int, R.isNone_bool, R.isNone_str, R.isNone_tup, R.isNone_list, R.isn_eq, R.isntn_eq, R.extT, R.ext_list, R.mulL_int, R.draw0, R.draw1, R.draw2, R.orX, R.andX, c, decide_false, Bool.true_and, Bool.false_and]
theorem word_eq {z : Str} {p : Bk} {rls : List Rule} (h : ∀ r ∈ rls, ruleOk r) : m_word_for [.tuple (rls.map encR), .str z, blk p] = .ret (ffD z p rls) := by
  rw [e_word_for]
  unfold b_word_for ffD ff
  simp -implicitDefEqProofs only [R.seq_eq, R.T.ret_bind, R.T.bind_assoc, R.T.stuck_bind, R.T.draw_bind, R.nxT_nx, R.nxT_ret, R.nxT_brk, R.nxT_ct, R.onT_nx, R.onT_ct, R.onT_brk, R.onT_ret, R.finT_ret, R.finT_nx, R.setT, R.retT, R.getv_0, R.getv_s, R.put_zero, R.put_succ, R.nth_zero, R.nth_succ, R.ifT, R.andT, R.orT, R.notT, R.bV, R.eq_int, R.ne_int, R.eq_str, R.ne_str, R.nox_ret, R.nox_draw, R.draw_eq, R.andV, R.orV, R.notV, R.iteT, R.chainT, R.lstT, R.tupT, R.par2T, R.par3T, R.asgO, R.asg_n, R.asg_t, R.asgs_nil, R.asgs_cons, R.turnT, R.appT, R.add_int, R.add_str, R.add_list, R.add_tup, R.sub_int, R.mul_int, R.fdiv_int, R.mod_int, R.neg_int, R.shr_int, R.shl_int, R.pow_int, R.lt_int, R.le_int, R.gt_int, R.ge_int, R.addI_int, R.tru_none, R.tru_bool, R.tru_int, R.tru_list, R.tru_tup, R.idx_t0, R.idx_t1, R.idx_t2, R.idx_t3, R.idx_l0, R.idx_l1, R.slice_list, R.slice_tup, R.part_int, R.max_i, R.min_i, R.items_list, R.items_tup, R.tuple_list, R.tuple_tup, R.list_list, R.list_tup, R.len_list, R.len_tup, R.len_str, R.isa_tt, R.isa_tl, R.isa_ti, R.isa_tb, R.isa_ts, R.isa_tn, R.isa_ii, R.isa_ib, R.isa_is, R.isa_in, R.isa_il, R.isa_it, R.isa_bi, R.isa_bb, R.isa_bs, R.isa_bn, R.isa_bl, R.isa_bt, R.isa_ss, R.isa_si, R.isa_sb, R.isa_sn, R.isa_sl, R.isa_st, R.isa_ll, R.isa_lt, R.zip_tup, R.zip_list, R.enum_list, R.need_tt, R.rev_list, R.rev_tup, R.isb_eq, R.isntb_eq, Option.bind_some, if_true, if_false, Bool.false_eq_true, Bool.not_true, Bool.not_false, R.enum2_list, R.enum2_tup, R.cat_list, R.listRg_int, R.slice_str, R.strO_str, R.isB_bool, R.isNone_none, R.isNone_int, R.isNone_bool, R.isNone_str, R.isNone_tup, R.isNone_list, R.isn_eq, R.isntn_eq, R.extT, R.ext_list, R.mulL_int, R.draw0, R.draw1, R.draw2, R.orX, R.andX]
  rcases for_search (f := t1_word_for) (P := fun ρ => ∃ x3 x4 x5 x6, ρ = [some (.tuple (rls.map encR)), some (.str z), some (blk p), x3, x4, x5, x6]) encR (hit z p) (xs := rls) ⟨none, none, none, none, rfl⟩ (fun r hr ρ ⟨x3, x4, x5, x6, e⟩ => by
    subst e
    rw [turn1 (h r hr)]
    unfold hit
    cases fit z p r
    · exact .inr ⟨rfl, _, rfl, _, _, _, _, rfl⟩
    · exact .inl ⟨_, rfl, rfl⟩) with ⟨v, h1, h2⟩ | ⟨h1, ρ', h2, _⟩
  · simp -implicitDefEqProofs only [R.seq_eq, R.T.ret_bind, R.T.bind_assoc, R.T.stuck_bind, R.T.draw_bind, R.nxT_nx, R.nxT_ret, R.nxT_brk, R.nxT_ct, R.onT_nx, R.onT_ct, R.onT_brk, R.onT_ret, R.finT_ret, R.finT_nx, R.setT, R.retT, R.getv_0, R.getv_s, R.put_zero, R.put_succ, R.nth_zero, R.nth_succ, R.ifT, R.andT, R.orT, R.notT, R.bV, R.eq_int, R.ne_int, R.eq_str, R.ne_str, R.nox_ret, R.nox_draw, R.draw_eq, R.andV, R.orV, R.notV, R.iteT, R.chainT, R.lstT, R.tupT, R.par2T, R.par3T, R.asgO, R.asg_n, R.asg_t, R.asgs_nil, R.asgs_cons, R.turnT, R.appT, R.add_int, R.add_str, R.add_list, R.add_tup, R.sub_int, R.mul_int, R.fdiv_int, R.mod_int, R.neg_int, R.shr_int, R.shl_int, R.pow_int, R.lt_int, R.le_int, R.gt_int, R.ge_int, R.addI_int, R.tru_none, R.tru_bool, R.tru_int, R.tru_list, R.tru_tup, R.idx_t0, R.idx_t1, R.idx_t2, R.idx_t3, R.idx_l0, R.idx_l1, R.slice_list, R.slice_tup, R.part_int, R.max_i, R.min_i, R.items_list, R.items_tup, R.tuple_list, R.tuple_tup, R.list_list, R.list_tup, R.len_list, R.len_tup, R.len_str, R.isa_tt, R.isa_tl, R.isa_ti, R.isa_tb, R.isa_ts, R.isa_tn, R.isa_ii, R.isa_ib, R.isa_is, R.isa_in, R.isa_il, R.isa_it, R.isa_bi, R.isa_bb, R.isa_bs, R.isa_bn, R.isa_bl, R.isa_bt, R.isa_ss, R.isa_si, R.isa_sb, R.isa_sn, R.isa_sl, R.isa_st, R.isa_ll, R.isa_lt, R.zip_tup, R.zip_list, R.enum_list, R.need_tt, R.rev_list, R.rev_tup, R.isb_eq, R.isntb_eq, Option.bind_some, if_true, if_false, Bool.false_eq_true, Bool.not_true, Bool.not_false, R.enum2_list, R.enum2_tup, R.cat_list, R.listRg_int, R.slice_str, R.strO_str, R.isB_bool, R.isNone_none, R.isNone_int, R.isNone_bool, R.isNone_str, R.isNone_tup, R.isNone_list, R.isn_eq, R.isntn_eq, R.extT, R.ext_list, R.mulL_int, R.draw0, R.draw1, R.draw2, R.orX, R.andX, h1, h2, Option.getD_some]
  · simp -implicitDefEqProofs only [R.seq_eq, R.T.ret_bind, R.T.bind_assoc, R.T.stuck_bind, R.T.draw_bind, R.nxT_nx, R.nxT_ret, R.nxT_brk, R.nxT_ct, R.onT_nx, R.onT_ct, R.onT_brk, R.onT_ret, R.finT_ret, R.finT_nx, R.setT, R.retT, R.getv_0, R.getv_s, R.put_zero, R.put_succ, R.nth_zero, R.nth_succ, R.ifT, R.andT, R.orT, R.notT, R.bV, R.eq_int, R.ne_int, R.eq_str, R.ne_str, R.nox_ret, R.nox_draw, R.draw_eq, R.andV, R.orV, R.notV, R.iteT, R.chainT, R.lstT, R.tupT, R.par2T, R.par3T, R.asgO, R.asg_n, R.asg_t, R.asgs_nil, R.asgs_cons, R.turnT, R.appT, R.add_int, R.add_str, R.add_list, R.add_tup, R.sub_int, R.mul_int, R.fdiv_int, R.mod_int, R.neg_int, R.shr_int, R.shl_int, R.pow_int, R.lt_int, R.le_int, R.gt_int, R.ge_int, R.addI_int, R.tru_none, R.tru_bool, R.tru_int, R.tru_list, R.tru_tup, R.idx_t0, R.idx_t1, R.idx_t2, R.idx_t3, R.idx_l0, R.idx_l1, R.slice_list, R.slice_tup, R.part_int, R.max_i, R.min_i, R.items_list, R.items_tup, R.tuple_list, R.tuple_tup, R.list_list, R.list_tup, R.len_list, R.len_tup, R.len_str, R.isa_tt, R.isa_tl, R.isa_ti, R.isa_tb, R.isa_ts, R.isa_tn, R.isa_ii, R.isa_ib, R.isa_is, R.isa_in, R.isa_il, R.isa_it, R.isa_bi, R.isa_bb, R.isa_bs, R.isa_bn, R.isa_bl, R.isa_bt, R.isa_ss, R.isa_si, R.isa_sb, R.isa_sn, R.isa_sl, R.isa_st, R.isa_ll, R.isa_lt, R.zip_tup, R.zip_list, R.enum_list, R.need_tt, R.rev_list, R.rev_tup, R.isb_eq, R.isntb_eq, Option.bind_some, if_true, if_false, Bool.false_eq_true, Bool.not_true, Bool.not_false, R.enum2_list, R.enum2_tup, R.cat_list, R.listRg_int, R.slice_str, R.strO_str, R.isB_bool, R.isNone_none, R.isNone_int, R.isNone_bool, R.isNone_str, R.isNone_tup, R.isNone_list, R.isn_eq, R.isntn_eq, R.extT, R.ext_list, R.mulL_int, R.draw0, R.draw1, R.draw2, R.orX, R.andX, h1, h2, Option.getD_none]
theorem lturn1 {z : Str} {p : Bk} {r : Rule} {a x3 x4 x5 x6 : Option PyData} (h : ruleOk r) : t1__law_word (encR r) [a, some (.str z), some (blk p), x3, x4, x5, x6] = if fit z p r = true then .ret (.ret r.wd) else .ret (.nx [a, some (.str z), some (blk p), some (.str r.nm), some (blk r.ar), some (.int r.lo), some r.wd]) := by
  obtain ⟨_, ⟨_, _, h2, _⟩, _⟩ := h
  have w := lin_eq (p := p) (q := r.ar) h2
  unfold t1__law_word fit encR
  have e1 : idxD (blk p) (.int 1) = .ret (.int p.2) := rfl
  simp -implicitDefEqProofs only [R.seq_eq, R.T.ret_bind, R.T.bind_assoc, R.T.stuck_bind, R.T.draw_bind, R.nxT_nx, R.nxT_ret, R.nxT_brk, R.nxT_ct, R.onT_nx, R.onT_ct, R.onT_brk, R.onT_ret, R.finT_ret, R.finT_nx, R.setT, R.retT, R.getv_0, R.getv_s, R.put_zero, R.put_succ, R.nth_zero, R.nth_succ, R.ifT, R.andT, R.orT, R.notT, R.bV, R.eq_int, R.ne_int, R.eq_str, R.ne_str, R.nox_ret, R.nox_draw, R.draw_eq, R.andV, R.orV, R.notV, R.iteT, R.chainT, R.lstT, R.tupT, R.par2T, R.par3T, R.asgO, R.asg_n, R.asg_t, R.asgs_nil, R.asgs_cons, R.turnT, R.appT, R.add_int, R.add_str, R.add_list, R.add_tup, R.sub_int, R.mul_int, R.fdiv_int, R.mod_int, R.neg_int, R.shr_int, R.shl_int, R.pow_int, R.lt_int, R.le_int, R.gt_int, R.ge_int, R.addI_int, R.tru_none, R.tru_bool, R.tru_int, R.tru_list, R.tru_tup, R.idx_t0, R.idx_t1, R.idx_t2, R.idx_t3, R.idx_l0, R.idx_l1, R.slice_list, R.slice_tup, R.part_int, R.max_i, R.min_i, R.items_list, R.items_tup, R.tuple_list, R.tuple_tup, R.list_list, R.list_tup, R.len_list, R.len_tup, R.len_str, R.isa_tt, R.isa_tl, R.isa_ti, R.isa_tb, R.isa_ts, R.isa_tn, R.isa_ii, R.isa_ib, R.isa_is, R.isa_in, R.isa_il, R.isa_it, R.isa_bi, R.isa_bb, R.isa_bs, R.isa_bn, R.isa_bl, R.isa_bt, R.isa_ss, R.isa_si, R.isa_sb, R.isa_sn, R.isa_sl, R.isa_st, R.isa_ll, R.isa_lt, R.zip_tup, R.zip_list, R.enum_list, R.need_tt, R.rev_list, R.rev_tup, R.isb_eq, R.isntb_eq, Option.bind_some, if_true, if_false, Bool.false_eq_true, Bool.not_true, Bool.not_false, R.enum2_list, R.enum2_tup, R.cat_list, R.listRg_int, R.slice_str, R.strO_str, R.isB_bool, R.isNone_none, R.isNone_int, R.isNone_bool, R.isNone_str, R.isNone_tup, R.isNone_list, R.isn_eq, R.isntn_eq, R.extT, R.ext_list, R.mulL_int, R.draw0, R.draw1, R.draw2, R.orX, R.andX, e1, w]
  cases r.nm == z
  · simp -implicitDefEqProofs only [R.seq_eq, R.T.ret_bind, R.T.bind_assoc, R.T.stuck_bind, R.T.draw_bind, R.nxT_nx, R.nxT_ret, R.nxT_brk, R.nxT_ct, R.onT_nx, R.onT_ct, R.onT_brk, R.onT_ret, R.finT_ret, R.finT_nx, R.setT, R.retT, R.getv_0, R.getv_s, R.put_zero, R.put_succ, R.nth_zero, R.nth_succ, R.ifT, R.andT, R.orT, R.notT, R.bV, R.eq_int, R.ne_int, R.eq_str, R.ne_str, R.nox_ret, R.nox_draw, R.draw_eq, R.andV, R.orV, R.notV, R.iteT, R.chainT, R.lstT, R.tupT, R.par2T, R.par3T, R.asgO, R.asg_n, R.asg_t, R.asgs_nil, R.asgs_cons, R.turnT, R.appT, R.add_int, R.add_str, R.add_list, R.add_tup, R.sub_int, R.mul_int, R.fdiv_int, R.mod_int, R.neg_int, R.shr_int, R.shl_int, R.pow_int, R.lt_int, R.le_int, R.gt_int, R.ge_int, R.addI_int, R.tru_none, R.tru_bool, R.tru_int, R.tru_list, R.tru_tup, R.idx_t0, R.idx_t1, R.idx_t2, R.idx_t3, R.idx_l0, R.idx_l1, R.slice_list, R.slice_tup, R.part_int, R.max_i, R.min_i, R.items_list, R.items_tup, R.tuple_list, R.tuple_tup, R.list_list, R.list_tup, R.len_list, R.len_tup, R.len_str, R.isa_tt, R.isa_tl, R.isa_ti, R.isa_tb, R.isa_ts, R.isa_tn, R.isa_ii, R.isa_ib, R.isa_is, R.isa_in, R.isa_il, R.isa_it, R.isa_bi, R.isa_bb, R.isa_bs, R.isa_bn, R.isa_bl, R.isa_bt, R.isa_ss, R.isa_si, R.isa_sb, R.isa_sn, R.isa_sl, R.isa_st, R.isa_ll, R.isa_lt, R.zip_tup, R.zip_list, R.enum_list, R.need_tt, R.rev_list, R.rev_tup, R.isb_eq, R.isntb_eq, Option.bind_some, if_true, if_false, Bool.false_eq_true, Bool.not_true, Bool.not_false, R.enum2_list, R.enum2_tup, R.cat_list, R.listRg_int, R.slice_str, R.strO_str, R.isB_bool, R.isNone_none, R.isNone_int, R.isNone_bool, R.isNone_str, R.isNone_tup, R.isNone_list, R.isn_eq, R.isntn_eq, R.extT, R.ext_list, R.mulL_int, R.draw0, R.draw1, R.draw2, R.orX, R.andX, Bool.false_and]
  · by_cases c : p.2 ≤ r.lo
    · simp -implicitDefEqProofs only [R.seq_eq, R.T.ret_bind, R.T.bind_assoc, R.T.stuck_bind, R.T.draw_bind, R.nxT_nx, R.nxT_ret, R.nxT_brk, R.nxT_ct, R.onT_nx, R.onT_ct, R.onT_brk, R.onT_ret, R.finT_ret, R.finT_nx, R.setT, R.retT, R.getv_0, R.getv_s, R.put_zero, R.put_succ, R.nth_zero, R.nth_succ, R.ifT, R.andT, R.orT, R.notT, R.bV, R.eq_int, R.ne_int, R.eq_str, R.ne_str, R.nox_ret, R.nox_draw, R.draw_eq, R.andV, R.orV, R.notV, R.iteT, R.chainT, R.lstT, R.tupT, R.par2T, R.par3T, R.asgO, R.asg_n, R.asg_t, R.asgs_nil, R.asgs_cons, R.turnT, R.appT, R.add_int, R.add_str, R.add_list, R.add_tup, R.sub_int, R.mul_int, R.fdiv_int, R.mod_int, R.neg_int, R.shr_int, R.shl_int, R.pow_int, R.lt_int, R.le_int, R.gt_int, R.ge_int, R.addI_int, R.tru_none, R.tru_bool, R.tru_int, R.tru_list, R.tru_tup, R.idx_t0, R.idx_t1, R.idx_t2, R.idx_t3, R.idx_l0, R.idx_l1, R.slice_list, R.slice_tup, R.part_int, R.max_i, R.min_i, R.items_list, R.items_tup, R.tuple_list, R.tuple_tup, R.list_list, R.list_tup, R.len_list, R.len_tup, R.len_str, R.isa_tt, R.isa_tl, R.isa_ti, R.isa_tb, R.isa_ts, R.isa_tn, R.isa_ii, R.isa_ib, R.isa_is, R.isa_in, R.isa_il, R.isa_it, R.isa_bi, R.isa_bb, R.isa_bs, R.isa_bn, R.isa_bl, R.isa_bt, R.isa_ss, R.isa_si, R.isa_sb, R.isa_sn, R.isa_sl, R.isa_st, R.isa_ll, R.isa_lt, R.zip_tup, R.zip_list, R.enum_list, R.need_tt, R.rev_list, R.rev_tup, R.isb_eq, R.isntb_eq, Option.bind_some, if_true, if_false, Bool.false_eq_true, Bool.not_true, Bool.not_false, R.enum2_list, R.enum2_tup, R.cat_list, R.listRg_int, R.slice_str, R.strO_str, R.isB_bool, R.isNone_none, R.isNone_int, R.isNone_bool, R.isNone_str, R.isNone_tup, R.isNone_list, R.isn_eq, R.isntn_eq, R.extT, R.ext_list, R.mulL_int, R.draw0, R.draw1, R.draw2, R.orX, R.andX, c, decide_true, Bool.true_and]
    · simp -implicitDefEqProofs only [R.seq_eq, R.T.ret_bind, R.T.bind_assoc, R.T.stuck_bind, R.T.draw_bind, R.nxT_nx, R.nxT_ret, R.nxT_brk, R.nxT_ct, R.onT_nx, R.onT_ct, R.onT_brk, R.onT_ret, R.finT_ret, R.finT_nx, R.setT, R.retT, R.getv_0, R.getv_s, R.put_zero, R.put_succ, R.nth_zero, R.nth_succ, R.ifT, R.andT, R.orT, R.notT, R.bV, R.eq_int, R.ne_int, R.eq_str, R.ne_str, R.nox_ret, R.nox_draw, R.draw_eq, R.andV, R.orV, R.notV, R.iteT, R.chainT, R.lstT, R.tupT, R.par2T, R.par3T, R.asgO, R.asg_n, R.asg_t, R.asgs_nil, R.asgs_cons, R.turnT, R.appT, R.add_int, R.add_str, R.add_list, R.add_tup, R.sub_int, R.mul_int, R.fdiv_int, R.mod_int, R.neg_int, R.shr_int, R.shl_int, R.pow_int, R.lt_int, R.le_int, R.gt_int, R.ge_int, R.addI_int, R.tru_none, R.tru_bool, R.tru_int, R.tru_list, R.tru_tup, R.idx_t0, R.idx_t1, R.idx_t2, R.idx_t3, R.idx_l0, R.idx_l1, R.slice_list, R.slice_tup, R.part_int, R.max_i, R.min_i, R.items_list, R.items_tup, R.tuple_list, R.tuple_tup, R.list_list, R.list_tup, R.len_list, R.len_tup, R.len_str, R.isa_tt, R.isa_tl, R.isa_ti, R.isa_tb, R.isa_ts, R.isa_tn, R.isa_ii, R.isa_ib, R.isa_is, R.isa_in, R.isa_il, R.isa_it, R.isa_bi, R.isa_bb, R.isa_bs, R.isa_bn, R.isa_bl, R.isa_bt, R.isa_ss, R.isa_si, R.isa_sb, R.isa_sn, R.isa_sl, R.isa_st, R.isa_ll, R.isa_lt, R.zip_tup, R.zip_list, R.enum_list, R.need_tt, R.rev_list, R.rev_tup, R.isb_eq, R.isntb_eq, Option.bind_some, if_true, if_false, Bool.false_eq_true, Bool.not_true, Bool.not_false, R.enum2_list, R.enum2_tup, R.cat_list, R.listRg_int, R.slice_str, R.strO_str, R.isB_bool, R.isNone_none, R.isNone_int, R.isNone_bool, R.isNone_str, R.isNone_tup, R.isNone_list, R.isn_eq, R.isntn_eq, R.extT, R.ext_list, R.mulL_int, R.draw0, R.draw1, R.draw2, R.orX, R.andX, c, decide_false, Bool.true_and, Bool.false_and]
theorem lword_eq {z : Str} {p : Bk} {rls : List Rule} (h : ∀ r ∈ rls, ruleOk r) : m__law_word [.tuple (rls.map encR), .str z, blk p] = .ret (ffD z p rls) := by
  rw [e__law_word]
  unfold b__law_word ffD ff
  simp -implicitDefEqProofs only [R.seq_eq, R.T.ret_bind, R.T.bind_assoc, R.T.stuck_bind, R.T.draw_bind, R.nxT_nx, R.nxT_ret, R.nxT_brk, R.nxT_ct, R.onT_nx, R.onT_ct, R.onT_brk, R.onT_ret, R.finT_ret, R.finT_nx, R.setT, R.retT, R.getv_0, R.getv_s, R.put_zero, R.put_succ, R.nth_zero, R.nth_succ, R.ifT, R.andT, R.orT, R.notT, R.bV, R.eq_int, R.ne_int, R.eq_str, R.ne_str, R.nox_ret, R.nox_draw, R.draw_eq, R.andV, R.orV, R.notV, R.iteT, R.chainT, R.lstT, R.tupT, R.par2T, R.par3T, R.asgO, R.asg_n, R.asg_t, R.asgs_nil, R.asgs_cons, R.turnT, R.appT, R.add_int, R.add_str, R.add_list, R.add_tup, R.sub_int, R.mul_int, R.fdiv_int, R.mod_int, R.neg_int, R.shr_int, R.shl_int, R.pow_int, R.lt_int, R.le_int, R.gt_int, R.ge_int, R.addI_int, R.tru_none, R.tru_bool, R.tru_int, R.tru_list, R.tru_tup, R.idx_t0, R.idx_t1, R.idx_t2, R.idx_t3, R.idx_l0, R.idx_l1, R.slice_list, R.slice_tup, R.part_int, R.max_i, R.min_i, R.items_list, R.items_tup, R.tuple_list, R.tuple_tup, R.list_list, R.list_tup, R.len_list, R.len_tup, R.len_str, R.isa_tt, R.isa_tl, R.isa_ti, R.isa_tb, R.isa_ts, R.isa_tn, R.isa_ii, R.isa_ib, R.isa_is, R.isa_in, R.isa_il, R.isa_it, R.isa_bi, R.isa_bb, R.isa_bs, R.isa_bn, R.isa_bl, R.isa_bt, R.isa_ss, R.isa_si, R.isa_sb, R.isa_sn, R.isa_sl, R.isa_st, R.isa_ll, R.isa_lt, R.zip_tup, R.zip_list, R.enum_list, R.need_tt, R.rev_list, R.rev_tup, R.isb_eq, R.isntb_eq, Option.bind_some, if_true, if_false, Bool.false_eq_true, Bool.not_true, Bool.not_false, R.enum2_list, R.enum2_tup, R.cat_list, R.listRg_int, R.slice_str, R.strO_str, R.isB_bool, R.isNone_none, R.isNone_int, R.isNone_bool, R.isNone_str, R.isNone_tup, R.isNone_list, R.isn_eq, R.isntn_eq, R.extT, R.ext_list, R.mulL_int, R.draw0, R.draw1, R.draw2, R.orX, R.andX]
  rcases for_search (f := t1__law_word) (P := fun ρ => ∃ x3 x4 x5 x6, ρ = [some (.tuple (rls.map encR)), some (.str z), some (blk p), x3, x4, x5, x6]) encR (hit z p) (xs := rls) ⟨none, none, none, none, rfl⟩ (fun r hr ρ ⟨x3, x4, x5, x6, e⟩ => by
    subst e
    rw [lturn1 (h r hr)]
    unfold hit
    cases fit z p r
    · exact .inr ⟨rfl, _, rfl, _, _, _, _, rfl⟩
    · exact .inl ⟨_, rfl, rfl⟩) with ⟨v, h1, h2⟩ | ⟨h1, ρ', h2, _⟩
  · simp -implicitDefEqProofs only [R.seq_eq, R.T.ret_bind, R.T.bind_assoc, R.T.stuck_bind, R.T.draw_bind, R.nxT_nx, R.nxT_ret, R.nxT_brk, R.nxT_ct, R.onT_nx, R.onT_ct, R.onT_brk, R.onT_ret, R.finT_ret, R.finT_nx, R.setT, R.retT, R.getv_0, R.getv_s, R.put_zero, R.put_succ, R.nth_zero, R.nth_succ, R.ifT, R.andT, R.orT, R.notT, R.bV, R.eq_int, R.ne_int, R.eq_str, R.ne_str, R.nox_ret, R.nox_draw, R.draw_eq, R.andV, R.orV, R.notV, R.iteT, R.chainT, R.lstT, R.tupT, R.par2T, R.par3T, R.asgO, R.asg_n, R.asg_t, R.asgs_nil, R.asgs_cons, R.turnT, R.appT, R.add_int, R.add_str, R.add_list, R.add_tup, R.sub_int, R.mul_int, R.fdiv_int, R.mod_int, R.neg_int, R.shr_int, R.shl_int, R.pow_int, R.lt_int, R.le_int, R.gt_int, R.ge_int, R.addI_int, R.tru_none, R.tru_bool, R.tru_int, R.tru_list, R.tru_tup, R.idx_t0, R.idx_t1, R.idx_t2, R.idx_t3, R.idx_l0, R.idx_l1, R.slice_list, R.slice_tup, R.part_int, R.max_i, R.min_i, R.items_list, R.items_tup, R.tuple_list, R.tuple_tup, R.list_list, R.list_tup, R.len_list, R.len_tup, R.len_str, R.isa_tt, R.isa_tl, R.isa_ti, R.isa_tb, R.isa_ts, R.isa_tn, R.isa_ii, R.isa_ib, R.isa_is, R.isa_in, R.isa_il, R.isa_it, R.isa_bi, R.isa_bb, R.isa_bs, R.isa_bn, R.isa_bl, R.isa_bt, R.isa_ss, R.isa_si, R.isa_sb, R.isa_sn, R.isa_sl, R.isa_st, R.isa_ll, R.isa_lt, R.zip_tup, R.zip_list, R.enum_list, R.need_tt, R.rev_list, R.rev_tup, R.isb_eq, R.isntb_eq, Option.bind_some, if_true, if_false, Bool.false_eq_true, Bool.not_true, Bool.not_false, R.enum2_list, R.enum2_tup, R.cat_list, R.listRg_int, R.slice_str, R.strO_str, R.isB_bool, R.isNone_none, R.isNone_int, R.isNone_bool, R.isNone_str, R.isNone_tup, R.isNone_list, R.isn_eq, R.isntn_eq, R.extT, R.ext_list, R.mulL_int, R.draw0, R.draw1, R.draw2, R.orX, R.andX, h1, h2, Option.getD_some]
  · simp -implicitDefEqProofs only [R.seq_eq, R.T.ret_bind, R.T.bind_assoc, R.T.stuck_bind, R.T.draw_bind, R.nxT_nx, R.nxT_ret, R.nxT_brk, R.nxT_ct, R.onT_nx, R.onT_ct, R.onT_brk, R.onT_ret, R.finT_ret, R.finT_nx, R.setT, R.retT, R.getv_0, R.getv_s, R.put_zero, R.put_succ, R.nth_zero, R.nth_succ, R.ifT, R.andT, R.orT, R.notT, R.bV, R.eq_int, R.ne_int, R.eq_str, R.ne_str, R.nox_ret, R.nox_draw, R.draw_eq, R.andV, R.orV, R.notV, R.iteT, R.chainT, R.lstT, R.tupT, R.par2T, R.par3T, R.asgO, R.asg_n, R.asg_t, R.asgs_nil, R.asgs_cons, R.turnT, R.appT, R.add_int, R.add_str, R.add_list, R.add_tup, R.sub_int, R.mul_int, R.fdiv_int, R.mod_int, R.neg_int, R.shr_int, R.shl_int, R.pow_int, R.lt_int, R.le_int, R.gt_int, R.ge_int, R.addI_int, R.tru_none, R.tru_bool, R.tru_int, R.tru_list, R.tru_tup, R.idx_t0, R.idx_t1, R.idx_t2, R.idx_t3, R.idx_l0, R.idx_l1, R.slice_list, R.slice_tup, R.part_int, R.max_i, R.min_i, R.items_list, R.items_tup, R.tuple_list, R.tuple_tup, R.list_list, R.list_tup, R.len_list, R.len_tup, R.len_str, R.isa_tt, R.isa_tl, R.isa_ti, R.isa_tb, R.isa_ts, R.isa_tn, R.isa_ii, R.isa_ib, R.isa_is, R.isa_in, R.isa_il, R.isa_it, R.isa_bi, R.isa_bb, R.isa_bs, R.isa_bn, R.isa_bl, R.isa_bt, R.isa_ss, R.isa_si, R.isa_sb, R.isa_sn, R.isa_sl, R.isa_st, R.isa_ll, R.isa_lt, R.zip_tup, R.zip_list, R.enum_list, R.need_tt, R.rev_list, R.rev_tup, R.isb_eq, R.isntb_eq, Option.bind_some, if_true, if_false, Bool.false_eq_true, Bool.not_true, Bool.not_false, R.enum2_list, R.enum2_tup, R.cat_list, R.listRg_int, R.slice_str, R.strO_str, R.isB_bool, R.isNone_none, R.isNone_int, R.isNone_bool, R.isNone_str, R.isNone_tup, R.isNone_list, R.isn_eq, R.isntn_eq, R.extT, R.ext_list, R.mulL_int, R.draw0, R.draw1, R.draw2, R.orX, R.andX, h1, h2, Option.getD_none]
theorem ff_word {z : Str} {p : Bk} {rls : List Rule} (h : ∀ r ∈ rls, ruleOk r) : ffD z p rls = .none ∨ wordOk (ffD z p rls) := by
  unfold ffD
  cases e : ff z p rls with
  | none => exact .inl rfl
  | some v =>
    obtain ⟨r, hr, he⟩ := List.exists_of_findSome?_eq_some e
    unfold hit at he
    split at he
    · cases he; exact .inr (h r hr).2.2.2
    · cases he
theorem fi_word {d : PyData} (h : wordOk d) : Fi 0 4 d := by
  rcases h with ⟨i, rfl, h0, h1⟩ | ⟨z, rfl, hz⟩
  · exact Fi.int (by omega)
  · exact hz.fi (by omega)
theorem fi_bk {p : Bk} (h : p.1.natAbs < 1000000 ∧ p.2.natAbs < 1000000) : Fi 1 2 (blk p) := by
  refine Fi.tup (k := 0) (c := 0) (fun x hx => ?_) (by simp)
  simp only [List.mem_cons, List.not_mem_nil, or_false] at hx
  rcases hx with rfl | rfl <;> exact Fi.int (by omega)
theorem fi_rule {r : Rule} (h : ruleOk r) : Fi 2 84 (encR r) := by
  obtain ⟨h1, h2, h3, h4⟩ := h
  refine Fi.tup (k := 1) (c := 20) (fun x hx => ?_) (by simp)
  simp only [List.mem_cons, List.not_mem_nil, or_false] at hx
  rcases hx with rfl | rfl | rfl | rfl
  · exact h1.fi (by omega)
  · exact (fi_bk ⟨by omega, by omega⟩).mono (by omega) (by omega)
  · exact Fi.int (by omega)
  · exact (fi_word h4).mono (by omega) (by omega)
theorem fi_rules {rls : List Rule} (h : ∀ r ∈ rls, ruleOk r) (hl : rls.length ≤ 8) : Fi 3 680 (.tuple (rls.map encR)) := by
  refine Fi.tup (k := 2) (c := 84) (fun x hx => ?_) (by simp; omega)
  obtain ⟨r, hr, rfl⟩ := List.mem_map.mp hx
  exact fi_rule (h r hr)
theorem fi3 {l s : List Rule} {p : Bk} (h : ∀ r ∈ l, ruleOk r) (hl : l.length ≤ 8) (h' : ∀ r ∈ s, ruleOk r) (hl' : s.length ≤ 8) (hp : p.1.natAbs < 1000000 ∧ p.2.natAbs < 1000000) : Fi 4 3000 (.tuple [.tuple (l.map encR), .tuple (s.map encR), blk p]) := by
  refine Fi.tup (k := 3) (c := 680) (fun x hx => ?_) (by simp)
  simp only [List.mem_cons, List.not_mem_nil, or_false] at hx
  rcases hx with rfl | rfl | rfl
  · exact fi_rules h hl
  · exact fi_rules h' hl'
  · exact (fi_bk hp).mono (by omega) (by omega)
theorem fi2 {v : PyData} {n : Nat} (h : Fi 0 4 v) : Fi 1 10 (.list [v, v]) := by
  refine Fi.lst (k := 0) (c := 4) (fun x hx => ?_) (by simp)
  simp only [List.mem_cons, List.not_mem_nil, or_false, or_self] at hx
  subst hx; exact h
theorem bar_ok : PyData.strOk "bar" = true := by decide +kernel
theorem hide_ok : PyData.strOk "hide" = true := by decide +kernel
/-- what liking tells -/
def lik (d : PyData) : PyData := match d with
  | .none => .int 5
  | .str z => if (z == "bar") = true then .none else .str z
  | d => d
def tol (d : PyData) : Bool := match d with
  | .str z => !(z == "hide")
  | _ => true
theorem lik_eq {z : Str} {p : Bk} {rls : List Rule} (h : ∀ r ∈ rls, ruleOk r) : m_liking [.tuple (rls.map encR), .str z, blk p] = .ret (lik (ffD z p rls)) := by
  rw [e_liking]
  unfold b_liking
  simp -implicitDefEqProofs only [R.seq_eq, R.T.ret_bind, R.T.bind_assoc, R.T.stuck_bind, R.T.draw_bind, R.nxT_nx, R.nxT_ret, R.nxT_brk, R.nxT_ct, R.onT_nx, R.onT_ct, R.onT_brk, R.onT_ret, R.finT_ret, R.finT_nx, R.setT, R.retT, R.getv_0, R.getv_s, R.put_zero, R.put_succ, R.nth_zero, R.nth_succ, R.ifT, R.andT, R.orT, R.notT, R.bV, R.eq_int, R.ne_int, R.eq_str, R.ne_str, R.nox_ret, R.nox_draw, R.draw_eq, R.andV, R.orV, R.notV, R.iteT, R.chainT, R.lstT, R.tupT, R.par2T, R.par3T, R.asgO, R.asg_n, R.asg_t, R.asgs_nil, R.asgs_cons, R.turnT, R.appT, R.add_int, R.add_str, R.add_list, R.add_tup, R.sub_int, R.mul_int, R.fdiv_int, R.mod_int, R.neg_int, R.shr_int, R.shl_int, R.pow_int, R.lt_int, R.le_int, R.gt_int, R.ge_int, R.addI_int, R.tru_none, R.tru_bool, R.tru_int, R.tru_list, R.tru_tup, R.idx_t0, R.idx_t1, R.idx_t2, R.idx_t3, R.idx_l0, R.idx_l1, R.slice_list, R.slice_tup, R.part_int, R.max_i, R.min_i, R.items_list, R.items_tup, R.tuple_list, R.tuple_tup, R.list_list, R.list_tup, R.len_list, R.len_tup, R.len_str, R.isa_tt, R.isa_tl, R.isa_ti, R.isa_tb, R.isa_ts, R.isa_tn, R.isa_ii, R.isa_ib, R.isa_is, R.isa_in, R.isa_il, R.isa_it, R.isa_bi, R.isa_bb, R.isa_bs, R.isa_bn, R.isa_bl, R.isa_bt, R.isa_ss, R.isa_si, R.isa_sb, R.isa_sn, R.isa_sl, R.isa_st, R.isa_ll, R.isa_lt, R.zip_tup, R.zip_list, R.enum_list, R.need_tt, R.rev_list, R.rev_tup, R.isb_eq, R.isntb_eq, Option.bind_some, if_true, if_false, Bool.false_eq_true, Bool.not_true, Bool.not_false, R.enum2_list, R.enum2_tup, R.cat_list, R.listRg_int, R.slice_str, R.strO_str, R.isB_bool, R.isNone_none, R.isNone_int, R.isNone_bool, R.isNone_str, R.isNone_tup, R.isNone_list, R.isn_eq, R.isntn_eq, R.extT, R.ext_list, R.mulL_int, R.draw0, R.draw1, R.draw2, R.orX, R.andX, word_eq h]
  rcases ff_word (z := z) (p := p) h with e | ⟨i, e, _⟩ | ⟨y, e, _⟩ <;> rw [e] <;> unfold lik
  · simp -implicitDefEqProofs only [R.seq_eq, R.T.ret_bind, R.T.bind_assoc, R.T.stuck_bind, R.T.draw_bind, R.nxT_nx, R.nxT_ret, R.nxT_brk, R.nxT_ct, R.onT_nx, R.onT_ct, R.onT_brk, R.onT_ret, R.finT_ret, R.finT_nx, R.setT, R.retT, R.getv_0, R.getv_s, R.put_zero, R.put_succ, R.nth_zero, R.nth_succ, R.ifT, R.andT, R.orT, R.notT, R.bV, R.eq_int, R.ne_int, R.eq_str, R.ne_str, R.nox_ret, R.nox_draw, R.draw_eq, R.andV, R.orV, R.notV, R.iteT, R.chainT, R.lstT, R.tupT, R.par2T, R.par3T, R.asgO, R.asg_n, R.asg_t, R.asgs_nil, R.asgs_cons, R.turnT, R.appT, R.add_int, R.add_str, R.add_list, R.add_tup, R.sub_int, R.mul_int, R.fdiv_int, R.mod_int, R.neg_int, R.shr_int, R.shl_int, R.pow_int, R.lt_int, R.le_int, R.gt_int, R.ge_int, R.addI_int, R.tru_none, R.tru_bool, R.tru_int, R.tru_list, R.tru_tup, R.idx_t0, R.idx_t1, R.idx_t2, R.idx_t3, R.idx_l0, R.idx_l1, R.slice_list, R.slice_tup, R.part_int, R.max_i, R.min_i, R.items_list, R.items_tup, R.tuple_list, R.tuple_tup, R.list_list, R.list_tup, R.len_list, R.len_tup, R.len_str, R.isa_tt, R.isa_tl, R.isa_ti, R.isa_tb, R.isa_ts, R.isa_tn, R.isa_ii, R.isa_ib, R.isa_is, R.isa_in, R.isa_il, R.isa_it, R.isa_bi, R.isa_bb, R.isa_bs, R.isa_bn, R.isa_bl, R.isa_bt, R.isa_ss, R.isa_si, R.isa_sb, R.isa_sn, R.isa_sl, R.isa_st, R.isa_ll, R.isa_lt, R.zip_tup, R.zip_list, R.enum_list, R.need_tt, R.rev_list, R.rev_tup, R.isb_eq, R.isntb_eq, Option.bind_some, if_true, if_false, Bool.false_eq_true, Bool.not_true, Bool.not_false, R.enum2_list, R.enum2_tup, R.cat_list, R.listRg_int, R.slice_str, R.strO_str, R.isB_bool, R.isNone_none, R.isNone_int, R.isNone_bool, R.isNone_str, R.isNone_tup, R.isNone_list, R.isn_eq, R.isntn_eq, R.extT, R.ext_list, R.mulL_int, R.draw0, R.draw1, R.draw2, R.orX, R.andX]
  · simp -implicitDefEqProofs only [R.seq_eq, R.T.ret_bind, R.T.bind_assoc, R.T.stuck_bind, R.T.draw_bind, R.nxT_nx, R.nxT_ret, R.nxT_brk, R.nxT_ct, R.onT_nx, R.onT_ct, R.onT_brk, R.onT_ret, R.finT_ret, R.finT_nx, R.setT, R.retT, R.getv_0, R.getv_s, R.put_zero, R.put_succ, R.nth_zero, R.nth_succ, R.ifT, R.andT, R.orT, R.notT, R.bV, R.eq_int, R.ne_int, R.eq_str, R.ne_str, R.nox_ret, R.nox_draw, R.draw_eq, R.andV, R.orV, R.notV, R.iteT, R.chainT, R.lstT, R.tupT, R.par2T, R.par3T, R.asgO, R.asg_n, R.asg_t, R.asgs_nil, R.asgs_cons, R.turnT, R.appT, R.add_int, R.add_str, R.add_list, R.add_tup, R.sub_int, R.mul_int, R.fdiv_int, R.mod_int, R.neg_int, R.shr_int, R.shl_int, R.pow_int, R.lt_int, R.le_int, R.gt_int, R.ge_int, R.addI_int, R.tru_none, R.tru_bool, R.tru_int, R.tru_list, R.tru_tup, R.idx_t0, R.idx_t1, R.idx_t2, R.idx_t3, R.idx_l0, R.idx_l1, R.slice_list, R.slice_tup, R.part_int, R.max_i, R.min_i, R.items_list, R.items_tup, R.tuple_list, R.tuple_tup, R.list_list, R.list_tup, R.len_list, R.len_tup, R.len_str, R.isa_tt, R.isa_tl, R.isa_ti, R.isa_tb, R.isa_ts, R.isa_tn, R.isa_ii, R.isa_ib, R.isa_is, R.isa_in, R.isa_il, R.isa_it, R.isa_bi, R.isa_bb, R.isa_bs, R.isa_bn, R.isa_bl, R.isa_bt, R.isa_ss, R.isa_si, R.isa_sb, R.isa_sn, R.isa_sl, R.isa_st, R.isa_ll, R.isa_lt, R.zip_tup, R.zip_list, R.enum_list, R.need_tt, R.rev_list, R.rev_tup, R.isb_eq, R.isntb_eq, Option.bind_some, if_true, if_false, Bool.false_eq_true, Bool.not_true, Bool.not_false, R.enum2_list, R.enum2_tup, R.cat_list, R.listRg_int, R.slice_str, R.strO_str, R.isB_bool, R.isNone_none, R.isNone_int, R.isNone_bool, R.isNone_str, R.isNone_tup, R.isNone_list, R.isn_eq, R.isntn_eq, R.extT, R.ext_list, R.mulL_int, R.draw0, R.draw1, R.draw2, R.orX, R.andX, eq_is bar_ok]
  · simp -implicitDefEqProofs only [R.seq_eq, R.T.ret_bind, R.T.bind_assoc, R.T.stuck_bind, R.T.draw_bind, R.nxT_nx, R.nxT_ret, R.nxT_brk, R.nxT_ct, R.onT_nx, R.onT_ct, R.onT_brk, R.onT_ret, R.finT_ret, R.finT_nx, R.setT, R.retT, R.getv_0, R.getv_s, R.put_zero, R.put_succ, R.nth_zero, R.nth_succ, R.ifT, R.andT, R.orT, R.notT, R.bV, R.eq_int, R.ne_int, R.eq_str, R.ne_str, R.nox_ret, R.nox_draw, R.draw_eq, R.andV, R.orV, R.notV, R.iteT, R.chainT, R.lstT, R.tupT, R.par2T, R.par3T, R.asgO, R.asg_n, R.asg_t, R.asgs_nil, R.asgs_cons, R.turnT, R.appT, R.add_int, R.add_str, R.add_list, R.add_tup, R.sub_int, R.mul_int, R.fdiv_int, R.mod_int, R.neg_int, R.shr_int, R.shl_int, R.pow_int, R.lt_int, R.le_int, R.gt_int, R.ge_int, R.addI_int, R.tru_none, R.tru_bool, R.tru_int, R.tru_list, R.tru_tup, R.idx_t0, R.idx_t1, R.idx_t2, R.idx_t3, R.idx_l0, R.idx_l1, R.slice_list, R.slice_tup, R.part_int, R.max_i, R.min_i, R.items_list, R.items_tup, R.tuple_list, R.tuple_tup, R.list_list, R.list_tup, R.len_list, R.len_tup, R.len_str, R.isa_tt, R.isa_tl, R.isa_ti, R.isa_tb, R.isa_ts, R.isa_tn, R.isa_ii, R.isa_ib, R.isa_is, R.isa_in, R.isa_il, R.isa_it, R.isa_bi, R.isa_bb, R.isa_bs, R.isa_bn, R.isa_bl, R.isa_bt, R.isa_ss, R.isa_si, R.isa_sb, R.isa_sn, R.isa_sl, R.isa_st, R.isa_ll, R.isa_lt, R.zip_tup, R.zip_list, R.enum_list, R.need_tt, R.rev_list, R.rev_tup, R.isb_eq, R.isntb_eq, Option.bind_some, if_true, if_false, Bool.false_eq_true, Bool.not_true, Bool.not_false, R.enum2_list, R.enum2_tup, R.cat_list, R.listRg_int, R.slice_str, R.strO_str, R.isB_bool, R.isNone_none, R.isNone_int, R.isNone_bool, R.isNone_str, R.isNone_tup, R.isNone_list, R.isn_eq, R.isntn_eq, R.extT, R.ext_list, R.mulL_int, R.draw0, R.draw1, R.draw2, R.orX, R.andX]
    cases y == "bar" <;> simp -implicitDefEqProofs only [R.seq_eq, R.T.ret_bind, R.T.bind_assoc, R.T.stuck_bind, R.T.draw_bind, R.nxT_nx, R.nxT_ret, R.nxT_brk, R.nxT_ct, R.onT_nx, R.onT_ct, R.onT_brk, R.onT_ret, R.finT_ret, R.finT_nx, R.setT, R.retT, R.getv_0, R.getv_s, R.put_zero, R.put_succ, R.nth_zero, R.nth_succ, R.ifT, R.andT, R.orT, R.notT, R.bV, R.eq_int, R.ne_int, R.eq_str, R.ne_str, R.nox_ret, R.nox_draw, R.draw_eq, R.andV, R.orV, R.notV, R.iteT, R.chainT, R.lstT, R.tupT, R.par2T, R.par3T, R.asgO, R.asg_n, R.asg_t, R.asgs_nil, R.asgs_cons, R.turnT, R.appT, R.add_int, R.add_str, R.add_list, R.add_tup, R.sub_int, R.mul_int, R.fdiv_int, R.mod_int, R.neg_int, R.shr_int, R.shl_int, R.pow_int, R.lt_int, R.le_int, R.gt_int, R.ge_int, R.addI_int, R.tru_none, R.tru_bool, R.tru_int, R.tru_list, R.tru_tup, R.idx_t0, R.idx_t1, R.idx_t2, R.idx_t3, R.idx_l0, R.idx_l1, R.slice_list, R.slice_tup, R.part_int, R.max_i, R.min_i, R.items_list, R.items_tup, R.tuple_list, R.tuple_tup, R.list_list, R.list_tup, R.len_list, R.len_tup, R.len_str, R.isa_tt, R.isa_tl, R.isa_ti, R.isa_tb, R.isa_ts, R.isa_tn, R.isa_ii, R.isa_ib, R.isa_is, R.isa_in, R.isa_il, R.isa_it, R.isa_bi, R.isa_bb, R.isa_bs, R.isa_bn, R.isa_bl, R.isa_bt, R.isa_ss, R.isa_si, R.isa_sb, R.isa_sn, R.isa_sl, R.isa_st, R.isa_ll, R.isa_lt, R.zip_tup, R.zip_list, R.enum_list, R.need_tt, R.rev_list, R.rev_tup, R.isb_eq, R.isntb_eq, Option.bind_some, if_true, if_false, Bool.false_eq_true, Bool.not_true, Bool.not_false, R.enum2_list, R.enum2_tup, R.cat_list, R.listRg_int, R.slice_str, R.strO_str, R.isB_bool, R.isNone_none, R.isNone_int, R.isNone_bool, R.isNone_str, R.isNone_tup, R.isNone_list, R.isn_eq, R.isntn_eq, R.extT, R.ext_list, R.mulL_int, R.draw0, R.draw1, R.draw2, R.orX, R.andX]
theorem told_eq {z : Str} {p : Bk} {rls : List Rule} (h : ∀ r ∈ rls, ruleOk r) : m_is_told [.tuple (rls.map encR), .str z, blk p] = .ret (.bool (tol (ffD z p rls))) := by
  rw [e_is_told]
  unfold b_is_told
  simp -implicitDefEqProofs only [R.seq_eq, R.T.ret_bind, R.T.bind_assoc, R.T.stuck_bind, R.T.draw_bind, R.nxT_nx, R.nxT_ret, R.nxT_brk, R.nxT_ct, R.onT_nx, R.onT_ct, R.onT_brk, R.onT_ret, R.finT_ret, R.finT_nx, R.setT, R.retT, R.getv_0, R.getv_s, R.put_zero, R.put_succ, R.nth_zero, R.nth_succ, R.ifT, R.andT, R.orT, R.notT, R.bV, R.eq_int, R.ne_int, R.eq_str, R.ne_str, R.nox_ret, R.nox_draw, R.draw_eq, R.andV, R.orV, R.notV, R.iteT, R.chainT, R.lstT, R.tupT, R.par2T, R.par3T, R.asgO, R.asg_n, R.asg_t, R.asgs_nil, R.asgs_cons, R.turnT, R.appT, R.add_int, R.add_str, R.add_list, R.add_tup, R.sub_int, R.mul_int, R.fdiv_int, R.mod_int, R.neg_int, R.shr_int, R.shl_int, R.pow_int, R.lt_int, R.le_int, R.gt_int, R.ge_int, R.addI_int, R.tru_none, R.tru_bool, R.tru_int, R.tru_list, R.tru_tup, R.idx_t0, R.idx_t1, R.idx_t2, R.idx_t3, R.idx_l0, R.idx_l1, R.slice_list, R.slice_tup, R.part_int, R.max_i, R.min_i, R.items_list, R.items_tup, R.tuple_list, R.tuple_tup, R.list_list, R.list_tup, R.len_list, R.len_tup, R.len_str, R.isa_tt, R.isa_tl, R.isa_ti, R.isa_tb, R.isa_ts, R.isa_tn, R.isa_ii, R.isa_ib, R.isa_is, R.isa_in, R.isa_il, R.isa_it, R.isa_bi, R.isa_bb, R.isa_bs, R.isa_bn, R.isa_bl, R.isa_bt, R.isa_ss, R.isa_si, R.isa_sb, R.isa_sn, R.isa_sl, R.isa_st, R.isa_ll, R.isa_lt, R.zip_tup, R.zip_list, R.enum_list, R.need_tt, R.rev_list, R.rev_tup, R.isb_eq, R.isntb_eq, Option.bind_some, if_true, if_false, Bool.false_eq_true, Bool.not_true, Bool.not_false, R.enum2_list, R.enum2_tup, R.cat_list, R.listRg_int, R.slice_str, R.strO_str, R.isB_bool, R.isNone_none, R.isNone_int, R.isNone_bool, R.isNone_str, R.isNone_tup, R.isNone_list, R.isn_eq, R.isntn_eq, R.extT, R.ext_list, R.mulL_int, R.draw0, R.draw1, R.draw2, R.orX, R.andX, word_eq h]
  rcases ff_word (z := z) (p := p) h with e | ⟨i, e, _⟩ | ⟨y, e, _⟩ <;> rw [e] <;> unfold tol
  · simp -implicitDefEqProofs only [R.seq_eq, R.T.ret_bind, R.T.bind_assoc, R.T.stuck_bind, R.T.draw_bind, R.nxT_nx, R.nxT_ret, R.nxT_brk, R.nxT_ct, R.onT_nx, R.onT_ct, R.onT_brk, R.onT_ret, R.finT_ret, R.finT_nx, R.setT, R.retT, R.getv_0, R.getv_s, R.put_zero, R.put_succ, R.nth_zero, R.nth_succ, R.ifT, R.andT, R.orT, R.notT, R.bV, R.eq_int, R.ne_int, R.eq_str, R.ne_str, R.nox_ret, R.nox_draw, R.draw_eq, R.andV, R.orV, R.notV, R.iteT, R.chainT, R.lstT, R.tupT, R.par2T, R.par3T, R.asgO, R.asg_n, R.asg_t, R.asgs_nil, R.asgs_cons, R.turnT, R.appT, R.add_int, R.add_str, R.add_list, R.add_tup, R.sub_int, R.mul_int, R.fdiv_int, R.mod_int, R.neg_int, R.shr_int, R.shl_int, R.pow_int, R.lt_int, R.le_int, R.gt_int, R.ge_int, R.addI_int, R.tru_none, R.tru_bool, R.tru_int, R.tru_list, R.tru_tup, R.idx_t0, R.idx_t1, R.idx_t2, R.idx_t3, R.idx_l0, R.idx_l1, R.slice_list, R.slice_tup, R.part_int, R.max_i, R.min_i, R.items_list, R.items_tup, R.tuple_list, R.tuple_tup, R.list_list, R.list_tup, R.len_list, R.len_tup, R.len_str, R.isa_tt, R.isa_tl, R.isa_ti, R.isa_tb, R.isa_ts, R.isa_tn, R.isa_ii, R.isa_ib, R.isa_is, R.isa_in, R.isa_il, R.isa_it, R.isa_bi, R.isa_bb, R.isa_bs, R.isa_bn, R.isa_bl, R.isa_bt, R.isa_ss, R.isa_si, R.isa_sb, R.isa_sn, R.isa_sl, R.isa_st, R.isa_ll, R.isa_lt, R.zip_tup, R.zip_list, R.enum_list, R.need_tt, R.rev_list, R.rev_tup, R.isb_eq, R.isntb_eq, Option.bind_some, if_true, if_false, Bool.false_eq_true, Bool.not_true, Bool.not_false, R.enum2_list, R.enum2_tup, R.cat_list, R.listRg_int, R.slice_str, R.strO_str, R.isB_bool, R.isNone_none, R.isNone_int, R.isNone_bool, R.isNone_str, R.isNone_tup, R.isNone_list, R.isn_eq, R.isntn_eq, R.extT, R.ext_list, R.mulL_int, R.draw0, R.draw1, R.draw2, R.orX, R.andX, ne_ns hide_ok]
  · simp -implicitDefEqProofs only [R.seq_eq, R.T.ret_bind, R.T.bind_assoc, R.T.stuck_bind, R.T.draw_bind, R.nxT_nx, R.nxT_ret, R.nxT_brk, R.nxT_ct, R.onT_nx, R.onT_ct, R.onT_brk, R.onT_ret, R.finT_ret, R.finT_nx, R.setT, R.retT, R.getv_0, R.getv_s, R.put_zero, R.put_succ, R.nth_zero, R.nth_succ, R.ifT, R.andT, R.orT, R.notT, R.bV, R.eq_int, R.ne_int, R.eq_str, R.ne_str, R.nox_ret, R.nox_draw, R.draw_eq, R.andV, R.orV, R.notV, R.iteT, R.chainT, R.lstT, R.tupT, R.par2T, R.par3T, R.asgO, R.asg_n, R.asg_t, R.asgs_nil, R.asgs_cons, R.turnT, R.appT, R.add_int, R.add_str, R.add_list, R.add_tup, R.sub_int, R.mul_int, R.fdiv_int, R.mod_int, R.neg_int, R.shr_int, R.shl_int, R.pow_int, R.lt_int, R.le_int, R.gt_int, R.ge_int, R.addI_int, R.tru_none, R.tru_bool, R.tru_int, R.tru_list, R.tru_tup, R.idx_t0, R.idx_t1, R.idx_t2, R.idx_t3, R.idx_l0, R.idx_l1, R.slice_list, R.slice_tup, R.part_int, R.max_i, R.min_i, R.items_list, R.items_tup, R.tuple_list, R.tuple_tup, R.list_list, R.list_tup, R.len_list, R.len_tup, R.len_str, R.isa_tt, R.isa_tl, R.isa_ti, R.isa_tb, R.isa_ts, R.isa_tn, R.isa_ii, R.isa_ib, R.isa_is, R.isa_in, R.isa_il, R.isa_it, R.isa_bi, R.isa_bb, R.isa_bs, R.isa_bn, R.isa_bl, R.isa_bt, R.isa_ss, R.isa_si, R.isa_sb, R.isa_sn, R.isa_sl, R.isa_st, R.isa_ll, R.isa_lt, R.zip_tup, R.zip_list, R.enum_list, R.need_tt, R.rev_list, R.rev_tup, R.isb_eq, R.isntb_eq, Option.bind_some, if_true, if_false, Bool.false_eq_true, Bool.not_true, Bool.not_false, R.enum2_list, R.enum2_tup, R.cat_list, R.listRg_int, R.slice_str, R.strO_str, R.isB_bool, R.isNone_none, R.isNone_int, R.isNone_bool, R.isNone_str, R.isNone_tup, R.isNone_list, R.isn_eq, R.isntn_eq, R.extT, R.ext_list, R.mulL_int, R.draw0, R.draw1, R.draw2, R.orX, R.andX, ne_is hide_ok]
  · simp -implicitDefEqProofs only [R.seq_eq, R.T.ret_bind, R.T.bind_assoc, R.T.stuck_bind, R.T.draw_bind, R.nxT_nx, R.nxT_ret, R.nxT_brk, R.nxT_ct, R.onT_nx, R.onT_ct, R.onT_brk, R.onT_ret, R.finT_ret, R.finT_nx, R.setT, R.retT, R.getv_0, R.getv_s, R.put_zero, R.put_succ, R.nth_zero, R.nth_succ, R.ifT, R.andT, R.orT, R.notT, R.bV, R.eq_int, R.ne_int, R.eq_str, R.ne_str, R.nox_ret, R.nox_draw, R.draw_eq, R.andV, R.orV, R.notV, R.iteT, R.chainT, R.lstT, R.tupT, R.par2T, R.par3T, R.asgO, R.asg_n, R.asg_t, R.asgs_nil, R.asgs_cons, R.turnT, R.appT, R.add_int, R.add_str, R.add_list, R.add_tup, R.sub_int, R.mul_int, R.fdiv_int, R.mod_int, R.neg_int, R.shr_int, R.shl_int, R.pow_int, R.lt_int, R.le_int, R.gt_int, R.ge_int, R.addI_int, R.tru_none, R.tru_bool, R.tru_int, R.tru_list, R.tru_tup, R.idx_t0, R.idx_t1, R.idx_t2, R.idx_t3, R.idx_l0, R.idx_l1, R.slice_list, R.slice_tup, R.part_int, R.max_i, R.min_i, R.items_list, R.items_tup, R.tuple_list, R.tuple_tup, R.list_list, R.list_tup, R.len_list, R.len_tup, R.len_str, R.isa_tt, R.isa_tl, R.isa_ti, R.isa_tb, R.isa_ts, R.isa_tn, R.isa_ii, R.isa_ib, R.isa_is, R.isa_in, R.isa_il, R.isa_it, R.isa_bi, R.isa_bb, R.isa_bs, R.isa_bn, R.isa_bl, R.isa_bt, R.isa_ss, R.isa_si, R.isa_sb, R.isa_sn, R.isa_sl, R.isa_st, R.isa_ll, R.isa_lt, R.zip_tup, R.zip_list, R.enum_list, R.need_tt, R.rev_list, R.rev_tup, R.isb_eq, R.isntb_eq, Option.bind_some, if_true, if_false, Bool.false_eq_true, Bool.not_true, Bool.not_false, R.enum2_list, R.enum2_tup, R.cat_list, R.listRg_int, R.slice_str, R.strO_str, R.isB_bool, R.isNone_none, R.isNone_int, R.isNone_bool, R.isNone_str, R.isNone_tup, R.isNone_list, R.isn_eq, R.isntn_eq, R.extT, R.ext_list, R.mulL_int, R.draw0, R.draw1, R.draw2, R.orX, R.andX]
theorem right_eq {z : Str} {p : Bk} {l s : List Rule} (h : ∀ r ∈ l, ruleOk r) (hl : l.length ≤ 8) (h' : ∀ r ∈ s, ruleOk r) (hl' : s.length ≤ 8) (hp : p.1.natAbs < 1000000 ∧ p.2.natAbs < 1000000) : m__law_right [.tuple (l.map encR), .tuple (s.map encR), .str z, blk p] = .ret (.bool true) := by
  have pk1 : ∀ a b c : PyData, pick [2, 1, 0] [a, b, c] = [c, b, a] := fun _ _ _ => rfl
  have pk2 : ∀ a b c : PyData, pick [2, 0, 1] [a, b, c] = [c, a, b] := fun _ _ _ => rfl
  have fb : ∀ b : Bool, reprD (.list [.bool b, .bool b]) = .ret (.str (PyData.shown (.list [.bool b, .bool b]))) := fun b => (fi2 (n := 0) (v := .bool b) Fi.bool).repr (by omega) (by omega)
  have R3 := (fi3 h hl h' hl' hp).repr (by omega) (by omega)
  have TH : neT (ffD z p s) (.str "hide") = .ret (tol (ffD z p s)) := by
    rcases ff_word (z := z) (p := p) h' with e | ⟨i, e, _⟩ | ⟨y, e, _⟩ <;> rw [e] <;> unfold tol
    · simp -implicitDefEqProofs only [R.seq_eq, R.T.ret_bind, R.T.bind_assoc, R.T.stuck_bind, R.T.draw_bind, R.nxT_nx, R.nxT_ret, R.nxT_brk, R.nxT_ct, R.onT_nx, R.onT_ct, R.onT_brk, R.onT_ret, R.finT_ret, R.finT_nx, R.setT, R.retT, R.getv_0, R.getv_s, R.put_zero, R.put_succ, R.nth_zero, R.nth_succ, R.ifT, R.andT, R.orT, R.notT, R.bV, R.eq_int, R.ne_int, R.eq_str, R.ne_str, R.nox_ret, R.nox_draw, R.draw_eq, R.andV, R.orV, R.notV, R.iteT, R.chainT, R.lstT, R.tupT, R.par2T, R.par3T, R.asgO, R.asg_n, R.asg_t, R.asgs_nil, R.asgs_cons, R.turnT, R.appT, R.add_int, R.add_str, R.add_list, R.add_tup, R.sub_int, R.mul_int, R.fdiv_int, R.mod_int, R.neg_int, R.shr_int, R.shl_int, R.pow_int, R.lt_int, R.le_int, R.gt_int, R.ge_int, R.addI_int, R.tru_none, R.tru_bool, R.tru_int, R.tru_list, R.tru_tup, R.idx_t0, R.idx_t1, R.idx_t2, R.idx_t3, R.idx_l0, R.idx_l1, R.slice_list, R.slice_tup, R.part_int, R.max_i, R.min_i, R.items_list, R.items_tup, R.tuple_list, R.tuple_tup, R.list_list, R.list_tup, R.len_list, R.len_tup, R.len_str, R.isa_tt, R.isa_tl, R.isa_ti, R.isa_tb, R.isa_ts, R.isa_tn, R.isa_ii, R.isa_ib, R.isa_is, R.isa_in, R.isa_il, R.isa_it, R.isa_bi, R.isa_bb, R.isa_bs, R.isa_bn, R.isa_bl, R.isa_bt, R.isa_ss, R.isa_si, R.isa_sb, R.isa_sn, R.isa_sl, R.isa_st, R.isa_ll, R.isa_lt, R.zip_tup, R.zip_list, R.enum_list, R.need_tt, R.rev_list, R.rev_tup, R.isb_eq, R.isntb_eq, Option.bind_some, if_true, if_false, Bool.false_eq_true, Bool.not_true, Bool.not_false, R.enum2_list, R.enum2_tup, R.cat_list, R.listRg_int, R.slice_str, R.strO_str, R.isB_bool, R.isNone_none, R.isNone_int, R.isNone_bool, R.isNone_str, R.isNone_tup, R.isNone_list, R.isn_eq, R.isntn_eq, R.extT, R.ext_list, R.mulL_int, R.draw0, R.draw1, R.draw2, R.orX, R.andX, ne_ns hide_ok]
    · simp -implicitDefEqProofs only [R.seq_eq, R.T.ret_bind, R.T.bind_assoc, R.T.stuck_bind, R.T.draw_bind, R.nxT_nx, R.nxT_ret, R.nxT_brk, R.nxT_ct, R.onT_nx, R.onT_ct, R.onT_brk, R.onT_ret, R.finT_ret, R.finT_nx, R.setT, R.retT, R.getv_0, R.getv_s, R.put_zero, R.put_succ, R.nth_zero, R.nth_succ, R.ifT, R.andT, R.orT, R.notT, R.bV, R.eq_int, R.ne_int, R.eq_str, R.ne_str, R.nox_ret, R.nox_draw, R.draw_eq, R.andV, R.orV, R.notV, R.iteT, R.chainT, R.lstT, R.tupT, R.par2T, R.par3T, R.asgO, R.asg_n, R.asg_t, R.asgs_nil, R.asgs_cons, R.turnT, R.appT, R.add_int, R.add_str, R.add_list, R.add_tup, R.sub_int, R.mul_int, R.fdiv_int, R.mod_int, R.neg_int, R.shr_int, R.shl_int, R.pow_int, R.lt_int, R.le_int, R.gt_int, R.ge_int, R.addI_int, R.tru_none, R.tru_bool, R.tru_int, R.tru_list, R.tru_tup, R.idx_t0, R.idx_t1, R.idx_t2, R.idx_t3, R.idx_l0, R.idx_l1, R.slice_list, R.slice_tup, R.part_int, R.max_i, R.min_i, R.items_list, R.items_tup, R.tuple_list, R.tuple_tup, R.list_list, R.list_tup, R.len_list, R.len_tup, R.len_str, R.isa_tt, R.isa_tl, R.isa_ti, R.isa_tb, R.isa_ts, R.isa_tn, R.isa_ii, R.isa_ib, R.isa_is, R.isa_in, R.isa_il, R.isa_it, R.isa_bi, R.isa_bb, R.isa_bs, R.isa_bn, R.isa_bl, R.isa_bt, R.isa_ss, R.isa_si, R.isa_sb, R.isa_sn, R.isa_sl, R.isa_st, R.isa_ll, R.isa_lt, R.zip_tup, R.zip_list, R.enum_list, R.need_tt, R.rev_list, R.rev_tup, R.isb_eq, R.isntb_eq, Option.bind_some, if_true, if_false, Bool.false_eq_true, Bool.not_true, Bool.not_false, R.enum2_list, R.enum2_tup, R.cat_list, R.listRg_int, R.slice_str, R.strO_str, R.isB_bool, R.isNone_none, R.isNone_int, R.isNone_bool, R.isNone_str, R.isNone_tup, R.isNone_list, R.isn_eq, R.isntn_eq, R.extT, R.ext_list, R.mulL_int, R.draw0, R.draw1, R.draw2, R.orX, R.andX, ne_is hide_ok]
    · simp -implicitDefEqProofs only [R.seq_eq, R.T.ret_bind, R.T.bind_assoc, R.T.stuck_bind, R.T.draw_bind, R.nxT_nx, R.nxT_ret, R.nxT_brk, R.nxT_ct, R.onT_nx, R.onT_ct, R.onT_brk, R.onT_ret, R.finT_ret, R.finT_nx, R.setT, R.retT, R.getv_0, R.getv_s, R.put_zero, R.put_succ, R.nth_zero, R.nth_succ, R.ifT, R.andT, R.orT, R.notT, R.bV, R.eq_int, R.ne_int, R.eq_str, R.ne_str, R.nox_ret, R.nox_draw, R.draw_eq, R.andV, R.orV, R.notV, R.iteT, R.chainT, R.lstT, R.tupT, R.par2T, R.par3T, R.asgO, R.asg_n, R.asg_t, R.asgs_nil, R.asgs_cons, R.turnT, R.appT, R.add_int, R.add_str, R.add_list, R.add_tup, R.sub_int, R.mul_int, R.fdiv_int, R.mod_int, R.neg_int, R.shr_int, R.shl_int, R.pow_int, R.lt_int, R.le_int, R.gt_int, R.ge_int, R.addI_int, R.tru_none, R.tru_bool, R.tru_int, R.tru_list, R.tru_tup, R.idx_t0, R.idx_t1, R.idx_t2, R.idx_t3, R.idx_l0, R.idx_l1, R.slice_list, R.slice_tup, R.part_int, R.max_i, R.min_i, R.items_list, R.items_tup, R.tuple_list, R.tuple_tup, R.list_list, R.list_tup, R.len_list, R.len_tup, R.len_str, R.isa_tt, R.isa_tl, R.isa_ti, R.isa_tb, R.isa_ts, R.isa_tn, R.isa_ii, R.isa_ib, R.isa_is, R.isa_in, R.isa_il, R.isa_it, R.isa_bi, R.isa_bb, R.isa_bs, R.isa_bn, R.isa_bl, R.isa_bt, R.isa_ss, R.isa_si, R.isa_sb, R.isa_sn, R.isa_sl, R.isa_st, R.isa_ll, R.isa_lt, R.zip_tup, R.zip_list, R.enum_list, R.need_tt, R.rev_list, R.rev_tup, R.isb_eq, R.isntb_eq, Option.bind_some, if_true, if_false, Bool.false_eq_true, Bool.not_true, Bool.not_false, R.enum2_list, R.enum2_tup, R.cat_list, R.listRg_int, R.slice_str, R.strO_str, R.isB_bool, R.isNone_none, R.isNone_int, R.isNone_bool, R.isNone_str, R.isNone_tup, R.isNone_list, R.isn_eq, R.isntn_eq, R.extT, R.ext_list, R.mulL_int, R.draw0, R.draw1, R.draw2, R.orX, R.andX]
  have fl : Fi 0 4 (lik (ffD z p l)) := by
    rcases ff_word (z := z) (p := p) h with e | ⟨i, e, i0, i1⟩ | ⟨y, e, hy⟩ <;> rw [e] <;> unfold lik
    · exact Fi.int (by decide)
    · exact Fi.int (by omega)
    · show Fi 0 4 (if (y == "bar") = true then .none else .str y)
      split
      · exact Fi.none
      · exact hy.fi (by omega)
  have rl := (fi2 (n := 0) fl).repr (by omega) (by omega)
  have D : (if isNone (ffD z p l) = true then T.ret (.int 5) else (eqT (ffD z p l) (.str "bar") >>= fun k => if k = true then T.ret .none else T.ret (ffD z p l))) = T.ret (lik (ffD z p l)) := by
    rcases ff_word (z := z) (p := p) h with e | ⟨i, e, _⟩ | ⟨y, e, _⟩ <;> rw [e] <;> unfold lik
    · simp -implicitDefEqProofs only [R.seq_eq, R.T.ret_bind, R.T.bind_assoc, R.T.stuck_bind, R.T.draw_bind, R.nxT_nx, R.nxT_ret, R.nxT_brk, R.nxT_ct, R.onT_nx, R.onT_ct, R.onT_brk, R.onT_ret, R.finT_ret, R.finT_nx, R.setT, R.retT, R.getv_0, R.getv_s, R.put_zero, R.put_succ, R.nth_zero, R.nth_succ, R.ifT, R.andT, R.orT, R.notT, R.bV, R.eq_int, R.ne_int, R.eq_str, R.ne_str, R.nox_ret, R.nox_draw, R.draw_eq, R.andV, R.orV, R.notV, R.iteT, R.chainT, R.lstT, R.tupT, R.par2T, R.par3T, R.asgO, R.asg_n, R.asg_t, R.asgs_nil, R.asgs_cons, R.turnT, R.appT, R.add_int, R.add_str, R.add_list, R.add_tup, R.sub_int, R.mul_int, R.fdiv_int, R.mod_int, R.neg_int, R.shr_int, R.shl_int, R.pow_int, R.lt_int, R.le_int, R.gt_int, R.ge_int, R.addI_int, R.tru_none, R.tru_bool, R.tru_int, R.tru_list, R.tru_tup, R.idx_t0, R.idx_t1, R.idx_t2, R.idx_t3, R.idx_l0, R.idx_l1, R.slice_list, R.slice_tup, R.part_int, R.max_i, R.min_i, R.items_list, R.items_tup, R.tuple_list, R.tuple_tup, R.list_list, R.list_tup, R.len_list, R.len_tup, R.len_str, R.isa_tt, R.isa_tl, R.isa_ti, R.isa_tb, R.isa_ts, R.isa_tn, R.isa_ii, R.isa_ib, R.isa_is, R.isa_in, R.isa_il, R.isa_it, R.isa_bi, R.isa_bb, R.isa_bs, R.isa_bn, R.isa_bl, R.isa_bt, R.isa_ss, R.isa_si, R.isa_sb, R.isa_sn, R.isa_sl, R.isa_st, R.isa_ll, R.isa_lt, R.zip_tup, R.zip_list, R.enum_list, R.need_tt, R.rev_list, R.rev_tup, R.isb_eq, R.isntb_eq, Option.bind_some, if_true, if_false, Bool.false_eq_true, Bool.not_true, Bool.not_false, R.enum2_list, R.enum2_tup, R.cat_list, R.listRg_int, R.slice_str, R.strO_str, R.isB_bool, R.isNone_none, R.isNone_int, R.isNone_bool, R.isNone_str, R.isNone_tup, R.isNone_list, R.isn_eq, R.isntn_eq, R.extT, R.ext_list, R.mulL_int, R.draw0, R.draw1, R.draw2, R.orX, R.andX]
    · simp -implicitDefEqProofs only [R.seq_eq, R.T.ret_bind, R.T.bind_assoc, R.T.stuck_bind, R.T.draw_bind, R.nxT_nx, R.nxT_ret, R.nxT_brk, R.nxT_ct, R.onT_nx, R.onT_ct, R.onT_brk, R.onT_ret, R.finT_ret, R.finT_nx, R.setT, R.retT, R.getv_0, R.getv_s, R.put_zero, R.put_succ, R.nth_zero, R.nth_succ, R.ifT, R.andT, R.orT, R.notT, R.bV, R.eq_int, R.ne_int, R.eq_str, R.ne_str, R.nox_ret, R.nox_draw, R.draw_eq, R.andV, R.orV, R.notV, R.iteT, R.chainT, R.lstT, R.tupT, R.par2T, R.par3T, R.asgO, R.asg_n, R.asg_t, R.asgs_nil, R.asgs_cons, R.turnT, R.appT, R.add_int, R.add_str, R.add_list, R.add_tup, R.sub_int, R.mul_int, R.fdiv_int, R.mod_int, R.neg_int, R.shr_int, R.shl_int, R.pow_int, R.lt_int, R.le_int, R.gt_int, R.ge_int, R.addI_int, R.tru_none, R.tru_bool, R.tru_int, R.tru_list, R.tru_tup, R.idx_t0, R.idx_t1, R.idx_t2, R.idx_t3, R.idx_l0, R.idx_l1, R.slice_list, R.slice_tup, R.part_int, R.max_i, R.min_i, R.items_list, R.items_tup, R.tuple_list, R.tuple_tup, R.list_list, R.list_tup, R.len_list, R.len_tup, R.len_str, R.isa_tt, R.isa_tl, R.isa_ti, R.isa_tb, R.isa_ts, R.isa_tn, R.isa_ii, R.isa_ib, R.isa_is, R.isa_in, R.isa_il, R.isa_it, R.isa_bi, R.isa_bb, R.isa_bs, R.isa_bn, R.isa_bl, R.isa_bt, R.isa_ss, R.isa_si, R.isa_sb, R.isa_sn, R.isa_sl, R.isa_st, R.isa_ll, R.isa_lt, R.zip_tup, R.zip_list, R.enum_list, R.need_tt, R.rev_list, R.rev_tup, R.isb_eq, R.isntb_eq, Option.bind_some, if_true, if_false, Bool.false_eq_true, Bool.not_true, Bool.not_false, R.enum2_list, R.enum2_tup, R.cat_list, R.listRg_int, R.slice_str, R.strO_str, R.isB_bool, R.isNone_none, R.isNone_int, R.isNone_bool, R.isNone_str, R.isNone_tup, R.isNone_list, R.isn_eq, R.isntn_eq, R.extT, R.ext_list, R.mulL_int, R.draw0, R.draw1, R.draw2, R.orX, R.andX, eq_is bar_ok]
    · simp -implicitDefEqProofs only [R.seq_eq, R.T.ret_bind, R.T.bind_assoc, R.T.stuck_bind, R.T.draw_bind, R.nxT_nx, R.nxT_ret, R.nxT_brk, R.nxT_ct, R.onT_nx, R.onT_ct, R.onT_brk, R.onT_ret, R.finT_ret, R.finT_nx, R.setT, R.retT, R.getv_0, R.getv_s, R.put_zero, R.put_succ, R.nth_zero, R.nth_succ, R.ifT, R.andT, R.orT, R.notT, R.bV, R.eq_int, R.ne_int, R.eq_str, R.ne_str, R.nox_ret, R.nox_draw, R.draw_eq, R.andV, R.orV, R.notV, R.iteT, R.chainT, R.lstT, R.tupT, R.par2T, R.par3T, R.asgO, R.asg_n, R.asg_t, R.asgs_nil, R.asgs_cons, R.turnT, R.appT, R.add_int, R.add_str, R.add_list, R.add_tup, R.sub_int, R.mul_int, R.fdiv_int, R.mod_int, R.neg_int, R.shr_int, R.shl_int, R.pow_int, R.lt_int, R.le_int, R.gt_int, R.ge_int, R.addI_int, R.tru_none, R.tru_bool, R.tru_int, R.tru_list, R.tru_tup, R.idx_t0, R.idx_t1, R.idx_t2, R.idx_t3, R.idx_l0, R.idx_l1, R.slice_list, R.slice_tup, R.part_int, R.max_i, R.min_i, R.items_list, R.items_tup, R.tuple_list, R.tuple_tup, R.list_list, R.list_tup, R.len_list, R.len_tup, R.len_str, R.isa_tt, R.isa_tl, R.isa_ti, R.isa_tb, R.isa_ts, R.isa_tn, R.isa_ii, R.isa_ib, R.isa_is, R.isa_in, R.isa_il, R.isa_it, R.isa_bi, R.isa_bb, R.isa_bs, R.isa_bn, R.isa_bl, R.isa_bt, R.isa_ss, R.isa_si, R.isa_sb, R.isa_sn, R.isa_sl, R.isa_st, R.isa_ll, R.isa_lt, R.zip_tup, R.zip_list, R.enum_list, R.need_tt, R.rev_list, R.rev_tup, R.isb_eq, R.isntb_eq, Option.bind_some, if_true, if_false, Bool.false_eq_true, Bool.not_true, Bool.not_false, R.enum2_list, R.enum2_tup, R.cat_list, R.listRg_int, R.slice_str, R.strO_str, R.isB_bool, R.isNone_none, R.isNone_int, R.isNone_bool, R.isNone_str, R.isNone_tup, R.isNone_list, R.isn_eq, R.isntn_eq, R.extT, R.ext_list, R.mulL_int, R.draw0, R.draw1, R.draw2, R.orX, R.andX]
      cases y == "bar" <;> simp -implicitDefEqProofs only [R.seq_eq, R.T.ret_bind, R.T.bind_assoc, R.T.stuck_bind, R.T.draw_bind, R.nxT_nx, R.nxT_ret, R.nxT_brk, R.nxT_ct, R.onT_nx, R.onT_ct, R.onT_brk, R.onT_ret, R.finT_ret, R.finT_nx, R.setT, R.retT, R.getv_0, R.getv_s, R.put_zero, R.put_succ, R.nth_zero, R.nth_succ, R.ifT, R.andT, R.orT, R.notT, R.bV, R.eq_int, R.ne_int, R.eq_str, R.ne_str, R.nox_ret, R.nox_draw, R.draw_eq, R.andV, R.orV, R.notV, R.iteT, R.chainT, R.lstT, R.tupT, R.par2T, R.par3T, R.asgO, R.asg_n, R.asg_t, R.asgs_nil, R.asgs_cons, R.turnT, R.appT, R.add_int, R.add_str, R.add_list, R.add_tup, R.sub_int, R.mul_int, R.fdiv_int, R.mod_int, R.neg_int, R.shr_int, R.shl_int, R.pow_int, R.lt_int, R.le_int, R.gt_int, R.ge_int, R.addI_int, R.tru_none, R.tru_bool, R.tru_int, R.tru_list, R.tru_tup, R.idx_t0, R.idx_t1, R.idx_t2, R.idx_t3, R.idx_l0, R.idx_l1, R.slice_list, R.slice_tup, R.part_int, R.max_i, R.min_i, R.items_list, R.items_tup, R.tuple_list, R.tuple_tup, R.list_list, R.list_tup, R.len_list, R.len_tup, R.len_str, R.isa_tt, R.isa_tl, R.isa_ti, R.isa_tb, R.isa_ts, R.isa_tn, R.isa_ii, R.isa_ib, R.isa_is, R.isa_in, R.isa_il, R.isa_it, R.isa_bi, R.isa_bb, R.isa_bs, R.isa_bn, R.isa_bl, R.isa_bt, R.isa_ss, R.isa_si, R.isa_sb, R.isa_sn, R.isa_sl, R.isa_st, R.isa_ll, R.isa_lt, R.zip_tup, R.zip_list, R.enum_list, R.need_tt, R.rev_list, R.rev_tup, R.isb_eq, R.isntb_eq, Option.bind_some, if_true, if_false, Bool.false_eq_true, Bool.not_true, Bool.not_false, R.enum2_list, R.enum2_tup, R.cat_list, R.listRg_int, R.slice_str, R.strO_str, R.isB_bool, R.isNone_none, R.isNone_int, R.isNone_bool, R.isNone_str, R.isNone_tup, R.isNone_list, R.isn_eq, R.isntn_eq, R.extT, R.ext_list, R.mulL_int, R.draw0, R.draw1, R.draw2, R.orX, R.andX]
  rw [e__law_right]
  unfold b__law_right
  simp -implicitDefEqProofs (disch := omega) only [R.seq_eq, R.T.ret_bind, R.T.bind_assoc, R.T.stuck_bind, R.T.draw_bind, R.nxT_nx, R.nxT_ret, R.nxT_brk, R.nxT_ct, R.onT_nx, R.onT_ct, R.onT_brk, R.onT_ret, R.finT_ret, R.finT_nx, R.setT, R.retT, R.getv_0, R.getv_s, R.put_zero, R.put_succ, R.nth_zero, R.nth_succ, R.ifT, R.andT, R.orT, R.notT, R.bV, R.eq_int, R.ne_int, R.eq_str, R.ne_str, R.nox_ret, R.nox_draw, R.draw_eq, R.andV, R.orV, R.notV, R.iteT, R.chainT, R.lstT, R.tupT, R.par2T, R.par3T, R.asgO, R.asg_n, R.asg_t, R.asgs_nil, R.asgs_cons, R.turnT, R.appT, R.add_int, R.add_str, R.add_list, R.add_tup, R.sub_int, R.mul_int, R.fdiv_int, R.mod_int, R.neg_int, R.shr_int, R.shl_int, R.pow_int, R.lt_int, R.le_int, R.gt_int, R.ge_int, R.addI_int, R.tru_none, R.tru_bool, R.tru_int, R.tru_list, R.tru_tup, R.idx_t0, R.idx_t1, R.idx_t2, R.idx_t3, R.idx_l0, R.idx_l1, R.slice_list, R.slice_tup, R.part_int, R.max_i, R.min_i, R.items_list, R.items_tup, R.tuple_list, R.tuple_tup, R.list_list, R.list_tup, R.len_list, R.len_tup, R.len_str, R.isa_tt, R.isa_tl, R.isa_ti, R.isa_tb, R.isa_ts, R.isa_tn, R.isa_ii, R.isa_ib, R.isa_is, R.isa_in, R.isa_il, R.isa_it, R.isa_bi, R.isa_bb, R.isa_bs, R.isa_bn, R.isa_bl, R.isa_bt, R.isa_ss, R.isa_si, R.isa_sb, R.isa_sn, R.isa_sl, R.isa_st, R.isa_ll, R.isa_lt, R.zip_tup, R.zip_list, R.enum_list, R.need_tt, R.rev_list, R.rev_tup, R.isb_eq, R.isntb_eq, Option.bind_some, if_true, if_false, Bool.false_eq_true, Bool.not_true, Bool.not_false, R.enum2_list, R.enum2_tup, R.cat_list, R.listRg_int, R.slice_str, R.strO_str, R.isB_bool, R.isNone_none, R.isNone_int, R.isNone_bool, R.isNone_str, R.isNone_tup, R.isNone_list, R.isn_eq, R.isntn_eq, R.extT, R.ext_list, R.mulL_int, R.draw0, R.draw1, R.draw2, R.orX, R.andX, R.need_p, if_pos, if_neg, PySem.sizeLine_eq, List.length_cons, List.length_nil, List.length_map, List.length_append, decide_eq_true_eq, Bool.not_eq_true', Bool.not_eq_eq_eq_not, decide_eq_false_iff_not, R3, lword_eq h, lword_eq h', lik_eq h, told_eq h', pk1, pk2, D, rl, beq_self_eq_true, TH, fb]
end Lw

set_option Elab.async false
set_option linter.all false
set_option maxRecDepth 100000
set_option maxHeartbeats 1000000
namespace Lw
open PySem R
theorem pick_all {L : List PyData} {P : PyData → Prop} (h0 : L ≠ []) (h1 : L.length < 1000) (h : ∀ d ∈ L, P d) : AllE (m__law_pick [dkD 1, .list L]) P := by
  have hl : 0 < L.length := by cases L with | nil => exact absurd rfl h0 | cons _ _ => simp
  rw [e__law_pick]
  unfold b__law_pick
  simp -implicitDefEqProofs only [R.seq_eq, R.T.ret_bind, R.T.bind_assoc, R.T.stuck_bind, R.T.draw_bind, R.nxT_nx, R.nxT_ret, R.nxT_brk, R.nxT_ct, R.onT_nx, R.onT_ct, R.onT_brk, R.onT_ret, R.finT_ret, R.finT_nx, R.setT, R.retT, R.getv_0, R.getv_s, R.put_zero, R.put_succ, R.nth_zero, R.nth_succ, R.ifT, R.andT, R.orT, R.notT, R.bV, R.eq_int, R.ne_int, R.eq_str, R.ne_str, R.nox_ret, R.nox_draw, R.draw_eq, R.andV, R.orV, R.notV, R.iteT, R.chainT, R.lstT, R.tupT, R.par2T, R.par3T, R.asgO, R.asg_n, R.asg_t, R.asgs_nil, R.asgs_cons, R.turnT, R.appT, R.add_int, R.add_str, R.add_list, R.add_tup, R.sub_int, R.mul_int, R.fdiv_int, R.mod_int, R.neg_int, R.shr_int, R.shl_int, R.pow_int, R.lt_int, R.le_int, R.gt_int, R.ge_int, R.addI_int, R.tru_none, R.tru_bool, R.tru_int, R.tru_list, R.tru_tup, R.idx_t0, R.idx_t1, R.idx_t2, R.idx_t3, R.idx_l0, R.idx_l1, R.slice_list, R.slice_tup, R.part_int, R.max_i, R.min_i, R.items_list, R.items_tup, R.tuple_list, R.tuple_tup, R.list_list, R.list_tup, R.len_list, R.len_tup, R.len_str, R.isa_tt, R.isa_tl, R.isa_ti, R.isa_tb, R.isa_ts, R.isa_tn, R.isa_ii, R.isa_ib, R.isa_is, R.isa_in, R.isa_il, R.isa_it, R.isa_bi, R.isa_bb, R.isa_bs, R.isa_bn, R.isa_bl, R.isa_bt, R.isa_ss, R.isa_si, R.isa_sb, R.isa_sn, R.isa_sl, R.isa_st, R.isa_ll, R.isa_lt, R.zip_tup, R.zip_list, R.enum_list, R.need_tt, R.rev_list, R.rev_tup, R.isb_eq, R.isntb_eq, Option.bind_some, if_true, if_false, Bool.false_eq_true, Bool.not_true, Bool.not_false, R.enum2_list, R.enum2_tup, R.cat_list, R.listRg_int, R.slice_str, R.strO_str, R.isB_bool, R.isNone_none, R.isNone_int, R.isNone_bool, R.isNone_str, R.isNone_tup, R.isNone_list, R.isn_eq, R.isntn_eq, R.extT, R.ext_list, R.mulL_int, R.draw0, R.draw1, R.draw2, R.orX, R.andX]
  refine .draw (by omega) (by omega) fun r a b => ?_
  obtain ⟨d, e, p⟩ := at_all h a b
  simp -implicitDefEqProofs only [R.seq_eq, R.T.ret_bind, R.T.bind_assoc, R.T.stuck_bind, R.T.draw_bind, R.nxT_nx, R.nxT_ret, R.nxT_brk, R.nxT_ct, R.onT_nx, R.onT_ct, R.onT_brk, R.onT_ret, R.finT_ret, R.finT_nx, R.setT, R.retT, R.getv_0, R.getv_s, R.put_zero, R.put_succ, R.nth_zero, R.nth_succ, R.ifT, R.andT, R.orT, R.notT, R.bV, R.eq_int, R.ne_int, R.eq_str, R.ne_str, R.nox_ret, R.nox_draw, R.draw_eq, R.andV, R.orV, R.notV, R.iteT, R.chainT, R.lstT, R.tupT, R.par2T, R.par3T, R.asgO, R.asg_n, R.asg_t, R.asgs_nil, R.asgs_cons, R.turnT, R.appT, R.add_int, R.add_str, R.add_list, R.add_tup, R.sub_int, R.mul_int, R.fdiv_int, R.mod_int, R.neg_int, R.shr_int, R.shl_int, R.pow_int, R.lt_int, R.le_int, R.gt_int, R.ge_int, R.addI_int, R.tru_none, R.tru_bool, R.tru_int, R.tru_list, R.tru_tup, R.idx_t0, R.idx_t1, R.idx_t2, R.idx_t3, R.idx_l0, R.idx_l1, R.slice_list, R.slice_tup, R.part_int, R.max_i, R.min_i, R.items_list, R.items_tup, R.tuple_list, R.tuple_tup, R.list_list, R.list_tup, R.len_list, R.len_tup, R.len_str, R.isa_tt, R.isa_tl, R.isa_ti, R.isa_tb, R.isa_ts, R.isa_tn, R.isa_ii, R.isa_ib, R.isa_is, R.isa_in, R.isa_il, R.isa_it, R.isa_bi, R.isa_bb, R.isa_bs, R.isa_bn, R.isa_bl, R.isa_bt, R.isa_ss, R.isa_si, R.isa_sb, R.isa_sn, R.isa_sl, R.isa_st, R.isa_ll, R.isa_lt, R.zip_tup, R.zip_list, R.enum_list, R.need_tt, R.rev_list, R.rev_tup, R.isb_eq, R.isntb_eq, Option.bind_some, if_true, if_false, Bool.false_eq_true, Bool.not_true, Bool.not_false, R.enum2_list, R.enum2_tup, R.cat_list, R.listRg_int, R.slice_str, R.strO_str, R.isB_bool, R.isNone_none, R.isNone_int, R.isNone_bool, R.isNone_str, R.isNone_tup, R.isNone_list, R.isn_eq, R.isntn_eq, R.extT, R.ext_list, R.mulL_int, R.draw0, R.draw1, R.draw2, R.orX, R.andX, idx_list _ _ e]
  exact .ret p
def spotD (d : PyData) : Prop := ∃ x : Int, d = .int x ∧ 0 ≤ x ∧ x < 65536
def blkOk (p : Bk) : Prop := 0 ≤ p.1 ∧ p.1 < 65536 ∧ 0 ≤ p.2 ∧ p.2 ≤ 16
def lenD' (d : PyData) : Prop := ∃ x : Int, d = .int x ∧ 0 ≤ x ∧ x ≤ 16
theorem pow_div (c l : Nat) (h : l ≤ c) : (((2 ^ c : Nat) : Int)) / 2 ^ l = ((2 ^ (c - l) : Nat) : Int) := by
  rw [← Nat.pow_div h (by decide)]; simp
theorem start_ok {x z : Int} {k : Nat} (hk : k ≤ 17) (hz : z = ((2 ^ k : Nat) : Int)) (h0 : 0 ≤ x) (h1 : x < 65536) : 0 ≤ x / z * z ∧ x / z * z < 65536 ∧ 1 ≤ z ∧ z ≤ 131072 := by
  have p1 : 0 < 2 ^ k := Nat.pow_pos (by decide)
  have p2 : 2 ^ k ≤ 2 ^ 17 := Nat.pow_le_pow_right (by decide) hk
  have a1 := Int.mul_ediv_add_emod x z
  have a2 := Int.emod_nonneg x (show z ≠ 0 by omega)
  have a3 : 0 ≤ x / z * z := Int.mul_nonneg (Int.ediv_nonneg h0 (by omega)) (by omega)
  rw [Int.mul_comm] at a1
  exact ⟨a3, by omega, by omega, by omega⟩
theorem about_all {x : Int} (h0 : 0 ≤ x) (h1 : x < 65536) : AllE (m__law_about [dkD 1, .int x]) fun d => ∃ p, d = blk p ∧ blkOk p := by
  rw [e__law_about]
  refine AllE.nox ?_
  unfold b__law_about
  simp -implicitDefEqProofs (disch := omega) only [R.seq_eq, R.T.ret_bind, R.T.bind_assoc, R.T.stuck_bind, R.T.draw_bind, R.nxT_nx, R.nxT_ret, R.nxT_brk, R.nxT_ct, R.onT_nx, R.onT_ct, R.onT_brk, R.onT_ret, R.finT_ret, R.finT_nx, R.setT, R.retT, R.getv_0, R.getv_s, R.put_zero, R.put_succ, R.nth_zero, R.nth_succ, R.ifT, R.andT, R.orT, R.notT, R.bV, R.eq_int, R.ne_int, R.eq_str, R.ne_str, R.nox_ret, R.nox_draw, R.draw_eq, R.andV, R.orV, R.notV, R.iteT, R.chainT, R.lstT, R.tupT, R.par2T, R.par3T, R.asgO, R.asg_n, R.asg_t, R.asgs_nil, R.asgs_cons, R.turnT, R.appT, R.add_int, R.add_str, R.add_list, R.add_tup, R.sub_int, R.mul_int, R.fdiv_int, R.mod_int, R.neg_int, R.shr_int, R.shl_int, R.pow_int, R.lt_int, R.le_int, R.gt_int, R.ge_int, R.addI_int, R.tru_none, R.tru_bool, R.tru_int, R.tru_list, R.tru_tup, R.idx_t0, R.idx_t1, R.idx_t2, R.idx_t3, R.idx_l0, R.idx_l1, R.slice_list, R.slice_tup, R.part_int, R.max_i, R.min_i, R.items_list, R.items_tup, R.tuple_list, R.tuple_tup, R.list_list, R.list_tup, R.len_list, R.len_tup, R.len_str, R.isa_tt, R.isa_tl, R.isa_ti, R.isa_tb, R.isa_ts, R.isa_tn, R.isa_ii, R.isa_ib, R.isa_is, R.isa_in, R.isa_il, R.isa_it, R.isa_bi, R.isa_bb, R.isa_bs, R.isa_bn, R.isa_bl, R.isa_bt, R.isa_ss, R.isa_si, R.isa_sb, R.isa_sn, R.isa_sl, R.isa_st, R.isa_ll, R.isa_lt, R.zip_tup, R.zip_list, R.enum_list, R.need_tt, R.rev_list, R.rev_tup, R.isb_eq, R.isntb_eq, Option.bind_some, if_true, if_false, Bool.false_eq_true, Bool.not_true, Bool.not_false, R.enum2_list, R.enum2_tup, R.cat_list, R.listRg_int, R.slice_str, R.strO_str, R.isB_bool, R.isNone_none, R.isNone_int, R.isNone_bool, R.isNone_str, R.isNone_tup, R.isNone_list, R.isn_eq, R.isntn_eq, R.extT, R.ext_list, R.mulL_int, R.draw0, R.draw1, R.draw2, R.orX, R.andX, R.need_p, if_pos, if_neg, PySem.sizeLine_eq, List.length_cons, List.length_nil, List.length_map, List.length_append, decide_eq_true_eq, Bool.not_eq_true', Bool.not_eq_eq_eq_not, decide_eq_false_iff_not]
  refine .draw (by decide) (by decide) fun r a b => ?_
  refine AllE.bind (pick_all (P := lenD') ?_ ?_ (fun d hd => ?_)) fun d hd => ?_
  · simp
  · simp
  · simp only [List.mem_cons, List.not_mem_nil, or_false] at hd
    rcases hd with rfl | rfl | rfl | rfl | rfl | rfl | rfl <;> exact ⟨_, rfl, by omega, by omega⟩
  obtain ⟨l, rfl, l0, l1⟩ := hd
  obtain ⟨n, rfl⟩ : ∃ n : Nat, l = n := ⟨l.toNat, by omega⟩
  have hz := pow_div 16 n (by omega)
  rw [show ((2 ^ 16 : Nat) : Int) = 65536 from rfl] at hz
  obtain ⟨s0, s1, z0, z1⟩ := start_ok (k := 16 - n) (by omega) rfl h0 h1
  simp -implicitDefEqProofs (disch := omega) only [R.seq_eq, R.T.ret_bind, R.T.bind_assoc, R.T.stuck_bind, R.T.draw_bind, R.nxT_nx, R.nxT_ret, R.nxT_brk, R.nxT_ct, R.onT_nx, R.onT_ct, R.onT_brk, R.onT_ret, R.finT_ret, R.finT_nx, R.setT, R.retT, R.getv_0, R.getv_s, R.put_zero, R.put_succ, R.nth_zero, R.nth_succ, R.ifT, R.andT, R.orT, R.notT, R.bV, R.eq_int, R.ne_int, R.eq_str, R.ne_str, R.nox_ret, R.nox_draw, R.draw_eq, R.andV, R.orV, R.notV, R.iteT, R.chainT, R.lstT, R.tupT, R.par2T, R.par3T, R.asgO, R.asg_n, R.asg_t, R.asgs_nil, R.asgs_cons, R.turnT, R.appT, R.add_int, R.add_str, R.add_list, R.add_tup, R.sub_int, R.mul_int, R.fdiv_int, R.mod_int, R.neg_int, R.shr_int, R.shl_int, R.pow_int, R.lt_int, R.le_int, R.gt_int, R.ge_int, R.addI_int, R.tru_none, R.tru_bool, R.tru_int, R.tru_list, R.tru_tup, R.idx_t0, R.idx_t1, R.idx_t2, R.idx_t3, R.idx_l0, R.idx_l1, R.slice_list, R.slice_tup, R.part_int, R.max_i, R.min_i, R.items_list, R.items_tup, R.tuple_list, R.tuple_tup, R.list_list, R.list_tup, R.len_list, R.len_tup, R.len_str, R.isa_tt, R.isa_tl, R.isa_ti, R.isa_tb, R.isa_ts, R.isa_tn, R.isa_ii, R.isa_ib, R.isa_is, R.isa_in, R.isa_il, R.isa_it, R.isa_bi, R.isa_bb, R.isa_bs, R.isa_bn, R.isa_bl, R.isa_bt, R.isa_ss, R.isa_si, R.isa_sb, R.isa_sn, R.isa_sl, R.isa_st, R.isa_ll, R.isa_lt, R.zip_tup, R.zip_list, R.enum_list, R.need_tt, R.rev_list, R.rev_tup, R.isb_eq, R.isntb_eq, Option.bind_some, if_true, if_false, Bool.false_eq_true, Bool.not_true, Bool.not_false, R.enum2_list, R.enum2_tup, R.cat_list, R.listRg_int, R.slice_str, R.strO_str, R.isB_bool, R.isNone_none, R.isNone_int, R.isNone_bool, R.isNone_str, R.isNone_tup, R.isNone_list, R.isn_eq, R.isntn_eq, R.extT, R.ext_list, R.mulL_int, R.draw0, R.draw1, R.draw2, R.orX, R.andX, R.need_p, if_pos, if_neg, PySem.sizeLine_eq, List.length_cons, List.length_nil, List.length_map, List.length_append, decide_eq_true_eq, Bool.not_eq_true', Bool.not_eq_eq_eq_not, decide_eq_false_iff_not, Int.toNat_natCast, hz]
  exact .ret ⟨(_, _), rfl, s0, s1, l0, l1⟩
theorem names_all {n : Int} (h0 : 1 ≤ n) (h1 : n ≤ 5) : AllE (m__law_names [dkD 1, .int n]) fun d => ∃ zs : List Str, d = .list (zs.map .str) ∧ (∀ z ∈ zs, Sk 20 z) ∧ (zs.length : Int) = n := by
  rw [e__law_names]
  refine AllE.nox ?_
  unfold b__law_names
  simp -implicitDefEqProofs only [R.seq_eq, R.T.ret_bind, R.T.bind_assoc, R.T.stuck_bind, R.T.draw_bind, R.nxT_nx, R.nxT_ret, R.nxT_brk, R.nxT_ct, R.onT_nx, R.onT_ct, R.onT_brk, R.onT_ret, R.finT_ret, R.finT_nx, R.setT, R.retT, R.getv_0, R.getv_s, R.put_zero, R.put_succ, R.nth_zero, R.nth_succ, R.ifT, R.andT, R.orT, R.notT, R.bV, R.eq_int, R.ne_int, R.eq_str, R.ne_str, R.nox_ret, R.nox_draw, R.draw_eq, R.andV, R.orV, R.notV, R.iteT, R.chainT, R.lstT, R.tupT, R.par2T, R.par3T, R.asgO, R.asg_n, R.asg_t, R.asgs_nil, R.asgs_cons, R.turnT, R.appT, R.add_int, R.add_str, R.add_list, R.add_tup, R.sub_int, R.mul_int, R.fdiv_int, R.mod_int, R.neg_int, R.shr_int, R.shl_int, R.pow_int, R.lt_int, R.le_int, R.gt_int, R.ge_int, R.addI_int, R.tru_none, R.tru_bool, R.tru_int, R.tru_list, R.tru_tup, R.idx_t0, R.idx_t1, R.idx_t2, R.idx_t3, R.idx_l0, R.idx_l1, R.slice_list, R.slice_tup, R.part_int, R.max_i, R.min_i, R.items_list, R.items_tup, R.tuple_list, R.tuple_tup, R.list_list, R.list_tup, R.len_list, R.len_tup, R.len_str, R.isa_tt, R.isa_tl, R.isa_ti, R.isa_tb, R.isa_ts, R.isa_tn, R.isa_ii, R.isa_ib, R.isa_is, R.isa_in, R.isa_il, R.isa_it, R.isa_bi, R.isa_bb, R.isa_bs, R.isa_bn, R.isa_bl, R.isa_bt, R.isa_ss, R.isa_si, R.isa_sb, R.isa_sn, R.isa_sl, R.isa_st, R.isa_ll, R.isa_lt, R.zip_tup, R.zip_list, R.enum_list, R.need_tt, R.rev_list, R.rev_tup, R.isb_eq, R.isntb_eq, Option.bind_some, if_true, if_false, Bool.false_eq_true, Bool.not_true, Bool.not_false, R.enum2_list, R.enum2_tup, R.cat_list, R.listRg_int, R.slice_str, R.strO_str, R.isB_bool, R.isNone_none, R.isNone_int, R.isNone_bool, R.isNone_str, R.isNone_tup, R.isNone_list, R.isn_eq, R.isntn_eq, R.extT, R.ext_list, R.mulL_int, R.draw0, R.draw1, R.draw2, R.orX, R.andX]
  refine .draw (by decide) (by decide) fun way wa wb => ?_
  refine .draw (by decide) (by decide) fun first fa fb => ?_
  refine .draw (by decide) (by decide) fun at' aa ab => ?_
  refine AllE.bind (lcD_allN (ds := rangeL 0 8) (P := fun y => ∃ z, y = .str z ∧ Sk 1 z) (by simp -implicitDefEqProofs only [R.seq_eq, R.T.ret_bind, R.T.bind_assoc, R.T.stuck_bind, R.T.draw_bind, R.nxT_nx, R.nxT_ret, R.nxT_brk, R.nxT_ct, R.onT_nx, R.onT_ct, R.onT_brk, R.onT_ret, R.finT_ret, R.finT_nx, R.setT, R.retT, R.getv_0, R.getv_s, R.put_zero, R.put_succ, R.nth_zero, R.nth_succ, R.ifT, R.andT, R.orT, R.notT, R.bV, R.eq_int, R.ne_int, R.eq_str, R.ne_str, R.nox_ret, R.nox_draw, R.draw_eq, R.andV, R.orV, R.notV, R.iteT, R.chainT, R.lstT, R.tupT, R.par2T, R.par3T, R.asgO, R.asg_n, R.asg_t, R.asgs_nil, R.asgs_cons, R.turnT, R.appT, R.add_int, R.add_str, R.add_list, R.add_tup, R.sub_int, R.mul_int, R.fdiv_int, R.mod_int, R.neg_int, R.shr_int, R.shl_int, R.pow_int, R.lt_int, R.le_int, R.gt_int, R.ge_int, R.addI_int, R.tru_none, R.tru_bool, R.tru_int, R.tru_list, R.tru_tup, R.idx_t0, R.idx_t1, R.idx_t2, R.idx_t3, R.idx_l0, R.idx_l1, R.slice_list, R.slice_tup, R.part_int, R.max_i, R.min_i, R.items_list, R.items_tup, R.tuple_list, R.tuple_tup, R.list_list, R.list_tup, R.len_list, R.len_tup, R.len_str, R.isa_tt, R.isa_tl, R.isa_ti, R.isa_tb, R.isa_ts, R.isa_tn, R.isa_ii, R.isa_ib, R.isa_is, R.isa_in, R.isa_il, R.isa_it, R.isa_bi, R.isa_bb, R.isa_bs, R.isa_bn, R.isa_bl, R.isa_bt, R.isa_ss, R.isa_si, R.isa_sb, R.isa_sn, R.isa_sl, R.isa_st, R.isa_ll, R.isa_lt, R.zip_tup, R.zip_list, R.enum_list, R.need_tt, R.rev_list, R.rev_tup, R.isb_eq, R.isntb_eq, Option.bind_some, if_true, if_false, Bool.false_eq_true, Bool.not_true, Bool.not_false, R.enum2_list, R.enum2_tup, R.cat_list, R.listRg_int, R.slice_str, R.strO_str, R.isB_bool, R.isNone_none, R.isNone_int, R.isNone_bool, R.isNone_str, R.isNone_tup, R.isNone_list, R.isn_eq, R.isntn_eq, R.extT, R.ext_list, R.mulL_int, R.draw0, R.draw1, R.draw2, R.orX, R.andX, range8]) (by rw [rangeL_length]; decide) fun d hd => ?_) fun d hd => ?_
  · rw [comp_n]
    unfold x1__law_names
    simp -implicitDefEqProofs only [R.seq_eq, R.T.ret_bind, R.T.bind_assoc, R.T.stuck_bind, R.T.draw_bind, R.nxT_nx, R.nxT_ret, R.nxT_brk, R.nxT_ct, R.onT_nx, R.onT_ct, R.onT_brk, R.onT_ret, R.finT_ret, R.finT_nx, R.setT, R.retT, R.getv_0, R.getv_s, R.put_zero, R.put_succ, R.nth_zero, R.nth_succ, R.ifT, R.andT, R.orT, R.notT, R.bV, R.eq_int, R.ne_int, R.eq_str, R.ne_str, R.nox_ret, R.nox_draw, R.draw_eq, R.andV, R.orV, R.notV, R.iteT, R.chainT, R.lstT, R.tupT, R.par2T, R.par3T, R.asgO, R.asg_n, R.asg_t, R.asgs_nil, R.asgs_cons, R.turnT, R.appT, R.add_int, R.add_str, R.add_list, R.add_tup, R.sub_int, R.mul_int, R.fdiv_int, R.mod_int, R.neg_int, R.shr_int, R.shl_int, R.pow_int, R.lt_int, R.le_int, R.gt_int, R.ge_int, R.addI_int, R.tru_none, R.tru_bool, R.tru_int, R.tru_list, R.tru_tup, R.idx_t0, R.idx_t1, R.idx_t2, R.idx_t3, R.idx_l0, R.idx_l1, R.slice_list, R.slice_tup, R.part_int, R.max_i, R.min_i, R.items_list, R.items_tup, R.tuple_list, R.tuple_tup, R.list_list, R.list_tup, R.len_list, R.len_tup, R.len_str, R.isa_tt, R.isa_tl, R.isa_ti, R.isa_tb, R.isa_ts, R.isa_tn, R.isa_ii, R.isa_ib, R.isa_is, R.isa_in, R.isa_il, R.isa_it, R.isa_bi, R.isa_bb, R.isa_bs, R.isa_bn, R.isa_bl, R.isa_bt, R.isa_ss, R.isa_si, R.isa_sb, R.isa_sn, R.isa_sl, R.isa_st, R.isa_ll, R.isa_lt, R.zip_tup, R.zip_list, R.enum_list, R.need_tt, R.rev_list, R.rev_tup, R.isb_eq, R.isntb_eq, Option.bind_some, if_true, if_false, Bool.false_eq_true, Bool.not_true, Bool.not_false, R.enum2_list, R.enum2_tup, R.cat_list, R.listRg_int, R.slice_str, R.strO_str, R.isB_bool, R.isNone_none, R.isNone_int, R.isNone_bool, R.isNone_str, R.isNone_tup, R.isNone_list, R.isn_eq, R.isntn_eq, R.extT, R.ext_list, R.mulL_int, R.draw0, R.draw1, R.draw2, R.orX, R.andX, wiped, List.set]
    refine .draw (by decide) (by decide) fun r a b => ?_
    obtain ⟨c, e, c0, c1⟩ := letters_at a b
    simp -implicitDefEqProofs only [R.seq_eq, R.T.ret_bind, R.T.bind_assoc, R.T.stuck_bind, R.T.draw_bind, R.nxT_nx, R.nxT_ret, R.nxT_brk, R.nxT_ct, R.onT_nx, R.onT_ct, R.onT_brk, R.onT_ret, R.finT_ret, R.finT_nx, R.setT, R.retT, R.getv_0, R.getv_s, R.put_zero, R.put_succ, R.nth_zero, R.nth_succ, R.ifT, R.andT, R.orT, R.notT, R.bV, R.eq_int, R.ne_int, R.eq_str, R.ne_str, R.nox_ret, R.nox_draw, R.draw_eq, R.andV, R.orV, R.notV, R.iteT, R.chainT, R.lstT, R.tupT, R.par2T, R.par3T, R.asgO, R.asg_n, R.asg_t, R.asgs_nil, R.asgs_cons, R.turnT, R.appT, R.add_int, R.add_str, R.add_list, R.add_tup, R.sub_int, R.mul_int, R.fdiv_int, R.mod_int, R.neg_int, R.shr_int, R.shl_int, R.pow_int, R.lt_int, R.le_int, R.gt_int, R.ge_int, R.addI_int, R.tru_none, R.tru_bool, R.tru_int, R.tru_list, R.tru_tup, R.idx_t0, R.idx_t1, R.idx_t2, R.idx_t3, R.idx_l0, R.idx_l1, R.slice_list, R.slice_tup, R.part_int, R.max_i, R.min_i, R.items_list, R.items_tup, R.tuple_list, R.tuple_tup, R.list_list, R.list_tup, R.len_list, R.len_tup, R.len_str, R.isa_tt, R.isa_tl, R.isa_ti, R.isa_tb, R.isa_ts, R.isa_tn, R.isa_ii, R.isa_ib, R.isa_is, R.isa_in, R.isa_il, R.isa_it, R.isa_bi, R.isa_bb, R.isa_bs, R.isa_bn, R.isa_bl, R.isa_bt, R.isa_ss, R.isa_si, R.isa_sb, R.isa_sn, R.isa_sl, R.isa_st, R.isa_ll, R.isa_lt, R.zip_tup, R.zip_list, R.enum_list, R.need_tt, R.rev_list, R.rev_tup, R.isb_eq, R.isntb_eq, Option.bind_some, if_true, if_false, Bool.false_eq_true, Bool.not_true, Bool.not_false, R.enum2_list, R.enum2_tup, R.cat_list, R.listRg_int, R.slice_str, R.strO_str, R.isB_bool, R.isNone_none, R.isNone_int, R.isNone_bool, R.isNone_str, R.isNone_tup, R.isNone_list, R.isn_eq, R.isntn_eq, R.extT, R.ext_list, R.mulL_int, R.draw0, R.draw1, R.draw2, R.orX, R.andX, e]
    exact .ret ⟨_, rfl, _, rfl, Sk.one (by omega)⟩
  obtain ⟨ys, rfl, hy, yl⟩ := hd
  obtain ⟨ps, rfl, hp⟩ := maps_of hy
  rw [rangeL_length, List.length_map] at yl
  have sl := sum_len hp
  have s0 : Sk 0 ("" : Str) := ⟨by decide +kernel, by decide +kernel⟩
  have hs := (Sk.join s0 hp).mono (show ps.length * (1 + 0) ≤ 8 by omega)
  rw [join_list, need_p _ (by have : ("" : Str).length = 0 := rfl; rw [this]; omega)]
  generalize Txt.join "" ps = stem at hs
  obtain ⟨k, rfl⟩ : ∃ k : Nat, n = k := ⟨n.toNat, by omega⟩
  simp -implicitDefEqProofs (disch := omega) only [R.seq_eq, R.T.ret_bind, R.T.bind_assoc, R.T.stuck_bind, R.T.draw_bind, R.nxT_nx, R.nxT_ret, R.nxT_brk, R.nxT_ct, R.onT_nx, R.onT_ct, R.onT_brk, R.onT_ret, R.finT_ret, R.finT_nx, R.setT, R.retT, R.getv_0, R.getv_s, R.put_zero, R.put_succ, R.nth_zero, R.nth_succ, R.ifT, R.andT, R.orT, R.notT, R.bV, R.eq_int, R.ne_int, R.eq_str, R.ne_str, R.nox_ret, R.nox_draw, R.draw_eq, R.andV, R.orV, R.notV, R.iteT, R.chainT, R.lstT, R.tupT, R.par2T, R.par3T, R.asgO, R.asg_n, R.asg_t, R.asgs_nil, R.asgs_cons, R.turnT, R.appT, R.add_int, R.add_str, R.add_list, R.add_tup, R.sub_int, R.mul_int, R.fdiv_int, R.mod_int, R.neg_int, R.shr_int, R.shl_int, R.pow_int, R.lt_int, R.le_int, R.gt_int, R.ge_int, R.addI_int, R.tru_none, R.tru_bool, R.tru_int, R.tru_list, R.tru_tup, R.idx_t0, R.idx_t1, R.idx_t2, R.idx_t3, R.idx_l0, R.idx_l1, R.slice_list, R.slice_tup, R.part_int, R.max_i, R.min_i, R.items_list, R.items_tup, R.tuple_list, R.tuple_tup, R.list_list, R.list_tup, R.len_list, R.len_tup, R.len_str, R.isa_tt, R.isa_tl, R.isa_ti, R.isa_tb, R.isa_ts, R.isa_tn, R.isa_ii, R.isa_ib, R.isa_is, R.isa_in, R.isa_il, R.isa_it, R.isa_bi, R.isa_bb, R.isa_bs, R.isa_bn, R.isa_bl, R.isa_bt, R.isa_ss, R.isa_si, R.isa_sb, R.isa_sn, R.isa_sl, R.isa_st, R.isa_ll, R.isa_lt, R.zip_tup, R.zip_list, R.enum_list, R.need_tt, R.rev_list, R.rev_tup, R.isb_eq, R.isntb_eq, Option.bind_some, if_true, if_false, Bool.false_eq_true, Bool.not_true, Bool.not_false, R.enum2_list, R.enum2_tup, R.cat_list, R.listRg_int, R.slice_str, R.strO_str, R.isB_bool, R.isNone_none, R.isNone_int, R.isNone_bool, R.isNone_str, R.isNone_tup, R.isNone_list, R.isn_eq, R.isntn_eq, R.extT, R.ext_list, R.mulL_int, R.draw0, R.draw1, R.draw2, R.orX, R.andX, R.need_p, if_pos, if_neg, PySem.sizeLine_eq, List.length_cons, List.length_nil, List.length_map, List.length_append, decide_eq_true_eq, Bool.not_eq_true', Bool.not_eq_eq_eq_not, decide_eq_false_iff_not, range1 (show (0 : Int) ≤ k by omega) (show (k : Int) < 4611686018427387904 by omega), Int.toNat_natCast]
  have loop : ∀ (ds : List PyData) (ρ : R.Env), (∀ d ∈ ds, ∃ i : Nat, d = .int ((0 : Int) + i)) → (∃ (zs : List Str) (x8 x9 : Option PyData), ρ = [some (dkD 1), some (.int k), some (.str "abcdefghijklmnopqrstuvwxyz"), some (.int way), some (.int first), some (.int at'), some (.str stem), some (.list (zs.map .str)), x8, x9, none] ∧ (∀ z ∈ zs, Sk 18 z) ∧ zs.length + ds.length = k) → ∃ (zs : List Str) (x8 x9 : Option PyData), forT t2__law_names ds ρ = .ret (.nx [some (dkD 1), some (.int k), some (.str "abcdefghijklmnopqrstuvwxyz"), some (.int way), some (.int first), some (.int at'), some (.str stem), some (.list (zs.map .str)), x8, x9, none]) ∧ (∀ z ∈ zs, Sk 18 z) ∧ zs.length = k := by
    intro ds
    induction ds with
    | nil =>
      rintro ρ _ ⟨zs, x8, x9, rfl, h1, h2⟩
      exact ⟨zs, x8, x9, rfl, h1, by simpa using h2⟩
    | cons d ds ih =>
      rintro ρ hd ⟨zs, x8, x9, rfl, hz, hl⟩
      obtain ⟨i, rfl⟩ := hd d (by simp)
      obtain ⟨c, e, c0, c1⟩ := letters_at (i := (first + 3 * (0 + (i : Int))) % 26) (Int.emod_nonneg _ (by decide)) (Int.emod_lt_of_pos _ (by decide))
      have hc : Sk 1 (⟨#[c]⟩ : Str) := Sk.one (by omega)
      have g1 := (hs.cut none (some at')).len
      have g2 := (hs.cut (some (at' + 1)) none).len
      have g3 := ((hs.cut none (some at')).app hc).len
      have g4 := (hs.app hs).len
      have g5 := hs.len
      have g6 := hc.len
      rw [List.length_cons] at hl
      rw [for_cons]
      have turn : ∃ z, t2__law_names (.int (0 + (i : Int))) [some (dkD 1), some (.int k), some (.str "abcdefghijklmnopqrstuvwxyz"), some (.int way), some (.int first), some (.int at'), some (.str stem), some (.list (zs.map .str)), x8, x9, none] = .ret (.nx [some (dkD 1), some (.int k), some (.str "abcdefghijklmnopqrstuvwxyz"), some (.int way), some (.int first), some (.int at'), some (.str stem), some (.list ((zs ++ [z]).map .str)), some (.int (0 + (i : Int))), some (.str ⟨#[c]⟩), none]) ∧ Sk 18 z := by
        unfold t2__law_names
        simp -implicitDefEqProofs (disch := omega) only [R.seq_eq, R.T.ret_bind, R.T.bind_assoc, R.T.stuck_bind, R.T.draw_bind, R.nxT_nx, R.nxT_ret, R.nxT_brk, R.nxT_ct, R.onT_nx, R.onT_ct, R.onT_brk, R.onT_ret, R.finT_ret, R.finT_nx, R.setT, R.retT, R.getv_0, R.getv_s, R.put_zero, R.put_succ, R.nth_zero, R.nth_succ, R.ifT, R.andT, R.orT, R.notT, R.bV, R.eq_int, R.ne_int, R.eq_str, R.ne_str, R.nox_ret, R.nox_draw, R.draw_eq, R.andV, R.orV, R.notV, R.iteT, R.chainT, R.lstT, R.tupT, R.par2T, R.par3T, R.asgO, R.asg_n, R.asg_t, R.asgs_nil, R.asgs_cons, R.turnT, R.appT, R.add_int, R.add_str, R.add_list, R.add_tup, R.sub_int, R.mul_int, R.fdiv_int, R.mod_int, R.neg_int, R.shr_int, R.shl_int, R.pow_int, R.lt_int, R.le_int, R.gt_int, R.ge_int, R.addI_int, R.tru_none, R.tru_bool, R.tru_int, R.tru_list, R.tru_tup, R.idx_t0, R.idx_t1, R.idx_t2, R.idx_t3, R.idx_l0, R.idx_l1, R.slice_list, R.slice_tup, R.part_int, R.max_i, R.min_i, R.items_list, R.items_tup, R.tuple_list, R.tuple_tup, R.list_list, R.list_tup, R.len_list, R.len_tup, R.len_str, R.isa_tt, R.isa_tl, R.isa_ti, R.isa_tb, R.isa_ts, R.isa_tn, R.isa_ii, R.isa_ib, R.isa_is, R.isa_in, R.isa_il, R.isa_it, R.isa_bi, R.isa_bb, R.isa_bs, R.isa_bn, R.isa_bl, R.isa_bt, R.isa_ss, R.isa_si, R.isa_sb, R.isa_sn, R.isa_sl, R.isa_st, R.isa_ll, R.isa_lt, R.zip_tup, R.zip_list, R.enum_list, R.need_tt, R.rev_list, R.rev_tup, R.isb_eq, R.isntb_eq, Option.bind_some, if_true, if_false, Bool.false_eq_true, Bool.not_true, Bool.not_false, R.enum2_list, R.enum2_tup, R.cat_list, R.listRg_int, R.slice_str, R.strO_str, R.isB_bool, R.isNone_none, R.isNone_int, R.isNone_bool, R.isNone_str, R.isNone_tup, R.isNone_list, R.isn_eq, R.isntn_eq, R.extT, R.ext_list, R.mulL_int, R.draw0, R.draw1, R.draw2, R.orX, R.andX, R.need_p, if_pos, if_neg, PySem.sizeLine_eq, List.length_cons, List.length_nil, List.length_map, List.length_append, decide_eq_true_eq, Bool.not_eq_true', Bool.not_eq_eq_eq_not, decide_eq_false_iff_not, e]
        obtain ⟨d, e2, z, rfl, hz2⟩ := at_all (P := fun d => ∃ z, d = PyData.str z ∧ Sk 18 z) (L := [.str ⟨#[c]⟩, .str (L2.cutS stem none (some at') ++ ⟨#[c]⟩ ++ L2.cutS stem (some (at' + 1)) none), .str (L2.cutS (stem ++ stem) none (some (1 + (0 + (i : Int)))))]) (fun d hd => by
          simp only [List.mem_cons, List.not_mem_nil, or_false] at hd
          rcases hd with rfl | rfl | rfl
          · exact ⟨_, rfl, hc.mono (by omega)⟩
          · exact ⟨_, rfl, (((hs.cut _ _).app hc).app (hs.cut _ _)).mono (by omega)⟩
          · exact ⟨_, rfl, ((hs.app hs).cut _ _).mono (by omega)⟩) wa (by simpa using wb)
        simp -implicitDefEqProofs (disch := omega) only [R.seq_eq, R.T.ret_bind, R.T.bind_assoc, R.T.stuck_bind, R.T.draw_bind, R.nxT_nx, R.nxT_ret, R.nxT_brk, R.nxT_ct, R.onT_nx, R.onT_ct, R.onT_brk, R.onT_ret, R.finT_ret, R.finT_nx, R.setT, R.retT, R.getv_0, R.getv_s, R.put_zero, R.put_succ, R.nth_zero, R.nth_succ, R.ifT, R.andT, R.orT, R.notT, R.bV, R.eq_int, R.ne_int, R.eq_str, R.ne_str, R.nox_ret, R.nox_draw, R.draw_eq, R.andV, R.orV, R.notV, R.iteT, R.chainT, R.lstT, R.tupT, R.par2T, R.par3T, R.asgO, R.asg_n, R.asg_t, R.asgs_nil, R.asgs_cons, R.turnT, R.appT, R.add_int, R.add_str, R.add_list, R.add_tup, R.sub_int, R.mul_int, R.fdiv_int, R.mod_int, R.neg_int, R.shr_int, R.shl_int, R.pow_int, R.lt_int, R.le_int, R.gt_int, R.ge_int, R.addI_int, R.tru_none, R.tru_bool, R.tru_int, R.tru_list, R.tru_tup, R.idx_t0, R.idx_t1, R.idx_t2, R.idx_t3, R.idx_l0, R.idx_l1, R.slice_list, R.slice_tup, R.part_int, R.max_i, R.min_i, R.items_list, R.items_tup, R.tuple_list, R.tuple_tup, R.list_list, R.list_tup, R.len_list, R.len_tup, R.len_str, R.isa_tt, R.isa_tl, R.isa_ti, R.isa_tb, R.isa_ts, R.isa_tn, R.isa_ii, R.isa_ib, R.isa_is, R.isa_in, R.isa_il, R.isa_it, R.isa_bi, R.isa_bb, R.isa_bs, R.isa_bn, R.isa_bl, R.isa_bt, R.isa_ss, R.isa_si, R.isa_sb, R.isa_sn, R.isa_sl, R.isa_st, R.isa_ll, R.isa_lt, R.zip_tup, R.zip_list, R.enum_list, R.need_tt, R.rev_list, R.rev_tup, R.isb_eq, R.isntb_eq, Option.bind_some, if_true, if_false, Bool.false_eq_true, Bool.not_true, Bool.not_false, R.enum2_list, R.enum2_tup, R.cat_list, R.listRg_int, R.slice_str, R.strO_str, R.isB_bool, R.isNone_none, R.isNone_int, R.isNone_bool, R.isNone_str, R.isNone_tup, R.isNone_list, R.isn_eq, R.isntn_eq, R.extT, R.ext_list, R.mulL_int, R.draw0, R.draw1, R.draw2, R.orX, R.andX, R.need_p, if_pos, if_neg, PySem.sizeLine_eq, List.length_cons, List.length_nil, List.length_map, List.length_append, decide_eq_true_eq, Bool.not_eq_true', Bool.not_eq_eq_eq_not, decide_eq_false_iff_not, idx_list _ _ e2]
        exact ⟨z, by simp, hz2⟩
      obtain ⟨z, et, hz2⟩ := turn
      rw [et, T.ret_bind, onT_nx]
      refine ih _ (fun x hx => hd x (by simp [hx])) ⟨zs ++ [z], _, _, rfl, fun q hq => ?_, by simp; omega⟩
      rcases List.mem_append.mp hq with hq | hq
      · exact hz q hq
      · rw [List.mem_singleton.mp hq]; exact hz2
  obtain ⟨zs, x8, x9, el, hz, zl⟩ := loop (rangeL 0 k) _ (fun d hd => by obtain ⟨i, _, rfl⟩ := mem_rangeL hd; exact ⟨i, rfl⟩) ⟨[], none, none, rfl, by simp, by simp [rangeL_length]⟩
  rw [List.map_nil] at el
  simp -implicitDefEqProofs only [R.seq_eq, R.T.ret_bind, R.T.bind_assoc, R.T.stuck_bind, R.T.draw_bind, R.nxT_nx, R.nxT_ret, R.nxT_brk, R.nxT_ct, R.onT_nx, R.onT_ct, R.onT_brk, R.onT_ret, R.finT_ret, R.finT_nx, R.setT, R.retT, R.getv_0, R.getv_s, R.put_zero, R.put_succ, R.nth_zero, R.nth_succ, R.ifT, R.andT, R.orT, R.notT, R.bV, R.eq_int, R.ne_int, R.eq_str, R.ne_str, R.nox_ret, R.nox_draw, R.draw_eq, R.andV, R.orV, R.notV, R.iteT, R.chainT, R.lstT, R.tupT, R.par2T, R.par3T, R.asgO, R.asg_n, R.asg_t, R.asgs_nil, R.asgs_cons, R.turnT, R.appT, R.add_int, R.add_str, R.add_list, R.add_tup, R.sub_int, R.mul_int, R.fdiv_int, R.mod_int, R.neg_int, R.shr_int, R.shl_int, R.pow_int, R.lt_int, R.le_int, R.gt_int, R.ge_int, R.addI_int, R.tru_none, R.tru_bool, R.tru_int, R.tru_list, R.tru_tup, R.idx_t0, R.idx_t1, R.idx_t2, R.idx_t3, R.idx_l0, R.idx_l1, R.slice_list, R.slice_tup, R.part_int, R.max_i, R.min_i, R.items_list, R.items_tup, R.tuple_list, R.tuple_tup, R.list_list, R.list_tup, R.len_list, R.len_tup, R.len_str, R.isa_tt, R.isa_tl, R.isa_ti, R.isa_tb, R.isa_ts, R.isa_tn, R.isa_ii, R.isa_ib, R.isa_is, R.isa_in, R.isa_il, R.isa_it, R.isa_bi, R.isa_bb, R.isa_bs, R.isa_bn, R.isa_bl, R.isa_bt, R.isa_ss, R.isa_si, R.isa_sb, R.isa_sn, R.isa_sl, R.isa_st, R.isa_ll, R.isa_lt, R.zip_tup, R.zip_list, R.enum_list, R.need_tt, R.rev_list, R.rev_tup, R.isb_eq, R.isntb_eq, Option.bind_some, if_true, if_false, Bool.false_eq_true, Bool.not_true, Bool.not_false, R.enum2_list, R.enum2_tup, R.cat_list, R.listRg_int, R.slice_str, R.strO_str, R.isB_bool, R.isNone_none, R.isNone_int, R.isNone_bool, R.isNone_str, R.isNone_tup, R.isNone_list, R.isn_eq, R.isntn_eq, R.extT, R.ext_list, R.mulL_int, R.draw0, R.draw1, R.draw2, R.orX, R.andX, el]
  let f : Str → Str := fun z => if inB [.str "home", .str "none"] (.str z) = true then ("x" : Str) ++ L2.cutS z (some 1) none else z
  have hx : Sk 1 ("x" : Str) := ⟨by decide +kernel, by decide +kernel⟩
  rw [lcD_on (xs := zs) .str (fun z => .str (f z)) (fun _ => true) (by simp -implicitDefEqProofs only [R.seq_eq, R.T.ret_bind, R.T.bind_assoc, R.T.stuck_bind, R.T.draw_bind, R.nxT_nx, R.nxT_ret, R.nxT_brk, R.nxT_ct, R.onT_nx, R.onT_ct, R.onT_brk, R.onT_ret, R.finT_ret, R.finT_nx, R.setT, R.retT, R.getv_0, R.getv_s, R.put_zero, R.put_succ, R.nth_zero, R.nth_succ, R.ifT, R.andT, R.orT, R.notT, R.bV, R.eq_int, R.ne_int, R.eq_str, R.ne_str, R.nox_ret, R.nox_draw, R.draw_eq, R.andV, R.orV, R.notV, R.iteT, R.chainT, R.lstT, R.tupT, R.par2T, R.par3T, R.asgO, R.asg_n, R.asg_t, R.asgs_nil, R.asgs_cons, R.turnT, R.appT, R.add_int, R.add_str, R.add_list, R.add_tup, R.sub_int, R.mul_int, R.fdiv_int, R.mod_int, R.neg_int, R.shr_int, R.shl_int, R.pow_int, R.lt_int, R.le_int, R.gt_int, R.ge_int, R.addI_int, R.tru_none, R.tru_bool, R.tru_int, R.tru_list, R.tru_tup, R.idx_t0, R.idx_t1, R.idx_t2, R.idx_t3, R.idx_l0, R.idx_l1, R.slice_list, R.slice_tup, R.part_int, R.max_i, R.min_i, R.items_list, R.items_tup, R.tuple_list, R.tuple_tup, R.list_list, R.list_tup, R.len_list, R.len_tup, R.len_str, R.isa_tt, R.isa_tl, R.isa_ti, R.isa_tb, R.isa_ts, R.isa_tn, R.isa_ii, R.isa_ib, R.isa_is, R.isa_in, R.isa_il, R.isa_it, R.isa_bi, R.isa_bb, R.isa_bs, R.isa_bn, R.isa_bl, R.isa_bt, R.isa_ss, R.isa_si, R.isa_sb, R.isa_sn, R.isa_sl, R.isa_st, R.isa_ll, R.isa_lt, R.zip_tup, R.zip_list, R.enum_list, R.need_tt, R.rev_list, R.rev_tup, R.isb_eq, R.isntb_eq, Option.bind_some, if_true, if_false, Bool.false_eq_true, Bool.not_true, Bool.not_false, R.enum2_list, R.enum2_tup, R.cat_list, R.listRg_int, R.slice_str, R.strO_str, R.isB_bool, R.isNone_none, R.isNone_int, R.isNone_bool, R.isNone_str, R.isNone_tup, R.isNone_list, R.isn_eq, R.isntn_eq, R.extT, R.ext_list, R.mulL_int, R.draw0, R.draw1, R.draw2, R.orX, R.andX]) (by rw [sizeLine_eq]; omega) fun z hz' => ?_]
  · have ef : zs.filter (fun _ => true) = zs := List.filter_eq_self.mpr (by simp)
    rw [ef, show (zs.map fun z => PyData.str (f z)) = (zs.map f).map .str by simp]
    obtain ⟨ws, e, hw, wl⟩ := sort_strs (zs := zs.map f) (by simp; omega)
    simp -implicitDefEqProofs only [R.seq_eq, R.T.ret_bind, R.T.bind_assoc, R.T.stuck_bind, R.T.draw_bind, R.nxT_nx, R.nxT_ret, R.nxT_brk, R.nxT_ct, R.onT_nx, R.onT_ct, R.onT_brk, R.onT_ret, R.finT_ret, R.finT_nx, R.setT, R.retT, R.getv_0, R.getv_s, R.put_zero, R.put_succ, R.nth_zero, R.nth_succ, R.ifT, R.andT, R.orT, R.notT, R.bV, R.eq_int, R.ne_int, R.eq_str, R.ne_str, R.nox_ret, R.nox_draw, R.draw_eq, R.andV, R.orV, R.notV, R.iteT, R.chainT, R.lstT, R.tupT, R.par2T, R.par3T, R.asgO, R.asg_n, R.asg_t, R.asgs_nil, R.asgs_cons, R.turnT, R.appT, R.add_int, R.add_str, R.add_list, R.add_tup, R.sub_int, R.mul_int, R.fdiv_int, R.mod_int, R.neg_int, R.shr_int, R.shl_int, R.pow_int, R.lt_int, R.le_int, R.gt_int, R.ge_int, R.addI_int, R.tru_none, R.tru_bool, R.tru_int, R.tru_list, R.tru_tup, R.idx_t0, R.idx_t1, R.idx_t2, R.idx_t3, R.idx_l0, R.idx_l1, R.slice_list, R.slice_tup, R.part_int, R.max_i, R.min_i, R.items_list, R.items_tup, R.tuple_list, R.tuple_tup, R.list_list, R.list_tup, R.len_list, R.len_tup, R.len_str, R.isa_tt, R.isa_tl, R.isa_ti, R.isa_tb, R.isa_ts, R.isa_tn, R.isa_ii, R.isa_ib, R.isa_is, R.isa_in, R.isa_il, R.isa_it, R.isa_bi, R.isa_bb, R.isa_bs, R.isa_bn, R.isa_bl, R.isa_bt, R.isa_ss, R.isa_si, R.isa_sb, R.isa_sn, R.isa_sl, R.isa_st, R.isa_ll, R.isa_lt, R.zip_tup, R.zip_list, R.enum_list, R.need_tt, R.rev_list, R.rev_tup, R.isb_eq, R.isntb_eq, Option.bind_some, if_true, if_false, Bool.false_eq_true, Bool.not_true, Bool.not_false, R.enum2_list, R.enum2_tup, R.cat_list, R.listRg_int, R.slice_str, R.strO_str, R.isB_bool, R.isNone_none, R.isNone_int, R.isNone_bool, R.isNone_str, R.isNone_tup, R.isNone_list, R.isn_eq, R.isntn_eq, R.extT, R.ext_list, R.mulL_int, R.draw0, R.draw1, R.draw2, R.orX, R.andX, e]
    refine .ret ⟨ws, rfl, fun w hw' => ?_, by rw [wl, List.length_map, zl]⟩
    obtain ⟨z, hz', rfl⟩ := List.mem_map.mp (hw w hw')
    show Sk 20 (if _ then _ else _)
    split
    · exact (hx.app ((hz z hz').cut _ _)).mono (by omega)
    · exact (hz z hz').mono (by omega)
  · have l1 := hx.len
    have l2 := ((hz z hz').cut (some 1) none).len
    have l3 := (hz z hz').len
    rw [comp_n]
    unfold x3__law_names
    simp -implicitDefEqProofs (disch := omega) only [R.seq_eq, R.T.ret_bind, R.T.bind_assoc, R.T.stuck_bind, R.T.draw_bind, R.nxT_nx, R.nxT_ret, R.nxT_brk, R.nxT_ct, R.onT_nx, R.onT_ct, R.onT_brk, R.onT_ret, R.finT_ret, R.finT_nx, R.setT, R.retT, R.getv_0, R.getv_s, R.put_zero, R.put_succ, R.nth_zero, R.nth_succ, R.ifT, R.andT, R.orT, R.notT, R.bV, R.eq_int, R.ne_int, R.eq_str, R.ne_str, R.nox_ret, R.nox_draw, R.draw_eq, R.andV, R.orV, R.notV, R.iteT, R.chainT, R.lstT, R.tupT, R.par2T, R.par3T, R.asgO, R.asg_n, R.asg_t, R.asgs_nil, R.asgs_cons, R.turnT, R.appT, R.add_int, R.add_str, R.add_list, R.add_tup, R.sub_int, R.mul_int, R.fdiv_int, R.mod_int, R.neg_int, R.shr_int, R.shl_int, R.pow_int, R.lt_int, R.le_int, R.gt_int, R.ge_int, R.addI_int, R.tru_none, R.tru_bool, R.tru_int, R.tru_list, R.tru_tup, R.idx_t0, R.idx_t1, R.idx_t2, R.idx_t3, R.idx_l0, R.idx_l1, R.slice_list, R.slice_tup, R.part_int, R.max_i, R.min_i, R.items_list, R.items_tup, R.tuple_list, R.tuple_tup, R.list_list, R.list_tup, R.len_list, R.len_tup, R.len_str, R.isa_tt, R.isa_tl, R.isa_ti, R.isa_tb, R.isa_ts, R.isa_tn, R.isa_ii, R.isa_ib, R.isa_is, R.isa_in, R.isa_il, R.isa_it, R.isa_bi, R.isa_bb, R.isa_bs, R.isa_bn, R.isa_bl, R.isa_bt, R.isa_ss, R.isa_si, R.isa_sb, R.isa_sn, R.isa_sl, R.isa_st, R.isa_ll, R.isa_lt, R.zip_tup, R.zip_list, R.enum_list, R.need_tt, R.rev_list, R.rev_tup, R.isb_eq, R.isntb_eq, Option.bind_some, if_true, if_false, Bool.false_eq_true, Bool.not_true, Bool.not_false, R.enum2_list, R.enum2_tup, R.cat_list, R.listRg_int, R.slice_str, R.strO_str, R.isB_bool, R.isNone_none, R.isNone_int, R.isNone_bool, R.isNone_str, R.isNone_tup, R.isNone_list, R.isn_eq, R.isntn_eq, R.extT, R.ext_list, R.mulL_int, R.draw0, R.draw1, R.draw2, R.orX, R.andX, R.need_p, if_pos, if_neg, PySem.sizeLine_eq, List.length_cons, List.length_nil, List.length_map, List.length_append, decide_eq_true_eq, Bool.not_eq_true', Bool.not_eq_eq_eq_not, decide_eq_false_iff_not, wiped, List.set, in_flat (d := .str z) (ds := [.str "home", .str "none"]) rfl rfl]
    show _ = T.ret (some (PyData.str (if inB [.str "home", .str "none"] (.str z) = true then ("x" : Str) ++ L2.cutS z (some 1) none else z)))
    cases inB [.str "home", .str "none"] (.str z)
    · simp -implicitDefEqProofs (disch := omega) only [R.seq_eq, R.T.ret_bind, R.T.bind_assoc, R.T.stuck_bind, R.T.draw_bind, R.nxT_nx, R.nxT_ret, R.nxT_brk, R.nxT_ct, R.onT_nx, R.onT_ct, R.onT_brk, R.onT_ret, R.finT_ret, R.finT_nx, R.setT, R.retT, R.getv_0, R.getv_s, R.put_zero, R.put_succ, R.nth_zero, R.nth_succ, R.ifT, R.andT, R.orT, R.notT, R.bV, R.eq_int, R.ne_int, R.eq_str, R.ne_str, R.nox_ret, R.nox_draw, R.draw_eq, R.andV, R.orV, R.notV, R.iteT, R.chainT, R.lstT, R.tupT, R.par2T, R.par3T, R.asgO, R.asg_n, R.asg_t, R.asgs_nil, R.asgs_cons, R.turnT, R.appT, R.add_int, R.add_str, R.add_list, R.add_tup, R.sub_int, R.mul_int, R.fdiv_int, R.mod_int, R.neg_int, R.shr_int, R.shl_int, R.pow_int, R.lt_int, R.le_int, R.gt_int, R.ge_int, R.addI_int, R.tru_none, R.tru_bool, R.tru_int, R.tru_list, R.tru_tup, R.idx_t0, R.idx_t1, R.idx_t2, R.idx_t3, R.idx_l0, R.idx_l1, R.slice_list, R.slice_tup, R.part_int, R.max_i, R.min_i, R.items_list, R.items_tup, R.tuple_list, R.tuple_tup, R.list_list, R.list_tup, R.len_list, R.len_tup, R.len_str, R.isa_tt, R.isa_tl, R.isa_ti, R.isa_tb, R.isa_ts, R.isa_tn, R.isa_ii, R.isa_ib, R.isa_is, R.isa_in, R.isa_il, R.isa_it, R.isa_bi, R.isa_bb, R.isa_bs, R.isa_bn, R.isa_bl, R.isa_bt, R.isa_ss, R.isa_si, R.isa_sb, R.isa_sn, R.isa_sl, R.isa_st, R.isa_ll, R.isa_lt, R.zip_tup, R.zip_list, R.enum_list, R.need_tt, R.rev_list, R.rev_tup, R.isb_eq, R.isntb_eq, Option.bind_some, if_true, if_false, Bool.false_eq_true, Bool.not_true, Bool.not_false, R.enum2_list, R.enum2_tup, R.cat_list, R.listRg_int, R.slice_str, R.strO_str, R.isB_bool, R.isNone_none, R.isNone_int, R.isNone_bool, R.isNone_str, R.isNone_tup, R.isNone_list, R.isn_eq, R.isntn_eq, R.extT, R.ext_list, R.mulL_int, R.draw0, R.draw1, R.draw2, R.orX, R.andX, R.need_p, if_pos, if_neg, PySem.sizeLine_eq, List.length_cons, List.length_nil, List.length_map, List.length_append, decide_eq_true_eq, Bool.not_eq_true', Bool.not_eq_eq_eq_not, decide_eq_false_iff_not]
    · simp -implicitDefEqProofs (disch := omega) only [R.seq_eq, R.T.ret_bind, R.T.bind_assoc, R.T.stuck_bind, R.T.draw_bind, R.nxT_nx, R.nxT_ret, R.nxT_brk, R.nxT_ct, R.onT_nx, R.onT_ct, R.onT_brk, R.onT_ret, R.finT_ret, R.finT_nx, R.setT, R.retT, R.getv_0, R.getv_s, R.put_zero, R.put_succ, R.nth_zero, R.nth_succ, R.ifT, R.andT, R.orT, R.notT, R.bV, R.eq_int, R.ne_int, R.eq_str, R.ne_str, R.nox_ret, R.nox_draw, R.draw_eq, R.andV, R.orV, R.notV, R.iteT, R.chainT, R.lstT, R.tupT, R.par2T, R.par3T, R.asgO, R.asg_n, R.asg_t, R.asgs_nil, R.asgs_cons, R.turnT, R.appT, R.add_int, R.add_str, R.add_list, R.add_tup, R.sub_int, R.mul_int, R.fdiv_int, R.mod_int, R.neg_int, R.shr_int, R.shl_int, R.pow_int, R.lt_int, R.le_int, R.gt_int, R.ge_int, R.addI_int, R.tru_none, R.tru_bool, R.tru_int, R.tru_list, R.tru_tup, R.idx_t0, R.idx_t1, R.idx_t2, R.idx_t3, R.idx_l0, R.idx_l1, R.slice_list, R.slice_tup, R.part_int, R.max_i, R.min_i, R.items_list, R.items_tup, R.tuple_list, R.tuple_tup, R.list_list, R.list_tup, R.len_list, R.len_tup, R.len_str, R.isa_tt, R.isa_tl, R.isa_ti, R.isa_tb, R.isa_ts, R.isa_tn, R.isa_ii, R.isa_ib, R.isa_is, R.isa_in, R.isa_il, R.isa_it, R.isa_bi, R.isa_bb, R.isa_bs, R.isa_bn, R.isa_bl, R.isa_bt, R.isa_ss, R.isa_si, R.isa_sb, R.isa_sn, R.isa_sl, R.isa_st, R.isa_ll, R.isa_lt, R.zip_tup, R.zip_list, R.enum_list, R.need_tt, R.rev_list, R.rev_tup, R.isb_eq, R.isntb_eq, Option.bind_some, if_true, if_false, Bool.false_eq_true, Bool.not_true, Bool.not_false, R.enum2_list, R.enum2_tup, R.cat_list, R.listRg_int, R.slice_str, R.strO_str, R.isB_bool, R.isNone_none, R.isNone_int, R.isNone_bool, R.isNone_str, R.isNone_tup, R.isNone_list, R.isn_eq, R.isntn_eq, R.extT, R.ext_list, R.mulL_int, R.draw0, R.draw1, R.draw2, R.orX, R.andX, R.need_p, if_pos, if_neg, PySem.sizeLine_eq, List.length_cons, List.length_nil, List.length_map, List.length_append, decide_eq_true_eq, Bool.not_eq_true', Bool.not_eq_eq_eq_not, decide_eq_false_iff_not]
end Lw

set_option Elab.async false
set_option linter.all false
set_option maxRecDepth 100000
set_option maxHeartbeats 1000000
namespace Lw
open PySem R
def PR (names spots words : List PyData) (m : Nat) (ρ : R.Env) : Prop := ∃ (rls : List Rule) (x6 x7 x8 : Option PyData), ρ = [some (dkD 1), some (.list names), some (.list spots), some (.list words), some (.int 8), some (.list (rls.map encR)), x6, x7, x8] ∧ (∀ r ∈ rls, ruleOk r) ∧ rls.length ≤ m
theorem rules_all {names spots words : List PyData} (n0 : names ≠ []) (n1 : names.length < 1000) (hn : ∀ d ∈ names, ∃ z, d = .str z ∧ Sk 20 z) (s0 : spots ≠ []) (s1 : spots.length < 1000) (hs : ∀ d ∈ spots, spotD d) (w0 : words ≠ []) (w1 : words.length < 1000) (hw : ∀ d ∈ words, wordOk d) :
    AllE (m__law_rules [dkD 1, .list names, .list spots, .list words, .int 8]) fun d => ∃ rls : List Rule, d = .tuple (rls.map encR) ∧ (∀ r ∈ rls, ruleOk r) ∧ rls.length ≤ 8 := by
  rw [e__law_rules]
  refine AllE.nox ?_
  unfold b__law_rules
  simp -implicitDefEqProofs (disch := omega) only [R.seq_eq, R.T.ret_bind, R.T.bind_assoc, R.T.stuck_bind, R.T.draw_bind, R.nxT_nx, R.nxT_ret, R.nxT_brk, R.nxT_ct, R.onT_nx, R.onT_ct, R.onT_brk, R.onT_ret, R.finT_ret, R.finT_nx, R.setT, R.retT, R.getv_0, R.getv_s, R.put_zero, R.put_succ, R.nth_zero, R.nth_succ, R.ifT, R.andT, R.orT, R.notT, R.bV, R.eq_int, R.ne_int, R.eq_str, R.ne_str, R.nox_ret, R.nox_draw, R.draw_eq, R.andV, R.orV, R.notV, R.iteT, R.chainT, R.lstT, R.tupT, R.par2T, R.par3T, R.asgO, R.asg_n, R.asg_t, R.asgs_nil, R.asgs_cons, R.turnT, R.appT, R.add_int, R.add_str, R.add_list, R.add_tup, R.sub_int, R.mul_int, R.fdiv_int, R.mod_int, R.neg_int, R.shr_int, R.shl_int, R.pow_int, R.lt_int, R.le_int, R.gt_int, R.ge_int, R.addI_int, R.tru_none, R.tru_bool, R.tru_int, R.tru_list, R.tru_tup, R.idx_t0, R.idx_t1, R.idx_t2, R.idx_t3, R.idx_l0, R.idx_l1, R.slice_list, R.slice_tup, R.part_int, R.max_i, R.min_i, R.items_list, R.items_tup, R.tuple_list, R.tuple_tup, R.list_list, R.list_tup, R.len_list, R.len_tup, R.len_str, R.isa_tt, R.isa_tl, R.isa_ti, R.isa_tb, R.isa_ts, R.isa_tn, R.isa_ii, R.isa_ib, R.isa_is, R.isa_in, R.isa_il, R.isa_it, R.isa_bi, R.isa_bb, R.isa_bs, R.isa_bn, R.isa_bl, R.isa_bt, R.isa_ss, R.isa_si, R.isa_sb, R.isa_sn, R.isa_sl, R.isa_st, R.isa_ll, R.isa_lt, R.zip_tup, R.zip_list, R.enum_list, R.need_tt, R.rev_list, R.rev_tup, R.isb_eq, R.isntb_eq, Option.bind_some, if_true, if_false, Bool.false_eq_true, Bool.not_true, Bool.not_false, R.enum2_list, R.enum2_tup, R.cat_list, R.listRg_int, R.slice_str, R.strO_str, R.isB_bool, R.isNone_none, R.isNone_int, R.isNone_bool, R.isNone_str, R.isNone_tup, R.isNone_list, R.isn_eq, R.isntn_eq, R.extT, R.ext_list, R.mulL_int, R.draw0, R.draw1, R.draw2, R.orX, R.andX, Bool.true_eq_false, R.need_p, if_pos, if_neg, PySem.sizeLine_eq, List.length_cons, List.length_nil, List.length_map, List.length_append, decide_eq_true_eq, Bool.not_eq_true', Bool.not_eq_eq_eq_not, decide_eq_false_iff_not]
  refine .draw (by decide) (by decide) fun r a b => ?_
  obtain ⟨n, rfl⟩ : ∃ n : Nat, r = n := ⟨r.toNat, by omega⟩
  simp -implicitDefEqProofs (disch := omega) only [R.seq_eq, R.T.ret_bind, R.T.bind_assoc, R.T.stuck_bind, R.T.draw_bind, R.nxT_nx, R.nxT_ret, R.nxT_brk, R.nxT_ct, R.onT_nx, R.onT_ct, R.onT_brk, R.onT_ret, R.finT_ret, R.finT_nx, R.setT, R.retT, R.getv_0, R.getv_s, R.put_zero, R.put_succ, R.nth_zero, R.nth_succ, R.ifT, R.andT, R.orT, R.notT, R.bV, R.eq_int, R.ne_int, R.eq_str, R.ne_str, R.nox_ret, R.nox_draw, R.draw_eq, R.andV, R.orV, R.notV, R.iteT, R.chainT, R.lstT, R.tupT, R.par2T, R.par3T, R.asgO, R.asg_n, R.asg_t, R.asgs_nil, R.asgs_cons, R.turnT, R.appT, R.add_int, R.add_str, R.add_list, R.add_tup, R.sub_int, R.mul_int, R.fdiv_int, R.mod_int, R.neg_int, R.shr_int, R.shl_int, R.pow_int, R.lt_int, R.le_int, R.gt_int, R.ge_int, R.addI_int, R.tru_none, R.tru_bool, R.tru_int, R.tru_list, R.tru_tup, R.idx_t0, R.idx_t1, R.idx_t2, R.idx_t3, R.idx_l0, R.idx_l1, R.slice_list, R.slice_tup, R.part_int, R.max_i, R.min_i, R.items_list, R.items_tup, R.tuple_list, R.tuple_tup, R.list_list, R.list_tup, R.len_list, R.len_tup, R.len_str, R.isa_tt, R.isa_tl, R.isa_ti, R.isa_tb, R.isa_ts, R.isa_tn, R.isa_ii, R.isa_ib, R.isa_is, R.isa_in, R.isa_il, R.isa_it, R.isa_bi, R.isa_bb, R.isa_bs, R.isa_bn, R.isa_bl, R.isa_bt, R.isa_ss, R.isa_si, R.isa_sb, R.isa_sn, R.isa_sl, R.isa_st, R.isa_ll, R.isa_lt, R.zip_tup, R.zip_list, R.enum_list, R.need_tt, R.rev_list, R.rev_tup, R.isb_eq, R.isntb_eq, Option.bind_some, if_true, if_false, Bool.false_eq_true, Bool.not_true, Bool.not_false, R.enum2_list, R.enum2_tup, R.cat_list, R.listRg_int, R.slice_str, R.strO_str, R.isB_bool, R.isNone_none, R.isNone_int, R.isNone_bool, R.isNone_str, R.isNone_tup, R.isNone_list, R.isn_eq, R.isntn_eq, R.extT, R.ext_list, R.mulL_int, R.draw0, R.draw1, R.draw2, R.orX, R.andX, Bool.true_eq_false, R.need_p, if_pos, if_neg, PySem.sizeLine_eq, List.length_cons, List.length_nil, List.length_map, List.length_append, decide_eq_true_eq, Bool.not_eq_true', Bool.not_eq_eq_eq_not, decide_eq_false_iff_not, range1 (show (0 : Int) ≤ n by omega) (show (n : Int) < 4611686018427387904 by omega), Int.toNat_natCast]
  refine AllE.bind (for_cnt (P := PR names spots words) 1 8 (m := 0) (fun d hd m ρ hm hρ => ?_) (by rw [rangeL_length]; omega) ⟨[], none, none, none, rfl, by simp, by simp⟩) fun o ho => ?_
  · obtain ⟨rls, x6, x7, x8, rfl, hr, hl⟩ := hρ
    unfold t1__law_rules
    simp -implicitDefEqProofs only [R.seq_eq, R.T.ret_bind, R.T.bind_assoc, R.T.stuck_bind, R.T.draw_bind, R.nxT_nx, R.nxT_ret, R.nxT_brk, R.nxT_ct, R.onT_nx, R.onT_ct, R.onT_brk, R.onT_ret, R.finT_ret, R.finT_nx, R.setT, R.retT, R.getv_0, R.getv_s, R.put_zero, R.put_succ, R.nth_zero, R.nth_succ, R.ifT, R.andT, R.orT, R.notT, R.bV, R.eq_int, R.ne_int, R.eq_str, R.ne_str, R.nox_ret, R.nox_draw, R.draw_eq, R.andV, R.orV, R.notV, R.iteT, R.chainT, R.lstT, R.tupT, R.par2T, R.par3T, R.asgO, R.asg_n, R.asg_t, R.asgs_nil, R.asgs_cons, R.turnT, R.appT, R.add_int, R.add_str, R.add_list, R.add_tup, R.sub_int, R.mul_int, R.fdiv_int, R.mod_int, R.neg_int, R.shr_int, R.shl_int, R.pow_int, R.lt_int, R.le_int, R.gt_int, R.ge_int, R.addI_int, R.tru_none, R.tru_bool, R.tru_int, R.tru_list, R.tru_tup, R.idx_t0, R.idx_t1, R.idx_t2, R.idx_t3, R.idx_l0, R.idx_l1, R.slice_list, R.slice_tup, R.part_int, R.max_i, R.min_i, R.items_list, R.items_tup, R.tuple_list, R.tuple_tup, R.list_list, R.list_tup, R.len_list, R.len_tup, R.len_str, R.isa_tt, R.isa_tl, R.isa_ti, R.isa_tb, R.isa_ts, R.isa_tn, R.isa_ii, R.isa_ib, R.isa_is, R.isa_in, R.isa_il, R.isa_it, R.isa_bi, R.isa_bb, R.isa_bs, R.isa_bn, R.isa_bl, R.isa_bt, R.isa_ss, R.isa_si, R.isa_sb, R.isa_sn, R.isa_sl, R.isa_st, R.isa_ll, R.isa_lt, R.zip_tup, R.zip_list, R.enum_list, R.need_tt, R.rev_list, R.rev_tup, R.isb_eq, R.isntb_eq, Option.bind_some, if_true, if_false, Bool.false_eq_true, Bool.not_true, Bool.not_false, R.enum2_list, R.enum2_tup, R.cat_list, R.listRg_int, R.slice_str, R.strO_str, R.isB_bool, R.isNone_none, R.isNone_int, R.isNone_bool, R.isNone_str, R.isNone_tup, R.isNone_list, R.isn_eq, R.isntn_eq, R.extT, R.ext_list, R.mulL_int, R.draw0, R.draw1, R.draw2, R.orX, R.andX]
    refine AllE.bind (pick_all s0 s1 hs) fun s hs1 => ?_
    obtain ⟨s, rfl, q1, q2⟩ := hs1
    refine AllE.bind (about_all q1 q2) fun b1 hb1 => ?_
    obtain ⟨p, rfl, p1, p2, p3, p4⟩ := hb1
    have e1 : idxD (blk p) (.int 1) = .ret (.int p.2) := rfl
    simp -implicitDefEqProofs (disch := omega) only [R.seq_eq, R.T.ret_bind, R.T.bind_assoc, R.T.stuck_bind, R.T.draw_bind, R.nxT_nx, R.nxT_ret, R.nxT_brk, R.nxT_ct, R.onT_nx, R.onT_ct, R.onT_brk, R.onT_ret, R.finT_ret, R.finT_nx, R.setT, R.retT, R.getv_0, R.getv_s, R.put_zero, R.put_succ, R.nth_zero, R.nth_succ, R.ifT, R.andT, R.orT, R.notT, R.bV, R.eq_int, R.ne_int, R.eq_str, R.ne_str, R.nox_ret, R.nox_draw, R.draw_eq, R.andV, R.orV, R.notV, R.iteT, R.chainT, R.lstT, R.tupT, R.par2T, R.par3T, R.asgO, R.asg_n, R.asg_t, R.asgs_nil, R.asgs_cons, R.turnT, R.appT, R.add_int, R.add_str, R.add_list, R.add_tup, R.sub_int, R.mul_int, R.fdiv_int, R.mod_int, R.neg_int, R.shr_int, R.shl_int, R.pow_int, R.lt_int, R.le_int, R.gt_int, R.ge_int, R.addI_int, R.tru_none, R.tru_bool, R.tru_int, R.tru_list, R.tru_tup, R.idx_t0, R.idx_t1, R.idx_t2, R.idx_t3, R.idx_l0, R.idx_l1, R.slice_list, R.slice_tup, R.part_int, R.max_i, R.min_i, R.items_list, R.items_tup, R.tuple_list, R.tuple_tup, R.list_list, R.list_tup, R.len_list, R.len_tup, R.len_str, R.isa_tt, R.isa_tl, R.isa_ti, R.isa_tb, R.isa_ts, R.isa_tn, R.isa_ii, R.isa_ib, R.isa_is, R.isa_in, R.isa_il, R.isa_it, R.isa_bi, R.isa_bb, R.isa_bs, R.isa_bn, R.isa_bl, R.isa_bt, R.isa_ss, R.isa_si, R.isa_sb, R.isa_sn, R.isa_sl, R.isa_st, R.isa_ll, R.isa_lt, R.zip_tup, R.zip_list, R.enum_list, R.need_tt, R.rev_list, R.rev_tup, R.isb_eq, R.isntb_eq, Option.bind_some, if_true, if_false, Bool.false_eq_true, Bool.not_true, Bool.not_false, R.enum2_list, R.enum2_tup, R.cat_list, R.listRg_int, R.slice_str, R.strO_str, R.isB_bool, R.isNone_none, R.isNone_int, R.isNone_bool, R.isNone_str, R.isNone_tup, R.isNone_list, R.isn_eq, R.isntn_eq, R.extT, R.ext_list, R.mulL_int, R.draw0, R.draw1, R.draw2, R.orX, R.andX, Bool.true_eq_false, R.need_p, if_pos, if_neg, PySem.sizeLine_eq, List.length_cons, List.length_nil, List.length_map, List.length_append, decide_eq_true_eq, Bool.not_eq_true', Bool.not_eq_eq_eq_not, decide_eq_false_iff_not, e1]
    refine .draw (by decide) (by decide) fun r17 a17 b17 => ?_
    refine .draw (by decide) (by decide) fun r4 a4 b4 => ?_
    obtain ⟨d, e2, v, rfl, v0, v1⟩ := at_all (P := lenD') (L := [.int 16, .int p.2, .int (min 16 (p.2 + 1)), .int r17]) (fun d hd => by
      simp only [List.mem_cons, List.not_mem_nil, or_false] at hd
      rcases hd with rfl | rfl | rfl | rfl <;> exact ⟨_, rfl, by omega, by omega⟩) a4 (by simpa using b4)
    simp -implicitDefEqProofs (disch := omega) only [R.seq_eq, R.T.ret_bind, R.T.bind_assoc, R.T.stuck_bind, R.T.draw_bind, R.nxT_nx, R.nxT_ret, R.nxT_brk, R.nxT_ct, R.onT_nx, R.onT_ct, R.onT_brk, R.onT_ret, R.finT_ret, R.finT_nx, R.setT, R.retT, R.getv_0, R.getv_s, R.put_zero, R.put_succ, R.nth_zero, R.nth_succ, R.ifT, R.andT, R.orT, R.notT, R.bV, R.eq_int, R.ne_int, R.eq_str, R.ne_str, R.nox_ret, R.nox_draw, R.draw_eq, R.andV, R.orV, R.notV, R.iteT, R.chainT, R.lstT, R.tupT, R.par2T, R.par3T, R.asgO, R.asg_n, R.asg_t, R.asgs_nil, R.asgs_cons, R.turnT, R.appT, R.add_int, R.add_str, R.add_list, R.add_tup, R.sub_int, R.mul_int, R.fdiv_int, R.mod_int, R.neg_int, R.shr_int, R.shl_int, R.pow_int, R.lt_int, R.le_int, R.gt_int, R.ge_int, R.addI_int, R.tru_none, R.tru_bool, R.tru_int, R.tru_list, R.tru_tup, R.idx_t0, R.idx_t1, R.idx_t2, R.idx_t3, R.idx_l0, R.idx_l1, R.slice_list, R.slice_tup, R.part_int, R.max_i, R.min_i, R.items_list, R.items_tup, R.tuple_list, R.tuple_tup, R.list_list, R.list_tup, R.len_list, R.len_tup, R.len_str, R.isa_tt, R.isa_tl, R.isa_ti, R.isa_tb, R.isa_ts, R.isa_tn, R.isa_ii, R.isa_ib, R.isa_is, R.isa_in, R.isa_il, R.isa_it, R.isa_bi, R.isa_bb, R.isa_bs, R.isa_bn, R.isa_bl, R.isa_bt, R.isa_ss, R.isa_si, R.isa_sb, R.isa_sn, R.isa_sl, R.isa_st, R.isa_ll, R.isa_lt, R.zip_tup, R.zip_list, R.enum_list, R.need_tt, R.rev_list, R.rev_tup, R.isb_eq, R.isntb_eq, Option.bind_some, if_true, if_false, Bool.false_eq_true, Bool.not_true, Bool.not_false, R.enum2_list, R.enum2_tup, R.cat_list, R.listRg_int, R.slice_str, R.strO_str, R.isB_bool, R.isNone_none, R.isNone_int, R.isNone_bool, R.isNone_str, R.isNone_tup, R.isNone_list, R.isn_eq, R.isntn_eq, R.extT, R.ext_list, R.mulL_int, R.draw0, R.draw1, R.draw2, R.orX, R.andX, Bool.true_eq_false, R.need_p, if_pos, if_neg, PySem.sizeLine_eq, List.length_cons, List.length_nil, List.length_map, List.length_append, decide_eq_true_eq, Bool.not_eq_true', Bool.not_eq_eq_eq_not, decide_eq_false_iff_not, idx_list _ _ e2]
    refine AllE.bind (pick_all n0 n1 hn) fun z hz => ?_
    obtain ⟨z, rfl, hz⟩ := hz
    refine AllE.bind (pick_all w0 w1 hw) fun w hw => ?_
    refine .ret ⟨_, rfl, rls ++ [⟨z, p, v, w⟩], some d, some (blk p), some (.int v), ?_, fun q hq => ?_, by simp; omega⟩
    · rw [List.map_append]; rfl
    · rcases List.mem_append.mp hq with hq | hq
      · exact hr q hq
      · rw [List.mem_singleton.mp hq]; exact ⟨hz, ⟨p1, p2, p3, p4⟩, ⟨v0, v1⟩, hw⟩
  · obtain ⟨ρ', rfl, rls, x6, x7, x8, rfl, hr, hl⟩ := ho
    rw [rangeL_length] at hl
    simp -implicitDefEqProofs only [R.seq_eq, R.T.ret_bind, R.T.bind_assoc, R.T.stuck_bind, R.T.draw_bind, R.nxT_nx, R.nxT_ret, R.nxT_brk, R.nxT_ct, R.onT_nx, R.onT_ct, R.onT_brk, R.onT_ret, R.finT_ret, R.finT_nx, R.setT, R.retT, R.getv_0, R.getv_s, R.put_zero, R.put_succ, R.nth_zero, R.nth_succ, R.ifT, R.andT, R.orT, R.notT, R.bV, R.eq_int, R.ne_int, R.eq_str, R.ne_str, R.nox_ret, R.nox_draw, R.draw_eq, R.andV, R.orV, R.notV, R.iteT, R.chainT, R.lstT, R.tupT, R.par2T, R.par3T, R.asgO, R.asg_n, R.asg_t, R.asgs_nil, R.asgs_cons, R.turnT, R.appT, R.add_int, R.add_str, R.add_list, R.add_tup, R.sub_int, R.mul_int, R.fdiv_int, R.mod_int, R.neg_int, R.shr_int, R.shl_int, R.pow_int, R.lt_int, R.le_int, R.gt_int, R.ge_int, R.addI_int, R.tru_none, R.tru_bool, R.tru_int, R.tru_list, R.tru_tup, R.idx_t0, R.idx_t1, R.idx_t2, R.idx_t3, R.idx_l0, R.idx_l1, R.slice_list, R.slice_tup, R.part_int, R.max_i, R.min_i, R.items_list, R.items_tup, R.tuple_list, R.tuple_tup, R.list_list, R.list_tup, R.len_list, R.len_tup, R.len_str, R.isa_tt, R.isa_tl, R.isa_ti, R.isa_tb, R.isa_ts, R.isa_tn, R.isa_ii, R.isa_ib, R.isa_is, R.isa_in, R.isa_il, R.isa_it, R.isa_bi, R.isa_bb, R.isa_bs, R.isa_bn, R.isa_bl, R.isa_bt, R.isa_ss, R.isa_si, R.isa_sb, R.isa_sn, R.isa_sl, R.isa_st, R.isa_ll, R.isa_lt, R.zip_tup, R.zip_list, R.enum_list, R.need_tt, R.rev_list, R.rev_tup, R.isb_eq, R.isntb_eq, Option.bind_some, if_true, if_false, Bool.false_eq_true, Bool.not_true, Bool.not_false, R.enum2_list, R.enum2_tup, R.cat_list, R.listRg_int, R.slice_str, R.strO_str, R.isB_bool, R.isNone_none, R.isNone_int, R.isNone_bool, R.isNone_str, R.isNone_tup, R.isNone_list, R.isn_eq, R.isntn_eq, R.extT, R.ext_list, R.mulL_int, R.draw0, R.draw1, R.draw2, R.orX, R.andX]
    exact .ret ⟨rls, rfl, hr, by omega⟩
def areaD (d : PyData) : Prop := ∃ p : Bk, d = blk p ∧ p.1.natAbs < 1000000 ∧ p.2.natAbs < 1000000
def PA (rls : List Rule) (spots : List PyData) (m : Nat) (ρ : R.Env) : Prop := ∃ (fs : List PyData) (x4 x5 x6 x7 x8 x9 : Option PyData), ρ = [some (dkD 1), some (.tuple (rls.map encR)), some (.list spots), some (.list fs), x4, x5, x6, x7, x8, x9, none] ∧ (∀ d ∈ fs, areaD d) ∧ fs.length ≤ m
theorem areas_all {rls : List Rule} {spots : List PyData} (hr : ∀ r ∈ rls, ruleOk r) (hl : rls.length ≤ 16) (s1 : spots.length < 100) (hs : ∀ d ∈ spots, spotD d) :
    AllE (m__law_areas [dkD 1, .tuple (rls.map encR), .list spots]) fun d => ∃ fs, d = .list fs ∧ ∀ d ∈ fs, areaD d := by
  have comp : ∀ (te : R.Env → T PyData), te = x1__law_areas ∨ te = x2__law_areas → ∀ d ∈ spots, AllE (compT (.n 10) (fun _ => T.ret true) te (wiped [some (dkD 1), some (.tuple (rls.map encR)), some (.list spots), none, none, none, none, none, none, none, none] [10]) d) fun o => ∃ y, o = some y ∧ areaD y := fun te ht d hd => by
    obtain ⟨x, rfl, x0, x1⟩ := hs d hd
    rw [comp_n]
    rcases ht with rfl | rfl
    · unfold x1__law_areas
      simp -implicitDefEqProofs only [R.seq_eq, R.T.ret_bind, R.T.bind_assoc, R.T.stuck_bind, R.T.draw_bind, R.nxT_nx, R.nxT_ret, R.nxT_brk, R.nxT_ct, R.onT_nx, R.onT_ct, R.onT_brk, R.onT_ret, R.finT_ret, R.finT_nx, R.setT, R.retT, R.getv_0, R.getv_s, R.put_zero, R.put_succ, R.nth_zero, R.nth_succ, R.ifT, R.andT, R.orT, R.notT, R.bV, R.eq_int, R.ne_int, R.eq_str, R.ne_str, R.nox_ret, R.nox_draw, R.draw_eq, R.andV, R.orV, R.notV, R.iteT, R.chainT, R.lstT, R.tupT, R.par2T, R.par3T, R.asgO, R.asg_n, R.asg_t, R.asgs_nil, R.asgs_cons, R.turnT, R.appT, R.add_int, R.add_str, R.add_list, R.add_tup, R.sub_int, R.mul_int, R.fdiv_int, R.mod_int, R.neg_int, R.shr_int, R.shl_int, R.pow_int, R.lt_int, R.le_int, R.gt_int, R.ge_int, R.addI_int, R.tru_none, R.tru_bool, R.tru_int, R.tru_list, R.tru_tup, R.idx_t0, R.idx_t1, R.idx_t2, R.idx_t3, R.idx_l0, R.idx_l1, R.slice_list, R.slice_tup, R.part_int, R.max_i, R.min_i, R.items_list, R.items_tup, R.tuple_list, R.tuple_tup, R.list_list, R.list_tup, R.len_list, R.len_tup, R.len_str, R.isa_tt, R.isa_tl, R.isa_ti, R.isa_tb, R.isa_ts, R.isa_tn, R.isa_ii, R.isa_ib, R.isa_is, R.isa_in, R.isa_il, R.isa_it, R.isa_bi, R.isa_bb, R.isa_bs, R.isa_bn, R.isa_bl, R.isa_bt, R.isa_ss, R.isa_si, R.isa_sb, R.isa_sn, R.isa_sl, R.isa_st, R.isa_ll, R.isa_lt, R.zip_tup, R.zip_list, R.enum_list, R.need_tt, R.rev_list, R.rev_tup, R.isb_eq, R.isntb_eq, Option.bind_some, if_true, if_false, Bool.false_eq_true, Bool.not_true, Bool.not_false, R.enum2_list, R.enum2_tup, R.cat_list, R.listRg_int, R.slice_str, R.strO_str, R.isB_bool, R.isNone_none, R.isNone_int, R.isNone_bool, R.isNone_str, R.isNone_tup, R.isNone_list, R.isn_eq, R.isntn_eq, R.extT, R.ext_list, R.mulL_int, R.draw0, R.draw1, R.draw2, R.orX, R.andX, wiped, List.set]
      refine AllE.bind (AllE.nox (about_all x0 x1)) fun d hd => ?_
      obtain ⟨p, rfl, p1, p2, p3, p4⟩ := hd
      exact .ret ⟨_, rfl, p, rfl, by omega, by omega⟩
    · unfold x2__law_areas
      simp -implicitDefEqProofs only [R.seq_eq, R.T.ret_bind, R.T.bind_assoc, R.T.stuck_bind, R.T.draw_bind, R.nxT_nx, R.nxT_ret, R.nxT_brk, R.nxT_ct, R.onT_nx, R.onT_ct, R.onT_brk, R.onT_ret, R.finT_ret, R.finT_nx, R.setT, R.retT, R.getv_0, R.getv_s, R.put_zero, R.put_succ, R.nth_zero, R.nth_succ, R.ifT, R.andT, R.orT, R.notT, R.bV, R.eq_int, R.ne_int, R.eq_str, R.ne_str, R.nox_ret, R.nox_draw, R.draw_eq, R.andV, R.orV, R.notV, R.iteT, R.chainT, R.lstT, R.tupT, R.par2T, R.par3T, R.asgO, R.asg_n, R.asg_t, R.asgs_nil, R.asgs_cons, R.turnT, R.appT, R.add_int, R.add_str, R.add_list, R.add_tup, R.sub_int, R.mul_int, R.fdiv_int, R.mod_int, R.neg_int, R.shr_int, R.shl_int, R.pow_int, R.lt_int, R.le_int, R.gt_int, R.ge_int, R.addI_int, R.tru_none, R.tru_bool, R.tru_int, R.tru_list, R.tru_tup, R.idx_t0, R.idx_t1, R.idx_t2, R.idx_t3, R.idx_l0, R.idx_l1, R.slice_list, R.slice_tup, R.part_int, R.max_i, R.min_i, R.items_list, R.items_tup, R.tuple_list, R.tuple_tup, R.list_list, R.list_tup, R.len_list, R.len_tup, R.len_str, R.isa_tt, R.isa_tl, R.isa_ti, R.isa_tb, R.isa_ts, R.isa_tn, R.isa_ii, R.isa_ib, R.isa_is, R.isa_in, R.isa_il, R.isa_it, R.isa_bi, R.isa_bb, R.isa_bs, R.isa_bn, R.isa_bl, R.isa_bt, R.isa_ss, R.isa_si, R.isa_sb, R.isa_sn, R.isa_sl, R.isa_st, R.isa_ll, R.isa_lt, R.zip_tup, R.zip_list, R.enum_list, R.need_tt, R.rev_list, R.rev_tup, R.isb_eq, R.isntb_eq, Option.bind_some, if_true, if_false, Bool.false_eq_true, Bool.not_true, Bool.not_false, R.enum2_list, R.enum2_tup, R.cat_list, R.listRg_int, R.slice_str, R.strO_str, R.isB_bool, R.isNone_none, R.isNone_int, R.isNone_bool, R.isNone_str, R.isNone_tup, R.isNone_list, R.isn_eq, R.isntn_eq, R.extT, R.ext_list, R.mulL_int, R.draw0, R.draw1, R.draw2, R.orX, R.andX, wiped, List.set]
      refine AllE.bind (AllE.nox (about_all x0 x1)) fun d hd => ?_
      obtain ⟨p, rfl, p1, p2, p3, p4⟩ := hd
      exact .ret ⟨_, rfl, p, rfl, by omega, by omega⟩
  rw [e__law_areas]
  refine AllE.nox ?_
  unfold b__law_areas
  simp -implicitDefEqProofs only [R.seq_eq, R.T.ret_bind, R.T.bind_assoc, R.T.stuck_bind, R.T.draw_bind, R.nxT_nx, R.nxT_ret, R.nxT_brk, R.nxT_ct, R.onT_nx, R.onT_ct, R.onT_brk, R.onT_ret, R.finT_ret, R.finT_nx, R.setT, R.retT, R.getv_0, R.getv_s, R.put_zero, R.put_succ, R.nth_zero, R.nth_succ, R.ifT, R.andT, R.orT, R.notT, R.bV, R.eq_int, R.ne_int, R.eq_str, R.ne_str, R.nox_ret, R.nox_draw, R.draw_eq, R.andV, R.orV, R.notV, R.iteT, R.chainT, R.lstT, R.tupT, R.par2T, R.par3T, R.asgO, R.asg_n, R.asg_t, R.asgs_nil, R.asgs_cons, R.turnT, R.appT, R.add_int, R.add_str, R.add_list, R.add_tup, R.sub_int, R.mul_int, R.fdiv_int, R.mod_int, R.neg_int, R.shr_int, R.shl_int, R.pow_int, R.lt_int, R.le_int, R.gt_int, R.ge_int, R.addI_int, R.tru_none, R.tru_bool, R.tru_int, R.tru_list, R.tru_tup, R.idx_t0, R.idx_t1, R.idx_t2, R.idx_t3, R.idx_l0, R.idx_l1, R.slice_list, R.slice_tup, R.part_int, R.max_i, R.min_i, R.items_list, R.items_tup, R.tuple_list, R.tuple_tup, R.list_list, R.list_tup, R.len_list, R.len_tup, R.len_str, R.isa_tt, R.isa_tl, R.isa_ti, R.isa_tb, R.isa_ts, R.isa_tn, R.isa_ii, R.isa_ib, R.isa_is, R.isa_in, R.isa_il, R.isa_it, R.isa_bi, R.isa_bb, R.isa_bs, R.isa_bn, R.isa_bl, R.isa_bt, R.isa_ss, R.isa_si, R.isa_sb, R.isa_sn, R.isa_sl, R.isa_st, R.isa_ll, R.isa_lt, R.zip_tup, R.zip_list, R.enum_list, R.need_tt, R.rev_list, R.rev_tup, R.isb_eq, R.isntb_eq, Option.bind_some, if_true, if_false, Bool.false_eq_true, Bool.not_true, Bool.not_false, R.enum2_list, R.enum2_tup, R.cat_list, R.listRg_int, R.slice_str, R.strO_str, R.isB_bool, R.isNone_none, R.isNone_int, R.isNone_bool, R.isNone_str, R.isNone_tup, R.isNone_list, R.isn_eq, R.isntn_eq, R.extT, R.ext_list, R.mulL_int, R.draw0, R.draw1, R.draw2, R.orX, R.andX]
  refine AllE.bind (lcD_allN (P := areaD) (by simp -implicitDefEqProofs only [R.seq_eq, R.T.ret_bind, R.T.bind_assoc, R.T.stuck_bind, R.T.draw_bind, R.nxT_nx, R.nxT_ret, R.nxT_brk, R.nxT_ct, R.onT_nx, R.onT_ct, R.onT_brk, R.onT_ret, R.finT_ret, R.finT_nx, R.setT, R.retT, R.getv_0, R.getv_s, R.put_zero, R.put_succ, R.nth_zero, R.nth_succ, R.ifT, R.andT, R.orT, R.notT, R.bV, R.eq_int, R.ne_int, R.eq_str, R.ne_str, R.nox_ret, R.nox_draw, R.draw_eq, R.andV, R.orV, R.notV, R.iteT, R.chainT, R.lstT, R.tupT, R.par2T, R.par3T, R.asgO, R.asg_n, R.asg_t, R.asgs_nil, R.asgs_cons, R.turnT, R.appT, R.add_int, R.add_str, R.add_list, R.add_tup, R.sub_int, R.mul_int, R.fdiv_int, R.mod_int, R.neg_int, R.shr_int, R.shl_int, R.pow_int, R.lt_int, R.le_int, R.gt_int, R.ge_int, R.addI_int, R.tru_none, R.tru_bool, R.tru_int, R.tru_list, R.tru_tup, R.idx_t0, R.idx_t1, R.idx_t2, R.idx_t3, R.idx_l0, R.idx_l1, R.slice_list, R.slice_tup, R.part_int, R.max_i, R.min_i, R.items_list, R.items_tup, R.tuple_list, R.tuple_tup, R.list_list, R.list_tup, R.len_list, R.len_tup, R.len_str, R.isa_tt, R.isa_tl, R.isa_ti, R.isa_tb, R.isa_ts, R.isa_tn, R.isa_ii, R.isa_ib, R.isa_is, R.isa_in, R.isa_il, R.isa_it, R.isa_bi, R.isa_bb, R.isa_bs, R.isa_bn, R.isa_bl, R.isa_bt, R.isa_ss, R.isa_si, R.isa_sb, R.isa_sn, R.isa_sl, R.isa_st, R.isa_ll, R.isa_lt, R.zip_tup, R.zip_list, R.enum_list, R.need_tt, R.rev_list, R.rev_tup, R.isb_eq, R.isntb_eq, Option.bind_some, if_true, if_false, Bool.false_eq_true, Bool.not_true, Bool.not_false, R.enum2_list, R.enum2_tup, R.cat_list, R.listRg_int, R.slice_str, R.strO_str, R.isB_bool, R.isNone_none, R.isNone_int, R.isNone_bool, R.isNone_str, R.isNone_tup, R.isNone_list, R.isn_eq, R.isntn_eq, R.extT, R.ext_list, R.mulL_int, R.draw0, R.draw1, R.draw2, R.orX, R.andX]) (by rw [sizeLine_eq]; omega) (comp _ (.inl rfl))) fun d hd => ?_
  obtain ⟨f1, rfl, hf1, l1⟩ := hd
  refine AllE.bind (lcD_allN (P := areaD) (by simp -implicitDefEqProofs only [R.seq_eq, R.T.ret_bind, R.T.bind_assoc, R.T.stuck_bind, R.T.draw_bind, R.nxT_nx, R.nxT_ret, R.nxT_brk, R.nxT_ct, R.onT_nx, R.onT_ct, R.onT_brk, R.onT_ret, R.finT_ret, R.finT_nx, R.setT, R.retT, R.getv_0, R.getv_s, R.put_zero, R.put_succ, R.nth_zero, R.nth_succ, R.ifT, R.andT, R.orT, R.notT, R.bV, R.eq_int, R.ne_int, R.eq_str, R.ne_str, R.nox_ret, R.nox_draw, R.draw_eq, R.andV, R.orV, R.notV, R.iteT, R.chainT, R.lstT, R.tupT, R.par2T, R.par3T, R.asgO, R.asg_n, R.asg_t, R.asgs_nil, R.asgs_cons, R.turnT, R.appT, R.add_int, R.add_str, R.add_list, R.add_tup, R.sub_int, R.mul_int, R.fdiv_int, R.mod_int, R.neg_int, R.shr_int, R.shl_int, R.pow_int, R.lt_int, R.le_int, R.gt_int, R.ge_int, R.addI_int, R.tru_none, R.tru_bool, R.tru_int, R.tru_list, R.tru_tup, R.idx_t0, R.idx_t1, R.idx_t2, R.idx_t3, R.idx_l0, R.idx_l1, R.slice_list, R.slice_tup, R.part_int, R.max_i, R.min_i, R.items_list, R.items_tup, R.tuple_list, R.tuple_tup, R.list_list, R.list_tup, R.len_list, R.len_tup, R.len_str, R.isa_tt, R.isa_tl, R.isa_ti, R.isa_tb, R.isa_ts, R.isa_tn, R.isa_ii, R.isa_ib, R.isa_is, R.isa_in, R.isa_il, R.isa_it, R.isa_bi, R.isa_bb, R.isa_bs, R.isa_bn, R.isa_bl, R.isa_bt, R.isa_ss, R.isa_si, R.isa_sb, R.isa_sn, R.isa_sl, R.isa_st, R.isa_ll, R.isa_lt, R.zip_tup, R.zip_list, R.enum_list, R.need_tt, R.rev_list, R.rev_tup, R.isb_eq, R.isntb_eq, Option.bind_some, if_true, if_false, Bool.false_eq_true, Bool.not_true, Bool.not_false, R.enum2_list, R.enum2_tup, R.cat_list, R.listRg_int, R.slice_str, R.strO_str, R.isB_bool, R.isNone_none, R.isNone_int, R.isNone_bool, R.isNone_str, R.isNone_tup, R.isNone_list, R.isn_eq, R.isntn_eq, R.extT, R.ext_list, R.mulL_int, R.draw0, R.draw1, R.draw2, R.orX, R.andX]) (by rw [sizeLine_eq]; omega) (comp _ (.inr rfl))) fun d hd => ?_
  obtain ⟨f2, rfl, hf2, l2⟩ := hd
  simp -implicitDefEqProofs (disch := omega) only [R.seq_eq, R.T.ret_bind, R.T.bind_assoc, R.T.stuck_bind, R.T.draw_bind, R.nxT_nx, R.nxT_ret, R.nxT_brk, R.nxT_ct, R.onT_nx, R.onT_ct, R.onT_brk, R.onT_ret, R.finT_ret, R.finT_nx, R.setT, R.retT, R.getv_0, R.getv_s, R.put_zero, R.put_succ, R.nth_zero, R.nth_succ, R.ifT, R.andT, R.orT, R.notT, R.bV, R.eq_int, R.ne_int, R.eq_str, R.ne_str, R.nox_ret, R.nox_draw, R.draw_eq, R.andV, R.orV, R.notV, R.iteT, R.chainT, R.lstT, R.tupT, R.par2T, R.par3T, R.asgO, R.asg_n, R.asg_t, R.asgs_nil, R.asgs_cons, R.turnT, R.appT, R.add_int, R.add_str, R.add_list, R.add_tup, R.sub_int, R.mul_int, R.fdiv_int, R.mod_int, R.neg_int, R.shr_int, R.shl_int, R.pow_int, R.lt_int, R.le_int, R.gt_int, R.ge_int, R.addI_int, R.tru_none, R.tru_bool, R.tru_int, R.tru_list, R.tru_tup, R.idx_t0, R.idx_t1, R.idx_t2, R.idx_t3, R.idx_l0, R.idx_l1, R.slice_list, R.slice_tup, R.part_int, R.max_i, R.min_i, R.items_list, R.items_tup, R.tuple_list, R.tuple_tup, R.list_list, R.list_tup, R.len_list, R.len_tup, R.len_str, R.isa_tt, R.isa_tl, R.isa_ti, R.isa_tb, R.isa_ts, R.isa_tn, R.isa_ii, R.isa_ib, R.isa_is, R.isa_in, R.isa_il, R.isa_it, R.isa_bi, R.isa_bb, R.isa_bs, R.isa_bn, R.isa_bl, R.isa_bt, R.isa_ss, R.isa_si, R.isa_sb, R.isa_sn, R.isa_sl, R.isa_st, R.isa_ll, R.isa_lt, R.zip_tup, R.zip_list, R.enum_list, R.need_tt, R.rev_list, R.rev_tup, R.isb_eq, R.isntb_eq, Option.bind_some, if_true, if_false, Bool.false_eq_true, Bool.not_true, Bool.not_false, R.enum2_list, R.enum2_tup, R.cat_list, R.listRg_int, R.slice_str, R.strO_str, R.isB_bool, R.isNone_none, R.isNone_int, R.isNone_bool, R.isNone_str, R.isNone_tup, R.isNone_list, R.isn_eq, R.isntn_eq, R.extT, R.ext_list, R.mulL_int, R.draw0, R.draw1, R.draw2, R.orX, R.andX, Bool.true_eq_false, R.need_p, if_pos, if_neg, PySem.sizeLine_eq, List.length_cons, List.length_nil, List.length_map, List.length_append, decide_eq_true_eq, Bool.not_eq_true', Bool.not_eq_eq_eq_not, decide_eq_false_iff_not]
  refine AllE.bind (for_cnt (P := PA rls spots) 5 1000 (m := 200) (fun d hd m ρ hm hρ => ?_) (by simp; omega) ⟨f1 ++ f2, none, none, none, none, none, none, rfl, fun d hd => ?_, by simp; omega⟩) fun o ho => ?_
  · obtain ⟨r, hr', rfl⟩ := List.mem_map.mp hd
    obtain ⟨z, p, lo, w⟩ := r
    obtain ⟨_, ⟨p1, p2, p3, p4⟩, ⟨o1, o2⟩, _⟩ := hr _ hr'
    obtain ⟨x, l⟩ := p
    simp only at p1 p2 p3 p4 o1 o2
    obtain ⟨fs, x4, x5, x6, x7, x8, x9, rfl, hf, fl⟩ := hρ
    obtain ⟨l, rfl⟩ : ∃ n : Nat, l = n := ⟨l.toNat, by omega⟩
    obtain ⟨lo, rfl⟩ : ∃ n : Nat, lo = n := ⟨lo.toNat, by omega⟩
    have z1 := pow_div 17 l (by omega)
    rw [show ((2 ^ 17 : Nat) : Int) = 131072 from rfl] at z1
    have z2 := pow_div 16 lo (by omega)
    rw [show ((2 ^ 16 : Nat) : Int) = 65536 from rfl] at z2
    obtain ⟨a1, a2, a3, a4⟩ := start_ok (k := 17 - l) (by omega) rfl p1 p2
    obtain ⟨b1, b2, b3, b4⟩ := start_ok (k := 16 - lo) (by omega) rfl p1 p2
    generalize hq1 : ((2 ^ (17 - l) : Nat) : Int) = q1 at *
    generalize hq2 : ((2 ^ (16 - lo) : Nat) : Int) = q2 at *
    have mem : ∀ {fs gs : List PyData}, (∀ d ∈ fs, areaD d) → (∀ d ∈ gs, areaD d) → ∀ d ∈ fs ++ gs, areaD d := fun h1 h2 d hd => (List.mem_append.mp hd).elim (h1 d) (h2 d)
    have one : ∀ {x l : Int}, x.natAbs < 1000000 → l.natAbs < 1000000 → ∀ d ∈ [PyData.tuple [.int x, .int l]], areaD d := fun {x l} h1 h2 d hd => by rw [List.mem_singleton.mp hd]; exact ⟨(x, l), rfl, h1, h2⟩
    unfold t3__law_areas encR blk
    by_cases c1 : (l : Int) < 16
    · have z3 := pow_div 15 l (by omega)
      rw [show ((2 ^ 15 : Nat) : Int) = 32768 from rfl] at z3
      have z4 : 2 ^ (15 - l) ≤ 2 ^ 15 := Nat.pow_le_pow_right (by decide) (by omega)
      generalize hq3 : 2 ^ (15 - l) = q3 at *
      by_cases c2 : (0 : Int) < l
      · simp -implicitDefEqProofs (disch := omega) only [R.seq_eq, R.T.ret_bind, R.T.bind_assoc, R.T.stuck_bind, R.T.draw_bind, R.nxT_nx, R.nxT_ret, R.nxT_brk, R.nxT_ct, R.onT_nx, R.onT_ct, R.onT_brk, R.onT_ret, R.finT_ret, R.finT_nx, R.setT, R.retT, R.getv_0, R.getv_s, R.put_zero, R.put_succ, R.nth_zero, R.nth_succ, R.ifT, R.andT, R.orT, R.notT, R.bV, R.eq_int, R.ne_int, R.eq_str, R.ne_str, R.nox_ret, R.nox_draw, R.draw_eq, R.andV, R.orV, R.notV, R.iteT, R.chainT, R.lstT, R.tupT, R.par2T, R.par3T, R.asgO, R.asg_n, R.asg_t, R.asgs_nil, R.asgs_cons, R.turnT, R.appT, R.add_int, R.add_str, R.add_list, R.add_tup, R.sub_int, R.mul_int, R.fdiv_int, R.mod_int, R.neg_int, R.shr_int, R.shl_int, R.pow_int, R.lt_int, R.le_int, R.gt_int, R.ge_int, R.addI_int, R.tru_none, R.tru_bool, R.tru_int, R.tru_list, R.tru_tup, R.idx_t0, R.idx_t1, R.idx_t2, R.idx_t3, R.idx_l0, R.idx_l1, R.slice_list, R.slice_tup, R.part_int, R.max_i, R.min_i, R.items_list, R.items_tup, R.tuple_list, R.tuple_tup, R.list_list, R.list_tup, R.len_list, R.len_tup, R.len_str, R.isa_tt, R.isa_tl, R.isa_ti, R.isa_tb, R.isa_ts, R.isa_tn, R.isa_ii, R.isa_ib, R.isa_is, R.isa_in, R.isa_il, R.isa_it, R.isa_bi, R.isa_bb, R.isa_bs, R.isa_bn, R.isa_bl, R.isa_bt, R.isa_ss, R.isa_si, R.isa_sb, R.isa_sn, R.isa_sl, R.isa_st, R.isa_ll, R.isa_lt, R.zip_tup, R.zip_list, R.enum_list, R.need_tt, R.rev_list, R.rev_tup, R.isb_eq, R.isntb_eq, Option.bind_some, if_true, if_false, Bool.false_eq_true, Bool.not_true, Bool.not_false, R.enum2_list, R.enum2_tup, R.cat_list, R.listRg_int, R.slice_str, R.strO_str, R.isB_bool, R.isNone_none, R.isNone_int, R.isNone_bool, R.isNone_str, R.isNone_tup, R.isNone_list, R.isn_eq, R.isntn_eq, R.extT, R.ext_list, R.mulL_int, R.draw0, R.draw1, R.draw2, R.orX, R.andX, Bool.true_eq_false, R.need_p, if_pos, if_neg, PySem.sizeLine_eq, List.length_cons, List.length_nil, List.length_map, List.length_append, decide_eq_true_eq, Bool.not_eq_true', Bool.not_eq_eq_eq_not, decide_eq_false_iff_not, decide_eq_true c1, decide_eq_true c2, Int.toNat_natCast, z1, z2, z3]
        refine .ret ⟨_, rfl, _, _, _, _, _, _, _, rfl, mem (mem (mem (mem hf (one (by omega) (by omega))) ?_) (one (by omega) (by omega))) (one (by omega) (by omega)), by simp; omega⟩
        intro d hd
        simp only [List.mem_cons, List.not_mem_nil, or_false] at hd
        rcases hd with rfl | rfl
        · exact ⟨(_, _), rfl, by simp only; omega, by simp only; omega⟩
        · exact ⟨(_, _), rfl, by simp only; omega, by simp only; omega⟩
      · simp -implicitDefEqProofs (disch := omega) only [R.seq_eq, R.T.ret_bind, R.T.bind_assoc, R.T.stuck_bind, R.T.draw_bind, R.nxT_nx, R.nxT_ret, R.nxT_brk, R.nxT_ct, R.onT_nx, R.onT_ct, R.onT_brk, R.onT_ret, R.finT_ret, R.finT_nx, R.setT, R.retT, R.getv_0, R.getv_s, R.put_zero, R.put_succ, R.nth_zero, R.nth_succ, R.ifT, R.andT, R.orT, R.notT, R.bV, R.eq_int, R.ne_int, R.eq_str, R.ne_str, R.nox_ret, R.nox_draw, R.draw_eq, R.andV, R.orV, R.notV, R.iteT, R.chainT, R.lstT, R.tupT, R.par2T, R.par3T, R.asgO, R.asg_n, R.asg_t, R.asgs_nil, R.asgs_cons, R.turnT, R.appT, R.add_int, R.add_str, R.add_list, R.add_tup, R.sub_int, R.mul_int, R.fdiv_int, R.mod_int, R.neg_int, R.shr_int, R.shl_int, R.pow_int, R.lt_int, R.le_int, R.gt_int, R.ge_int, R.addI_int, R.tru_none, R.tru_bool, R.tru_int, R.tru_list, R.tru_tup, R.idx_t0, R.idx_t1, R.idx_t2, R.idx_t3, R.idx_l0, R.idx_l1, R.slice_list, R.slice_tup, R.part_int, R.max_i, R.min_i, R.items_list, R.items_tup, R.tuple_list, R.tuple_tup, R.list_list, R.list_tup, R.len_list, R.len_tup, R.len_str, R.isa_tt, R.isa_tl, R.isa_ti, R.isa_tb, R.isa_ts, R.isa_tn, R.isa_ii, R.isa_ib, R.isa_is, R.isa_in, R.isa_il, R.isa_it, R.isa_bi, R.isa_bb, R.isa_bs, R.isa_bn, R.isa_bl, R.isa_bt, R.isa_ss, R.isa_si, R.isa_sb, R.isa_sn, R.isa_sl, R.isa_st, R.isa_ll, R.isa_lt, R.zip_tup, R.zip_list, R.enum_list, R.need_tt, R.rev_list, R.rev_tup, R.isb_eq, R.isntb_eq, Option.bind_some, if_true, if_false, Bool.false_eq_true, Bool.not_true, Bool.not_false, R.enum2_list, R.enum2_tup, R.cat_list, R.listRg_int, R.slice_str, R.strO_str, R.isB_bool, R.isNone_none, R.isNone_int, R.isNone_bool, R.isNone_str, R.isNone_tup, R.isNone_list, R.isn_eq, R.isntn_eq, R.extT, R.ext_list, R.mulL_int, R.draw0, R.draw1, R.draw2, R.orX, R.andX, Bool.true_eq_false, R.need_p, if_pos, if_neg, PySem.sizeLine_eq, List.length_cons, List.length_nil, List.length_map, List.length_append, decide_eq_true_eq, Bool.not_eq_true', Bool.not_eq_eq_eq_not, decide_eq_false_iff_not, decide_eq_true c1, decide_eq_false c2, Int.toNat_natCast, z1, z2, z3]
        refine .ret ⟨_, rfl, _, _, _, _, _, _, _, rfl, mem (mem (mem hf (one (by omega) (by omega))) ?_) (one (by omega) (by omega)), by simp; omega⟩
        intro d hd
        simp only [List.mem_cons, List.not_mem_nil, or_false] at hd
        rcases hd with rfl | rfl
        · exact ⟨(_, _), rfl, by simp only; omega, by simp only; omega⟩
        · exact ⟨(_, _), rfl, by simp only; omega, by simp only; omega⟩
    · have c2 : (0 : Int) < l := by omega
      simp -implicitDefEqProofs (disch := omega) only [R.seq_eq, R.T.ret_bind, R.T.bind_assoc, R.T.stuck_bind, R.T.draw_bind, R.nxT_nx, R.nxT_ret, R.nxT_brk, R.nxT_ct, R.onT_nx, R.onT_ct, R.onT_brk, R.onT_ret, R.finT_ret, R.finT_nx, R.setT, R.retT, R.getv_0, R.getv_s, R.put_zero, R.put_succ, R.nth_zero, R.nth_succ, R.ifT, R.andT, R.orT, R.notT, R.bV, R.eq_int, R.ne_int, R.eq_str, R.ne_str, R.nox_ret, R.nox_draw, R.draw_eq, R.andV, R.orV, R.notV, R.iteT, R.chainT, R.lstT, R.tupT, R.par2T, R.par3T, R.asgO, R.asg_n, R.asg_t, R.asgs_nil, R.asgs_cons, R.turnT, R.appT, R.add_int, R.add_str, R.add_list, R.add_tup, R.sub_int, R.mul_int, R.fdiv_int, R.mod_int, R.neg_int, R.shr_int, R.shl_int, R.pow_int, R.lt_int, R.le_int, R.gt_int, R.ge_int, R.addI_int, R.tru_none, R.tru_bool, R.tru_int, R.tru_list, R.tru_tup, R.idx_t0, R.idx_t1, R.idx_t2, R.idx_t3, R.idx_l0, R.idx_l1, R.slice_list, R.slice_tup, R.part_int, R.max_i, R.min_i, R.items_list, R.items_tup, R.tuple_list, R.tuple_tup, R.list_list, R.list_tup, R.len_list, R.len_tup, R.len_str, R.isa_tt, R.isa_tl, R.isa_ti, R.isa_tb, R.isa_ts, R.isa_tn, R.isa_ii, R.isa_ib, R.isa_is, R.isa_in, R.isa_il, R.isa_it, R.isa_bi, R.isa_bb, R.isa_bs, R.isa_bn, R.isa_bl, R.isa_bt, R.isa_ss, R.isa_si, R.isa_sb, R.isa_sn, R.isa_sl, R.isa_st, R.isa_ll, R.isa_lt, R.zip_tup, R.zip_list, R.enum_list, R.need_tt, R.rev_list, R.rev_tup, R.isb_eq, R.isntb_eq, Option.bind_some, if_true, if_false, Bool.false_eq_true, Bool.not_true, Bool.not_false, R.enum2_list, R.enum2_tup, R.cat_list, R.listRg_int, R.slice_str, R.strO_str, R.isB_bool, R.isNone_none, R.isNone_int, R.isNone_bool, R.isNone_str, R.isNone_tup, R.isNone_list, R.isn_eq, R.isntn_eq, R.extT, R.ext_list, R.mulL_int, R.draw0, R.draw1, R.draw2, R.orX, R.andX, Bool.true_eq_false, R.need_p, if_pos, if_neg, PySem.sizeLine_eq, List.length_cons, List.length_nil, List.length_map, List.length_append, decide_eq_true_eq, Bool.not_eq_true', Bool.not_eq_eq_eq_not, decide_eq_false_iff_not, decide_eq_false c1, decide_eq_true c2, Int.toNat_natCast, z1, z2]
      exact .ret ⟨_, rfl, _, _, _, _, _, _, _, rfl, mem (mem (mem hf (one (by omega) (by omega))) (one (by omega) (by omega))) (one (by omega) (by omega)), by simp; omega⟩
  · rcases List.mem_append.mp hd with hd | hd
    · exact hf1 d hd
    · exact hf2 d hd
  · obtain ⟨ρ', rfl, fs, x4, x5, x6, x7, x8, x9, rfl, hf, fl⟩ := ho
    simp -implicitDefEqProofs only [R.seq_eq, R.T.ret_bind, R.T.bind_assoc, R.T.stuck_bind, R.T.draw_bind, R.nxT_nx, R.nxT_ret, R.nxT_brk, R.nxT_ct, R.onT_nx, R.onT_ct, R.onT_brk, R.onT_ret, R.finT_ret, R.finT_nx, R.setT, R.retT, R.getv_0, R.getv_s, R.put_zero, R.put_succ, R.nth_zero, R.nth_succ, R.ifT, R.andT, R.orT, R.notT, R.bV, R.eq_int, R.ne_int, R.eq_str, R.ne_str, R.nox_ret, R.nox_draw, R.draw_eq, R.andV, R.orV, R.notV, R.iteT, R.chainT, R.lstT, R.tupT, R.par2T, R.par3T, R.asgO, R.asg_n, R.asg_t, R.asgs_nil, R.asgs_cons, R.turnT, R.appT, R.add_int, R.add_str, R.add_list, R.add_tup, R.sub_int, R.mul_int, R.fdiv_int, R.mod_int, R.neg_int, R.shr_int, R.shl_int, R.pow_int, R.lt_int, R.le_int, R.gt_int, R.ge_int, R.addI_int, R.tru_none, R.tru_bool, R.tru_int, R.tru_list, R.tru_tup, R.idx_t0, R.idx_t1, R.idx_t2, R.idx_t3, R.idx_l0, R.idx_l1, R.slice_list, R.slice_tup, R.part_int, R.max_i, R.min_i, R.items_list, R.items_tup, R.tuple_list, R.tuple_tup, R.list_list, R.list_tup, R.len_list, R.len_tup, R.len_str, R.isa_tt, R.isa_tl, R.isa_ti, R.isa_tb, R.isa_ts, R.isa_tn, R.isa_ii, R.isa_ib, R.isa_is, R.isa_in, R.isa_il, R.isa_it, R.isa_bi, R.isa_bb, R.isa_bs, R.isa_bn, R.isa_bl, R.isa_bt, R.isa_ss, R.isa_si, R.isa_sb, R.isa_sn, R.isa_sl, R.isa_st, R.isa_ll, R.isa_lt, R.zip_tup, R.zip_list, R.enum_list, R.need_tt, R.rev_list, R.rev_tup, R.isb_eq, R.isntb_eq, Option.bind_some, if_true, if_false, Bool.false_eq_true, Bool.not_true, Bool.not_false, R.enum2_list, R.enum2_tup, R.cat_list, R.listRg_int, R.slice_str, R.strO_str, R.isB_bool, R.isNone_none, R.isNone_int, R.isNone_bool, R.isNone_str, R.isNone_tup, R.isNone_list, R.isn_eq, R.isntn_eq, R.extT, R.ext_list, R.mulL_int, R.draw0, R.draw1, R.draw2, R.orX, R.andX]
    exact .ret ⟨fs, rfl, hf⟩
theorem law_all : AllE (b_law ρ0) fun o => o = .ret (.bool true) := by
  show AllE (b_law [none, some (dkD 1), none, none, none, none, none, none, none, none]) _
  unfold b_law
  simp -implicitDefEqProofs only [R.seq_eq, R.T.ret_bind, R.T.bind_assoc, R.T.stuck_bind, R.T.draw_bind, R.nxT_nx, R.nxT_ret, R.nxT_brk, R.nxT_ct, R.onT_nx, R.onT_ct, R.onT_brk, R.onT_ret, R.finT_ret, R.finT_nx, R.setT, R.retT, R.getv_0, R.getv_s, R.put_zero, R.put_succ, R.nth_zero, R.nth_succ, R.ifT, R.andT, R.orT, R.notT, R.bV, R.eq_int, R.ne_int, R.eq_str, R.ne_str, R.nox_ret, R.nox_draw, R.draw_eq, R.andV, R.orV, R.notV, R.iteT, R.chainT, R.lstT, R.tupT, R.par2T, R.par3T, R.asgO, R.asg_n, R.asg_t, R.asgs_nil, R.asgs_cons, R.turnT, R.appT, R.add_int, R.add_str, R.add_list, R.add_tup, R.sub_int, R.mul_int, R.fdiv_int, R.mod_int, R.neg_int, R.shr_int, R.shl_int, R.pow_int, R.lt_int, R.le_int, R.gt_int, R.ge_int, R.addI_int, R.tru_none, R.tru_bool, R.tru_int, R.tru_list, R.tru_tup, R.idx_t0, R.idx_t1, R.idx_t2, R.idx_t3, R.idx_l0, R.idx_l1, R.slice_list, R.slice_tup, R.part_int, R.max_i, R.min_i, R.items_list, R.items_tup, R.tuple_list, R.tuple_tup, R.list_list, R.list_tup, R.len_list, R.len_tup, R.len_str, R.isa_tt, R.isa_tl, R.isa_ti, R.isa_tb, R.isa_ts, R.isa_tn, R.isa_ii, R.isa_ib, R.isa_is, R.isa_in, R.isa_il, R.isa_it, R.isa_bi, R.isa_bb, R.isa_bs, R.isa_bn, R.isa_bl, R.isa_bt, R.isa_ss, R.isa_si, R.isa_sb, R.isa_sn, R.isa_sl, R.isa_st, R.isa_ll, R.isa_lt, R.zip_tup, R.zip_list, R.enum_list, R.need_tt, R.rev_list, R.rev_tup, R.isb_eq, R.isntb_eq, Option.bind_some, if_true, if_false, Bool.false_eq_true, Bool.not_true, Bool.not_false, R.enum2_list, R.enum2_tup, R.cat_list, R.listRg_int, R.slice_str, R.strO_str, R.isB_bool, R.isNone_none, R.isNone_int, R.isNone_bool, R.isNone_str, R.isNone_tup, R.isNone_list, R.isn_eq, R.isntn_eq, R.extT, R.ext_list, R.mulL_int, R.draw0, R.draw1, R.draw2, R.orX, R.andX, range1 (show (0 : Int) ≤ 4 by decide) (show (4 : Int) < 4611686018427387904 by decide)]
  refine AllE.bind (for_nx (P := fun ρ => ∃ x2 x3 x4 x5 x6 x7 x8 x9, ρ = [none, some (dkD 1), x2, x3, x4, x5, x6, x7, x8, x9]) ⟨_, _, _, _, _, _, _, _, rfl⟩ fun d hd ρ hρ => ?_) fun o ho => ?_
  · obtain ⟨x2, x3, x4, x5, x6, x7, x8, x9, rfl⟩ := hρ
    unfold t4_law
    simp -implicitDefEqProofs only [R.seq_eq, R.T.ret_bind, R.T.bind_assoc, R.T.stuck_bind, R.T.draw_bind, R.nxT_nx, R.nxT_ret, R.nxT_brk, R.nxT_ct, R.onT_nx, R.onT_ct, R.onT_brk, R.onT_ret, R.finT_ret, R.finT_nx, R.setT, R.retT, R.getv_0, R.getv_s, R.put_zero, R.put_succ, R.nth_zero, R.nth_succ, R.ifT, R.andT, R.orT, R.notT, R.bV, R.eq_int, R.ne_int, R.eq_str, R.ne_str, R.nox_ret, R.nox_draw, R.draw_eq, R.andV, R.orV, R.notV, R.iteT, R.chainT, R.lstT, R.tupT, R.par2T, R.par3T, R.asgO, R.asg_n, R.asg_t, R.asgs_nil, R.asgs_cons, R.turnT, R.appT, R.add_int, R.add_str, R.add_list, R.add_tup, R.sub_int, R.mul_int, R.fdiv_int, R.mod_int, R.neg_int, R.shr_int, R.shl_int, R.pow_int, R.lt_int, R.le_int, R.gt_int, R.ge_int, R.addI_int, R.tru_none, R.tru_bool, R.tru_int, R.tru_list, R.tru_tup, R.idx_t0, R.idx_t1, R.idx_t2, R.idx_t3, R.idx_l0, R.idx_l1, R.slice_list, R.slice_tup, R.part_int, R.max_i, R.min_i, R.items_list, R.items_tup, R.tuple_list, R.tuple_tup, R.list_list, R.list_tup, R.len_list, R.len_tup, R.len_str, R.isa_tt, R.isa_tl, R.isa_ti, R.isa_tb, R.isa_ts, R.isa_tn, R.isa_ii, R.isa_ib, R.isa_is, R.isa_in, R.isa_il, R.isa_it, R.isa_bi, R.isa_bb, R.isa_bs, R.isa_bn, R.isa_bl, R.isa_bt, R.isa_ss, R.isa_si, R.isa_sb, R.isa_sn, R.isa_sl, R.isa_st, R.isa_ll, R.isa_lt, R.zip_tup, R.zip_list, R.enum_list, R.need_tt, R.rev_list, R.rev_tup, R.isb_eq, R.isntb_eq, Option.bind_some, if_true, if_false, Bool.false_eq_true, Bool.not_true, Bool.not_false, R.enum2_list, R.enum2_tup, R.cat_list, R.listRg_int, R.slice_str, R.strO_str, R.isB_bool, R.isNone_none, R.isNone_int, R.isNone_bool, R.isNone_str, R.isNone_tup, R.isNone_list, R.isn_eq, R.isntn_eq, R.extT, R.ext_list, R.mulL_int, R.draw0, R.draw1, R.draw2, R.orX, R.andX]
    refine AllE.bind (lcD_allN (ds := rangeL 0 3) (P := spotD) (by simp -implicitDefEqProofs only [R.seq_eq, R.T.ret_bind, R.T.bind_assoc, R.T.stuck_bind, R.T.draw_bind, R.nxT_nx, R.nxT_ret, R.nxT_brk, R.nxT_ct, R.onT_nx, R.onT_ct, R.onT_brk, R.onT_ret, R.finT_ret, R.finT_nx, R.setT, R.retT, R.getv_0, R.getv_s, R.put_zero, R.put_succ, R.nth_zero, R.nth_succ, R.ifT, R.andT, R.orT, R.notT, R.bV, R.eq_int, R.ne_int, R.eq_str, R.ne_str, R.nox_ret, R.nox_draw, R.draw_eq, R.andV, R.orV, R.notV, R.iteT, R.chainT, R.lstT, R.tupT, R.par2T, R.par3T, R.asgO, R.asg_n, R.asg_t, R.asgs_nil, R.asgs_cons, R.turnT, R.appT, R.add_int, R.add_str, R.add_list, R.add_tup, R.sub_int, R.mul_int, R.fdiv_int, R.mod_int, R.neg_int, R.shr_int, R.shl_int, R.pow_int, R.lt_int, R.le_int, R.gt_int, R.ge_int, R.addI_int, R.tru_none, R.tru_bool, R.tru_int, R.tru_list, R.tru_tup, R.idx_t0, R.idx_t1, R.idx_t2, R.idx_t3, R.idx_l0, R.idx_l1, R.slice_list, R.slice_tup, R.part_int, R.max_i, R.min_i, R.items_list, R.items_tup, R.tuple_list, R.tuple_tup, R.list_list, R.list_tup, R.len_list, R.len_tup, R.len_str, R.isa_tt, R.isa_tl, R.isa_ti, R.isa_tb, R.isa_ts, R.isa_tn, R.isa_ii, R.isa_ib, R.isa_is, R.isa_in, R.isa_il, R.isa_it, R.isa_bi, R.isa_bb, R.isa_bs, R.isa_bn, R.isa_bl, R.isa_bt, R.isa_ss, R.isa_si, R.isa_sb, R.isa_sn, R.isa_sl, R.isa_st, R.isa_ll, R.isa_lt, R.zip_tup, R.zip_list, R.enum_list, R.need_tt, R.rev_list, R.rev_tup, R.isb_eq, R.isntb_eq, Option.bind_some, if_true, if_false, Bool.false_eq_true, Bool.not_true, Bool.not_false, R.enum2_list, R.enum2_tup, R.cat_list, R.listRg_int, R.slice_str, R.strO_str, R.isB_bool, R.isNone_none, R.isNone_int, R.isNone_bool, R.isNone_str, R.isNone_tup, R.isNone_list, R.isn_eq, R.isntn_eq, R.extT, R.ext_list, R.mulL_int, R.draw0, R.draw1, R.draw2, R.orX, R.andX, range1 (show (0 : Int) ≤ 3 by decide) (show (3 : Int) < 4611686018427387904 by decide)]; rfl) (by rw [rangeL_length]; decide) fun d hd => ?_) fun d hd => ?_
    · rw [comp_n]
      unfold x1_law
      simp -implicitDefEqProofs only [R.seq_eq, R.T.ret_bind, R.T.bind_assoc, R.T.stuck_bind, R.T.draw_bind, R.nxT_nx, R.nxT_ret, R.nxT_brk, R.nxT_ct, R.onT_nx, R.onT_ct, R.onT_brk, R.onT_ret, R.finT_ret, R.finT_nx, R.setT, R.retT, R.getv_0, R.getv_s, R.put_zero, R.put_succ, R.nth_zero, R.nth_succ, R.ifT, R.andT, R.orT, R.notT, R.bV, R.eq_int, R.ne_int, R.eq_str, R.ne_str, R.nox_ret, R.nox_draw, R.draw_eq, R.andV, R.orV, R.notV, R.iteT, R.chainT, R.lstT, R.tupT, R.par2T, R.par3T, R.asgO, R.asg_n, R.asg_t, R.asgs_nil, R.asgs_cons, R.turnT, R.appT, R.add_int, R.add_str, R.add_list, R.add_tup, R.sub_int, R.mul_int, R.fdiv_int, R.mod_int, R.neg_int, R.shr_int, R.shl_int, R.pow_int, R.lt_int, R.le_int, R.gt_int, R.ge_int, R.addI_int, R.tru_none, R.tru_bool, R.tru_int, R.tru_list, R.tru_tup, R.idx_t0, R.idx_t1, R.idx_t2, R.idx_t3, R.idx_l0, R.idx_l1, R.slice_list, R.slice_tup, R.part_int, R.max_i, R.min_i, R.items_list, R.items_tup, R.tuple_list, R.tuple_tup, R.list_list, R.list_tup, R.len_list, R.len_tup, R.len_str, R.isa_tt, R.isa_tl, R.isa_ti, R.isa_tb, R.isa_ts, R.isa_tn, R.isa_ii, R.isa_ib, R.isa_is, R.isa_in, R.isa_il, R.isa_it, R.isa_bi, R.isa_bb, R.isa_bs, R.isa_bn, R.isa_bl, R.isa_bt, R.isa_ss, R.isa_si, R.isa_sb, R.isa_sn, R.isa_sl, R.isa_st, R.isa_ll, R.isa_lt, R.zip_tup, R.zip_list, R.enum_list, R.need_tt, R.rev_list, R.rev_tup, R.isb_eq, R.isntb_eq, Option.bind_some, if_true, if_false, Bool.false_eq_true, Bool.not_true, Bool.not_false, R.enum2_list, R.enum2_tup, R.cat_list, R.listRg_int, R.slice_str, R.strO_str, R.isB_bool, R.isNone_none, R.isNone_int, R.isNone_bool, R.isNone_str, R.isNone_tup, R.isNone_list, R.isn_eq, R.isntn_eq, R.extT, R.ext_list, R.mulL_int, R.draw0, R.draw1, R.draw2, R.orX, R.andX, wiped, List.set]
      exact .draw (by decide) (by decide) fun r a b => .ret ⟨_, rfl, r, rfl, a, b⟩
    obtain ⟨ys, rfl, hy, yl⟩ := hd
    rw [rangeL_length] at yl
    simp -implicitDefEqProofs (disch := omega) only [R.seq_eq, R.T.ret_bind, R.T.bind_assoc, R.T.stuck_bind, R.T.draw_bind, R.nxT_nx, R.nxT_ret, R.nxT_brk, R.nxT_ct, R.onT_nx, R.onT_ct, R.onT_brk, R.onT_ret, R.finT_ret, R.finT_nx, R.setT, R.retT, R.getv_0, R.getv_s, R.put_zero, R.put_succ, R.nth_zero, R.nth_succ, R.ifT, R.andT, R.orT, R.notT, R.bV, R.eq_int, R.ne_int, R.eq_str, R.ne_str, R.nox_ret, R.nox_draw, R.draw_eq, R.andV, R.orV, R.notV, R.iteT, R.chainT, R.lstT, R.tupT, R.par2T, R.par3T, R.asgO, R.asg_n, R.asg_t, R.asgs_nil, R.asgs_cons, R.turnT, R.appT, R.add_int, R.add_str, R.add_list, R.add_tup, R.sub_int, R.mul_int, R.fdiv_int, R.mod_int, R.neg_int, R.shr_int, R.shl_int, R.pow_int, R.lt_int, R.le_int, R.gt_int, R.ge_int, R.addI_int, R.tru_none, R.tru_bool, R.tru_int, R.tru_list, R.tru_tup, R.idx_t0, R.idx_t1, R.idx_t2, R.idx_t3, R.idx_l0, R.idx_l1, R.slice_list, R.slice_tup, R.part_int, R.max_i, R.min_i, R.items_list, R.items_tup, R.tuple_list, R.tuple_tup, R.list_list, R.list_tup, R.len_list, R.len_tup, R.len_str, R.isa_tt, R.isa_tl, R.isa_ti, R.isa_tb, R.isa_ts, R.isa_tn, R.isa_ii, R.isa_ib, R.isa_is, R.isa_in, R.isa_il, R.isa_it, R.isa_bi, R.isa_bb, R.isa_bs, R.isa_bn, R.isa_bl, R.isa_bt, R.isa_ss, R.isa_si, R.isa_sb, R.isa_sn, R.isa_sl, R.isa_st, R.isa_ll, R.isa_lt, R.zip_tup, R.zip_list, R.enum_list, R.need_tt, R.rev_list, R.rev_tup, R.isb_eq, R.isntb_eq, Option.bind_some, if_true, if_false, Bool.false_eq_true, Bool.not_true, Bool.not_false, R.enum2_list, R.enum2_tup, R.cat_list, R.listRg_int, R.slice_str, R.strO_str, R.isB_bool, R.isNone_none, R.isNone_int, R.isNone_bool, R.isNone_str, R.isNone_tup, R.isNone_list, R.isn_eq, R.isntn_eq, R.extT, R.ext_list, R.mulL_int, R.draw0, R.draw1, R.draw2, R.orX, R.andX, Bool.true_eq_false, R.need_p, if_pos, if_neg, PySem.sizeLine_eq, List.length_cons, List.length_nil, List.length_map, List.length_append, decide_eq_true_eq, Bool.not_eq_true', Bool.not_eq_eq_eq_not, decide_eq_false_iff_not]
    have hs : ∀ d ∈ ys ++ [PyData.int 0, .int 65535], spotD d := fun d hd => by
      rcases List.mem_append.mp hd with hd | hd
      · exact hy d hd
      · simp only [List.mem_cons, List.not_mem_nil, or_false] at hd
        rcases hd with rfl | rfl <;> exact ⟨_, rfl, by decide, by decide⟩
    have h0 : ys ++ [PyData.int 0, .int 65535] ≠ [] := by simp
    have h1 : (ys ++ [PyData.int 0, .int 65535]).length < 100 := by simp; omega
    generalize ys ++ [PyData.int 0, .int 65535] = spots at hs h0 h1
    refine .draw (by decide) (by decide) fun r a b => ?_
    refine AllE.bind (names_all (by omega) (by omega)) fun d hd => ?_
    obtain ⟨zs, rfl, hz, zl⟩ := hd
    refine .draw (by decide) (by decide) fun r10 a10 b10 => ?_
    have n0 : zs.map PyData.str ≠ [] := fun e => by have := congrArg List.length e; simp at this; subst this; simp at zl; omega
    have hn : ∀ d ∈ zs.map PyData.str, ∃ z, d = .str z ∧ Sk 20 z := fun d hd => by
      obtain ⟨z, hz', rfl⟩ := List.mem_map.mp hd
      exact ⟨z, rfl, hz z hz'⟩
    have n1 : (zs.map PyData.str).length < 1000 := by simp; omega
    refine AllE.bind (rules_all n0 n1 hn h0 (by omega) hs ?_ ?_ fun d hd => ?_) fun d hd => ?_
    · simp
    · simp
    · simp only [List.mem_cons, List.not_mem_nil, or_false] at hd
      rcases hd with rfl | rfl | rfl | rfl | rfl | rfl | rfl | rfl
      · exact .inl ⟨_, rfl, by decide, by decide⟩
      · exact .inl ⟨_, rfl, by decide, by decide⟩
      · exact .inl ⟨_, rfl, by decide, by decide⟩
      · exact .inl ⟨_, rfl, by decide, by decide⟩
      · exact .inl ⟨_, rfl, by decide, by decide⟩
      · exact .inr ⟨_, rfl, by decide +kernel, by decide +kernel⟩
      · exact .inr ⟨_, rfl, by decide +kernel, by decide +kernel⟩
      · exact .inl ⟨_, rfl, a10, b10⟩
    obtain ⟨l, rfl, hl, ll⟩ := hd
    refine AllE.bind (rules_all n0 n1 hn h0 (by omega) hs ?_ ?_ fun d hd => ?_) fun d hd => ?_
    · simp
    · simp
    · simp only [List.mem_cons, List.not_mem_nil, or_false] at hd
      rcases hd with rfl | rfl
      · exact .inr ⟨_, rfl, by decide +kernel, by decide +kernel⟩
      · exact .inr ⟨_, rfl, by decide +kernel, by decide +kernel⟩
    obtain ⟨s, rfl, hs', sl⟩ := hd
    simp -implicitDefEqProofs (disch := omega) only [R.seq_eq, R.T.ret_bind, R.T.bind_assoc, R.T.stuck_bind, R.T.draw_bind, R.nxT_nx, R.nxT_ret, R.nxT_brk, R.nxT_ct, R.onT_nx, R.onT_ct, R.onT_brk, R.onT_ret, R.finT_ret, R.finT_nx, R.setT, R.retT, R.getv_0, R.getv_s, R.put_zero, R.put_succ, R.nth_zero, R.nth_succ, R.ifT, R.andT, R.orT, R.notT, R.bV, R.eq_int, R.ne_int, R.eq_str, R.ne_str, R.nox_ret, R.nox_draw, R.draw_eq, R.andV, R.orV, R.notV, R.iteT, R.chainT, R.lstT, R.tupT, R.par2T, R.par3T, R.asgO, R.asg_n, R.asg_t, R.asgs_nil, R.asgs_cons, R.turnT, R.appT, R.add_int, R.add_str, R.add_list, R.add_tup, R.sub_int, R.mul_int, R.fdiv_int, R.mod_int, R.neg_int, R.shr_int, R.shl_int, R.pow_int, R.lt_int, R.le_int, R.gt_int, R.ge_int, R.addI_int, R.tru_none, R.tru_bool, R.tru_int, R.tru_list, R.tru_tup, R.idx_t0, R.idx_t1, R.idx_t2, R.idx_t3, R.idx_l0, R.idx_l1, R.slice_list, R.slice_tup, R.part_int, R.max_i, R.min_i, R.items_list, R.items_tup, R.tuple_list, R.tuple_tup, R.list_list, R.list_tup, R.len_list, R.len_tup, R.len_str, R.isa_tt, R.isa_tl, R.isa_ti, R.isa_tb, R.isa_ts, R.isa_tn, R.isa_ii, R.isa_ib, R.isa_is, R.isa_in, R.isa_il, R.isa_it, R.isa_bi, R.isa_bb, R.isa_bs, R.isa_bn, R.isa_bl, R.isa_bt, R.isa_ss, R.isa_si, R.isa_sb, R.isa_sn, R.isa_sl, R.isa_st, R.isa_ll, R.isa_lt, R.zip_tup, R.zip_list, R.enum_list, R.need_tt, R.rev_list, R.rev_tup, R.isb_eq, R.isntb_eq, Option.bind_some, if_true, if_false, Bool.false_eq_true, Bool.not_true, Bool.not_false, R.enum2_list, R.enum2_tup, R.cat_list, R.listRg_int, R.slice_str, R.strO_str, R.isB_bool, R.isNone_none, R.isNone_int, R.isNone_bool, R.isNone_str, R.isNone_tup, R.isNone_list, R.isn_eq, R.isntn_eq, R.extT, R.ext_list, R.mulL_int, R.draw0, R.draw1, R.draw2, R.orX, R.andX, Bool.true_eq_false, R.need_p, if_pos, if_neg, PySem.sizeLine_eq, List.length_cons, List.length_nil, List.length_map, List.length_append, decide_eq_true_eq, Bool.not_eq_true', Bool.not_eq_eq_eq_not, decide_eq_false_iff_not]
    refine (for_nx (P := fun ρ => ∃ x2 x4 x7 x8 x9, ρ = [none, some (dkD 1), x2, some (.list spots), x4, some (.tuple (l.map encR)), some (.tuple (s.map encR)), x7, x8, x9]) ⟨_, _, _, _, _, rfl⟩ fun d hd ρ hρ => ?_).mono fun o ho => ?_
    · obtain ⟨x2, x4, x7, x8, x9, rfl⟩ := hρ
      obtain ⟨z, rfl⟩ : ∃ z : Str, d = .str z := by
        rcases List.mem_append.mp hd with hd | hd
        · obtain ⟨z, _, rfl⟩ := List.mem_map.mp hd; exact ⟨z, rfl⟩
        · exact ⟨_, List.mem_singleton.mp hd⟩
      have hls : ∀ r ∈ l ++ s, ruleOk r := fun r hr => (List.mem_append.mp hr).elim (hl r) (hs' r)
      unfold t3_law
      simp -implicitDefEqProofs (disch := omega) only [R.seq_eq, R.T.ret_bind, R.T.bind_assoc, R.T.stuck_bind, R.T.draw_bind, R.nxT_nx, R.nxT_ret, R.nxT_brk, R.nxT_ct, R.onT_nx, R.onT_ct, R.onT_brk, R.onT_ret, R.finT_ret, R.finT_nx, R.setT, R.retT, R.getv_0, R.getv_s, R.put_zero, R.put_succ, R.nth_zero, R.nth_succ, R.ifT, R.andT, R.orT, R.notT, R.bV, R.eq_int, R.ne_int, R.eq_str, R.ne_str, R.nox_ret, R.nox_draw, R.draw_eq, R.andV, R.orV, R.notV, R.iteT, R.chainT, R.lstT, R.tupT, R.par2T, R.par3T, R.asgO, R.asg_n, R.asg_t, R.asgs_nil, R.asgs_cons, R.turnT, R.appT, R.add_int, R.add_str, R.add_list, R.add_tup, R.sub_int, R.mul_int, R.fdiv_int, R.mod_int, R.neg_int, R.shr_int, R.shl_int, R.pow_int, R.lt_int, R.le_int, R.gt_int, R.ge_int, R.addI_int, R.tru_none, R.tru_bool, R.tru_int, R.tru_list, R.tru_tup, R.idx_t0, R.idx_t1, R.idx_t2, R.idx_t3, R.idx_l0, R.idx_l1, R.slice_list, R.slice_tup, R.part_int, R.max_i, R.min_i, R.items_list, R.items_tup, R.tuple_list, R.tuple_tup, R.list_list, R.list_tup, R.len_list, R.len_tup, R.len_str, R.isa_tt, R.isa_tl, R.isa_ti, R.isa_tb, R.isa_ts, R.isa_tn, R.isa_ii, R.isa_ib, R.isa_is, R.isa_in, R.isa_il, R.isa_it, R.isa_bi, R.isa_bb, R.isa_bs, R.isa_bn, R.isa_bl, R.isa_bt, R.isa_ss, R.isa_si, R.isa_sb, R.isa_sn, R.isa_sl, R.isa_st, R.isa_ll, R.isa_lt, R.zip_tup, R.zip_list, R.enum_list, R.need_tt, R.rev_list, R.rev_tup, R.isb_eq, R.isntb_eq, Option.bind_some, if_true, if_false, Bool.false_eq_true, Bool.not_true, Bool.not_false, R.enum2_list, R.enum2_tup, R.cat_list, R.listRg_int, R.slice_str, R.strO_str, R.isB_bool, R.isNone_none, R.isNone_int, R.isNone_bool, R.isNone_str, R.isNone_tup, R.isNone_list, R.isn_eq, R.isntn_eq, R.extT, R.ext_list, R.mulL_int, R.draw0, R.draw1, R.draw2, R.orX, R.andX, Bool.true_eq_false, R.need_p, if_pos, if_neg, PySem.sizeLine_eq, List.length_cons, List.length_nil, List.length_map, List.length_append, decide_eq_true_eq, Bool.not_eq_true', Bool.not_eq_eq_eq_not, decide_eq_false_iff_not]
      rw [← List.map_append]
      refine AllE.bind (areas_all hls (by simp; omega) h1 hs) fun d hd => ?_
      obtain ⟨fs, rfl, hf⟩ := hd
      simp -implicitDefEqProofs only [R.seq_eq, R.T.ret_bind, R.T.bind_assoc, R.T.stuck_bind, R.T.draw_bind, R.nxT_nx, R.nxT_ret, R.nxT_brk, R.nxT_ct, R.onT_nx, R.onT_ct, R.onT_brk, R.onT_ret, R.finT_ret, R.finT_nx, R.setT, R.retT, R.getv_0, R.getv_s, R.put_zero, R.put_succ, R.nth_zero, R.nth_succ, R.ifT, R.andT, R.orT, R.notT, R.bV, R.eq_int, R.ne_int, R.eq_str, R.ne_str, R.nox_ret, R.nox_draw, R.draw_eq, R.andV, R.orV, R.notV, R.iteT, R.chainT, R.lstT, R.tupT, R.par2T, R.par3T, R.asgO, R.asg_n, R.asg_t, R.asgs_nil, R.asgs_cons, R.turnT, R.appT, R.add_int, R.add_str, R.add_list, R.add_tup, R.sub_int, R.mul_int, R.fdiv_int, R.mod_int, R.neg_int, R.shr_int, R.shl_int, R.pow_int, R.lt_int, R.le_int, R.gt_int, R.ge_int, R.addI_int, R.tru_none, R.tru_bool, R.tru_int, R.tru_list, R.tru_tup, R.idx_t0, R.idx_t1, R.idx_t2, R.idx_t3, R.idx_l0, R.idx_l1, R.slice_list, R.slice_tup, R.part_int, R.max_i, R.min_i, R.items_list, R.items_tup, R.tuple_list, R.tuple_tup, R.list_list, R.list_tup, R.len_list, R.len_tup, R.len_str, R.isa_tt, R.isa_tl, R.isa_ti, R.isa_tb, R.isa_ts, R.isa_tn, R.isa_ii, R.isa_ib, R.isa_is, R.isa_in, R.isa_il, R.isa_it, R.isa_bi, R.isa_bb, R.isa_bs, R.isa_bn, R.isa_bl, R.isa_bt, R.isa_ss, R.isa_si, R.isa_sb, R.isa_sn, R.isa_sl, R.isa_st, R.isa_ll, R.isa_lt, R.zip_tup, R.zip_list, R.enum_list, R.need_tt, R.rev_list, R.rev_tup, R.isb_eq, R.isntb_eq, Option.bind_some, if_true, if_false, Bool.false_eq_true, Bool.not_true, Bool.not_false, R.enum2_list, R.enum2_tup, R.cat_list, R.listRg_int, R.slice_str, R.strO_str, R.isB_bool, R.isNone_none, R.isNone_int, R.isNone_bool, R.isNone_str, R.isNone_tup, R.isNone_list, R.isn_eq, R.isntn_eq, R.extT, R.ext_list, R.mulL_int, R.draw0, R.draw1, R.draw2, R.orX, R.andX]
      refine (for_nx (P := fun ρ => ∃ x2 x4 x8 x9, ρ = [none, some (dkD 1), x2, some (.list spots), x4, some (.tuple (l.map encR)), some (.tuple (s.map encR)), some (.str z), x8, x9]) ⟨_, _, _, _, rfl⟩ fun d hd ρ hρ => ?_).mono fun o ho => ?_
      · obtain ⟨x2, x4, x8, x9, rfl⟩ := hρ
        obtain ⟨p, rfl, hp⟩ := hf d hd
        have e1 := right_eq (z := z) (p := p) hl ll hs' sl hp
        have e2 := right_eq (z := z) (p := p) (l := []) (s := []) (by simp) (by simp) (by simp) (by simp) hp
        have e3 := right_eq (z := z) (p := p) (l := l.reverse) (s := s.drop 1) (fun r h => hl r (by simpa using h)) (by simpa using ll) (fun r h => hs' r (List.mem_of_mem_drop h)) (by simp; omega) hp
        rw [List.map_reverse, List.map_drop] at e3
        rw [List.map_nil] at e2
        have c1 : ∀ L : List PyData, cutD L (some 1) none = L.drop 1 := fun L => by
          unfold cutD
          rw [HT.sIx_none, show HT.sIx L.length 0 (some 1) = min 1 L.length from HT.sIx_nat _ _ 1]
          cases L with
          | nil => rfl
          | cons x r => simp
        unfold t2_law
        simp -implicitDefEqProofs (disch := omega) only [R.seq_eq, R.T.ret_bind, R.T.bind_assoc, R.T.stuck_bind, R.T.draw_bind, R.nxT_nx, R.nxT_ret, R.nxT_brk, R.nxT_ct, R.onT_nx, R.onT_ct, R.onT_brk, R.onT_ret, R.finT_ret, R.finT_nx, R.setT, R.retT, R.getv_0, R.getv_s, R.put_zero, R.put_succ, R.nth_zero, R.nth_succ, R.ifT, R.andT, R.orT, R.notT, R.bV, R.eq_int, R.ne_int, R.eq_str, R.ne_str, R.nox_ret, R.nox_draw, R.draw_eq, R.andV, R.orV, R.notV, R.iteT, R.chainT, R.lstT, R.tupT, R.par2T, R.par3T, R.asgO, R.asg_n, R.asg_t, R.asgs_nil, R.asgs_cons, R.turnT, R.appT, R.add_int, R.add_str, R.add_list, R.add_tup, R.sub_int, R.mul_int, R.fdiv_int, R.mod_int, R.neg_int, R.shr_int, R.shl_int, R.pow_int, R.lt_int, R.le_int, R.gt_int, R.ge_int, R.addI_int, R.tru_none, R.tru_bool, R.tru_int, R.tru_list, R.tru_tup, R.idx_t0, R.idx_t1, R.idx_t2, R.idx_t3, R.idx_l0, R.idx_l1, R.slice_list, R.slice_tup, R.part_int, R.max_i, R.min_i, R.items_list, R.items_tup, R.tuple_list, R.tuple_tup, R.list_list, R.list_tup, R.len_list, R.len_tup, R.len_str, R.isa_tt, R.isa_tl, R.isa_ti, R.isa_tb, R.isa_ts, R.isa_tn, R.isa_ii, R.isa_ib, R.isa_is, R.isa_in, R.isa_il, R.isa_it, R.isa_bi, R.isa_bb, R.isa_bs, R.isa_bn, R.isa_bl, R.isa_bt, R.isa_ss, R.isa_si, R.isa_sb, R.isa_sn, R.isa_sl, R.isa_st, R.isa_ll, R.isa_lt, R.zip_tup, R.zip_list, R.enum_list, R.need_tt, R.rev_list, R.rev_tup, R.isb_eq, R.isntb_eq, Option.bind_some, if_true, if_false, Bool.false_eq_true, Bool.not_true, Bool.not_false, R.enum2_list, R.enum2_tup, R.cat_list, R.listRg_int, R.slice_str, R.strO_str, R.isB_bool, R.isNone_none, R.isNone_int, R.isNone_bool, R.isNone_str, R.isNone_tup, R.isNone_list, R.isn_eq, R.isntn_eq, R.extT, R.ext_list, R.mulL_int, R.draw0, R.draw1, R.draw2, R.orX, R.andX, Bool.true_eq_false, R.need_p, if_pos, if_neg, PySem.sizeLine_eq, List.length_cons, List.length_nil, List.length_map, List.length_append, decide_eq_true_eq, Bool.not_eq_true', Bool.not_eq_eq_eq_not, decide_eq_false_iff_not, e1, e2, c1, e3]
        exact .ret ⟨_, rfl, _, _, _, _, rfl⟩
      · obtain ⟨ρ', rfl, x2, x4, x8, x9, rfl⟩ := ho
        exact ⟨_, rfl, _, _, _, _, _, rfl⟩
    · obtain ⟨ρ', rfl, x2, x4, x7, x8, x9, rfl⟩ := ho
      exact ⟨_, rfl, _, _, _, _, _, _, _, _, rfl⟩
  · obtain ⟨ρ', rfl, x2, x3, x4, x5, x6, x7, x8, x9, rfl⟩ := ho
    simp -implicitDefEqProofs only [R.seq_eq, R.T.ret_bind, R.T.bind_assoc, R.T.stuck_bind, R.T.draw_bind, R.nxT_nx, R.nxT_ret, R.nxT_brk, R.nxT_ct, R.onT_nx, R.onT_ct, R.onT_brk, R.onT_ret, R.finT_ret, R.finT_nx, R.setT, R.retT, R.getv_0, R.getv_s, R.put_zero, R.put_succ, R.nth_zero, R.nth_succ, R.ifT, R.andT, R.orT, R.notT, R.bV, R.eq_int, R.ne_int, R.eq_str, R.ne_str, R.nox_ret, R.nox_draw, R.draw_eq, R.andV, R.orV, R.notV, R.iteT, R.chainT, R.lstT, R.tupT, R.par2T, R.par3T, R.asgO, R.asg_n, R.asg_t, R.asgs_nil, R.asgs_cons, R.turnT, R.appT, R.add_int, R.add_str, R.add_list, R.add_tup, R.sub_int, R.mul_int, R.fdiv_int, R.mod_int, R.neg_int, R.shr_int, R.shl_int, R.pow_int, R.lt_int, R.le_int, R.gt_int, R.ge_int, R.addI_int, R.tru_none, R.tru_bool, R.tru_int, R.tru_list, R.tru_tup, R.idx_t0, R.idx_t1, R.idx_t2, R.idx_t3, R.idx_l0, R.idx_l1, R.slice_list, R.slice_tup, R.part_int, R.max_i, R.min_i, R.items_list, R.items_tup, R.tuple_list, R.tuple_tup, R.list_list, R.list_tup, R.len_list, R.len_tup, R.len_str, R.isa_tt, R.isa_tl, R.isa_ti, R.isa_tb, R.isa_ts, R.isa_tn, R.isa_ii, R.isa_ib, R.isa_is, R.isa_in, R.isa_il, R.isa_it, R.isa_bi, R.isa_bb, R.isa_bs, R.isa_bn, R.isa_bl, R.isa_bt, R.isa_ss, R.isa_si, R.isa_sb, R.isa_sn, R.isa_sl, R.isa_st, R.isa_ll, R.isa_lt, R.zip_tup, R.zip_list, R.enum_list, R.need_tt, R.rev_list, R.rev_tup, R.isb_eq, R.isntb_eq, Option.bind_some, if_true, if_false, Bool.false_eq_true, Bool.not_true, Bool.not_false, R.enum2_list, R.enum2_tup, R.cat_list, R.listRg_int, R.slice_str, R.strO_str, R.isB_bool, R.isNone_none, R.isNone_int, R.isNone_bool, R.isNone_str, R.isNone_tup, R.isNone_list, R.isn_eq, R.isntn_eq, R.extT, R.ext_list, R.mulL_int, R.draw0, R.draw1, R.draw2, R.orX, R.andX]
    exact .ret rfl
end Lw

set_option Elab.async false
set_option linter.all false
set_option maxRecDepth 100000
set_option maxHeartbeats 4000000
namespace Lw
open PySem PySem.Spec L2 R
open PyProof.Rows hiding St
def topS (i : Nat) : Stmt := PySem.Challenge.pw_wayhouse_k22_likings_and_what_is_told.main.body.getD i (.Pass ⟨0, 0, 0, 0⟩)
abbrev s_size_of : Stmt := topS 2
abbrev s_has : Stmt := topS 3
abbrev s_is_within : Stmt := topS 4
abbrev s_word_for : Stmt := topS 9
abbrev s_liking : Stmt := topS 10
abbrev s_is_told : Stmt := topS 11
abbrev s__law_deck : Stmt := topS 13
abbrev s__law_draw : Stmt := topS 14
abbrev s__law_pick : Stmt := topS 15
abbrev s__law_names : Stmt := topS 16
abbrev s__law_has : Stmt := topS 17
abbrev s__law_is_in : Stmt := topS 18
abbrev s__law_about : Stmt := topS 19
abbrev s__law_rules : Stmt := topS 20
abbrev s__law_word : Stmt := topS 21
abbrev s__law_areas : Stmt := topS 22
abbrev s__law_right : Stmt := topS 23
abbrev s_law : Stmt := topS 24
structure Hd (K : PySem.W.Frag) (mg : Str → Option Value) : Prop where
  g_WHOLE : GlD K mg "WHOLE" (.int 65536)
  g_PLAIN : GlD K mg "PLAIN" (.int 5)
  g_BARS : GlD K mg "BARS" (.str "bar")
  g_HIDES : GlD K mg "HIDES" (.str "hide")
  z_len : mg "len" = none
  z_range : mg "range" = none
  z_sorted : mg "sorted" = none
  z_min : mg "min" = none
  z_tuple : mg "tuple" = none
  z_repr : mg "repr" = none
  z_list : mg "list" = none
theorem sc__law_deck : FnScope ["_law_script", "_law_stir", "_law_cell"] ["_law_script"] (defScope s__law_deck) := ⟨rfl, rfl, rfl, by decide +kernel, rfl, by decide +kernel, by decide +kernel⟩
theorem sc__law_draw : FnScope ["_law_deck_here", "_law_many", "_law_mixed", "_law_cell"] ["_law_deck_here", "_law_many"] (defScope s__law_draw) := ⟨rfl, rfl, rfl, by decide +kernel, rfl, by decide +kernel, by decide +kernel⟩
theorem sc_size_of : FnScope ["length"] ["length"] (defScope s_size_of) := ⟨rfl, rfl, rfl, by decide +kernel, rfl, by decide +kernel, by decide +kernel⟩
theorem sc_has : FnScope ["block", "address", "start", "length"] ["block", "address"] (defScope s_has) := ⟨rfl, rfl, rfl, by decide +kernel, rfl, by decide +kernel, by decide +kernel⟩
theorem sc_is_within : FnScope ["one", "other"] ["one", "other"] (defScope s_is_within) := ⟨rfl, rfl, rfl, by decide +kernel, rfl, by decide +kernel, by decide +kernel⟩
theorem sc_word_for : FnScope ["rules", "neighbour", "block", "name", "around", "longest", "word"] ["rules", "neighbour", "block"] (defScope s_word_for) := ⟨rfl, rfl, rfl, by decide +kernel, rfl, by decide +kernel, by decide +kernel⟩
theorem sc_liking : FnScope ["takes", "neighbour", "block", "word"] ["takes", "neighbour", "block"] (defScope s_liking) := ⟨rfl, rfl, rfl, by decide +kernel, rfl, by decide +kernel, by decide +kernel⟩
theorem sc_is_told : FnScope ["tells", "neighbour", "block"] ["tells", "neighbour", "block"] (defScope s_is_told) := ⟨rfl, rfl, rfl, by decide +kernel, rfl, by decide +kernel, by decide +kernel⟩
theorem sc__law_pick : FnScope ["_law_deck_here", "_law_some"] ["_law_deck_here", "_law_some"] (defScope s__law_pick) := ⟨rfl, rfl, rfl, by decide +kernel, rfl, by decide +kernel, by decide +kernel⟩
theorem sc__law_names : FnScope ["_law_deck_here", "_law_many", "_law_letters", "_law_way", "_law_first", "_law_at", "_law_stem", "_law_found", "_law_k", "_law_letter", "_law_one"] ["_law_deck_here", "_law_many"] (defScope s__law_names) := ⟨rfl, rfl, rfl, by decide +kernel, rfl, by decide +kernel, by decide +kernel⟩
theorem sc__law_has : FnScope ["_law_area", "_law_spot"] ["_law_area", "_law_spot"] (defScope s__law_has) := ⟨rfl, rfl, rfl, by decide +kernel, rfl, by decide +kernel, by decide +kernel⟩
theorem sc__law_is_in : FnScope ["_law_one", "_law_other"] ["_law_one", "_law_other"] (defScope s__law_is_in) := ⟨rfl, rfl, rfl, by decide +kernel, rfl, by decide +kernel, by decide +kernel⟩
theorem sc__law_about : FnScope ["_law_deck_here", "_law_spot", "_law_length", "_law_wide"] ["_law_deck_here", "_law_spot"] (defScope s__law_about) := ⟨rfl, rfl, rfl, by decide +kernel, rfl, by decide +kernel, by decide +kernel⟩
theorem sc__law_rules : FnScope ["_law_deck_here", "_law_names_here", "_law_spots", "_law_words", "_law_many", "_law_found", "_law_k", "_law_area", "_law_longest"] ["_law_deck_here", "_law_names_here", "_law_spots", "_law_words", "_law_many"] (defScope s__law_rules) := ⟨rfl, rfl, rfl, by decide +kernel, rfl, by decide +kernel, by decide +kernel⟩
theorem sc__law_word : FnScope ["_law_rules_here", "_law_called", "_law_area", "_law_name", "_law_around", "_law_longest", "_law_word_here"] ["_law_rules_here", "_law_called", "_law_area"] (defScope s__law_word) := ⟨rfl, rfl, rfl, by decide +kernel, rfl, by decide +kernel, by decide +kernel⟩
theorem sc__law_areas : FnScope ["_law_deck_here", "_law_rules_here", "_law_spots", "_law_found", "_law_name", "_law_area", "_law_longest", "_law_word_here", "_law_start", "_law_length", "_law_spot"] ["_law_deck_here", "_law_rules_here", "_law_spots"] (defScope s__law_areas) := ⟨rfl, rfl, rfl, by decide +kernel, rfl, by decide +kernel, by decide +kernel⟩
theorem sc__law_right : FnScope ["_law_likes", "_law_says", "_law_called", "_law_area", "_law_kept", "_law_word_here", "_law_due", "_law_told"] ["_law_likes", "_law_says", "_law_called", "_law_area"] (defScope s__law_right) := ⟨rfl, rfl, rfl, by decide +kernel, rfl, by decide +kernel, by decide +kernel⟩
theorem sc_law : FnScope ["_law_script", "_law_deck_here", "_law_turn", "_law_spots", "_law_names_here", "_law_likes", "_law_says", "_law_called", "_law_area", "_law_k"] ["_law_script"] (defScope s_law) := ⟨rfl, rfl, rfl, by decide +kernel, rfl, by decide +kernel, by decide +kernel⟩
section
variable {P : Program} {w : World} {K : PySem.W.Frag} {mg : Str → Option Value} {base : Heap} {cls : Str → Value}
theorem cut63 (ns : List Int) : cutV (ns.map V.int) none (some 63) = (ns.take 63).map V.int := by
  unfold cutV
  rw [HT.sIx_none, show HT.sIx (ns.map V.int).length (ns.map V.int).length (some 63) = min 63 (ns.map V.int).length from HT.sIx_nat _ _ 63, List.drop_zero, List.map_take, List.length_map]
  by_cases h : ns.length ≤ 63
  · rw [show min 63 ns.length - 0 = ns.length by omega, List.take_of_length_le (by simp), List.take_of_length_le (by simpa using h)]
  · rw [show min 63 ns.length - 0 = 63 by omega]
theorem kv_disp (q : Addr) (s t : Int) : mergeK [] [(.inr "cells", V.ref q), (.inr "stir", .int s), (.inr "turn", .int t)] = [(.inr "cells", V.ref q), (.inr "stir", .int s), (.inr "turn", .int t)] := rfl
theorem deckA {f : Addr} {fd : FuncData} {k : Nat} (Z : Hd K mg) (F : FunD K "_law_deck" "_law_deck" (defArgs s__law_deck) (defBody s__law_deck) (defScope s__law_deck) [] [] f fd) : FnOk P w K mg base CX0 (k + 1) f fd ["_law_script"] (spDeck K 1) := by
  have nd := sc__law_deck.nd
  refine F.ok sc__law_deck (fun vs H Q E h => ?_) (fun cdv A outer s H vs Q E hr h => ?_)
  · obtain ⟨a, ns, rfl, _⟩ := h
    rfl
  · obtain ⟨a, ns, rfl, hS, hlen, hbits, q⟩ := h
    refine ⟨_, PSs.nox (pss_cons (ps_set (i := 1) nd rfl (.inl rfl) pe_int)
      (pss_cons (ps_for PassesOwn.never rfl (pi_list (pe_slice sl_list (pv 0) po_none (po_some pe_int))) (pg_name (i := 2) nd rfl (.inl rfl)) (pss_one (ps_set (i := 1) nd rfl (.inl rfl) (pe_op op_mod (pe_op op_add (pe_op op_mul (pv 1) pe_int) (pv 2)) pe_int))))
      (pss_one (ps_ret (pe_disp (pps_cons pe_str (pe_revL (pe_callTy call_list_of rfl Z.z_list boot_list' (pa_cons (pe_slice sl_list (pv 0) po_none (po_some pe_int)) pa_nil))) (pps_cons pe_str (pv 1) (pps_cons pe_str pe_int pps_nil))) rfl rfl (by simp) (by decide)))))), ?_⟩
    have ht : ns.take 63 = ns := List.take_of_length_le hlen
    refine ⟨.ref a, rfl, 63, rfl, a, ns.map V.int, rfl, hS, fun b nb => ?_⟩
    rw [cut63, ht]
    have hb1 : (upd H b (.lst (ns.map V.int))) b = some (.lst (ns.map V.int)) := upd_same
    refine ⟨b, rfl, ⟨_, SqL.of hb1⟩, ?_⟩
    generalize e1 : upd H b (.lst (ns.map V.int)) = H1 at hb1 ⊢
    have k1 : ∀ x o, H x = some o → H1 x = some o := fun x o e => by subst e1; rw [upd_ne (ne_of_none e nb)]; exact e
    have old : ∀ x, H1 x = none → H x = none := fun x e => by
      cases z : H x with
      | none => rfl
      | some o => rw [k1 x o z] at e; cases e
    refine ⟨fun i m σ H' => H' = H1 ∧ m = ns.length - i ∧ ∃ (st : Int) (c : Option V), σ = [some (.ref a), some (.int st), c] ∧ 0 ≤ st ∧ st < 2305843009213693921, ⟨_, rfl, rfl, 104723, none, rfl, by decide, by decide⟩, ?_⟩
    rintro i m σ H' ⟨rfl, rfl, st, c, rfl, st0, st1⟩
    by_cases hi : i < ns.length
    · have gi : (ns.map V.int)[i]? = some (.int ns[i]) := by rw [List.getElem?_map, List.getElem?_eq_getElem hi]; rfl
      refine .inr ⟨⟨_, _, SqL.of hb1, gi⟩, fun σ' H'' => H'' = H' ∧ ∃ (st : Int) (c : Option V), σ' = [some (.ref a), some (.int st), c] ∧ 0 ≤ st ∧ st < 2305843009213693921, fun σ' H'' h => ⟨ns.length - (i + 1), by omega, h.1, rfl, h.2⟩, ?_⟩
      rintro x H'' ⟨rfl, hx⟩
      have hx := hx _ (SqL.of hb1)
      rw [gi] at hx
      cases hx
      refine ⟨.int st, rfl, st, 69069, rfl, rfl, .inr ⟨by decide, by decide⟩, .int ns[i], rfl, _, _, rfl, rfl, _, 2305843009213693921, rfl, rfl, (show (0 : Int) < 2305843009213693921 by decide), rfl, _, _, rfl, Int.emod_nonneg _ (by decide), Int.emod_lt_of_pos _ (by decide)⟩
    · refine .inl ⟨⟨_, SqL.of hb1, by simp; omega⟩, fun p np => ?_⟩
      have hp0 := old p np
      generalize e2 : upd H' p (.dK []) = H2
      have k2 : ∀ x o, H' x = some o → H2 x = some o := fun x o e => by subst e2; rw [upd_ne (ne_of_none e np)]; exact e
      have hp2 : H2 p = some (.dK []) := by subst e2; exact upd_same
      have hS2 : SqL K H2 a (ns.map V.int) := SqL_mono (fun x o e => k2 x o (k1 x o e)) hS
      refine ⟨.ref a, rfl, 63, rfl, a, ns.map V.int, rfl, hS2, fun c1 nc1 => ?_⟩
      rw [cut63, ht]
      generalize e3 : upd H2 c1 (.lst (ns.map V.int)) = H3
      have k3 : ∀ x o, H2 x = some o → H3 x = some o := fun x o e => by subst e3; rw [upd_ne (ne_of_none e nc1)]; exact e
      have hc3 : H3 c1 = some (.lst (ns.map V.int)) := by subst e3; exact upd_same
      refine ⟨c1, ns.map V.int, rfl, .inl (SqL.of hc3), fun c2 nc2 => ?_⟩
      generalize e4 : upd H3 c2 (.lst (ns.map V.int)) = H4
      have k4 : ∀ x o, H3 x = some o → H4 x = some o := fun x o e => by subst e4; rw [upd_ne (ne_of_none e nc2)]; exact e
      have hc4 : H4 c2 = some (.lst (ns.map V.int)) := by subst e4; exact upd_same
      refine ⟨c2, ns.map V.int, rfl, SqL.of hc4, fun c3 nc3 => ?_⟩
      rw [show (ns.map V.int).reverse = ns.reverse.map V.int from (List.map_reverse).symm]
      generalize e5 : upd H4 c3 (.lst (ns.reverse.map V.int)) = H5
      have k5 : ∀ x o, H4 x = some o → H5 x = some o := fun x o e => by subst e5; rw [upd_ne (ne_of_none e nc3)]; exact e
      have hc5 : H5 c3 = some (.lst (ns.reverse.map V.int)) := by subst e5; exact upd_same
      have hp5 : H5 p = some (.dK []) := k5 _ _ (k4 _ _ (k3 _ _ hp2))
      have n3p : c3 ≠ p := fun z => by subst z; rw [k4 _ _ (k3 _ _ hp2)] at nc3; cases nc3
      have hc30 : H c3 = none := by
        cases z : H c3 with
        | none => rfl
        | some o => rw [k4 _ _ (k3 _ _ (k2 _ _ (k1 _ _ z)))] at nc3; cases nc3
      refine ⟨.int st, rfl, hp5, [(.inr "cells", V.ref c3), (.inr "stir", .int st), (.inr "turn", .int 0)], rfl, (show (3 : Nat) ≤ 15 by decide), ?_⟩
      rw [kv_disp]
      refine q p c3 st ns.reverse _ hp0 hc30 (Ne.symm n3p) (fun x o e => ?_) ?_ ?_ (by simpa using hlen) (fun z hz => hbits z (by simpa using hz)) st0 (by omega)
      · have z := k5 _ _ (k4 _ _ (k3 _ _ (k2 _ _ (k1 _ _ e))))
        rw [upd_ne (fun y => by subst y; rw [hp0] at e; cases e)]; exact z
      · rw [upd_same]; rfl
      · rw [upd_ne n3p]; exact hc5
theorem ne_cells {cells : List Int} : PyData.eqv (.list (cells.map .int)) (.list []) = cells.isEmpty := by
  cases cells <;> simp [PyData.eqv, PyData.eqvAll]
theorem shaped_cells (cells : List Int) : SeqAt.shaped (.list (cells.map .int)) = true := by
  have h1 : PyData.canLayAll0 (cells.map .int) = true := by
    induction cells with
    | nil => rfl
    | cons c cs ih => simp [PyData.canLayAll0, PyData.canLay0, ih]
  have h2 : PyData.depthAll (cells.map .int) ≤ 1 := by
    induction cells with
    | nil => simp [PyData.depthAll]
    | cons c cs ih => simp only [List.map_cons, PyData.depthAll, PyData.depth]; have := ih (by simpa [PyData.canLayAll0, PyData.canLay0] using h1); omega
  unfold SeqAt.shaped
  simp only [PyData.canLay0, PyData.depth, h1, Bool.true_and]
  exact decide_eq_true (by omega)
theorem dp_cells {H : Hp} : ∀ cells : List Int, DpAll K H (cells.map V.int) (cells.map .int)
  | [] => .nil
  | c :: cs => .cons (.int c) (dp_cells cs)
theorem bits_le {a b : Int} (h0 : 0 ≤ a) (h : a ≤ b) (hb : Builtin.Int.intBits b ≤ 2 ^ 20) : Builtin.Int.intBits a ≤ 2 ^ 20 := by
  unfold Builtin.Int.intBits at hb ⊢
  split
  · omega
  · rename_i ha
    have ha : a ≠ 0 := by simpa using ha
    split at hb
    · rename_i z
      have z : b = 0 := by simpa using z
      omega
    · have : a.natAbs.log2 ≤ b.natAbs.log2 := by
        have h1 : a.natAbs ≤ b.natAbs := by omega
        have h2 : a.natAbs ≠ 0 := by omega
        rw [Nat.le_log2 (by omega)]
        exact Nat.le_trans (Nat.log2_self_le h2) h1
      omega
theorem kv_turn (q : Addr) (s t u : Int) : putK (([(.inr "cells", V.ref q), (.inr "stir", .int s), (.inr "turn", .int t)] : List (Key × V))) (.inr "turn") (.int u) = [(.inr "cells", V.ref q), (.inr "stir", .int s), (.inr "turn", .int u)] := rfl
theorem g_cells {H : Hp} {p q : Addr} {s t : Int} (h : H p = some (.dK [(.inr "cells", V.ref q), (.inr "stir", .int s), (.inr "turn", .int t)])) : DGet H p (.str "cells") (some (.ref q)) := DGet.k (k := .inr "cells") h
theorem g_stir {H : Hp} {p q : Addr} {s t : Int} (h : H p = some (.dK [(.inr "cells", V.ref q), (.inr "stir", .int s), (.inr "turn", .int t)])) : DGet H p (.str "stir") (some (.int s)) := DGet.k (k := .inr "stir") h
theorem g_turn {H : Hp} {p q : Addr} {s t : Int} (h : H p = some (.dK [(.inr "cells", V.ref q), (.inr "stir", .int s), (.inr "turn", .int t)])) : DGet H p (.str "turn") (some (.int t)) := DGet.k (k := .inr "turn") h
theorem drawA {f : Addr} {fd : FuncData} {k : Nat} (F : FunD K "_law_draw" "_law_draw" (defArgs s__law_draw) (defBody s__law_draw) (defScope s__law_draw) [] [] f fd) : FnOk P w K mg base CX0 (k + 1) f fd ["_law_deck_here", "_law_many"] (spDraw 1) := by
  have nd := sc__law_draw.nd
  refine F.ok sc__law_draw (fun vs H Q E h => ?_) (fun cdv A outer s H vs Q E hr h => ?_)
  · obtain ⟨d, n, b, rfl, _⟩ := h
    rfl
  · obtain ⟨d, n, b, rfl, hf, n0, n1, ⟨cells, s0, t, h1, h2, h3, h4, h5, h6, h7, h8⟩, q⟩ := h
    rw [hf] at h1
    have hu : (A.deeper (envOfC "_law_draw" (defScope s__law_draw) s.heap.objs.size f cdv)).units + 1 < cLine := by have := hr.units; omega
    refine ⟨_, PSs.nox (pss_cons (ps_dput hu (pv 0) pe_str (pe_op op_add (pe_dget hu (pv 0) pe_str (fun _ _ => rfl)) pe_int) rfl)
      (pss_cons (ps_set (i := 2) nd rfl (.inl rfl) (pe_op op_add (pe_dget hu (pv 0) pe_str (fun _ _ => rfl)) (pe_op op_mul pe_int (pe_dget hu (pv 0) pe_str (fun _ _ => rfl)))))
      (pss_cons (ps_if (pt_cmpR (op_neD hr.units) (pe_dget hu (pv 0) pe_str (fun _ _ => rfl)) (pe_lst pa_nil) (nomark _))
        (pss_cons (ps_set (i := 3) nd rfl (.inl rfl) (pe_bm0 PySem.F.plainAttrs_list PySem.F.slot_list_pop PySem.F.type_list_pop mt_pop (pe_dget hu (pv 0) pe_str (fun _ _ => rfl))))
        (pss_cons (ps_if (pt_cmpR op_ge (pv 3) (pe_op op_pow pe_int pe_int) (nomark _))
          (pss_cons (ps_expr (pe_bm PySem.F.plainAttrs_list PySem.F.slot_list_append PySem.F.type_list_append mt_append (pe_dget hu (pv 0) pe_str (fun _ _ => rfl)) (pa_cons (pe_op op_fdiv (pv 3) (pv 1)) pa_nil)))
            (pss_one (ps_ret (pe_op op_mod (pv 3) (pv 1)))))
          pss_nil)
        (pss_one (ps_set (i := 2) nd rfl (.inl rfl) (pe_op op_add (pv 2) (pe_op op_mul pe_int (pv 3)))))))
        pss_nil)
      (pss_cons (ps_set (i := 2) nd rfl (.inl rfl) (pe_op op_mod (pv 2) pe_int))
      (pss_cons (ps_set (i := 2) nd rfl (.inl rfl) (pe_op op_mod (pe_op op_add (pe_op op_add (pe_op op_mul (pv 2) (pv 2)) (pe_op op_mul pe_int (pe_dget hu (pv 0) pe_str (fun _ _ => rfl)))) pe_int) pe_int))
      (pss_cons (ps_set (i := 2) nd rfl (.inl rfl) (pe_op op_mod (pe_op op_add (pe_op op_mul (pv 2) (pe_op op_add (pv 2) pe_int)) pe_int) pe_int))
      (pss_one (ps_ret (pe_op op_mod (pe_op op_fdiv (pv 2) pe_int) (pv 1)))))))))), ?_⟩
    have npq := d.ne
    refine ⟨.ref d.p, rfl, d.p, .int t, rfl, g_turn h1, t, 1, rfl, rfl, .ref d.p, rfl, d.p, _, rfl, DPut.k (k := .inr "turn") h1 (by rw [sizeLine_eq]; exact (show (3 : Nat) < 16777216 by decide)), ?_⟩
    rw [kv_turn]
    generalize e1 : upd H d.p (.dK [(.inr "cells", V.ref d.q), (.inr "stir", .int s0), (.inr "turn", .int (t + 1))]) = H1
    have hp1 : H1 d.p = some (.dK [(.inr "cells", V.ref d.q), (.inr "stir", .int s0), (.inr "turn", .int (t + 1))]) := by subst e1; rw [upd_same]
    have hq1 : H1 d.q = some (.lst (cells.map V.int)) := by subst e1; rw [upd_ne (Ne.symm npq)]; exact h2
    have k1 : ∀ x, ¬ d.own x → H1 x = H x := fun x hx => by subst e1; exact upd_ne fun z => hx (.inl z)
    refine ⟨.ref d.p, rfl, d.p, .int s0, rfl, g_stir hp1, .ref d.p, rfl, d.p, .int (t + 1), rfl, g_turn hp1, 92821, t + 1, rfl, rfl, .inl ⟨by decide, by decide⟩, s0, _, rfl, rfl, ?_⟩
    dsimp only
    -- the mixing
    have mixed : ∀ (here : Int) (c : Option V) (H2 : Hp) (cs : List Int), H2 d.p = some (.dK [(.inr "cells", V.ref d.q), (.inr "stir", .int s0), (.inr "turn", .int (t + 1))]) → H2 d.q = some (.lst (cs.map V.int)) → (∀ x, ¬ d.own x → H x ≠ none → H2 x = H x) → cs.length ≤ 63 → (∀ c ∈ cs, Builtin.Int.intBits c ≤ 2 ^ 20) →
        tSeq (tAsg (tOp (rI (fun _ j => 0 < j) fun i j => .int (i % j)) (tVar 2) (tC (.int 2305843009213693921))) (gName 2))
          (tSeq (tAsg (tOp (rI (fun _ j => 0 < j) fun i j => .int (i % j)) (tOp (rI0 fun i j => .int (i + j)) (tOp (rI0 fun i j => .int (i + j)) (tOp (rI CMul fun i j => .int (i * j)) (tVar 2) (tVar 2)) (tOp (rI CMul fun i j => .int (i * j)) (tC (.int 7919)) (tDGet (tVar 0) (tC (.str "turn"))))) (tC (.int 5))) (tC (.int 2305843009213693951))) (gName 2))
          (tSeq (tAsg (tOp (rI (fun _ j => 0 < j) fun i j => .int (i % j)) (tOp (rI0 fun i j => .int (i + j)) (tOp (rI CMul fun i j => .int (i * j)) (tVar 2) (tOp (rI0 fun i j => .int (i + j)) (tVar 2) (tC (.int 69621)))) (tC (.int 17))) (tC (.int 2305843009213693921))) (gName 2))
          (tRet (tOp (rI (fun _ j => 0 < j) fun i j => .int (i % j)) (tOp (rI CDiv fun i j => .int (i / j)) (tVar 2) (tC (.int 8192))) (tVar 1)))))
          { nx := fun _ H' => Q .non H', rt := Q } [some (.ref d.p), some (.int n), some (.int here), c] H2 := by
      intro here c H2 cs a1 a2 a3 a4 a5
      refine ⟨.int here, rfl, here, 2305843009213693921, rfl, rfl, (show (0 : Int) < 2305843009213693921 by decide), ?_⟩
      dsimp only
      generalize ex : here % 2305843009213693921 = x
      have x0 : 0 ≤ x := by subst ex; exact Int.emod_nonneg _ (by decide)
      have x1 : x < 2305843009213693921 := by subst ex; exact Int.emod_lt_of_pos _ (by decide)
      refine ⟨.int x, rfl, .int x, rfl, x, x, rfl, rfl, .inl ⟨by omega, by omega⟩, .ref d.p, rfl, d.p, .int (t + 1), rfl, g_turn a1, 7919, t + 1, rfl, rfl, .inl ⟨by decide, by decide⟩, _, _, rfl, rfl, _, 5, rfl, rfl, _, 2305843009213693951, rfl, rfl, (show (0 : Int) < 2305843009213693951 by decide), ?_⟩
      dsimp only
      generalize ey : (x * x + 7919 * (t + 1) + 5) % 2305843009213693951 = y
      have y0 : 0 ≤ y := by subst ey; exact Int.emod_nonneg _ (by decide)
      have y1 : y < 2305843009213693951 := by subst ey; exact Int.emod_lt_of_pos _ (by decide)
      refine ⟨.int y, rfl, .int y, rfl, y, 69621, rfl, rfl, y, _, rfl, rfl, .inl ⟨by omega, by omega⟩, _, 17, rfl, rfl, _, 2305843009213693921, rfl, rfl, (show (0 : Int) < 2305843009213693921 by decide), ?_⟩
      dsimp only
      generalize ez : (y * (y + 69621) + 17) % 2305843009213693921 = z
      refine ⟨.int z, rfl, z, 8192, rfl, rfl, ⟨by decide, by decide⟩, .int n, rfl, _, n, rfl, rfl, n0, ?_⟩
      exact q _ H2 (Int.emod_nonneg _ (by omega)) (Int.emod_lt_of_pos _ n0) ⟨cs, s0, t + 1, by rw [hf]; exact a1, a2, a4, a5, h5, h6, by omega, by omega⟩ fun x hx hn => a3 x hx hn
    -- cells?
    refine ⟨.ref d.p, rfl, d.p, .ref d.q, rfl, g_cells hp1, Nat.zero_le _, fun l nl => ?_⟩
    have lp : d.p ≠ l := ne_of_none hp1 nl
    have lq : d.q ≠ l := ne_of_none hq1 nl
    have hp2 : (upd H1 l (.lst [])) d.p = some (.dK [(.inr "cells", V.ref d.q), (.inr "stir", .int s0), (.inr "turn", .int (t + 1))]) := by rw [upd_ne lp]; exact hp1
    have hq2 : (upd H1 l (.lst [])) d.q = some (.lst (cells.map V.int)) := by rw [upd_ne lq]; exact hq1
    have k2 : ∀ x, ¬ d.own x → H x ≠ none → (upd H1 l (.lst [])) x = H x := fun x hx hn => by
      rw [upd_ne (fun z => by subst z; rw [k1 _ hx] at nl; exact hn nl)]; exact k1 x hx
    refine ⟨.list (cells.map .int), .list [], .lst (SqL.of hq2) (dp_cells cells), .lst (SqL.of upd_same) .nil, shaped_cells cells, rfl, _, rfl, ?_⟩
    rw [ne_cells]
    cases hcs : cells.reverse with
    | nil =>
      have e : cells = [] := by simpa using hcs
      subst e
      exact mixed _ none _ [] hp2 hq2 k2 (by simp) (fun _ z => nomatch z)
    | cons c rc =>
      have e : cells = rc.reverse ++ [c] := by
        have := congrArg List.reverse hcs
        simpa using this
      have hne : cells.isEmpty = false := by rw [e]; simp
      rw [hne]
      have hlast : (cells.map V.int)[(cells.map V.int).length - 1]? = some (.int c) := by rw [e]; simp
      have hdrop : (cells.map V.int).dropLast = rc.reverse.map V.int := by rw [e]; simp
      have len : rc.length + 1 ≤ 63 := by have := h3; rw [e] at this; simpa using this
      have bc : Builtin.Int.intBits c ≤ 2 ^ 20 := h4 c (by rw [e]; simp)
      have br : ∀ z ∈ rc.reverse, Builtin.Int.intBits z ≤ 2 ^ 20 := fun z hz => h4 z (by rw [e]; exact List.mem_append_left _ hz)
      refine ⟨.ref d.p, rfl, d.p, .ref d.q, rfl, g_cells hp2, .inl ⟨rfl, _, SqL.of hq2⟩, d.q, _, .int c, rfl, rfl, hq2, hlast, ?_⟩
      rw [hdrop]
      generalize e3 : upd (upd H1 l (.lst [])) d.q (.lst (rc.reverse.map V.int)) = H3
      have hp3 : H3 d.p = some (.dK [(.inr "cells", V.ref d.q), (.inr "stir", .int s0), (.inr "turn", .int (t + 1))]) := by subst e3; rw [upd_ne npq]; exact hp2
      have hq3 : H3 d.q = some (.lst (rc.reverse.map V.int)) := by subst e3; rw [upd_same]
      have k3 : ∀ x, ¬ d.own x → H x ≠ none → H3 x = H x := fun x hx hn => by subst e3; rw [upd_ne fun z => hx (.inr z)]; exact k2 x hx hn
      refine ⟨.int c, rfl, 10, 18, rfl, rfl, ⟨by decide, by decide, by decide⟩, c, _, rfl, rfl, _, rfl, ?_⟩
      by_cases big : (10 : Int) ^ (18 : Int).toNat ≤ c
      · rw [decide_eq_true big]
        dsimp only
        rw [if_pos rfl]
        refine ⟨.ref d.p, rfl, d.p, .ref d.q, rfl, g_cells hp3, .inl ⟨rfl, _, SqL.of hq3⟩, .int c, rfl, .int n, rfl, c, n, rfl, rfl, ⟨n0, n1⟩, d.q, _, .int (c / n), rfl, rfl, hq3, by rw [List.length_map, List.length_reverse, sizeLine_eq]; omega, ?_⟩
        refine ⟨.int c, rfl, .int n, rfl, c, n, rfl, rfl, n0, ?_⟩
        have big' : (1000000000000000000 : Int) ≤ c := big
        have c0 : 0 ≤ c / n := Int.ediv_nonneg (by omega) (by omega)
        have c1 : c / n ≤ c := Int.ediv_le_self _ (by omega)
        refine q (c % n) _ (Int.emod_nonneg _ (by omega)) (Int.emod_lt_of_pos _ n0) ⟨rc.reverse ++ [c / n], s0, t + 1, ?_, ?_, by simp; omega, fun z hz => ?_, h5, h6, by omega, by omega⟩ fun x hx hn => ?_
        · rw [upd_ne npq, hf]; exact hp3
        · rw [upd_same]; simp
        · rcases List.mem_append.mp hz with hz | hz
          · exact br z hz
          · have : z = c / n := by simpa using hz
            rw [this]; exact bits_le c0 c1 bc
        · rw [upd_ne fun z => hx (.inr z)]; exact k3 x hx hn
      · rw [decide_eq_false big]
        dsimp only
        rw [if_neg (by simp)]
        refine ⟨.int _, rfl, .int c, rfl, 48271, c, rfl, rfl, .inl ⟨by decide, by decide⟩, _, _, rfl, rfl, ?_⟩
        exact mixed _ (some (.int c)) H3 rc.reverse hp3 hq3 k3 (by simp; omega) br
theorem ok_size_of {f : Addr} {fd : FuncData} (Z : Hd K mg)  (F : FunD K "size_of" "size_of" (defArgs s_size_of) (defBody s_size_of) (defScope s_size_of) [] [] f fd) : FnG P w K mg base CX0 1 f fd ["length"] (spM K cls 1 m_size_of) := by
  have scN := sc_size_of.nd
  exact fnM (n := 1) (N := ["length"]) (M' := []) (Mb := []) (ms := b_size_of) F sc_size_of rfl (fun cdv A outer s H E hr => (mss_one (ms_ret (me_shr (mr (me_glob Z.g_WHOLE rfl rfl)) (mr (me_var 0 (by decide) rfl (.inl rfl) rfl rfl))))))
theorem ok_has {f : Addr} {fd : FuncData} (Z : Hd K mg) (c_size_of : Cal P w K mg base CX0 cls "size_of" s_size_of [] 1 1 ["length"] m_size_of) (F : FunD K "has" "has" (defArgs s_has) (defBody s_has) (defScope s_has) [] [] f fd) : FnG P w K mg base CX0 2 f fd ["block", "address"] (spM K cls 2 m_has) := by
  have scN := sc_has.nd
  exact fnM (n := 2) (N := ["block", "address", "start", "length"]) (M' := []) (Mb := []) (ms := b_has) F sc_has rfl (fun cdv A outer s H E hr => (mss_cons (ms_asg (.t [(.n 2), (.n 3)]) (by decide) (mg_tup rfl (mg_cons (mg_name 2 scN rfl (.inl rfl) (.inl rfl)) (mg_cons (mg_name 3 scN rfl (.inl rfl) (.inl rfl)) mg_nil rfl) rfl) rfl rfl) rfl rfl rfl (me_var 0 (by decide) rfl (.inl rfl) rfl rfl)) (mss_one (ms_ret (me_chain op_le op_lt le2 lt2 (by with_unfolding_all rfl) (mr (me_var 2 (by decide) rfl (.inl rfl) rfl rfl)) (mr (me_var 1 (by decide) rfl (.inl rfl) rfl rfl)) (mr (me_add (mr (me_var 2 (by decide) rfl (.inl rfl) rfl rfl)) (mr (mc c_size_of hr (by decide) pass0 (fun _ _ _ _ _ _ us hl => match us, hl with | [_], _ => rfl) rfl (la_cons la_nil') rfl (ma_cons (me_var 3 (by decide) rfl (.inl rfl) rfl rfl) ma_nil rfl) rfl rfl rfl)))))))))
theorem ok_is_within {f : Addr} {fd : FuncData} (Z : Hd K mg) (c_has : Cal P w K mg base CX0 cls "has" s_has [] 2 2 ["block", "address"] m_has) (F : FunD K "is_within" "is_within" (defArgs s_is_within) (defBody s_is_within) (defScope s_is_within) [] [] f fd) : FnG P w K mg base CX0 3 f fd ["one", "other"] (spM K cls 2 m_is_within) := by
  have scN := sc_is_within.nd
  exact fnM (n := 2) (N := ["one", "other"]) (M' := []) (Mb := []) (ms := b_is_within) F sc_is_within rfl (fun cdv A outer s H E hr => (mss_one (ms_ret (me_and (me_cmp op_ge ge2 (nomark _) (mr (me_ix (fun _ _ => rfl) (mr (me_var 0 (by decide) rfl (.inl rfl) rfl rfl)) (mr me_int))) (mr (me_ix (fun _ _ => rfl) (mr (me_var 1 (by decide) rfl (.inl rfl) rfl rfl)) (mr me_int)))) (me_one (mc c_has hr (by decide) pass0 (fun _ _ _ _ _ _ us hl => match us, hl with | [_, _], _ => rfl) rfl (la_cons (la_cons la_nil')) rfl (ma_cons (me_var 1 (by decide) rfl (.inl rfl) rfl rfl) (ma_cons (me_ix (fun _ _ => rfl) (mr (me_var 0 (by decide) rfl (.inl rfl) rfl rfl)) (mr me_int)) ma_nil rfl) rfl) rfl rfl rfl))))))
theorem ok_word_for {f : Addr} {fd : FuncData} (Z : Hd K mg) (c_is_within : Cal P w K mg base CX0 cls "is_within" s_is_within [] 3 2 ["one", "other"] m_is_within) (F : FunD K "word_for" "word_for" (defArgs s_word_for) (defBody s_word_for) (defScope s_word_for) [] [] f fd) : FnG P w K mg base CX0 4 f fd ["rules", "neighbour", "block"] (spM K cls 3 m_word_for) := by
  have scN := sc_word_for.nd
  exact fnM (n := 3) (N := ["rules", "neighbour", "block", "name", "around", "longest", "word"]) (M' := []) (Mb := []) (ms := b_word_for) F sc_word_for rfl (fun cdv A outer s H E hr => (mss_cons (ms_for (.t [(.n 3), (.n 4), (.n 5), (.n 6)]) (by decide) PassesOwn.never rfl (fun _ => rfl) (mi_seq (me_var 0 (by decide) rfl (.inl rfl) rfl rfl)) (mg_tup rfl (mg_cons (mg_name 3 scN rfl (.inl rfl) (.inl rfl)) (mg_cons (mg_name 4 scN rfl (.inl rfl) (.inl rfl)) (mg_cons (mg_name 5 scN rfl (.inl rfl) (.inl rfl)) (mg_cons (mg_name 6 scN rfl (.inl rfl) (.inl rfl)) mg_nil rfl) rfl) rfl) rfl) rfl rfl) (mss_one (ms_if (PW.pt (mw_and (mt_cmp ((op_eqD hr.r.units).or op_eq) eq2 (nomark _) (mr (me_var 3 (by decide) rfl (.inl rfl) rfl rfl)) (mr (me_var 1 (by decide) rfl (.inl rfl) rfl rfl))) (mw_and (mt_cmp op_le le2 (nomark _) (mr (me_ix (fun _ _ => rfl) (mr (me_var 2 (by decide) rfl (.inl rfl) rfl rfl)) (mr me_int))) (mr (me_var 5 (by decide) rfl (.inl rfl) rfl rfl))) (mw_and1 (mt_val (mr (mc c_is_within hr (by decide) pass0 (fun _ _ _ _ _ _ us hl => match us, hl with | [_, _], _ => rfl) rfl (la_cons (la_cons la_nil')) rfl (ma_cons (me_var 2 (by decide) rfl (.inl rfl) rfl rfl) (ma_cons (me_var 4 (by decide) rfl (.inl rfl) rfl rfl) ma_nil rfl) rfl) rfl rfl rfl)) (fun _ => rfl)))))) (mss_one (ms_ret (me_var 6 (by decide) rfl (.inl rfl) rfl rfl))) mss_nil))) (mss_one (ms_ret me_non))))
theorem ok_liking {f : Addr} {fd : FuncData} (Z : Hd K mg) (c_word_for : Cal P w K mg base CX0 cls "word_for" s_word_for [] 4 3 ["rules", "neighbour", "block"] m_word_for) (F : FunD K "liking" "liking" (defArgs s_liking) (defBody s_liking) (defScope s_liking) [] [] f fd) : FnG P w K mg base CX0 5 f fd ["takes", "neighbour", "block"] (spM K cls 3 m_liking) := by
  have scN := sc_liking.nd
  exact fnM (n := 3) (N := ["takes", "neighbour", "block", "word"]) (M' := []) (Mb := []) (ms := b_liking) F sc_liking rfl (fun cdv A outer s H E hr => (mss_cons (ms_set 3 (by decide) scN rfl (.inl rfl) rfl (.inl rfl) (mc c_word_for hr (by decide) pass0 (fun _ _ _ _ _ _ us hl => match us, hl with | [_, _, _], _ => rfl) rfl (la_cons (la_cons (la_cons la_nil'))) rfl (ma_cons (me_var 0 (by decide) rfl (.inl rfl) rfl rfl) (ma_cons (me_var 1 (by decide) rfl (.inl rfl) rfl rfl) (ma_cons (me_var 2 (by decide) rfl (.inl rfl) rfl rfl) ma_nil rfl) rfl) rfl) rfl rfl rfl)) (mss_cons (ms_if (mt_cmp op_isN isn2 (nomark _) (mr (me_var 3 (by decide) rfl (.inl rfl) rfl rfl)) (mr me_non)) (mss_one (ms_ret (me_glob Z.g_PLAIN rfl rfl))) mss_nil) (mss_one (ms_ret (me_ite (mt_cmp ((op_eqD hr.r.units).or op_eq) eq2 (nomark _) (mr (me_var 3 (by decide) rfl (.inl rfl) rfl rfl)) (mr (me_glob Z.g_BARS rfl rfl))) me_non (me_var 3 (by decide) rfl (.inl rfl) rfl rfl)))))))
theorem ok_is_told {f : Addr} {fd : FuncData} (Z : Hd K mg) (c_word_for : Cal P w K mg base CX0 cls "word_for" s_word_for [] 4 3 ["rules", "neighbour", "block"] m_word_for) (F : FunD K "is_told" "is_told" (defArgs s_is_told) (defBody s_is_told) (defScope s_is_told) [] [] f fd) : FnG P w K mg base CX0 5 f fd ["tells", "neighbour", "block"] (spM K cls 3 m_is_told) := by
  have scN := sc_is_told.nd
  exact fnM (n := 3) (N := ["tells", "neighbour", "block"]) (M' := []) (Mb := []) (ms := b_is_told) F sc_is_told rfl (fun cdv A outer s H E hr => (mss_one (ms_ret (me_cmp ((op_neD hr.r.units).or op_ne) ne2 (nomark _) (mr (mc c_word_for hr (by decide) pass0 (fun _ _ _ _ _ _ us hl => match us, hl with | [_, _, _], _ => rfl) rfl (la_cons (la_cons (la_cons la_nil'))) rfl (ma_cons (me_var 0 (by decide) rfl (.inl rfl) rfl rfl) (ma_cons (me_var 1 (by decide) rfl (.inl rfl) rfl rfl) (ma_cons (me_var 2 (by decide) rfl (.inl rfl) rfl rfl) ma_nil rfl) rfl) rfl) rfl rfl rfl)) (mr (me_glob Z.g_HIDES rfl rfl))))))
theorem ok__law_pick {f : Addr} {fd : FuncData} (Z : Hd K mg) (c__law_draw : Cal P w K mg base CX0 cls "_law_draw" s__law_draw [] 1 2 ["_law_deck_here", "_law_many"] (drawT 1)) (F : FunD K "_law_pick" "_law_pick" (defArgs s__law_pick) (defBody s__law_pick) (defScope s__law_pick) [] [] f fd) : FnG P w K mg base CX0 2 f fd ["_law_deck_here", "_law_some"] (spM K cls 2 m__law_pick) := by
  have scN := sc__law_pick.nd
  exact fnM (n := 2) (N := ["_law_deck_here", "_law_some"]) (M' := []) (Mb := []) (ms := b__law_pick) F sc__law_pick rfl (fun cdv A outer s H E hr => (mss_one (ms_ret (me_ix (fun _ _ => rfl) (mr (me_var 1 (by decide) rfl (.inl rfl) rfl rfl)) (mr (mc c__law_draw hr (by decide) pass0 (fun _ _ _ _ _ _ us hl => match us, hl with | [_, _], _ => rfl) rfl (la_cons (la_cons la_nil')) rfl (ma_cons (me_var 0 (by decide) rfl (.inl rfl) rfl rfl) (ma_cons (me_len rfl Z.z_len (mr (me_var 1 (by decide) rfl (.inl rfl) rfl rfl)) rfl) ma_nil rfl) rfl) rfl rfl rfl))))))
theorem ok__law_names {f : Addr} {fd : FuncData} (Z : Hd K mg) (c__law_draw : Cal P w K mg base CX0 cls "_law_draw" s__law_draw [] 1 2 ["_law_deck_here", "_law_many"] (drawT 1)) (F : FunD K "_law_names" "_law_names" (defArgs s__law_names) (defBody s__law_names) (defScope s__law_names) [] [] f fd) : FnG P w K mg base CX0 2 f fd ["_law_deck_here", "_law_many"] (spM K cls 2 m__law_names) := by
  have scN := sc__law_names.nd
  exact fnM (n := 2) (N := ["_law_deck_here", "_law_many", "_law_letters", "_law_way", "_law_first", "_law_at", "_law_stem", "_law_found", "_law_k", "_law_letter", "_law_one"]) (M' := []) (Mb := []) (ms := b__law_names) F sc__law_names rfl (fun cdv A outer s H E hr => (mss_cons (ms_set 2 (by decide) scN rfl (.inr rfl) rfl (.inl rfl) me_str) (mss_cons (ms_par3 3 4 5 (by decide) (by decide) (by decide) (ta := tNil) (fun t h => ps_par3 rfl scN rfl rfl rfl (by decide) (by decide) (by decide) rfl rfl rfl h rfl) (ma_cons (mc c__law_draw hr (by decide) pass0 (fun _ _ _ _ _ _ us hl => match us, hl with | [_, _], _ => rfl) rfl (la_cons (la_cons la_nil')) rfl (ma_cons (me_var 0 (by decide) rfl (.inr (.inl rfl)) rfl rfl) (ma_cons me_int ma_nil rfl) rfl) rfl rfl rfl) (ma_cons (mc c__law_draw hr (by decide) pass0 (fun _ _ _ _ _ _ us hl => match us, hl with | [_, _], _ => rfl) rfl (la_cons (la_cons la_nil')) rfl (ma_cons (me_var 0 (by decide) rfl (.inr (.inl rfl)) rfl rfl) (ma_cons me_int ma_nil rfl) rfl) rfl rfl rfl) (ma_cons (mc c__law_draw hr (by decide) pass0 (fun _ _ _ _ _ _ us hl => match us, hl with | [_, _], _ => rfl) rfl (la_cons (la_cons la_nil')) rfl (ma_cons (me_var 0 (by decide) rfl (.inr (.inl rfl)) rfl rfl) (ma_cons me_int ma_nil rfl) rfl) rfl rfl rfl) ma_nil rfl) rfl) rfl)) (mss_cons (ms_set 6 (by decide) scN rfl (.inl rfl) rfl (.inl rfl) (me_join (mr me_str) (mr (me_F (mf_lc (own := [("_law_k", 8)]) (.n 8) (by decide) (by decide) rfl scN (blkOk_by (own := [("_law_k", 8)]) (by show blkC ["_law_deck_here", "_law_many", "_law_letters", "_law_way", "_law_first", "_law_at", "_law_stem", "_law_found", "_law_k", "_law_letter", "_law_one"] (defScope s__law_names) _ _ = true; decide +kernel)) (fun _ => rfl) (mi_range1 rfl Z.z_range rfl me_int) (fun _ _ _ _ _ => (mg_name 8 scN rfl (.inl rfl) (.inr rfl))) (fun _ _ _ _ _ => mts_nil) (fun _ _ _ _ _ => (me_ix (fun _ _ => rfl) (mr (me_var 2 (by decide) rfl (.inr (.inl rfl)) rfl rfl)) (mr (mc c__law_draw hr (by decide) pass0 (fun _ _ _ _ _ _ us hl => match us, hl with | [_, _], _ => rfl) rfl (la_cons (la_cons la_nil')) rfl (ma_cons (me_var 0 (by decide) rfl (.inr (.inl rfl)) rfl rfl) (ma_cons me_int ma_nil rfl) rfl) rfl rfl rfl))))))) rfl rfl rfl)) (mss_cons (ms_setF 7 rfl scN rfl (.inl rfl) rfl (.inl rfl) (mf_lst ma_nil)) (mss_cons (ms_for (.n 8) (by decide) PassesOwn.never rfl (fun _ => rfl) (mi_range1 rfl Z.z_range rfl (me_var 1 (by decide) rfl (.inl rfl) rfl rfl)) (mg_name 8 scN rfl (.inl rfl) (.inl rfl)) (mss_cons (ms_set 9 (by decide) scN rfl (.inl rfl) rfl (.inl rfl) (me_ix (fun _ _ => rfl) (mr (me_var 2 (by decide) rfl (.inr (.inl rfl)) rfl rfl)) (mr (me_mod (mr (me_add (mr (me_var 4 (by decide) rfl (.inl rfl) rfl rfl)) (mr (me_mul (mr me_int) (mr (me_var 8 (by decide) rfl (.inl rfl) rfl rfl)))))) (mr me_int))))) (mss_one (ms_append 7 (by decide) rfl (.inl rfl) rfl rfl rfl rfl rfl rfl rfl (me_ix (fun _ _ => rfl) (mr (me_F (mf_lst (ma_cons (me_var 9 (by decide) rfl (.inl rfl) rfl rfl) (ma_cons (me_add (mr (me_add (mr (me_slice (mr (me_var 6 (by decide) rfl (.inl rfl) rfl rfl)) mo_none (mo_some (mr (me_var 5 (by decide) rfl (.inl rfl) rfl rfl))))) (mr (me_var 9 (by decide) rfl (.inl rfl) rfl rfl)))) (mr (me_slice (mr (me_var 6 (by decide) rfl (.inl rfl) rfl rfl)) (mo_some (mr (me_add (mr (me_var 5 (by decide) rfl (.inl rfl) rfl rfl)) (mr me_int)))) mo_none))) (ma_cons (me_slice (mr (me_add (mr (me_var 6 (by decide) rfl (.inl rfl) rfl rfl)) (mr (me_var 6 (by decide) rfl (.inl rfl) rfl rfl)))) mo_none (mo_some (mr (me_add (mr me_int) (mr (me_var 8 (by decide) rfl (.inl rfl) rfl rfl)))))) ma_nil rfl) rfl) rfl)))) (mr (me_var 3 (by decide) rfl (.inl rfl) rfl rfl))))))) (mss_frz 7 rfl (mss_one (ms_ret (me_F (mf_sorted hr rfl Z.z_sorted (mr (me_F (mf_lc (own := [("_law_one", 10)]) (.n 10) (by decide) (by decide) rfl scN (blkOk_by (own := [("_law_one", 10)]) (by show blkC ["_law_deck_here", "_law_many", "_law_letters", "_law_way", "_law_first", "_law_at", "_law_stem", "_law_found", "_law_k", "_law_letter", "_law_one"] (defScope s__law_names) _ _ = true; decide +kernel)) (fun _ => rfl) (mi_seq (me_var 7 (by decide) rfl (.inl rfl) rfl rfl)) (fun _ _ _ _ _ => (mg_name 10 scN rfl (.inl rfl) (.inr rfl))) (fun _ _ _ _ _ => mts_nil) (fun _ _ _ _ _ => (me_ite (mt_cmp (op_in_seq.or (op_inD (u65 hr.r))) in2 rfl (mr (me_var 10 (by decide) rfl (.inl rfl) rfl rfl)) (mr (me_tup (ma_cons me_str (ma_cons me_str ma_nil rfl) rfl)))) (me_add (mr me_str) (mr (me_slice (mr (me_var 10 (by decide) rfl (.inl rfl) rfl rfl)) (mo_some (mr me_int)) mo_none))) (me_var 10 (by decide) rfl (.inl rfl) rfl rfl)))))) rfl)))))))))))
theorem ok__law_has {f : Addr} {fd : FuncData} (Z : Hd K mg)  (F : FunD K "_law_has" "_law_has" (defArgs s__law_has) (defBody s__law_has) (defScope s__law_has) [] [] f fd) : FnG P w K mg base CX0 1 f fd ["_law_area", "_law_spot"] (spM K cls 2 m__law_has) := by
  have scN := sc__law_has.nd
  exact fnM (n := 2) (N := ["_law_area", "_law_spot"]) (M' := []) (Mb := []) (ms := b__law_has) F sc__law_has rfl (fun cdv A outer s H E hr => (mss_one (ms_ret (me_chain op_le op_lt le2 lt2 (by with_unfolding_all rfl) (mr (me_ix (fun _ _ => rfl) (mr (me_var 0 (by decide) rfl (.inl rfl) rfl rfl)) (mr me_int))) (mr (me_var 1 (by decide) rfl (.inl rfl) rfl rfl)) (mr (me_add (mr (me_ix (fun _ _ => rfl) (mr (me_var 0 (by decide) rfl (.inl rfl) rfl rfl)) (mr me_int))) (mr (me_shr (mr me_int) (mr (me_ix (fun _ _ => rfl) (mr (me_var 0 (by decide) rfl (.inl rfl) rfl rfl)) (mr me_int)))))))))))
theorem ok__law_is_in {f : Addr} {fd : FuncData} (Z : Hd K mg) (c__law_has : Cal P w K mg base CX0 cls "_law_has" s__law_has [] 1 2 ["_law_area", "_law_spot"] m__law_has) (F : FunD K "_law_is_in" "_law_is_in" (defArgs s__law_is_in) (defBody s__law_is_in) (defScope s__law_is_in) [] [] f fd) : FnG P w K mg base CX0 2 f fd ["_law_one", "_law_other"] (spM K cls 2 m__law_is_in) := by
  have scN := sc__law_is_in.nd
  exact fnM (n := 2) (N := ["_law_one", "_law_other"]) (M' := []) (Mb := []) (ms := b__law_is_in) F sc__law_is_in rfl (fun cdv A outer s H E hr => (mss_one (ms_ret (me_and (me_cmp op_le le2 (nomark _) (mr (me_ix (fun _ _ => rfl) (mr (me_var 1 (by decide) rfl (.inl rfl) rfl rfl)) (mr me_int))) (mr (me_ix (fun _ _ => rfl) (mr (me_var 0 (by decide) rfl (.inl rfl) rfl rfl)) (mr me_int)))) (me_one (mc c__law_has hr (by decide) pass0 (fun _ _ _ _ _ _ us hl => match us, hl with | [_, _], _ => rfl) rfl (la_cons (la_cons la_nil')) rfl (ma_cons (me_var 1 (by decide) rfl (.inl rfl) rfl rfl) (ma_cons (me_ix (fun _ _ => rfl) (mr (me_var 0 (by decide) rfl (.inl rfl) rfl rfl)) (mr me_int)) ma_nil rfl) rfl) rfl rfl rfl))))))
theorem ok__law_about {f : Addr} {fd : FuncData} (Z : Hd K mg) (c__law_pick : Cal P w K mg base CX0 cls "_law_pick" s__law_pick [] 2 2 ["_law_deck_here", "_law_some"] m__law_pick) (c__law_draw : Cal P w K mg base CX0 cls "_law_draw" s__law_draw [] 1 2 ["_law_deck_here", "_law_many"] (drawT 1)) (F : FunD K "_law_about" "_law_about" (defArgs s__law_about) (defBody s__law_about) (defScope s__law_about) [] [] f fd) : FnG P w K mg base CX0 3 f fd ["_law_deck_here", "_law_spot"] (spM K cls 2 m__law_about) := by
  have scN := sc__law_about.nd
  exact fnM (n := 2) (N := ["_law_deck_here", "_law_spot", "_law_length", "_law_wide"]) (M' := []) (Mb := []) (ms := b__law_about) F sc__law_about rfl (fun cdv A outer s H E hr => (mss_cons (ms_set 2 (by decide) scN rfl (.inl rfl) rfl (.inl rfl) (mc c__law_pick hr (by decide) pass0 (fun _ _ _ _ _ _ us hl => match us, hl with | [_, _], _ => rfl) rfl (la_cons (la_cons la_nil')) rfl (ma_cons (me_var 0 (by decide) rfl (.inl rfl) rfl rfl) (ma_cons (me_F (mf_lst (ma_cons (mc c__law_draw hr (by decide) pass0 (fun _ _ _ _ _ _ us hl => match us, hl with | [_, _], _ => rfl) rfl (la_cons (la_cons la_nil')) rfl (ma_cons (me_var 0 (by decide) rfl (.inl rfl) rfl rfl) (ma_cons me_int ma_nil rfl) rfl) rfl rfl rfl) (ma_cons me_int (ma_cons me_int (ma_cons me_int (ma_cons me_int (ma_cons me_int (ma_cons me_int ma_nil rfl) rfl) rfl) rfl) rfl) rfl) rfl))) ma_nil rfl) rfl) rfl rfl rfl)) (mss_cons (ms_set 3 (by decide) scN rfl (.inl rfl) rfl (.inl rfl) (me_shr (mr me_int) (mr (me_var 2 (by decide) rfl (.inl rfl) rfl rfl)))) (mss_one (ms_ret (me_tup (ma_cons (me_mul (mr (me_fdiv (mr (me_var 1 (by decide) rfl (.inl rfl) rfl rfl)) (mr (me_var 3 (by decide) rfl (.inl rfl) rfl rfl)))) (mr (me_var 3 (by decide) rfl (.inl rfl) rfl rfl))) (ma_cons (me_var 2 (by decide) rfl (.inl rfl) rfl rfl) ma_nil rfl) rfl)))))))
theorem ok__law_rules {f : Addr} {fd : FuncData} (Z : Hd K mg) (c__law_draw : Cal P w K mg base CX0 cls "_law_draw" s__law_draw [] 1 2 ["_law_deck_here", "_law_many"] (drawT 1)) (c__law_about : Cal P w K mg base CX0 cls "_law_about" s__law_about [] 3 2 ["_law_deck_here", "_law_spot"] m__law_about) (c__law_pick : Cal P w K mg base CX0 cls "_law_pick" s__law_pick [] 2 2 ["_law_deck_here", "_law_some"] m__law_pick) (F : FunD K "_law_rules" "_law_rules" (defArgs s__law_rules) (defBody s__law_rules) (defScope s__law_rules) [] [] f fd) : FnG P w K mg base CX0 4 f fd ["_law_deck_here", "_law_names_here", "_law_spots", "_law_words", "_law_many"] (spM K cls 5 m__law_rules) := by
  have scN := sc__law_rules.nd
  exact fnM (n := 5) (N := ["_law_deck_here", "_law_names_here", "_law_spots", "_law_words", "_law_many", "_law_found", "_law_k", "_law_area", "_law_longest"]) (M' := []) (Mb := []) (ms := b__law_rules) F sc__law_rules rfl (fun cdv A outer s H E hr => (mss_cons (ms_setF 5 rfl scN rfl (.inl rfl) rfl (.inl rfl) (mf_lst ma_nil)) (mss_cons (ms_for (.n 6) (by decide) PassesOwn.never rfl (fun _ => rfl) (mi_range1 rfl Z.z_range rfl (mc c__law_draw hr (by decide) pass0 (fun _ _ _ _ _ _ us hl => match us, hl with | [_, _], _ => rfl) rfl (la_cons (la_cons la_nil')) rfl (ma_cons (me_var 0 (by decide) rfl (.inl rfl) rfl rfl) (ma_cons (me_add (mr (me_var 4 (by decide) rfl (.inl rfl) rfl rfl)) (mr me_int)) ma_nil rfl) rfl) rfl rfl rfl)) (mg_name 6 scN rfl (.inl rfl) (.inl rfl)) (mss_cons (ms_set 7 (by decide) scN rfl (.inl rfl) rfl (.inl rfl) (mc c__law_about hr (by decide) pass0 (fun _ _ _ _ _ _ us hl => match us, hl with | [_, _], _ => rfl) rfl (la_cons (la_cons la_nil')) rfl (ma_cons (me_var 0 (by decide) rfl (.inl rfl) rfl rfl) (ma_cons (mc c__law_pick hr (by decide) pass0 (fun _ _ _ _ _ _ us hl => match us, hl with | [_, _], _ => rfl) rfl (la_cons (la_cons la_nil')) rfl (ma_cons (me_var 0 (by decide) rfl (.inl rfl) rfl rfl) (ma_cons (me_var 2 (by decide) rfl (.inl rfl) rfl rfl) ma_nil rfl) rfl) rfl rfl rfl) ma_nil rfl) rfl) rfl rfl rfl)) (mss_cons (ms_set 8 (by decide) scN rfl (.inl rfl) rfl (.inl rfl) (me_ix (fun _ _ => rfl) (mr (me_F (mf_lst (ma_cons me_int (ma_cons (me_ix (fun _ _ => rfl) (mr (me_var 7 (by decide) rfl (.inl rfl) rfl rfl)) (mr me_int)) (ma_cons (me_min rfl rfl Z.z_min (mr me_int) (mr (me_add (mr (me_ix (fun _ _ => rfl) (mr (me_var 7 (by decide) rfl (.inl rfl) rfl rfl)) (mr me_int))) (mr me_int))) rfl rfl) (ma_cons (mc c__law_draw hr (by decide) pass0 (fun _ _ _ _ _ _ us hl => match us, hl with | [_, _], _ => rfl) rfl (la_cons (la_cons la_nil')) rfl (ma_cons (me_var 0 (by decide) rfl (.inl rfl) rfl rfl) (ma_cons me_int ma_nil rfl) rfl) rfl rfl rfl) ma_nil rfl) rfl) rfl) rfl)))) (mr (mc c__law_draw hr (by decide) pass0 (fun _ _ _ _ _ _ us hl => match us, hl with | [_, _], _ => rfl) rfl (la_cons (la_cons la_nil')) rfl (ma_cons (me_var 0 (by decide) rfl (.inl rfl) rfl rfl) (ma_cons me_int ma_nil rfl) rfl) rfl rfl rfl)))) (mss_one (ms_append 5 (by decide) rfl (.inl rfl) rfl rfl rfl rfl rfl rfl rfl (me_tup (ma_cons (mc c__law_pick hr (by decide) pass0 (fun _ _ _ _ _ _ us hl => match us, hl with | [_, _], _ => rfl) rfl (la_cons (la_cons la_nil')) rfl (ma_cons (me_var 0 (by decide) rfl (.inl rfl) rfl rfl) (ma_cons (me_var 1 (by decide) rfl (.inl rfl) rfl rfl) ma_nil rfl) rfl) rfl rfl rfl) (ma_cons (me_var 7 (by decide) rfl (.inl rfl) rfl rfl) (ma_cons (me_var 8 (by decide) rfl (.inl rfl) rfl rfl) (ma_cons (mc c__law_pick hr (by decide) pass0 (fun _ _ _ _ _ _ us hl => match us, hl with | [_, _], _ => rfl) rfl (la_cons (la_cons la_nil')) rfl (ma_cons (me_var 0 (by decide) rfl (.inl rfl) rfl rfl) (ma_cons (me_var 3 (by decide) rfl (.inl rfl) rfl rfl) ma_nil rfl) rfl) rfl rfl rfl) ma_nil rfl) rfl) rfl) rfl))))))) (mss_one (ms_ret (me_tuple rfl Z.z_tuple (mr_own 5 (by decide) rfl (.inl rfl) rfl rfl) rfl))))))
theorem ok__law_word {f : Addr} {fd : FuncData} (Z : Hd K mg) (c__law_is_in : Cal P w K mg base CX0 cls "_law_is_in" s__law_is_in [] 2 2 ["_law_one", "_law_other"] m__law_is_in) (F : FunD K "_law_word" "_law_word" (defArgs s__law_word) (defBody s__law_word) (defScope s__law_word) [] [] f fd) : FnG P w K mg base CX0 3 f fd ["_law_rules_here", "_law_called", "_law_area"] (spM K cls 3 m__law_word) := by
  have scN := sc__law_word.nd
  exact fnM (n := 3) (N := ["_law_rules_here", "_law_called", "_law_area", "_law_name", "_law_around", "_law_longest", "_law_word_here"]) (M' := []) (Mb := []) (ms := b__law_word) F sc__law_word rfl (fun cdv A outer s H E hr => (mss_cons (ms_for (.t [(.n 3), (.n 4), (.n 5), (.n 6)]) (by decide) PassesOwn.never rfl (fun _ => rfl) (mi_seq (me_var 0 (by decide) rfl (.inl rfl) rfl rfl)) (mg_tup rfl (mg_cons (mg_name 3 scN rfl (.inl rfl) (.inl rfl)) (mg_cons (mg_name 4 scN rfl (.inl rfl) (.inl rfl)) (mg_cons (mg_name 5 scN rfl (.inl rfl) (.inl rfl)) (mg_cons (mg_name 6 scN rfl (.inl rfl) (.inl rfl)) mg_nil rfl) rfl) rfl) rfl) rfl rfl) (mss_one (ms_if (PW.pt (mw_and (mt_cmp ((op_eqD hr.r.units).or op_eq) eq2 (nomark _) (mr (me_var 3 (by decide) rfl (.inl rfl) rfl rfl)) (mr (me_var 1 (by decide) rfl (.inl rfl) rfl rfl))) (mw_and (mt_cmp op_le le2 (nomark _) (mr (me_ix (fun _ _ => rfl) (mr (me_var 2 (by decide) rfl (.inl rfl) rfl rfl)) (mr me_int))) (mr (me_var 5 (by decide) rfl (.inl rfl) rfl rfl))) (mw_and1 (mt_val (mr (mc c__law_is_in hr (by decide) pass0 (fun _ _ _ _ _ _ us hl => match us, hl with | [_, _], _ => rfl) rfl (la_cons (la_cons la_nil')) rfl (ma_cons (me_var 2 (by decide) rfl (.inl rfl) rfl rfl) (ma_cons (me_var 4 (by decide) rfl (.inl rfl) rfl rfl) ma_nil rfl) rfl) rfl rfl rfl)) (fun _ => rfl)))))) (mss_one (ms_ret (me_var 6 (by decide) rfl (.inl rfl) rfl rfl))) mss_nil))) (mss_one (ms_ret me_non))))
theorem ok__law_areas {f : Addr} {fd : FuncData} (Z : Hd K mg) (c__law_about : Cal P w K mg base CX0 cls "_law_about" s__law_about [] 3 2 ["_law_deck_here", "_law_spot"] m__law_about) (F : FunD K "_law_areas" "_law_areas" (defArgs s__law_areas) (defBody s__law_areas) (defScope s__law_areas) [] [] f fd) : FnG P w K mg base CX0 4 f fd ["_law_deck_here", "_law_rules_here", "_law_spots"] (spM K cls 3 m__law_areas) := by
  have scN := sc__law_areas.nd
  exact fnM (n := 3) (N := ["_law_deck_here", "_law_rules_here", "_law_spots", "_law_found", "_law_name", "_law_area", "_law_longest", "_law_word_here", "_law_start", "_law_length", "_law_spot"]) (M' := []) (Mb := []) (ms := b__law_areas) F sc__law_areas rfl (fun cdv A outer s H E hr => (mss_cons (ms_setF 3 rfl scN rfl (.inl rfl) rfl (.inl rfl) (mf_cat (mr (me_F (mf_lc (own := [("_law_spot", 10)]) (.n 10) (by decide) (by decide) rfl scN (blkOk_by (own := [("_law_spot", 10)]) (by show blkC ["_law_deck_here", "_law_rules_here", "_law_spots", "_law_found", "_law_name", "_law_area", "_law_longest", "_law_word_here", "_law_start", "_law_length", "_law_spot"] (defScope s__law_areas) _ _ = true; decide +kernel)) (fun _ => rfl) (mi_seq (me_var 2 (by decide) rfl (.inl rfl) rfl rfl)) (fun _ _ _ _ _ => (mg_name 10 scN rfl (.inl rfl) (.inr rfl))) (fun _ _ _ _ _ => mts_nil) (fun _ _ _ _ _ => (mc c__law_about hr (by decide) pass0 (fun _ _ _ _ _ _ us hl => match us, hl with | [_, _], _ => rfl) rfl (la_cons (la_cons la_nil')) rfl (ma_cons (me_var 0 (by decide) rfl (.inr (.inl rfl)) rfl rfl) (ma_cons (me_var 10 (by decide) rfl (.inl rfl) rfl rfl) ma_nil rfl) rfl) rfl rfl rfl))))) (mr (me_F (mf_lc (own := [("_law_spot", 10)]) (.n 10) (by decide) (by decide) rfl scN (blkOk_by (own := [("_law_spot", 10)]) (by show blkC ["_law_deck_here", "_law_rules_here", "_law_spots", "_law_found", "_law_name", "_law_area", "_law_longest", "_law_word_here", "_law_start", "_law_length", "_law_spot"] (defScope s__law_areas) _ _ = true; decide +kernel)) (fun _ => rfl) (mi_seq (me_var 2 (by decide) rfl (.inl rfl) rfl rfl)) (fun _ _ _ _ _ => (mg_name 10 scN rfl (.inl rfl) (.inr rfl))) (fun _ _ _ _ _ => mts_nil) (fun _ _ _ _ _ => (mc c__law_about hr (by decide) pass0 (fun _ _ _ _ _ _ us hl => match us, hl with | [_, _], _ => rfl) rfl (la_cons (la_cons la_nil')) rfl (ma_cons (me_var 0 (by decide) rfl (.inr (.inl rfl)) rfl rfl) (ma_cons (me_var 10 (by decide) rfl (.inl rfl) rfl rfl) ma_nil rfl) rfl) rfl rfl rfl))))))) (mss_cons (ms_for (.t [(.n 4), (.n 5), (.n 6), (.n 7)]) (by decide) PassesOwn.never rfl (fun _ => rfl) (mi_seq (me_var 1 (by decide) rfl (.inl rfl) rfl rfl)) (mg_tup rfl (mg_cons (mg_name 4 scN rfl (.inl rfl) (.inl rfl)) (mg_cons (mg_name 5 scN rfl (.inl rfl) (.inl rfl)) (mg_cons (mg_name 6 scN rfl (.inl rfl) (.inl rfl)) (mg_cons (mg_name 7 scN rfl (.inl rfl) (.inl rfl)) mg_nil rfl) rfl) rfl) rfl) rfl rfl) (mss_cons (ms_asg (.t [(.n 8), (.n 9)]) (by decide) (mg_tup rfl (mg_cons (mg_name 8 scN rfl (.inl rfl) (.inl rfl)) (mg_cons (mg_name 9 scN rfl (.inl rfl) (.inl rfl)) mg_nil rfl) rfl) rfl rfl) rfl rfl rfl (me_var 5 (by decide) rfl (.inl rfl) rfl rfl)) (mss_cons (ms_append 3 (by decide) rfl (.inl rfl) rfl rfl rfl rfl rfl rfl rfl (me_var 5 (by decide) rfl (.inl rfl) rfl rfl)) (mss_cons (ms_if (mt_cmp op_lt lt2 (nomark _) (mr (me_var 9 (by decide) rfl (.inl rfl) rfl rfl)) (mr me_int)) (mss_one (ms_setF 3 rfl scN rfl (.inl rfl) rfl (.inl rfl) (mf_cat (mr_own 3 (by decide) rfl (.inl rfl) rfl rfl) (mr (me_F (mf_lst (ma_cons (me_tup (ma_cons (me_var 8 (by decide) rfl (.inl rfl) rfl rfl) (ma_cons (me_add (mr (me_var 9 (by decide) rfl (.inl rfl) rfl rfl)) (mr me_int)) ma_nil rfl) rfl)) (ma_cons (me_tup (ma_cons (me_add (mr (me_var 8 (by decide) rfl (.inl rfl) rfl rfl)) (mr (me_shr (mr me_int) (mr (me_var 9 (by decide) rfl (.inl rfl) rfl rfl))))) (ma_cons (me_add (mr (me_var 9 (by decide) rfl (.inl rfl) rfl rfl)) (mr me_int)) ma_nil rfl) rfl)) ma_nil rfl) rfl))))))) mss_nil) (mss_cons (ms_if (mt_cmp op_gt gt2 (nomark _) (mr (me_var 9 (by decide) rfl (.inl rfl) rfl rfl)) (mr me_int)) (mss_one (ms_append 3 (by decide) rfl (.inl rfl) rfl rfl rfl rfl rfl rfl rfl (me_tup (ma_cons (me_mul (mr (me_fdiv (mr (me_var 8 (by decide) rfl (.inl rfl) rfl rfl)) (mr (me_shr (mr me_int) (mr (me_var 9 (by decide) rfl (.inl rfl) rfl rfl)))))) (mr (me_shr (mr me_int) (mr (me_var 9 (by decide) rfl (.inl rfl) rfl rfl))))) (ma_cons (me_sub (mr (me_var 9 (by decide) rfl (.inl rfl) rfl rfl)) (mr me_int)) ma_nil rfl) rfl)))) mss_nil) (mss_one (ms_append 3 (by decide) rfl (.inl rfl) rfl rfl rfl rfl rfl rfl rfl (me_tup (ma_cons (me_mul (mr (me_fdiv (mr (me_var 8 (by decide) rfl (.inl rfl) rfl rfl)) (mr (me_shr (mr me_int) (mr (me_var 6 (by decide) rfl (.inl rfl) rfl rfl)))))) (mr (me_shr (mr me_int) (mr (me_var 6 (by decide) rfl (.inl rfl) rfl rfl))))) (ma_cons (me_var 6 (by decide) rfl (.inl rfl) rfl rfl) ma_nil rfl) rfl))))))))) (mss_one (ms_retOwn 3 (by decide) rfl (.inl rfl) rfl rfl)))))
theorem ok__law_right {f : Addr} {fd : FuncData} (Z : Hd K mg) (c__law_word : Cal P w K mg base CX0 cls "_law_word" s__law_word [] 3 3 ["_law_rules_here", "_law_called", "_law_area"] m__law_word) (c_liking : Cal P w K mg base CX0 cls "liking" s_liking [] 5 3 ["takes", "neighbour", "block"] m_liking) (c_is_told : Cal P w K mg base CX0 cls "is_told" s_is_told [] 5 3 ["tells", "neighbour", "block"] m_is_told) (F : FunD K "_law_right" "_law_right" (defArgs s__law_right) (defBody s__law_right) (defScope s__law_right) [] [] f fd) : FnG P w K mg base CX0 6 f fd ["_law_likes", "_law_says", "_law_called", "_law_area"] (spM K cls 4 m__law_right) := by
  have scN := sc__law_right.nd
  exact fnM (n := 4) (N := ["_law_likes", "_law_says", "_law_called", "_law_area", "_law_kept", "_law_word_here", "_law_due", "_law_told"]) (M' := []) (Mb := []) (ms := b__law_right) F sc__law_right rfl (fun cdv A outer s H E hr => (mss_cons (ms_set 4 (by decide) scN rfl (.inl rfl) rfl (.inl rfl) (me_repr hr rfl Z.z_repr (mr (me_tup (ma_cons (me_var 0 (by decide) rfl (.inl rfl) rfl rfl) (ma_cons (me_var 1 (by decide) rfl (.inl rfl) rfl rfl) (ma_cons (me_var 3 (by decide) rfl (.inl rfl) rfl rfl) ma_nil rfl) rfl) rfl))) rfl)) (mss_cons (ms_set 5 (by decide) scN rfl (.inl rfl) rfl (.inl rfl) (mc c__law_word hr (by decide) pass0 (fun _ _ _ _ _ _ us hl => match us, hl with | [_, _, _], _ => rfl) rfl (la_cons (la_cons (la_cons la_nil'))) rfl (ma_cons (me_var 0 (by decide) rfl (.inl rfl) rfl rfl) (ma_cons (me_var 2 (by decide) rfl (.inl rfl) rfl rfl) (ma_cons (me_var 3 (by decide) rfl (.inl rfl) rfl rfl) ma_nil rfl) rfl) rfl) rfl rfl rfl)) (mss_cons (ms_set 6 (by decide) scN rfl (.inl rfl) rfl (.inl rfl) (me_ite (mt_cmp op_isN isn2 (nomark _) (mr (me_var 5 (by decide) rfl (.inl rfl) rfl rfl)) (mr me_non)) me_int (me_ite (mt_cmp ((op_eqD hr.r.units).or op_eq) eq2 (nomark _) (mr (me_var 5 (by decide) rfl (.inl rfl) rfl rfl)) (mr me_str)) me_non (me_var 5 (by decide) rfl (.inl rfl) rfl rfl)))) (mss_cons (ms_set 7 (by decide) scN rfl (.inl rfl) rfl (.inl rfl) (me_F (mf_lst (ma_cons (mc c_liking hr (by decide) pass0 (fun _ _ _ _ _ _ us hl => match us, hl with | [_, _, _], _ => rfl) rfl (la_cons (la_cons (la_cons la_nil'))) rfl (ma_cons (me_var 0 (by decide) rfl (.inl rfl) rfl rfl) (ma_cons (me_var 2 (by decide) rfl (.inl rfl) rfl rfl) (ma_cons (me_var 3 (by decide) rfl (.inl rfl) rfl rfl) ma_nil rfl) rfl) rfl) rfl rfl rfl) (ma_cons (mck0 c_liking hr (by decide) pass0 [2, 1, 0] ["block", "neighbour", "takes"] (fun _ _ _ _ _ _ us ws hu hw => match us, ws, hu, hw with | [], [_, _, _], _, _ => rfl) (la_cons (la_cons (la_cons la_nil'))) rfl (fun xs h => match xs, h with | [_, _, _], _ => rfl) rfl (mk_cons (me_var 3 (by decide) rfl (.inl rfl) rfl rfl) (mk_cons (me_var 2 (by decide) rfl (.inl rfl) rfl rfl) (mk_cons (me_var 0 (by decide) rfl (.inl rfl) rfl rfl) mk_nil))) rfl rfl rfl rfl) ma_nil rfl) rfl)))) (mss_cons (ms_if (mt_cmp ((op_neD hr.r.units).or op_ne) ne2 (nomark _) (mr (me_repr hr rfl Z.z_repr (mr (me_var 7 (by decide) rfl (.inl rfl) rfl rfl)) rfl)) (mr (me_repr hr rfl Z.z_repr (mr (me_F (mf_lst (ma_cons (me_var 6 (by decide) rfl (.inl rfl) rfl rfl) (ma_cons (me_var 6 (by decide) rfl (.inl rfl) rfl rfl) ma_nil rfl) rfl)))) rfl))) (mss_one (ms_ret me_bl)) mss_nil) (mss_cons (ms_set 6 (by decide) scN rfl (.inl rfl) rfl (.inl rfl) (me_cmp ((op_neD hr.r.units).or op_ne) ne2 (nomark _) (mr (mc c__law_word hr (by decide) pass0 (fun _ _ _ _ _ _ us hl => match us, hl with | [_, _, _], _ => rfl) rfl (la_cons (la_cons (la_cons la_nil'))) rfl (ma_cons (me_var 1 (by decide) rfl (.inl rfl) rfl rfl) (ma_cons (me_var 2 (by decide) rfl (.inl rfl) rfl rfl) (ma_cons (me_var 3 (by decide) rfl (.inl rfl) rfl rfl) ma_nil rfl) rfl) rfl) rfl rfl rfl)) (mr me_str))) (mss_cons (ms_set 7 (by decide) scN rfl (.inl rfl) rfl (.inl rfl) (me_F (mf_lst (ma_cons (mc c_is_told hr (by decide) pass0 (fun _ _ _ _ _ _ us hl => match us, hl with | [_, _, _], _ => rfl) rfl (la_cons (la_cons (la_cons la_nil'))) rfl (ma_cons (me_var 1 (by decide) rfl (.inl rfl) rfl rfl) (ma_cons (me_var 2 (by decide) rfl (.inl rfl) rfl rfl) (ma_cons (me_var 3 (by decide) rfl (.inl rfl) rfl rfl) ma_nil rfl) rfl) rfl) rfl rfl rfl) (ma_cons (mck0 c_is_told hr (by decide) pass0 [2, 0, 1] ["neighbour", "block", "tells"] (fun _ _ _ _ _ _ us ws hu hw => match us, ws, hu, hw with | [], [_, _, _], _, _ => rfl) (la_cons (la_cons (la_cons la_nil'))) rfl (fun xs h => match xs, h with | [_, _, _], _ => rfl) rfl (mk_cons (me_var 2 (by decide) rfl (.inl rfl) rfl rfl) (mk_cons (me_var 3 (by decide) rfl (.inl rfl) rfl rfl) (mk_cons (me_var 1 (by decide) rfl (.inl rfl) rfl rfl) mk_nil))) rfl rfl rfl rfl) ma_nil rfl) rfl)))) (mss_one (ms_ret (me_and (me_cmp ((op_eqD hr.r.units).or op_eq) eq2 (nomark _) (mr (me_repr hr rfl Z.z_repr (mr (me_var 7 (by decide) rfl (.inl rfl) rfl rfl)) rfl)) (mr (me_repr hr rfl Z.z_repr (mr (me_F (mf_lst (ma_cons (me_var 6 (by decide) rfl (.inl rfl) rfl rfl) (ma_cons (me_var 6 (by decide) rfl (.inl rfl) rfl rfl) ma_nil rfl) rfl)))) rfl))) (me_one (me_cmp ((op_eqD hr.r.units).or op_eq) eq2 (nomark _) (mr (me_repr hr rfl Z.z_repr (mr (me_tup (ma_cons (me_var 0 (by decide) rfl (.inl rfl) rfl rfl) (ma_cons (me_var 1 (by decide) rfl (.inl rfl) rfl rfl) (ma_cons (me_var 3 (by decide) rfl (.inl rfl) rfl rfl) ma_nil rfl) rfl) rfl))) rfl)) (mr (me_var 4 (by decide) rfl (.inl rfl) rfl rfl)))))))))))))))
theorem ok_law {f fD : Addr} {fd fdD : FuncData} (hall : AllE (b_law ρ0) fun o => o = .ret (.bool true)) (Z : Hd K mg) (c__law_draw : Cal P w K mg base CX0 cls "_law_draw" s__law_draw [] 1 2 ["_law_deck_here", "_law_many"] (drawT 1)) (c__law_names : Cal P w K mg base CX0 cls "_law_names" s__law_names [] 2 2 ["_law_deck_here", "_law_many"] m__law_names) (c__law_rules : Cal P w K mg base CX0 cls "_law_rules" s__law_rules [] 4 5 ["_law_deck_here", "_law_names_here", "_law_spots", "_law_words", "_law_many"] m__law_rules) (c__law_areas : Cal P w K mg base CX0 cls "_law_areas" s__law_areas [] 4 3 ["_law_deck_here", "_law_rules_here", "_law_spots"] m__law_areas) (c__law_right : Cal P w K mg base CX0 cls "_law_right" s__law_right [] 6 4 ["_law_likes", "_law_says", "_law_called", "_law_area"] m__law_right) (D : FunD K "_law_deck" "_law_deck" (defArgs s__law_deck) (defBody s__law_deck) (defScope s__law_deck) [] [] fD fdD) (gD : mg "_law_deck" = some (.ref fD)) (F : FunD K "law" "law" (defArgs s_law) (defBody s_law) (defScope s_law) [] [] f fd) : FnG P w K mg base CX0 7 f fd ["_law_script"] (spLaw K) := by
  have scN := sc_law.nd
  have GD : FnOk P w K mg base CX0 6 fD fdD ["_law_script"] (spDeck K 1) := deckA (k := 5) Z D
  have bD : Binds K fdD ["_law_script"] [] := D.bindsN fun _ _ _ _ _ _ us hl => match us, hl with | [_], _ => rfl
  exact law_fn (cls := cls) (N := ["_law_deck_here", "_law_turn", "_law_spots", "_law_names_here", "_law_likes", "_law_says", "_law_called", "_law_area", "_law_k"]) (M' := []) (Mb := []) (ms := b_law) (form := 1) F sc_law (fun cdv A outer s H E hr => pss_cons (ps_set (i := 1) scN rfl (.inr rfl) (pe_call GD hr.r rfl gD D.kp bD .nil pass0 (pa_cons (pv 0) pa_nil))) (mss_cons (ms_for (.n 2) (by decide) PassesOwn.never rfl (fun _ => rfl) (mi_range1 rfl Z.z_range rfl me_int) (mg_name 2 scN rfl (.inl rfl) (.inl rfl)) (mss_cons (ms_set 3 (by decide) scN rfl (.inl rfl) rfl (.inl rfl) (me_F (mf_cat (mr (me_F (mf_lc (own := [("_law_k", 9)]) (.n 9) (by decide) (by decide) rfl scN (blkOk_by (own := [("_law_k", 9)]) (by show blkC ["_law_script", "_law_deck_here", "_law_turn", "_law_spots", "_law_names_here", "_law_likes", "_law_says", "_law_called", "_law_area", "_law_k"] (defScope s_law) _ _ = true; decide +kernel)) (fun _ => rfl) (mi_range1 rfl Z.z_range rfl me_int) (fun _ _ _ _ _ => (mg_name 9 scN rfl (.inl rfl) (.inr rfl))) (fun _ _ _ _ _ => mts_nil) (fun _ _ _ _ _ => (mc c__law_draw hr (by decide) pass0 (fun _ _ _ _ _ _ us hl => match us, hl with | [_, _], _ => rfl) rfl (la_cons (la_cons la_nil')) rfl (ma_cons (me_var 1 (by decide) rfl (.inr (.inl rfl)) rfl rfl) (ma_cons me_int ma_nil rfl) rfl) rfl rfl rfl))))) (mr (me_F (mf_lst (ma_cons me_int (ma_cons me_int ma_nil rfl) rfl))))))) (mss_cons (ms_set 4 (by decide) scN rfl (.inl rfl) rfl (.inl rfl) (mc c__law_names hr (by decide) pass0 (fun _ _ _ _ _ _ us hl => match us, hl with | [_, _], _ => rfl) rfl (la_cons (la_cons la_nil')) rfl (ma_cons (me_var 1 (by decide) rfl (.inr (.inl rfl)) rfl rfl) (ma_cons (me_add (mr me_int) (mr (mc c__law_draw hr (by decide) pass0 (fun _ _ _ _ _ _ us hl => match us, hl with | [_, _], _ => rfl) rfl (la_cons (la_cons la_nil')) rfl (ma_cons (me_var 1 (by decide) rfl (.inr (.inl rfl)) rfl rfl) (ma_cons me_int ma_nil rfl) rfl) rfl rfl rfl))) ma_nil rfl) rfl) rfl rfl rfl)) (mss_cons (ms_set 5 (by decide) scN rfl (.inl rfl) rfl (.inl rfl) (mc c__law_rules hr (by decide) pass0 (fun _ _ _ _ _ _ us hl => match us, hl with | [_, _, _, _, _], _ => rfl) rfl (la_cons (la_cons (la_cons (la_cons (la_cons la_nil'))))) rfl (ma_cons (me_var 1 (by decide) rfl (.inr (.inl rfl)) rfl rfl) (ma_cons (me_var 4 (by decide) rfl (.inl rfl) rfl rfl) (ma_cons (me_var 3 (by decide) rfl (.inl rfl) rfl rfl) (ma_cons (me_F (mf_lst (ma_cons me_int (ma_cons me_int (ma_cons me_int (ma_cons me_int (ma_cons me_int (ma_cons me_str (ma_cons me_str (ma_cons (mc c__law_draw hr (by decide) pass0 (fun _ _ _ _ _ _ us hl => match us, hl with | [_, _], _ => rfl) rfl (la_cons (la_cons la_nil')) rfl (ma_cons (me_var 1 (by decide) rfl (.inr (.inl rfl)) rfl rfl) (ma_cons me_int ma_nil rfl) rfl) rfl rfl rfl) ma_nil rfl) rfl) rfl) rfl) rfl) rfl) rfl) rfl))) (ma_cons me_int ma_nil rfl) rfl) rfl) rfl) rfl) rfl rfl rfl)) (mss_cons (ms_set 6 (by decide) scN rfl (.inl rfl) rfl (.inl rfl) (mc c__law_rules hr (by decide) pass0 (fun _ _ _ _ _ _ us hl => match us, hl with | [_, _, _, _, _], _ => rfl) rfl (la_cons (la_cons (la_cons (la_cons (la_cons la_nil'))))) rfl (ma_cons (me_var 1 (by decide) rfl (.inr (.inl rfl)) rfl rfl) (ma_cons (me_var 4 (by decide) rfl (.inl rfl) rfl rfl) (ma_cons (me_var 3 (by decide) rfl (.inl rfl) rfl rfl) (ma_cons (me_F (mf_lst (ma_cons me_str (ma_cons me_str ma_nil rfl) rfl))) (ma_cons me_int ma_nil rfl) rfl) rfl) rfl) rfl) rfl rfl rfl)) (mss_one (ms_for (.n 7) (by decide) PassesOwn.never rfl (fun _ => rfl) (mi_seq (me_F (mf_cat (mr (me_var 4 (by decide) rfl (.inl rfl) rfl rfl)) (mr (me_F (mf_lst (ma_cons me_str ma_nil rfl))))))) (mg_name 7 scN rfl (.inl rfl) (.inl rfl)) (mss_one (ms_for (.n 8) (by decide) PassesOwn.never rfl (fun _ => rfl) (mi_seq (mc c__law_areas hr (by decide) pass0 (fun _ _ _ _ _ _ us hl => match us, hl with | [_, _, _], _ => rfl) rfl (la_cons (la_cons (la_cons la_nil'))) rfl (ma_cons (me_var 1 (by decide) rfl (.inr (.inl rfl)) rfl rfl) (ma_cons (me_add (mr (me_var 5 (by decide) rfl (.inl rfl) rfl rfl)) (mr (me_var 6 (by decide) rfl (.inl rfl) rfl rfl))) (ma_cons (me_var 3 (by decide) rfl (.inl rfl) rfl rfl) ma_nil rfl) rfl) rfl) rfl rfl rfl)) (mg_name 8 scN rfl (.inl rfl) (.inl rfl)) (mss_cons (ms_if (PW.pt (mw_or (mt_not (mt_val (mr (mc c__law_right hr (by decide) pass0 (fun _ _ _ _ _ _ us hl => match us, hl with | [_, _, _, _], _ => rfl) rfl (la_cons (la_cons (la_cons (la_cons la_nil')))) rfl (ma_cons (me_var 5 (by decide) rfl (.inl rfl) rfl rfl) (ma_cons (me_var 6 (by decide) rfl (.inl rfl) rfl rfl) (ma_cons (me_var 7 (by decide) rfl (.inl rfl) rfl rfl) (ma_cons (me_var 8 (by decide) rfl (.inl rfl) rfl rfl) ma_nil rfl) rfl) rfl) rfl) rfl rfl rfl)) (fun _ => rfl))) (mw_or1 (mt_not (mt_val (mr (mc c__law_right hr (by decide) pass0 (fun _ _ _ _ _ _ us hl => match us, hl with | [_, _, _, _], _ => rfl) rfl (la_cons (la_cons (la_cons (la_cons la_nil')))) rfl (ma_cons (me_tup ma_nil) (ma_cons (me_tup ma_nil) (ma_cons (me_var 7 (by decide) rfl (.inl rfl) rfl rfl) (ma_cons (me_var 8 (by decide) rfl (.inl rfl) rfl rfl) ma_nil rfl) rfl) rfl) rfl) rfl rfl rfl)) (fun _ => rfl)))))) (mss_one (ms_ret me_bl)) mss_nil) (mss_one (ms_if (mt_not (mt_val (mr (mc c__law_right hr (by decide) pass0 (fun _ _ _ _ _ _ us hl => match us, hl with | [_, _, _, _], _ => rfl) rfl (la_cons (la_cons (la_cons (la_cons la_nil')))) rfl (ma_cons (me_rev (mr (me_var 5 (by decide) rfl (.inl rfl) rfl rfl))) (ma_cons (me_slice (mr (me_var 6 (by decide) rfl (.inl rfl) rfl rfl)) (mo_some (mr me_int)) mo_none) (ma_cons (me_var 7 (by decide) rfl (.inl rfl) rfl rfl) (ma_cons (me_var 8 (by decide) rfl (.inl rfl) rfl rfl) ma_nil rfl) rfl) rfl) rfl) rfl rfl rfl)) (fun _ => rfl))) (mss_one (ms_ret me_bl)) mss_nil)))))))))))) (mss_one (ms_ret me_bl)))) (by decide) hall
end
/-! ### the head -/
def d_size_of : He.DefD := ⟨("size_of", none), "size_of", "size_of", defArgs s_size_of, defBody s_size_of, defScope s_size_of, [], []⟩
def d_has : He.DefD := ⟨("has", none), "has", "has", defArgs s_has, defBody s_has, defScope s_has, [], []⟩
def d_is_within : He.DefD := ⟨("is_within", none), "is_within", "is_within", defArgs s_is_within, defBody s_is_within, defScope s_is_within, [], []⟩
def d_word_for : He.DefD := ⟨("word_for", none), "word_for", "word_for", defArgs s_word_for, defBody s_word_for, defScope s_word_for, [], []⟩
def d_liking : He.DefD := ⟨("liking", none), "liking", "liking", defArgs s_liking, defBody s_liking, defScope s_liking, [], []⟩
def d_is_told : He.DefD := ⟨("is_told", none), "is_told", "is_told", defArgs s_is_told, defBody s_is_told, defScope s_is_told, [], []⟩
def d__law_deck : He.DefD := ⟨("_law_deck", none), "_law_deck", "_law_deck", defArgs s__law_deck, defBody s__law_deck, defScope s__law_deck, [], []⟩
def d__law_draw : He.DefD := ⟨("_law_draw", none), "_law_draw", "_law_draw", defArgs s__law_draw, defBody s__law_draw, defScope s__law_draw, [], []⟩
def d__law_pick : He.DefD := ⟨("_law_pick", none), "_law_pick", "_law_pick", defArgs s__law_pick, defBody s__law_pick, defScope s__law_pick, [], []⟩
def d__law_names : He.DefD := ⟨("_law_names", none), "_law_names", "_law_names", defArgs s__law_names, defBody s__law_names, defScope s__law_names, [], []⟩
def d__law_has : He.DefD := ⟨("_law_has", none), "_law_has", "_law_has", defArgs s__law_has, defBody s__law_has, defScope s__law_has, [], []⟩
def d__law_is_in : He.DefD := ⟨("_law_is_in", none), "_law_is_in", "_law_is_in", defArgs s__law_is_in, defBody s__law_is_in, defScope s__law_is_in, [], []⟩
def d__law_about : He.DefD := ⟨("_law_about", none), "_law_about", "_law_about", defArgs s__law_about, defBody s__law_about, defScope s__law_about, [], []⟩
def d__law_rules : He.DefD := ⟨("_law_rules", none), "_law_rules", "_law_rules", defArgs s__law_rules, defBody s__law_rules, defScope s__law_rules, [], []⟩
def d__law_word : He.DefD := ⟨("_law_word", none), "_law_word", "_law_word", defArgs s__law_word, defBody s__law_word, defScope s__law_word, [], []⟩
def d__law_areas : He.DefD := ⟨("_law_areas", none), "_law_areas", "_law_areas", defArgs s__law_areas, defBody s__law_areas, defScope s__law_areas, [], []⟩
def d__law_right : He.DefD := ⟨("_law_right", none), "_law_right", "_law_right", defArgs s__law_right, defBody s__law_right, defScope s__law_right, [], []⟩
def d_law : He.DefD := ⟨("law", none), "law", "law", defArgs s_law, defBody s_law, defScope s_law, [], []⟩
def fn : List He.DefD := [d_size_of, d_has, d_is_within, d_word_for, d_liking, d_is_told, d__law_deck, d__law_draw, d__law_pick, d__law_names, d__law_has, d__law_is_in, d__law_about, d__law_rules, d__law_word, d__law_areas, d__law_right, d_law]
def fa : List He.Fa := [.glo "size_of", .glo "has", .glo "is_within", .glo "word_for", .glo "liking", .glo "is_told", .glo "_law_deck", .glo "_law_draw", .glo "_law_pick", .glo "_law_names", .glo "_law_has", .glo "_law_is_in", .glo "_law_about", .glo "_law_rules", .glo "_law_word", .glo "_law_areas", .glo "_law_right", .glo "law", .free "len", .free "range", .free "sorted", .free "min", .free "tuple", .free "repr", .free "list"]
def cs : List (Str × PyData) := [("WHOLE", (.int 65536)), ("PLAIN", (.int 5)), ("BARS", (.str "bar")), ("HIDES", (.str "hide"))]
abbrev RR : PySem.W.OpenRow := PySem.W.OpenLaw.row PySem.Challenge.rw_wayhouse_k22_likings_and_what_is_told
abbrev hk : PySem.W.Hook := He.hookX 4 fa fn [] [] (constsB cs)
def ob (s : PySem.W.SharedT) : He.AlX := He.obsX 4 fa fn [] [] (constsB cs) (HandSHeadRun.getT s)
theorem ob_eq (s : PySem.W.SharedT) : ob s = hk.obs s.abs := He.obsX_eq (HandSHeadRun.getT_eq s)
def loose : List Str := ["size_of", "has", "is_within", "word_for", "liking", "is_told", "_law_deck", "_law_draw", "_law_pick", "_law_names", "_law_has", "_law_is_in", "_law_about", "_law_rules", "_law_word", "_law_areas", "_law_right", "WHOLE", "BARS", "HIDES", "PLAIN"]
theorem run (w : World) : HandSHeadRun.RunEq RR (PySem.W.view RR.prog [24]) hk ob 2000 loose w := by
  intro os
  kernel_rfl
theorem facts {P : Program} {w : World} {K : PySem.W.Frag} {h : Heap} {mg : Str → Option Value} {f : Addr} (hall : AllE (b_law ρ0) fun o => o = .ret (.bool true)) (X : K.In h) (G : h.Ns mainGlobals mg) (hfa : mg ("law" : Str) = some (.ref f)) (c0 : He.SaysX fa fn [] [] (constsB cs) w h K) :
    ∃ fd : FuncData, (∀ (s : Shared) (v : Value), BindsTo s fd ⟨[v], []⟩ [("_law_script", v)]) ∧ ∀ base : Heap, K.In base → base.Ns mainGlobals mg → FnG P w K mg base CX0 7 f fd ["_law_script"] (spLaw K) := by
  have c := c0.t.d
  obtain ⟨fd_size_of, F_size_of⟩ := c.def_ 0 (d := d_size_of) rfl
  obtain ⟨fd_has, F_has⟩ := c.def_ 1 (d := d_has) rfl
  obtain ⟨fd_is_within, F_is_within⟩ := c.def_ 2 (d := d_is_within) rfl
  obtain ⟨fd_word_for, F_word_for⟩ := c.def_ 3 (d := d_word_for) rfl
  obtain ⟨fd_liking, F_liking⟩ := c.def_ 4 (d := d_liking) rfl
  obtain ⟨fd_is_told, F_is_told⟩ := c.def_ 5 (d := d_is_told) rfl
  obtain ⟨fd__law_deck, F__law_deck⟩ := c.def_ 6 (d := d__law_deck) rfl
  obtain ⟨fd__law_draw, F__law_draw⟩ := c.def_ 7 (d := d__law_draw) rfl
  obtain ⟨fd__law_pick, F__law_pick⟩ := c.def_ 8 (d := d__law_pick) rfl
  obtain ⟨fd__law_names, F__law_names⟩ := c.def_ 9 (d := d__law_names) rfl
  obtain ⟨fd__law_has, F__law_has⟩ := c.def_ 10 (d := d__law_has) rfl
  obtain ⟨fd__law_is_in, F__law_is_in⟩ := c.def_ 11 (d := d__law_is_in) rfl
  obtain ⟨fd__law_about, F__law_about⟩ := c.def_ 12 (d := d__law_about) rfl
  obtain ⟨fd__law_rules, F__law_rules⟩ := c.def_ 13 (d := d__law_rules) rfl
  obtain ⟨fd__law_word, F__law_word⟩ := c.def_ 14 (d := d__law_word) rfl
  obtain ⟨fd__law_areas, F__law_areas⟩ := c.def_ 15 (d := d__law_areas) rfl
  obtain ⟨fd__law_right, F__law_right⟩ := c.def_ 16 (d := d__law_right) rfl
  obtain ⟨fd_law, F_law⟩ := c.def_ 17 (d := d_law) rfl
  have h_size_of := He.glo_ok X G (c.fact 0 (f := .glo "size_of") rfl)
  have h_has := He.glo_ok X G (c.fact 1 (f := .glo "has") rfl)
  have h_is_within := He.glo_ok X G (c.fact 2 (f := .glo "is_within") rfl)
  have h_word_for := He.glo_ok X G (c.fact 3 (f := .glo "word_for") rfl)
  have h_liking := He.glo_ok X G (c.fact 4 (f := .glo "liking") rfl)
  have h_is_told := He.glo_ok X G (c.fact 5 (f := .glo "is_told") rfl)
  have h__law_deck := He.glo_ok X G (c.fact 6 (f := .glo "_law_deck") rfl)
  have h__law_draw := He.glo_ok X G (c.fact 7 (f := .glo "_law_draw") rfl)
  have h__law_pick := He.glo_ok X G (c.fact 8 (f := .glo "_law_pick") rfl)
  have h__law_names := He.glo_ok X G (c.fact 9 (f := .glo "_law_names") rfl)
  have h__law_has := He.glo_ok X G (c.fact 10 (f := .glo "_law_has") rfl)
  have h__law_is_in := He.glo_ok X G (c.fact 11 (f := .glo "_law_is_in") rfl)
  have h__law_about := He.glo_ok X G (c.fact 12 (f := .glo "_law_about") rfl)
  have h__law_rules := He.glo_ok X G (c.fact 13 (f := .glo "_law_rules") rfl)
  have h__law_word := He.glo_ok X G (c.fact 14 (f := .glo "_law_word") rfl)
  have h__law_areas := He.glo_ok X G (c.fact 15 (f := .glo "_law_areas") rfl)
  have h__law_right := He.glo_ok X G (c.fact 16 (f := .glo "_law_right") rfl)
  have h_law := He.glo_ok X G (c.fact 17 (f := .glo "law") rfl)
  have e := hfa.symm.trans h_law
  cases e
  have Z : Hd K mg := ⟨constsB_ok X G c0.more 0 rfl, constsB_ok X G c0.more 1 rfl, constsB_ok X G c0.more 2 rfl, constsB_ok X G c0.more 3 rfl, He.free_ok X G (c.fact 18 (f := .free "len") rfl), He.free_ok X G (c.fact 19 (f := .free "range") rfl), He.free_ok X G (c.fact 20 (f := .free "sorted") rfl), He.free_ok X G (c.fact 21 (f := .free "min") rfl), He.free_ok X G (c.fact 22 (f := .free "tuple") rfl), He.free_ok X G (c.fact 23 (f := .free "repr") rfl), He.free_ok X G (c.fact 24 (f := .free "list") rfl)⟩
  have b := FunD.bindsA (ps := ["_law_script"]) F_law fun _ _ _ _ _ _ us hl => match us, hl with | [_], _ => rfl
  refine ⟨fd_law, fun s v => b s [v] rfl, fun base _ _ => ?_⟩
  let cls : Str → Value := fun _ => .none
  have c__law_draw : Cal P w K mg base CX0 cls "_law_draw" s__law_draw [] 1 2 ["_law_deck_here", "_law_many"] (drawT 1) := ⟨_, _, draw_ok rfl (drawA (k := 0) F__law_draw), h__law_draw, F__law_draw⟩
  have c_size_of : Cal P w K mg base CX0 cls "size_of" s_size_of [] 1 1 ["length"] m_size_of := ⟨_, _, ok_size_of Z  F_size_of, h_size_of, F_size_of⟩
  have c_has : Cal P w K mg base CX0 cls "has" s_has [] 2 2 ["block", "address"] m_has := ⟨_, _, ok_has Z c_size_of F_has, h_has, F_has⟩
  have c_is_within : Cal P w K mg base CX0 cls "is_within" s_is_within [] 3 2 ["one", "other"] m_is_within := ⟨_, _, ok_is_within Z c_has F_is_within, h_is_within, F_is_within⟩
  have c_word_for : Cal P w K mg base CX0 cls "word_for" s_word_for [] 4 3 ["rules", "neighbour", "block"] m_word_for := ⟨_, _, ok_word_for Z c_is_within F_word_for, h_word_for, F_word_for⟩
  have c_liking : Cal P w K mg base CX0 cls "liking" s_liking [] 5 3 ["takes", "neighbour", "block"] m_liking := ⟨_, _, ok_liking Z c_word_for F_liking, h_liking, F_liking⟩
  have c_is_told : Cal P w K mg base CX0 cls "is_told" s_is_told [] 5 3 ["tells", "neighbour", "block"] m_is_told := ⟨_, _, ok_is_told Z c_word_for F_is_told, h_is_told, F_is_told⟩
  have c__law_pick : Cal P w K mg base CX0 cls "_law_pick" s__law_pick [] 2 2 ["_law_deck_here", "_law_some"] m__law_pick := ⟨_, _, ok__law_pick Z c__law_draw F__law_pick, h__law_pick, F__law_pick⟩
  have c__law_names : Cal P w K mg base CX0 cls "_law_names" s__law_names [] 2 2 ["_law_deck_here", "_law_many"] m__law_names := ⟨_, _, ok__law_names Z c__law_draw F__law_names, h__law_names, F__law_names⟩
  have c__law_has : Cal P w K mg base CX0 cls "_law_has" s__law_has [] 1 2 ["_law_area", "_law_spot"] m__law_has := ⟨_, _, ok__law_has Z  F__law_has, h__law_has, F__law_has⟩
  have c__law_is_in : Cal P w K mg base CX0 cls "_law_is_in" s__law_is_in [] 2 2 ["_law_one", "_law_other"] m__law_is_in := ⟨_, _, ok__law_is_in Z c__law_has F__law_is_in, h__law_is_in, F__law_is_in⟩
  have c__law_about : Cal P w K mg base CX0 cls "_law_about" s__law_about [] 3 2 ["_law_deck_here", "_law_spot"] m__law_about := ⟨_, _, ok__law_about Z c__law_pick c__law_draw F__law_about, h__law_about, F__law_about⟩
  have c__law_rules : Cal P w K mg base CX0 cls "_law_rules" s__law_rules [] 4 5 ["_law_deck_here", "_law_names_here", "_law_spots", "_law_words", "_law_many"] m__law_rules := ⟨_, _, ok__law_rules Z c__law_draw c__law_about c__law_pick F__law_rules, h__law_rules, F__law_rules⟩
  have c__law_word : Cal P w K mg base CX0 cls "_law_word" s__law_word [] 3 3 ["_law_rules_here", "_law_called", "_law_area"] m__law_word := ⟨_, _, ok__law_word Z c__law_is_in F__law_word, h__law_word, F__law_word⟩
  have c__law_areas : Cal P w K mg base CX0 cls "_law_areas" s__law_areas [] 4 3 ["_law_deck_here", "_law_rules_here", "_law_spots"] m__law_areas := ⟨_, _, ok__law_areas Z c__law_about F__law_areas, h__law_areas, F__law_areas⟩
  have c__law_right : Cal P w K mg base CX0 cls "_law_right" s__law_right [] 6 4 ["_law_likes", "_law_says", "_law_called", "_law_area"] m__law_right := ⟨_, _, ok__law_right Z c__law_word c_liking c_is_told F__law_right, h__law_right, F__law_right⟩
  exact ok_law (cls := cls) hall Z c__law_draw c__law_names c__law_rules c__law_areas c__law_right F__law_deck h__law_deck F_law
end Lw
open PySem PySem.W PySem.Calls PyProof.Rows in
theorem Lw.walked (hall : R.AllE (Lw.b_law Lw.ρ0) fun o => o = .ret (.bool true)) : PySem.Challenge.rw_wayhouse_k22_likings_and_what_is_told.Holds := by
  w_on; o_law
  refine HandSHeadRun.head_any (r := Lw.RR) (q := view Lw.RR.prog [24]) (H := Lw.hk) (ob := Lw.ob) (M := 2000) (loose := Lw.loose) (d := HandSHeadRun.topDef Lw.RR.prog 24) (kwd := []) Lw.ob_eq
    (by kernel_rfl) (fun s => by kernel_rfl) Lw.run (by kernel_rfl) (by kernel_rfl) (by kernel_rfl) (by rfl) (by first | assumption | decide +kernel) (by decide +kernel) ⟨rfl, rfl, rfl, rfl, rfl, by decide +kernel⟩ ?hw ?hc
  case hw => w_witness2
  case hc =>
    refine R.law_walk (l := PySem.Challenge.rw_wayhouse_k22_likings_and_what_is_told) (k := 7) (x := "_law_script") rfl (by kernel_rfl) ⟨⟨rfl, by decide, by decide⟩, rfl⟩ ?F
    intro w mg fa h Y G hmg0
    obtain ⟨K, KX, c⟩ := Y
    have hmg : mg ("law" : PySem.Str) = some (.ref fa) := by
      have e : (HandSHeadRun.topDef Lw.RR.prog 24).name = ("law" : PySem.Str) := by kernel_rfl
      rw [← e]
      exact hmg0
    obtain ⟨fd, hb, hF⟩ := Lw.facts (P := PySem.Challenge.rw_wayhouse_k22_likings_and_what_is_told.prog) (w := w) hall KX G hmg c
    exact ⟨K, fd, KX, hb, hF⟩

theorem PySem.Challenge.cw_wayhouse_k22_likings_and_what_is_told_holds : PySem.Challenge.rw_wayhouse_k22_likings_and_what_is_told.Holds :=
  Lw.walked Lw.law_all
