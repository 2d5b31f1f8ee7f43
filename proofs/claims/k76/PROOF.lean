import PyProof.Rows.All
import Wide.All
import OpenK.AllK
import Wide.FinOn
import HandS.ForMost
import HandS.Exc
import HandS.Flow
import HandS.TupAny
import HandS.Zip
import KE.SortData
import KE.KDictKeyed
import HandS.TupMul
import KE.GoesEnum
import KE.GoesNew
import HandS.Words
import PySem.Challenge.RW_piecedruns_k76_areas_never_meet
set_option Elab.async false
set_option linter.all false
set_option maxRecDepth 100000
set_option maxHeartbeats 4000000
/-! Pv: a plain evaluator for the part of Python that such programs use, over plain data, with one theorem that ties it to the hand layer's judgements. A: data, states, relations. -/
namespace Pv
open PySem L2

/-- pure data -/
inductive P where
  | non | bl (b : Bool) | int (i : Int) | str (s : Str) | tup (xs : List P)
  deriving Inhabited

namespace P
mutual
def beq : P → P → Bool
  | .non, .non => true
  | .bl a, .bl b => a == b
  | .int a, .int b => decide (a = b)
  | .str a, .str b => decide (a = b)
  | .tup a, .tup b => beqs a b
  | .non, .bl _ | .non, .int _ | .non, .str _ | .non, .tup _ => false
  | .bl _, .non | .bl _, .int _ | .bl _, .str _ | .bl _, .tup _ => false
  | .int _, .non | .int _, .bl _ | .int _, .str _ | .int _, .tup _ => false
  | .str _, .non | .str _, .bl _ | .str _, .int _ | .str _, .tup _ => false
  | .tup _, .non | .tup _, .bl _ | .tup _, .int _ | .tup _, .str _ => false
def beqs : List P → List P → Bool
  | [], [] => true
  | a :: as, b :: bs => beq a b && beqs as bs
  | [], _ :: _ => false
  | _ :: _, [] => false
end
mutual
theorem beq_self : ∀ a : P, beq a a = true
  | .non => rfl
  | .bl a => by simp [beq]
  | .int a => by simp [beq]
  | .str a => by simp [beq]
  | .tup a => by rw [beq]; exact beqs_self a
theorem beqs_self : ∀ a : List P, beqs a a = true
  | [] => rfl
  | a :: as => by rw [beqs, beq_self a, beqs_self as]; rfl
end
mutual
theorem eq_of_beq : ∀ a b : P, beq a b = true → a = b
  | .non, .non, _ => rfl
  | .bl a, .bl b, h => by simp only [beq, beq_iff_eq] at h; rw [h]
  | .int a, .int b, h => by simp only [beq, decide_eq_true_eq] at h; rw [h]
  | .str a, .str b, h => by simp only [beq, decide_eq_true_eq] at h; rw [h]
  | .tup a, .tup b, h => by rw [beq] at h; rw [eq_of_beqs a b h]
  | .non, .bl _, h | .non, .int _, h | .non, .str _, h | .non, .tup _, h => by simp [beq] at h
  | .bl _, .non, h | .bl _, .int _, h | .bl _, .str _, h | .bl _, .tup _, h => by simp [beq] at h
  | .int _, .non, h | .int _, .bl _, h | .int _, .str _, h | .int _, .tup _, h => by simp [beq] at h
  | .str _, .non, h | .str _, .bl _, h | .str _, .int _, h | .str _, .tup _, h => by simp [beq] at h
  | .tup _, .non, h | .tup _, .bl _, h | .tup _, .int _, h | .tup _, .str _, h => by simp [beq] at h
theorem eq_of_beqs : ∀ a b : List P, beqs a b = true → a = b
  | [], [], _ => rfl
  | a :: as, b :: bs, h => by
    rw [beqs, Bool.and_eq_true] at h
    rw [eq_of_beq a b h.1, eq_of_beqs as bs h.2]
  | [], _ :: _, h => by simp [beqs] at h
  | _ :: _, [], h => by simp [beqs] at h
end
instance : DecidableEq P := fun a b => if h : beq a b = true then .isTrue (eq_of_beq a b h) else .isFalse fun e => h (e ▸ beq_self a)
end P

/-- a value: pure, a mutable object by its number, or a tuple that holds such -/
inductive D where
  | p (x : P) | r (i : Nat) | t (xs : List D)
  deriving Inhabited

namespace D
mutual
def beq : D → D → Bool
  | .p a, .p b => decide (a = b)
  | .r a, .r b => decide (a = b)
  | .t a, .t b => beqs a b
  | .p _, .r _ | .p _, .t _ | .r _, .p _ | .r _, .t _ | .t _, .p _ | .t _, .r _ => false
def beqs : List D → List D → Bool
  | [], [] => true
  | a :: as, b :: bs => beq a b && beqs as bs
  | [], _ :: _ => false
  | _ :: _, [] => false
end
mutual
theorem beq_self : ∀ a : D, beq a a = true
  | .p a => by simp [beq]
  | .r a => by simp [beq]
  | .t a => by rw [beq]; exact beqs_self a
theorem beqs_self : ∀ a : List D, beqs a a = true
  | [] => rfl
  | a :: as => by rw [beqs, beq_self a, beqs_self as]; rfl
end
mutual
theorem eq_of_beq : ∀ a b : D, beq a b = true → a = b
  | .p a, .p b, h => by simp only [beq, decide_eq_true_eq] at h; rw [h]
  | .r a, .r b, h => by simp only [beq, decide_eq_true_eq] at h; rw [h]
  | .t a, .t b, h => by rw [beq] at h; rw [eq_of_beqs a b h]
  | .p _, .r _, h | .p _, .t _, h | .r _, .p _, h | .r _, .t _, h | .t _, .p _, h | .t _, .r _, h => by simp [beq] at h
theorem eq_of_beqs : ∀ a b : List D, beqs a b = true → a = b
  | [], [], _ => rfl
  | a :: as, b :: bs, h => by
    rw [beqs, Bool.and_eq_true] at h
    rw [eq_of_beq a b h.1, eq_of_beqs as bs h.2]
  | [], _ :: _, h => by simp [beqs] at h
  | _ :: _, [], h => by simp [beqs] at h
end
instance : DecidableEq D := fun a b => if h : beq a b = true then .isTrue (eq_of_beq a b h) else .isFalse fun e => h (e ▸ beq_self a)
mutual
/-- no object from n on in it -/
def under (n : Nat) : D → Bool
  | .p _ => true
  | .r i => decide (i < n)
  | .t xs => unders n xs
def unders (n : Nat) : List D → Bool
  | [] => true
  | x :: xs => under n x && unders n xs
end
end D

/-- an object -/
inductive O where
  /-- a list -/
  | lst (xs : List D)
  /-- a list that is read alone (the script) -/
  | ro (xs : List P)
  | dct (kvs : List (P × D))
  | set (xs : List P)
  /-- an instance of the c-th class, its attributes by number -/
  | ins (c : Nat) (fs : List (Nat × D))
  deriving Inhabited, DecidableEq

def O.under (n : Nat) : O → Bool
  | .lst xs => D.unders n xs
  | .ro _ => true
  | .dct kvs => kvs.all fun kv => kv.2.under n
  | .set _ => true
  | .ins _ fs => fs.all fun f => f.2.under n

abbrev Hh := List O
abbrev Sg := List (Option D)

/-- an exception: its class by number, its attributes -/
structure Ex where
  cls : Nat
  fs : List (Nat × D)

inductive R (α : Type) where
  | stuck | ok (a : α) (h : Hh) | exc (x : Ex) (h : Hh)
  deriving Inhabited
namespace R
variable {α β : Type}
def bind (m : R α) (f : α → Hh → R β) : R β := match m with
  | .stuck => .stuck
  | .ok a h => f a h
  | .exc x h => .exc x h
@[simp] theorem bind_ok (a : α) (h : Hh) (f : α → Hh → R β) : (R.ok a h).bind f = f a h := rfl
@[simp] theorem bind_stuck (f : α → Hh → R β) : (R.stuck : R α).bind f = .stuck := rfl
@[simp] theorem bind_exc (x : Ex) (h : Hh) (f : α → Hh → R β) : (R.exc x h : R α).bind f = .exc x h := rfl
end R

/-- a statement's end -/
inductive RS where
  | stuck | next (s : Sg) (h : Hh) | ret (d : D) (h : Hh) | brk (s : Sg) (h : Hh) | cont (s : Sg) (h : Hh) | exc (x : Ex) (s : Sg) (h : Hh)
  deriving Inhabited
namespace RS
def seq (m : RS) (f : Sg → Hh → RS) : RS := match m with
  | .next s h => f s h
  | o => o
@[simp] theorem seq_next (s : Sg) (h : Hh) (f : Sg → Hh → RS) : (RS.next s h).seq f = f s h := rfl
@[simp] theorem seq_ret (d : D) (h : Hh) (f : Sg → Hh → RS) : (RS.ret d h).seq f = .ret d h := rfl
@[simp] theorem seq_brk (s : Sg) (h : Hh) (f : Sg → Hh → RS) : (RS.brk s h).seq f = .brk s h := rfl
@[simp] theorem seq_cont (s : Sg) (h : Hh) (f : Sg → Hh → RS) : (RS.cont s h).seq f = .cont s h := rfl
@[simp] theorem seq_exc (x : Ex) (s : Sg) (h : Hh) (f : Sg → Hh → RS) : (RS.exc x s h).seq f = .exc x s h := rfl
@[simp] theorem seq_stuck (f : Sg → Hh → RS) : RS.stuck.seq f = .stuck := rfl
end RS
/-- an expression within a statement -/
def R.then {α : Type} (m : R α) (s : Sg) (f : α → Hh → RS) : RS := match m with
  | .stuck => .stuck
  | .ok a h => f a h
  | .exc x h => .exc x s h
@[simp] theorem R.then_ok {α : Type} (a : α) (h : Hh) (s : Sg) (f : α → Hh → RS) : (R.ok a h).then s f = f a h := rfl
@[simp] theorem R.then_stuck {α : Type} (s : Sg) (f : α → Hh → RS) : (R.stuck : R α).then s f = .stuck := rfl
@[simp] theorem R.then_exc {α : Type} (x : Ex) (h : Hh) (s : Sg) (f : α → Hh → RS) : (R.exc x h : R α).then s f = .exc x s h := rfl

/-- what was there: each object as it was, or without anything new -/
def agree : Hh → Hh → Nat → Bool
  | [], _, _ => true
  | _ :: _, [], _ => false
  | o :: h, o' :: h', n => (decide (o' = o) || o'.under n) && agree h h' n
/-- a value leaves: what is new and not held goes; a new object that is the value itself, and holds nothing new, moves to the end of the old ones -/
def trimR (h : Hh) : R D → R D
  | .ok d h' =>
    if agree h h' h.length then
      if d.under h.length then .ok d (h'.take h.length)
      else match d with
        | .r i => match h'[i]? with
          | some o => if h.length ≤ i && o.under h.length then .ok (.r h.length) (h'.take h.length ++ [o]) else .ok d h'
          | none => .ok d h'
        | _ => .ok d h'
    else .ok d h'
  | o => o

/-! ### relations -/
mutual
inductive RelP (K : PySem.W.Frag) (H : Hp) : P → V → Prop
  | non : RelP K H .non .non
  | bl (b : Bool) : RelP K H (.bl b) (.bl b)
  | int (i : Int) : RelP K H (.int i) (.int i)
  | str (s : Str) : RelP K H (.str s) (.str s)
  | tup {a : Addr} {vs : List V} {xs : List P} : SqT K H a vs → RelPs K H xs vs → RelP K H (.tup xs) (.ref a)
inductive RelPs (K : PySem.W.Frag) (H : Hp) : List P → List V → Prop
  | nil : RelPs K H [] []
  | cons {x : P} {v : V} {xs : List P} {vs : List V} : RelP K H x v → RelPs K H xs vs → RelPs K H (x :: xs) (v :: vs)
end
mutual
inductive RelD (K : PySem.W.Frag) (H : Hp) (n : Nat) (ρ : Nat → Addr) : D → V → Prop
  | p {x : P} {v : V} : RelP K H x v → RelD K H n ρ (.p x) v
  | r {i : Nat} : i < n → RelD K H n ρ (.r i) (.ref (ρ i))
  | t {a : Addr} {vs : List V} {xs : List D} : SqT K H a vs → RelDs K H n ρ xs vs → RelD K H n ρ (.t xs) (.ref a)
inductive RelDs (K : PySem.W.Frag) (H : Hp) (n : Nat) (ρ : Nat → Addr) : List D → List V → Prop
  | nil : RelDs K H n ρ [] []
  | cons {x : D} {v : V} {xs : List D} {vs : List V} : RelD K H n ρ x v → RelDs K H n ρ xs vs → RelDs K H n ρ (x :: xs) (v :: vs)
end
/-- tuples stay -/
def Keep (K : PySem.W.Frag) (H H' : Hp) : Prop := ∀ a vs, SqT K H a vs → SqT K H' a vs
theorem Keep.refl (K : PySem.W.Frag) (H : Hp) : Keep K H H := fun _ _ h => h
theorem Keep.trans {K : PySem.W.Frag} {H H1 H2 : Hp} (a : Keep K H H1) (b : Keep K H1 H2) : Keep K H H2 := fun c vs h => b c vs (a c vs h)
def Ext (n : Nat) (ρ ρ' : Nat → Addr) : Prop := ∀ i, i < n → ρ' i = ρ i
theorem Ext.refl (n : Nat) (ρ : Nat → Addr) : Ext n ρ ρ := fun _ _ => rfl
theorem Ext.trans {n n' : Nat} {ρ ρ1 ρ2 : Nat → Addr} (a : Ext n ρ ρ1) (b : Ext n' ρ1 ρ2) (h : n ≤ n') : Ext n ρ ρ2 := fun i hi => (b i (Nat.lt_of_lt_of_le hi h)).trans (a i hi)
theorem Ext.mono {n n' : Nat} {ρ ρ' : Nat → Addr} (a : Ext n' ρ ρ') (h : n ≤ n') : Ext n ρ ρ' := fun i hi => a i (Nat.lt_of_lt_of_le hi h)

section
variable {K : PySem.W.Frag} {H H' : Hp}
mutual
theorem RelP.keep (k : Keep K H H') : ∀ {x : P} {v : V}, RelP K H x v → RelP K H' x v
  | _, _, .non => .non
  | _, _, .bl b => .bl b
  | _, _, .int b => .int b
  | _, _, .str b => .str b
  | _, _, .tup h hs => .tup (k _ _ h) (RelPs.keep k hs)
theorem RelPs.keep (k : Keep K H H') : ∀ {x : List P} {v : List V}, RelPs K H x v → RelPs K H' x v
  | _, _, .nil => .nil
  | _, _, .cons h hs => .cons (RelP.keep k h) (RelPs.keep k hs)
end
theorem RelPs.length : ∀ {x : List P} {v : List V}, RelPs K H x v → x.length = v.length
  | _, _, .nil => rfl
  | _, _, .cons _ hs => congrArg (· + 1) hs.length
theorem RelPs.get : ∀ {xs : List P} {vs : List V} {i : Nat} {x : P}, RelPs K H xs vs → xs[i]? = some x → ∃ v, vs[i]? = some v ∧ RelP K H x v
  | _, _, 0, _, .cons r _, e => by simp at e; subst e; exact ⟨_, rfl, r⟩
  | _, _, i + 1, x, .cons _ t, e => by
    obtain ⟨u, h1, h2⟩ := RelPs.get (i := i) (x := x) t (by simpa using e)
    exact ⟨u, by simpa using h1, h2⟩
theorem RelPs.append : ∀ {xs ys : List P} {vs ws : List V}, RelPs K H xs vs → RelPs K H ys ws → RelPs K H (xs ++ ys) (vs ++ ws)
  | _, _, _, _, .nil, s => s
  | _, _, _, _, .cons r t, s => .cons r (RelPs.append t s)
theorem RelPs.take : ∀ {xs : List P} {vs : List V} (n : Nat), RelPs K H xs vs → RelPs K H (xs.take n) (vs.take n)
  | _, _, 0, _ => .nil
  | _, _, _ + 1, .nil => .nil
  | _, _, n + 1, .cons r t => .cons r (RelPs.take n t)
theorem RelPs.drop : ∀ {xs : List P} {vs : List V} (n : Nat), RelPs K H xs vs → RelPs K H (xs.drop n) (vs.drop n)
  | _, _, 0, r => r
  | _, _, _ + 1, .nil => .nil
  | _, _, n + 1, .cons _ t => RelPs.drop n t

variable {n n' : Nat} {ρ ρ' : Nat → Addr}
mutual
theorem RelD.mono (k : Keep K H H') (e : Ext n ρ ρ') (hn : n ≤ n') : ∀ {x : D} {v : V}, RelD K H n ρ x v → RelD K H' n' ρ' x v
  | _, _, .p h => .p (h.keep k)
  | _, _, .r (i := i) h => by rw [← e i h]; exact .r (Nat.lt_of_lt_of_le h hn)
  | _, _, .t h hs => .t (k _ _ h) (RelDs.mono k e hn hs)
theorem RelDs.mono (k : Keep K H H') (e : Ext n ρ ρ') (hn : n ≤ n') : ∀ {x : List D} {v : List V}, RelDs K H n ρ x v → RelDs K H' n' ρ' x v
  | _, _, .nil => .nil
  | _, _, .cons h hs => .cons (RelD.mono k e hn h) (RelDs.mono k e hn hs)
end
mutual
/-- a value with nothing from m on -/
theorem RelD.low {m : Nat} : ∀ {x : D} {v : V}, RelD K H n ρ x v → x.under m = true → RelD K H m ρ x v
  | _, _, .p h, _ => .p h
  | _, _, .r h, b => .r (by simpa [D.under] using b)
  | _, _, .t h hs, b => .t h (RelDs.low hs (by simpa [D.under] using b))
theorem RelDs.low {m : Nat} : ∀ {x : List D} {v : List V}, RelDs K H n ρ x v → D.unders m x = true → RelDs K H m ρ x v
  | _, _, .nil, _ => .nil
  | _, _, .cons h hs, b => by
    simp only [D.unders, Bool.and_eq_true] at b
    exact .cons (RelD.low h b.1) (RelDs.low hs b.2)
end
theorem RelDs.length : ∀ {x : List D} {v : List V}, RelDs K H n ρ x v → x.length = v.length
  | _, _, .nil => rfl
  | _, _, .cons _ hs => congrArg (· + 1) hs.length
theorem RelDs.get : ∀ {xs : List D} {vs : List V} {i : Nat} {x : D}, RelDs K H n ρ xs vs → xs[i]? = some x → ∃ v, vs[i]? = some v ∧ RelD K H n ρ x v
  | _, _, 0, _, .cons r _, e => by simp at e; subst e; exact ⟨_, rfl, r⟩
  | _, _, i + 1, x, .cons _ t, e => by
    obtain ⟨u, h1, h2⟩ := RelDs.get (i := i) (x := x) t (by simpa using e)
    exact ⟨u, by simpa using h1, h2⟩
theorem RelDs.get' : ∀ {xs : List D} {vs : List V} {i : Nat} {v : V}, RelDs K H n ρ xs vs → vs[i]? = some v → ∃ x, xs[i]? = some x ∧ RelD K H n ρ x v
  | _, _, 0, _, .cons r _, e => by simp at e; subst e; exact ⟨_, rfl, r⟩
  | _, _, i + 1, x, .cons _ t, e => by
    obtain ⟨u, h1, h2⟩ := RelDs.get' (i := i) t (by simpa using e)
    exact ⟨u, by simpa using h1, h2⟩
theorem RelDs.append : ∀ {xs ys : List D} {vs ws : List V}, RelDs K H n ρ xs vs → RelDs K H n ρ ys ws → RelDs K H n ρ (xs ++ ys) (vs ++ ws)
  | _, _, _, _, .nil, s => s
  | _, _, _, _, .cons r t, s => .cons r (RelDs.append t s)
theorem RelDs.take : ∀ {xs : List D} {vs : List V} (m : Nat), RelDs K H n ρ xs vs → RelDs K H n ρ (xs.take m) (vs.take m)
  | _, _, 0, _ => .nil
  | _, _, _ + 1, .nil => .nil
  | _, _, m + 1, .cons r t => .cons r (RelDs.take m t)
theorem RelDs.drop : ∀ {xs : List D} {vs : List V} (m : Nat), RelDs K H n ρ xs vs → RelDs K H n ρ (xs.drop m) (vs.drop m)
  | _, _, 0, r => r
  | _, _, _ + 1, .nil => .nil
  | _, _, m + 1, .cons _ t => RelDs.drop m t
theorem RelDs.set {x : D} {u : V} (r : RelD K H n ρ x u) : ∀ {xs : List D} {us : List V} (i : Nat), RelDs K H n ρ xs us → RelDs K H n ρ (xs.set i x) (us.set i u)
  | _, _, _, .nil => .nil
  | _, _, 0, .cons _ t => .cons r t
  | _, _, i + 1, .cons q t => .cons q (RelDs.set r i t)
theorem RelPs.toDs : ∀ {xs : List P} {vs : List V}, RelPs K H xs vs → RelDs K H n ρ (xs.map .p) vs
  | _, _, .nil => .nil
  | _, _, .cons h hs => .cons (.p h) hs.toDs
end
/-- all are pure -/
def pures : List D → Option (List P)
  | [] => some []
  | .p x :: r => match pures r with
    | some xs => some (x :: xs)
    | none => none
  | _ :: _ => none
@[simp] theorem pures_nil : pures [] = some [] := rfl
@[simp] theorem pures_cons (x : P) (r : List D) : pures (.p x :: r) = (pures r).map (x :: ·) := by
  rw [pures]; cases pures r <;> rfl
@[simp] theorem pures_map (xs : List P) : pures (xs.map .p) = some xs := by
  induction xs with
  | nil => rfl
  | cons x xs ih => simp [ih]
/-- a tuple of values -/
def mkT (ds : List D) : D := match pures ds with
  | some xs => .p (.tup xs)
  | none => .t ds
theorem RelDs.pure {K : PySem.W.Frag} {H : Hp} {n : Nat} {ρ : Nat → Addr} : ∀ {ds : List D} {vs : List V} {xs : List P}, pures ds = some xs → RelDs K H n ρ ds vs → RelPs K H xs vs
  | _, _, _, e, .nil => by cases e; exact .nil
  | _, _, _, e, .cons h hs => by
    cases h with
    | p h =>
      rw [pures_cons] at e
      cases q : pures _ with
      | none => rw [q] at e; cases e
      | some ys => rw [q] at e; cases e; exact .cons h (hs.pure q)
    | r _ => cases e
    | t _ _ => cases e
theorem RelD.mkT {K : PySem.W.Frag} {H : Hp} {n : Nat} {ρ : Nat → Addr} {ds : List D} {vs : List V} {a : Addr} (h : SqT K H a vs) (r : RelDs K H n ρ ds vs) : RelD K H n ρ (mkT ds) (.ref a) := by
  unfold Pv.mkT
  cases e : pures ds with
  | none => exact .t h r
  | some xs => exact .p (.tup h (r.pure e))
/-- a tuple's items -/
def D.items : D → Option (List D)
  | .p (.tup xs) => some (xs.map .p)
  | .t xs => some xs
  | _ => none
theorem RelD.items {K : PySem.W.Frag} {H : Hp} {n : Nat} {ρ : Nat → Addr} {d : D} {v : V} {xs : List D} (r : RelD K H n ρ d v) (e : d.items = some xs) : ∃ a vs, v = .ref a ∧ SqT K H a vs ∧ RelDs K H n ρ xs vs := by
  cases r with
  | p h =>
    cases h with
    | tup h hs => cases e; exact ⟨_, _, rfl, h, hs.toDs⟩
    | non => cases e
    | bl _ => cases e
    | int _ => cases e
    | str _ => cases e
  | r _ => cases e
  | t h hs => cases e; exact ⟨_, _, rfl, h, hs⟩
end Pv

/-! B: objects, the state, what a reading is of an evaluation. -/
namespace Pv
open PySem L2

/-- the tables: the written part, the classes' addresses, the attributes' names -/
structure Tb where
  prog : Program
  w : World
  K : PySem.W.Frag
  cls : Nat → Option Addr
  fld : Nat → Option Str
  /-- which attributes a class's instances may have -/
  fok : Nat → Nat → Bool

/-- a list that never changes -/
def SqR (K : PySem.W.Frag) (H : Hp) (a : Addr) (xs : List V) : Prop :=
  (∃ o, H a = some (.frz o (.lst xs))) ∨
    ∃ (o : Obj) (its : Array Value) (n : Nat), K.lookup a = some o ∧ o.cls = .type "list" ∧ o.dict = none ∧ o.data = .seq its n ∧ its.size ≤ sizeLine ∧ Vals xs its.toList
theorem SqR.sq {K : PySem.W.Frag} {H : Hp} {a : Addr} {xs : List V} (h : SqR K H a xs) : SqL K H a xs := by
  rcases h with ⟨o, h⟩ | h
  · exact .inl (.inr ⟨o, h⟩)
  · exact .inr h
theorem SqR.of {K : PySem.W.Frag} {H : Hp} {a : Addr} {xs : List V} (h : SqL K H a xs) (n : ∀ ys, H a ≠ some (.lst ys)) : SqR K H a xs := by
  rcases h with (h | h) | h
  · exact absurd h (n _)
  · exact .inl h
  · exact .inr h

inductive RelFs (T : Tb) (H : Hp) (n : Nat) (ρ : Nat → Addr) : List (Nat × D) → List (Str × V) → Prop
  | nil : RelFs T H n ρ [] []
  | cons {i : Nat} {x : Str} {d : D} {v : V} {fs : List (Nat × D)} {fv : List (Str × V)} : T.fld i = some x → RelD T.K H n ρ d v → RelFs T H n ρ fs fv → RelFs T H n ρ ((i, d) :: fs) ((x, v) :: fv)
theorem RelFs.mono {T : Tb} {H H' : Hp} {n n' : Nat} {ρ ρ' : Nat → Addr} (k : Keep T.K H H') (e : Ext n ρ ρ') (hn : n ≤ n') : ∀ {fs : List (Nat × D)} {fv : List (Str × V)}, RelFs T H n ρ fs fv → RelFs T H' n' ρ' fs fv
  | _, _, .nil => .nil
  | _, _, .cons h1 h2 hs => .cons h1 (h2.mono k e hn) (hs.mono k e hn)
theorem RelFs.low {T : Tb} {H : Hp} {n m : Nat} {ρ : Nat → Addr} : ∀ {fs : List (Nat × D)} {fv : List (Str × V)}, RelFs T H n ρ fs fv → (fs.all fun f => f.2.under m) = true → RelFs T H m ρ fs fv
  | _, _, .nil, _ => .nil
  | _, _, .cons h1 h2 hs, b => by
    simp only [List.all_cons, Bool.and_eq_true] at b
    exact .cons h1 (h2.low b.1) (hs.low b.2)

/-- an entry of a dict: the hash, key and value -/
abbrev En := Int × V × V
/-- a dict by its entries as they stand -/
def dctO (a : Addr) (es : List En) : HO := .ext fun h => ∃ (o : Obj) (ar : Array DictEntry) (ep : Nat), h.get? a = some o ∧ o.ExactDict ∧ o.data = .dict ar ep ∧
  Paired (fun (e : En) (x : DictEntry) => x.hash = e.1 ∧ RelV e.2.1 x.key ∧ RelV e.2.2 x.val) es ar.toList
/-- a set by its entries -/
def setO (a : Addr) (es : List (Int × V)) : HO := .ext fun h => ∃ (o : Obj) (ar : Array (Int × Value)) (ep : Nat) (t : SetTable), h.get? a = some o ∧ o.cls = .type "set" ∧ o.data = .set ar ep t ∧
  Paired (fun (e : Int × V) (x : Int × Value) => x.1 = e.1 ∧ RelV e.2 x.2) es ar.toList

/-- the key that a plain value is -/
def P.key : P → NestedKey
  | .non => .none
  | .bl b => .num (if b then 1 else 0)
  | .int i => .num i
  | .str s => .text s
  | .tup xs => .tup (keys xs)
where keys : List P → List NestedKey
  | [] => []
  | x :: xs => x.key :: keys xs

inductive RelEs (T : Tb) (H : Hp) (n : Nat) (ρ : Nat → Addr) : List (P × D) → List En → Prop
  | nil : RelEs T H n ρ [] []
  | cons {k : P} {d : D} {kv v : V} {fs : List (P × D)} {es : List En} : RelP T.K H k kv → RelD T.K H n ρ d v → RelEs T H n ρ fs es → RelEs T H n ρ ((k, d) :: fs) ((k.key.hash T.w, kv, v) :: es)
theorem RelEs.mono {T : Tb} {H H' : Hp} {n n' : Nat} {ρ ρ' : Nat → Addr} (k : Keep T.K H H') (e : Ext n ρ ρ') (hn : n ≤ n') : ∀ {fs : List (P × D)} {fv : List En}, RelEs T H n ρ fs fv → RelEs T H' n' ρ' fs fv
  | _, _, .nil => .nil
  | _, _, .cons h1 h2 hs => .cons (h1.keep k) (h2.mono k e hn) (hs.mono k e hn)
theorem RelEs.low {T : Tb} {H : Hp} {n m : Nat} {ρ : Nat → Addr} : ∀ {fs : List (P × D)} {fv : List En}, RelEs T H n ρ fs fv → (fs.all fun f => f.2.under m) = true → RelEs T H m ρ fs fv
  | _, _, .nil, _ => .nil
  | _, _, .cons h1 h2 hs, b => by
    simp only [List.all_cons, Bool.and_eq_true] at b
    exact .cons h1 (h2.low b.1) (hs.low b.2)
inductive RelMs (T : Tb) (H : Hp) : List P → List (Int × V) → Prop
  | nil : RelMs T H [] []
  | cons {k : P} {kv : V} {fs : List P} {es : List (Int × V)} : RelP T.K H k kv → RelMs T H fs es → RelMs T H (k :: fs) ((k.key.hash T.w, kv) :: es)
theorem RelMs.keep {T : Tb} {H H' : Hp} (k : Keep T.K H H') : ∀ {fs : List P} {fv : List (Int × V)}, RelMs T H fs fv → RelMs T H' fs fv
  | _, _, .nil => .nil
  | _, _, .cons h1 hs => .cons (h1.keep k) (hs.keep k)

/-- an object at its address -/
def RelO (T : Tb) (H : Hp) (n : Nat) (ρ : Nat → Addr) (a : Addr) : O → Prop
  | .lst xs => ∃ vs, H a = some (.lst vs) ∧ RelDs T.K H n ρ xs vs
  | .ro xs => ∃ vs, SqR T.K H a vs ∧ RelPs T.K H xs vs
  | .dct kvs => ∃ es, (a == sysModules) = false ∧ H a = some (dctO a es) ∧ RelEs T H n ρ kvs es
  | .set xs => ∃ es, H a = some (setO a es) ∧ RelMs T H xs es
  | .ins c fs => ∃ C dx fv, T.cls c = some C ∧ H a = some (.ins C dx fv) ∧ RelFs T H n ρ fs fv ∧ (fs.all fun p => T.fok c p.1) = true
def O.mut : O → Bool
  | .ro _ => false
  | _ => true
theorem RelO.move {T : Tb} {H H' : Hp} {n n' : Nat} {ρ ρ' : Nat → Addr} {a : Addr} {o : O} (r : RelO T H n ρ a o) (k : Keep T.K H H') (e : Ext n ρ ρ') (hn : n ≤ n') (h : ∀ u, H a = some u → H' a = some u) : RelO T H' n' ρ' a o := by
  cases o with
  | lst xs => obtain ⟨vs, e1, r⟩ := r; exact ⟨vs, h _ e1, r.mono k e hn⟩
  | ro xs =>
    obtain ⟨vs, e1, r⟩ := r
    refine ⟨vs, ?_, r.keep k⟩
    rcases e1 with ⟨o, e1⟩ | e1
    · exact .inl ⟨o, h _ e1⟩
    · exact .inr e1
  | dct kvs => obtain ⟨es, e0, e1, r⟩ := r; exact ⟨es, e0, h _ e1, r.mono k e hn⟩
  | set xs => obtain ⟨es, e1, r⟩ := r; exact ⟨es, h _ e1, r.keep k⟩
  | ins c fs => obtain ⟨C, dx, fv, e0, e1, r, q⟩ := r; exact ⟨C, dx, fv, e0, h _ e1, r.mono k e hn, q⟩
theorem RelO.low {T : Tb} {H : Hp} {n m : Nat} {ρ : Nat → Addr} {a : Addr} {o : O} (r : RelO T H n ρ a o) (b : o.under m = true) : RelO T H m ρ a o := by
  cases o with
  | lst xs => obtain ⟨vs, e1, r⟩ := r; exact ⟨vs, e1, r.low b⟩
  | ro xs => exact r
  | dct kvs => obtain ⟨es, e0, e1, r⟩ := r; exact ⟨es, e0, e1, r.low b⟩
  | set xs => exact r
  | ins c fs => obtain ⟨C, dx, fv, e0, e1, r, q⟩ := r; exact ⟨C, dx, fv, e0, e1, r.low b, q⟩
/-- a mutable one is tracked as such -/
theorem RelO.at {T : Tb} {H : Hp} {n : Nat} {ρ : Nat → Addr} {a : Addr} {o : O} (r : RelO T H n ρ a o) (b : o.mut = true) : ∃ u, H a = some u ∧ Mut (some u) ∧ (∀ vs, u ≠ .tup vs) ∧ ∀ ob x, u ≠ .frz ob x := by
  cases o with
  | lst xs => obtain ⟨vs, e1, r⟩ := r; exact ⟨_, e1, True.intro, (fun _ z => by cases z), fun _ _ z => by cases z⟩
  | ro xs => cases b
  | dct kvs => obtain ⟨es, e0, e1, r⟩ := r; exact ⟨_, e1, True.intro, (fun _ z => by cases z), fun _ _ z => by cases z⟩
  | set xs => obtain ⟨es, e1, r⟩ := r; exact ⟨_, e1, True.intro, (fun _ z => by cases z), fun _ _ z => by cases z⟩
  | ins c fs => obtain ⟨C, dx, fv, e0, e1, r⟩ := r; exact ⟨_, e1, True.intro, (fun _ z => by cases z), fun _ _ z => by cases z⟩

structure RelH (T : Tb) (ρ : Nat → Addr) (h : Hh) (H : Hp) : Prop where
  obj : ∀ i o, h[i]? = some o → RelO T H h.length ρ (ρ i) o
  inj : ∀ i j o o', h[i]? = some o → h[j]? = some o' → i ≠ j → o.mut = true → o'.mut = true → ρ i ≠ ρ j

theorem keep_upd {K : PySem.W.Frag} {H : Hp} {p : Addr} {u : HO} (h : (∀ vs, H p ≠ some (.tup vs)) ∧ ∀ ob x, H p ≠ some (.frz ob x)) : Keep K H (upd H p u) := fun a vs q => by
  rcases q with (q | ⟨o, q⟩) | q
  · have : a ≠ p := by rintro rfl; exact h.1 _ q
    exact .inl (.inl (by rw [upd_ne this]; exact q))
  · have : a ≠ p := by rintro rfl; exact h.2 _ _ q
    exact .inl (.inr ⟨o, by rw [upd_ne this]; exact q⟩)
  · exact .inr q
theorem keep_new {K : PySem.W.Frag} {H : Hp} {p : Addr} {u : HO} (h : H p = none) : Keep K H (upd H p u) := keep_upd ⟨(fun _ z => by rw [h] at z; cases z), (fun _ _ z => by rw [h] at z; cases z)⟩
section
variable {T : Tb} {ρ : Nat → Addr} {h : Hh} {H : Hp} {p : Addr} {u : HO} {i : Nat} {o o' : O}
/-- something new that no number has -/
theorem RelH.pad (R : RelH T ρ h H) (hp : H p = none) : RelH T ρ h (upd H p u) :=
  ⟨fun i o e => (R.obj i o e).move (keep_new hp) (Ext.refl _ _) (Nat.le_refl _) fun v q => by
    have : ρ i ≠ p := by rintro rfl; rw [hp] at q; cases q
    rw [upd_ne this]; exact q, R.inj⟩
/-- a new object -/
theorem RelH.new (R : RelH T ρ h H) (hp : H p = none) (ho : ∀ ρ', ρ' h.length = p → Ext h.length ρ ρ' → RelO T (upd H p u) (h.length + 1) ρ' p o) :
    ∃ ρ', ρ' h.length = p ∧ Ext h.length ρ ρ' ∧ RelH T ρ' (h ++ [o]) (upd H p u) := by
  obtain ⟨ρ', e0, e1⟩ : ∃ ρ' : Nat → Addr, ρ' h.length = p ∧ Ext h.length ρ ρ' := ⟨fun j => if j = h.length then p else ρ j, if_pos rfl, fun j hj => if_neg (Nat.ne_of_lt hj)⟩
  have last : ∀ {j x}, (h ++ [o])[j]? = some x → ¬ j < h.length → j = h.length ∧ x = o := fun {j x} q hj => by
    rw [List.getElem?_append_right (by omega)] at q
    have : j - h.length = 0 := by
      obtain ⟨l, _⟩ := List.getElem?_eq_some_iff.mp q
      simp at l; omega
    rw [this] at q
    cases q
    exact ⟨by omega, rfl⟩
  refine ⟨ρ', e0, e1, fun j x q => ?_, fun j k x y q1 q2 ne m1 m2 => ?_⟩
  · rw [List.length_append]
    by_cases hj : j < h.length
    · rw [List.getElem?_append_left hj] at q
      rw [e1 j hj]
      refine (R.obj j x q).move (keep_new hp) e1 (Nat.le_add_right _ _) fun v q => ?_
      have : ρ j ≠ p := by rintro e; rw [e, hp] at q; cases q
      rw [upd_ne this]; exact q
    · obtain ⟨rfl, rfl⟩ := last q hj
      rw [e0]
      exact ho _ e0 e1
  · have at_ : ∀ {j : Nat} {x : O}, (h ++ [o])[j]? = some x → x.mut = true → (j < h.length ∧ h[j]? = some x ∧ ρ' j = ρ j ∧ ρ j ≠ p) ∨ (j = h.length ∧ ρ' j = p) := fun {j x} q m => by
      by_cases hj : j < h.length
      · rw [List.getElem?_append_left hj] at q
        obtain ⟨u, hu, _⟩ := (R.obj j x q).at m
        refine .inl ⟨hj, q, e1 j hj, ?_⟩
        rintro e; rw [e, hp] at hu; cases hu
      · obtain ⟨rfl, rfl⟩ := last q hj
        exact .inr ⟨rfl, e0⟩
    rcases at_ q1 m1 with ⟨l1, g1, f1, n1⟩ | ⟨l1, f1⟩ <;> rcases at_ q2 m2 with ⟨l2, g2, f2, n2⟩ | ⟨l2, f2⟩
    · rw [f1, f2]; exact R.inj j k x y g1 g2 ne m1 m2
    · rw [f1, f2]; exact n1
    · rw [f1, f2]; exact n2.symm
    · exact absurd (l1.trans l2.symm) ne
/-- an object is changed -/
theorem RelH.wr (R : RelH T ρ h H) (hi : h[i]? = some o) (m : o.mut = true) (m' : o'.mut = true) (ho : Keep T.K H (upd H (ρ i) u) → RelO T (upd H (ρ i) u) h.length ρ (ρ i) o') :
    Keep T.K H (upd H (ρ i) u) ∧ RelH T ρ (h.set i o') (upd H (ρ i) u) := by
  obtain ⟨w, hw, _, nt, nf⟩ := (R.obj i o hi).at m
  have k : Keep T.K H (upd H (ρ i) u) := keep_upd ⟨(fun vs z => nt vs (by rw [hw] at z; exact Option.some.inj z)), (fun ob x z => nf ob x (by rw [hw] at z; exact Option.some.inj z))⟩
  have hil : i < h.length := (List.getElem?_eq_some_iff.mp hi).1
  refine ⟨k, fun j x q => ?_, fun j l x y q1 q2 ne m1 m2 => ?_⟩
  · rw [List.length_set]
    by_cases hj : j = i
    · subst hj
      rw [List.getElem?_set_self hil] at q
      cases q
      exact ho k
    · rw [List.getElem?_set_ne (Ne.symm hj)] at q
      have mv : ρ j ≠ ρ i → RelO T (upd H (ρ i) u) h.length ρ (ρ j) x := fun ne => (R.obj j x q).move k (Ext.refl _ _) (Nat.le_refl _) fun v q' => by rw [upd_ne ne]; exact q'
      cases hm : x.mut with
      | true => exact mv (R.inj j i x o q hi hj hm m)
      | false =>
        cases x with
        | ro xs =>
          obtain ⟨vs, s, r⟩ := R.obj j _ q
          rcases s with ⟨ob, s⟩ | s
          · exact mv fun e => by rw [e, hw] at s; exact nf _ _ (Option.some.inj s)
          · exact ⟨vs, .inr s, r.keep k⟩
        | _ => cases hm
  · have at_ : ∀ {j : Nat} {x : O}, (h.set i o')[j]? = some x → x.mut = true → ∃ x' : O, h[j]? = some x' ∧ x'.mut = true := fun {j x} q m1 => by
      by_cases hj : j = i
      · subst hj; exact ⟨o, hi, m⟩
      · rw [List.getElem?_set_ne (Ne.symm hj)] at q; exact ⟨x, q, m1⟩
    obtain ⟨x', g1, n1⟩ := at_ q1 m1
    obtain ⟨y', g2, n2⟩ := at_ q2 m2
    exact R.inj j l x' y' g1 g2 ne n1 n2
end

/-! ### trimming -/
mutual
theorem RelD.under {K : PySem.W.Frag} {H : Hp} {n : Nat} {ρ : Nat → Addr} : ∀ {x : D} {v : V}, RelD K H n ρ x v → x.under n = true
  | _, _, .p _ => rfl
  | _, _, .r h => by simpa [D.under] using h
  | _, _, .t _ hs => by simpa [D.under] using RelDs.unders hs
theorem RelDs.unders {K : PySem.W.Frag} {H : Hp} {n : Nat} {ρ : Nat → Addr} : ∀ {x : List D} {v : List V}, RelDs K H n ρ x v → D.unders n x = true
  | _, _, .nil => rfl
  | _, _, .cons h hs => by simp only [D.unders, RelD.under h, RelDs.unders hs, Bool.and_true]
end
theorem RelFs.under {T : Tb} {H : Hp} {n : Nat} {ρ : Nat → Addr} : ∀ {fs : List (Nat × D)} {fv : List (Str × V)}, RelFs T H n ρ fs fv → (fs.all fun f => f.2.under n) = true
  | _, _, .nil => rfl
  | _, _, .cons h1 h2 hs => by simp only [List.all_cons, h2.under, hs.under, Bool.and_true]
theorem RelEs.under {T : Tb} {H : Hp} {n : Nat} {ρ : Nat → Addr} : ∀ {fs : List (P × D)} {fv : List En}, RelEs T H n ρ fs fv → (fs.all fun f => f.2.under n) = true
  | _, _, .nil => rfl
  | _, _, .cons h1 h2 hs => by simp only [List.all_cons, h2.under, hs.under, Bool.and_true]
theorem RelO.under {T : Tb} {H : Hp} {n : Nat} {ρ : Nat → Addr} {a : Addr} {o : O} (r : RelO T H n ρ a o) : o.under n = true := by
  cases o with
  | lst xs => obtain ⟨vs, e1, r⟩ := r; exact r.unders
  | ro xs => rfl
  | dct kvs => obtain ⟨es, e0, e1, r⟩ := r; exact r.under
  | set xs => rfl
  | ins c fs => obtain ⟨C, dx, fv, e0, e1, r, _⟩ := r; exact r.under
theorem agree_len : ∀ {h h' : Hh} {n : Nat}, agree h h' n = true → h.length ≤ h'.length
  | [], _, _, _ => Nat.zero_le _
  | _ :: _, [], _, e => by simp [agree] at e
  | _ :: h, _ :: h', n, e => by
    simp only [agree, Bool.and_eq_true] at e
    exact Nat.succ_le_succ (agree_len e.2)
theorem agree_at : ∀ {h h' : Hh} {n i : Nat} {o' : O}, agree h h' n = true → i < h.length → h'[i]? = some o' → h[i]? = some o' ∨ o'.under n = true
  | [], _, _, _, _, _, l, _ => absurd l (Nat.not_lt_zero _)
  | _ :: _, [], _, _, _, e, _, _ => by simp [agree] at e
  | o :: h, o1 :: h', n, 0, o', e, _, g => by
    simp only [agree, Bool.and_eq_true, Bool.or_eq_true, decide_eq_true_eq] at e
    simp at g; subst g
    rcases e.1 with q | q
    · exact .inl (by simp [q])
    · exact .inr q
  | o :: h, o1 :: h', n, i + 1, o', e, l, g => by
    simp only [agree, Bool.and_eq_true] at e
    have := agree_at (i := i) e.2 (Nat.lt_of_succ_lt_succ l) (by simpa using g)
    simpa using this
theorem RelH.cut {T : Tb} {ρ ρ' : Nat → Addr} {h h' : Hh} {H H' : Hp} (R0 : RelH T ρ h H) (R : RelH T ρ' h' H') (ag : agree h h' h.length = true) : RelH T ρ' (h'.take h.length) H' := by
  have hl := agree_len ag
  have tl : (h'.take h.length).length = h.length := by rw [List.length_take]; omega
  refine ⟨fun i o e => ?_, fun i j o o' e e' ne m m' => ?_⟩
  · have hi : i < h.length := by
      have := (List.getElem?_eq_some_iff.mp e).1
      omega
    rw [List.getElem?_take_of_lt hi] at e
    rw [tl]
    refine (R.obj i o e).low ?_
    rcases agree_at ag hi e with q | q
    · exact (R0.obj i o q).under
    · exact q
  · have lt : ∀ {i : Nat} {o : O}, (h'.take h.length)[i]? = some o → h'[i]? = some o := fun {i o} e => by
      have := (List.getElem?_eq_some_iff.mp e).1
      rw [List.getElem?_take_of_lt (by omega)] at e
      exact e
    exact R.inj i j o o' (lt e) (lt e') ne m m'
theorem RelH.cutOne {T : Tb} {ρ ρ' : Nat → Addr} {h h' : Hh} {H H' : Hp} {i : Nat} {o : O} (R0 : RelH T ρ h H) (R : RelH T ρ' h' H') (ag : agree h h' h.length = true) (e : h'[i]? = some o) (hi : h.length ≤ i) (u : o.under h.length = true) :
    ∃ ρ'', ρ'' h.length = ρ' i ∧ Ext h.length ρ' ρ'' ∧ RelH T ρ'' (h'.take h.length ++ [o]) H' := by
  obtain ⟨ρ'', e0, e1⟩ : ∃ ρ'' : Nat → Addr, ρ'' h.length = ρ' i ∧ Ext h.length ρ' ρ'' := ⟨fun j => if j = h.length then ρ' i else ρ' j, if_pos rfl, fun j hj => if_neg (Nat.ne_of_lt hj)⟩
  have C := R0.cut R ag
  have hl := agree_len ag
  have tl : (h'.take h.length).length = h.length := by rw [List.length_take]; omega
  have last : ∀ {j : Nat} {x : O}, (h'.take h.length ++ [o])[j]? = some x → (j < h.length ∧ (h'.take h.length)[j]? = some x) ∨ (j = h.length ∧ x = o) := fun {j x} q => by
    by_cases hj : j < h.length
    · rw [List.getElem?_append_left (by omega)] at q; exact .inl ⟨hj, q⟩
    · rw [List.getElem?_append_right (by omega)] at q
      have : j - (h'.take h.length).length = 0 := by
        obtain ⟨l, _⟩ := List.getElem?_eq_some_iff.mp q
        simp at l; omega
      rw [this] at q
      cases q
      exact .inr ⟨by omega, rfl⟩
  have ln : (h'.take h.length ++ [o]).length = h.length + 1 := by rw [List.length_append, tl]; rfl
  have orig : ∀ {j : Nat} {x : O}, (h'.take h.length)[j]? = some x → h'[j]? = some x := fun {j x} e => by
    have := (List.getElem?_eq_some_iff.mp e).1
    rw [List.getElem?_take_of_lt (by omega)] at e
    exact e
  refine ⟨ρ'', e0, e1, fun j x q => ?_, fun j k x y q1 q2 ne m1 m2 => ?_⟩
  · rw [ln]
    rcases last q with ⟨hj, q⟩ | ⟨rfl, rfl⟩
    · rw [e1 j hj]
      have c := C.obj j x q
      rw [tl] at c
      exact c.move (Keep.refl _ _) e1 (Nat.le_succ _) fun _ z => z
    · rw [e0]
      exact ((R.obj i _ e).low u).move (Keep.refl _ _) e1 (Nat.le_succ _) fun _ z => z
  · rcases last q1 with ⟨h1, g1⟩ | ⟨rfl, rfl⟩ <;> rcases last q2 with ⟨h2, g2⟩ | ⟨rfl, rfl⟩
    · rw [e1 j h1, e1 k h2]; exact R.inj j k x y (orig g1) (orig g2) ne m1 m2
    · rw [e1 j h1, e0]; exact R.inj j i x _ (orig g1) e (by omega) m1 m2
    · rw [e0, e1 k h2]; exact R.inj i k _ y e (orig g2) (by omega) m1 m2
    · exact absurd rfl ne

/-! ### what is wanted of an evaluation -/
/-- results and how they are told -/
structure RL (K : PySem.W.Frag) (α β : Type) where
  r : Hp → Nat → (Nat → Addr) → α → β → Prop
  mono : ∀ {H H' : Hp} {n n' : Nat} {ρ ρ' : Nat → Addr} {a : α} {b : β}, Keep K H H' → Ext n ρ ρ' → n ≤ n' → r H n ρ a b → r H' n' ρ' a b
section
variable {K : PySem.W.Frag}
def RL.d : RL K D V := ⟨fun H n ρ => RelD K H n ρ, fun k e l r => r.mono k e l⟩
def RL.ds : RL K (List D) (List V) := ⟨fun H n ρ => RelDs K H n ρ, fun k e l r => r.mono k e l⟩
def RL.b : RL K Bool Bool := ⟨fun _ _ _ a b => a = b, fun _ _ _ r => r⟩
def RL.u : RL K Unit Unit := ⟨fun _ _ _ _ _ => True, fun _ _ _ r => r⟩
def RL.x {α β γ δ : Type} (l : RL K α β) (m : RL K γ δ) : RL K (α × γ) (β × δ) := ⟨fun H n ρ a b => l.r H n ρ a.1 b.1 ∧ m.r H n ρ a.2 b.2, fun k e q r => ⟨l.mono k e q r.1, m.mono k e q r.2⟩⟩
end
/-- the slots -/
structure RelS (K : PySem.W.Frag) (H : Hp) (n : Nat) (ρ : Nat → Addr) (sg : Sg) (σ : L2.St) : Prop where
  len : sg.length = σ.length
  at_ : ∀ (i : Nat) (d : D), sg[i]? = some (some d) → ∃ v, σ[i]? = some (some v) ∧ RelD K H n ρ d v
theorem RelS.mono {K : PySem.W.Frag} {H H' : Hp} {n n' : Nat} {ρ ρ' : Nat → Addr} {sg : Sg} {σ : L2.St} (s : RelS K H n ρ sg σ) (k : Keep K H H') (e : Ext n ρ ρ') (l : n ≤ n') : RelS K H' n' ρ' sg σ :=
  ⟨s.len, fun i d h => let ⟨v, a, b⟩ := s.at_ i d h; ⟨v, a, b.mono k e l⟩⟩
theorem RelS.set {K : PySem.W.Frag} {H : Hp} {n : Nat} {ρ : Nat → Addr} {sg : Sg} {σ : L2.St} {i : Nat} {d : D} {v : V} (s : RelS K H n ρ sg σ) (r : RelD K H n ρ d v) : RelS K H n ρ (sg.set i (some d)) (σ.set i (some v)) := by
  refine ⟨by rw [List.length_set, List.length_set, s.len], fun j x h => ?_⟩
  by_cases e : j = i
  · subst e
    have l : j < sg.length := by simpa using (List.getElem?_eq_some_iff.mp h).1
    rw [List.getElem?_set_self l] at h
    cases h
    exact ⟨v, List.getElem?_set_self (by rw [← s.len]; exact l), r⟩
  · rw [List.getElem?_set_ne (Ne.symm e)] at h ⊢
    exact s.at_ j x h

/-- the exception as the hand layer tells it -/
def RelX (T : Tb) (H : Hp) (n : Nat) (ρ : Nat → Addr) (x : Ex) (c : Value) (d : Option Addr) : Prop :=
  ∃ C, T.cls x.cls = some C ∧ c = .ref C ∧ ((d = none ∧ x.fs = []) ∨ ∃ dx fv, d = some dx ∧ H dx = some (.xd fv) ∧ RelFs T H n ρ x.fs fv)

section
variable (T : Tb)
def Out {α β : Type} (l : RL T.K α β) (W : WX) (n : Nat) (ρ : Nat → Addr) (H : Hp) (σ : L2.St) (Q : β → Hp → Prop) : R α → Prop
  | .stuck => False
  | .ok a h' => ∀ ρ' b H', n ≤ h'.length → Ext n ρ ρ' → Keep T.K H H' → RelH T ρ' h' H' → l.r H' h'.length ρ' a b → Q b H'
  | .exc x h' => ∀ ρ' c d H', n ≤ h'.length → Ext n ρ ρ' → Keep T.K H H' → RelH T ρ' h' H' → RelX T H' h'.length ρ' x c d → W c d σ H'
/-- the state with something held -/
structure At {α β : Type} (l : RL T.K α β) (x : β) (σ : L2.St) (H : Hp) (ρ : Nat → Addr) (sg : Sg) (h : Hh) (a : α) : Prop where
  s : RelS T.K H h.length ρ sg σ
  o : RelH T ρ h H
  a : l.r H h.length ρ a x
def tH {α β γ δ : Type} (W : WX) (l : RL T.K α β) (m : RL T.K γ δ) (k : Sg → α → Hh → R γ) (x : β) : L2.St → Hp → (δ → Hp → Prop) → Prop := fun σ H Q =>
  ∃ ρ sg h a, At T l x σ H ρ sg h a ∧ Out T m W h.length ρ H σ Q (k sg a h)
def tG {γ δ : Type} (W : WX) (m : RL T.K γ δ) (ev : Sg → Hh → R γ) : L2.St → Hp → (δ → Hp → Prop) → Prop := tH T W RL.u m (fun sg _ h => ev sg h) ()
abbrev tE (W : WX) (ev : Sg → Hh → R D) : TE := tG T W RL.d ev
abbrev tA (W : WX) (ev : Sg → Hh → R (List D)) : TA := tG T W RL.ds ev
abbrev tT (W : WX) (ev : Sg → Hh → R Bool) : TT := tG T W RL.b ev
end
section
variable {T : Tb} {W : WX} {α β γ δ ε ζ : Type} {l : RL T.K α β} {m : RL T.K γ δ} {m' : RL T.K ε ζ}
theorem Out.later {n n' : Nat} {ρ ρ' : Nat → Addr} {H H' : Hp} {σ : L2.St} {Q : β → Hp → Prop} {r : R α} (o : Out T l W n ρ H σ Q r) (hn : n ≤ n') (e : Ext n ρ ρ') (k : Keep T.K H H') : Out T l W n' ρ' H' σ Q r := by
  cases r with
  | stuck => exact o
  | ok a h' => exact fun ρ'' b H'' l1 e1 k1 R1 r1 => o ρ'' b H'' (Nat.le_trans hn l1) (e.trans e1 hn) (k.trans k1) R1 r1
  | exc x h' => exact fun ρ'' c d H'' l1 e1 k1 R1 r1 => o ρ'' c d H'' (Nat.le_trans hn l1) (e.trans e1 hn) (k.trans k1) R1 r1
/-- the next part is evaluated -/
theorem tH.step {ev : Sg → Hh → R γ} {k : Sg → α × γ → Hh → R ε} {x : β} {σ : L2.St} {H : Hp} {Q : ζ → Hp → Prop} (t : tH T W l m' (fun sg a h => (ev sg h).bind fun b h1 => k sg (a, b) h1) x σ H Q) :
    tG T W m ev σ H fun y H1 => tH T W (l.x m) m' k (x, y) σ H1 Q := by
  obtain ⟨ρ, sg, h, a, A, o⟩ := t
  refine ⟨ρ, sg, h, (), ⟨A.s, A.o, True.intro⟩, ?_⟩
  show Out T m W h.length ρ H σ _ (ev sg h)
  have o : Out T m' W h.length ρ H σ Q ((ev sg h).bind fun b h1 => k sg (a, b) h1) := o
  cases e : ev sg h with
  | stuck => rw [e] at o; exact o
  | ok b h1 =>
    rw [e] at o
    intro ρ1 y H1 l1 e1 k1 R1 r1
    exact ⟨ρ1, sg, h1, (a, b), ⟨A.s.mono k1 e1 l1, R1, l.mono k1 e1 l1 A.a, r1⟩, Out.later o l1 e1 k1⟩
  | exc x h1 => rw [e] at o; exact o
/-- the first part -/
theorem tG.step {ev : Sg → Hh → R γ} {k : Sg → γ → Hh → R ε} {σ : L2.St} {H : Hp} {Q : ζ → Hp → Prop} (t : tG T W m' (fun sg h => (ev sg h).bind fun b h1 => k sg b h1) σ H Q) :
    tG T W m ev σ H fun y H1 => tH T W m m' k y σ H1 Q := by
  obtain ⟨ρ, sg, h, a, A, o⟩ := t
  refine ⟨ρ, sg, h, (), A, ?_⟩
  show Out T m W h.length ρ H σ _ (ev sg h)
  have o : Out T m' W h.length ρ H σ Q ((ev sg h).bind fun b h1 => k sg b h1) := o
  cases e : ev sg h with
  | stuck => rw [e] at o; exact o
  | ok b h1 =>
    rw [e] at o
    intro ρ1 y H1 l1 e1 k1 R1 r1
    exact ⟨ρ1, sg, h1, b, ⟨A.s.mono k1 e1 l1, R1, r1⟩, Out.later o l1 e1 k1⟩
  | exc x h1 => rw [e] at o; exact o
/-- the end: a value, the numbers as they are -/
theorem Out.ret {ρ : Nat → Addr} {H : Hp} {σ : L2.St} {Q : β → Hp → Prop} {a : α} {h : Hh} {b : β} (o : Out T l W h.length ρ H σ Q (.ok a h)) (R : RelH T ρ h H) (r : l.r H h.length ρ a b) : Q b H :=
  o ρ b H (Nat.le_refl _) (Ext.refl _ _) (Keep.refl _ _) R r
theorem Out.trim {ρ : Nat → Addr} {h : Hh} {H : Hp} {σ : L2.St} {Q : V → Hp → Prop} {r : R D} (R0 : RelH T ρ h H) (o : Out T RL.d W h.length ρ H σ Q (trimR h r)) : Out T RL.d W h.length ρ H σ Q r := by
  cases r with
  | stuck => exact o
  | exc x h' => exact o
  | ok d h' =>
    intro ρ' v H' l1 e1 k1 R1 r1
    have same : Out T RL.d W h.length ρ H σ Q (.ok d h') → Q v H' := fun o => o ρ' v H' l1 e1 k1 R1 r1
    unfold trimR at o
    dsimp only at o
    by_cases ag : agree h h' h.length = true
    · rw [if_pos ag] at o
      have tl : (h'.take h.length).length = h.length := by rw [List.length_take]; have := agree_len ag; omega
      by_cases du : d.under h.length = true
      · rw [if_pos du] at o
        refine o ρ' v H' (by omega) e1 k1 (R0.cut R1 ag) ?_
        rw [tl]
        exact RelD.low r1 du
      · rw [if_neg du] at o
        cases d with
        | p x => exact same o
        | t xs => exact same o
        | r i =>
          dsimp only at o
          cases g : h'[i]? with
          | none => rw [g] at o; exact same o
          | some ob =>
            rw [g] at o
            dsimp only at o
            by_cases c : (decide (h.length ≤ i) && ob.under h.length) = true
            · rw [if_pos c] at o
              rw [Bool.and_eq_true, decide_eq_true_eq] at c
              obtain ⟨ρ'', f0, f1, R2⟩ := R0.cutOne R1 ag g c.1 c.2
              have ln : (h'.take h.length ++ [ob]).length = h.length + 1 := by rw [List.length_append, tl]; rfl
              refine o ρ'' v H' (by omega) (e1.trans f1 (Nat.le_refl _)) k1 R2 ?_
              rw [ln]
              cases r1
              rw [← f0]
              exact .r (Nat.lt_succ_self _)
            · rw [if_neg c] at o; exact same o
    · rw [if_neg ag] at o; exact same o
theorem tE.trim {ev : Sg → Hh → R D} {σ : L2.St} {H : Hp} {Q : VK} (t : tE T W (fun sg h => trimR h (ev sg h)) σ H Q) : tE T W ev σ H Q := by
  obtain ⟨ρ, sg, h, a, A, o⟩ := t
  exact ⟨ρ, sg, h, a, A, Out.trim A.o o⟩
end
end Pv

/-! C: the evaluator. -/
namespace Pv
open PySem L2

/-! ### plain data: ==, order, what is shown -/
mutual
def P.py : P → PyData
  | .non => .none
  | .bl b => .bool b
  | .int i => .int i
  | .str s => .str s
  | .tup xs => .tuple (P.pys xs)
def P.pys : List P → List PyData
  | [] => []
  | x :: xs => x.py :: P.pys xs
end
theorem P.pys_eq (xs : List P) : P.pys xs = xs.map P.py := by
  induction xs with
  | nil => rfl
  | cons x xs ih => rw [P.pys, ih]; rfl
mutual
def P.eqv : P → P → Bool
  | .non, .non => true
  | .bl a, .bl b => a == b
  | .bl a, .int j => decide ((if a then 1 else 0) = j)
  | .int i, .bl b => decide (i = (if b then 1 else 0))
  | .int i, .int j => decide (i = j)
  | .str x, .str y => decide (x = y)
  | .tup xs, .tup ys => P.eqvs xs ys
  | .non, .bl _ | .non, .int _ | .non, .str _ | .non, .tup _ => false
  | .bl _, .non | .bl _, .str _ | .bl _, .tup _ => false
  | .int _, .non | .int _, .str _ | .int _, .tup _ => false
  | .str _, .non | .str _, .bl _ | .str _, .int _ | .str _, .tup _ => false
  | .tup _, .non | .tup _, .bl _ | .tup _, .int _ | .tup _, .str _ => false
def P.eqvs : List P → List P → Bool
  | [], [] => true
  | x :: xs, y :: ys => P.eqv x y && P.eqvs xs ys
  | [], _ :: _ => false
  | _ :: _, [] => false
end
mutual
theorem P.eqv_py : ∀ x y : P, PyData.eqv x.py y.py = x.eqv y
  | .non, .non => rfl
  | .bl a, .bl b => rfl
  | .bl a, .int j => by rw [Bool.eq_iff_iff]; simp [P.py, PyData.eqv, P.eqv]
  | .int i, .bl b => by rw [Bool.eq_iff_iff]; simp [P.py, PyData.eqv, P.eqv]
  | .int i, .int j => by rw [Bool.eq_iff_iff]; simp [P.py, PyData.eqv, P.eqv]
  | .str x, .str y => by rw [Bool.eq_iff_iff]; simp [P.py, PyData.eqv, P.eqv]
  | .tup xs, .tup ys => by rw [P.py, P.py, PyData.eqv, P.eqv]; exact P.eqvs_py xs ys
  | .non, .bl _ | .non, .int _ | .non, .str _ | .non, .tup _ => by simp [P.py, PyData.eqv, P.eqv]
  | .bl _, .non | .bl _, .str _ | .bl _, .tup _ => by simp [P.py, PyData.eqv, P.eqv]
  | .int _, .non | .int _, .str _ | .int _, .tup _ => by simp [P.py, PyData.eqv, P.eqv]
  | .str _, .non | .str _, .bl _ | .str _, .int _ | .str _, .tup _ => by simp [P.py, PyData.eqv, P.eqv]
  | .tup _, .non | .tup _, .bl _ | .tup _, .int _ | .tup _, .str _ => by simp [P.py, PyData.eqv, P.eqv]
theorem P.eqvs_py : ∀ xs ys : List P, PyData.eqvAll (P.pys xs) (P.pys ys) = P.eqvs xs ys
  | [], [] => rfl
  | x :: xs, y :: ys => by rw [P.pys, P.pys, PyData.eqvAll, P.eqvs, P.eqv_py x y, P.eqvs_py xs ys]
  | [], _ :: _ => by simp [P.pys, PyData.eqvAll, P.eqvs]
  | _ :: _, [] => by simp [P.pys, PyData.eqvAll, P.eqvs]
end
mutual
def P.depth : P → Nat
  | .tup xs => P.depths xs + 1
  | .non | .bl _ | .int _ | .str _ => 0
def P.depths : List P → Nat
  | [] => 0
  | x :: xs => max x.depth (P.depths xs)
end
mutual
def P.fit : P → Bool
  | .str s => PyData.strOk s
  | .tup xs => P.fits xs
  | .non | .bl _ | .int _ => true
def P.fits : List P → Bool
  | [] => true
  | x :: xs => x.fit && P.fits xs
end
/-- x < y of alike data -/
def P.lt (x y : P) : Bool := PySem.W.dataLt x.py y.py
def P.le (x y : P) : Bool := !P.lt y x
def P.alike (x y : P) : Bool := PySem.W.alike x.py y.py
/-- may be sorted: all alike, all tuples that are not empty, or none a tuple or None -/
def sortable (xs : List P) : Bool :=
  (xs.all fun x => xs.all fun y => P.alike x y) && ((xs.all fun x => match x with
    | .tup (_ :: _) => true
    | _ => false) || xs.all fun x => match x with
    | .tup _ | .non => false
    | _ => true) && xs.all fun x => decide (x.depth ≤ 64)

/-! ### what is read off the heap -/
/-- a value as data, lists within -/
def see : Nat → Hh → D → Option PyData
  | _, _, .p x => some x.py
  | 0, _, _ => none
  | n + 1, h, .r i => match h[i]? with
    | some (.lst xs) => (xs.mapM (see n h)).map .list
    | some (.ro xs) => some (.list (P.pys xs))
    | _ => none
  | n + 1, h, .t xs => (xs.mapM (see n h)).map .tuple
/-- a list's items -/
def lstOf (h : Hh) : D → Option (List D)
  | .r i => match h[i]? with
    | some (.lst xs) => some xs
    | some (.ro xs) => some (xs.map .p)
    | _ => none
  | _ => none
/-- a list that may change -/
def mutOf (h : Hh) : D → Option (List D)
  | .r i => match h[i]? with
    | some (.lst xs) => some xs
    | _ => none
  | _ => none
/-- a list's or a tuple's items -/
def seqOf (h : Hh) : D → Option (List D)
  | .p (.tup xs) => some (xs.map .p)
  | .t xs => some xs
  | .r i => lstOf h (.r i)
  | _ => none
def lenOf (h : Hh) : D → Option Nat
  | .p (.str s) => if s.length ≤ sizeLine then some s.length else none
  | .p (.tup xs) => some xs.length
  | .t xs => some xs.length
  | .r i => match h[i]? with
    | some (.lst xs) => some xs.length
    | some (.ro xs) => some xs.length
    | _ => none
  | _ => none
def truth (h : Hh) : D → Option Bool
  | .p .non => some false
  | .p (.bl b) => some b
  | .p (.int i) => some (i != 0)
  | .p (.str s) => if s.length ≤ sizeLine then some (s.length != 0) else none
  | .p (.tup xs) => some !xs.isEmpty
  | .t xs => some !xs.isEmpty
  | .r i => match h[i]? with
    | some (.lst xs) => some !xs.isEmpty
    | some (.ro xs) => some !xs.isEmpty
    | _ => none
def R.of {α : Type} (o : Option α) (h : Hh) : R α := match o with
  | some a => .ok a h
  | none => .stuck
@[simp] theorem R.of_some {α : Type} (a : α) (h : Hh) : R.of (some a) h = .ok a h := rfl
@[simp] theorem R.of_none {α : Type} (h : Hh) : R.of (none : Option α) h = .stuck := rfl
/-- a new object -/
def mk (o : O) (h : Hh) : R D := .ok (.r h.length) (h ++ [o])

/-! ### operators -/
inductive Bin where | add | sub | mul | fdiv | mod | pow
  deriving DecidableEq
inductive Cmp where | eq | ne | lt | le | gt | ge | is | isnot | isin | notin
  deriving DecidableEq

def addS (a b : D) (h : Hh) : R D := match a with
  | .p (.int i) => match b with
    | .p (.int j) => .ok (.p (.int (i + j))) h
    | _ => .stuck
  | .p (.str x) => match b with
    | .p (.str y) => if x.length + y.length ≤ sizeLine then .ok (.p (.str (x ++ y))) h else .stuck
    | _ => .stuck
  | .p (.tup xs) => match b with
    | .p (.tup ys) => if xs.length + ys.length ≤ sizeLine then .ok (.p (.tup (xs ++ ys))) h else .stuck
    | .t ys => if xs.length + ys.length ≤ sizeLine then .ok (mkT (xs.map .p ++ ys)) h else .stuck
    | _ => .stuck
  | .t xs => match b with
    | .p (.tup ys) => if xs.length + ys.length ≤ sizeLine then .ok (mkT (xs ++ ys.map .p)) h else .stuck
    | .t ys => if xs.length + ys.length ≤ sizeLine then .ok (mkT (xs ++ ys)) h else .stuck
    | _ => .stuck
  | .r _ => match mutOf h a, mutOf h b with
    | some xs, some ys => if xs.length + ys.length ≤ sizeLine then mk (.lst (xs ++ ys)) h else .stuck
    | _, _ => .stuck
  | _ => .stuck
def mulOk (i j : Int) : Bool := decide ((-(2 ^ 64) < i ∧ i < 2 ^ 64) ∨ (-(2 ^ 64) < j ∧ j < 2 ^ 64))
def mulS (a b : D) (h : Hh) : R D := match b with
  | .p (.int j) => match a with
    | .p (.int i) => if mulOk i j = true then .ok (.p (.int (i * j))) h else .stuck
    | .p (.tup xs) => if -(2 ^ 63) ≤ j ∧ j < 2 ^ 63 ∧ xs.length * j.toNat ≤ sizeLine then .ok (.p (.tup (List.replicate j.toNat xs).flatten)) h else .stuck
    | .r i => match mutOf h (.r i) with
      | some xs => if -(2 ^ 63) ≤ j ∧ j < 2 ^ 63 ∧ xs.length * j.toNat ≤ sizeLine then mk (.lst (List.replicate j.toNat xs).flatten) h else .stuck
      | none => .stuck
    | _ => .stuck
  | _ => .stuck
def binS : Bin → D → D → Hh → R D
  | .add, a, b, h => addS a b h
  | .sub, a, b, h => match a, b with
    | .p (.int i), .p (.int j) => .ok (.p (.int (i - j))) h
    | _, _ => .stuck
  | .mul, a, b, h => mulS a b h
  | .fdiv, a, b, h => match a, b with
    | .p (.int i), .p (.int j) => if j ≠ 0 ∧ j.natAbs < 1073741824 then .ok (.p (.int (i.fdiv j))) h else .stuck
    | _, _ => .stuck
  | .mod, a, b, h => match a, b with
    | .p (.int i), .p (.int j) => if j ≠ 0 then .ok (.p (.int (i.fmod j))) h else .stuck
    | _, _ => .stuck
  | .pow, a, b, h => match a, b with
    | .p (.int i), .p (.int j) => if 0 ≤ j ∧ j ≤ 1000000 ∧ i.natAbs < 2 ^ 64 then .ok (.p (.int (i ^ j.toNat))) h else .stuck
    | _, _ => .stuck

/-- a op= b -/
def augS : Bin → D → D → Hh → R D
  | .add, .p (.int i), .p (.int j), h => .ok (.p (.int (i + j))) h
  | .add, .p (.str x), .p (.str y), h => if x.length + y.length ≤ sizeLine then .ok (.p (.str (x ++ y))) h else .stuck
  | .sub, .p (.int i), .p (.int j), h => .ok (.p (.int (i - j))) h
  | .mul, .p (.int i), .p (.int j), h => if mulOk i j = true then .ok (.p (.int (i * j))) h else .stuck
  | .fdiv, .p (.int i), .p (.int j), h => if 0 < j ∧ j < 1073741824 then .ok (.p (.int (i / j))) h else .stuck
  | .mod, .p (.int i), .p (.int j), h => if 0 < j then .ok (.p (.int (i % j))) h else .stuck
  | _, _, _, _ => .stuck
def eqO (h : Hh) (a b : D) : Option Bool := match a, b with
  | .p (.str x), .p (.str y) => some (decide (x = y))
  | .p x, .p y => if x.depth ≤ 64 ∧ y.depth ≤ 64 ∧ x.fit = true ∧ y.fit = true then some (x.eqv y) else none
  | a, b => match see 64 h a, see 64 h b with
    | some d, some e => if SeqAt.shaped d = true ∧ SeqAt.shaped e = true then some (PyData.eqv d e) else none
    | _, _ => none
def isNone : D → Bool
  | .p .non => true
  | _ => false
def ordS (f : Int → Int → Bool) (a b : D) (h : Hh) : R Bool := match a, b with
  | .p (.int i), .p (.int j) => .ok (f i j) h
  | _, _ => .stuck
def cmpS : Cmp → D → D → Hh → R Bool
  | .eq, a, b, h => R.of (eqO h a b) h
  | .ne, a, b, h => R.of ((eqO h a b).map (!·)) h
  | .lt, a, b, h => ordS (fun i j => decide (i < j)) a b h
  | .le, a, b, h => ordS (fun i j => decide (i ≤ j)) a b h
  | .gt, a, b, h => ordS (fun i j => decide (j < i)) a b h
  | .ge, a, b, h => ordS (fun i j => decide (j ≤ i)) a b h
  | .is, a, b, h => match b with
    | .p .non => .ok (isNone a) h
    | _ => .stuck
  | .isnot, a, b, h => match b with
    | .p .non => .ok (!isNone a) h
    | _ => .stuck
  | .isin, _, _, _ => .stuck
  | .notin, _, _, _ => .stuck

/-! ### subscripts -/
def subS (o i : D) (h : Hh) : R D := match i with
  | .p (.int k) => match o with
    | .p (.tup xs) => R.of ((atI xs k).map .p) h
    | .t xs => R.of (atI xs k) h
    | .r j => match lstOf h (.r j) with
      | some xs => R.of (atI xs k) h
      | none => .stuck
    | .p (.str z) => if z.length ≤ sizeLine then R.of ((atI z.cps.toList k).map fun c => .p (.str ⟨#[c]⟩)) h else .stuck
    | _ => .stuck
  | _ => .stuck
def putS (o i d : D) (h : Hh) : R Unit := match o with
  | .r j => match h[j]? with
    | some (.lst xs) => match i with
      | .p (.int k) => match ixN xs.length k with
        | some m => .ok () (h.set j (.lst (xs.set m d)))
        | none => .stuck
      | _ => .stuck
    | _ => .stuck
  | _ => .stuck
/-- xs[lo:hi] -/
def cutX {α : Type} (xs : List α) (lo hi : Option Int) : List α := (xs.drop (HT.sIx xs.length 0 lo)).take (HT.sIx xs.length xs.length hi - HT.sIx xs.length 0 lo)
def slcS (o : D) (lo hi : Option Int) (h : Hh) : R D := match o with
  | .p (.tup xs) => .ok (.p (.tup (cutX xs lo hi))) h
  | .t xs => .ok (mkT (cutX xs lo hi)) h
  | .r i => match lstOf h (.r i) with
    | some xs => mk (.lst (cutX xs lo hi)) h
    | none => .stuck
  | _ => .stuck

/-! ### attributes -/
def getF (f : Nat) : List (Nat × D) → Option D
  | [] => none
  | (g, x) :: r => if g = f then some x else getF f r
def putFd (f : Nat) (v : D) : List (Nat × D) → List (Nat × D)
  | [] => [(f, v)]
  | (g, x) :: r => if g = f then (g, v) :: r else (g, x) :: putFd f v r
def attrS (o : D) (f : Nat) (h : Hh) : R D := match o with
  | .r i => match h[i]? with
    | some (.ins _ fs) => R.of (getF f fs) h
    | _ => .stuck
  | _ => .stuck
def putAttrS (fok : Nat → Nat → Bool) (o : D) (f : Nat) (d : D) (h : Hh) : R Unit := match o with
  | .r i => match h[i]? with
    | some (.ins c fs) => if fs.length < 1000 ∧ fok c f = true then .ok () (h.set i (.ins c (putFd f d fs))) else .stuck
    | _ => .stuck
  | _ => .stuck

/-- an object's class -/
def clsOf (h : Hh) : D → Option Nat
  | .r i => match h[i]? with
    | some (.ins c _) => some c
    | _ => none
  | _ => none
/-- its class and an attribute -/
def fldS (f : Nat) (h : Hh) : D → Option (Nat × D)
  | .r i => match h[i]? with
    | some (.ins c fs) => (getF f fs).map (c, ·)
    | _ => none
  | _ => none
/-- a list's item -/
def itmS (o i : D) (h : Hh) : Option D := match lstOf h o, i with
  | some xs, .p (.int k) => atI xs k
  | _, _ => none

/-! ### built-ins -/
inductive Blt where | len | abs | int | max | min | tuple | list | sum | all | any | sorted | set | dict | repr | str
  deriving DecidableEq
inductive BM where | none | append | extend | insert | pop | get | items
  deriving DecidableEq
/-- an upper bound of how many signs are shown -/
def PyData.wide (d : PyData) : Bool := d.showable && decide (d.shown.length ≤ sizeLine) && decide (d.depth ≤ 64)
def bltS : Blt → List D → Hh → R D
  | .len, [x], h => R.of ((lenOf h x).map fun n => .p (.int n)) h
  | .abs, [.p (.int i)], h => .ok (.p (.int (if i < 0 then -i else i))) h
  | .int, [.p (.int i)], h => .ok (.p (.int i)) h
  | .int, [.p (.bl b)], h => .ok (.p (.int (if b then 1 else 0))) h
  | .max, [.p (.int i), .p (.int j)], h => .ok (.p (.int (if j > i then j else i))) h
  | .min, [.p (.int i), .p (.int j)], h => .ok (.p (.int (if j < i then j else i))) h
  | .tuple, [x], h => match x with
    | .p (.tup xs) => .ok (.p (.tup xs)) h
    | .t xs => .ok (.t xs) h
    | .r i => match lstOf h (.r i) with
      | some xs => .ok (mkT xs) h
      | none => .stuck
    | _ => .stuck
  | .list, [x], h => match seqOf h x with
    | some xs => mk (.lst xs) h
    | none => .stuck
  | .sorted, [x], h => match lstOf h x with
    | some xs => match pures xs with
      | some ps => if sortable ps = true then mk (.lst ((ps.mergeSort P.le).map .p)) h else .stuck
      | none => .stuck
    | none => .stuck
  | .repr, [x], h => match see 64 h x with
    | some d => if PyData.wide d = true then .ok (.p (.str d.shown)) h else .stuck
    | none => .stuck
  | _, _, _ => .stuck
def bmS : BM → D → List D → Hh → R D
  | .append, .r i, [x], h => match h[i]? with
    | some (.lst xs) => if xs.length < sizeLine then .ok (.p .non) (h.set i (.lst (xs ++ [x]))) else .stuck
    | _ => .stuck
  | _, _, _, _ => .stuck

/-! ### the text -/
mutual
inductive IE where
  | c (x : P) | v (i : Nat)
  | tup (es : IEs) | lst (es : IEs)
  | bin (op : Bin) (a b : IE) | neg (a : IE) | not (a : IE)
  | cmp (op : Cmp) (a b : IE) | cmp2 (op op' : Cmp) (a b c : IE)
  | and (a b : IE) | or (a b : IE) | ite (t a b : IE)
  | call (f : Nat) (es : IEs) | make (c : Nat) (es : IEs) | meth (o : IE) (m : Nat) (b : BM) (es : IEs) | blt (b : Blt) (es : IEs)
  | attr (o : IE) (f : Nat) | sub (o i : IE) | slc (o : IE) (lo hi : IEo)
  | comp (own : List Nat) (elt : IE) (t : ITg) (it : IIt) (ifs : IEs)
  | trim (e : IE)
inductive IEs where
  | nil | cons (e : IE) (es : IEs)
inductive IEo where
  | none | some (e : IE)
inductive ITg where
  | v (i : Nat) | tup (n : Nat) (ts : ITgs) | attr (o : IE) (f : Nat) | sub (o i : IE)
inductive ITgs where
  | nil | cons (t : ITg) (ts : ITgs)
inductive IIt where
  | of (e : IE) | rng1 (a : IE) | rng2 (a b : IE) | enum (e : IE) | zip (a b : IE)
end
mutual
inductive IS where
  | expr (e : IE) | asg (t : ITg) (e : IE) | par (ts : ITgs) (es : IEs) | aug (i : Nat) (op : Bin) (e : IE) | augAttr (o : IE) (f : Nat) (op : Bin) (e : IE) | augSub (o i : IE) (op : Bin) (e : IE)
  | ite (t : IE) (a b : ISs) | wh (t : IE) (b : ISs) | for (t : ITg) (it : IIt) (b : ISs)
  | ret (e : IE) | retN | brk | cont | pass
  | never
inductive ISs where
  | nil | cons (s : IS) (ss : ISs)
end

/-! ### loops -/
abbrev Gd := List (Nat × O)
def Gd.ok (g : Gd) (h : Hh) : Bool := g.all fun p => decide (h[p.1]? = some p.2)
@[simp] theorem Gd.ok_nil (h : Hh) : Gd.ok [] h = true := rfl
@[simp] theorem Gd.ok_cons (i : Nat) (o : O) (g : Gd) (h : Hh) : Gd.ok ((i, o) :: g) h = (decide (h[i]? = some o) && Gd.ok g h) := rfl
def under (n : Nat) (s : Sg) : Bool := s.all fun x => match x with
  | some d => d.under n
  | none => true
/-- behind a turn: what is new and not held goes -/
def trimS (h : Hh) (s : Sg) (h' : Hh) : Hh := if agree h h' h.length && under h.length s then h'.take h.length else h'
def loopS (g : Gd) (body : D → Sg → Hh → RS) : List D → Sg → Hh → RS
  | [], s, h => if g.ok h then .next s h else .stuck
  | d :: ds, s, h => if g.ok h then match body d s h with
      | .next s1 h1 => loopS g body ds s1 (trimS h s1 h1)
      | .cont s1 h1 => loopS g body ds s1 (trimS h s1 h1)
      | .brk s1 h1 => .next s1 h1
      | o => o
    else .stuck
def loopC (g : Gd) (n : Nat) (body : D → Hh → R (Option D)) : List D → List D → Hh → R Unit
  | [], acc, h => if g.ok h && decide (h[n]? = some (.lst acc)) then .ok () h else .stuck
  | d :: ds, acc, h => if g.ok h then match body d h with
      | .ok o h1 => if h1[n]? = some (.lst acc) ∧ acc.length < sizeLine then match o with
        | none => loopC g n body ds acc h1
        | some x => loopC g n body ds (acc ++ [x]) (h1.set n (.lst (acc ++ [x])))
        else .stuck
      | _ => .stuck
    else .stuck
def loopW (test : Sg → Hh → R Bool) (body : Sg → Hh → RS) : Nat → Sg → Hh → RS
  | 0, _, _ => .stuck
  | F + 1, s, h => (test s h).then s fun b h0 => if b then match body s h0 with
      | .next s1 h1 => loopW test body F s1 (trimS h s1 h1)
      | .cont s1 h1 => loopW test body F s1 (trimS h s1 h1)
      | .brk s1 h1 => .next s1 h1
      | o => o
    else .next s h0

/-- what is called: defs at this level, __init__ one below; the classes: their __init__ and methods; a while's turns -/
structure G where
  call : Nat → List D → Hh → R D
  init : Nat → List D → Hh → R D
  cinit : Nat → Option Nat
  meth : Nat → Nat → Option Nat
  fok : Nat → Nat → Bool
  F : Nat
def slot (i : Nat) (s : Sg) : Option D := match s[i]? with
  | some (some d) => some d
  | _ => none
def wipeD (s : Sg) : List Nat → Sg
  | [] => s
  | v :: vs => (wipeD s vs).set v none
def mkIns (g : G) (c : Nat) (ds : List D) (h : Hh) : R D := match g.cinit c with
  | some f => match g.init f (.r h.length :: ds) (h ++ [.ins c []]) with
    | .ok (.p .non) h1 => .ok (.r h.length) h1
    | .exc x h1 => .exc x h1
    | _ => .stuck
  | none => .stuck
/-- what a method is: a def of the class, or a built-in one of a list -/
inductive MK where | fn (f : Nat) | bm | no
def methK (g : G) (m : Nat) (b : BM) (o : D) (h : Hh) : MK := match o with
  | .r i => match h[i]? with
    | some (.ins c _) => match g.meth c m with
      | some f => .fn f
      | none => .no
    | some (.lst _) => match b with
      | .append => .bm
      | _ => .no
    | _ => .no
  | _ => .no
def zips : List D → List D → List D
  | a :: as, b :: bs => mkT [a, b] :: zips as bs
  | _, _ => []
def nums (a : Int) : Nat → List D
  | 0 => []
  | n + 1 => .p (.int a) :: nums (a + 1) n
/-- what stands still while it is walked -/
def gdOf (h : Hh) : D → Gd
  | .r i => match h[i]? with
    | some o => [(i, o)]
    | none => []
  | _ => []

/-- a value as a test -/
def tr (m : R D) : R Bool := m.bind fun x h1 => R.of (truth h1 x) h1
@[simp] theorem tr_stuck : tr .stuck = .stuck := rfl
@[simp] theorem tr_exc (x : Ex) (h : Hh) : tr (.exc x h) = .exc x h := rfl
@[simp] theorem tr_bl (b : Bool) (h : Hh) : tr (.ok (.p (.bl b)) h) = .ok b h := rfl
theorem tr_ok (x : D) (h : Hh) : tr (.ok x h) = R.of (truth h x) h := rfl
mutual
def evE (g : G) : IE → Sg → Hh → R D
  | .c x, _, h => .ok (.p x) h
  | .v i, s, h => R.of (slot i s) h
  | .tup es, s, h => (evEs g es s h).bind fun ds h1 => if ds.length ≤ sizeLine then .ok (mkT ds) h1 else .stuck
  | .lst es, s, h => (evEs g es s h).bind fun ds h1 => if ds.length ≤ sizeLine then mk (.lst ds) h1 else .stuck
  | .bin op a b, s, h => (evE g a s h).bind fun x h1 => (evE g b s h1).bind fun y h2 => binS op x y h2
  | .neg a, s, h => (evE g a s h).bind fun x h1 => match x with
    | .p (.int i) => .ok (.p (.int (-i))) h1
    | _ => .stuck
  | .not a, s, h => (tr (evE g a s h)).bind fun b h1 => .ok (.p (.bl (!b))) h1
  | .cmp op a b, s, h => (evE g a s h).bind fun x h1 => (evE g b s h1).bind fun y h2 => (cmpS op x y h2).bind fun c h3 => .ok (.p (.bl c)) h3
  | .cmp2 op op' a b c, s, h => (evE g a s h).bind fun x h1 => (evE g b s h1).bind fun y h2 => (cmpS op x y h2).bind fun k h3 =>
      if k then (evE g c s h3).bind fun z h4 => (cmpS op' y z h4).bind fun k h5 => .ok (.p (.bl k)) h5 else .ok (.p (.bl false)) h3
  | .and a b, s, h => (evE g a s h).bind fun x h1 => (R.of (truth h1 x) h1).bind fun k h2 => if k then evE g b s h2 else .ok x h2
  | .or a b, s, h => (evE g a s h).bind fun x h1 => (R.of (truth h1 x) h1).bind fun k h2 => if k then .ok x h2 else evE g b s h2
  | .ite t a b, s, h => (tr (evE g t s h)).bind fun k h1 => if k then evE g a s h1 else evE g b s h1
  | .call f es, s, h => (evEs g es s h).bind fun ds h1 => g.call f ds h1
  | .make c es, s, h => (evEs g es s h).bind fun ds h1 => mkIns g c ds h1
  | .meth o m b es, s, h => (evE g o s h).bind fun x h1 => match methK g m b x h1 with
    | .fn f => (evEs g es s h1).bind fun ds h2 => g.call f (x :: ds) h2
    | .bm => (evEs g es s h1).bind fun ds h2 => bmS b x ds h2
    | .no => .stuck
  | .blt b es, s, h => (evEs g es s h).bind fun ds h1 => bltS b ds h1
  | .attr o f, s, h => (evE g o s h).bind fun x h1 => attrS x f h1
  | .sub o i, s, h => (evE g o s h).bind fun x h1 => (evE g i s h1).bind fun y h2 => subS x y h2
  | .slc o lo hi, s, h => (evE g o s h).bind fun x h1 => (evO g lo s h1).bind fun l h2 => (evO g hi s h2).bind fun u h3 => slcS x l u h3
  | .comp own elt t it ifs, s, h => (evI g it s h).bind fun p h1 =>
      (loopC p.2 h1.length (fun d h2 => (asgT g t d (wipeD s own) h2).bind fun s1 h3 => (evTs g ifs s1 h3).bind fun k h4 =>
        if k then (evE g elt s1 h4).bind fun x h5 => .ok (some x) h5 else .ok none h4) p.1 [] (h1 ++ [.lst []])).bind fun _ h2 => .ok (.r h1.length) h2
  | .trim e, s, h => trimR h (evE g e s h)
def evEs (g : G) : IEs → Sg → Hh → R (List D)
  | .nil, _, h => .ok [] h
  | .cons e es, s, h => (evE g e s h).bind fun x h1 => (evEs g es s h1).bind fun xs h2 => .ok (x :: xs) h2
/-- tests, one after another -/
def evTs (g : G) : IEs → Sg → Hh → R Bool
  | .nil, _, h => .ok true h
  | .cons e es, s, h => (tr (evE g e s h)).bind fun k h1 => if k then evTs g es s h1 else .ok false h1
def evO (g : G) : IEo → Sg → Hh → R (Option Int)
  | .none, _, h => .ok none h
  | .some e, s, h => (evE g e s h).bind fun x h1 => match x with
    | .p (.int i) => .ok (some i) h1
    | _ => .stuck
/-- what is walked: the items, and what must stand still -/
def evI (g : G) : IIt → Sg → Hh → R (List D × Gd)
  | .of e, s, h => (evE g e s h).bind fun x h1 => match seqOf h1 x with
    | some ds => .ok (ds, gdOf h1 x) h1
    | none => .stuck
  | .rng1 a, s, h => (evE g a s h).bind fun x h1 => match x with
    | .p (.int j) => if -(2 ^ 62) ≤ j ∧ j ≤ 16777216 then .ok (nums 0 j.toNat, []) h1 else .stuck
    | _ => .stuck
  | .rng2 a b, s, h => (evE g a s h).bind fun x h1 => (evE g b s h1).bind fun y h2 => match x, y with
    | .p (.int i), .p (.int j) => if -(2 ^ 62) ≤ i ∧ i < 2 ^ 62 ∧ -(2 ^ 62) ≤ j ∧ j < 2 ^ 62 ∧ j - i ≤ 16777216 then .ok (nums i (j - i).toNat, []) h2 else .stuck
    | _, _ => .stuck
  | .enum e, s, h => (evE g e s h).bind fun x h1 => match seqOf h1 x with
    | some ds => .ok (zips (nums 0 ds.length) ds, gdOf h1 x) h1
    | none => .stuck
  | .zip a b, s, h => (evE g a s h).bind fun x h1 => (evE g b s h1).bind fun y h2 => match seqOf h2 x, seqOf h2 y with
    | some ds, some es => .ok (zips ds es, gdOf h2 x ++ gdOf h2 y) h2
    | _, _ => .stuck
/-- a value is stored: the slots behind it -/
def asgT (g : G) : ITg → D → Sg → Hh → R Sg
  | .v i, d, s, h => .ok (s.set i (some d)) h
  | .tup n ts, d, s, h => match d.items with
    | some ds => if ds.length = n then asgTs g ts ds s h else .stuck
    | none => .stuck
  | .attr o f, d, s, h => (evE g o s h).bind fun x h1 => (putAttrS g.fok x f d h1).bind fun _ h2 => .ok s h2
  | .sub o i, d, s, h => (evE g o s h).bind fun x h1 => (evE g i s h1).bind fun y h2 => (putS x y d h2).bind fun _ h3 => .ok s h3
def asgTs (g : G) : ITgs → List D → Sg → Hh → R Sg
  | .nil, ds, s, h => match ds with
    | [] => .ok s h
    | _ => .stuck
  | .cons t ts, ds, s, h => match ds with
    | [] => .stuck
    | d :: ds => match asgT g t d s h with
      | .ok s1 h1 => asgTs g ts ds s1 h1
      | _ => .stuck
end
mutual
def evS (g : G) : IS → Sg → Hh → RS
  | .expr e, s, h => (evE g e s h).then s fun _ h1 => .next s h1
  | .asg t e, s, h => (evE g e s h).then s fun d h1 => (asgT g t d s h1).then s fun s1 h2 => .next s1 h2
  | .par ts es, s, h => (evEs g es s h).then s fun ds h1 => (asgTs g ts ds s h1).then s fun s1 h2 => .next s1 h2
  | .aug i op e, s, h => (R.of (slot i s) h).then s fun x h0 => (evE g e s h0).then s fun y h1 => (augS op x y h1).then s fun z h2 => .next (s.set i (some z)) h2
  | .augAttr o f op e, s, h => (evE g o s h).then s fun x h1 => (R.of (fldS f h1 x) h1).then s fun cy h2 => (evE g e s h2).then s fun z h3 => (augS op cy.2 z h3).then s fun w h4 => if clsOf h4 x = some cy.1 then (putAttrS g.fok x f w h4).then s fun _ h5 => .next s h5 else .stuck
  | .augSub o i op e, s, h => (evE g o s h).then s fun x h1 => (evE g i s h1).then s fun k h2 => (R.of (itmS x k h2) h2).then s fun y h3 => (evE g e s h3).then s fun z h4 => (augS op y z h4).then s fun w h5 => (putS x k w h5).then s fun _ h6 => .next s h6
  | .ite t a b, s, h => (tr (evE g t s h)).then s fun k h1 => if k then evSs g a s h1 else evSs g b s h1
  | .wh t b, s, h => loopW (fun s h => tr (evE g t s h)) (evSs g b) g.F s h
  | .for t it b, s, h => (evI g it s h).then s fun p h1 => loopS p.2 (fun d s1 h2 => (asgT g t d s1 h2).then s1 fun s2 h3 => evSs g b s2 h3) p.1 s h1
  | .ret e, s, h => (evE g e s h).then s fun d h1 => .ret d h1
  | .retN, _, h => .ret (.p .non) h
  | .brk, s, h => .brk s h
  | .cont, s, h => .cont s h
  | .pass, s, h => .next s h
  | .never, _, _ => .stuck
def evSs (g : G) : ISs → Sg → Hh → RS
  | .nil, s, h => .next s h
  | .cons t ts, s, h => (evS g t s h).seq fun s1 h1 => evSs g ts s1 h1
end

/-! ### a whole text -/
/-- a def: its parameters' number, its slots, its body -/
structure FD where
  np : Nat
  ns : Nat
  body : ISs
/-- the defs, the classes: their __init__'s number, their methods' by name, their attributes -/
structure Prg where
  fns : List FD
  cls : List (Option Nat × List (Nat × Nat) × List Nat)
def startD (ns : Nat) (ds : List D) : Sg := ds.map some ++ List.replicate (ns - ds.length) none
/-- a call's end -/
def backR (h : Hh) : RS → R D
  | .ret d h1 => trimR h (.ok d h1)
  | .next _ h1 => trimR h (.ok (.p .non) h1)
  | .exc x _ h1 => .exc x h1
  | _ => .stuck
def gOf (p : Prg) (F : Nat) (call init : Nat → List D → Hh → R D) : G :=
  { call := call, init := init, cinit := fun c => (p.cls[c]?).bind (·.1), meth := fun c m => (p.cls[c]?).bind fun x => x.2.1.lookup m, fok := fun c f => match p.cls[c]? with
    | some x => x.2.2.contains f
    | none => false, F := F }
def callN (p : Prg) (F : Nat) : Nat → Nat → List D → Hh → R D
  | 0, _, _, _ => .stuck
  | 1, _, _, _ => .stuck
  | k + 2, f, ds, h => match p.fns[f]? with
    | some fd => if ds.length = fd.np then backR h (evSs (gOf p F (callN p F (k + 1)) (callN p F k)) fd.body (startD fd.ns ds) h) else .stuck
    | none => .stuck
end Pv

/-! D: from the text to the evaluator's text. -/
namespace Pv
open PySem L2

/-- the module's names: defs, classes, attributes and methods, constants; all that the module binds -/
structure Nm where
  fns : List Str
  cls : List Str
  nms : List Str
  con : List (Str × P)
  bnd : List Str

def idx (x : Str) : List Str → Option Nat
  | [] => none
  | y :: ys => if x = y then some 0 else (idx x ys).map (· + 1)
def isLoc (sc : Scope) (x : Str) : Bool := match sc.names.lookup x with
  | some .local | some .cell => true
  | _ => false
def isVis (sc : Scope) (x : Str) : Bool := match sc.names.lookup x with
  | some .local | some .cell | some .free => true
  | _ => false
def isGl (sc : Scope) (x : Str) : Bool := match sc.names.lookup x with
  | some .globalImplicit => true
  | _ => false
def okName (x : Str) : Bool := decide (x ≠ "__debug__" ∧ x ≠ "__classdict__" ∧ x ≠ "__name__")
def bltOf (x : Str) : Option Blt :=
  if x = "len" then some .len else if x = "abs" then some .abs else if x = "int" then some .int else if x = "max" then some .max else if x = "min" then some .min
  else if x = "tuple" then some .tuple else if x = "list" then some .list else if x = "sorted" then some .sorted else if x = "repr" then some .repr else none
def bmOf (x : Str) : BM :=
  if x = "append" then .append else if x = "extend" then .extend else if x = "insert" then .insert else if x = "pop" then .pop else if x = "get" then .get else if x = "items" then .items else .none
def binOf : Operator → Option Bin
  | .Add => some .add | .Sub => some .sub | .Mult => some .mul | .FloorDiv => some .fdiv | .Mod => some .mod | .Pow => some .pow
  | _ => none
def cmpOf : CmpOp → Cmp
  | .Eq => .eq | .NotEq => .ne | .Lt => .lt | .LtE => .le | .Gt => .gt | .GtE => .ge | .Is => .is | .IsNot => .isnot | .In => .isin | .NotIn => .notin

/-! ### what may make an object -/
mutual
def IE.al : IE → Bool
  | .c _ | .v _ => false
  | .lst _ | .slc .. | .call .. | .make .. | .meth .. | .comp .. => true
  | .tup es => es.al
  | .bin op a b => (match op with
    | .add | .mul => true
    | _ => false) || a.al || b.al
  | .neg a | .not a => a.al
  | .cmp _ a b | .and a b | .or a b => a.al || b.al
  | .cmp2 _ _ a b d => a.al || b.al || d.al
  | .ite t a b => t.al || a.al || b.al
  | .blt b es => (match b with
    | .list | .sorted | .set | .dict => true
    | _ => false) || es.al
  | .attr o _ => o.al
  | .sub o i => o.al || i.al
  | .trim e => e.al
def IEs.al : IEs → Bool
  | .nil => false
  | .cons e es => e.al || es.al
end
/-- a part of it may make one -/
def IE.alIn : IE → Bool
  | .c _ | .v _ | .trim _ => false
  | .lst es | .tup es | .call _ es | .make _ es | .blt _ es => es.al
  | .slc o lo hi => o.al
  | .meth o _ _ es => o.al || es.al
  | .comp _ _ _ it _ => match it with
    | .of e | .enum e => e.al
    | .zip a b => a.al || b.al
    | _ => false
  | .bin _ a b | .cmp _ a b | .and a b | .or a b | .sub a b => a.al || b.al
  | .neg a | .not a | .attr a _ => a.al
  | .cmp2 _ _ a b d | .ite a b d => a.al || b.al || d.al
def IE.root (e : IE) : IE := if e.alIn then .trim e else e

/-- a plain local name on a line -/
def lnm (sc : Scope) (line : Nat) : Expr → Option Str
  | .Name id pos => if sc.names.lookup id == some .local && pos.line == line then some id else none
  | _ => none
def isStar : Expr → Bool
  | .Starred .. => true
  | _ => false
def swPick : List Expr → Expr → Option (List Expr × List Expr)
  | [.Tuple ts _ _], .Tuple vs _ _ => some (ts, vs)
  | [.List ts _], .Tuple vs _ _ => some (ts, vs)
  | _, _ => none
def swCore (sc : Scope) : Option (List Expr × List Expr) → Option (Option (List Str))
  | none => some none
  | some (ts, vs) =>
    if !(ts.length == 2 || ts.length == 3) || vs.length != ts.length || sc.kind != ScopeKind.function then some none
    else if vs.any isStar then some none
    else
      let line := (ts.head?.map fun (t : Expr) => t.pos.line).getD 0
      let names := ts.filterMap (lnm sc line)
      if names.length != ts.length || names.eraseDups.length != names.length then some none
      else if vs.all (foldedForSure 8) then some none
      else if vs.all (constantsAlone 8) then none
      else some (some names)
/-- what pairs of stores run from the right: the names, or none; none if the model does not say -/
def swOf (sc : Scope) (targets : List Expr) (value : Expr) : Option (Option (List Str)) := swCore sc (swPick targets value)

def isSuper : Expr → Bool
  | .Call (.Name x _) _ _ _ => x == "super"
  | _ => false
def plainIx : Expr → Bool
  | .Slice .. => false
  | _ => true
def noSet : Expr → Bool
  | .Set .. => false
  | _ => true
def isTup : Expr → Bool
  | .Tuple .. => true
  | _ => false
def owns (N : List Str) (scope : Scope) : List (Str × Nat) := (scope.names.filter fun y => match y.2 with
    | .local | .cell => true
    | _ => false).filterMap fun y => (idx y.1 N).map fun i => (y.1, i)
mutual
def cE (m : Nm) : Nat → Scope → List Str → Expr → Option IE
  | 0, _, _, _ => none
  | n + 1, sc, N, e => match e with
    | .Constant k _ _ => match k with
      | .none => some (.c .non)
      | .bool b => some (.c (.bl b))
      | .int i => some (.c (.int i))
      | .str s => some (.c (.str s))
      | _ => none
    | .Name x _ => if okName x then (if isVis sc x then (idx x N).map .v else if isGl sc x then (m.con.lookup x).map .c else none) else none
    | .Tuple es _ _ => (cEs m n sc N es).map .tup
    | .List es _ => (cEs m n sc N es).map .lst
    | .BinOp a op b _ => do
      let o ← binOf op
      let x ← cE m n sc N a
      let y ← cE m n sc N b
      some (.bin o x y)
    | .UnaryOp .USub a _ => (cE m n sc N a).map .neg
    | .UnaryOp .Not a _ => (cE m n sc N a).map .not
    | .BoolOp op vs p => cBool m n sc N op vs
    | .IfExp t a b _ => do
      let x ← cE m n sc N t
      let y ← cE m n sc N a
      let z ← cE m n sc N b
      some (.ite x y z)
    | .Compare a [op] [b] _ => if behindInMarks op b then none else do
      let x ← cE m n sc N a
      let y ← cE m n sc N b
      some (.cmp (cmpOf op) x y)
    | .Compare a [op, op'] [b, c] _ => if lastMarks [op, op'] [b, c] then none else do
      let x ← cE m n sc N a
      let y ← cE m n sc N b
      let z ← cE m n sc N c
      some (.cmp2 (cmpOf op) (cmpOf op') x y z)
    | .Call (.Name x _) es [] _ => if okName x && isGl sc x then match idx x m.fns with
      | some f => (cEs m n sc N es).map (.call f)
      | none => match idx x m.cls with
        | some c => (cEs m n sc N es).map (.make c)
        | none => if m.bnd.contains x then none else match bltOf x with
          | some b => match es with
            | [] => none
            | _ :: _ => (cEs m n sc N es).map (.blt b)
          | none => none
      else none
    | .Call (.Attribute o x ap) es [] p => if isSuper o || !(ap.endLine == p.line) || !decide (es.length < 29) then none else do
      let y ← cE m n sc N o
      let ys ← cEs m n sc N es
      some (.meth y ((idx x m.nms).getD 1000) (bmOf x) ys)
    | .Attribute o x _ => if isSuper o then none else do
      let f ← idx x m.nms
      let y ← cE m n sc N o
      some (.attr y f)
    | .Subscript o (.Slice lo hi none _) _ => do
      let y ← cE m n sc N o
      let l ← cO m n sc N lo
      let u ← cO m n sc N hi
      some (.slc y l u)
    | .Subscript o i _ => if plainIx i then do
      let y ← cE m n sc N o
      let z ← cE m n sc N i
      some (.sub y z)
      else none
    | .ListComp elt [⟨t, it, ifs, 0⟩] scope _ =>
      let own := owns N scope
      if blkC N sc scope own && noSet it && decide (ifs.length ≤ 1) then do
        let i ← cI m n sc N t it
        let g ← cT m n (relS scope sc) N (own.map (·.1)) t
        let fs ← cEs m n (relS scope sc) N ifs
        let x ← cE m n (relS scope sc) N elt
        some (.comp (own.map (·.2)) x.root g i fs)
      else none
    | _ => none
def cBool (m : Nm) : Nat → Scope → List Str → BoolOp → List Expr → Option IE
  | 0, _, _, _, _ => none
  | n + 1, sc, N, op, vs => match vs with
    | [] => none
    | [a] => cE m n sc N a
    | a :: b :: r => do
      let x ← cE m n sc N a
      let y ← cBool m n sc N op (b :: r)
      some (match op with
        | .And => .and x y
        | .Or => .or x y)
def cEs (m : Nm) : Nat → Scope → List Str → List Expr → Option IEs
  | 0, _, _, _ => none
  | n + 1, sc, N, es => match es with
    | [] => some .nil
    | e :: r => do
      let x ← cE m n sc N e
      let xs ← cEs m n sc N r
      some (.cons x xs)
def cO (m : Nm) : Nat → Scope → List Str → Option Expr → Option IEo
  | 0, _, _, _ => none
  | n + 1, sc, N, e => match e with
    | none => some .none
    | some e => (cE m n sc N e).map .some
/-- a target; st: the names that may be stored -/
def cT (m : Nm) : Nat → Scope → List Str → List Str → Expr → Option ITg
  | 0, _, _, _, _ => none
  | n + 1, sc, N, st, e => match e with
    | .Name x _ => if isLoc sc x && st.contains x then (idx x N).map .v else none
    | .Tuple es _ _ => (cTs m n sc N st es).map (.tup es.length)
    | .Attribute o x _ => if isSuper o then none else do
      let f ← idx x m.nms
      let y ← cE m n sc N o
      some (.attr y f)
    | .Subscript o i _ => if plainIx i then do
      let y ← cE m n sc N o
      let z ← cE m n sc N i
      some (.sub y z)
      else none
    | _ => none
def cTs (m : Nm) : Nat → Scope → List Str → List Str → List Expr → Option ITgs
  | 0, _, _, _, _ => none
  | n + 1, sc, N, st, es => match es with
    | [] => some .nil
    | e :: r => do
      let x ← cT m n sc N st e
      let xs ← cTs m n sc N st r
      some (.cons x xs)
def cI (m : Nm) : Nat → Scope → List Str → Expr → Expr → Option IIt
  | 0, _, _, _, _ => none
  | n + 1, sc, N, t, it => match it with
    | .Call (.Name x _) es [] _ =>
      if okName x && isGl sc x && !m.bnd.contains x then
        if x = "range" then match es with
          | [a] => (cE m n sc N a).map fun y => .rng1 y.root
          | [a, b] => do
            let y ← cE m n sc N a
            let z ← cE m n sc N b
            some (.rng2 y.root z.root)
          | _ => none
        else if x = "enumerate" then match es with
          | [a] => if isTup t then (cE m n sc N a).map fun y => .enum y.root else none
          | _ => none
        else if x = "zip" then match es with
          | [a, b] => if isTup t then do
            let y ← cE m n sc N a
            let z ← cE m n sc N b
            some (.zip y.root z.root)
            else none
          | _ => none
        else (cE m n sc N it).map fun y => .of y.root
      else (cE m n sc N it).map fun y => .of y.root
    | _ => (cE m n sc N it).map fun y => .of y.root
end

/-- every local name: a def's own -/
def locs (sc : Scope) : List Str := (sc.names.filter fun y => match y.2 with
    | .local | .cell => true
    | _ => false).map (·.1)
mutual
def cS (m : Nm) : Nat → Scope → List Str → Stmt → Option IS
  | 0, _, _, _ => none
  | n + 1, sc, N, st => match st with
    | .Expr (.Constant (.str _) _ _) _ => some .pass
    | .Expr e _ => match e with
      | .ListComp .. => none
      | _ => (cE m n sc N e).map fun x => .expr x.root
    | .Assign [t] e pos => match swOf sc [t] e with
      | none => none
      | some none => do
        let g ← cT m n sc N (locs sc) t
        let y ← cE m n sc N e
        some (.asg g y.root)
      | some (some _) => match t, e with
        | .Tuple ts _ _, .Tuple es _ _ => do
          let g ← cTs m n sc N (locs sc) ts
          let y ← cEs m n sc N es
          some (.par g y)
        | _, _ => none
    | .AugAssign (.Name x _) op e _ => if isLoc sc x then do
      let o ← binOf op
      let i ← idx x N
      let y ← cE m n sc N e
      some (.aug i o y.root)
      else none
    | .AugAssign (.Attribute o x _) op e _ => if isSuper o then none else do
      let p ← binOf op
      let f ← idx x m.nms
      let y ← cE m n sc N o
      let z ← cE m n sc N e
      some (.augAttr y f p z.root)
    | .AugAssign (.Subscript o i _) op e _ => if plainIx i then do
      let p ← binOf op
      let y ← cE m n sc N o
      let k ← cE m n sc N i
      let z ← cE m n sc N e
      some (.augSub y k p z.root)
      else none
    | .If t a b _ => do
      let x ← cE m n sc N t
      let y ← cSs m n sc N a
      let z ← cSs m n sc N b
      some (.ite x.root y z)
    | .While t a [] _ => do
      let x ← cE m n sc N t
      let y ← cSs m n sc N a
      some (.wh x.root y)
    | .For t it a [] _ => if noSet it then do
      let i ← cI m n sc N t it
      let g ← cT m n sc N (locs sc) t
      let y ← cSs m n sc N a
      some (.for g i y)
      else none
    | .Return (some e) _ => (cE m n sc N e).map fun x => .ret x.root
    | .Return none _ => some .retN
    | .Break _ => some .brk
    | .Continue _ => some .cont
    | .Pass _ => some .pass
    | .Raise .. => some .never
    | _ => none
def cSs (m : Nm) : Nat → Scope → List Str → List Stmt → Option ISs
  | 0, _, _, _ => none
  | n + 1, sc, N, es => match es with
    | [] => some .nil
    | e :: r => do
      let x ← cS m n sc N e
      let xs ← cSs m n sc N r
      some (.cons x xs)
end
/-- the def's own scope -/
def scB (N ps : List Str) (sc : Scope) : Bool := (match sc.kind with
    | .function => true
    | _ => false) && !sc.isCoroutine && !sc.isGenerator && decide N.Nodup && decide (N.take ps.length = ps) && (ps.all fun x => isLoc sc x) && sc.names.all fun y => match y.2 with
    | .free => false
    | _ => true
/-- a def of the text, its names told: parameters first -/
def cF (m : Nm) (N ps : List Str) (st : Stmt) : Option FD := match st with
  | .FunctionDef _ a body _ _ _ sc _ _ _ =>
    if a.posonlyargs.isEmpty && a.vararg.isNone && a.kwonlyargs.isEmpty && a.kwarg.isNone && a.defaults.isEmpty && decide (a.args.map (·.arg) = ps) && decide (ps.length < 16) && scB N ps sc then
      (cSs m 400 sc N body).map fun b => ⟨ps.length, N.length, b⟩
    else none
  | _ => none
/-- built-in names that the text leaves as they are -/
def bltNames : List Str := ["len", "abs", "int", "max", "min", "tuple", "list", "sorted", "repr", "range", "enumerate", "zip"]
end Pv

/-! E: defs and calls, over a stack on which nothing is being shown (repr wants it). -/
namespace Pv
open PySem L2 PySem.Spec PyProof.Rows

/-- nothing is being shown -/
abbrev Bare (A : Around) : Prop := A.guards = some []
theorem Bare.deeper {A : Around} (h : Bare A) (env : Env) : Bare (A.deeper env) := by
  have e : (A.deeper env).guards = A.guards := by first | rfl | simp [Around.deeper]
  exact e.trans h
theorem Bare.make {A : Around} (h : Bare A) (C : Addr) (us : List Value) (kw : List (Str × Value)) : Bare (A.under (.builtin "type.__call__" ⟨.ref C :: us, kw⟩)) := by
  have e : A.guards = some [] := h
  simp [Bare, Around.under, e, pushGuards, Code.guards, Code.isGuard, guardIds]

/-- a def keeps its promise, where nothing is being shown -/
structure FnG (P : Program) (w : World) (K : PySem.W.Frag) (mg : Str → Option Value) (base : Heap) (CX : CXT) (k : Nat) (f : Addr) (fd : FuncData) (np : List Str) (sp : Sp) : Prop where
  many : ∀ vs H Q E, sp vs H Q E → vs.length = np.length
  go : ∀ (A : Around) (around : List Env) (s : Shared) (H : Hp) (given : Args) (us : List Value) (vs : List V) (Q : VK) (E : XK), Room k A → Bare A → Env0 P w K mg base A around s H →
    BindsTo s fd given (np.zip us) → Vals vs us → sp vs H Q E → codeAny (model P w) A (.call (.ref f) given) (CR CX around P w H s Q E) s

section
variable {P : Program} {w : World} {K : PySem.W.Frag} {mg : Str → Option Value} {base : Heap} {CX : CXT} {k : Nat} {f : Addr}
/-- by its body -/
theorem FnG.of {nm qual : Str} {params : Arguments} {body : List Stmt} {scope : Scope} {dV kV doc pm cdv ct oc : Value} {an od : Option Addr} {osl : Array (Option Value)} {N np : List Str} {sp : Sp}
    (at_ : K.lookup f = some ⟨oc, od, .func (PySem.W.fnOf nm qual params body scope dV kV doc pm an cdv ct), osl⟩) (code : PySem.W.codeIn K cdv qual = true) (S : FnScope N np scope) (many : ∀ vs H Q E, sp vs H Q E → vs.length = np.length)
    (walk : ∀ (A : Around) (around : List Env) (s : Shared) (H : Hp) (vs : List V) (Q : VK) (E : XK), Room k (A.deeper (envOfC qual scope s.heap.objs.size f cdv)) → Bare (A.deeper (envOfC qual scope s.heap.objs.size f cdv)) → sp vs H Q E →
      ∃ t, PSs (cxOf CX P w K mg base N qual scope f cdv A around s H E) body t ∧ t { nx := fun _ H' => Q .non H', rt := Q } (start N vs) H) :
    FnG P w K mg base CX (k + 1) f (PySem.W.fnOf nm qual params body scope dV kV doc pm an cdv ct) np sp := by
  refine ⟨many, ?_⟩
  intro A around s H given us vs Q E room bare e0 bind r asked
  have len := many _ _ _ _ asked
  have inK : K.In s.heap := e0.mod.kin.keeps fun b o q => (e0.bs b o q).1
  have free : s.heap.NoLimit := e0.mod.nolimit.keeps fun b o q => (e0.bs b o q).1
  have kinds : ∀ y ∈ np.zip us, scope.names.lookup y.1 = some .local ∨ (scope.names.lookup y.1 = some .cell ∧ ((cellsFrom (s.heap.objs.size + 1) scope.names []).lookup y.1).isSome = true) := by
    rintro ⟨n, v⟩ hy
    cases S.par n (List.of_mem_zip hy).1 with
    | inl q => exact .inl q
    | inr q => exact .inr ⟨q, PySem.W.cellsFrom_some _ _ _ (.inl q)⟩
  refine codeAny_call_function room.depth (inK _ _ at_) rfl S.co S.gen rfl (PySem.W.codeRec_of inK code) (bind _ _ _ _ ?_)
  refine wpAny_newFunctionEnv_cells S.kind kinds ?_
  intro env he s1 x
  subst he
  refine ⟨free.keeps x.toInCall.keep, codeAny_func ?_⟩
  obtain ⟨t, ht, hq⟩ := walk A around s H vs Q E (room.deeper _) (bare.deeper _) asked
  have I := inv_start (CX := CX) (P := P) (w := w) (E := E) S room.hd e0 len r x
  refine wpAny_mono (ht.run [] s1 (start N vs) H _ I hq) ?_ fun _ _ hs => hs
  intro fl s' hs
  cases fl with
  | ret u => obtain ⟨v, _, H', J, rv, q⟩ := hs; exact ⟨v, H', J.os, J.bare, J.base, J.hok, rv, q⟩
  | next => obtain ⟨_, H', J, q⟩ := hs; exact ⟨.non, H', J.os, J.bare, J.base, J.hok, rfl, q⟩
  | brk => obtain ⟨_, _, _, q⟩ := hs; exact q.elim
  | cont => obtain ⟨_, _, _, q⟩ := hs; exact q.elim
variable {X : Cx} {fd : FuncData} {np : List Str} {sp : Sp} {E : XK} {pins : List (Addr × Obj)} {σ : L2.St} {H : Hp} {s : Shared} {Q : VK} {us : List Value} {vs : List V}
theorem FnG.run (F : FnG X.prog X.w X.K X.mg X.base CX k f fd np sp) (room : Room k X.A) (bare : Bare X.A) (bind : Binds X.K fd np []) (px : ∀ (pins : List (Addr × Obj)) (H : Hp) (s : Shared) (e : Value) (s' : Shared), Inv X pins σ H s → CX X.stack H s E e s' → X.xe e s') (I : Inv X pins σ H s) (r : Vals vs us) (h : sp vs H Q E) :
    wpAny (model X.prog X.w) X.A (call (.ref f) us) (EP X pins σ Q) X.xe s := by
  have len : (us ++ []).length = np.length := by rw [List.append_nil, ← r.length]; exact F.many _ _ _ _ h
  have b := bind s us I.kIn len
  rw [List.append_nil] at b
  refine wpAny_call (codeAny_mono (F.go X.A X.stack s H ⟨us, []⟩ us vs Q E room bare I.env0 b r h) ?_)
  intro res s' hq
  match res, hq with
  | .error e, hq => exact px pins H s e s' I hq
  | .ok (.ret u), hq => exact I.after hq
  | .ok .next, hq => exact hq.elim
  | .ok .brk, hq => exact hq.elim
  | .ok .cont, hq => exact hq.elim
/-- C(..) -/
theorem FnG.make {C : Addr} (M : Mk X.K C f) (F : FnG X.prog X.w X.K X.mg X.base CX k f fd np sp) (room : Room (k + 1) X.A) (bare : Bare X.A) (bind : Binds X.K fd np []) (px : ∀ (pins : List (Addr × Obj)) (H : Hp) (s : Shared) (e : Value) (s' : Shared), Inv X pins σ H s → CX X.stack H s E e s' → X.xe e s') (I : Inv X pins σ H s) (r : Vals vs us)
    (h : ∀ x dx, H x = none → H dx = none → dx ≠ x → sp (.ref x :: vs) (upd (upd H dx (.own x)) x (.ins C dx [])) (fun v H2 => v = .non ∧ Q (.ref x) H2) E) :
    wpAny (model X.prog X.w) X.A (call (.ref C) us) (EP X pins σ Q) X.xe s := by
  have asked := h (s.heap.objs.size + 1) s.heap.objs.size (I.hok.fresh (Nat.le_succ _)) (I.hok.fresh (Nat.le_refl _)) (Nat.ne_of_lt (Nat.lt_succ_self _))
  have J := Inv.made (C := C) I
  have r2 : Vals (V.ref (s.heap.objs.size + 1) :: vs) (Value.ref (s.heap.objs.size + 1) :: us) := .cons rfl r
  have len : (Value.ref (s.heap.objs.size + 1) :: us ++ []).length = np.length := by
    rw [List.append_nil, ← r2.length]
    exact F.many _ _ _ _ asked
  have b := bind _ (Value.ref (s.heap.objs.size + 1) :: us) J.kIn len
  rw [List.append_nil] at b
  refine wpAny_call (make_map (f := f) I.kIn M.makes M.init (beq_iff_eq.mp M.fn) (codeAny_mono (F.go _ X.stack _ _ ⟨Value.ref (s.heap.objs.size + 1) :: us, []⟩ _ _ _ E (room.make C us []) (bare.make C us []) (J.env0.make C us []) b r2 asked) ?_))
  intro res s' hq
  match res, hq with
  | .error e, hq => exact px pins _ _ e s' J hq
  | .ok (.ret u), hq =>
    obtain ⟨v, H', J2, rv, ev, q⟩ := J.after hq
    subst ev
    exact ⟨rv, ⟨V.ref (s.heap.objs.size + 1), H', J2, rfl, q⟩⟩
  | .ok .next, hq => exact hq.elim
  | .ok .brk, hq => exact hq.elim
  | .ok .cont, hq => exact hq.elim
end

/-! ### a law's end -/
theorem law_ends {P : Program} {w : World} {K : PySem.W.Frag} {mg mb : Str → Option Value} {CX : CXT} {k : Nat} {fa a : Addr} {fd : FuncData} {x : Str} {sp : Sp} {s : Shared} {vs : List Value} {ns : List Int}
    (inK : K.In s.heap) (glob : s.heap.Ns mainGlobals mg) (bns : s.heap.Ns builtinsNs mb) (blt : ∀ x : Str, x ≠ "__name__" → mb x = bootBuiltins x) (lim : s.heap.NoLimit) (gens : s.gens = #[])
    (script : s.heap.get? a = some { cls := .type "list", data := .seq vs.toArray }) (iv : IntsAre vs ns) (short : ns.length ≤ sizeLine) (room : Room k callerA)
    (F : ∀ base : Heap, K.In base → base.Ns mainGlobals mg → FnG P w K mg base CX k fa fd [x] sp) (bind : ∀ (s : Shared) (u : Value), K.In s.heap → BindsTo s fd ⟨[u], []⟩ [(x, u)])
    (asked : ∀ H : Hp, Only H → SqL K H a (ns.map V.int) → sp [.ref a] H (fun v _ => v = .bl true) fun _ _ _ => False) (calm : ∀ H e s', CX [] H s (fun _ _ _ => False) e s' → False) :
    codeAny (model P w) callerA (.call (.ref fa) ⟨[.ref a], []⟩) (fun r s' => r = .ok (.ret (.bool true)) ∧ OldK s.heap s'.heap ∧ s'.os = s.os ∧ AllBare s'.gens) s := by
  have rv := vals_ints iv
  have lv := iv.length
  have core : ∀ H : Hp, Only H → SqL K H a (ns.map V.int) → HOk P w H s.heap → (∀ b, H b ≠ none → b = a) → (H a ≠ none → K.lookup a = none) →
      codeAny (model P w) callerA (.call (.ref fa) ⟨[.ref a], []⟩) (fun r s' => r = .ok (.ret (.bool true)) ∧ OldK s.heap s'.heap ∧ s'.os = s.os ∧ AllBare s'.gens) s := by
    intro H only sq hok onlyA notK
    have bare_dict : ∀ {b : Addr} {o : Obj} {es : Array DictEntry} {ep : Nat}, s.heap.get? b = some o → o.data = .dict es ep → H b = none := by
      intro b o es ep e d
      cases q : H b with
      | none => rfl
      | some u =>
        have e' : b = a := onlyA b (by rw [q]; simp)
        rw [e', script] at e
        cases e
        have d' : Data.seq vs.toArray _ = Data.dict es ep := d
        cases d'
    have nsB : ∀ {b : Addr} {m : Str → Option Value}, s.heap.Ns b m → (hidT s.heap H).Ns b m := by
      rintro b m ⟨o, es, ep, e, d, r⟩
      exact ⟨o, es, ep, hidT_get e (bare_dict e d), d, r⟩
    have kB : K.In (hidT s.heap H) := by
      intro b o e
      refine hidT_get (inK b o e) ?_
      cases q : H b with
      | none => rfl
      | some u =>
        have e' : b = a := onlyA b (by rw [q]; simp)
        rw [e', notK (by rw [← e', q]; simp)] at e
        cases e
    have M : Mod K mg (hidT s.heap H) := ⟨kB, nsB glob, ⟨mb, nsB bns, blt⟩, let ⟨mc, h1, h2⟩ := lim; ⟨mc, nsB h1, h2⟩⟩
    have e0 : Env0 P w K mg (hidT s.heap H) callerA [] s H := by
      refine ⟨rfl, M, fun b o e => of_hidT e, Nat.le_of_eq (hidT_size _ _), trivial, ?_, hok, .of_eq gens⟩
      intro b hb
      exact absurd (show b ∈ ([] : List Addr) from hb) (by simp)
    refine codeAny_mono ((F _ kB (nsB glob)).go callerA [] s H ⟨[.ref a], []⟩ [.ref a] [.ref a] _ _ room rfl e0 (bind s (.ref a) inK) (.cons rfl .nil) (asked H only sq)) ?_
    intro r s' h
    match r, h with
    | .error e, h => exact (calm H e s' h).elim
    | .ok .next, h => exact h.elim
    | .ok .brk, h => exact h.elim
    | .ok .cont, h => exact h.elim
    | .ok (.ret u), h =>
      obtain ⟨v, H', os, bare, un, hok', r', q⟩ := h
      have q' : v = .bl true := q
      subst q'
      obtain rfl : u = Value.bool true := r'
      refine ⟨rfl, OldK.of_keep fun b o e => ?_, os, bare⟩
      cases q : H b with
      | none => exact un.keep b o e q (fun z => absurd (show b ∈ ([] : List Addr) from z) (by simp)) (by simp)
      | some u =>
        cases only b with
        | inl z => rw [q] at z; cases z
        | inr z =>
          obtain ⟨ob, xs, z⟩ := z
          have e1 := (hok b _ z).1
          have e2 := (hok' b _ (un.frzs b ob _ z)).1
          rw [e] at e1
          cases e1
          exact e2
  cases hk : K.lookup a with
  | some o =>
    have e := inK a o hk
    rw [script] at e
    cases e
    refine core (fun _ => none) (fun _ => .inl rfl) (.inr ⟨_, vs.toArray, _, hk, rfl, rfl, rfl, by rw [List.size_toArray, lv]; exact short, by simpa using rv⟩) (fun b u z => ?_) (fun b z => absurd rfl z) fun z => absurd rfl z
    have z' : (none : Option HO) = some u := z
    cases z'
  | none =>
    have one : ∀ b, (if b = a then some (HO.frz { cls := .type "list", data := .seq vs.toArray } (.lst (ns.map V.int))) else none) ≠ none → b = a := fun b z => by
      by_cases hb : b = a
      · exact hb
      · exact absurd (if_neg hb) z
    refine core (fun b => if b = a then some (.frz { cls := .type "list", data := .seq vs.toArray } (.lst (ns.map V.int))) else none) (fun b => ?_) (.inl (.inr ⟨{ cls := .type "list", data := .seq vs.toArray }, if_pos rfl⟩)) (fun b u z => ?_) one fun _ => hk
    · by_cases hb : b = a
      · exact .inr ⟨_, _, if_pos hb⟩
      · exact .inl (if_neg hb)
    · have hb : b = a := one b (by rw [show (if b = a then some (HO.frz { cls := .type "list", data := .seq vs.toArray } (.lst (ns.map V.int))) else none) = some u from z]; simp)
      subst hb
      have z' := (if_pos rfl).symm.trans z
      cases z'
      exact ⟨script, by rw [List.length_map]; exact short, vs, _, rv, script⟩
/-- the goal that the head leaves -/
theorem law_walk {l : PySem.W.OpenLaw} {n k : Nat} {q : Program} {loose : List Str} {XP : (Str → Option Value) → Heap → Prop} {YP : World → Heap → Prop} {d : DefRec} {K : Params → PySem.W.Frag} {CX : World → CXT} {sp : World → Sp}
    (most : l.most = some n) (short : n ≤ sizeLine) (nodef : d.params.defaults = []) (room : Room k callerA) (kin : ∀ (w : World) (h : Heap), YP w h → (K w.params).In h)
    (F : ∀ (w : World) (mg : Str → Option Value) (fa : Addr) (h : Heap), (K w.params).In h → h.Ns mainGlobals mg → mg d.name = some (.ref fa) →
      ∃ (fd : FuncData) (x : Str), (∀ (s : Shared) (u : Value), (K w.params).In s.heap → BindsTo s fd ⟨[u], []⟩ [(x, u)]) ∧ ∀ base : Heap, (K w.params).In base → base.Ns mainGlobals mg → FnG l.prog w (K w.params) mg base (CX w) k fa fd [x] (sp w))
    (asked : ∀ (w : World) (H : Hp) (a : Addr) (ns : List Int), ns.length ≤ n → Only H → SqL (K w.params) H a (ns.map V.int) → sp w [.ref a] H (fun v _ => v = .bl true) fun _ _ _ => False)
    (calm : ∀ (w : World) (H : Hp) (s : Shared) (e : Value) (s' : Shared), CX w [] H s (fun _ _ _ => False) e s' → False) : PySem.W.WalkO q loose XP YP l.row.toRowW d [] (fun f vs => PySem.call f vs) := by
  refine Att.attach_call most nodef ?_
  intro w s₀ s₁ mg mb fa o pm cd doc a vs ns G Y ho hd hcd hmg hobj hints hlen hg
  have inK := kin w _ Y
  obtain ⟨fd, x, hb, hF⟩ := F w mg fa _ inK G.T.g hmg
  exact law_ends inK G.T.g G.T.b G.T.builtins G.T.nolimit hg hobj hints (Nat.le_trans hlen short) room hF hb (fun H hO hS => asked w H a ns hlen hO hS) fun H e s' => calm w H s₁ e s'
end Pv

/-! F: rules that the hand layer lacks. -/
namespace Pv
open PySem L2 PySem.Spec PyProof.Rows

/-! ### tuple * int, any -/
theorem tuple_mul_one (l : Addr) (items : Array Value) (n : Nat) (sl : Array (Option Value)) (dd : Option Addr) (x : Int) (u : Tok) (c0 : (decide (x < -(2 ^ 63)) || decide (x ≥ 2 ^ 63)) = false) (c1 : (items.isEmpty || x == 1) = true) :
    Meets (Builtin.«tuple.__mul__» ⟨[.ref l, .int x u], []⟩) (fun _ R s => s.heap.get? l = some { cls := .type "tuple", dict := dd, data := .seq items n, slots := sl } ∧ R (.ok (.ret (Value.ref l))) s) :=
  .of_wp fun prog w A R s h => by
    obtain ⟨hp, g, d, tk, os⟩ := s
    obtain ⟨hl, h⟩ := h
    have f1 := AutoSeq1.idx_int
    wp_walk using wpAny_loadPart' hl
    repeat (first
      | (refine wpAny_ite_false (decide_eq_false (by rw [c0]; exact Bool.false_ne_true)) ?_; wp_walk using wpAny_loadPart' hl)
      | (refine wpAny_ite_true (decide_eq_true c1) ?_; wp_walk using wpAny_loadPart' hl))
    first
      | exact ⟨_, rfl, h⟩
      | exact h
theorem tuple_mul_nil (l : Addr) (items : Array Value) (n : Nat) (sl : Array (Option Value)) (dd : Option Addr) (x : Int) (u : Tok) (c0 : (decide (x < -(2 ^ 63)) || decide (x ≥ 2 ^ 63)) = false) (c1 : (items.isEmpty || x == 1) = false)
    (c2 : (decide (x ≤ 0) || items.isEmpty) = true) :
    Meets (Builtin.«tuple.__mul__» ⟨[.ref l, .int x u], []⟩) (fun _ R s => s.heap.get? l = some { cls := .type "tuple", dict := dd, data := .seq items n, slots := sl } ∧
      R (.ok (.ret (Value.ref s.heap.objs.size))) { s with heap := s.heap.push { cls := Value.type "tuple", data := Data.seq #[] }, toks := s.toks }) :=
  .of_wp fun prog w A R s h => by
    obtain ⟨hp, g, d, tk, os⟩ := s
    obtain ⟨hl, h⟩ := h
    have f1 := AutoSeq1.idx_int
    wp_walk using wpAny_loadPart' hl
    repeat (first
      | (refine wpAny_ite_false (decide_eq_false (by rw [c0]; exact Bool.false_ne_true)) ?_; wp_walk using wpAny_loadPart' hl)
      | (refine wpAny_ite_false (decide_eq_false (by rw [c1]; exact Bool.false_ne_true)) ?_; wp_walk using wpAny_loadPart' hl)
      | (refine wpAny_ite_true (decide_eq_true c2) ?_; wp_walk using wpAny_loadPart' hl))
    first
      | exact ⟨_, rfl, h⟩
      | exact h
theorem flat_len {α : Type} (xs : List α) : ∀ k : Nat, (List.replicate k xs).flatten.length = xs.length * k
  | 0 => by simp
  | k + 1 => by rw [List.replicate_succ, List.flatten_cons, List.length_append, flat_len xs k, Nat.mul_succ, Nat.add_comm]
theorem vals_flat {xs : List V} {its : List Value} (r : Vals xs its) : ∀ k : Nat, Vals (List.replicate k xs).flatten (List.replicate k its).flatten
  | 0 => .nil
  | k + 1 => by
    rw [List.replicate_succ, List.replicate_succ, List.flatten_cons, List.flatten_cons]
    exact r.append (vals_flat r k)
def rMulT (K : PySem.W.Frag) : R2 := fun x y H Q => ∃ l k xs, x = .ref l ∧ y = .int k ∧ SqT K H l xs ∧ -(2 ^ 63) ≤ k ∧ k < 2 ^ 63 ∧ xs.length * k.toNat ≤ sizeLine ∧
  ((List.replicate k.toNat xs).flatten = xs → Q (.ref l) H) ∧ ∀ p, H p = none → Q (.ref p) (upd H p (.tup (List.replicate k.toNat xs).flatten))
section
variable {X : Cx}
theorem op_mulT : OpR X (binaryOp .Mult) (rMulT X.K) := by
  intro pins s σ H x y v u Q I rx ry h
  obtain ⟨l, k, xs, rfl, rfl, hT, k0, k1, hz, q1, q2⟩ := h
  cases rx
  obtain ⟨t, rfl⟩ := ry
  obtain ⟨its, r, ⟨⟨cls, dd, data, sl⟩, ho, hc, n, hd⟩, hs⟩ := I.tuple hT
  simp only at hc hd
  subst hc hd
  have hle : its.length = xs.length := r.length.symm
  have sz : its.toArray.size = xs.length := by rw [List.size_toArray, hle]
  have c0 : (decide (k < -(2 ^ 63)) || decide (k ≥ 2 ^ 63)) = false := by
    rw [decide_eq_false (by omega), decide_eq_false (by omega)] <;> rfl
  have road : ∀ {Q' : Value → Shared → Prop}, wpAny (model X.prog X.w) X.A (call (.builtin "tuple.__mul__") [.ref l, .int k t]) Q' X.xe s → wpAny (model X.prog X.w) X.A (binaryOp .Mult (.ref l) (.int k t)) Q' X.xe s := fun {Q'} hq =>
    wpAny_binaryOp_repeat_ref (T := "tuple") (U := "int") (by decide) ⟨_, ho, rfl⟩ (fun s' => typeIs_int s' k t) noFill_tuple_mul F.fills_int_mul F.slot_int_rmul repeat_tuple F.slot_int_index.lookup
      (call_meets F.slot_int_rmul (typeIs_int s k t) F.entry_int_rmul (F.args_int_rmul_2 _ _) (int_rmul_tuple k t l its.toArray n dd sl) ⟨ho, rfl, ⟨_, ho, rfl⟩, hq⟩)
  have new : ∀ (zs : List V) (ws : List Value), Vals zs ws → zs.length ≤ sizeLine → Q (.ref s.heap.objs.size) (upd H s.heap.objs.size (.tup zs)) →
      EP X pins σ Q (.ref s.heap.objs.size) { s with heap := s.heap.push { cls := Value.type "tuple", data := Data.seq ws.toArray }, toks := s.toks } := fun zs ws rr hl q =>
    ⟨.ref s.heap.objs.size, _, I.laid (t' := s.toks) (o := .tup zs) (fun b u e => Heap.get?_push_of_some _ e) (Nat.le_refl _) ⟨hl, ws, rr, ⟨_, Heap.get?_push_size _ rfl, rfl, _, rfl⟩⟩, rfl, q⟩
  have fr : H s.heap.objs.size = none := I.hok.fresh (Nat.le_refl _)
  have len := flat_len xs k.toNat
  refine road ?_
  cases c1 : (its.toArray.isEmpty || k == 1) with
  | true =>
    refine call_meets F.slot_tuple_mul ⟨_, ho, rfl⟩ F.entry_tuple_mul (F.args_tuple_mul_2 _ _) (tuple_mul_one l its.toArray n sl dd k t c0 c1) ⟨ho, ?_⟩
    refine ⟨.ref l, H, I, rfl, q1 ?_⟩
    rw [Bool.or_eq_true] at c1
    rcases c1 with c | c
    · have e : its = [] := by simpa using c
      have e2 : xs = [] := List.eq_nil_of_length_eq_zero (by rw [← hle, e]; rfl)
      rw [e2]
      exact List.eq_nil_of_length_eq_zero (by rw [flat_len]; simp)
    · have e : k = 1 := by simpa using c
      rw [e]
      simp
  | false =>
    cases c2 : (decide (k ≤ 0) || its.toArray.isEmpty) with
    | true =>
      refine call_meets F.slot_tuple_mul ⟨_, ho, rfl⟩ F.entry_tuple_mul (F.args_tuple_mul_2 _ _) (tuple_mul_nil l its.toArray n sl dd k t c0 c1 c2) ⟨ho, ?_⟩
      rw [Bool.or_eq_false_iff] at c1
      rw [c1.1, Bool.or_false, decide_eq_true_eq] at c2
      have e : (List.replicate k.toNat xs).flatten = [] := by
        have : k.toNat = 0 := by omega
        rw [this] <;> rfl
      exact new [] [] .nil (Nat.zero_le _) (by have := q2 _ fr; rw [e] at this; exact this)
    | false =>
      have hs63 : sizeLine = 16777216 := sizeLine_eq
      have kp : 0 < k := by
        rw [Bool.or_eq_false_iff, decide_eq_false_iff_not] at c2
        omega
      have ek : (k.toNat : Int) = k := Int.toNat_of_nonneg (by omega)
      have prod : ((its.toArray.size : Nat) : Int) * k ≤ 16777216 := by
        rw [sz, ← ek]
        have : ((xs.length * k.toNat : Nat) : Int) ≤ 16777216 := by
          rw [hs63] at hz
          generalize xs.length * k.toNat = m at hz ⊢
          omega
        rw [← Int.natCast_mul]; exact this
      have c4 : Builtin.Tuple.tupleTooMany (((its.toArray.size : Nat) : Int) * k) = false := by
        unfold Builtin.Tuple.tupleTooMany
        rw [hs63]
        exact decide_eq_false (by omega)
      have flen : (List.replicate k.toNat its).flatten.length ≤ sizeLine := by rw [flat_len, hle]; exact hz
      refine call_meets F.slot_tuple_mul ⟨_, ho, rfl⟩ F.entry_tuple_mul (F.args_tuple_mul_2 _ _) (tuple_mulW l its.toArray n dd sl k t c0 c1 c2 (by omega) c4 (by rw [size_rep, List.size_toArray]; exact flen)) ⟨ho, ?_⟩
      rw [size_rep]
      exact new _ _ (vals_flat r k.toNat) (by rw [len]; exact hz) (q2 _ fr)

/-! ### repr -/
mutual
theorem dp_noDict {K : PySem.W.Frag} {H : Hp} : ∀ {v : V} {d : PyData}, Dp K H v d → d.hasDict = false
  | _, _, .non => rfl
  | _, _, .bl _ => rfl
  | _, _, .int _ => rfl
  | _, _, .str _ => rfl
  | _, _, .lst _ h => by simpa [PyData.hasDict] using dps_noDict h
  | _, _, .tup _ h => by simpa [PyData.hasDict] using dps_noDict h
theorem dps_noDict {K : PySem.W.Frag} {H : Hp} : ∀ {v : List V} {d : List PyData}, DpAll K H v d → PyData.hasDictAll d = false
  | _, _, .nil => rfl
  | _, _, .cons h hs => by simp [PyData.hasDictAll, dp_noDict h, dps_noDict hs]
end
theorem call_repr (bare : Bare X.A) (hu : X.A.units + 66 < cLine) : CallR X (.builtin "repr") (fun xs H Q => ∃ x d, xs = [x] ∧ Dp X.K H x d ∧ d.showable = true ∧ d.shown.length ≤ sizeLine ∧ d.depth ≤ 64 ∧ Q (.str d.shown) H) := by
  intro pins s σ H xs us Q I r h
  obtain ⟨x, d, rfl, hd, hs, hl, hp, q⟩ := h
  obtain ⟨u, rfl, ru⟩ := vals1 r
  have fin : ∀ (t : Tok) (h' : Heap) (tk : Nat), (∀ b o, s.heap.get? b = some o → h'.get? b = some o) → EP X pins σ Q (.str d.shown t) { s with heap := h', toks := tk } := fun t h' tk k => ⟨.str d.shown, H, I.kept k, ⟨t, rfl⟩, q⟩
  cases hd with
  | non => cases ru; exact PySem.P.repr_of_none (fin _ s.heap _ fun _ _ e => e)
  | bl b => cases ru; exact PySem.P.repr_of_bool (fin _ s.heap _ fun _ _ e => e)
  | int i =>
    obtain ⟨t, rfl⟩ := ru
    exact PySem.P.repr_of_int (by simpa [PyData.showable] using hs) (fin _ s.heap _ fun _ _ e => e)
  | str z =>
    obtain ⟨t, rfl⟩ := ru
    exact PySem.P.repr_of_str (fin _ s.heap _ fun _ _ e => e) hl
  | lst sq hs' =>
    have hd : Dp X.K H _ _ := .lst sq hs'
    obtain ⟨as, rd⟩ := Dp.reads I _ _ _ hd ru
    cases ru
    exact repr_of_reads' rd hs (PyData.noDict_hsm (dp_noDict hd)) bare (by omega) (fun _ _ e => e) (fun h' u tk k => fin u h' tk k) hl
  | tup sq hs' =>
    have hd : Dp X.K H _ _ := .tup sq hs'
    obtain ⟨as, rd⟩ := Dp.reads I _ _ _ hd ru
    cases ru
    exact repr_of_reads' rd hs (PyData.noDict_hsm (dp_noDict hd)) bare (by omega) (fun _ _ e => e) (fun h' u tk k => fin u h' tk k) hl

/-! ### sorted(list of plain data) -/
mutual
theorem RelP.dp {K : PySem.W.Frag} {H : Hp} : ∀ {x : P} {v : V}, RelP K H x v → Dp K H v x.py
  | _, _, .non => .non
  | _, _, .bl b => .bl b
  | _, _, .int b => .int b
  | _, _, .str b => .str b
  | _, _, .tup h hs => .tup h (RelPs.dps hs)
theorem RelPs.dps {K : PySem.W.Frag} {H : Hp} : ∀ {x : List P} {v : List V}, RelPs K H x v → DpAll K H v (P.pys x)
  | _, _, .nil => .nil
  | _, _, .cons h hs => .cons (RelP.dp h) (RelPs.dps hs)
end
mutual
theorem py_depth : ∀ x : P, x.py.depth = x.depth
  | .non => rfl
  | .bl _ => rfl
  | .int _ => rfl
  | .str _ => rfl
  | .tup xs => by simp only [P.py, PyData.depth, P.depth, pys_depth xs]
theorem pys_depth : ∀ x : List P, PyData.depthAll (P.pys x) = P.depths x
  | [] => rfl
  | x :: xs => by simp only [P.pys, PyData.depthAll, P.depths, py_depth x, pys_depth xs]
end
theorem sortable_alike {ps : List P} (h : sortable ps = true) : PySem.W.AllAlike (ps.map P.py) ∧ PySem.W.Sortable (ps.map P.py) ∧ ∀ x ∈ ps, x.depth ≤ 64 := by
  unfold sortable at h
  simp only [Bool.and_eq_true, Bool.or_eq_true, List.all_eq_true] at h
  obtain ⟨⟨h1, h2⟩, h3⟩ := h
  refine ⟨?_, ?_, fun x hx => by simpa using h3 x hx⟩
  · intro d hd d' hd'
    obtain ⟨x, hx, rfl⟩ := List.mem_map.mp hd
    obtain ⟨y, hy, rfl⟩ := List.mem_map.mp hd'
    exact h1 x hx y hy
  · rcases h2 with h2 | h2
    · left
      intro d hd
      obtain ⟨x, hx, rfl⟩ := List.mem_map.mp hd
      have := h2 x hx
      match x, this with
      | .tup (y :: ys), _ => exact ⟨y.py, P.pys ys, rfl⟩
    · right
      intro d hd
      obtain ⟨x, hx, rfl⟩ := List.mem_map.mp hd
      have := h2 x hx
      match x, this with
      | .bl _, _ => exact ⟨(fun z => by cases z), (fun _ z => by cases z)⟩
      | .int _, _ => exact ⟨(fun z => by cases z), (fun _ z => by cases z)⟩
      | .str _, _ => exact ⟨(fun z => by cases z), (fun _ z => by cases z)⟩
theorem le_dataLe : P.le = PySem.W.dataLe false P.py := by
  funext a b
  rw [PySem.W.dataLe_eq] <;> rfl
section
variable {X : Cx}
theorem each_of {K : PySem.W.Frag} {H : Hp} : ∀ {ps : List P} {vs : List V} {us : List Value}, RelPs K H ps vs → Vals vs us → PySem.W.EachIs (fun u p => ∃ v, RelP K H p v ∧ RelV v u) us ps
  | _, _, _, .nil, .nil => .nil
  | _, _, _, .cons h hs, .cons r rs => .cons ⟨_, h, r⟩ (each_of hs rs)
theorem of_each {K : PySem.W.Frag} {H : Hp} : ∀ {ps : List P} {us : List Value}, PySem.W.EachIs (fun u p => ∃ v, RelP K H p v ∧ RelV v u) us ps → ∃ vs, RelPs K H ps vs ∧ Vals vs us
  | _, _, .nil => ⟨[], .nil, .nil⟩
  | _, _, .cons ⟨v, h, r⟩ hs => let ⟨vs, a, b⟩ := of_each hs; ⟨v :: vs, .cons h a, .cons r b⟩
theorem call_sorted (hu : X.A.units + 66 < cLine) : CallR X (.builtin "sorted") (fun xs H Q => ∃ a vs ps, xs = [.ref a] ∧ SqL X.K H a vs ∧ RelPs X.K H ps vs ∧ sortable ps = true ∧
    ∀ p ws, H p = none → RelPs X.K H (ps.mergeSort P.le) ws → Q (.ref p) (upd H p (.lst ws))) := by
  intro pins s σ H xs us Q I r h
  obtain ⟨a, vs, ps, rfl, sq, rp, so, q⟩ := h
  obtain ⟨u, rfl, ru⟩ := vals1 r
  cases ru
  obtain ⟨its, rv, pl, hz⟩ := I.list sq
  obtain ⟨al, so, dp⟩ := sortable_alike so
  have e := each_of rp rv
  have lp : ps.length = vs.length := rp.length
  refine PySem.W.sorted_data (enc := P.py) (R := fun u p => ∃ v, RelP X.K H p v ∧ RelV v u) pl.isList e (e.mono fun u p ⟨v, h1, h2⟩ => Dp.reads I p.py v u h1.dp h2) al so (by omega) (fun b hb => by rw [py_depth]; have := dp b hb; omega) fun out lo eo => ?_
  rw [← le_dataLe] at eo
  obtain ⟨ws, r1, r2⟩ := of_each eo
  have fr : H (s.heap.objs.size + 1) = none := I.hok.fresh (Nat.le_succ _)
  obtain ⟨ep, at_⟩ := sortedAll_at s.heap its out.toArray
  refine ⟨.ref (s.heap.objs.size + 1), _, I.laid (o := .lst ws) (t' := s.toks) (fun b o h => sortedAll_old h) (Nat.le_succ _) ⟨?_, out, ep, r2, at_⟩, rfl, q _ ws fr r1⟩
  have := r2.length
  omega

/-! ### subscripts, targets, tests -/
theorem get_list : PGet X (rIxL X.K) := by
  intro pins s σ H o i ov iv Q I ro ri h
  obtain ⟨p, xs, i, z, rfl, rfl, hq, he, q⟩ := h
  cases ro
  obtain ⟨t, rfl⟩ := ri
  obtain ⟨its, r, pl, hz⟩ := I.list hq
  obtain ⟨j, h1, h2, h3, h4, h5⟩ := atI_get he
  obtain ⟨w, ew, rw'⟩ := r.get h2
  have hl := r.length
  have hn := line63
  have fin : EP X pins σ Q w s := ⟨z, H, I, rw', q⟩
  by_cases h0 : 0 ≤ i
  · have hj : i.toNat = j := by
      rw [seqIndex_of h0 h5] at h1
      exact Option.some.inj h1
    exact getItem_listL pl.isList h0 (by omega) (by rw [hj]; exact ew) fin
  · have hj : (i + (its.toArray.size : Int)).toNat = j := by
      rw [seqIndex_neg (by omega) h4] at h1
      rw [List.size_toArray, ← hl]
      exact Option.some.inj h1
    exact wpAny_getItem_list_neg pl.isList (by omega) (by rw [List.size_toArray] <;> omega) (by omega) (by rw [hj]; simpa using ew) fin
/-- o.f, a target -/
def gFld (K : PySem.W.Frag) (ta : TE) (f : Str) : TG := fun y σ H Q => ta σ H fun x H2 => ∃ a C dx fs, x = .ref a ∧ H2 a = some (.ins C dx fs) ∧ Cls K C ∧ NoAttr K C f ∧ fs.length < 1000 ∧ Q σ (upd H2 a (.ins C dx (putF f y fs)))
theorem pg_fld {o : Expr} {ta : TE} {f : Str} {pos : Pos} (ha : PE X o ta) : PG X (.Attribute o f pos) (gFld X.K ta f) := by
  refine ⟨fun pins s σ H v u Q I r h => ?_⟩
  show wpAny _ _ (do
    let ov ← holding [u] (eval o X.env)
    standAt pos.atName
    holding [u, ov] (setAttr ov f u)
    release [u, ov] []) _ _ s
  refine wpAny_bind (wpAny_holding (thn (ha.run pins s σ H _ I h) fun ov s1 ⟨x, H1, I1, r1, a, C, dx, fs, ex, ea, c, n, l, q⟩ => ?_))
  subst ex
  obtain rfl : ov = Value.ref a := r1
  refine wpAny_bind (wpAny_standAt (wpAny_bind (wpAny_holding (setattr_ok I1 ea c n l r fun s2 I2 => ?_))))
  exact wpAny_release ⟨σ, _, I2, q⟩
theorem pt_ifExp {c a b : Expr} {pos : Pos} {tc ta tb : TT} (hc : PT X c tc) (ha : PT X a ta) (hb : PT X b tb) : PT X (.IfExp c a b pos) (fun σ H Q => tc σ H fun k H1 => if k = true then ta σ H1 Q else tb σ H1 Q) := by
  refine ⟨fun pins s σ H Q I h => ?_⟩
  show wpAny _ _ (do if ← isTrue c X.env (eval c X.env) then isTrue a X.env (eval a X.env) else isTrue b X.env (eval b X.env)) _ _ s
  refine wpAny_bind (thn (hc.run pins s σ H _ I h) fun d s1 ⟨H1, I1, q1⟩ => ?_)
  cases d with
  | true => exact ha.run pins s1 σ H1 Q I1 q1
  | false => exact hb.run pins s1 σ H1 Q I1 q1
/-- a, b, c = x, y, z with plain local names: stored from the right -/
theorem ps_par3 {i j l : Nat} {x y z : Str} {a b c : Expr} {ta : TA} {px py pz pt : Pos} {kt k2 pt2} {pos : Pos} (hc : X.calm = true) (hN : X.N.Nodup) (hi : X.N[i]? = some x) (hj : X.N[j]? = some y) (hl : X.N[l]? = some z) (hij : i ≠ j) (hil : i ≠ l) (hjl : j ≠ l)
    (hx : X.env.scope.names.lookup x = some .local) (hy : X.env.scope.names.lookup y = some .local) (hz : X.env.scope.names.lookup z = some .local) (ha : PA X [a, b, c] ta)
    (hw : swappedStores [.Tuple [.Name x px, .Name y py, .Name z pz] kt pt] (.Tuple [a, b, c] k2 pt2) X.env = pure (some [x, y, z]))
    (hs : swapsWithSole [.Tuple [.Name x px, .Name y py, .Name z pz] kt pt] (.Tuple [a, b, c] k2 pt2) pos.line X.env = pure false := by rfl) :
    PS X (.Assign [.Tuple [.Name x px, .Name y py, .Name z pz] kt pt] (.Tuple [a, b, c] k2 pt2) pos) (fun D σ H => ta σ H fun vs H1 => ∃ u v w, vs = [u, v, w] ∧ D.nx (((σ.set i (some u)).set j (some v)).set l (some w)) H1) := by
  refine ⟨fun pins s σ H D I h => ?_⟩
  rw [exec_Assign_arm]
  refine wpAny_bind (wpAny_standAt ?_)
  rw [hs]
  refine wpAny_bind (wpAny_pure ?_)
  rw [if_neg (by decide)]
  refine wpAny_bind (Tuple_ (thn (ha.run _ pins s σ H _ I h) fun us s1 ⟨vs, H1, I1, r1, q1⟩ => ?_))
  obtain ⟨u, v, w, e1, q1⟩ := q1
  subst e1
  obtain ⟨u1, u2, u3, rfl, ru, rv, rw'⟩ : ∃ u1 u2 u3, us = [u1, u2, u3] ∧ RelV u u1 ∧ RelV v u2 ∧ RelV w u3 := by
    cases r1 with
    | cons p r =>
      cases r with
      | cons p' r =>
        cases r with
        | cons p'' r =>
          cases r
          exact ⟨_, _, _, rfl, p, p', p''⟩
  refine wpAny_newObj_type ?_ (by show 3 ≤ sizeLine; decide)
  have I2 : Inv X pins σ H1 { s1 with heap := s1.heap.push { cls := .type "tuple", data := .seq [u1, u2, u3].toArray } } := I1.kept (t' := s1.toks) fun b o e => Heap.get?_push_of_some _ e
  rw [hw]
  refine wpAny_bind (wpAny_pure ?_)
  show wpAny (model X.prog X.w) X.A (do rule "assign.swapped-stores"; let its ← unpackItems (.ref s1.heap.objs.size) 3 none; assignInOrder [fun v => bindName X.env z v, fun v => bindName X.env y v, fun v => bindName X.env x v] its.reverse; pure Flow.next) _ _ _
  refine wpAny_bind (wpAny_rule (wpAny_bind (unpackItems_tuple (items := #[u1, u2, u3]) (I.ok.hd hc) (IsTup.new s1.heap _) fun h' hx' => ?_)))
  have I3 := I2.kept (h' := h') (t' := s1.toks) fun b o e => hx' b o (Nat.ne_of_lt (Heap.lt_size e)) e
  show wpAny _ _ (assignInOrder [fun v => bindName X.env z v, fun v => bindName X.env y v, fun v => bindName X.env x v] [u3, u2, u1] >>= fun _ => pure Flow.next) _ _ _
  refine wpAny_bind (assignInOrder_cons (wpAny_bindName (store_ok I3 hN hl (.inl hz) rw' (fun s2 I4 => ?_) (.inr hz))))
  refine assignInOrder_cons (wpAny_bindName (store_ok I4 hN hj (.inl hy) rv (fun s3 I5 => ?_) (.inr hy)))
  refine assignInOrder_cons (wpAny_bindName (store_ok I5 hN hi (.inl hx) ru (fun s4 I6 => assignInOrder_nil (wpAny_pure ?_)) (.inr hx)))
  have sw : ((σ.set l (some w)).set j (some v)).set i (some u) = ((σ.set i (some u)).set j (some v)).set l (some w) := by
    rw [List.set_comm (some v) (some u) (Ne.symm hij), List.set_comm (some w) (some u) (Ne.symm hil), List.set_comm (some w) (some v) (Ne.symm hjl)]
  rw [sw] at I6
  exact ⟨_, H1, I6, q1⟩
end
end
end Pv

/-! G: what is walked: enumerate and zip over lists and tuples in any mix. -/
namespace Pv
open PySem L2 PySem.Spec PyProof.Rows

/-- a list (true) or a tuple (false) that is read -/
def SqB (K : PySem.W.Frag) (H : Hp) (a : Addr) (xs : List V) : Bool → Prop
  | true => SqL K H a xs
  | false => SqT K H a xs
def IsItB (h : Heap) (it a : Addr) (i : Nat) : Bool → Prop
  | true => h.IsListIter it a i
  | false => h.IsTupleIter it a i
def IsSrcB (h : Heap) (a : Addr) (xs : Array Value) : Bool → Prop
  | true => h.IsList a xs
  | false => h.IsTuple a xs
def newIt (a : Addr) : Bool → Obj
  | true => { cls := .type "list_iterator", data := .fields #[.ref a, .int 0 0] }
  | false => { cls := .type "tuple_iterator", data := .fields #[.ref a, .int 0 0] }
section
variable {X : Cx} {pins : List (Addr × Obj)} {σ : L2.St} {H : Hp} {s : Shared} {a : Addr} {xs ys : List V} {k : Bool}
theorem inv_src (I : Inv X pins σ H s) (h : SqB X.K H a xs k) : ∃ its : List Value, Vals xs its ∧ IsSrcB s.heap a its.toArray k ∧ xs.length ≤ sizeLine ∧ a < s.heap.objs.size := by
  cases k with
  | true => obtain ⟨its, r, p, z⟩ := I.list h; obtain ⟨_, e, _⟩ := id p.isList; exact ⟨its, r, p.isList, z, Heap.lt_size e⟩
  | false => obtain ⟨its, r, p, z⟩ := I.tuple h; exact ⟨its, r, p, z, p.lt⟩
theorem inv_src_inj (I : Inv X pins σ H s) (h : SqB X.K H a xs k) (h' : SqB X.K H a ys k) : xs = ys := by
  cases k with
  | true => exact I.list_inj h h'
  | false => exact I.tuple_inj h h'
theorem begins_src (k : Bool) (a : Addr) (xs : Array Value) : Begins (.ref a) (newIt a k) (fun h => IsSrcB h a xs k) := by
  cases k with
  | true => exact begins_list a xs
  | false => exact begins_tuple a xs
theorem draws_src {prog : Program} {w : World} {A : Around} (hh : A.handled = none) (k : Bool) (it a : Addr) (ne : a ≠ it) (xs : Array Value) : Draws prog w A it [it, a] xs.size (fun i v => xs[i]? = some v) (fun i h => IsItB h it a i k ∧ IsSrcB h a xs k) := by
  cases k with
  | true => exact Draws.list hh it a ne xs
  | false => exact Draws.tuple hh it a ne xs
theorem isIt_new {h : Heap} {it a : Addr} (k : Bool) (e : h.get? it = some (newIt a k)) : IsItB h it a 0 k := by
  cases k with
  | true => exact ⟨_, e, rfl, rfl⟩
  | false => exact ⟨_, e, rfl, rfl⟩
theorem isIt_at {h h' : Heap} {it a : Addr} {i : Nat} {k : Bool} (x : IsItB h it a i k) (hk : ∀ o, h.get? it = some o → h'.get? it = some o) : IsItB h' it a i k := by
  cases k with
  | true => exact Heap.IsListIter.at x hk
  | false => exact Heap.IsTupleIter.at x hk
theorem isIt_obj {h : Heap} {it a : Addr} {i : Nat} {k : Bool} (x : IsItB h it a i k) : ∃ o, h.get? it = some o ∧ ∀ v, o.data ≠ .cell v := by
  cases k with
  | true => obtain ⟨o, e, _, d⟩ := x; exact ⟨o, e, fun v z => by rw [d] at z; cases z⟩
  | false => obtain ⟨o, e, _, d⟩ := x; exact ⟨o, e, fun v z => by rw [d] at z; cases z⟩
end

/-! ### enumerate -/
def Ie (K : PySem.W.Frag) (a : Addr) (k : Bool) : It :=
  ⟨fun i H => ∃ (xs : List V) (x : V), SqB K H a xs k ∧ xs[i]? = some x, fun i H v H' => ∃ T x, v = .ref T ∧ H T = none ∧ H' = upd H T (.tup [.int (i : Nat), x]) ∧ ∀ xs, SqB K H a xs k → xs[i]? = some x, fun i H => ∃ xs : List V, SqB K H a xs k ∧ xs.length = i⟩
theorem turn_enumB {P : Program} {w : World} {K : PySem.W.Frag} {elts : List Expr} {kk : Nat} {tpos : Pos} (a e it : Addr) (k : Bool) (ne : a ≠ it) (ne2 : e ≠ it) (ne3 : e ≠ a) :
    Turn P w K (.Tuple elts kk tpos) (Ie K a k) [e, it] e (fun i h => (∃ old, IsEnum h e it ((0 : Int) + (i : Int)) old) ∧ IsItB h it a i k) where
  mem := by simp
  obj := fun i h st b hb => by
    obtain ⟨⟨old, he⟩, hi⟩ := st
    have e' : b = e ∨ b = it := by simpa using hb
    rcases e' with z | z
    · rw [z]; exact ⟨_, he, fun v q => nomatch q⟩
    · rw [z]; exact isIt_obj hi
  keep := fun i h h' st k => let ⟨⟨old, he⟩, hi⟩ := st; ⟨⟨old, k e (by simp) _ he⟩, isIt_at hi fun o q => k it (by simp) o q⟩
  item := by
    intro X hP hw hK hc i pins s σ H E I hf st hg
    subst hP hw hK
    obtain ⟨⟨old, he⟩, hi⟩ := st
    obtain ⟨xs, x, sq, hx⟩ := hg
    obtain ⟨its, rv, src, hz, la⟩ := inv_src I sq
    obtain ⟨u, hu, ru⟩ := rv.get hx
    have il : i < its.toArray.size := by simpa using (List.getElem?_eq_some_iff.mp hu).1
    have hel : e < s.heap.objs.size := Heap.lt_size he
    obtain ⟨oi, hoi, _⟩ := isIt_obj hi
    have hil : it < s.heap.objs.size := Heap.lt_size hoi
    have G := GoesN.enumFrom (prog := X.prog) (w := X.w) (A := X.A) (elts := elts) (x1 := kk) (pos := tpos) 0 (draws_src (A := X.A.in1) (I.ok.hd hc) k it a ne its.toArray) e ne2 (by simp [ne2, ne3]) (by simp)
    refine thn (G.goes i s (fun v s2 => ∃ x H', Inv X pins σ H' s2 ∧ RelV x v ∧ (Ie X.K a k).yld i H x H' ∧ ((∃ old, IsEnum s2.heap e it ((0 : Int) + ((i + 1 : Nat) : Int)) old) ∧ IsItB s2.heap it a (i + 1) k) ∧ ∀ b ∈ [e, it], H' b = none) E il ⟨⟨old, he⟩, hi, src⟩ ?_) fun r s1 ⟨v, e1, q⟩ => ⟨v, e1, q⟩
    rintro v h' tk ⟨T, t, y, rfl, hT, hy, isT⟩ ⟨en, hi', _⟩ hk htk
    have ey : y = u := by
      have : its.toArray[i]? = some u := by simpa using hu
      rw [this] at hy; exact (Option.some.inj hy).symm
    subst ey
    have new : ObjOk X.prog X.w (upd H T (.tup [.int (i : Nat), x])) h' T (.tup [.int (i : Nat), x]) :=
      ⟨by show 2 ≤ sizeLine; decide, [.int ((0 : Int) + (i : Int)) t, y], .cons ⟨t, by rw [Int.zero_add]⟩ (.cons ru .nil), (by have := isT; simpa [IsTup, Heap.IsTuple] using this)⟩
    have J : Inv X pins σ (upd H T (.tup [.int (i : Nat), x])) { s with heap := h', toks := tk } := I.turnedNew (ch := [e, it]) (fun b ob hb q => hk b ob hb q) hf hT new
    refine ⟨.ref T, _, J, rfl, ⟨T, x, rfl, I.hok.fresh hT, rfl, fun ys hy => by rw [inv_src_inj I hy sq]; exact hx⟩, ⟨en, hi'⟩, fun b hb => ?_⟩
    have hb' : b < s.heap.objs.size := by
      have e' : b = e ∨ b = it := by simpa using hb
      rcases e' with z | z
      · rw [z]; exact hel
      · rw [z]; exact hil
    rw [upd_ne (Nat.ne_of_lt (Nat.lt_of_lt_of_le hb' hT))]
    exact (hf b hb).1
  done := by
    intro X hP hw hK hc i pins s σ H E I hf st hg
    subst hP hw hK
    obtain ⟨⟨old, he⟩, hi⟩ := st
    obtain ⟨xs, sq, hx⟩ := hg
    obtain ⟨its, rv, src, hz, la⟩ := inv_src I sq
    have en : i = its.toArray.size := by rw [List.size_toArray, ← rv.length, hx]
    have G := GoesN.enumFrom (prog := X.prog) (w := X.w) (A := X.A) (elts := elts) (x1 := kk) (pos := tpos) 0 (draws_src (A := X.A.in1) (I.ok.hd hc) k it a ne its.toArray) e ne2 (by simp [ne2, ne3]) (by simp)
    exact G.stops s (fun s1 => Inv X pins σ H s1) E ⟨⟨old, by rw [← en]; exact he⟩, by rw [← en]; exact hi, src⟩ fun h' tk hk _ => I.turnedL (ch := [e, it]) (fun c o hb q => hk c o hb q) hf
  self := fun A i s Q E st h => let ⟨⟨_, he⟩, _⟩ := st; wpAny_pyIter_enum he h
theorem meets_enumerate_1B {v : Value} {o : Obj} {H : Heap → Prop} (B : Begins v o H) :
    Meets (Builtin.«enumerate.__new__» ⟨[.type "enumerate", v], []⟩) (fun _ R s => H s.heap ∧
      R (.ok (.ret (.ref (s.heap.push o).objs.size))) { s with heap := (s.heap.push o).push { cls := .type "enumerate", data := .fields #[.none, .bool false, .ref s.heap.objs.size, rawInt 0, .none, .none] } }) :=
  .of_wp fun prog w A R s h => by
    obtain ⟨hp, g, d, tk, os⟩ := s
    obtain ⟨h1, h⟩ := h
    have hsub := sub_enumerate
    have q1 : ∀ {A' : Around} {E : Value → Shared → Prop} {Q : Value → Shared → Prop}, Q (.ref hp.objs.size) ⟨hp.push o, g, d, tk, os⟩ → wpAny (model prog w) A' (pyIter v) Q E ⟨hp, g, d, tk, os⟩ :=
      fun q => B.iter prog w _ _ ⟨hp, g, d, tk, os⟩ _ h1 q
    wp_walk using q1
    refine wpAny_stack_any fun st => wpAny_pure ?_
    split
    · rename_i c _ _ _ _ _
      cases (c == Value.type "enumerate")
      · wp_walk using q1
        exact ⟨_, rfl, h⟩
      · wp_walk using q1
        exact ⟨_, rfl, h⟩
    · wp_walk using q1
      exact ⟨_, rfl, h⟩
theorem enum_begins1 {prog : Program} {w : World} {A : Around} {E : Value → Shared → Prop} {s : Shared} {v : Value} {o : Obj} {H : Heap → Prop} {Q : Value → Shared → Prop} (B : Begins v o H) (h1 : H s.heap)
    (h : ∀ h', IsEnum h' (s.heap.objs.size + 1) s.heap.objs.size 0 .none → h'.get? s.heap.objs.size = some o → h'.objs.size = s.heap.objs.size + 2 → (∀ b o, s.heap.get? b = some o → h'.get? b = some o) → Q (.ref (s.heap.objs.size + 1)) { s with heap := h' }) :
    wpAny (model prog w) A (call (.type "enumerate") [v]) Q E s := by
  refine callType_new F.called_enumerate (by decide) (F.typeCall_enumerate_1 _) (F.newCall_enumerate_1 _) (fun obj => F.args_object_init_2 obj _) F.entry_enumerate_new (meets_enumerate_1B B) ⟨h1, ?_⟩
  have hz : (s.heap.push o).objs.size = s.heap.objs.size + 1 := Heap.size_push ..
  show _ ∧ _
  rw [hz]
  have e1 : (s.heap.push o).get? s.heap.objs.size = some o := by
    have hd : o.isFreed = false := B.free
    exact Heap.get?_push_size _ (by first | exact hd | (cases o; rename_i c d dt sl; cases dt <;> first | rfl | (simp [Obj.isFreed] at hd)))
  refine ⟨⟨{ cls := .type "enumerate", data := .fields #[.none, .bool false, .ref s.heap.objs.size, rawInt 0, .none, .none] }, ?_, rfl⟩, h _ ?_ ?_ ?_ ?_⟩
  · rw [← hz]; exact Heap.get?_push_size _ rfl
  · have := Heap.get?_push_size (s.heap.push o) (o := { cls := .type "enumerate", data := .fields #[.none, .bool false, .ref s.heap.objs.size, rawInt 0, .none, .none] }) rfl
    rw [hz] at this
    exact this
  · exact Heap.get?_push_of_some _ e1
  · rw [Heap.size_push, hz]
  · exact fun b o e => Heap.get?_push_of_some _ (Heap.get?_push_of_some _ e)
def iEnumB (K : PySem.W.Frag) (ta : TA) : TI := fun σ H R => ta σ H fun vs H1 => ∃ a xs k, vs = [.ref a] ∧ SqB K H1 a xs k ∧ R (Ie K a k) H1
theorem pi_enumB {X : Cx} {e : Expr} {ta : TA} {p pos tpos : Pos} {elts : List Expr} {kk : Nat} (hg : Gl X "enumerate") (hm : X.mg "enumerate" = none) (ha : PA X [e] ta) (hs : starEach [e] X.env = [(false, eval e X.env)] := by rfl) :
    PI X (.Tuple elts kk tpos) (.Call (.Name "enumerate" p) [e] [] pos) (iEnumB X.K ta) := by
  refine ⟨fun pins s σ H R I h => ?_⟩
  refine Call_ (ld_blt I hg hm boot_enumerate (PyProof.Rows.callWith_type1 (thn (ha.run pos pins s σ H _ I h) fun us s1 ⟨vs, H1, I1, r1, q1⟩ => ?_) hs rfl))
  obtain ⟨a, xs, k, ex, sq, q⟩ := q1
  subst ex
  obtain ⟨u, rfl, ru⟩ := vals1 r1
  cases ru
  obtain ⟨its, rv, src, hz, la⟩ := inv_src I1 sq
  refine enum_begins1 (begins_src k a its.toArray) src fun h' he hit hsz hk => wpAny_pyIter_enum he ?_
  have I2 : Inv X pins σ H1 { s1 with heap := h' } := I1.kept (t' := s1.toks) hk
  refine ⟨s1.heap.objs.size + 1, [s1.heap.objs.size + 1, s1.heap.objs.size], _, _, H1, rfl, I2, turn_enumB a (s1.heap.objs.size + 1) s1.heap.objs.size k (Nat.ne_of_lt la) (Nat.succ_ne_self _) (Nat.ne_of_gt (Nat.lt_succ_of_lt la)), ⟨⟨.none, he⟩, isIt_new k hit⟩, fun b hb => ?_, q⟩
  have hle : s1.heap.objs.size ≤ b := by
    have e' : b = s1.heap.objs.size + 1 ∨ b = s1.heap.objs.size := by simpa using hb
    rcases e' with z | z
    · rw [z]; exact Nat.le_add_right _ _
    · rw [z]; exact Nat.le_refl _
  exact I1.fpOk hle (I1.hok.fresh hle)

/-! ### zip -/
def Iz (K : PySem.W.Frag) (a b : Addr) (k l : Bool) : It :=
  ⟨fun i H => ∃ (xs ys : List V) (x y : V), SqB K H a xs k ∧ SqB K H b ys l ∧ xs[i]? = some x ∧ ys[i]? = some y,
    fun i H v H' => ∃ T x y, v = .ref T ∧ H T = none ∧ H' = upd H T (.tup [x, y]) ∧ (∀ xs, SqB K H a xs k → xs[i]? = some x) ∧ ∀ ys, SqB K H b ys l → ys[i]? = some y,
    fun i H => ∃ xs ys : List V, SqB K H a xs k ∧ SqB K H b ys l ∧ min xs.length ys.length = i⟩
theorem turn_zipB {P : Program} {w : World} {K : PySem.W.Frag} {elts : List Expr} {kk : Nat} {tpos : Pos} {a b z TI TO i1 i2 : Addr} (k l : Bool) (D : ZipSep2 z TI TO i1 i2 [i1, a] [i2, b]) (n1 : a ≠ i1) (n2 : b ≠ i2) :
    Turn P w K (.Tuple elts kk tpos) (Iz K a b k l) [z, TI, TO, i1, i2] z (fun i h => IsZip h z TI TO .none ∧ IsTupOf2 h TI (.ref i1) (.ref i2) ∧ (∃ x y, IsTupOf2 h TO x y) ∧ IsItB h i1 a i k ∧ IsItB h i2 b i l) where
  mem := by simp
  obj := fun i h st c hc => by
    obtain ⟨hz, hTI, ⟨x, y, hTO⟩, h1, h2⟩ := st
    have e' : c = z ∨ c = TI ∨ c = TO ∨ c = i1 ∨ c = i2 := by simpa using hc
    rcases e' with q | q | q | q | q
    · rw [q]; exact ⟨_, hz, fun v q => nomatch q⟩
    · rw [q]; exact ⟨_, hTI, fun v q => nomatch q⟩
    · rw [q]; exact ⟨_, hTO, fun v q => nomatch q⟩
    · rw [q]; exact isIt_obj h1
    · rw [q]; exact isIt_obj h2
  keep := fun i h h' st k => by
    obtain ⟨hz, hTI, ⟨x, y, hTO⟩, h1, h2⟩ := st
    exact ⟨k z (by simp) _ hz, k TI (by simp) _ hTI, ⟨x, y, k TO (by simp) _ hTO⟩, isIt_at h1 fun o q => k i1 (by simp) o q, isIt_at h2 fun o q => k i2 (by simp) o q⟩
  item := by
    intro X hP hw hK hc i pins s σ H E I hf st hg
    subst hP hw hK
    obtain ⟨hz, hTI, hTO, h1, h2⟩ := st
    obtain ⟨xs, ys, x, y, sx, sy, hx, hy⟩ := hg
    obtain ⟨its, rv, src, _, _⟩ := inv_src I sx
    obtain ⟨its2, rv2, src2, _, _⟩ := inv_src I sy
    obtain ⟨u, hu, ru⟩ := rv.get hx
    obtain ⟨u2, hu2, ru2⟩ := rv2.get hy
    have il : i < min its.toArray.size its2.toArray.size := Nat.lt_min.mpr ⟨by simpa using (List.getElem?_eq_some_iff.mp hu).1, by simpa using (List.getElem?_eq_some_iff.mp hu2).1⟩
    have lt : ∀ c ∈ [z, TI, TO, i1, i2], c < s.heap.objs.size := fun c hc => by
      have e' : c = z ∨ c = TI ∨ c = TO ∨ c = i1 ∨ c = i2 := by simpa using hc
      rcases e' with q | q | q | q | q
      · rw [q]; exact Heap.lt_size hz
      · rw [q]; exact Heap.lt_size hTI
      · rw [q]; obtain ⟨_, _, e⟩ := hTO; exact Heap.lt_size e
      · rw [q]; obtain ⟨_, e, _⟩ := isIt_obj h1; exact Heap.lt_size e
      · rw [q]; obtain ⟨_, e, _⟩ := isIt_obj h2; exact Heap.lt_size e
    have G := GoesN.zip2 (prog := X.prog) (w := X.w) (A := X.A) (elts := elts) (x1 := kk) (pos := tpos) D (draws_src (A := X.A.in1) (I.ok.hd hc) k i1 a n1 its.toArray) (draws_src (A := X.A.in1) (I.ok.hd hc) l i2 b n2 its2.toArray)
    refine thn (G.goes i s (fun v s2 => ∃ x H', Inv X pins σ H' s2 ∧ RelV x v ∧ (Iz X.K a b k l).yld i H x H' ∧ (IsZip s2.heap z TI TO .none ∧ IsTupOf2 s2.heap TI (.ref i1) (.ref i2) ∧ (∃ x y, IsTupOf2 s2.heap TO x y) ∧ IsItB s2.heap i1 a (i + 1) k ∧ IsItB s2.heap i2 b (i + 1) l) ∧ ∀ b ∈ [z, TI, TO, i1, i2], H' b = none) E il ⟨hz, hTI, hTO, ⟨h1, src⟩, h2, src2⟩ ?_) fun r s1 ⟨v, e1, q⟩ => ⟨v, e1, q⟩
    rintro v h' tk ⟨T, y1, y2, rfl, hT, e1, e2, isT⟩ ⟨hz', hTI', hTO', ⟨h1', _⟩, h2', _⟩ hk htk
    have ey : y1 = u := by
      have : its.toArray[i]? = some u := by simpa using hu
      rw [this] at e1; exact (Option.some.inj e1).symm
    have ey2 : y2 = u2 := by
      have : its2.toArray[i]? = some u2 := by simpa using hu2
      rw [this] at e2; exact (Option.some.inj e2).symm
    subst ey ey2
    have new : ObjOk X.prog X.w (upd H T (.tup [x, y])) h' T (.tup [x, y]) :=
      ⟨by show 2 ≤ sizeLine; decide, [y1, y2], .cons ru (.cons ru2 .nil), (by have := isT; simpa [IsTup, Heap.IsTuple] using this)⟩
    have J : Inv X pins σ (upd H T (.tup [x, y])) { s with heap := h', toks := tk } := I.turnedNew (ch := [z, TI, TO, i1, i2]) (fun b ob hb q => hk b ob (fun m => hb (by
      have e' : b = z ∨ b = TO ∨ b = i1 ∨ b = i2 := by simpa using m
      rcases e' with q | q | q | q <;> simp [q])) q) hf hT new
    refine ⟨.ref T, _, J, rfl, ⟨T, x, y, rfl, I.hok.fresh hT, rfl, (fun zs hz => by rw [inv_src_inj I hz sx]; exact hx), (fun zs hz => by rw [inv_src_inj I hz sy]; exact hy)⟩, ⟨hz', hTI', hTO', h1', h2'⟩, fun c hcm => ?_⟩
    rw [upd_ne (Nat.ne_of_lt (Nat.lt_of_lt_of_le (lt c hcm) hT))]
    exact (hf c hcm).1
  done := by
    intro X hP hw hK hc i pins s σ H E I hf st hg
    subst hP hw hK
    obtain ⟨hz, hTI, hTO, h1, h2⟩ := st
    obtain ⟨xs, ys, sx, sy, hx⟩ := hg
    obtain ⟨its, rv, src, _, _⟩ := inv_src I sx
    obtain ⟨its2, rv2, src2, _, _⟩ := inv_src I sy
    have en : i = min its.toArray.size its2.toArray.size := by rw [List.size_toArray, List.size_toArray, ← rv.length, ← rv2.length, hx]
    have G := GoesN.zip2 (prog := X.prog) (w := X.w) (A := X.A) (elts := elts) (x1 := kk) (pos := tpos) D (draws_src (A := X.A.in1) (I.ok.hd hc) k i1 a n1 its.toArray) (draws_src (A := X.A.in1) (I.ok.hd hc) l i2 b n2 its2.toArray)
    refine G.stops s (fun s1 => Inv X pins σ H s1) E ⟨hz, hTI, hTO, ⟨by rw [← en]; exact h1, src⟩, by rw [← en]; exact h2, src2⟩ fun h' tk hk _ => I.turnedL (ch := [z, TI, TO, i1, i2]) (fun c o hb q => hk c o (fun m => hb ?_) q) hf
    have e' : c = z ∨ c = TO ∨ c = i1 ∨ c = i2 := by simpa using m
    rcases e' with q | q | q | q <;> simp [q]
  self := fun A i s Q E st h => wpAny_pyIter_zip st.1 h
def iZipB (K : PySem.W.Frag) (ta : TA) : TI := fun σ H R => ta σ H fun vs H1 => ∃ a b xs ys k l, vs = [.ref a, .ref b] ∧ SqB K H1 a xs k ∧ SqB K H1 b ys l ∧ R (Iz K a b k l) H1
theorem pi_zipB {X : Cx} {e e2 : Expr} {ta : TA} {p pos tpos : Pos} {elts : List Expr} {kk : Nat} (hg : Gl X "zip") (hm : X.mg "zip" = none) (ha : PA X [e, e2] ta)
    (hs : starEach [e, e2] X.env = (false, eval e X.env) :: starEach [e2] X.env := by rfl) (hpl : (backTo pos (starEach [e2] X.env)).any (·.1) = false := by rfl) :
    PI X (.Tuple elts kk tpos) (.Call (.Name "zip" p) [e, e2] [] pos) (iZipB X.K ta) := by
  refine ⟨fun pins s σ H R I h => ?_⟩
  refine Call_ (ld_blt I hg hm PyProof.Rows.boot_zip (PyProof.Rows.callWith_type1 (thn (ha.run pos pins s σ H _ I h) fun us s1 ⟨vs, H1, I1, r1, q1⟩ => ?_) hs hpl))
  obtain ⟨a, b, xs, ys, k, l, ex, sx, sy, q⟩ := q1
  subst ex
  obtain ⟨u, u', rfl, ru, ru'⟩ := vals2 r1
  cases ru
  cases ru'
  obtain ⟨its, rv, src, _, la⟩ := inv_src I1 sx
  obtain ⟨its2, rv2, src2, _, lb⟩ := inv_src I1 sy
  refine zip_begins2 (begins_src k a its.toArray) (begins_src l b its2.toArray) src src2 fun h' hz hTI hTO e1 e2 hsz hk => wpAny_pyIter_zip hz ?_
  have I2 : Inv X pins σ H1 { s1 with heap := h' } := I1.kept (t' := s1.toks) hk
  refine ⟨s1.heap.objs.size + 4, [s1.heap.objs.size + 4, s1.heap.objs.size + 2, s1.heap.objs.size + 3, s1.heap.objs.size, s1.heap.objs.size + 1], _, _, H1, rfl, I2, turn_zipB (a := a) (b := b) k l (zip_sep2 (by simpa using la) (by simpa using lb)) (Nat.ne_of_lt la) (Nat.ne_of_lt (Nat.lt_succ_of_lt lb)),
    ⟨hz, hTI, ⟨_, _, hTO⟩, isIt_new k e1, isIt_new l e2⟩, fun c hc => ?_, q⟩
  have hle : s1.heap.objs.size ≤ c := by
    have e' : c = s1.heap.objs.size + 4 ∨ c = s1.heap.objs.size + 2 ∨ c = s1.heap.objs.size + 3 ∨ c = s1.heap.objs.size ∨ c = s1.heap.objs.size + 1 := by simpa using hc
    rcases e' with z | z | z | z | z <;> rw [z] <;> first | exact Nat.le_refl _ | exact Nat.le_add_right _ _
  exact I1.fpOk hle (I1.hok.fresh hle)

/-! ### a list, a tuple itself, its length known -/
def iSeq (K : PySem.W.Frag) (tl : TE) : TI := fun σ H R => tl σ H fun x H1 => ∃ a xs k, x = .ref a ∧ SqB K H1 a xs k ∧ (xs.length ≤ sizeLine → R (if k then Itl K a else Itt K a) H1)
theorem pi_seq {X : Cx} {tg l : Expr} {tl : TE} (hl : PE X l tl) : PI X tg l (iSeq X.K tl) := by
  refine ⟨fun pins s σ H R I h => ?_⟩
  refine thn (hl.run pins s σ H _ I h) fun v s1 ⟨x, H1, I1, r1, q1⟩ => ?_
  obtain ⟨a, xs, k, e, sq, q⟩ := q1
  subst e
  cases r1
  cases k with
  | true =>
    obtain ⟨its, rv, p, hz⟩ := I1.list sq
    refine wpAny_pyIter_list p.isList ⟨s1.heap.objs.size, [s1.heap.objs.size], _, _, H1, rfl, I1.kept (t' := s1.toks) fun b o e => Heap.get?_push_of_some _ e, turn_list a _, ⟨_, Heap.get?_push_size _ rfl, rfl, rfl⟩, fun b hb => ?_, q hz⟩
    obtain rfl : b = s1.heap.objs.size := by simpa using hb
    exact I1.fpOk (Nat.le_refl _) (I1.hok.fresh (Nat.le_refl _))
  | false =>
    obtain ⟨its, rv, p, hz⟩ := I1.tuple sq
    refine wpAny_pyIter_tuple (show s1.heap.IsTuple a its.toArray from p) ⟨s1.heap.objs.size, [s1.heap.objs.size], _, _, H1, rfl, I1.kept (t' := s1.toks) fun b o e => Heap.get?_push_of_some _ e, turn_tuple a _, ⟨_, Heap.get?_push_size _ rfl, rfl, rfl⟩, fun b hb => ?_, q hz⟩
    obtain rfl : b = s1.heap.objs.size := by simpa using hb
    exact I1.fpOk (Nat.le_refl _) (I1.hok.fresh (Nat.le_refl _))
end Pv

/-! H: the values' operations keep what the evaluator says. -/
namespace Pv
open PySem L2 PySem.Spec PyProof.Rows

structure Ct where
  cls : Nat → Option Addr
  fld : Nat → Option Str
  fok : Nat → Nat → Bool
abbrev tb (X : Cx) (c : Ct) : Tb := ⟨X.prog, X.w, X.K, c.cls, c.fld, c.fok⟩
@[simp] theorem mkT_map (xs : List P) : mkT (xs.map .p) = .p (.tup xs) := by simp [mkT]
theorem upd_tup {K : PySem.W.Frag} {H : Hp} {p : Addr} {vs : List V} : SqT K (upd H p (.tup vs)) p vs := .inl (.inl upd_same)

section
variable {X : Cx} {c : Ct} {pins : List (Addr × Obj)} {σ : L2.St} {H : Hp} {s : Shared} {W : WX} {ρ : Nat → Addr} {h : Hh} {Q : VK} {a b : D} {x y : V} {v u : Value} {p : Addr} {ds : List D} {vs : List V}
/-- a new tuple, a new list -/
theorem Out.newT (o : Out (tb X c) RL.d W h.length ρ H σ Q (.ok (mkT ds) h)) (R : RelH (tb X c) ρ h H) (r : RelDs X.K H h.length ρ ds vs) (hp : H p = none) : Q (.ref p) (upd H p (.tup vs)) :=
  o ρ (.ref p) _ (Nat.le_refl _) (Ext.refl _ _) (keep_new hp) (R.pad hp) (RelD.mkT upd_tup (r.mono (keep_new hp) (Ext.refl _ _) (Nat.le_refl _)))
theorem Out.newL (o : Out (tb X c) RL.d W h.length ρ H σ Q (mk (.lst ds) h)) (R : RelH (tb X c) ρ h H) (r : RelDs X.K H h.length ρ ds vs) (hp : H p = none) : Q (.ref p) (upd H p (.lst vs)) := by
  obtain ⟨ρ', e0, e1, R'⟩ := R.new (o := .lst ds) hp (fun ρ' e0 e1 => ⟨vs, upd_same, r.mono (keep_new hp) e1 (Nat.le_succ _)⟩)
  refine o ρ' (.ref p) _ (by simp) e1 (keep_new hp) R' ?_
  have q : RelD X.K (upd H p (.lst vs)) (h ++ [O.lst ds]).length ρ' (.r h.length) (.ref (ρ' h.length)) := .r (by simp)
  rw [e0] at q
  exact q
theorem lst_at {xs : List D} (R : RelH (tb X c) ρ h H) (r : RelD X.K H h.length ρ a x) (e : lstOf h a = some xs) : ∃ q vs, x = .ref q ∧ SqL X.K H q vs ∧ RelDs X.K H h.length ρ xs vs := by
  cases r with
  | p _ => cases e
  | t _ _ => cases e
  | r hi =>
    rename_i i
    simp only [lstOf] at e
    cases g : h[i]? with
    | none => rw [g] at e; cases e
    | some ob =>
      rw [g] at e
      have ro := R.obj i ob g
      cases ob with
      | lst ys => cases e; obtain ⟨vs, q, r⟩ := ro; exact ⟨_, vs, rfl, .inl (.inl q), r⟩
      | ro ys => cases e; obtain ⟨vs, q, r⟩ := ro; exact ⟨_, vs, rfl, q.sq, r.toDs⟩
      | dct _ => cases e
      | set _ => cases e
      | ins _ _ => cases e
theorem mut_at {xs : List D} (R : RelH (tb X c) ρ h H) (r : RelD X.K H h.length ρ a x) (e : mutOf h a = some xs) : ∃ i vs, a = .r i ∧ h[i]? = some (.lst xs) ∧ x = .ref (ρ i) ∧ H (ρ i) = some (.lst vs) ∧ RelDs X.K H h.length ρ xs vs := by
  cases r with
  | p _ => cases e
  | t _ _ => cases e
  | r hi =>
    rename_i i
    simp only [mutOf] at e
    cases g : h[i]? with
    | none => rw [g] at e; cases e
    | some ob =>
      rw [g] at e
      have ro := R.obj i ob g
      cases ob with
      | lst ys => cases e; obtain ⟨vs, q, r⟩ := ro; exact ⟨i, vs, rfl, g, rfl, q, r⟩
      | ro ys => cases e
      | dct _ => cases e
      | set _ => cases e
      | ins _ _ => cases e
theorem seq_at {xs : List D} (R : RelH (tb X c) ρ h H) (r : RelD X.K H h.length ρ a x) (e : seqOf h a = some xs) : ∃ q vs k, x = .ref q ∧ SqB X.K H q vs k ∧ RelDs X.K H h.length ρ xs vs := by
  cases r with
  | p r =>
    cases r with
    | tup q rs => cases e; exact ⟨_, _, false, rfl, q, rs.toDs⟩
    | non => cases e
    | bl _ => cases e
    | int _ => cases e
    | str _ => cases e
  | t q rs => cases e; exact ⟨_, _, false, rfl, q, rs⟩
  | r hi =>
    obtain ⟨q, vs, e1, e2, e3⟩ := lst_at R (.r hi) e
    exact ⟨q, vs, true, e1, e2, e3⟩
theorem RelDs.nil_iff {K : PySem.W.Frag} {n : Nat} (r : RelDs K H n ρ ds vs) : vs = [] → ds = [] := by
  rintro rfl
  cases r
  rfl

/-! ### + and so on -/
theorem cat_ok {d1 d2 : List D} (I : Inv X pins σ H s) (rx : RelV x v) (ry : RelV y u) (R : RelH (tb X c) ρ h H) (ra : RelD X.K H h.length ρ a x) (rb : RelD X.K H h.length ρ b y)
    (e1 : a.items = some d1) (e2 : b.items = some d2) (l : d1.length + d2.length ≤ sizeLine) (o : Out (tb X c) RL.d W h.length ρ H σ Q (.ok (mkT (d1 ++ d2)) h)) : wpAny (model X.prog X.w) X.A (binaryOp .Add v u) (EP X pins σ Q) X.xe s := by
  obtain ⟨q1, vs1, rfl, t1, r1⟩ := ra.items e1
  obtain ⟨q2, vs2, rfl, t2, r2⟩ := rb.items e2
  refine op_catA pins s σ H _ _ v u Q I rx ry ⟨q1, q2, vs1, vs2, rfl, rfl, t1, t2, by rw [← r1.length, ← r2.length]; exact l, fun e => ?_, fun _ e => ?_, fun _ _ p hp => ?_⟩
  · have e' := RelDs.nil_iff r1 e
    subst e'
    exact o.ret R (RelD.mkT t2 r2)
  · have e' := RelDs.nil_iff r2 e
    subst e'
    rw [List.append_nil] at o
    exact o.ret R (RelD.mkT t1 r1)
  · exact o.newT R (r1.append r2) hp
theorem catL_ok {d1 d2 : List D} (I : Inv X pins σ H s) (rx : RelV x v) (ry : RelV y u) (R : RelH (tb X c) ρ h H) (ra : RelD X.K H h.length ρ a x) (rb : RelD X.K H h.length ρ b y)
    (e1 : mutOf h a = some d1) (e2 : mutOf h b = some d2) (l : d1.length + d2.length ≤ sizeLine) (o : Out (tb X c) RL.d W h.length ρ H σ Q (mk (.lst (d1 ++ d2)) h)) : wpAny (model X.prog X.w) X.A (binaryOp .Add v u) (EP X pins σ Q) X.xe s := by
  obtain ⟨i1, vs1, _, _, rfl, t1, r1⟩ := mut_at R ra e1
  obtain ⟨i2, vs2, _, _, rfl, t2, r2⟩ := mut_at R rb e2
  exact op_cat pins s σ H _ _ v u Q I rx ry ⟨_, _, vs1, vs2, rfl, rfl, t1, t2, by rw [← r1.length, ← r2.length]; exact l, fun p hp => o.newL R (r1.append r2) hp⟩
theorem mulOk_c {i j : Int} (h : mulOk i j = true) : CMul i j := by
  simpa [mulOk, CMul] using h
theorem RelPs.flat {K : PySem.W.Frag} {H : Hp} {xs : List P} {vs : List V} (r : RelPs K H xs vs) : ∀ n : Nat, RelPs K H (List.replicate n xs).flatten (List.replicate n vs).flatten
  | 0 => .nil
  | n + 1 => by
    rw [List.replicate_succ, List.replicate_succ, List.flatten_cons, List.flatten_cons]
    exact r.append (RelPs.flat r n)
theorem RelDs.flat {K : PySem.W.Frag} {n : Nat} (r : RelDs K H n ρ ds vs) : ∀ k : Nat, RelDs K H n ρ (List.replicate k ds).flatten (List.replicate k vs).flatten
  | 0 => .nil
  | k + 1 => by
    rw [List.replicate_succ, List.replicate_succ, List.flatten_cons, List.flatten_cons]
    exact r.append (RelDs.flat r k)
theorem bin_ok {op : Operator} {bo : Bin} (ho : binOf op = some bo) (I : Inv X pins σ H s) (rx : RelV x v) (ry : RelV y u) (R : RelH (tb X c) ρ h H) (ra : RelD X.K H h.length ρ a x) (rb : RelD X.K H h.length ρ b y)
    (o : Out (tb X c) RL.d W h.length ρ H σ Q (binS bo a b h)) : wpAny (model X.prog X.w) X.A (binaryOp op v u) (EP X pins σ Q) X.xe s := by
  have two : ∀ (f : Int → Int → D → Prop), True := fun _ => trivial
  cases op with
  | Add =>
    cases ho
    simp only [binS, addS] at o
    split at o
    · split at o
      · cases ra with | p ra => cases rb with | p rb => cases ra with | int i => cases rb with | int j => exact op_add pins s σ H _ _ v u Q I rx ry ⟨_, _, rfl, rfl, o.ret R (.p (.int _))⟩
      · exact o.elim
    · split at o
      · cases ra with | p ra => cases rb with | p rb => cases ra with | str i => cases rb with | str j =>
          split at o
          · rename_i l; exact op_add_str pins s σ H _ _ v u Q I rx ry ⟨_, _, rfl, rfl, l, o.ret R (.p (.str _))⟩
          · exact o.elim
      · exact o.elim
    · split at o
      · split at o
        · rename_i l
          exact cat_ok I rx ry R ra rb rfl rfl (by simpa using l) (by rw [← List.map_append, mkT_map]; exact o)
        · exact o.elim
      · split at o
        · rename_i l
          exact cat_ok I rx ry R ra rb rfl rfl (by simpa using l) o
        · exact o.elim
      · exact o.elim
    · split at o
      · split at o
        · rename_i l
          exact cat_ok I rx ry R ra rb rfl rfl (by simpa using l) o
        · exact o.elim
      · split at o
        · rename_i l
          exact cat_ok I rx ry R ra rb rfl rfl l o
        · exact o.elim
      · exact o.elim
    · split at o
      · split at o
        · rename_i e1 e2 l
          exact catL_ok I rx ry R ra rb e1 e2 l o
        · exact o.elim
      · exact o.elim
    · exact o.elim
  | Sub =>
    cases ho
    simp only [binS] at o
    split at o
    · cases ra with | p ra => cases rb with | p rb => cases ra with | int i => cases rb with | int j => exact op_sub pins s σ H _ _ v u Q I rx ry ⟨_, _, rfl, rfl, o.ret R (.p (.int _))⟩
    · exact o.elim
  | Mult =>
    cases ho
    simp only [binS, mulS] at o
    split at o
    · split at o
      · split at o
        · rename_i l
          cases ra with | p ra => cases rb with | p rb => cases ra with | int i => cases rb with | int j => exact op_mul pins s σ H _ _ v u Q I rx ry ⟨_, _, rfl, rfl, mulOk_c l, o.ret R (.p (.int _))⟩
        · exact o.elim
      · split at o
        · rename_i l
          cases ra with | p ra => cases rb with | p rb => cases ra with | tup t ts => cases rb with | int j =>
            refine op_mulT pins s σ H _ _ v u Q I rx ry ⟨_, _, _, rfl, rfl, t, l.1, l.2.1, by rw [← ts.length]; exact l.2.2, fun e => ?_, fun p hp => ?_⟩
            · refine o.ret R (.p (.tup t ?_))
              rw [← e]
              exact ts.flat _
            · refine Out.newT (ds := (List.replicate _ _).flatten.map D.p) (by rw [mkT_map]; exact o) R (ts.flat _).toDs hp
        · exact o.elim
      · split at o
        · rename_i e
          split at o
          · rename_i l
            cases rb with | p rb => cases rb with | int j =>
              obtain ⟨i1, vs1, _, _, rfl, t1, r1⟩ := mut_at R ra e
              exact op_rep pins s σ H _ _ v u Q I rx ry ⟨_, _, vs1, rfl, rfl, t1, l.1, l.2.1, by rw [← r1.length]; exact l.2.2, fun p hp => o.newL R (r1.flat _) hp⟩
          · exact o.elim
        · exact o.elim
      · exact o.elim
    · exact o.elim
  | FloorDiv =>
    cases ho
    simp only [binS] at o
    split at o
    · split at o
      · rename_i l
        cases ra with | p ra => cases rb with | p rb => cases ra with | int i => cases rb with | int j => exact op_fdivN pins s σ H _ _ v u Q I rx ry ⟨_, _, rfl, rfl, l, o.ret R (.p (.int _))⟩
      · exact o.elim
    · exact o.elim
  | Mod =>
    cases ho
    simp only [binS] at o
    split at o
    · split at o
      · rename_i l
        cases ra with | p ra => cases rb with | p rb => cases ra with | int i => cases rb with | int j => exact op_modN pins s σ H _ _ v u Q I rx ry ⟨_, _, rfl, rfl, l, o.ret R (.p (.int _))⟩
      · exact o.elim
    · exact o.elim
  | Pow =>
    cases ho
    simp only [binS] at o
    split at o
    · split at o
      · rename_i l
        cases ra with | p ra => cases rb with | p rb => cases ra with | int i => cases rb with | int j => exact op_pow pins s σ H _ _ v u Q I rx ry ⟨_, _, rfl, rfl, l, o.ret R (.p (.int _))⟩
      · exact o.elim
    · exact o.elim
  | _ => cases ho

/-! ### a op= b -/
theorem aug_ok {op : Operator} {bo : Bin} (ho : binOf op = some bo) (I : Inv X pins σ H s) (rx : RelV x v) (ry : RelV y u) (R : RelH (tb X c) ρ h H) (ra : RelD X.K H h.length ρ a x) (rb : RelD X.K H h.length ρ b y)
    (o : Out (tb X c) RL.d W h.length ρ H σ Q (augS bo a b h)) : wpAny (model X.prog X.w) X.A (inplaceOp op v u) (EP X pins σ Q) X.xe s := by
  unfold augS at o
  cases op with
  | Add =>
    cases ho
    split at o
    · cases ra with | p ra => cases rb with | p rb => cases ra with | int i => cases rb with | int j => exact iop_add pins s σ H _ _ v u Q I rx ry ⟨_, _, rfl, rfl, o.ret R (.p (.int _))⟩
    · split at o
      · rename_i l
        cases ra with | p ra => cases rb with | p rb => cases ra with | str i => cases rb with | str j => exact iop_add_str pins s σ H _ _ v u Q I rx ry ⟨_, _, rfl, rfl, l, o.ret R (.p (.str _))⟩
      · exact o.elim
    all_goals first | contradiction | exact o.elim
  | Sub =>
    cases ho
    split at o
    · contradiction
    · contradiction
    · cases ra with | p ra => cases rb with | p rb => cases ra with | int i => cases rb with | int j => exact iop_sub pins s σ H _ _ v u Q I rx ry ⟨_, _, rfl, rfl, o.ret R (.p (.int _))⟩
    all_goals first | contradiction | exact o.elim
  | Mult =>
    cases ho
    split at o
    · contradiction
    · contradiction
    · contradiction
    · split at o
      · rename_i l
        cases ra with | p ra => cases rb with | p rb => cases ra with | int i => cases rb with | int j => exact iop_mul pins s σ H _ _ v u Q I rx ry ⟨_, _, rfl, rfl, mulOk_c l, o.ret R (.p (.int _))⟩
      · exact o.elim
    all_goals first | contradiction | exact o.elim
  | FloorDiv =>
    cases ho
    split at o
    · contradiction
    · contradiction
    · contradiction
    · contradiction
    · split at o
      · rename_i l
        cases ra with | p ra => cases rb with | p rb => cases ra with | int i => cases rb with | int j => exact iop_fdiv pins s σ H _ _ v u Q I rx ry ⟨_, _, rfl, rfl, l, o.ret R (.p (.int _))⟩
      · exact o.elim
    all_goals first | contradiction | exact o.elim
  | Mod =>
    cases ho
    split at o
    · contradiction
    · contradiction
    · contradiction
    · contradiction
    · contradiction
    · split at o
      · rename_i l
        cases ra with | p ra => cases rb with | p rb => cases ra with | int i => cases rb with | int j => exact iop_mod pins s σ H _ _ v u Q I rx ry ⟨_, _, rfl, rfl, l, o.ret R (.p (.int _))⟩
      · exact o.elim
    all_goals first | contradiction | exact o.elim
  | Pow =>
    cases ho
    split at o
    all_goals first | contradiction | exact o.elim
  | _ => cases ho

/-! ### data as seen -/
theorem see_all {K : PySem.W.Frag} {n : Nat} {f : D → Option PyData} (hf : ∀ d v e, RelD K H n ρ d v → f d = some e → Dp K H v e) : ∀ {ds : List D} {vs : List V} {es : List PyData}, RelDs K H n ρ ds vs → ds.mapM f = some es → DpAll K H vs es
  | _, _, _, .nil, e => by
    simp at e; subst e; exact .nil
  | _, _, _, .cons r rs, e => by
    rw [List.mapM_cons] at e
    obtain ⟨d0, e0, e⟩ := Option.bind_eq_some_iff.mp e
    obtain ⟨d1, e1, e⟩ := Option.bind_eq_some_iff.mp e
    cases e
    exact .cons (hf _ _ _ r e0) (see_all hf rs e1)
theorem see_dp (R : RelH (tb X c) ρ h H) : ∀ (n : Nat) (d : D) (v : V) (e : PyData), RelD X.K H h.length ρ d v → see n h d = some e → Dp X.K H v e
  | n, _, _, e, .p r, q => by
    cases n <;> (simp only [see] at q; cases q; exact r.dp)
  | 0, _, _, e, .r _, q => by simp [see] at q
  | 0, _, _, e, .t _ _, q => by simp [see] at q
  | n + 1, _, _, e, .t t rs, q => by
    simp only [see, Option.map_eq_some_iff] at q
    obtain ⟨es, q, rfl⟩ := q
    exact .tup t (see_all (see_dp R n) rs q)
  | n + 1, _, _, e, .r (i := i) hi, q => by
    simp only [see] at q
    cases g : h[i]? with
    | none => rw [g] at q; cases q
    | some ob =>
      rw [g] at q
      have ro := R.obj i ob g
      cases ob with
      | lst ys =>
        obtain ⟨vs, t, r⟩ := ro
        simp only [Option.map_eq_some_iff] at q
        obtain ⟨es, q, rfl⟩ := q
        exact .lst (.inl (.inl t)) (see_all (see_dp R n) r q)
      | ro ys =>
        obtain ⟨vs, t, r⟩ := ro
        cases q
        exact .lst t.sq r.dps
      | dct _ => cases q
      | set _ => cases q
      | ins _ _ => cases q
mutual
theorem py_lay : ∀ x : P, x.fit = true → x.py.canLay0 = true
  | .non, _ => rfl
  | .bl _, _ => rfl
  | .int _, _ => rfl
  | .str z, h => by simpa [P.py, PyData.canLay0, P.fit] using h
  | .tup xs, h => by simp only [P.py, PyData.canLay0]; exact pys_lay xs (by simpa [P.fit] using h)
theorem pys_lay : ∀ x : List P, P.fits x = true → PyData.canLayAll0 (P.pys x) = true
  | [], _ => rfl
  | x :: xs, h => by
    simp only [P.fits, Bool.and_eq_true] at h
    simp only [P.pys, PyData.canLayAll0, py_lay x h.1, pys_lay xs h.2, Bool.and_self]
end
theorem py_shaped {x : P} (d : x.depth ≤ 64) (f : x.fit = true) : SeqAt.shaped x.py = true := by
  unfold SeqAt.shaped
  rw [py_lay x f, py_depth, decide_eq_true d]
  rfl
theorem eqO_dp {k : Bool} (R : RelH (tb X c) ρ h H) (ra : RelD X.K H h.length ρ a x) (rb : RelD X.K H h.length ρ b y) (e : eqO h a b = some k) :
    (scal x y = true ∧ decide (x = y) = k) ∨ ∃ d f, Dp X.K H x d ∧ Dp X.K H y f ∧ SeqAt.shaped d = true ∧ SeqAt.shaped f = true ∧ PyData.eqv d f = k := by
  unfold eqO at e
  split at e
  · cases e
    cases ra with | p ra => cases rb with | p rb => cases ra with | str u => cases rb with | str w =>
    refine .inl ⟨rfl, ?_⟩
    rw [Bool.eq_iff_iff]
    simp
  · right
    split at e
    · rename_i l
      cases e
      cases ra with | p ra => cases rb with | p rb => exact ⟨_, _, ra.dp, rb.dp, py_shaped l.1 l.2.2.1, py_shaped l.2.1 l.2.2.2, P.eqv_py _ _⟩
    · cases e
  · right
    split at e
    · rename_i d f e1 e2
      split at e
      · rename_i l
        cases e
        exact ⟨d, f, see_dp R _ _ _ _ ra e1, see_dp R _ _ _ _ rb e2, l.1, l.2, rfl⟩
      · cases e
    · cases e
theorem isNone_eq {K : PySem.W.Frag} {n : Nat} (r : RelD K H n ρ a x) : decide (x = .non) = isNone a := by
  cases r with
  | p r => cases r <;> rfl
  | r _ => rfl
  | t _ _ => rfl
theorem ord_ok {op : CmpOp} {f : Int → Int → Bool} {Q : VK} (hop : OpR X (compareOp op) (rI0 fun i j => .bl (f i j))) (I : Inv X pins σ H s) (rx : RelV x v) (ry : RelV y u) (R : RelH (tb X c) ρ h H) (ra : RelD X.K H h.length ρ a x) (rb : RelD X.K H h.length ρ b y)
    (o : Out (tb X c) RL.b W h.length ρ H σ (fun k H' => Q (.bl k) H') (ordS f a b h)) : wpAny (model X.prog X.w) X.A (compareOp op v u) (EP X pins σ Q) X.xe s := by
  unfold ordS at o
  split at o
  · cases ra with | p ra => cases rb with | p rb => cases ra with | int i => cases rb with | int j => exact hop pins s σ H _ _ v u Q I rx ry ⟨_, _, rfl, rfl, o.ret R rfl⟩
  · exact o.elim
theorem cmp_ok {op : CmpOp} {Q : VK} (hu : X.A.units + 64 < cLine) (I : Inv X pins σ H s) (rx : RelV x v) (ry : RelV y u) (R : RelH (tb X c) ρ h H) (ra : RelD X.K H h.length ρ a x) (rb : RelD X.K H h.length ρ b y)
    (o : Out (tb X c) RL.b W h.length ρ H σ (fun k H' => Q (.bl k) H') (cmpS (cmpOf op) a b h)) : wpAny (model X.prog X.w) X.A (compareOp op v u) (EP X pins σ Q) X.xe s := by
  cases op with
  | Eq =>
    simp only [cmpOf, cmpS] at o
    cases e : eqO h a b with
    | none => rw [e] at o; exact o.elim
    | some k =>
      rw [e] at o
      rcases eqO_dp R ra rb e with ⟨h1, h2⟩ | ⟨d, f, h1, h2, h3, h4, h5⟩
      · exact op_eq pins s σ H _ _ v u Q I rx ry ⟨h1, by rw [h2]; exact o.ret R rfl⟩
      exact op_eqD hu pins s σ H _ _ v u Q I rx ry ⟨d, f, h1, h2, h3, h4, by rw [h5]; exact o.ret R rfl⟩
  | NotEq =>
    simp only [cmpOf, cmpS] at o
    cases e : eqO h a b with
    | none => rw [e] at o; exact o.elim
    | some k =>
      rw [e] at o
      rcases eqO_dp R ra rb e with ⟨h1, h2⟩ | ⟨d, f, h1, h2, h3, h4, h5⟩
      · exact op_ne pins s σ H _ _ v u Q I rx ry ⟨h1, by rw [h2]; exact o.ret R rfl⟩
      exact op_neD hu pins s σ H _ _ v u Q I rx ry ⟨d, f, h1, h2, h3, h4, by rw [h5]; exact o.ret R rfl⟩
  | Lt => exact ord_ok op_lt I rx ry R ra rb o
  | LtE => exact ord_ok op_le I rx ry R ra rb o
  | Gt => exact ord_ok op_gt I rx ry R ra rb o
  | GtE => exact ord_ok op_ge I rx ry R ra rb o
  | Is =>
    simp only [cmpOf, cmpS] at o
    split at o
    · cases rb with | p rb => cases rb with | non => exact op_isN pins s σ H _ _ v u Q I rx ry ⟨rfl, by rw [isNone_eq ra]; exact o.ret R rfl⟩
    · exact o.elim
  | IsNot =>
    simp only [cmpOf, cmpS] at o
    split at o
    · cases rb with | p rb => cases rb with | non => exact op_notN pins s σ H _ _ v u Q I rx ry ⟨rfl, by rw [isNone_eq ra]; exact o.ret R rfl⟩
    · exact o.elim
  | In => exact o.elim
  | NotIn => exact o.elim

/-! ### truth, length -/
theorem truth_v {k : Bool} (R : RelH (tb X c) ρ h H) (ra : RelD X.K H h.length ρ a x) (e : truth h a = some k) : TruV X.K x H k := by
  cases ra with
  | p r =>
    cases r with
    | non => cases e; rfl
    | bl _ => cases e; rfl
    | int _ => cases e; rfl
    | str z =>
      simp only [truth] at e
      split at e
      · rename_i l
        cases e
        refine ⟨l, ?_⟩
        rw [Bool.eq_iff_iff]
        simp
      · cases e
    | tup t ts =>
      cases e
      refine .inr (.inl ⟨_, t, ?_⟩)
      cases ts <;> rfl
  | t t ts =>
    cases e
    refine .inr (.inl ⟨_, t, ?_⟩)
    cases ts <;> rfl
  | r hi =>
    rename_i i
    simp only [truth] at e
    cases g : h[i]? with
    | none => rw [g] at e; cases e
    | some ob =>
      rw [g] at e
      have ro := R.obj i ob g
      cases ob with
      | lst ys =>
        obtain ⟨vs, t, r⟩ := ro
        cases e
        refine .inl ⟨_, .inl (.inl t), ?_⟩
        cases r <;> rfl
      | ro ys =>
        obtain ⟨vs, t, r⟩ := ro
        cases e
        refine .inl ⟨_, t.sq, ?_⟩
        cases r <;> rfl
      | dct _ => cases e
      | set _ => cases e
      | ins _ _ => cases e
theorem len_v {n : Nat} (R : RelH (tb X c) ρ h H) (ra : RelD X.K H h.length ρ a x) (e : lenOf h a = some n) : LenV X.K x H n := by
  cases ra with
  | p r =>
    cases r with
    | non => cases e
    | bl _ => cases e
    | int _ => cases e
    | str z =>
      simp only [lenOf] at e
      split at e
      · rename_i l
        cases e
        exact ⟨l, rfl⟩
      · cases e
    | tup t ts =>
      cases e
      exact .inr ⟨_, t, ts.length⟩
  | t t ts =>
    cases e
    exact .inr ⟨_, t, ts.length⟩
  | r hi =>
    rename_i i
    simp only [lenOf] at e
    cases g : h[i]? with
    | none => rw [g] at e; cases e
    | some ob =>
      rw [g] at e
      have ro := R.obj i ob g
      cases ob with
      | lst ys =>
        obtain ⟨vs, t, r⟩ := ro
        cases e
        exact .inl ⟨_, .inl (.inl t), r.length⟩
      | ro ys =>
        obtain ⟨vs, t, r⟩ := ro
        cases e
        exact .inl ⟨_, t.sq, r.length⟩
      | _ => cases e

/-! ### subscripts -/
theorem RelPs.at_ {K : PySem.W.Frag} {H : Hp} {xs : List P} {vs : List V} {k : Int} {z : P} (r : RelPs K H xs vs) (e : atI xs k = some z) : ∃ w, atI vs k = some w ∧ RelP K H z w := by
  unfold atI at e ⊢
  rw [← r.length]
  cases q : ixN xs.length k with
  | none => rw [q] at e; cases e
  | some j =>
    rw [q] at e
    exact r.get e
theorem RelDs.at_ {K : PySem.W.Frag} {n : Nat} {k : Int} {z : D} (r : RelDs K H n ρ ds vs) (e : atI ds k = some z) : ∃ w, atI vs k = some w ∧ RelD K H n ρ z w := by
  unfold atI at e ⊢
  rw [← r.length]
  cases q : ixN ds.length k with
  | none => rw [q] at e; cases e
  | some j =>
    rw [q] at e
    exact r.get e
theorem sub_at (R : RelH (tb X c) ρ h H) (ra : RelD X.K H h.length ρ a x) (rb : RelD X.K H h.length ρ b y) (o : Out (tb X c) RL.d W h.length ρ H σ Q (subS a b h)) :
    (∃ p xs k w, x = .ref p ∧ y = .int k ∧ SqL X.K H p xs ∧ atI xs k = some w ∧ Q w H) ∨ (∃ p xs k w, x = .ref p ∧ y = .int k ∧ SqT X.K H p xs ∧ atI xs k = some w ∧ Q w H) ∨ rIxS x y H Q := by
  unfold subS at o
  split at o
  · rename_i k
    cases rb with | p rb => cases rb with | int _ =>
      split at o
      · cases ra with | p ra => cases ra with | tup t ts =>
        rename_i xs _ _
        cases e : atI xs k with
        | none => rw [e] at o; exact o.elim
        | some z =>
          rw [e] at o
          obtain ⟨w, e', r⟩ := ts.at_ e
          exact .inr (.inl ⟨_, _, k, w, rfl, rfl, t, e', o.ret R (.p r)⟩)
      · cases ra with | t t ts =>
        rename_i xs _ _
        cases e : atI xs k with
        | none => rw [e] at o; exact o.elim
        | some z =>
          rw [e] at o
          obtain ⟨w, e', r⟩ := RelDs.at_ ts e
          exact .inr (.inl ⟨_, _, k, w, rfl, rfl, t, e', o.ret R r⟩)
      · split at o
        · rename_i xs el
          obtain ⟨q, vs, rfl, t, ts⟩ := lst_at R ra el
          cases e : atI xs k with
          | none => rw [e] at o; exact o.elim
          | some z =>
            rw [e] at o
            obtain ⟨w, e', r⟩ := RelDs.at_ ts e
            exact .inl ⟨_, _, k, w, rfl, rfl, t, e', o.ret R r⟩
        · exact o.elim
      · split at o
        · rename_i z l
          cases ra with | p ra => cases ra with | str _ =>
          cases e : atI z.cps.toList k with
          | none => rw [e] at o; exact o.elim
          | some ch =>
            rw [e] at o
            exact .inr (.inr ⟨z, k, ch, rfl, rfl, l, e, o.ret R (.p (.str _))⟩)
        · exact o.elim
      · exact o.elim
  · exact o.elim
theorem sub_ok {value slice : Expr} (I : Inv X pins σ H s) (rx : RelV x v) (ry : RelV y u) (R : RelH (tb X c) ρ h H) (ra : RelD X.K H h.length ρ a x) (rb : RelD X.K H h.length ρ b y)
    (hs : subscripted slice false v u = operate [v, u] (getItem v u)) (o : Out (tb X c) RL.d W h.length ρ H σ Q (subS a b h)) : wpAny (model X.prog X.w) X.A (subscriptTail value slice v u) (EP X pins σ Q) X.xe s := by
  rcases sub_at R ra rb o with q | q | q
  · exact ix_list value slice pins s σ H _ _ v u Q I rx ry q hs
  · exact ix_tup value slice pins s σ H _ _ v u Q I rx ry q hs
  · exact ix_str value slice pins s σ H _ _ v u Q I rx ry q hs
theorem put_ok {d : D} {z : V} {w : Value} {Q : Hp → Prop} (I : Inv X pins σ H s) (rx : RelV x v) (ry : RelV y u) (rz : RelV z w) (R : RelH (tb X c) ρ h H) (ra : RelD X.K H h.length ρ a x) (rb : RelD X.K H h.length ρ b y) (rd : RelD X.K H h.length ρ d z)
    (o : Out (tb X c) RL.u W h.length ρ H σ (fun _ H' => Q H') (putS a b d h)) : wpAny (model X.prog X.w) X.A (setItem v u w) (fun _ s' => ∃ H', Inv X pins σ H' s' ∧ Q H') X.xe s := by
  unfold putS at o
  split at o
  · split at o
    · rename_i j _ xs g
      split at o
      · split at o
        · rename_i k _ m e
          cases rb with | p rb => cases rb with | int _ => cases ra with | r hi =>
          obtain ⟨vs, t, r⟩ := R.obj j _ g
          refine set_list pins s σ H _ _ _ v u w Q I rx ry rz ⟨_, vs, k, m, rfl, rfl, t, by rw [← r.length]; exact e, ?_⟩
          obtain ⟨kp, R'⟩ := R.wr (o' := .lst (xs.set m d)) (u := .lst (vs.set m z)) g rfl rfl fun kp => ⟨_, upd_same, RelDs.set (rd.mono kp (Ext.refl _ _) (Nat.le_refl _)) m (r.mono kp (Ext.refl _ _) (Nat.le_refl _))⟩
          exact o ρ () _ (by rw [List.length_set]; exact Nat.le_refl _) (Ext.refl _ _) kp R' True.intro
        · exact o.elim
      · exact o.elim
    · exact o.elim
  · exact o.elim

/-! ### slices -/
theorem RelPs.cut {K : PySem.W.Frag} {H : Hp} {xs : List P} {vs : List V} (r : RelPs K H xs vs) (lo hi : Option Int) : RelPs K H (cutX xs lo hi) (cutV vs lo hi) := by
  unfold cutX cutV
  rw [← r.length]
  exact (r.drop _).take _
theorem RelDs.cut {K : PySem.W.Frag} {n : Nat} (r : RelDs K H n ρ ds vs) (lo hi : Option Int) : RelDs K H n ρ (cutX ds lo hi) (cutV vs lo hi) := by
  unfold cutX cutV
  rw [← r.length]
  exact (r.drop _).take _
theorem cutV_all {vs : List V} {lo hi : Option Int} (e : HT.sIx vs.length 0 lo = 0 ∧ HT.sIx vs.length vs.length hi = vs.length) : cutV vs lo hi = vs := by
  unfold cutV
  rw [e.1, e.2, List.drop_zero, Nat.sub_zero, List.take_length]
theorem cutX_map {α β : Type} (f : α → β) (xs : List α) (lo hi : Option Int) : cutX (xs.map f) lo hi = (cutX xs lo hi).map f := by
  unfold cutX
  rw [List.length_map, List.map_take, List.map_drop]
theorem cutT_ok {lo hi : Option Int} {q : Addr} (R : RelH (tb X c) ρ h H) (t : SqT X.K H q vs) (r : RelDs X.K H h.length ρ ds vs) (o : Out (tb X c) RL.d W h.length ρ H σ Q (.ok (mkT (cutX ds lo hi)) h)) : rSlA X.K (.ref q) lo hi H Q := by
  refine ⟨q, vs, rfl, t, fun e => ?_, fun _ p hp => o.newT R (RelDs.cut r lo hi) hp⟩
  refine o.ret R (RelD.mkT t ?_)
  have := RelDs.cut r lo hi
  rw [cutV_all e] at this
  exact this
def rSlD (K : PySem.W.Frag) : V → Option Int → Option Int → Hp → VK → Prop := fun x lo hi H Q => rSlL K x lo hi H Q ∨ rSlA K x lo hi H Q
theorem sl_d {X : Cx} : SlR X (rSlD X.K) := sl_list.or sl_tupA
theorem slc_at {lo hi : Option Int} (R : RelH (tb X c) ρ h H) (ra : RelD X.K H h.length ρ a x) (o : Out (tb X c) RL.d W h.length ρ H σ Q (slcS a lo hi h)) : rSlD X.K x lo hi H Q := by
  unfold slcS at o
  split at o
  · cases ra with | p ra => cases ra with | tup t ts =>
    exact .inr (cutT_ok R t ts.toDs (by rw [cutX_map, mkT_map]; exact o))
  · cases ra with | t t ts => exact .inr (cutT_ok R t ts o)
  · split at o
    · rename_i xs e
      obtain ⟨q, vs, rfl, t, r⟩ := lst_at R ra e
      exact .inl ⟨q, vs, rfl, t, fun p hp => o.newL R (RelDs.cut r lo hi) hp⟩
    · exact o.elim
  · exact o.elim

/-! ### attributes -/
/-- the text's part about attributes and classes -/
structure CtOk (K : PySem.W.Frag) (c : Ct) : Prop where
  cls : ∀ i C, c.cls i = some C → Cls K C
  noAt : ∀ i C f x, c.cls i = some C → c.fld f = some x → c.fok i f = true → NoAttr K C x
  inj : ∀ f g x, c.fld f = some x → c.fld g = some x → f = g
theorem relFs_get {T : Tb} (inj : ∀ f g x, T.fld f = some x → T.fld g = some x → f = g) {n : Nat} {f : Nat} {z : Str} (hz : T.fld f = some z) : ∀ {fs : List (Nat × D)} {fv : List (Str × V)} {d : D}, RelFs T H n ρ fs fv → getF f fs = some d → ∃ v, fv.lookup z = some v ∧ RelD T.K H n ρ d v
  | _, _, _, .nil, e => by cases e
  | _, _, d, .cons (i := i) (x := x) (d := d') (v := v) h1 h2 hs, e => by
    unfold getF at e
    by_cases q : i = f
    · subst q
      rw [if_pos rfl] at e
      cases e
      rw [h1] at hz
      cases hz
      exact ⟨v, by simp [List.lookup], h2⟩
    · rw [if_neg q] at e
      obtain ⟨w, e1, e2⟩ := relFs_get inj hz hs e
      have : (z == x) = false := by
        rw [beq_eq_false_iff_ne]
        rintro rfl
        exact q (inj _ _ _ h1 hz)
      exact ⟨w, by rw [List.lookup, this]; exact e1, e2⟩
theorem getF_mem {f : Nat} : ∀ {fs : List (Nat × D)} {d : D}, getF f fs = some d → ∃ p ∈ fs, p.1 = f
  | [], _, e => by cases e
  | (g, x) :: r, d, e => by
    unfold getF at e
    by_cases q : g = f
    · exact ⟨(g, x), List.mem_cons_self, q⟩
    · rw [if_neg q] at e
      obtain ⟨p, hp, e⟩ := getF_mem e
      exact ⟨p, List.mem_cons_of_mem _ hp, e⟩
theorem attr_at {f : Nat} {z : Str} (ok : CtOk X.K c) (hz : c.fld f = some z) (R : RelH (tb X c) ρ h H) (ra : RelD X.K H h.length ρ a x) (o : Out (tb X c) RL.d W h.length ρ H σ Q (attrS a f h)) :
    ∃ p C dx fs v, x = .ref p ∧ H p = some (.ins C dx fs) ∧ Cls X.K C ∧ NoAttr X.K C z ∧ fs.lookup z = some v ∧ Q v H := by
  unfold attrS at o
  split at o
  · split at o
    · rename_i i _ ci fs g
      cases ra with | r hi =>
      obtain ⟨C, dx, fv, e0, e1, r, al⟩ := R.obj i _ g
      cases e : getF f fs with
      | none => rw [e] at o; exact o.elim
      | some d =>
        rw [e] at o
        obtain ⟨w, e2, rd⟩ := relFs_get (T := tb X c) ok.inj hz r e
        obtain ⟨p, hp, rfl⟩ := getF_mem e
        exact ⟨_, C, dx, fv, w, rfl, e1, ok.cls _ _ e0, ok.noAt _ _ _ _ e0 hz (List.all_eq_true.mp al p hp), e2, o.ret R rd⟩
    · exact o.elim
  · exact o.elim
theorem relFs_put {T : Tb} (inj : ∀ f g x, T.fld f = some x → T.fld g = some x → f = g) {n : Nat} {f : Nat} {z : Str} {d : D} {w : V} (hz : T.fld f = some z) (rd : RelD T.K H n ρ d w) : ∀ {fs : List (Nat × D)} {fv : List (Str × V)}, RelFs T H n ρ fs fv → RelFs T H n ρ (putFd f d fs) (putF z w fv)
  | _, _, .nil => .cons hz rd .nil
  | _, _, .cons (i := i) (x := x) (d := d') (v := v) h1 h2 hs => by
    unfold putFd putF
    by_cases q : i = f
    · subst q
      have e : x = z := by rw [h1] at hz; exact Option.some.inj hz
      rw [if_pos rfl, if_pos e]
      exact .cons h1 rd hs
    · have e : x ≠ z := by rintro rfl; exact q (inj _ _ _ h1 hz)
      rw [if_neg q, if_neg e]
      exact .cons h1 h2 (relFs_put inj hz rd hs)
theorem putFd_all {q : Nat → Bool} {f : Nat} {d : D} (hf : q f = true) : ∀ {fs : List (Nat × D)}, (fs.all fun p => q p.1) = true → ((putFd f d fs).all fun p => q p.1) = true
  | [], _ => by simp [putFd, hf]
  | (g, x) :: r, e => by
    simp only [List.all_cons, Bool.and_eq_true] at e
    unfold putFd
    by_cases z : g = f
    · rw [if_pos z]
      simp only [List.all_cons, e.1, e.2, Bool.and_self]
    · rw [if_neg z]
      simp only [List.all_cons, e.1, putFd_all hf e.2, Bool.and_self]
theorem RelFs.length {T : Tb} {n : Nat} : ∀ {fs : List (Nat × D)} {fv : List (Str × V)}, RelFs T H n ρ fs fv → fs.length = fv.length
  | _, _, .nil => rfl
  | _, _, .cons _ _ hs => congrArg (· + 1) hs.length
theorem putAttr_at {f : Nat} {z : Str} {d : D} {w : V} {Q : Hp → Prop} (ok : CtOk X.K c) (hz : c.fld f = some z) (R : RelH (tb X c) ρ h H) (ra : RelD X.K H h.length ρ a x) (rd : RelD X.K H h.length ρ d w)
    (o : Out (tb X c) RL.u W h.length ρ H σ (fun _ H' => Q H') (putAttrS c.fok a f d h)) :
    ∃ p C dx fs, x = .ref p ∧ H p = some (.ins C dx fs) ∧ Cls X.K C ∧ NoAttr X.K C z ∧ fs.length < 1000 ∧ Q (upd H p (.ins C dx (putF z w fs))) := by
  unfold putAttrS at o
  split at o
  · split at o
    · rename_i i _ ci fs g
      split at o
      · rename_i l
        cases ra with | r hi =>
        obtain ⟨C, dx, fv, e0, e1, r, al⟩ := R.obj i _ g
        refine ⟨_, C, dx, fv, rfl, e1, ok.cls _ _ e0, ok.noAt _ _ _ _ e0 hz l.2, by rw [← RelFs.length r]; exact l.1, ?_⟩
        obtain ⟨kp, R'⟩ := R.wr (o' := .ins ci (putFd f d fs)) (u := .ins C dx (putF z w fv)) g rfl rfl fun kp => ⟨C, dx, _, e0, upd_same, relFs_put ok.inj hz (rd.mono kp (Ext.refl _ _) (Nat.le_refl _)) (r.mono kp (Ext.refl _ _) (Nat.le_refl _)), putFd_all l.2 al⟩
        exact o ρ () _ (by rw [List.length_set]; exact Nat.le_refl _) (Ext.refl _ _) kp R' True.intro
      · exact o.elim
    · exact o.elim
  · exact o.elim

/-! ### built-ins -/
def bltId : Blt → Option (Str × Value)
  | .len => some ("len", .builtin "len")
  | .abs => some ("abs", .builtin "abs")
  | .int => some ("int", .type "int")
  | .max => some ("max", .builtin "max")
  | .min => some ("min", .builtin "min")
  | .tuple => some ("tuple", .type "tuple")
  | .list => some ("list", .type "list")
  | .sorted => some ("sorted", .builtin "sorted")
  | .repr => some ("repr", .builtin "repr")
  | _ => none
theorem blt_ok {bl : Blt} {f : Value} {us : List Value} {nm : Str} (hc : X.calm = true) (bare : Bare X.A) (hu : X.A.units + 66 < cLine) (hb : bltId bl = some (nm, f)) (I : Inv X pins σ H s) (r : Vals vs us) (R : RelH (tb X c) ρ h H) (rd : RelDs X.K H h.length ρ ds vs)
    (o : Out (tb X c) RL.d W h.length ρ H σ Q (bltS bl ds h)) : wpAny (model X.prog X.w) X.A (call f us) (EP X pins σ Q) X.xe s := by
  unfold bltS at o
  split at o
  · cases hb
    cases rd with | cons rd rd' => cases rd' with | nil =>
    cases e : lenOf h _ with
    | none => rw [e] at o; exact o.elim
    | some n =>
      rw [e] at o
      exact call_len pins s σ H _ us Q I r ⟨_, n, rfl, len_v R rd e, o.ret R (.p (.int _))⟩
  · cases hb
    cases rd with | cons rd rd' => cases rd' with | nil => cases rd with | p rd => cases rd with | int _ =>
    exact call_abs pins s σ H _ us Q I r ⟨_, rfl, o.ret R (.p (.int _))⟩
  · cases hb
    cases rd with | cons rd rd' => cases rd' with | nil => cases rd with | p rd => cases rd with | int _ =>
    exact call_int1 pins s σ H _ us Q I r (.inl ⟨_, rfl, o.ret R (.p (.int _))⟩)
  · cases hb
    cases rd with | cons rd rd' => cases rd' with | nil => cases rd with | p rd => cases rd with | bl _ =>
    exact call_int1 pins s σ H _ us Q I r (.inr ⟨_, rfl, o.ret R (.p (.int _))⟩)
  · cases hb
    cases rd with | cons rd rd' => cases rd' with | cons rd' rd2 => cases rd2 with | nil => cases rd with | p rd => cases rd with | int _ => cases rd' with | p rd' => cases rd' with | int _ =>
    exact call_max2 hc pins s σ H _ us Q I r ⟨_, _, rfl, o.ret R (.p (.int _))⟩
  · cases hb
    cases rd with | cons rd rd' => cases rd' with | cons rd' rd2 => cases rd2 with | nil => cases rd with | p rd => cases rd with | int _ => cases rd' with | p rd' => cases rd' with | int _ =>
    exact call_min2 hc pins s σ H _ us Q I r ⟨_, _, rfl, o.ret R (.p (.int _))⟩
  · cases hb
    cases rd with | cons rd rd' => cases rd' with | nil =>
    split at o
    · cases rd with | p rd => cases rd with | tup t ts => exact call_tuple_of pins s σ H _ us Q I r ⟨_, _, rfl, .inr ⟨t, o.ret R (.p (.tup t ts))⟩⟩
    · cases rd with | t t ts => exact call_tuple_of pins s σ H _ us Q I r ⟨_, _, rfl, .inr ⟨t, o.ret R (.t t ts)⟩⟩
    · split at o
      · rename_i e
        obtain ⟨q, vs, rfl, t, ts⟩ := lst_at R rd e
        exact call_tuple_of pins s σ H _ us Q I r ⟨_, _, rfl, .inl ⟨t, fun l hl => o.newT R ts hl⟩⟩
      · exact o.elim
    · exact o.elim
  · cases hb
    cases rd with | cons rd rd' => cases rd' with | nil =>
    split at o
    · rename_i e
      obtain ⟨q, vs, k, rfl, t, ts⟩ := seq_at R rd e
      refine call_list_of pins s σ H _ us Q I r ⟨_, vs, rfl, ?_, fun l hl => o.newL R ts hl⟩
      cases k with
      | true => exact .inl t
      | false => exact .inr t
    · exact o.elim
  · cases hb
    cases rd with | cons rd rd' => cases rd' with | nil =>
    split at o
    · rename_i xs e
      split at o
      · rename_i ps ep
        split at o
        · rename_i so
          obtain ⟨q, vs, rfl, t, ts⟩ := lst_at R rd e
          exact call_sorted hu pins s σ H _ us Q I r ⟨q, vs, ps, rfl, t, ts.pure ep, so, fun p ws hp rw_ => o.newL R rw_.toDs hp⟩
        · exact o.elim
      · exact o.elim
    · exact o.elim
  · cases hb
    cases rd with | cons rd rd' => cases rd' with | nil =>
    split at o
    · rename_i d e
      split at o
      · rename_i l
        unfold PyData.wide at l
        simp only [Bool.and_eq_true, decide_eq_true_eq] at l
        exact call_repr bare hu pins s σ H _ us Q I r ⟨_, d, rfl, see_dp R _ _ _ _ rd e, l.1.1, l.1.2, l.2, o.ret R (.p (.str _))⟩
      · exact o.elim
    · exact o.elim
  · exact o.elim
end
end Pv

/-! I: statements' ends; the rules for expressions. -/
namespace Pv
open PySem L2 PySem.Spec PyProof.Rows

section
variable (T : Tb)
def OutS (W : WX) (n : Nat) (ρ : Nat → Addr) (H : Hp) (E : Ends) : RS → Prop
  | .stuck => False
  | .next sg h' => ∀ ρ' σ' H', n ≤ h'.length → Ext n ρ ρ' → Keep T.K H H' → RelH T ρ' h' H' → RelS T.K H' h'.length ρ' sg σ' → E.nx σ' H'
  | .brk sg h' => ∀ ρ' σ' H', n ≤ h'.length → Ext n ρ ρ' → Keep T.K H H' → RelH T ρ' h' H' → RelS T.K H' h'.length ρ' sg σ' → E.bk σ' H'
  | .cont sg h' => ∀ ρ' σ' H', n ≤ h'.length → Ext n ρ ρ' → Keep T.K H H' → RelH T ρ' h' H' → RelS T.K H' h'.length ρ' sg σ' → E.ct σ' H'
  | .ret d h' => ∀ ρ' v H', n ≤ h'.length → Ext n ρ ρ' → Keep T.K H H' → RelH T ρ' h' H' → RelD T.K H' h'.length ρ' d v → E.rt v H'
  | .exc x sg h' => ∀ ρ' σ' c d H', n ≤ h'.length → Ext n ρ ρ' → Keep T.K H H' → RelH T ρ' h' H' → RelS T.K H' h'.length ρ' sg σ' → RelX T H' h'.length ρ' x c d → W c d σ' H'
def tHS {α β : Type} (W : WX) (l : RL T.K α β) (k : Sg → α → Hh → RS) (x : β) : TS := fun E σ H =>
  ∃ ρ sg h a, At T l x σ H ρ sg h a ∧ OutS T W h.length ρ H E (k sg a h)
def tS (W : WX) (ev : Sg → Hh → RS) : TS := tHS T W RL.u (fun sg _ h => ev sg h) ()
end
section
variable {T : Tb} {W : WX} {α β γ δ ε ζ : Type} {l : RL T.K α β} {m : RL T.K γ δ} {m' : RL T.K ε ζ}
theorem OutS.later {n n' : Nat} {ρ ρ' : Nat → Addr} {H H' : Hp} {E : Ends} {r : RS} (o : OutS T W n ρ H E r) (hn : n ≤ n') (e : Ext n ρ ρ') (k : Keep T.K H H') : OutS T W n' ρ' H' E r := by
  cases r with
  | stuck => exact o
  | next sg h' => exact fun ρ'' σ' H'' l1 e1 k1 R1 r1 => o ρ'' σ' H'' (Nat.le_trans hn l1) (e.trans e1 hn) (k.trans k1) R1 r1
  | brk sg h' => exact fun ρ'' σ' H'' l1 e1 k1 R1 r1 => o ρ'' σ' H'' (Nat.le_trans hn l1) (e.trans e1 hn) (k.trans k1) R1 r1
  | cont sg h' => exact fun ρ'' σ' H'' l1 e1 k1 R1 r1 => o ρ'' σ' H'' (Nat.le_trans hn l1) (e.trans e1 hn) (k.trans k1) R1 r1
  | ret d h' => exact fun ρ'' σ' H'' l1 e1 k1 R1 r1 => o ρ'' σ' H'' (Nat.le_trans hn l1) (e.trans e1 hn) (k.trans k1) R1 r1
  | exc x sg h' => exact fun ρ'' σ' c d H'' l1 e1 k1 R1 s1 r1 => o ρ'' σ' c d H'' (Nat.le_trans hn l1) (e.trans e1 hn) (k.trans k1) R1 s1 r1
theorem tHS.step {ev : Sg → Hh → R γ} (k : Sg → α × γ → Hh → RS) {x : β} {σ : L2.St} {H : Hp} {E : Ends} (t : tHS T W l (fun sg a h => (ev sg h).then sg fun b h1 => k sg (a, b) h1) x E σ H) :
    tG T W m ev σ H fun y H1 => tHS T W (l.x m) k (x, y) E σ H1 := by
  obtain ⟨ρ, sg, h, a, A, o⟩ := t
  refine ⟨ρ, sg, h, (), ⟨A.s, A.o, True.intro⟩, ?_⟩
  show Out T m W h.length ρ H σ _ (ev sg h)
  have o : OutS T W h.length ρ H E ((ev sg h).then sg fun b h1 => k sg (a, b) h1) := o
  cases e : ev sg h with
  | stuck => rw [e] at o; exact o
  | ok b h1 =>
    rw [e] at o
    intro ρ1 y H1 l1 e1 k1 R1 r1
    exact ⟨ρ1, sg, h1, (a, b), ⟨A.s.mono k1 e1 l1, R1, l.mono k1 e1 l1 A.a, r1⟩, OutS.later o l1 e1 k1⟩
  | exc x h1 =>
    rw [e] at o
    intro ρ1 c d H1 l1 e1 k1 R1 r1
    exact o ρ1 σ c d H1 l1 e1 k1 R1 (A.s.mono k1 e1 l1) r1
theorem tS.step {ev : Sg → Hh → R γ} (k : Sg → γ → Hh → RS) {σ : L2.St} {H : Hp} {E : Ends} (t : tS T W (fun sg h => (ev sg h).then sg fun b h1 => k sg b h1) E σ H) :
    tG T W m ev σ H fun y H1 => tHS T W m k y E σ H1 := by
  obtain ⟨ρ, sg, h, a, A, o⟩ := t
  refine ⟨ρ, sg, h, (), A, ?_⟩
  show Out T m W h.length ρ H σ _ (ev sg h)
  have o : OutS T W h.length ρ H E ((ev sg h).then sg fun b h1 => k sg b h1) := o
  cases e : ev sg h with
  | stuck => rw [e] at o; exact o
  | ok b h1 =>
    rw [e] at o
    intro ρ1 y H1 l1 e1 k1 R1 r1
    exact ⟨ρ1, sg, h1, b, ⟨A.s.mono k1 e1 l1, R1, r1⟩, OutS.later o l1 e1 k1⟩
  | exc x h1 =>
    rw [e] at o
    intro ρ1 c d H1 l1 e1 k1 R1 r1
    exact o ρ1 σ c d H1 l1 e1 k1 R1 (A.s.mono k1 e1 l1) r1
theorem tS.seq {ev : Sg → Hh → RS} {k : Sg → Hh → RS} {σ : L2.St} {H : Hp} {E : Ends} (t : tS T W (fun sg h => (ev sg h).seq k) E σ H) : tS T W ev { E with nx := tS T W k E } σ H := by
  obtain ⟨ρ, sg, h, a, A, o⟩ := t
  refine ⟨ρ, sg, h, a, A, ?_⟩
  show OutS T W h.length ρ H _ (ev sg h)
  have o : OutS T W h.length ρ H E ((ev sg h).seq k) := o
  cases e : ev sg h with
  | next s1 h1 =>
    rw [e] at o
    intro ρ1 σ1 H1 l1 e1 k1 R1 r1
    exact ⟨ρ1, s1, h1, (), ⟨r1, R1, True.intro⟩, OutS.later o l1 e1 k1⟩
  | _ => rw [e] at o; exact o
theorem Out.mono {n : Nat} {ρ : Nat → Addr} {H : Hp} {σ : L2.St} {Q Q' : β → Hp → Prop} {r : R α} (f : ∀ y H', Q y H' → Q' y H') (o : Out T l W n ρ H σ Q r) : Out T l W n ρ H σ Q' r := by
  cases r with
  | stuck => exact o
  | exc x h' => exact o
  | ok a h' => exact fun ρ' b H' l1 e1 k1 R1 r1 => f _ _ (o ρ' b H' l1 e1 k1 R1 r1)
theorem tG_mono {ev : Sg → Hh → R α} {σ : L2.St} {H : Hp} {Q Q' : β → Hp → Prop} (f : ∀ y H', Q y H' → Q' y H') (t : tG T W l ev σ H Q) : tG T W l ev σ H Q' := by
  obtain ⟨ρ, sg, h, a, A, o⟩ := t
  exact ⟨ρ, sg, h, a, A, Out.mono f o⟩
/-- what is held may be told otherwise -/
theorem tH.exact {σ : L2.St} {H : Hp} {k : Sg → α → Hh → R γ} {x : β} {Q : δ → Hp → Prop} (t : tH T W l m k x σ H Q) : ∃ ρ sg h a, At T l x σ H ρ sg h a ∧ Out T m W h.length ρ H σ Q (k sg a h) := t

/-! ### trimming, again -/
theorem trim_ok {ρ : Nat → Addr} {h h' : Hh} {H : Hp} {d : D} (R0 : RelH T ρ h H) :
    ∃ d2 h2, trimR h (.ok d h') = .ok d2 h2 ∧ truth h2 d2 = truth h' d ∧ ∀ ρ' H', h.length ≤ h'.length → RelH T ρ' h' H' → ∃ ρ2, h.length ≤ h2.length ∧ Ext h.length ρ' ρ2 ∧ RelH T ρ2 h2 H' := by
  have same : trimR h (.ok d h') = .ok d h' → ∃ d2 h2, trimR h (.ok d h') = .ok d2 h2 ∧ truth h2 d2 = truth h' d ∧ ∀ ρ' H', h.length ≤ h'.length → RelH T ρ' h' H' → ∃ ρ2, h.length ≤ h2.length ∧ Ext h.length ρ' ρ2 ∧ RelH T ρ2 h2 H' := fun e => ⟨d, h', e, rfl, fun ρ' H' l1 R1 => ⟨ρ', l1, Ext.refl _ _, R1⟩⟩
  by_cases ag : agree h h' h.length = true
  · have tl : (h'.take h.length).length = h.length := by rw [List.length_take]; have := agree_len ag; omega
    by_cases du : d.under h.length = true
    · refine ⟨d, h'.take h.length, by simp only [trimR]; rw [if_pos ag, if_pos du], ?_, fun ρ' H' l1 R1 => ⟨ρ', by omega, Ext.refl _ _, R0.cut R1 ag⟩⟩
      cases d with
      | p x => cases x <;> rfl
      | t xs => rfl
      | r i =>
        have hi : i < h.length := by simpa [D.under] using du
        simp only [truth, List.getElem?_take_of_lt hi]
    · cases d with
      | p x => exact absurd rfl du
      | t xs => exact same (by simp only [trimR]; rw [if_pos ag, if_neg du])
      | r i =>
        cases g : h'[i]? with
        | none => exact same (by simp only [trimR]; rw [if_pos ag, if_neg du, g])
        | some ob =>
          by_cases c : (decide (h.length ≤ i) && ob.under h.length) = true
          · refine ⟨.r h.length, h'.take h.length ++ [ob], ?_, ?_, fun ρ' H' l1 R1 => ?_⟩
            · simp only [trimR]
              rw [if_pos ag, if_neg du, g]
              dsimp only
              rw [if_pos c]
            · simp only [truth, g]
              rw [List.getElem?_append_right (by omega), tl, Nat.sub_self]
              rfl
            · rw [Bool.and_eq_true, decide_eq_true_eq] at c
              obtain ⟨ρ'', f0, f1, R2⟩ := R0.cutOne R1 ag g c.1 c.2
              have ln : (h'.take h.length ++ [ob]).length = h.length + 1 := by rw [List.length_append, tl]; rfl
              exact ⟨ρ'', by omega, f1, R2⟩
          · exact same (by simp only [trimR]; rw [if_pos ag, if_neg du, g]; dsimp only; rw [if_neg c])
  · exact same (by simp only [trimR]; rw [if_neg ag])
theorem Out.trimB {ρ : Nat → Addr} {h : Hh} {H : Hp} {σ : L2.St} {Q : Bool → Hp → Prop} {r : R D} (R0 : RelH T ρ h H) (o : Out T RL.b W h.length ρ H σ Q (tr (trimR h r))) : Out T RL.b W h.length ρ H σ Q (tr r) := by
  cases r with
  | stuck => exact o
  | exc x h' => exact o
  | ok d h' =>
    obtain ⟨d2, h2, t0, t1, t2⟩ := trim_ok (d := d) (h' := h') R0
    rw [t0, tr_ok, t1] at o
    rw [tr_ok]
    cases e : truth h' d with
    | none => rw [e] at o; exact o.elim
    | some k =>
      rw [e] at o
      intro ρ' b H' l1 e1 k1 R1 r1
      obtain ⟨ρ2, t3, t4, t5⟩ := t2 ρ' H' l1 R1
      cases r1
      exact o ρ2 k H' t3 (e1.trans t4 (Nat.le_refl _)) k1 t5 rfl
theorem tT.trim {ev : Sg → Hh → R D} {σ : L2.St} {H : Hp} {Q : Bool → Hp → Prop} (t : tT T W (fun sg h => tr (trimR h (ev sg h))) σ H Q) : tT T W (fun sg h => tr (ev sg h)) σ H Q := by
  obtain ⟨ρ, sg, h, a, A, o⟩ := t
  exact ⟨ρ, sg, h, a, A, Out.trimB A.o o⟩
end

/-! ### the calls' contract -/
def spG (T : Tb) (n : Nat) (ev : List D → Hh → R D) : Sp := fun vs H Q E => vs.length = n ∧ ∃ ρ h ds, RelH T ρ h H ∧ RelDs T.K H h.length ρ ds vs ∧ Out T RL.d (fun c d _ H' => E c d H') h.length ρ H [] Q (ev ds h)

section
variable {X : Cx} {c : Ct} {W : WX} {g : G} {e e2 e3 : Expr} {a b d : IE} {pos : Pos}
abbrev tEe (X : Cx) (c : Ct) (W : WX) (g : G) (a : IE) : TE := tE (tb X c) W (evE g a)
abbrev tTe (X : Cx) (c : Ct) (W : WX) (g : G) (a : IE) : TT := tT (tb X c) W fun s h => tr (evE g a s h)
theorem pe_p {x : P} {v : V} (h : PE X e (tC v)) (r : ∀ H, RelP X.K H x v) : PE X e (tEe X c W g (.c x)) := by
  refine ⟨fun pins s σ H Q I t => h.run pins s σ H Q I ?_⟩
  obtain ⟨ρ, sg, hh, _, A, o⟩ := t
  exact o.ret A.o (.p (r H))
theorem pe_v {i : Nat} {x : Str} (hN : X.N[i]? = some x) (hv : Vis X.env.scope x) (ok : okName x = true) : PE X (.Name x pos) (tEe X c W g (.v i)) := by
  have h1 : (x == ("__debug__" : Str)) = false ∧ (x == ("__classdict__" : Str)) = false := by
    unfold okName at ok
    rw [decide_eq_true_eq] at ok
    exact ⟨by rw [beq_eq_false_iff_ne]; exact ok.1, by rw [beq_eq_false_iff_ne]; exact ok.2.1⟩
  refine ⟨fun pins s σ H Q I t => (pe_var hN hv h1.1 h1.2).run pins s σ H Q I ?_⟩
  obtain ⟨ρ, sg, hh, _, A, o⟩ := t
  have o : Out (tb X c) RL.d W hh.length ρ H σ Q (R.of (slot i sg) hh) := o
  unfold slot at o
  cases q : sg[i]? with
  | none => rw [q] at o; exact o.elim
  | some z =>
    cases z with
    | none => rw [q] at o; exact o.elim
    | some d =>
      rw [q] at o
      obtain ⟨v, e1, r⟩ := A.s.at_ i d q
      exact ⟨v, e1, o.ret A.o r⟩
theorem pe_bin {op : Operator} {bo : Bin} (ho : binOf op = some bo) (ha : PE X e (tEe X c W g a)) (hb : PE X e2 (tEe X c W g b)) : PE X (.BinOp e op e2 pos) (tEe X c W g (.bin bo a b)) := by
  refine ⟨fun pins s σ H Q I t => wpAny_BinOp (thn (ha.run pins s σ H _ I (tG.step t)) fun v s1 ⟨x, H1, I1, r1, q1⟩ => thn (hb.run pins s1 σ H1 _ I1 (tH.step (k := fun sg p h => binS bo p.1 p.2 h) q1)) fun u s2 ⟨y, H2, I2, r2, q2⟩ => ?_)⟩
  obtain ⟨ρ, sg, hh, ab, A, o⟩ := q2
  exact bin_ok ho I2 r1 r2 A.o A.a.1 A.a.2 o
theorem pe_neg (ha : PE X e (tEe X c W g a)) : PE X (.UnaryOp .USub e pos) (tEe X c W g (.neg a)) := by
  refine ⟨fun pins s σ H Q I t => UnaryOp_ (thn (ha.run pins s σ H _ I (tG.step t)) fun v s1 ⟨x, H1, I1, r1, q1⟩ => ?_)⟩
  obtain ⟨ρ, sg, hh, d, A, o⟩ := q1
  have ra : RelD X.K H1 hh.length ρ d x := A.a
  dsimp only at o
  split at o
  · cases ra with | p ra => cases ra with | int i => exact un_neg pins s1 σ H1 _ v Q I1 r1 ⟨_, rfl, o.ret A.o (.p (.int _))⟩
  · exact o.elim
/-- a value's truth -/
theorem truth_ok {pins : List (Addr × Obj)} {s : Shared} {σ : L2.St} {H : Hp} {ρ : Nat → Addr} {h : Hh} {x : V} {v : Value} {d : D} {Q : Bool → Hp → Prop} (I : Inv X pins σ H s) (rx : RelV x v) (Rh : RelH (tb X c) ρ h H) (ra : RelD X.K H h.length ρ d x) (o : Out (tb X c) RL.b W h.length ρ H σ Q (R.of (truth h d) h)) :
    wpAny (model X.prog X.w) X.A (truthy v) (TP X pins σ Q) X.xe s := by
  cases e : truth h d with
  | none => rw [e] at o; exact o.elim
  | some k =>
    rw [e] at o
    exact tru_ok pins s σ H x v Q I rx ⟨k, truth_v Rh ra e, o.ret Rh rfl⟩
/-- no test of its own -/
def plainT : Expr → Bool
  | .UnaryOp .Not _ _ | .BoolOp .. | .IfExp .. | .Compare .. => false
  | _ => true
theorem isTrue_of (hp : plainT e = true) : ∀ whole, isTrue e X.env whole = (do let v ← whole; standAt e.pos; holding [v] (truthy v)) := by
  intro whole
  cases e with
  | UnaryOp op a p => cases op <;> first | rfl | cases hp
  | BoolOp op a p => cases hp
  | IfExp t a b p => cases hp
  | Compare a o l p => cases hp
  | _ => rfl
theorem pt_of (hp : plainT e = true) (ha : PE X e (tEe X c W g a)) : PT X e (tTe X c W g a) := by
  refine ⟨fun pins s σ H Q I t => isTrue_plain (thn (ha.run pins s σ H _ I (tG.step (k := fun sg d h => R.of (truth h d) h) t)) fun v s1 ⟨x, H1, I1, r1, q1⟩ => ?_) (isTrue_of hp _)⟩
  obtain ⟨ρ, sg, hh, d, A, o⟩ := q1
  exact truth_ok I1 r1 A.o A.a o
/-! ### the text's forms -/
def noStar : Expr → Bool
  | .Starred .. => false
  | _ => true
theorem star_of {es : List Expr} {env : Env} (h : noStar e = true) : starEach (e :: es) env = (false, eval e env) :: starEach es env := by
  cases e <;> first | rfl | cases h
theorem base_of {f : Str} {env : Env} {w : Sem Value} (h : isSuper e = false) : attributeBase e f env w = w := by
  cases e with
  | Call fn es kw p =>
    cases fn with
    | Name x q =>
      have h : (x == "super") = false := h
      have hx : ¬ x = Str.ofString "super" := by simpa using h
      cases es <;> cases kw <;> simp [attributeBase, hx]
    | _ => rfl
  | _ => rfl
theorem plainIx_of (h : plainIx e = true) : PlainIx e := by
  intro o i
  cases e <;> first | rfl | cases h
theorem stars_all {env : Env} : ∀ {es : List Expr}, (∀ e ∈ es, noStar e = true) → (starEach es env).all (fun x => !x.1) = true ∧ (starEach es env).any (fun x => x.1) = false ∧ (starEach es env).length = es.length
  | [], _ => ⟨rfl, rfl, rfl⟩
  | e :: es, h => by
    obtain ⟨h1, h2, h3⟩ := stars_all (env := env) (es := es) fun x hx => h x (List.mem_cons_of_mem _ hx)
    rw [star_of (h e List.mem_cons_self)]
    exact ⟨by simp [h1], by simp [h2], by simp [h3]⟩
theorem back_any {pos : Pos} {l : List (Bool × Sem Value)} (h : l.any (fun x => x.1) = false) : (backTo pos l).any (fun x => x.1) = false := by
  cases l with
  | nil => rfl
  | cons x r => first | exact h | simpa [backTo] using h
theorem back_all {pos : Pos} {l : List (Bool × Sem Value)} (h : l.all (fun x => !x.1) = true) : (backTo pos l).all (fun x => !x.1) = true := by
  cases l with
  | nil => rfl
  | cons x r => first | exact h | simpa [backTo] using h

/-! ### lists of expressions -/
abbrev tAe (X : Cx) (c : Ct) (W : WX) (g : G) (a : IEs) : TA := tA (tb X c) W (evEs g a)
theorem pa_nilE : PA X [] (tAe X c W g .nil) := by
  refine ⟨fun p pins s σ H Q I t => pa_nil.run p pins s σ H Q I ?_⟩
  obtain ⟨ρ, sg, hh, _, A, o⟩ := t
  exact o.ret A.o .nil
theorem pa_consE {es : List Expr} {as : IEs} (hs : noStar e = true) (ha : PE X e (tEe X c W g a)) (hr : PA X es (tAe X c W g as)) : PA X (e :: es) (tAe X c W g (.cons a as)) := by
  refine ⟨fun pos pins s σ H Q I t => ?_⟩
  rw [star_of hs]
  show wpAny _ _ (spliced ((false, eval e X.env) :: backTo pos (starEach es X.env))) _ _ s
  refine Calls.spliced_cons (thn (ha.run pins s σ H _ I (tG.step t)) fun u s1 ⟨x, H1, I1, r1, q1⟩ => ?_)
  refine thn (hr.run pos pins s1 σ H1 _ I1 (tH.step (k := fun sg p h => .ok (p.1 :: p.2) h) q1)) fun us s2 ⟨xs, H2, I2, r2, q2⟩ => ?_
  obtain ⟨ρ, sg, hh, ab, A, o⟩ := q2
  exact ⟨x :: xs, H2, I2, .cons r1 r2, o.ret A.o (.cons A.a.1 A.a.2)⟩
theorem pe_tupE {x1 : Nat} {es : List Expr} {as : IEs} (ha : PA X es (tAe X c W g as)) : PE X (.Tuple es x1 pos) (tEe X c W g (.tup as)) := by
  refine ⟨fun pins s σ H Q I t => (pe_tup ha).run pins s σ H Q I ?_⟩
  have z := tG.step (m := RL.ds) (ev := evEs g as) (k := fun sg ds h1 => if ds.length ≤ sizeLine then .ok (mkT ds) h1 else .stuck) t
  refine tG_mono (fun xs H1 q => ?_) z
  obtain ⟨ρ, sg, hh, ds, A, o⟩ := q
  dsimp only at o
  split at o
  · rename_i l
    exact ⟨by rw [← RelDs.length A.a]; exact l, fun p hp => o.newT A.o A.a hp⟩
  · exact o.elim
theorem pe_lstE {es : List Expr} {as : IEs} (ha : PA X es (tAe X c W g as)) : PE X (.List es pos) (tEe X c W g (.lst as)) := by
  refine ⟨fun pins s σ H Q I t => (pe_lst ha).run pins s σ H Q I ?_⟩
  refine tG_mono (fun xs H1 q => ?_) (tG.step (m := RL.ds) (ev := evEs g as) (k := fun sg ds h1 => if ds.length ≤ sizeLine then mk (.lst ds) h1 else .stuck) t)
  obtain ⟨ρ, sg, hh, ds, A, o⟩ := q
  dsimp only at o
  split at o
  · rename_i l
    exact ⟨by rw [← RelDs.length A.a]; exact l, fun p hp => o.newL A.o A.a hp⟩
  · exact o.elim

/-! ### not, and, or, if -/
theorem R.bind_assoc {α β γ : Type} (m : R α) (f : α → Hh → R β) (k : β → Hh → R γ) : (m.bind f).bind k = m.bind fun x h => (f x h).bind k := by cases m <;> rfl
theorem tG_cong {ev ev' : Sg → Hh → R D} {T : Tb} {σ : L2.St} {H : Hp} {Q : VK} (h : ∀ s hh, ev s hh = ev' s hh) (t : tE T W ev σ H Q) : tE T W ev' σ H Q := by
  have : ev = ev' := funext fun s => funext fun hh => h s hh
  exact this ▸ t
theorem tT_cong {ev ev' : Sg → Hh → R Bool} {T : Tb} {σ : L2.St} {H : Hp} {Q : Bool → Hp → Prop} (h : ∀ s hh, ev s hh = ev' s hh) (t : tT T W ev σ H Q) : tT T W ev' σ H Q := by
  have : ev = ev' := funext fun s => funext fun hh => h s hh
  exact this ▸ t
theorem pe_notE (ha : PE X e (tEe X c W g a)) : PE X (.UnaryOp .Not e pos) (tEe X c W g (.not a)) := by
  refine ⟨fun pins s σ H Q I t => UnaryOp_ (thn (ha.run pins s σ H _ I (tG.step (k := fun sg x h => (R.of (truth h x) h).bind fun b h1 => .ok (.p (.bl (!b))) h1) (tG_cong (fun s hh => R.bind_assoc _ _ _) t))) fun v s1 ⟨x, H1, I1, r1, q1⟩ => ?_)⟩
  obtain ⟨ρ, sg, hh, d, A, o⟩ := q1
  dsimp only at o
  refine not_of (thn (truth_ok (W := W) (Q := fun k H2 => Q (.bl (!k)) H2) I1 r1 A.o A.a ?_) fun k s2 ⟨H2, I2, q2⟩ => ⟨.bl (!k), H2, I2, rfl, q2⟩)
  cases q : truth hh d with
  | none => rw [q] at o; exact o.elim
  | some k =>
    rw [q] at o
    exact fun ρ' b H' l1 e1 k1 R1 r1 => by
      cases r1
      exact o ρ' _ H' l1 e1 k1 R1 (.p (.bl _))
theorem pt_notE (ha : PT X e (tTe X c W g a)) : PT X (.UnaryOp .Not e pos) (tTe X c W g (.not a)) := by
  refine ⟨fun pins s σ H Q I t => wpAny_isTrue_Not (thn (ha.run pins s σ H (fun k H1 => Q (!k) H1) I ?_) fun _ _ q => q)⟩
  refine tG_mono (fun k H1 q => ?_) (tG.step (m := RL.b) (k := fun sg b h => .ok (!b) h) (tT_cong (fun s hh => ?_) t))
  · obtain ⟨ρ, sg, hh, d, A, o⟩ := q
    have e : d = k := A.a
    subst e
    exact o.ret A.o rfl
  · show tr ((tr (evE g a s hh)).bind _) = _
    cases tr (evE g a s hh) <;> rfl
theorem pe_andE {es : List Expr} (ha : PE X e (tEe X c W g a)) (hb : PE X (.BoolOp .And (e2 :: es) pos) (tEe X c W g b)) : PE X (.BoolOp .And (e :: e2 :: es) pos) (tEe X c W g (.and a b)) := by
  refine ⟨fun pins s σ H Q I t => BoolOp_and (thn (ha.run pins s σ H _ I (tG.step t)) fun v s1 ⟨x, H1, I1, r1, q1⟩ => ?_)⟩
  obtain ⟨ρ, sg, hh, d, A, o⟩ := q1
  dsimp only at o
  cases q : truth hh d with
  | none => rw [q] at o; exact o.elim
  | some k =>
    rw [q] at o
    refine thn (tru_ok pins s1 σ H1 x v (fun c H2 => c = k ∧ H2 = H1) I1 r1 ⟨k, truth_v A.o A.a q, rfl, rfl⟩) fun c s2 ⟨H2, I2, e1, e2⟩ => ?_
    subst e1 e2
    cases c with
    | true => exact hb.run pins s2 σ H2 Q I2 ⟨ρ, sg, hh, (), ⟨A.s, A.o, True.intro⟩, o⟩
    | false => exact ⟨x, H2, I2, r1, o.ret A.o A.a⟩
theorem pe_orE {es : List Expr} (ha : PE X e (tEe X c W g a)) (hb : PE X (.BoolOp .Or (e2 :: es) pos) (tEe X c W g b)) : PE X (.BoolOp .Or (e :: e2 :: es) pos) (tEe X c W g (.or a b)) := by
  refine ⟨fun pins s σ H Q I t => BoolOp_or (thn (ha.run pins s σ H _ I (tG.step t)) fun v s1 ⟨x, H1, I1, r1, q1⟩ => ?_)⟩
  obtain ⟨ρ, sg, hh, d, A, o⟩ := q1
  dsimp only at o
  cases q : truth hh d with
  | none => rw [q] at o; exact o.elim
  | some k =>
    rw [q] at o
    refine thn (tru_ok pins s1 σ H1 x v (fun c H2 => c = k ∧ H2 = H1) I1 r1 ⟨k, truth_v A.o A.a q, rfl, rfl⟩) fun c s2 ⟨H2, I2, e1, e2⟩ => ?_
    subst e1 e2
    cases c with
    | false => exact hb.run pins s2 σ H2 Q I2 ⟨ρ, sg, hh, (), ⟨A.s, A.o, True.intro⟩, o⟩
    | true => exact ⟨x, H2, I2, r1, o.ret A.o A.a⟩
theorem tr_and (x : R D) (f : Hh → R D) : tr (x.bind fun d h1 => (R.of (truth h1 d) h1).bind fun k h2 => if k then f h2 else .ok d h2) = (tr x).bind fun k h1 => if k then tr (f h1) else .ok false h1 := by
  cases x with
  | stuck => rfl
  | exc _ _ => rfl
  | ok d h =>
    show tr ((R.of (truth h d) h).bind _) = (R.of (truth h d) h).bind _
    cases q : truth h d with
    | none => rfl
    | some k =>
      cases k with
      | true => rfl
      | false => show R.of (truth h d) h = _; rw [q]; rfl
theorem tr_or (x : R D) (f : Hh → R D) : tr (x.bind fun d h1 => (R.of (truth h1 d) h1).bind fun k h2 => if k then .ok d h2 else f h2) = (tr x).bind fun k h1 => if k then .ok true h1 else tr (f h1) := by
  cases x with
  | stuck => rfl
  | exc _ _ => rfl
  | ok d h =>
    show tr ((R.of (truth h d) h).bind _) = (R.of (truth h d) h).bind _
    cases q : truth h d with
    | none => rfl
    | some k =>
      cases k with
      | false => rfl
      | true => show R.of (truth h d) h = _; rw [q]; rfl
theorem tT_keep {k : Bool} {σ : L2.St} {H : Hp} {Q : Bool → Hp → Prop} {f : Sg → Bool → Hh → R Bool} (q : tH (tb X c) W RL.b RL.b f k σ H Q) : tT (tb X c) W (fun s h => f s k h) σ H Q := by
  obtain ⟨ρ, sg, hh, d, A, o⟩ := q
  have e : d = k := A.a
  subst e
  exact ⟨ρ, sg, hh, (), ⟨A.s, A.o, True.intro⟩, o⟩
theorem tT_done {k : Bool} {σ : L2.St} {H : Hp} {Q : Bool → Hp → Prop} (q : tT (tb X c) W (fun s h => .ok k h) σ H Q) : Q k H := by
  obtain ⟨ρ, sg, hh, d, A, o⟩ := q
  exact o.ret A.o rfl
theorem pw_andE {es : List Expr} (ha : PT X e (tTe X c W g a)) (hb : PW X (.BoolOp .And (e2 :: es) pos) (tTe X c W g b)) : PW X (.BoolOp .And (e :: e2 :: es) pos) (tTe X c W g (.and a b)) := by
  refine ⟨fun whole pins s σ H Q I t => (pw_and ha hb).run whole pins s σ H Q I ?_⟩
  refine tG_mono (fun k H1 q => ?_) (tG.step (m := RL.b) (k := fun sg k h => if k then tr (evE g b sg h) else .ok false h) (tT_cong (fun s hh => tr_and _ fun h2 => evE g b s h2) t))
  have q := tT_keep q
  cases k with
  | true => exact q
  | false => exact tT_done q
theorem pw_orE {es : List Expr} (ha : PT X e (tTe X c W g a)) (hb : PW X (.BoolOp .Or (e2 :: es) pos) (tTe X c W g b)) : PW X (.BoolOp .Or (e :: e2 :: es) pos) (tTe X c W g (.or a b)) := by
  refine ⟨fun whole pins s σ H Q I t => (pw_or ha hb).run whole pins s σ H Q I ?_⟩
  refine tG_mono (fun k H1 q => ?_) (tG.step (m := RL.b) (k := fun sg k h => if k then .ok true h else tr (evE g b sg h)) (tT_cong (fun s hh => tr_or _ fun h2 => evE g b s h2) t))
  have q := tT_keep q
  cases k with
  | false => exact q
  | true => exact tT_done q
theorem tE_keep {k : Bool} {σ : L2.St} {H : Hp} {Q : VK} {f : Sg → Bool → Hh → R D} (q : tH (tb X c) W RL.b RL.d f k σ H Q) : tE (tb X c) W (fun s h => f s k h) σ H Q := by
  obtain ⟨ρ, sg, hh, d, A, o⟩ := q
  have e : d = k := A.a
  subst e
  exact ⟨ρ, sg, hh, (), ⟨A.s, A.o, True.intro⟩, o⟩
theorem pe_iteE (ht : PT X e (tTe X c W g a)) (ha : PE X e2 (tEe X c W g b)) (hb : PE X e3 (tEe X c W g d)) : PE X (.IfExp e e2 e3 pos) (tEe X c W g (.ite a b d)) := by
  refine ⟨fun pins s σ H Q I t => (pe_ifExp ht ha hb).run pins s σ H Q I ?_⟩
  refine tG_mono (fun k H1 q => ?_) (tG.step (m := RL.b) (k := fun sg k h => if k then evE g b sg h else evE g d sg h) t)
  have q := tE_keep q
  cases k with
  | true => exact q
  | false => exact q
theorem pt_iteE (ht : PT X e (tTe X c W g a)) (ha : PT X e2 (tTe X c W g b)) (hb : PT X e3 (tTe X c W g d)) : PT X (.IfExp e e2 e3 pos) (tTe X c W g (.ite a b d)) := by
  refine ⟨fun pins s σ H Q I t => (pt_ifExp ht ha hb).run pins s σ H Q I ?_⟩
  refine tG_mono (fun k H1 q => ?_) (tG.step (m := RL.b) (k := fun sg k h => if k then tr (evE g b sg h) else tr (evE g d sg h)) (tT_cong (fun s hh => ?_) t))
  · have q := tT_keep q
    cases k with
    | true => exact q
    | false => exact q
  · show tr ((tr (evE g a s hh)).bind _) = _
    cases tr (evE g a s hh) with
    | stuck => rfl
    | exc _ _ => rfl
    | ok k h => cases k <;> rfl

/-! ### comparisons -/
theorem pe_cmpE {op : CmpOp} (hu : X.A.units + 64 < cLine) (hm : behindInMarks op e2 = false) (ha : PE X e (tEe X c W g a)) (hb : PE X e2 (tEe X c W g b)) : PE X (.Compare e [op] [e2] pos) (tEe X c W g (.cmp (cmpOf op) a b)) := by
  refine ⟨fun pins s σ H Q I t => wpAny_Compare1 (thn (ha.run pins s σ H _ I (tG.step t)) fun v s1 ⟨x, H1, I1, r1, q1⟩ => thn (hb.run pins s1 σ H1 _ I1 (tH.step (k := fun sg p h => (cmpS (cmpOf op) p.1 p.2 h).bind fun k h3 => (R.ok (D.p (P.bl k)) h3 : R D)) q1)) fun u s2 ⟨y, H2, I2, r2, q2⟩ => ?_) hm⟩
  obtain ⟨ρ, sg, hh, ab, A, o⟩ := q2
  refine cmp_ok (W := W) hu I2 r1 r2 A.o A.a.1 A.a.2 ?_
  dsimp only at o
  cases q : cmpS (cmpOf op) ab.1 ab.2 hh with
  | stuck => rw [q] at o; exact o
  | exc _ _ => rw [q] at o; exact o
  | ok k h3 =>
    rw [q] at o
    exact fun ρ' b' H' l1 e1 k1 R1 r1 => by
      cases r1
      exact o ρ' _ H' l1 e1 k1 R1 (.p (.bl _))
theorem pt_cmpE {op : CmpOp} (hu : X.A.units + 64 < cLine) (hm : behindInMarks op e2 = false) (ha : PE X e (tEe X c W g a)) (hb : PE X e2 (tEe X c W g b)) : PT X (.Compare e [op] [e2] pos) (tTe X c W g (.cmp (cmpOf op) a b)) := by
  refine ⟨fun pins s σ H Q I t => ?_⟩
  have t : tT (tb X c) W (fun sg h => (evE g a sg h).bind fun x h1 => (evE g b sg h1).bind fun y h2 => cmpS (cmpOf op) x y h2) σ H Q := tT_cong (fun s hh => by
    show tr ((evE g a s hh).bind _) = _
    cases evE g a s hh with
    | stuck => rfl
    | exc _ _ => rfl
    | ok x h1 =>
      show tr ((evE g b s h1).bind _) = (evE g b s h1).bind _
      cases evE g b s h1 with
      | stuck => rfl
      | exc _ _ => rfl
      | ok y h2 =>
        show tr ((cmpS (cmpOf op) x y h2).bind _) = cmpS (cmpOf op) x y h2
        cases cmpS (cmpOf op) x y h2 <;> rfl) t
  refine wpAny_isTrue_Compare1 (thn (ha.run pins s σ H _ I (tG.step t)) fun v s1 ⟨x, H1, I1, r1, q1⟩ => thn (hb.run pins s1 σ H1 _ I1 (tH.step (k := fun sg p h => cmpS (cmpOf op) p.1 p.2 h) q1)) fun u s2 ⟨y, H2, I2, r2, q2⟩ => ?_) hm
  obtain ⟨ρ, sg, hh, ab, A, o⟩ := q2
  refine thn (cmp_ok (W := W) (Q := fun z H3 => ∃ k, z = .bl k ∧ Q k H3) hu I2 r1 r2 A.o A.a.1 A.a.2 (Out.mono (fun k H' q => ⟨k, rfl, q⟩) o)) fun z s3 ⟨zz, H3, I3, r3, k, e1, q3⟩ => ?_
  subst e1
  cases r3
  exact wpAny_truthy_bool ⟨H3, I3, q3⟩
/-- a chain of two -/
theorem tr_ok_bl {m : R Bool} : tr (m.bind fun k h => .ok (.p (.bl k)) h) = m := by cases m <;> rfl
theorem bl_out {Q : VK} {n : Nat} {ρ : Nat → Addr} {H : Hp} {σ : L2.St} {m : R Bool} (o : Out (tb X c) RL.d W n ρ H σ Q (m.bind fun k h => .ok (.p (.bl k)) h)) : Out (tb X c) RL.b W n ρ H σ (fun k H' => Q (.bl k) H') m := by
  cases m with
  | stuck => exact o
  | exc _ _ => exact o
  | ok k h3 =>
    exact fun ρ' b' H' l1 e1 k1 R1 r1 => by
      cases r1
      exact o ρ' _ H' l1 e1 k1 R1 (.p (.bl _))
theorem pe_cmp2E {op op' : CmpOp} (hu : X.A.units + 64 < cLine) (hm : lastMarks [op, op'] [e2, e3] = false) (ha : PE X e (tEe X c W g a)) (hb : PE X e2 (tEe X c W g b)) (hd : PE X e3 (tEe X c W g d)) : PE X (.Compare e [op, op'] [e2, e3] pos) (tEe X c W g (.cmp2 (cmpOf op) (cmpOf op') a b d)) := by
  refine ⟨fun pins s σ H Q I t => Compare_chain (thn (ha.run pins s σ H _ I (tG.step t)) fun v s1 ⟨x, H1, I1, r1, q1⟩ => chain_link (thn (hb.run pins s1 σ H1 _ I1 (tH.step (k := fun sg p h => (cmpS (cmpOf op) p.1 p.2 h).bind fun k h3 =>
      if k then (evE g d sg h3).bind fun z h4 => (cmpS (cmpOf op') p.2 z h4).bind fun k h5 => (R.ok (D.p (P.bl k)) h5 : R D) else .ok (.p (.bl false)) h3) q1)) fun u s2 ⟨y, H2, I2, r2, q2⟩ => ?_)) hm⟩
  obtain ⟨ρ, sg, hh, ab, A, o⟩ := q2
  dsimp only at o
  have st : Out (tb X c) RL.b W hh.length ρ H2 σ (fun k H3 => tH (tb X c) W (RL.d.x RL.b) RL.d (fun sg p h3 => if p.2 then (evE g d sg h3).bind fun z h4 => (cmpS (cmpOf op') p.1 z h4).bind fun k h5 => (R.ok (D.p (P.bl k)) h5 : R D) else .ok (.p (.bl false)) h3) (y, k) σ H3 Q) (cmpS (cmpOf op) ab.1 ab.2 hh) := by
    cases q : cmpS (cmpOf op) ab.1 ab.2 hh with
    | stuck => rw [q] at o; exact o
    | exc _ _ => rw [q] at o; exact o
    | ok k h3 =>
      rw [q] at o
      exact fun ρ' k' H' l1 e1 k1 R1 r1 => ⟨ρ', sg, h3, (ab.2, k), ⟨A.s.mono k1 e1 l1, R1, A.a.2.mono k1 e1 l1, r1⟩, Out.later o l1 e1 k1⟩
  refine thn (cmp_ok (W := W) (Q := fun z H3 => ∃ k, z = .bl k ∧ tH (tb X c) W (RL.d.x RL.b) RL.d (fun sg p h3 => if p.2 then (evE g d sg h3).bind fun z h4 => (cmpS (cmpOf op') p.1 z h4).bind fun k h5 => (R.ok (D.p (P.bl k)) h5 : R D) else .ok (.p (.bl false)) h3) (y, k) σ H3 Q) hu I2 r1 r2 A.o A.a.1 A.a.2 (Out.mono (fun k H' q => ⟨k, rfl, q⟩) st)) fun z s3 ⟨zz, H3, I3, r3, k, ek, q3⟩ => ?_
  subst ek
  cases r3
  refine wpAny_truthy_bool ?_
  obtain ⟨ρ3, sg3, h3, yk, A3, o3⟩ := q3
  have ek : yk.2 = k := A3.a.2
  dsimp only at o3
  rw [ek] at o3
  cases k with
  | false => exact ite_ff ⟨.bl false, H3, I3, rfl, o3.ret A3.o (.p (.bl _))⟩
  | true =>
    refine ite_tt (chain_last (thn (hd.run pins s3 σ H3 _ I3 (tH.step (l := RL.d) (x := y) (k := fun sg p h4 => (cmpS (cmpOf op') p.1 p.2 h4).bind fun k h5 => (R.ok (D.p (P.bl k)) h5 : R D)) ⟨ρ3, sg3, h3, yk.1, ⟨A3.s, A3.o, A3.a.1⟩, o3⟩)) fun w' s4 ⟨z', H4, I4, r4, q4⟩ => ?_))
    obtain ⟨ρ4, sg4, h4, yz, A4, o4⟩ := q4
    exact cmp_ok (W := W) hu I4 r2 r4 A4.o A4.a.1 A4.a.2 (bl_out o4)
theorem tr_if {k : Bool} {m m' : R D} : tr (if k then m else m') = if k then tr m else tr m' := by cases k <;> rfl
theorem pt_cmp2E {op op' : CmpOp} (hu : X.A.units + 64 < cLine) (hm : lastMarks [op, op'] [e2, e3] = false) (ha : PE X e (tEe X c W g a)) (hb : PE X e2 (tEe X c W g b)) (hd : PE X e3 (tEe X c W g d)) : PT X (.Compare e [op, op'] [e2, e3] pos) (tTe X c W g (.cmp2 (cmpOf op) (cmpOf op') a b d)) := by
  refine ⟨fun pins s σ H Q I t => ?_⟩
  have t : tT (tb X c) W (fun sg h => (evE g a sg h).bind fun x h1 => (evE g b sg h1).bind fun y h2 => (cmpS (cmpOf op) x y h2).bind fun k h3 => if k then (evE g d sg h3).bind fun z h4 => cmpS (cmpOf op') y z h4 else .ok false h3) σ H Q := tT_cong (fun s hh => by
    show tr ((evE g a s hh).bind _) = _
    cases evE g a s hh with
    | stuck => rfl
    | exc _ _ => rfl
    | ok x h1 =>
      show tr ((evE g b s h1).bind _) = (evE g b s h1).bind _
      cases evE g b s h1 with
      | stuck => rfl
      | exc _ _ => rfl
      | ok y h2 =>
        show tr ((cmpS (cmpOf op) x y h2).bind _) = (cmpS (cmpOf op) x y h2).bind _
        cases cmpS (cmpOf op) x y h2 with
        | stuck => rfl
        | exc _ _ => rfl
        | ok k h3 =>
          cases k with
          | false => rfl
          | true =>
            show tr ((evE g d s h3).bind _) = (evE g d s h3).bind _
            cases evE g d s h3 with
            | stuck => rfl
            | exc _ _ => rfl
            | ok z h4 => exact tr_ok_bl) t
  refine isTrue_chain (thn (ha.run pins s σ H _ I (tG.step t)) fun v s1 ⟨x, H1, I1, r1, q1⟩ => test_link (thn (hb.run pins s1 σ H1 _ I1 (tH.step (k := fun sg p h => (cmpS (cmpOf op) p.1 p.2 h).bind fun k h3 =>
      if k then (evE g d sg h3).bind fun z h4 => cmpS (cmpOf op') p.2 z h4 else .ok false h3) q1)) fun u s2 ⟨y, H2, I2, r2, q2⟩ => ?_)) hm
  obtain ⟨ρ, sg, hh, ab, A, o⟩ := q2
  dsimp only at o
  have st : Out (tb X c) RL.b W hh.length ρ H2 σ (fun k H3 => tH (tb X c) W (RL.d.x RL.b) RL.b (fun sg p h3 => if p.2 then (evE g d sg h3).bind fun z h4 => cmpS (cmpOf op') p.1 z h4 else .ok false h3) (y, k) σ H3 Q) (cmpS (cmpOf op) ab.1 ab.2 hh) := by
    cases q : cmpS (cmpOf op) ab.1 ab.2 hh with
    | stuck => rw [q] at o; exact o
    | exc _ _ => rw [q] at o; exact o
    | ok k h3 =>
      rw [q] at o
      exact fun ρ' k' H' l1 e1 k1 R1 r1 => ⟨ρ', sg, h3, (ab.2, k), ⟨A.s.mono k1 e1 l1, R1, A.a.2.mono k1 e1 l1, r1⟩, Out.later o l1 e1 k1⟩
  refine thn (cmp_ok (W := W) (Q := fun z H3 => ∃ k, z = .bl k ∧ tH (tb X c) W (RL.d.x RL.b) RL.b (fun sg p h3 => if p.2 then (evE g d sg h3).bind fun z h4 => cmpS (cmpOf op') p.1 z h4 else .ok false h3) (y, k) σ H3 Q) hu I2 r1 r2 A.o A.a.1 A.a.2 (Out.mono (fun k H' q => ⟨k, rfl, q⟩) st)) fun z s3 ⟨zz, H3, I3, r3, k, ek, q3⟩ => ?_
  subst ek
  cases r3
  refine wpAny_truthy_bool ?_
  obtain ⟨ρ3, sg3, h3, yk, A3, o3⟩ := q3
  have ek : yk.2 = k := A3.a.2
  dsimp only at o3
  rw [ek] at o3
  cases k with
  | false => exact ite_ff ⟨H3, I3, o3.ret A3.o rfl⟩
  | true =>
    refine ite_tt (test_last (thn (hd.run pins s3 σ H3 _ I3 (tH.step (l := RL.d) (x := y) (k := fun sg p h4 => cmpS (cmpOf op') p.1 p.2 h4) ⟨ρ3, sg3, h3, yk.1, ⟨A3.s, A3.o, A3.a.1⟩, o3⟩)) fun w' s4 ⟨z', H4, I4, r4, q4⟩ => ?_))
    obtain ⟨ρ4, sg4, h4, yz, A4, o4⟩ := q4
    refine thn (cmp_ok (W := W) (Q := fun z H3 => ∃ k, z = .bl k ∧ Q k H3) hu I4 r2 r4 A4.o A4.a.1 A4.a.2 (Out.mono (fun k H' q => ⟨k, rfl, q⟩) o4)) fun d' s5 ⟨z2, H5, I5, r5, k2, e5, q5⟩ => ?_
    subst e5
    cases r5
    exact wpAny_truthy_bool ⟨H5, I5, q5⟩

/-! ### subscripts, slices, attributes -/
theorem pe_subE (hp : plainIx e2 = true) (ha : PE X e (tEe X c W g a)) (hb : PE X e2 (tEe X c W g b)) : PE X (.Subscript e e2 pos) (tEe X c W g (.sub a b)) := by
  refine ⟨fun pins s σ H Q I t => Subscript_ (thn (ha.run pins s σ H _ I (tG.step t)) fun v s1 ⟨x, H1, I1, r1, q1⟩ => thn (hb.run pins s1 σ H1 _ I1 (tH.step (k := fun sg p h => subS p.1 p.2 h) q1)) fun u s2 ⟨y, H2, I2, r2, q2⟩ => ?_)⟩
  obtain ⟨ρ, sg, hh, ab, A, o⟩ := q2
  exact sub_ok I2 r1 r2 A.o A.a.1 A.a.2 (plainIx_of hp _ _) o
/-- a slice's bound -/
def RL.o {K : PySem.W.Frag} : RL K (Option Int) (Option Int) := ⟨fun _ _ _ a b => a = b, fun _ _ _ r => r⟩
theorem po_noneE : PO X none (tG (tb X c) W RL.o (evO g .none)) := by
  refine ⟨fun pins s σ H Q I t => po_none.run pins s σ H Q I ?_⟩
  obtain ⟨ρ, sg, hh, _, A, o⟩ := t
  exact o.ret A.o rfl
theorem po_someE (ha : PE X e (tEe X c W g a)) : PO X (some e) (tG (tb X c) W RL.o (evO g (.some a))) := by
  refine ⟨fun pins s σ H Q I t => (po_some ha).run pins s σ H Q I ?_⟩
  refine tG_mono (fun x H1 q => ?_) (tG.step (m := RL.d) (ev := evE g a) (k := fun sg x h1 => match x with
    | .p (.int i) => .ok (some i) h1
    | _ => .stuck) t)
  obtain ⟨ρ, sg, hh, d, A, o⟩ := q
  have ra : RelD X.K H1 hh.length ρ d x := A.a
  dsimp only at o
  split at o
  · cases ra with | p ra => cases ra with | int i => exact ⟨_, rfl, o.ret A.o rfl⟩
  · exact o.elim
theorem pe_slcE {lo hi : Option Expr} {l u : IEo} {p2 : Pos} (ha : PE X e (tEe X c W g a)) (hl : PO X lo (tG (tb X c) W RL.o (evO g l))) (hu : PO X hi (tG (tb X c) W RL.o (evO g u))) : PE X (.Subscript e (.Slice lo hi none p2) pos) (tEe X c W g (.slc a l u)) := by
  refine ⟨fun pins s σ H Q I t => (pe_slice sl_d ha hl hu).run pins s σ H Q I ?_⟩
  refine tG_mono (fun x H1 q => ?_) (tG.step (m := RL.d) (k := fun sg x h1 => (evO g l sg h1).bind fun l h2 => (evO g u sg h2).bind fun u h3 => slcS x l u h3) t)
  refine tG_mono (fun x H1 q => ?_) (tH.step (m := RL.o) (k := fun sg p h2 => (evO g u sg h2).bind fun u h3 => slcS p.1 p.2 u h3) q)
  refine tG_mono (fun x H1 q => ?_) (tH.step (m := RL.o) (k := fun sg (p : (D × Option Int) × Option Int) h2 => slcS p.1.1 p.1.2 p.2 h2) q)
  obtain ⟨ρ, sg, hh, d, A, o⟩ := q
  have e1 := A.a.1.2
  have e2 := A.a.2
  dsimp only at e1 e2
  rw [← show d.1.2 = _ from e1, ← show d.2 = _ from e2]
  exact slc_at A.o A.a.1.1 o
theorem pe_attrE {f : Nat} {z : Str} (ok : CtOk X.K c) (hz : c.fld f = some z) (hs : isSuper e = false) (ha : PE X e (tEe X c W g a)) : PE X (.Attribute e z pos) (tEe X c W g (.attr a f)) := by
  refine ⟨fun pins s σ H Q I t => (pe_fld ha (base_of hs)).run pins s σ H Q I ?_⟩
  refine tG_mono (fun x H1 q => ?_) (tG.step (m := RL.d) (k := fun sg x h1 => attrS x f h1) t)
  obtain ⟨ρ, sg, hh, d, A, o⟩ := q
  exact attr_at ok hz A.o A.a o

/-! ### calls -/
def noStars (es : List Expr) : Prop := ∀ e ∈ es, noStar e = true
theorem pe_bltE {es : List Expr} {as : IEs} {bl : Blt} {nm : Str} {f : Value} {p : Pos} (hc : X.calm = true) (bare : Bare X.A) (hu : X.A.units + 66 < cLine) (hb : bltId bl = some (nm, f)) (hg : Gl X nm) (hm : X.mg nm = none) (ns : noStars (e :: es)) (ha : PA X (e :: es) (tAe X c W g as)) :
    PE X (.Call (.Name nm p) (e :: es) [] pos) (tEe X c W g (.blt bl as)) := by
  have cr : ∀ (σ : L2.St) (H : Hp) (Q : VK), tEe X c W g (.blt bl as) σ H Q → tAe X c W g as σ H (fun vs H1 => tH (tb X c) W RL.ds RL.d (fun sg ds h => bltS bl ds h) vs σ H1 Q) := fun σ H Q t => tG.step (k := fun sg ds h => bltS bl ds h) t
  have he := star_of (es := es) (env := X.env) (ns e List.mem_cons_self)
  have hpl := back_any (pos := pos) (stars_all (env := X.env) (es := es) fun x hx => ns x (List.mem_cons_of_mem _ hx)).2.1
  refine ⟨fun pins s σ H Q I t => wpAny_Call_Name_kw ?_⟩
  have fin : wpAny (model X.prog X.w) X.A (spliced (backTo pos (starEach (e :: es) X.env))) (fun us s1 => wpAny (model X.prog X.w) X.A (call f us) (EP X pins σ Q) X.xe s1) X.xe s :=
    thn (ha.run pos pins s σ H _ I (cr σ H Q t)) fun us s1 ⟨vs, H1, I1, r1, q1⟩ => by
      obtain ⟨ρ, sg, hh, ds, A, o⟩ := q1
      exact blt_ok hc bare hu hb I1 r1 A.o A.a o
  cases bl <;> first
    | (cases hb; refine ld_blt I hg hm (by rfl) (PyProof.Rows.callWith_builtin1 fin he hpl) (by decide) (by decide))
    | (cases hb; refine ld_blt I hg hm (by rfl) (PyProof.Rows.callWith_type1 fin he hpl) (by decide) (by decide))
    | cases hb

/-! ### defs, classes, methods -/
theorem RelD.r_inv {K : PySem.W.Frag} {H : Hp} {n i : Nat} {ρ : Nat → Addr} {v : V} (r : RelD K H n ρ (.r i) v) : v = .ref (ρ i) := by cases r; rfl
theorem Out.cb {W' : WX} {n : Nat} {ρ : Nat → Addr} {H : Hp} {σ σ' : L2.St} {Q : VK} {r : R D} (h : ∀ cls d H', W cls d σ H' → W' cls d σ' H') (o : Out (tb X c) RL.d W n ρ H σ Q r) : Out (tb X c) RL.d W' n ρ H σ' Q r := by
  cases r with
  | stuck => exact o
  | ok a h' => exact o
  | exc x h' => exact fun ρ' cc d H' l1 e1 k1 R1 r1 => h _ _ _ (o ρ' cc d H' l1 e1 k1 R1 r1)
/-- a def that is there -/
structure FnAt (X : Cx) (c : Ct) (k : Nat) (a : Addr) (ev : List D → Hh → R D) : Prop where
  keep : PySem.W.keepIn X.K (.ref a) = true
  go : ∃ (fd : FuncData) (np : List Str), (∀ ds h, ds.length ≠ np.length → ev ds h = .stuck) ∧ Binds X.K fd np [] ∧ FnG X.prog X.w X.K X.mg X.base (L2.CX X.prog X.w) k a fd np (spG (tb X c) np.length ev)
theorem FnAt.run {k : Nat} {fa : Addr} {ev : List D → Hh → R D} (F : FnAt X c k fa ev) (room : Room k X.A) (bare : Bare X.A) (tk : Takes X W) {pins : List (Addr × Obj)} {s : Shared} {σ : L2.St} {H : Hp} {Q : VK} {us : List Value} {vs : List V} {ρ : Nat → Addr} {h : Hh} {ds : List D}
    (I : Inv X pins σ H s) (r : Vals vs us) (R : RelH (tb X c) ρ h H) (rd : RelDs X.K H h.length ρ ds vs) (o : Out (tb X c) RL.d W h.length ρ H σ Q (ev ds h)) :
    wpAny (model X.prog X.w) X.A (call (.ref fa) us) (EP X pins σ Q) X.xe s := by
  obtain ⟨fd, np, len, bind, G⟩ := F.go
  refine FnG.run (E := fun cls d H => W cls d σ H) G room bare bind (fun pins H s e s' I q => tk e s' (XE.of_call I (fun _ _ _ z => z) q)) I r ⟨?_, ρ, h, ds, R, rd, Out.cb (fun _ _ _ z => z) o⟩
  rw [← RelDs.length rd]
  by_cases q : ds.length = np.length
  · exact q
  · rw [len ds h q] at o
    exact o.elim
theorem FnAt.make {k ci : Nat} {fa C : Addr} {ev : List D → Hh → R D} (hC : c.cls ci = some C) (M : Mk X.K C fa) (F : FnAt X c k fa ev) (room : Room (k + 1) X.A) (bare : Bare X.A) (tk : Takes X W) {pins : List (Addr × Obj)} {s : Shared} {σ : L2.St} {H : Hp} {Q : VK} {us : List Value} {vs : List V} {ρ : Nat → Addr} {h : Hh} {ds : List D}
    (I : Inv X pins σ H s) (r : Vals vs us) (R0 : RelH (tb X c) ρ h H) (rd : RelDs X.K H h.length ρ ds vs)
    (o : Out (tb X c) RL.d W h.length ρ H σ Q (match ev (.r h.length :: ds) (h ++ [.ins ci []]) with
      | .ok (.p .non) h1 => .ok (.r h.length) h1
      | .exc x h1 => .exc x h1
      | _ => .stuck)) :
    wpAny (model X.prog X.w) X.A (call (.ref C) us) (EP X pins σ Q) X.xe s := by
  obtain ⟨fd, np, len, bind, G⟩ := F.go
  refine FnG.make (E := fun cls d H => W cls d σ H) M G room bare bind (fun pins H s e s' I q => tk e s' (XE.of_call I (fun _ _ _ z => z) q)) I r fun x dx hx hdx ne => ?_
  have R1 : RelH (tb X c) ρ h (upd H dx (.own x)) := R0.pad hdx
  have k1 : Keep X.K H (upd H dx (.own x)) := keep_new hdx
  have hx1 : upd H dx (.own x) x = none := by rw [upd_ne (Ne.symm ne)]; exact hx
  obtain ⟨ρ', e0, e1, R2⟩ := R1.new (o := .ins ci []) (u := .ins C dx []) hx1 (fun ρ' e0 e1 => ⟨C, dx, [], hC, upd_same, .nil, rfl⟩)
  have k2 : Keep X.K H (upd (upd H dx (.own x)) x (.ins C dx [])) := k1.trans (keep_new hx1)
  have hl : (h ++ [O.ins ci []]).length = h.length + 1 := by simp
  have rs : RelDs X.K (upd (upd H dx (.own x)) x (.ins C dx [])) (h ++ [O.ins ci []]).length ρ' (.r h.length :: ds) (.ref x :: vs) := by
    refine .cons ?_ (rd.mono k2 e1 (by omega))
    have q : RelD X.K (upd (upd H dx (.own x)) x (.ins C dx [])) (h ++ [O.ins ci []]).length ρ' (.r h.length) (.ref (ρ' h.length)) := .r (by omega)
    rw [e0] at q
    exact q
  have hn : (V.ref x :: vs).length = np.length := by
    by_cases q : (D.r h.length :: ds).length = np.length
    · rw [← q, List.length_cons, List.length_cons, RelDs.length rd]
    · rw [len _ _ q] at o
      exact o.elim
  refine ⟨hn, ρ', h ++ [O.ins ci []], .r h.length :: ds, R2, rs, ?_⟩
  cases q : ev (.r h.length :: ds) (h ++ [.ins ci []]) with
  | stuck => rw [q] at o; exact o.elim
  | exc ex h1 =>
    rw [q] at o
    exact fun ρ2 cc d H' l1 e2 k3 R3 r3 => o ρ2 cc d H' (by omega) (e1.trans e2 (by omega)) (k2.trans k3) R3 r3
  | ok d h1 =>
    rw [q] at o
    dsimp only at o
    split at o
    · rename_i h2 e
      injection e with ed eh
      subst ed eh
      intro ρ2 v H' l1 e2 k3 R3 r3
      cases r3 with | p r3 => cases r3 with | non =>
      refine ⟨rfl, o ρ2 (.ref x) H' (by omega) (e1.trans e2 (by omega)) (k2.trans k3) R3 ?_⟩
      have q : RelD X.K H' h1.length ρ2 (.r h.length) (.ref (ρ2 h.length)) := .r (by omega)
      rw [e2 h.length (by omega), e0] at q
      exact q
    · rename_i e; cases e
    · exact o.elim
theorem okName_db {x : Str} (ok : okName x = true) : (x == ("__debug__" : Str)) = false := by
  unfold okName at ok
  rw [decide_eq_true_eq] at ok
  rw [beq_eq_false_iff_ne]
  exact ok.1
theorem call_args {es : List Expr} {as : IEs} {p : Pos} {x : Str} {f : Value} {pins : List (Addr × Obj)} {s : Shared} {σ : L2.St} {H : Hp} {Q : VK} {Q1 : List V → Hp → Prop} (hg : Gl X x) (hm : X.mg x = some f) (ok : okName x = true) (hk : PySem.W.keepIn X.K f = true) (ns : noStars es) (hn : es = [] → as = .nil) (ha : PA X es (tAe X c W g as))
    (I : Inv X pins σ H s) (t : tAe X c W g as σ H Q1) (go : ∀ us s1 vs H1, Inv X pins σ H1 s1 → Vals vs us → Q1 vs H1 → wpAny (model X.prog X.w) X.A (call f us) (EP X pins σ Q) X.xe s1) :
    wpAny (model X.prog X.w) X.A (eval (.Call (.Name x p) es [] pos) X.env) (EP X pins σ Q) X.xe s := by
  refine wpAny_Call_Name_kw (ld_glob I hg hm ?_ (okName_db ok))
  have run := ha.run pos pins s σ H _ I t
  cases es with
  | nil =>
    refine PySem.W.callWith_K0 I.kIn hk ?_
    refine go [] s [] H I .nil ?_
    have e := hn rfl
    subst e
    obtain ⟨ρ, sg, hh, _, A, o⟩ := t
    exact o.ret A.o .nil
  | cons e es =>
    have he := star_of (es := es) (env := X.env) (ns e List.mem_cons_self)
    have hpl := back_any (pos := pos) (stars_all (env := X.env) (es := es) fun x hx => ns x (List.mem_cons_of_mem _ hx)).2.1
    exact PySem.W.callWith_K (h₀ := X.base) I.ok.mod.kin hk (thn run fun us s1 ⟨vs, H1, I1, r, q⟩ => ⟨I1.kIn, go us s1 vs H1 I1 r q⟩) he hpl
theorem pe_callE {k f : Nat} {fa : Addr} {es : List Expr} {as : IEs} {p : Pos} {x : Str} (room : Room k X.A) (bare : Bare X.A) (tk : Takes X W) (F : FnAt X c k fa (g.call f)) (hg : Gl X x) (hm : X.mg x = some (.ref fa)) (ok : okName x = true) (ns : noStars es) (hn : es = [] → as = .nil) (ha : PA X es (tAe X c W g as)) :
    PE X (.Call (.Name x p) es [] pos) (tEe X c W g (.call f as)) := by
  refine ⟨fun pins s σ H Q I t => call_args hg hm ok F.keep ns hn ha I (tG.step (m := RL.ds) (k := fun sg ds h1 => g.call f ds h1) t) fun us s1 vs H1 I1 r q => ?_⟩
  obtain ⟨ρ, sg, hh, ds, A, o⟩ := q
  exact F.run room bare tk I1 r A.o A.a o
theorem pe_makeE {k ci fi : Nat} {fa C : Addr} {es : List Expr} {as : IEs} {p : Pos} {x : Str} (room : Room (k + 1) X.A) (bare : Bare X.A) (tk : Takes X W) (hi : g.cinit ci = some fi) (hC : c.cls ci = some C) (M : Mk X.K C fa) (F : FnAt X c k fa (g.init fi)) (hg : Gl X x) (hm : X.mg x = some (.ref C)) (ok : okName x = true) (ns : noStars es) (hn : es = [] → as = .nil) (ha : PA X es (tAe X c W g as)) :
    PE X (.Call (.Name x p) es [] pos) (tEe X c W g (.make ci as)) := by
  refine ⟨fun pins s σ H Q I t => call_args hg hm ok M.kp ns hn ha I (tG.step (m := RL.ds) (k := fun sg ds h1 => mkIns g ci ds h1) t) fun us s1 vs H1 I1 r q => ?_⟩
  obtain ⟨ρ, sg, hh, ds, A, o⟩ := q
  dsimp only [mkIns] at o
  rw [hi] at o
  exact F.make hC M room bare tk I1 r A.o A.a o
/-- what a class's methods are -/
def MethOk (X : Cx) (c : Ct) (g : G) (k : Nat) (mi : Nat) (z : Str) : Prop := ∀ ci f C, g.meth ci mi = some f → c.cls ci = some C → c.fok ci mi = false ∧ ∃ fa, Meth X.K C z fa ∧ FnAt X c k fa (g.call f)
theorem relFs_none {T : Tb} {H : Hp} {n : Nat} {ρ : Nat → Addr} (inj : ∀ f g x, T.fld f = some x → T.fld g = some x → f = g) {f : Nat} {z : Str} (hz : T.fld f = some z) (q : Nat → Bool) (hq : q f = false) : ∀ {fs : List (Nat × D)} {fv : List (Str × V)}, RelFs T H n ρ fs fv → (fs.all fun p => q p.1) = true → fv.lookup z = none
  | _, _, .nil, _ => rfl
  | _, _, .cons (i := i) (x := x) h1 h2 hs, e => by
    simp only [List.all_cons, Bool.and_eq_true] at e
    have : (z == x) = false := by
      rw [beq_eq_false_iff_ne]
      rintro rfl
      rw [inj _ _ _ h1 hz, hq] at e
      cases e.1
    rw [List.lookup, this]
    exact relFs_none inj hz q hq hs e.2
theorem form_ok {es : List Expr} (ns : noStars es) (hl : es.length < 29) : methodCallForm (es.length + ([] : List Keyword).length) (backTo pos (starEach es X.env)) (backToKw pos (keywordEach [] X.env)) = true := by
  unfold methodCallForm
  have h1 := back_all (pos := pos) (stars_all (env := X.env) ns).1
  have h2 : (backToKw pos (keywordEach [] X.env)) = [] := rfl
  rw [h1, h2]
  have : es.length < 30 := by omega
  simp [this]
theorem pe_methE {k mi : Nat} {z : Str} {bm : BM} {es : List Expr} {as : IEs} {ap : Pos} (room : Room k X.A) (bare : Bare X.A) (tk : Takes X W) (ok : CtOk X.K c) (hz : mi = 1000 ∧ (∀ ci, g.meth ci mi = none) ∨ c.fld mi = some z) (hb : bm = bmOf z) (mo : MethOk X c g k mi z)
    (hs : isSuper e = false) (hline : (ap.endLine == pos.line) = true) (hl : es.length < 29) (ns : noStars es) (hn : es = [] → as = .nil) (hn2 : es ≠ [] → ∃ b bs, as = .cons b bs) (he : PE X e (tEe X c W g a)) (ha : PA X es (tAe X c W g as)) :
    PE X (.Call (.Attribute e z ap) es [] pos) (tEe X c W g (.meth a mi bm as)) := by
  refine ⟨fun pins s σ H Q I t => ?_⟩
  rw [arm_eval_Call, base_of hs]
  refine wpAny_bind (thn (he.run pins s σ H _ I (tG.step (m := RL.d) t)) fun v s1 ⟨x, H1, I1, r1, q1⟩ => ?_)
  refine wpAny_bind (wpAny_standAt ?_)
  have hpos : methodCallPos true e X.env ap pos = pure pos := by unfold methodCallPos; simp [hline]
  unfold methodCall
  rw [form_ok ns hl]
  obtain ⟨ρ, sg, hh, d, A, o⟩ := q1
  have ra : RelD X.K H1 hh.length ρ d x := A.a
  dsimp only at o
  cases q : methK g mi bm d hh with
  | no => rw [q] at o; exact o.elim
  | fn f =>
    rw [q] at o
    dsimp only at o
    unfold methK at q
    split at q
    · rename_i i
      split at q
      · rename_i ci fs gi
        split at q
        · rename_i f' em
          cases q
          rcases hz with ⟨_, hz⟩ | hz
          · rw [hz ci] at em; cases em
          · cases ra with | r hi =>
            obtain ⟨C, dx, fv, e0, e1, rf, al⟩ := A.o.obj i _ gi
            obtain ⟨fk, fa, me, F⟩ := mo ci _ C em e0
            have ln : fv.lookup z = none := relFs_none (T := tb X c) ok.inj hz (c.fok ci) fk rf al
            cases r1
            refine wpAny_bind (wpAny_holding (getmeth_ok I1 e1 (ok.cls _ _ e0) me ln ?_))
            refine wpAny_bind (wpAny_of_eq hpos ?_)
            have t2 : tAe X c W g as σ H1 (fun vs H2 => tH (tb X c) W (RL.d.x RL.ds) RL.d (fun sg (p : D × List D) h => g.call f (p.1 :: p.2) h) (V.ref (ρ i), vs) σ H2 Q) :=
              tH.step (l := RL.d) (x := V.ref (ρ i)) (k := fun sg (p : D × List D) h => g.call f (p.1 :: p.2) h) ⟨ρ, sg, hh, _, A, o⟩
            have run := ha.run pos pins s1 σ H1 _ I1 t2
            cases es with
            | nil =>
              refine PySem.W.callWith_K0 (first := [.ref (ρ i)]) I1.kIn me.kp ?_
              have e := hn rfl
              subst e
              obtain ⟨ρ2, sg2, h2, _, A2, o2⟩ := t2
              have z := o2.ret A2.o .nil
              obtain ⟨ρ3, sg3, h3, dd, A3, o3⟩ := z
              exact F.run room bare tk (us := [.ref (ρ i)]) (vs := [.ref (ρ i)]) I1 (.cons rfl .nil) A3.o (.cons A3.a.1 A3.a.2) o3
            | cons e0 es =>
              have he := star_of (es := es) (env := X.env) (ns e0 List.mem_cons_self)
              have hpl := back_any (pos := pos) (stars_all (env := X.env) (es := es) fun x hx => ns x (List.mem_cons_of_mem _ hx)).2.1
              refine PySem.W.callWith_K (first := [.ref (ρ i)]) (h₀ := X.base) I.ok.mod.kin me.kp (thn run fun us s2 ⟨vs, H2, I2, r, q2⟩ => ⟨I2.kIn, ?_⟩) he hpl
              obtain ⟨ρ3, sg3, h3, dd, A3, o3⟩ := q2
              exact F.run room bare tk (us := .ref (ρ i) :: us) (vs := .ref (ρ i) :: vs) I2 (.cons rfl r) A3.o (.cons A3.a.1 A3.a.2) o3
        · cases q
      · split at q <;> cases q
      · cases q
    · cases q
  | bm =>
    rw [q] at o
    dsimp only at o
    unfold methK at q
    split at q
    · rename_i i
      split at q
      · split at q <;> cases q
      · rename_i xs gi
        split at q
        · cases ra with | r hi =>
          obtain ⟨vs0, e1, rs⟩ := A.o.obj i _ gi
          cases r1
          have hz : z = "append" := by
            unfold bmOf at hb
            split at hb
            · assumption
            · repeat (first | (split at hb; cases hb) | cases hb)
          obtain ⟨its, n, rv, eo, _⟩ := I1.lst e1
          refine wpAny_bind (wpAny_holding ?_)
          rw [hz]
          refine getMethod_builtin ⟨_, eo, rfl⟩ PySem.F.plainAttrs_list PySem.F.slot_list_append PySem.F.type_list_append (fun b e => ⟨_, by cases e; exact eo, rfl⟩) ?_
          refine wpAny_bind (wpAny_of_eq hpos ?_)
          cases es with
          | nil =>
            have e := hn rfl
            subst e
            exact o.elim
          | cons e0 es =>
            have t2 : tAe X c W g as σ H1 (fun vs H2 => tH (tb X c) W (RL.d.x RL.ds) RL.d (fun sg (p : D × List D) h => bmS .append p.1 p.2 h) (V.ref (ρ i), vs) σ H2 Q) :=
              tH.step (l := RL.d) (x := V.ref (ρ i)) (k := fun sg (p : D × List D) h => bmS .append p.1 p.2 h) ⟨ρ, sg, hh, _, A, o⟩
            have run := ha.run pos pins s1 σ H1 _ I1 t2
            have he := star_of (es := es) (env := X.env) (ns e0 List.mem_cons_self)
            have hpl := back_any (pos := pos) (stars_all (env := X.env) (es := es) fun x hx => ns x (List.mem_cons_of_mem _ hx)).2.1
            rw [he] at run ⊢
            refine Calls.callWith_builtin (by show (false || (backTo pos (starEach es X.env)).any (·.1)) = false; rw [hpl] <;> rfl) (Calls.evalArgs_plain ?_)
            refine thn run fun us s2 ⟨vs, H2, I2, r, q2⟩ => ?_
            obtain ⟨ρ3, sg3, h3, dd, A3, o3⟩ := q2
            have r3 : RelD X.K H2 h3.length ρ3 dd.1 (V.ref (ρ i)) := A3.a.1
            have r4 : RelDs X.K H2 h3.length ρ3 dd.2 vs := A3.a.2
            dsimp only at o3
            unfold bmS at o3
            split at o3
            · rename_i j y _ e3 e4
              rw [e3] at r3
              rw [e4] at r4
              split at o3
              · rename_i ys g3
                split at o3
                · rename_i l3
                  have ej : V.ref (ρ i) = V.ref (ρ3 j) := RelD.r_inv r3
                  cases r4 with | cons r4 r5 => cases r5 with | nil =>
                  obtain ⟨vs3, e5, rs3⟩ := A3.o.obj j _ g3
                  have ea : ρ i = ρ3 j := V.ref.inj ej
                  refine mt_append pins s2 σ H2 (.ref (ρ3 j)) _ (.ref (ρ i)) us Q I2 (by rw [ea]; rfl) r ⟨_, vs3, _, rfl, rfl, e5, by rw [← RelDs.length rs3]; exact l3, ?_⟩
                  obtain ⟨kp, R'⟩ := A3.o.wr (o' := .lst (ys ++ [y])) (u := .lst (vs3 ++ [_])) g3 rfl rfl fun kp => ⟨_, upd_same, RelDs.append (rs3.mono kp (Ext.refl _ _) (Nat.le_refl _)) (.cons (r4.mono kp (Ext.refl _ _) (Nat.le_refl _)) .nil)⟩
                  exact o3 ρ3 .non _ (by rw [List.length_set]; exact Nat.le_refl _) (Ext.refl _ _) kp R' (.p .non)
                · exact o3.elim
              · exact o3.elim
            · exact o3.elim
        · cases q
      · cases q
    · cases q
end
end Pv

/-! J: targets, what is walked, comprehensions. -/
namespace Pv
open PySem L2 PySem.Spec PyProof.Rows

/-! ### targets -/
def OutG (T : Tb) (W : WX) (vs : List Nat) (n : Nat) (ρ : Nat → Addr) (H : Hp) (σ : L2.St) (Q : L2.St → Hp → Prop) : R Sg → Prop
  | .stuck => False
  | .ok sg h' => ∀ ρ' σ' H', n ≤ h'.length → Ext n ρ ρ' → Keep T.K H H' → RelH T ρ' h' H' → RelS T.K H' h'.length ρ' sg σ' → wipe σ' vs = wipe σ vs → Q σ' H'
  | .exc x h' => ∀ ρ' c d H', n ≤ h'.length → Ext n ρ ρ' → Keep T.K H H' → RelH T ρ' h' H' → RelX T H' h'.length ρ' x c d → W c d σ H'
theorem OutG.later {T : Tb} {W : WX} {vs : List Nat} {n n' : Nat} {ρ ρ' : Nat → Addr} {H H' : Hp} {σ : L2.St} {Q : L2.St → Hp → Prop} {r : R Sg} (o : OutG T W vs n ρ H σ Q r) (hn : n ≤ n') (e : Ext n ρ ρ') (k : Keep T.K H H') : OutG T W vs n' ρ' H' σ Q r := by
  cases r with
  | stuck => exact o
  | ok a h' => exact fun ρ'' b H'' l1 e1 k1 R1 r1 w => o ρ'' b H'' (Nat.le_trans hn l1) (e.trans e1 hn) (k.trans k1) R1 r1 w
  | exc x h' => exact fun ρ'' c d H'' l1 e1 k1 R1 r1 => o ρ'' c d H'' (Nat.le_trans hn l1) (e.trans e1 hn) (k.trans k1) R1 r1
/-- held: a value; what is stored is told by f -/
def tHG {α β : Type} (T : Tb) (W : WX) (vs : List Nat) (l : RL T.K α β) (f : Sg → α → Hh → R Sg) (x : β) (σ : L2.St) (H : Hp) (Q : L2.St → Hp → Prop) : Prop :=
  ∃ ρ sg h a, At T l x σ H ρ sg h a ∧ OutG T W vs h.length ρ H σ Q (f sg a h)
abbrev tTg (T : Tb) (W : WX) (vs : List Nat) (asg : D → Sg → Hh → R Sg) : TG := fun v σ H Q => tHG T W vs RL.d (fun sg d h => asg d sg h) v σ H Q
abbrev tTgs (T : Tb) (W : WX) (vs : List Nat) (asg : List D → Sg → Hh → R Sg) : TGs := fun v σ H Q => tHG T W vs RL.ds (fun sg d h => asg d sg h) v σ H Q
theorem tHG.step {T : Tb} {W : WX} {vs : List Nat} {α β γ δ : Type} {l : RL T.K α β} {m : RL T.K γ δ} {ev : Sg → Hh → R γ} (k : Sg → α × γ → Hh → R Sg) {x : β} {σ : L2.St} {H : Hp} {Q : L2.St → Hp → Prop} (t : tHG T W vs l (fun sg a h => (ev sg h).bind fun b h1 => k sg (a, b) h1) x σ H Q) :
    tG T W m ev σ H fun y H1 => tHG T W vs (l.x m) k (x, y) σ H1 Q := by
  obtain ⟨ρ, sg, h, a, A, o⟩ := t
  refine ⟨ρ, sg, h, (), ⟨A.s, A.o, True.intro⟩, ?_⟩
  show Out T m W h.length ρ H σ _ (ev sg h)
  have o : OutG T W vs h.length ρ H σ Q ((ev sg h).bind fun b h1 => k sg (a, b) h1) := o
  cases e : ev sg h with
  | stuck => rw [e] at o; exact o
  | ok b h1 =>
    rw [e] at o
    intro ρ1 y H1 l1 e1 k1 R1 r1
    exact ⟨ρ1, sg, h1, (a, b), ⟨A.s.mono k1 e1 l1, R1, l.mono k1 e1 l1 A.a, r1⟩, OutG.later o l1 e1 k1⟩
  | exc x h1 =>
    rw [e] at o
    exact fun ρ1 c d H1 l1 e1 k1 R1 r1 => o ρ1 c d H1 l1 e1 k1 R1 r1
theorem wipe_in {σ : L2.St} {i : Nat} : ∀ {vs : List Nat}, i ∈ vs → i < σ.length → (wipe σ vs)[i]? = some none
  | [], h, _ => by cases h
  | v :: vs, h, l => by
    unfold wipe
    by_cases q : v = i
    · subst q
      rw [List.getElem?_set_self (by rw [wipe_length]; exact l)]
    · rw [List.getElem?_set_ne q]
      exact wipe_in (by rcases List.mem_cons.mp h with z | z; exact absurd z.symm q; exact z) l
theorem wipe_set {σ : L2.St} {i : Nat} {a : Option V} {vs : List Nat} (h : i ∈ vs) : wipe (σ.set i a) vs = wipe σ vs := by
  refine List.ext_getElem? fun j => ?_
  by_cases q : j ∈ vs
  · by_cases l : j < σ.length
    · rw [wipe_in q l, wipe_in q (by rw [List.length_set]; exact l)]
    · rw [List.getElem?_eq_none (by rw [wipe_length, List.length_set]; omega), List.getElem?_eq_none (by rw [wipe_length]; omega)]
  · rw [wipe_out q, wipe_out q, List.getElem?_set_ne (by rintro rfl; exact q h)]

section
variable {X : Cx} {c : Ct} {W : WX} {g : G} {e e2 : Expr} {a b : IE} {pos : Pos} {vs : List Nat}
theorem pg_nameE {i : Nat} {x : Str} (hN : X.N.Nodup) (hi : X.N[i]? = some x) (hx : Loc X.env.scope x) (hf : X.fn x = true ∨ X.env.scope.names.lookup x = some .local) (hv : i ∈ vs) : PG X (.Name x pos) (tTg (tb X c) W vs (asgT g (.v i))) := by
  refine ⟨fun pins s σ H v u Q I r t => (pg_name hN hi hx hf).run pins s σ H v u Q I r ?_⟩
  obtain ⟨ρ, sg, hh, d, A, o⟩ := t
  exact o ρ _ H (Nat.le_refl _) (Ext.refl _ _) (Keep.refl _ _) A.o (A.s.set A.a) (wipe_set hv)
theorem pg_fldE {f : Nat} {z : Str} (ok : CtOk X.K c) (hz : c.fld f = some z) (hF : g.fok = c.fok) (ha : PE X e (tEe X c W g a)) : PG X (.Attribute e z pos) (tTg (tb X c) W vs (asgT g (.attr a f))) := by
  refine ⟨fun pins s σ H v u Q I r t => (pg_fld ha).run pins s σ H v u Q I r ?_⟩
  refine tG_mono (fun x H1 q => ?_) (tHG.step (m := RL.d) (k := fun sg (p : D × D) h => (putAttrS g.fok p.2 f p.1 h).bind fun _ h2 => R.ok sg h2) t)
  obtain ⟨ρ, sg, hh, d, A, o⟩ := q
  rw [hF] at o
  refine putAttr_at (W := W) (σ := σ) ok hz A.o A.a.2 A.a.1 ?_
  dsimp only at o
  cases q : putAttrS c.fok d.2 f d.1 hh with
  | stuck => rw [q] at o; exact o
  | exc _ _ => rw [q] at o; exact o
  | ok _ h2 =>
    rw [q] at o
    exact fun ρ' b' H' l1 e1 k1 R1 r1 => o ρ' σ H' l1 e1 k1 R1 (A.s.mono k1 e1 l1) rfl
theorem pg_subE (hp : plainIx e2 = true) (ha : PE X e (tEe X c W g a)) (hb : PE X e2 (tEe X c W g b)) : PG X (.Subscript e e2 pos) (tTg (tb X c) W vs (asgT g (.sub a b))) := by
  refine ⟨fun pins s σ H v u Q I r t => ?_⟩
  have ha' : assign (.Subscript e e2 pos) X.env u = (do
      let ov ← holding [u] (eval e X.env)
      let iv ← holding [u, ov] (eval e2 X.env)
      standAt pos
      holding [u, ov, iv] (setItem ov iv u)
      release [u, ov, iv] []) := by cases e2 <;> first | rfl | cases hp
  rw [ha']
  refine wpAny_bind (wpAny_holding (thn (ha.run pins s σ H _ I (tHG.step (m := RL.d) (k := fun sg (p : D × D) h => (evE g b sg h).bind fun y h2 => (putS p.2 y p.1 h2).bind fun _ h3 => R.ok sg h3) t)) fun ov s1 ⟨x, H1, I1, r1, q1⟩ => ?_))
  refine wpAny_bind (wpAny_holding (thn (hb.run pins s1 σ H1 _ I1 (tHG.step (m := RL.d) (k := fun sg (p : (D × D) × D) h => (putS p.1.2 p.2 p.1.1 h).bind fun _ h3 => R.ok sg h3) q1)) fun iv s2 ⟨y, H2, I2, r2, q2⟩ => ?_))
  obtain ⟨ρ, sg, hh, d, A, o⟩ := q2
  refine wpAny_bind (wpAny_standAt (wpAny_bind (wpAny_holding (thn (put_ok (W := W) (σ := σ) (Q := fun H' => Q σ H') I2 r1 r2 r A.o A.a.1.2 A.a.2 A.a.1.1 ?_) fun _ s3 ⟨H3, I3, q3⟩ => ?_))))
  · dsimp only at o
    cases q : putS d.1.2 d.2 d.1.1 hh with
    | stuck => rw [q] at o; exact o
    | exc _ _ => rw [q] at o; exact o
    | ok _ h2 =>
      rw [q] at o
      exact fun ρ' b' H' l1 e1 k1 R1 r1 => o ρ' σ H' l1 e1 k1 R1 (A.s.mono k1 e1 l1) rfl
  · exact wpAny_release ⟨σ, H3, I3, q3⟩
theorem each_of' {es : List Expr} {env : Env} (h : noStar e = true) : assignEach (e :: es) env = (false, assign e env) :: assignEach es env := by
  cases e <;> first | rfl | cases h
theorem each_all {env : Env} : ∀ {es : List Expr}, noStars es → (assignEach es env).length = es.length ∧ (assignEach es env).findIdx? (·.1) = none
  | [], _ => ⟨rfl, rfl⟩
  | e :: es, h => by
    obtain ⟨h1, h2⟩ := each_all (env := env) (es := es) fun x hx => h x (List.mem_cons_of_mem _ hx)
    rw [each_of' (h e List.mem_cons_self)]
    exact ⟨by simp [h1], by simp [List.findIdx?_cons, h2]⟩
theorem asgTs_quiet : ∀ (ts : ITgs) (ds : List D) (s : Sg) (h : Hh) (x : Ex) (h' : Hh), asgTs g ts ds s h ≠ .exc x h'
  | .nil, ds, s, h, x, h', e => by
    cases ds <;> simp [asgTs] at e
  | .cons t ts, ds, s, h, x, h', e => by
    cases ds with
    | nil => simp [asgTs] at e
    | cons d ds =>
      simp only [asgTs] at e
      split at e
      · exact asgTs_quiet ts _ _ _ _ _ e
      · cases e
theorem pgs_nilE : PGs X [] (tTgs (tb X c) W vs (asgTs g .nil)) := by
  refine ⟨fun pins s σ H v u Q I r t => pgs_nil.run pins s σ H v u Q I r ?_⟩
  obtain ⟨ρ, sg, hh, ds, A, o⟩ := t
  have ra : RelDs X.K H hh.length ρ ds v := A.a
  cases ra with
  | nil => exact ⟨rfl, o ρ _ H (Nat.le_refl _) (Ext.refl _ _) (Keep.refl _ _) A.o A.s rfl⟩
  | cons _ _ => exact o.elim
theorem pgs_consE {es : List Expr} {t : ITg} {ts : ITgs} (hs : noStar e = true) (h1 : PG X e (tTg (tb X c) W vs (asgT g t))) (h2 : PGs X es (tTgs (tb X c) W vs (asgTs g ts))) : PGs X (e :: es) (tTgs (tb X c) W vs (asgTs g (.cons t ts))) := by
  refine ⟨fun pins s σ H v u Q I r q => (pgs_cons h1 h2 (by rw [each_of' hs]; rfl)).run pins s σ H v u Q I r ?_⟩
  obtain ⟨ρ, sg, hh, ds, A, o⟩ := q
  have ra : RelDs X.K H hh.length ρ ds v := A.a
  cases ra with
  | nil => exact o.elim
  | cons r1 r2 =>
    rename_i d v0 ds' vr
    refine ⟨_, _, rfl, ρ, sg, hh, d, ⟨A.s, A.o, r1⟩, ?_⟩
    have o : OutG (tb X c) W vs hh.length ρ H σ Q (match asgT g t d sg hh with
      | .ok s1 h1 => asgTs g ts ds' s1 h1
      | _ => .stuck) := o
    show OutG (tb X c) W vs hh.length ρ H σ _ (asgT g t d sg hh)
    cases q : asgT g t d sg hh with
    | stuck => rw [q] at o; exact o.elim
    | exc _ _ => rw [q] at o; exact o.elim
    | ok s1 h1 =>
      rw [q] at o
      dsimp only at o
      intro ρ' σ' H' l1 e1 k1 R1 rs w1
      refine ⟨ρ', s1, h1, ds', ⟨rs, R1, r2.mono k1 e1 l1⟩, ?_⟩
      have o := OutG.later o l1 e1 k1
      show OutG (tb X c) W vs h1.length ρ' H' σ' Q (asgTs g ts ds' s1 h1)
      cases q2 : asgTs g ts ds' s1 h1 with
      | stuck => rw [q2] at o; exact o
      | exc x h2 => exact absurd q2 (asgTs_quiet ts ds' s1 h1 x h2)
      | ok s2 h2 =>
        rw [q2] at o
        exact fun ρ2 σ2 H2 l2 e2 k2 R2 rs2 w2 => o ρ2 σ2 H2 l2 e2 k2 R2 rs2 (w2.trans w1)
theorem pg_tupE {es : List Expr} {k : Nat} {ts : ITgs} (hc : X.calm = true) (ns : noStars es) (h : PGs X es (tTgs (tb X c) W vs (asgTs g ts))) : PG X (.Tuple es k pos) (tTg (tb X c) W vs (asgT g (.tup es.length ts))) := by
  refine ⟨fun pins s σ H v u Q I r q => (pg_tup (n := es.length) hc h (each_all ns).1 (each_all ns).2).run pins s σ H v u Q I r ?_⟩
  obtain ⟨ρ, sg, hh, d, A, o⟩ := q
  have o : OutG (tb X c) W vs hh.length ρ H σ Q (match d.items with
    | some ds => if ds.length = es.length then asgTs g ts ds sg hh else .stuck
    | none => .stuck) := o
  cases q : d.items with
  | none => rw [q] at o; exact o.elim
  | some ds =>
    rw [q] at o
    dsimp only at o
    split at o
    · rename_i l
      obtain ⟨p, xs, rfl, t, rd⟩ := RelD.items A.a q
      exact ⟨p, xs, rfl, t, by rw [← rd.length]; exact l, ρ, sg, hh, ds, ⟨A.s, A.o, rd⟩, o⟩
    · exact o.elim

/-! ### what is walked -/
def Wk (T : Tb) : RL T.K (List D × Gd) It := ⟨fun H n ρ a J => ∀ (i : Nat) (H' : Hp) (h' : Hh) (ρ' : Nat → Addr), n ≤ h'.length → Ext n ρ ρ' → Keep T.K H H' → RelH T ρ' h' H' → a.2.ok h' = true →
    (i = a.1.length → J.stop i H') ∧ ∀ d, a.1[i]? = some d → J.go i H' ∧ ∀ x H'', J.yld i H' x H'' → Keep T.K H' H'' ∧ RelH T ρ' h' H'' ∧ RelD T.K H'' h'.length ρ' d x,
  fun k e l r i H' h' ρ' l1 e1 k1 R1 q => r i H' h' ρ' (Nat.le_trans l l1) (e.trans e1 l) (k.trans k1) R1 q⟩
theorem wk_src {ρ : Nat → Addr} {h : Hh} {H : Hp} {d : D} {x : V} {ds : List D} (R : RelH (tb X c) ρ h H) (ra : RelD X.K H h.length ρ d x) (e : seqOf h d = some ds) :
    ∃ q vs k, x = .ref q ∧ SqB X.K H q vs k ∧ RelDs X.K H h.length ρ ds vs ∧ ∀ (H' : Hp) (h' : Hh) (ρ' : Nat → Addr), h.length ≤ h'.length → Ext h.length ρ ρ' → Keep X.K H H' → RelH (tb X c) ρ' h' H' → (gdOf h d).ok h' = true →
      ∃ vs', SqB X.K H' q vs' k ∧ RelDs X.K H' h'.length ρ' ds vs' := by
  cases ra with
  | p r =>
    cases r with
    | tup q rs => cases e; exact ⟨_, _, false, rfl, q, rs.toDs, fun H' h' ρ' l1 e1 k1 R1 _ => ⟨_, k1 _ _ q, (rs.keep k1).toDs⟩⟩
    | non => cases e
    | bl _ => cases e
    | int _ => cases e
    | str _ => cases e
  | t q rs => cases e; exact ⟨_, _, false, rfl, q, rs, fun H' h' ρ' l1 e1 k1 R1 _ => ⟨_, k1 _ _ q, rs.mono k1 e1 l1⟩⟩
  | r hi =>
    rename_i i
    simp only [seqOf, lstOf] at e
    cases g : h[i]? with
    | none => rw [g] at e; cases e
    | some ob =>
      rw [g] at e
      have ro := R.obj i ob g
      have gd : ∀ h', (gdOf h (.r i)).ok h' = true → h'[i]? = some ob := fun h' q => by
        simp only [gdOf, g] at q
        simpa using q
      cases ob with
      | lst ys =>
        cases e
        obtain ⟨vs, q, r⟩ := ro
        refine ⟨_, vs, true, rfl, .inl (.inl q), r, fun H' h' ρ' l1 e1 k1 R1 ok => ?_⟩
        obtain ⟨vs', q', r'⟩ := R1.obj i _ (gd h' ok)
        rw [e1 i hi] at q'
        exact ⟨vs', .inl (.inl q'), r'⟩
      | ro ys =>
        cases e
        obtain ⟨vs, q, r⟩ := ro
        refine ⟨_, vs, true, rfl, q.sq, r.toDs, fun H' h' ρ' l1 e1 k1 R1 ok => ?_⟩
        obtain ⟨vs', q', r'⟩ := R1.obj i _ (gd h' ok)
        rw [e1 i hi] at q'
        exact ⟨vs', q'.sq, r'.toDs⟩
      | dct _ => cases e
      | set _ => cases e
      | ins _ _ => cases e
theorem pi_ofE {tg : Expr} (ha : PE X e (tEe X c W g a)) : PI X tg e (tG (tb X c) W (Wk (tb X c)) (evI g (.of a))) := by
  refine ⟨fun pins s σ H R' I t => (pi_seq ha).run pins s σ H R' I ?_⟩
  refine tG_mono (fun x H1 q => ?_) (tG.step (m := RL.d) (ev := evE g a) (k := fun sg x h1 => match seqOf h1 x with
    | some ds => .ok (ds, gdOf h1 x) h1
    | none => .stuck) t)
  obtain ⟨ρ, sg, hh, d, A, o⟩ := q
  dsimp only at o
  cases q : seqOf hh d with
  | none => rw [q] at o; exact o.elim
  | some ds =>
    rw [q] at o
    obtain ⟨p, vs, k, rfl, sq, rd, lat⟩ := wk_src A.o A.a q
    refine ⟨p, vs, k, rfl, sq, fun _ => ?_⟩
    refine o ρ _ H1 (Nat.le_refl _) (Ext.refl _ _) (Keep.refl _ _) A.o fun i H' h' ρ' l1 e1 k1 R1 ok => ?_
    obtain ⟨vs', sq', rd'⟩ := lat H' h' ρ' l1 e1 k1 R1 ok
    cases k with
    | true =>
      refine ⟨fun ei => ⟨vs', sq', by rw [ei, rd'.length]; exact Nat.le_refl _⟩, fun d ed => ?_⟩
      obtain ⟨v, ev, rv⟩ := rd'.get ed
      refine ⟨⟨vs', v, sq', ev⟩, fun x H'' y => ?_⟩
      obtain ⟨rfl, y⟩ := y
      have := y vs' sq'
      rw [ev] at this
      cases this
      exact ⟨Keep.refl _ _, R1, rv⟩
    | false =>
      refine ⟨fun ei => ⟨vs', sq', by rw [ei, rd'.length]; exact Nat.le_refl _⟩, fun d ed => ?_⟩
      obtain ⟨v, ev, rv⟩ := rd'.get ed
      refine ⟨⟨vs', v, sq', ev⟩, fun x H'' y => ?_⟩
      obtain ⟨rfl, y⟩ := y
      have := y vs' sq'
      rw [ev] at this
      cases this
      exact ⟨Keep.refl _ _, R1, rv⟩
theorem nums_get : ∀ (n : Nat) (a : Int) (i : Nat), (nums a n)[i]? = if i < n then some (.p (.int (a + i))) else none
  | 0, a, i => by simp [nums]
  | n + 1, a, 0 => by simp [nums]
  | n + 1, a, i + 1 => by
    rw [nums, List.getElem?_cons_succ, nums_get n (a + 1) i]
    have : a + 1 + (i : Int) = a + ((i + 1 : Nat) : Int) := by omega
    rw [this]
    by_cases h : i < n
    · rw [if_pos h, if_pos (by omega)]
    · rw [if_neg h, if_neg (by omega)]
theorem nums_length : ∀ (n : Nat) (a : Int), (nums a n).length = n
  | 0, _ => rfl
  | n + 1, a => by rw [nums, List.length_cons, nums_length n]
theorem zips_length : ∀ xs ys : List D, (zips xs ys).length = min xs.length ys.length
  | [], _ => by simp [zips]
  | _ :: _, [] => by simp [zips]
  | x :: xs, y :: ys => by
    rw [zips, List.length_cons, zips_length xs ys, List.length_cons, List.length_cons]
    omega
theorem zips_get : ∀ (xs ys : List D) (i : Nat) (d : D), (zips xs ys)[i]? = some d → ∃ a b, xs[i]? = some a ∧ ys[i]? = some b ∧ d = mkT [a, b]
  | [], _, _, _, h => by simp [zips] at h
  | _ :: _, [], _, _, h => by simp [zips] at h
  | x :: xs, y :: ys, 0, d, h => by
    rw [zips] at h
    simp at h
    exact ⟨x, y, rfl, rfl, h.symm⟩
  | x :: xs, y :: ys, i + 1, d, h => by
    rw [zips, List.getElem?_cons_succ] at h
    simpa using zips_get xs ys i d h
theorem wk_rng {ρ : Nat → Addr} {h : Hh} {H : Hp} (lo : Int) (n : Nat) : (Wk (tb X c)).r H h.length ρ (nums lo n, []) (Itr lo n) := by
  intro i H' h' ρ' l1 e1 k1 R1 ok
  refine ⟨fun ei => ?_, fun d ed => ?_⟩
  · show n ≤ i
    rw [ei]
    show n ≤ (nums lo n).length
    rw [nums_length]
    exact Nat.le_refl _
  · have ed : (nums lo n)[i]? = some d := ed
    rw [nums_get] at ed
    split at ed
    · rename_i l
      cases ed
      refine ⟨l, fun x H'' y => ?_⟩
      obtain ⟨rfl, rfl⟩ := y
      exact ⟨Keep.refl _ _, R1, .p (.int _)⟩
    · cases ed
theorem pi_rng1E {tg : Expr} {p : Pos} (hg : Gl X "range") (hm : X.mg "range" = none) (ns : noStar e = true) (ha : PE X e (tEe X c W g a)) : PI X tg (.Call (.Name "range" p) [e] [] pos) (tG (tb X c) W (Wk (tb X c)) (evI g (.rng1 a))) := by
  refine ⟨fun pins s σ H R' I t => (pi_range1 hg hm (pa_consE ns ha pa_nilE) (star_of ns)).run pins s σ H R' I ?_⟩
  have t : tG (tb X c) W (Wk (tb X c)) (fun sg h => (evEs g (.cons a .nil) sg h).bind fun xs h1 => match xs with
    | [.p (.int j)] => if -(2 ^ 62) ≤ j ∧ j ≤ 16777216 then .ok (nums 0 j.toNat, []) h1 else .stuck
    | _ => .stuck) σ H R' := by
    obtain ⟨ρ, sg, h, z, A, o⟩ := t
    refine ⟨ρ, sg, h, z, A, ?_⟩
    have o : Out (tb X c) (Wk (tb X c)) W h.length ρ H σ R' ((evE g a sg h).bind fun x h1 => match x with
      | .p (.int j) => if -(2 ^ 62) ≤ j ∧ j ≤ 16777216 then .ok (nums 0 j.toNat, []) h1 else .stuck
      | _ => .stuck) := o
    show Out _ _ _ _ _ _ _ _ (((evE g a sg h).bind fun x h1 => (R.ok [] h1 : R (List D)).bind fun xs h2 => .ok (x :: xs) h2).bind _)
    cases q : evE g a sg h with
    | stuck => rw [q] at o; exact o
    | exc _ _ => rw [q] at o; exact o
    | ok x h1 =>
      rw [q] at o
      cases x with
      | p x => cases x <;> exact o
      | _ => exact o
  refine tG_mono (fun vs H1 q => ?_) (tG.step (m := RL.ds) t)
  obtain ⟨ρ, sg, hh, ds, A, o⟩ := q
  have ra : RelDs X.K H1 hh.length ρ ds vs := A.a
  dsimp only at o
  split at o
  · split at o
    · rename_i j l
      cases ra with | cons r1 r2 => cases r2 with | nil => cases r1 with | p r1 => cases r1 with | int _ =>
      refine ⟨_, rfl, l.1, by omega, ?_⟩
      exact o ρ _ H1 (Nat.le_refl _) (Ext.refl _ _) (Keep.refl _ _) A.o (wk_rng 0 _)
    · exact o.elim
  · exact o.elim
theorem pi_rng2E {tg : Expr} {p : Pos} (hg : Gl X "range") (hm : X.mg "range" = none) (ns : noStar e = true) (ns2 : noStar e2 = true) (ha : PE X e (tEe X c W g a)) (hb : PE X e2 (tEe X c W g b)) : PI X tg (.Call (.Name "range" p) [e, e2] [] pos) (tG (tb X c) W (Wk (tb X c)) (evI g (.rng2 a b))) := by
  refine ⟨fun pins s σ H R' I t => (pi_range2 hg hm (pa_consE ns ha (pa_consE ns2 hb pa_nilE)) (by rw [star_of ns, star_of ns2]; rfl) (star_of ns2)).run pins s σ H R' I ?_⟩
  have t : tG (tb X c) W (Wk (tb X c)) (fun sg h => (evEs g (.cons a (.cons b .nil)) sg h).bind fun xs h1 => match xs with
    | [.p (.int i), .p (.int j)] => if -(2 ^ 62) ≤ i ∧ i < 2 ^ 62 ∧ -(2 ^ 62) ≤ j ∧ j < 2 ^ 62 ∧ j - i ≤ 16777216 then .ok (nums i (j - i).toNat, []) h1 else .stuck
    | _ => .stuck) σ H R' := by
    obtain ⟨ρ, sg, h, z, A, o⟩ := t
    refine ⟨ρ, sg, h, z, A, ?_⟩
    have o : Out (tb X c) (Wk (tb X c)) W h.length ρ H σ R' ((evE g a sg h).bind fun x h1 => (evE g b sg h1).bind fun y h2 => match x, y with
      | .p (.int i), .p (.int j) => if -(2 ^ 62) ≤ i ∧ i < 2 ^ 62 ∧ -(2 ^ 62) ≤ j ∧ j < 2 ^ 62 ∧ j - i ≤ 16777216 then .ok (nums i (j - i).toNat, []) h2 else .stuck
      | _, _ => .stuck) := o
    show Out _ _ _ _ _ _ _ _ (((evE g a sg h).bind fun x h1 => ((evE g b sg h1).bind fun y h2 => (R.ok [] h2 : R (List D)).bind fun xs h2 => .ok (y :: xs) h2).bind fun xs h2 => .ok (x :: xs) h2).bind _)
    cases q : evE g a sg h with
    | stuck => rw [q] at o; exact o
    | exc _ _ => rw [q] at o; exact o
    | ok x h1 =>
      rw [q] at o
      have o : Out (tb X c) (Wk (tb X c)) W h.length ρ H σ R' ((evE g b sg h1).bind fun y h2 => match (generalizing := false) x, y with
        | .p (.int i), .p (.int j) => if -(2 ^ 62) ≤ i ∧ i < 2 ^ 62 ∧ -(2 ^ 62) ≤ j ∧ j < 2 ^ 62 ∧ j - i ≤ 16777216 then .ok (nums i (j - i).toNat, []) h2 else .stuck
        | _, _ => .stuck) := o
      show Out _ _ _ _ _ _ _ _ ((((evE g b sg h1).bind fun y h2 => (R.ok [] h2 : R (List D)).bind fun xs h2 => .ok (y :: xs) h2).bind fun xs h2 => .ok (x :: xs) h2).bind _)
      cases q2 : evE g b sg h1 with
      | stuck => rw [q2] at o; exact o
      | exc _ _ => rw [q2] at o; exact o
      | ok y h2 =>
        rw [q2] at o
        cases x with
        | p x =>
          cases x with
          | int _ => cases y with
            | p y => cases y <;> exact o
            | _ => exact o
          | _ => exact o
        | _ => exact o
  refine tG_mono (fun vs H1 q => ?_) (tG.step (m := RL.ds) t)
  obtain ⟨ρ, sg, hh, ds, A, o⟩ := q
  have ra : RelDs X.K H1 hh.length ρ ds vs := A.a
  dsimp only at o
  split at o
  · split at o
    · rename_i i j l
      cases ra with | cons r1 r2 => cases r2 with | cons r2 r3 => cases r3 with | nil => cases r1 with | p r1 => cases r1 with | int _ => cases r2 with | p r2 => cases r2 with | int _ =>
      refine ⟨_, _, rfl, ⟨l.1, l.2.1, l.2.2.1, l.2.2.2.1⟩, ?_⟩
      exact o ρ _ H1 (Nat.le_refl _) (Ext.refl _ _) (Keep.refl _ _) A.o (wk_rng _ _)
    · exact o.elim
  · exact o.elim
theorem mkT2 {K : PySem.W.Frag} {H : Hp} {n : Nat} {ρ : Nat → Addr} {T : Addr} {d1 d2 : D} {v1 v2 : V} (hT : H T = none) (r1 : RelD K H n ρ d1 v1) (r2 : RelD K H n ρ d2 v2) : RelD K (upd H T (.tup [v1, v2])) n ρ (mkT [d1, d2]) (.ref T) :=
  RelD.mkT upd_tup (.cons (r1.mono (keep_new hT) (Ext.refl _ _) (Nat.le_refl _)) (.cons (r2.mono (keep_new hT) (Ext.refl _ _) (Nat.le_refl _)) .nil))
theorem pi_enumE {elts : List Expr} {kk : Nat} {tpos p : Pos} (hg : Gl X "enumerate") (hm : X.mg "enumerate" = none) (ns : noStar e = true) (ha : PE X e (tEe X c W g a)) : PI X (.Tuple elts kk tpos) (.Call (.Name "enumerate" p) [e] [] pos) (tG (tb X c) W (Wk (tb X c)) (evI g (.enum a))) := by
  refine ⟨fun pins s σ H R' I t => (pi_enumB hg hm (pa_consE ns ha pa_nilE) (star_of ns)).run pins s σ H R' I ?_⟩
  have t : tG (tb X c) W (Wk (tb X c)) (fun sg h => (evEs g (.cons a .nil) sg h).bind fun xs h1 => match xs with
    | [x] => (match seqOf h1 x with
      | some ds => .ok (zips (nums 0 ds.length) ds, gdOf h1 x) h1
      | none => .stuck)
    | _ => .stuck) σ H R' := by
    obtain ⟨ρ, sg, h, z, A, o⟩ := t
    refine ⟨ρ, sg, h, z, A, ?_⟩
    have o : Out (tb X c) (Wk (tb X c)) W h.length ρ H σ R' ((evE g a sg h).bind fun x h1 => match seqOf h1 x with
      | some ds => .ok (zips (nums 0 ds.length) ds, gdOf h1 x) h1
      | none => .stuck) := o
    show Out _ _ _ _ _ _ _ _ (((evE g a sg h).bind fun x h1 => (R.ok [] h1 : R (List D)).bind fun xs h2 => .ok (x :: xs) h2).bind _)
    cases q : evE g a sg h with
    | stuck => rw [q] at o; exact o
    | exc _ _ => rw [q] at o; exact o
    | ok x h1 => rw [q] at o; exact o
  refine tG_mono (fun vs H1 q => ?_) (tG.step (m := RL.ds) t)
  obtain ⟨ρ, sg, hh, ds, A, o⟩ := q
  have ra : RelDs X.K H1 hh.length ρ ds vs := A.a
  dsimp only at o
  split at o
  · rename_i d
    cases ra with | cons r1 r2 => cases r2 with | nil =>
    cases q : seqOf hh d with
    | none => rw [q] at o; exact o.elim
    | some ds =>
      rw [q] at o
      obtain ⟨p, vs, k, rfl, sq, rd, lat⟩ := wk_src A.o r1 q
      refine ⟨p, vs, k, rfl, sq, ?_⟩
      refine o ρ _ H1 (Nat.le_refl _) (Ext.refl _ _) (Keep.refl _ _) A.o fun i H' h' ρ' l1 e1 k1 R1 ok => ?_
      obtain ⟨vs', sq', rd'⟩ := lat H' h' ρ' l1 e1 k1 R1 ok
      refine ⟨fun ei => ⟨vs', sq', ?_⟩, fun z ez => ?_⟩
      · have ei : i = (zips (nums 0 ds.length) ds).length := ei
        rw [ei, zips_length, nums_length, ← rd'.length, Nat.min_self]
      · obtain ⟨d1, d2, g1, g2, rfl⟩ := zips_get _ _ _ _ ez
        obtain ⟨v, ev, rv⟩ := rd'.get g2
        rw [nums_get] at g1
        split at g1
        · cases g1
          refine ⟨⟨vs', v, sq', ev⟩, fun x H'' y => ?_⟩
          obtain ⟨T, w, rfl, hT, rfl, y⟩ := y
          have := y vs' sq'
          rw [ev] at this
          cases this
          refine ⟨keep_new hT, R1.pad hT, ?_⟩
          rw [Int.zero_add]
          exact mkT2 hT (.p (.int _)) rv
        · cases g1
  · exact o.elim
theorem Gd.ok_append (g1 g2 : Gd) (h : Hh) : Gd.ok (g1 ++ g2) h = (Gd.ok g1 h && Gd.ok g2 h) := by simp [Gd.ok]
theorem pi_zipE {elts : List Expr} {kk : Nat} {tpos p : Pos} (hg : Gl X "zip") (hm : X.mg "zip" = none) (ns : noStar e = true) (ns2 : noStar e2 = true) (ha : PE X e (tEe X c W g a)) (hb : PE X e2 (tEe X c W g b)) : PI X (.Tuple elts kk tpos) (.Call (.Name "zip" p) [e, e2] [] pos) (tG (tb X c) W (Wk (tb X c)) (evI g (.zip a b))) := by
  refine ⟨fun pins s σ H R' I t => (pi_zipB hg hm (pa_consE ns ha (pa_consE ns2 hb pa_nilE)) (star_of ns) (by rw [star_of ns2]; rfl)).run pins s σ H R' I ?_⟩
  have t : tG (tb X c) W (Wk (tb X c)) (fun sg h => (evEs g (.cons a (.cons b .nil)) sg h).bind fun xs h1 => match xs with
    | [x, y] => (match seqOf h1 x, seqOf h1 y with
      | some ds, some es => .ok (zips ds es, gdOf h1 x ++ gdOf h1 y) h1
      | _, _ => .stuck)
    | _ => .stuck) σ H R' := by
    obtain ⟨ρ, sg, h, z, A, o⟩ := t
    refine ⟨ρ, sg, h, z, A, ?_⟩
    have o : Out (tb X c) (Wk (tb X c)) W h.length ρ H σ R' ((evE g a sg h).bind fun x h1 => (evE g b sg h1).bind fun y h2 => match seqOf h2 x, seqOf h2 y with
      | some ds, some es => .ok (zips ds es, gdOf h2 x ++ gdOf h2 y) h2
      | _, _ => .stuck) := o
    show Out _ _ _ _ _ _ _ _ (((evE g a sg h).bind fun x h1 => ((evE g b sg h1).bind fun y h2 => (R.ok [] h2 : R (List D)).bind fun xs h2 => .ok (y :: xs) h2).bind fun xs h2 => .ok (x :: xs) h2).bind _)
    cases q : evE g a sg h with
    | stuck => rw [q] at o; exact o
    | exc _ _ => rw [q] at o; exact o
    | ok x h1 =>
      rw [q] at o
      have o : Out (tb X c) (Wk (tb X c)) W h.length ρ H σ R' ((evE g b sg h1).bind fun y h2 => match (generalizing := false) seqOf h2 x, seqOf h2 y with
        | some ds, some es => .ok (zips ds es, gdOf h2 x ++ gdOf h2 y) h2
        | _, _ => .stuck) := o
      show Out _ _ _ _ _ _ _ _ ((((evE g b sg h1).bind fun y h2 => (R.ok [] h2 : R (List D)).bind fun xs h2 => .ok (y :: xs) h2).bind fun xs h2 => .ok (x :: xs) h2).bind _)
      cases q2 : evE g b sg h1 with
      | stuck => rw [q2] at o; exact o
      | exc _ _ => rw [q2] at o; exact o
      | ok y h2 => rw [q2] at o; exact o
  refine tG_mono (fun vs H1 q => ?_) (tG.step (m := RL.ds) t)
  obtain ⟨ρ, sg, hh, ds, A, o⟩ := q
  have ra : RelDs X.K H1 hh.length ρ ds vs := A.a
  dsimp only at o
  split at o
  · rename_i d1 d2
    cases ra with | cons r1 r2 => cases r2 with | cons r2 r3 => cases r3 with | nil =>
    cases q : seqOf hh d1 with
    | none => rw [q] at o; exact o.elim
    | some ds =>
      cases q2 : seqOf hh d2 with
      | none => rw [q, q2] at o; exact o.elim
      | some es =>
        rw [q, q2] at o
        obtain ⟨p, vs, k, rfl, sq, rd, lat⟩ := wk_src A.o r1 q
        obtain ⟨p2, vs2, k2, rfl, sq2, rd2, lat2⟩ := wk_src A.o r2 q2
        refine ⟨p, p2, vs, vs2, k, k2, rfl, sq, sq2, ?_⟩
        refine o ρ _ H1 (Nat.le_refl _) (Ext.refl _ _) (Keep.refl _ _) A.o fun i H' h' ρ' l1 e1 k1 R1 ok => ?_
        have ok : (Gd.ok (gdOf hh d1 ++ gdOf hh d2) h') = true := ok
        rw [Gd.ok_append, Bool.and_eq_true] at ok
        obtain ⟨vs', sq', rd'⟩ := lat H' h' ρ' l1 e1 k1 R1 ok.1
        obtain ⟨vs2', sq2', rd2'⟩ := lat2 H' h' ρ' l1 e1 k1 R1 ok.2
        refine ⟨fun ei => ⟨vs', vs2', sq', sq2', ?_⟩, fun z ez => ?_⟩
        · have ei : i = (zips ds es).length := ei
          rw [ei, zips_length, rd'.length, rd2'.length]
        · obtain ⟨z1, z2, g1, g2, rfl⟩ := zips_get _ _ _ _ ez
          obtain ⟨v, ev, rv⟩ := rd'.get g1
          obtain ⟨v2, ev2, rv2⟩ := rd2'.get g2
          refine ⟨⟨vs', vs2', v, v2, sq', sq2', ev, ev2⟩, fun x H'' y => ?_⟩
          obtain ⟨T, w, w2, rfl, hT, rfl, y, y2⟩ := y
          have y := y vs' sq'
          have y2 := y2 vs2' sq2'
          rw [ev] at y
          rw [ev2] at y2
          cases y
          cases y2
          exact ⟨keep_new hT, R1.pad hT, mkT2 hT rv rv2⟩
  · exact o.elim

/-! ### comprehensions -/
theorem RelS.wipe {K : PySem.W.Frag} {H : Hp} {n : Nat} {ρ : Nat → Addr} {sg : Sg} {σ : L2.St} (s : RelS K H n ρ sg σ) : ∀ vs : List Nat, RelS K H n ρ (wipeD sg vs) (L2.wipe σ vs)
  | [] => s
  | v :: vs => by
    have ih := RelS.wipe s vs
    unfold wipeD L2.wipe
    refine ⟨by rw [List.length_set, List.length_set, ih.len], fun i d h => ?_⟩
    by_cases q : v = i
    · subst q
      by_cases l : v < (wipeD sg vs).length
      · rw [List.getElem?_set_self l] at h; cases h
      · rw [List.getElem?_eq_none (by rw [List.length_set]; omega)] at h; cases h
    · rw [List.getElem?_set_ne q] at h ⊢
      exact ih.at_ i d h
theorem pts_E {X : Cx} {W : WX} {ifs : List Expr} {fs : IEs} (l : ifs.length ≤ 1) (h0 : ifs = [] → fs = .nil) (h1 : ∀ e, ifs = [e] → ∃ a, fs = .cons a .nil ∧ PT X e (tTe X c W g a)) : PTs X ifs (tT (tb X c) W (evTs g fs)) := by
  match ifs, l with
  | [], _ =>
    rw [h0 rfl]
    refine ⟨fun pins s σ H Q I t => pts_nil.run pins s σ H Q I ?_⟩
    obtain ⟨ρ, sg, hh, d, A, o⟩ := t
    exact o.ret A.o rfl
  | [e], _ =>
    obtain ⟨a, rfl, h⟩ := h1 e rfl
    refine ⟨fun pins s σ H Q I t => (pts_one h).run pins s σ H Q I (tT_cong (fun s hh => ?_) t)⟩
    show (tr (evE g a s hh)).bind _ = _
    cases tr (evE g a s hh) with
    | stuck => rfl
    | exc _ _ => rfl
    | ok k h => cases k <;> rfl
def bodyC (g : G) (own : List Nat) (t : ITg) (ifs : IEs) (elt : IE) (sg : Sg) : D → Hh → R (Option D) := fun d h2 => (asgT g t d (wipeD sg own) h2).bind fun s1 h3 => (evTs g ifs s1 h3).bind fun k h4 =>
        if k then (evE g elt s1 h4).bind fun x h5 => .ok (some x) h5 else .ok none h4
theorem drop_cases {α : Type} (l : List α) (i : Nat) : (l.drop i = [] ∧ l.length ≤ i) ∨ ∃ x, l[i]? = some x ∧ l.drop i = x :: l.drop (i + 1) ∧ i < l.length := by
  by_cases h : i < l.length
  · exact .inr ⟨l[i], List.getElem?_eq_getElem h, List.drop_eq_getElem_cons h, h⟩
  · exact .inl ⟨List.drop_eq_nil_of_le (by omega), by omega⟩
theorem wipe_wipe (σ : L2.St) (vs : List Nat) : L2.wipe (L2.wipe σ vs) vs = L2.wipe σ vs := by
  refine List.ext_getElem? fun j => ?_
  by_cases q : j ∈ vs
  · by_cases l : j < σ.length
    · rw [wipe_in q l, wipe_in q (by rw [wipe_length]; exact l)]
    · rw [List.getElem?_eq_none (by rw [wipe_length, wipe_length]; omega), List.getElem?_eq_none (by rw [wipe_length]; omega)]
  · rw [wipe_out q]
theorem comp_t {t : ITg} {it : IIt} {ifs : IEs} {elt : IE} {own : List Nat} {σ : L2.St} {H : Hp} {Q : VK} {W0 : WX} (q : tEe X c W g (.comp own elt t it ifs) σ H Q) :
    tLc (tG (tb X c) W (Wk (tb X c)) (evI g it)) (tTg (tb X c) W0 own (asgT g t)) (tT (tb X c) W0 (evTs g ifs)) (tEe X c W0 g elt) own σ H Q := by
  refine tG_mono (fun J H1 q => ?_) (tG.step (m := Wk (tb X c)) (k := fun sg p h1 => (loopC p.2 h1.length (bodyC g own t ifs elt sg) p.1 [] (h1 ++ [O.lst []])).bind fun _ h2 => (R.ok (.r h1.length) h2 : R D)) q)
  intro D0 hD
  obtain ⟨ρ, sg, h, ⟨ds, gd⟩, A, o⟩ := q
  dsimp only at o
  have wk := A.a
  obtain ⟨ρ1, f0, f1, R1⟩ := A.o.new (o := O.lst []) (u := HO.lst []) hD (fun ρ' e0 e1 => ⟨[], upd_same, .nil⟩)
  have k1 : Keep X.K H1 (upd H1 D0 (.lst [])) := keep_new hD
  have l1 : (h ++ [O.lst []]).length = h.length + 1 := by simp
  refine ⟨fun i m H' => ∃ ρ' h' acc, h.length + 1 ≤ h'.length ∧ Ext (h.length + 1) ρ1 ρ' ∧ Keep X.K H1 H' ∧ RelH (tb X c) ρ' h' H' ∧ i + m = ds.length ∧
    Out (tb X c) RL.d W h'.length ρ' H' σ Q ((loopC gd h.length (bodyC g own t ifs elt sg) (ds.drop i) acc h').bind fun _ h2 => (R.ok (.r h.length) h2 : R D)),
    ⟨ds.length, ρ1, h ++ [O.lst []], [], by omega, Ext.refl _ _, k1, R1, by omega, Out.later o (by omega) f1 k1⟩, ?_⟩
  rintro i m H' ⟨ρ', h', acc, lh, fe, kk, Rh, im, o⟩
  have exA : Ext h.length ρ ρ' := f1.trans fe (by omega)
  have eD : ρ' h.length = D0 := by rw [fe _ (by omega)]; exact f0
  rcases drop_cases ds i with ⟨e, le⟩ | ⟨d, ed, e, lt⟩
  · rw [e] at o
    have o : Out (tb X c) RL.d W h'.length ρ' H' σ Q ((if gd.ok h' && decide (h'[h.length]? = some (O.lst acc)) then R.ok () h' else .stuck).bind fun _ h2 => (R.ok (.r h.length) h2 : R D)) := o
    split at o
    · rename_i ok
      rw [Bool.and_eq_true, decide_eq_true_eq] at ok
      refine .inl ⟨(wk i H' h' ρ' (by omega) exA kk Rh ok.1).1 (by show i = ds.length; omega), ?_⟩
      have q : RelD X.K H' h'.length ρ' (.r h.length) (.ref (ρ' h.length)) := .r (by omega)
      rw [eD] at q
      exact o.ret Rh q
    · exact o.elim
  · rw [e] at o
    have o : Out (tb X c) RL.d W h'.length ρ' H' σ Q ((if gd.ok h' then match bodyC g own t ifs elt sg d h' with
      | .ok o h1 => if h1[h.length]? = some (O.lst acc) ∧ acc.length < sizeLine then match o with
        | none => loopC gd h.length (bodyC g own t ifs elt sg) (ds.drop (i + 1)) acc h1
        | some x => loopC gd h.length (bodyC g own t ifs elt sg) (ds.drop (i + 1)) (acc ++ [x]) (h1.set h.length (.lst (acc ++ [x])))
        else .stuck
      | _ => .stuck
      else .stuck).bind fun _ h2 => (R.ok (.r h.length) h2 : R D)) := o
    split at o
    · rename_i ok
      obtain ⟨go, yl⟩ := (wk i H' h' ρ' (by omega) exA kk Rh ok).2 d ed
      refine .inr ⟨go, fun H2 => ∃ ρ2 h2 acc2, h.length + 1 ≤ h2.length ∧ Ext (h.length + 1) ρ1 ρ2 ∧ Keep X.K H1 H2 ∧ RelH (tb X c) ρ2 h2 H2 ∧ (i + 1) + (m - 1) = ds.length ∧
        Out (tb X c) RL.d W h2.length ρ2 H2 σ Q ((loopC gd h.length (bodyC g own t ifs elt sg) (ds.drop (i + 1)) acc2 h2).bind fun _ h2 => (R.ok (.r h.length) h2 : R D)), fun H2 z => ⟨m - 1, by omega, z⟩, fun x H2 y => ?_⟩
      obtain ⟨k2, R2, rx⟩ := yl x H2 y
      have o := Out.later o (Nat.le_refl _) (Ext.refl _ _) k2
      have sw := (A.s.mono (kk.trans k2) exA (by omega : h.length ≤ h'.length)).wipe own
      refine ⟨ρ', wipeD sg own, h', d, ⟨sw, R2, rx⟩, ?_⟩
      show OutG (tb X c) W0 own h'.length ρ' H2 (L2.wipe σ own) _ (asgT g t d (wipeD sg own) h')
      have eb : bodyC g own t ifs elt sg d h' = (asgT g t d (wipeD sg own) h').bind fun s1 h3 => (evTs g ifs s1 h3).bind fun k h4 => if k then (evE g elt s1 h4).bind fun x h5 => .ok (some x) h5 else .ok none h4 := rfl
      rw [eb] at o
      cases q1 : asgT g t d (wipeD sg own) h' with
      | stuck => rw [q1] at o; exact o.elim
      | exc _ _ => rw [q1] at o; exact o.elim
      | ok s1 h3 =>
        rw [q1, R.bind_ok] at o
        intro ρ3 σ3 H3 l3 e3 k3 R3 rs3 w3
        have o := Out.later o l3 e3 k3
        refine ⟨w3.trans (wipe_wipe σ own), ρ3, s1, h3, (), ⟨rs3, R3, True.intro⟩, ?_⟩
        show Out (tb X c) RL.b W0 h3.length ρ3 H3 σ3 _ (evTs g ifs s1 h3)
        cases q2 : evTs g ifs s1 h3 with
        | stuck => rw [q2] at o; exact o.elim
        | exc _ _ => rw [q2] at o; exact o.elim
        | ok k h4 =>
          rw [q2, R.bind_ok] at o
          intro ρ4 b4 H4 l4 e4 k4 R4 rb
          have rb : k = b4 := rb
          subst rb
          have o := Out.later o l4 e4 k4
          have ex4 : Ext (h.length + 1) ρ1 ρ4 := (fe.trans e3 (by omega)).trans e4 (by omega)
          have kk4 : Keep X.K H1 H4 := ((kk.trans k2).trans k3).trans k4
          cases k with
          | false =>
            have o : Out (tb X c) RL.d W h4.length ρ4 H4 σ Q ((if h4[h.length]? = some (O.lst acc) ∧ acc.length < sizeLine then loopC gd h.length (bodyC g own t ifs elt sg) (ds.drop (i + 1)) acc h4 else .stuck).bind fun _ h2 => (R.ok (.r h.length) h2 : R D)) := o
            split at o
            · exact ⟨ρ4, h4, acc, by omega, ex4, kk4, R4, by omega, o⟩
            · exact o.elim
          | true =>
            refine ⟨ρ4, s1, h4, (), ⟨rs3.mono k4 e4 l4, R4, True.intro⟩, ?_⟩
            show Out (tb X c) RL.d W0 h4.length ρ4 H4 σ3 _ (evE g elt s1 h4)
            have o : Out (tb X c) RL.d W h4.length ρ4 H4 σ Q ((match ((evE g elt s1 h4).bind fun x h5 => (R.ok (some x) h5 : R (Option D))) with
              | .ok o h1 => if h1[h.length]? = some (O.lst acc) ∧ acc.length < sizeLine then match o with
                | none => loopC gd h.length (bodyC g own t ifs elt sg) (ds.drop (i + 1)) acc h1
                | some x => loopC gd h.length (bodyC g own t ifs elt sg) (ds.drop (i + 1)) (acc ++ [x]) (h1.set h.length (.lst (acc ++ [x])))
                else .stuck
              | _ => .stuck).bind fun _ h2 => (R.ok (.r h.length) h2 : R D)) := o
            cases q3 : evE g elt s1 h4 with
            | stuck => rw [q3] at o; exact o.elim
            | exc _ _ => rw [q3] at o; exact o.elim
            | ok x5 h5 =>
              rw [q3, R.bind_ok] at o
              intro ρ5 y5 H5 l5 e5 k5 R5 r5
              have o := Out.later o l5 e5 k5
              have o : Out (tb X c) RL.d W h5.length ρ5 H5 σ Q ((if h5[h.length]? = some (O.lst acc) ∧ acc.length < sizeLine then loopC gd h.length (bodyC g own t ifs elt sg) (ds.drop (i + 1)) (acc ++ [x5]) (h5.set h.length (.lst (acc ++ [x5]))) else .stuck).bind fun _ h2 => (R.ok (.r h.length) h2 : R D)) := o
              split at o
              · rename_i cc
                have ex5 : Ext (h.length + 1) ρ1 ρ5 := ex4.trans e5 (by omega)
                obtain ⟨vs5, a5, rs5⟩ := R5.obj h.length _ cc.1
                have e5D : ρ5 h.length = D0 := by rw [ex5 _ (by omega)]; exact f0
                have ki : RelD X.K H5 h5.length ρ5 x5 y5 := r5
                obtain ⟨kp, R6⟩ := R5.wr (o' := .lst (acc ++ [x5])) (u := .lst (vs5 ++ [y5])) cc.1 rfl rfl fun kp => ⟨_, upd_same, RelDs.append (rs5.mono kp (Ext.refl _ _) (Nat.le_refl _)) (.cons (ki.mono kp (Ext.refl _ _) (Nat.le_refl _)) .nil)⟩
                rw [e5D] at a5 kp R6
                refine ⟨vs5, a5, by rw [← RelDs.length rs5]; exact cc.2, ρ5, _, acc ++ [x5], by rw [List.length_set]; omega, ex5, (kk4.trans k5).trans kp, R6, by omega, ?_⟩
                exact Out.later o (by rw [List.length_set]; exact Nat.le_refl _) (Ext.refl _ _) kp
              · exact o.elim
    · exact o.elim
theorem pe_compE {tg iter : Expr} {ifs : List Expr} {scope : Scope} {own : List (Str × Nat)} {t : ITg} {it : IIt} {fs : IEs} (hc : X.calm = true) (hN : X.N.Nodup) (hi : PI X tg iter (tG (tb X c) W (Wk (tb X c)) (evI g it))) (ok : BlkOk X.N X.env.scope scope own)
    (hg : ∀ (s : Shared) (H : Hp) (C : Addr) (cl : List (Str × Addr)) (fp : List Addr), PG (X.blk s H scope (compEnvC scope cl C X.env) fp) tg (tTg (tb X c) (fun _ _ _ _ => False) (own.map (·.2)) (asgT g t)))
    (ht : ∀ (s : Shared) (H : Hp) (C : Addr) (cl : List (Str × Addr)) (fp : List Addr), PTs (X.blk s H scope (compEnvC scope cl C X.env) fp) ifs (tT (tb X c) (fun _ _ _ _ => False) (evTs g fs)))
    (he : ∀ (s : Shared) (H : Hp) (C : Addr) (cl : List (Str × Addr)) (fp : List Addr), PE (X.blk s H scope (compEnvC scope cl C X.env) fp) e (tEe X c (fun _ _ _ _ => False) g a)) (hs : ∀ x, foldedSetIterable iter X.env x = pure x) :
    PE X (.ListComp e [⟨tg, iter, ifs, 0⟩] scope pos) (tEe X c W g (.comp (own.map (·.2)) a t it fs)) :=
  ⟨fun pins s σ H Q I q => (pe_lc hc hN hi ok hg ht he hs).run pins s σ H Q I (comp_t q)⟩
end
end Pv

/-! K: the rules for statements. -/
namespace Pv
open PySem L2 PySem.Spec PyProof.Rows

section
variable {X : Cx} {c : Ct} {W : WX} {g : G} {e e2 : Expr} {a b : IE} {pos : Pos} {σ : L2.St} {H : Hp} {E : Ends}
abbrev tSe (X : Cx) (c : Ct) (W : WX) (g : G) (a : IS) : TS := tS (tb X c) W (evS g a)
abbrev tSs (X : Cx) (c : Ct) (W : WX) (g : G) (a : ISs) : TS := tS (tb X c) W (evSs g a)
/-- a statement's next -/
theorem tHS.done {α β : Type} {l : RL (tb X c).K α β} {x : β} {f : Sg → α → Hh → RS} (t : tHS (tb X c) W l f x E σ H) : ∃ ρ sg h a, At (tb X c) l x σ H ρ sg h a ∧ OutS (tb X c) W h.length ρ H E (f sg a h) := t
theorem OutS.fin {ρ : Nat → Addr} {sg : Sg} {h : Hh} (o : OutS (tb X c) W h.length ρ H E (.next sg h)) (R0 : RelH (tb X c) ρ h H) (s : RelS X.K H h.length ρ sg σ) : E.nx σ H := o ρ σ H (Nat.le_refl _) (Ext.refl _ _) (Keep.refl _ _) R0 s
theorem ps_nextE {st : Stmt} (h : PS X st tNext) : PS X st (tSe X c W g .pass) := by
  refine ⟨fun pins s σ H E I t => h.run pins s σ H E I ?_⟩
  obtain ⟨ρ, sg, hh, _, A, o⟩ := t
  exact OutS.fin o A.o A.s
theorem ps_exprE (hs : swapsWith e none pos.line X.env = pure false) (ha : PE X e (tEe X c W g a)) : PS X (.Expr e pos) (tSe X c W g (.expr a)) := by
  refine ⟨fun pins s σ H E I t => (ps_expr ha hs).run pins s σ H E I ?_⟩
  refine tG_mono (fun x H1 q => ?_) (tS.step (m := RL.d) (fun sg _ h => .next sg h) t)
  obtain ⟨ρ, sg, hh, _, A, o⟩ := q
  exact OutS.fin o A.o A.s
theorem ps_retE (ha : PE X e (tEe X c W g a)) : PS X (.Return (some e) pos) (tSe X c W g (.ret a)) := by
  refine ⟨fun pins s σ H E I t => (ps_ret ha).run pins s σ H E I ?_⟩
  refine tG_mono (fun x H1 q => ?_) (tS.step (m := RL.d) (fun sg d h => .ret d h) t)
  obtain ⟨ρ, sg, hh, d, A, o⟩ := q
  exact o ρ x H1 (Nat.le_refl _) (Ext.refl _ _) (Keep.refl _ _) A.o A.a
theorem ps_retNE : PS X (.Return none pos) (tSe X c W g .retN) := by
  refine ⟨fun pins s σ H E I t => ps_retN.run pins s σ H E I ?_⟩
  obtain ⟨ρ, sg, hh, d, A, o⟩ := t
  exact o ρ .non H (Nat.le_refl _) (Ext.refl _ _) (Keep.refl _ _) A.o (.p .non)
theorem ps_brkE : PS X (.Break pos) (tSe X c W g .brk) := by
  refine ⟨fun pins s σ H E I t => ps_break.run pins s σ H E I ?_⟩
  obtain ⟨ρ, sg, hh, d, A, o⟩ := t
  exact o ρ σ H (Nat.le_refl _) (Ext.refl _ _) (Keep.refl _ _) A.o A.s
theorem ps_contE : PS X (.Continue pos) (tSe X c W g .cont) := by
  refine ⟨fun pins s σ H E I t => ps_continue.run pins s σ H E I ?_⟩
  obtain ⟨ρ, sg, hh, d, A, o⟩ := t
  exact o ρ σ H (Nat.le_refl _) (Ext.refl _ _) (Keep.refl _ _) A.o A.s
theorem ps_neverE {st : Stmt} : PS X st (tSe X c W g .never) := by
  refine ⟨fun pins s σ H E I t => ?_⟩
  obtain ⟨ρ, sg, hh, d, A, o⟩ := t
  exact o.elim
theorem pss_nilE : PSs X [] (tSs X c W g .nil) := by
  refine ⟨fun pins s σ H E I t => pss_nil.run pins s σ H E I ?_⟩
  obtain ⟨ρ, sg, hh, _, A, o⟩ := t
  exact OutS.fin o A.o A.s
theorem pss_consE {st : Stmt} {ss : List Stmt} {i : IS} {is : ISs} (h1 : PS X st (tSe X c W g i)) (h2 : PSs X ss (tSs X c W g is)) : PSs X (st :: ss) (tSs X c W g (.cons i is)) :=
  ⟨fun pins s σ H E I t => (pss_cons h1 h2).run pins s σ H E I (tS.seq t)⟩
/-- the slots behind a target, in a statement -/
theorem tS_tg {vs : List Nat} {asg : D → Sg → Hh → R Sg} {k : Sg → Hh → RS} {x : V} {f : Sg → D → Hh → RS} (hf : ∀ sg d h, f sg d h = (asg d sg h).then sg fun s1 h1 => k s1 h1) (t : tHS (tb X c) W RL.d f x E σ H) :
    tTg (tb X c) W vs asg x σ H (fun σ' H' => tS (tb X c) W k E σ' H') := by
  obtain ⟨ρ, sg, hh, d, A, o⟩ := t
  refine ⟨ρ, sg, hh, d, A, ?_⟩
  show OutG (tb X c) W vs hh.length ρ H σ _ (asg d sg hh)
  rw [hf] at o
  cases q : asg d sg hh with
  | stuck => rw [q] at o; exact o
  | exc x h1 =>
    rw [q] at o
    exact fun ρ' cc dd H' l1 e1 k1 R1 r1 => o ρ' σ cc dd H' l1 e1 k1 R1 (A.s.mono k1 e1 l1) r1
  | ok s1 h1 =>
    rw [q] at o
    exact fun ρ' σ' H' l1 e1 k1 R1 rs w => ⟨ρ', s1, h1, (), ⟨rs, R1, True.intro⟩, OutS.later o l1 e1 k1⟩
theorem tg_mono {vs : List Nat} {asg : D → Sg → Hh → R Sg} {x : V} {Q Q' : L2.St → Hp → Prop} (h : ∀ σ' H', Q σ' H' → Q' σ' H') (t : tTg (tb X c) W vs asg x σ H Q) : tTg (tb X c) W vs asg x σ H Q' := by
  obtain ⟨ρ, sg, hh, d, A, o⟩ := t
  refine ⟨ρ, sg, hh, d, A, ?_⟩
  revert o
  show OutG (tb X c) W vs hh.length ρ H σ Q (asg d sg hh) → OutG (tb X c) W vs hh.length ρ H σ Q' (asg d sg hh)
  cases asg d sg hh with
  | stuck => exact id
  | exc x h1 => exact id
  | ok s1 h1 => exact fun o ρ' σ' H' l1 e1 k1 R1 rs w => h _ _ (o ρ' σ' H' l1 e1 k1 R1 rs w)
theorem tS_next (t : tS (tb X c) W (fun s h => .next s h) E σ H) : E.nx σ H := by
  obtain ⟨ρ, sg, hh, _, A, o⟩ := t
  exact OutS.fin o A.o A.s
theorem ps_asgE {vs : List Nat} {tg : Expr} {t : ITg} (ns : noStar tg = true) (hs : swapsWithSole [tg] e pos.line X.env = pure false) (hw : swappedStores [tg] e X.env = pure none) (he : PE X e (tEe X c W g a)) (hg : PG X tg (tTg (tb X c) W vs (asgT g t))) : PS X (.Assign [tg] e pos) (tSe X c W g (.asg t a)) := by
  refine ⟨fun pins s σ H E I q => (ps_asg he hg hs hw (by rw [each_of' ns]; rfl)).run pins s σ H E I ?_⟩
  refine tG_mono (fun x H1 q => ?_) (tS.step (m := RL.d) (fun sg d h => (asgT g t d sg h).then sg fun s1 h2 => .next s1 h2) q)
  exact tg_mono (fun σ' H' z => tS_next z) (tS_tg (k := fun s h => .next s h) (fun _ _ _ => rfl) q)
theorem ps_iteE {ss1 ss2 : List Stmt} {i1 i2 : ISs} (ht : PT X e (tTe X c W g a)) (h1 : PSs X ss1 (tSs X c W g i1)) (h2 : PSs X ss2 (tSs X c W g i2)) : PS X (.If e ss1 ss2 pos) (tSe X c W g (.ite a i1 i2)) := by
  refine ⟨fun pins s σ H E I q => (ps_if ht h1 h2).run pins s σ H E I ?_⟩
  refine tG_mono (fun x H1 q => ?_) (tS.step (m := RL.b) (fun sg k h => if k then evSs g i1 sg h else evSs g i2 sg h) q)
  obtain ⟨ρ, sg, hh, k, A, o⟩ := q
  have ek : k = x := A.a
  subst ek
  cases k with
  | true => exact ⟨ρ, sg, hh, (), ⟨A.s, A.o, True.intro⟩, o⟩
  | false => exact ⟨ρ, sg, hh, (), ⟨A.s, A.o, True.intro⟩, o⟩
/-- a loop's turn: what is new and not held goes -/
theorem trimS_rel {ρ ρ' : Nat → Addr} {h h' : Hh} {H H' : Hp} {sg : Sg} (R0 : RelH (tb X c) ρ h H) (l : h.length ≤ h'.length) (R1 : RelH (tb X c) ρ' h' H') (s : RelS X.K H' h'.length ρ' sg σ) : h.length ≤ (trimS h sg h').length ∧ RelH (tb X c) ρ' (trimS h sg h') H' ∧ RelS X.K H' (trimS h sg h').length ρ' sg σ := by
  unfold trimS
  split
  · rename_i q
    rw [Bool.and_eq_true] at q
    have tl : (h'.take h.length).length = h.length := by rw [List.length_take]; omega
    refine ⟨by omega, R0.cut R1 q.1, s.len, fun i d e => ?_⟩
    obtain ⟨v, e1, r⟩ := s.at_ i d e
    refine ⟨v, e1, ?_⟩
    rw [tl]
    refine RelD.low r ?_
    have := List.all_eq_true.mp q.2 (some d) (List.mem_of_getElem? e)
    exact this
  · exact ⟨l, R1, s⟩
theorem ps_whE {ss : List Stmt} {is : ISs} (hp : PassesOwn (model X.prog X.w) X.A X.env X.xe) (ht : PT X e (tTe X c W g a)) (hb : PSs X ss (tSs X c W g is)) : PS X (.While e ss [] pos) (tSe X c W g (.wh a is)) := by
  refine ⟨fun pins s σ H E I q => (ps_while hp ht hb).run pins s σ H E I ?_⟩
  refine ⟨fun m σ H => tS (tb X c) W (fun s h => loopW (fun s h => tr (evE g a s h)) (evSs g is) m s h) E σ H, ⟨g.F, q⟩, fun m σ H q => ?_⟩
  cases m with
  | zero =>
    obtain ⟨ρ, sg, hh, _, A, o⟩ := q
    exact o.elim
  | succ m =>
    obtain ⟨ρ0, sg0, h0, _, A0, o0⟩ := q
    have o0 : OutS (tb X c) W h0.length ρ0 H E ((tr (evE g a sg0 h0)).then sg0 fun b h1 => if b then match evSs g is sg0 h1 with
      | .next s1 h1 => loopW (fun s h => tr (evE g a s h)) (evSs g is) m s1 (trimS h0 s1 h1)
      | .cont s1 h1 => loopW (fun s h => tr (evE g a s h)) (evSs g is) m s1 (trimS h0 s1 h1)
      | .brk s1 h1 => .next s1 h1
      | o => o
      else .next sg0 h1) := o0
    refine ⟨ρ0, sg0, h0, (), A0, ?_⟩
    show Out (tb X c) RL.b W h0.length ρ0 H σ _ (tr (evE g a sg0 h0))
    cases q : tr (evE g a sg0 h0) with
    | stuck => rw [q] at o0; exact o0
    | exc x h1 =>
      rw [q] at o0
      exact fun ρ' cc dd H' l1 e1 k1 R1 r1 => o0 ρ' σ cc dd H' l1 e1 k1 R1 (A0.s.mono k1 e1 l1) r1
    | ok k h1 =>
      rw [q, R.then_ok] at o0
      intro ρ1 b1 H1 l1 e1 k1 R1 rb
      have rb : k = b1 := rb
      subst rb
      have o1 := OutS.later o0 l1 e1 k1
      have s1 := A0.s.mono k1 e1 l1
      cases k with
      | false =>
        rw [if_neg Bool.false_ne_true]
        exact OutS.fin o1 R1 s1
      | true =>
        rw [if_pos rfl]
        refine ⟨fun σ' H' => tS (tb X c) W (fun s h => loopW (fun s h => tr (evE g a s h)) (evSs g is) m s h) E σ' H', fun σ' H' z => ⟨m, Nat.lt_succ_self m, z⟩, ρ1, sg0, h1, (), ⟨s1, R1, True.intro⟩, ?_⟩
        have o1 : OutS (tb X c) W h1.length ρ1 H1 E (match evSs g is sg0 h1 with
          | .next s1 h1 => loopW (fun s h => tr (evE g a s h)) (evSs g is) m s1 (trimS h0 s1 h1)
          | .cont s1 h1 => loopW (fun s h => tr (evE g a s h)) (evSs g is) m s1 (trimS h0 s1 h1)
          | .brk s1 h1 => .next s1 h1
          | o => o) := o1
        have o0 : OutS (tb X c) W h0.length ρ0 H E (match evSs g is sg0 h1 with
          | .next s1 h1 => loopW (fun s h => tr (evE g a s h)) (evSs g is) m s1 (trimS h0 s1 h1)
          | .cont s1 h1 => loopW (fun s h => tr (evE g a s h)) (evSs g is) m s1 (trimS h0 s1 h1)
          | .brk s1 h1 => .next s1 h1
          | o => o) := o0
        show OutS (tb X c) W h1.length ρ1 H1 _ (evSs g is sg0 h1)
        cases q2 : evSs g is sg0 h1 with
        | stuck => rw [q2] at o1; exact o1
        | ret d h2 => rw [q2] at o1; exact o1
        | exc x s2 h2 => rw [q2] at o1; exact o1
        | brk s2 h2 => rw [q2] at o1; exact o1
        | next s2 h2 =>
          rw [q2] at o0
          intro ρ2 σ2 H2 l2 e2 k2 R2 rs2
          obtain ⟨t1, t2, t3⟩ := trimS_rel A0.o (by omega) R2 rs2
          exact ⟨ρ2, s2, _, (), ⟨t3, t2, True.intro⟩, OutS.later o0 t1 (e1.trans e2 l1) (k1.trans k2)⟩
        | cont s2 h2 =>
          rw [q2] at o0
          intro ρ2 σ2 H2 l2 e2 k2 R2 rs2
          obtain ⟨t1, t2, t3⟩ := trimS_rel A0.o (by omega) R2 rs2
          exact ⟨ρ2, s2, _, (), ⟨t3, t2, True.intro⟩, OutS.later o0 t1 (e1.trans e2 l1) (k1.trans k2)⟩
theorem ps_forE {vs : List Nat} {tg : Expr} {ss : List Stmt} {is : ISs} {t : ITg} {it : IIt} (hp : PassesOwn (model X.prog X.w) X.A X.env X.xe) (hc : X.calm = true) (hs : ∀ x, foldedSetIterable e X.env x = pure x) (hi : PI X tg e (tG (tb X c) W (Wk (tb X c)) (evI g it)))
    (hg : PG X tg (tTg (tb X c) W vs (asgT g t))) (hb : PSs X ss (tSs X c W g is)) : PS X (.For tg e ss [] pos) (tSe X c W g (.for t it is)) := by
  refine ⟨fun pins s σ H E I q => (ps_for hp hc hi hg hb hs).run pins s σ H E I ?_⟩
  refine tG_mono (fun J H1 q => ?_) (tS.step (m := Wk (tb X c)) (fun sg p h1 => loopS p.2 (fun d s1 h2 => (asgT g t d s1 h2).then s1 fun s2 h3 => evSs g is s2 h3) p.1 sg h1) q)
  obtain ⟨ρ, sg, h, ⟨ds, gd⟩, A, o⟩ := q
  have wk := A.a
  dsimp only at o
  refine ⟨fun i m σ H' => ∃ ρ' sg' h', h.length ≤ h'.length ∧ Ext h.length ρ ρ' ∧ Keep X.K H1 H' ∧ RelH (tb X c) ρ' h' H' ∧ RelS X.K H' h'.length ρ' sg' σ ∧ i + m = ds.length ∧
    OutS (tb X c) W h'.length ρ' H' E (loopS gd (fun d s1 h2 => (asgT g t d s1 h2).then s1 fun s2 h3 => evSs g is s2 h3) (ds.drop i) sg' h'), ⟨ds.length, ρ, sg, h, Nat.le_refl _, Ext.refl _ _, Keep.refl _ _, A.o, A.s, by omega, o⟩, ?_⟩
  rintro i m σ H' ⟨ρ', sg', h', lh, fe, kk, Rh, Rs, im, o⟩
  rcases drop_cases ds i with ⟨ed, le⟩ | ⟨d, gt, ed, lt⟩
  · rw [ed] at o
    have o : OutS (tb X c) W h'.length ρ' H' E (if gd.ok h' then .next sg' h' else .stuck) := o
    split at o
    · rename_i ok
      exact .inl ⟨(wk i H' h' ρ' lh fe kk Rh ok).1 (by show i = ds.length; omega), OutS.fin o Rh Rs⟩
    · exact o.elim
  · rw [ed] at o
    have o : OutS (tb X c) W h'.length ρ' H' E (if gd.ok h' then match ((asgT g t d sg' h').then sg' fun s2 h3 => evSs g is s2 h3) with
      | .next s1 h1 => loopS gd (fun d s1 h2 => (asgT g t d s1 h2).then s1 fun s2 h3 => evSs g is s2 h3) (ds.drop (i + 1)) s1 (trimS h' s1 h1)
      | .cont s1 h1 => loopS gd (fun d s1 h2 => (asgT g t d s1 h2).then s1 fun s2 h3 => evSs g is s2 h3) (ds.drop (i + 1)) s1 (trimS h' s1 h1)
      | .brk s1 h1 => .next s1 h1
      | o => o
      else .stuck) := o
    split at o
    · rename_i ok
      obtain ⟨go, yl⟩ := (wk i H' h' ρ' lh fe kk Rh ok).2 d gt
      refine .inr ⟨go, fun σ2 H2 => ∃ ρ2 sg2 h2, h.length ≤ h2.length ∧ Ext h.length ρ ρ2 ∧ Keep X.K H1 H2 ∧ RelH (tb X c) ρ2 h2 H2 ∧ RelS X.K H2 h2.length ρ2 sg2 σ2 ∧ (i + 1) + (m - 1) = ds.length ∧
        OutS (tb X c) W h2.length ρ2 H2 E (loopS gd (fun d s1 h2 => (asgT g t d s1 h2).then s1 fun s2 h3 => evSs g is s2 h3) (ds.drop (i + 1)) sg2 h2), fun σ2 H2 z => ⟨m - 1, by omega, z⟩, fun x H2 y => ?_⟩
      obtain ⟨k2, R2, rx⟩ := yl x H2 y
      have o := OutS.later o (Nat.le_refl _) (Ext.refl _ _) k2
      refine ⟨ρ', sg', h', d, ⟨Rs.mono k2 (Ext.refl _ _) (Nat.le_refl _), R2, rx⟩, ?_⟩
      show OutG (tb X c) W vs h'.length ρ' H2 σ _ (asgT g t d sg' h')
      cases q1 : asgT g t d sg' h' with
      | stuck => rw [q1] at o; exact o
      | exc x1 h3 =>
        rw [q1] at o
        exact fun ρ3 cc dd H3 l3 e3 k3 R3 r3 => o ρ3 σ cc dd H3 l3 e3 k3 R3 ((Rs.mono k2 (Ext.refl _ _) (Nat.le_refl _)).mono k3 e3 l3) r3
      | ok s1 h3 =>
        rw [q1, R.then_ok] at o
        intro ρ3 σ3 H3 l3 e3 k3 R3 rs3 _
        refine ⟨ρ3, s1, h3, (), ⟨rs3, R3, True.intro⟩, ?_⟩
        show OutS (tb X c) W h3.length ρ3 H3 _ (evSs g is s1 h3)
        cases q2 : evSs g is s1 h3 with
        | stuck => rw [q2] at o; exact o
        | ret d2 h4 => rw [q2] at o; exact OutS.later (r := .ret d2 h4) o l3 e3 k3
        | exc x s2 h4 => rw [q2] at o; exact OutS.later (r := .exc x s2 h4) o l3 e3 k3
        | brk s2 h4 => rw [q2] at o; exact OutS.later (r := .next s2 h4) o l3 e3 k3
        | next s2 h4 =>
          rw [q2] at o
          intro ρ4 σ4 H4 l4 e4 k4 R4 rs4
          obtain ⟨t1, t2, t3⟩ := trimS_rel R2 (by omega) R4 rs4
          exact ⟨ρ4, s2, _, by omega, fe.trans (e3.trans e4 l3) lh, ((kk.trans k2).trans k3).trans k4, t2, t3, by omega, OutS.later o t1 (e3.trans e4 l3) (k3.trans k4)⟩
        | cont s2 h4 =>
          rw [q2] at o
          intro ρ4 σ4 H4 l4 e4 k4 R4 rs4
          obtain ⟨t1, t2, t3⟩ := trimS_rel R2 (by omega) R4 rs4
          exact ⟨ρ4, s2, _, by omega, fe.trans (e3.trans e4 l3) lh, ((kk.trans k2).trans k3).trans k4, t2, t3, by omega, OutS.later o t1 (e3.trans e4 l3) (k3.trans k4)⟩
    · exact o.elim

/-! ### op= -/
theorem augS_quiet {bo : Bin} {x y : D} {h h' : Hh} {z : Ex} : augS bo x y h ≠ .exc z h' := by
  unfold augS
  split <;> first | (split <;> simp) | simp
def rAugD (X : Cx) (c : Ct) (bo : Bin) : TIp := fun x y H Q => ∃ ρ h a b, RelH (tb X c) ρ h H ∧ RelD X.K H h.length ρ a x ∧ RelD X.K H h.length ρ b y ∧ Out (tb X c) RL.d (fun _ _ _ _ => False) h.length ρ H [] Q (augS bo a b h)
theorem ip_d {op : Operator} {bo : Bin} (ho : binOf op = some bo) : PIp X op (rAugD X c bo) := by
  intro pins s σ H x y v u Q I rx ry ⟨ρ, h, a, b, R, ra, rb, o⟩
  exact aug_ok (W := fun _ _ _ _ => False) ho I rx ry R ra rb (Out.cb (fun _ _ _ z => z) o)
theorem aug_mk {bo : Bin} {x y : V} {Q : VK} {ρ : Nat → Addr} {h : Hh} {a b : D} (R0 : RelH (tb X c) ρ h H) (ra : RelD X.K H h.length ρ a x) (rb : RelD X.K H h.length ρ b y) (f : ∀ d h', augS bo a b h = .ok d h' → ∀ ρ' v H', h.length ≤ h'.length → Ext h.length ρ ρ' → Keep X.K H H' → RelH (tb X c) ρ' h' H' → RelD X.K H' h'.length ρ' d v → Q v H') (ns : augS bo a b h ≠ .stuck) : rAugD X c bo x y H Q := by
  refine ⟨ρ, h, a, b, R0, ra, rb, ?_⟩
  cases q : augS bo a b h with
  | stuck => exact absurd q ns
  | exc z h' => exact absurd q augS_quiet
  | ok d h' => exact f d h' q
theorem ps_augE {i : Nat} {x : Str} {op : Operator} {bo : Bin} {pos' : Pos} (ho : binOf op = some bo) (hN : X.N.Nodup) (hi : X.N[i]? = some x) (hx : Loc X.env.scope x) (hf : X.fn x = true ∨ X.env.scope.names.lookup x = some .local) (he : PE X e (tEe X c W g a)) :
    PS X (.AugAssign (.Name x pos') op e pos) (tSe X c W g (.aug i bo a)) := by
  refine ⟨fun pins s σ H E I q => (ps_aug hN hi hx he (ip_d (c := c) ho) hf).run pins s σ H E I ?_⟩
  obtain ⟨ρ, sg, h, _, A, o⟩ := q
  have o : OutS (tb X c) W h.length ρ H E ((R.of (slot i sg) h).then sg fun x h0 => (evE g a sg h0).then sg fun y h1 => (augS bo x y h1).then sg fun z h2 => .next (sg.set i (some z)) h2) := o
  unfold slot at o
  cases q : sg[i]? with
  | none => rw [q] at o; exact o.elim
  | some z =>
    cases z with
    | none => rw [q] at o; exact o.elim
    | some d =>
      rw [q] at o
      obtain ⟨v, e1, r⟩ := A.s.at_ i d q
      refine ⟨v, e1, ?_⟩
      have t2 : tHS (tb X c) W RL.d (fun sg x h0 => (evE g a sg h0).then sg fun y h1 => (augS bo x y h1).then sg fun z h2 => .next (sg.set i (some z)) h2) v E σ H := ⟨ρ, sg, h, d, ⟨A.s, A.o, r⟩, o⟩
      refine tG_mono (fun y H1 q => ?_) (tHS.step (m := RL.d) (fun sg (p : D × D) h1 => (augS bo p.1 p.2 h1).then sg fun z h2 => .next (sg.set i (some z)) h2) t2)
      obtain ⟨ρ1, sg1, h1, ab, A1, o1⟩ := q
      dsimp only at o1
      refine aug_mk A1.o A1.a.1 A1.a.2 (fun d' h' q ρ' v' H' l1 e1 k1 R1 r1 => ?_) fun q => by rw [q] at o1; exact o1
      rw [q] at o1
      exact o1 ρ' _ H' l1 e1 k1 R1 ((A1.s.mono k1 e1 l1).set r1)
theorem fld_at {ρ : Nat → Addr} {h : Hh} {f ci : Nat} {z : Str} {d y : D} {x : V} (ok : CtOk X.K c) (hz : c.fld f = some z) (R : RelH (tb X c) ρ h H) (ra : RelD X.K H h.length ρ d x) (q : fldS f h d = some (ci, y)) :
    ∃ p C dx fs v, x = .ref p ∧ H p = some (.ins C dx fs) ∧ c.cls ci = some C ∧ Cls X.K C ∧ NoAttr X.K C z ∧ fs.lookup z = some v ∧ RelD X.K H h.length ρ y v := by
  unfold fldS at q
  split at q
  · split at q
    · rename_i i _ ci' fs g
      cases ra with | r hi =>
      obtain ⟨C, dx, fv, e0, e1, r, al⟩ := R.obj i _ g
      rw [Option.map_eq_some_iff] at q
      obtain ⟨d', e, q⟩ := q
      cases q
      obtain ⟨w, e2, rd⟩ := relFs_get (T := tb X c) ok.inj hz r e
      obtain ⟨p, hp, rfl⟩ := getF_mem e
      exact ⟨_, C, dx, fv, w, rfl, e1, e0, ok.cls _ _ e0, ok.noAt _ _ _ _ e0 hz (List.all_eq_true.mp al p hp), e2, rd⟩
    · cases q
  · cases q
theorem cls_at {ρ : Nat → Addr} {h : Hh} {ci : Nat} {d : D} {x : V} (R : RelH (tb X c) ρ h H) (ra : RelD X.K H h.length ρ d x) (q : clsOf h d = some ci) : ∃ p C dx fs, x = .ref p ∧ H p = some (.ins C dx fs) ∧ c.cls ci = some C := by
  unfold clsOf at q
  split at q
  · split at q
    · rename_i i _ ci' fs g
      cases q
      cases ra with | r hi =>
      obtain ⟨C, dx, fv, e0, e1, r, al⟩ := R.obj i _ g
      exact ⟨_, C, dx, fv, rfl, e1, e0⟩
    · cases q
  · cases q
theorem putAttr_quiet {fok : Nat → Nat → Bool} {x y : D} {f : Nat} {h h' : Hh} {z : Ex} : putAttrS fok x f y h ≠ .exc z h' := by
  unfold putAttrS
  split
  · split
    · split <;> simp
    · simp
  · simp
theorem ps_augAttrE {f : Nat} {z : Str} {op : Operator} {bo : Bin} {tpos : Pos} (ho : binOf op = some bo) (ok : CtOk X.K c) (hz : c.fld f = some z) (hF : g.fok = c.fok) (ha : PE X e (tEe X c W g a)) (hb : PE X e2 (tEe X c W g b)) :
    PS X (.AugAssign (.Attribute e z tpos) op e2 pos) (tSe X c W g (.augAttr a f bo b)) := by
  refine ⟨fun pins s σ H E I q => (ps_fldaug (rd := rAugD X c bo) ha hb (fun pins s σ H x y u v Q I rx ry h => ip_d ho pins s σ H x y u v Q I rx ry h)).run pins s σ H E I ?_⟩
  refine tG_mono (fun x H1 q => ?_) (tS.step (m := RL.d) (fun sg x h1 => (R.of (fldS f h1 x) h1).then sg fun cy h2 => (evE g b sg h2).then sg fun z h3 => (augS bo cy.2 z h3).then sg fun w h4 => if clsOf h4 x = some cy.1 then (putAttrS g.fok x f w h4).then sg fun _ h5 => .next sg h5 else .stuck) q)
  obtain ⟨ρ, sg, h, d, A, o⟩ := q
  have ra : RelD X.K H1 h.length ρ d x := A.a
  dsimp only at o
  cases q : fldS f h d with
  | none => rw [q] at o; exact o.elim
  | some cy =>
    rw [q] at o
    obtain ⟨ci, y⟩ := cy
    have o : OutS (tb X c) W h.length ρ H1 E ((evE g b sg h).then sg fun z h3 => (augS bo y z h3).then sg fun w h4 => if clsOf h4 d = some ci then (putAttrS g.fok d f w h4).then sg fun _ h5 => .next sg h5 else .stuck) := o
    obtain ⟨p, C, dx, fs, v, rfl, e1, e0, e3, e4, e5, e6⟩ := fld_at ok hz A.o ra q
    refine ⟨p, C, dx, fs, v, rfl, e1, e3, e4, e5, ?_⟩
    refine tG_mono (fun y2 H2 q => ?_) (tHS.step (l := RL.x RL.d RL.d) (m := RL.d) (x := (V.ref p, v)) (fun sg (t : (D × D) × D) h3 => (augS bo t.1.2 t.2 h3).then sg fun w h4 => if clsOf h4 t.1.1 = some ci then (putAttrS g.fok t.1.1 f w h4).then sg fun _ h5 => .next sg h5 else .stuck) ⟨ρ, sg, h, (d, y), ⟨A.s, A.o, ra, e6⟩, o⟩)
    obtain ⟨ρ2, sg2, h2, t, A2, o2⟩ := q
    have r1 : RelD X.K H2 h2.length ρ2 t.1.1 (V.ref p) := A2.a.1.1
    dsimp only at o2
    refine aug_mk A2.o A2.a.1.2 A2.a.2 (fun w h4 q ρ4 zv H4 l4 ex4 k4 R4 r4 => ?_) fun q => by rw [q] at o2; exact o2
    rw [q, R.then_ok] at o2
    have o2 := OutS.later o2 l4 ex4 k4
    split at o2
    · rename_i cl
      have r5 : RelD X.K H4 h4.length ρ4 t.1.1 (V.ref p) := r1.mono k4 ex4 l4
      obtain ⟨p', C', dx', fs', ep, e7, e8⟩ := cls_at R4 r5 cl
      cases ep
      have : C' = C := by rw [e0] at e8; exact (Option.some.inj e8).symm
      subst this
      rw [hF] at o2
      have pa := putAttr_at (W := fun _ _ _ _ => False) (σ := []) (Q := fun H5 => E.nx σ H5) (f := f) ok hz R4 r5 r4 (d := w) (by
        cases q : putAttrS c.fok t.1.1 f w h4 with
        | stuck => rw [q] at o2; exact o2
        | exc _ _ => exact absurd q putAttr_quiet
        | ok _ h5 =>
          rw [q] at o2
          exact fun ρ' b' H' l1 e1 k1 R1 r1 => o2 ρ' σ H' l1 e1 k1 R1 ((A2.s.mono k4 ex4 l4).mono k1 e1 l1))
      obtain ⟨p5, C5, dx5, fs5, ep5, g1, g2, g3, g4, g5⟩ := pa
      cases ep5
      rw [e7] at g1
      cases g1
      exact ⟨dx', fs', e7, g4, g5⟩
    · exact o2.elim
theorem ps_augSubE {op : Operator} {bo : Bin} {tpos : Pos} {i2 : Expr} {ib : IE} (ho : binOf op = some bo) (hp : plainIx e2 = true) (ha : PE X e (tEe X c W g a)) (hb : PE X e2 (tEe X c W g b)) (hd : PE X i2 (tEe X c W g ib)) :
    PS X (.AugAssign (.Subscript e e2 tpos) op i2 pos) (tSe X c W g (.augSub a b bo ib)) := by
  refine ⟨fun pins s σ H E I q => (ps_augS (tip := rAugD X c bo) ha hb get_list hd (ip_d ho) set_list (by intros; cases e2 <;> first | rfl | cases hp)).run pins s σ H E I ?_⟩
  refine tG_mono (fun x H1 q => ?_) (tS.step (m := RL.d) (fun sg x h1 => (evE g b sg h1).then sg fun k h2 => (R.of (itmS x k h2) h2).then sg fun y h3 => (evE g ib sg h3).then sg fun z h4 => (augS bo y z h4).then sg fun w h5 => (putS x k w h5).then sg fun _ h6 => .next sg h6) q)
  refine tG_mono (fun kx H2 q => ?_) (tHS.step (m := RL.d) (fun sg (t : D × D) h2 => (R.of (itmS t.1 t.2 h2) h2).then sg fun y h3 => (evE g ib sg h3).then sg fun z h4 => (augS bo y z h4).then sg fun w h5 => (putS t.1 t.2 w h5).then sg fun _ h6 => .next sg h6) q)
  obtain ⟨ρ, sg, h, d, A, o⟩ := q
  have ra : RelD X.K H2 h.length ρ d.1 x := A.a.1
  have rb : RelD X.K H2 h.length ρ d.2 kx := A.a.2
  dsimp only at o
  clear q
  cases qi : itmS d.1 d.2 h with
  | none => rw [qi] at o; exact o.elim
  | some y =>
    rw [qi] at o
    have o : OutS (tb X c) W h.length ρ H2 E ((evE g ib sg h).then sg fun z h4 => (augS bo y z h4).then sg fun w h5 => (putS d.1 d.2 w h5).then sg fun _ h6 => .next sg h6) := o
    have gt : ∃ p xs k v, x = .ref p ∧ kx = .int k ∧ SqL X.K H2 p xs ∧ atI xs k = some v ∧ RelD X.K H2 h.length ρ y v := by
      unfold itmS at qi
      split at qi
      · rename_i xs k el ek
        obtain ⟨p, vs, rfl, t, r⟩ := lst_at A.o ra el
        rw [ek] at rb
        cases rb with | p rb => cases rb with | int _ =>
        obtain ⟨v, e1, r1⟩ := RelDs.at_ r qi
        exact ⟨p, vs, k, v, rfl, rfl, t, e1, r1⟩
      · cases qi
    obtain ⟨p, xs, k, v, rfl, rfl, t, e1, ry⟩ := gt
    refine ⟨p, xs, k, v, rfl, rfl, t, e1, ?_⟩
    refine tG_mono (fun z H3 q => ?_) (tHS.step (l := RL.x (RL.x RL.d RL.d) RL.d) (m := RL.d) (x := ((V.ref p, V.int k), v)) (fun sg (t : ((D × D) × D) × D) h4 => (augS bo t.1.2 t.2 h4).then sg fun w h5 => (putS t.1.1.1 t.1.1.2 w h5).then sg fun _ h6 => .next sg h6) ⟨ρ, sg, h, (d, y), ⟨A.s, A.o, ⟨ra, rb⟩, ry⟩, o⟩)
    obtain ⟨ρ2, sg2, h2, t2, A2, o2⟩ := q
    have r1 : RelD X.K H3 h2.length ρ2 t2.1.1.1 (V.ref p) := A2.a.1.1.1
    have r2 : RelD X.K H3 h2.length ρ2 t2.1.1.2 (V.int k) := A2.a.1.1.2
    dsimp only at o2
    refine aug_mk A2.o A2.a.1.2 A2.a.2 (fun w h4 q ρ4 zv H4 l4 ex4 k4 R4 r4 => ?_) fun q => by rw [q] at o2; exact o2
    rw [q, R.then_ok] at o2
    have o2 := OutS.later o2 l4 ex4 k4
    have r1' := r1.mono k4 ex4 l4
    have r2' := r2.mono k4 ex4 l4
    revert o2
    unfold putS
    intro o2
    split at o2
    · rename_i j ej
      rw [ej] at r1'
      split at o2
      · rename_i ys gj
        split at o2
        · rename_i k' ek
          rw [ek] at r2'
          cases r2' with | p r2' => cases r2' with | int _ =>
          split at o2
          · rename_i m em
            obtain ⟨vs4, t4, rs4⟩ := R4.obj j _ gj
            have ep := RelD.r_inv r1'
            cases ep
            refine ⟨_, vs4, k, m, rfl, rfl, t4, by rw [← RelDs.length rs4]; exact em, ?_⟩
            obtain ⟨kp, R5⟩ := R4.wr (o' := .lst (ys.set m w)) (u := .lst (vs4.set m zv)) gj rfl rfl fun kp => ⟨_, upd_same, RelDs.set (r4.mono kp (Ext.refl _ _) (Nat.le_refl _)) m (rs4.mono kp (Ext.refl _ _) (Nat.le_refl _))⟩
            refine o2 ρ4 σ _ (by rw [List.length_set]; exact Nat.le_refl _) (Ext.refl _ _) kp R5 ?_
            exact ((A2.s.mono k4 ex4 l4).mono kp (Ext.refl _ _) (by rw [List.length_set]; exact Nat.le_refl _))
          · exact o2.elim
        · exact o2.elim
      · exact o2.elim
    · exact o2.elim
end
end Pv

/-! L: what is compiled is kept. -/
namespace Pv
open PySem L2 PySem.Spec PyProof.Rows

/-- what must be known of the text around -/
structure Okc (X : Cx) (c : Ct) (m : Nm) (g : G) (j : Nat) : Prop where
  ct : CtOk X.K c
  hF : g.fok = c.fok
  calm : X.calm = true
  nodup : X.N.Nodup
  kind : X.env.scope.kind = .function
  room : Room (j + 1) X.A
  bare : Bare X.A
  bnd : ∀ x, bltNames.contains x = true → m.bnd.contains x = false → X.mg x = none
  con : ∀ x p, m.con.lookup x = some p → ∃ u v, X.mg x = some u ∧ RelV v u ∧ ∀ H, RelP X.K H p v
  fns : ∀ x f, idx x m.fns = some f → ∃ a, X.mg x = some (.ref a) ∧ FnAt X c (j + 1) a (g.call f)
  cls : ∀ x ci, idx x m.cls = some ci → ∃ C fa fi, X.mg x = some (.ref C) ∧ c.cls ci = some C ∧ g.cinit ci = some fi ∧ Mk X.K C fa ∧ FnAt X c j fa (g.init fi)
  met : ∀ z mi, idx z m.nms = some mi → MethOk X c g (j + 1) mi z
  no1000 : ∀ ci, g.meth ci 1000 = none
  fld : ∀ z f, idx z m.nms = some f → c.fld f = some z
theorem Okc.blk {X : Cx} {c : Ct} {m : Nm} {g : G} {j : Nat} (k : Okc X c m g j) {scope : Scope} (hk : scope.kind = .function) (s : Shared) (H : Hp) (C : Addr) (cl : List (Str × Addr)) (fp : List Addr) : Okc (X.blk s H scope (compEnvC scope cl C X.env) fp) c m g j where
  ct := k.ct
  hF := k.hF
  calm := k.calm
  nodup := k.nodup
  kind := hk
  room := k.room
  bare := k.bare
  bnd := k.bnd
  con := k.con
  fns := fun x f e => let ⟨a, h1, h2⟩ := k.fns x f e; ⟨a, h1, ⟨h2.keep, h2.go⟩⟩
  cls := fun x ci e => let ⟨C, fa, fi, h1, h2, h3, h4, h5⟩ := k.cls x ci e; ⟨C, fa, fi, h1, h2, h3, h4, ⟨h5.keep, h5.go⟩⟩
  met := fun z mi e ci f C e1 e2 => let ⟨h1, fa, h2, h3⟩ := k.met z mi e ci f C e1 e2; ⟨h1, fa, h2, ⟨h3.keep, h3.go⟩⟩
  no1000 := k.no1000
  fld := k.fld

theorem idx_get : ∀ {x : Str} {N : List Str} {i : Nat}, idx x N = some i → N[i]? = some x
  | x, [], i, h => by cases h
  | x, y :: ys, i, h => by
    unfold idx at h
    by_cases q : x = y
    · rw [if_pos q] at h; cases h; rw [q]; rfl
    · rw [if_neg q] at h
      rw [Option.map_eq_some_iff] at h
      obtain ⟨i', h, rfl⟩ := h
      rw [List.getElem?_cons_succ]
      exact idx_get h
section
variable {X : Cx} {c : Ct} {m : Nm} {g : G} {j : Nat} {W : WX} {sc : Scope} {e : Expr} {a : IE}
theorem vis_of {x : Str} (hs : X.env.scope = sc) (h : isVis sc x = true) : Vis X.env.scope x := by
  unfold isVis at h
  rw [hs]
  split at h
  · exact .inl ‹_›
  · exact .inr (.inl ‹_›)
  · exact .inr (.inr ‹_›)
  · cases h
theorem loc_of {x : Str} (hs : X.env.scope = sc) (h : isLoc sc x = true) : Loc X.env.scope x := by
  unfold isLoc at h
  rw [hs]
  split at h
  · exact .inl ‹_›
  · exact .inr ‹_›
  · cases h
theorem gl_of {x : Str} (hs : X.env.scope = sc) (h : isGl sc x = true) : Gl X x := by
  unfold isGl at h
  show X.env.scope.names.lookup x = some .globalImplicit
  rw [hs]
  split at h
  · assumption
  · cases h
theorem pe_root (h : PE X e (tEe X c W g a)) : PE X e (tEe X c W g a.root) := by
  unfold IE.root
  split
  · exact ⟨fun pins s σ H Q I t => h.run pins s σ H Q I (tE.trim t)⟩
  · exact h
theorem pt_root (h : PT X e (tTe X c W g a)) : PT X e (tTe X c W g a.root) := by
  unfold IE.root
  split
  · exact ⟨fun pins s σ H Q I t => h.run pins s σ H Q I (tT.trim t)⟩
  · exact h
theorem noSet_of (h : noSet e = true) : ∀ x, foldedSetIterable e X.env x = pure x := by
  intro x
  cases e <;> first | rfl | cases h
/-- which names may be stored, and where they stand -/
def StOk (X : Cx) (st : List Str) (vs : List Nat) : Prop := ∀ x ∈ st, (Loc X.env.scope x → X.fn x = true ∨ X.env.scope.names.lookup x = some .local) ∧ ∀ i, idx x X.N = some i → i ∈ vs
theorem takes_no : Takes X (fun _ _ _ _ => False) := fun _ _ ⟨_, _, _, _, _, _, _, _, _, _, _, _, _, _, _, _, w⟩ => w.elim
theorem owns_ok {scope : Scope} (bo : BlkOk X.N X.env.scope scope (owns X.N scope)) (s : Shared) (H : Hp) (C : Addr) (cl : List (Str × Addr)) (fp : List Addr) : StOk (X.blk s H scope (compEnvC scope cl C X.env) fp) ((owns X.N scope).map (·.1)) ((owns X.N scope).map (·.2)) := by
  intro x hx
  obtain ⟨⟨x', i⟩, hp, rfl⟩ := List.mem_map.mp hx
  have hp0 := hp
  unfold owns at hp
  rw [List.mem_filterMap] at hp
  obtain ⟨y, hy, ey⟩ := hp
  rw [List.mem_filter] at hy
  rw [Option.map_eq_some_iff] at ey
  obtain ⟨i', ei, ey⟩ := ey
  cases ey
  have lk := bo.uniq y hy.1
  refine ⟨fun _ => ?_, fun i2 e2 => ?_⟩
  · have hk := hy.2
    cases q : y.2 with
    | cell =>
      left
      show (scope.names.lookup y.1 == some .cell) = true
      rw [lk, q]
      rfl
    | «local» =>
      right
      show (relS scope X.env.scope).names.lookup y.1 = some .local
      exact lookup_relS_keep (by decide) (by rw [lk, q])
    | _ => rw [q] at hk; cases hk
  · have e2 : idx y.1 X.N = some i2 := e2
    rw [ei] at e2
    cases e2
    exact List.mem_map.mpr ⟨_, hp0, rfl⟩

/-- all that is compiled with n is kept -/
structure Snd (c : Ct) (m : Nm) (g : G) (j n : Nat) : Prop where
  e : ∀ {X : Cx} {W : WX} {e : Expr} {ie : IE}, Okc X c m g j → Takes X W → cE m n X.env.scope X.N e = some ie → noStar e = true ∧ PE X e (tEe X c W g ie) ∧ PT X e (tTe X c W g ie)
  b : ∀ {X : Cx} {W : WX} {op : BoolOp} {vs : List Expr} {ie : IE}, Okc X c m g j → Takes X W → cBool m n X.env.scope X.N op vs = some ie → ∀ pos, PE X (.BoolOp op vs pos) (tEe X c W g ie) ∧ PW X (.BoolOp op vs pos) (tTe X c W g ie)
  es : ∀ {X : Cx} {W : WX} {es : List Expr} {ie : IEs}, Okc X c m g j → Takes X W → cEs m n X.env.scope X.N es = some ie → PA X es (tAe X c W g ie) ∧ noStars es ∧ (es = [] → ie = .nil) ∧ (es ≠ [] → ∃ b bs, ie = .cons b bs) ∧ ∀ e, es = [e] → ∃ a, ie = .cons a .nil ∧ PT X e (tTe X c W g a)
  o : ∀ {X : Cx} {W : WX} {e : Option Expr} {ie : IEo}, Okc X c m g j → Takes X W → cO m n X.env.scope X.N e = some ie → PO X e (tG (tb X c) W RL.o (evO g ie))
  t : ∀ {X : Cx} {W : WX} {st : List Str} {vs : List Nat} {e : Expr} {ie : ITg}, Okc X c m g j → Takes X W → StOk X st vs → cT m n X.env.scope X.N st e = some ie → noStar e = true ∧ PG X e (tTg (tb X c) W vs (asgT g ie))
  ts : ∀ {X : Cx} {W : WX} {st : List Str} {vs : List Nat} {es : List Expr} {ie : ITgs}, Okc X c m g j → Takes X W → StOk X st vs → cTs m n X.env.scope X.N st es = some ie → noStars es ∧ PGs X es (tTgs (tb X c) W vs (asgTs g ie))
  i : ∀ {X : Cx} {W : WX} {tg it : Expr} {ie : IIt}, Okc X c m g j → Takes X W → cI m n X.env.scope X.N tg it = some ie → PI X tg it (tG (tb X c) W (Wk (tb X c)) (evI g ie))

/-- a comprehension's parts -/
theorem comp_parts {n : Nat} (S : Snd c m g j n) (k : Okc X c m g j) (tk : Takes X W) {elt tg it : Expr} {ifs : List Expr} {scope : Scope} {pos : Pos} {ie : IE} (h : cE m (n + 1) X.env.scope X.N (.ListComp elt [⟨tg, it, ifs, 0⟩] scope pos) = some ie) :
    ∃ (x : IE) (t : ITg) (i : IIt) (fs : IEs), ie = .comp ((owns X.N scope).map (·.2)) x t i fs ∧ PI X tg it (tG (tb X c) W (Wk (tb X c)) (evI g i)) ∧ BlkOk X.N X.env.scope scope (owns X.N scope) ∧
      (∀ (s : Shared) (H : Hp) (C : Addr) (cl : List (Str × Addr)) (fp : List Addr), PG (X.blk s H scope (compEnvC scope cl C X.env) fp) tg (tTg (tb X c) (fun _ _ _ _ => False) ((owns X.N scope).map (·.2)) (asgT g t))) ∧
      (∀ (s : Shared) (H : Hp) (C : Addr) (cl : List (Str × Addr)) (fp : List Addr), PTs (X.blk s H scope (compEnvC scope cl C X.env) fp) ifs (tT (tb X c) (fun _ _ _ _ => False) (evTs g fs))) ∧
      (∀ (s : Shared) (H : Hp) (C : Addr) (cl : List (Str × Addr)) (fp : List Addr), PE (X.blk s H scope (compEnvC scope cl C X.env) fp) elt (tEe X c (fun _ _ _ _ => False) g x)) ∧ (∀ x, foldedSetIterable it X.env x = pure x) := by
  simp only [cE] at h
  split at h
  · rename_i q
    simp only [Bool.and_eq_true, decide_eq_true_eq] at q
    have bo := blkOk_by q.1.1
    simp only [bind, Option.bind_eq_some_iff] at h
    obtain ⟨i, hi, t, ht, fs, hf, x, hx, h⟩ := h
    cases h
    have K1 := fun (s : Shared) (H : Hp) (C : Addr) (cl : List (Str × Addr)) (fp : List Addr) => k.blk bo.kind s H C cl fp
    refine ⟨_, t, i, fs, rfl, S.i k tk hi, bo, fun s H C cl fp => (S.t (K1 s H C cl fp) takes_no (owns_ok bo s H C cl fp) ht).2, fun s H C cl fp => ?_, fun s H C cl fp => pe_root (S.e (K1 s H C cl fp) takes_no hx).2.1, noSet_of q.1.2⟩
    obtain ⟨h1, h2, h3, h4, h5⟩ := S.es (W := fun _ _ _ _ => False) (K1 s H C cl fp) takes_no hf
    exact pts_E q.2 h3 h5
  · cases h
theorem con_ok {x : Str} {p : P} (k : Okc X c m g j) (ok : okName x = true) (hg : Gl X x) (h : m.con.lookup x = some p) {pos : Pos} : PE X (.Name x pos) (tEe X c W g (.c p)) := by
  obtain ⟨u, v, hm, r, rp⟩ := k.con x p h
  exact pe_p (pe_glob hg hm r (okName_db ok)) rp
theorem bltOf_id {x : Str} {b : Blt} (h : bltOf x = some b) : ∃ f, bltId b = some (x, f) := by
  unfold bltOf at h
  repeat (first
    | (split at h; · cases h; rename_i q; rw [q]; exact ⟨_, rfl⟩)
    | cases h)
theorem bltOf_in {x : Str} {b : Blt} (h : bltOf x = some b) : bltNames.contains x = true := by
  unfold bltOf at h
  repeat (first
    | (split at h; · rename_i q; rw [q]; decide +kernel)
    | cases h)
theorem bmOf_ok (x : Str) : bmOf x = bmOf x := rfl
section
variable {n : Nat} (S : Snd c m g j n)
include S
theorem snd_call {x : Str} {es : List Expr} {p pos : Pos} {ie : IE} (k : Okc X c m g j) (tk : Takes X W) (h : cE m (n + 1) X.env.scope X.N (.Call (.Name x p) es [] pos) = some ie) : PE X (.Call (.Name x p) es [] pos) (tEe X c W g ie) := by
  simp only [cE] at h
  split at h
  · rename_i q
    rw [Bool.and_eq_true] at q
    have hg := gl_of (X := X) rfl q.2
    split at h
    · rename_i f hf
      rw [Option.map_eq_some_iff] at h
      obtain ⟨as, has, rfl⟩ := h
      obtain ⟨h1, h2, h3, h4, h5⟩ := S.es (W := W) k tk has
      obtain ⟨fa, hm, F⟩ := k.fns x f hf
      exact pe_callE k.room k.bare tk F hg hm q.1 h2 h3 h1
    · split at h
      · rename_i ci hc
        rw [Option.map_eq_some_iff] at h
        obtain ⟨as, has, rfl⟩ := h
        obtain ⟨h1, h2, h3, h4, h5⟩ := S.es (W := W) k tk has
        obtain ⟨C, fa, fi, hm, hC, hi, M, F⟩ := k.cls x ci hc
        exact pe_makeE k.room k.bare tk hi hC M F hg hm q.1 h2 h3 h1
      · split at h
        · cases h
        · rename_i nb
          split at h
          · rename_i b hb
            split at h
            · cases h
            · rw [Option.map_eq_some_iff] at h
              obtain ⟨as, has, rfl⟩ := h
              obtain ⟨h1, h2, h3, h4, h5⟩ := S.es (W := W) k tk has
              obtain ⟨f, hf⟩ := bltOf_id hb
              exact pe_bltE k.calm k.bare (by have := k.room.un; omega) hf hg (k.bnd x (bltOf_in hb) (by simpa using nb)) h2 h1
          · cases h
  · cases h
theorem snd_meth {o : Expr} {x : Str} {ap : Pos} {es : List Expr} {pos : Pos} {ie : IE} (k : Okc X c m g j) (tk : Takes X W) (h : cE m (n + 1) X.env.scope X.N (.Call (.Attribute o x ap) es [] pos) = some ie) : PE X (.Call (.Attribute o x ap) es [] pos) (tEe X c W g ie) := by
  simp only [cE] at h
  split at h
  · cases h
  · rename_i q
    simp only [Bool.or_eq_true, Bool.not_eq_true', not_or, Bool.not_eq_false, decide_eq_true_eq, Bool.not_eq_true, decide_eq_false_iff_not, Decidable.not_not] at q
    simp only [bind, Option.bind_eq_some_iff] at h
    obtain ⟨y, hy, as, has, h⟩ := h
    cases h
    obtain ⟨h1, h2, h3, h4, h5⟩ := S.es (W := W) k tk has
    refine pe_methE k.room k.bare tk k.ct ?_ rfl ?_ q.1.1 q.1.2 q.2 h2 h3 h4 (S.e k tk hy).2.1 h1
    · cases e : idx x m.nms with
      | none => exact .inl ⟨rfl, k.no1000⟩
      | some mi => exact .inr (k.fld x mi e)
    · cases e : idx x m.nms with
      | none => intro ci f C hm; have hm : g.meth ci 1000 = some f := hm; rw [k.no1000 ci] at hm; cases hm
      | some mi => exact k.met x mi e
theorem snd_lc {elt tg it : Expr} {ifs : List Expr} {scope : Scope} {pos : Pos} {ie : IE} (k : Okc X c m g j) (tk : Takes X W) (h : cE m (n + 1) X.env.scope X.N (.ListComp elt [⟨tg, it, ifs, 0⟩] scope pos) = some ie) : PE X (.ListComp elt [⟨tg, it, ifs, 0⟩] scope pos) (tEe X c W g ie) := by
  obtain ⟨x, t, i, fs, rfl, h1, h2, h3, h4, h5, h6⟩ := comp_parts (W := W) S k tk h
  exact pe_compE k.calm k.nodup h1 h2 h3 h4 h5 h6
theorem snd_e {ie : IE} (k : Okc X c m g j) (tk : Takes X W) (h : cE m (n + 1) X.env.scope X.N e = some ie) : noStar e = true ∧ PE X e (tEe X c W g ie) ∧ PT X e (tTe X c W g ie) := by
  have hu : X.A.units + 64 < cLine := by have := k.room.un; omega
  have pl : plainT e = true → noStar e = true → PE X e (tEe X c W g ie) → noStar e = true ∧ PE X e (tEe X c W g ie) ∧ PT X e (tTe X c W g ie) := fun h1 h2 h3 => ⟨h2, h3, pt_of h1 h3⟩
  cases e with
  | Constant kk kd pos =>
    refine pl rfl rfl ?_
    simp only [cE] at h
    split at h
    · cases h; exact pe_p pe_non fun _ => .non
    · cases h; exact pe_p pe_bl fun _ => .bl _
    · cases h; exact pe_p pe_int fun _ => .int _
    · cases h; exact pe_p pe_str fun _ => .str _
    · cases h
  | Name x pos =>
    refine pl rfl rfl ?_
    simp only [cE] at h
    split at h
    · rename_i ok
      split at h
      · rename_i q
        rw [Option.map_eq_some_iff] at h
        obtain ⟨i, hi, rfl⟩ := h
        exact pe_v (idx_get hi) (vis_of rfl q) ok
      · split at h
        · rename_i q
          rw [Option.map_eq_some_iff] at h
          obtain ⟨p, hp, rfl⟩ := h
          exact con_ok k ok (gl_of rfl q) hp
        · cases h
    · cases h
  | Tuple es kk pos =>
    refine pl rfl rfl ?_
    simp only [cE, Option.map_eq_some_iff] at h
    obtain ⟨as, has, rfl⟩ := h
    exact pe_tupE (S.es k tk has).1
  | List es pos =>
    refine pl rfl rfl ?_
    simp only [cE, Option.map_eq_some_iff] at h
    obtain ⟨as, has, rfl⟩ := h
    exact pe_lstE (S.es k tk has).1
  | BinOp a op b pos =>
    refine pl rfl rfl ?_
    simp only [cE, bind, Option.bind_eq_some_iff] at h
    obtain ⟨o, ho, x, hx, y, hy, h⟩ := h
    cases h
    exact pe_bin ho (S.e k tk hx).2.1 (S.e k tk hy).2.1
  | UnaryOp op a pos =>
    cases op with
    | USub =>
      refine pl rfl rfl ?_
      simp only [cE, Option.map_eq_some_iff] at h
      obtain ⟨x, hx, rfl⟩ := h
      exact pe_neg (S.e k tk hx).2.1
    | Not =>
      simp only [cE, Option.map_eq_some_iff] at h
      obtain ⟨x, hx, rfl⟩ := h
      exact ⟨rfl, pe_notE (S.e k tk hx).2.1, pt_notE (S.e k tk hx).2.2⟩
    | _ => simp [cE] at h
  | BoolOp op vs pos =>
    simp only [cE] at h
    have := S.b k tk h pos
    exact ⟨rfl, this.1, this.2.pt⟩
  | IfExp t a b pos =>
    simp only [cE, bind, Option.bind_eq_some_iff] at h
    obtain ⟨x, hx, y, hy, z, hz, h⟩ := h
    cases h
    exact ⟨rfl, pe_iteE (S.e k tk hx).2.2 (S.e k tk hy).2.1 (S.e k tk hz).2.1, pt_iteE (S.e k tk hx).2.2 (S.e k tk hy).2.2 (S.e k tk hz).2.2⟩
  | Compare a ops bs pos =>
    match ops, bs, h with
    | [], bs, h => simp [cE] at h
    | [op], [], h => simp [cE] at h
    | [op], [b], h =>
      simp only [cE] at h
      split at h
      · cases h
      · rename_i q
        have q : behindInMarks op b = false := by simpa using q
        simp only [bind, Option.bind_eq_some_iff] at h
        obtain ⟨x, hx, y, hy, h⟩ := h
        cases h
        exact ⟨rfl, pe_cmpE hu q (S.e k tk hx).2.1 (S.e k tk hy).2.1, pt_cmpE hu q (S.e k tk hx).2.1 (S.e k tk hy).2.1⟩
    | [op], _ :: _ :: _, h => simp [cE] at h
    | [op, op'], [], h => simp [cE] at h
    | [op, op'], [_], h => simp [cE] at h
    | [op, op'], [b, d], h =>
      simp only [cE] at h
      split at h
      · cases h
      · rename_i q
        have q : lastMarks [op, op'] [b, d] = false := by simpa using q
        simp only [bind, Option.bind_eq_some_iff] at h
        obtain ⟨x, hx, y, hy, z, hz, h⟩ := h
        cases h
        exact ⟨rfl, pe_cmp2E hu q (S.e k tk hx).2.1 (S.e k tk hy).2.1 (S.e k tk hz).2.1, pt_cmp2E hu q (S.e k tk hx).2.1 (S.e k tk hy).2.1 (S.e k tk hz).2.1⟩
    | [op, op'], _ :: _ :: _ :: _, h => simp [cE] at h
    | _ :: _ :: _ :: _, bs, h => simp [cE] at h
  | Call f es kw pos =>
    refine pl rfl rfl ?_
    cases kw with
    | cons _ _ => cases f <;> simp [cE] at h
    | nil =>
      cases f with
      | Name x p => exact snd_call S k tk h
      | Attribute o x ap => exact snd_meth S k tk h
      | _ => simp [cE] at h
  | Attribute o x pos =>
    refine pl rfl rfl ?_
    simp only [cE] at h
    split at h
    · cases h
    · rename_i q
      simp only [bind, Option.bind_eq_some_iff] at h
      obtain ⟨f, hf, y, hy, h⟩ := h
      cases h
      exact pe_attrE k.ct (k.fld x f hf) (by simpa using q) (S.e k tk hy).2.1
  | Subscript o i pos =>
    refine pl rfl rfl ?_
    have plain : plainIx i = true → PE X (.Subscript o i pos) (tEe X c W g ie) := fun q => by
      have h2 : (do
          let y ← cE m n X.env.scope X.N o
          let z ← cE m n X.env.scope X.N i
          some (IE.sub y z)) = some ie := by
        cases i <;> first | (simp only [cE] at h; rw [if_pos q] at h; exact h) | cases q
      simp only [bind, Option.bind_eq_some_iff] at h2
      obtain ⟨y, hy, z, hz, h2⟩ := h2
      cases h2
      exact pe_subE q (S.e k tk hy).2.1 (S.e k tk hz).2.1
    cases i with
    | Slice lo hi st p2 =>
      cases st with
      | none =>
        simp only [cE, bind, Option.bind_eq_some_iff] at h
        obtain ⟨y, hy, l, hl, u, hu', h⟩ := h
        cases h
        exact pe_slcE (S.e k tk hy).2.1 (S.o k tk hl) (S.o k tk hu')
      | some _ => simp [cE, plainIx] at h
    | _ => exact plain rfl
  | ListComp elt gens scope pos =>
    refine pl rfl rfl ?_
    match gens, h with
    | [], h => simp [cE] at h
    | ⟨tg, it, ifs, as⟩ :: _ :: _, h => simp [cE] at h
    | [⟨tg, it, ifs, as⟩], h =>
      cases as with
      | ofNat q => cases q with
        | zero => exact snd_lc S k tk h
        | succ q =>
          have h : (none : Option IE) = some ie := h
          cases h
      | negSucc q =>
        have h : (none : Option IE) = some ie := h
        cases h
  | _ => simp [cE] at h
theorem snd_b {op : BoolOp} {vs : List Expr} {ie : IE} (k : Okc X c m g j) (tk : Takes X W) (h : cBool m (n + 1) X.env.scope X.N op vs = some ie) (pos : Pos) : PE X (.BoolOp op vs pos) (tEe X c W g ie) ∧ PW X (.BoolOp op vs pos) (tTe X c W g ie) := by
  match vs, h with
  | [], h => simp [cBool] at h
  | [a], h =>
    simp only [cBool] at h
    obtain ⟨h1, h2, h3⟩ := S.e k tk h
    cases op with
    | And => exact ⟨pe_one h2, pw_and1 h3⟩
    | Or => exact ⟨pe_one h2, pw_or1 h3⟩
  | a :: b :: r, h =>
    simp only [cBool, bind, Option.bind_eq_some_iff] at h
    obtain ⟨x, hx, y, hy, h⟩ := h
    obtain ⟨h1, h2, h3⟩ := S.e k tk hx
    obtain ⟨h4, h5⟩ := S.b k tk hy pos
    cases op with
    | And => cases h; exact ⟨pe_andE h2 h4, pw_andE h3 h5⟩
    | Or => cases h; exact ⟨pe_orE h2 h4, pw_orE h3 h5⟩
theorem snd_es {es : List Expr} {ie : IEs} (k : Okc X c m g j) (tk : Takes X W) (h : cEs m (n + 1) X.env.scope X.N es = some ie) : PA X es (tAe X c W g ie) ∧ noStars es ∧ (es = [] → ie = .nil) ∧ (es ≠ [] → ∃ b bs, ie = .cons b bs) ∧ ∀ e, es = [e] → ∃ a, ie = .cons a .nil ∧ PT X e (tTe X c W g a) := by
  match es, h with
  | [], h =>
    simp only [cEs] at h
    cases h
    exact ⟨pa_nilE, (fun _ hx => by cases hx), fun _ => rfl, (fun z => absurd rfl z), fun _ z => by cases z⟩
  | e :: r, h =>
    simp only [cEs, bind, Option.bind_eq_some_iff] at h
    obtain ⟨x, hx, xs, hxs, h⟩ := h
    cases h
    obtain ⟨h1, h2, h3⟩ := S.e k tk hx
    obtain ⟨g1, g2, g3, g4, g5⟩ := S.es (W := W) k tk hxs
    refine ⟨pa_consE h1 h2 g1, fun y hy => ?_, (fun z => by cases z), fun _ => ⟨_, _, rfl⟩, fun e' z => ?_⟩
    · rcases List.mem_cons.mp hy with rfl | hy
      · exact h1
      · exact g2 y hy
    · cases z
      exact ⟨x, by rw [g3 rfl], h3⟩
theorem snd_o {e : Option Expr} {ie : IEo} (k : Okc X c m g j) (tk : Takes X W) (h : cO m (n + 1) X.env.scope X.N e = some ie) : PO X e (tG (tb X c) W RL.o (evO g ie)) := by
  cases e with
  | none => simp only [cO] at h; cases h; exact po_noneE
  | some e =>
    simp only [cO, Option.map_eq_some_iff] at h
    obtain ⟨a, ha, rfl⟩ := h
    exact po_someE (S.e k tk ha).2.1
theorem snd_t {st : List Str} {vs : List Nat} {ie : ITg} (k : Okc X c m g j) (tk : Takes X W) (so : StOk X st vs) (h : cT m (n + 1) X.env.scope X.N st e = some ie) : noStar e = true ∧ PG X e (tTg (tb X c) W vs (asgT g ie)) := by
  cases e with
  | Name x pos =>
    simp only [cT] at h
    split at h
    · rename_i q
      rw [Bool.and_eq_true] at q
      rw [Option.map_eq_some_iff] at h
      obtain ⟨i, hi, rfl⟩ := h
      have hl := loc_of (X := X) rfl q.1
      obtain ⟨h1, h2⟩ := so x (by simpa using q.2)
      exact ⟨rfl, pg_nameE k.nodup (idx_get hi) hl (h1 hl) (h2 i hi)⟩
    · cases h
  | Tuple es kk pos =>
    simp only [cT, Option.map_eq_some_iff] at h
    obtain ⟨ts, hts, rfl⟩ := h
    obtain ⟨h1, h2⟩ := S.ts k tk so hts
    exact ⟨rfl, pg_tupE k.calm h1 h2⟩
  | Attribute o x pos =>
    simp only [cT] at h
    split at h
    · cases h
    · simp only [bind, Option.bind_eq_some_iff] at h
      obtain ⟨f, hf, y, hy, h⟩ := h
      cases h
      exact ⟨rfl, pg_fldE k.ct (k.fld x f hf) k.hF (S.e k tk hy).2.1⟩
  | Subscript o i pos =>
    simp only [cT] at h
    split at h
    · rename_i q
      simp only [bind, Option.bind_eq_some_iff] at h
      obtain ⟨y, hy, z, hz, h⟩ := h
      cases h
      exact ⟨rfl, pg_subE q (S.e k tk hy).2.1 (S.e k tk hz).2.1⟩
    · cases h
  | _ => simp [cT] at h
theorem snd_ts {st : List Str} {vs : List Nat} {es : List Expr} {ie : ITgs} (k : Okc X c m g j) (tk : Takes X W) (so : StOk X st vs) (h : cTs m (n + 1) X.env.scope X.N st es = some ie) : noStars es ∧ PGs X es (tTgs (tb X c) W vs (asgTs g ie)) := by
  match es, h with
  | [], h =>
    simp only [cTs] at h
    cases h
    exact ⟨(fun _ hx => by cases hx), pgs_nilE⟩
  | e :: r, h =>
    simp only [cTs, bind, Option.bind_eq_some_iff] at h
    obtain ⟨x, hx, xs, hxs, h⟩ := h
    cases h
    obtain ⟨h1, h2⟩ := S.t k tk so hx
    obtain ⟨g1, g2⟩ := S.ts k tk so hxs
    refine ⟨fun y hy => ?_, pgs_consE h1 h2 g2⟩
    rcases List.mem_cons.mp hy with rfl | hy
    · exact h1
    · exact g1 y hy
theorem snd_i {tg it : Expr} {ie : IIt} (k : Okc X c m g j) (tk : Takes X W) (h : cI m (n + 1) X.env.scope X.N tg it = some ie) : PI X tg it (tG (tb X c) W (Wk (tb X c)) (evI g ie)) := by
  have plain : (cE m n X.env.scope X.N it).map (fun y => IIt.of y.root) = some ie → PI X tg it (tG (tb X c) W (Wk (tb X c)) (evI g ie)) := fun h => by
    rw [Option.map_eq_some_iff] at h
    obtain ⟨y, hy, rfl⟩ := h
    exact pi_ofE (pe_root (S.e k tk hy).2.1)
  unfold cI at h
  split at h
  · rename_i x p es pos
    split at h
    · rename_i q
      simp only [Bool.and_eq_true, Bool.not_eq_true'] at q
      have hg := gl_of (X := X) rfl q.1.2
      have hb := q.2
      split at h
      · rename_i ex
        subst ex
        have hm := k.bnd _ (by decide +kernel) hb
        split at h
        · rw [Option.map_eq_some_iff] at h
          obtain ⟨y, hy, rfl⟩ := h
          exact pi_rng1E hg hm (S.e (W := W) k tk hy).1 (pe_root (S.e k tk hy).2.1)
        · simp only [bind, Option.bind_eq_some_iff] at h
          obtain ⟨y, hy, z, hz, h⟩ := h
          cases h
          exact pi_rng2E hg hm (S.e (W := W) k tk hy).1 (S.e (W := W) k tk hz).1 (pe_root (S.e k tk hy).2.1) (pe_root (S.e k tk hz).2.1)
        · cases h
      · split at h
        · rename_i ex
          subst ex
          have hm := k.bnd _ (by decide +kernel) hb
          split at h
          · split at h
            · rename_i ht
              rw [Option.map_eq_some_iff] at h
              obtain ⟨y, hy, rfl⟩ := h
              cases tg <;> first | exact pi_enumE hg hm (S.e (W := W) k tk hy).1 (pe_root (S.e k tk hy).2.1) | cases ht
            · cases h
          · cases h
        · split at h
          · rename_i ex
            subst ex
            have hm := k.bnd _ (by decide +kernel) hb
            split at h
            · split at h
              · rename_i ht
                simp only [bind, Option.bind_eq_some_iff] at h
                obtain ⟨y, hy, z, hz, h⟩ := h
                cases h
                cases tg <;> first | exact pi_zipE hg hm (S.e (W := W) k tk hy).1 (S.e (W := W) k tk hz).1 (pe_root (S.e k tk hy).2.1) (pe_root (S.e k tk hz).2.1) | cases ht
              · cases h
            · cases h
          · exact plain h
    · exact plain h
  · exact plain h
theorem snd_succ : Snd c m g j (n + 1) := ⟨fun k tk h => snd_e S k tk h, fun k tk h pos => snd_b S k tk h pos, fun k tk h => snd_es S k tk h, fun k tk h => snd_o S k tk h, fun k tk so h => snd_t S k tk so h, fun k tk so h => snd_ts S k tk so h, fun k tk h => snd_i S k tk h⟩
end
theorem snd_zero : Snd c m g j 0 := ⟨fun _ _ h => by simp [cE] at h, fun _ _ h => by simp [cBool] at h, fun _ _ h => by simp [cEs] at h, fun _ _ h => by simp [cO] at h, fun _ _ _ h => by simp [cT] at h, fun _ _ _ h => by simp [cTs] at h, fun _ _ h => by simp [cI] at h⟩
theorem snd_all (c : Ct) (m : Nm) (g : G) (j : Nat) : ∀ n, Snd c m g j n
  | 0 => snd_zero
  | n + 1 => snd_succ (snd_all c m g j n)
end
end Pv

/-! M: compiled statements are kept. -/
namespace Pv
open PySem L2 PySem.Spec PyProof.Rows

section
variable {X : Cx} {c : Ct} {m : Nm} {g : G} {j : Nat} {W : WX} {e : Expr} {a : IE}
theorem lnm_of {sc : Scope} {line : Nat} {t : Expr} {x : Str} (h : lnm sc line t = some x) : ∃ p, t = .Name x p ∧ sc.names.lookup x = some .local := by
  unfold lnm at h
  split at h
  · rename_i id pos
    split at h
    · rename_i q
      cases h
      rw [Bool.and_eq_true, beq_iff_eq] at q
      exact ⟨_, rfl, q.1⟩
    · cases h
  · cases h
theorem sw_ok {t v : Expr} {r : Option (List Str)} (hk : X.env.scope.kind = .function) (h : swOf X.env.scope [t] v = some r) : swappedStores [t] v X.env = pure r ∧
    ∀ names, r = some names → ∃ ts vs k2 p2, ((∃ kt pt, t = .Tuple ts kt pt) ∨ ∃ pt, t = .List ts pt) ∧ v = .Tuple vs k2 p2 ∧ vs.length = ts.length ∧ (ts.length = 2 ∨ ts.length = 3) ∧ ∃ line, names = ts.filterMap (lnm X.env.scope line) ∧ names.length = ts.length ∧ names.eraseDups.length = names.length := by
  have hb : X.env.blockKind = .function := by unfold Env.blockKind; rw [hk]; rfl
  have go : ∀ mm : Option (List Expr × List Expr), swCore X.env.scope mm = some r → (match mm with
      | some (ts, vs) =>
        if !(ts.length == 2 || ts.length == 3) || vs.length != ts.length || X.env.blockKind != ScopeKind.function then (pure none : Sem (Option (List Str)))
        else if vs.any isStar then pure none
        else
          let line := (ts.head?.map fun (t : Expr) => t.pos.line).getD 0
          let names := ts.filterMap (lnm X.env.scope line)
          if names.length != ts.length || names.eraseDups.length != names.length then pure none
          else if vs.all (foldedForSure 8) then pure none
          else if vs.all (constantsAlone 8) then do
            unsupported "assign.tuple-of-constant-expressions:order-of-the-stores"
            pure (some names)
          else pure (some names)
      | none => pure none) = pure r ∧ ∀ names, r = some names → ∃ ts vs, mm = some (ts, vs) ∧ vs.length = ts.length ∧ (ts.length = 2 ∨ ts.length = 3) ∧ ∃ line, names = ts.filterMap (lnm X.env.scope line) ∧ names.length = ts.length ∧ names.eraseDups.length = names.length := by
    intro mm h
    cases mm with
    | none => cases h; exact ⟨rfl, fun _ z => by cases z⟩
    | some p =>
      obtain ⟨ts, vs⟩ := p
      unfold swCore at h
      dsimp only at h ⊢
      rw [hb]
      rw [hk] at h
      split at h
      · rename_i q; rw [if_pos q]; cases h; exact ⟨rfl, fun _ z => by cases z⟩
      · rename_i q1
        rw [if_neg q1]
        split at h
        · rename_i q; rw [if_pos q]; cases h; exact ⟨rfl, fun _ z => by cases z⟩
        · rename_i q2
          rw [if_neg q2]
          split at h
          · rename_i q; rw [if_pos q]; cases h; exact ⟨rfl, fun _ z => by cases z⟩
          · rename_i q3
            rw [if_neg q3]
            split at h
            · rename_i q; rw [if_pos q]; cases h; exact ⟨rfl, fun _ z => by cases z⟩
            · rename_i q4
              rw [if_neg q4]
              split at h
              · cases h
              · rename_i q5
                rw [if_neg q5]
                cases h
                refine ⟨rfl, fun names z => ?_⟩
                cases z
                simp only [Bool.or_eq_true, Bool.not_eq_true', not_or, bne_iff_ne, ne_eq, Decidable.not_not, Bool.or_eq_false_iff, beq_eq_false_iff_ne] at q1 q3
                refine ⟨ts, vs, rfl, q1.1.2, ?_, _, rfl, q3.1, q3.2⟩
                have := q1.1.1
                omega
  unfold swOf at h
  obtain ⟨g1, g2⟩ := go _ h
  refine ⟨?_, fun names z => ?_⟩
  · rw [← g1]
    cases t with
    | Tuple ts kt pt => cases v <;> rfl
    | List ts pt => cases v <;> rfl
    | _ => rfl
  · obtain ⟨ts, vs, e1, e2⟩ := g2 names z
    unfold swPick at e1
    split at e1
    · rename_i q
      cases e1; exact ⟨_, _, _, _, .inl ⟨_, _, by injection q⟩, rfl, e2⟩
    · rename_i q
      cases e1; exact ⟨_, _, _, _, .inr ⟨_, by injection q⟩, rfl, e2⟩
    · cases e1
theorem fm2 {f : Expr → Option Str} {t1 t2 : Expr} (h : ([t1, t2].filterMap f).length = 2) : ∃ x y, f t1 = some x ∧ f t2 = some y ∧ [t1, t2].filterMap f = [x, y] := by
  cases e1 : f t1 with
  | none => cases e2 : f t2 <;> simp [List.filterMap_cons, e1, e2] at h
  | some x =>
    cases e2 : f t2 with
    | none => simp [List.filterMap_cons, e1, e2] at h
    | some y => exact ⟨x, y, rfl, rfl, by simp [List.filterMap_cons, e1, e2]⟩
theorem fm3 {f : Expr → Option Str} {t1 t2 t3 : Expr} (h : ([t1, t2, t3].filterMap f).length = 3) : ∃ x y z, f t1 = some x ∧ f t2 = some y ∧ f t3 = some z ∧ [t1, t2, t3].filterMap f = [x, y, z] := by
  cases e1 : f t1 with
  | none => cases e2 : f t2 <;> cases e3 : f t3 <;> simp [List.filterMap_cons, e1, e2, e3] at h
  | some x =>
    cases e2 : f t2 with
    | none => cases e3 : f t3 <;> simp [List.filterMap_cons, e1, e2, e3] at h
    | some y =>
      cases e3 : f t3 with
      | none => simp [List.filterMap_cons, e1, e2, e3] at h
      | some z => exact ⟨x, y, z, rfl, rfl, rfl, by simp [List.filterMap_cons, e1, e2, e3]⟩
theorem dup2 {x y : Str} (h : ([x, y].eraseDups).length = 2) : x ≠ y := by
  rintro rfl
  simp [List.eraseDups_cons] at h
theorem dup3 {x y z : Str} (h : ([x, y, z].eraseDups).length = 3) : x ≠ y ∧ x ≠ z ∧ y ≠ z := by
  refine ⟨?_, ?_, ?_⟩
  · rintro rfl
    by_cases q : z = x
    · subst q; simp [List.eraseDups_cons] at h
    · simp [List.eraseDups_cons, q] at h
  · rintro rfl
    by_cases q : y = x
    · subst q; simp [List.eraseDups_cons] at h
    · simp [List.eraseDups_cons, q] at h
  · rintro rfl
    by_cases q : y = x
    · subst q; simp [List.eraseDups_cons] at h
    · simp [List.eraseDups_cons, q] at h
theorem idx_ne {N : List Str} {x y : Str} {i j : Nat} (hi : idx x N = some i) (hj : idx y N = some j) (h : x ≠ y) : i ≠ j := by
  rintro rfl
  have a := idx_get hi
  rw [idx_get hj] at a
  exact h (Option.some.inj a).symm
theorem cT_name {n : Nat} {sc : Scope} {N st : List Str} {x : Str} {p : Pos} {t : ITg} (h : cT m n sc N st (.Name x p) = some t) : ∃ i, idx x N = some i ∧ t = .v i := by
  cases n with
  | zero => simp [cT] at h
  | succ n =>
    simp only [cT] at h
    split at h
    · rw [Option.map_eq_some_iff] at h
      obtain ⟨i, hi, rfl⟩ := h
      exact ⟨i, hi, rfl⟩
    · cases h
theorem cTs_cons {n : Nat} {sc : Scope} {N st : List Str} {e : Expr} {es : List Expr} {t : ITgs} (h : cTs m n sc N st (e :: es) = some t) : ∃ n' x xs, cT m n' sc N st e = some x ∧ cTs m n' sc N st es = some xs ∧ t = .cons x xs := by
  cases n with
  | zero => simp [cTs] at h
  | succ n =>
    simp only [cTs, bind, Option.bind_eq_some_iff] at h
    obtain ⟨x, hx, xs, hxs, h⟩ := h
    cases h
    exact ⟨n, x, xs, hx, hxs, rfl⟩
theorem cTs_nil {n : Nat} {sc : Scope} {N st : List Str} {t : ITgs} (h : cTs m n sc N st [] = some t) : t = .nil := by
  cases n with
  | zero => simp [cTs] at h
  | succ n => simp only [cTs] at h; cases h; rfl
/-- pairs of stores from the right -/
theorem ps_parE {n : Nat} {ts es : List Expr} {kt k2 : Nat} {pt p2 pos : Pos} {names : List Str} {t : ITgs} {as : IEs} (hc : X.calm = true) (hN : X.N.Nodup) (hsw : swOf X.env.scope [.Tuple ts kt pt] (.Tuple es k2 p2) = some (some names)) (hk : X.env.scope.kind = .function)
    (ht : cTs m n X.env.scope X.N (locs X.env.scope) ts = some t) (ha : PA X es (tAe X c W g as)) : PS X (.Assign [.Tuple ts kt pt] (.Tuple es k2 p2) pos) (tSe X c W g (.par t as)) := by
  obtain ⟨hw, more⟩ := sw_ok hk hsw
  obtain ⟨ts', es', k3, p3, e1, e2, l1, l2, line, en, ln, ld⟩ := more names rfl
  have e1 : ts' = ts := by
    rcases e1 with ⟨_, _, e1⟩ | ⟨_, e1⟩
    · injection e1 with e1; exact e1.symm
    · cases e1
  have e2 : es' = es := by injection e2 with e2; exact e2.symm
  subst e1 e2
  rcases l2 with l2 | l2
  · obtain ⟨t1, t2, rfl⟩ : ∃ t1 t2, ts' = [t1, t2] := by
      match ts', l2 with
      | [t1, t2], _ => exact ⟨t1, t2, rfl⟩
    obtain ⟨b1, b2, rfl⟩ : ∃ b1 b2, es' = [b1, b2] := by
      match es', l1 with
      | [t1, t2], _ => exact ⟨t1, t2, rfl⟩
    obtain ⟨x, y, f1, f2, f3⟩ := fm2 (by rw [← en]; exact ln)
    rw [f3] at en
    subst en
    obtain ⟨px, rfl, hx⟩ := lnm_of f1
    obtain ⟨py, rfl, hy⟩ := lnm_of f2
    obtain ⟨n1, x1, xs1, c1, c2, rfl⟩ := cTs_cons ht
    obtain ⟨n2, x2, xs2, c3, c4, rfl⟩ := cTs_cons c2
    obtain ⟨i, hi, rfl⟩ := cT_name c1
    obtain ⟨j, hj, rfl⟩ := cT_name c3
    cases cTs_nil c4
    refine ⟨fun pins s σ H E I q => (ps_par hc hN (idx_get hi) (idx_get hj) (idx_ne hi hj (dup2 ld)) hx hy ha hw rfl).run pins s σ H E I ?_⟩
    refine tG_mono (fun vs H1 q => ?_) (tS.step (m := RL.ds) (fun sg ds h => (asgTs g (.cons (.v i) (.cons (.v j) .nil)) ds sg h).then sg fun s1 h2 => .next s1 h2) q)
    obtain ⟨ρ, sg, h, ds, A, o⟩ := q
    have ra : RelDs X.K H1 h.length ρ ds vs := A.a
    cases ra with
    | nil => exact o.elim
    | cons r1 ra => cases ra with
      | nil => exact o.elim
      | cons r2 ra => cases ra with
        | nil => exact ⟨_, _, rfl, OutS.fin o A.o ((A.s.set r1).set r2)⟩
        | cons _ _ => exact o.elim
  · obtain ⟨t1, t2, t3, rfl⟩ : ∃ t1 t2 t3, ts' = [t1, t2, t3] := by
      match ts', l2 with
      | [t1, t2, t3], _ => exact ⟨t1, t2, t3, rfl⟩
    obtain ⟨b1, b2, b3, rfl⟩ : ∃ b1 b2 b3, es' = [b1, b2, b3] := by
      match es', l1 with
      | [t1, t2, t3], _ => exact ⟨t1, t2, t3, rfl⟩
    obtain ⟨x, y, z, f1, f2, f3, f4⟩ := fm3 (by rw [← en]; exact ln)
    rw [f4] at en
    subst en
    obtain ⟨px, rfl, hx⟩ := lnm_of f1
    obtain ⟨py, rfl, hy⟩ := lnm_of f2
    obtain ⟨pz, rfl, hz⟩ := lnm_of f3
    obtain ⟨n1, x1, xs1, c1, c2, rfl⟩ := cTs_cons ht
    obtain ⟨n2, x2, xs2, c3, c4, rfl⟩ := cTs_cons c2
    obtain ⟨n3, x3, xs3, c5, c6, rfl⟩ := cTs_cons c4
    obtain ⟨i, hi, rfl⟩ := cT_name c1
    obtain ⟨j, hj, rfl⟩ := cT_name c3
    obtain ⟨l, hl, rfl⟩ := cT_name c5
    cases cTs_nil c6
    obtain ⟨d1, d2, d3⟩ := dup3 ld
    refine ⟨fun pins s σ H E I q => (ps_par3 hc hN (idx_get hi) (idx_get hj) (idx_get hl) (idx_ne hi hj d1) (idx_ne hi hl d2) (idx_ne hj hl d3) hx hy hz ha hw rfl).run pins s σ H E I ?_⟩
    refine tG_mono (fun vs H1 q => ?_) (tS.step (m := RL.ds) (fun sg ds h => (asgTs g (.cons (.v i) (.cons (.v j) (.cons (.v l) .nil))) ds sg h).then sg fun s1 h2 => .next s1 h2) q)
    obtain ⟨ρ, sg, h, ds, A, o⟩ := q
    have ra : RelDs X.K H1 h.length ρ ds vs := A.a
    cases ra with
    | nil => exact o.elim
    | cons r1 ra => cases ra with
      | nil => exact o.elim
      | cons r2 ra => cases ra with
        | nil => exact o.elim
        | cons r3 ra => cases ra with
          | nil => exact ⟨_, _, _, rfl, OutS.fin o A.o (((A.s.set r1).set r2).set r3)⟩
          | cons _ _ => exact o.elim
/-- name = [.. for ..], a local's on one line -/
theorem ps_setLcE {n : Nat} {i : Nat} {y : Str} {py pos spos : Pos} {elt tg it : Expr} {ifs : List Expr} {scope : Scope} {ie : IE} (k : Okc X c m g j) (tk : Takes X W) (hy : X.N[i]? = some y) (hyl : X.env.scope.names.lookup y = some .local)
    (hsw : swapsWith (.ListComp elt [⟨tg, it, ifs, 0⟩] scope pos) (some (.Name y py)) spos.line X.env = pure true) (h : cE m (n + 1) X.env.scope X.N (.ListComp elt [⟨tg, it, ifs, 0⟩] scope pos) = some ie) :
    PS X (.Assign [.Name y py] (.ListComp elt [⟨tg, it, ifs, 0⟩] scope pos) spos) (tSe X c W g (.asg (.v i) ie.root)) := by
  obtain ⟨x, t, ii, fs, rfl, h1, h2, h3, h4, h5, h6⟩ := comp_parts (W := W) (snd_all c m g j n) k tk h
  refine ⟨fun pins s σ H E I q => (ps_setLc k.calm k.nodup hy hyl hsw h1 h2 h3 h4 h5 h6).run pins s σ H E I ?_⟩
  have q1 := tS.step (m := RL.d) (fun sg d h => (asgT g (.v i) d sg h).then sg fun s1 h2 => .next s1 h2) q
  have q2 : tEe X c W g (.comp ((owns X.N scope).map (·.2)) x t ii fs) σ H (fun x H1 => gName i x σ H1 E.nx) := by
    have q3 := tG_mono (Q' := fun x H1 => gName i x σ H1 E.nx) (fun x H1 q => by
      obtain ⟨ρ, sg, h, d, A, o⟩ := q
      exact OutS.fin o A.o (A.s.set A.a)) q1
    revert q3
    unfold IE.root
    split
    · exact fun q3 => tE.trim q3
    · exact id
  exact comp_t q2

/-! ### statements -/
structure SndS (c : Ct) (m : Nm) (g : G) (j n : Nat) : Prop where
  s : ∀ {X : Cx} {W : WX} {st : Stmt} {is : IS}, Okc X c m g j → Takes X W → PassesOwn (model X.prog X.w) X.A X.env X.xe → (∀ x, X.fn x = true) → cS m n X.env.scope X.N st = some is → PS X st (tSe X c W g is)
  ss : ∀ {X : Cx} {W : WX} {st : List Stmt} {is : ISs}, Okc X c m g j → Takes X W → PassesOwn (model X.prog X.w) X.A X.env X.xe → (∀ x, X.fn x = true) → cSs m n X.env.scope X.N st = some is → PSs X st (tSs X c W g is)
theorem idx_lt {x : Str} {N : List Str} {i : Nat} (h : idx x N = some i) : i < N.length := (List.getElem?_eq_some_iff.mp (idx_get h)).1
theorem st_all (fn : ∀ x, X.fn x = true) : StOk X (locs X.env.scope) (List.range X.N.length) := fun x _ => ⟨fun _ => .inl (fn x), fun i h => List.mem_range.mpr (idx_lt h)⟩
theorem asg_ok {n : Nat} {t v : Expr} {pos : Pos} {y : IE} {gt : ITg} (k : Okc X c m g j) (tk : Takes X W) (fn : ∀ x, X.fn x = true) (hw : swappedStores [t] v X.env = pure none) (hg : cT m n X.env.scope X.N (locs X.env.scope) t = some gt) (hy : cE m n X.env.scope X.N v = some y) :
    PS X (.Assign [t] v pos) (tSe X c W g (.asg gt y.root)) := by
  have S := snd_all c m g j n
  obtain ⟨t1, t2⟩ := S.t (W := W) (vs := List.range X.N.length) k tk (st_all fn) hg
  obtain ⟨e1, e2, e3⟩ := S.e (W := W) k tk hy
  have go : swapsWithSole [t] v pos.line X.env = pure false → PS X (.Assign [t] v pos) (tSe X c W g (.asg gt y.root)) := fun h => ps_asgE t1 h hw (pe_root e2) t2
  cases v with
  | ListComp elt gens scope p =>
    cases t with
    | Name x px =>
      have e : swapsWith (.ListComp elt gens scope p) (some (.Name x px)) pos.line X.env = pure (X.env.blockKind == .function && X.env.kindOf x == some .local && px.line == p.line && !(scope.names.any fun (n, k) => n == x && (k == .local || k == .cell))) := rfl
      cases q : (X.env.blockKind == .function && X.env.kindOf x == some .local && px.line == p.line && !(scope.names.any fun (n, k) => n == x && (k == .local || k == .cell))) with
      | false => exact go (e.trans (by rw [q]))
      | true =>
        rw [q] at e
        simp only [Bool.and_eq_true, beq_iff_eq] at q
        obtain ⟨i, hi, rfl⟩ := cT_name hg
        cases n with
        | zero => simp [cE] at hy
        | succ n =>
          match gens, hy, e with
          | [], hy, e => simp [cE] at hy
          | ⟨tg, it, ifs, as⟩ :: _ :: _, hy, e => simp [cE] at hy
          | [⟨tg, it, ifs, as⟩], hy, e =>
            cases as with
            | ofNat q' => cases q' with
              | zero => exact ps_setLcE k tk (idx_get hi) q.1.1.2 e hy
              | succ q =>
                have h : (none : Option IE) = some y := hy
                cases h
            | negSucc q =>
              have h : (none : Option IE) = some y := hy
              cases h
    | _ => exact go rfl
  | SetComp _ _ _ _ => cases n <;> simp [cE] at hy
  | DictComp _ _ _ _ _ => cases n <;> simp [cE] at hy
  | _ => exact go rfl
theorem drop_ok {v : Expr} {pos : Pos} {n : Nat} {N : List Str} {sc : Scope} {y : IE} (hn : ∀ elt gens scope p, v ≠ .ListComp elt gens scope p) (hy : cE m n sc N v = some y) : swapsWith v none pos.line X.env = pure false := by
  cases v with
  | ListComp elt gens scope p => exact absurd rfl (hn _ _ _ _)
  | SetComp _ _ _ _ => cases n <;> simp [cE] at hy
  | DictComp _ _ _ _ _ => cases n <;> simp [cE] at hy
  | _ => rfl
theorem sndS_zero : SndS c m g j 0 := ⟨fun _ _ _ _ h => by simp [cS] at h, fun _ _ _ _ h => by simp [cSs] at h⟩
section
variable {n : Nat} (S : SndS c m g j n)
include S
theorem sndS_ss {st : List Stmt} {is : ISs} (k : Okc X c m g j) (tk : Takes X W) (po : PassesOwn (model X.prog X.w) X.A X.env X.xe) (fn : ∀ x, X.fn x = true) (h : cSs m (n + 1) X.env.scope X.N st = some is) : PSs X st (tSs X c W g is) := by
  match st, h with
  | [], h => simp only [cSs] at h; cases h; exact pss_nilE
  | e :: r, h =>
    simp only [cSs, bind, Option.bind_eq_some_iff] at h
    obtain ⟨x, hx, xs, hxs, h⟩ := h
    cases h
    exact pss_consE (S.s k tk po fn hx) (S.ss k tk po fn hxs)
theorem sndS_s {st : Stmt} {is : IS} (k : Okc X c m g j) (tk : Takes X W) (po : PassesOwn (model X.prog X.w) X.A X.env X.xe) (fn : ∀ x, X.fn x = true) (h : cS m (n + 1) X.env.scope X.N st = some is) : PS X st (tSe X c W g is) := by
  have Z := snd_all c m g j n
  unfold cS at h
  split at h
  · cases h; exact ps_nextE ps_doc
  · rename_i e p q
    split at h
    · cases h
    · rename_i nl
      rw [Option.map_eq_some_iff] at h
      obtain ⟨y, hy, rfl⟩ := h
      exact ps_exprE (drop_ok nl hy) (pe_root (Z.e k tk hy).2.1)
  · rename_i t v p
    split at h
    · cases h
    · rename_i hw
      simp only [bind, Option.bind_eq_some_iff] at h
      obtain ⟨gt, hg, y, hy, h⟩ := h
      cases h
      exact asg_ok k tk fn (sw_ok k.kind hw).1 hg hy
    · rename_i hw
      split at h
      · simp only [bind, Option.bind_eq_some_iff] at h
        obtain ⟨gt, hg, y, hy, h⟩ := h
        cases h
        exact ps_parE k.calm k.nodup hw k.kind hg (Z.es k tk hy).1
      · cases h
  · split at h
    · rename_i q
      simp only [bind, Option.bind_eq_some_iff] at h
      obtain ⟨o, ho, i, hi, y, hy, h⟩ := h
      cases h
      exact ps_augE ho k.nodup (idx_get hi) (loc_of rfl q) (.inl (fn _)) (pe_root (Z.e k tk hy).2.1)
    · cases h
  · split at h
    · cases h
    · simp only [bind, Option.bind_eq_some_iff] at h
      obtain ⟨o, ho, f, hf, y, hy, z, hz, h⟩ := h
      cases h
      exact ps_augAttrE ho k.ct (k.fld _ _ hf) k.hF (Z.e k tk hy).2.1 (pe_root (Z.e k tk hz).2.1)
  · split at h
    · rename_i q
      simp only [bind, Option.bind_eq_some_iff] at h
      obtain ⟨o, ho, y, hy, kk, hk, z, hz, h⟩ := h
      cases h
      exact ps_augSubE ho q (Z.e k tk hy).2.1 (Z.e k tk hk).2.1 (pe_root (Z.e k tk hz).2.1)
    · cases h
  · simp only [bind, Option.bind_eq_some_iff] at h
    obtain ⟨x, hx, y, hy, z, hz, h⟩ := h
    cases h
    exact ps_iteE (pt_root (Z.e k tk hx).2.2) (S.ss k tk po fn hy) (S.ss k tk po fn hz)
  · simp only [bind, Option.bind_eq_some_iff] at h
    obtain ⟨x, hx, y, hy, h⟩ := h
    cases h
    exact ps_whE po (pt_root (Z.e k tk hx).2.2) (S.ss k tk po fn hy)
  · split at h
    · rename_i q
      simp only [bind, Option.bind_eq_some_iff] at h
      obtain ⟨i, hi, gt, hg, y, hy, h⟩ := h
      cases h
      exact ps_forE po k.calm (noSet_of q) (Z.i k tk hi) (Z.t (vs := List.range X.N.length) k tk (st_all fn) hg).2 (S.ss k tk po fn hy)
    · cases h
  · rw [Option.map_eq_some_iff] at h
    obtain ⟨y, hy, rfl⟩ := h
    exact ps_retE (pe_root (Z.e k tk hy).2.1)
  · cases h; exact ps_retNE
  · cases h; exact ps_brkE
  · cases h; exact ps_contE
  · cases h; exact ps_nextE ps_pass
  · cases h; exact ps_neverE
  · cases h
end
theorem sndS_all (c : Ct) (m : Nm) (g : G) (j : Nat) : ∀ n, SndS c m g j n
  | 0 => sndS_zero
  | n + 1 => ⟨fun k tk po fn h => sndS_s (sndS_all c m g j n) k tk po fn h, fun k tk po fn h => sndS_ss (sndS_all c m g j n) k tk po fn h⟩
end
end Pv

/-! N: the defs of a text are what the evaluator says. -/
namespace Pv
open PySem L2 PySem.Spec PyProof.Rows

/-- a def as it lies in the text and in the written part -/
def DefW (K : PySem.W.Frag) (m : Nm) (a : Addr) (fd : FD) (fdd : FuncData) (np : List Str) : Prop :=
  ∃ (nm qual : Str) (params : Arguments) (body : List Stmt) (scope : Scope) (dV kV doc pm cdv ct oc : Value) (an od : Option Addr) (osl : Array (Option Value)) (N : List Str) (n : Nat),
    fdd = PySem.W.fnOf nm qual params body scope dV kV doc pm an cdv ct ∧ K.lookup a = some ⟨oc, od, .func (PySem.W.fnOf nm qual params body scope dV kV doc pm an cdv ct), osl⟩ ∧ PySem.W.codeIn K cdv qual = true ∧ FnScope N np scope ∧ Binds K (PySem.W.fnOf nm qual params body scope dV kV doc pm an cdv ct) np [] ∧
      fd.np = np.length ∧ fd.ns = N.length ∧ cSs m n scope N body = some fd.body
structure DefOk (K : PySem.W.Frag) (m : Nm) (a : Addr) (fd : FD) : Prop where
  keep : PySem.W.keepIn K (.ref a) = true
  ex : ∃ fdd np, DefW K m a fd fdd np
/-- the text: its tables and where its parts lie -/
structure TabOk (K : PySem.W.Frag) (mg : Str → Option Value) (c : Ct) (m : Nm) (p : Prg) (adr : Nat → Addr) : Prop where
  def_ : ∀ i fd, p.fns[i]? = some fd → DefOk K m (adr i) fd
  ct : CtOk K c
  hF : ∀ (ci f : Nat), c.fok ci f = (match p.cls[ci]? with
    | some x => x.2.2.contains f
    | none => false)
  bnd : ∀ x, bltNames.contains x = true → m.bnd.contains x = false → mg x = none
  con : ∀ x q, m.con.lookup x = some q → ∃ u v, mg x = some u ∧ RelV v u ∧ ∀ H, RelP K H q v
  fns : ∀ x f, idx x m.fns = some f → mg x = some (.ref (adr f)) ∧ ∃ fd, p.fns[f]? = some fd
  cls : ∀ x ci, idx x m.cls = some ci → ∃ C fi l, p.cls[ci]? = some (some fi, l) ∧ mg x = some (.ref C) ∧ c.cls ci = some C ∧ Mk K C (adr fi) ∧ ∃ fd, p.fns[fi]? = some fd
  met : ∀ (ci : Nat) (x : Option Nat × List (Nat × Nat) × List Nat) (mi f : Nat) (C : Addr) (z : Str), p.cls[ci]? = some x → x.2.1.lookup mi = some f → c.cls ci = some C → idx z m.nms = some mi → x.2.2.contains mi = false ∧ Meth K C z (adr f) ∧ ∃ fd, p.fns[f]? = some fd
  no1000 : ∀ (ci : Nat) (x : Option Nat × List (Nat × Nat) × List Nat), p.cls[ci]? = some x → x.2.1.lookup 1000 = none
  fld : ∀ z f, idx z m.nms = some f → c.fld f = some z
section
variable {P : Program} {w : World} {K : PySem.W.Frag} {mg : Str → Option Value} {base : Heap} {c : Ct} {m : Nm} {p : Prg} {adr : Nat → Addr} {F : Nat}
abbrev T_ (P : Program) (w : World) (K : PySem.W.Frag) (c : Ct) : Tb := ⟨P, w, K, c.cls, c.fld, c.fok⟩
theorem relS_start {H : Hp} {n ns : Nat} {ρ : Nat → Addr} {ds : List D} {vs : List V} {N : List Str} (hn : ns = N.length) (r : RelDs K H n ρ ds vs) : RelS K H n ρ (startD ns ds) (L2.start N vs) := by
  refine ⟨by unfold startD L2.start; rw [hn, List.length_append, List.length_append, List.length_map, List.length_map, List.length_replicate, List.length_replicate, r.length], fun i d h => ?_⟩
  unfold startD at h
  unfold L2.start
  by_cases l : i < ds.length
  · rw [List.getElem?_append_left (by rw [List.length_map]; exact l), List.getElem?_map, Option.map_eq_some_iff] at h
    obtain ⟨d', h, e⟩ := h
    cases e
    obtain ⟨v, e1, r1⟩ := r.get h
    exact ⟨v, by rw [List.getElem?_append_left (by rw [List.length_map, ← r.length]; exact l), List.getElem?_map, e1]; rfl, r1⟩
  · rw [List.getElem?_append_right (by rw [List.length_map]; omega), List.getElem?_replicate] at h
    split at h <;> cases h
/-- a def's contract at a level -/
def At_ (P : Program) (w : World) (K : PySem.W.Frag) (mg : Str → Option Value) (base : Heap) (c : Ct) (m : Nm) (p : Prg) (F k : Nat) (a : Addr) (i : Nat) : Prop :=
  ∀ (f : FD) (fd : FuncData) (np : List Str), p.fns[i]? = some f → DefW K m a f fd np → (∀ ds h, ds.length ≠ np.length → callN p F k i ds h = .stuck) ∧ Binds K fd np [] ∧ FnG P w K mg base (L2.CX P w) k a fd np (spG (T_ P w K c) np.length (callN p F k i))
theorem At_.none {k : Nat} {a : Addr} {i : Nat} (hk : ∀ ds h, callN p F k i ds h = .stuck) : At_ P w K mg base c m p F k a i := by
  rintro f fd np hi ⟨nm, qual, params, body, scope, dV, kV, doc, pm, cdv, ct, oc, an, od, osl, N, n, rfl, at_, code, S, bind, e1, e2, e3⟩
  refine ⟨fun ds h _ => hk ds h, bind, fun vs H Q E h => h.1, fun A around s H given us vs Q E room bare e0 b r h => ?_⟩
  obtain ⟨_, ρ, hh, ds, _, _, o⟩ := h
  rw [hk] at o
  exact o.elim
theorem fnAt_of {X : Cx} {k : Nat} {a : Addr} {i : Nat} {fd : FD} (hP : X.prog = P) (hw : X.w = w) (hK : X.K = K) (hm : X.mg = mg) (hb : X.base = base) (hi : p.fns[i]? = some fd) (d : DefOk K m a fd) (h : At_ P w K mg base c m p F k a i) : FnAt X c k a (callN p F k i) := by
  subst hP hw hK hm hb
  obtain ⟨fdd, np, D⟩ := d.ex
  obtain ⟨h1, h2, h3⟩ := h fd fdd np hi D
  exact ⟨d.keep, fdd, np, h1, h2, h3⟩
theorem at_step (tab : TabOk K mg c m p adr) {j : Nat} (ih1 : ∀ i, At_ P w K mg base c m p F (j + 1) (adr i) i) (ih0 : ∀ i, At_ P w K mg base c m p F j (adr i) i) (i : Nat) : At_ P w K mg base c m p F (j + 2) (adr i) i := by
  rintro fd fdd np hi ⟨nm, qual, params, body, scope, dV, kV, doc, pm, cdv, ct, oc, an, od, osl, N, n, rfl, at_, code, S, bind, e1, e2, e3⟩
  have stuck : ∀ ds h, ds.length ≠ np.length → callN p F (j + 2) i ds h = .stuck := fun ds h q => by
    simp only [callN, hi]
    rw [if_neg (by rw [e1]; exact q)]
  refine ⟨stuck, bind, FnG.of at_ code S (fun vs H Q E h => h.1) fun A around s H vs Q E room bare h => ?_⟩
  obtain ⟨len, ρ, hh, ds, R0, rd, o⟩ := h
  have o : Out (T_ P w K c) RL.d (fun cls d _ H' => E cls d H') hh.length ρ H [] Q (backR hh (evSs (gOf p F (callN p F (j + 1)) (callN p F j)) fd.body (startD fd.ns ds) hh)) := by
    simp only [callN, hi] at o
    rw [if_pos (by rw [e1, ← len]; exact rd.length)] at o
    exact o
  have X0 := cxOf (L2.CX P w) P w K mg base N qual scope (adr i) cdv A around s H E
  have k : Okc (cxOf (L2.CX P w) P w K mg base N qual scope (adr i) cdv A around s H E) c m (gOf p F (callN p F (j + 1)) (callN p F j)) j := {
    ct := tab.ct
    hF := funext fun ci => funext fun f => (tab.hF ci f).symm
    calm := rfl
    nodup := S.nd
    kind := S.kind
    room := room
    bare := bare
    bnd := tab.bnd
    con := tab.con
    fns := fun x f e => by
      obtain ⟨h1, fd', h2⟩ := tab.fns x f e
      exact ⟨adr f, h1, fnAt_of rfl rfl rfl rfl rfl h2 (tab.def_ f fd' h2) (ih1 f)⟩
    cls := fun x ci e => by
      obtain ⟨C, fi, l, h1, h2, h3, h4, fd', h5⟩ := tab.cls x ci e
      refine ⟨C, adr fi, fi, h2, h3, ?_, h4, fnAt_of rfl rfl rfl rfl rfl h5 (tab.def_ fi fd' h5) (ih0 fi)⟩
      show (p.cls[ci]?).bind (·.1) = some fi
      rw [h1]
      rfl
    met := fun z mi e ci f C hm hC => by
      have hm : ((p.cls[ci]?).bind fun x => x.2.1.lookup mi) = some f := hm
      cases q : p.cls[ci]? with
      | none => rw [q] at hm; cases hm
      | some x =>
        rw [q] at hm
        obtain ⟨h1, h2, fd', h3⟩ := tab.met ci x mi f C z q hm hC e
        refine ⟨?_, adr f, h2, fnAt_of rfl rfl rfl rfl rfl h3 (tab.def_ f fd' h3) (ih1 f)⟩
        rw [tab.hF]
        show (match p.cls[ci]? with
          | some x => x.2.2.contains mi
          | none => false) = false
        rw [q]
        exact h1
    no1000 := fun ci => by
      show ((p.cls[ci]?).bind fun x => x.2.1.lookup 1000) = none
      cases q : p.cls[ci]? with
      | none => rfl
      | some x => exact tab.no1000 ci x q
    fld := tab.fld }
  have tk : Takes (cxOf (L2.CX P w) P w K mg base N qual scope (adr i) cdv A around s H E) (fun cls d _ H' => E cls d H') := takes_of rfl rfl rfl rfl
  have po : PassesOwn (model P w) (cxOf (L2.CX P w) P w K mg base N qual scope (adr i) cdv A around s H E).A (cxOf (L2.CX P w) P w K mg base N qual scope (adr i) cdv A around s H E).env (cxOf (L2.CX P w) P w K mg base N qual scope (adr i) cdv A around s H E).xe := passes_of rfl
  refine ⟨_, (sndS_all c m _ j n).ss k tk po (fun _ => rfl) e3, ρ, startD fd.ns ds, hh, (), ⟨relS_start e2 rd, R0, True.intro⟩, ?_⟩
  show OutS (T_ P w K c) (fun cls d _ H' => E cls d H') hh.length ρ H { nx := fun _ H' => Q .non H', rt := Q } (evSs (gOf p F (callN p F (j + 1)) (callN p F j)) fd.body (startD fd.ns ds) hh)
  cases q : evSs (gOf p F (callN p F (j + 1)) (callN p F j)) fd.body (startD fd.ns ds) hh with
  | stuck => rw [q] at o; exact o
  | brk sg h' => rw [q] at o; exact o.elim
  | cont sg h' => rw [q] at o; exact o.elim
  | exc x sg h' =>
    rw [q] at o
    exact fun ρ' σ' cc d H' l1 e1 k1 R1 _ r1 => o ρ' cc d H' l1 e1 k1 R1 r1
  | ret d h' =>
    rw [q] at o
    exact fun ρ' v H' l1 e1 k1 R1 r1 => (show Out (T_ P w K c) RL.d (fun cls d _ H' => E cls d H') hh.length ρ H [] Q (.ok d h') from Out.trim R0 o) ρ' v H' l1 e1 k1 R1 r1
  | next sg h' =>
    rw [q] at o
    exact fun ρ' σ' H' l1 e1 k1 R1 _ => (show Out (T_ P w K c) RL.d (fun cls d _ H' => E cls d H') hh.length ρ H [] Q (.ok (.p .non) h') from Out.trim R0 o) ρ' .non H' l1 e1 k1 R1 (.p .non)
theorem at_all (tab : TabOk K mg c m p adr) : ∀ k, (∀ i, At_ P w K mg base c m p F k (adr i) i) ∧ ∀ i, At_ P w K mg base c m p F (k + 1) (adr i) i
  | 0 => ⟨fun i => At_.none (fun _ _ => rfl), fun i => At_.none (fun _ _ => rfl)⟩
  | k + 1 => ⟨(at_all tab k).2, fun i => at_step tab (at_all tab k).2 (at_all tab k).1 i⟩
end
end Pv

/-! O: a text's tables, a law's end. -/
namespace Pv
open PySem L2 PySem.Spec PyProof.Rows

theorem scB_ok {N ps : List Str} {sc : Scope} (h : scB N ps sc = true) : FnScope N ps sc := by
  unfold scB at h
  simp only [Bool.and_eq_true, Bool.not_eq_true', decide_eq_true_eq, List.all_eq_true] at h
  obtain ⟨⟨⟨⟨⟨⟨h1, h2⟩, h3⟩, h4⟩, h5⟩, h6⟩, h7⟩ := h
  refine ⟨?_, h2, h3, h4, h5, fun x hx => ?_, fun y hy e => ?_⟩
  · split at h1
    · assumption
    · cases h1
  · have := h6 x hx
    unfold isLoc at this
    split at this
    · exact .inl ‹_›
    · exact .inr ‹_›
    · cases this
  · have := h7 y hy
    rw [e] at this
    cases this
theorem defOk_mk {K : PySem.W.Frag} {m : Nm} {a : Addr} {fd : FD} {x qual : Str} {st : Stmt} {N ps : List Str} {fdd : FuncData} (F : L2.Fun K x qual st a fdd) (b : Binds K fdd ps []) (ok : cF m N ps st = some fd) : DefOk K m a fd := by
  obtain ⟨oc, od, kV, doc, pm, an, cdv, ct, osl, rfl, lk, hcd⟩ := F.ex
  unfold cF at ok
  split at ok
  · split at ok
    · rename_i q
      simp only [Bool.and_eq_true] at q
      rw [Option.map_eq_some_iff] at ok
      obtain ⟨b', hb, rfl⟩ := ok
      exact ⟨F.kp, _, ps, _, _, _, _, _, _, _, _, _, _, _, _, _, _, _, N, 400, rfl, lk, hcd, scB_ok q.2, b, rfl, rfl, hb⟩
    · cases ok
  · cases ok
def All_ {α : Type} (P : α → Prop) : List α → Prop
  | [] => True
  | x :: xs => P x ∧ All_ P xs
theorem All_.mem {α : Type} {P : α → Prop} : ∀ {l : List α}, All_ P l → ∀ x ∈ l, P x
  | [], _, x, hx => by cases hx
  | y :: ys, h, x, hx => by
    rcases List.mem_cons.mp hx with rfl | hx
    · exact h.1
    · exact All_.mem h.2 x hx
/-- two lists, place by place -/
def Each {α β : Type} (P : α → β → Prop) : List α → List β → Prop
  | [], [] => True
  | x :: xs, y :: ys => P x y ∧ Each P xs ys
  | [], _ :: _ => False
  | _ :: _, [] => False
theorem Each.at_ {α β : Type} {P : α → β → Prop} : ∀ {xs : List α} {ys : List β}, Each P xs ys → ∀ {i : Nat} {y : β}, ys[i]? = some y → ∃ x, xs[i]? = some x ∧ P x y
  | [], [], _, i, y, e => by cases e
  | x :: xs, y' :: ys, h, 0, y, e => by cases e; exact ⟨x, rfl, h.1⟩
  | x :: xs, y' :: ys, h, i + 1, y, e => by
    rw [List.getElem?_cons_succ] at e ⊢
    exact Each.at_ h.2 e
  | [], _ :: _, h, _, _, _ => h.elim
  | _ :: _, [], h, _, _, _ => h.elim
theorem Each.at' {α β : Type} {P : α → β → Prop} : ∀ {xs : List α} {ys : List β}, Each P xs ys → ∀ {i : Nat} {x : α}, xs[i]? = some x → ∃ y, ys[i]? = some y ∧ P x y
  | [], [], _, i, y, e => by cases e
  | x' :: xs, y :: ys, h, 0, x, e => by cases e; exact ⟨y, rfl, h.1⟩
  | x' :: xs, y :: ys, h, i + 1, x, e => by
    rw [List.getElem?_cons_succ] at e ⊢
    exact Each.at' h.2 e
  | [], _ :: _, h, _, _, _ => h.elim
  | _ :: _, [], h, _, _, _ => h.elim
theorem Each.n {α β : Type} {P : α → β → Prop} : Each P [] [] := trivial
theorem Each.c {α β : Type} {P : α → β → Prop} {x : α} {y : β} {xs : List α} {ys : List β} (h : P x y) (t : Each P xs ys) : Each P (x :: xs) (y :: ys) := ⟨h, t⟩
theorem All_.n {α : Type} {P : α → Prop} : All_ P [] := trivial
theorem All_.c {α : Type} {P : α → Prop} {x : α} {xs : List α} (h : P x) (t : All_ P xs) : All_ P (x :: xs) := ⟨h, t⟩
abbrev Row := Option Nat × List (Nat × Nat) × List Nat
abbrev adrOf (as : List Addr) (i : Nat) : Addr := as.getD i 0
def fokOf (p : Prg) (ci f : Nat) : Bool := match p.cls[ci]? with
  | some x => x.2.2.contains f
  | none => false
abbrev ctOf (m : Nm) (p : Prg) (Cs : List Addr) : Ct := ⟨fun ci => Cs[ci]?, fun f => m.nms[f]?, fokOf p⟩
/-- a class as it stands behind the top -/
structure ClsAt (K : PySem.W.Frag) (m : Nm) (p : Prg) (as : List Addr) (C : Addr) (row : Row) : Prop where
  cl : Cls K C
  init : ∃ fi, row.1 = some fi ∧ Mk K C (adrOf as fi) ∧ fi < p.fns.length
  meth : All_ (fun q : Nat × Nat => ∃ z, m.nms[q.1]? = some z ∧ row.2.2.contains q.1 = false ∧ Meth K C z (adrOf as q.2) ∧ q.2 < p.fns.length) row.2.1
  attr : All_ (fun f : Nat => ∃ z, m.nms[f]? = some z ∧ NoAttr K C z) row.2.2
theorem lookup_mem {α β : Type} [BEq α] [LawfulBEq α] : ∀ {l : List (α × β)} {a : α} {b : β}, l.lookup a = some b → (a, b) ∈ l
  | [], _, _, h => by cases h
  | (x, y) :: r, a, b, h => by
    rw [List.lookup] at h
    split at h
    · rename_i q
      cases h
      rw [eq_of_beq q]
      exact List.mem_cons_self
    · exact List.mem_cons_of_mem _ (lookup_mem h)
theorem tab_mk {K : PySem.W.Frag} {mg : Str → Option Value} {m : Nm} {p : Prg} {as Cs : List Addr} (nd : m.nms.Nodup) (few : m.nms.length ≤ 1000) (defs : Each (DefOk K m) as p.fns)
    (fns : Each (fun (x : Str) (a : Addr) => mg x = some (.ref a)) m.fns (as.take m.fns.length)) (cls : Each (ClsAt K m p as) Cs p.cls) (cln : Each (fun (x : Str) (C : Addr) => mg x = some (.ref C)) m.cls Cs)
    (bnd : All_ (fun x => m.bnd.contains x = true ∨ mg x = none) bltNames) (con : All_ (fun q : Str × P => ∃ u v, mg q.1 = some u ∧ RelV v u ∧ ∀ H, RelP K H q.2 v) m.con) : TabOk K mg (ctOf m p Cs) m p (adrOf as) where
  def_ := fun i fd h => by
    obtain ⟨a, e, d⟩ := defs.at_ h
    have : adrOf as i = a := by unfold adrOf; rw [List.getD_eq_getElem?_getD, e]; rfl
    rw [this]
    exact d
  ct := ⟨fun i C e => by
      obtain ⟨row, _, r⟩ := cls.at' (show Cs[i]? = some C from e)
      exact r.cl, fun i C f x e1 e2 e3 => by
      obtain ⟨row, er, r⟩ := cls.at' (show Cs[i]? = some C from e1)
      have e3 : fokOf p i f = true := e3
      unfold fokOf at e3
      rw [er] at e3
      obtain ⟨z, ez, na⟩ := r.attr.mem f (by simpa using e3)
      rw [show m.nms[f]? = some x from e2] at ez
      cases ez
      exact na, fun f h x e1 e2 => by
      have e1 : m.nms[f]? = some x := e1
      have e2 : m.nms[h]? = some x := e2
      obtain ⟨l1, g1⟩ := List.getElem?_eq_some_iff.mp e1
      obtain ⟨l2, g2⟩ := List.getElem?_eq_some_iff.mp e2
      have pw := List.pairwise_iff_getElem.mp nd
      rcases Nat.lt_trichotomy f h with q | q | q
      · exact absurd (g1.trans g2.symm) (pw f h l1 l2 q)
      · exact q
      · exact absurd (g2.trans g1.symm) (pw h f l2 l1 q)⟩
  hF := fun ci f => rfl
  bnd := fun x h1 h2 => by
    rcases bnd.mem x (by simpa using h1) with q | q
    · rw [q] at h2; cases h2
    · exact q
  con := fun x q h => con.mem (x, q) (lookup_mem h)
  fns := fun x f h => by
    obtain ⟨a, e, q⟩ := fns.at' (idx_get h)
    have hl : f < m.fns.length := idx_lt h
    rw [List.getElem?_take_of_lt hl] at e
    have : adrOf as f = a := by unfold adrOf; rw [List.getD_eq_getElem?_getD, e]; rfl
    rw [this]
    obtain ⟨fd, h2, _⟩ := defs.at' e
    exact ⟨q, fd, h2⟩
  cls := fun x ci h => by
    obtain ⟨C, e, q⟩ := cln.at' (idx_get h)
    obtain ⟨row, er, r⟩ := cls.at' e
    obtain ⟨fi, e1, e2, e3⟩ := r.init
    obtain ⟨r1, r2⟩ := row
    cases e1
    exact ⟨C, fi, r2, er, q, e, e2, _, List.getElem?_eq_getElem e3⟩
  met := fun ci x mi f C z e1 e2 e3 e4 => by
    obtain ⟨row, er, r⟩ := cls.at' (show Cs[ci]? = some C from e3)
    rw [e1] at er
    cases er
    obtain ⟨z', ez, h1, h2, h3⟩ := r.meth.mem (mi, f) (lookup_mem e2)
    rw [idx_get e4] at ez
    cases ez
    exact ⟨h1, h2, _, List.getElem?_eq_getElem h3⟩
  no1000 := fun ci x e => by
    obtain ⟨C, eC, r⟩ := cls.at_ e
    cases q : x.2.1.lookup 1000 with
    | none => rfl
    | some f =>
      obtain ⟨z, ez, _⟩ := r.meth.mem (1000, f) (lookup_mem q)
      obtain ⟨l1, _⟩ := List.getElem?_eq_some_iff.mp ez
      exact absurd l1 (by show ¬ (1000 < m.nms.length); omega)
  fld := fun z f h => idx_get h

/-! ### a law's end -/
/-- a list of ints is handed in, nothing else is tracked; True comes out -/
def spLaw (K : PySem.W.Frag) : Sp := fun vs H Q _ => ∃ (a : Addr) (ns : List Int), vs = [.ref a] ∧ SqL K H a (ns.map V.int) ∧ ns.length ≤ 63 ∧ Only H ∧ ∀ H', Q (.bl true) H'
theorem FnG.weak {P : Program} {w : World} {K : PySem.W.Frag} {mg : Str → Option Value} {base : Heap} {CX : CXT} {k : Nat} {f : Addr} {fd : FuncData} {np : List Str} {sp sp' : Sp} (h : ∀ vs H Q E, sp' vs H Q E → sp vs H Q E) (F : FnG P w K mg base CX k f fd np sp) : FnG P w K mg base CX k f fd np sp' :=
  ⟨fun vs H Q E q => F.many vs H Q E (h _ _ _ _ q), fun A around s H given us vs Q E room bare e0 b r q => F.go A around s H given us vs Q E room bare e0 b r (h _ _ _ _ q)⟩
theorem ints_rel {K : PySem.W.Frag} {H : Hp} : ∀ ns : List Int, RelPs K H (ns.map .int) (ns.map V.int)
  | [] => .nil
  | n :: ns => .cons (.int n) (ints_rel ns)
theorem law_sp {P : Program} {w : World} {K : PySem.W.Frag} {c : Ct} {p : Prg} {F k i : Nat} (law : ∀ ns : List Int, ns.length ≤ 63 → ∃ h', callN p F k i [.r 0] [.ro (ns.map .int)] = .ok (.p (.bl true)) h') :
    ∀ vs H Q E, spLaw K vs H Q E → spG (T_ P w K c) 1 (callN p F k i) vs H Q E := by
  rintro vs H Q E ⟨a, ns, rfl, sq, hl, only, q⟩
  refine ⟨rfl, fun _ => a, [.ro (ns.map .int)], [.r 0], ⟨fun j o e => ?_, fun j l o o' e e' ne m m' => ?_⟩, .cons (.r (by show 0 < 1; decide)) .nil, ?_⟩
  · cases j with
    | zero =>
      cases e
      refine ⟨ns.map V.int, SqR.of sq fun ys z => ?_, ints_rel ns⟩
      rcases only a with n | ⟨_, _, n⟩ <;> (rw [n] at z; cases z)
    | succ j => cases e
  · cases j with
    | zero => cases e; cases m
    | succ j => cases e
  · obtain ⟨h', e⟩ := law ns hl
    rw [e]
    intro ρ' b H' _ _ _ _ r
    cases r with | p r => cases r with | bl _ => exact q H'
/-- THE END: the law's value at every script, told in plain Lean, is enough -/
theorem pv_walk {l : PySem.W.OpenLaw} {q : Program} {loose : List Str} {XP : (Str → Option Value) → Heap → Prop} {YP : World → Heap → Prop} {d : DefRec} {K : Params → PySem.W.Frag} {m : Nm} {p : Prg} {F k i : Nat} {f : FD}
    (most : l.most = some 63) (nodef : d.params.defaults = []) (room : Room (k + 1) callerA) (kin : ∀ (w : World) (h : Heap), YP w h → (K w.params).In h) (hi : p.fns[i]? = some f) (h1 : f.np = 1)
    (tab : ∀ (w : World) (mg : Str → Option Value) (fa : Addr) (h : Heap), (K w.params).In h → h.Ns mainGlobals mg → mg d.name = some (.ref fa) → ∃ (c : Ct) (adr : Nat → Addr), adr i = fa ∧ TabOk (K w.params) mg c m p adr)
    (law : ∀ ns : List Int, ns.length ≤ 63 → ∃ h', callN p F (k + 1) i [.r 0] [.ro (ns.map .int)] = .ok (.p (.bl true)) h') : PySem.W.WalkO q loose XP YP l.row.toRowW d [] (fun f vs => PySem.call f vs) := by
  refine law_walk (n := 63) (k := k + 1) (CX := fun w => L2.CX l.prog w) (sp := fun w => spLaw (K w.params)) most (by decide) nodef room kin (fun w mg fa h hK G hm => ?_) (fun w H a ns hl only sq => ⟨a, ns, rfl, sq, hl, only, fun _ => rfl⟩) fun w H s e s' z => ?_
  · obtain ⟨c, adr, rfl, T⟩ := tab w mg fa h hK G hm
    have np1 : ∀ np : List Str, f.np = np.length → ∃ x, np = [x] := fun np e => by
      rw [h1] at e
      match np, e with
      | [x], _ => exact ⟨x, rfl⟩
    obtain ⟨fdd, np, D⟩ := (T.def_ i f hi).ex
    have D0 := D
    obtain ⟨nm, qual, params, body, scope, dV, kV, doc, pm, cdv, ct, oc, an, od, osl, N, n, e0, at_, code, S, bind, e1, e2, e3⟩ := D0
    obtain ⟨x, rfl⟩ := np1 np e1
    refine ⟨fdd, x, fun s u hs => ?_, fun base hb G' => ?_⟩
    · have := bind s [u] hs rfl
      rw [e0]
      exact this
    · exact FnG.weak (law_sp law) ((at_all (P := l.prog) (w := w) (base := base) (F := F) T (k + 1)).1 i f fdd [x] hi D).2.2
  · obtain ⟨_, _, _, _, _, _, _, _, _, _, _, _, z⟩ := z
    exact z
end Pv

/-! P: what every law draws its input with. -/
namespace Pv
open PySem L2

def bagF : FD := ⟨1, 2, (.cons (.ret (.trim (.lst (.cons (.c (.int 0)) (.cons (.c (.int 1234567891)) (.cons (.c (.int 0)) (.cons (.comp [1] (.blt .abs (.cons (.v 1) .nil)) (.v 1) (.of (.slc (.v 0) .none (.some (.c (.int 63))))) .nil) .nil))))))) .nil)⟩
def takeF : FD := ⟨2, 7, (.cons (.ite (.cmp .eq (.sub (.v 0) (.c (.int 0))) (.c (.int 0))) (.cons (.asg (.v 4) (.trim (.sub (.bin .add (.slc (.sub (.v 0) (.c (.int 3))) (.some (.sub (.v 0) (.c (.int 2)))) .none) (.lst (.cons (.c (.int 0)) .nil))) (.c (.int 0))))) (.cons (.augSub (.v 0) (.c (.int 2)) .add (.c (.int 1))) (.cons (.ite (.cmp .ge (.v 4) (.bin .pow (.c (.int 10)) (.c (.int 18)))) (.cons (.asg (.sub (.v 0) (.c (.int 0))) (.v 4)) .nil) .nil) (.cons (.asg (.v 5) (.trim (.bin .add (.bin .add (.bin .mul (.sub (.v 0) (.c (.int 1))) (.c (.int 48271))) (.bin .mod (.blt .int (.cons (.v 4) .nil)) (.c (.int 2147483647)))) (.bin .mul (.c (.int 7919)) (.sub (.v 0) (.c (.int 2))))))) (.cons (.asg (.sub (.v 0) (.c (.int 1))) (.bin .mod (.blt .int (.cons (.v 5) .nil)) (.c (.int 2147483647)))) .nil))))) .nil) (.cons (.ite (.cmp .gt (.sub (.v 0) (.c (.int 0))) (.c (.int 0))) (.cons (.asg (.v 6) (.bin .mod (.blt .int (.cons (.sub (.v 0) (.c (.int 0))) .nil)) (.v 1))) (.cons (.asg (.sub (.v 0) (.c (.int 0))) (.bin .fdiv (.blt .int (.cons (.sub (.v 0) (.c (.int 0))) .nil)) (.v 1))) (.cons (.ret (.v 6)) .nil))) .nil) (.cons (.asg (.v 2) (.trim (.bin .mod (.blt .int (.cons (.bin .mul (.bin .add (.sub (.v 0) (.c (.int 1))) (.c (.int 1))) (.c (.int 39373))) .nil)) (.c (.int 1000000007))))) (.cons (.asg (.v 3) (.trim (.bin .mod (.blt .int (.cons (.bin .mul (.bin .mod (.blt .int (.cons (.bin .mul (.v 2) (.v 2)) .nil)) (.c (.int 998244353))) (.c (.int 30011))) .nil)) (.c (.int 998244353))))) (.cons (.ret (.bin .mod (.blt .int (.cons (.bin .fdiv (.v 3) (.c (.int 7))) .nil)) (.v 1))) .nil)))))⟩
def someF (t : Nat) : FD := ⟨2, 2, (.cons (.ret (.trim (.sub (.v 1) (.call t (.cons (.v 0) (.cons (.blt .len (.cons (.v 1) .nil)) .nil)))))) .nil)⟩
def alikeF : FD := ⟨2, 2, (.cons (.ret (.and (.cmp .eq (.blt .repr (.cons (.v 0) .nil)) (.blt .repr (.cons (.v 1) .nil))) (.cmp .eq (.v 0) (.v 1)))) .nil)⟩

/-! ### heaps and trims -/
theorem agree_app (t : Hh) (n : Nat) : ∀ h : Hh, agree h (h ++ t) n = true
  | [] => by cases t <;> rfl
  | o :: h => by simp [agree, agree_app t n h]
theorem agree_set (t : Hh) {n : Nat} {o : O} (u : o.under n = true) : ∀ (h : Hh) (b : Nat), agree h (h.set b o ++ t) n = true
  | [], _ => by cases t <;> rfl
  | x :: h, 0 => by simp [agree, u, agree_app t n h]
  | x :: h, b + 1 => by simp [agree, agree_set t u h b]
theorem trim_p (h t : Hh) (x : P) : trimR h (.ok (.p x) (h ++ t)) = .ok (.p x) h := by
  simp [trimR, agree_app, D.under]
theorem trim_p0 (h : Hh) (x : P) : trimR h (.ok (.p x) h) = .ok (.p x) h := by
  have := trim_p h [] x
  rwa [List.append_nil] at this
theorem trim_set (h t : Hh) (x : P) {b : Nat} {o : O} (u : o.under h.length = true) : trimR h (.ok (.p x) (h.set b o ++ t)) = .ok (.p x) (h.set b o) := by
  have l : (h.set b o).length = h.length := List.length_set
  simp only [trimR, agree_set t u h b, D.under, if_true]
  rw [← l, List.take_left']
  rfl
theorem trim_set0 (h : Hh) (x : P) {b : Nat} {o : O} (u : o.under h.length = true) : trimR h (.ok (.p x) (h.set b o)) = .ok (.p x) (h.set b o) := by
  have := trim_set h [] x (b := b) u
  rwa [List.append_nil] at this
theorem trim_new (h : Hh) (o : O) : trimR h (.ok (.r h.length) (h ++ [o])) = .ok (.r h.length) (h ++ [o]) := by
  have a := agree_app [o] h.length h
  have u : D.under h.length (.r h.length) = false := by simp [D.under]
  simp only [trimR, a, u, if_true]
  rw [if_neg (by simp)]
  have g : (h ++ [o])[h.length]? = some o := by simp
  rw [g]
  dsimp only
  split
  · rw [List.take_left' rfl]
  · rfl
@[simp] theorem get_set_self {h : Hh} {b : Nat} {o o' : O} (e : h[b]? = some o') : (h.set b o)[b]? = some o := List.getElem?_set_self (List.getElem?_eq_some_iff.mp e).1
theorem get_app {h t : Hh} {b : Nat} {o : O} (e : h[b]? = some o) : (h ++ t)[b]? = some o := by
  rw [List.getElem?_append_left (List.getElem?_eq_some_iff.mp e).1]; exact e

/-! ### the bag -/
def bagO (x0 x1 x2 : Int) (l : Nat) : O := .lst [.p (.int x0), .p (.int x1), .p (.int x2), .r l]
def intsO (cs : List Int) : O := .lst (cs.map fun c => .p (.int c))
/-- a bag stands at b, its cells at l -/
structure Bag (h : Hh) (b l : Nat) : Prop where
  ne : b ≠ l
  cells : ∃ cs : List Int, h[l]? = some (intsO cs) ∧ cs.length ≤ 63 ∧ ∀ c ∈ cs, 0 ≤ c
  bag : ∃ x0 x1 x2 : Int, h[b]? = some (bagO x0 x1 x2 l) ∧ 0 ≤ x0 ∧ 0 ≤ x1 ∧ x1 < 2147483647 ∧ 0 ≤ x2
/-! ### how a text is run by simp -/
theorem add_ii (i j : Int) (h : Hh) : binS .add (.p (.int i)) (.p (.int j)) h = .ok (.p (.int (i + j))) h := rfl
theorem sub_ii (i j : Int) (h : Hh) : binS .sub (.p (.int i)) (.p (.int j)) h = .ok (.p (.int (i - j))) h := rfl
theorem mul_ii (i j : Int) (h : Hh) (c : mulOk i j = true) : binS .mul (.p (.int i)) (.p (.int j)) h = .ok (.p (.int (i * j))) h := by simp only [binS, mulS]; rw [if_pos c]
theorem mod_ii (i j : Int) (h : Hh) (c : j ≠ 0) : binS .mod (.p (.int i)) (.p (.int j)) h = .ok (.p (.int (i.fmod j))) h := by simp only [binS]; rw [if_pos c]
theorem fdiv_ii (i j : Int) (h : Hh) (c : j ≠ 0 ∧ j.natAbs < 1073741824) : binS .fdiv (.p (.int i)) (.p (.int j)) h = .ok (.p (.int (i.fdiv j))) h := by simp only [binS]; rw [if_pos c]
theorem pow_ii (i j : Int) (h : Hh) (c : 0 ≤ j ∧ j ≤ 1000000 ∧ i.natAbs < 2 ^ 64) : binS .pow (.p (.int i)) (.p (.int j)) h = .ok (.p (.int (i ^ j.toNat))) h := by simp only [binS]; rw [if_pos c]
theorem pow_lit (h : Hh) : binS .pow (.p (.int 10)) (.p (.int 18)) h = .ok (.p (.int 1000000000000000000)) h := (pow_ii 10 18 h (by decide)).trans (by congr 1)
theorem aug_ii (i j : Int) (h : Hh) : augS .add (.p (.int i)) (.p (.int j)) h = .ok (.p (.int (i + j))) h := rfl
theorem blt_int (i : Int) (h : Hh) : bltS .int [.p (.int i)] h = .ok (.p (.int i)) h := rfl
theorem blt_abs (i : Int) (h : Hh) : bltS .abs [.p (.int i)] h = .ok (.p (.int (if i < 0 then -i else i))) h := rfl
theorem blt_max (i j : Int) (h : Hh) : bltS .max [.p (.int i), .p (.int j)] h = .ok (.p (.int (if j > i then j else i))) h := rfl
theorem blt_min (i j : Int) (h : Hh) : bltS .min [.p (.int i), .p (.int j)] h = .ok (.p (.int (if j < i then j else i))) h := rfl
theorem lt_ii (i j : Int) (h : Hh) : cmpS .lt (.p (.int i)) (.p (.int j)) h = .ok (decide (i < j)) h := rfl
theorem le_ii (i j : Int) (h : Hh) : cmpS .le (.p (.int i)) (.p (.int j)) h = .ok (decide (i ≤ j)) h := rfl
theorem gt_ii (i j : Int) (h : Hh) : cmpS .gt (.p (.int i)) (.p (.int j)) h = .ok (decide (j < i)) h := rfl
theorem ge_ii (i j : Int) (h : Hh) : cmpS .ge (.p (.int i)) (.p (.int j)) h = .ok (decide (j ≤ i)) h := rfl
theorem eq_ii (i j : Int) (h : Hh) : cmpS .eq (.p (.int i)) (.p (.int j)) h = .ok (decide (i = j)) h := rfl
theorem ne_ii (i j : Int) (h : Hh) : cmpS .ne (.p (.int i)) (.p (.int j)) h = .ok (!decide (i = j)) h := rfl
theorem mkT_p2 (a b : P) : mkT [.p a, .p b] = .p (.tup [a, b]) := rfl
theorem len_t (xs : List P) (h : Hh) : bltS .len [.p (.tup xs)] h = .ok (.p (.int xs.length)) h := rfl
theorem sz1 : (0 + 1 ≤ sizeLine) = True := by rw [sizeLine_eq]; simp
theorem sz3 : (0 + 1 + 1 + 1 ≤ sizeLine) = True := by rw [sizeLine_eq]; simp
theorem sz4 : (0 + 1 + 1 + 1 + 1 ≤ sizeLine) = True := by rw [sizeLine_eq]; simp
theorem sz6 : (0 + 1 + 1 + 1 + 1 + 1 + 1 ≤ sizeLine) = True := by rw [sizeLine_eq]; simp
theorem sz2 : (0 + 1 + 1 ≤ sizeLine) = True := by rw [sizeLine_eq]; simp
theorem gOf_call (p : Prg) (F : Nat) (c i : Nat → List D → Hh → R D) : (gOf p F c i).call = c := rfl
theorem gOf_init (p : Prg) (F : Nat) (c i : Nat → List D → Hh → R D) : (gOf p F c i).init = i := rfl
theorem R.tr_ok_bl (k : Bool) (h : Hh) : tr (.ok (.p (.bl k)) h) = .ok k h := rfl
theorem subS_r (j : Nat) (k : Int) (h : Hh) : subS (.r j) (.p (.int k)) h = R.of ((lstOf h (.r j)).bind fun xs => atI xs k) h := by
  simp only [subS]
  cases lstOf h (.r j) <;> rfl
theorem subS_t (xs : List P) (k : Int) (h : Hh) : subS (.p (.tup xs)) (.p (.int k)) h = R.of ((atI xs k).map .p) h := rfl
theorem atI_nat {α : Type} (xs : List α) (n : Nat) : atI xs (n : Int) = xs[n]? := by
  unfold atI ixN
  rw [if_pos (Int.natCast_nonneg n)]
  by_cases l : n < xs.length
  · rw [if_pos (by omega)]
    simp
  · rw [if_neg (by omega), List.getElem?_eq_none (by omega)]
    rfl
theorem atI_lit {α : Type} (xs : List α) (n : Nat) : atI xs (no_index (OfNat.ofNat n : Int)) = xs[n]? := atI_nat xs n
theorem atI_zero {α : Type} (xs : List α) : atI xs 0 = xs[0]? := atI_nat xs 0
theorem atI_one {α : Type} (xs : List α) : atI xs 1 = xs[1]? := atI_nat xs 1
theorem eqO_int (h : Hh) (i j : Int) : eqO h (.p (.int i)) (.p (.int j)) = some (decide (i = j)) := rfl
theorem lst_new (h : Hh) (xs : List D) : lstOf (h ++ [.lst xs]) (.r h.length) = some xs := by simp [lstOf]
theorem lst_app (h t : Hh) (i : Nat) (l : i < h.length) : lstOf (h ++ t) (.r i) = lstOf h (.r i) := by
  simp [lstOf, List.getElem?_append_left l]
theorem lst_set (h : Hh) (i : Nat) (xs : List D) (l : i < h.length) : lstOf (h.set i (.lst xs)) (.r i) = some xs := by simp [lstOf, l]
theorem lst_set_ne (h : Hh) (i j : Nat) (o : O) (l : i ≠ j) : lstOf (h.set i o) (.r j) = lstOf h (.r j) := by
  simp [lstOf, List.getElem?_set_ne l]
theorem add_mut (h : Hh) (i j : Nat) : addS (.r i) (.r j) h = (match mutOf h (.r i), mutOf h (.r j) with
    | some xs, some ys => if xs.length + ys.length ≤ sizeLine then mk (.lst (xs ++ ys)) h else .stuck
    | _, _ => .stuck) := rfl
theorem sizeLine_v : sizeLine = 16777216 := sizeLine_eq
theorem cut_from {α : Type} (xs : List α) (k : Int) (h : 0 ≤ k) : cutX xs (some k) none = xs.drop k.toNat := by
  unfold cutX
  show (xs.drop (HT.sIx xs.length 0 (some k))).take (xs.length - HT.sIx xs.length 0 (some k)) = _
  have e : HT.sIx xs.length 0 (some k) = min k.toNat xs.length := by
    show (if k < 0 then _ else _) = _
    rw [if_neg (by omega)]
  rw [e]
  by_cases q : k.toNat ≤ xs.length
  · rw [Nat.min_eq_left q, List.take_of_length_le (by rw [List.length_drop]; omega)]
  · rw [Nat.min_eq_right (by omega), List.drop_length, List.drop_eq_nil_of_le (by omega), List.take_nil]
theorem trim_set_int (h t : Hh) (x : Int) {b l : Nat} {x0 x1 x2 : Int} (hl : l < h.length) : trimR h (.ok (.p (.int x)) (h.set b (bagO x0 x1 x2 l) ++ t)) = .ok (.p (.int x)) (h.set b (bagO x0 x1 x2 l)) :=
  trim_set h t (.int x) (by simp [bagO, O.under, D.unders, D.under, hl])
theorem bag_get {h : Hh} {b l : Nat} {x0 x1 x2 : Int} (hb : h[b]? = some (bagO x0 x1 x2 l)) : lstOf h (.r b) = some [.p (.int x0), .p (.int x1), .p (.int x2), .r l] := by simp [lstOf, hb, bagO]
/-- the first part: a cell is taken -/
def takeCell : IE := .trim (.sub (.bin .add (.slc (.sub (.v 0) (.c (.int 3))) (.some (.sub (.v 0) (.c (.int 2)))) .none) (.lst (.cons (.c (.int 0)) .nil))) (.c (.int 0)))
def cellOf (cs : List Int) (x2 : Int) : Int := ((cs.drop x2.toNat) ++ [0]).headD 0
theorem cell_ok (cs : List Int) (x2 : Int) (h : ∀ c ∈ cs, 0 ≤ c) : 0 ≤ cellOf cs x2 := by
  unfold cellOf
  cases q : cs.drop x2.toNat with
  | nil => exact Int.le_refl 0
  | cons c r => exact h c (List.mem_of_mem_drop (by rw [q]; exact List.mem_cons_self))
theorem take_cell (g : G) (h : Hh) (b l : Nat) (many : D) (x0 x1 x2 : Int) (cs : List Int) (ne : b ≠ l) (hl : h[l]? = some (intsO cs)) (cl : cs.length ≤ 63) (hb : h[b]? = some (bagO x0 x1 x2 l)) (h2 : 0 ≤ x2) (s : Sg) :
    evE g takeCell (some (.r b) :: some many :: s) h = .ok (.p (.int (cellOf cs x2))) h := by
  have lb := bag_get hb
  have hl' : lstOf h (.r l) = some (cs.map fun c => .p (.int c)) := by simp [lstOf, hl, intsO]
  have cut : cutX (cs.map fun c => D.p (.int c)) (some x2) none = (cs.drop x2.toNat).map fun c => D.p (.int c) := by
    rw [cut_from _ _ h2, List.map_drop]
  have ln : (List.drop x2.toNat cs).length ≤ 63 := by rw [List.length_drop]; omega
  simp only [takeCell, evE, evEs, evO, slot, R.of_some, List.getElem?_cons_zero, List.getElem?_cons_succ, R.bind_ok, subS_r, lb, atI_lit, atI_zero, Option.bind_some, slcS, hl', cut, mk, List.length_cons, List.length_nil, binS, add_mut]
  rw [if_pos (by rw [sizeLine_v]; decide)]
  simp only [R.bind_ok, add_mut, mutOf]
  have e1 : (h ++ [O.lst (List.map (fun c => D.p (P.int c)) (List.drop x2.toNat cs))] ++ [O.lst [D.p (P.int 0)]])[h.length]? = some (O.lst (List.map (fun c => D.p (P.int c)) (List.drop x2.toNat cs))) := by simp
  have e2 : (h ++ [O.lst (List.map (fun c => D.p (P.int c)) (List.drop x2.toNat cs))] ++ [O.lst [D.p (P.int 0)]])[(h ++ [O.lst (List.map (fun c => D.p (P.int c)) (List.drop x2.toNat cs))]).length]? = some (O.lst [D.p (P.int 0)]) := by simp
  rw [e1, e2]
  dsimp only
  rw [if_pos (by rw [List.length_map, sizeLine_v]; simp only [List.length_cons, List.length_nil]; omega)]
  simp only [mk, R.bind_ok, subS_r, lst_new, atI_zero, Option.bind_some]
  have e3 : (List.map (fun c => D.p (P.int c)) (List.drop x2.toNat cs) ++ [D.p (P.int 0)])[0]? = some (.p (.int (cellOf cs x2))) := by
    unfold cellOf
    cases cs.drop x2.toNat <;> rfl
  rw [e3]
  simp only [R.of_some, List.append_assoc]
  exact trim_p h _ _
theorem itmS_r (j : Nat) (k : Int) (h : Hh) : itmS (.r j) (.p (.int k)) h = (lstOf h (.r j)).bind fun xs => atI xs k := by
  unfold itmS
  cases lstOf h (.r j) <;> rfl
theorem putS_r {h : Hh} {j : Nat} {xs : List D} (n : Nat) (d : D) (hb : h[j]? = some (.lst xs)) (l : n < xs.length) : putS (.r j) (.p (.int (n : Int))) d h = .ok () (h.set j (.lst (xs.set n d))) := by
  have e : ixN xs.length (n : Int) = some n := by
    unfold ixN
    rw [if_pos (Int.natCast_nonneg n), if_pos (by omega)]
    simp
  simp only [putS, hb, e]
theorem put0 {h : Hh} {b l : Nat} {x0 x1 x2 y : Int} (hb : h[b]? = some (bagO x0 x1 x2 l)) : putS (.r b) (.p (.int 0)) (.p (.int y)) h = .ok () (h.set b (bagO y x1 x2 l)) := putS_r 0 _ hb (by simp)
theorem put1 {h : Hh} {b l : Nat} {x0 x1 x2 y : Int} (hb : h[b]? = some (bagO x0 x1 x2 l)) : putS (.r b) (.p (.int 1)) (.p (.int y)) h = .ok () (h.set b (bagO x0 y x2 l)) := putS_r 1 _ hb (by simp)
theorem put2 {h : Hh} {b l : Nat} {x0 x1 x2 y : Int} (hb : h[b]? = some (bagO x0 x1 x2 l)) : putS (.r b) (.p (.int 2)) (.p (.int y)) h = .ok () (h.set b (bagO x0 x1 y l)) := putS_r 2 _ hb (by simp)
/-- the bag's entries -/
theorem bag0 {h : Hh} {b l : Nat} {x0 x1 x2 : Int} (hb : h[b]? = some (bagO x0 x1 x2 l)) : subS (.r b) (.p (.int 0)) h = .ok (.p (.int x0)) h := by rw [subS_r, bag_get hb]; rfl
theorem bag1 {h : Hh} {b l : Nat} {x0 x1 x2 : Int} (hb : h[b]? = some (bagO x0 x1 x2 l)) : subS (.r b) (.p (.int 1)) h = .ok (.p (.int x1)) h := by rw [subS_r, bag_get hb]; rfl
theorem bag2 {h : Hh} {b l : Nat} {x0 x1 x2 : Int} (hb : h[b]? = some (bagO x0 x1 x2 l)) : subS (.r b) (.p (.int 2)) h = .ok (.p (.int x2)) h := by rw [subS_r, bag_get hb]; rfl
theorem mulOk_r {i j : Int} (h : -(2 ^ 64) < j ∧ j < 2 ^ 64) : mulOk i j = true := decide_eq_true (.inr h)
theorem mulOk_l {i j : Int} (h : -(2 ^ 64) < i ∧ i < 2 ^ 64) : mulOk i j = true := decide_eq_true (.inl h)
def takeA : ISs := .cons (.asg (.v 4) takeCell) (.cons (.augSub (.v 0) (.c (.int 2)) .add (.c (.int 1))) (.cons (.ite (.cmp .ge (.v 4) (.bin .pow (.c (.int 10)) (.c (.int 18)))) (.cons (.asg (.sub (.v 0) (.c (.int 0))) (.v 4)) .nil) .nil)
  (.cons (.asg (.v 5) (.trim (.bin .add (.bin .add (.bin .mul (.sub (.v 0) (.c (.int 1))) (.c (.int 48271))) (.bin .mod (.blt .int (.cons (.v 4) .nil)) (.c (.int 2147483647)))) (.bin .mul (.c (.int 7919)) (.sub (.v 0) (.c (.int 2)))))))
  (.cons (.asg (.sub (.v 0) (.c (.int 1))) (.bin .mod (.blt .int (.cons (.v 5) .nil)) (.c (.int 2147483647)))) .nil))))
theorem ite_some {c : Bool} {a b : ISs} {g : G} {s : Sg} {h : Hh} : (if c = true then evSs g a s h else evSs g b s h) = (if c then evSs g a s h else evSs g b s h) := rfl
theorem takeA_ok (g : G) (h : Hh) (b l : Nat) (many : D) (x1 x2 : Int) (cs : List Int) (ne : b ≠ l) (hl : h[l]? = some (intsO cs)) (cl : cs.length ≤ 63) (cn : ∀ c ∈ cs, 0 ≤ c) (hb : h[b]? = some (bagO 0 x1 x2 l)) (h1 : 0 ≤ x1) (h1' : x1 < 2147483647) (h2 : 0 ≤ x2) :
    ∃ s4 s5 y0 y1, 0 ≤ y0 ∧ 0 ≤ y1 ∧ y1 < 2147483647 ∧ evSs g takeA [some (.r b), some many, none, none, none, none, none] h = .next [some (.r b), some many, none, none, s4, s5, none] (h.set b (bagO y0 y1 (x2 + 1) l)) := by
  have c0 := cell_ok cs x2 cn
  have hc := take_cell g h b l many 0 x1 x2 cs ne hl cl hb h2
  generalize cellOf cs x2 = c at c0 hc
  have hb1 : (h.set b (bagO 0 x1 (x2 + 1) l))[b]? = some (bagO 0 x1 (x2 + 1) l) := get_set_self hb
  have hb2 : (h.set b (bagO c x1 (x2 + 1) l))[b]? = some (bagO c x1 (x2 + 1) l) := get_set_self hb
  have pw : ((10 : Int) ^ (18 : Int).toNat) = 1000000000000000000 := by decide
  have m1 : ∀ x : Int, mulOk x 48271 = true := fun x => mulOk_r (by decide)
  have m2 : ∀ x : Int, mulOk 7919 x = true := fun x => mulOk_l (by decide)
  have nz : (2147483647 : Int) ≠ 0 := by decide
  have pc : (0 : Int) ≤ 18 ∧ (18 : Int) ≤ 1000000 ∧ (10 : Int).natAbs < 2 ^ 64 := by decide
  have it2 : (R.of (itmS (.r b) (.p (.int 2)) h) h : R D) = .ok (.p (.int x2)) h := by rw [itmS_r, bag_get hb]; rfl
  have f1 : ∀ z : Int, 0 ≤ z.fmod 2147483647 ∧ z.fmod 2147483647 < 2147483647 := fun z => ⟨Int.fmod_nonneg_of_pos z (by decide), Int.fmod_lt_of_pos z (by decide)⟩
  refine ⟨some (.p (.int c)), some (.p (.int (x1 * 48271 + c.fmod 2147483647 + 7919 * (x2 + 1)))), if 1000000000000000000 ≤ c then c else 0, (x1 * 48271 + c.fmod 2147483647 + 7919 * (x2 + 1)).fmod 2147483647, by split <;> omega, (f1 _).1, (f1 _).2, ?_⟩
  simp only [takeA, evSs, evS.eq_1, evS.eq_2, evS.eq_3, evS.eq_4, evS.eq_5, evS.eq_6, evS.eq_7, evS.eq_10, evS.eq_11, evS.eq_12, evS.eq_13, evS.eq_14, evS.eq_15, evE.eq_1, evE.eq_2, evE.eq_3, evE.eq_4, evE.eq_5, evE.eq_6, evE.eq_7, evE.eq_8, evE.eq_9, evE.eq_10, evE.eq_11, evE.eq_12, evE.eq_13, evE.eq_14, evE.eq_15, evE.eq_16, evE.eq_17, evE.eq_18, evE.eq_19, evE.eq_21,  evEs, evO, evTs, evI, asgT, asgTs, slot, startD, R.of_some, R.of_none, R.bind_ok, R.bind_stuck, R.then_ok, RS.seq_next, RS.seq_ret, RS.seq_brk, RS.seq_cont, List.getElem?_cons_zero, List.getElem?_cons_succ, List.set_cons_zero, List.set_cons_succ, List.set_set, add_ii, sub_ii, mul_ii, mod_ii, fdiv_ii, pow_lit, blt_int, blt_max, blt_min, blt_abs, aug_ii, tr_bl, lt_ii, le_ii, gt_ii, ge_ii, eq_ii, ne_ii, trim_p0, if_true, Bool.not_true, Bool.not_false, Bool.false_eq_true, if_false, R.tr_ok_bl, gOf_call, mkT_p2, len_t, sz1, sz2, sz3, sz4, sz6, D.items, hc, it2, put2 hb, pc, pw]
  by_cases q : 1000000000000000000 ≤ c
  · simp only [evSs, evS.eq_1, evS.eq_2, evS.eq_3, evS.eq_4, evS.eq_5, evS.eq_6, evS.eq_7, evS.eq_10, evS.eq_11, evS.eq_12, evS.eq_13, evS.eq_14, evS.eq_15, evE.eq_1, evE.eq_2, evE.eq_3, evE.eq_4, evE.eq_5, evE.eq_6, evE.eq_7, evE.eq_8, evE.eq_9, evE.eq_10, evE.eq_11, evE.eq_12, evE.eq_13, evE.eq_14, evE.eq_15, evE.eq_16, evE.eq_17, evE.eq_18, evE.eq_19, evE.eq_21,  evEs, evO, evTs, evI, asgT, asgTs, slot, startD, R.of_some, R.of_none, R.bind_ok, R.bind_stuck, R.then_ok, RS.seq_next, RS.seq_ret, RS.seq_brk, RS.seq_cont, List.getElem?_cons_zero, List.getElem?_cons_succ, List.set_cons_zero, List.set_cons_succ, List.set_set, add_ii, sub_ii, mul_ii, mod_ii, fdiv_ii, pow_lit, blt_int, blt_max, blt_min, blt_abs, aug_ii, tr_bl, lt_ii, le_ii, gt_ii, ge_ii, eq_ii, ne_ii, trim_p0, if_true, Bool.not_true, Bool.not_false, Bool.false_eq_true, if_false, R.tr_ok_bl, gOf_call, mkT_p2, len_t, sz1, sz2, sz3, sz4, sz6, D.items, q, decide_true, put0 hb1, bag1 hb2, bag2 hb2, m1, m2, nz, put1 hb2, ne_eq, not_false_eq_true]
  · simp only [evSs, evS.eq_1, evS.eq_2, evS.eq_3, evS.eq_4, evS.eq_5, evS.eq_6, evS.eq_7, evS.eq_10, evS.eq_11, evS.eq_12, evS.eq_13, evS.eq_14, evS.eq_15, evE.eq_1, evE.eq_2, evE.eq_3, evE.eq_4, evE.eq_5, evE.eq_6, evE.eq_7, evE.eq_8, evE.eq_9, evE.eq_10, evE.eq_11, evE.eq_12, evE.eq_13, evE.eq_14, evE.eq_15, evE.eq_16, evE.eq_17, evE.eq_18, evE.eq_19, evE.eq_21,  evEs, evO, evTs, evI, asgT, asgTs, slot, startD, R.of_some, R.of_none, R.bind_ok, R.bind_stuck, R.then_ok, RS.seq_next, RS.seq_ret, RS.seq_brk, RS.seq_cont, List.getElem?_cons_zero, List.getElem?_cons_succ, List.set_cons_zero, List.set_cons_succ, List.set_set, add_ii, sub_ii, mul_ii, mod_ii, fdiv_ii, pow_lit, blt_int, blt_max, blt_min, blt_abs, aug_ii, tr_bl, lt_ii, le_ii, gt_ii, ge_ii, eq_ii, ne_ii, trim_p0, if_true, Bool.not_true, Bool.not_false, Bool.false_eq_true, if_false, R.tr_ok_bl, gOf_call, mkT_p2, len_t, sz1, sz2, sz3, sz4, sz6, D.items, q, decide_false, bag1 hb1, bag2 hb1, m1, m2, nz, put1 hb1, ne_eq, not_false_eq_true]
def takeB : ISs := .cons (.ite (.cmp .gt (.sub (.v 0) (.c (.int 0))) (.c (.int 0))) (.cons (.asg (.v 6) (.bin .mod (.blt .int (.cons (.sub (.v 0) (.c (.int 0))) .nil)) (.v 1))) (.cons (.asg (.sub (.v 0) (.c (.int 0))) (.bin .fdiv (.blt .int (.cons (.sub (.v 0) (.c (.int 0))) .nil)) (.v 1))) (.cons (.ret (.v 6)) .nil))) .nil)
  (.cons (.asg (.v 2) (.trim (.bin .mod (.blt .int (.cons (.bin .mul (.bin .add (.sub (.v 0) (.c (.int 1))) (.c (.int 1))) (.c (.int 39373))) .nil)) (.c (.int 1000000007)))))
  (.cons (.asg (.v 3) (.trim (.bin .mod (.blt .int (.cons (.bin .mul (.bin .mod (.blt .int (.cons (.bin .mul (.v 2) (.v 2)) .nil)) (.c (.int 998244353))) (.c (.int 30011))) .nil)) (.c (.int 998244353)))))
  (.cons (.ret (.bin .mod (.blt .int (.cons (.bin .fdiv (.v 3) (.c (.int 7))) .nil)) (.v 1))) .nil)))
theorem takeF_eq : takeF = ⟨2, 7, .cons (.ite (.cmp .eq (.sub (.v 0) (.c (.int 0))) (.c (.int 0))) takeA .nil) takeB⟩ := rfl
theorem takeB_ok (g : G) (h : Hh) (b l : Nat) (many x0 x1 x2 : Int) (hb : h[b]? = some (bagO x0 x1 x2 l)) (hm : 0 < many) (hm2 : many < 1073741824) (h0 : 0 ≤ x0) (s4 s5 : Option D) :
    ∃ v y0, 0 ≤ v ∧ v < many ∧ 0 ≤ y0 ∧ evSs g takeB [some (.r b), some (.p (.int many)), none, none, s4, s5, none] h = .ret (.p (.int v)) (h.set b (bagO y0 x1 x2 l)) := by
  have m1 : ∀ x : Int, mulOk x 39373 = true := fun x => mulOk_r (by decide)
  have m2 : ∀ x : Int, mulOk x 30011 = true := fun x => mulOk_r (by decide)
  have n1 : (1000000007 : Int) ≠ 0 := by decide
  have n2 : (998244353 : Int) ≠ 0 := by decide
  have n3 : many ≠ 0 := by omega
  have n4 : many ≠ 0 ∧ many.natAbs < 1073741824 := ⟨n3, by omega⟩
  have n5 : (7 : Int) ≠ 0 ∧ (7 : Int).natAbs < 1073741824 := by decide
  have same : h.set b (bagO x0 x1 x2 l) = h := by
    refine List.ext_getElem? fun i => ?_
    by_cases q : b = i
    · subst q; rw [get_set_self hb, hb]
    · rw [List.getElem?_set_ne q]
  by_cases q : 0 < x0
  · refine ⟨x0.fmod many, x0.fdiv many, Int.fmod_nonneg_of_pos _ hm, Int.fmod_lt_of_pos _ hm, Int.fdiv_nonneg h0 (by omega), ?_⟩
    simp only [takeB, evSs, evS.eq_1, evS.eq_2, evS.eq_3, evS.eq_4, evS.eq_5, evS.eq_6, evS.eq_7, evS.eq_10, evS.eq_11, evS.eq_12, evS.eq_13, evS.eq_14, evS.eq_15, evE.eq_1, evE.eq_2, evE.eq_3, evE.eq_4, evE.eq_5, evE.eq_6, evE.eq_7, evE.eq_8, evE.eq_9, evE.eq_10, evE.eq_11, evE.eq_12, evE.eq_13, evE.eq_14, evE.eq_15, evE.eq_16, evE.eq_17, evE.eq_18, evE.eq_19, evE.eq_21,  evEs, evO, evTs, evI, asgT, asgTs, slot, startD, R.of_some, R.of_none, R.bind_ok, R.bind_stuck, R.then_ok, RS.seq_next, RS.seq_ret, RS.seq_brk, RS.seq_cont, List.getElem?_cons_zero, List.getElem?_cons_succ, List.set_cons_zero, List.set_cons_succ, List.set_set, add_ii, sub_ii, mul_ii, mod_ii, fdiv_ii, pow_lit, blt_int, blt_max, blt_min, blt_abs, aug_ii, tr_bl, lt_ii, le_ii, gt_ii, ge_ii, eq_ii, ne_ii, trim_p0, if_true, Bool.not_true, Bool.not_false, Bool.false_eq_true, if_false, R.tr_ok_bl, gOf_call, mkT_p2, len_t, sz1, sz2, sz3, sz4, sz6, D.items, bag0 hb, q, decide_true, n3, n4, put0 hb, ne_eq, not_false_eq_true, and_self]
  · obtain ⟨w, hw⟩ : ∃ w, w = ((x1 + 1) * 39373).fmod 1000000007 := ⟨_, rfl⟩
    have w0 : 0 ≤ w := by rw [hw]; exact Int.fmod_nonneg_of_pos _ (by decide)
    have w1 : w < 1000000007 := by rw [hw]; exact Int.fmod_lt_of_pos _ (by decide)
    have m3 : mulOk w w = true := mulOk_r (by omega)
    refine ⟨((((w * w).fmod 998244353 * 30011).fmod 998244353).fdiv 7).fmod many, x0, Int.fmod_nonneg_of_pos _ hm, Int.fmod_lt_of_pos _ hm, h0, ?_⟩
    rw [same]
    simp only [takeB, evSs, evS.eq_1, evS.eq_2, evS.eq_3, evS.eq_4, evS.eq_5, evS.eq_6, evS.eq_7, evS.eq_10, evS.eq_11, evS.eq_12, evS.eq_13, evS.eq_14, evS.eq_15, evE.eq_1, evE.eq_2, evE.eq_3, evE.eq_4, evE.eq_5, evE.eq_6, evE.eq_7, evE.eq_8, evE.eq_9, evE.eq_10, evE.eq_11, evE.eq_12, evE.eq_13, evE.eq_14, evE.eq_15, evE.eq_16, evE.eq_17, evE.eq_18, evE.eq_19, evE.eq_21,  evEs, evO, evTs, evI, asgT, asgTs, slot, startD, R.of_some, R.of_none, R.bind_ok, R.bind_stuck, R.then_ok, RS.seq_next, RS.seq_ret, RS.seq_brk, RS.seq_cont, List.getElem?_cons_zero, List.getElem?_cons_succ, List.set_cons_zero, List.set_cons_succ, List.set_set, add_ii, sub_ii, mul_ii, mod_ii, fdiv_ii, pow_lit, blt_int, blt_max, blt_min, blt_abs, aug_ii, tr_bl, lt_ii, le_ii, gt_ii, ge_ii, eq_ii, ne_ii, trim_p0, if_true, Bool.not_true, Bool.not_false, Bool.false_eq_true, if_false, R.tr_ok_bl, gOf_call, mkT_p2, len_t, sz1, sz2, sz3, sz4, sz6, D.items, bag0 hb, bag1 hb, q, decide_false, n1, n2, n3, n5, m1, m2, ne_eq, not_false_eq_true, ← hw, m3, and_self]
theorem call_eq {p : Prg} {F k t : Nat} {fd : FD} {ds : List D} {h : Hh} (ht : p.fns[t]? = some fd) (hl : ds.length = fd.np) : callN p F (k + 2) t ds h = backR h (evSs (gOf p F (callN p F (k + 1)) (callN p F k)) fd.body (startD fd.ns ds) h) := by
  simp only [callN, ht]
  rw [if_pos hl]
theorem take_ok {p : Prg} {F k t : Nat} (ht : p.fns[t]? = some takeF) (h : Hh) (b l : Nat) (many : Int) (B : Bag h b l) (hm : 0 < many) (hm2 : many < 1073741824) :
    ∃ v o, 0 ≤ v ∧ v < many ∧ Bag (h.set b o) b l ∧ (∃ x0 x1 x2, o = bagO x0 x1 x2 l) ∧ callN p F (k + 2) t [.r b, .p (.int many)] h = .ok (.p (.int v)) (h.set b o) := by
  obtain ⟨ne, ⟨cs, hl, cl, cn⟩, ⟨x0, x1, x2, hb, h0, h1, h1', h2⟩⟩ := B
  have ll : l < h.length := (List.getElem?_eq_some_iff.mp hl).1
  have bag' : ∀ y0 y1 y2 : Int, 0 ≤ y0 → 0 ≤ y1 → y1 < 2147483647 → 0 ≤ y2 → Bag (h.set b (bagO y0 y1 y2 l)) b l := fun y0 y1 y2 a1 a2 a3 a4 =>
    ⟨ne, ⟨cs, by rw [List.getElem?_set_ne ne]; exact hl, cl, cn⟩, y0, y1, y2, get_set_self hb, a1, a2, a3, a4⟩
  have fin : ∀ (v y0 y1 y2 : Int), backR h (.ret (.p (.int v)) (h.set b (bagO y0 y1 y2 l))) = .ok (.p (.int v)) (h.set b (bagO y0 y1 y2 l)) := fun v y0 y1 y2 =>
    trim_set0 h (.int v) (by simp [bagO, O.under, D.unders, D.under, ll])
  rw [call_eq ht rfl, takeF_eq]
  dsimp only
  by_cases q : x0 = 0
  · subst q
    obtain ⟨s4, s5, y0, y1, a0, a1, a2, e⟩ := takeA_ok (gOf p F (callN p F (k + 1)) (callN p F k)) h b l (.p (.int many)) x1 x2 cs ne hl cl cn hb h1 h1' h2
    obtain ⟨v, z0, v0, v1, v2, e2⟩ := takeB_ok (gOf p F (callN p F (k + 1)) (callN p F k)) (h.set b (bagO y0 y1 (x2 + 1) l)) b l many y0 y1 (x2 + 1) (get_set_self hb) hm hm2 a0 s4 s5
    refine ⟨v, bagO z0 y1 (x2 + 1) l, v0, v1, bag' _ _ _ v2 a1 a2 (by omega), ⟨_, _, _, rfl⟩, ?_⟩
    have e3 : evSs (gOf p F (callN p F (k + 1)) (callN p F k)) (.cons (.ite (.cmp .eq (.sub (.v 0) (.c (.int 0))) (.c (.int 0))) takeA .nil) takeB) (startD 7 [.r b, .p (.int many)]) h = .ret (.p (.int v)) (h.set b (bagO z0 y1 (x2 + 1) l)) := by
      rw [evSs, evS]
      simp only [evE, slot, startD, List.map, List.length_cons, List.length_nil, List.replicate, List.cons_append, List.nil_append, List.getElem?_cons_zero, R.of_some, R.bind_ok, bag0 hb, eq_ii, R.tr_ok_bl, R.then_ok, decide_true, if_true]
      show ((evSs _ takeA [some (.r b), some (.p (.int many)), none, none, none, none, none] h).seq _) = _
      rw [e]
      show evSs _ takeB _ _ = _
      rw [e2, List.set_set]
    rw [e3]
    exact fin v z0 y1 (x2 + 1)
  · obtain ⟨v, z0, v0, v1, v2, e2⟩ := takeB_ok (gOf p F (callN p F (k + 1)) (callN p F k)) h b l many x0 x1 x2 hb hm hm2 h0 none none
    refine ⟨v, bagO z0 x1 x2 l, v0, v1, bag' _ _ _ v2 h1 h1' h2, ⟨_, _, _, rfl⟩, ?_⟩
    have e3 : evSs (gOf p F (callN p F (k + 1)) (callN p F k)) (.cons (.ite (.cmp .eq (.sub (.v 0) (.c (.int 0))) (.c (.int 0))) takeA .nil) takeB) (startD 7 [.r b, .p (.int many)]) h = .ret (.p (.int v)) (h.set b (bagO z0 x1 x2 l)) := by
      rw [evSs, evS]
      simp only [evE, slot, startD, List.map, List.length_cons, List.length_nil, List.replicate, List.cons_append, List.nil_append, List.getElem?_cons_zero, R.of_some, R.bind_ok, bag0 hb, eq_ii, R.tr_ok_bl, R.then_ok, q, decide_false, Bool.false_eq_true, if_false, evSs, RS.seq_next]
      exact e2
    rw [e3]
    exact fin v z0 x1 x2
end Pv

/-! Q: _law_alike, _law_bag, _law_some; comprehensions run. -/
namespace Pv
open PySem L2

/-! ### what is shown -/
mutual
/-- a bound of the signs shown -/
def P.w : P → Nat
  | .non => 4
  | .bl _ => 5
  | .int _ => 1921
  | .str s => 10 * s.length + 2
  | .tup xs => P.ws xs + 3
def P.ws : List P → Nat
  | [] => 0
  | x :: xs => x.w + 2 + P.ws xs
end
mutual
/-- no texts; numbers that may be shown -/
def P.nums : P → Bool
  | .non | .bl _ => true
  | .int i => decide (i.natAbs.log2 < 1920)
  | .str _ => false
  | .tup xs => P.numss xs
def P.numss : List P → Bool
  | [] => true
  | x :: xs => x.nums && P.numss xs
end
theorem len_join {sep : Str} : ∀ ts : List Str, (Str.join sep ts).length ≤ (ts.map fun t => t.length + sep.length).sum
  | [] => Nat.le_refl 0
  | [x] => by simp [Str.join]
  | x :: y :: r => by
    have ih := len_join (sep := sep) (y :: r)
    rw [Str.join, Str.length_append, Str.length_append, List.map_cons, List.sum_cons]
    · omega
    · simp
theorem len_lit (s : String) : (Str.ofString s).length = s.length := ofString_length s
mutual
theorem shown_w : ∀ x : P, x.nums = true → x.py.shown.length ≤ x.w ∧ x.py.showable = true
  | .non, _ => ⟨by show ("None" : Str).length ≤ 4; decide, rfl⟩
  | .bl b, _ => ⟨by cases b <;> (show (_ : Str).length ≤ 5; decide), rfl⟩
  | .int i, h => by
    simp only [P.nums, decide_eq_true_eq] at h
    exact ⟨PyProof.Rows.int_text_len_1921 h, by simpa [P.py, PyData.showable] using h⟩
  | .str _, h => by cases h
  | .tup xs, h => by
    obtain ⟨h1, h2⟩ := shown_ws xs (by simpa [P.nums] using h)
    refine ⟨?_, by simpa [P.py, PyData.showable] using h2⟩
    show (tupleText (PyData.shownAll (P.pys xs))).length ≤ P.ws xs + 3
    unfold tupleText
    rw [Str.length_append, Str.length_append]
    have e1 : ("(" : Str).length = 1 := by decide
    have e2 : ∀ c : Bool, (Str.ofString (if c = true then ",)" else ")")).length ≤ 2 := by intro c; cases c <;> decide
    have := e2 ((PyData.shownAll (P.pys xs)).length == 1)
    have j := len_join (sep := ", ") (PyData.shownAll (P.pys xs))
    have e3 : (", " : Str).length = 2 := by decide
    rw [e3] at j
    omega
theorem shown_ws : ∀ xs : List P, P.numss xs = true → ((PyData.shownAll (P.pys xs)).map fun t => t.length + 2).sum ≤ P.ws xs ∧ PyData.showableAll (P.pys xs) = true
  | [], _ => ⟨Nat.le_refl 0, rfl⟩
  | x :: xs, h => by
    simp only [P.numss, Bool.and_eq_true] at h
    obtain ⟨h1, h2⟩ := shown_w x h.1
    obtain ⟨h3, h4⟩ := shown_ws xs h.2
    refine ⟨?_, by simp only [P.pys, PyData.showableAll, h2, h4, Bool.and_self]⟩
    simp only [P.pys, PyData.shownAll, List.map_cons, List.sum_cons, P.ws]
    omega
end
mutual
theorem nums_fit : ∀ x : P, x.nums = true → x.fit = true
  | .non, _ => rfl
  | .bl _, _ => rfl
  | .int _, _ => rfl
  | .str _, h => by cases h
  | .tup xs, h => by simp only [P.fit]; exact numss_fit xs (by simpa [P.nums] using h)
theorem numss_fit : ∀ xs : List P, P.numss xs = true → P.fits xs = true
  | [], _ => rfl
  | x :: xs, h => by
    simp only [P.numss, Bool.and_eq_true] at h
    simp only [P.fits, nums_fit x h.1, numss_fit xs h.2, Bool.and_self]
end
mutual
theorem eqv_self : ∀ x : P, x.eqv x = true
  | .non => rfl
  | .bl b => by simp [P.eqv]
  | .int i => by simp [P.eqv]
  | .str s => by simp [P.eqv]
  | .tup xs => by rw [P.eqv]; exact eqvs_self xs
theorem eqvs_self : ∀ xs : List P, P.eqvs xs xs = true
  | [] => rfl
  | x :: xs => by rw [P.eqvs, eqv_self x, eqvs_self xs]; rfl
end
theorem eqO_self (h : Hh) (x : P) (d : x.depth ≤ 64) (f : x.fit = true) : eqO h (.p x) (.p x) = some true := by
  cases x with
  | str s => simp [eqO]
  | non => simp [eqO, P.depth, P.fit, P.eqv]
  | bl b => simp [eqO, P.depth, P.fit, P.eqv]
  | int i => simp [eqO, P.depth, P.fit, P.eqv]
  | tup xs => simp only [eqO]; rw [if_pos ⟨d, d, f, f⟩, eqv_self]
/-- may be told alike -/
def Fine (x : P) : Prop := x.nums = true ∧ x.depth ≤ 60 ∧ x.w ≤ sizeLine
theorem repr_ok (h : Hh) {x : P} (f : Fine x) : bltS .repr [.p x] h = .ok (.p (.str x.py.shown)) h := by
  obtain ⟨h1, h2⟩ := shown_w x f.1
  have e : see 64 h (.p x) = some x.py := rfl
  have wd : PyData.wide x.py = true := by
    unfold PyData.wide
    rw [h2, decide_eq_true (Nat.le_trans h1 f.2.2), decide_eq_true (by rw [py_depth]; have := f.2.1; omega)]
    rfl
  simp only [bltS, e, wd, if_true]
theorem eqO_str (h : Hh) (s : Str) : eqO h (.p (.str s)) (.p (.str s)) = some true := by simp [eqO]
theorem truth_bl (h : Hh) (b : Bool) : truth h (.p (.bl b)) = some b := rfl
theorem alike_ok {p : Prg} {F k t : Nat} (ht : p.fns[t]? = some alikeF) (h : Hh) (x : P) (f : Fine x) : callN p F (k + 2) t [.p x, .p x] h = .ok (.p (.bl true)) h := by
  rw [call_eq ht rfl]
  have e2 := eqO_self h x (by have := f.2.1; omega) (nums_fit x f.1)
  simp only [alikeF, startD, List.map, List.length_cons, List.length_nil, List.replicate, List.cons_append, List.nil_append, List.append_nil, evSs, evS.eq_1, evS.eq_2, evS.eq_3, evS.eq_4, evS.eq_5, evS.eq_6, evS.eq_7, evS.eq_10, evS.eq_11, evS.eq_12, evS.eq_13, evS.eq_14, evS.eq_15, evE.eq_1, evE.eq_2, evE.eq_3, evE.eq_4, evE.eq_5, evE.eq_6, evE.eq_7, evE.eq_8, evE.eq_9, evE.eq_10, evE.eq_11, evE.eq_12, evE.eq_13, evE.eq_14, evE.eq_15, evE.eq_16, evE.eq_17, evE.eq_18, evE.eq_19, evE.eq_21,  evEs, evO, evTs, evI, asgT, asgTs, slot, startD, R.of_some, R.of_none, R.bind_ok, R.bind_stuck, R.then_ok, RS.seq_next, RS.seq_ret, RS.seq_brk, RS.seq_cont, List.getElem?_cons_zero, List.getElem?_cons_succ, List.set_cons_zero, List.set_cons_succ, List.set_set, add_ii, sub_ii, mul_ii, mod_ii, fdiv_ii, pow_lit, blt_int, blt_max, blt_min, blt_abs, aug_ii, tr_bl, lt_ii, le_ii, gt_ii, ge_ii, eq_ii, ne_ii, trim_p0, if_true, Bool.not_true, Bool.not_false, Bool.false_eq_true, if_false, R.tr_ok_bl, gOf_call, mkT_p2, len_t, sz1, sz2, sz3, sz4, sz6, D.items, repr_ok h f, cmpS, eqO_str, truth_bl, e2]
  exact trim_p0 h _

/-! ### comprehensions -/
theorem loopC_map (h0 : Hh) (gd : Gd) (body : D → Hh → R (Option D)) (f : D → Option D) (gok : ∀ a, gd.ok (h0 ++ [.lst a]) = true) :
    ∀ (ds acc : List D), (∀ d ∈ ds, ∀ a, body d (h0 ++ [.lst a]) = .ok (f d) (h0 ++ [.lst a])) → acc.length + ds.length ≤ sizeLine → loopC gd h0.length body ds acc (h0 ++ [.lst acc]) = .ok () (h0 ++ [.lst (acc ++ ds.filterMap f)])
  | [], acc, _, _ => by
    simp only [loopC, gok, Bool.true_and]
    rw [if_pos (by simp)]
    simp
  | d :: ds, acc, hb, hl => by
    have hl' : acc.length + (ds.length + 1) ≤ sizeLine := hl
    simp only [loopC, gok, if_true, hb d List.mem_cons_self]
    rw [if_pos ⟨by simp, by omega⟩]
    cases q : f d with
    | none =>
      dsimp only
      rw [loopC_map h0 gd body f gok ds acc (fun d hd => hb d (List.mem_cons_of_mem _ hd)) (by omega), List.filterMap_cons_none q]
    | some x =>
      dsimp only
      have e : (h0 ++ [O.lst acc]).set h0.length (.lst (acc ++ [x])) = h0 ++ [.lst (acc ++ [x])] := by
        rw [List.set_append_right _ _ (Nat.le_refl _), Nat.sub_self]
        rfl
      rw [e, loopC_map h0 gd body f gok ds (acc ++ [x]) (fun d hd => hb d (List.mem_cons_of_mem _ hd)) (by rw [List.length_append, List.length_singleton]; omega), List.filterMap_cons_some q]
      simp
/-- the same, where the heap below changes: I what stays true of it, Q what holds of each item -/
theorem loopC_st {gd : Gd} {body : D → Hh → R (Option D)} (n : Nat) (I : Hh → Prop) (Q : D → Prop) (len : ∀ h, I h → h.length = n) (gok : ∀ h a, I h → gd.ok (h ++ [.lst a]) = true)
    (hb : ∀ (d : D) (h : Hh) (a : List D), I h → ∃ h2 x, I h2 ∧ Q x ∧ body d (h ++ [.lst a]) = .ok (some x) (h2 ++ [.lst a])) :
    ∀ (ds acc : List D) (h : Hh), I h → acc.length + ds.length ≤ sizeLine → ∃ h2 xs, I h2 ∧ xs.length = ds.length ∧ (∀ x ∈ xs, Q x) ∧ loopC gd n body ds acc (h ++ [.lst acc]) = .ok () (h2 ++ [.lst (acc ++ xs)])
  | [], acc, h, ih, _ => by
    refine ⟨h, [], ih, rfl, (fun _ z => by cases z), ?_⟩
    simp only [loopC, gok h acc ih, Bool.true_and]
    rw [if_pos (by rw [decide_eq_true_eq, ← len h ih]; simp)]
    simp
  | d :: ds, acc, h, ih, hl => by
    have hl' : acc.length + (ds.length + 1) ≤ sizeLine := hl
    obtain ⟨h2, x, i2, qx, e⟩ := hb d h acc ih
    have e2 : (h2 ++ [O.lst acc]).set n (.lst (acc ++ [x])) = h2 ++ [.lst (acc ++ [x])] := by
      rw [← len h2 i2, List.set_append_right _ _ (Nat.le_refl _), Nat.sub_self]
      rfl
    obtain ⟨h3, xs, i3, lx, qxs, e3⟩ := loopC_st n I Q len gok hb ds (acc ++ [x]) h2 i2 (by rw [List.length_append, List.length_singleton]; omega)
    refine ⟨h3, x :: xs, i3, by rw [List.length_cons, lx, List.length_cons], fun y hy => ?_, ?_⟩
    · rcases List.mem_cons.mp hy with rfl | hy
      · exact qx
      · exact qxs y hy
    · simp only [loopC, gok h acc ih, if_true, e]
      rw [if_pos ⟨by rw [← len h2 i2]; simp, by omega⟩, e2, e3]
      simp
theorem comp_eq (g : G) (own : List Nat) (elt : IE) (t : ITg) (it : IIt) (ifs : IEs) (s : Sg) (h : Hh) : evE g (.comp own elt t it ifs) s h = (evI g it s h).bind fun p h1 => (loopC p.2 h1.length (bodyC g own t ifs elt s) p.1 [] (h1 ++ [.lst []])).bind fun _ h2 => .ok (.r h1.length) h2 := rfl

theorem trim_more (h t : Hh) (i : Nat) (o : O) (hi : h.length ≤ i) (g : (h ++ t)[i]? = some o) (u : o.under h.length = false) : trimR h (.ok (.r i) (h ++ t)) = .ok (.r i) (h ++ t) := by
  have a := agree_app t h.length h
  have d : D.under h.length (.r i) = false := by simp [D.under, hi]
  simp only [trimR, a, d, if_true]
  rw [if_neg (by simp), g]
  dsimp only
  rw [u, Bool.and_false, if_neg (by simp)]

/-! ### the bag -/
theorem bag_ok {p : Prg} {F k t : Nat} (ht : p.fns[t]? = some bagF) (ns : List Int) (hn : ns.length ≤ 63) :
    ∃ b l h', Bag h' b l ∧ callN p F (k + 2) t [.r 0] [.ro (ns.map .int)] = .ok (.r b) h' := by
  have hcut : cutX (ns.map fun n => D.p (.int n)) none (some 63) = ns.map fun n => D.p (.int n) := by
    unfold cutX
    have e : ∀ m : Nat, HT.sIx m m (some 63) = min 63 m := fun m => by
      show (if (63 : Int) < 0 then ((63 : Int) + (m : Int)).toNat else min (63 : Int).toNat m) = _
      rw [if_neg (by decide)]
      rfl
    rw [HT.sIx_none, List.drop_zero, e]
    refine List.take_of_length_le ?_
    rw [List.length_map]
    omega
  refine ⟨3, 2, [.ro (ns.map .int), .lst (ns.map fun n => .p (.int n)), intsO (ns.map fun n => if n < 0 then -n else n), bagO 0 1234567891 0 2], ⟨by decide, ⟨_, rfl, by rw [List.length_map]; exact hn, fun c hc => ?_⟩, _, _, _, rfl, by decide, by decide, by decide, by decide⟩, ?_⟩
  · obtain ⟨n, _, rfl⟩ := List.mem_map.mp hc
    split <;> omega
  · rw [call_eq ht rfl]
    have s1 : slcS (.r 0) none (some 63) [.ro (ns.map .int)] = .ok (.r 1) [.ro (ns.map .int), .lst (ns.map fun n => .p (.int n))] := by
      have e : lstOf [O.ro (ns.map .int)] (.r 0) = some (ns.map fun n => D.p (.int n)) := by simp [lstOf, Function.comp_def]
      simp only [slcS, e, hcut, mk]
      rfl
    have e1 : seqOf [O.ro (ns.map .int), .lst (ns.map fun n => .p (.int n))] (.r 1) = some (ns.map fun n => D.p (.int n)) := rfl
    have s2 := loopC_map [O.ro (ns.map .int), .lst (ns.map fun n => .p (.int n))] (gdOf [O.ro (ns.map .int), .lst (ns.map fun n => .p (.int n))] (.r 1))
      (bodyC (gOf p F (callN p F (k + 1)) (callN p F k)) [1] (.v 1) .nil (.blt .abs (.cons (.v 1) .nil)) [some (.r 0), none])
      (fun d => match d with
        | .p (.int i) => some (.p (.int (if i < 0 then -i else i)))
        | _ => none) (fun a => by simp [gdOf, Gd.ok]) (ns.map fun n => D.p (.int n)) [] (fun d hd a => by
        obtain ⟨n, _, rfl⟩ := List.mem_map.mp hd
        simp only [bodyC, evSs, evS.eq_1, evS.eq_2, evS.eq_3, evS.eq_4, evS.eq_5, evS.eq_6, evS.eq_7, evS.eq_10, evS.eq_11, evS.eq_12, evS.eq_13, evS.eq_14, evS.eq_15, evE.eq_1, evE.eq_2, evE.eq_3, evE.eq_4, evE.eq_5, evE.eq_6, evE.eq_7, evE.eq_8, evE.eq_9, evE.eq_10, evE.eq_11, evE.eq_12, evE.eq_13, evE.eq_14, evE.eq_15, evE.eq_16, evE.eq_17, evE.eq_18, evE.eq_19, evE.eq_21,  evEs, evO, evTs, evI, asgT, asgTs, slot, startD, R.of_some, R.of_none, R.bind_ok, R.bind_stuck, R.then_ok, RS.seq_next, RS.seq_ret, RS.seq_brk, RS.seq_cont, List.getElem?_cons_zero, List.getElem?_cons_succ, List.set_cons_zero, List.set_cons_succ, List.set_set, add_ii, sub_ii, mul_ii, mod_ii, fdiv_ii, pow_lit, blt_int, blt_max, blt_min, blt_abs, aug_ii, tr_bl, lt_ii, le_ii, gt_ii, ge_ii, eq_ii, ne_ii, trim_p0, if_true, Bool.not_true, Bool.not_false, Bool.false_eq_true, if_false, R.tr_ok_bl, gOf_call, mkT_p2, len_t, sz1, sz2, sz3, sz4, sz6, D.items, wipeD]) (by rw [List.length_map, sizeLine_v]; simp only [List.length_nil]; omega)
    have e3 : (ns.map fun n => D.p (.int n)).filterMap (fun d => match d with
        | .p (.int i) => some (D.p (.int (if i < 0 then -i else i)))
        | _ => none) = (ns.map fun n => if n < 0 then -n else n).map fun n => D.p (.int n) := by
      clear s1 e1 s2 hcut hn
      induction ns with
      | nil => rfl
      | cons n ns ih => simp only [List.map_cons, List.filterMap_cons, ih]
    rw [e3] at s2
    have s3 : evE (gOf p F (callN p F (k + 1)) (callN p F k)) (.comp [1] (.blt .abs (.cons (.v 1) .nil)) (.v 1) (.of (.slc (.v 0) .none (.some (.c (.int 63))))) .nil) [some (.r 0), none] [.ro (ns.map .int)] =
        .ok (.r 2) [.ro (ns.map .int), .lst (ns.map fun n => .p (.int n)), intsO (ns.map fun n => if n < 0 then -n else n)] := by
      rw [comp_eq]
      simp only [evSs, evS.eq_1, evS.eq_2, evS.eq_3, evS.eq_4, evS.eq_5, evS.eq_6, evS.eq_7, evS.eq_10, evS.eq_11, evS.eq_12, evS.eq_13, evS.eq_14, evS.eq_15, evE.eq_1, evE.eq_2, evE.eq_3, evE.eq_4, evE.eq_5, evE.eq_6, evE.eq_7, evE.eq_8, evE.eq_9, evE.eq_10, evE.eq_11, evE.eq_12, evE.eq_13, evE.eq_14, evE.eq_15, evE.eq_16, evE.eq_17, evE.eq_18, evE.eq_19, evE.eq_21,  evEs, evO, evTs, evI, asgT, asgTs, slot, startD, R.of_some, R.of_none, R.bind_ok, R.bind_stuck, R.then_ok, RS.seq_next, RS.seq_ret, RS.seq_brk, RS.seq_cont, List.getElem?_cons_zero, List.getElem?_cons_succ, List.set_cons_zero, List.set_cons_succ, List.set_set, add_ii, sub_ii, mul_ii, mod_ii, fdiv_ii, pow_lit, blt_int, blt_max, blt_min, blt_abs, aug_ii, tr_bl, lt_ii, le_ii, gt_ii, ge_ii, eq_ii, ne_ii, trim_p0, if_true, Bool.not_true, Bool.not_false, Bool.false_eq_true, if_false, R.tr_ok_bl, gOf_call, mkT_p2, len_t, sz1, sz2, sz3, sz4, sz6, D.items, s1, e1]
      have s2 : loopC (gdOf [O.ro (ns.map .int), .lst (ns.map fun n => .p (.int n))] (.r 1)) 2 (bodyC (gOf p F (callN p F (k + 1)) (callN p F k)) [1] (.v 1) .nil (.blt .abs (.cons (.v 1) .nil)) [some (.r 0), none]) (ns.map fun n => D.p (.int n)) [] [O.ro (ns.map .int), .lst (ns.map fun n => .p (.int n)), .lst []] =
        .ok () [.ro (ns.map .int), .lst (ns.map fun n => .p (.int n)), intsO (ns.map fun n => if n < 0 then -n else n)] := s2
      show (R.bind (loopC _ 2 _ _ _ [O.ro (ns.map .int), .lst (ns.map fun n => .p (.int n)), .lst []]) _) = _
      rw [s2]
      rfl
    simp only [bagF, startD, List.map_cons, List.map_nil, List.length_cons, List.length_nil, List.replicate, List.cons_append, List.nil_append, evSs, evS.eq_1, evS.eq_2, evS.eq_3, evS.eq_4, evS.eq_5, evS.eq_6, evS.eq_7, evS.eq_10, evS.eq_11, evS.eq_12, evS.eq_13, evS.eq_14, evS.eq_15, evE.eq_1, evE.eq_2, evE.eq_3, evE.eq_4, evE.eq_5, evE.eq_6, evE.eq_7, evE.eq_8, evE.eq_9, evE.eq_10, evE.eq_11, evE.eq_12, evE.eq_13, evE.eq_14, evE.eq_15, evE.eq_16, evE.eq_17, evE.eq_18, evE.eq_19, evE.eq_21,  evEs, evO, evTs, evI, asgT, asgTs, slot, startD, R.of_some, R.of_none, R.bind_ok, R.bind_stuck, R.then_ok, RS.seq_next, RS.seq_ret, RS.seq_brk, RS.seq_cont, List.getElem?_cons_zero, List.getElem?_cons_succ, List.set_cons_zero, List.set_cons_succ, List.set_set, add_ii, sub_ii, mul_ii, mod_ii, fdiv_ii, pow_lit, blt_int, blt_max, blt_min, blt_abs, aug_ii, tr_bl, lt_ii, le_ii, gt_ii, ge_ii, eq_ii, ne_ii, trim_p0, if_true, Bool.not_true, Bool.not_false, Bool.false_eq_true, if_false, R.tr_ok_bl, gOf_call, mkT_p2, len_t, sz1, sz2, sz3, sz4, sz6, D.items, s3, mk]
    have tm := trim_more [O.ro (ns.map .int)] [.lst (ns.map fun n => .p (.int n)), intsO (ns.map fun n => if n < 0 then -n else n), bagO 0 1234567891 0 2] 3 (bagO 0 1234567891 0 2) (by show 1 ≤ 3; decide) rfl (by rfl)
    show backR _ (((trimR _ (R.ok (.r 3) ([O.ro (ns.map .int)] ++ [.lst (ns.map fun n => .p (.int n)), intsO (ns.map fun n => if n < 0 then -n else n), bagO 0 1234567891 0 2]))).then [some (.r 0), none] fun d h1 => RS.ret d h1).seq fun s1 h1 => RS.next s1 h1) = _
    rw [tm]
    exact tm
theorem law_starts {p : Prg} {F k t : Nat} (ht : p.fns[t]? = some bagF) (ns : List Int) (hn : ns.length ≤ 63) :
    ∃ b l h', Bag h' b l ∧ callN p F (k + 2) t [.r 0] [.ro (ns.map .int)] = .ok (.r b) h' := bag_ok ht ns hn
end Pv

/-! R: _law_some, loops by states. -/
namespace Pv
open PySem L2

theorem set_app {h t : Hh} {b : Nat} {o : O} (l : b < h.length) : (h ++ t).set b o = h.set b o ++ t := List.set_append_left _ _ l
theorem Bag.lt {h : Hh} {b l : Nat} (B : Bag h b l) : b < h.length ∧ l < h.length := by
  obtain ⟨_, ⟨cs, e, _⟩, _, _, _, e2, _⟩ := B
  exact ⟨(List.getElem?_eq_some_iff.mp e2).1, (List.getElem?_eq_some_iff.mp e).1⟩
theorem Bag.app {h : Hh} {b l : Nat} (B : Bag h b l) (t : Hh) : Bag (h ++ t) b l := by
  obtain ⟨ne, ⟨cs, e, r⟩, x0, x1, x2, e2, r2⟩ := B
  exact ⟨ne, ⟨cs, get_app e, r⟩, x0, x1, x2, get_app e2, r2⟩
theorem Bag.unapp {h t : Hh} {b l : Nat} (B : Bag (h ++ t) b l) (lb : b < h.length) (ll : l < h.length) : Bag h b l := by
  obtain ⟨ne, ⟨cs, e, r⟩, x0, x1, x2, e2, r2⟩ := B
  rw [List.getElem?_append_left ll] at e
  rw [List.getElem?_append_left lb] at e2
  exact ⟨ne, ⟨cs, e, r⟩, x0, x1, x2, e2, r2⟩
/-- how a bag moves on: the same heap but for the bag -/
def Next (h h' : Hh) (b l : Nat) : Prop := Bag h' b l ∧ ∃ x0 x1 x2, h' = h.set b (bagO x0 x1 x2 l)
theorem Next.refl {h : Hh} {b l : Nat} (B : Bag h b l) : Next h h b l := by
  refine ⟨B, ?_⟩
  obtain ⟨ne, _, x0, x1, x2, hb, _⟩ := B
  refine ⟨x0, x1, x2, List.ext_getElem? fun i => ?_⟩
  by_cases q : b = i
  · subst q; rw [get_set_self hb, hb]
  · rw [List.getElem?_set_ne q]
theorem Next.trans {h h1 h2 : Hh} {b l : Nat} (a : Next h h1 b l) (c : Next h1 h2 b l) : Next h h2 b l := by
  obtain ⟨_, y0, y1, y2, rfl⟩ := a
  obtain ⟨B, z0, z1, z2, rfl⟩ := c
  exact ⟨B, z0, z1, z2, by rw [List.set_set]⟩
theorem Next.length {h h' : Hh} {b l : Nat} (a : Next h h' b l) : h'.length = h.length := by
  obtain ⟨_, y0, y1, y2, rfl⟩ := a
  exact List.length_set
theorem Next.app {h h' : Hh} {b l : Nat} (lb : b < h.length) (a : Next h h' b l) (t : Hh) : Next (h ++ t) (h' ++ t) b l := by
  obtain ⟨B, y0, y1, y2, rfl⟩ := a
  exact ⟨B.app t, y0, y1, y2, by rw [set_app lb]⟩
theorem Next.unapp {h t h' : Hh} {b l : Nat} (B : Bag h b l) (a : Next (h ++ t) h' b l) : ∃ h1, h' = h1 ++ t ∧ Next h h1 b l := by
  obtain ⟨B', y0, y1, y2, rfl⟩ := a
  rw [set_app B.lt.1] at B' ⊢
  exact ⟨_, rfl, B'.unapp (by rw [List.length_set]; exact B.lt.1) (by rw [List.length_set]; exact B.lt.2), y0, y1, y2, rfl⟩
theorem Next.trim {h h' : Hh} {b l : Nat} (B : Bag h b l) (a : Next h h' b l) (t : Hh) (x : P) : trimR h (.ok (.p x) (h' ++ t)) = .ok (.p x) h' := by
  obtain ⟨_, y0, y1, y2, rfl⟩ := a
  exact trim_set h t x (by simp [bagO, O.under, D.unders, D.under, B.lt.2])
theorem Next.trim0 {h h' : Hh} {b l : Nat} (B : Bag h b l) (a : Next h h' b l) (x : P) : trimR h (.ok (.p x) h') = .ok (.p x) h' := by
  have := a.trim B [] x
  rwa [List.append_nil] at this
theorem take_next {p : Prg} {F k t : Nat} (ht : p.fns[t]? = some takeF) {h : Hh} {b l : Nat} {many : Int} (B : Bag h b l) (hm : 0 < many) (hm2 : many < 1073741824) :
    ∃ v h', 0 ≤ v ∧ v < many ∧ Next h h' b l ∧ callN p F (k + 2) t [.r b, .p (.int many)] h = .ok (.p (.int v)) h' := by
  obtain ⟨v, o, h1, h2, h3, ⟨x0, x1, x2, rfl⟩, e⟩ := take_ok (F := F) (k := k) ht h b l many B hm hm2
  exact ⟨v, _, h1, h2, ⟨h3, x0, x1, x2, rfl⟩, e⟩
/-- one of the things -/
theorem some_ok {p : Prg} {F k t t' : Nat} (ht : p.fns[t]? = some takeF) (hs : p.fns[t']? = some (someF t)) {h : Hh} {b l L : Nat} {items : List P} (B : Bag h b l) (hb : b ≠ L) (hL : h[L]? = some (.lst (items.map .p))) (h0 : items ≠ []) (h1 : items.length < 1000) :
    ∃ x h', x ∈ items ∧ Next h h' b l ∧ callN p F (k + 3) t' [.r b, .r L] h = .ok (.p x) h' := by
  have len : lenOf h (.r L) = some items.length := by simp [lenOf, hL]
  have pos : 0 < items.length := List.length_pos_iff.mpr h0
  obtain ⟨v, h', v0, v1, nx, e⟩ := take_next (F := F) (k := k) ht B (many := items.length) (by omega) (by omega)
  have hL' : lstOf h' (.r L) = some (items.map .p) := by
    obtain ⟨_, y0, y1, y2, rfl⟩ := nx
    simp [lstOf, List.getElem?_set_ne hb, hL]
  obtain ⟨n, rfl⟩ : ∃ n : Nat, v = n := ⟨v.toNat, by omega⟩
  have hn : n < items.length := by omega
  refine ⟨items[n], h', List.getElem_mem hn, nx, ?_⟩
  rw [show k + 3 = (k + 1) + 2 from rfl, call_eq hs rfl]
  have it : (items.map D.p)[n]? = some (.p items[n]) := by rw [List.getElem?_map, List.getElem?_eq_getElem hn]; rfl
  have bl : bltS .len [.r L] h = .ok (.p (.int items.length)) h := by simp only [bltS, len]; rfl
  simp only [someF, startD, List.map_cons, List.map_nil, List.length_cons, List.length_nil, List.replicate, List.cons_append, List.nil_append, List.append_nil, evSs, evS.eq_1, evS.eq_2, evS.eq_3, evS.eq_4, evS.eq_5, evS.eq_6, evS.eq_7, evS.eq_10, evS.eq_11, evS.eq_12, evS.eq_13, evS.eq_14, evS.eq_15, evE.eq_1, evE.eq_2, evE.eq_3, evE.eq_4, evE.eq_5, evE.eq_6, evE.eq_7, evE.eq_8, evE.eq_9, evE.eq_10, evE.eq_11, evE.eq_12, evE.eq_13, evE.eq_14, evE.eq_15, evE.eq_16, evE.eq_17, evE.eq_18, evE.eq_19, evE.eq_21,  evEs, evO, evTs, evI, asgT, asgTs, slot, startD, R.of_some, R.of_none, R.bind_ok, R.bind_stuck, R.then_ok, RS.seq_next, RS.seq_ret, RS.seq_brk, RS.seq_cont, List.getElem?_cons_zero, List.getElem?_cons_succ, List.set_cons_zero, List.set_cons_succ, List.set_set, add_ii, sub_ii, mul_ii, mod_ii, fdiv_ii, pow_lit, blt_int, blt_max, blt_min, blt_abs, aug_ii, tr_bl, lt_ii, le_ii, gt_ii, ge_ii, eq_ii, ne_ii, trim_p0, if_true, Bool.not_true, Bool.not_false, Bool.false_eq_true, if_false, R.tr_ok_bl, gOf_call, mkT_p2, len_t, sz1, sz2, sz3, sz4, sz6, D.items, gOf_call, bl, e, subS_r, hL', Option.bind_some, atI_nat, it]
  rw [nx.trim0 B]
  exact nx.trim0 B _

/-! ### loops by states -/
def runS {σ : Type} (step : σ → D → σ × D) (st : σ) : List D → σ
  | [] => st
  | d :: ds => runS step (step st d).1 ds
def outS {σ : Type} (step : σ → D → σ × D) (st : σ) : List D → List D
  | [] => []
  | d :: ds => (step st d).2 :: outS step (step st d).1 ds
theorem outS_length {σ : Type} (step : σ → D → σ × D) : ∀ (ds : List D) (st : σ), (outS step st ds).length = ds.length
  | [], _ => rfl
  | d :: ds, st => by rw [outS, List.length_cons, outS_length step ds, List.length_cons]
theorem loopC_fold {σ : Type} {gd : Gd} {body : D → Hh → R (Option D)} (n : Nat) (S : σ → Hh) (step : σ → D → σ × D) (len : ∀ st, (S st).length = n) (gok : ∀ st a, gd.ok (S st ++ [.lst a]) = true) :
    ∀ (ds acc : List D) (st : σ), (∀ d ∈ ds, ∀ st a, body d (S st ++ [.lst a]) = .ok (some (step st d).2) (S (step st d).1 ++ [.lst a])) → acc.length + ds.length ≤ sizeLine →
      loopC gd n body ds acc (S st ++ [.lst acc]) = .ok () (S (runS step st ds) ++ [.lst (acc ++ outS step st ds)])
  | [], acc, st, _, _ => by
    simp only [loopC, gok, Bool.true_and]
    rw [if_pos (by rw [decide_eq_true_eq, ← len st]; simp)]
    simp [runS, outS]
  | d :: ds, acc, st, hb, hl => by
    have hl' : acc.length + (ds.length + 1) ≤ sizeLine := hl
    have e2 : (S (step st d).1 ++ [O.lst acc]).set n (.lst (acc ++ [(step st d).2])) = S (step st d).1 ++ [.lst (acc ++ [(step st d).2])] := by
      rw [← len (step st d).1, List.set_append_right _ _ (Nat.le_refl _), Nat.sub_self]
      rfl
    simp only [loopC, gok, if_true, hb d List.mem_cons_self]
    rw [if_pos ⟨by rw [← len (step st d).1]; simp, by omega⟩, e2, loopC_fold n S step len gok ds _ _ (fun d hd => hb d (List.mem_cons_of_mem _ hd)) (by rw [List.length_append, List.length_singleton]; omega)]
    simp [runS, outS]
theorem trimS_same {h h' : Hh} {s : Sg} (l : h'.length = h.length) : trimS h s h' = h' := by
  unfold trimS
  split
  · rw [← l, List.take_length]
  · rfl
/-- a for loop that only moves a state on; I: what holds ahead of each turn -/
theorem loopS_fold {σ : Type} {gd : Gd} {body : D → Sg → Hh → RS} (n : Nat) (S : σ → Hh) (Z : σ → Sg) (step : σ → D → σ) (I : Nat → σ → Prop) (len : ∀ st, (S st).length = n) (gok : ∀ st, gd.ok (S st) = true) (all : List D)
    (hb : ∀ i d st, all[i]? = some d → I i st → I (i + 1) (step st d) ∧ body d (Z st) (S st) = .next (Z (step st d)) (S (step st d))) :
    ∀ (ds : List D) (i : Nat) (st : σ), all.drop i = ds → I i st → loopS gd body ds (Z st) (S st) = .next (Z (ds.foldl step st)) (S (ds.foldl step st))
  | [], i, st, _, _ => by simp only [loopS, gok, if_true, List.foldl_nil]
  | d :: ds, i, st, e, i0 => by
    have g : all[i]? = some d := by
      have := congrArg (fun l : List D => l[0]?) e
      simpa using this
    have e' : all.drop (i + 1) = ds := by
      have := congrArg List.tail e
      simpa using this
    obtain ⟨i1, eb⟩ := hb i d st g i0
    simp only [loopS, gok, if_true, eb]
    rw [trimS_same (by rw [len, len]), loopS_fold n S Z step I len gok all hb ds (i + 1) _ e' i1]
    rfl
end Pv

namespace L76
open PySem L2 Pv
def top (i : Nat) : Stmt := PySem.Challenge.pw_piecedruns_k76_areas_never_meet.main.body.getD i (.Pass ⟨0, 0, 0, 0⟩)
abbrev s0 : Stmt := top 2 -- placed
abbrev s1 : Stmt := top 3 -- apart
abbrev s2 : Stmt := top 5 -- _law_bag
abbrev s3 : Stmt := top 6 -- _law_take
abbrev s4 : Stmt := top 7 -- _law_some
abbrev s5 : Stmt := top 8 -- _law_alike
abbrev s6 : Stmt := top 9 -- _law_placed
abbrev s7 : Stmt := top 10 -- law
abbrev s8 : Stmt := inClass (top 1) 0 -- Ground.__init__
abbrev s9 : Stmt := inClass (top 1) 1 -- Ground.base_for
abbrev s10 : Stmt := inClass (top 1) 2 -- Ground.place
def nm : Nm := ⟨["placed", "apart", "_law_bag", "_law_take", "_law_some", "_law_alike", "_law_placed", "law"], ["Ground"], ["layout", "many", "bottom", "top", "append", "base_for", "place", "__init__"], [], ["__name__", "Ground", "placed", "apart", "_law_bag", "_law_take", "_law_some", "_law_alike", "_law_placed", "law"]⟩
def n0 : List Str := ["layout", "lengths", "ground", "length"]
def q0 : List Str := ["layout", "lengths"]
def f0 : FD := ⟨2, 4, (.cons (.asg (.v 2) (.make 0 (.cons (.v 0) .nil))) (.cons (.ret (.trim (.blt .tuple (.cons (.comp [3] (.meth (.v 2) 6 .none (.cons (.v 3) .nil)) (.v 3) (.of (.v 1)) .nil) .nil)))) .nil))⟩ -- placed
theorem f0_ok : cF nm n0 q0 s0 = some f0 := by kernel_rfl
def n1 : List Str := ["many", "gap"]
def q1 : List Str := ["many", "gap"]
def f1 : FD := ⟨2, 2, (.cons (.ret (.bin .mul (.tup (.cons (.v 1) .nil)) (.v 0))) .nil)⟩ -- apart
theorem f1_ok : cF nm n1 q1 s1 = some f1 := by kernel_rfl
def n2 : List Str := ["script", "cell"]
def q2 : List Str := ["script"]
def f2 : FD := ⟨1, 2, (.cons (.ret (.trim (.lst (.cons (.c (.int 0)) (.cons (.c (.int 1234567891)) (.cons (.c (.int 0)) (.cons (.comp [1] (.blt .abs (.cons (.v 1) .nil)) (.v 1) (.of (.slc (.v 0) .none (.some (.c (.int 63))))) .nil) .nil))))))) .nil)⟩ -- _law_bag
theorem f2_ok : cF nm n2 q2 s2 = some f2 := by kernel_rfl
def n3 : List Str := ["bag", "many", "begin", "second", "cell", "stirred", "value"]
def q3 : List Str := ["bag", "many"]
def f3 : FD := ⟨2, 7, (.cons (.ite (.cmp .eq (.sub (.v 0) (.c (.int 0))) (.c (.int 0))) (.cons (.asg (.v 4) (.trim (.sub (.bin .add (.slc (.sub (.v 0) (.c (.int 3))) (.some (.sub (.v 0) (.c (.int 2)))) .none) (.lst (.cons (.c (.int 0)) .nil))) (.c (.int 0))))) (.cons (.augSub (.v 0) (.c (.int 2)) .add (.c (.int 1))) (.cons (.ite (.cmp .ge (.v 4) (.bin .pow (.c (.int 10)) (.c (.int 18)))) (.cons (.asg (.sub (.v 0) (.c (.int 0))) (.v 4)) .nil) .nil) (.cons (.asg (.v 5) (.trim (.bin .add (.bin .add (.bin .mul (.sub (.v 0) (.c (.int 1))) (.c (.int 48271))) (.bin .mod (.blt .int (.cons (.v 4) .nil)) (.c (.int 2147483647)))) (.bin .mul (.c (.int 7919)) (.sub (.v 0) (.c (.int 2))))))) (.cons (.asg (.sub (.v 0) (.c (.int 1))) (.bin .mod (.blt .int (.cons (.v 5) .nil)) (.c (.int 2147483647)))) .nil))))) .nil) (.cons (.ite (.cmp .gt (.sub (.v 0) (.c (.int 0))) (.c (.int 0))) (.cons (.asg (.v 6) (.bin .mod (.blt .int (.cons (.sub (.v 0) (.c (.int 0))) .nil)) (.v 1))) (.cons (.asg (.sub (.v 0) (.c (.int 0))) (.bin .fdiv (.blt .int (.cons (.sub (.v 0) (.c (.int 0))) .nil)) (.v 1))) (.cons (.ret (.v 6)) .nil))) .nil) (.cons (.asg (.v 2) (.trim (.bin .mod (.blt .int (.cons (.bin .mul (.bin .add (.sub (.v 0) (.c (.int 1))) (.c (.int 1))) (.c (.int 39373))) .nil)) (.c (.int 1000000007))))) (.cons (.asg (.v 3) (.trim (.bin .mod (.blt .int (.cons (.bin .mul (.bin .mod (.blt .int (.cons (.bin .mul (.v 2) (.v 2)) .nil)) (.c (.int 998244353))) (.c (.int 30011))) .nil)) (.c (.int 998244353))))) (.cons (.ret (.bin .mod (.blt .int (.cons (.bin .fdiv (.v 3) (.c (.int 7))) .nil)) (.v 1))) .nil)))))⟩ -- _law_take
theorem f3_ok : cF nm n3 q3 s3 = some f3 := by kernel_rfl
def n4 : List Str := ["bag", "things"]
def q4 : List Str := ["bag", "things"]
def f4 : FD := ⟨2, 2, (.cons (.ret (.trim (.sub (.v 1) (.call 3 (.cons (.v 0) (.cons (.blt .len (.cons (.v 1) .nil)) .nil)))))) .nil)⟩ -- _law_some
theorem f4_ok : cF nm n4 q4 s4 = some f4 := by kernel_rfl
def n5 : List Str := ["found", "due"]
def q5 : List Str := ["found", "due"]
def f5 : FD := ⟨2, 2, (.cons (.ret (.and (.cmp .eq (.blt .repr (.cons (.v 0) .nil)) (.blt .repr (.cons (.v 1) .nil))) (.cmp .eq (.v 0) (.v 1)))) .nil)⟩ -- _law_alike
theorem f5_ok : cF nm n5 q5 s5 = some f5 := by kernel_rfl
def n6 : List Str := ["layout", "lengths", "found", "low", "top", "k", "length", "base", "size", "g"]
def q6 : List Str := ["layout", "lengths"]
def f6 : FD := ⟨2, 10, (.cons (.par (.cons (.v 2) (.cons (.v 3) (.cons (.v 4) .nil))) (.cons (.lst .nil) (.cons (.c (.int 0)) (.cons (.c (.int 0)) .nil)))) (.cons (.for (.tup 2 (.cons (.v 5) (.cons (.v 6) .nil))) (.enum (.v 1)) (.cons (.par (.cons (.v 8) (.cons (.v 9) .nil)) (.cons (.blt .max (.cons (.c (.int 0)) (.cons (.v 6) .nil))) (.cons (.ite (.cmp .lt (.v 5) (.blt .len (.cons (.v 0) .nil))) (.sub (.v 0) (.v 5)) (.c (.int 0))) .nil))) (.cons (.asg (.v 7) (.trim (.ite (.cmp .ge (.v 9) (.c (.int 0))) (.bin .add (.v 4) (.v 9)) (.bin .sub (.bin .add (.bin .add (.v 3) (.c (.int 1))) (.v 9)) (.v 8))))) (.cons (.ite (.cmp .eq (.v 5) (.c (.int 0))) (.cons (.par (.cons (.v 3) (.cons (.v 4) .nil)) (.cons (.v 7) (.cons (.bin .add (.v 7) (.v 8)) .nil))) .nil) .nil) (.cons (.par (.cons (.v 3) (.cons (.v 4) .nil)) (.cons (.blt .min (.cons (.v 3) (.cons (.v 7) .nil))) (.cons (.blt .max (.cons (.v 4) (.cons (.bin .add (.v 7) (.v 8)) .nil))) .nil))) (.cons (.expr (.meth (.v 2) 4 .append (.cons (.v 7) .nil))) .nil)))))) (.cons (.ret (.blt .tuple (.cons (.v 2) .nil))) .nil)))⟩ -- _law_placed
theorem f6_ok : cF nm n6 q6 s6 = some f6 := by kernel_rfl
def n7 : List Str := ["script", "bag", "turn", "many", "lengths", "layout", "bases", "rows", "gap", "ends", "lap", "k", "base", "length"]
def q7 : List Str := ["script"]
def f7 : FD := ⟨1, 14, (.cons (.asg (.v 1) (.call 2 (.cons (.v 0) .nil))) (.cons (.for (.v 2) (.rng1 (.c (.int 8))) (.cons (.asg (.v 3) (.call 3 (.cons (.v 1) (.cons (.c (.int 9)) .nil)))) (.cons (.asg (.v 4) (.trim (.blt .tuple (.cons (.comp [10] (.trim (.call 4 (.cons (.v 1) (.cons (.lst (.cons (.c (.int 0)) (.cons (.c (.int 1)) (.cons (.c (.int 2)) (.cons (.c (.int 7)) (.cons (.neg (.c (.int 2))) (.cons (.c (.int 40)) .nil))))))) .nil)))) (.v 10) (.rng1 (.v 3)) .nil) .nil)))) (.cons (.asg (.v 5) (.trim (.blt .tuple (.cons (.comp [10] (.trim (.bin .sub (.call 3 (.cons (.v 1) (.cons (.c (.int 9)) .nil))) (.c (.int 4)))) (.v 10) (.rng1 (.call 3 (.cons (.v 1) (.cons (.c (.int 12)) .nil)))) .nil) .nil)))) (.cons (.asg (.v 6) (.call 0 (.cons (.v 5) (.cons (.v 4) .nil)))) (.cons (.ite (.trim (.not (.call 5 (.cons (.v 6) (.cons (.call 6 (.cons (.v 5) (.cons (.v 4) .nil))) .nil))))) (.cons (.ret (.c (.bl false))) .nil) .nil) (.cons (.asg (.v 7) (.trim (.blt .sorted (.cons (.comp [12, 13] (.trim (.tup (.cons (.v 12) (.cons (.bin .add (.v 12) (.v 13)) .nil)))) (.tup 2 (.cons (.v 12) (.cons (.v 13) .nil))) (.zip (.v 6) (.v 4)) (.cons (.cmp .gt (.v 13) (.c (.int 0))) .nil)) .nil)))) (.cons (.ite (.trim (.cmp .ne (.comp [11] (.v 11) (.v 11) (.rng2 (.c (.int 1)) (.blt .len (.cons (.v 7) .nil))) (.cons (.cmp .lt (.sub (.sub (.v 7) (.v 11)) (.c (.int 0))) (.sub (.sub (.v 7) (.bin .sub (.v 11) (.c (.int 1)))) (.c (.int 1)))) .nil)) (.lst .nil))) (.cons (.ret (.c (.bl false))) .nil) .nil) (.cons (.asg (.v 8) (.call 3 (.cons (.v 1) (.cons (.c (.int 6)) .nil)))) (.cons (.ite (.trim (.not (.call 5 (.cons (.call 1 (.cons (.v 3) (.cons (.v 8) .nil))) (.cons (.bin .mul (.tup (.cons (.v 8) .nil)) (.v 3)) .nil))))) (.cons (.ret (.c (.bl false))) .nil) .nil) (.cons (.asg (.v 6) (.trim (.call 0 (.cons (.call 1 (.cons (.v 3) (.cons (.v 8) .nil))) (.cons (.v 4) .nil))))) (.cons (.asg (.v 9) (.comp [12, 13] (.bin .add (.v 12) (.blt .max (.cons (.c (.int 0)) (.cons (.v 13) .nil)))) (.tup 2 (.cons (.v 12) (.cons (.v 13) .nil))) (.zip (.v 6) (.v 4)) .nil)) (.cons (.ite (.trim (.cmp .ne (.comp [11] (.v 11) (.v 11) (.rng2 (.c (.int 1)) (.v 3)) (.cons (.cmp .ne (.sub (.v 6) (.v 11)) (.bin .add (.sub (.v 9) (.bin .sub (.v 11) (.c (.int 1)))) (.v 8))) .nil)) (.lst .nil))) (.cons (.ret (.c (.bl false))) .nil) .nil) .nil))))))))))))) (.cons (.ret (.c (.bl true))) .nil)))⟩ -- law
theorem f7_ok : cF nm n7 q7 s7 = some f7 := by kernel_rfl
def n8 : List Str := ["self", "layout"]
def q8 : List Str := ["self", "layout"]
def f8 : FD := ⟨2, 2, (.cons (.asg (.attr (.v 0) 0) (.v 1)) (.cons (.asg (.attr (.v 0) 1) (.c (.int 0))) (.cons (.asg (.attr (.v 0) 2) (.c (.int 0))) (.cons (.asg (.attr (.v 0) 3) (.c (.int 0))) .nil))))⟩ -- Ground.__init__
theorem f8_ok : cF nm n8 q8 s8 = some f8 := by kernel_rfl
def n9 : List Str := ["self", "length", "gap"]
def q9 : List Str := ["self", "length"]
def f9 : FD := ⟨2, 3, (.cons (.asg (.v 2) (.ite (.cmp .lt (.attr (.v 0) 1) (.blt .len (.cons (.attr (.v 0) 0) .nil))) (.sub (.attr (.v 0) 0) (.attr (.v 0) 1)) (.c (.int 0)))) (.cons (.ret (.trim (.ite (.cmp .ge (.v 2) (.c (.int 0))) (.bin .add (.attr (.v 0) 3) (.v 2)) (.bin .sub (.bin .add (.bin .add (.attr (.v 0) 2) (.c (.int 1))) (.v 2)) (.blt .max (.cons (.c (.int 0)) (.cons (.v 1) .nil))))))) .nil))⟩ -- Ground.base_for
theorem f9_ok : cF nm n9 q9 s9 = some f9 := by kernel_rfl
def n10 : List Str := ["self", "length", "base", "end"]
def q10 : List Str := ["self", "length"]
def f10 : FD := ⟨2, 4, (.cons (.par (.cons (.v 2) (.cons (.v 3) .nil)) (.cons (.meth (.v 0) 5 .none (.cons (.v 1) .nil)) (.cons (.bin .add (.meth (.v 0) 5 .none (.cons (.v 1) .nil)) (.blt .max (.cons (.c (.int 0)) (.cons (.v 1) .nil)))) .nil))) (.cons (.ite (.cmp .eq (.attr (.v 0) 1) (.c (.int 0))) (.cons (.asg (.tup 2 (.cons (.attr (.v 0) 2) (.cons (.attr (.v 0) 3) .nil))) (.tup (.cons (.v 2) (.cons (.v 3) .nil)))) .nil) .nil) (.cons (.asg (.tup 2 (.cons (.attr (.v 0) 2) (.cons (.attr (.v 0) 3) .nil))) (.tup (.cons (.blt .min (.cons (.attr (.v 0) 2) (.cons (.v 2) .nil))) (.cons (.blt .max (.cons (.attr (.v 0) 3) (.cons (.v 3) .nil))) .nil)))) (.cons (.augAttr (.v 0) 1 .add (.c (.int 1))) (.cons (.ret (.v 2)) .nil)))))⟩ -- Ground.place
theorem f10_ok : cF nm n10 q10 s10 = some f10 := by kernel_rfl
def prg : Prg := { fns := [f0, f1, f2, f3, f4, f5, f6, f7, f8, f9, f10], cls := [(some 8, [(7, 8), (5, 9), (6, 10)], [0, 1, 2, 3])] }
theorem tab {K : PySem.W.Frag} {h : Heap} {mg : Str → Option Value} {fa : Addr} {a0 a1 a2 a3 a4 a5 a6 a7 a8 a9 a10 C0 : Addr} {od0 an0 od1 an1 od2 an2 od3 an3 od4 an4 od5 an5 od6 an6 od7 an7 od8 an8 od9 an9 od10 an10 : Option Addr} {sl0 sl1 sl2 sl3 sl4 sl5 sl6 sl7 sl8 sl9 sl10 : Array (Option Value)} {oc0 kV0 dc0 pm0 cd0 ct0 oc1 kV1 dc1 pm1 cd1 ct1 oc2 kV2 dc2 pm2 cd2 ct2 oc3 kV3 dc3 pm3 cd3 ct3 oc4 kV4 dc4 pm4 cd4 ct4 oc5 kV5 dc5 pm5 cd5 ct5 oc6 kV6 dc6 pm6 cd6 ct6 oc7 kV7 dc7 pm7 cd7 ct7 oc8 kV8 dc8 pm8 cd8 ct8 oc9 kV9 dc9 pm9 cd9 ct9 oc10 kV10 dc10 pm10 cd10 ct10 : Value} (X : K.In h) (G : h.Ns mainGlobals mg) (hfa : mg "law" = some (.ref fa))
    (e0 : PySem.W.nsIn K mainGlobals "placed" = some (some (.ref a0)))
    (l0 : K.lookup a0 = some ⟨oc0, od0, .func (PySem.W.fnOf "placed" "placed" (defArgs s0) (defBody s0) (defScope s0) .none kV0 dc0 pm0 an0 cd0 ct0), sl0⟩)
    (c0 : PySem.W.codeIn K cd0 "placed" = true)
    (k0 : PySem.W.keepIn K (.ref a0) = true)
    (e1 : PySem.W.nsIn K mainGlobals "apart" = some (some (.ref a1)))
    (l1 : K.lookup a1 = some ⟨oc1, od1, .func (PySem.W.fnOf "apart" "apart" (defArgs s1) (defBody s1) (defScope s1) .none kV1 dc1 pm1 an1 cd1 ct1), sl1⟩)
    (c1 : PySem.W.codeIn K cd1 "apart" = true)
    (k1 : PySem.W.keepIn K (.ref a1) = true)
    (e2 : PySem.W.nsIn K mainGlobals "_law_bag" = some (some (.ref a2)))
    (l2 : K.lookup a2 = some ⟨oc2, od2, .func (PySem.W.fnOf "_law_bag" "_law_bag" (defArgs s2) (defBody s2) (defScope s2) .none kV2 dc2 pm2 an2 cd2 ct2), sl2⟩)
    (c2 : PySem.W.codeIn K cd2 "_law_bag" = true)
    (k2 : PySem.W.keepIn K (.ref a2) = true)
    (e3 : PySem.W.nsIn K mainGlobals "_law_take" = some (some (.ref a3)))
    (l3 : K.lookup a3 = some ⟨oc3, od3, .func (PySem.W.fnOf "_law_take" "_law_take" (defArgs s3) (defBody s3) (defScope s3) .none kV3 dc3 pm3 an3 cd3 ct3), sl3⟩)
    (c3 : PySem.W.codeIn K cd3 "_law_take" = true)
    (k3 : PySem.W.keepIn K (.ref a3) = true)
    (e4 : PySem.W.nsIn K mainGlobals "_law_some" = some (some (.ref a4)))
    (l4 : K.lookup a4 = some ⟨oc4, od4, .func (PySem.W.fnOf "_law_some" "_law_some" (defArgs s4) (defBody s4) (defScope s4) .none kV4 dc4 pm4 an4 cd4 ct4), sl4⟩)
    (c4 : PySem.W.codeIn K cd4 "_law_some" = true)
    (k4 : PySem.W.keepIn K (.ref a4) = true)
    (e5 : PySem.W.nsIn K mainGlobals "_law_alike" = some (some (.ref a5)))
    (l5 : K.lookup a5 = some ⟨oc5, od5, .func (PySem.W.fnOf "_law_alike" "_law_alike" (defArgs s5) (defBody s5) (defScope s5) .none kV5 dc5 pm5 an5 cd5 ct5), sl5⟩)
    (c5 : PySem.W.codeIn K cd5 "_law_alike" = true)
    (k5 : PySem.W.keepIn K (.ref a5) = true)
    (e6 : PySem.W.nsIn K mainGlobals "_law_placed" = some (some (.ref a6)))
    (l6 : K.lookup a6 = some ⟨oc6, od6, .func (PySem.W.fnOf "_law_placed" "_law_placed" (defArgs s6) (defBody s6) (defScope s6) .none kV6 dc6 pm6 an6 cd6 ct6), sl6⟩)
    (c6 : PySem.W.codeIn K cd6 "_law_placed" = true)
    (k6 : PySem.W.keepIn K (.ref a6) = true)
    (e7 : PySem.W.nsIn K mainGlobals "law" = some (some (.ref a7)))
    (l7 : K.lookup a7 = some ⟨oc7, od7, .func (PySem.W.fnOf "law" "law" (defArgs s7) (defBody s7) (defScope s7) .none kV7 dc7 pm7 an7 cd7 ct7), sl7⟩)
    (c7 : PySem.W.codeIn K cd7 "law" = true)
    (k7 : PySem.W.keepIn K (.ref a7) = true)
    (w0 : PySem.W.nsIn K mainGlobals "Ground" = some (some (.ref C0)))
    (e8 : PySem.W.findIn K (.ref C0) "__init__" = some (some (.ref a8)))
    (i8 : PySem.W.isFn K (.ref a8) = true)
    (l8 : K.lookup a8 = some ⟨oc8, od8, .func (PySem.W.fnOf "__init__" "Ground.__init__" (defArgs s8) (defBody s8) (defScope s8) .none kV8 dc8 pm8 an8 cd8 ct8), sl8⟩)
    (c8 : PySem.W.codeIn K cd8 "Ground.__init__" = true)
    (k8 : PySem.W.keepIn K (.ref a8) = true)
    (e9 : PySem.W.findIn K (.ref C0) "base_for" = some (some (.ref a9)))
    (i9 : PySem.W.isFn K (.ref a9) = true)
    (l9 : K.lookup a9 = some ⟨oc9, od9, .func (PySem.W.fnOf "base_for" "Ground.base_for" (defArgs s9) (defBody s9) (defScope s9) .none kV9 dc9 pm9 an9 cd9 ct9), sl9⟩)
    (c9 : PySem.W.codeIn K cd9 "Ground.base_for" = true)
    (k9 : PySem.W.keepIn K (.ref a9) = true)
    (e10 : PySem.W.findIn K (.ref C0) "place" = some (some (.ref a10)))
    (i10 : PySem.W.isFn K (.ref a10) = true)
    (l10 : K.lookup a10 = some ⟨oc10, od10, .func (PySem.W.fnOf "place" "Ground.place" (defArgs s10) (defBody s10) (defScope s10) .none kV10 dc10 pm10 an10 cd10 ct10), sl10⟩)
    (c10 : PySem.W.codeIn K cd10 "Ground.place" = true)
    (k10 : PySem.W.keepIn K (.ref a10) = true)
    (pg0 : PySem.W.plainGet K C0 Str.empty = true)
    (hd0 : PySem.W.hasDictIn K C0 = true)
    (po0 : PySem.W.plainOver K C0 = true)
    (sa0 : PySem.W.findIn K (.ref C0) "__setattr__" = some (some (.builtin "object.__setattr__")))
    (mk0 : PySem.W.makesIn K C0 = true)
    (kc0 : PySem.W.keepIn K (.ref C0) = true)
    (n0_0 : PySem.W.findIn K (.ref C0) "layout" = some none)
    (n0_1 : PySem.W.findIn K (.ref C0) "many" = some none)
    (n0_2 : PySem.W.findIn K (.ref C0) "bottom" = some none)
    (n0_3 : PySem.W.findIn K (.ref C0) "top" = some none)
    (z_len : PySem.W.nsIn K mainGlobals "len" = some none)
    (z_abs : PySem.W.nsIn K mainGlobals "abs" = some none)
    (z_int : PySem.W.nsIn K mainGlobals "int" = some none)
    (z_max : PySem.W.nsIn K mainGlobals "max" = some none)
    (z_min : PySem.W.nsIn K mainGlobals "min" = some none)
    (z_tuple : PySem.W.nsIn K mainGlobals "tuple" = some none)
    (z_list : PySem.W.nsIn K mainGlobals "list" = some none)
    (z_sorted : PySem.W.nsIn K mainGlobals "sorted" = some none)
    (z_repr : PySem.W.nsIn K mainGlobals "repr" = some none)
    (z_range : PySem.W.nsIn K mainGlobals "range" = some none)
    (z_enumerate : PySem.W.nsIn K mainGlobals "enumerate" = some none)
    (z_zip : PySem.W.nsIn K mainGlobals "zip" = some none) :
    ∃ (c : Ct) (adr : Nat → Addr), adr 7 = fa ∧ TabOk K mg c nm prg adr := by
  have eq := hfa.symm.trans (PySem.W.mg_of X G e7)
  have eq2 : a7 = fa := by cases eq; rfl
  have F0 := fun_mk (st := s0) l0 c0 k0
  have b0 := F0.binds (ps := ["layout", "lengths"]) fun _ _ _ _ _ _ us hl => match us, hl with | [_, _], _ => rfl
  have F1 := fun_mk (st := s1) l1 c1 k1
  have b1 := F1.binds (ps := ["many", "gap"]) fun _ _ _ _ _ _ us hl => match us, hl with | [_, _], _ => rfl
  have F2 := fun_mk (st := s2) l2 c2 k2
  have b2 := F2.binds (ps := ["script"]) fun _ _ _ _ _ _ us hl => match us, hl with | [_], _ => rfl
  have F3 := fun_mk (st := s3) l3 c3 k3
  have b3 := F3.binds (ps := ["bag", "many"]) fun _ _ _ _ _ _ us hl => match us, hl with | [_, _], _ => rfl
  have F4 := fun_mk (st := s4) l4 c4 k4
  have b4 := F4.binds (ps := ["bag", "things"]) fun _ _ _ _ _ _ us hl => match us, hl with | [_, _], _ => rfl
  have F5 := fun_mk (st := s5) l5 c5 k5
  have b5 := F5.binds (ps := ["found", "due"]) fun _ _ _ _ _ _ us hl => match us, hl with | [_, _], _ => rfl
  have F6 := fun_mk (st := s6) l6 c6 k6
  have b6 := F6.binds (ps := ["layout", "lengths"]) fun _ _ _ _ _ _ us hl => match us, hl with | [_, _], _ => rfl
  have F7 := fun_mk (st := s7) l7 c7 k7
  have b7 := F7.binds (ps := ["script"]) fun _ _ _ _ _ _ us hl => match us, hl with | [_], _ => rfl
  have F8 := fun_mk (st := s8) l8 c8 k8
  have b8 := F8.binds (ps := ["self", "layout"]) fun _ _ _ _ _ _ us hl => match us, hl with | [_, _], _ => rfl
  have F9 := fun_mk (st := s9) l9 c9 k9
  have b9 := F9.binds (ps := ["self", "length"]) fun _ _ _ _ _ _ us hl => match us, hl with | [_, _], _ => rfl
  have F10 := fun_mk (st := s10) l10 c10 k10
  have b10 := F10.binds (ps := ["self", "length"]) fun _ _ _ _ _ _ us hl => match us, hl with | [_, _], _ => rfl
  refine ⟨ctOf nm prg [C0], adrOf [a0, a1, a2, a3, a4, a5, a6, a7, a8, a9, a10], eq2, tab_mk (by decide +kernel) (by decide +kernel) ?_ ?_ ?_ ?_ ?_ ?_⟩
  · exact Each.c (defOk_mk F0 b0 f0_ok) (Each.c (defOk_mk F1 b1 f1_ok) (Each.c (defOk_mk F2 b2 f2_ok) (Each.c (defOk_mk F3 b3 f3_ok) (Each.c (defOk_mk F4 b4 f4_ok) (Each.c (defOk_mk F5 b5 f5_ok) (Each.c (defOk_mk F6 b6 f6_ok) (Each.c (defOk_mk F7 b7 f7_ok) (Each.c (defOk_mk F8 b8 f8_ok) (Each.c (defOk_mk F9 b9 f9_ok) (Each.c (defOk_mk F10 b10 f10_ok) (Each.n)))))))))))
  · exact Each.c (PySem.W.mg_of X G e0) (Each.c (PySem.W.mg_of X G e1) (Each.c (PySem.W.mg_of X G e2) (Each.c (PySem.W.mg_of X G e3) (Each.c (PySem.W.mg_of X G e4) (Each.c (PySem.W.mg_of X G e5) (Each.c (PySem.W.mg_of X G e6) (Each.c (PySem.W.mg_of X G e7) (Each.n))))))))
  · exact Each.c (⟨⟨pg0, hd0, po0, sa0⟩, ⟨8, rfl, ⟨mk0, e8, i8, kc0⟩, by decide⟩, ⟨⟨"__init__", rfl, rfl, ⟨e8, i8, k8⟩, by decide⟩, ⟨⟨"base_for", rfl, rfl, ⟨e9, i9, k9⟩, by decide⟩, ⟨⟨"place", rfl, rfl, ⟨e10, i10, k10⟩, by decide⟩, trivial⟩⟩⟩, ⟨⟨"layout", rfl, n0_0⟩, ⟨⟨"many", rfl, n0_1⟩, ⟨⟨"bottom", rfl, n0_2⟩, ⟨⟨"top", rfl, n0_3⟩, trivial⟩⟩⟩⟩⟩) (Each.n)
  · exact Each.c (PySem.W.mg_of X G w0) (Each.n)
  · exact All_.c (.inr (PySem.W.mg_none_of X G z_len)) (All_.c (.inr (PySem.W.mg_none_of X G z_abs)) (All_.c (.inr (PySem.W.mg_none_of X G z_int)) (All_.c (.inr (PySem.W.mg_none_of X G z_max)) (All_.c (.inr (PySem.W.mg_none_of X G z_min)) (All_.c (.inr (PySem.W.mg_none_of X G z_tuple)) (All_.c (.inr (PySem.W.mg_none_of X G z_list)) (All_.c (.inr (PySem.W.mg_none_of X G z_sorted)) (All_.c (.inr (PySem.W.mg_none_of X G z_repr)) (All_.c (.inr (PySem.W.mg_none_of X G z_range)) (All_.c (.inr (PySem.W.mg_none_of X G z_enumerate)) (All_.c (.inr (PySem.W.mg_none_of X G z_zip)) (All_.n))))))))))))
  · exact trivial
end L76

namespace L76
open PySem L2 Pv

theorem gOf_fok {F : Nat} {c i : Nat → List D → Hh → R D} : ∀ f, f < 4 → (gOf prg F c i).fok 0 f = true
  | 0, _ => rfl
  | 1, _ => rfl
  | 2, _ => rfl
  | 3, _ => rfl
  | _ + 4, h => absurd h (by omega)
theorem gOf_meth {F : Nat} {c i : Nat → List D → Hh → R D} : (gOf prg F c i).meth 0 5 = some 9 ∧ (gOf prg F c i).meth 0 6 = some 10 := ⟨rfl, rfl⟩
/-- the ground -/
def gr (L : List Int) (m lo hi : Int) : O := .ins 0 [(0, .p (.tup (L.map .int))), (1, .p (.int m)), (2, .p (.int lo)), (3, .p (.int hi))]
theorem gr_under (L : List Int) (m lo hi : Int) (n : Nat) : (gr L m lo hi).under n = true := rfl
def gap (L : List Int) (m : Nat) : Int := L.getD m 0
def mx (len : Int) : Int := if len > 0 then len else 0
def baseOf (g lo hi len : Int) : Int := if 0 ≤ g then hi + g else lo + 1 + g - mx len
theorem at0 {h : Hh} {i : Nat} {L m lo hi} (e : h[i]? = some (gr L m lo hi)) : attrS (.r i) 0 h = .ok (.p (.tup (L.map .int))) h := by simp only [attrS, e, gr]; rfl
theorem at1 {h : Hh} {i : Nat} {L m lo hi} (e : h[i]? = some (gr L m lo hi)) : attrS (.r i) 1 h = .ok (.p (.int m)) h := by simp only [attrS, e, gr]; rfl
theorem at2 {h : Hh} {i : Nat} {L m lo hi} (e : h[i]? = some (gr L m lo hi)) : attrS (.r i) 2 h = .ok (.p (.int lo)) h := by simp only [attrS, e, gr]; rfl
theorem at3 {h : Hh} {i : Nat} {L m lo hi} (e : h[i]? = some (gr L m lo hi)) : attrS (.r i) 3 h = .ok (.p (.int hi)) h := by simp only [attrS, e, gr]; rfl
theorem meth6 {F : Nat} {c i : Nat → List D → Hh → R D} {h : Hh} {j : Nat} {L m lo hi} (e : h[j]? = some (gr L m lo hi)) : methK (gOf prg F c i) 6 .none (.r j) h = .fn 10 := by simp only [methK, e, gr]; rfl
theorem base_ok {F k : Nat} {h : Hh} {i : Nat} {L : List Int} {m : Nat} {lo hi len : Int} (e : h[i]? = some (gr L m lo hi)) : callN prg F (k + 2) 9 [.r i, .p (.int len)] h = .ok (.p (.int (baseOf (gap L m) lo hi len))) h := by
  rw [call_eq (fd := f9) rfl rfl]
  have idx : ∀ q : m < L.length, (atI (L.map P.int) (m : Int)).map D.p = some (.p (.int L[m])) := fun q => by
    rw [Pv.atI_nat, List.getElem?_map, List.getElem?_eq_getElem q]; rfl
  by_cases q : m < L.length
  · have gq : gap L m = L[m] := by unfold gap; rw [List.getD_eq_getElem?_getD, List.getElem?_eq_getElem q]; rfl
    have q' : decide ((m : Int) < (L.length : Int)) = true := decide_eq_true (by omega)
    have idx := idx q
    rw [← gq] at idx
    by_cases q2 : 0 ≤ gap L m
    · simp only [f9, startD, List.map_cons, List.map_nil, List.length_cons, List.length_nil, List.replicate, List.cons_append, List.nil_append, List.append_nil, evSs, evS.eq_1, evS.eq_2, evS.eq_3, evS.eq_4, evS.eq_5, evS.eq_6, evS.eq_7, evS.eq_10, evS.eq_11, evS.eq_12, evS.eq_13, evS.eq_14, evS.eq_15, evE.eq_1, evE.eq_2, evE.eq_3, evE.eq_4, evE.eq_5, evE.eq_6, evE.eq_7, evE.eq_8, evE.eq_9, evE.eq_10, evE.eq_11, evE.eq_12, evE.eq_13, evE.eq_14, evE.eq_15, evE.eq_16, evE.eq_17, evE.eq_18, evE.eq_19, evE.eq_21,  evEs, evO, evTs, evI, asgT, asgTs, slot, startD, R.of_some, R.of_none, R.bind_ok, R.bind_stuck, R.then_ok, RS.seq_next, RS.seq_ret, RS.seq_brk, RS.seq_cont, List.getElem?_cons_zero, List.getElem?_cons_succ, List.set_cons_zero, List.set_cons_succ, List.set_set, add_ii, sub_ii, mul_ii, mod_ii, fdiv_ii, pow_lit, blt_int, blt_max, blt_min, blt_abs, aug_ii, tr_bl, lt_ii, le_ii, gt_ii, ge_ii, eq_ii, ne_ii, trim_p0, if_true, Bool.not_true, Bool.not_false, Bool.false_eq_true, if_false, R.tr_ok_bl, gOf_call, mkT_p2, len_t, sz1, sz2, sz3, sz4, sz6, D.items, at0 e, at1 e, at2 e, at3 e, List.length_map, q', subS_t, idx, q2, decide_true]
      unfold baseOf
      rw [if_pos q2]
      exact trim_p0 h _
    · simp only [f9, startD, List.map_cons, List.map_nil, List.length_cons, List.length_nil, List.replicate, List.cons_append, List.nil_append, List.append_nil, evSs, evS.eq_1, evS.eq_2, evS.eq_3, evS.eq_4, evS.eq_5, evS.eq_6, evS.eq_7, evS.eq_10, evS.eq_11, evS.eq_12, evS.eq_13, evS.eq_14, evS.eq_15, evE.eq_1, evE.eq_2, evE.eq_3, evE.eq_4, evE.eq_5, evE.eq_6, evE.eq_7, evE.eq_8, evE.eq_9, evE.eq_10, evE.eq_11, evE.eq_12, evE.eq_13, evE.eq_14, evE.eq_15, evE.eq_16, evE.eq_17, evE.eq_18, evE.eq_19, evE.eq_21,  evEs, evO, evTs, evI, asgT, asgTs, slot, startD, R.of_some, R.of_none, R.bind_ok, R.bind_stuck, R.then_ok, RS.seq_next, RS.seq_ret, RS.seq_brk, RS.seq_cont, List.getElem?_cons_zero, List.getElem?_cons_succ, List.set_cons_zero, List.set_cons_succ, List.set_set, add_ii, sub_ii, mul_ii, mod_ii, fdiv_ii, pow_lit, blt_int, blt_max, blt_min, blt_abs, aug_ii, tr_bl, lt_ii, le_ii, gt_ii, ge_ii, eq_ii, ne_ii, trim_p0, if_true, Bool.not_true, Bool.not_false, Bool.false_eq_true, if_false, R.tr_ok_bl, gOf_call, mkT_p2, len_t, sz1, sz2, sz3, sz4, sz6, D.items, at0 e, at1 e, at2 e, at3 e, List.length_map, q', subS_t, idx, q2, decide_false]
      unfold baseOf mx
      rw [if_neg q2]
      exact trim_p0 h _
  · have gq : gap L m = 0 := by unfold gap; rw [List.getD_eq_getElem?_getD, List.getElem?_eq_none (by omega)]; rfl
    have q' : decide ((m : Int) < (L.length : Int)) = false := decide_eq_false (by omega)
    simp only [f9, startD, List.map_cons, List.map_nil, List.length_cons, List.length_nil, List.replicate, List.cons_append, List.nil_append, List.append_nil, evSs, evS.eq_1, evS.eq_2, evS.eq_3, evS.eq_4, evS.eq_5, evS.eq_6, evS.eq_7, evS.eq_10, evS.eq_11, evS.eq_12, evS.eq_13, evS.eq_14, evS.eq_15, evE.eq_1, evE.eq_2, evE.eq_3, evE.eq_4, evE.eq_5, evE.eq_6, evE.eq_7, evE.eq_8, evE.eq_9, evE.eq_10, evE.eq_11, evE.eq_12, evE.eq_13, evE.eq_14, evE.eq_15, evE.eq_16, evE.eq_17, evE.eq_18, evE.eq_19, evE.eq_21,  evEs, evO, evTs, evI, asgT, asgTs, slot, startD, R.of_some, R.of_none, R.bind_ok, R.bind_stuck, R.then_ok, RS.seq_next, RS.seq_ret, RS.seq_brk, RS.seq_cont, List.getElem?_cons_zero, List.getElem?_cons_succ, List.set_cons_zero, List.set_cons_succ, List.set_set, add_ii, sub_ii, mul_ii, mod_ii, fdiv_ii, pow_lit, blt_int, blt_max, blt_min, blt_abs, aug_ii, tr_bl, lt_ii, le_ii, gt_ii, ge_ii, eq_ii, ne_ii, trim_p0, if_true, Bool.not_true, Bool.not_false, Bool.false_eq_true, if_false, R.tr_ok_bl, gOf_call, mkT_p2, len_t, sz1, sz2, sz3, sz4, sz6, D.items, at0 e, at1 e, at2 e, at3 e, List.length_map, q', ge_ii, Int.le_refl, decide_true]
    unfold baseOf
    rw [gq, if_pos (Int.le_refl 0)]
    exact trim_p0 h _
theorem init_ok {F k : Nat} {h : Hh} {i : Nat} {L : List Int} (e : h[i]? = some (.ins 0 [])) : callN prg F (k + 2) 8 [.r i, .p (.tup (L.map .int))] h = .ok (.p .non) (h.set i (gr L 0 0 0)) := by
  rw [call_eq (fd := f8) rfl rfl]
  have il : i < h.length := (List.getElem?_eq_some_iff.mp e).1
  have s : ∀ o : O, (h.set i o)[i]? = some o := fun o => List.getElem?_set_self il
  have fk := gOf_fok (F := F) (c := callN prg F (k + 1)) (i := callN prg F k)
  have p0 : ∀ d, putAttrS (gOf prg F (callN prg F (k + 1)) (callN prg F k)).fok (.r i) 0 d h = .ok () (h.set i (.ins 0 [(0, d)])) := fun d => by
    simp only [putAttrS, e]; rw [if_pos ⟨by decide, fk 0 (by decide)⟩]; rfl
  have p1 : ∀ d d0, putAttrS (gOf prg F (callN prg F (k + 1)) (callN prg F k)).fok (.r i) 1 d (h.set i (.ins 0 [(0, d0)])) = .ok () (h.set i (.ins 0 [(0, d0), (1, d)])) := fun d d0 => by
    simp only [putAttrS, s]; rw [if_pos ⟨by show 1 < 1000; decide, fk 1 (by decide)⟩, List.set_set]; rfl
  have p2 : ∀ d d0 d1, putAttrS (gOf prg F (callN prg F (k + 1)) (callN prg F k)).fok (.r i) 2 d (h.set i (.ins 0 [(0, d0), (1, d1)])) = .ok () (h.set i (.ins 0 [(0, d0), (1, d1), (2, d)])) := fun d d0 d1 => by
    simp only [putAttrS, s]; rw [if_pos ⟨by show 2 < 1000; decide, fk 2 (by decide)⟩, List.set_set]; rfl
  have p3 : ∀ d d0 d1 d2, putAttrS (gOf prg F (callN prg F (k + 1)) (callN prg F k)).fok (.r i) 3 d (h.set i (.ins 0 [(0, d0), (1, d1), (2, d2)])) = .ok () (h.set i (.ins 0 [(0, d0), (1, d1), (2, d2), (3, d)])) := fun d d0 d1 d2 => by
    simp only [putAttrS, s]; rw [if_pos ⟨by show 3 < 1000; decide, fk 3 (by decide)⟩, List.set_set]; rfl
  simp only [f8, startD, List.map_cons, List.map_nil, List.length_cons, List.length_nil, List.replicate, List.cons_append, List.nil_append, List.append_nil, evSs, evS.eq_1, evS.eq_2, evS.eq_3, evS.eq_4, evS.eq_5, evS.eq_6, evS.eq_7, evS.eq_10, evS.eq_11, evS.eq_12, evS.eq_13, evS.eq_14, evS.eq_15, evE.eq_1, evE.eq_2, evE.eq_3, evE.eq_4, evE.eq_5, evE.eq_6, evE.eq_7, evE.eq_8, evE.eq_9, evE.eq_10, evE.eq_11, evE.eq_12, evE.eq_13, evE.eq_14, evE.eq_15, evE.eq_16, evE.eq_17, evE.eq_18, evE.eq_19, evE.eq_21,  evEs, evO, evTs, evI, asgT, asgTs, slot, startD, R.of_some, R.of_none, R.bind_ok, R.bind_stuck, R.then_ok, RS.seq_next, RS.seq_ret, RS.seq_brk, RS.seq_cont, List.getElem?_cons_zero, List.getElem?_cons_succ, List.set_cons_zero, List.set_cons_succ, List.set_set, add_ii, sub_ii, mul_ii, mod_ii, fdiv_ii, pow_lit, blt_int, blt_max, blt_min, blt_abs, aug_ii, tr_bl, lt_ii, le_ii, gt_ii, ge_ii, eq_ii, ne_ii, trim_p0, if_true, Bool.not_true, Bool.not_false, Bool.false_eq_true, if_false, R.tr_ok_bl, gOf_call, mkT_p2, len_t, sz1, sz2, sz3, sz4, sz6, D.items, p0, p1, p2, p3]
  exact trim_set0 h .non (gr_under L 0 0 0 h.length)
def lo1 (m : Nat) (lo b : Int) : Int := if m = 0 then b else lo
def mn (lo b : Int) : Int := if b < lo then b else lo
def mxx (hi e : Int) : Int := if e > hi then e else hi
theorem place_ok {F k : Nat} {h : Hh} {i : Nat} {L : List Int} {m : Nat} {lo hi len : Int} (e : h[i]? = some (gr L m lo hi)) :
    callN prg F (k + 3) 10 [.r i, .p (.int len)] h = .ok (.p (.int (baseOf (gap L m) lo hi len)))
      (h.set i (gr L (m + 1) (mn (lo1 m lo (baseOf (gap L m) lo hi len)) (baseOf (gap L m) lo hi len)) (mxx (lo1 m hi (baseOf (gap L m) lo hi len + mx len)) (baseOf (gap L m) lo hi len + mx len)))) := by
  rw [show k + 3 = (k + 1) + 2 from rfl, call_eq (fd := f10) rfl rfl]
  have b := base_ok (F := F) (k := k) (len := len) e
  generalize baseOf (gap L m) lo hi len = B at b ⊢
  have il : i < h.length := (List.getElem?_eq_some_iff.mp e).1
  have s : ∀ o : O, (h.set i o)[i]? = some o := fun o => List.getElem?_set_self il
  have mk : methK (gOf prg F (callN prg F (k + 2)) (callN prg F (k + 1))) 5 .none (.r i) h = .fn 9 := by simp only [methK, e, gr]; rfl
  have fk := gOf_fok (F := F) (c := callN prg F (k + 2)) (i := callN prg F (k + 1))
  have put2 : ∀ (h : Hh) (m lo hi x : Int), h[i]? = some (gr L m lo hi) → putAttrS (gOf prg F (callN prg F (k + 2)) (callN prg F (k + 1))).fok (.r i) 2 (.p (.int x)) h = .ok () (h.set i (gr L m x hi)) := fun h m lo hi x e => by
    simp only [putAttrS, e, gr]; rw [if_pos ⟨by show 4 < 1000; decide, fk 2 (by decide)⟩]; rfl
  have put3 : ∀ (h : Hh) (m lo hi x : Int), h[i]? = some (gr L m lo hi) → putAttrS (gOf prg F (callN prg F (k + 2)) (callN prg F (k + 1))).fok (.r i) 3 (.p (.int x)) h = .ok () (h.set i (gr L m lo x)) := fun h m lo hi x e => by
    simp only [putAttrS, e, gr]; rw [if_pos ⟨by show 4 < 1000; decide, fk 3 (by decide)⟩]; rfl
  have put1 : ∀ (h : Hh) (m lo hi x : Int), h[i]? = some (gr L m lo hi) → putAttrS (gOf prg F (callN prg F (k + 2)) (callN prg F (k + 1))).fok (.r i) 1 (.p (.int x)) h = .ok () (h.set i (gr L x lo hi)) := fun h m lo hi x e => by
    simp only [putAttrS, e, gr]; rw [if_pos ⟨by show 4 < 1000; decide, fk 1 (by decide)⟩]; rfl
  have fl : ∀ (h : Hh) (m lo hi : Int), h[i]? = some (gr L m lo hi) → fldS 1 h (.r i) = some (0, .p (.int m)) := fun h m lo hi e => by simp only [fldS, e, gr]; rfl
  have cl : ∀ (h : Hh) (m lo hi : Int), h[i]? = some (gr L m lo hi) → clsOf h (.r i) = some 0 := fun h m lo hi e => by simp only [clsOf, e, gr]
  have tail : ∀ (lo hi : Int) (s4 : Hh), s4[i]? = some (gr L m lo hi) → evSs (gOf prg F (callN prg F (k + 2)) (callN prg F (k + 1))) (.cons (.asg (.tup 2 (.cons (.attr (.v 0) 2) (.cons (.attr (.v 0) 3) .nil))) (.tup (.cons (.blt .min (.cons (.attr (.v 0) 2) (.cons (.v 2) .nil))) (.cons (.blt .max (.cons (.attr (.v 0) 3) (.cons (.v 3) .nil))) .nil)))) (.cons (.augAttr (.v 0) 1 .add (.c (.int 1))) (.cons (.ret (.v 2)) .nil)))
      [some (.r i), some (.p (.int len)), some (.p (.int B)), some (.p (.int (B + mx len)))] s4 = .ret (.p (.int B)) (s4.set i (gr L (m + 1) (mn lo B) (mxx hi (B + mx len)))) := by
    intro lo hi s4 e4
    have e5 := fun x => get_set_self (o := gr L m x hi) e4
    have e6 := fun x y => get_set_self (o := gr L m x y) e4
    simp only [evSs, evS.eq_1, evS.eq_2, evS.eq_3, evS.eq_4, evS.eq_5, evS.eq_6, evS.eq_7, evS.eq_10, evS.eq_11, evS.eq_12, evS.eq_13, evS.eq_14, evS.eq_15, evE.eq_1, evE.eq_2, evE.eq_3, evE.eq_4, evE.eq_5, evE.eq_6, evE.eq_7, evE.eq_8, evE.eq_9, evE.eq_10, evE.eq_11, evE.eq_12, evE.eq_13, evE.eq_14, evE.eq_15, evE.eq_16, evE.eq_17, evE.eq_18, evE.eq_19, evE.eq_21,  evEs, evO, evTs, evI, asgT, asgTs, slot, startD, R.of_some, R.of_none, R.bind_ok, R.bind_stuck, R.then_ok, RS.seq_next, RS.seq_ret, RS.seq_brk, RS.seq_cont, List.getElem?_cons_zero, List.getElem?_cons_succ, List.set_cons_zero, List.set_cons_succ, List.set_set, add_ii, sub_ii, mul_ii, mod_ii, fdiv_ii, pow_lit, blt_int, blt_max, blt_min, blt_abs, aug_ii, tr_bl, lt_ii, le_ii, gt_ii, ge_ii, eq_ii, ne_ii, trim_p0, if_true, Bool.not_true, Bool.not_false, Bool.false_eq_true, if_false, R.tr_ok_bl, gOf_call, mkT_p2, len_t, sz1, sz2, sz3, sz4, sz6, D.items, at2 e4, at3 e4, List.map_cons, List.map_nil, List.length_cons, List.length_nil, put2 _ _ _ _ _ e4, put3 _ _ _ _ _ (e5 _), fl _ _ _ _ (e6 _ _), cl _ _ _ _ (e6 _ _), put1 _ _ _ _ _ (e6 _ _)]
    rfl
  have two : evE (gOf prg F (callN prg F (k + 2)) (callN prg F (k + 1))) (.bin .add (.meth (.v 0) 5 .none (.cons (.v 1) .nil)) (.blt .max (.cons (.c (.int 0)) (.cons (.v 1) .nil)))) [some (.r i), some (.p (.int len)), none, none] h = .ok (.p (.int (B + mx len))) h := by
    simp only [evSs, evS.eq_1, evS.eq_2, evS.eq_3, evS.eq_4, evS.eq_5, evS.eq_6, evS.eq_7, evS.eq_10, evS.eq_11, evS.eq_12, evS.eq_13, evS.eq_14, evS.eq_15, evE.eq_1, evE.eq_2, evE.eq_3, evE.eq_4, evE.eq_5, evE.eq_6, evE.eq_7, evE.eq_8, evE.eq_9, evE.eq_10, evE.eq_11, evE.eq_12, evE.eq_13, evE.eq_14, evE.eq_15, evE.eq_16, evE.eq_17, evE.eq_18, evE.eq_19, evE.eq_21,  evEs, evO, evTs, evI, asgT, asgTs, slot, startD, R.of_some, R.of_none, R.bind_ok, R.bind_stuck, R.then_ok, RS.seq_next, RS.seq_ret, RS.seq_brk, RS.seq_cont, List.getElem?_cons_zero, List.getElem?_cons_succ, List.set_cons_zero, List.set_cons_succ, List.set_set, add_ii, sub_ii, mul_ii, mod_ii, fdiv_ii, pow_lit, blt_int, blt_max, blt_min, blt_abs, aug_ii, tr_bl, lt_ii, le_ii, gt_ii, ge_ii, eq_ii, ne_ii, trim_p0, if_true, Bool.not_true, Bool.not_false, Bool.false_eq_true, if_false, R.tr_ok_bl, gOf_call, mkT_p2, len_t, sz1, sz2, sz3, sz4, sz6, D.items, mk, b]
    rfl
  have one : evE (gOf prg F (callN prg F (k + 2)) (callN prg F (k + 1))) (.meth (.v 0) 5 .none (.cons (.v 1) .nil)) [some (.r i), some (.p (.int len)), none, none] h = .ok (.p (.int B)) h := by
    simp only [evSs, evS.eq_1, evS.eq_2, evS.eq_3, evS.eq_4, evS.eq_5, evS.eq_6, evS.eq_7, evS.eq_10, evS.eq_11, evS.eq_12, evS.eq_13, evS.eq_14, evS.eq_15, evE.eq_1, evE.eq_2, evE.eq_3, evE.eq_4, evE.eq_5, evE.eq_6, evE.eq_7, evE.eq_8, evE.eq_9, evE.eq_10, evE.eq_11, evE.eq_12, evE.eq_13, evE.eq_14, evE.eq_15, evE.eq_16, evE.eq_17, evE.eq_18, evE.eq_19, evE.eq_21,  evEs, evO, evTs, evI, asgT, asgTs, slot, startD, R.of_some, R.of_none, R.bind_ok, R.bind_stuck, R.then_ok, RS.seq_next, RS.seq_ret, RS.seq_brk, RS.seq_cont, List.getElem?_cons_zero, List.getElem?_cons_succ, List.set_cons_zero, List.set_cons_succ, List.set_set, add_ii, sub_ii, mul_ii, mod_ii, fdiv_ii, pow_lit, blt_int, blt_max, blt_min, blt_abs, aug_ii, tr_bl, lt_ii, le_ii, gt_ii, ge_ii, eq_ii, ne_ii, trim_p0, if_true, Bool.not_true, Bool.not_false, Bool.false_eq_true, if_false, R.tr_ok_bl, gOf_call, mkT_p2, len_t, sz1, sz2, sz3, sz4, sz6, D.items, mk, b]
  have und : ∀ (m lo hi : Int), backR h (.ret (.p (.int B)) (h.set i (gr L m lo hi))) = .ok (.p (.int B)) (h.set i (gr L m lo hi)) := fun m lo hi => trim_set0 h (.int B) (gr_under L m lo hi h.length)
  have st : startD f10.ns [.r i, .p (.int len)] = [some (.r i), some (.p (.int len)), none, none] := rfl
  have head : evSs (gOf prg F (callN prg F (k + 2)) (callN prg F (k + 1))) f10.body (startD f10.ns [.r i, .p (.int len)]) h = .ret (.p (.int B)) (h.set i (gr L (m + 1) (mn (lo1 m lo B) B) (mxx (lo1 m hi (B + mx len)) (B + mx len)))) := by
    rw [st]
    unfold f10
    rw [evSs, evS.eq_3, evEs, one, R.bind_ok, evEs, two, R.bind_ok, evEs, R.bind_ok, R.bind_ok, R.then_ok]
    by_cases q : m = 0
    · subst q
      have e5 := fun x => get_set_self (o := gr L 0 x hi) e
      have e6 := fun x y => get_set_self (o := gr L 0 x y) e
      have tl := tail B (B + mx len) (h.set i (gr L 0 B (B + mx len))) (e6 _ _)
      rw [List.set_set] at tl
      simp only [evSs, evS.eq_1, evS.eq_2, evS.eq_3, evS.eq_4, evS.eq_5, evS.eq_6, evS.eq_7, evS.eq_10, evS.eq_11, evS.eq_12, evS.eq_13, evS.eq_14, evS.eq_15, evE.eq_1, evE.eq_2, evE.eq_3, evE.eq_4, evE.eq_5, evE.eq_6, evE.eq_7, evE.eq_8, evE.eq_9, evE.eq_10, evE.eq_11, evE.eq_12, evE.eq_13, evE.eq_14, evE.eq_15, evE.eq_16, evE.eq_17, evE.eq_18, evE.eq_19, evE.eq_21,  evEs, evO, evTs, evI, asgT, asgTs, slot, startD, R.of_some, R.of_none, R.bind_ok, R.bind_stuck, R.then_ok, RS.seq_next, RS.seq_ret, RS.seq_brk, RS.seq_cont, List.getElem?_cons_zero, List.getElem?_cons_succ, List.set_cons_zero, List.set_cons_succ, List.set_set, add_ii, sub_ii, mul_ii, mod_ii, fdiv_ii, pow_lit, blt_int, blt_max, blt_min, blt_abs, aug_ii, tr_bl, lt_ii, le_ii, gt_ii, ge_ii, eq_ii, ne_ii, trim_p0, if_true, Bool.not_true, Bool.not_false, Bool.false_eq_true, if_false, R.tr_ok_bl, gOf_call, mkT_p2, len_t, sz1, sz2, sz3, sz4, sz6, D.items, at1 e, Int.ofNat_zero, decide_true, put2 _ _ _ _ _ e, put3 _ _ _ _ _ (e5 _), List.map_cons, List.map_nil, List.length_cons, List.length_nil]
      exact tl
    · have q' : decide ((m : Int) = 0) = false := decide_eq_false (by omega)
      have tl := tail lo hi h e
      unfold lo1
      rw [if_neg q, if_neg q, ← tl]
      simp only [evSs, evS.eq_1, evS.eq_2, evS.eq_3, evS.eq_4, evS.eq_5, evS.eq_6, evS.eq_7, evS.eq_10, evS.eq_11, evS.eq_12, evS.eq_13, evS.eq_14, evS.eq_15, evE.eq_1, evE.eq_2, evE.eq_3, evE.eq_4, evE.eq_5, evE.eq_6, evE.eq_7, evE.eq_8, evE.eq_9, evE.eq_10, evE.eq_11, evE.eq_12, evE.eq_13, evE.eq_14, evE.eq_15, evE.eq_16, evE.eq_17, evE.eq_18, evE.eq_19, evE.eq_21,  evEs, evO, evTs, evI, asgT, asgTs, slot, startD, R.of_some, R.of_none, R.bind_ok, R.bind_stuck, R.then_ok, RS.seq_next, RS.seq_ret, RS.seq_brk, RS.seq_cont, List.getElem?_cons_zero, List.getElem?_cons_succ, List.set_cons_zero, List.set_cons_succ, List.set_set, add_ii, sub_ii, mul_ii, mod_ii, fdiv_ii, pow_lit, blt_int, blt_max, blt_min, blt_abs, aug_ii, tr_bl, lt_ii, le_ii, gt_ii, ge_ii, eq_ii, ne_ii, trim_p0, if_true, Bool.not_true, Bool.not_false, Bool.false_eq_true, if_false, R.tr_ok_bl, gOf_call, mkT_p2, len_t, sz1, sz2, sz3, sz4, sz6, D.items, at1 e, q']
  rw [head]
  exact und _ _ _

/-! ### placed, as it is -/
/-- the bases: how many there are, bottom, top -/
def plc (L : List Int) : List Int → Nat → Int → Int → List Int
  | [], _, _, _ => []
  | len :: r, m, lo, hi => baseOf (gap L m) lo hi len :: plc L r (m + 1) (mn (lo1 m lo (baseOf (gap L m) lo hi len)) (baseOf (gap L m) lo hi len)) (mxx (lo1 m hi (baseOf (gap L m) lo hi len + mx len)) (baseOf (gap L m) lo hi len + mx len))
abbrev G3 := Nat × Int × Int
def stp (L : List Int) (st : G3) (d : D) : G3 × D := match d with
  | .p (.int len) => ((st.1 + 1, mn (lo1 st.1 st.2.1 (baseOf (gap L st.1) st.2.1 st.2.2 len)) (baseOf (gap L st.1) st.2.1 st.2.2 len), mxx (lo1 st.1 st.2.2 (baseOf (gap L st.1) st.2.1 st.2.2 len + mx len)) (baseOf (gap L st.1) st.2.1 st.2.2 len + mx len)), .p (.int (baseOf (gap L st.1) st.2.1 st.2.2 len)))
  | d => (st, d)
theorem outs_plc (L : List Int) : ∀ (lens : List Int) (m : Nat) (lo hi : Int), outS (stp L) (m, lo, hi) (lens.map fun n => .p (.int n)) = (plc L lens m lo hi).map fun n => D.p (.int n)
  | [], _, _, _ => rfl
  | len :: r, m, lo, hi => by
    simp only [List.map_cons, outS, plc, stp]
    rw [outs_plc L r]
theorem map_pi (l : List Int) : (l.map P.int).map D.p = l.map fun n => D.p (.int n) := by rw [List.map_map]; rfl
theorem mkT_ints (l : List Int) : mkT (l.map fun n => D.p (.int n)) = .p (.tup (l.map .int)) := by rw [← map_pi, mkT_map]
theorem plc_length (L : List Int) : ∀ (lens : List Int) (m : Nat) (lo hi : Int), (plc L lens m lo hi).length = lens.length
  | [], _, _, _ => rfl
  | len :: r, m, lo, hi => by rw [plc, List.length_cons, plc_length L r, List.length_cons]
theorem placed_ok {F k : Nat} (h : Hh) (L lens : List Int) (hl : lens.length ≤ 1000) : callN prg F (k + 4) 0 [.p (.tup (L.map .int)), .p (.tup (lens.map .int))] h = .ok (.p (.tup ((plc L lens 0 0 0).map .int))) h := by
  rw [show k + 4 = (k + 2) + 2 from rfl, call_eq (fd := f0) rfl rfl]
  have ini := init_ok (F := F) (k := k) (h := h ++ [.ins 0 []]) (i := h.length) (L := L) (by simp)
  have es : (h ++ [O.ins 0 []]).set h.length (gr L 0 0 0) = h ++ [gr L 0 0 0] := by rw [List.set_append_right _ _ (Nat.le_refl _), Nat.sub_self]; rfl
  rw [es] at ini
  have mkk : mkIns (gOf prg F (callN prg F (k + 3)) (callN prg F (k + 2))) 0 [.p (.tup (L.map .int))] h = .ok (.r h.length) (h ++ [gr L 0 0 0]) := by
    have ci : (gOf prg F (callN prg F (k + 3)) (callN prg F (k + 2))).cinit 0 = some 8 := rfl
    simp only [mkIns, ci, gOf_init, ini]
  have bod : ∀ d ∈ (lens.map fun n => D.p (.int n)), ∀ (st : G3) (a : List D), bodyC (gOf prg F (callN prg F (k + 3)) (callN prg F (k + 2))) [3] (.v 3) .nil (.meth (.v 2) 6 .none (.cons (.v 3) .nil)) [some (.p (.tup (L.map .int))), some (.p (.tup (lens.map .int))), some (.r h.length), none] d ((h ++ [gr L st.1 st.2.1 st.2.2]) ++ [.lst a]) =
      .ok (some (stp L st d).2) ((h ++ [gr L (stp L st d).1.1 (stp L st d).1.2.1 (stp L st d).1.2.2]) ++ [.lst a]) := by
    intro d hd st a
    obtain ⟨len, _, rfl⟩ := List.mem_map.mp hd
    have ge : ((h ++ [gr L st.1 st.2.1 st.2.2]) ++ [O.lst a])[h.length]? = some (gr L st.1 st.2.1 st.2.2) := by simp
    have mk := meth6 (F := F) (c := callN prg F (k + 3)) (i := callN prg F (k + 2)) ge
    have pl := place_ok (F := F) (k := k) (len := len) ge
    have e2 : ∀ o : O, ((h ++ [gr L st.1 st.2.1 st.2.2]) ++ [O.lst a]).set h.length o = (h ++ [o]) ++ [.lst a] := fun o => by
      rw [List.append_assoc, List.set_append_right _ _ (Nat.le_refl _), Nat.sub_self, List.append_assoc]
      rfl
    rw [e2] at pl
    simp only [bodyC, evSs, evS.eq_1, evS.eq_2, evS.eq_3, evS.eq_4, evS.eq_5, evS.eq_6, evS.eq_7, evS.eq_10, evS.eq_11, evS.eq_12, evS.eq_13, evS.eq_14, evS.eq_15, evE.eq_1, evE.eq_2, evE.eq_3, evE.eq_4, evE.eq_5, evE.eq_6, evE.eq_7, evE.eq_8, evE.eq_9, evE.eq_10, evE.eq_11, evE.eq_12, evE.eq_13, evE.eq_14, evE.eq_15, evE.eq_16, evE.eq_17, evE.eq_18, evE.eq_19, evE.eq_21,  evEs, evO, evTs, evI, asgT, asgTs, slot, startD, R.of_some, R.of_none, R.bind_ok, R.bind_stuck, R.then_ok, RS.seq_next, RS.seq_ret, RS.seq_brk, RS.seq_cont, List.getElem?_cons_zero, List.getElem?_cons_succ, List.set_cons_zero, List.set_cons_succ, List.set_set, add_ii, sub_ii, mul_ii, mod_ii, fdiv_ii, pow_lit, blt_int, blt_max, blt_min, blt_abs, aug_ii, tr_bl, lt_ii, le_ii, gt_ii, ge_ii, eq_ii, ne_ii, trim_p0, if_true, Bool.not_true, Bool.not_false, Bool.false_eq_true, if_false, R.tr_ok_bl, gOf_call, mkT_p2, len_t, sz1, sz2, sz3, sz4, sz6, D.items, wipeD, mk, pl]
    rfl
  have lp := loopC_fold (gd := []) (h.length + 1) (fun st : G3 => h ++ [gr L st.1 st.2.1 st.2.2]) (stp L) (fun st => by simp) (fun _ _ => rfl) (lens.map fun n => D.p (.int n)) [] (0, 0, 0) bod (by rw [List.length_map, sizeLine_v]; simp only [List.length_nil]; omega)
  rw [outs_plc, List.nil_append] at lp
  generalize runS (stp L) (0, 0, 0) (lens.map fun n => D.p (.int n)) = st' at lp
  have cmp : evE (gOf prg F (callN prg F (k + 3)) (callN prg F (k + 2))) (.comp [3] (.meth (.v 2) 6 .none (.cons (.v 3) .nil)) (.v 3) (.of (.v 1)) .nil) [some (.p (.tup (L.map .int))), some (.p (.tup (lens.map .int))), some (.r h.length), none] (h ++ [gr L 0 0 0]) =
      .ok (.r (h.length + 1)) ((h ++ [gr L st'.1 st'.2.1 st'.2.2]) ++ [.lst ((plc L lens 0 0 0).map fun n => D.p (.int n))]) := by
    rw [comp_eq]
    simp only [evSs, evS.eq_1, evS.eq_2, evS.eq_3, evS.eq_4, evS.eq_5, evS.eq_6, evS.eq_7, evS.eq_10, evS.eq_11, evS.eq_12, evS.eq_13, evS.eq_14, evS.eq_15, evE.eq_1, evE.eq_2, evE.eq_3, evE.eq_4, evE.eq_5, evE.eq_6, evE.eq_7, evE.eq_8, evE.eq_9, evE.eq_10, evE.eq_11, evE.eq_12, evE.eq_13, evE.eq_14, evE.eq_15, evE.eq_16, evE.eq_17, evE.eq_18, evE.eq_19, evE.eq_21,  evEs, evO, evTs, evI, asgT, asgTs, slot, startD, R.of_some, R.of_none, R.bind_ok, R.bind_stuck, R.then_ok, RS.seq_next, RS.seq_ret, RS.seq_brk, RS.seq_cont, List.getElem?_cons_zero, List.getElem?_cons_succ, List.set_cons_zero, List.set_cons_succ, List.set_set, add_ii, sub_ii, mul_ii, mod_ii, fdiv_ii, pow_lit, blt_int, blt_max, blt_min, blt_abs, aug_ii, tr_bl, lt_ii, le_ii, gt_ii, ge_ii, eq_ii, ne_ii, trim_p0, if_true, Bool.not_true, Bool.not_false, Bool.false_eq_true, if_false, R.tr_ok_bl, gOf_call, mkT_p2, len_t, sz1, sz2, sz3, sz4, sz6, D.items, seqOf, gdOf, map_pi]
    have e : (h ++ [gr L 0 0 0]).length = h.length + 1 := by simp
    rw [e]
    have lp : loopC [] (h.length + 1) (bodyC (gOf prg F (callN prg F (k + 3)) (callN prg F (k + 2))) [3] (.v 3) .nil (.meth (.v 2) 6 .none (.cons (.v 3) .nil)) [some (.p (.tup (L.map .int))), some (.p (.tup (lens.map .int))), some (.r h.length), none]) (lens.map fun n => D.p (.int n)) [] ((h ++ [gr L 0 0 0]) ++ [O.lst []]) = _ := lp
    rw [lp]
    rfl
  have tup : bltS .tuple [.r (h.length + 1)] ((h ++ [gr L st'.1 st'.2.1 st'.2.2]) ++ [.lst ((plc L lens 0 0 0).map fun n => D.p (.int n))]) = .ok (.p (.tup ((plc L lens 0 0 0).map .int))) ((h ++ [gr L st'.1 st'.2.1 st'.2.2]) ++ [.lst ((plc L lens 0 0 0).map fun n => D.p (.int n))]) := by
    have e : lstOf ((h ++ [gr L st'.1 st'.2.1 st'.2.2]) ++ [.lst ((plc L lens 0 0 0).map fun n => D.p (.int n))]) (.r (h.length + 1)) = some ((plc L lens 0 0 0).map fun n => D.p (.int n)) := by
      simp [lstOf]
    simp only [bltS, e, mkT_ints]
  have t1 : trimR (h ++ [gr L 0 0 0]) (.ok (.p (.tup ((plc L lens 0 0 0).map .int))) ((h ++ [gr L st'.1 st'.2.1 st'.2.2]) ++ [.lst ((plc L lens 0 0 0).map fun n => D.p (.int n))])) = .ok (.p (.tup ((plc L lens 0 0 0).map .int))) (h ++ [gr L st'.1 st'.2.1 st'.2.2]) := by
    have es : (h ++ [gr L 0 0 0]).set h.length (gr L st'.1 st'.2.1 st'.2.2) = h ++ [gr L st'.1 st'.2.1 st'.2.2] := by rw [List.set_append_right _ _ (Nat.le_refl _), Nat.sub_self]; rfl
    rw [← es]
    exact trim_set _ _ _ (gr_under ..)
  have st : startD f0.ns [.p (.tup (L.map .int)), .p (.tup (lens.map .int))] = [some (.p (.tup (L.map .int))), some (.p (.tup (lens.map .int))), none, none] := rfl
  rw [st]
  unfold f0
  simp only [evSs, evS.eq_1, evS.eq_2, evS.eq_3, evS.eq_4, evS.eq_5, evS.eq_6, evS.eq_7, evS.eq_10, evS.eq_11, evS.eq_12, evS.eq_13, evS.eq_14, evS.eq_15, evE.eq_1, evE.eq_2, evE.eq_3, evE.eq_4, evE.eq_5, evE.eq_6, evE.eq_7, evE.eq_8, evE.eq_9, evE.eq_10, evE.eq_11, evE.eq_12, evE.eq_13, evE.eq_14, evE.eq_15, evE.eq_16, evE.eq_17, evE.eq_18, evE.eq_19, evE.eq_21,  evEs, evO, evTs, evI, asgT, asgTs, slot, startD, R.of_some, R.of_none, R.bind_ok, R.bind_stuck, R.then_ok, RS.seq_next, RS.seq_ret, RS.seq_brk, RS.seq_cont, List.getElem?_cons_zero, List.getElem?_cons_succ, List.set_cons_zero, List.set_cons_succ, List.set_set, add_ii, sub_ii, mul_ii, mod_ii, fdiv_ii, pow_lit, blt_int, blt_max, blt_min, blt_abs, aug_ii, tr_bl, lt_ii, le_ii, gt_ii, ge_ii, eq_ii, ne_ii, trim_p0, if_true, Bool.not_true, Bool.not_false, Bool.false_eq_true, if_false, R.tr_ok_bl, gOf_call, mkT_p2, len_t, sz1, sz2, sz3, sz4, sz6, D.items, mkk, cmp, tup, t1]
  exact trim_p h _ _

/-! ### placed, as the law has it -/
structure LS where
  m : Nat
  lo : Int
  hi : Int
  acc : List D
  rest : Option (Int × Int × Int × Int × Int)
def lsZ (L lens : P) (n : Nat) (st : LS) : Sg := [some (.p L), some (.p lens), some (.r n), some (.p (.int st.lo)), some (.p (.int st.hi))] ++ (match st.rest with
  | none => [none, none, none, none, none]
  | some (k, len, b, s, g) => [some (.p (.int k)), some (.p (.int len)), some (.p (.int b)), some (.p (.int s)), some (.p (.int g))])
def lsS (L : List Int) (st : LS) (len : Int) : LS :=
  { m := st.m + 1, lo := mn (lo1 st.m st.lo (baseOf (gap L st.m) st.lo st.hi len)) (baseOf (gap L st.m) st.lo st.hi len), hi := mxx (lo1 st.m st.hi (baseOf (gap L st.m) st.lo st.hi len + mx len)) (baseOf (gap L st.m) st.lo st.hi len + mx len),
    acc := st.acc ++ [.p (.int (baseOf (gap L st.m) st.lo st.hi len))], rest := some (st.m, len, baseOf (gap L st.m) st.lo st.hi len, mx len, gap L st.m) }
def lsT (L : List Int) (st : LS) (d : D) : LS := match d with
  | .p (.tup [.int k, .int len]) => if k = st.m then lsS L st len else st
  | _ => st
theorem zips_tup : ∀ (lens : List Int) (m : Nat), zips (nums m lens.length) (lens.map fun n => D.p (.int n)) = (lens.zipIdx m).map fun q => D.p (.tup [.int q.2, .int q.1])
  | [], _ => rfl
  | len :: r, m => by
    have ih := zips_tup r (m + 1)
    rw [List.length_cons, nums, List.map_cons, zips, List.zipIdx_cons, List.map_cons, ← ih]
    rfl
theorem fold_acc (L : List Int) : ∀ (lens : List Int) (m : Nat) (st : LS), st.m = m → (((lens.zipIdx m).map fun q => D.p (.tup [.int q.2, .int q.1])).foldl (lsT L) st).acc = st.acc ++ (plc L lens m st.lo st.hi).map fun n => D.p (.int n)
  | [], _, st, _ => by simp [plc]
  | len :: r, m, st, e => by
    subst e
    rw [List.zipIdx_cons, List.map_cons, List.foldl_cons]
    have e1 : lsT L st (D.p (.tup [.int (st.m : Nat), .int len])) = lsS L st len := by simp [lsT]
    rw [e1, fold_acc L r (st.m + 1) (lsS L st len) rfl, plc]
    simp [lsS]
def lawBody : ISs := (.cons (.par (.cons (.v 8) (.cons (.v 9) .nil)) (.cons (.blt .max (.cons (.c (.int 0)) (.cons (.v 6) .nil))) (.cons (.ite (.cmp .lt (.v 5) (.blt .len (.cons (.v 0) .nil))) (.sub (.v 0) (.v 5)) (.c (.int 0))) .nil))) (.cons (.asg (.v 7) (.trim (.ite (.cmp .ge (.v 9) (.c (.int 0))) (.bin .add (.v 4) (.v 9)) (.bin .sub (.bin .add (.bin .add (.v 3) (.c (.int 1))) (.v 9)) (.v 8))))) (.cons (.ite (.cmp .eq (.v 5) (.c (.int 0))) (.cons (.par (.cons (.v 3) (.cons (.v 4) .nil)) (.cons (.v 7) (.cons (.bin .add (.v 7) (.v 8)) .nil))) .nil) .nil) (.cons (.par (.cons (.v 3) (.cons (.v 4) .nil)) (.cons (.blt .min (.cons (.v 3) (.cons (.v 7) .nil))) (.cons (.blt .max (.cons (.v 4) (.cons (.bin .add (.v 7) (.v 8)) .nil))) .nil))) (.cons (.expr (.meth (.v 2) 4 .append (.cons (.v 7) .nil))) .nil)))))
theorem f6_eq : f6 = ⟨2, 10, .cons (.par (.cons (.v 2) (.cons (.v 3) (.cons (.v 4) .nil))) (.cons (.lst .nil) (.cons (.c (.int 0)) (.cons (.c (.int 0)) .nil)))) (.cons (.for (.tup 2 (.cons (.v 5) (.cons (.v 6) .nil))) (.enum (.v 1)) lawBody) (.cons (.ret (.blt .tuple (.cons (.v 2) .nil))) .nil))⟩ := rfl
/-- one turn -/
theorem law_turn (g : G) (h : Hh) (L : List Int) (lens : P) (st : LS) (len : Int) (hl : st.acc.length < 1000) (s5 s6 s7 s8 s9 : Option D) :
    evSs g lawBody [some (.p (.tup (L.map .int))), some (.p lens), some (.r h.length), some (.p (.int st.lo)), some (.p (.int st.hi)), some (.p (.int st.m)), some (.p (.int len)), s7, s8, s9] (h ++ [.lst st.acc]) =
      .next (lsZ (.tup (L.map .int)) lens h.length (lsS L st len)) (h ++ [.lst (lsS L st len).acc]) := by
  have gt : (evE g (.ite (.cmp .lt (.v 5) (.blt .len (.cons (.v 0) .nil))) (.sub (.v 0) (.v 5)) (.c (.int 0))) [some (.p (.tup (L.map .int))), some (.p lens), some (.r h.length), some (.p (.int st.lo)), some (.p (.int st.hi)), some (.p (.int st.m)), some (.p (.int len)), s7, s8, s9] (h ++ [.lst st.acc])) = .ok (.p (.int (gap L st.m))) (h ++ [.lst st.acc]) := by
    by_cases q : st.m < L.length
    · have gq : gap L st.m = L[st.m] := by unfold gap; rw [List.getD_eq_getElem?_getD, List.getElem?_eq_getElem q]; rfl
      have q' : decide ((st.m : Int) < (L.length : Int)) = true := decide_eq_true (by omega)
      have idx : (atI (L.map P.int) (st.m : Int)).map D.p = some (.p (.int L[st.m])) := by rw [Pv.atI_nat, List.getElem?_map, List.getElem?_eq_getElem q]; rfl
      rw [← gq] at idx
      simp only [evSs, evS.eq_1, evS.eq_2, evS.eq_3, evS.eq_4, evS.eq_5, evS.eq_6, evS.eq_7, evS.eq_10, evS.eq_11, evS.eq_12, evS.eq_13, evS.eq_14, evS.eq_15, evE.eq_1, evE.eq_2, evE.eq_3, evE.eq_4, evE.eq_5, evE.eq_6, evE.eq_7, evE.eq_8, evE.eq_9, evE.eq_10, evE.eq_11, evE.eq_12, evE.eq_13, evE.eq_14, evE.eq_15, evE.eq_16, evE.eq_17, evE.eq_18, evE.eq_19, evE.eq_21,  evEs, evO, evTs, evI, asgT, asgTs, slot, startD, R.of_some, R.of_none, R.bind_ok, R.bind_stuck, R.then_ok, RS.seq_next, RS.seq_ret, RS.seq_brk, RS.seq_cont, List.getElem?_cons_zero, List.getElem?_cons_succ, List.set_cons_zero, List.set_cons_succ, List.set_set, add_ii, sub_ii, mul_ii, mod_ii, fdiv_ii, pow_lit, blt_int, blt_max, blt_min, blt_abs, aug_ii, tr_bl, lt_ii, le_ii, gt_ii, ge_ii, eq_ii, ne_ii, trim_p0, if_true, Bool.not_true, Bool.not_false, Bool.false_eq_true, if_false, R.tr_ok_bl, gOf_call, mkT_p2, len_t, sz1, sz2, sz3, sz4, sz6, D.items, List.length_map, q', subS_t, idx]
    · have gq : gap L st.m = 0 := by unfold gap; rw [List.getD_eq_getElem?_getD, List.getElem?_eq_none (by omega)]; rfl
      have q' : decide ((st.m : Int) < (L.length : Int)) = false := decide_eq_false (by omega)
      simp only [evSs, evS.eq_1, evS.eq_2, evS.eq_3, evS.eq_4, evS.eq_5, evS.eq_6, evS.eq_7, evS.eq_10, evS.eq_11, evS.eq_12, evS.eq_13, evS.eq_14, evS.eq_15, evE.eq_1, evE.eq_2, evE.eq_3, evE.eq_4, evE.eq_5, evE.eq_6, evE.eq_7, evE.eq_8, evE.eq_9, evE.eq_10, evE.eq_11, evE.eq_12, evE.eq_13, evE.eq_14, evE.eq_15, evE.eq_16, evE.eq_17, evE.eq_18, evE.eq_19, evE.eq_21,  evEs, evO, evTs, evI, asgT, asgTs, slot, startD, R.of_some, R.of_none, R.bind_ok, R.bind_stuck, R.then_ok, RS.seq_next, RS.seq_ret, RS.seq_brk, RS.seq_cont, List.getElem?_cons_zero, List.getElem?_cons_succ, List.set_cons_zero, List.set_cons_succ, List.set_set, add_ii, sub_ii, mul_ii, mod_ii, fdiv_ii, pow_lit, blt_int, blt_max, blt_min, blt_abs, aug_ii, tr_bl, lt_ii, le_ii, gt_ii, ge_ii, eq_ii, ne_ii, trim_p0, if_true, Bool.not_true, Bool.not_false, Bool.false_eq_true, if_false, R.tr_ok_bl, gOf_call, mkT_p2, len_t, sz1, sz2, sz3, sz4, sz6, D.items, List.length_map, q', gq]
  have mk : ∀ g : G, methK g 4 .append (.r h.length) (h ++ [.lst st.acc]) = .bm := fun g => by simp [methK]
  have ap : ∀ x : D, bmS .append (.r h.length) [x] (h ++ [.lst st.acc]) = .ok (.p .non) (h ++ [.lst (st.acc ++ [x])]) := fun x => by
    have e : (h ++ [O.lst st.acc])[h.length]? = some (.lst st.acc) := by simp
    simp only [bmS, e]
    rw [if_pos (by rw [sizeLine_v]; omega), List.set_append_right _ _ (Nat.le_refl _), Nat.sub_self]
    rfl
  have bs : evE g (.trim (.ite (.cmp .ge (.v 9) (.c (.int 0))) (.bin .add (.v 4) (.v 9)) (.bin .sub (.bin .add (.bin .add (.v 3) (.c (.int 1))) (.v 9)) (.v 8)))) [some (.p (.tup (L.map .int))), some (.p lens), some (.r h.length), some (.p (.int st.lo)), some (.p (.int st.hi)), some (.p (.int st.m)), some (.p (.int len)), s7, some (.p (.int (mx len))), some (.p (.int (gap L st.m)))] (h ++ [.lst st.acc]) = .ok (.p (.int (baseOf (gap L st.m) st.lo st.hi len))) (h ++ [.lst st.acc]) := by
    unfold baseOf
    by_cases q : 0 ≤ gap L st.m
    · rw [if_pos q]; simp only [evSs, evS.eq_1, evS.eq_2, evS.eq_3, evS.eq_4, evS.eq_5, evS.eq_6, evS.eq_7, evS.eq_10, evS.eq_11, evS.eq_12, evS.eq_13, evS.eq_14, evS.eq_15, evE.eq_1, evE.eq_2, evE.eq_3, evE.eq_4, evE.eq_5, evE.eq_6, evE.eq_7, evE.eq_8, evE.eq_9, evE.eq_10, evE.eq_11, evE.eq_12, evE.eq_13, evE.eq_14, evE.eq_15, evE.eq_16, evE.eq_17, evE.eq_18, evE.eq_19, evE.eq_21,  evEs, evO, evTs, evI, asgT, asgTs, slot, startD, R.of_some, R.of_none, R.bind_ok, R.bind_stuck, R.then_ok, RS.seq_next, RS.seq_ret, RS.seq_brk, RS.seq_cont, List.getElem?_cons_zero, List.getElem?_cons_succ, List.set_cons_zero, List.set_cons_succ, List.set_set, add_ii, sub_ii, mul_ii, mod_ii, fdiv_ii, pow_lit, blt_int, blt_max, blt_min, blt_abs, aug_ii, tr_bl, lt_ii, le_ii, gt_ii, ge_ii, eq_ii, ne_ii, trim_p0, if_true, Bool.not_true, Bool.not_false, Bool.false_eq_true, if_false, R.tr_ok_bl, gOf_call, mkT_p2, len_t, sz1, sz2, sz3, sz4, sz6, D.items, q, decide_true]
    · rw [if_neg q]; simp only [evSs, evS.eq_1, evS.eq_2, evS.eq_3, evS.eq_4, evS.eq_5, evS.eq_6, evS.eq_7, evS.eq_10, evS.eq_11, evS.eq_12, evS.eq_13, evS.eq_14, evS.eq_15, evE.eq_1, evE.eq_2, evE.eq_3, evE.eq_4, evE.eq_5, evE.eq_6, evE.eq_7, evE.eq_8, evE.eq_9, evE.eq_10, evE.eq_11, evE.eq_12, evE.eq_13, evE.eq_14, evE.eq_15, evE.eq_16, evE.eq_17, evE.eq_18, evE.eq_19, evE.eq_21,  evEs, evO, evTs, evI, asgT, asgTs, slot, startD, R.of_some, R.of_none, R.bind_ok, R.bind_stuck, R.then_ok, RS.seq_next, RS.seq_ret, RS.seq_brk, RS.seq_cont, List.getElem?_cons_zero, List.getElem?_cons_succ, List.set_cons_zero, List.set_cons_succ, List.set_set, add_ii, sub_ii, mul_ii, mod_ii, fdiv_ii, pow_lit, blt_int, blt_max, blt_min, blt_abs, aug_ii, tr_bl, lt_ii, le_ii, gt_ii, ge_ii, eq_ii, ne_ii, trim_p0, if_true, Bool.not_true, Bool.not_false, Bool.false_eq_true, if_false, R.tr_ok_bl, gOf_call, mkT_p2, len_t, sz1, sz2, sz3, sz4, sz6, D.items, q, decide_false]
  unfold lawBody
  rw [evSs, evS.eq_3, evEs]
  rw [show evE g (.blt .max (.cons (.c (.int 0)) (.cons (.v 6) .nil))) [some (.p (.tup (L.map .int))), some (.p lens), some (.r h.length), some (.p (.int st.lo)), some (.p (.int st.hi)), some (.p (.int st.m)), some (.p (.int len)), s7, s8, s9] (h ++ [.lst st.acc]) = .ok (.p (.int (mx len))) (h ++ [.lst st.acc]) by simp only [evSs, evS.eq_1, evS.eq_2, evS.eq_3, evS.eq_4, evS.eq_5, evS.eq_6, evS.eq_7, evS.eq_10, evS.eq_11, evS.eq_12, evS.eq_13, evS.eq_14, evS.eq_15, evE.eq_1, evE.eq_2, evE.eq_3, evE.eq_4, evE.eq_5, evE.eq_6, evE.eq_7, evE.eq_8, evE.eq_9, evE.eq_10, evE.eq_11, evE.eq_12, evE.eq_13, evE.eq_14, evE.eq_15, evE.eq_16, evE.eq_17, evE.eq_18, evE.eq_19, evE.eq_21,  evEs, evO, evTs, evI, asgT, asgTs, slot, startD, R.of_some, R.of_none, R.bind_ok, R.bind_stuck, R.then_ok, RS.seq_next, RS.seq_ret, RS.seq_brk, RS.seq_cont, List.getElem?_cons_zero, List.getElem?_cons_succ, List.set_cons_zero, List.set_cons_succ, List.set_set, add_ii, sub_ii, mul_ii, mod_ii, fdiv_ii, pow_lit, blt_int, blt_max, blt_min, blt_abs, aug_ii, tr_bl, lt_ii, le_ii, gt_ii, ge_ii, eq_ii, ne_ii, trim_p0, if_true, Bool.not_true, Bool.not_false, Bool.false_eq_true, if_false, R.tr_ok_bl, gOf_call, mkT_p2, len_t, sz1, sz2, sz3, sz4, sz6, D.items]; rfl]
  rw [R.bind_ok, evEs, gt, R.bind_ok, evEs, R.bind_ok, R.bind_ok, R.then_ok]
  simp only [asgTs, asgT, List.set_cons_succ, List.set_cons_zero, R.then_ok, RS.seq_next]
  rw [evSs, evS.eq_2, bs]
  generalize hB : baseOf (gap L st.m) st.lo st.hi len = B
  have fin : lsZ (.tup (L.map .int)) lens h.length (lsS L st len) = [some (.p (.tup (L.map .int))), some (.p lens), some (.r h.length), some (.p (.int (mn (lo1 st.m st.lo B) B))), some (.p (.int (mxx (lo1 st.m st.hi (B + mx len)) (B + mx len)))), some (.p (.int st.m)), some (.p (.int len)), some (.p (.int B)), some (.p (.int (mx len))), some (.p (.int (gap L st.m)))] := by
    rw [← hB]; rfl
  have fa : (lsS L st len).acc = st.acc ++ [.p (.int B)] := by rw [← hB]; rfl
  rw [fin, fa]
  by_cases q : st.m = 0
  · have q' : decide ((st.m : Int) = 0) = true := decide_eq_true (by omega)
    unfold lo1
    rw [if_pos q, if_pos q]
    simp only [evSs, evS.eq_1, evS.eq_2, evS.eq_3, evS.eq_4, evS.eq_5, evS.eq_6, evS.eq_7, evS.eq_10, evS.eq_11, evS.eq_12, evS.eq_13, evS.eq_14, evS.eq_15, evE.eq_1, evE.eq_2, evE.eq_3, evE.eq_4, evE.eq_5, evE.eq_6, evE.eq_7, evE.eq_8, evE.eq_9, evE.eq_10, evE.eq_11, evE.eq_12, evE.eq_13, evE.eq_14, evE.eq_15, evE.eq_16, evE.eq_17, evE.eq_18, evE.eq_19, evE.eq_21,  evEs, evO, evTs, evI, asgT, asgTs, slot, startD, R.of_some, R.of_none, R.bind_ok, R.bind_stuck, R.then_ok, RS.seq_next, RS.seq_ret, RS.seq_brk, RS.seq_cont, List.getElem?_cons_zero, List.getElem?_cons_succ, List.set_cons_zero, List.set_cons_succ, List.set_set, add_ii, sub_ii, mul_ii, mod_ii, fdiv_ii, pow_lit, blt_int, blt_max, blt_min, blt_abs, aug_ii, tr_bl, lt_ii, le_ii, gt_ii, ge_ii, eq_ii, ne_ii, trim_p0, if_true, Bool.not_true, Bool.not_false, Bool.false_eq_true, if_false, R.tr_ok_bl, gOf_call, mkT_p2, len_t, sz1, sz2, sz3, sz4, sz6, D.items, q', mk, ap]
    rfl
  · have q' : decide ((st.m : Int) = 0) = false := decide_eq_false (by omega)
    unfold lo1
    rw [if_neg q, if_neg q]
    simp only [evSs, evS.eq_1, evS.eq_2, evS.eq_3, evS.eq_4, evS.eq_5, evS.eq_6, evS.eq_7, evS.eq_10, evS.eq_11, evS.eq_12, evS.eq_13, evS.eq_14, evS.eq_15, evE.eq_1, evE.eq_2, evE.eq_3, evE.eq_4, evE.eq_5, evE.eq_6, evE.eq_7, evE.eq_8, evE.eq_9, evE.eq_10, evE.eq_11, evE.eq_12, evE.eq_13, evE.eq_14, evE.eq_15, evE.eq_16, evE.eq_17, evE.eq_18, evE.eq_19, evE.eq_21,  evEs, evO, evTs, evI, asgT, asgTs, slot, startD, R.of_some, R.of_none, R.bind_ok, R.bind_stuck, R.then_ok, RS.seq_next, RS.seq_ret, RS.seq_brk, RS.seq_cont, List.getElem?_cons_zero, List.getElem?_cons_succ, List.set_cons_zero, List.set_cons_succ, List.set_set, add_ii, sub_ii, mul_ii, mod_ii, fdiv_ii, pow_lit, blt_int, blt_max, blt_min, blt_abs, aug_ii, tr_bl, lt_ii, le_ii, gt_ii, ge_ii, eq_ii, ne_ii, trim_p0, if_true, Bool.not_true, Bool.not_false, Bool.false_eq_true, if_false, R.tr_ok_bl, gOf_call, mkT_p2, len_t, sz1, sz2, sz3, sz4, sz6, D.items, q', mk, ap]
    rfl
theorem for_eq (g : G) (t : ITg) (it : IIt) (b : ISs) (s : Sg) (h : Hh) : evS g (.for t it b) s h = (evI g it s h).then s fun p h1 => loopS p.2 (fun d s1 h2 => (asgT g t d s1 h2).then s1 fun s2 h3 => evSs g b s2 h3) p.1 s h1 := rfl
theorem law_placed_ok {F k : Nat} (h : Hh) (L lens : List Int) (hl : lens.length ≤ 1000) : callN prg F (k + 2) 6 [.p (.tup (L.map .int)), .p (.tup (lens.map .int))] h = .ok (.p (.tup ((plc L lens 0 0 0).map .int))) h := by
  rw [call_eq (fd := f6) rfl rfl, f6_eq]
  generalize gOf prg F (callN prg F (k + 1)) (callN prg F k) = g
  have lp := loopS_fold (gd := []) (body := fun d s1 h2 => (asgT g (.tup 2 (.cons (.v 5) (.cons (.v 6) .nil))) d s1 h2).then s1 fun s2 h3 => evSs g lawBody s2 h3) (h.length + 1) (fun st : LS => h ++ [.lst st.acc]) (lsZ (.tup (L.map .int)) (.tup (lens.map .int)) h.length) (lsT L)
    (fun i st => st.m = i ∧ st.acc.length = i ∧ i ≤ lens.length) (fun st => by simp) (fun _ => rfl) (zips (nums (0 : Nat) lens.length) (lens.map fun n => D.p (.int n))) (fun i d st e ⟨i1, i2, i3⟩ => by
      rw [zips_tup, List.getElem?_map, Option.map_eq_some_iff] at e
      obtain ⟨q, eq, rfl⟩ := e
      rw [List.getElem?_zipIdx, Option.map_eq_some_iff] at eq
      obtain ⟨len, el, rfl⟩ := eq
      have il : i < lens.length := (List.getElem?_eq_some_iff.mp el).1
      have es : lsT L st (D.p (.tup [.int ((0 + i : Nat) : Int), .int len])) = lsS L st len := by
        rw [Nat.zero_add, ← i1]; simp [lsT]
      refine ⟨?_, ?_⟩
      · rw [es]
        exact ⟨by show st.m + 1 = i + 1; rw [i1], by show (st.acc ++ [_]).length = i + 1; rw [List.length_append, i2]; rfl, by omega⟩
      · rw [es]
        have k0 : ((0 + i : Nat) : Int) = (st.m : Int) := by rw [Nat.zero_add, i1]
        rw [k0]
        have ht := fun s5 s6 s7 s8 s9 => law_turn g h L (.tup (lens.map .int)) st len (by omega) s5 s6 s7 s8 s9
        cases hr : st.rest with
        | none =>
          have ez : lsZ (.tup (L.map .int)) (.tup (lens.map .int)) h.length st = [some (.p (.tup (L.map .int))), some (.p (.tup (lens.map .int))), some (.r h.length), some (.p (.int st.lo)), some (.p (.int st.hi)), none, none, none, none, none] := by unfold lsZ; rw [hr]; rfl
          rw [ez]
          have := ht none none none none none
          simpa only [asgT, asgTs, D.items, List.map_cons, List.map_nil, List.length_cons, List.length_nil, if_true, List.set_cons_succ, List.set_cons_zero, R.then_ok] using this
        | some r =>
          obtain ⟨a1, a2, a3, a4, a5⟩ := r
          have ez : lsZ (.tup (L.map .int)) (.tup (lens.map .int)) h.length st = [some (.p (.tup (L.map .int))), some (.p (.tup (lens.map .int))), some (.r h.length), some (.p (.int st.lo)), some (.p (.int st.hi)), some (.p (.int a1)), some (.p (.int a2)), some (.p (.int a3)), some (.p (.int a4)), some (.p (.int a5))] := by unfold lsZ; rw [hr]; rfl
          rw [ez]
          have := ht none none (some (.p (.int a3))) (some (.p (.int a4))) (some (.p (.int a5)))
          simpa only [asgT, asgTs, D.items, List.map_cons, List.map_nil, List.length_cons, List.length_nil, if_true, List.set_cons_succ, List.set_cons_zero, R.then_ok] using this)
    (zips (nums (0 : Nat) lens.length) (lens.map fun n => D.p (.int n))) 0 ⟨0, 0, 0, [], none⟩ rfl ⟨rfl, rfl, Nat.zero_le _⟩
  have fa := fold_acc L lens 0 ⟨0, 0, 0, [], none⟩ rfl
  rw [← zips_tup] at fa
  generalize (zips (nums (0 : Nat) lens.length) (lens.map fun n => D.p (.int n))).foldl (lsT L) ⟨0, 0, 0, [], none⟩ = st' at lp fa
  have fa : st'.acc = (plc L lens 0 0 0).map fun n => D.p (.int n) := by rw [fa]; rfl
  rw [fa] at lp
  have st : startD 10 [.p (.tup (L.map .int)), .p (.tup (lens.map .int))] = [some (.p (.tup (L.map .int))), some (.p (.tup (lens.map .int))), none, none, none, none, none, none, none, none] := rfl
  dsimp only
  rw [st, evSs, evS.eq_3, evEs, evE.eq_4, evEs, R.bind_ok]
  rw [if_pos (by rw [sizeLine_v]; decide)]
  simp only [mk, R.bind_ok, evEs, evE.eq_1, R.then_ok, asgTs, asgT, List.set_cons_succ, List.set_cons_zero, RS.seq_next]
  rw [evSs, for_eq]
  have ei : evI g (.enum (.v 1)) [some (.p (.tup (L.map .int))), some (.p (.tup (lens.map .int))), some (.r h.length), some (.p (.int 0)), some (.p (.int 0)), none, none, none, none, none] (h ++ [.lst []]) = .ok (zips (nums 0 lens.length) (lens.map fun n => D.p (.int n)), []) (h ++ [.lst []]) := by
    simp only [evSs, evS.eq_1, evS.eq_2, evS.eq_3, evS.eq_4, evS.eq_5, evS.eq_6, evS.eq_7, evS.eq_10, evS.eq_11, evS.eq_12, evS.eq_13, evS.eq_14, evS.eq_15, evE.eq_1, evE.eq_2, evE.eq_3, evE.eq_4, evE.eq_5, evE.eq_6, evE.eq_7, evE.eq_8, evE.eq_9, evE.eq_10, evE.eq_11, evE.eq_12, evE.eq_13, evE.eq_14, evE.eq_15, evE.eq_16, evE.eq_17, evE.eq_18, evE.eq_19, evE.eq_21,  evEs, evO, evTs, evI, asgT, asgTs, slot, startD, R.of_some, R.of_none, R.bind_ok, R.bind_stuck, R.then_ok, RS.seq_next, RS.seq_ret, RS.seq_brk, RS.seq_cont, List.getElem?_cons_zero, List.getElem?_cons_succ, List.set_cons_zero, List.set_cons_succ, List.set_set, add_ii, sub_ii, mul_ii, mod_ii, fdiv_ii, pow_lit, blt_int, blt_max, blt_min, blt_abs, aug_ii, tr_bl, lt_ii, le_ii, gt_ii, ge_ii, eq_ii, ne_ii, trim_p0, if_true, Bool.not_true, Bool.not_false, Bool.false_eq_true, if_false, R.tr_ok_bl, gOf_call, mkT_p2, len_t, sz1, sz2, sz3, sz4, sz6, D.items, seqOf, gdOf, map_pi, List.length_map]
  rw [ei, R.then_ok]
  have lp : loopS [] (fun d s1 h2 => (asgT g (.tup 2 (.cons (.v 5) (.cons (.v 6) .nil))) d s1 h2).then s1 fun s2 h3 => evSs g lawBody s2 h3) (zips (nums 0 lens.length) (lens.map fun n => D.p (.int n))) [some (.p (.tup (L.map .int))), some (.p (.tup (lens.map .int))), some (.r h.length), some (.p (.int 0)), some (.p (.int 0)), none, none, none, none, none] (h ++ [.lst []]) = _ := lp
  rw [lp, RS.seq_next, evSs, evS.eq_10]
  have el : lstOf (h ++ [O.lst ((plc L lens 0 0 0).map fun n => D.p (.int n))]) (.r h.length) = some ((plc L lens 0 0 0).map fun n => D.p (.int n)) := lst_new h _
  have e2 : slot 2 (lsZ (.tup (L.map .int)) (.tup (lens.map .int)) h.length st') = some (.r h.length) := rfl
  rw [evE.eq_16, evEs, evE.eq_2, e2, R.of_some, R.bind_ok, evEs, R.bind_ok, R.bind_ok]
  simp only [bltS, el, mkT_ints, R.then_ok, RS.seq_ret]
  exact trim_p h _ _
end L76

namespace L76
open PySem L2 Pv

theorem flat_one {α : Type} (x : α) : ∀ n : Nat, (List.replicate n [x]).flatten = List.replicate n x
  | 0 => rfl
  | n + 1 => by rw [List.replicate_succ, List.flatten_cons, flat_one x n]; rfl
theorem mul_t (n : Nat) (x : P) (h : Hh) (hn : n ≤ 1000) : binS .mul (.p (.tup [x])) (.p (.int n)) h = .ok (.p (.tup (List.replicate n x))) h := by
  have c : -(2 ^ 63) ≤ (n : Int) ∧ (n : Int) < 2 ^ 63 ∧ [x].length * (n : Int).toNat ≤ sizeLine := ⟨by omega, by omega, by rw [sizeLine_v]; simp only [List.length_cons, List.length_nil, Int.toNat_natCast]; omega⟩
  simp only [binS, mulS]
  rw [if_pos c, Int.toNat_natCast, flat_one]
theorem le1 : (1 : Nat) ≤ sizeLine := by rw [sizeLine_eq]; decide
theorem tup1 (g : G) (s : Sg) (h : Hh) (e : IE) (x : P) (he : evE g e s h = .ok (.p x) h) : evE g (.tup (.cons e .nil)) s h = .ok (.p (.tup [x])) h := by
  rw [evE.eq_3, evEs, he, R.bind_ok, evEs, R.bind_ok, R.bind_ok]
  exact if_pos le1
theorem bin1 (g : G) (s : Sg) (h : Hh) (op : Bin) (a b : IE) (x y : D) (r : R D) (ha : evE g a s h = .ok x h) (hb : evE g b s h = .ok y h) (hr : binS op x y h = r) : evE g (.bin op a b) s h = r := by
  rw [evE.eq_5, ha, R.bind_ok, hb, R.bind_ok, hr]
theorem ev1 (g : G) (h : Hh) (n : Nat) (x : P) (hn : n ≤ 1000) : evE g (.bin .mul (.tup (.cons (.v 1) .nil)) (.v 0)) [some (.p (.int n)), some (.p x)] h = .ok (.p (.tup (List.replicate n x))) h :=
  bin1 g _ h .mul _ _ _ _ _ (tup1 g _ h (.v 1) x (by rw [evE.eq_2]; rfl)) (by rw [evE.eq_2]; rfl) (mul_t n x h hn)
theorem apart_ok {F k : Nat} (h : Hh) (n : Nat) (x : P) (hn : n ≤ 1000) : callN prg F (k + 2) 1 [.p (.int n), .p x] h = .ok (.p (.tup (List.replicate n x))) h := by
  rw [call_eq (fd := f1) rfl rfl]
  generalize gOf prg F (callN prg F (k + 1)) (callN prg F k) = g
  have st : startD f1.ns [.p (.int n), .p x] = [some (.p (.int n)), some (.p x)] := rfl
  rw [st]
  unfold f1
  rw [evSs, evS.eq_10, ev1 g h n x hn, R.then_ok, RS.seq_ret]
  exact trim_p0 h _
theorem ints_of {Q : Int → Prop} : ∀ {xs : List D}, (∀ x ∈ xs, ∃ i, x = .p (.int i) ∧ Q i) → ∃ is : List Int, xs = is.map (fun n => D.p (.int n)) ∧ ∀ i ∈ is, Q i
  | [], _ => ⟨[], rfl, fun _ z => by cases z⟩
  | x :: xs, h => by
    obtain ⟨i, rfl, qi⟩ := h x List.mem_cons_self
    obtain ⟨is, rfl, q⟩ := ints_of fun y hy => h y (List.mem_cons_of_mem _ hy)
    exact ⟨i :: is, rfl, fun j hj => by
      rcases List.mem_cons.mp hj with rfl | hj
      · exact qi
      · exact q j hj⟩
section
variable {F k b l : Nat}
abbrev gL (F k : Nat) : G := gOf prg F (callN prg F (k + 5)) (callN prg F (k + 4))
/-- lengths -/
theorem lens_ok {h : Hh} {s : Sg} {m : Int} (B : Bag h b l) (s1 : slot 1 s = some (.r b)) (s3 : slot 3 s = some (.p (.int m))) (m0 : 0 ≤ m) (m1 : m < 10) (wl : ∀ d, slot 1 ((wipeD s [10]).set 10 (some d)) = some (.r b)) :
    ∃ (xs : List Int) (h' : Hh), Next h h' b l ∧ xs.length = m.toNat ∧ (∀ x ∈ xs, -2 ≤ x ∧ x ≤ 40) ∧
      evE (gL F k) (.trim (.blt .tuple (.cons (.comp [10] (.trim (.call 4 (.cons (.v 1) (.cons (.lst (.cons (.c (.int 0)) (.cons (.c (.int 1)) (.cons (.c (.int 2)) (.cons (.c (.int 7)) (.cons (.neg (.c (.int 2))) (.cons (.c (.int 40)) .nil))))))) .nil)))) (.v 10) (.rng1 (.v 3)) .nil) .nil))) s h = .ok (.p (.tup (xs.map .int))) h' := by
  have body : ∀ (d : D) (h' : Hh) (a : List D), Next h h' b l → ∃ h2 x, Next h h2 b l ∧ (∃ i, x = D.p (.int i) ∧ (-2 ≤ i ∧ i ≤ 40)) ∧
      bodyC (gL F k) [10] (.v 10) .nil (.trim (.call 4 (.cons (.v 1) (.cons (.lst (.cons (.c (.int 0)) (.cons (.c (.int 1)) (.cons (.c (.int 2)) (.cons (.c (.int 7)) (.cons (.neg (.c (.int 2))) (.cons (.c (.int 40)) .nil))))))) .nil)))) s d (h' ++ [.lst a]) = .ok (some x) (h2 ++ [.lst a]) := by
    intro d h' a nx
    have B0 : Bag (h' ++ [.lst a]) b l := nx.1.app _
    have B1 := B0.app [O.lst ([P.int 0, .int 1, .int 2, .int 7, .int (-2), .int 40].map .p)]
    obtain ⟨x, h2, hx, n2, e⟩ := some_ok (p := prg) (F := F) (k := k + 2) (t := 3) (t' := 4) rfl rfl (L := (h' ++ [O.lst a]).length) (items := [.int 0, .int 1, .int 2, .int 7, .int (-2), .int 40]) B1 (Nat.ne_of_lt B0.lt.1) (by simp) (by simp) (by simp)
    obtain ⟨h3, rfl, n3⟩ := n2.unapp B0
    have n3' := n3
    obtain ⟨h4, rfl, n4⟩ := n3.unapp nx.1
    refine ⟨h4, .p x, nx.trans n4, ?_, ?_⟩
    · simp only [List.mem_cons, List.mem_singleton, List.not_mem_nil, or_false] at hx
      rcases hx with rfl | rfl | rfl | rfl | rfl | rfl <;> exact ⟨_, rfl, by decide, by decide⟩
    · have tr_ := n3'.trim B0 [O.lst ([P.int 0, .int 1, .int 2, .int 7, .int (-2), .int 40].map .p)] x
      simp only [bodyC, asgT, R.bind_ok, evTs, if_true, evE.eq_21, evE.eq_13, evEs, evE.eq_2, wl, R.of_some, evE.eq_4, evE.eq_1, evE.eq_6, List.length_cons, List.length_nil]
      rw [if_pos (show 0 + 1 + 1 + 1 + 1 + 1 + 1 ≤ sizeLine by rw [sizeLine_eq]; decide)]
      have e : (gL F k).call 4 [D.r b, D.r (h' ++ [O.lst a]).length] (h' ++ [O.lst a] ++ [O.lst [.p (.int 0), .p (.int 1), .p (.int 2), .p (.int 7), .p (.int (-2)), .p (.int 40)]]) = .ok (.p x) (h4 ++ [O.lst a] ++ [O.lst [.p (.int 0), .p (.int 1), .p (.int 2), .p (.int 7), .p (.int (-2)), .p (.int 40)]]) := e
      rw [mk, R.bind_ok, R.bind_ok, R.bind_ok, e]
      have tr_ : trimR (h' ++ [O.lst a]) (.ok (.p x) (h4 ++ [O.lst a] ++ [O.lst [.p (.int 0), .p (.int 1), .p (.int 2), .p (.int 7), .p (.int (-2)), .p (.int 40)]])) = .ok (.p x) (h4 ++ [O.lst a]) := tr_
      rw [tr_, R.bind_ok]
  obtain ⟨h2, xs, n2, lx, qx, e⟩ := loopC_st (gd := []) h.length (fun h' => Next h h' b l) (fun x => ∃ i, x = D.p (.int i) ∧ (-2 ≤ i ∧ i ≤ 40)) (fun h' n => n.length) (fun _ _ _ => rfl) (fun d h' a n => body d h' a n) (nums 0 m.toNat) [] h (Next.refl B) (by rw [nums_length, sizeLine_v]; simp only [List.length_nil]; omega)
  obtain ⟨is, rfl, qi⟩ := ints_of qx
  rw [List.length_map, nums_length] at lx
  refine ⟨is, h2, n2, lx, qi, ?_⟩
  have ei : evI (gL F k) (.rng1 (.v 3)) s h = .ok (nums 0 m.toNat, []) h := by
    rw [evI, evE.eq_2, s3, R.of_some, R.bind_ok]
    exact if_pos ⟨by omega, by omega⟩
  have ec : evE (gL F k) (.comp [10] (.trim (.call 4 (.cons (.v 1) (.cons (.lst (.cons (.c (.int 0)) (.cons (.c (.int 1)) (.cons (.c (.int 2)) (.cons (.c (.int 7)) (.cons (.neg (.c (.int 2))) (.cons (.c (.int 40)) .nil))))))) .nil)))) (.v 10) (.rng1 (.v 3)) .nil) s h = .ok (.r h.length) (h2 ++ [.lst (is.map fun n => .p (.int n))]) := by
    rw [comp_eq, ei, R.bind_ok]
    dsimp only
    rw [e, R.bind_ok, List.nil_append]
  have el : lstOf (h2 ++ [O.lst (is.map fun n => D.p (.int n))]) (.r h.length) = some (is.map fun n => D.p (.int n)) := by
    rw [← n2.length]; exact lst_new h2 _
  rw [evE.eq_21, evE.eq_16, evEs, ec, R.bind_ok, evEs, R.bind_ok, R.bind_ok]
  simp only [bltS, el, mkT_ints]
  exact n2.trim B _ _
/-- layout -/
theorem layout_ok {h : Hh} {s : Sg} (B : Bag h b l) (s1 : slot 1 s = some (.r b)) (wl : ∀ d, slot 1 ((wipeD s [10]).set 10 (some d)) = some (.r b)) :
    ∃ (xs : List Int) (h' : Hh), Next h h' b l ∧ xs.length < 12 ∧ (∀ x ∈ xs, -4 ≤ x ∧ x ≤ 4) ∧
      evE (gL F k) (.trim (.blt .tuple (.cons (.comp [10] (.trim (.bin .sub (.call 3 (.cons (.v 1) (.cons (.c (.int 9)) .nil))) (.c (.int 4)))) (.v 10) (.rng1 (.call 3 (.cons (.v 1) (.cons (.c (.int 12)) .nil)))) .nil) .nil))) s h = .ok (.p (.tup (xs.map .int))) h' := by
  have body : ∀ (d : D) (h' : Hh) (a : List D), Bag h' b l → ∃ h2 x, Next h' h2 b l ∧ (∃ i, x = D.p (.int i) ∧ (-4 ≤ i ∧ i ≤ 4)) ∧
      bodyC (gL F k) [10] (.v 10) .nil (.trim (.bin .sub (.call 3 (.cons (.v 1) (.cons (.c (.int 9)) .nil))) (.c (.int 4)))) s d (h' ++ [.lst a]) = .ok (some x) (h2 ++ [.lst a]) := by
    intro d h' a B'
    have B0 : Bag (h' ++ [.lst a]) b l := B'.app _
    obtain ⟨v, h2, v0, v1, n2, e⟩ := take_next (p := prg) (F := F) (k := k + 3) (t := 3) rfl B0 (many := 9) (by decide) (by decide)
    have n2' := n2
    obtain ⟨h3, rfl, n3⟩ := n2.unapp B'
    refine ⟨h3, .p (.int (v - 4)), n3, ⟨_, rfl, by omega, by omega⟩, ?_⟩
    have tr_ := n2'.trim0 B0 (.int (v - 4))
    have e : (gL F k).call 3 [.r b, .p (.int 9)] (h' ++ [.lst a]) = .ok (.p (.int v)) (h3 ++ [.lst a]) := e
    simp only [bodyC, asgT, R.bind_ok, evTs, if_true, evE.eq_21, evE.eq_5, evE.eq_13, evEs, evE.eq_2, wl, R.of_some, evE.eq_1, e, sub_ii, tr_]
  obtain ⟨m, h1, m0, m1, n1, e1⟩ := take_next (p := prg) (F := F) (k := k + 3) (t := 3) rfl B (many := 12) (by decide) (by decide)
  have e1 : (gL F k).call 3 [.r b, .p (.int 12)] h = .ok (.p (.int m)) h1 := e1
  obtain ⟨h2, xs, n2, lx, qx, e⟩ := loopC_st (gd := []) h1.length (fun h' => Next h1 h' b l) (fun x => ∃ i, x = D.p (.int i) ∧ (-4 ≤ i ∧ i ≤ 4)) (fun h' n => n.length) (fun _ _ _ => rfl) (fun d h' a n => by
    obtain ⟨h2, x, n2, q, e⟩ := body d h' a n.1
    exact ⟨h2, x, n.trans n2, q, e⟩) (nums 0 m.toNat) [] h1 (Next.refl n1.1) (by rw [nums_length, sizeLine_v]; simp only [List.length_nil]; omega)
  obtain ⟨is, rfl, qi⟩ := ints_of qx
  rw [List.length_map, nums_length] at lx
  refine ⟨is, h2, n1.trans n2, by omega, qi, ?_⟩
  have ei : evI (gL F k) (.rng1 (.call 3 (.cons (.v 1) (.cons (.c (.int 12)) .nil)))) s h = .ok (nums 0 m.toNat, []) h1 := by
    rw [evI, evE.eq_13, evEs, evE.eq_2, s1, R.of_some, R.bind_ok, evEs, evE.eq_1, R.bind_ok, evEs, R.bind_ok, R.bind_ok, R.bind_ok, e1, R.bind_ok]
    exact if_pos ⟨by omega, by omega⟩
  have ec : evE (gL F k) (.comp [10] (.trim (.bin .sub (.call 3 (.cons (.v 1) (.cons (.c (.int 9)) .nil))) (.c (.int 4)))) (.v 10) (.rng1 (.call 3 (.cons (.v 1) (.cons (.c (.int 12)) .nil)))) .nil) s h = .ok (.r h1.length) (h2 ++ [.lst (is.map fun n => .p (.int n))]) := by
    rw [comp_eq, ei, R.bind_ok]
    dsimp only
    rw [e, R.bind_ok, List.nil_append]
  have el : lstOf (h2 ++ [O.lst (is.map fun n => D.p (.int n))]) (.r h1.length) = some (is.map fun n => D.p (.int n)) := by
    rw [← n2.length]; exact lst_new h2 _
  rw [evE.eq_21, evE.eq_16, evEs, ec, R.bind_ok, evEs, R.bind_ok, R.bind_ok]
  simp only [bltS, el, mkT_ints]
  exact (n1.trans n2).trim B _ _

/-! ### the laws that are looked at, in plain words -/
/-- bounds: no number is far off -/
theorem plc_far (L : List Int) (hL : ∀ g ∈ L, -1000 ≤ g ∧ g ≤ 1000) : ∀ (lens : List Int) (m : Nat) (lo hi N : Int), (∀ n ∈ lens, n ≤ 1000) → 0 ≤ N → -N ≤ lo → lo ≤ N → -N ≤ hi → hi ≤ N → ∀ x ∈ plc L lens m lo hi, -(N + 5000 * lens.length) ≤ x ∧ x ≤ N + 5000 * lens.length
  | [], _, _, _, _, _, _, _, _, _, _, x, hx => by cases hx
  | len :: r, m, lo, hi, N, hl, h0, h1, h2, h3, h4, x, hx => by
    have hg : -1000 ≤ gap L m ∧ gap L m ≤ 1000 := by
      unfold gap
      rw [List.getD_eq_getElem?_getD]
      cases e : L[m]? with
      | none => exact ⟨by show -1000 ≤ (0 : Int); decide, by show (0 : Int) ≤ 1000; decide⟩
      | some g => exact hL g (List.mem_of_getElem? e)
    have hn := hl len List.mem_cons_self
    have hb : -(N + 2001) ≤ baseOf (gap L m) lo hi len ∧ baseOf (gap L m) lo hi len ≤ N + 2001 := by
      unfold baseOf mx
      split
      · omega
      · split <;> omega
    have hm : 0 ≤ mx len ∧ mx len ≤ 1000 := by unfold mx; split <;> omega
    rw [List.length_cons]
    rw [plc] at hx
    rcases List.mem_cons.mp hx with rfl | hx
    · omega
    · have := plc_far L hL r (m + 1) _ _ (N + 5000) (fun n hn => hl n (List.mem_cons_of_mem _ hn)) (by omega) (by unfold mn lo1; split <;> split <;> omega) (by unfold mn lo1; split <;> split <;> omega) (by unfold mxx lo1; split <;> split <;> omega) (by unfold mxx lo1; split <;> split <;> omega) x hx
      omega
end
end L76

namespace L76
open PySem L2 Pv

theorem log_small {x : Int} (h1 : -1000000000000 ≤ x) (h2 : x ≤ 1000000000000) : x.natAbs.log2 < 1920 := by
  by_cases z : x.natAbs = 0
  · rw [z]; decide
  · rw [Nat.log2_lt z]
    exact Nat.lt_of_lt_of_le (show x.natAbs < 2 ^ 60 by omega) (Nat.pow_le_pow_right (by decide) (by decide))
theorem ints_nums : ∀ {is : List Int}, (∀ x ∈ is, -1000000000000 ≤ x ∧ x ≤ 1000000000000) → P.numss (is.map .int) = true ∧ P.depths (is.map .int) = 0 ∧ P.ws (is.map .int) = 1923 * is.length
  | [], _ => ⟨rfl, rfl, rfl⟩
  | x :: is, h => by
    obtain ⟨h1, h2, h3⟩ := ints_nums (is := is) fun y hy => h y (List.mem_cons_of_mem _ hy)
    have hx := h x List.mem_cons_self
    have lg := log_small hx.1 hx.2
    refine ⟨by simp only [List.map_cons, P.numss, P.nums, lg, decide_true, h1, Bool.and_self], by simp only [List.map_cons, P.depths, P.depth, h2]; rfl, ?_⟩
    simp only [List.map_cons, P.ws, P.w, h3, List.length_cons]
    omega
theorem fine_ints {is : List Int} (h : ∀ x ∈ is, -1000000000000 ≤ x ∧ x ≤ 1000000000000) (l : is.length ≤ 1000) : Fine (.tup (is.map .int)) := by
  obtain ⟨h1, h2, h3⟩ := ints_nums h
  refine ⟨by simpa only [P.nums] using h1, by simp only [P.depth, h2]; decide, ?_⟩
  simp only [P.w, h3]
  rw [sizeLine_eq]
  omega
/-! ### rows do not meet -/
/-- x before y or beside it -/
abbrev Row2 := Int × Int
def apartR (x y : Row2) : Prop := x.2 ≤ y.1 ∨ y.2 ≤ x.1
def leR (x y : Row2) : Bool := decide (x.1 < y.1 ∨ (x.1 = y.1 ∧ x.2 ≤ y.2))
def rowsOf : List (Int × Int) → List Row2
  | [] => []
  | (b, len) :: r => if 0 < len then (b, b + len) :: rowsOf r else rowsOf r
theorem rows_apart (L : List Int) : ∀ (lens : List Int) (m : Nat) (lo hi : Int), lo ≤ hi → (m = 0 → lo = 0 ∧ hi = 0) →
    (rowsOf ((plc L lens m lo hi).zip lens)).Pairwise apartR ∧ (0 < m → ∀ x ∈ rowsOf ((plc L lens m lo hi).zip lens), x.2 ≤ lo ∨ hi ≤ x.1) ∧ ∀ x ∈ rowsOf ((plc L lens m lo hi).zip lens), x.1 < x.2
  | [], _, _, _, _, _ => ⟨.nil, (fun _ _ z => by cases z), (fun _ z => by cases z)⟩
  | len :: r, m, lo, hi, h, hz => by
    have mpos : 0 ≤ mx len ∧ len ≤ mx len ∧ (0 < len → mx len = len) := by unfold mx; split <;> omega
    have bs : (hi ≤ baseOf (gap L m) lo hi len) ∨ baseOf (gap L m) lo hi len + mx len ≤ lo := by unfold baseOf; split <;> omega
    rw [plc]
    generalize baseOf (gap L m) lo hi len = B at bs ⊢
    -- what comes later lies outside
    have low : mn (lo1 m lo B) B ≤ B := by unfold mn; split <;> omega
    have high : B + mx len ≤ mxx (lo1 m hi (B + mx len)) (B + mx len) := by unfold mxx; split <;> omega
    have low2 : 0 < m → mn (lo1 m lo B) B ≤ lo := fun q => by unfold mn lo1; rw [if_neg (show ¬ m = 0 by omega)]; split <;> omega
    have high2 : 0 < m → hi ≤ mxx (lo1 m hi (B + mx len)) (B + mx len) := fun q => by unfold mxx lo1; rw [if_neg (show ¬ m = 0 by omega)]; split <;> omega
    obtain ⟨i1, i2, i3⟩ := rows_apart L r (m + 1) (mn (lo1 m lo B) B) (mxx (lo1 m hi (B + mx len)) (B + mx len)) (by omega) (fun z => by omega)
    have i2 := i2 (by omega)
    rw [List.zip_cons_cons, rowsOf]
    split
    · rename_i q
      have ml := mpos.2.2 q
      refine ⟨List.pairwise_cons.mpr ⟨fun x hx => ?_, i1⟩, fun q x hx => ?_, fun x hx => ?_⟩
      · rcases i2 x hx with z | z
        · exact .inr (by show x.2 ≤ B; omega)
        · exact .inl (by show B + len ≤ x.1; omega)
      · rcases List.mem_cons.mp hx with rfl | hx
        · rcases bs with z | z
          · exact .inr z
          · exact .inl (by show B + len ≤ lo; omega)
        · have a := low2 q
          have b := high2 q
          rcases i2 x hx with z | z
          · exact .inl (by omega)
          · exact .inr (by omega)
      · rcases List.mem_cons.mp hx with rfl | hx
        · show B < B + len; omega
        · exact i3 x hx
    · refine ⟨i1, fun q x hx => ?_, i3⟩
      have a := low2 q
      have b := high2 q
      rcases i2 x hx with z | z
      · exact .inl (by omega)
      · exact .inr (by omega)
theorem apartR_symm {x y : Row2} (h : apartR x y) : apartR y x := Or.symm h
theorem sorted_rows {rows : List Row2} (h1 : rows.Pairwise apartR) (h2 : ∀ x ∈ rows, x.1 < x.2) : ∀ k, 1 ≤ k → ∀ x y, (rows.mergeSort leR)[k]? = some x → (rows.mergeSort leR)[k - 1]? = some y → y.2 ≤ x.1 := by
  intro k hk x y ex ey
  have perm := List.mergeSort_perm rows leR
  have p1 : (rows.mergeSort leR).Pairwise apartR := (perm.pairwise_iff (fun h => apartR_symm h)).mpr h1
  have so : (rows.mergeSort leR).Pairwise (fun a b => leR a b = true) := List.pairwise_mergeSort (fun a b c q r => by
    unfold leR at *; simp only [decide_eq_true_eq] at *; omega) (fun a b => by
    unfold leR; rw [Bool.or_eq_true, decide_eq_true_eq, decide_eq_true_eq]; omega) rows
  obtain ⟨lx, gx⟩ := List.getElem?_eq_some_iff.mp ex
  obtain ⟨ly, gy⟩ := List.getElem?_eq_some_iff.mp ey
  have a := List.pairwise_iff_getElem.mp p1 (k - 1) k ly lx (by omega)
  have b := List.pairwise_iff_getElem.mp so (k - 1) k ly lx (by omega)
  rw [gx, gy] at a b
  have hx := h2 x (perm.mem_iff.mp (by rw [← gx]; exact List.getElem_mem lx))
  have hy := h2 y (perm.mem_iff.mp (by rw [← gy]; exact List.getElem_mem ly))
  unfold leR at b
  simp only [decide_eq_true_eq] at b
  rcases a with z | z
  · exact z
  · omega
end L76

namespace L76
open PySem L2 Pv
def enc (x : Row2) : P := .tup [.int x.1, .int x.2]
theorem alike_enc (a b : Row2) : P.alike (enc a) (enc b) = true := by
  simp [P.alike, enc, P.py, P.pys, PySem.W.alike, PySem.W.alikeAll]
theorem lt_enc (a b : Row2) : P.lt (enc a) (enc b) = decide (a.1 < b.1 ∨ (a.1 = b.1 ∧ a.2 < b.2)) := by
  simp [P.lt, enc, P.py, P.pys, PySem.W.dataLt, PySem.W.keyToks, PySem.W.keyToksAll, PyProof.Rows.lexLt]
  simp only [PyProof.Rows.itemLt]
  rw [Bool.eq_iff_iff]
  simp
  omega
theorem le_enc (a b : Row2) : leR a b = P.le (enc a) (enc b) := by
  unfold P.le leR
  rw [lt_enc, Bool.eq_iff_iff]
  simp
  omega
theorem sort_enc (rows : List Row2) : (rows.map enc).mergeSort P.le = (rows.mergeSort leR).map enc := (List.map_mergeSort fun a _ b _ => le_enc a b).symm
theorem sortable_enc (rows : List Row2) : sortable (rows.map enc) = true := by
  unfold sortable
  simp only [Bool.and_eq_true, Bool.or_eq_true, List.all_eq_true]
  refine ⟨⟨fun x hx y hy => ?_, .inl fun x hx => ?_⟩, fun x hx => ?_⟩
  · obtain ⟨a, _, rfl⟩ := List.mem_map.mp hx
    obtain ⟨b, _, rfl⟩ := List.mem_map.mp hy
    exact alike_enc a b
  · obtain ⟨a, _, rfl⟩ := List.mem_map.mp hx
    rfl
  · obtain ⟨a, _, rfl⟩ := List.mem_map.mp hx
    rfl
theorem trim_one (h t : Hh) (i : Nat) (o : O) (hi : h.length ≤ i) (g : (h ++ t)[i]? = some o) (u : o.under h.length = true) : trimR h (.ok (.r i) (h ++ t)) = .ok (.r h.length) (h ++ [o]) := by
  have a := agree_app t h.length h
  have d : D.under h.length (.r i) = false := by simp [D.under, hi]
  simp only [trimR, a, d, if_true]
  rw [if_neg (by simp), g]
  dsimp only
  rw [u, Bool.and_true, if_pos (by rw [decide_eq_true_eq]; exact hi), List.take_left' rfl]
theorem unders_p {n : Nat} : ∀ xs : List P, D.unders n (xs.map .p) = true
  | [] => rfl
  | x :: xs => by simp only [List.map_cons, D.unders, D.under, unders_p xs, Bool.and_self]
/-- pairs of a base and a length -/
def pairs (bs lens : List Int) : List D := (bs.zip lens).map fun q => .p (.tup [.int q.1, .int q.2])
theorem zips_pairs : ∀ bs lens : List Int, zips (bs.map fun n => D.p (.int n)) (lens.map fun n => D.p (.int n)) = pairs bs lens
  | [], _ => by simp [zips, pairs]
  | _ :: _, [] => by simp [zips, pairs]
  | b :: bs, l :: ls => by
    have := zips_pairs bs ls
    unfold pairs at *
    rw [List.map_cons, List.map_cons, zips, this, List.zip_cons_cons, List.map_cons]
    rfl
def rowF (d : D) : Option D := match d with
  | .p (.tup [.int b, .int len]) => if 0 < len then some (.p (.tup [.int b, .int (b + len)])) else none
  | _ => none
theorem rowF_all : ∀ q : List (Int × Int), (q.map fun q => D.p (.tup [.int q.1, .int q.2])).filterMap rowF = ((rowsOf q).map enc).map .p
  | [] => rfl
  | (b, len) :: r => by
    have ih := rowF_all r
    by_cases p : 0 < len
    · have e : rowF (D.p (.tup [.int b, .int len])) = some (.p (.tup [.int b, .int (b + len)])) := by simp only [rowF, p, if_true]
      rw [List.map_cons, List.filterMap_cons_some e, ih, rowsOf, if_pos p]
      rfl
    · have e : rowF (D.p (.tup [.int b, .int len])) = none := by simp only [rowF, p, if_false]
      rw [List.map_cons, List.filterMap_cons_none e, ih, rowsOf, if_neg p]
theorem map_encp (l : List Row2) : pures ((l.map enc).map .p) = some (l.map enc) := pures_map _
theorem rows_ok {g : G} {h : Hh} {s : Sg} {bs lens : List Int} (s6 : slot 6 s = some (.p (.tup (bs.map .int)))) (s4 : slot 4 s = some (.p (.tup (lens.map .int)))) (hl : lens.length ≤ 1000)
    (w12 : ∀ d e, slot 12 (((wipeD s [12, 13]).set 12 (some d)).set 13 (some e)) = some d) (w13 : ∀ d e, slot 13 (((wipeD s [12, 13]).set 12 (some d)).set 13 (some e)) = some e) :
    evE g (.trim (.blt .sorted (.cons (.comp [12, 13] (.trim (.tup (.cons (.v 12) (.cons (.bin .add (.v 12) (.v 13)) .nil)))) (.tup 2 (.cons (.v 12) (.cons (.v 13) .nil))) (.zip (.v 6) (.v 4)) (.cons (.cmp .gt (.v 13) (.c (.int 0))) .nil)) .nil))) s h = .ok (.r h.length) (h ++ [.lst ((((rowsOf (bs.zip lens)).mergeSort leR).map enc).map .p)]) := by
  have lz : (bs.zip lens).length ≤ 1000 := by rw [List.length_zip]; omega
  have w12' := w12
  have w13' := w13
  simp only [slot] at w12' w13'
  have lp := loopC_map h [] (bodyC g [12, 13] (.tup 2 (.cons (.v 12) (.cons (.v 13) .nil))) (.cons (.cmp .gt (.v 13) (.c (.int 0))) .nil) (.trim (.tup (.cons (.v 12) (.cons (.bin .add (.v 12) (.v 13)) .nil)))) s) rowF (fun _ => rfl) (pairs bs lens) [] (fun d hd a => by
    obtain ⟨q, _, rfl⟩ := List.mem_map.mp hd
    by_cases p : 0 < q.2
    · simp only [bodyC, evSs, evS.eq_1, evS.eq_2, evS.eq_3, evS.eq_4, evS.eq_5, evS.eq_6, evS.eq_7, evS.eq_10, evS.eq_11, evS.eq_12, evS.eq_13, evS.eq_14, evS.eq_15, evE.eq_1, evE.eq_2, evE.eq_3, evE.eq_4, evE.eq_5, evE.eq_6, evE.eq_7, evE.eq_8, evE.eq_9, evE.eq_10, evE.eq_11, evE.eq_12, evE.eq_13, evE.eq_14, evE.eq_15, evE.eq_16, evE.eq_17, evE.eq_18, evE.eq_19, evE.eq_21,  evEs, evO, evTs, evI, asgT, asgTs, slot, startD, R.of_some, R.of_none, R.bind_ok, R.bind_stuck, R.then_ok, RS.seq_next, RS.seq_ret, RS.seq_brk, RS.seq_cont, List.getElem?_cons_zero, List.getElem?_cons_succ, List.set_cons_zero, List.set_cons_succ, List.set_set, add_ii, sub_ii, mul_ii, mod_ii, fdiv_ii, pow_lit, blt_int, blt_max, blt_min, blt_abs, aug_ii, tr_bl, lt_ii, le_ii, gt_ii, ge_ii, eq_ii, ne_ii, trim_p0, if_true, Bool.not_true, Bool.not_false, Bool.false_eq_true, if_false, R.tr_ok_bl, gOf_call, mkT_p2, len_t, sz1, sz2, sz3, sz4, sz6, D.items, List.map_cons, List.map_nil, List.length_cons, List.length_nil, w12', w13', p, decide_true]
      simp only [rowF, p, if_true]
    · simp only [bodyC, evSs, evS.eq_1, evS.eq_2, evS.eq_3, evS.eq_4, evS.eq_5, evS.eq_6, evS.eq_7, evS.eq_10, evS.eq_11, evS.eq_12, evS.eq_13, evS.eq_14, evS.eq_15, evE.eq_1, evE.eq_2, evE.eq_3, evE.eq_4, evE.eq_5, evE.eq_6, evE.eq_7, evE.eq_8, evE.eq_9, evE.eq_10, evE.eq_11, evE.eq_12, evE.eq_13, evE.eq_14, evE.eq_15, evE.eq_16, evE.eq_17, evE.eq_18, evE.eq_19, evE.eq_21,  evEs, evO, evTs, evI, asgT, asgTs, slot, startD, R.of_some, R.of_none, R.bind_ok, R.bind_stuck, R.then_ok, RS.seq_next, RS.seq_ret, RS.seq_brk, RS.seq_cont, List.getElem?_cons_zero, List.getElem?_cons_succ, List.set_cons_zero, List.set_cons_succ, List.set_set, add_ii, sub_ii, mul_ii, mod_ii, fdiv_ii, pow_lit, blt_int, blt_max, blt_min, blt_abs, aug_ii, tr_bl, lt_ii, le_ii, gt_ii, ge_ii, eq_ii, ne_ii, trim_p0, if_true, Bool.not_true, Bool.not_false, Bool.false_eq_true, if_false, R.tr_ok_bl, gOf_call, mkT_p2, len_t, sz1, sz2, sz3, sz4, sz6, D.items, List.map_cons, List.map_nil, List.length_cons, List.length_nil, w12', w13', p, decide_false]
      simp only [rowF, p, if_false]) (by unfold pairs; rw [List.length_map, sizeLine_v]; simp only [List.length_nil]; omega)
  have rf : (pairs bs lens).filterMap rowF = ((rowsOf (bs.zip lens)).map enc).map .p := rowF_all _
  rw [rf, List.nil_append] at lp
  have ei : evI g (.zip (.v 6) (.v 4)) s h = .ok (pairs bs lens, []) h := by
    rw [evI, evE.eq_2, s6, R.of_some, R.bind_ok, evE.eq_2, s4, R.of_some, R.bind_ok]
    simp only [seqOf, gdOf, map_pi, zips_pairs, List.append_nil]
  have ec : evE g (.comp [12, 13] (.trim (.tup (.cons (.v 12) (.cons (.bin .add (.v 12) (.v 13)) .nil)))) (.tup 2 (.cons (.v 12) (.cons (.v 13) .nil))) (.zip (.v 6) (.v 4)) (.cons (.cmp .gt (.v 13) (.c (.int 0))) .nil)) s h = .ok (.r h.length) (h ++ [.lst (((rowsOf (bs.zip lens)).map enc).map .p)]) := by
    rw [comp_eq, ei, R.bind_ok]
    dsimp only
    rw [lp, R.bind_ok]
  have el : lstOf (h ++ [O.lst (((rowsOf (bs.zip lens)).map enc).map .p)]) (.r h.length) = some (((rowsOf (bs.zip lens)).map enc).map .p) := lst_new h _
  rw [evE.eq_21, evE.eq_16, evEs, ec, R.bind_ok, evEs, R.bind_ok, R.bind_ok]
  have sd : bltS .sorted [.r h.length] (h ++ [O.lst (((rowsOf (bs.zip lens)).map enc).map .p)]) = .ok (.r (h ++ [O.lst (((rowsOf (bs.zip lens)).map enc).map .p)]).length) (h ++ [O.lst (((rowsOf (bs.zip lens)).map enc).map .p)] ++ [.lst ((((rowsOf (bs.zip lens)).mergeSort leR).map enc).map .p)]) := by
    simp only [bltS, el, map_encp, sortable_enc, if_true, sort_enc, mk]
  rw [sd, List.append_assoc]
  exact trim_one h _ _ _ (by rw [List.length_append]; omega) (by simp) (unders_p _)
end L76

namespace L76
open PySem L2 Pv
theorem le0 : (0 : Nat) ≤ sizeLine := Nat.zero_le _
theorem ne_empty {g : G} {s : Sg} {h : Hh} {c : IE} (e : evE g c s h = .ok (.r h.length) (h ++ [.lst []])) : evE g (.trim (.cmp .ne c (.lst .nil))) s h = .ok (.p (.bl false)) h := by
  rw [evE.eq_21, evE.eq_8, e, R.bind_ok, evE.eq_4, evEs, R.bind_ok, if_pos (show ([] : List D).length ≤ sizeLine from le0), mk, R.bind_ok]
  have g1 : (h ++ [O.lst []] ++ [O.lst []])[h.length]? = some (.lst []) := by simp
  have g2 : (h ++ [O.lst []] ++ [O.lst []])[(h ++ [O.lst []]).length]? = some (.lst []) := by simp
  have s1 : see 64 (h ++ [O.lst []] ++ [O.lst []]) (.r h.length) = some (.list []) := by simp only [see, g1]; rfl
  have s2 : see 64 (h ++ [O.lst []] ++ [O.lst []]) (.r (h ++ [O.lst []]).length) = some (.list []) := by simp only [see, g2]; rfl
  have q : eqO (h ++ [O.lst []] ++ [O.lst []]) (.r h.length) (.r (h ++ [O.lst []]).length) = some true := by
    simp only [eqO, s1, s2]
    rfl
  have cn : cmpS .ne (.r h.length) (.r (h ++ [O.lst []]).length) (h ++ [O.lst []] ++ [O.lst []]) = .ok false (h ++ [O.lst []] ++ [O.lst []]) := by
    simp only [cmpS, q]
    rfl
  rw [cn, R.bind_ok, List.append_assoc]
  exact trim_p h _ _
theorem nums_mem {d : D} : ∀ {n : Nat} {a : Int}, d ∈ nums a n → ∃ i : Nat, i < n ∧ d = .p (.int (a + i))
  | 0, _, h => by cases h
  | n + 1, a, h => by
    rw [nums] at h
    rcases List.mem_cons.mp h with rfl | h
    · exact ⟨0, by omega, by simp⟩
    · obtain ⟨i, hi, rfl⟩ := nums_mem h
      exact ⟨i + 1, by omega, by congr 2; omega⟩
/-- a search among 1 .. n-1 that finds nothing -/
theorem none_found {g : G} {s : Sg} {h : Hh} {b : IE} {q : IE} {n : Int} (hb : evE g b s h = .ok (.p (.int n)) h) (n0 : 0 ≤ n) (n1 : n ≤ 1000) (hq : ∀ (i : Nat) (a : List D), 1 + (i : Int) < n → evE g q ((wipeD s [11]).set 11 (some (.p (.int (1 + i))))) (h ++ [.lst a]) = .ok (.p (.bl false)) (h ++ [.lst a])) :
    evE g (.comp [11] (.v 11) (.v 11) (.rng2 (.c (.int 1)) b) (.cons q .nil)) s h = .ok (.r h.length) (h ++ [.lst []]) := by
  have lp := loopC_map h [] (bodyC g [11] (.v 11) (.cons q .nil) (.v 11) s) (fun _ => none) (fun _ => rfl) (nums 1 (n - 1).toNat) [] (fun d hd a => by
    obtain ⟨i, hi, rfl⟩ := nums_mem hd
    simp only [bodyC, asgT, R.bind_ok, evTs, hq i a (by omega), R.tr_ok_bl, Bool.false_eq_true, if_false]) (by rw [nums_length, sizeLine_v]; simp only [List.length_nil]; omega)
  have fe : ∀ l : List D, l.filterMap (fun _ => (none : Option D)) = [] := fun l => by induction l with
    | nil => rfl
    | cons x xs ih => rw [List.filterMap_cons_none rfl, ih]
  rw [fe, List.append_nil] at lp
  rw [comp_eq, evI, evE.eq_1, R.bind_ok, hb, R.bind_ok]
  dsimp only
  rw [show (if -(2 ^ 62) ≤ (1 : Int) ∧ (1 : Int) < 2 ^ 62 ∧ -(2 ^ 62) ≤ n ∧ n < 2 ^ 62 ∧ n - 1 ≤ 16777216 then (R.ok (nums 1 (n - 1).toNat, []) h : R (List D × Gd)) else .stuck) = .ok (nums 1 (n - 1).toNat, []) h from if_pos ⟨by omega, by omega, by omega, by omega, by omega⟩, R.bind_ok]
  dsimp only
  rw [lp, R.bind_ok]
/-- the first search: a row that begins ahead of its neighbour's end -/
theorem clash_ok {g : G} {s : Sg} {h : Hh} {rows : List Row2} {R0 : Nat} (s7 : slot 7 s = some (.r R0)) (hr : h[R0]? = some (.lst ((rows.map enc).map .p))) (hl : rows.length ≤ 1000)
    (ok : ∀ k, 1 ≤ k → ∀ x y, rows[k]? = some x → rows[k - 1]? = some y → y.2 ≤ x.1) (w7 : ∀ d, slot 7 ((wipeD s [11]).set 11 (some d)) = some (.r R0)) (w11 : ∀ d, slot 11 ((wipeD s [11]).set 11 (some d)) = some d) :
    evE g (.trim (.cmp .ne (.comp [11] (.v 11) (.v 11) (.rng2 (.c (.int 1)) (.blt .len (.cons (.v 7) .nil))) (.cons (.cmp .lt (.sub (.sub (.v 7) (.v 11)) (.c (.int 0))) (.sub (.sub (.v 7) (.bin .sub (.v 11) (.c (.int 1)))) (.c (.int 1)))) .nil)) (.lst .nil))) s h = .ok (.p (.bl false)) h := by
  refine ne_empty (none_found (n := rows.length) ?_ (by omega) (by omega) fun i a hi => ?_)
  · have ln : lenOf h (.r R0) = some rows.length := by simp [lenOf, hr]
    rw [evE.eq_16, evEs, evE.eq_2, s7, R.of_some, R.bind_ok, evEs, R.bind_ok, R.bind_ok]
    simp only [bltS, ln]
    rfl
  · have lt : R0 < h.length := (List.getElem?_eq_some_iff.mp hr).1
    have lo : lstOf (h ++ [.lst a]) (.r R0) = some ((rows.map enc).map .p) := by rw [lst_app h _ _ lt]; simp [lstOf, hr]
    have i1 : 1 + i < rows.length := by omega
    have a1 : atI ((rows.map enc).map D.p) (1 + (i : Int)) = some (.p (enc rows[1 + i])) := by
      rw [show (1 + (i : Int)) = ((1 + i : Nat) : Int) by omega, Pv.atI_nat, List.getElem?_map, List.getElem?_map, List.getElem?_eq_getElem i1]; rfl
    have a2 : atI ((rows.map enc).map D.p) (1 + (i : Int) - 1) = some (.p (enc rows[i])) := by
      rw [show (1 + (i : Int) - 1) = (i : Int) by omega, Pv.atI_nat, List.getElem?_map, List.getElem?_map, List.getElem?_eq_getElem (show i < rows.length by omega)]; rfl
    have b1 : ∀ (x : Row2) (h : Hh), subS (.p (enc x)) (.p (.int 0)) h = .ok (.p (.int x.1)) h := fun x h => rfl
    have b2 : ∀ (x : Row2) (h : Hh), subS (.p (enc x)) (.p (.int 1)) h = .ok (.p (.int x.2)) h := fun x h => rfl
    have fin := ok (1 + i) (by omega) rows[1 + i] rows[i] (List.getElem?_eq_getElem i1) (by rw [show 1 + i - 1 = i by omega]; exact List.getElem?_eq_getElem (by omega))
    have dq : decide (rows[1 + i].1 < rows[i].2) = false := decide_eq_false (by omega)
    simp only [evE.eq_8, evE.eq_18, evE.eq_2, evE.eq_1, evE.eq_5, w7, w11, R.of_some, R.bind_ok, subS_r, lo, Option.bind_some, a1, a2, b1, b2, sub_ii, lt_ii, dq]
end L76

namespace L76
open PySem L2 Pv
def endsOf (bs lens : List Int) : List Int := (bs.zip lens).map fun q => q.1 + mx q.2
def endF (d : D) : Option D := match d with
  | .p (.tup [.int b, .int len]) => some (.p (.int (b + mx len)))
  | _ => none
theorem endF_all : ∀ q : List (Int × Int), (q.map fun q => D.p (.tup [.int q.1, .int q.2])).filterMap endF = (q.map fun q => q.1 + mx q.2).map fun n => .p (.int n)
  | [] => rfl
  | (b, len) :: r => by
    have ih := endF_all r
    rw [List.map_cons, List.filterMap_cons_some (show endF (D.p (.tup [.int b, .int len])) = some (D.p (.int (b + mx len))) from rfl), ih]
    rfl
theorem ends_ok {g : G} {h : Hh} {s : Sg} {bs lens : List Int} (s6 : slot 6 s = some (.p (.tup (bs.map .int)))) (s4 : slot 4 s = some (.p (.tup (lens.map .int)))) (hl : lens.length ≤ 1000)
    (w12 : ∀ d e, slot 12 (((wipeD s [12, 13]).set 12 (some d)).set 13 (some e)) = some d) (w13 : ∀ d e, slot 13 (((wipeD s [12, 13]).set 12 (some d)).set 13 (some e)) = some e) :
    evE g (.comp [12, 13] (.bin .add (.v 12) (.blt .max (.cons (.c (.int 0)) (.cons (.v 13) .nil)))) (.tup 2 (.cons (.v 12) (.cons (.v 13) .nil))) (.zip (.v 6) (.v 4)) .nil) s h = .ok (.r h.length) (h ++ [.lst ((endsOf bs lens).map fun n => .p (.int n))]) := by
  have lz : (bs.zip lens).length ≤ 1000 := by rw [List.length_zip]; omega
  have w12' := w12
  have w13' := w13
  simp only [slot] at w12' w13'
  have lp := loopC_map h [] (bodyC g [12, 13] (.tup 2 (.cons (.v 12) (.cons (.v 13) .nil))) .nil (.bin .add (.v 12) (.blt .max (.cons (.c (.int 0)) (.cons (.v 13) .nil)))) s) endF (fun _ => rfl) (pairs bs lens) [] (fun d hd a => by
    obtain ⟨q, _, rfl⟩ := List.mem_map.mp hd
    simp only [bodyC, evSs, evS.eq_1, evS.eq_2, evS.eq_3, evS.eq_4, evS.eq_5, evS.eq_6, evS.eq_7, evS.eq_10, evS.eq_11, evS.eq_12, evS.eq_13, evS.eq_14, evS.eq_15, evE.eq_1, evE.eq_2, evE.eq_3, evE.eq_4, evE.eq_5, evE.eq_6, evE.eq_7, evE.eq_8, evE.eq_9, evE.eq_10, evE.eq_11, evE.eq_12, evE.eq_13, evE.eq_14, evE.eq_15, evE.eq_16, evE.eq_17, evE.eq_18, evE.eq_19, evE.eq_21,  evEs, evO, evTs, evI, asgT, asgTs, slot, startD, R.of_some, R.of_none, R.bind_ok, R.bind_stuck, R.then_ok, RS.seq_next, RS.seq_ret, RS.seq_brk, RS.seq_cont, List.getElem?_cons_zero, List.getElem?_cons_succ, List.set_cons_zero, List.set_cons_succ, List.set_set, add_ii, sub_ii, mul_ii, mod_ii, fdiv_ii, pow_lit, blt_int, blt_max, blt_min, blt_abs, aug_ii, tr_bl, lt_ii, le_ii, gt_ii, ge_ii, eq_ii, ne_ii, trim_p0, if_true, Bool.not_true, Bool.not_false, Bool.false_eq_true, if_false, R.tr_ok_bl, gOf_call, mkT_p2, len_t, sz1, sz2, sz3, sz4, sz6, D.items, List.map_cons, List.map_nil, List.length_cons, List.length_nil, w12', w13']
    rfl) (by unfold pairs; rw [List.length_map, sizeLine_v]; simp only [List.length_nil]; omega)
  have rf : (pairs bs lens).filterMap endF = (endsOf bs lens).map fun n => .p (.int n) := endF_all _
  rw [rf, List.nil_append] at lp
  have ei : evI g (.zip (.v 6) (.v 4)) s h = .ok (pairs bs lens, []) h := by
    rw [evI, evE.eq_2, s6, R.of_some, R.bind_ok, evE.eq_2, s4, R.of_some, R.bind_ok]
    simp only [seqOf, gdOf, map_pi, zips_pairs, List.append_nil]
  rw [comp_eq, ei, R.bind_ok]
  dsimp only
  rw [lp, R.bind_ok]
/-- with one gap throughout each begins where the one before ends, and the gap -/
def chain (g : Int) : List Int → Int → List Int
  | [], _ => []
  | len :: r, hi => (hi + g) :: chain g r (hi + g + mx len)
theorem plc_chain {g : Int} (hg : 0 ≤ g) (n : Nat) : ∀ (lens : List Int) (m : Nat) (lo hi : Int), m + lens.length ≤ n → (m = 0 → lo = 0 ∧ hi = 0) → plc (List.replicate n g) lens m lo hi = chain g lens hi
  | [], _, _, _, _, _ => rfl
  | len :: r, m, lo, hi, h, hz => by
    rw [List.length_cons] at h
    have e : gap (List.replicate n g) m = g := by
      unfold gap
      rw [List.getD_eq_getElem?_getD, List.getElem?_replicate, if_pos (by omega)]
      rfl
    have b : baseOf g lo hi len = hi + g := by unfold baseOf; rw [if_pos hg]
    have mp : 0 ≤ mx len := by unfold mx; split <;> omega
    rw [plc, e, b, chain, plc_chain hg n r (m + 1) _ _ (by omega) (fun z => by omega)]
    have : mxx (lo1 m hi (hi + g + mx len)) (hi + g + mx len) = hi + g + mx len := by
      unfold mxx lo1
      by_cases q : m = 0
      · rw [if_pos q, if_neg (by omega)]
      · rw [if_neg q]; split <;> omega
    rw [this]
theorem chain_length (g : Int) : ∀ (lens : List Int) (hi : Int), (chain g lens hi).length = lens.length
  | [], _ => rfl
  | len :: r, hi => by rw [chain, List.length_cons, chain_length g r, List.length_cons]
theorem chain_at (g : Int) : ∀ (lens : List Int) (hi : Int) (k : Nat) (x y : Int), (chain g lens hi)[k + 1]? = some x → (endsOf (chain g lens hi) lens)[k]? = some y → x = y + g
  | [], _, k, x, y, h, _ => by simp [chain] at h
  | [len], hi, k, x, y, h, _ => by simp [chain] at h
  | len :: l2 :: r, hi, 0, x, y, h, h2 => by
    simp [chain] at h
    simp [endsOf, chain] at h2
    omega
  | len :: l2 :: r, hi, k + 1, x, y, h, h2 => by
    have e1 : (chain g (len :: l2 :: r) hi)[k + 1 + 1]? = (chain g (l2 :: r) (hi + g + mx len))[k + 1]? := by rw [chain, List.getElem?_cons_succ]
    have e2 : (endsOf (chain g (len :: l2 :: r) hi) (len :: l2 :: r))[k + 1]? = (endsOf (chain g (l2 :: r) (hi + g + mx len)) (l2 :: r))[k]? := by
      rw [show chain g (len :: l2 :: r) hi = (hi + g) :: chain g (l2 :: r) (hi + g + mx len) from rfl]
      unfold endsOf
      rw [List.zip_cons_cons, List.map_cons, List.getElem?_cons_succ]
    rw [e1] at h
    rw [e2] at h2
    exact chain_at g (l2 :: r) _ k x y h h2
/-- the second search -/
theorem gap_ok {g : G} {s : Sg} {h : Hh} {bs es : List Int} {n gp : Int} {R0 : Nat} (s3 : slot 3 s = some (.p (.int n))) (n0 : 0 ≤ n) (n1 : n ≤ 1000) (w6 : ∀ d, slot 6 ((wipeD s [11]).set 11 (some d)) = some (.p (.tup (bs.map .int)))) (hr : h[R0]? = some (.lst (es.map fun n => .p (.int n))))
    (lb : n = bs.length) (le : es.length = bs.length) (ok : ∀ k x y, bs[k + 1]? = some x → es[k]? = some y → x = y + gp) (w8 : ∀ d, slot 8 ((wipeD s [11]).set 11 (some d)) = some (.p (.int gp))) (w9 : ∀ d, slot 9 ((wipeD s [11]).set 11 (some d)) = some (.r R0)) (w11 : ∀ d, slot 11 ((wipeD s [11]).set 11 (some d)) = some d) :
    evE g (.trim (.cmp .ne (.comp [11] (.v 11) (.v 11) (.rng2 (.c (.int 1)) (.v 3)) (.cons (.cmp .ne (.sub (.v 6) (.v 11)) (.bin .add (.sub (.v 9) (.bin .sub (.v 11) (.c (.int 1)))) (.v 8))) .nil)) (.lst .nil))) s h = .ok (.p (.bl false)) h := by
  refine ne_empty (none_found (n := n) (by rw [evE.eq_2, s3, R.of_some]) n0 n1 fun i a hi => ?_)
  have lt : R0 < h.length := (List.getElem?_eq_some_iff.mp hr).1
  have lo : lstOf (h ++ [.lst a]) (.r R0) = some (es.map fun n => .p (.int n)) := by rw [lst_app h _ _ lt]; simp [lstOf, hr]
  have i1 : i + 1 < bs.length := by omega
  have i2 : i < es.length := by omega
  have a1 : (atI (bs.map P.int) (1 + (i : Int))).map D.p = some (.p (.int bs[i + 1])) := by
    rw [show (1 + (i : Int)) = ((i + 1 : Nat) : Int) by omega, Pv.atI_nat, List.getElem?_map, List.getElem?_eq_getElem i1]; rfl
  have a2 : atI (es.map fun n => D.p (.int n)) (1 + (i : Int) - 1) = some (.p (.int es[i])) := by
    rw [show (1 + (i : Int) - 1) = (i : Int) by omega, Pv.atI_nat, List.getElem?_map, List.getElem?_eq_getElem i2]; rfl
  have fin := ok i bs[i + 1] es[i] (List.getElem?_eq_getElem i1) (List.getElem?_eq_getElem i2)
  have dq : (!decide (bs[i + 1] = es[i] + gp)) = false := by rw [decide_eq_true fin]; rfl
  simp only [evE.eq_8, evE.eq_18, evE.eq_2, evE.eq_1, evE.eq_5, w6, w8, w9, w11, R.of_some, R.bind_ok, subS_r, subS_t, lo, Option.bind_some, a1, a2, sub_ii, add_ii, ne_ii, dq]
end L76

namespace L76
open PySem L2 Pv
def turnB : ISs := (.cons (.asg (.v 3) (.call 3 (.cons (.v 1) (.cons (.c (.int 9)) .nil)))) (.cons (.asg (.v 4) (.trim (.blt .tuple (.cons (.comp [10] (.trim (.call 4 (.cons (.v 1) (.cons (.lst (.cons (.c (.int 0)) (.cons (.c (.int 1)) (.cons (.c (.int 2)) (.cons (.c (.int 7)) (.cons (.neg (.c (.int 2))) (.cons (.c (.int 40)) .nil))))))) .nil)))) (.v 10) (.rng1 (.v 3)) .nil) .nil)))) (.cons (.asg (.v 5) (.trim (.blt .tuple (.cons (.comp [10] (.trim (.bin .sub (.call 3 (.cons (.v 1) (.cons (.c (.int 9)) .nil))) (.c (.int 4)))) (.v 10) (.rng1 (.call 3 (.cons (.v 1) (.cons (.c (.int 12)) .nil)))) .nil) .nil)))) (.cons (.asg (.v 6) (.call 0 (.cons (.v 5) (.cons (.v 4) .nil)))) (.cons (.ite (.trim (.not (.call 5 (.cons (.v 6) (.cons (.call 6 (.cons (.v 5) (.cons (.v 4) .nil))) .nil))))) (.cons (.ret (.c (.bl false))) .nil) .nil) (.cons (.asg (.v 7) (.trim (.blt .sorted (.cons (.comp [12, 13] (.trim (.tup (.cons (.v 12) (.cons (.bin .add (.v 12) (.v 13)) .nil)))) (.tup 2 (.cons (.v 12) (.cons (.v 13) .nil))) (.zip (.v 6) (.v 4)) (.cons (.cmp .gt (.v 13) (.c (.int 0))) .nil)) .nil)))) (.cons (.ite (.trim (.cmp .ne (.comp [11] (.v 11) (.v 11) (.rng2 (.c (.int 1)) (.blt .len (.cons (.v 7) .nil))) (.cons (.cmp .lt (.sub (.sub (.v 7) (.v 11)) (.c (.int 0))) (.sub (.sub (.v 7) (.bin .sub (.v 11) (.c (.int 1)))) (.c (.int 1)))) .nil)) (.lst .nil))) (.cons (.ret (.c (.bl false))) .nil) .nil) (.cons (.asg (.v 8) (.call 3 (.cons (.v 1) (.cons (.c (.int 6)) .nil)))) (.cons (.ite (.trim (.not (.call 5 (.cons (.call 1 (.cons (.v 3) (.cons (.v 8) .nil))) (.cons (.bin .mul (.tup (.cons (.v 8) .nil)) (.v 3)) .nil))))) (.cons (.ret (.c (.bl false))) .nil) .nil) (.cons (.asg (.v 6) (.trim (.call 0 (.cons (.call 1 (.cons (.v 3) (.cons (.v 8) .nil))) (.cons (.v 4) .nil))))) (.cons (.asg (.v 9) (.comp [12, 13] (.bin .add (.v 12) (.blt .max (.cons (.c (.int 0)) (.cons (.v 13) .nil)))) (.tup 2 (.cons (.v 12) (.cons (.v 13) .nil))) (.zip (.v 6) (.v 4)) .nil)) (.cons (.ite (.trim (.cmp .ne (.comp [11] (.v 11) (.v 11) (.rng2 (.c (.int 1)) (.v 3)) (.cons (.cmp .ne (.sub (.v 6) (.v 11)) (.bin .add (.sub (.v 9) (.bin .sub (.v 11) (.c (.int 1)))) (.v 8))) .nil)) (.lst .nil))) (.cons (.ret (.c (.bl false))) .nil) .nil) .nil))))))))))))
theorem f7_eq : f7 = ⟨1, 14, .cons (.asg (.v 1) (.call 2 (.cons (.v 0) .nil))) (.cons (.for (.v 2) (.rng1 (.c (.int 8))) turnB) (.cons (.ret (.c (.bl true))) .nil))⟩ := rfl
section
variable {F k b l : Nat}
theorem not_ok {g : G} {s : Sg} {h : Hh} {e : IE} (he : evE g e s h = .ok (.p (.bl true)) h) : evE g (.trim (.not e)) s h = .ok (.p (.bl false)) h := by
  rw [evE.eq_21, evE.eq_7, he, R.tr_ok_bl, R.bind_ok]
  exact trim_p0 h _
theorem ite_no {g : G} {s : Sg} {h : Hh} {t : IE} {a b r : ISs} (ht : evE g t s h = .ok (.p (.bl false)) h) (hb : b = .nil) : evSs g (.cons (.ite t a b) r) s h = evSs g r s h := by
  subst hb
  rw [evSs, evS.eq_7, ht, R.tr_ok_bl, R.then_ok, if_neg Bool.false_ne_true, evSs, RS.seq_next]
theorem asg_v {g : G} {s : Sg} {h h' : Hh} {i : Nat} {e : IE} {d : D} {r : ISs} (he : evE g e s h = .ok d h') : evSs g (.cons (.asg (.v i) e) r) s h = evSs g r (s.set i (some d)) h' := by
  rw [evSs, evS.eq_2, he, R.then_ok, asgT, R.then_ok, RS.seq_next]
theorem call1 {g : G} {s : Sg} {h : Hh} {f : Nat} {a : IE} {x : D} (ha : evE g a s h = .ok x h) : evE g (.call f (.cons a .nil)) s h = g.call f [x] h := by
  rw [evE.eq_13, evEs, ha, R.bind_ok, evEs, R.bind_ok, R.bind_ok]
theorem call2 {g : G} {s : Sg} {h : Hh} {f : Nat} {a c : IE} {x y : D} (ha : evE g a s h = .ok x h) (hc : evE g c s h = .ok y h) : evE g (.call f (.cons a (.cons c .nil))) s h = g.call f [x, y] h := by
  rw [evE.eq_13, evEs, ha, R.bind_ok, evEs, hc, R.bind_ok, evEs, R.bind_ok, R.bind_ok, R.bind_ok]
theorem var_ {g : G} {s : Sg} {h : Hh} {i : Nat} {d : D} (e : slot i s = some d) : evE g (.v i) s h = .ok d h := by rw [evE.eq_2, e, R.of_some]
theorem rep_map (n : Nat) (x : Int) : List.replicate n (P.int x) = (List.replicate n x).map P.int := by rw [List.map_replicate]
theorem turn_ok {h : Hh} (B : Bag h b l) (o2 o3 o4 o5 o6 o7 o8 o9 o10 o11 o12 o13 : Option D) :
    ∃ (h' : Hh) (p3 p4 p5 p6 p7 p8 p9 : Option D), Bag h' b l ∧ evSs (gL F k) turnB [some (.r 0), some (.r b), o2, o3, o4, o5, o6, o7, o8, o9, o10, o11, o12, o13] h = .next [some (.r 0), some (.r b), o2, p3, p4, p5, p6, p7, p8, p9, o10, o11, o12, o13] h' := by
  obtain ⟨m, h1, m0, m1, n1, e1⟩ := take_next (p := prg) (F := F) (k := k + 3) (t := 3) rfl B (many := 9) (by decide) (by decide)
  have e1 : (gL F k).call 3 [.r b, .p (.int 9)] h = .ok (.p (.int m)) h1 := e1
  obtain ⟨lens, h2, n2, ll, lq, e2⟩ := lens_ok (F := F) (k := k) (s := [some (.r 0), some (.r b), o2, some (.p (.int m)), o4, o5, o6, o7, o8, o9, o10, o11, o12, o13]) n1.1 rfl rfl m0 (by omega) (fun _ => rfl)
  obtain ⟨lay, h3, n3, yl, yq, e3⟩ := layout_ok (F := F) (k := k) (s := [some (.r 0), some (.r b), o2, some (.p (.int m)), some (.p (.tup (lens.map .int))), o5, o6, o7, o8, o9, o10, o11, o12, o13]) n2.1 rfl (fun _ => rfl)
  have len9 : lens.length ≤ 9 := by omega
  obtain ⟨n, rfl⟩ : ∃ n : Nat, m = n := ⟨m.toNat, by omega⟩
  have ln : lens.length = n := by omega
  -- placed, twice
  have pl : ∀ (L : List Int) (h : Hh), (gL F k).call 0 [.p (.tup (L.map .int)), .p (.tup (lens.map .int))] h = .ok (.p (.tup ((plc L lens 0 0 0).map .int))) h := fun L h => placed_ok (F := F) (k := k + 1) h L lens (by omega)
  have lw : ∀ h : Hh, (gL F k).call 6 [.p (.tup (lay.map .int)), .p (.tup (lens.map .int))] h = .ok (.p (.tup ((plc lay lens 0 0 0).map .int))) h := fun h => law_placed_ok (F := F) (k := k + 3) h lay lens (by omega)
  have far := plc_far lay (fun g hg => by have := yq g hg; omega) lens 0 0 0 0 (fun n hn => by have := lq n hn; omega) (by decide) (by decide) (by decide) (by decide) (by decide)
  have fine1 : Fine (.tup ((plc lay lens 0 0 0).map .int)) := fine_ints (fun x hx => by have := far x hx; omega) (by rw [plc_length]; omega)
  have al : ∀ (x : P) (h : Hh), Fine x → (gL F k).call 5 [.p x, .p x] h = .ok (.p (.bl true)) h := fun x h f => alike_ok (p := prg) (F := F) (k := k + 3) (t := 5) rfl h x f
  obtain ⟨r1, _, r3⟩ := rows_apart lay lens 0 0 0 (by decide) (fun _ => ⟨rfl, rfl⟩)
  obtain ⟨R1, hR1⟩ : ∃ R1, R1 = plc lay lens 0 0 0 := ⟨_, rfl⟩
  rw [← hR1] at fine1 r1 r3 far
  have rl : ((rowsOf (R1.zip lens)).mergeSort leR).length ≤ 1000 := by
    rw [List.length_mergeSort]
    have : ∀ q : List (Int × Int), (rowsOf q).length ≤ q.length := fun q => by
      induction q with
      | nil => exact Nat.le_refl 0
      | cons x q ih => obtain ⟨b, len⟩ := x; rw [rowsOf]; split <;> simp only [List.length_cons] <;> omega
    have := this (R1.zip lens)
    rw [List.length_zip] at this
    omega
  have e6 := rows_ok (g := gL F k) (h := h3) (s := [some (.r 0), some (.r b), o2, some (.p (.int n)), some (.p (.tup (lens.map .int))), some (.p (.tup (lay.map .int))), some (.p (.tup (R1.map .int))), o7, o8, o9, o10, o11, o12, o13]) (bs := R1) (lens := lens) rfl rfl (by omega) (fun _ _ => rfl) (fun _ _ => rfl)
  obtain ⟨rows, hrows⟩ : ∃ rows, rows = (rowsOf (R1.zip lens)).mergeSort leR := ⟨_, rfl⟩
  have so := sorted_rows r1 r3
  rw [← hrows] at e6 rl so
  have B4 : Bag (h3 ++ [.lst ((rows.map enc).map .p)]) b l := n3.1.app _
  have e7 := clash_ok (g := gL F k) (h := h3 ++ [.lst ((rows.map enc).map .p)]) (s := [some (.r 0), some (.r b), o2, some (.p (.int n)), some (.p (.tup (lens.map .int))), some (.p (.tup (lay.map .int))), some (.p (.tup (R1.map .int))), some (.r h3.length), o8, o9, o10, o11, o12, o13]) (rows := rows) (R0 := h3.length) rfl (by simp) rl so (fun _ => rfl) (fun _ => rfl)
  obtain ⟨gp, h5, g0, g1, n5, e8⟩ := take_next (p := prg) (F := F) (k := k + 3) (t := 3) rfl B4 (many := 6) (by decide) (by decide)
  have e8 : (gL F k).call 3 [.r b, .p (.int 6)] (h3 ++ [.lst ((rows.map enc).map .p)]) = .ok (.p (.int gp)) h5 := e8
  have ap : ∀ h : Hh, (gL F k).call 1 [.p (.int n), .p (.int gp)] h = .ok (.p (.tup ((List.replicate n gp).map .int))) h := fun h => by
    have q := apart_ok (F := F) (k := k + 3) h n (.int gp) (by omega)
    rw [rep_map] at q
    rw [show (gL F k).call = callN prg F (k + 3 + 2) from rfl]
    exact q
  have fine2 : Fine (.tup ((List.replicate n gp).map .int)) := fine_ints (fun x hx => by rw [List.eq_of_mem_replicate hx]; omega) (by rw [List.length_replicate]; omega)
  have pl2 := pl (List.replicate n gp) h5
  rw [plc_chain g0 n lens 0 0 0 (by omega) (fun _ => ⟨rfl, rfl⟩)] at pl2
  have e11 := ends_ok (g := gL F k) (h := h5) (s := [some (.r 0), some (.r b), o2, some (.p (.int n)), some (.p (.tup (lens.map .int))), some (.p (.tup (lay.map .int))), some (.p (.tup ((chain gp lens 0).map .int))), some (.r h3.length), some (.p (.int gp)), o9, o10, o11, o12, o13]) (bs := chain gp lens 0) (lens := lens) rfl rfl (by omega) (fun _ _ => rfl) (fun _ _ => rfl)
  have cl := chain_length gp lens 0
  have el : (endsOf (chain gp lens 0) lens).length = (chain gp lens 0).length := by unfold endsOf; rw [List.length_map, List.length_zip]; omega
  have e12 := gap_ok (g := gL F k) (h := h5 ++ [.lst ((endsOf (chain gp lens 0) lens).map fun n => .p (.int n))]) (s := [some (.r 0), some (.r b), o2, some (.p (.int n)), some (.p (.tup (lens.map .int))), some (.p (.tup (lay.map .int))), some (.p (.tup ((chain gp lens 0).map .int))), some (.r h3.length), some (.p (.int gp)), some (.r h5.length), o10, o11, o12, o13]) (bs := chain gp lens 0) (es := endsOf (chain gp lens 0) lens) (n := n) (gp := gp) (R0 := h5.length) rfl (by omega) (by omega) (fun _ => rfl) (by simp) (by omega) el (fun k x y => chain_at gp lens 0 k x y) (fun _ => rfl) (fun _ => rfl) (fun _ => rfl)
  refine ⟨h5 ++ [.lst ((endsOf (chain gp lens 0) lens).map fun n => .p (.int n))], some (.p (.int n)), some (.p (.tup (lens.map .int))), some (.p (.tup (lay.map .int))), some (.p (.tup ((chain gp lens 0).map .int))), some (.r h3.length), some (.p (.int gp)), some (.r h5.length), n5.1.app _, ?_⟩
  unfold turnB
  rw [asg_v ((call2 (var_ rfl) (evE.eq_1 ..)).trans e1)]
  simp only [List.set_cons_succ, List.set_cons_zero]
  rw [asg_v e2]
  simp only [List.set_cons_succ, List.set_cons_zero]
  rw [asg_v e3]
  simp only [List.set_cons_succ, List.set_cons_zero]
  rw [asg_v ((call2 (var_ rfl) (var_ rfl)).trans (pl lay h3))]
  simp only [List.set_cons_succ, List.set_cons_zero]
  rw [← hR1]
  rw [ite_no (not_ok ((call2 (var_ rfl) ((call2 (var_ rfl) (var_ rfl)).trans (by rw [lw h3, ← hR1]))).trans (al _ h3 fine1))) rfl]
  rw [asg_v e6]
  simp only [List.set_cons_succ, List.set_cons_zero]
  rw [ite_no e7 rfl]
  rw [asg_v ((call2 (var_ rfl) (evE.eq_1 ..)).trans e8)]
  simp only [List.set_cons_succ, List.set_cons_zero]
  rw [ite_no (not_ok ((call2 ((call2 (var_ rfl) (var_ rfl)).trans (ap h5)) ((bin1 _ _ h5 .mul _ _ _ _ _ (tup1 _ _ h5 (.v 8) (.int gp) (var_ rfl)) (var_ rfl) (mul_t n (.int gp) h5 (by omega))).trans (by rw [rep_map]))).trans (al _ h5 fine2))) rfl]
  have e10 : evE (gL F k) (.trim (.call 0 (.cons (.call 1 (.cons (.v 3) (.cons (.v 8) .nil))) (.cons (.v 4) .nil)))) [some (.r 0), some (.r b), o2, some (.p (.int n)), some (.p (.tup (lens.map .int))), some (.p (.tup (lay.map .int))), some (.p (.tup (R1.map .int))), some (.r h3.length), some (.p (.int gp)), o9, o10, o11, o12, o13] h5 = .ok (.p (.tup ((chain gp lens 0).map .int))) h5 := by
    rw [evE.eq_21, call2 ((call2 (var_ rfl) (var_ rfl)).trans (ap h5)) (var_ rfl), pl2]
    exact trim_p0 h5 _
  rw [asg_v e10]
  simp only [List.set_cons_succ, List.set_cons_zero]
  rw [asg_v e11]
  simp only [List.set_cons_succ, List.set_cons_zero]
  rw [ite_no e12 rfl, evSs]
end
end L76

namespace L76
open PySem L2 Pv
theorem loopS_inv {body : D → Sg → Hh → RS} (J : Sg → Hh → Prop) (hb : ∀ d s h, J s h → ∃ s1 h1, body d s h = .next s1 h1 ∧ J s1 (trimS h s1 h1)) : ∀ (ds : List D) (s : Sg) (h : Hh), J s h → ∃ s' h', loopS [] body ds s h = .next s' h' ∧ J s' h'
  | [], s, h, j => ⟨s, h, by simp only [loopS, Gd.ok_nil, if_true], j⟩
  | d :: ds, s, h, j => by
    obtain ⟨s1, h1, e, j1⟩ := hb d s h j
    obtain ⟨s2, h2, e2, j2⟩ := loopS_inv J hb ds s1 _ j1
    refine ⟨s2, h2, ?_, j2⟩
    simp only [loopS, Gd.ok_nil, if_true, e]
    exact e2
theorem bag_trim {h h1 : Hh} {s : Sg} {b l : Nat} (B : Bag h b l) (B1 : Bag h1 b l) : Bag (trimS h s h1) b l := by
  unfold trimS
  split
  · obtain ⟨ne, ⟨cs, e, r⟩, x0, x1, x2, e2, r2⟩ := B1
    exact ⟨ne, ⟨cs, by rw [List.getElem?_take_of_lt B.lt.2]; exact e, r⟩, x0, x1, x2, by rw [List.getElem?_take_of_lt B.lt.1]; exact e2, r2⟩
  · exact B1
theorem trim_some (h h' : Hh) (x : P) : ∃ h2, trimR h (.ok (.p x) h') = .ok (.p x) h2 := by
  simp only [trimR]
  split
  · exact ⟨_, if_pos rfl⟩
  · exact ⟨_, rfl⟩
def fuel : Nat := 0
def level : Nat := 19
theorem law_runs {F k : Nat} (ns : List Int) (hn : ns.length ≤ 63) : ∃ h', callN prg F (k + 6) 7 [.r 0] [.ro (ns.map .int)] = .ok (.p (.bl true)) h' := by
  obtain ⟨b, l, h1, B, e⟩ := bag_ok (p := prg) (F := F) (k := k + 3) (t := 2) rfl ns hn
  have e : (gL F k).call 2 [.r 0] [.ro (ns.map .int)] = .ok (.r b) h1 := e
  obtain ⟨s', h', lp, j⟩ := loopS_inv (body := fun d s1 h2 => (asgT (gL F k) (.v 2) d s1 h2).then s1 fun s2 h3 => evSs (gL F k) turnB s2 h3)
    (fun s h => Bag h b l ∧ ∃ o2 o3 o4 o5 o6 o7 o8 o9 o10 o11 o12 o13 : Option D, s = [some (.r 0), some (.r b), o2, o3, o4, o5, o6, o7, o8, o9, o10, o11, o12, o13]) (fun d s h ⟨B, o2, o3, o4, o5, o6, o7, o8, o9, o10, o11, o12, o13, es⟩ => by
      subst es
      obtain ⟨h', p3, p4, p5, p6, p7, p8, p9, B', et⟩ := turn_ok (F := F) (k := k) B (some d) o3 o4 o5 o6 o7 o8 o9 o10 o11 o12 o13
      refine ⟨_, h', ?_, bag_trim B B', some d, p3, p4, p5, p6, p7, p8, p9, o10, o11, o12, o13, rfl⟩
      simp only [asgT, R.then_ok, List.set_cons_succ, List.set_cons_zero]
      exact et) (nums 0 8) [some (.r 0), some (.r b), none, none, none, none, none, none, none, none, none, none, none, none] h1 ⟨B, none, none, none, none, none, none, none, none, none, none, none, none, rfl⟩
  obtain ⟨h2, eh⟩ := trim_some [.ro (ns.map .int)] h' (.bl true)
  refine ⟨h2, ?_⟩
  rw [show k + 6 = (k + 4) + 2 from rfl, call_eq (fd := f7) rfl rfl, f7_eq]
  rw [show gOf prg F (callN prg F (k + 4 + 1)) (callN prg F (k + 4)) = gL F k from rfl]
  have st : startD 14 [.r 0] = [some (.r 0), none, none, none, none, none, none, none, none, none, none, none, none, none] := rfl
  dsimp only
  rw [st, asg_v ((call1 (var_ rfl)).trans e)]
  simp only [List.set_cons_succ, List.set_cons_zero]
  rw [evSs, for_eq, evI, evE.eq_1, R.bind_ok]
  dsimp only
  rw [show (if -(2 ^ 62) ≤ (8 : Int) ∧ (8 : Int) ≤ 16777216 then (R.ok (nums 0 (8 : Int).toNat, []) h1 : R (List D × Gd)) else .stuck) = .ok (nums 0 8, []) h1 from if_pos ⟨by omega, by omega⟩, R.then_ok]
  dsimp only
  rw [lp, RS.seq_next, evSs, evS.eq_10, evE.eq_1, R.then_ok, RS.seq_ret]
  exact eh
theorem law_ok : ∀ ns : List Int, ns.length ≤ 63 → ∃ h', callN prg fuel (level + 1) 7 [.r 0] [.ro (ns.map .int)] = .ok (.p (.bl true)) h' := fun ns hn => law_runs (F := 0) (k := 14) ns hn
end L76

open PySem PySem.W PyProof.Rows
set_option maxRecDepth 100000 in
set_option maxHeartbeats 0 in
theorem PySem.Challenge.cw_piecedruns_k76_areas_never_meet_holds : PySem.Challenge.rw_piecedruns_k76_areas_never_meet.Holds := by
  w_on; o_law; k_head; (case hw => w_witness2)
  k_fill
  refine Pv.pv_walk (l := PySem.Challenge.rw_piecedruns_k76_areas_never_meet) (m := L76.nm) (p := L76.prg) (F := L76.fuel) (k := L76.level) (i := 7) (f := L76.f7) rfl rfl ⟨rfl, by decide, by decide⟩ (fun w h Y => PySem.W.kIn_of Y) rfl rfl ?F L76.law_ok
  case F =>
    intro w mg fa h KX G hmg
    refine' L76.tab KX G hmg ?e0 ?l0 ?c0 ?k0 ?e1 ?l1 ?c1 ?k1 ?e2 ?l2 ?c2 ?k2 ?e3 ?l3 ?c3 ?k3 ?e4 ?l4 ?c4 ?k4 ?e5 ?l5 ?c5 ?k5 ?e6 ?l6 ?c6 ?k6 ?e7 ?l7 ?c7 ?k7 ?w0 ?e8 ?i8 ?l8 ?c8 ?k8 ?e9 ?i9 ?l9 ?c9 ?k9 ?e10 ?i10 ?l10 ?c10 ?k10 ?pg0 ?hd0 ?po0 ?sa0 ?mk0 ?kc0 ?n0_0 ?n0_1 ?n0_2 ?n0_3 ?z_len ?z_abs ?z_int ?z_max ?z_min ?z_tuple ?z_list ?z_sorted ?z_repr ?z_range ?z_enumerate ?z_zip
    (case e0 => k_is); (case l0 => k_is); (case c0 => k_is); (case k0 => k_is); (case e1 => k_is); (case l1 => k_is)
    (case c1 => k_is); (case k1 => k_is); (case e2 => k_is); (case l2 => k_is); (case c2 => k_is); (case k2 => k_is)
    (case e3 => k_is); (case l3 => k_is); (case c3 => k_is); (case k3 => k_is); (case e4 => k_is); (case l4 => k_is)
    (case c4 => k_is); (case k4 => k_is); (case e5 => k_is); (case l5 => k_is); (case c5 => k_is); (case k5 => k_is)
    (case e6 => k_is); (case l6 => k_is); (case c6 => k_is); (case k6 => k_is); (case e7 => k_is); (case l7 => k_is)
    (case c7 => k_is); (case k7 => k_is); (case w0 => k_is); (case e8 => k_is); (case i8 => k_is); (case l8 => k_is)
    (case c8 => k_is); (case k8 => k_is); (case e9 => k_is); (case i9 => k_is); (case l9 => k_is); (case c9 => k_is)
    (case k9 => k_is); (case e10 => k_is); (case i10 => k_is); (case l10 => k_is); (case c10 => k_is); (case k10 => k_is)
    (case pg0 => k_is); (case hd0 => k_is); (case po0 => k_is); (case sa0 => k_is); (case mk0 => k_is); (case kc0 => k_is)
    (case n0_0 => k_is); (case n0_1 => k_is); (case n0_2 => k_is); (case n0_3 => k_is); (case z_len => k_is); (case z_abs => k_is)
    (case z_int => k_is); (case z_max => k_is); (case z_min => k_is); (case z_tuple => k_is); (case z_list => k_is); (case z_sorted => k_is)
    (case z_repr => k_is); (case z_range => k_is); (case z_enumerate => k_is); (case z_zip => k_is)
