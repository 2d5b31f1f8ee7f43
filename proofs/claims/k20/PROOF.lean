import PyProof.Rows.All
import Wide.All
import OpenK.AllK
import Wide.FinOn
import HandS.ForMost
import HandS.Exc
import HandS.Flow
import HandS.TupAny
import HandS.Zip
import KE.SortData
import KE.KDictKeyed
import HandS.SetFor
import HandS.Strs
import HandS.TupMul
import HandS.Set
import KE.GoesEnum
import KE.GoesNew
import KE.KDictCopyH
import KE.KDictDisplayH
import KE.KDictOf
import KE.KDictPairs
import HandS.SetKeys
import HandS.Deep
import HandS.IsInst
import HandS.Text
import HandS.More
import HandS.RaiseMore
import HandS.Style
import HandS.Star
import HandS.Conv
import HandS.Iter
import KE.KDictWalk
import HandS.Words
import PySem.Challenge.RW_piecedruns_k20_nets_solved_or_a_ring
set_option Elab.async false
set_option linter.all false
set_option maxRecDepth 100000
set_option maxHeartbeats 4000000
/-! Pv: a plain evaluator for the part of Python that such programs use, over plain data, with one theorem that ties it to the hand layer's judgements. A: data, states, relations. -/
namespace Pv
open PySem L2

/-- pure data -/
inductive P where
  | non | bl (b : Bool) | int (i : Int) | str (s : Str) | tup (xs : List P)
  deriving Inhabited

namespace P
mutual
def beq : P → P → Bool
  | .non, .non => true
  | .bl a, .bl b => a == b
  | .int a, .int b => decide (a = b)
  | .str a, .str b => decide (a = b)
  | .tup a, .tup b => beqs a b
  | .non, .bl _ | .non, .int _ | .non, .str _ | .non, .tup _ => false
  | .bl _, .non | .bl _, .int _ | .bl _, .str _ | .bl _, .tup _ => false
  | .int _, .non | .int _, .bl _ | .int _, .str _ | .int _, .tup _ => false
  | .str _, .non | .str _, .bl _ | .str _, .int _ | .str _, .tup _ => false
  | .tup _, .non | .tup _, .bl _ | .tup _, .int _ | .tup _, .str _ => false
def beqs : List P → List P → Bool
  | [], [] => true
  | a :: as, b :: bs => beq a b && beqs as bs
  | [], _ :: _ => false
  | _ :: _, [] => false
end
mutual
theorem beq_self : ∀ a : P, beq a a = true
  | .non => rfl
  | .bl a => by simp [beq]
  | .int a => by simp [beq]
  | .str a => by simp [beq]
  | .tup a => by rw [beq]; exact beqs_self a
theorem beqs_self : ∀ a : List P, beqs a a = true
  | [] => rfl
  | a :: as => by rw [beqs, beq_self a, beqs_self as]; rfl
end
mutual
theorem eq_of_beq : ∀ a b : P, beq a b = true → a = b
  | .non, .non, _ => rfl
  | .bl a, .bl b, h => by simp only [beq, beq_iff_eq] at h; rw [h]
  | .int a, .int b, h => by simp only [beq, decide_eq_true_eq] at h; rw [h]
  | .str a, .str b, h => by simp only [beq, decide_eq_true_eq] at h; rw [h]
  | .tup a, .tup b, h => by rw [beq] at h; rw [eq_of_beqs a b h]
  | .non, .bl _, h | .non, .int _, h | .non, .str _, h | .non, .tup _, h => by simp [beq] at h
  | .bl _, .non, h | .bl _, .int _, h | .bl _, .str _, h | .bl _, .tup _, h => by simp [beq] at h
  | .int _, .non, h | .int _, .bl _, h | .int _, .str _, h | .int _, .tup _, h => by simp [beq] at h
  | .str _, .non, h | .str _, .bl _, h | .str _, .int _, h | .str _, .tup _, h => by simp [beq] at h
  | .tup _, .non, h | .tup _, .bl _, h | .tup _, .int _, h | .tup _, .str _, h => by simp [beq] at h
theorem eq_of_beqs : ∀ a b : List P, beqs a b = true → a = b
  | [], [], _ => rfl
  | a :: as, b :: bs, h => by
    rw [beqs, Bool.and_eq_true] at h
    rw [eq_of_beq a b h.1, eq_of_beqs as bs h.2]
  | [], _ :: _, h => by simp [beqs] at h
  | _ :: _, [], h => by simp [beqs] at h
end
instance : DecidableEq P := fun a b => if h : beq a b = true then .isTrue (eq_of_beq a b h) else .isFalse fun e => h (e ▸ beq_self a)
end P

/-- a value: pure, a mutable object by its number, or a tuple that holds such -/
inductive D where
  | p (x : P) | r (i : Nat) | t (xs : List D)
  deriving Inhabited

namespace D
mutual
def beq : D → D → Bool
  | .p a, .p b => decide (a = b)
  | .r a, .r b => decide (a = b)
  | .t a, .t b => beqs a b
  | .p _, .r _ | .p _, .t _ | .r _, .p _ | .r _, .t _ | .t _, .p _ | .t _, .r _ => false
def beqs : List D → List D → Bool
  | [], [] => true
  | a :: as, b :: bs => beq a b && beqs as bs
  | [], _ :: _ => false
  | _ :: _, [] => false
end
mutual
theorem beq_self : ∀ a : D, beq a a = true
  | .p a => by simp [beq]
  | .r a => by simp [beq]
  | .t a => by rw [beq]; exact beqs_self a
theorem beqs_self : ∀ a : List D, beqs a a = true
  | [] => rfl
  | a :: as => by rw [beqs, beq_self a, beqs_self as]; rfl
end
mutual
theorem eq_of_beq : ∀ a b : D, beq a b = true → a = b
  | .p a, .p b, h => by simp only [beq, decide_eq_true_eq] at h; rw [h]
  | .r a, .r b, h => by simp only [beq, decide_eq_true_eq] at h; rw [h]
  | .t a, .t b, h => by rw [beq] at h; rw [eq_of_beqs a b h]
  | .p _, .r _, h | .p _, .t _, h | .r _, .p _, h | .r _, .t _, h | .t _, .p _, h | .t _, .r _, h => by simp [beq] at h
theorem eq_of_beqs : ∀ a b : List D, beqs a b = true → a = b
  | [], [], _ => rfl
  | a :: as, b :: bs, h => by
    rw [beqs, Bool.and_eq_true] at h
    rw [eq_of_beq a b h.1, eq_of_beqs as bs h.2]
  | [], _ :: _, h => by simp [beqs] at h
  | _ :: _, [], h => by simp [beqs] at h
end
instance : DecidableEq D := fun a b => if h : beq a b = true then .isTrue (eq_of_beq a b h) else .isFalse fun e => h (e ▸ beq_self a)
mutual
/-- no object from n on in it -/
def under (n : Nat) : D → Bool
  | .p _ => true
  | .r i => decide (i < n)
  | .t xs => unders n xs
def unders (n : Nat) : List D → Bool
  | [] => true
  | x :: xs => under n x && unders n xs
end
end D

/-- an object -/
inductive O where
  /-- a list -/
  | lst (xs : List D)
  /-- a list that is read alone (the script) -/
  | ro (xs : List P)
  | dct (kvs : List (P × D))
  /-- a dict while it is walked: read, not written -/
  | lck (kvs : List (P × D))
  | set (xs : List P)
  /-- an instance of the c-th class, its attributes by number -/
  | ins (c : Nat) (fs : List (Nat × D))
  deriving Inhabited, DecidableEq

def O.under (n : Nat) : O → Bool
  | .lst xs => D.unders n xs
  | .ro _ => true
  | .dct kvs => kvs.all fun kv => kv.2.under n
  | .lck kvs => kvs.all fun kv => kv.2.under n
  | .set _ => true
  | .ins _ fs => fs.all fun f => f.2.under n

abbrev Hh := List O
abbrev Sg := List (Option D)

/-- an exception: its class by number, its attributes -/
structure Ex where
  cls : Nat
  fs : List (Nat × D)

inductive R (α : Type) where
  | stuck | ok (a : α) (h : Hh) | exc (x : Ex) (h : Hh)
  deriving Inhabited
namespace R
variable {α β : Type}
def bind (m : R α) (f : α → Hh → R β) : R β := match m with
  | .stuck => .stuck
  | .ok a h => f a h
  | .exc x h => .exc x h
@[simp] theorem bind_ok (a : α) (h : Hh) (f : α → Hh → R β) : (R.ok a h).bind f = f a h := rfl
@[simp] theorem bind_stuck (f : α → Hh → R β) : (R.stuck : R α).bind f = .stuck := rfl
@[simp] theorem bind_exc (x : Ex) (h : Hh) (f : α → Hh → R β) : (R.exc x h : R α).bind f = .exc x h := rfl
end R

/-- a statement's end -/
inductive RS where
  | stuck | next (s : Sg) (h : Hh) | ret (d : D) (h : Hh) | brk (s : Sg) (h : Hh) | cont (s : Sg) (h : Hh) | exc (x : Ex) (s : Sg) (h : Hh)
  deriving Inhabited
namespace RS
def seq (m : RS) (f : Sg → Hh → RS) : RS := match m with
  | .next s h => f s h
  | o => o
@[simp] theorem seq_next (s : Sg) (h : Hh) (f : Sg → Hh → RS) : (RS.next s h).seq f = f s h := rfl
@[simp] theorem seq_ret (d : D) (h : Hh) (f : Sg → Hh → RS) : (RS.ret d h).seq f = .ret d h := rfl
@[simp] theorem seq_brk (s : Sg) (h : Hh) (f : Sg → Hh → RS) : (RS.brk s h).seq f = .brk s h := rfl
@[simp] theorem seq_cont (s : Sg) (h : Hh) (f : Sg → Hh → RS) : (RS.cont s h).seq f = .cont s h := rfl
@[simp] theorem seq_exc (x : Ex) (s : Sg) (h : Hh) (f : Sg → Hh → RS) : (RS.exc x s h).seq f = .exc x s h := rfl
@[simp] theorem seq_stuck (f : Sg → Hh → RS) : RS.stuck.seq f = .stuck := rfl
end RS
/-- an expression within a statement -/
def R.then {α : Type} (m : R α) (s : Sg) (f : α → Hh → RS) : RS := match m with
  | .stuck => .stuck
  | .ok a h => f a h
  | .exc x h => .exc x s h
@[simp] theorem R.then_ok {α : Type} (a : α) (h : Hh) (s : Sg) (f : α → Hh → RS) : (R.ok a h).then s f = f a h := rfl
@[simp] theorem R.then_stuck {α : Type} (s : Sg) (f : α → Hh → RS) : (R.stuck : R α).then s f = .stuck := rfl
@[simp] theorem R.then_exc {α : Type} (x : Ex) (h : Hh) (s : Sg) (f : α → Hh → RS) : (R.exc x h : R α).then s f = .exc x s h := rfl

/-- what was there: each object as it was, or without anything new -/
def agree : Hh → Hh → Nat → Bool
  | [], _, _ => true
  | _ :: _, [], _ => false
  | o :: h, o' :: h', n => (decide (o' = o) || o'.under n) && agree h h' n
/-- a value leaves: what is new and not held goes; a new object that is the value itself, and holds nothing new, moves to the end of the old ones -/
def trimR (h : Hh) : R D → R D
  | .ok d h' =>
    if agree h h' h.length then
      if d.under h.length then .ok d (h'.take h.length)
      else match d with
        | .r i => match h'[i]? with
          | some o => if h.length ≤ i && o.under h.length then .ok (.r h.length) (h'.take h.length ++ [o]) else .ok d h'
          | none => .ok d h'
        | _ => .ok d h'
    else .ok d h'
  | o => o

/-! ### relations -/
/-- a tuple that is known to be plain -/
def SqP (K : PySem.W.Frag) (H : Hp) (a : Addr) (xs : List V) : Prop := (∃ o, o.dict = none ∧ H a = some (.frz o (.tup xs))) ∨
  ∃ (o : Obj) (its : Array Value) (n : Nat), K.lookup a = some o ∧ o.cls = .type "tuple" ∧ o.dict = none ∧ o.data = .seq its n ∧ its.size ≤ sizeLine ∧ Vals xs its.toList
theorem SqP.sq {K : PySem.W.Frag} {H : Hp} {a : Addr} {xs : List V} (h : SqP K H a xs) : SqT K H a xs := by
  rcases h with ⟨o, _, h⟩ | ⟨o, its, n, h1, h2, _, h3⟩
  · exact .inl (.inr ⟨o, h⟩)
  · exact .inr ⟨o, its, n, h1, h2, h3⟩
mutual
inductive RelP (K : PySem.W.Frag) (H : Hp) : P → V → Prop
  | non : RelP K H .non .non
  | bl (b : Bool) : RelP K H (.bl b) (.bl b)
  | int (i : Int) : RelP K H (.int i) (.int i)
  | str (s : Str) : RelP K H (.str s) (.str s)
  | tup {a : Addr} {vs : List V} {xs : List P} : SqP K H a vs → RelPs K H xs vs → RelP K H (.tup xs) (.ref a)
inductive RelPs (K : PySem.W.Frag) (H : Hp) : List P → List V → Prop
  | nil : RelPs K H [] []
  | cons {x : P} {v : V} {xs : List P} {vs : List V} : RelP K H x v → RelPs K H xs vs → RelPs K H (x :: xs) (v :: vs)
end
mutual
inductive RelD (K : PySem.W.Frag) (H : Hp) (n : Nat) (ρ : Nat → Addr) : D → V → Prop
  | p {x : P} {v : V} : RelP K H x v → RelD K H n ρ (.p x) v
  | r {i : Nat} : i < n → RelD K H n ρ (.r i) (.ref (ρ i))
  | t {a : Addr} {vs : List V} {xs : List D} : SqT K H a vs → RelDs K H n ρ xs vs → RelD K H n ρ (.t xs) (.ref a)
inductive RelDs (K : PySem.W.Frag) (H : Hp) (n : Nat) (ρ : Nat → Addr) : List D → List V → Prop
  | nil : RelDs K H n ρ [] []
  | cons {x : D} {v : V} {xs : List D} {vs : List V} : RelD K H n ρ x v → RelDs K H n ρ xs vs → RelDs K H n ρ (x :: xs) (v :: vs)
end
/-- tuples stay -/
def Keep (K : PySem.W.Frag) (H H' : Hp) : Prop := (∀ a vs, SqT K H a vs → SqT K H' a vs) ∧ ∀ a o u, H a = some (.frz o u) → H' a = some (.frz o u)
theorem Keep.refl (K : PySem.W.Frag) (H : Hp) : Keep K H H := ⟨fun _ _ h => h, fun _ _ _ h => h⟩
theorem Keep.trans {K : PySem.W.Frag} {H H1 H2 : Hp} (a : Keep K H H1) (b : Keep K H1 H2) : Keep K H H2 := ⟨fun c vs h => b.1 c vs (a.1 c vs h), fun c o u h => b.2 c o u (a.2 c o u h)⟩
theorem Keep.p {K : PySem.W.Frag} {H H' : Hp} (k : Keep K H H') {a : Addr} {vs : List V} (h : SqP K H a vs) : SqP K H' a vs := by
  rcases h with ⟨o, d, h⟩ | h
  · exact .inl ⟨o, d, k.2 _ _ _ h⟩
  · exact .inr h
def Ext (n : Nat) (ρ ρ' : Nat → Addr) : Prop := ∀ i, i < n → ρ' i = ρ i
theorem Ext.refl (n : Nat) (ρ : Nat → Addr) : Ext n ρ ρ := fun _ _ => rfl
theorem Ext.trans {n n' : Nat} {ρ ρ1 ρ2 : Nat → Addr} (a : Ext n ρ ρ1) (b : Ext n' ρ1 ρ2) (h : n ≤ n') : Ext n ρ ρ2 := fun i hi => (b i (Nat.lt_of_lt_of_le hi h)).trans (a i hi)
theorem Ext.mono {n n' : Nat} {ρ ρ' : Nat → Addr} (a : Ext n' ρ ρ') (h : n ≤ n') : Ext n ρ ρ' := fun i hi => a i (Nat.lt_of_lt_of_le hi h)

section
variable {K : PySem.W.Frag} {H H' : Hp}
mutual
theorem RelP.keep (k : Keep K H H') : ∀ {x : P} {v : V}, RelP K H x v → RelP K H' x v
  | _, _, .non => .non
  | _, _, .bl b => .bl b
  | _, _, .int b => .int b
  | _, _, .str b => .str b
  | _, _, .tup h hs => .tup (k.p h) (RelPs.keep k hs)
theorem RelPs.keep (k : Keep K H H') : ∀ {x : List P} {v : List V}, RelPs K H x v → RelPs K H' x v
  | _, _, .nil => .nil
  | _, _, .cons h hs => .cons (RelP.keep k h) (RelPs.keep k hs)
end
theorem RelPs.length : ∀ {x : List P} {v : List V}, RelPs K H x v → x.length = v.length
  | _, _, .nil => rfl
  | _, _, .cons _ hs => congrArg (· + 1) hs.length
theorem RelPs.get : ∀ {xs : List P} {vs : List V} {i : Nat} {x : P}, RelPs K H xs vs → xs[i]? = some x → ∃ v, vs[i]? = some v ∧ RelP K H x v
  | _, _, 0, _, .cons r _, e => by simp at e; subst e; exact ⟨_, rfl, r⟩
  | _, _, i + 1, x, .cons _ t, e => by
    obtain ⟨u, h1, h2⟩ := RelPs.get (i := i) (x := x) t (by simpa using e)
    exact ⟨u, by simpa using h1, h2⟩
theorem RelPs.append : ∀ {xs ys : List P} {vs ws : List V}, RelPs K H xs vs → RelPs K H ys ws → RelPs K H (xs ++ ys) (vs ++ ws)
  | _, _, _, _, .nil, s => s
  | _, _, _, _, .cons r t, s => .cons r (RelPs.append t s)
theorem RelPs.take : ∀ {xs : List P} {vs : List V} (n : Nat), RelPs K H xs vs → RelPs K H (xs.take n) (vs.take n)
  | _, _, 0, _ => .nil
  | _, _, _ + 1, .nil => .nil
  | _, _, n + 1, .cons r t => .cons r (RelPs.take n t)
theorem RelPs.drop : ∀ {xs : List P} {vs : List V} (n : Nat), RelPs K H xs vs → RelPs K H (xs.drop n) (vs.drop n)
  | _, _, 0, r => r
  | _, _, _ + 1, .nil => .nil
  | _, _, n + 1, .cons _ t => RelPs.drop n t

variable {n n' : Nat} {ρ ρ' : Nat → Addr}
mutual
theorem RelD.mono (k : Keep K H H') (e : Ext n ρ ρ') (hn : n ≤ n') : ∀ {x : D} {v : V}, RelD K H n ρ x v → RelD K H' n' ρ' x v
  | _, _, .p h => .p (h.keep k)
  | _, _, .r (i := i) h => by rw [← e i h]; exact .r (Nat.lt_of_lt_of_le h hn)
  | _, _, .t h hs => .t (k.1 _ _ h) (RelDs.mono k e hn hs)
theorem RelDs.mono (k : Keep K H H') (e : Ext n ρ ρ') (hn : n ≤ n') : ∀ {x : List D} {v : List V}, RelDs K H n ρ x v → RelDs K H' n' ρ' x v
  | _, _, .nil => .nil
  | _, _, .cons h hs => .cons (RelD.mono k e hn h) (RelDs.mono k e hn hs)
end
mutual
/-- a value with nothing from m on -/
theorem RelD.low {m : Nat} : ∀ {x : D} {v : V}, RelD K H n ρ x v → x.under m = true → RelD K H m ρ x v
  | _, _, .p h, _ => .p h
  | _, _, .r h, b => .r (by simpa [D.under] using b)
  | _, _, .t h hs, b => .t h (RelDs.low hs (by simpa [D.under] using b))
theorem RelDs.low {m : Nat} : ∀ {x : List D} {v : List V}, RelDs K H n ρ x v → D.unders m x = true → RelDs K H m ρ x v
  | _, _, .nil, _ => .nil
  | _, _, .cons h hs, b => by
    simp only [D.unders, Bool.and_eq_true] at b
    exact .cons (RelD.low h b.1) (RelDs.low hs b.2)
end
theorem RelDs.length : ∀ {x : List D} {v : List V}, RelDs K H n ρ x v → x.length = v.length
  | _, _, .nil => rfl
  | _, _, .cons _ hs => congrArg (· + 1) hs.length
theorem RelDs.get : ∀ {xs : List D} {vs : List V} {i : Nat} {x : D}, RelDs K H n ρ xs vs → xs[i]? = some x → ∃ v, vs[i]? = some v ∧ RelD K H n ρ x v
  | _, _, 0, _, .cons r _, e => by simp at e; subst e; exact ⟨_, rfl, r⟩
  | _, _, i + 1, x, .cons _ t, e => by
    obtain ⟨u, h1, h2⟩ := RelDs.get (i := i) (x := x) t (by simpa using e)
    exact ⟨u, by simpa using h1, h2⟩
theorem RelDs.get' : ∀ {xs : List D} {vs : List V} {i : Nat} {v : V}, RelDs K H n ρ xs vs → vs[i]? = some v → ∃ x, xs[i]? = some x ∧ RelD K H n ρ x v
  | _, _, 0, _, .cons r _, e => by simp at e; subst e; exact ⟨_, rfl, r⟩
  | _, _, i + 1, x, .cons _ t, e => by
    obtain ⟨u, h1, h2⟩ := RelDs.get' (i := i) t (by simpa using e)
    exact ⟨u, by simpa using h1, h2⟩
theorem RelDs.append : ∀ {xs ys : List D} {vs ws : List V}, RelDs K H n ρ xs vs → RelDs K H n ρ ys ws → RelDs K H n ρ (xs ++ ys) (vs ++ ws)
  | _, _, _, _, .nil, s => s
  | _, _, _, _, .cons r t, s => .cons r (RelDs.append t s)
theorem RelDs.take : ∀ {xs : List D} {vs : List V} (m : Nat), RelDs K H n ρ xs vs → RelDs K H n ρ (xs.take m) (vs.take m)
  | _, _, 0, _ => .nil
  | _, _, _ + 1, .nil => .nil
  | _, _, m + 1, .cons r t => .cons r (RelDs.take m t)
theorem RelDs.drop : ∀ {xs : List D} {vs : List V} (m : Nat), RelDs K H n ρ xs vs → RelDs K H n ρ (xs.drop m) (vs.drop m)
  | _, _, 0, r => r
  | _, _, _ + 1, .nil => .nil
  | _, _, m + 1, .cons _ t => RelDs.drop m t
theorem RelDs.set {x : D} {u : V} (r : RelD K H n ρ x u) : ∀ {xs : List D} {us : List V} (i : Nat), RelDs K H n ρ xs us → RelDs K H n ρ (xs.set i x) (us.set i u)
  | _, _, _, .nil => .nil
  | _, _, 0, .cons _ t => .cons r t
  | _, _, i + 1, .cons q t => .cons q (RelDs.set r i t)
theorem RelPs.toDs : ∀ {xs : List P} {vs : List V}, RelPs K H xs vs → RelDs K H n ρ (xs.map .p) vs
  | _, _, .nil => .nil
  | _, _, .cons h hs => .cons (.p h) hs.toDs
end
/-- all are pure -/
def pures : List D → Option (List P)
  | [] => some []
  | .p x :: r => match pures r with
    | some xs => some (x :: xs)
    | none => none
  | _ :: _ => none
@[simp] theorem pures_nil : pures [] = some [] := rfl
@[simp] theorem pures_cons (x : P) (r : List D) : pures (.p x :: r) = (pures r).map (x :: ·) := by
  rw [pures]; cases pures r <;> rfl
@[simp] theorem pures_map (xs : List P) : pures (xs.map .p) = some xs := by
  induction xs with
  | nil => rfl
  | cons x xs ih => simp [ih]
/-- a tuple of values -/
def mkT (ds : List D) : D := match pures ds with
  | some xs => .p (.tup xs)
  | none => .t ds
theorem RelDs.pure {K : PySem.W.Frag} {H : Hp} {n : Nat} {ρ : Nat → Addr} : ∀ {ds : List D} {vs : List V} {xs : List P}, pures ds = some xs → RelDs K H n ρ ds vs → RelPs K H xs vs
  | _, _, _, e, .nil => by cases e; exact .nil
  | _, _, _, e, .cons h hs => by
    cases h with
    | p h =>
      rw [pures_cons] at e
      cases q : pures _ with
      | none => rw [q] at e; cases e
      | some ys => rw [q] at e; cases e; exact .cons h (hs.pure q)
    | r _ => cases e
    | t _ _ => cases e
theorem RelD.mkT {K : PySem.W.Frag} {H : Hp} {n : Nat} {ρ : Nat → Addr} {ds : List D} {vs : List V} {a : Addr} (h : SqP K H a vs) (r : RelDs K H n ρ ds vs) : RelD K H n ρ (mkT ds) (.ref a) := by
  unfold Pv.mkT
  cases e : pures ds with
  | none => exact .t h.sq r
  | some xs => exact .p (.tup h (r.pure e))
/-- a tuple's items -/
def D.items : D → Option (List D)
  | .p (.tup xs) => some (xs.map .p)
  | .t xs => some xs
  | _ => none
theorem RelD.items {K : PySem.W.Frag} {H : Hp} {n : Nat} {ρ : Nat → Addr} {d : D} {v : V} {xs : List D} (r : RelD K H n ρ d v) (e : d.items = some xs) : ∃ a vs, v = .ref a ∧ SqT K H a vs ∧ RelDs K H n ρ xs vs := by
  cases r with
  | p h =>
    cases h with
    | tup h hs => cases e; exact ⟨_, _, rfl, h.sq, hs.toDs⟩
    | non => cases e
    | bl _ => cases e
    | int _ => cases e
    | str _ => cases e
  | r _ => cases e
  | t h hs => cases e; exact ⟨_, _, rfl, h, hs⟩
end Pv

/-! A2: keys and dicts. -/
namespace Pv
open PySem L2 PySem.Spec

/-! ### keys -/
/-- a key by value, no truth -/
def P.leaf : P → Bool
  | .non | .int _ | .str _ => true
  | .bl _ | .tup _ => false
mutual
/-- no truth in it -/
def P.plain : P → Bool
  | .non | .int _ | .str _ => true
  | .bl _ => false
  | .tup xs => P.plains xs
def P.plains : List P → Bool
  | [] => true
  | x :: xs => x.plain && P.plains xs
end
mutual
def P.key : P → NestedKey
  | .non => .none
  | .bl b => .num (if b then 1 else 0)
  | .int i => .num i
  | .str s => .text s
  | .tup xs => .tup (P.keys xs)
def P.keys : List P → List NestedKey
  | [] => []
  | x :: xs => x.key :: P.keys xs
end
/-- a tuple that may be a key -/
def P.tkey : P → Bool
  | .tup xs => P.plains xs && decide ((P.tup xs).key.depth ≤ 8)
  | .non | .bl _ | .int _ | .str _ => false
def P.lf : P → Leaf
  | .non => .none
  | .int i => .num i
  | .str s => .text s
  | .bl _ | .tup _ => .none
theorem lf_inj : ∀ {a b : P}, a.leaf = true → b.leaf = true → a.lf = b.lf → a = b
  | .non, .non, _, _, _ => rfl
  | .int _, .int _, _, _, e => by injection e with e; rw [e]
  | .str _, .str _, _, _, e => by injection e with e; rw [e]
  | .non, .int _, _, _, e | .non, .str _, _, _, e | .int _, .non, _, _, e | .int _, .str _, _, _, e | .str _, .non, _, _, e | .str _, .int _, _, _, e => nomatch e
  | .bl _, _, h, _, _ => by cases h
  | .tup _, _, h, _, _ => by cases h
  | .non, .bl _, _, h, _ | .int _, .bl _, _, h, _ | .str _, .bl _, _, h, _ => by cases h
  | .non, .tup _, _, h, _ | .int _, .tup _, _, h, _ | .str _, .tup _, _, h, _ => by cases h
mutual
theorem key_inj : ∀ {a b : P}, a.plain = true → b.plain = true → a.key = b.key → a = b
  | .non, .non, _, _, _ => rfl
  | .int _, .int _, _, _, e => by simp only [P.key] at e; injection e with e; rw [e]
  | .str _, .str _, _, _, e => by simp only [P.key] at e; injection e with e; rw [e]
  | .tup xs, .tup ys, h1, h2, e => by
    simp only [P.key] at e
    injection e with e
    rw [keys_inj (by simpa [P.plain] using h1) (by simpa [P.plain] using h2) e]
  | .non, .int _, _, _, e | .non, .str _, _, _, e | .non, .tup _, _, _, e => by simp [P.key] at e
  | .int _, .non, _, _, e | .int _, .str _, _, _, e | .int _, .tup _, _, _, e => by simp [P.key] at e
  | .str _, .non, _, _, e | .str _, .int _, _, _, e | .str _, .tup _, _, _, e => by simp [P.key] at e
  | .tup _, .non, _, _, e | .tup _, .int _, _, _, e | .tup _, .str _, _, _, e => by simp [P.key] at e
  | .bl _, _, h, _, _ => by simp [P.plain] at h
  | .non, .bl _, _, h, _ | .int _, .bl _, _, h, _ | .str _, .bl _, _, h, _ | .tup _, .bl _, _, h, _ => by simp [P.plain] at h
theorem keys_inj : ∀ {a b : List P}, P.plains a = true → P.plains b = true → P.keys a = P.keys b → a = b
  | [], [], _, _, _ => rfl
  | x :: xs, y :: ys, h1, h2, e => by
    simp only [P.plains, Bool.and_eq_true] at h1 h2
    simp only [P.keys] at e
    injection e with e1 e2
    rw [key_inj h1.1 h2.1 e1, keys_inj h1.2 h2.2 e2]
  | [], _ :: _, _, _, e => by simp [P.keys] at e
  | _ :: _, [], _, _, e => by simp [P.keys] at e
end
theorem tkey_plain : ∀ {a : P}, a.tkey = true → a.plain = true
  | .tup xs, h => by simp only [P.tkey, Bool.and_eq_true] at h; simpa [P.plain] using h.1
  | .non, h | .bl _, h | .int _, h | .str _, h => by cases h
theorem tkey_depth : ∀ {a : P}, a.tkey = true → a.key.depth ≤ 8
  | .tup xs, h => by simp only [P.tkey, Bool.and_eq_true, decide_eq_true_eq] at h; exact h.2
  | .non, h | .bl _, h | .int _, h | .str _, h => by cases h
theorem leaf_plain : ∀ {a : P}, a.leaf = true → a.plain = true
  | .non, _ | .int _, _ | .str _, _ => rfl
  | .tup _, h | .bl _, h => by cases h

/-- the kind of keys by value, no truths -/
def isB : Value → Bool
  | .bool _ => true
  | _ => false
def lfIs (k : Leaf) (v : Value) : Bool := Leaf.isOf k v && !isB v
def lfKind (prog : Program) (w : World) : KeyKind prog w Leaf where
  is := lfIs
  hash := (leafKind prog w).hash
  inj := fun v a b ha hb => (leafKind prog w).inj v a b (Bool.and_eq_true_iff.mp ha).1 (Bool.and_eq_true_iff.mp hb).1
  byValue := fun k v h => (leafKind prog w).byValue k v (Bool.and_eq_true_iff.mp h).1
  pyHash := fun hv h => (leafKind prog w).pyHash (Bool.and_eq_true_iff.mp hv).1 h
  eqBool := fun hu hv h => (leafKind prog w).eqBool (Bool.and_eq_true_iff.mp hu).1 (Bool.and_eq_true_iff.mp hv).1 h
  «strs» := fun k x t v h => by
    have e := (leafKind prog w).strs k x t v (Bool.and_eq_true_iff.mp h).1
    unfold lfIs
    rw [show Leaf.isOf k v = v.isStr x from e]
    cases v <;> simp [isB, Value.isStr]
theorem lf_of {k : P} {v : V} {u : Value} {K : PySem.W.Frag} {H : Hp} (hk : k.leaf = true) (r : RelP K H k v) (ru : RelV v u) : lfIs k.lf u = true := by
  cases r with
  | non => cases ru; rfl
  | int i => obtain ⟨t, rfl⟩ := ru; simp [lfIs, P.lf, Leaf.isOf, isB]
  | str x => obtain ⟨t, rfl⟩ := ru; simp [lfIs, P.lf, Leaf.isOf, isB, Value.isStrOf]
  | bl _ => cases hk
  | tup _ _ => cases hk
/-- the value of such a key -/
def leafV : Leaf → V
  | .none => .non
  | .num i => .int i
  | .text x => .str x
theorem of_lf {k : Leaf} {u : Value} (h : lfIs k u = true) : RelV (leafV k) u := by
  unfold lfIs at h
  rw [Bool.and_eq_true] at h
  obtain ⟨h1, h2⟩ := h
  cases k with
  | none => cases u <;> first | rfl | exact absurd h1 Bool.false_ne_true
  | num i =>
    cases u with
    | int j t =>
      have e : j = i := of_decide_eq_true h1
      exact ⟨t, by rw [e]⟩
    | bool b => cases h2
    | _ => exact absurd h1 Bool.false_ne_true
  | text x =>
    obtain ⟨t, rfl⟩ := Value.isStrOf_shape (show Value.isStrOf x u = true from h1)
    exact ⟨t, rfl⟩
theorem leafV_rel {k : P} {K : PySem.W.Frag} {H : Hp} (hk : k.leaf = true) : RelP K H k (leafV k.lf) := by
  cases k with
  | non => exact .non
  | int i => exact .int i
  | str x => exact .str x
  | bl _ => cases hk
  | tup _ => cases hk
theorem RelP.leafV {k : P} {v : V} {K : PySem.W.Frag} {H : Hp} (r : RelP K H k v) (hk : k.leaf = true) : v = Pv.leafV k.lf := by
  cases r with
  | non => rfl
  | int i => rfl
  | str x => rfl
  | bl _ => cases hk
  | tup _ _ => cases hk

/-! ### lists, pair by pair -/
section
variable {α β γ δ : Type} {R : α → β → Prop} {S : β → γ → Prop} {R' : γ → δ → Prop}
theorem prd_comp : ∀ {l : List α} {m : List β} {n : List γ}, Paired R l m → Paired S m n → Paired (fun a c => ∃ b, R a b ∧ S b c) l n
  | _, _, _, .nil, .nil => .nil
  | _, _, _, .cons h t, .cons h' t' => .cons ⟨_, h, h'⟩ (prd_comp t t')
theorem prd_map {f : α → γ} {g : β → δ} (hf : ∀ a b, R a b → R' (f a) (g b)) : ∀ {l : List α} {m : List β}, Paired R l m → Paired R' (l.map f) (m.map g)
  | _, _, .nil => .nil
  | _, _, .cons h t => .cons (hf _ _ h) (prd_map hf t)
theorem prd_imp {R' : α → β → Prop} (hf : ∀ a b, R a b → R' a b) : ∀ {l : List α} {m : List β}, Paired R l m → Paired R' l m
  | _, _, .nil => .nil
  | _, _, .cons h t => .cons (hf _ _ h) (prd_imp hf t)
theorem prd_filter {p : α → Bool} {q : β → Bool} (hp : ∀ a b, R a b → p a = q b) : ∀ {l : List α} {m : List β}, Paired R l m → Paired R (l.filter p) (m.filter q)
  | _, _, .nil => .nil
  | _, _, .cons (a := a) (b := b) h t => by
    rw [List.filter_cons, List.filter_cons, ← hp _ _ h]
    by_cases e : p a = true
    · rw [if_pos e, if_pos e]; exact .cons h (prd_filter hp t)
    · rw [if_neg e, if_neg e]; exact prd_filter hp t
theorem prd_any {p : α → Bool} {q : β → Bool} (hp : ∀ a b, R a b → p a = q b) : ∀ {l : List α} {m : List β}, Paired R l m → l.any p = m.any q
  | _, _, .nil => rfl
  | _, _, .cons h t => by rw [List.any_cons, List.any_cons, hp _ _ h, prd_any hp t]
theorem prd_find {p : α → Bool} {q : β → Bool} (hp : ∀ a b, R a b → p a = q b) : ∀ {l : List α} {m : List β}, Paired R l m → (l.find? p = none ∧ m.find? q = none) ∨ ∃ a b, l.find? p = some a ∧ m.find? q = some b ∧ R a b
  | _, _, .nil => .inl ⟨rfl, rfl⟩
  | _, _, .cons (a := a) (b := b) h t => by
    rw [List.find?_cons, List.find?_cons, ← hp _ _ h]
    cases e : p a with
    | true => exact .inr ⟨a, b, rfl, rfl, h⟩
    | false => exact prd_find hp t
theorem prd_get : ∀ {l : List α} {m : List β}, Paired R l m → ∀ {i : Nat} {a : α}, l[i]? = some a → ∃ b, m[i]? = some b ∧ R a b
  | _, _, .nil, _, _, e => by simp at e
  | _, _, .cons h t, 0, _, e => by simp at e; subst e; exact ⟨_, rfl, h⟩
  | _, _, .cons h t, i + 1, _, e => by
    rw [List.getElem?_cons_succ] at e
    obtain ⟨b, h1, h2⟩ := prd_get t e
    exact ⟨b, by rw [List.getElem?_cons_succ]; exact h1, h2⟩
theorem prd_mem : ∀ {l : List α} {m : List β}, Paired R l m → ∀ {b : β}, b ∈ m → ∃ a ∈ l, R a b
  | _, _, .nil, _, e => by cases e
  | _, _, .cons h t, b, e => by
    rcases List.mem_cons.mp e with rfl | e
    · exact ⟨_, List.mem_cons_self, h⟩
    · obtain ⟨a, h1, h2⟩ := prd_mem t e
      exact ⟨a, List.mem_cons_of_mem _ h1, h2⟩
theorem prd_memL : ∀ {l : List α} {m : List β}, Paired R l m → ∀ {a : α}, a ∈ l → ∃ b ∈ m, R a b
  | _, _, .nil, _, e => by cases e
  | _, _, .cons h t, b, e => by
    rcases List.mem_cons.mp e with rfl | e
    · exact ⟨_, List.mem_cons_self, h⟩
    · obtain ⟨a, h1, h2⟩ := prd_memL t e
      exact ⟨a, List.mem_cons_of_mem _ h1, h2⟩
theorem prd_app : ∀ {l l' : List α} {m m' : List β}, Paired R l m → Paired R l' m' → Paired R (l ++ l') (m ++ m')
  | _, _, _, _, .nil, h => h
  | _, _, _, _, .cons h t, h' => .cons h (prd_app t h')
end

/-! ### what a dict holds -/
abbrev Kvs := List (P × D)
def dGet (kvs : Kvs) (k : P) : Option D := (kvs.find? fun kv => decide (kv.1 = k)).map (·.2)
def dPut (kvs : Kvs) (k : P) (d : D) : Kvs := if kvs.any (fun kv => decide (kv.1 = k)) then kvs.map (fun kv => if kv.1 = k then (kv.1, d) else kv) else kvs ++ [(k, d)]
def dDrop (kvs : Kvs) (k : P) : Kvs := kvs.filter fun kv => decide (kv.1 ≠ k)
def lfs (kvs : Kvs) : Bool := kvs.all fun kv => kv.1.leaf
def tks (kvs : Kvs) : Bool := kvs.all fun kv => kv.1.tkey
/-- k may be asked of such a dict -/
def kFit (kvs : Kvs) (k : P) : Bool := (k.leaf && lfs kvs) || (k.tkey && tks kvs)

/-- a dict whose keys go by value -/
def dlO (P : Program) (w : World) (a : Addr) (es : List (Leaf × V)) : HO := .ext fun h => ∃ vs, KV es vs ∧ h.DictOf (lfKind P w) a vs
abbrev KA : List (NestedKey × Addr × V) → List (NestedKey × Addr × Value) → Prop := Paired fun e x => e.1 = x.1 ∧ e.2.1 = x.2.1 ∧ RelV e.2.2 x.2.2
/-- a dict whose keys are tuples -/
def dtO (P : Program) (w : World) (a : Addr) (es : List (NestedKey × Addr × V)) : HO := .ext fun h => ∃ xs, KA es xs ∧ ∃ o ar ep, h.get? a = some o ∧ o.ExactDict ∧ o.data = .dict ar ep ∧ ar.toList = xs.map (entryOfKey (nestedKind P w)) ∧ (xs.map (·.1)).Nodup
section
variable {P : Program} {w : World} {h : Heap} {a : Addr}
theorem dl_ok {H : Hp} {es : List (Leaf × V)} {vs : List (Leaf × Value)} (r : KV es vs) (d : h.DictOf (lfKind P w) a vs) : ObjOk P w H h a (dlO P w a es) := by
  refine ⟨⟨vs, r, d⟩, let ⟨o, _, _, e, _⟩ := d; ⟨o, e⟩, fun h1 h2 ⟨vs, r, d⟩ k => ⟨vs, r, d.at fun o e => k o e⟩⟩
theorem dt_ok {H : Hp} {es : List (NestedKey × Addr × V)} {xs : List (NestedKey × Addr × Value)} (r : KA es xs) (d : h.DictOfH (nestedKind P w) a xs) : ObjOk P w H h a (dtO P w a es) := by
  obtain ⟨o, ar, ep, e1, e2, e3, e4, _, e5⟩ := d
  exact ⟨⟨xs, r, o, ar, ep, e1, e2, e3, e4, e5⟩, ⟨o, e1⟩, fun h1 h2 ⟨xs, r, o, ar, ep, e1, e2⟩ k => ⟨xs, r, o, ar, ep, k o e1, e2⟩⟩
end
/-- the rows of a dict, by value -/
def RelEl (K : PySem.W.Frag) (H : Hp) (n : Nat) (ρ : Nat → Addr) : Kvs → List (Leaf × V) → Prop := Paired fun kv e => kv.1.leaf = true ∧ e.1 = kv.1.lf ∧ RelD K H n ρ kv.2 e.2
/-- .. by tuples -/
def RelEt (K : PySem.W.Frag) (H : Hp) (n : Nat) (ρ : Nat → Addr) : Kvs → List (NestedKey × Addr × V) → Prop := Paired fun kv e => kv.1.tkey = true ∧ e.1 = kv.1.key ∧ RelP K H kv.1 (.ref e.2.1) ∧ RelD K H n ρ kv.2 e.2.2
section
variable {K : PySem.W.Frag} {H H' : Hp} {n n' m : Nat} {ρ ρ' : Nat → Addr} {kvs : Kvs}
theorem RelEl.mono (k : Keep K H H') (e : Ext n ρ ρ') (hn : n ≤ n') {es : List (Leaf × V)} (r : RelEl K H n ρ kvs es) : RelEl K H' n' ρ' kvs es := prd_imp (fun _ _ h => ⟨h.1, h.2.1, h.2.2.mono k e hn⟩) r
theorem RelEt.mono (k : Keep K H H') (e : Ext n ρ ρ') (hn : n ≤ n') {es : List (NestedKey × Addr × V)} (r : RelEt K H n ρ kvs es) : RelEt K H' n' ρ' kvs es := prd_imp (fun _ _ h => ⟨h.1, h.2.1, h.2.2.1.keep k, h.2.2.2.mono k e hn⟩) r
theorem RelEl.low : ∀ {kvs : Kvs} {es : List (Leaf × V)}, RelEl K H n ρ kvs es → (kvs.all fun f => f.2.under m) = true → RelEl K H m ρ kvs es
  | _, _, .nil, _ => .nil
  | _, _, .cons h t, b => by
    simp only [List.all_cons, Bool.and_eq_true] at b
    exact .cons ⟨h.1, h.2.1, h.2.2.low b.1⟩ (RelEl.low t b.2)
theorem RelEt.low : ∀ {kvs : Kvs} {es : List (NestedKey × Addr × V)}, RelEt K H n ρ kvs es → (kvs.all fun f => f.2.under m) = true → RelEt K H m ρ kvs es
  | _, _, .nil, _ => .nil
  | _, _, .cons h t, b => by
    simp only [List.all_cons, Bool.and_eq_true] at b
    exact .cons ⟨h.1, h.2.1, h.2.2.1, h.2.2.2.low b.1⟩ (RelEt.low t b.2)
theorem RelEl.lfs {es : List (Leaf × V)} (r : RelEl K H n ρ kvs es) : lfs kvs = true := by
  unfold Pv.lfs
  rw [List.all_eq_true]
  intro kv hk
  obtain ⟨b, _, h⟩ := prd_memL r hk
  exact h.1
theorem RelEt.tks {es : List (NestedKey × Addr × V)} (r : RelEt K H n ρ kvs es) : tks kvs = true := by
  unfold Pv.tks
  rw [List.all_eq_true]
  intro kv hk
  obtain ⟨b, _, h⟩ := prd_memL r hk
  exact h.1
end
theorem dPut_length (kvs : Kvs) (k : P) (d : D) : (dPut kvs k d).length ≤ kvs.length + 1 := by
  unfold dPut; split <;> simp
theorem lf_tk {k : P} (h : k.leaf = true) : k.tkey = false := by cases k <;> first | rfl | cases h
end Pv

/-! A3: sets whose members go by value: numbers, texts, None. -/
namespace Pv
open PySem L2 PySem.Spec PyProof.Rows

/-! ### entries -/
abbrev SE (Pr : Program) (w : World) : List (Int × Value) → List Leaf → Prop := Paired fun e k => lfIs k e.2 = true ∧ e.1 = (lfKind Pr w).hash k
theorem se_mem {Pr : Program} {w : World} : ∀ {l : List (Int × Value)} {ks : List Leaf}, SE Pr w l ks → ∀ e ∈ l, ∃ k ∈ ks, lfIs k e.2 = true ∧ e.1 = (lfKind Pr w).hash k
  | _, _, .nil, e, h => by cases h
  | _, _, .cons p r, e, h => by
    rcases List.mem_cons.mp h with rfl | h
    · exact ⟨_, List.mem_cons_self, p⟩
    · obtain ⟨k, hk, q⟩ := se_mem r e h
      exact ⟨k, List.mem_cons_of_mem _ hk, q⟩
theorem se_key {Pr : Program} {w : World} : ∀ {l : List (Int × Value)} {ks : List Leaf}, SE Pr w l ks → ∀ k ∈ ks, ∃ e ∈ l, lfIs k e.2 = true
  | _, _, .nil, k, h => by cases h
  | _, _, .cons p r, k, h => by
    rcases List.mem_cons.mp h with rfl | h
    · exact ⟨_, List.mem_cons_self, p.1⟩
    · obtain ⟨e, he, q⟩ := se_key r k h
      exact ⟨e, List.mem_cons_of_mem _ he, q⟩
theorem se_perm {Pr : Program} {w : World} {l l' : List (Int × Value)} (p : l'.Perm l) : ∀ {ks : List Leaf}, SE Pr w l ks → ∃ ks', SE Pr w l' ks' ∧ ks'.Perm ks := by
  induction p with
  | nil => intro ks h; exact ⟨ks, h, List.Perm.refl _⟩
  | cons x _ ih =>
    intro ks h
    cases h with
    | cons q r =>
      obtain ⟨ks', h1, h2⟩ := ih r
      exact ⟨_ :: ks', .cons q h1, h2.cons _⟩
  | swap x y l =>
    intro ks h
    cases h with
    | cons q r => cases r with
      | cons q2 r2 => exact ⟨_, .cons q2 (.cons q r2), List.Perm.swap _ _ _⟩
  | trans _ _ ih1 ih2 =>
    intro ks h
    obtain ⟨k1, a1, a2⟩ := ih2 h
    obtain ⟨k2, b1, b2⟩ := ih1 a1
    exact ⟨k2, b1, b2.trans a2⟩
theorem lf_scan {k : Leaf} {u : Value} (h : lfIs k u = true) : u.scannable = true := by
  have r := of_lf h
  cases k with
  | none => cases r; rfl
  | num i => obtain ⟨t, rfl⟩ := r; rfl
  | text x => obtain ⟨t, rfl⟩ := r; rfl
/-- the set at a -/
def SetL (Pr : Program) (w : World) (h : Heap) (a : Addr) (ls : List Leaf) : Prop := ls.Nodup ∧
  ∃ o es ep t, h.get? a = some o ∧ o.ExactSet ∧ o.data = .set es ep t ∧ (∃ ks, SE Pr w es.toList ks ∧ ks.Perm ls) ∧ es.size < scanBound ∧ t.fits es.size = true ∧ Ris t.place.toList ∧ (w.params.followText "set-order" = true ∨ t.led = true)
section
variable {Pr : Program} {w : World} {h h' : Heap} {a : Addr} {ls : List Leaf}
theorem SetL.kept (R : SetL Pr w h a ls) (k : ∀ o, h.get? a = some o → h'.get? a = some o) : SetL Pr w h' a ls := by
  obtain ⟨nd, o, es, ep, t, ho, r⟩ := R
  exact ⟨nd, o, es, ep, t, k o ho, r⟩
theorem se_elems {l : List (Int × Value)} {ks : List Leaf} (g : SE Pr w l ks) : ElemsOf (lfKind Pr w) l := fun e he => by
  obtain ⟨k, _, q1, q2⟩ := se_mem g e he
  exact ⟨⟨k, q1, q2⟩, lf_scan q1⟩
theorem se_iff {l : List (Int × Value)} {ks : List Leaf} (g : SE Pr w l ks) (k : Leaf) : (∃ e ∈ l, lfIs k e.2 = true) ↔ k ∈ ks := by
  constructor
  · rintro ⟨e, he, q⟩
    obtain ⟨k', hk, q1, _⟩ := se_mem g e he
    have : k = k' := (lfKind Pr w).inj e.2 k k' q q1
    rw [this]
    exact hk
  · exact fun hk => se_key g k hk
theorem SetL.setOf (R : SetL Pr w h a ls) : h.SetOf (lfKind Pr w) a (fun k => ls.contains k) ls.length := by
  obtain ⟨nd, o, es, ep, t, ho, hx, hd, ⟨ks, g, pm⟩, hb, hf, _⟩ := R
  refine ⟨o, es, ep, t, ho, hx, hd, se_elems g, fun k => ?_, hb, hf, ?_⟩
  · rw [List.contains_iff_mem, ← pm.mem_iff, ← se_iff g k]
    exact Iff.rfl
  · rw [← pm.length_eq, ← Paired.length g, Array.length_toList]
theorem SetL.fresh {o : Obj} (ho : h.get? a = some o) (e : o = { cls := .type "set", dict := none, data := .set #[] 0 (.fresh 0 0 (!w.params.followText "set-order")) }) : SetL Pr w h a [] := by
  subst e
  refine ⟨List.nodup_nil, _, #[], 0, _, ho, ⟨rfl, rfl, rfl⟩, rfl, ⟨[], .nil, List.Perm.refl _⟩, by decide, rfl, List.Pairwise.nil, ?_⟩
  show _ ∨ (!w.params.followText "set-order") = true
  cases w.params.followText "set-order" <;> simp
end
/-- one member more -/
def addL (ls : List Leaf) (k : Leaf) : List Leaf := if k ∈ ls then ls else ls ++ [k]
section
variable {Pr : Program} {w : World} {A : Around} {E : Value → Shared → Prop} {s : Shared} {a : Addr} {ls : List Leaf}
theorem SetL.tail {gv : Bool → Sem Unit} (hg : ∀ (b : Bool) (s₁ : Shared) (Q' : Unit → Shared → Prop), Q' () s₁ → wpAny (model Pr w) A (gv b) Q' E s₁)
    {o : Obj} {es : Array (Int × Value)} {ep : Nat} {t : SetTable} (ho : s.heap.get? a = some o) (hx : o.ExactSet) (hd : o.data = .set es ep t) {es1 : Array (Int × Value)} {t2 : SetTable} {ls' ks : List Leaf} (nd : ls'.Nodup) (g1 : SE Pr w es1.toList ks) (pm : ks.Perm ls')
    (hb1 : es1.size < scanBound) (hf2 : t2.fits es1.size = true) (hr : Ris t2.place.toList) (hl : w.params.followText "set-order" = true ∨ t2.led = true) {dummy : Bool} {R : Option Bool → Shared → Prop}
    (hR : ∀ h', Heap.SameBut a s.heap h' → SetL Pr w h' a ls' → R (some true) { s with heap := h' }) :
    wpAny (model Pr w) A (do { storeSet a es1 t2; if (!dummy && t2.tooFull) = true then do { gv (relayAll t2 es1 (SetTable.grown es1.size)).2.2; storeSet a (relayAll t2 es1 (SetTable.grown es1.size)).1 (relayAll t2 es1 (SetTable.grown es1.size)).2.1; pure (some true) } else pure (some true) }) R E s := by
  refine wpAny_bind (wpAny_storeSet_of ho hd ?_ (fits_of_scanBound hb1))
  have at1 := store_at (es' := es1) (t' := t2) ho hd
  have same1 := Heap.SameBut.update s.heap a (Obj.putSet es1 t2)
  split
  · obtain ⟨ks2, g2, pm2⟩ := se_perm (relayAll_perm t2 es1 (SetTable.grown es1.size)) g1
    have f3 := relayAll_fits t2 es1 (SetTable.grown es1.size)
    have r3 := relayAll_ris t2 es1 (SetTable.grown es1.size)
    have l3 := relayAll_led t2 es1 (SetTable.grown es1.size)
    have z3 := (relayAll_perm t2 es1 (SetTable.grown es1.size)).length_eq
    generalize relayAll t2 es1 (SetTable.grown es1.size) = Z at g2 f3 r3 l3 z3 ⊢
    obtain ⟨es2, t3, gave⟩ := Z
    dsimp only at g2 f3 r3 l3 z3 ⊢
    rw [Array.length_toList, Array.length_toList] at z3
    refine wpAny_bind (hg _ _ _ (wpAny_bind (wpAny_storeSet_of at1 rfl ?_ (fits_of_scanBound (by rw [z3]; exact hb1)))))
    have at2 := store_at (es' := es2) (t' := t3) at1 rfl
    exact wpAny_pure (hR _ (same1.trans (Heap.SameBut.update _ a _)) ⟨nd, _, es2, _, t3, at2, hx, rfl, ⟨ks2, g2, pm2.trans pm⟩, by rw [z3]; exact hb1, f3, r3, hl.imp id fun z => by rw [l3]; exact z⟩)
  · exact wpAny_pure (hR _ same1 ⟨nd, _, es1, _, t2, at1, hx, rfl, ⟨ks, g1, pm⟩, hb1, hf2, hr, hl⟩)
theorem SetL.add {k : Leaf} {x : Value} {Q : Bool → Shared → Prop} (R : SetL Pr w s.heap a ls) (hk : lfIs k x = true) (room : ls.length + 1 < scanBound)
    (hQ : ∀ (b : Bool) h', Heap.SameBut a s.heap h' → SetL Pr w h' a (addL ls k) → Q b { s with heap := h' }) : wpAny (model Pr w) A (setAddHashed a x ((lfKind Pr w).hash k)) Q E s := by
  obtain ⟨nd, o, es, ep, t, ho, hx, hd, ⟨ks, g, pm⟩, hb, hf, hr, hl⟩ := R
  have sc := lf_scan hk
  have el : ElemsOf (lfKind Pr w) es.toList := se_elems g
  have hk' : (lfKind Pr w).is k x = true := hk
  have size_ls : es.size = ls.length := by rw [← pm.length_eq, ← Paired.length g, Array.length_toList]
  unfold setAddHashed setAddHashedIn
  refine wpAny_holding (wpAny_bind (wpAny_setState_of ho hd hf ?_))
  dsimp only
  rw [byScan_of sc hb el]
  simp only [↓reduceIte]
  unfold setAddByScan
  refine wpAny_bind (wpAny_bind (wpAny_rule (wpAny_bind (wpAny_setScan_of hk' ho hd hf el ?_))))
  cases fi : List.findIdx? (fun e => (lfKind Pr w).is k e.2) es.toList with
  | some j =>
    dsimp only
    obtain ⟨hj, pj, _⟩ := List.findIdx?_eq_some_iff_getElem.mp fi
    have mem : k ∈ ls := pm.mem_iff.mp ((se_iff g k).mp ⟨es.toList[j], List.getElem_mem hj, pj⟩)
    refine wpAny_pure (wpAny_pure (hQ _ s.heap (Heap.SameBut.refl a s.heap) ?_))
    unfold addL
    rw [if_pos mem]
    exact ⟨nd, o, es, ep, t, ho, hx, hd, ⟨ks, g, pm⟩, hb, hf, hr, hl⟩
  | none =>
    dsimp only
    have nm : ¬ k ∈ ls := fun z => by
      obtain ⟨e, he, q⟩ := (se_iff g k).mpr (pm.mem_iff.mpr z)
      have := List.findIdx?_eq_none_iff.mp fi e he
      rw [show (lfKind Pr w).is k e.2 = true from q] at this
      cases this
    have gone : ∀ (b : Bool) {s₁ : Shared} {Q' : Unit → Shared → Prop}, Q' () s₁ → wpAny (model Pr w) A (match b with | true => rule "set.scan.the-table-gave-way" | false => pure ()) Q' E s₁ := fun b _ _ q => by
      cases b <;> first | exact wpAny_pure q | exact wpAny_rule q
    have perm := layNew_perm t es ((lfKind Pr w).hash k) x
    have f1 := layNew_fits t es ((lfKind Pr w).hash k) x
    have r1 := layNew_ris t es ((lfKind Pr w).hash k) x hr
    have l1 := layNew_led t es ((lfKind Pr w).hash k) x
    generalize layNew t es ((lfKind Pr w).hash k) x = Z at perm f1 r1 l1 ⊢
    obtain ⟨es1, t1, dum, gave⟩ := Z
    dsimp only at perm f1 r1 l1 ⊢
    rw [Array.toList_push] at perm
    obtain ⟨ks1, g1, pm1⟩ := se_perm perm (Paired.snoc g ⟨hk, rfl⟩)
    have pmn : ks1.Perm (ls ++ [k]) := pm1.trans (pm.append_right [k])
    have ndn : (ls ++ [k]).Nodup := by
      rw [List.nodup_append]
      exact ⟨nd, (by simp), fun y hy z hz => by
        rw [List.mem_singleton.mp hz]
        rintro rfl
        exact nm hy⟩
    have hz : es1.size = es.size + 1 := by
      have := perm.length_eq
      rw [Array.length_toList, List.length_append, Array.length_toList] at this
      exact this
    have hb1 : es1.size < scanBound := by omega
    have led1 : w.params.followText "set-order" = true ∨ t1.led = true := hl.imp id fun z => by rw [l1]; exact z
    have fin : ∀ h', Heap.SameBut a s.heap h' → SetL Pr w h' a (ls ++ [k]) → Q true { s with heap := h' } := fun h' sb r => hQ true h' sb (by unfold addL; rw [if_neg nm]; exact r)
    refine wpAny_bind (gone _ ?_)
    split
    · refine wpAny_bind ?_
      rw [hashByValue_scannable 8 sc]
      refine wpAny_pure (SetL.tail ?_ ho hx hd ndn g1 pmn hb1 ?_ ?_ ?_ ?_)
      · exact fun b s₁ Q' q => by cases b <;> first | exact wpAny_pure q | exact wpAny_rule q
      · first | (split <;> first | exact f1 | exact SetTable.fits_plain_off f1) | exact f1
      · first | (split <;> exact r1) | exact r1
      · first | (split <;> exact led1) | exact led1
      · exact fun h' sb r => by dsimp only; exact wpAny_pure (fin h' sb r)
    · refine wpAny_bind (wpAny_pure ?_)
      simp only [↓reduceIte]
      exact SetL.tail (fun b s₁ Q' q => by cases b <;> first | exact wpAny_pure q | exact wpAny_rule q) ho hx hd ndn g1 pmn hb1 f1 r1 led1 fun h' sb r => by dsimp only; exact wpAny_pure (fin h' sb r)
end

/-- what is left of a row of members -/
def mkL (ls : List Leaf) : List Leaf := ls.foldl addL []
theorem addL_len (ls : List Leaf) (k : Leaf) : (addL ls k).length ≤ ls.length + 1 := by
  unfold addL
  split <;> simp
theorem foldL_len : ∀ (ms ls : List Leaf), (ms.foldl addL ls).length ≤ ls.length + ms.length
  | [], ls => Nat.le_refl _
  | m :: ms, ls => by
    have h1 := foldL_len ms (addL ls m)
    have h2 := addL_len ls m
    rw [List.foldl_cons, List.length_cons]
    omega
theorem mkL_len (ls : List Leaf) : (mkL ls).length ≤ ls.length := by
  have := foldL_len ls []
  simpa [mkL] using this
/-- values of members -/
abbrev LV : List Leaf → List Value → Prop := Paired fun k v => lfIs k v = true
theorem LV.len {ls : List Leaf} {vs : List Value} (h : LV ls vs) : ls.length = vs.length := Paired.length h
theorem LV.at_ : ∀ {ls : List Leaf} {vs : List Value}, LV ls vs → ∀ {i : Nat} {v : Value}, vs[i]? = some v → ∃ k, ls[i]? = some k ∧ lfIs k v = true
  | _, _, .nil, i, v, e => by simp at e
  | _, _, .cons p r, 0, v, e => by
    rw [List.getElem?_cons_zero] at e
    cases e
    exact ⟨_, rfl, p⟩
  | _, _, .cons p r, i + 1, v, e => by
    rw [List.getElem?_cons_succ] at e ⊢
    exact LV.at_ r e
/-- an empty set just made -/
abbrev set0 (w : World) : Obj := { cls := .type "set", dict := none, data := .set #[] 0 (.fresh 0 0 (!w.params.followText "set-order")) }
section
variable {Pr : Program} {w : World} {A : Around} {E : Value → Shared → Prop} {s : Shared}
theorem SetL.fill {I : Addr} {fp wr : List Addr} {G : Array GenState → Array GenState → Prop} {n : Nat} {Pv : Nat → Value → Prop} {St : Nat → Shared → Prop} {R : Result → Shared → Prop}
    (W : WalksS Pr w A.in1 I fp wr G n Pv St) (d : Addr) (hd : d ∉ fp) (ls : List Leaf) (hn : n = ls.length) (hb : ls.length + 1 < scanBound) (vals : ∀ i v, Pv i v → ∃ k, ls[i]? = some k ∧ lfIs k v = true) :
    ∀ (m i : Nat) (s : Shared), n - i = m → i ≤ n → St i s → SetL Pr w s.heap d (mkL (ls.take i)) → (∀ s', Moved (d :: wr) G s s' → SetL Pr w s'.heap d (mkL ls) → R (.ok (.ret .none)) s') →
      codeAny (model Pr w) A (.builtin "set.update.loop" ⟨[.ref d, .ref I], []⟩) R s := by
  have dw : d ∉ wr := fun z => hd (W.sub _ z)
  have up : ∀ b ∈ wr, b ∈ d :: wr := fun b z => List.mem_cons_of_mem _ z
  intro m
  induction m with
  | zero =>
    intro i s hm hi st hS hR
    obtain rfl : i = n := by omega
    refine codeAny_builtin F.entry_set_update_loop ?_; rw [Around.under_plainId F.plain_set_update_loop _]
    show wpAny _ A.in1 (pyNext (.ref I) >>= _) _ _ s
    refine wpAny_bind (W.done s _ _ st fun s' mv => ?_)
    rw [List.take_of_length_le (by omega)] at hS
    exact wpAny_pure (hR s' (mv.mono up) (hS.kept fun o e => mv.heap d o dw e))
  | succ m ih =>
    intro i s hm hi st hS hR
    have lt : i < n := by omega
    refine codeAny_builtin F.entry_set_update_loop ?_; rw [Around.under_plainId F.plain_set_update_loop _]
    show wpAny _ A.in1 (pyNext (.ref I) >>= _) _ _ s
    refine wpAny_bind (W.item i s _ _ lt st fun v s' pv st' mv => ?_)
    obtain ⟨k, hk, hv⟩ := vals i v pv
    have hS' := hS.kept (h' := s'.heap) fun o e => mv.heap d o dw e
    show wpAny _ A.in1 (holding [v] (setAdd d v) >>= _) _ _ s'
    refine wpAny_bind (wpAny_holding ?_)
    unfold setAdd
    refine wpAny_holding (wpAny_bind ((lfKind Pr w).pyHash (k := k) hv ?_))
    have l1 := mkL_len (ls.take i)
    rw [List.length_take] at l1
    refine SetL.add (s := { s' with toks := s'.toks + 1 }) hS' hv (by omega) fun b h' sb new => ?_
    have new' : SetL Pr w h' d (mkL (ls.take (i + 1))) := by
      rw [List.take_add_one, hk]
      show SetL Pr w h' d ((ls.take i ++ [k]).foldl addL [])
      rw [List.foldl_append]
      exact new
    refine wpAny_pure ⟨plainId_quiet F.plain_set_update_loop _, ih (i + 1) _ (by omega) lt (W.frame _ s' _ _ st' (Nat.le_succ _) fun b hb o e => ?_) new' fun s2 mv2 new2 => ?_⟩
    · rw [sb.2 b (by rintro rfl; exact hd hb)]
      exact e
    · refine hR s2 (Moved.trans W.gtrans ((mv.mono up).then_heap (Nat.le_succ _) fun b o hb e => ?_) mv2) new2
      rw [sb.2 b (by rintro rfl; exact hb List.mem_cons_self)]
      exact e

set_option maxHeartbeats 3200000 in
theorem call_set_listL {l : Addr} {its : Array Value} (ls : List Leaf) {Q : Value → Shared → Prop} (calm : A.handled = none) (hl : s.heap.IsList l its) (hv : LV ls its.toList) (hb : ls.length + 1 < scanBound)
    (hQ : ∀ (h' : Heap) (tk : Nat), SetL Pr w h' s.heap.objs.size (mkL ls) → (∀ b o, s.heap.get? b = some o → h'.get? b = some o) → Q (.ref s.heap.objs.size) { s with heap := h', toks := tk }) : wpAny (model Pr w) A (call (.type "set") [.ref l]) Q E s := by
  have sz : its.size = ls.length := by rw [← Array.length_toList, ← LV.len hv]
  obtain ⟨cc, ct, mro0⟩ := F.called_set.mro
  have made0 := F.called_set.made
  have sub0 := F.called_set.sub
  refine wpAny_call (codeAny_of_tree ?_); show wpAny _ _ (callAny (.type "set") _) _ _ _
  refine wpAny_pure ⟨Code.quiet_builtin _ (by decide +kernel), codeAny_builtin F.entry_type_call ?_⟩; rw [Around.under_plain (weight_type_call_type "set" [.ref l] []) rfl]
  have nt0 := F.called_set.notType
  have cc0 := F.called_set.canCreate
  have tc0 := F.typeCall_set_1 (.ref l)
  repeat' (any_goals (first | assumption | wp_step))
  refine codeAny_mono (code_set_led1 (.ref l) (E := E) (Q₁ := fun ob s₁ => ob = .ref s.heap.objs.size ∧ s₁ = { s with heap := s.heap.push (set0 w) }) ⟨rfl, rfl⟩) fun r s₁ hr => ?_
  match r, hr with
  | .error e, hr => exact hr
  | .ok (.ret ob), hr =>
    obtain ⟨rfl, rfl⟩ := hr
    have at0 : (s.heap.push (set0 w)).get? s.heap.objs.size = some (set0 w) := Heap.get?_push_size _ rfl
    have ty0 : Shared.TypeIs { s with heap := s.heap.push (set0 w) } (.ref s.heap.objs.size) "set" := ⟨_, at0, rfl⟩
    have li0 := F.called_set.init.lookup
    have bi0 := F.called_set.init.bind (.ref s.heap.objs.size)
    repeat' (any_goals (first | assumption | wp_step))
    refine codeAny_mono (codeAny_call_builtin (R := wants (fun r s₂ => r = .none ∧ ∃ h' tk, s₂ = { s with heap := h', toks := tk } ∧ SetL Pr w h' s.heap.objs.size (mkL ls) ∧ (∀ b o, s.heap.get? b = some o → h'.get? b = some o)) E) F.called_set.init.plain F.entry_set_init (check_set_init_1 ty0 ?_)) fun r₂ s₂ hr₂ => ?_
    · obtain ⟨⟨oc, od, dat, osl⟩, hol, hcl, nl, hdl⟩ := hl
      simp only at hcl hdl
      subst hcl hdl
      have kept : (s.heap.push (set0 w)).get? l = some { cls := .type "list", dict := od, data := .seq its nl, slots := osl } := Heap.get?_push_of_some _ hol
      have n1 := F.sub_list_set
      have n2 := F.sub_list_frozenset
      have n3 : (Value.type "list" == Value.type "dict") = false := by decide
      have is1 : (s.heap.push (set0 w)).IsList l its := ⟨_, kept, rfl, nl, rfl⟩
      unfold Builtin.«set.__init__» noKeywords Builtin.Frozenset.updateFrom
      generalize hPI : pyIter = PI
      wp_walk
      subst hPI
      refine wpAny_pyIter_list is1 (wpAny_bind (wpAny_runValue ?_))
      have lt0 : l < s.heap.objs.size := Heap.lt_size hol
      have calm3 : A.in1.in1.in1.handled = none := by simp [calm]
      have pz : (s.heap.push (set0 w)).objs.size = s.heap.objs.size + 1 := Heap.size_push ..
      have apart1 : l ≠ (s.heap.push (set0 w)).objs.size := by rw [pz]; exact Nat.ne_of_lt (Nat.lt_succ_of_lt lt0)
      have apart2 : s.heap.objs.size ∉ [(s.heap.push (set0 w)).objs.size, l] := by simp only [List.mem_cons, List.mem_singleton, List.not_mem_nil, or_false, not_or]; exact ⟨by rw [pz]; exact Nat.ne_of_lt (Nat.lt_succ_self _), Nat.ne_of_gt lt0⟩
      refine SetL.fill ((Walks.list calm3 _ l apart1 its).toS) s.heap.objs.size apart2 ls sz hb (fun i v hv' => LV.at_ hv (by rw [Array.getElem?_toList]; exact hv')) (its.size - 0) 0 _ (by omega) (Nat.zero_le _) ⟨⟨_, Heap.get?_push_size _ rfl, rfl, rfl⟩, (is1.push _)⟩ ?S0 ?R0
      case S0 => exact SetL.fresh (Heap.get?_push_of_some _ at0) rfl
      case R0 =>
        intro s' hm hS'
        obtain ⟨h', g2, d', tk', os'⟩ := s'
        obtain rfl : g2 = s.gens := hm.gens
        obtain rfl : d' = s.drawn := hm.drawn
        obtain rfl : os' = s.os := hm.os
        show wpAny _ _ _ _ _ _
        refine wpAny_pure ?_
        show wpAny _ _ (ret Value.none) _ _ _
        refine wpAny_pure ⟨rfl, h', tk', rfl, hS', fun b o e => ?_⟩
        have lb := Heap.lt_size e
        exact hm.heap b o (by simp only [List.mem_cons, List.mem_singleton, List.not_mem_nil, or_false, not_or]; exact ⟨Nat.ne_of_lt lb, by rw [pz]; exact Nat.ne_of_lt (Nat.lt_succ_of_lt lb)⟩) (Heap.get?_push_of_some _ (Heap.get?_push_of_some _ e))
    · match r₂, hr₂ with
      | .error e, hr₂ => exact hr₂
      | .ok (.ret r), hr₂ =>
        obtain ⟨rfl, h', tk, rfl, hS', hk'⟩ := hr₂
        repeat' (any_goals (first | assumption | wp_step))
        exact hQ _ _ hS' hk'

set_option maxHeartbeats 3200000 in
theorem call_set_tupleL {l : Addr} {its : Array Value} (ls : List Leaf) {Q : Value → Shared → Prop} (calm : A.handled = none) (hl : s.heap.IsTuple l its) (hv : LV ls its.toList) (hb : ls.length + 1 < scanBound)
    (hQ : ∀ (h' : Heap) (tk : Nat), SetL Pr w h' s.heap.objs.size (mkL ls) → (∀ b o, s.heap.get? b = some o → h'.get? b = some o) → Q (.ref s.heap.objs.size) { s with heap := h', toks := tk }) : wpAny (model Pr w) A (call (.type "set") [.ref l]) Q E s := by
  have sz : its.size = ls.length := by rw [← Array.length_toList, ← LV.len hv]
  obtain ⟨cc, ct, mro0⟩ := F.called_set.mro
  have made0 := F.called_set.made
  have sub0 := F.called_set.sub
  refine wpAny_call (codeAny_of_tree ?_); show wpAny _ _ (callAny (.type "set") _) _ _ _
  refine wpAny_pure ⟨Code.quiet_builtin _ (by decide +kernel), codeAny_builtin F.entry_type_call ?_⟩; rw [Around.under_plain (weight_type_call_type "set" [.ref l] []) rfl]
  have nt0 := F.called_set.notType
  have cc0 := F.called_set.canCreate
  have tc0 := F.typeCall_set_1 (.ref l)
  repeat' (any_goals (first | assumption | wp_step))
  refine codeAny_mono (code_set_led1 (.ref l) (E := E) (Q₁ := fun ob s₁ => ob = .ref s.heap.objs.size ∧ s₁ = { s with heap := s.heap.push (set0 w) }) ⟨rfl, rfl⟩) fun r s₁ hr => ?_
  match r, hr with
  | .error e, hr => exact hr
  | .ok (.ret ob), hr =>
    obtain ⟨rfl, rfl⟩ := hr
    have at0 : (s.heap.push (set0 w)).get? s.heap.objs.size = some (set0 w) := Heap.get?_push_size _ rfl
    have ty0 : Shared.TypeIs { s with heap := s.heap.push (set0 w) } (.ref s.heap.objs.size) "set" := ⟨_, at0, rfl⟩
    have li0 := F.called_set.init.lookup
    have bi0 := F.called_set.init.bind (.ref s.heap.objs.size)
    repeat' (any_goals (first | assumption | wp_step))
    refine codeAny_mono (codeAny_call_builtin (R := wants (fun r s₂ => r = .none ∧ ∃ h' tk, s₂ = { s with heap := h', toks := tk } ∧ SetL Pr w h' s.heap.objs.size (mkL ls) ∧ (∀ b o, s.heap.get? b = some o → h'.get? b = some o)) E) F.called_set.init.plain F.entry_set_init (check_set_init_1 ty0 ?_)) fun r₂ s₂ hr₂ => ?_
    · obtain ⟨⟨oc, od, dat, osl⟩, hol, hcl, nl, hdl⟩ := hl
      simp only at hcl hdl
      subst hcl hdl
      have kept : (s.heap.push (set0 w)).get? l = some { cls := .type "tuple", dict := od, data := .seq its nl, slots := osl } := Heap.get?_push_of_some _ hol
      have n1 := F.sub_tuple_set
      have n2 := F.sub_tuple_frozenset
      have n3 : (Value.type "tuple" == Value.type "dict") = false := by decide
      have is1 : (s.heap.push (set0 w)).IsTuple l its := ⟨_, kept, rfl, nl, rfl⟩
      unfold Builtin.«set.__init__» noKeywords Builtin.Frozenset.updateFrom
      generalize hPI : pyIter = PI
      wp_walk
      subst hPI
      refine wpAny_pyIter_tuple is1 (wpAny_bind (wpAny_runValue ?_))
      have lt0 : l < s.heap.objs.size := Heap.lt_size hol
      have calm3 : A.in1.in1.in1.handled = none := by simp [calm]
      have pz : (s.heap.push (set0 w)).objs.size = s.heap.objs.size + 1 := Heap.size_push ..
      have apart1 : l ≠ (s.heap.push (set0 w)).objs.size := by rw [pz]; exact Nat.ne_of_lt (Nat.lt_succ_of_lt lt0)
      have apart2 : s.heap.objs.size ∉ [(s.heap.push (set0 w)).objs.size, l] := by simp only [List.mem_cons, List.mem_singleton, List.not_mem_nil, or_false, not_or]; exact ⟨by rw [pz]; exact Nat.ne_of_lt (Nat.lt_succ_self _), Nat.ne_of_gt lt0⟩
      refine SetL.fill ((Walks.tuple calm3 _ l apart1 its).toS) s.heap.objs.size apart2 ls sz hb (fun i v hv' => LV.at_ hv (by rw [Array.getElem?_toList]; exact hv')) (its.size - 0) 0 _ (by omega) (Nat.zero_le _) ⟨⟨_, Heap.get?_push_size _ rfl, rfl, rfl⟩, (is1.push _)⟩ ?S0 ?R0
      case S0 => exact SetL.fresh (Heap.get?_push_of_some _ at0) rfl
      case R0 =>
        intro s' hm hS'
        obtain ⟨h', g2, d', tk', os'⟩ := s'
        obtain rfl : g2 = s.gens := hm.gens
        obtain rfl : d' = s.drawn := hm.drawn
        obtain rfl : os' = s.os := hm.os
        show wpAny _ _ _ _ _ _
        refine wpAny_pure ?_
        show wpAny _ _ (ret Value.none) _ _ _
        refine wpAny_pure ⟨rfl, h', tk', rfl, hS', fun b o e => ?_⟩
        have lb := Heap.lt_size e
        exact hm.heap b o (by simp only [List.mem_cons, List.mem_singleton, List.not_mem_nil, or_false, not_or]; exact ⟨Nat.ne_of_lt lb, by rw [pz]; exact Nat.ne_of_lt (Nat.lt_succ_of_lt lb)⟩) (Heap.get?_push_of_some _ (Heap.get?_push_of_some _ e))
    · match r₂, hr₂ with
      | .error e, hr₂ => exact hr₂
      | .ok (.ret r), hr₂ =>
        obtain ⟨rfl, h', tk, rfl, hS', hk'⟩ := hr₂
        repeat' (any_goals (first | assumption | wp_step))
        exact hQ _ _ hS' hk'

end
end Pv

/-! B: objects, the state, what a reading is of an evaluation. -/
namespace Pv
open PySem L2

/-- the tables: the written part, the classes' addresses, the attributes' names -/
structure Tb where
  prog : Program
  w : World
  K : PySem.W.Frag
  cls : Nat → Option Addr
  fld : Nat → Option Str
  /-- which attributes a class's instances may have -/
  fok : Nat → Nat → Bool

/-- a list that never changes -/
def SqR (K : PySem.W.Frag) (H : Hp) (a : Addr) (xs : List V) : Prop :=
  (∃ o, H a = some (.frz o (.lst xs))) ∨
    ∃ (o : Obj) (its : Array Value) (n : Nat), K.lookup a = some o ∧ o.cls = .type "list" ∧ o.dict = none ∧ o.data = .seq its n ∧ its.size ≤ sizeLine ∧ Vals xs its.toList
theorem SqR.sq {K : PySem.W.Frag} {H : Hp} {a : Addr} {xs : List V} (h : SqR K H a xs) : SqL K H a xs := by
  rcases h with ⟨o, h⟩ | h
  · exact .inl (.inr ⟨o, h⟩)
  · exact .inr h
theorem SqR.of {K : PySem.W.Frag} {H : Hp} {a : Addr} {xs : List V} (h : SqL K H a xs) (n : ∀ ys, H a ≠ some (.lst ys)) : SqR K H a xs := by
  rcases h with (h | h) | h
  · exact absurd h (n _)
  · exact .inl h
  · exact .inr h

inductive RelFs (T : Tb) (H : Hp) (n : Nat) (ρ : Nat → Addr) : List (Nat × D) → List (Str × V) → Prop
  | nil : RelFs T H n ρ [] []
  | cons {i : Nat} {x : Str} {d : D} {v : V} {fs : List (Nat × D)} {fv : List (Str × V)} : T.fld i = some x → RelD T.K H n ρ d v → RelFs T H n ρ fs fv → RelFs T H n ρ ((i, d) :: fs) ((x, v) :: fv)
theorem RelFs.mono {T : Tb} {H H' : Hp} {n n' : Nat} {ρ ρ' : Nat → Addr} (k : Keep T.K H H') (e : Ext n ρ ρ') (hn : n ≤ n') : ∀ {fs : List (Nat × D)} {fv : List (Str × V)}, RelFs T H n ρ fs fv → RelFs T H' n' ρ' fs fv
  | _, _, .nil => .nil
  | _, _, .cons h1 h2 hs => .cons h1 (h2.mono k e hn) (hs.mono k e hn)
theorem RelFs.low {T : Tb} {H : Hp} {n m : Nat} {ρ : Nat → Addr} : ∀ {fs : List (Nat × D)} {fv : List (Str × V)}, RelFs T H n ρ fs fv → (fs.all fun f => f.2.under m) = true → RelFs T H m ρ fs fv
  | _, _, .nil, _ => .nil
  | _, _, .cons h1 h2 hs, b => by
    simp only [List.all_cons, Bool.and_eq_true] at b
    exact .cons h1 (h2.low b.1) (hs.low b.2)

/-- a set whose members go by value, none twice -/
def setO (Pr : Program) (w : World) (a : Addr) (xs : List P) : HO := .ext fun h => SetL Pr w h a (xs.map P.lf)
/-- an object at its address -/
def RelO (T : Tb) (H : Hp) (n : Nat) (ρ : Nat → Addr) (a : Addr) : O → Prop
  | .lst xs => ∃ vs, H a = some (.lst vs) ∧ RelDs T.K H n ρ xs vs
  | .ro xs => ∃ vs, SqR T.K H a vs ∧ RelPs T.K H xs vs
  | .dct kvs => (a == sysModules) = false ∧ kvs.length ≤ sizeLine ∧ ((∃ es, H a = some (dlO T.prog T.w a es) ∧ RelEl T.K H n ρ kvs es) ∨ ∃ es, H a = some (dtO T.prog T.w a es) ∧ RelEt T.K H n ρ kvs es)
  | .lck kvs => (a == sysModules) = false ∧ kvs.length ≤ sizeLine ∧ ∃ od, ((∃ es, H a = some (.frz od (dlO T.prog T.w a es)) ∧ RelEl T.K H n ρ kvs es) ∨ ∃ es, H a = some (.frz od (dtO T.prog T.w a es)) ∧ RelEt T.K H n ρ kvs es)
  | .set xs => H a = some (setO T.prog T.w a xs) ∧ (xs.all P.leaf) = true ∧ xs.Nodup
  | .ins c fs => ∃ C dx fv, T.cls c = some C ∧ H a = some (.ins C dx fv) ∧ RelFs T H n ρ fs fv ∧ (fs.all fun p => T.fok c p.1) = true
def O.mut : O → Bool
  | .ro _ => false
  | _ => true
/-- may be written -/
def O.open_ : O → Bool
  | .ro _ | .lck _ => false
  | _ => true
theorem RelO.move {T : Tb} {H H' : Hp} {n n' : Nat} {ρ ρ' : Nat → Addr} {a : Addr} {o : O} (r : RelO T H n ρ a o) (k : Keep T.K H H') (e : Ext n ρ ρ') (hn : n ≤ n') (h : ∀ u, H a = some u → H' a = some u) : RelO T H' n' ρ' a o := by
  cases o with
  | lst xs => obtain ⟨vs, e1, r⟩ := r; exact ⟨vs, h _ e1, r.mono k e hn⟩
  | ro xs =>
    obtain ⟨vs, e1, r⟩ := r
    refine ⟨vs, ?_, r.keep k⟩
    rcases e1 with ⟨o, e1⟩ | e1
    · exact .inl ⟨o, h _ e1⟩
    · exact .inr e1
  | dct kvs =>
    obtain ⟨e0, z, r⟩ := r
    refine ⟨e0, z, ?_⟩
    rcases r with ⟨es, e1, r⟩ | ⟨es, e1, r⟩
    · exact .inl ⟨es, h _ e1, r.mono k e hn⟩
    · exact .inr ⟨es, h _ e1, r.mono k e hn⟩
  | lck kvs =>
    obtain ⟨e0, z, od, r⟩ := r
    refine ⟨e0, z, od, ?_⟩
    rcases r with ⟨es, e1, r⟩ | ⟨es, e1, r⟩
    · exact .inl ⟨es, h _ e1, r.mono k e hn⟩
    · exact .inr ⟨es, h _ e1, r.mono k e hn⟩
  | set xs => exact ⟨h _ r.1, r.2⟩
  | ins c fs => obtain ⟨C, dx, fv, e0, e1, r, q⟩ := r; exact ⟨C, dx, fv, e0, h _ e1, r.mono k e hn, q⟩
theorem RelO.low {T : Tb} {H : Hp} {n m : Nat} {ρ : Nat → Addr} {a : Addr} {o : O} (r : RelO T H n ρ a o) (b : o.under m = true) : RelO T H m ρ a o := by
  cases o with
  | lst xs => obtain ⟨vs, e1, r⟩ := r; exact ⟨vs, e1, r.low b⟩
  | ro xs => exact r
  | dct kvs =>
    obtain ⟨e0, z, r⟩ := r
    refine ⟨e0, z, ?_⟩
    rcases r with ⟨es, e1, r⟩ | ⟨es, e1, r⟩
    · exact .inl ⟨es, e1, r.low b⟩
    · exact .inr ⟨es, e1, r.low b⟩
  | lck kvs =>
    obtain ⟨e0, z, od, r⟩ := r
    refine ⟨e0, z, od, ?_⟩
    rcases r with ⟨es, e1, r⟩ | ⟨es, e1, r⟩
    · exact .inl ⟨es, e1, r.low b⟩
    · exact .inr ⟨es, e1, r.low b⟩
  | set xs => exact r
  | ins c fs => obtain ⟨C, dx, fv, e0, e1, r, q⟩ := r; exact ⟨C, dx, fv, e0, e1, r.low b, q⟩
/-- it is tracked -/
theorem RelO.tracked {T : Tb} {H : Hp} {n : Nat} {ρ : Nat → Addr} {a : Addr} {o : O} (r : RelO T H n ρ a o) (b : o.mut = true) : ∃ u, H a = some u ∧ ∀ ob x, u = .frz ob x → ∀ vs, x ≠ .tup vs ∧ x ≠ .lst vs := by
  cases o with
  | lst xs => obtain ⟨vs, e1, r⟩ := r; exact ⟨_, e1, fun _ _ z => by cases z⟩
  | ro xs => cases b
  | dct kvs =>
    obtain ⟨e0, z, ⟨es, e1, r⟩ | ⟨es, e1, r⟩⟩ := r
    · exact ⟨_, e1, fun _ _ z => by cases z⟩
    · exact ⟨_, e1, fun _ _ z => by cases z⟩
  | lck kvs =>
    obtain ⟨e0, z, od, ⟨es, e1, r⟩ | ⟨es, e1, r⟩⟩ := r
    · exact ⟨_, e1, fun _ _ z vs => by cases z; exact ⟨(fun z => nomatch z), (fun z => nomatch z)⟩⟩
    · exact ⟨_, e1, fun _ _ z vs => by cases z; exact ⟨(fun z => nomatch z), (fun z => nomatch z)⟩⟩
  | set xs => exact ⟨_, r.1, fun _ _ z => by cases z⟩
  | ins c fs => obtain ⟨C, dx, fv, e0, e1, r⟩ := r; exact ⟨_, e1, fun _ _ z => by cases z⟩
/-- a mutable one is tracked as such -/
theorem RelO.at {T : Tb} {H : Hp} {n : Nat} {ρ : Nat → Addr} {a : Addr} {o : O} (r : RelO T H n ρ a o) (b : o.open_ = true) : ∃ u, H a = some u ∧ Mut (some u) ∧ (∀ vs, u ≠ .tup vs) ∧ ∀ ob x, u ≠ .frz ob x := by
  cases o with
  | lst xs => obtain ⟨vs, e1, r⟩ := r; exact ⟨_, e1, True.intro, (fun _ z => by cases z), fun _ _ z => by cases z⟩
  | ro xs => cases b
  | lck xs => cases b
  | dct kvs =>
    obtain ⟨e0, z, ⟨es, e1, r⟩ | ⟨es, e1, r⟩⟩ := r
    · exact ⟨_, e1, True.intro, (fun _ z => by cases z), fun _ _ z => by cases z⟩
    · exact ⟨_, e1, True.intro, (fun _ z => by cases z), fun _ _ z => by cases z⟩
  | set xs => exact ⟨_, r.1, True.intro, (fun _ z => by cases z), fun _ _ z => by cases z⟩
  | ins c fs => obtain ⟨C, dx, fv, e0, e1, r⟩ := r; exact ⟨_, e1, True.intro, (fun _ z => by cases z), fun _ _ z => by cases z⟩
theorem O.open_mut {o : O} (h : o.open_ = true) : o.mut = true := by cases o <;> first | rfl | cases h

structure RelH (T : Tb) (ρ : Nat → Addr) (h : Hh) (H : Hp) : Prop where
  obj : ∀ i o, h[i]? = some o → RelO T H h.length ρ (ρ i) o
  inj : ∀ i j o o', h[i]? = some o → h[j]? = some o' → i ≠ j → o.mut = true → o'.mut = true → ρ i ≠ ρ j

theorem keep_upd {K : PySem.W.Frag} {H : Hp} {p : Addr} {u : HO} (h : (∀ vs, H p ≠ some (.tup vs)) ∧ ∀ ob x, H p ≠ some (.frz ob x)) : Keep K H (upd H p u) := by
  refine ⟨fun a vs q => ?_, fun a ob x q => ?_⟩
  · rcases q with (q | ⟨o, q⟩) | q
    · have : a ≠ p := by rintro rfl; exact h.1 _ q
      exact .inl (.inl (by rw [upd_ne this]; exact q))
    · have : a ≠ p := by rintro rfl; exact h.2 _ _ q
      exact .inl (.inr ⟨o, by rw [upd_ne this]; exact q⟩)
    · exact .inr q
  · have : a ≠ p := by rintro rfl; exact h.2 _ _ q
    rw [upd_ne this]
    exact q
theorem keep_new {K : PySem.W.Frag} {H : Hp} {p : Addr} {u : HO} (h : H p = none) : Keep K H (upd H p u) := keep_upd ⟨(fun _ z => by rw [h] at z; cases z), (fun _ _ z => by rw [h] at z; cases z)⟩
section
variable {T : Tb} {ρ : Nat → Addr} {h : Hh} {H : Hp} {p : Addr} {u : HO} {i : Nat} {o o' : O}
/-- something new that no number has -/
theorem RelH.pad (R : RelH T ρ h H) (hp : H p = none) : RelH T ρ h (upd H p u) :=
  ⟨fun i o e => (R.obj i o e).move (keep_new hp) (Ext.refl _ _) (Nat.le_refl _) fun v q => by
    have : ρ i ≠ p := by rintro rfl; rw [hp] at q; cases q
    rw [upd_ne this]; exact q, R.inj⟩
/-- a new object -/
theorem RelH.new (R : RelH T ρ h H) (hp : H p = none) (ho : ∀ ρ', ρ' h.length = p → Ext h.length ρ ρ' → RelO T (upd H p u) (h.length + 1) ρ' p o) :
    ∃ ρ', ρ' h.length = p ∧ Ext h.length ρ ρ' ∧ RelH T ρ' (h ++ [o]) (upd H p u) := by
  obtain ⟨ρ', e0, e1⟩ : ∃ ρ' : Nat → Addr, ρ' h.length = p ∧ Ext h.length ρ ρ' := ⟨fun j => if j = h.length then p else ρ j, if_pos rfl, fun j hj => if_neg (Nat.ne_of_lt hj)⟩
  have last : ∀ {j x}, (h ++ [o])[j]? = some x → ¬ j < h.length → j = h.length ∧ x = o := fun {j x} q hj => by
    rw [List.getElem?_append_right (by omega)] at q
    have : j - h.length = 0 := by
      obtain ⟨l, _⟩ := List.getElem?_eq_some_iff.mp q
      simp at l; omega
    rw [this] at q
    cases q
    exact ⟨by omega, rfl⟩
  refine ⟨ρ', e0, e1, fun j x q => ?_, fun j k x y q1 q2 ne m1 m2 => ?_⟩
  · rw [List.length_append]
    by_cases hj : j < h.length
    · rw [List.getElem?_append_left hj] at q
      rw [e1 j hj]
      refine (R.obj j x q).move (keep_new hp) e1 (Nat.le_add_right _ _) fun v q => ?_
      have : ρ j ≠ p := by rintro e; rw [e, hp] at q; cases q
      rw [upd_ne this]; exact q
    · obtain ⟨rfl, rfl⟩ := last q hj
      rw [e0]
      exact ho _ e0 e1
  · have at_ : ∀ {j : Nat} {x : O}, (h ++ [o])[j]? = some x → x.mut = true → (j < h.length ∧ h[j]? = some x ∧ ρ' j = ρ j ∧ ρ j ≠ p) ∨ (j = h.length ∧ ρ' j = p) := fun {j x} q m => by
      by_cases hj : j < h.length
      · rw [List.getElem?_append_left hj] at q
        obtain ⟨u, hu, _⟩ := (R.obj j x q).tracked m
        refine .inl ⟨hj, q, e1 j hj, ?_⟩
        rintro e; rw [e, hp] at hu; cases hu
      · obtain ⟨rfl, rfl⟩ := last q hj
        exact .inr ⟨rfl, e0⟩
    rcases at_ q1 m1 with ⟨l1, g1, f1, n1⟩ | ⟨l1, f1⟩ <;> rcases at_ q2 m2 with ⟨l2, g2, f2, n2⟩ | ⟨l2, f2⟩
    · rw [f1, f2]; exact R.inj j k x y g1 g2 ne m1 m2
    · rw [f1, f2]; exact n1
    · rw [f1, f2]; exact n2.symm
    · exact absurd (l1.trans l2.symm) ne
/-- an object is changed -/
theorem RelH.wr (R : RelH T ρ h H) (hi : h[i]? = some o) (m0 : o.open_ = true) (m' : o'.mut = true) (ho : Keep T.K H (upd H (ρ i) u) → RelO T (upd H (ρ i) u) h.length ρ (ρ i) o') :
    Keep T.K H (upd H (ρ i) u) ∧ RelH T ρ (h.set i o') (upd H (ρ i) u) := by
  obtain ⟨w, hw, _, nt, nf⟩ := (R.obj i o hi).at m0
  have m := O.open_mut m0
  have k : Keep T.K H (upd H (ρ i) u) := keep_upd ⟨(fun vs z => nt vs (by rw [hw] at z; exact Option.some.inj z)), (fun ob x z => nf ob x (by rw [hw] at z; exact Option.some.inj z))⟩
  have hil : i < h.length := (List.getElem?_eq_some_iff.mp hi).1
  refine ⟨k, fun j x q => ?_, fun j l x y q1 q2 ne m1 m2 => ?_⟩
  · rw [List.length_set]
    by_cases hj : j = i
    · subst hj
      rw [List.getElem?_set_self hil] at q
      cases q
      exact ho k
    · rw [List.getElem?_set_ne (Ne.symm hj)] at q
      have mv : ρ j ≠ ρ i → RelO T (upd H (ρ i) u) h.length ρ (ρ j) x := fun ne => (R.obj j x q).move k (Ext.refl _ _) (Nat.le_refl _) fun v q' => by rw [upd_ne ne]; exact q'
      cases hm : x.mut with
      | true => exact mv (R.inj j i x o q hi hj hm m)
      | false =>
        cases x with
        | ro xs =>
          obtain ⟨vs, s, r⟩ := R.obj j _ q
          rcases s with ⟨ob, s⟩ | s
          · exact mv fun e => by rw [e, hw] at s; exact nf _ _ (Option.some.inj s)
          · exact ⟨vs, .inr s, r.keep k⟩
        | _ => cases hm
  · have at_ : ∀ {j : Nat} {x : O}, (h.set i o')[j]? = some x → x.mut = true → ∃ x' : O, h[j]? = some x' ∧ x'.mut = true := fun {j x} q m1 => by
      by_cases hj : j = i
      · subst hj; exact ⟨o, hi, m⟩
      · rw [List.getElem?_set_ne (Ne.symm hj)] at q; exact ⟨x, q, m1⟩
    obtain ⟨x', g1, n1⟩ := at_ q1 m1
    obtain ⟨y', g2, n2⟩ := at_ q2 m2
    exact R.inj j l x' y' g1 g2 ne n1 n2
end

/-! ### trimming -/
mutual
theorem RelD.under {K : PySem.W.Frag} {H : Hp} {n : Nat} {ρ : Nat → Addr} : ∀ {x : D} {v : V}, RelD K H n ρ x v → x.under n = true
  | _, _, .p _ => rfl
  | _, _, .r h => by simpa [D.under] using h
  | _, _, .t _ hs => by simpa [D.under] using RelDs.unders hs
theorem RelDs.unders {K : PySem.W.Frag} {H : Hp} {n : Nat} {ρ : Nat → Addr} : ∀ {x : List D} {v : List V}, RelDs K H n ρ x v → D.unders n x = true
  | _, _, .nil => rfl
  | _, _, .cons h hs => by simp only [D.unders, RelD.under h, RelDs.unders hs, Bool.and_true]
end
theorem RelFs.under {T : Tb} {H : Hp} {n : Nat} {ρ : Nat → Addr} : ∀ {fs : List (Nat × D)} {fv : List (Str × V)}, RelFs T H n ρ fs fv → (fs.all fun f => f.2.under n) = true
  | _, _, .nil => rfl
  | _, _, .cons h1 h2 hs => by simp only [List.all_cons, h2.under, hs.under, Bool.and_true]
theorem RelEl.under {K : PySem.W.Frag} {H : Hp} {n : Nat} {ρ : Nat → Addr} {fs : Kvs} {es : List (Leaf × V)} (r : RelEl K H n ρ fs es) : (fs.all fun f => f.2.under n) = true := by
  rw [List.all_eq_true]
  intro kv hk
  obtain ⟨b, _, h⟩ := prd_memL r hk
  exact h.2.2.under
theorem RelEt.under {K : PySem.W.Frag} {H : Hp} {n : Nat} {ρ : Nat → Addr} {fs : Kvs} {es : List (NestedKey × Addr × V)} (r : RelEt K H n ρ fs es) : (fs.all fun f => f.2.under n) = true := by
  rw [List.all_eq_true]
  intro kv hk
  obtain ⟨b, _, h⟩ := prd_memL r hk
  exact h.2.2.2.under
theorem RelO.under {T : Tb} {H : Hp} {n : Nat} {ρ : Nat → Addr} {a : Addr} {o : O} (r : RelO T H n ρ a o) : o.under n = true := by
  cases o with
  | lst xs => obtain ⟨vs, e1, r⟩ := r; exact r.unders
  | ro xs => rfl
  | dct kvs =>
    obtain ⟨e0, z, ⟨es, e1, r⟩ | ⟨es, e1, r⟩⟩ := r
    · exact r.under
    · exact r.under
  | lck kvs =>
    obtain ⟨e0, z, od, ⟨es, e1, r⟩ | ⟨es, e1, r⟩⟩ := r
    · exact r.under
    · exact r.under
  | set xs => rfl
  | ins c fs => obtain ⟨C, dx, fv, e0, e1, r, _⟩ := r; exact r.under
theorem agree_len : ∀ {h h' : Hh} {n : Nat}, agree h h' n = true → h.length ≤ h'.length
  | [], _, _, _ => Nat.zero_le _
  | _ :: _, [], _, e => by simp [agree] at e
  | _ :: h, _ :: h', n, e => by
    simp only [agree, Bool.and_eq_true] at e
    exact Nat.succ_le_succ (agree_len e.2)
theorem agree_at : ∀ {h h' : Hh} {n i : Nat} {o' : O}, agree h h' n = true → i < h.length → h'[i]? = some o' → h[i]? = some o' ∨ o'.under n = true
  | [], _, _, _, _, _, l, _ => absurd l (Nat.not_lt_zero _)
  | _ :: _, [], _, _, _, e, _, _ => by simp [agree] at e
  | o :: h, o1 :: h', n, 0, o', e, _, g => by
    simp only [agree, Bool.and_eq_true, Bool.or_eq_true, decide_eq_true_eq] at e
    simp at g; subst g
    rcases e.1 with q | q
    · exact .inl (by simp [q])
    · exact .inr q
  | o :: h, o1 :: h', n, i + 1, o', e, l, g => by
    simp only [agree, Bool.and_eq_true] at e
    have := agree_at (i := i) e.2 (Nat.lt_of_succ_lt_succ l) (by simpa using g)
    simpa using this
theorem RelH.cut {T : Tb} {ρ ρ' : Nat → Addr} {h h' : Hh} {H H' : Hp} (R0 : RelH T ρ h H) (R : RelH T ρ' h' H') (ag : agree h h' h.length = true) : RelH T ρ' (h'.take h.length) H' := by
  have hl := agree_len ag
  have tl : (h'.take h.length).length = h.length := by rw [List.length_take]; omega
  refine ⟨fun i o e => ?_, fun i j o o' e e' ne m m' => ?_⟩
  · have hi : i < h.length := by
      have := (List.getElem?_eq_some_iff.mp e).1
      omega
    rw [List.getElem?_take_of_lt hi] at e
    rw [tl]
    refine (R.obj i o e).low ?_
    rcases agree_at ag hi e with q | q
    · exact (R0.obj i o q).under
    · exact q
  · have lt : ∀ {i : Nat} {o : O}, (h'.take h.length)[i]? = some o → h'[i]? = some o := fun {i o} e => by
      have := (List.getElem?_eq_some_iff.mp e).1
      rw [List.getElem?_take_of_lt (by omega)] at e
      exact e
    exact R.inj i j o o' (lt e) (lt e') ne m m'
theorem RelH.cutOne {T : Tb} {ρ ρ' : Nat → Addr} {h h' : Hh} {H H' : Hp} {i : Nat} {o : O} (R0 : RelH T ρ h H) (R : RelH T ρ' h' H') (ag : agree h h' h.length = true) (e : h'[i]? = some o) (hi : h.length ≤ i) (u : o.under h.length = true) :
    ∃ ρ'', ρ'' h.length = ρ' i ∧ Ext h.length ρ' ρ'' ∧ RelH T ρ'' (h'.take h.length ++ [o]) H' := by
  obtain ⟨ρ'', e0, e1⟩ : ∃ ρ'' : Nat → Addr, ρ'' h.length = ρ' i ∧ Ext h.length ρ' ρ'' := ⟨fun j => if j = h.length then ρ' i else ρ' j, if_pos rfl, fun j hj => if_neg (Nat.ne_of_lt hj)⟩
  have C := R0.cut R ag
  have hl := agree_len ag
  have tl : (h'.take h.length).length = h.length := by rw [List.length_take]; omega
  have last : ∀ {j : Nat} {x : O}, (h'.take h.length ++ [o])[j]? = some x → (j < h.length ∧ (h'.take h.length)[j]? = some x) ∨ (j = h.length ∧ x = o) := fun {j x} q => by
    by_cases hj : j < h.length
    · rw [List.getElem?_append_left (by omega)] at q; exact .inl ⟨hj, q⟩
    · rw [List.getElem?_append_right (by omega)] at q
      have : j - (h'.take h.length).length = 0 := by
        obtain ⟨l, _⟩ := List.getElem?_eq_some_iff.mp q
        simp at l; omega
      rw [this] at q
      cases q
      exact .inr ⟨by omega, rfl⟩
  have ln : (h'.take h.length ++ [o]).length = h.length + 1 := by rw [List.length_append, tl]; rfl
  have orig : ∀ {j : Nat} {x : O}, (h'.take h.length)[j]? = some x → h'[j]? = some x := fun {j x} e => by
    have := (List.getElem?_eq_some_iff.mp e).1
    rw [List.getElem?_take_of_lt (by omega)] at e
    exact e
  refine ⟨ρ'', e0, e1, fun j x q => ?_, fun j k x y q1 q2 ne m1 m2 => ?_⟩
  · rw [ln]
    rcases last q with ⟨hj, q⟩ | ⟨rfl, rfl⟩
    · rw [e1 j hj]
      have c := C.obj j x q
      rw [tl] at c
      exact c.move (Keep.refl _ _) e1 (Nat.le_succ _) fun _ z => z
    · rw [e0]
      exact ((R.obj i _ e).low u).move (Keep.refl _ _) e1 (Nat.le_succ _) fun _ z => z
  · rcases last q1 with ⟨h1, g1⟩ | ⟨rfl, rfl⟩ <;> rcases last q2 with ⟨h2, g2⟩ | ⟨rfl, rfl⟩
    · rw [e1 j h1, e1 k h2]; exact R.inj j k x y (orig g1) (orig g2) ne m1 m2
    · rw [e1 j h1, e0]; exact R.inj j i x _ (orig g1) e (by omega) m1 m2
    · rw [e0, e1 k h2]; exact R.inj i k _ y e (orig g2) (by omega) m1 m2
    · exact absurd rfl ne

/-! ### what is wanted of an evaluation -/
/-- results and how they are told -/
structure RL (K : PySem.W.Frag) (α β : Type) where
  r : Hp → Nat → (Nat → Addr) → α → β → Prop
  mono : ∀ {H H' : Hp} {n n' : Nat} {ρ ρ' : Nat → Addr} {a : α} {b : β}, Keep K H H' → Ext n ρ ρ' → n ≤ n' → r H n ρ a b → r H' n' ρ' a b
section
variable {K : PySem.W.Frag}
def RL.d : RL K D V := ⟨fun H n ρ => RelD K H n ρ, fun k e l r => r.mono k e l⟩
def RL.ds : RL K (List D) (List V) := ⟨fun H n ρ => RelDs K H n ρ, fun k e l r => r.mono k e l⟩
def RL.b : RL K Bool Bool := ⟨fun _ _ _ a b => a = b, fun _ _ _ r => r⟩
def RL.u : RL K Unit Unit := ⟨fun _ _ _ _ _ => True, fun _ _ _ r => r⟩
def RL.x {α β γ δ : Type} (l : RL K α β) (m : RL K γ δ) : RL K (α × γ) (β × δ) := ⟨fun H n ρ a b => l.r H n ρ a.1 b.1 ∧ m.r H n ρ a.2 b.2, fun k e q r => ⟨l.mono k e q r.1, m.mono k e q r.2⟩⟩
end
/-- the slots -/
structure RelS (K : PySem.W.Frag) (H : Hp) (n : Nat) (ρ : Nat → Addr) (sg : Sg) (σ : L2.St) : Prop where
  len : sg.length = σ.length
  at_ : ∀ (i : Nat) (d : D), sg[i]? = some (some d) → ∃ v, σ[i]? = some (some v) ∧ RelD K H n ρ d v
theorem RelS.mono {K : PySem.W.Frag} {H H' : Hp} {n n' : Nat} {ρ ρ' : Nat → Addr} {sg : Sg} {σ : L2.St} (s : RelS K H n ρ sg σ) (k : Keep K H H') (e : Ext n ρ ρ') (l : n ≤ n') : RelS K H' n' ρ' sg σ :=
  ⟨s.len, fun i d h => let ⟨v, a, b⟩ := s.at_ i d h; ⟨v, a, b.mono k e l⟩⟩
theorem RelS.set {K : PySem.W.Frag} {H : Hp} {n : Nat} {ρ : Nat → Addr} {sg : Sg} {σ : L2.St} {i : Nat} {d : D} {v : V} (s : RelS K H n ρ sg σ) (r : RelD K H n ρ d v) : RelS K H n ρ (sg.set i (some d)) (σ.set i (some v)) := by
  refine ⟨by rw [List.length_set, List.length_set, s.len], fun j x h => ?_⟩
  by_cases e : j = i
  · subst e
    have l : j < sg.length := by simpa using (List.getElem?_eq_some_iff.mp h).1
    rw [List.getElem?_set_self l] at h
    cases h
    exact ⟨v, List.getElem?_set_self (by rw [← s.len]; exact l), r⟩
  · rw [List.getElem?_set_ne (Ne.symm e)] at h ⊢
    exact s.at_ j x h

/-- the exception as the hand layer tells it -/
def RelX (T : Tb) (H : Hp) (n : Nat) (ρ : Nat → Addr) (x : Ex) (c : Value) (d : Option Addr) : Prop :=
  ∃ C, T.cls x.cls = some C ∧ c = .ref C ∧ ((d = none ∧ x.fs = []) ∨ ∃ dx fv, d = some dx ∧ H dx = some (.xd fv) ∧ RelFs T H n ρ x.fs fv)

section
variable (T : Tb)
def Out {α β : Type} (l : RL T.K α β) (W : WX) (n : Nat) (ρ : Nat → Addr) (H : Hp) (σ : L2.St) (Q : β → Hp → Prop) : R α → Prop
  | .stuck => False
  | .ok a h' => ∀ ρ' b H', n ≤ h'.length → Ext n ρ ρ' → Keep T.K H H' → RelH T ρ' h' H' → l.r H' h'.length ρ' a b → Q b H'
  | .exc x h' => ∀ ρ' c d H', n ≤ h'.length → Ext n ρ ρ' → Keep T.K H H' → RelH T ρ' h' H' → RelX T H' h'.length ρ' x c d → W c d σ H'
/-- the state with something held -/
structure At {α β : Type} (l : RL T.K α β) (x : β) (σ : L2.St) (H : Hp) (ρ : Nat → Addr) (sg : Sg) (h : Hh) (a : α) : Prop where
  s : RelS T.K H h.length ρ sg σ
  o : RelH T ρ h H
  a : l.r H h.length ρ a x
def tH {α β γ δ : Type} (W : WX) (l : RL T.K α β) (m : RL T.K γ δ) (k : Sg → α → Hh → R γ) (x : β) : L2.St → Hp → (δ → Hp → Prop) → Prop := fun σ H Q =>
  ∃ ρ sg h a, At T l x σ H ρ sg h a ∧ Out T m W h.length ρ H σ Q (k sg a h)
def tG {γ δ : Type} (W : WX) (m : RL T.K γ δ) (ev : Sg → Hh → R γ) : L2.St → Hp → (δ → Hp → Prop) → Prop := tH T W RL.u m (fun sg _ h => ev sg h) ()
abbrev tE (W : WX) (ev : Sg → Hh → R D) : TE := tG T W RL.d ev
abbrev tA (W : WX) (ev : Sg → Hh → R (List D)) : TA := tG T W RL.ds ev
abbrev tT (W : WX) (ev : Sg → Hh → R Bool) : TT := tG T W RL.b ev
end
section
variable {T : Tb} {W : WX} {α β γ δ ε ζ : Type} {l : RL T.K α β} {m : RL T.K γ δ} {m' : RL T.K ε ζ}
theorem Out.later {n n' : Nat} {ρ ρ' : Nat → Addr} {H H' : Hp} {σ : L2.St} {Q : β → Hp → Prop} {r : R α} (o : Out T l W n ρ H σ Q r) (hn : n ≤ n') (e : Ext n ρ ρ') (k : Keep T.K H H') : Out T l W n' ρ' H' σ Q r := by
  cases r with
  | stuck => exact o
  | ok a h' => exact fun ρ'' b H'' l1 e1 k1 R1 r1 => o ρ'' b H'' (Nat.le_trans hn l1) (e.trans e1 hn) (k.trans k1) R1 r1
  | exc x h' => exact fun ρ'' c d H'' l1 e1 k1 R1 r1 => o ρ'' c d H'' (Nat.le_trans hn l1) (e.trans e1 hn) (k.trans k1) R1 r1
/-- the next part is evaluated -/
theorem tH.step {ev : Sg → Hh → R γ} {k : Sg → α × γ → Hh → R ε} {x : β} {σ : L2.St} {H : Hp} {Q : ζ → Hp → Prop} (t : tH T W l m' (fun sg a h => (ev sg h).bind fun b h1 => k sg (a, b) h1) x σ H Q) :
    tG T W m ev σ H fun y H1 => tH T W (l.x m) m' k (x, y) σ H1 Q := by
  obtain ⟨ρ, sg, h, a, A, o⟩ := t
  refine ⟨ρ, sg, h, (), ⟨A.s, A.o, True.intro⟩, ?_⟩
  show Out T m W h.length ρ H σ _ (ev sg h)
  have o : Out T m' W h.length ρ H σ Q ((ev sg h).bind fun b h1 => k sg (a, b) h1) := o
  cases e : ev sg h with
  | stuck => rw [e] at o; exact o
  | ok b h1 =>
    rw [e] at o
    intro ρ1 y H1 l1 e1 k1 R1 r1
    exact ⟨ρ1, sg, h1, (a, b), ⟨A.s.mono k1 e1 l1, R1, l.mono k1 e1 l1 A.a, r1⟩, Out.later o l1 e1 k1⟩
  | exc x h1 => rw [e] at o; exact o
/-- the first part -/
theorem tG.step {ev : Sg → Hh → R γ} {k : Sg → γ → Hh → R ε} {σ : L2.St} {H : Hp} {Q : ζ → Hp → Prop} (t : tG T W m' (fun sg h => (ev sg h).bind fun b h1 => k sg b h1) σ H Q) :
    tG T W m ev σ H fun y H1 => tH T W m m' k y σ H1 Q := by
  obtain ⟨ρ, sg, h, a, A, o⟩ := t
  refine ⟨ρ, sg, h, (), A, ?_⟩
  show Out T m W h.length ρ H σ _ (ev sg h)
  have o : Out T m' W h.length ρ H σ Q ((ev sg h).bind fun b h1 => k sg b h1) := o
  cases e : ev sg h with
  | stuck => rw [e] at o; exact o
  | ok b h1 =>
    rw [e] at o
    intro ρ1 y H1 l1 e1 k1 R1 r1
    exact ⟨ρ1, sg, h1, b, ⟨A.s.mono k1 e1 l1, R1, r1⟩, Out.later o l1 e1 k1⟩
  | exc x h1 => rw [e] at o; exact o
/-- the end: a value, the numbers as they are -/
theorem Out.ret {ρ : Nat → Addr} {H : Hp} {σ : L2.St} {Q : β → Hp → Prop} {a : α} {h : Hh} {b : β} (o : Out T l W h.length ρ H σ Q (.ok a h)) (R : RelH T ρ h H) (r : l.r H h.length ρ a b) : Q b H :=
  o ρ b H (Nat.le_refl _) (Ext.refl _ _) (Keep.refl _ _) R r
theorem Out.trim {ρ : Nat → Addr} {h : Hh} {H : Hp} {σ : L2.St} {Q : V → Hp → Prop} {r : R D} (R0 : RelH T ρ h H) (o : Out T RL.d W h.length ρ H σ Q (trimR h r)) : Out T RL.d W h.length ρ H σ Q r := by
  cases r with
  | stuck => exact o
  | exc x h' => exact o
  | ok d h' =>
    intro ρ' v H' l1 e1 k1 R1 r1
    have same : Out T RL.d W h.length ρ H σ Q (.ok d h') → Q v H' := fun o => o ρ' v H' l1 e1 k1 R1 r1
    unfold trimR at o
    dsimp only at o
    by_cases ag : agree h h' h.length = true
    · rw [if_pos ag] at o
      have tl : (h'.take h.length).length = h.length := by rw [List.length_take]; have := agree_len ag; omega
      by_cases du : d.under h.length = true
      · rw [if_pos du] at o
        refine o ρ' v H' (by omega) e1 k1 (R0.cut R1 ag) ?_
        rw [tl]
        exact RelD.low r1 du
      · rw [if_neg du] at o
        cases d with
        | p x => exact same o
        | t xs => exact same o
        | r i =>
          dsimp only at o
          cases g : h'[i]? with
          | none => rw [g] at o; exact same o
          | some ob =>
            rw [g] at o
            dsimp only at o
            by_cases c : (decide (h.length ≤ i) && ob.under h.length) = true
            · rw [if_pos c] at o
              rw [Bool.and_eq_true, decide_eq_true_eq] at c
              obtain ⟨ρ'', f0, f1, R2⟩ := R0.cutOne R1 ag g c.1 c.2
              have ln : (h'.take h.length ++ [ob]).length = h.length + 1 := by rw [List.length_append, tl]; rfl
              refine o ρ'' v H' (by omega) (e1.trans f1 (Nat.le_refl _)) k1 R2 ?_
              rw [ln]
              cases r1
              rw [← f0]
              exact .r (Nat.lt_succ_self _)
            · rw [if_neg c] at o; exact same o
    · rw [if_neg ag] at o; exact same o
theorem tE.trim {ev : Sg → Hh → R D} {σ : L2.St} {H : Hp} {Q : VK} (t : tE T W (fun sg h => trimR h (ev sg h)) σ H Q) : tE T W ev σ H Q := by
  obtain ⟨ρ, sg, h, a, A, o⟩ := t
  exact ⟨ρ, sg, h, a, A, Out.trim A.o o⟩
end
end Pv

/-! C: the evaluator. -/
namespace Pv
open PySem L2

/-! ### plain data: ==, order, what is shown -/
mutual
def P.py : P → PyData
  | .non => .none
  | .bl b => .bool b
  | .int i => .int i
  | .str s => .str s
  | .tup xs => .tuple (P.pys xs)
def P.pys : List P → List PyData
  | [] => []
  | x :: xs => x.py :: P.pys xs
end
theorem P.pys_eq (xs : List P) : P.pys xs = xs.map P.py := by
  induction xs with
  | nil => rfl
  | cons x xs ih => rw [P.pys, ih]; rfl
mutual
def P.eqv : P → P → Bool
  | .non, .non => true
  | .bl a, .bl b => a == b
  | .bl a, .int j => decide ((if a then 1 else 0) = j)
  | .int i, .bl b => decide (i = (if b then 1 else 0))
  | .int i, .int j => decide (i = j)
  | .str x, .str y => decide (x = y)
  | .tup xs, .tup ys => P.eqvs xs ys
  | .non, .bl _ | .non, .int _ | .non, .str _ | .non, .tup _ => false
  | .bl _, .non | .bl _, .str _ | .bl _, .tup _ => false
  | .int _, .non | .int _, .str _ | .int _, .tup _ => false
  | .str _, .non | .str _, .bl _ | .str _, .int _ | .str _, .tup _ => false
  | .tup _, .non | .tup _, .bl _ | .tup _, .int _ | .tup _, .str _ => false
def P.eqvs : List P → List P → Bool
  | [], [] => true
  | x :: xs, y :: ys => P.eqv x y && P.eqvs xs ys
  | [], _ :: _ => false
  | _ :: _, [] => false
end
mutual
theorem P.eqv_py : ∀ x y : P, PyData.eqv x.py y.py = x.eqv y
  | .non, .non => rfl
  | .bl a, .bl b => rfl
  | .bl a, .int j => by rw [Bool.eq_iff_iff]; simp [P.py, PyData.eqv, P.eqv]
  | .int i, .bl b => by rw [Bool.eq_iff_iff]; simp [P.py, PyData.eqv, P.eqv]
  | .int i, .int j => by rw [Bool.eq_iff_iff]; simp [P.py, PyData.eqv, P.eqv]
  | .str x, .str y => by rw [Bool.eq_iff_iff]; simp [P.py, PyData.eqv, P.eqv]
  | .tup xs, .tup ys => by rw [P.py, P.py, PyData.eqv, P.eqv]; exact P.eqvs_py xs ys
  | .non, .bl _ | .non, .int _ | .non, .str _ | .non, .tup _ => by simp [P.py, PyData.eqv, P.eqv]
  | .bl _, .non | .bl _, .str _ | .bl _, .tup _ => by simp [P.py, PyData.eqv, P.eqv]
  | .int _, .non | .int _, .str _ | .int _, .tup _ => by simp [P.py, PyData.eqv, P.eqv]
  | .str _, .non | .str _, .bl _ | .str _, .int _ | .str _, .tup _ => by simp [P.py, PyData.eqv, P.eqv]
  | .tup _, .non | .tup _, .bl _ | .tup _, .int _ | .tup _, .str _ => by simp [P.py, PyData.eqv, P.eqv]
theorem P.eqvs_py : ∀ xs ys : List P, PyData.eqvAll (P.pys xs) (P.pys ys) = P.eqvs xs ys
  | [], [] => rfl
  | x :: xs, y :: ys => by rw [P.pys, P.pys, PyData.eqvAll, P.eqvs, P.eqv_py x y, P.eqvs_py xs ys]
  | [], _ :: _ => by simp [P.pys, PyData.eqvAll, P.eqvs]
  | _ :: _, [] => by simp [P.pys, PyData.eqvAll, P.eqvs]
end
mutual
def P.depth : P → Nat
  | .tup xs => P.depths xs + 1
  | .non | .bl _ | .int _ | .str _ => 0
def P.depths : List P → Nat
  | [] => 0
  | x :: xs => max x.depth (P.depths xs)
end
mutual
def P.fit : P → Bool
  | .str s => PyData.strOk s
  | .tup xs => P.fits xs
  | .non | .bl _ | .int _ => true
def P.fits : List P → Bool
  | [] => true
  | x :: xs => x.fit && P.fits xs
end
/-- x < y of alike data -/
def P.lt (x y : P) : Bool := PySem.W.dataLt x.py y.py
def P.le (x y : P) : Bool := !P.lt y x
def P.alike (x y : P) : Bool := PySem.W.alike x.py y.py
/-- may be sorted: all alike, all tuples that are not empty, or none a tuple or None -/
def sortable (xs : List P) : Bool :=
  (xs.all fun x => xs.all fun y => P.alike x y) && ((xs.all fun x => match x with
    | .tup (_ :: _) => true
    | _ => false) || xs.all fun x => match x with
    | .tup _ | .non => false
    | _ => true) && xs.all fun x => decide (x.depth ≤ 64)

/-! ### what is read off the heap -/
/-- a value as data, lists within -/
def see : Nat → Hh → D → Option PyData
  | _, _, .p x => some x.py
  | 0, _, _ => none
  | n + 1, h, .r i => match h[i]? with
    | some (.lst xs) => (xs.mapM (see n h)).map .list
    | some (.ro xs) => some (.list (P.pys xs))
    | _ => none
  | n + 1, h, .t xs => (xs.mapM (see n h)).map .tuple
/-- a list's items -/
def lstOf (h : Hh) : D → Option (List D)
  | .r i => match h[i]? with
    | some (.lst xs) => some xs
    | some (.ro xs) => some (xs.map .p)
    | _ => none
  | _ => none
/-- a list that may change -/
def mutOf (h : Hh) : D → Option (List D)
  | .r i => match h[i]? with
    | some (.lst xs) => some xs
    | _ => none
  | _ => none
/-- a list's or a tuple's items -/
def seqOf (h : Hh) : D → Option (List D)
  | .p (.tup xs) => some (xs.map .p)
  | .t xs => some xs
  | .r i => lstOf h (.r i)
  | _ => none
/-- a dict's rows -/
def dctOf (h : Hh) : D → Option Kvs
  | .r i => match h[i]? with
    | some (.dct kvs) => some kvs
    | some (.lck kvs) => some kvs
    | _ => none
  | _ => none
/-- the rows of a dict that may not change now -/
def lckOf (h : Hh) : D → Option Kvs
  | .r i => match h[i]? with
    | some (.lck kvs) => some kvs
    | _ => none
  | _ => none
/-- the rows of a dict that may change, its number -/
def dmOf (h : Hh) : D → Option (Nat × Kvs)
  | .r i => match h[i]? with
    | some (.dct kvs) => some (i, kvs)
    | _ => none
  | _ => none
def setOf (h : Hh) : D → Option (List P)
  | .r i => match h[i]? with
    | some (.set xs) => some xs
    | _ => none
  | _ => none
def lenOf (h : Hh) : D → Option Nat
  | .p (.str s) => if s.length ≤ sizeLine then some s.length else none
  | .p (.tup xs) => some xs.length
  | .t xs => some xs.length
  | .r i => match h[i]? with
    | some (.lst xs) => some xs.length
    | some (.ro xs) => some xs.length
    | some (.dct kvs) => some kvs.length
    | some (.lck kvs) => some kvs.length
    | some (.set xs) => some xs.length
    | _ => none
  | _ => none
def truth (h : Hh) : D → Option Bool
  | .p .non => some false
  | .p (.bl b) => some b
  | .p (.int i) => some (i != 0)
  | .p (.str s) => if s.length ≤ sizeLine then some (s.length != 0) else none
  | .p (.tup xs) => some !xs.isEmpty
  | .t xs => some !xs.isEmpty
  | .r i => match h[i]? with
    | some (.lst xs) => some !xs.isEmpty
    | some (.ro xs) => some !xs.isEmpty
    | some (.dct kvs) => if lfs kvs = true then some !kvs.isEmpty else none
    | some (.lck kvs) => if lfs kvs = true then some !kvs.isEmpty else none
    | _ => none
def R.of {α : Type} (o : Option α) (h : Hh) : R α := match o with
  | some a => .ok a h
  | none => .stuck
@[simp] theorem R.of_some {α : Type} (a : α) (h : Hh) : R.of (some a) h = .ok a h := rfl
@[simp] theorem R.of_none {α : Type} (h : Hh) : R.of (none : Option α) h = .stuck := rfl
/-- a new object -/
def mk (o : O) (h : Hh) : R D := .ok (.r h.length) (h ++ [o])

/-! ### operators -/
inductive Bin where | add | sub | mul | fdiv | mod | pow
  deriving DecidableEq
inductive Cmp where | eq | ne | lt | le | gt | ge | is | isnot | isin | notin
  deriving DecidableEq

def addS (a b : D) (h : Hh) : R D := match a with
  | .p (.int i) => match b with
    | .p (.int j) => .ok (.p (.int (i + j))) h
    | _ => .stuck
  | .p (.str x) => match b with
    | .p (.str y) => if x.length + y.length ≤ sizeLine then .ok (.p (.str (x ++ y))) h else .stuck
    | _ => .stuck
  | .p (.tup xs) => match b with
    | .p (.tup ys) => if xs.length + ys.length ≤ sizeLine then .ok (.p (.tup (xs ++ ys))) h else .stuck
    | .t ys => if xs.length + ys.length ≤ sizeLine then .ok (.t (xs.map .p ++ ys)) h else .stuck
    | _ => .stuck
  | .t xs => match b with
    | .p (.tup ys) => if xs.length + ys.length ≤ sizeLine then .ok (.t (xs ++ ys.map .p)) h else .stuck
    | .t ys => if xs.length + ys.length ≤ sizeLine then .ok (.t (xs ++ ys)) h else .stuck
    | _ => .stuck
  | .r _ => match mutOf h a, mutOf h b with
    | some xs, some ys => if xs.length + ys.length ≤ sizeLine then mk (.lst (xs ++ ys)) h else .stuck
    | _, _ => .stuck
  | _ => .stuck
def mulOk (i j : Int) : Bool := decide ((-(2 ^ 64) < i ∧ i < 2 ^ 64) ∨ (-(2 ^ 64) < j ∧ j < 2 ^ 64))
def mulS (a b : D) (h : Hh) : R D := match b with
  | .p (.int j) => match a with
    | .p (.int i) => if mulOk i j = true then .ok (.p (.int (i * j))) h else .stuck
    | .p (.tup xs) => if -(2 ^ 63) ≤ j ∧ j < 2 ^ 63 ∧ xs.length * j.toNat ≤ sizeLine then .ok (.p (.tup (List.replicate j.toNat xs).flatten)) h else .stuck
    | .r i => match mutOf h (.r i) with
      | some xs => if -(2 ^ 63) ≤ j ∧ j < 2 ^ 63 ∧ xs.length * j.toNat ≤ sizeLine then mk (.lst (List.replicate j.toNat xs).flatten) h else .stuck
      | none => .stuck
    | _ => .stuck
  | _ => .stuck
def binS : Bin → D → D → Hh → R D
  | .add, a, b, h => addS a b h
  | .sub, a, b, h => match a, b with
    | .p (.int i), .p (.int j) => .ok (.p (.int (i - j))) h
    | _, _ => .stuck
  | .mul, a, b, h => mulS a b h
  | .fdiv, a, b, h => match a, b with
    | .p (.int i), .p (.int j) => if j ≠ 0 ∧ j.natAbs < 1329227995784915872903807060280344576 then .ok (.p (.int (i.fdiv j))) h else .stuck
    | _, _ => .stuck
  | .mod, a, b, h => match a, b with
    | .p (.int i), .p (.int j) => if j ≠ 0 then .ok (.p (.int (i.fmod j))) h else .stuck
    | _, _ => .stuck
  | .pow, a, b, h => match a, b with
    | .p (.int i), .p (.int j) => if 0 ≤ j ∧ j ≤ 1000000 ∧ i.natAbs < 2 ^ 64 then .ok (.p (.int (i ^ j.toNat))) h else .stuck
    | _, _ => .stuck

/-- a op= b -/
def augS : Bin → D → D → Hh → R D
  | .add, .p (.int i), .p (.int j), h => .ok (.p (.int (i + j))) h
  | .add, .p (.str x), .p (.str y), h => if x.length + y.length ≤ sizeLine then .ok (.p (.str (x ++ y))) h else .stuck
  | .sub, .p (.int i), .p (.int j), h => .ok (.p (.int (i - j))) h
  | .mul, .p (.int i), .p (.int j), h => if mulOk i j = true then .ok (.p (.int (i * j))) h else .stuck
  | .fdiv, .p (.int i), .p (.int j), h => if 0 < j ∧ j < 1073741824 then .ok (.p (.int (i / j))) h else .stuck
  | .mod, .p (.int i), .p (.int j), h => if 0 < j then .ok (.p (.int (i % j))) h else .stuck
  | _, _, _, _ => .stuck
def eqO (h : Hh) (a b : D) : Option Bool := match a, b with
  | .p (.str x), .p (.str y) => some (decide (x = y))
  | .p x, .p y => if x.depth ≤ 64 ∧ y.depth ≤ 64 ∧ x.fit = true ∧ y.fit = true then some (x.eqv y) else none
  | a, b => match see 64 h a, see 64 h b with
    | some d, some e => if SeqAt.shaped d = true ∧ SeqAt.shaped e = true then some (PyData.eqv d e) else none
    | _, _ => none
def isNone : D → Bool
  | .p .non => true
  | _ => false
def P.isKs : P → Bool
  | .int _ | .str _ => true
  | .non | .bl _ | .tup _ => false
def P.flat : P → Bool
  | .tup _ => false
  | .non | .bl _ | .int _ | .str _ => true
/-- a in b -/
def inO (h : Hh) (a b : D) : Option Bool := match b with
  | .r i => match dctOf h (.r i) with
    | some kvs => match a with
      | .p k => if kFit kvs k = true then some (dGet kvs k).isSome else none
      | _ => none
    | none => match setOf h (.r i) with
      | some xs => match a with
        | .p k => if k.leaf = true then some (xs.contains k) else none
        | _ => none
      | none => match see 64 h a, see 64 h (.r i) with
        | some d, some (.list ds) => if SeqAt.shaped d = true ∧ SeqAt.shaped (.list ds) = true then some (ds.any fun z => PyData.eqv z d) else none
        | _, _ => none
  | .p (.tup ys) => match a with
    | .p x => if x.flat = true ∧ (ys.all P.flat) = true then some (ys.any fun y => y.eqv x) else none
    | _ => none
  | .p (.str z) => match a with
    | .p (.str c) => some (!(Builtin.Str.occurrences z c 0 z.length 1).isEmpty)
    | _ => none
  | _ => none
def ordS (f : Int → Int → Bool) (a b : D) (h : Hh) : R Bool := match a, b with
  | .p (.int i), .p (.int j) => .ok (f i j) h
  | _, _ => .stuck
def cmpS : Cmp → D → D → Hh → R Bool
  | .eq, a, b, h => R.of (eqO h a b) h
  | .ne, a, b, h => R.of ((eqO h a b).map (!·)) h
  | .lt, a, b, h => ordS (fun i j => decide (i < j)) a b h
  | .le, a, b, h => ordS (fun i j => decide (i ≤ j)) a b h
  | .gt, a, b, h => ordS (fun i j => decide (j < i)) a b h
  | .ge, a, b, h => ordS (fun i j => decide (j ≤ i)) a b h
  | .is, a, b, h => match b with
    | .p .non => .ok (isNone a) h
    | _ => .stuck
  | .isnot, a, b, h => match b with
    | .p .non => .ok (!isNone a) h
    | _ => .stuck
  | .isin, a, b, h => R.of (inO h a b) h
  | .notin, a, b, h => R.of ((inO h a b).map (!·)) h

/-! ### subscripts -/
def subS (o i : D) (h : Hh) : R D := match dctOf h o with
  | some kvs => match i with
    | .p k => if kFit kvs k = true then R.of (dGet kvs k) h else .stuck
    | _ => .stuck
  | none => match i with
    | .p (.int k) => match o with
      | .p (.tup xs) => R.of ((atI xs k).map .p) h
      | .t xs => R.of (atI xs k) h
      | .r j => match lstOf h (.r j) with
        | some xs => R.of (atI xs k) h
        | none => .stuck
      | .p (.str z) => if z.length ≤ sizeLine then R.of ((atI z.cps.toList k).map fun c => .p (.str ⟨#[c]⟩)) h else .stuck
      | _ => .stuck
    | _ => .stuck
def putS (o i d : D) (h : Hh) : R Unit := match o with
  | .r j => match h[j]? with
    | some (.lst xs) => match i with
      | .p (.int k) => match ixN xs.length k with
        | some m => .ok () (h.set j (.lst (xs.set m d)))
        | none => .stuck
      | _ => .stuck
    | some (.dct kvs) => match i with
      | .p k => if kFit kvs k = true ∧ kvs.length < sizeLine then .ok () (h.set j (.dct (dPut kvs k d))) else .stuck
      | _ => .stuck
    | _ => .stuck
  | _ => .stuck
/-- xs[lo:hi] -/
def cutX {α : Type} (xs : List α) (lo hi : Option Int) : List α := (xs.drop (HT.sIx xs.length 0 lo)).take (HT.sIx xs.length xs.length hi - HT.sIx xs.length 0 lo)
def slcS (o : D) (lo hi : Option Int) (h : Hh) : R D := match o with
  | .p (.tup xs) => .ok (.p (.tup (cutX xs lo hi))) h
  | .t xs => .ok (.t (cutX xs lo hi)) h
  | .r i => match lstOf h (.r i) with
    | some xs => mk (.lst (cutX xs lo hi)) h
    | none => .stuck
  | _ => .stuck

/-! ### attributes -/
def getF (f : Nat) : List (Nat × D) → Option D
  | [] => none
  | (g, x) :: r => if g = f then some x else getF f r
def putFd (f : Nat) (v : D) : List (Nat × D) → List (Nat × D)
  | [] => [(f, v)]
  | (g, x) :: r => if g = f then (g, v) :: r else (g, x) :: putFd f v r
def attrS (o : D) (f : Nat) (h : Hh) : R D := match o with
  | .r i => match h[i]? with
    | some (.ins _ fs) => R.of (getF f fs) h
    | _ => .stuck
  | _ => .stuck
def putAttrS (fok : Nat → Nat → Bool) (o : D) (f : Nat) (d : D) (h : Hh) : R Unit := match o with
  | .r i => match h[i]? with
    | some (.ins c fs) => if fs.length < 1000 ∧ fok c f = true then .ok () (h.set i (.ins c (putFd f d fs))) else .stuck
    | _ => .stuck
  | _ => .stuck

/-- an object's class -/
def clsOf (h : Hh) : D → Option Nat
  | .r i => match h[i]? with
    | some (.ins c _) => some c
    | _ => none
  | _ => none
/-- its class and an attribute -/
def fldS (f : Nat) (h : Hh) : D → Option (Nat × D)
  | .r i => match h[i]? with
    | some (.ins c fs) => (getF f fs).map (c, ·)
    | _ => none
  | _ => none
/-- a list's item, a dict's value -/
def itmS (o i : D) (h : Hh) : Option D := match dctOf h o, i with
  | some kvs, .p k => if kFit kvs k = true then dGet kvs k else none
  | some _, _ => none
  | none, .p (.int k) => match lstOf h o with
    | some xs => atI xs k
    | none => none
  | none, _ => none

/-! ### built-ins -/
inductive Blt where | len | abs | int | max | min | tuple | list | sum | all | any | sorted | set | dict | repr | str
  deriving DecidableEq
inductive BM where | none | append | extend | insert | pop | get | setdefault | index
  deriving DecidableEq
/-- methods of built-in types -/
inductive BK where | lAppend | lExtend | lInsert | lPop | lIndex | dGet | dSetd | dPop
  deriving DecidableEq
def bkOf : O → BM → Option BK
  | .lst _, .append => some .lAppend
  | .lst _, .extend => some .lExtend
  | .lst _, .insert => some .lInsert
  | .lst _, .pop => some .lPop
  | .lst _, .index => some .lIndex
  | .ro _, .index => some .lIndex
  | .dct _, .get => some .dGet
  | .lck _, .get => some .dGet
  | .dct _, .setdefault => some .dSetd
  | .dct _, .pop => some .dPop
  | _, _ => none
/-- an upper bound of how many signs are shown -/
def PyData.wide (d : PyData) : Bool := d.showable && decide (d.shown.length ≤ sizeLine) && decide (d.depth ≤ 64)
/-- rows of pairs -/
def pairsOf : List D → Option Kvs
  | [] => some []
  | x :: r => match x.items with
    | some [.p k, v] => (pairsOf r).map ((k, v) :: ·)
    | _ => none
/-- what dict() may take: a list, a plain tuple -/
def srcOf (h : Hh) : D → Option (List D)
  | .p (.tup xs) => some (xs.map .p)
  | .r i => lstOf h (.r i)
  | _ => none
def mergeD (kvs more : Kvs) : Kvs := more.foldl (fun acc kv => dPut acc kv.1 kv.2) kvs
def asInts : List D → Option (List Int)
  | [] => some []
  | .p (.int i) :: r => (asInts r).map (i :: ·)
  | _ => none
def asBls : List D → Option (List Bool)
  | [] => some []
  | .p (.bl b) :: r => (asBls r).map (b :: ·)
  | _ => none
def maxI : Int → List Int → Int
  | m, [] => m
  | m, x :: r => maxI (if x > m then x else m) r
def minI : Int → List Int → Int
  | m, [] => m
  | m, x :: r => minI (if x < m then x else m) r
/-- the members, each once -/
def dedup : List P → List P → List P
  | acc, [] => acc
  | acc, x :: r => dedup (if acc.contains x then acc else acc ++ [x]) r
def bltS : Blt → List D → Hh → R D
  | .len, [x], h => R.of ((lenOf h x).map fun n => .p (.int n)) h
  | .abs, [.p (.int i)], h => .ok (.p (.int (if i < 0 then -i else i))) h
  | .int, [.p (.int i)], h => .ok (.p (.int i)) h
  | .int, [.p (.bl b)], h => .ok (.p (.int (if b then 1 else 0))) h
  | .max, [.p (.int i), .p (.int j)], h => .ok (.p (.int (if j > i then j else i))) h
  | .min, [.p (.int i), .p (.int j)], h => .ok (.p (.int (if j < i then j else i))) h
  | .tuple, [x], h => match x with
    | .p (.tup xs) => .ok (.p (.tup xs)) h
    | .t xs => .ok (.t xs) h
    | .r i => match lstOf h (.r i) with
      | some xs => .ok (mkT xs) h
      | none => .stuck
    | _ => .stuck
  | .list, [x], h => match seqOf h x with
    | some xs => mk (.lst xs) h
    | none => .stuck
  | .sorted, [x], h => match lstOf h x with
    | some xs => match pures xs with
      | some ps => if sortable ps = true then mk (.lst ((ps.mergeSort P.le).map .p)) h else .stuck
      | none => .stuck
    | none => match setOf h x with
      | some ps => if sortable ps = true ∧ (ps.all P.isKs) = true then mk (.lst ((ps.mergeSort P.le).map .p)) h else .stuck
      | none => .stuck
  | .set, [x], h => match seqOf h x with
    | some xs => match pures xs with
      | some ps => if (ps.all P.leaf) = true ∧ ps.length < 4000 then mk (.set (dedup [] ps)) h else .stuck
      | none => .stuck
    | none => .stuck
  | .sum, [x], h => match lstOf h x with
    | some xs => match asInts xs with
      | some ns => .ok (.p (.int ns.sum)) h
      | none => .stuck
    | none => .stuck
  | .all, [x], h => match lstOf h x with
    | some xs => match asBls xs with
      | some ns => .ok (.p (.bl (ns.all id))) h
      | none => .stuck
    | none => .stuck
  | .any, [x], h => match lstOf h x with
    | some xs => match asBls xs with
      | some ns => .ok (.p (.bl (ns.any id))) h
      | none => .stuck
    | none => .stuck
  | .max, [x], h => match lstOf h x with
    | some xs => match asInts xs with
      | some (n :: ns) => .ok (.p (.int (maxI n ns))) h
      | _ => .stuck
    | none => .stuck
  | .min, [x], h => match lstOf h x with
    | some xs => match asInts xs with
      | some (n :: ns) => .ok (.p (.int (minI n ns))) h
      | _ => .stuck
    | none => .stuck
  | .dict, [x], h => match srcOf h x with
    | some xs => match pairsOf xs with
      | some kvs => if lfs kvs = true ∨ tks kvs = true then mk (.dct (mergeD [] kvs)) h else .stuck
      | none => .stuck
    | none => match dctOf h x with
      | some kvs => if lfs kvs = true then mk (.dct kvs) h else .stuck
      | none => .stuck
  | .str, [x], h => match x with
    | .p (.int i) => if i.natAbs.log2 < 1920 then .ok (.p (.str (toString i))) h else .stuck
    | .p (.str z) => .ok (.p (.str z)) h
    | _ => .stuck
  | .repr, [x], h => match see 64 h x with
    | some d => if PyData.wide d = true then .ok (.p (.str d.shown)) h else .stuck
    | none => .stuck
  | _, _, _ => .stuck
/-- the first place of an equal one -/
def placeOf (d : PyData) : List PyData → Nat → Option Nat
  | [], _ => none
  | z :: r, n => if PyData.eqv z d = true then some n else placeOf d r (n + 1)
def bmS : BK → D → List D → Hh → R D
  | .lAppend, .r i, [x], h => match h[i]? with
    | some (.lst xs) => if xs.length < sizeLine then .ok (.p .non) (h.set i (.lst (xs ++ [x]))) else .stuck
    | _ => .stuck
  | .lExtend, .r i, [x], h => match h[i]? with
    | some (.lst xs) => match mutOf h x with
      | some ys => if xs.length + ys.length ≤ sizeLine then .ok (.p .non) (h.set i (.lst (xs ++ ys))) else .stuck
      | none => .stuck
    | _ => .stuck
  | .lInsert, .r i, [.p (.int k), x], h => match h[i]? with
    | some (.lst xs) => if xs.length < sizeLine ∧ 0 ≤ k ∧ k < 2 ^ 63 then .ok (.p .non) (h.set i (.lst (xs.take k.toNat ++ [x] ++ xs.drop k.toNat))) else .stuck
    | _ => .stuck
  | .lPop, .r i, ds, h => match h[i]? with
    | some (.lst xs) => match ds with
      | [] => match xs[xs.length - 1]? with
        | some y => .ok y (h.set i (.lst xs.dropLast))
        | none => .stuck
      | [.p (.int k)] => match ixN xs.length k with
        | some m => match xs[m]? with
          | some y => if -(2 ^ 63) ≤ k ∧ k < 2 ^ 63 then .ok y (h.set i (.lst (xs.eraseIdx m))) else .stuck
          | none => .stuck
        | none => .stuck
      | _ => .stuck
    | _ => .stuck
  | .dPop, .r i, ds, h => match h[i]? with
    | some (.dct kvs) => match ds with
      | [.p k] => if k.isKs = true ∧ lfs kvs = true then match dGet kvs k with
        | some v => .ok v (h.set i (.dct (dDrop kvs k)))
        | none => .stuck
        else .stuck
      | [.p k, z] => if k.isKs = true ∧ lfs kvs = true then match dGet kvs k with
        | some v => .ok v (h.set i (.dct (dDrop kvs k)))
        | none => .ok z h
        else .stuck
      | _ => .stuck
    | _ => .stuck
  | .dGet, o, ds, h => match dctOf h o with
    | some kvs => match ds with
      | [.p k] => if kFit kvs k = true then .ok ((dGet kvs k).getD (.p .non)) h else .stuck
      | [.p k, z] => if kFit kvs k = true then .ok ((dGet kvs k).getD z) h else .stuck
      | _ => .stuck
    | none => .stuck
  | .dSetd, .r i, [.p k, z], h => match h[i]? with
    | some (.dct kvs) => if kFit kvs k = true ∧ kvs.length < sizeLine then match dGet kvs k with
      | some v => .ok v h
      | none => .ok z (h.set i (.dct (dPut kvs k z)))
      else .stuck
    | _ => .stuck
  | .lIndex, .r i, [x], h => match see 64 h x, see 64 h (.r i) with
    | some d, some (.list ds) => if SeqAt.shaped d = true ∧ SeqAt.shaped (.list ds) = true then match placeOf d ds 0 with
      | some j => .ok (.p (.int j)) h
      | none => .stuck
      else .stuck
    | _, _ => .stuck
  | _, _, _, _ => .stuck
/-- the built-in types that are asked of -/
inductive Ty where | int | bool | str | tuple | list | dict
  deriving DecidableEq
/-- a value's own type -/
inductive TyD where | non | bool | int | str | tuple | list | dict
  deriving DecidableEq
def tyOf (h : Hh) : D → Option TyD
  | .p .non => some .non
  | .p (.bl _) => some .bool
  | .p (.int _) => some .int
  | .p (.str _) => some .str
  | .p (.tup _) => some .tuple
  | .t _ => some .tuple
  | .r i => match h[i]? with
    | some (.lst _) => some .list
    | some (.ro _) => some .list
    | some (.dct _) => some .dict
    | some (.lck _) => some .dict
    | _ => none
def tyIs : Ty → TyD → Bool
  | .int, .int | .int, .bool | .bool, .bool | .str, .str | .tuple, .tuple | .list, .list | .dict, .dict => true
  | _, _ => false

/-! ### the text -/
mutual
inductive IE where
  | c (x : P) | v (i : Nat)
  | tup (es : IEs) | lst (es : IEs)
  | bin (op : Bin) (a b : IE) | neg (a : IE) | not (a : IE)
  | cmp (op : Cmp) (a b : IE) | cmp2 (op op' : Cmp) (a b c : IE)
  | and (a b : IE) | or (a b : IE) | ite (t a b : IE)
  | call (f : Nat) (es : IEs) | make (c : Nat) (es : IEs) | meth (o : IE) (m : Nat) (b : BM) (es : IEs) | blt (b : Blt) (es : IEs)
  | attr (o : IE) (f : Nat) | sub (o i : IE) | slc (o : IE) (lo hi : IEo)
  | comp (own : List Nat) (elt : IE) (t : ITg) (it : IIt) (ifs : IEs)
  | trim (e : IE)
  | dct (es : IEs) | isi (e : IE) (t : Ty) | rev (e : IE) | lrng1 (a : IE) | lrng2 (a b : IE)
  /-- a dict stands still meanwhile -/
  | lck (e : IE) (b : IE)
inductive IEs where
  | nil | cons (e : IE) (es : IEs) | star (e : IE) (es : IEs)
inductive IEo where
  | none | some (e : IE)
inductive ITg where
  | v (i : Nat) | tup (n : Nat) (ts : ITgs) | attr (o : IE) (f : Nat) | sub (o i : IE)
inductive ITgs where
  | nil | cons (t : ITg) (ts : ITgs)
inductive IIt where
  | of (e : IE) | rng1 (a : IE) | rng2 (a b : IE) | enum (e : IE) | zip (a b : IE) | items (e : IE) | vals (e : IE)
end
mutual
inductive IS where
  | expr (e : IE) | asg (t : ITg) (e : IE) | par (ts : ITgs) (es : IEs) | aug (i : Nat) (op : Bin) (e : IE) | augAttr (o : IE) (f : Nat) (op : Bin) (e : IE) | augSub (o i : IE) (op : Bin) (e : IE)
  | ite (t : IE) (a b : ISs) | wh (t : IE) (b : ISs) | for (t : ITg) (it : IIt) (b : ISs)
  | ret (e : IE) | retN | brk | cont | pass
  | lck (e : IE) (s : IS)
  | never
inductive ISs where
  | nil | cons (s : IS) (ss : ISs)
end

/-- keys and values in turn -/
def pairUp : List D → Option Kvs
  | [] => some []
  | .p k :: v :: r => (pairUp r).map ((k, v) :: ·)
  | _ => none
/-! ### loops -/
abbrev Gd := List (Nat × O)
def Gd.ok (g : Gd) (h : Hh) : Bool := g.all fun p => decide (h[p.1]? = some p.2)
@[simp] theorem Gd.ok_nil (h : Hh) : Gd.ok [] h = true := rfl
@[simp] theorem Gd.ok_cons (i : Nat) (o : O) (g : Gd) (h : Hh) : Gd.ok ((i, o) :: g) h = (decide (h[i]? = some o) && Gd.ok g h) := rfl
def under (n : Nat) (s : Sg) : Bool := s.all fun x => match x with
  | some d => d.under n
  | none => true
/-- behind a turn: what is new and not held goes -/
def trimS (h : Hh) (s : Sg) (h' : Hh) : Hh := if agree h h' h.length && under h.length s then h'.take h.length else h'
def loopS (g : Gd) (body : D → Sg → Hh → RS) : List D → Sg → Hh → RS
  | [], s, h => if g.ok h then .next s h else .stuck
  | d :: ds, s, h => if g.ok h then match body d s h with
      | .next s1 h1 => loopS g body ds s1 (trimS h s1 h1)
      | .cont s1 h1 => loopS g body ds s1 (trimS h s1 h1)
      | .brk s1 h1 => .next s1 h1
      | o => o
    else .stuck
def loopC (g : Gd) (n : Nat) (body : D → Hh → R (Option D)) : List D → List D → Hh → R Unit
  | [], acc, h => if g.ok h && decide (h[n]? = some (.lst acc)) then .ok () h else .stuck
  | d :: ds, acc, h => if g.ok h then match body d h with
      | .ok o h1 => if h1[n]? = some (.lst acc) ∧ acc.length < sizeLine then match o with
        | none => loopC g n body ds acc h1
        | some x => loopC g n body ds (acc ++ [x]) (h1.set n (.lst (acc ++ [x])))
        else .stuck
      | _ => .stuck
    else .stuck
def loopW (test : Sg → Hh → R Bool) (body : Sg → Hh → RS) : Nat → Sg → Hh → RS
  | 0, _, _ => .stuck
  | F + 1, s, h => (test s h).then s fun b h0 => if b then match body s h0 with
      | .next s1 h1 => loopW test body F s1 (trimS h s1 h1)
      | .cont s1 h1 => loopW test body F s1 (trimS h s1 h1)
      | .brk s1 h1 => .next s1 h1
      | o => o
    else .next s h0

/-- what is called: defs at this level, __init__ one below; the classes: their __init__ and methods; a while's turns -/
structure G where
  call : Nat → List D → Hh → R D
  init : Nat → List D → Hh → R D
  cinit : Nat → Option Nat
  meth : Nat → Nat → Option Nat
  fok : Nat → Nat → Bool
  F : Nat
def slot (i : Nat) (s : Sg) : Option D := match s[i]? with
  | some (some d) => some d
  | _ => none
def wipeD (s : Sg) : List Nat → Sg
  | [] => s
  | v :: vs => (wipeD s vs).set v none
def mkIns (g : G) (c : Nat) (ds : List D) (h : Hh) : R D := match g.cinit c with
  | some f => match g.init f (.r h.length :: ds) (h ++ [.ins c []]) with
    | .ok (.p .non) h1 => .ok (.r h.length) h1
    | .exc x h1 => .exc x h1
    | _ => .stuck
  | none => .stuck
/-- what a method is: a def of the class, or a built-in one of a list -/
inductive MK where | fn (f : Nat) | bm (k : BK) | no
def methK (g : G) (m : Nat) (b : BM) (o : D) (h : Hh) : MK := match o with
  | .r i => match h[i]? with
    | some (.ins c _) => match g.meth c m with
      | some f => .fn f
      | none => .no
    | some o => match bkOf o b with
      | some k => .bm k
      | none => .no
    | none => .no
  | _ => .no
def zips : List D → List D → List D
  | a :: as, b :: bs => .t [a, b] :: zips as bs
  | _, _ => []
def nums (a : Int) : Nat → List D
  | 0 => []
  | n + 1 => .p (.int a) :: nums (a + 1) n
/-- what stands still while it is walked -/
def gdOf (h : Hh) : D → Gd
  | .r i => match h[i]? with
    | some o => [(i, o)]
    | none => []
  | _ => []

/-- a name, or attributes of one: what it is, nothing done -/
def peek : IE → Sg → Hh → Option D
  | .v i, s, _ => slot i s
  | .attr o f, s, h => match peek o s h with
    | some (.r i) => match h[i]? with
      | some (.ins _ fs) => getF f fs
      | _ => none
    | _ => none
  | _, _, _ => none
def lckAt (o : Option D) (h : Hh) : Option (Nat × Kvs) := o.bind (dmOf h)
def unlckH (i : Nat) (kvs : Kvs) (h : Hh) : Option Hh := if h[i]? = some (.lck kvs) then some (h.set i (.dct kvs)) else none
def unlck {α : Type} (i : Nat) (kvs : Kvs) : R α → R α
  | .ok a h => match unlckH i kvs h with
    | some h' => .ok a h'
    | none => .stuck
  | o => o
def unlckS (i : Nat) (kvs : Kvs) : RS → RS
  | .next s h => match unlckH i kvs h with
    | some h' => .next s h'
    | none => .stuck
  | .ret d h => match unlckH i kvs h with
    | some h' => .ret d h'
    | none => .stuck
  | .brk s h => match unlckH i kvs h with
    | some h' => .brk s h'
    | none => .stuck
  | .cont s h => match unlckH i kvs h with
    | some h' => .cont s h'
    | none => .stuck
  | o => o
/-- a value as a test -/
def tr (m : R D) : R Bool := m.bind fun x h1 => R.of (truth h1 x) h1
@[simp] theorem tr_stuck : tr .stuck = .stuck := rfl
@[simp] theorem tr_exc (x : Ex) (h : Hh) : tr (.exc x h) = .exc x h := rfl
@[simp] theorem tr_bl (b : Bool) (h : Hh) : tr (.ok (.p (.bl b)) h) = .ok b h := rfl
theorem tr_ok (x : D) (h : Hh) : tr (.ok x h) = R.of (truth h x) h := rfl
mutual
def evE (g : G) : IE → Sg → Hh → R D
  | .c x, _, h => .ok (.p x) h
  | .v i, s, h => R.of (slot i s) h
  | .tup es, s, h => (evEs g es s h).bind fun ds h1 => if ds.length ≤ sizeLine then .ok (mkT ds) h1 else .stuck
  | .lst es, s, h => (evEs g es s h).bind fun ds h1 => if ds.length ≤ sizeLine then mk (.lst ds) h1 else .stuck
  | .bin op a b, s, h => (evE g a s h).bind fun x h1 => (evE g b s h1).bind fun y h2 => binS op x y h2
  | .neg a, s, h => (evE g a s h).bind fun x h1 => match x with
    | .p (.int i) => .ok (.p (.int (-i))) h1
    | _ => .stuck
  | .not a, s, h => (tr (evE g a s h)).bind fun b h1 => .ok (.p (.bl (!b))) h1
  | .cmp op a b, s, h => (evE g a s h).bind fun x h1 => (evE g b s h1).bind fun y h2 => (cmpS op x y h2).bind fun c h3 => .ok (.p (.bl c)) h3
  | .cmp2 op op' a b c, s, h => (evE g a s h).bind fun x h1 => (evE g b s h1).bind fun y h2 => (cmpS op x y h2).bind fun k h3 =>
      if k then (evE g c s h3).bind fun z h4 => (cmpS op' y z h4).bind fun k h5 => .ok (.p (.bl k)) h5 else .ok (.p (.bl false)) h3
  | .and a b, s, h => (evE g a s h).bind fun x h1 => (R.of (truth h1 x) h1).bind fun k h2 => if k then evE g b s h2 else .ok x h2
  | .or a b, s, h => (evE g a s h).bind fun x h1 => (R.of (truth h1 x) h1).bind fun k h2 => if k then .ok x h2 else evE g b s h2
  | .ite t a b, s, h => (tr (evE g t s h)).bind fun k h1 => if k then evE g a s h1 else evE g b s h1
  | .call f es, s, h => (evEs g es s h).bind fun ds h1 => g.call f ds h1
  | .make c es, s, h => (evEs g es s h).bind fun ds h1 => mkIns g c ds h1
  | .meth o m b es, s, h => (evE g o s h).bind fun x h1 => match methK g m b x h1 with
    | .fn f => (evEs g es s h1).bind fun ds h2 => g.call f (x :: ds) h2
    | .bm k => (evEs g es s h1).bind fun ds h2 => bmS k x ds h2
    | .no => .stuck
  | .blt b es, s, h => (evEs g es s h).bind fun ds h1 => bltS b ds h1
  | .attr o f, s, h => (evE g o s h).bind fun x h1 => attrS x f h1
  | .sub o i, s, h => (evE g o s h).bind fun x h1 => (evE g i s h1).bind fun y h2 => subS x y h2
  | .slc o lo hi, s, h => (evE g o s h).bind fun x h1 => (evO g lo s h1).bind fun l h2 => (evO g hi s h2).bind fun u h3 => slcS x l u h3
  | .comp own elt t it ifs, s, h => (evI g it s h).bind fun p h1 =>
      (loopC p.2 h1.length (fun d h2 => (asgT g t d (wipeD s own) h2).bind fun s1 h3 => (evTs g ifs s1 h3).bind fun k h4 =>
        if k then (evE g elt s1 h4).bind fun x h5 => .ok (some x) h5 else .ok none h4) p.1 [] (h1 ++ [.lst []])).bind fun _ h2 => .ok (.r h1.length) h2
  | .trim e, s, h => trimR h (evE g e s h)
  | .dct es, s, h => (evEs g es s (h ++ [.dct []])).bind fun ds h1 => match pairUp ds with
    | some kvs => if h1[h.length]? = some (.dct []) ∧ lfs kvs = true ∧ kvs.length ≤ 15 then .ok (.r h.length) (h1.set h.length (.dct (mergeD [] kvs))) else .stuck
    | none => .stuck
  | .isi e t, s, h => (evE g e s h).bind fun x h1 => R.of ((tyOf h1 x).map fun y => .p (.bl (tyIs t y))) h1
  | .rev e, s, h => (evE g e s h).bind fun x h1 => match lstOf h1 x with
    | some xs => mk (.lst xs.reverse) h1
    | none => .stuck
  | .lrng1 a, s, h => (evE g a s h).bind fun x h1 => match x with
    | .p (.int j) => if -(2 ^ 62) ≤ j ∧ j ≤ 16777216 then mk (.lst (nums 0 j.toNat)) h1 else .stuck
    | _ => .stuck
  | .lrng2 a b, s, h => (evE g a s h).bind fun x h1 => (evE g b s h1).bind fun y h2 => match x, y with
    | .p (.int i), .p (.int j) => if -(2 ^ 62) ≤ i ∧ i < 2 ^ 62 ∧ -(2 ^ 62) ≤ j ∧ j < 2 ^ 62 ∧ j - i ≤ 16777216 then mk (.lst (nums i (j - i).toNat)) h2 else .stuck
    | _, _ => .stuck
  | .lck e b, s, h => match lckAt (peek e s h) h with
    | some p => unlck p.1 p.2 (evE g b s (h.set p.1 (.lck p.2)))
    | none => evE g b s h
def evEs (g : G) : IEs → Sg → Hh → R (List D)
  | .nil, _, h => .ok [] h
  | .cons e es, s, h => (evE g e s h).bind fun x h1 => (evEs g es s h1).bind fun xs h2 => .ok (x :: xs) h2
  | .star e es, s, h => (evE g e s h).bind fun x h1 => match seqOf h1 x with
    | some ys => (evEs g es s h1).bind fun xs h2 => .ok (ys ++ xs) h2
    | none => .stuck
/-- tests, one after another -/
def evTs (g : G) : IEs → Sg → Hh → R Bool
  | .nil, _, h => .ok true h
  | .cons e es, s, h => (tr (evE g e s h)).bind fun k h1 => if k then evTs g es s h1 else .ok false h1
  | .star _ _, _, _ => .stuck
def evO (g : G) : IEo → Sg → Hh → R (Option Int)
  | .none, _, h => .ok none h
  | .some e, s, h => (evE g e s h).bind fun x h1 => match x with
    | .p (.int i) => .ok (some i) h1
    | _ => .stuck
/-- what is walked: the items, and what must stand still -/
def evI (g : G) : IIt → Sg → Hh → R (List D × Gd)
  | .of e, s, h => (evE g e s h).bind fun x h1 => match seqOf h1 x with
    | some ds => .ok (ds, gdOf h1 x) h1
    | none => match lckOf h1 x with
      | some kvs => .ok (kvs.map fun kv => .p kv.1, gdOf h1 x) h1
      | none => .stuck
  | .items e, s, h => (evE g e s h).bind fun x h1 => match lckOf h1 x with
    | some kvs => .ok (kvs.map fun kv => .t [.p kv.1, kv.2], gdOf h1 x) h1
    | none => .stuck
  | .vals e, s, h => (evE g e s h).bind fun x h1 => match lckOf h1 x with
    | some kvs => .ok (kvs.map fun kv => kv.2, gdOf h1 x) h1
    | none => .stuck
  | .rng1 a, s, h => (evE g a s h).bind fun x h1 => match x with
    | .p (.int j) => if -(2 ^ 62) ≤ j ∧ j ≤ 16777216 then .ok (nums 0 j.toNat, []) h1 else .stuck
    | _ => .stuck
  | .rng2 a b, s, h => (evE g a s h).bind fun x h1 => (evE g b s h1).bind fun y h2 => match x, y with
    | .p (.int i), .p (.int j) => if -(2 ^ 62) ≤ i ∧ i < 2 ^ 62 ∧ -(2 ^ 62) ≤ j ∧ j < 2 ^ 62 ∧ j - i ≤ 16777216 then .ok (nums i (j - i).toNat, []) h2 else .stuck
    | _, _ => .stuck
  | .enum e, s, h => (evE g e s h).bind fun x h1 => match seqOf h1 x with
    | some ds => .ok (zips (nums 0 ds.length) ds, gdOf h1 x) h1
    | none => .stuck
  | .zip a b, s, h => (evE g a s h).bind fun x h1 => (evE g b s h1).bind fun y h2 => match seqOf h2 x, seqOf h2 y with
    | some ds, some es => .ok (zips ds es, gdOf h2 x ++ gdOf h2 y) h2
    | _, _ => .stuck
/-- a value is stored: the slots behind it -/
def asgT (g : G) : ITg → D → Sg → Hh → R Sg
  | .v i, d, s, h => .ok (s.set i (some d)) h
  | .tup n ts, d, s, h => match d.items with
    | some ds => if ds.length = n then asgTs g ts ds s h else .stuck
    | none => .stuck
  | .attr o f, d, s, h => (evE g o s h).bind fun x h1 => (putAttrS g.fok x f d h1).bind fun _ h2 => .ok s h2
  | .sub o i, d, s, h => (evE g o s h).bind fun x h1 => (evE g i s h1).bind fun y h2 => (putS x y d h2).bind fun _ h3 => .ok s h3
def asgTs (g : G) : ITgs → List D → Sg → Hh → R Sg
  | .nil, ds, s, h => match ds with
    | [] => .ok s h
    | _ => .stuck
  | .cons t ts, ds, s, h => match ds with
    | [] => .stuck
    | d :: ds => match asgT g t d s h with
      | .ok s1 h1 => asgTs g ts ds s1 h1
      | _ => .stuck
end
mutual
def evS (g : G) : IS → Sg → Hh → RS
  | .expr e, s, h => (evE g e s h).then s fun _ h1 => .next s h1
  | .asg t e, s, h => (evE g e s h).then s fun d h1 => (asgT g t d s h1).then s fun s1 h2 => .next s1 h2
  | .par ts es, s, h => (evEs g es s h).then s fun ds h1 => (asgTs g ts ds s h1).then s fun s1 h2 => .next s1 h2
  | .aug i op e, s, h => (R.of (slot i s) h).then s fun x h0 => (evE g e s h0).then s fun y h1 => (augS op x y h1).then s fun z h2 => .next (s.set i (some z)) h2
  | .augAttr o f op e, s, h => (evE g o s h).then s fun x h1 => (R.of (fldS f h1 x) h1).then s fun cy h2 => (evE g e s h2).then s fun z h3 => (augS op cy.2 z h3).then s fun w h4 => if clsOf h4 x = some cy.1 then (putAttrS g.fok x f w h4).then s fun _ h5 => .next s h5 else .stuck
  | .augSub o i op e, s, h => (evE g o s h).then s fun x h1 => (evE g i s h1).then s fun k h2 => (R.of (itmS x k h2) h2).then s fun y h3 => (evE g e s h3).then s fun z h4 => (augS op y z h4).then s fun w h5 => (putS x k w h5).then s fun _ h6 => .next s h6
  | .ite t a b, s, h => (tr (evE g t s h)).then s fun k h1 => if k then evSs g a s h1 else evSs g b s h1
  | .wh t b, s, h => loopW (fun s h => tr (evE g t s h)) (evSs g b) g.F s h
  | .for t it b, s, h => (evI g it s h).then s fun p h1 => loopS p.2 (fun d s1 h2 => (asgT g t d s1 h2).then s1 fun s2 h3 => evSs g b s2 h3) p.1 s h1
  | .ret e, s, h => (evE g e s h).then s fun d h1 => .ret d h1
  | .retN, _, h => .ret (.p .non) h
  | .brk, s, h => .brk s h
  | .cont, s, h => .cont s h
  | .pass, s, h => .next s h
  | .lck e t, s, h => match lckAt (peek e s h) h with
    | some p => unlckS p.1 p.2 (evS g t s (h.set p.1 (.lck p.2)))
    | none => evS g t s h
  | .never, _, _ => .stuck
def evSs (g : G) : ISs → Sg → Hh → RS
  | .nil, s, h => .next s h
  | .cons t ts, s, h => (evS g t s h).seq fun s1 h1 => evSs g ts s1 h1
end

/-! ### a whole text -/
/-- a def: its parameters' number, its slots, its body -/
structure FD where
  np : Nat
  ns : Nat
  body : ISs
/-- the defs, the classes: their __init__'s number, their methods' by name, their attributes -/
structure Prg where
  fns : List FD
  cls : List (Option Nat × List (Nat × Nat) × List Nat)
def startD (ns : Nat) (ds : List D) : Sg := ds.map some ++ List.replicate (ns - ds.length) none
/-- a call's end -/
def backR (h : Hh) : RS → R D
  | .ret d h1 => trimR h (.ok d h1)
  | .next _ h1 => trimR h (.ok (.p .non) h1)
  | .exc x _ h1 => .exc x h1
  | _ => .stuck
def gOf (p : Prg) (F : Nat) (call init : Nat → List D → Hh → R D) : G :=
  { call := call, init := init, cinit := fun c => (p.cls[c]?).bind (·.1), meth := fun c m => (p.cls[c]?).bind fun x => x.2.1.lookup m, fok := fun c f => match p.cls[c]? with
    | some x => x.2.2.contains f
    | none => false, F := F }
def callN (p : Prg) (F : Nat) : Nat → Nat → List D → Hh → R D
  | 0, _, _, _ => .stuck
  | 1, _, _, _ => .stuck
  | k + 2, f, ds, h => match p.fns[f]? with
    | some fd => if ds.length = fd.np then backR h (evSs (gOf p F (callN p F (k + 1)) (callN p F k)) fd.body (startD fd.ns ds) h) else .stuck
    | none => .stuck
end Pv

/-! D: from the text to the evaluator's text. -/
namespace Pv
open PySem L2

/-- the module's names: defs, classes, attributes and methods, constants; all that the module binds -/
structure Nm where
  fns : List Str
  cls : List Str
  nms : List Str
  con : List (Str × P)
  bnd : List Str
  /-- names of dicts that are walked -/
  lks : List Str

def idx (x : Str) : List Str → Option Nat
  | [] => none
  | y :: ys => if x = y then some 0 else (idx x ys).map (· + 1)
def isLoc (sc : Scope) (x : Str) : Bool := match sc.names.lookup x with
  | some .local | some .cell => true
  | _ => false
def isVis (sc : Scope) (x : Str) : Bool := match sc.names.lookup x with
  | some .local | some .cell | some .free => true
  | _ => false
def isGl (sc : Scope) (x : Str) : Bool := match sc.names.lookup x with
  | some .globalImplicit => true
  | _ => false
def okName (x : Str) : Bool := decide (x ≠ "__debug__" ∧ x ≠ "__classdict__" ∧ x ≠ "__name__")
def bltTab : List (Str × Blt) := [("len", .len), ("abs", .abs), ("int", .int), ("max", .max), ("min", .min), ("tuple", .tuple), ("list", .list), ("sorted", .sorted), ("repr", .repr), ("sum", .sum), ("all", .all), ("any", .any), ("dict", .dict), ("str", .str), ("set", .set)]
def bltOf (x : Str) : Option Blt := bltTab.lookup x
def tyName (x : Str) : Option Ty :=
  if x = "int" then some .int else if x = "bool" then some .bool else if x = "str" then some .str else if x = "tuple" then some .tuple else if x = "list" then some .list else if x = "dict" then some .dict else none
def bmOf (x : Str) : BM :=
  if x = "append" then .append else if x = "extend" then .extend else if x = "insert" then .insert else if x = "pop" then .pop else if x = "get" then .get else if x = "setdefault" then .setdefault else if x = "index" then .index else .none
def binOf : Operator → Option Bin
  | .Add => some .add | .Sub => some .sub | .Mult => some .mul | .FloorDiv => some .fdiv | .Mod => some .mod | .Pow => some .pow
  | _ => none
def cmpOf : CmpOp → Cmp
  | .Eq => .eq | .NotEq => .ne | .Lt => .lt | .LtE => .le | .Gt => .gt | .GtE => .ge | .Is => .is | .IsNot => .isnot | .In => .isin | .NotIn => .notin

/-! ### what may make an object -/
mutual
def IE.al : IE → Bool
  | .c _ | .v _ => false
  | .lst _ | .slc .. | .call .. | .make .. | .meth .. | .comp .. => true
  | .tup es => es.al
  | .bin op a b => (match op with
    | .add | .mul => true
    | _ => false) || a.al || b.al
  | .neg a | .not a => a.al
  | .cmp _ a b | .and a b | .or a b => a.al || b.al
  | .cmp2 _ _ a b d => a.al || b.al || d.al
  | .ite t a b => t.al || a.al || b.al
  | .blt b es => (match b with
    | .list | .sorted | .set | .dict => true
    | _ => false) || es.al
  | .attr o _ => o.al
  | .sub o i => o.al || i.al
  | .trim e => e.al
  | .dct _ | .rev _ | .lrng1 _ | .lrng2 _ _ => true
  | .isi e _ => e.al
  | .lck _ b => b.al
def IEs.al : IEs → Bool
  | .nil => false
  | .cons e es => e.al || es.al
  | .star e es => e.al || es.al
end
/-- a part of it may make one -/
def IE.alIn : IE → Bool
  | .c _ | .v _ | .trim _ => false
  | .lst es | .tup es | .call _ es | .make _ es | .blt _ es => es.al
  | .slc o lo hi => o.al
  | .meth o _ _ es => o.al || es.al
  | .comp _ _ _ it _ => match it with
    | .of e | .enum e => e.al
    | .zip a b => a.al || b.al
    | _ => false
  | .dct es => es.al
  | .isi e _ | .rev e | .lrng1 e => e.al
  | .lrng2 a b => a.al || b.al
  | .lck _ b => b.alIn
  | .bin _ a b | .cmp _ a b | .and a b | .or a b | .sub a b => a.al || b.al
  | .neg a | .not a | .attr a _ => a.al
  | .cmp2 _ _ a b d | .ite a b d => a.al || b.al || d.al
def IE.root (e : IE) : IE := if e.alIn then .trim e else e

/-- a plain local name on a line -/
def lnm (sc : Scope) (line : Nat) : Expr → Option Str
  | .Name id pos => if sc.names.lookup id == some .local && pos.line == line then some id else none
  | _ => none
def isStar : Expr → Bool
  | .Starred .. => true
  | _ => false
def swPick : List Expr → Expr → Option (List Expr × List Expr)
  | [.Tuple ts _ _], .Tuple vs _ _ => some (ts, vs)
  | [.List ts _], .Tuple vs _ _ => some (ts, vs)
  | _, _ => none
def swCore (sc : Scope) : Option (List Expr × List Expr) → Option (Option (List Str))
  | none => some none
  | some (ts, vs) =>
    if !(ts.length == 2 || ts.length == 3) || vs.length != ts.length || sc.kind != ScopeKind.function then some none
    else if vs.any isStar then some none
    else
      let line := (ts.head?.map fun (t : Expr) => t.pos.line).getD 0
      let names := ts.filterMap (lnm sc line)
      if names.length != ts.length || names.eraseDups.length != names.length then some none
      else if vs.all (foldedForSure 8) then some none
      else if vs.all (constantsAlone 8) then none
      else some (some names)
/-- what pairs of stores run from the right: the names, or none; none if the model does not say -/
def swOf (sc : Scope) (targets : List Expr) (value : Expr) : Option (Option (List Str)) := swCore sc (swPick targets value)

def isSuper : Expr → Bool
  | .Call (.Name x _) _ _ _ => x == "super"
  | _ => false
def plainIx : Expr → Bool
  | .Slice .. => false
  | _ => true
def noSet : Expr → Bool
  | .Set .. => false
  | _ => true
def isTup : Expr → Bool
  | .Tuple .. => true
  | _ => false
/-- what must stand still while it is walked -/
def lockOf (m : Nm) : Expr → Option Expr
  | .Name x p => if m.lks.contains x then some (.Name x p) else none
  | .Attribute o x p => if m.lks.contains x then some (.Attribute o x p) else none
  | .Call (.Attribute o x _) [] [] _ => if x = "items" ∨ x = "values" then some o else none
  | _ => none
def lockE (l : Option IE) (e : IE) : IE := match l with
  | some x => .lck x e
  | none => e
def lockS (l : Option IE) (e : IS) : IS := match l with
  | some x => .lck x e
  | none => e
def owns (N : List Str) (scope : Scope) : List (Str × Nat) := (scope.names.filter fun y => match y.2 with
    | .local | .cell => true
    | _ => false).filterMap fun y => (idx y.1 N).map fun i => (y.1, i)
def isRange : List Expr → Bool
  | [.Call (.Name x _) _ _ _] => x == "range"
  | _ => false
mutual
def cE (m : Nm) : Nat → Scope → List Str → Expr → Option IE
  | 0, _, _, _ => none
  | n + 1, sc, N, e => match e with
    | .Constant k _ _ => match k with
      | .none => some (.c .non)
      | .bool b => some (.c (.bl b))
      | .int i => some (.c (.int i))
      | .str s => some (.c (.str s))
      | _ => none
    | .Name x _ => if okName x then (if isVis sc x then (idx x N).map .v else if isGl sc x then (m.con.lookup x).map .c else none) else none
    | .Tuple es _ _ => (cEx m n sc N es).map .tup
    | .List es _ => (cEx m n sc N es).map .lst
    | .Dict ks vs _ => if ks.all (·.isSome) && decide (ks.length = vs.length) && decide (ks.length ≤ 15) then (cKV m n sc N ks vs).map .dct else none
    | .BinOp a op b _ => do
      let o ← binOf op
      let x ← cE m n sc N a
      let y ← cE m n sc N b
      some (.bin o x y)
    | .UnaryOp .USub a _ => (cE m n sc N a).map .neg
    | .UnaryOp .Not a _ => (cE m n sc N a).map .not
    | .BoolOp op vs p => cBool m n sc N op vs
    | .IfExp t a b _ => do
      let x ← cE m n sc N t
      let y ← cE m n sc N a
      let z ← cE m n sc N b
      some (.ite x y z)
    | .Compare a [op] [b] _ => if behindInMarks op b then none else do
      let x ← cE m n sc N a
      let y ← cE m n sc N b
      some (.cmp (cmpOf op) x y)
    | .Compare a [op, op'] [b, c] _ => if lastMarks [op, op'] [b, c] then none else do
      let x ← cE m n sc N a
      let y ← cE m n sc N b
      let z ← cE m n sc N c
      some (.cmp2 (cmpOf op) (cmpOf op') x y z)
    | .Call (.Name x _) es [] _ => if okName x && isGl sc x then match idx x m.fns with
      | some f => (cEs m n sc N es).map (.call f)
      | none => match idx x m.cls with
        | some c => (cEs m n sc N es).map (.make c)
        | none => if m.bnd.contains x then none
          else if x = "isinstance" then match es with
            | [a, .Name t _] => if okName t && isGl sc t && !m.bnd.contains t then match tyName t with
              | some ty => (cE m n sc N a).map fun y => .isi y ty
              | none => none
              else none
            | _ => none
          else if x = "list" && isRange es then cRange m n sc N es
          else match bltOf x with
          | some b => match es with
            | [] => none
            | _ :: _ => (cEs m n sc N es).map (.blt b)
          | none => none
      else none
    | .Call (.Attribute o x ap) es [] p => if isSuper o || !(ap.endLine == p.line) || !decide (es.length < 29) then none else do
      let y ← cE m n sc N o
      let ys ← cEs m n sc N es
      some (.meth y ((idx x m.nms).getD 1000) (bmOf x) ys)
    | .Attribute o x _ => if isSuper o then none else do
      let f ← idx x m.nms
      let y ← cE m n sc N o
      some (.attr y f)
    | .Subscript o (.Slice none none (some (.UnaryOp .USub (.Constant (.int 1) _ _) _)) _) _ => (cE m n sc N o).map .rev
    | .Subscript o (.Slice lo hi none _) _ => do
      let y ← cE m n sc N o
      let l ← cO m n sc N lo
      let u ← cO m n sc N hi
      some (.slc y l u)
    | .Subscript o i _ => if plainIx i then do
      let y ← cE m n sc N o
      let z ← cE m n sc N i
      some (.sub y z)
      else none
    | .ListComp elt [⟨t, it, ifs, 0⟩] scope _ =>
      let own := owns N scope
      if blkC N sc scope own && noSet it && decide (ifs.length ≤ 1) then do
        let i ← cI m n sc N t it
        let g ← cT m n (relS scope sc) N (own.map (·.1)) t
        let fs ← cEs m n (relS scope sc) N ifs
        let x ← cE m n (relS scope sc) N elt
        let l ← cL m n sc N it
        some (lockE l (.comp (own.map (·.2)) x.root g i fs))
      else none
    | _ => none
/-- list(range(..)) -/
def cRange (m : Nm) : Nat → Scope → List Str → List Expr → Option IE
  | 0, _, _, _ => none
  | n + 1, sc, N, es => match es with
    | [.Call (.Name x _) [a] [] _] => if x = "range" && isGl sc x && !m.bnd.contains x then (cE m n sc N a).map .lrng1 else none
    | [.Call (.Name x _) [a, b] [] _] => if x = "range" && isGl sc x && !m.bnd.contains x then do
      let y ← cE m n sc N a
      let z ← cE m n sc N b
      some (.lrng2 y z)
      else none
    | _ => none
/-- the thing that stands still -/
def cL (m : Nm) : Nat → Scope → List Str → Expr → Option (Option IE)
  | 0, _, _, _ => none
  | n + 1, sc, N, it => match lockOf m it with
    | some e => (cE m n sc N e).map some
    | none => some none
/-- the parts of a display -/
def cEx (m : Nm) : Nat → Scope → List Str → List Expr → Option IEs
  | 0, _, _, _ => none
  | n + 1, sc, N, es => match es with
    | [] => some .nil
    | .Starred e _ :: r => do
      let x ← cE m n sc N e
      let xs ← cEx m n sc N r
      some (.star x xs)
    | e :: r => do
      let x ← cE m n sc N e
      let xs ← cEx m n sc N r
      some (.cons x xs)
/-- keys and values -/
def cKV (m : Nm) : Nat → Scope → List Str → List (Option Expr) → List Expr → Option IEs
  | 0, _, _, _, _ => none
  | n + 1, sc, N, ks, vs => match ks, vs with
    | [], [] => some .nil
    | some k :: ks, v :: vs => do
      let x ← cE m n sc N k
      let y ← cE m n sc N v
      let xs ← cKV m n sc N ks vs
      some (.cons x (.cons y xs))
    | _, _ => none
def cBool (m : Nm) : Nat → Scope → List Str → BoolOp → List Expr → Option IE
  | 0, _, _, _, _ => none
  | n + 1, sc, N, op, vs => match vs with
    | [] => none
    | [a] => cE m n sc N a
    | a :: b :: r => do
      let x ← cE m n sc N a
      let y ← cBool m n sc N op (b :: r)
      some (match op with
        | .And => .and x y
        | .Or => .or x y)
def cEs (m : Nm) : Nat → Scope → List Str → List Expr → Option IEs
  | 0, _, _, _ => none
  | n + 1, sc, N, es => match es with
    | [] => some .nil
    | e :: r => do
      let x ← cE m n sc N e
      let xs ← cEs m n sc N r
      some (.cons x xs)
def cO (m : Nm) : Nat → Scope → List Str → Option Expr → Option IEo
  | 0, _, _, _ => none
  | n + 1, sc, N, e => match e with
    | none => some .none
    | some e => (cE m n sc N e).map .some
/-- a target; st: the names that may be stored -/
def cT (m : Nm) : Nat → Scope → List Str → List Str → Expr → Option ITg
  | 0, _, _, _, _ => none
  | n + 1, sc, N, st, e => match e with
    | .Name x _ => if isLoc sc x && st.contains x then (idx x N).map .v else none
    | .Tuple es _ _ => (cTs m n sc N st es).map (.tup es.length)
    | .Attribute o x _ => if isSuper o then none else do
      let f ← idx x m.nms
      let y ← cE m n sc N o
      some (.attr y f)
    | .Subscript o i _ => if plainIx i then do
      let y ← cE m n sc N o
      let z ← cE m n sc N i
      some (.sub y z)
      else none
    | _ => none
def cTs (m : Nm) : Nat → Scope → List Str → List Str → List Expr → Option ITgs
  | 0, _, _, _, _ => none
  | n + 1, sc, N, st, es => match es with
    | [] => some .nil
    | e :: r => do
      let x ← cT m n sc N st e
      let xs ← cTs m n sc N st r
      some (.cons x xs)
def cI (m : Nm) : Nat → Scope → List Str → Expr → Expr → Option IIt
  | 0, _, _, _, _ => none
  | n + 1, sc, N, t, it => match it with
    | .Call (.Name x _) es [] _ =>
      if okName x && isGl sc x && !m.bnd.contains x then
        if x = "range" then match es with
          | [a] => (cE m n sc N a).map fun y => .rng1 y.root
          | [a, b] => do
            let y ← cE m n sc N a
            let z ← cE m n sc N b
            some (.rng2 y.root z.root)
          | _ => none
        else if x = "enumerate" then match es with
          | [a] => if isTup t then (cE m n sc N a).map fun y => .enum y.root else none
          | _ => none
        else if x = "zip" then match es with
          | [a, b] => if isTup t then do
            let y ← cE m n sc N a
            let z ← cE m n sc N b
            some (.zip y.root z.root)
            else none
          | _ => none
        else (cE m n sc N it).map fun y => .of y.root
      else (cE m n sc N it).map fun y => .of y.root
    | .Call (.Attribute o x ap) [] [] p => if x = "items" then (if isTup t && !isSuper o && (ap.endLine == p.line) then (cE m n sc N o).map .items else none)
      else if x = "values" then (if !isSuper o && (ap.endLine == p.line) then (cE m n sc N o).map .vals else none)
      else (cE m n sc N it).map fun y => .of y.root
    | _ => (cE m n sc N it).map fun y => .of y.root
end

/-- every local name: a def's own -/
def locs (sc : Scope) : List Str := (sc.names.filter fun y => match y.2 with
    | .local | .cell => true
    | _ => false).map (·.1)
mutual
def cS (m : Nm) : Nat → Scope → List Str → Stmt → Option IS
  | 0, _, _, _ => none
  | n + 1, sc, N, st => match st with
    | .Expr (.Constant (.str _) _ _) _ => some .pass
    | .Expr e _ => match e with
      | .ListComp .. => none
      | _ => (cE m n sc N e).map fun x => .expr x.root
    | .Assign [t] e pos => match swOf sc [t] e with
      | none => none
      | some none => do
        let g ← cT m n sc N (locs sc) t
        let y ← cE m n sc N e
        some (.asg g y.root)
      | some (some _) => match t, e with
        | .Tuple ts _ _, .Tuple es _ _ => do
          let g ← cTs m n sc N (locs sc) ts
          let y ← cEs m n sc N es
          some (.par g y)
        | _, _ => none
    | .AugAssign (.Name x _) op e _ => if isLoc sc x then do
      let o ← binOf op
      let i ← idx x N
      let y ← cE m n sc N e
      some (.aug i o y.root)
      else none
    | .AugAssign (.Attribute o x _) op e _ => if isSuper o then none else do
      let p ← binOf op
      let f ← idx x m.nms
      let y ← cE m n sc N o
      let z ← cE m n sc N e
      some (.augAttr y f p z.root)
    | .AugAssign (.Subscript o i _) op e _ => if plainIx i then do
      let p ← binOf op
      let y ← cE m n sc N o
      let k ← cE m n sc N i
      let z ← cE m n sc N e
      some (.augSub y k p z.root)
      else none
    | .If t a b _ => do
      let x ← cE m n sc N t
      let y ← cSs m n sc N a
      let z ← cSs m n sc N b
      some (.ite x.root y z)
    | .While t a [] _ => do
      let x ← cE m n sc N t
      let y ← cSs m n sc N a
      some (.wh x.root y)
    | .For t it a [] _ => if noSet it then do
      let i ← cI m n sc N t it
      let g ← cT m n sc N (locs sc) t
      let y ← cSs m n sc N a
      let l ← cL m n sc N it
      some (lockS l (.for g i y))
      else none
    | .Return (some e) _ => (cE m n sc N e).map fun x => .ret x.root
    | .Return none _ => some .retN
    | .Break _ => some .brk
    | .Continue _ => some .cont
    | .Pass _ => some .pass
    | .Raise .. => some .never
    | _ => none
def cSs (m : Nm) : Nat → Scope → List Str → List Stmt → Option ISs
  | 0, _, _, _ => none
  | n + 1, sc, N, es => match es with
    | [] => some .nil
    | e :: r => do
      let x ← cS m n sc N e
      let xs ← cSs m n sc N r
      some (.cons x xs)
end
/-- the def's own scope -/
def scB (N ps : List Str) (sc : Scope) : Bool := (match sc.kind with
    | .function => true
    | _ => false) && !sc.isCoroutine && !sc.isGenerator && decide N.Nodup && decide (N.take ps.length = ps) && (ps.all fun x => isLoc sc x) && sc.names.all fun y => match y.2 with
    | .free => false
    | _ => true
/-- a def of the text, its names told: parameters first -/
def cF (m : Nm) (N ps : List Str) (st : Stmt) : Option FD := match st with
  | .FunctionDef _ a body _ _ _ sc _ _ _ =>
    if a.posonlyargs.isEmpty && a.vararg.isNone && a.kwonlyargs.isEmpty && a.kwarg.isNone && a.defaults.isEmpty && decide (a.args.map (·.arg) = ps) && decide (ps.length < 16) && scB N ps sc then
      (cSs m 400 sc N body).map fun b => ⟨ps.length, N.length, b⟩
    else none
  | _ => none
/-- built-in names that the text leaves as they are -/
def bltNames : List Str := ["len", "abs", "int", "max", "min", "tuple", "list", "sorted", "repr", "range", "enumerate", "zip", "sum", "all", "any", "dict", "str", "isinstance", "bool", "set"]
end Pv

/-! E: defs and calls, over a stack on which nothing is being shown (repr wants it). -/
namespace Pv
open PySem L2 PySem.Spec PyProof.Rows

/-- nothing is being shown -/
abbrev Bare (A : Around) : Prop := A.guards = some []
theorem Bare.deeper {A : Around} (h : Bare A) (env : Env) : Bare (A.deeper env) := by
  have e : (A.deeper env).guards = A.guards := by first | rfl | simp [Around.deeper]
  exact e.trans h
theorem Bare.make {A : Around} (h : Bare A) (C : Addr) (us : List Value) (kw : List (Str × Value)) : Bare (A.under (.builtin "type.__call__" ⟨.ref C :: us, kw⟩)) := by
  have e : A.guards = some [] := h
  simp [Bare, Around.under, e, pushGuards, Code.guards, Code.isGuard, guardIds]

/-- a def keeps its promise, where nothing is being shown -/
structure FnG (P : Program) (w : World) (K : PySem.W.Frag) (mg : Str → Option Value) (base : Heap) (CX : CXT) (k : Nat) (f : Addr) (fd : FuncData) (np : List Str) (sp : Sp) : Prop where
  many : ∀ vs H Q E, sp vs H Q E → vs.length = np.length
  go : ∀ (A : Around) (around : List Env) (s : Shared) (H : Hp) (given : Args) (us : List Value) (vs : List V) (Q : VK) (E : XK), Room k A → Bare A → Env0 P w K mg base A around s H →
    BindsTo s fd given (np.zip us) → Vals vs us → sp vs H Q E → codeAny (model P w) A (.call (.ref f) given) (CR CX around P w H s Q E) s

section
variable {P : Program} {w : World} {K : PySem.W.Frag} {mg : Str → Option Value} {base : Heap} {CX : CXT} {k : Nat} {f : Addr}
/-- by its body -/
theorem FnG.of {nm qual : Str} {params : Arguments} {body : List Stmt} {scope : Scope} {dV kV doc pm cdv ct oc : Value} {an od : Option Addr} {osl : Array (Option Value)} {N np : List Str} {sp : Sp}
    (at_ : K.lookup f = some ⟨oc, od, .func (PySem.W.fnOf nm qual params body scope dV kV doc pm an cdv ct), osl⟩) (code : PySem.W.codeIn K cdv qual = true) (S : FnScope N np scope) (many : ∀ vs H Q E, sp vs H Q E → vs.length = np.length)
    (walk : ∀ (A : Around) (around : List Env) (s : Shared) (H : Hp) (vs : List V) (Q : VK) (E : XK), Room k (A.deeper (envOfC qual scope s.heap.objs.size f cdv)) → Bare (A.deeper (envOfC qual scope s.heap.objs.size f cdv)) → sp vs H Q E →
      ∃ t, PSs (cxOf CX P w K mg base N qual scope f cdv A around s H E) body t ∧ t { nx := fun _ H' => Q .non H', rt := Q } (start N vs) H) :
    FnG P w K mg base CX (k + 1) f (PySem.W.fnOf nm qual params body scope dV kV doc pm an cdv ct) np sp := by
  refine ⟨many, ?_⟩
  intro A around s H given us vs Q E room bare e0 bind r asked
  have len := many _ _ _ _ asked
  have inK : K.In s.heap := e0.mod.kin.keeps fun b o q => (e0.bs b o q).1
  have free : s.heap.NoLimit := e0.mod.nolimit.keeps fun b o q => (e0.bs b o q).1
  have kinds : ∀ y ∈ np.zip us, scope.names.lookup y.1 = some .local ∨ (scope.names.lookup y.1 = some .cell ∧ ((cellsFrom (s.heap.objs.size + 1) scope.names []).lookup y.1).isSome = true) := by
    rintro ⟨n, v⟩ hy
    cases S.par n (List.of_mem_zip hy).1 with
    | inl q => exact .inl q
    | inr q => exact .inr ⟨q, PySem.W.cellsFrom_some _ _ _ (.inl q)⟩
  refine codeAny_call_function room.depth (inK _ _ at_) rfl S.co S.gen rfl (PySem.W.codeRec_of inK code) (bind _ _ _ _ ?_)
  refine wpAny_newFunctionEnv_cells S.kind kinds ?_
  intro env he s1 x
  subst he
  refine ⟨free.keeps x.toInCall.keep, codeAny_func ?_⟩
  obtain ⟨t, ht, hq⟩ := walk A around s H vs Q E (room.deeper _) (bare.deeper _) asked
  have I := inv_start (CX := CX) (P := P) (w := w) (E := E) S room.hd e0 len r x
  refine wpAny_mono (ht.run [] s1 (start N vs) H _ I hq) ?_ fun _ _ hs => hs
  intro fl s' hs
  cases fl with
  | ret u => obtain ⟨v, _, H', J, rv, q⟩ := hs; exact ⟨v, H', J.os, J.bare, J.base, J.hok, rv, q⟩
  | next => obtain ⟨_, H', J, q⟩ := hs; exact ⟨.non, H', J.os, J.bare, J.base, J.hok, rfl, q⟩
  | brk => obtain ⟨_, _, _, q⟩ := hs; exact q.elim
  | cont => obtain ⟨_, _, _, q⟩ := hs; exact q.elim
variable {X : Cx} {fd : FuncData} {np : List Str} {sp : Sp} {E : XK} {pins : List (Addr × Obj)} {σ : L2.St} {H : Hp} {s : Shared} {Q : VK} {us : List Value} {vs : List V}
theorem FnG.run (F : FnG X.prog X.w X.K X.mg X.base CX k f fd np sp) (room : Room k X.A) (bare : Bare X.A) (bind : Binds X.K fd np []) (px : ∀ (pins : List (Addr × Obj)) (H : Hp) (s : Shared) (e : Value) (s' : Shared), Inv X pins σ H s → CX X.stack H s E e s' → X.xe e s') (I : Inv X pins σ H s) (r : Vals vs us) (h : sp vs H Q E) :
    wpAny (model X.prog X.w) X.A (call (.ref f) us) (EP X pins σ Q) X.xe s := by
  have len : (us ++ []).length = np.length := by rw [List.append_nil, ← r.length]; exact F.many _ _ _ _ h
  have b := bind s us I.kIn len
  rw [List.append_nil] at b
  refine wpAny_call (codeAny_mono (F.go X.A X.stack s H ⟨us, []⟩ us vs Q E room bare I.env0 b r h) ?_)
  intro res s' hq
  match res, hq with
  | .error e, hq => exact px pins H s e s' I hq
  | .ok (.ret u), hq => exact I.after hq
  | .ok .next, hq => exact hq.elim
  | .ok .brk, hq => exact hq.elim
  | .ok .cont, hq => exact hq.elim
/-- C(..) -/
theorem FnG.make {C : Addr} (M : Mk X.K C f) (F : FnG X.prog X.w X.K X.mg X.base CX k f fd np sp) (room : Room (k + 1) X.A) (bare : Bare X.A) (bind : Binds X.K fd np []) (px : ∀ (pins : List (Addr × Obj)) (H : Hp) (s : Shared) (e : Value) (s' : Shared), Inv X pins σ H s → CX X.stack H s E e s' → X.xe e s') (I : Inv X pins σ H s) (r : Vals vs us)
    (h : ∀ x dx, H x = none → H dx = none → dx ≠ x → sp (.ref x :: vs) (upd (upd H dx (.own x)) x (.ins C dx [])) (fun v H2 => v = .non ∧ Q (.ref x) H2) E) :
    wpAny (model X.prog X.w) X.A (call (.ref C) us) (EP X pins σ Q) X.xe s := by
  have asked := h (s.heap.objs.size + 1) s.heap.objs.size (I.hok.fresh (Nat.le_succ _)) (I.hok.fresh (Nat.le_refl _)) (Nat.ne_of_lt (Nat.lt_succ_self _))
  have J := Inv.made (C := C) I
  have r2 : Vals (V.ref (s.heap.objs.size + 1) :: vs) (Value.ref (s.heap.objs.size + 1) :: us) := .cons rfl r
  have len : (Value.ref (s.heap.objs.size + 1) :: us ++ []).length = np.length := by
    rw [List.append_nil, ← r2.length]
    exact F.many _ _ _ _ asked
  have b := bind _ (Value.ref (s.heap.objs.size + 1) :: us) J.kIn len
  rw [List.append_nil] at b
  refine wpAny_call (make_map (f := f) I.kIn M.makes M.init (beq_iff_eq.mp M.fn) (codeAny_mono (F.go _ X.stack _ _ ⟨Value.ref (s.heap.objs.size + 1) :: us, []⟩ _ _ _ E (room.make C us []) (bare.make C us []) (J.env0.make C us []) b r2 asked) ?_))
  intro res s' hq
  match res, hq with
  | .error e, hq => exact px pins _ _ e s' J hq
  | .ok (.ret u), hq =>
    obtain ⟨v, H', J2, rv, ev, q⟩ := J.after hq
    subst ev
    exact ⟨rv, ⟨V.ref (s.heap.objs.size + 1), H', J2, rfl, q⟩⟩
  | .ok .next, hq => exact hq.elim
  | .ok .brk, hq => exact hq.elim
  | .ok .cont, hq => exact hq.elim
end

/-! ### a law's end -/
theorem law_ends {P : Program} {w : World} {K : PySem.W.Frag} {mg mb : Str → Option Value} {CX : CXT} {k : Nat} {fa a : Addr} {fd : FuncData} {x : Str} {sp : Sp} {s : Shared} {vs : List Value} {ns : List Int}
    (inK : K.In s.heap) (glob : s.heap.Ns mainGlobals mg) (bns : s.heap.Ns builtinsNs mb) (blt : ∀ x : Str, x ≠ "__name__" → mb x = bootBuiltins x) (lim : s.heap.NoLimit) (gens : s.gens = #[])
    (script : s.heap.get? a = some { cls := .type "list", data := .seq vs.toArray }) (iv : IntsAre vs ns) (short : ns.length ≤ sizeLine) (room : Room k callerA)
    (F : ∀ base : Heap, K.In base → base.Ns mainGlobals mg → FnG P w K mg base CX k fa fd [x] sp) (bind : ∀ (s : Shared) (u : Value), K.In s.heap → BindsTo s fd ⟨[u], []⟩ [(x, u)])
    (asked : ∀ H : Hp, Only H → SqL K H a (ns.map V.int) → sp [.ref a] H (fun v _ => v = .bl true) fun _ _ _ => False) (calm : ∀ H e s', CX [] H s (fun _ _ _ => False) e s' → False) :
    codeAny (model P w) callerA (.call (.ref fa) ⟨[.ref a], []⟩) (fun r s' => r = .ok (.ret (.bool true)) ∧ OldK s.heap s'.heap ∧ s'.os = s.os ∧ AllBare s'.gens) s := by
  have rv := vals_ints iv
  have lv := iv.length
  have core : ∀ H : Hp, Only H → SqL K H a (ns.map V.int) → HOk P w H s.heap → (∀ b, H b ≠ none → b = a) → (H a ≠ none → K.lookup a = none) →
      codeAny (model P w) callerA (.call (.ref fa) ⟨[.ref a], []⟩) (fun r s' => r = .ok (.ret (.bool true)) ∧ OldK s.heap s'.heap ∧ s'.os = s.os ∧ AllBare s'.gens) s := by
    intro H only sq hok onlyA notK
    have bare_dict : ∀ {b : Addr} {o : Obj} {es : Array DictEntry} {ep : Nat}, s.heap.get? b = some o → o.data = .dict es ep → H b = none := by
      intro b o es ep e d
      cases q : H b with
      | none => rfl
      | some u =>
        have e' : b = a := onlyA b (by rw [q]; simp)
        rw [e', script] at e
        cases e
        have d' : Data.seq vs.toArray _ = Data.dict es ep := d
        cases d'
    have nsB : ∀ {b : Addr} {m : Str → Option Value}, s.heap.Ns b m → (hidT s.heap H).Ns b m := by
      rintro b m ⟨o, es, ep, e, d, r⟩
      exact ⟨o, es, ep, hidT_get e (bare_dict e d), d, r⟩
    have kB : K.In (hidT s.heap H) := by
      intro b o e
      refine hidT_get (inK b o e) ?_
      cases q : H b with
      | none => rfl
      | some u =>
        have e' : b = a := onlyA b (by rw [q]; simp)
        rw [e', notK (by rw [← e', q]; simp)] at e
        cases e
    have M : Mod K mg (hidT s.heap H) := ⟨kB, nsB glob, ⟨mb, nsB bns, blt⟩, let ⟨mc, h1, h2⟩ := lim; ⟨mc, nsB h1, h2⟩⟩
    have e0 : Env0 P w K mg (hidT s.heap H) callerA [] s H := by
      refine ⟨rfl, M, fun b o e => of_hidT e, Nat.le_of_eq (hidT_size _ _), trivial, ?_, hok, .of_eq gens⟩
      intro b hb
      exact absurd (show b ∈ ([] : List Addr) from hb) (by simp)
    refine codeAny_mono ((F _ kB (nsB glob)).go callerA [] s H ⟨[.ref a], []⟩ [.ref a] [.ref a] _ _ room rfl e0 (bind s (.ref a) inK) (.cons rfl .nil) (asked H only sq)) ?_
    intro r s' h
    match r, h with
    | .error e, h => exact (calm H e s' h).elim
    | .ok .next, h => exact h.elim
    | .ok .brk, h => exact h.elim
    | .ok .cont, h => exact h.elim
    | .ok (.ret u), h =>
      obtain ⟨v, H', os, bare, un, hok', r', q⟩ := h
      have q' : v = .bl true := q
      subst q'
      obtain rfl : u = Value.bool true := r'
      refine ⟨rfl, OldK.of_keep fun b o e => ?_, os, bare⟩
      cases q : H b with
      | none => exact un.keep b o e q (fun z => absurd (show b ∈ ([] : List Addr) from z) (by simp)) (by simp)
      | some u =>
        cases only b with
        | inl z => rw [q] at z; cases z
        | inr z =>
          obtain ⟨ob, xs, z⟩ := z
          have e1 := (hok b _ z).1
          have e2 := (hok' b _ (un.frzs b ob _ z)).1
          rw [e] at e1
          cases e1
          exact e2
  cases hk : K.lookup a with
  | some o =>
    have e := inK a o hk
    rw [script] at e
    cases e
    refine core (fun _ => none) (fun _ => .inl rfl) (.inr ⟨_, vs.toArray, _, hk, rfl, rfl, rfl, by rw [List.size_toArray, lv]; exact short, by simpa using rv⟩) (fun b u z => ?_) (fun b z => absurd rfl z) fun z => absurd rfl z
    have z' : (none : Option HO) = some u := z
    cases z'
  | none =>
    have one : ∀ b, (if b = a then some (HO.frz { cls := .type "list", data := .seq vs.toArray } (.lst (ns.map V.int))) else none) ≠ none → b = a := fun b z => by
      by_cases hb : b = a
      · exact hb
      · exact absurd (if_neg hb) z
    refine core (fun b => if b = a then some (.frz { cls := .type "list", data := .seq vs.toArray } (.lst (ns.map V.int))) else none) (fun b => ?_) (.inl (.inr ⟨{ cls := .type "list", data := .seq vs.toArray }, if_pos rfl⟩)) (fun b u z => ?_) one fun _ => hk
    · by_cases hb : b = a
      · exact .inr ⟨_, _, if_pos hb⟩
      · exact .inl (if_neg hb)
    · have hb : b = a := one b (by rw [show (if b = a then some (HO.frz { cls := .type "list", data := .seq vs.toArray } (.lst (ns.map V.int))) else none) = some u from z]; simp)
      subst hb
      have z' := (if_pos rfl).symm.trans z
      cases z'
      exact ⟨script, by rw [List.length_map]; exact short, vs, _, rv, script⟩
/-- the goal that the head leaves -/
theorem law_walk {l : PySem.W.OpenLaw} {n k : Nat} {q : Program} {loose : List Str} {XP : (Str → Option Value) → Heap → Prop} {YP : World → Heap → Prop} {d : DefRec} {K : Params → PySem.W.Frag} {CX : World → CXT} {sp : World → Sp}
    (most : l.most = some n) (short : n ≤ sizeLine) (nodef : d.params.defaults = []) (room : Room k callerA) (kin : ∀ (w : World) (h : Heap), YP w h → (K w.params).In h)
    (F : ∀ (w : World) (mg : Str → Option Value) (fa : Addr) (h : Heap), (K w.params).In h → h.Ns mainGlobals mg → mg d.name = some (.ref fa) →
      ∃ (fd : FuncData) (x : Str), (∀ (s : Shared) (u : Value), (K w.params).In s.heap → BindsTo s fd ⟨[u], []⟩ [(x, u)]) ∧ ∀ base : Heap, (K w.params).In base → base.Ns mainGlobals mg → FnG l.prog w (K w.params) mg base (CX w) k fa fd [x] (sp w))
    (asked : ∀ (w : World) (H : Hp) (a : Addr) (ns : List Int), ns.length ≤ n → Only H → SqL (K w.params) H a (ns.map V.int) → sp w [.ref a] H (fun v _ => v = .bl true) fun _ _ _ => False)
    (calm : ∀ (w : World) (H : Hp) (s : Shared) (e : Value) (s' : Shared), CX w [] H s (fun _ _ _ => False) e s' → False) : PySem.W.WalkO q loose XP YP l.row.toRowW d [] (fun f vs => PySem.call f vs) := by
  refine Att.attach_call most nodef ?_
  intro w s₀ s₁ mg mb fa o pm cd doc a vs ns G Y ho hd hcd hmg hobj hints hlen hg
  have inK := kin w _ Y
  obtain ⟨fd, x, hb, hF⟩ := F w mg fa _ inK G.T.g hmg
  exact law_ends inK G.T.g G.T.b G.T.builtins G.T.nolimit hg hobj hints (Nat.le_trans hlen short) room hF hb (fun H hO hS => asked w H a ns hlen hO hS) fun H e s' => calm w H s₁ e s'
end Pv

/-! F: rules that the hand layer lacks. -/
namespace Pv
open PySem L2 PySem.Spec PyProof.Rows

/-! ### new tuples, plain -/
/-- a new tuple, known to be plain -/
def NewT (H : Hp) (xs : List V) (Q : VK) : Prop := ∀ p o, H p = none → o.dict = none → Q (.ref p) (upd H p (.frz o (.tup xs)))
theorem _root_.L2.Inv.newT {X : Cx} {pins : List (Addr × Obj)} {σ : L2.St} {H : Hp} {s : Shared} {xs : List V} {ws : List Value} {Q : VK} {t' : Nat} (I : Inv X pins σ H s) (r : Vals xs ws) (z : xs.length ≤ sizeLine) (q : NewT H xs Q) :
    EP X pins σ Q (.ref s.heap.objs.size) { s with heap := s.heap.push { cls := Value.type "tuple", data := Data.seq ws.toArray }, toks := t' } := by
  have e : (s.heap.push { cls := Value.type "tuple", data := Data.seq ws.toArray }).get? s.heap.objs.size = some { cls := Value.type "tuple", data := Data.seq ws.toArray } := Heap.get?_push_size _ rfl
  exact ⟨.ref s.heap.objs.size, _, I.laid (t' := t') (o := .frz { cls := Value.type "tuple", data := Data.seq ws.toArray } (.tup xs)) (fun b u e => Heap.get?_push_of_some _ e) (Nat.le_refl _) ⟨e, z, ws, r, _, e, rfl, _, rfl⟩, rfl, q _ _ (I.hok.fresh (Nat.le_refl _)) rfl⟩
section
variable {X : Cx} {es : List Expr} {t : TA} {pos : Pos}
/-- (a, b) -/
theorem pe_tupP {x1} (h : PA X es t) : PE X (.Tuple es x1 pos) (fun σ H Q => t σ H fun xs H1 => xs.length ≤ sizeLine ∧ NewT H1 xs Q) := by
  refine ⟨fun pins s σ H Q I hq => wpAny_Tuple_spliced (thn (h.run pos pins s σ H _ I hq) fun us s1 ⟨xs, H1, I1, r, z, q⟩ => ⟨by rw [← r.length]; exact z, ?_⟩)⟩
  exact I1.newT (t' := s1.toks) r z q
/-- t + u -/
def rCatP (K : PySem.W.Frag) : R2 := fun x y H Q => ∃ a b xs ys, x = .ref a ∧ y = .ref b ∧ SqT K H a xs ∧ SqT K H b ys ∧ xs.length + ys.length ≤ sizeLine ∧ (xs = [] → Q (.ref b) H) ∧ (ys = [] → Q (.ref a) H) ∧ NewT H (xs ++ ys) Q
theorem op_catP : OpR X (binaryOp .Add) (rCatP X.K) := by
  intro pins s σ H x y v u Q I rx ry h
  obtain ⟨a, b, xs, ys, rfl, rfl, ha, hb, hz, q0, q1, q2⟩ := h
  have rx' := rx
  have ry' := ry
  cases rx
  cases ry
  obtain ⟨its, r1, p1, _⟩ := I.tuple ha
  obtain ⟨its2, r2, p2, _⟩ := I.tuple hb
  by_cases hx : xs = []
  · subst hx
    cases r1
    exact cat_tup0 p1 p2 ⟨.ref b, H, I, rfl, q0 rfl⟩
  · exact HT.cat_tup p1 p2 (fun z => hx (r1.nil_iff.mp z)) (fun z => ⟨.ref a, H, I, rfl, q1 (r2.nil_iff.mp z)⟩) (fun _ => I.newT (t' := s.toks) (r1.append r2) (by rw [List.length_append]; exact hz) q2) (by rw [← r1.length, ← r2.length]; exact hz)
/-- t[lo:hi] -/
def rSlP (K : PySem.W.Frag) : V → Option Int → Option Int → Hp → VK → Prop := fun x lo hi H Q => ∃ a xs, x = .ref a ∧ SqT K H a xs ∧ (cutV xs lo hi = xs → Q (.ref a) H) ∧ NewT H (cutV xs lo hi) Q
theorem sl_tupP : SlR X (rSlP X.K) := by
  intro pins s σ H x v vl vu lo hi sl Q I rx hs pl pu h
  obtain ⟨a, xs, rfl, hx, q1, q2⟩ := h
  cases rx
  obtain ⟨its, r, ht, hz⟩ := I.tuple hx
  have hlen : its.toArray.size = xs.length := by rw [List.size_toArray]; exact r.length.symm
  refine ⟨"tuple", _, PyProof.Rows.slot_tuple_getitem.lookup, ht.typeIs, ?_⟩
  by_cases hw : HT.sIx xs.length 0 lo = 0 ∧ HT.sIx xs.length xs.length hi = xs.length
  · refine getItem_tuple_whole ht hs pl pu (by rw [hlen]; exact hw) ⟨.ref a, H, I, rfl, q1 ?_⟩
    unfold cutV
    rw [hw.1, hw.2, List.drop_zero, Nat.sub_zero, List.take_length]
  · refine HT.getItem_tuple_cut ht hs pl pu (by rw [hlen]; exact hw) ?_ (by rw [hlen]; exact hz)
    rw [hlen]
    exact I.newT (t' := s.toks) ((r.drop (HT.sIx xs.length 0 lo)).take (HT.sIx xs.length xs.length hi - HT.sIx xs.length 0 lo)) (Nat.le_trans (cutV_length xs lo hi) hz) q2
/-- tuple(l), tuple(t) -/
theorem call_tupleP : CallR X (.type "tuple") (fun xs H Q => ∃ p ys, xs = [.ref p] ∧ ((SqL X.K H p ys ∧ NewT H ys Q) ∨ (SqT X.K H p ys ∧ Q (.ref p) H))) := by
  intro pins s σ H xs us Q I r h
  obtain ⟨p, ys, rfl, h⟩ := h
  obtain ⟨u, rfl, rx⟩ := vals1 r
  cases rx
  rcases h with ⟨hq, q⟩ | ⟨hq, q⟩
  · obtain ⟨its, r', pl, hz⟩ := I.list hq
    have hlen := r'.length
    refine call_tuple_list pl.isList (fun h' kp => ?_) (by simp only [List.size_toArray] <;> omega)
    exact (I.kept (t' := s.toks) kp).newT (t' := s.toks) r' hz q
  · obtain ⟨its, r', pl, hz⟩ := I.tuple hq
    exact call_tuple_same pl ⟨.ref p, H, I, rfl, q⟩
end

/-! ### tuple * int, any -/
theorem tuple_mul_one (l : Addr) (items : Array Value) (n : Nat) (sl : Array (Option Value)) (dd : Option Addr) (x : Int) (u : Tok) (c0 : (decide (x < -(2 ^ 63)) || decide (x ≥ 2 ^ 63)) = false) (c1 : (items.isEmpty || x == 1) = true) :
    Meets (Builtin.«tuple.__mul__» ⟨[.ref l, .int x u], []⟩) (fun _ R s => s.heap.get? l = some { cls := .type "tuple", dict := dd, data := .seq items n, slots := sl } ∧ R (.ok (.ret (Value.ref l))) s) :=
  .of_wp fun prog w A R s h => by
    obtain ⟨hp, g, d, tk, os⟩ := s
    obtain ⟨hl, h⟩ := h
    have f1 := AutoSeq1.idx_int
    wp_walk using wpAny_loadPart' hl
    repeat (first
      | (refine wpAny_ite_false (decide_eq_false (by rw [c0]; exact Bool.false_ne_true)) ?_; wp_walk using wpAny_loadPart' hl)
      | (refine wpAny_ite_true (decide_eq_true c1) ?_; wp_walk using wpAny_loadPart' hl))
    first
      | exact ⟨_, rfl, h⟩
      | exact h
theorem tuple_mul_nil (l : Addr) (items : Array Value) (n : Nat) (sl : Array (Option Value)) (dd : Option Addr) (x : Int) (u : Tok) (c0 : (decide (x < -(2 ^ 63)) || decide (x ≥ 2 ^ 63)) = false) (c1 : (items.isEmpty || x == 1) = false)
    (c2 : (decide (x ≤ 0) || items.isEmpty) = true) :
    Meets (Builtin.«tuple.__mul__» ⟨[.ref l, .int x u], []⟩) (fun _ R s => s.heap.get? l = some { cls := .type "tuple", dict := dd, data := .seq items n, slots := sl } ∧
      R (.ok (.ret (Value.ref s.heap.objs.size))) { s with heap := s.heap.push { cls := Value.type "tuple", data := Data.seq #[] }, toks := s.toks }) :=
  .of_wp fun prog w A R s h => by
    obtain ⟨hp, g, d, tk, os⟩ := s
    obtain ⟨hl, h⟩ := h
    have f1 := AutoSeq1.idx_int
    wp_walk using wpAny_loadPart' hl
    repeat (first
      | (refine wpAny_ite_false (decide_eq_false (by rw [c0]; exact Bool.false_ne_true)) ?_; wp_walk using wpAny_loadPart' hl)
      | (refine wpAny_ite_false (decide_eq_false (by rw [c1]; exact Bool.false_ne_true)) ?_; wp_walk using wpAny_loadPart' hl)
      | (refine wpAny_ite_true (decide_eq_true c2) ?_; wp_walk using wpAny_loadPart' hl))
    first
      | exact ⟨_, rfl, h⟩
      | exact h
theorem flat_len {α : Type} (xs : List α) : ∀ k : Nat, (List.replicate k xs).flatten.length = xs.length * k
  | 0 => by simp
  | k + 1 => by rw [List.replicate_succ, List.flatten_cons, List.length_append, flat_len xs k, Nat.mul_succ, Nat.add_comm]
theorem vals_flat {xs : List V} {its : List Value} (r : Vals xs its) : ∀ k : Nat, Vals (List.replicate k xs).flatten (List.replicate k its).flatten
  | 0 => .nil
  | k + 1 => by
    rw [List.replicate_succ, List.replicate_succ, List.flatten_cons, List.flatten_cons]
    exact r.append (vals_flat r k)
def rMulT (K : PySem.W.Frag) : R2 := fun x y H Q => ∃ l k xs, x = .ref l ∧ y = .int k ∧ SqT K H l xs ∧ -(2 ^ 63) ≤ k ∧ k < 2 ^ 63 ∧ xs.length * k.toNat ≤ sizeLine ∧
  ((List.replicate k.toNat xs).flatten = xs → Q (.ref l) H) ∧ NewT H (List.replicate k.toNat xs).flatten Q
section
variable {X : Cx}
theorem op_mulT : OpR X (binaryOp .Mult) (rMulT X.K) := by
  intro pins s σ H x y v u Q I rx ry h
  obtain ⟨l, k, xs, rfl, rfl, hT, k0, k1, hz, q1, q2⟩ := h
  cases rx
  obtain ⟨t, rfl⟩ := ry
  obtain ⟨its, r, ⟨⟨cls, dd, data, sl⟩, ho, hc, n, hd⟩, hs⟩ := I.tuple hT
  simp only at hc hd
  subst hc hd
  have hle : its.length = xs.length := r.length.symm
  have sz : its.toArray.size = xs.length := by rw [List.size_toArray, hle]
  have c0 : (decide (k < -(2 ^ 63)) || decide (k ≥ 2 ^ 63)) = false := by
    rw [decide_eq_false (by omega), decide_eq_false (by omega)] <;> rfl
  have road : ∀ {Q' : Value → Shared → Prop}, wpAny (model X.prog X.w) X.A (call (.builtin "tuple.__mul__") [.ref l, .int k t]) Q' X.xe s → wpAny (model X.prog X.w) X.A (binaryOp .Mult (.ref l) (.int k t)) Q' X.xe s := fun {Q'} hq =>
    wpAny_binaryOp_repeat_ref (T := "tuple") (U := "int") (by decide) ⟨_, ho, rfl⟩ (fun s' => typeIs_int s' k t) noFill_tuple_mul F.fills_int_mul F.slot_int_rmul repeat_tuple F.slot_int_index.lookup
      (call_meets F.slot_int_rmul (typeIs_int s k t) F.entry_int_rmul (F.args_int_rmul_2 _ _) (int_rmul_tuple k t l its.toArray n dd sl) ⟨ho, rfl, ⟨_, ho, rfl⟩, hq⟩)
  have new : ∀ (zs : List V) (ws : List Value), Vals zs ws → zs.length ≤ sizeLine → NewT H zs Q →
      EP X pins σ Q (.ref s.heap.objs.size) { s with heap := s.heap.push { cls := Value.type "tuple", data := Data.seq ws.toArray }, toks := s.toks } := fun zs ws rr hl q => I.newT rr hl q
  have fr : H s.heap.objs.size = none := I.hok.fresh (Nat.le_refl _)
  have len := flat_len xs k.toNat
  refine road ?_
  cases c1 : (its.toArray.isEmpty || k == 1) with
  | true =>
    refine call_meets F.slot_tuple_mul ⟨_, ho, rfl⟩ F.entry_tuple_mul (F.args_tuple_mul_2 _ _) (tuple_mul_one l its.toArray n sl dd k t c0 c1) ⟨ho, ?_⟩
    refine ⟨.ref l, H, I, rfl, q1 ?_⟩
    rw [Bool.or_eq_true] at c1
    rcases c1 with c | c
    · have e : its = [] := by simpa using c
      have e2 : xs = [] := List.eq_nil_of_length_eq_zero (by rw [← hle, e]; rfl)
      rw [e2]
      exact List.eq_nil_of_length_eq_zero (by rw [flat_len]; simp)
    · have e : k = 1 := by simpa using c
      rw [e]
      simp
  | false =>
    cases c2 : (decide (k ≤ 0) || its.toArray.isEmpty) with
    | true =>
      refine call_meets F.slot_tuple_mul ⟨_, ho, rfl⟩ F.entry_tuple_mul (F.args_tuple_mul_2 _ _) (tuple_mul_nil l its.toArray n sl dd k t c0 c1 c2) ⟨ho, ?_⟩
      rw [Bool.or_eq_false_iff] at c1
      rw [c1.1, Bool.or_false, decide_eq_true_eq] at c2
      have e : (List.replicate k.toNat xs).flatten = [] := by
        have : k.toNat = 0 := by omega
        rw [this] <;> rfl
      exact new [] [] .nil (Nat.zero_le _) (by rw [e] at q2; exact q2)
    | false =>
      have hs63 : sizeLine = 16777216 := sizeLine_eq
      have kp : 0 < k := by
        rw [Bool.or_eq_false_iff, decide_eq_false_iff_not] at c2
        omega
      have ek : (k.toNat : Int) = k := Int.toNat_of_nonneg (by omega)
      have prod : ((its.toArray.size : Nat) : Int) * k ≤ 16777216 := by
        rw [sz, ← ek]
        have : ((xs.length * k.toNat : Nat) : Int) ≤ 16777216 := by
          rw [hs63] at hz
          generalize xs.length * k.toNat = m at hz ⊢
          omega
        rw [← Int.natCast_mul]; exact this
      have c4 : Builtin.Tuple.tupleTooMany (((its.toArray.size : Nat) : Int) * k) = false := by
        unfold Builtin.Tuple.tupleTooMany
        rw [hs63]
        exact decide_eq_false (by omega)
      have flen : (List.replicate k.toNat its).flatten.length ≤ sizeLine := by rw [flat_len, hle]; exact hz
      refine call_meets F.slot_tuple_mul ⟨_, ho, rfl⟩ F.entry_tuple_mul (F.args_tuple_mul_2 _ _) (tuple_mulW l its.toArray n dd sl k t c0 c1 c2 (by omega) c4 (by rw [size_rep, List.size_toArray]; exact flen)) ⟨ho, ?_⟩
      rw [size_rep]
      exact new _ _ (vals_flat r k.toNat) (by rw [len]; exact hz) q2

/-! ### repr -/
mutual
theorem dp_noDict {K : PySem.W.Frag} {H : Hp} : ∀ {v : V} {d : PyData}, Dp K H v d → d.hasDict = false
  | _, _, .non => rfl
  | _, _, .bl _ => rfl
  | _, _, .int _ => rfl
  | _, _, .str _ => rfl
  | _, _, .lst _ h => by simpa [PyData.hasDict] using dps_noDict h
  | _, _, .tup _ h => by simpa [PyData.hasDict] using dps_noDict h
theorem dps_noDict {K : PySem.W.Frag} {H : Hp} : ∀ {v : List V} {d : List PyData}, DpAll K H v d → PyData.hasDictAll d = false
  | _, _, .nil => rfl
  | _, _, .cons h hs => by simp [PyData.hasDictAll, dp_noDict h, dps_noDict hs]
end
theorem call_repr (bare : Bare X.A) (hu : X.A.units + 66 < cLine) : CallR X (.builtin "repr") (fun xs H Q => ∃ x d, xs = [x] ∧ Dp X.K H x d ∧ d.showable = true ∧ d.shown.length ≤ sizeLine ∧ d.depth ≤ 64 ∧ Q (.str d.shown) H) := by
  intro pins s σ H xs us Q I r h
  obtain ⟨x, d, rfl, hd, hs, hl, hp, q⟩ := h
  obtain ⟨u, rfl, ru⟩ := vals1 r
  have fin : ∀ (t : Tok) (h' : Heap) (tk : Nat), (∀ b o, s.heap.get? b = some o → h'.get? b = some o) → EP X pins σ Q (.str d.shown t) { s with heap := h', toks := tk } := fun t h' tk k => ⟨.str d.shown, H, I.kept k, ⟨t, rfl⟩, q⟩
  cases hd with
  | non => cases ru; exact PySem.P.repr_of_none (fin _ s.heap _ fun _ _ e => e)
  | bl b => cases ru; exact PySem.P.repr_of_bool (fin _ s.heap _ fun _ _ e => e)
  | int i =>
    obtain ⟨t, rfl⟩ := ru
    exact PySem.P.repr_of_int (by simpa [PyData.showable] using hs) (fin _ s.heap _ fun _ _ e => e)
  | str z =>
    obtain ⟨t, rfl⟩ := ru
    exact PySem.P.repr_of_str (fin _ s.heap _ fun _ _ e => e) hl
  | lst sq hs' =>
    have hd : Dp X.K H _ _ := .lst sq hs'
    obtain ⟨as, rd⟩ := Dp.reads I _ _ _ hd ru
    cases ru
    exact repr_of_reads' rd hs (PyData.noDict_hsm (dp_noDict hd)) bare (by omega) (fun _ _ e => e) (fun h' u tk k => fin u h' tk k) hl
  | tup sq hs' =>
    have hd : Dp X.K H _ _ := .tup sq hs'
    obtain ⟨as, rd⟩ := Dp.reads I _ _ _ hd ru
    cases ru
    exact repr_of_reads' rd hs (PyData.noDict_hsm (dp_noDict hd)) bare (by omega) (fun _ _ e => e) (fun h' u tk k => fin u h' tk k) hl

/-! ### sorted(list of plain data) -/
mutual
theorem RelP.dp {K : PySem.W.Frag} {H : Hp} : ∀ {x : P} {v : V}, RelP K H x v → Dp K H v x.py
  | _, _, .non => .non
  | _, _, .bl b => .bl b
  | _, _, .int b => .int b
  | _, _, .str b => .str b
  | _, _, .tup h hs => .tup h.sq (RelPs.dps hs)
theorem RelPs.dps {K : PySem.W.Frag} {H : Hp} : ∀ {x : List P} {v : List V}, RelPs K H x v → DpAll K H v (P.pys x)
  | _, _, .nil => .nil
  | _, _, .cons h hs => .cons (RelP.dp h) (RelPs.dps hs)
end
mutual
theorem py_depth : ∀ x : P, x.py.depth = x.depth
  | .non => rfl
  | .bl _ => rfl
  | .int _ => rfl
  | .str _ => rfl
  | .tup xs => by simp only [P.py, PyData.depth, P.depth, pys_depth xs]
theorem pys_depth : ∀ x : List P, PyData.depthAll (P.pys x) = P.depths x
  | [] => rfl
  | x :: xs => by simp only [P.pys, PyData.depthAll, P.depths, py_depth x, pys_depth xs]
end
theorem sortable_alike {ps : List P} (h : sortable ps = true) : PySem.W.AllAlike (ps.map P.py) ∧ PySem.W.Sortable (ps.map P.py) ∧ ∀ x ∈ ps, x.depth ≤ 64 := by
  unfold sortable at h
  simp only [Bool.and_eq_true, Bool.or_eq_true, List.all_eq_true] at h
  obtain ⟨⟨h1, h2⟩, h3⟩ := h
  refine ⟨?_, ?_, fun x hx => by simpa using h3 x hx⟩
  · intro d hd d' hd'
    obtain ⟨x, hx, rfl⟩ := List.mem_map.mp hd
    obtain ⟨y, hy, rfl⟩ := List.mem_map.mp hd'
    exact h1 x hx y hy
  · rcases h2 with h2 | h2
    · left
      intro d hd
      obtain ⟨x, hx, rfl⟩ := List.mem_map.mp hd
      have := h2 x hx
      match x, this with
      | .tup (y :: ys), _ => exact ⟨y.py, P.pys ys, rfl⟩
    · right
      intro d hd
      obtain ⟨x, hx, rfl⟩ := List.mem_map.mp hd
      have := h2 x hx
      match x, this with
      | .bl _, _ => exact ⟨(fun z => by cases z), (fun _ z => by cases z)⟩
      | .int _, _ => exact ⟨(fun z => by cases z), (fun _ z => by cases z)⟩
      | .str _, _ => exact ⟨(fun z => by cases z), (fun _ z => by cases z)⟩
theorem le_dataLe : P.le = PySem.W.dataLe false P.py := by
  funext a b
  rw [PySem.W.dataLe_eq] <;> rfl
section
variable {X : Cx}
theorem each_of {K : PySem.W.Frag} {H : Hp} : ∀ {ps : List P} {vs : List V} {us : List Value}, RelPs K H ps vs → Vals vs us → PySem.W.EachIs (fun u p => ∃ v, RelP K H p v ∧ RelV v u) us ps
  | _, _, _, .nil, .nil => .nil
  | _, _, _, .cons h hs, .cons r rs => .cons ⟨_, h, r⟩ (each_of hs rs)
theorem of_each {K : PySem.W.Frag} {H : Hp} : ∀ {ps : List P} {us : List Value}, PySem.W.EachIs (fun u p => ∃ v, RelP K H p v ∧ RelV v u) us ps → ∃ vs, RelPs K H ps vs ∧ Vals vs us
  | _, _, .nil => ⟨[], .nil, .nil⟩
  | _, _, .cons ⟨v, h, r⟩ hs => let ⟨vs, a, b⟩ := of_each hs; ⟨v :: vs, .cons h a, .cons r b⟩
theorem call_sorted (hu : X.A.units + 66 < cLine) : CallR X (.builtin "sorted") (fun xs H Q => ∃ a vs ps, xs = [.ref a] ∧ SqL X.K H a vs ∧ RelPs X.K H ps vs ∧ sortable ps = true ∧
    ∀ p ws, H p = none → RelPs X.K H (ps.mergeSort P.le) ws → Q (.ref p) (upd H p (.lst ws))) := by
  intro pins s σ H xs us Q I r h
  obtain ⟨a, vs, ps, rfl, sq, rp, so, q⟩ := h
  obtain ⟨u, rfl, ru⟩ := vals1 r
  cases ru
  obtain ⟨its, rv, pl, hz⟩ := I.list sq
  obtain ⟨al, so, dp⟩ := sortable_alike so
  have e := each_of rp rv
  have lp : ps.length = vs.length := rp.length
  refine PySem.W.sorted_data (enc := P.py) (R := fun u p => ∃ v, RelP X.K H p v ∧ RelV v u) pl.isList e (e.mono fun u p ⟨v, h1, h2⟩ => Dp.reads I p.py v u h1.dp h2) al so (by omega) (fun b hb => by rw [py_depth]; have := dp b hb; omega) fun out lo eo => ?_
  rw [← le_dataLe] at eo
  obtain ⟨ws, r1, r2⟩ := of_each eo
  have fr : H (s.heap.objs.size + 1) = none := I.hok.fresh (Nat.le_succ _)
  obtain ⟨ep, at_⟩ := sortedAll_at s.heap its out.toArray
  refine ⟨.ref (s.heap.objs.size + 1), _, I.laid (o := .lst ws) (t' := s.toks) (fun b o h => sortedAll_old h) (Nat.le_succ _) ⟨?_, out, ep, r2, at_⟩, rfl, q _ ws fr r1⟩
  have := r2.length
  omega

/-! ### subscripts, targets, tests -/
theorem get_list : PGet X (rIxL X.K) := by
  intro pins s σ H o i ov iv Q I ro ri h
  obtain ⟨p, xs, i, z, rfl, rfl, hq, he, q⟩ := h
  cases ro
  obtain ⟨t, rfl⟩ := ri
  obtain ⟨its, r, pl, hz⟩ := I.list hq
  obtain ⟨j, h1, h2, h3, h4, h5⟩ := atI_get he
  obtain ⟨w, ew, rw'⟩ := r.get h2
  have hl := r.length
  have hn := line63
  have fin : EP X pins σ Q w s := ⟨z, H, I, rw', q⟩
  by_cases h0 : 0 ≤ i
  · have hj : i.toNat = j := by
      rw [seqIndex_of h0 h5] at h1
      exact Option.some.inj h1
    exact getItem_listL pl.isList h0 (by omega) (by rw [hj]; exact ew) fin
  · have hj : (i + (its.toArray.size : Int)).toNat = j := by
      rw [seqIndex_neg (by omega) h4] at h1
      rw [List.size_toArray, ← hl]
      exact Option.some.inj h1
    exact wpAny_getItem_list_neg pl.isList (by omega) (by rw [List.size_toArray] <;> omega) (by omega) (by rw [hj]; simpa using ew) fin
/-- o.f, a target -/
def gFld (K : PySem.W.Frag) (ta : TE) (f : Str) : TG := fun y σ H Q => ta σ H fun x H2 => ∃ a C dx fs, x = .ref a ∧ H2 a = some (.ins C dx fs) ∧ Cls K C ∧ NoAttr K C f ∧ fs.length < 1000 ∧ Q σ (upd H2 a (.ins C dx (putF f y fs)))
theorem pg_fld {o : Expr} {ta : TE} {f : Str} {pos : Pos} (ha : PE X o ta) : PG X (.Attribute o f pos) (gFld X.K ta f) := by
  refine ⟨fun pins s σ H v u Q I r h => ?_⟩
  show wpAny _ _ (do
    let ov ← holding [u] (eval o X.env)
    standAt pos.atName
    holding [u, ov] (setAttr ov f u)
    release [u, ov] []) _ _ s
  refine wpAny_bind (wpAny_holding (thn (ha.run pins s σ H _ I h) fun ov s1 ⟨x, H1, I1, r1, a, C, dx, fs, ex, ea, c, n, l, q⟩ => ?_))
  subst ex
  obtain rfl : ov = Value.ref a := r1
  refine wpAny_bind (wpAny_standAt (wpAny_bind (wpAny_holding (setattr_ok I1 ea c n l r fun s2 I2 => ?_))))
  exact wpAny_release ⟨σ, _, I2, q⟩
theorem pt_ifExp {c a b : Expr} {pos : Pos} {tc ta tb : TT} (hc : PT X c tc) (ha : PT X a ta) (hb : PT X b tb) : PT X (.IfExp c a b pos) (fun σ H Q => tc σ H fun k H1 => if k = true then ta σ H1 Q else tb σ H1 Q) := by
  refine ⟨fun pins s σ H Q I h => ?_⟩
  show wpAny _ _ (do if ← isTrue c X.env (eval c X.env) then isTrue a X.env (eval a X.env) else isTrue b X.env (eval b X.env)) _ _ s
  refine wpAny_bind (thn (hc.run pins s σ H _ I h) fun d s1 ⟨H1, I1, q1⟩ => ?_)
  cases d with
  | true => exact ha.run pins s1 σ H1 Q I1 q1
  | false => exact hb.run pins s1 σ H1 Q I1 q1
/-- a, b, c = x, y, z with plain local names: stored from the right -/
theorem ps_par3 {i j l : Nat} {x y z : Str} {a b c : Expr} {ta : TA} {px py pz pt : Pos} {kt k2 pt2} {pos : Pos} (hc : X.calm = true) (hN : X.N.Nodup) (hi : X.N[i]? = some x) (hj : X.N[j]? = some y) (hl : X.N[l]? = some z) (hij : i ≠ j) (hil : i ≠ l) (hjl : j ≠ l)
    (hx : X.env.scope.names.lookup x = some .local) (hy : X.env.scope.names.lookup y = some .local) (hz : X.env.scope.names.lookup z = some .local) (ha : PA X [a, b, c] ta)
    (hw : swappedStores [.Tuple [.Name x px, .Name y py, .Name z pz] kt pt] (.Tuple [a, b, c] k2 pt2) X.env = pure (some [x, y, z]))
    (hs : swapsWithSole [.Tuple [.Name x px, .Name y py, .Name z pz] kt pt] (.Tuple [a, b, c] k2 pt2) pos.line X.env = pure false := by rfl) :
    PS X (.Assign [.Tuple [.Name x px, .Name y py, .Name z pz] kt pt] (.Tuple [a, b, c] k2 pt2) pos) (fun D σ H => ta σ H fun vs H1 => ∃ u v w, vs = [u, v, w] ∧ D.nx (((σ.set i (some u)).set j (some v)).set l (some w)) H1) := by
  refine ⟨fun pins s σ H D I h => ?_⟩
  rw [exec_Assign_arm]
  refine wpAny_bind (wpAny_standAt ?_)
  rw [hs]
  refine wpAny_bind (wpAny_pure ?_)
  rw [if_neg (by decide)]
  refine wpAny_bind (Tuple_ (thn (ha.run _ pins s σ H _ I h) fun us s1 ⟨vs, H1, I1, r1, q1⟩ => ?_))
  obtain ⟨u, v, w, e1, q1⟩ := q1
  subst e1
  obtain ⟨u1, u2, u3, rfl, ru, rv, rw'⟩ : ∃ u1 u2 u3, us = [u1, u2, u3] ∧ RelV u u1 ∧ RelV v u2 ∧ RelV w u3 := by
    cases r1 with
    | cons p r =>
      cases r with
      | cons p' r =>
        cases r with
        | cons p'' r =>
          cases r
          exact ⟨_, _, _, rfl, p, p', p''⟩
  refine wpAny_newObj_type ?_ (by show 3 ≤ sizeLine; decide)
  have I2 : Inv X pins σ H1 { s1 with heap := s1.heap.push { cls := .type "tuple", data := .seq [u1, u2, u3].toArray } } := I1.kept (t' := s1.toks) fun b o e => Heap.get?_push_of_some _ e
  rw [hw]
  refine wpAny_bind (wpAny_pure ?_)
  show wpAny (model X.prog X.w) X.A (do rule "assign.swapped-stores"; let its ← unpackItems (.ref s1.heap.objs.size) 3 none; assignInOrder [fun v => bindName X.env z v, fun v => bindName X.env y v, fun v => bindName X.env x v] its.reverse; pure Flow.next) _ _ _
  refine wpAny_bind (wpAny_rule (wpAny_bind (unpackItems_tuple (items := #[u1, u2, u3]) (I.ok.hd hc) (IsTup.new s1.heap _) fun h' hx' => ?_)))
  have I3 := I2.kept (h' := h') (t' := s1.toks) fun b o e => hx' b o (Nat.ne_of_lt (Heap.lt_size e)) e
  show wpAny _ _ (assignInOrder [fun v => bindName X.env z v, fun v => bindName X.env y v, fun v => bindName X.env x v] [u3, u2, u1] >>= fun _ => pure Flow.next) _ _ _
  refine wpAny_bind (assignInOrder_cons (wpAny_bindName (store_ok I3 hN hl (.inl hz) rw' (fun s2 I4 => ?_) (.inr hz))))
  refine assignInOrder_cons (wpAny_bindName (store_ok I4 hN hj (.inl hy) rv (fun s3 I5 => ?_) (.inr hy)))
  refine assignInOrder_cons (wpAny_bindName (store_ok I5 hN hi (.inl hx) ru (fun s4 I6 => assignInOrder_nil (wpAny_pure ?_)) (.inr hx)))
  have sw : ((σ.set l (some w)).set j (some v)).set i (some u) = ((σ.set i (some u)).set j (some v)).set l (some w) := by
    rw [List.set_comm (some v) (some u) (Ne.symm hij), List.set_comm (some w) (some u) (Ne.symm hil), List.set_comm (some w) (some v) (Ne.symm hjl)]
  rw [sw] at I6
  exact ⟨_, H1, I6, q1⟩
end
end
end Pv

/-! F2: sorted(set), len(set), in set. -/
namespace Pv
open PySem L2 PySem.Spec PyProof.Rows

theorem le_trans (x y z : P) (h1 : P.le x y = true) (h2 : P.le y z = true) : P.le x z = true := by
  simp only [P.le, P.lt, Bool.not_eq_true', PySem.W.dataLt] at h1 h2 ⊢
  cases q : lexLt itemOrd (PySem.W.keyToks z.py) (PySem.W.keyToks x.py) with
  | false => rfl
  | true =>
    rcases lex_negTrans (O := itemOrd) _ (PySem.W.keyToks y.py) _ q with h | h
    · rw [h] at h2; cases h2
    · rw [h] at h1; cases h1
theorem le_total (x y : P) : (P.le x y || P.le y x) = true := by
  simp only [P.le, P.lt, PySem.W.dataLt]
  cases q : lexLt itemOrd (PySem.W.keyToks y.py) (PySem.W.keyToks x.py) with
  | false => rfl
  | true =>
    cases q2 : lexLt itemOrd (PySem.W.keyToks x.py) (PySem.W.keyToks y.py) with
    | false => rfl
    | true =>
      have := lex_trans (O := itemOrd) _ _ _ q q2
      rw [lex_irrefl] at this
      cases this
theorem le_anti {x y : P} (hx : x.isKs = true) (hy : y.isKs = true) (h1 : P.le x y = true) (h2 : P.le y x = true) : x = y := by
  simp only [P.le, P.lt, Bool.not_eq_true', PySem.W.dataLt] at h1 h2
  have e := lex_total (O := itemOrd) _ _ h2 h1
  cases x <;> cases y <;> first | (cases hx; done) | (cases hy; done) | skip
  · simp only [P.py, PySem.W.keyToks, List.cons.injEq, Sum.inl.injEq, and_true] at e
    rw [e]
  · simp [P.py, PySem.W.keyToks] at e
  · simp [P.py, PySem.W.keyToks] at e
  · simp only [P.py, PySem.W.keyToks, List.cons.injEq, Sum.inr.injEq, and_true] at e
    rw [PySem.W.str_of_cps e]
/-- the order of the members does not matter -/
theorem sort_perm {xs ys : List P} (p : xs.Perm ys) (k : ∀ x ∈ xs, x.isKs = true) : xs.mergeSort P.le = ys.mergeSort P.le := by
  have p2 : (xs.mergeSort P.le).Perm (ys.mergeSort P.le) := (List.mergeSort_perm _ _).trans (p.trans (List.mergeSort_perm _ _).symm)
  refine List.Perm.eq_of_pairwise (le := fun a b => P.le a b = true) (fun a b ha hb h1 h2 => ?_) (List.pairwise_mergeSort (le := P.le) le_trans le_total xs) (List.pairwise_mergeSort (le := P.le) le_trans le_total ys) p2
  exact le_anti (k a (List.mem_mergeSort.mp ha)) (k b (p.mem_iff.mpr (List.mem_mergeSort.mp hb))) h1 h2
theorem perm_map {α β : Type} {f : α → β} : ∀ {ks : List β} {ms : List β}, ks.Perm ms → ∀ {xs : List α}, ms = xs.map f → ∃ ys : List α, ks = ys.map f ∧ ys.Perm xs := by
  intro ks ms p
  induction p with
  | nil =>
    intro xs e
    cases xs with
    | nil => exact ⟨[], rfl, List.Perm.refl _⟩
    | cons _ _ => cases e
  | cons x _ ih =>
    intro xs e
    cases xs with
    | nil => cases e
    | cons y xs =>
      rw [List.map_cons] at e
      injection e with e1 e2
      obtain ⟨ys, h1, h2⟩ := ih e2
      exact ⟨y :: ys, by rw [List.map_cons, ← e1, ← h1], h2.cons _⟩
  | swap x y l =>
    intro xs e
    match xs, e with
    | a :: b :: xs, e =>
      rw [List.map_cons, List.map_cons] at e
      injection e with e1 e2
      injection e2 with e2 e3
      exact ⟨b :: a :: xs, by rw [List.map_cons, List.map_cons, ← e1, ← e2, ← e3], List.Perm.swap _ _ _⟩
  | trans _ _ ih1 ih2 =>
    intro xs e
    obtain ⟨ys, h1, h2⟩ := ih2 e
    obtain ⟨zs, h3, h4⟩ := ih1 h1
    exact ⟨zs, h3, h4.trans h2⟩
section
variable {X : Cx} {pins : List (Addr × Obj)} {σ : L2.St} {H : Hp} {s : Shared} {a : Addr} {xs : List P}
theorem set_each {Pr : Program} {w : World} {K : PySem.W.Frag} {H : Hp} : ∀ {es : List (Int × Value)} {ys : List P}, SE Pr w es (ys.map P.lf) → (ys.all P.leaf) = true → PySem.W.EachIs (fun u p => ∃ v, RelP K H p v ∧ RelV v u) (es.map (·.2)) ys
  | [], [], _, _ => .nil
  | e :: es, y :: ys, h, l => by
    rw [List.all_cons, Bool.and_eq_true] at l
    cases h with
    | cons p r => exact .cons ⟨_, leafV_rel l.1, of_lf p.1⟩ (set_each r l.2)
  | [], _ :: _, h, _ => by cases h
  | _ :: _, [], h, _ => by cases h
theorem each_perm {R : Value → P → Prop} {us us' : List Value} (p : us'.Perm us) : ∀ {ps : List P}, PySem.W.EachIs R us ps → ∃ ps', PySem.W.EachIs R us' ps' ∧ ps'.Perm ps := by
  induction p with
  | nil => intro ps h; exact ⟨ps, h, List.Perm.refl _⟩
  | cons x _ ih =>
    intro ps h
    cases h with
    | cons q r =>
      obtain ⟨ps', h1, h2⟩ := ih r
      exact ⟨_ :: ps', .cons q h1, h2.cons _⟩
  | swap x y l =>
    intro ps h
    cases h with
    | cons q r => cases r with
      | cons q2 r2 => exact ⟨_, .cons q2 (.cons q r2), List.Perm.swap _ _ _⟩
  | trans _ _ ih1 ih2 =>
    intro ps h
    obtain ⟨k1, a1, a2⟩ := ih2 h
    obtain ⟨k2, b1, b2⟩ := ih1 a1
    exact ⟨k2, b1, b2.trans a2⟩
/-- sorted of a set -/
theorem call_sortedSet (hc : X.calm = true) (hu : X.A.units + 66 < cLine) (I : Inv X pins σ H s) (R : SetL X.prog X.w s.heap a (xs.map P.lf)) (lf : (xs.all P.leaf) = true) (ks : ∀ x ∈ xs, x.isKs = true) (so : sortable xs = true) {Q : VK}
    (q : ∀ p ws, H p = none → RelPs X.K H (xs.mergeSort P.le) ws → Q (.ref p) (upd H p (.lst ws))) : wpAny (model X.prog X.w) X.A (call (.builtin "sorted") [.ref a]) (EP X pins σ Q) X.xe s := by
  obtain ⟨nd, o, es, ep, t, ho, hx, hd, ⟨kk, g, pm⟩, hb, hf, hr, hl⟩ := R
  obtain ⟨ys, rfl, py⟩ := perm_map pm rfl
  have ly : (ys.all P.leaf) = true := List.all_eq_true.mpr fun x hx => List.all_eq_true.mp lf x (py.mem_iff.mp hx)
  have sz : es.size = xs.length := by rw [← py.length_eq, ← List.length_map (f := P.lf), ← Paired.length g, Array.length_toList]
  refine Calls.call_function_entry kind_sorted plain_sorted entry_sorted (args_sorted1 _) ?_
  unfold Builtin.«sorted»; refine wpAny_bind (m := checkCount "sorted" 1 1 _) (wpAny_pure ?_)
  refine wpAny_bind (collect_set (A := X.A.in1) (I.ok.hd hc) ⟨o, ho, hx.1, hd⟩ hf hb hr hl fun s1 us k1 hz g1 o1 pu => ?_)
  obtain ⟨ps, ep', pp⟩ := each_perm pu (set_each (K := X.K) (H := H) g ly)
  have pps : ps.Perm xs := pp.trans py
  have lus : us.length = xs.length := by rw [ep'.length, pps.length_eq]
  have so' : sortable ps = true := by
    unfold sortable at so ⊢
    simp only [Bool.and_eq_true, Bool.or_eq_true, List.all_eq_true] at so ⊢
    obtain ⟨⟨q1, q2⟩, q3⟩ := so
    exact ⟨⟨fun x hx y hy => q1 x (pps.mem_iff.mp hx) y (pps.mem_iff.mp hy), q2.imp (fun z x hx => z x (pps.mem_iff.mp hx)) fun z x hx => z x (pps.mem_iff.mp hx)⟩, fun x hx => q3 x (pps.mem_iff.mp hx)⟩
  obtain ⟨al, sb, dp⟩ := sortable_alike so'
  have small : us.length ≤ sizeLine := by
    rw [lus, ← sz]
    exact fits_of_scanBound hb
  refine wpAny_bind (wpAny_newList ?_ (by exact small))
  have hoL : (s1.heap.push (seqObj "list" us.toArray 0)).get? s1.heap.objs.size = some (seqObj "list" us.toArray 0) := Heap.get?_push_size _ rfl
  have kps : ∀ x ∈ ps, x.isKs = true := fun x hx => ks x (pps.mem_iff.mp hx)
  have er : ∀ hh : Heap, PySem.W.EachIs (fun u (p : P) => ∃ as, Reads hh u p.py as ∧ s1.heap.objs.size ∉ as) us ps := by
    intro hh
    clear pu lus small hoL so' al sb dp pp pps
    induction ep' with
    | nil => exact .nil
    | @cons u p us ps h _ ih =>
      refine .cons ?_ (ih fun x hx => kps x (List.mem_cons_of_mem _ hx))
      obtain ⟨v, r1, r2⟩ := h
      have kp := kps p List.mem_cons_self
      cases r1 with
      | int i => obtain ⟨t, rfl⟩ := r2; exact ⟨[], .int _ _, List.not_mem_nil⟩
      | str x => obtain ⟨t, rfl⟩ := r2; exact ⟨[], .str _ _, List.not_mem_nil⟩
      | non => cases kp
      | bl _ => cases kp
      | tup _ _ => cases kp
  refine wpAny_bind (wpAny_holding ?_)
  show wpAny _ _ (call (.builtin "list.sort") [.ref s1.heap.objs.size]) _ _ _
  refine PySem.W.list_sort_data (enc := P.py) (R := fun u p => ∃ v, RelP X.K H p v ∧ RelV v u) hoL ep' (er _) al sb (by rw [← ep'.length]; exact small) (fun b hb => by
    rw [py_depth]
    have := dp b hb
    show X.A.units + 1 + 1 + b.depth < cLine
    omega) fun out lo eo => ?_
  rw [← le_dataLe, sort_perm pps kps] at eo
  obtain ⟨ws, r1, r2⟩ := of_each eo
  obtain ⟨cc, hcc⟩ := sortedHeap_at (vs := us) (out := out.toArray) hoL
  have kept : ∀ b u, s.heap.get? b = some u → (sortedHeap (s1.heap.push (seqObj "list" us.toArray 0)) s1.heap.objs.size us out.toArray).get? b = some u := fun b u e => by
    have q1 := k1 b u e
    have lt := Heap.lt_size q1
    rw [sortedHeap_old (Nat.ne_of_lt lt) (by rw [size_push']; exact Nat.lt_succ_of_lt lt)]
    exact Heap.get?_push_of_some _ q1
  have fr : H s1.heap.objs.size = none := I.hok.fresh hz
  have lw : ws.length ≤ sizeLine := by
    have l1 := r2.length
    rw [lo, ← ep'.length] at l1
    rw [l1]
    exact small
  refine wpAny_pure ⟨_, rfl, ?_⟩
  refine ⟨.ref s1.heap.objs.size, upd H s1.heap.objs.size (.lst ws), ?_, rfl, q _ ws fr r1⟩
  have J : Inv X pins σ (upd H s1.heap.objs.size (.lst ws)) { s with heap := sortedHeap (s1.heap.push (seqObj "list" us.toArray 0)) s1.heap.objs.size us out.toArray, gens := s1.gens, drawn := s1.drawn, toks := s1.toks } :=
    I.call (ch := []) (Un.laid kept hz fr) (I.hok.laid kept hz ⟨lw, out, cc, r2, hcc⟩) (by rw [g1]; exact I.bare) (fun _ z => nomatch z)
  obtain ⟨sh, sg, sd, st, so2⟩ := s
  obtain ⟨h1, g1', d1, t1, o1'⟩ := s1
  obtain rfl : g1' = sg := g1
  obtain rfl : o1' = so2 := o1
  exact J

/-- len of a set -/
theorem set_len (I : Inv X pins σ H s) (R : SetL X.prog X.w s.heap a (xs.map P.lf)) {Q : Value → Shared → Prop} {E : Value → Shared → Prop} (q : ∀ t s', Inv X pins σ H s' → Q (.int xs.length t) s') : wpAny (model X.prog X.w) X.A (call (.builtin "len") [.ref a]) Q E s := by
  obtain ⟨nd, o, es, ep, t, ho, hx, hd, ⟨kk, g, pm⟩, hb, hf, hr, hl⟩ := R
  have sz : es.size = xs.length := by rw [← List.length_map (f := P.lf), ← pm.length_eq, ← Paired.length g, Array.length_toList]
  have sb : scanBound = 4096 := rfl
  refine call_len_set ho hx hd hf (by omega) ?_
  rw [sz]
  exact q _ _ (I.tok _)
/-- k in a set -/
theorem set_in (I : Inv X pins σ H s) (R : SetL X.prog X.w s.heap a (xs.map P.lf)) (lf : (xs.all P.leaf) = true) {k : P} {v : V} {u : Value} (hk : k.leaf = true) (r : RelP X.K H k v) (ru : RelV v u) (neg : Bool) {Q : Value → Shared → Prop} {E : Value → Shared → Prop}
    (q : ∀ s', Inv X pins σ H s' → Q (.bool (if neg then !xs.contains k else xs.contains k)) s') : wpAny (model X.prog X.w) X.A (compareOp (if neg then .NotIn else .In) u (.ref a)) Q E s := by
  have is := lf_of hk r ru
  have e : (xs.map P.lf).contains k.lf = xs.contains k := by
    rw [Bool.eq_iff_iff, List.contains_iff_mem, List.contains_iff_mem]
    constructor
    · intro h
      obtain ⟨x, hx, e⟩ := List.mem_map.mp h
      rw [← lf_inj (List.all_eq_true.mp lf x hx) hk e]
      exact hx
    · intro h
      exact List.mem_map.mpr ⟨k, h, rfl⟩
  rw [← e] at q
  cases neg with
  | true => exact wpAny_notInSet_of (knd := lfKind X.prog X.w) is (lf_scan is) R.setOf (q _ (I.tok _))
  | false => exact wpAny_inSet_of (knd := lfKind X.prog X.w) is (lf_scan is) R.setOf (q _ (I.tok _))
theorem dedup_lf : ∀ (ps acc : List P), (ps.all P.leaf) = true → (acc.all P.leaf) = true → (dedup acc ps).map P.lf = (ps.map P.lf).foldl addL (acc.map P.lf) ∧ ((dedup acc ps).all P.leaf) = true
  | [], acc, _, h => ⟨rfl, h⟩
  | p :: ps, acc, h1, h2 => by
    rw [List.all_cons, Bool.and_eq_true] at h1
    have e : addL (acc.map P.lf) p.lf = (if acc.contains p then acc else acc ++ [p]).map P.lf := by
      unfold addL
      by_cases m : p ∈ acc
      · rw [if_pos (List.mem_map.mpr ⟨p, m, rfl⟩), if_pos (List.contains_iff_mem.mpr m)]
      · rw [if_neg (fun z => by
          obtain ⟨x, hx, e⟩ := List.mem_map.mp z
          rw [lf_inj (List.all_eq_true.mp h2 x hx) h1.1 e] at hx
          exact m hx), if_neg (fun z => m (List.contains_iff_mem.mp z)), List.map_append]
        rfl
    have l2 : ((if acc.contains p then acc else acc ++ [p]).all P.leaf) = true := by
      split
      · exact h2
      · rw [List.all_append, h2]; simp [h1.1]
    rw [dedup, List.map_cons, List.foldl_cons, e]
    exact dedup_lf ps _ h1.2 l2
theorem dedup_nd : ∀ (ps acc : List P), acc.Nodup → (dedup acc ps).Nodup
  | [], _, h => h
  | p :: ps, acc, h => by
    rw [dedup]
    refine dedup_nd ps _ ?_
    split
    · exact h
    · rename_i m
      rw [List.nodup_append]
      exact ⟨h, (by simp), fun y hy z hz => by
        rw [List.mem_singleton.mp hz]
        rintro rfl
        exact m (List.contains_iff_mem.mpr hy)⟩
theorem lv_of {K : PySem.W.Frag} {H : Hp} : ∀ {ps : List P} {vs : List V} {us : List Value}, (ps.all P.leaf) = true → RelPs K H ps vs → Vals vs us → LV (ps.map P.lf) us
  | _, _, _, _, .nil, .nil => .nil
  | _, _, _, l, .cons h hs, .cons r rs => by
    rw [List.all_cons, Bool.and_eq_true] at l
    exact .cons (lf_of l.1 h r) (lv_of l.2 hs rs)
theorem setL_ok {Pr : Program} {w : World} {h : Heap} (R : SetL Pr w h a (xs.map P.lf)) : ObjOk Pr w H h a (setO Pr w a xs) := by
  have ⟨_, o, _, _, _, ho, _⟩ := R
  exact ⟨R, ⟨o, ho⟩, fun h1 h2 p k => p.kept k⟩
end
end Pv

/-! G: what is walked: enumerate and zip over lists and tuples in any mix. -/
namespace Pv
open PySem L2 PySem.Spec PyProof.Rows

/-- a list (true) or a tuple (false) that is read -/
def SqB (K : PySem.W.Frag) (H : Hp) (a : Addr) (xs : List V) : Bool → Prop
  | true => SqL K H a xs
  | false => SqT K H a xs
def IsItB (h : Heap) (it a : Addr) (i : Nat) : Bool → Prop
  | true => h.IsListIter it a i
  | false => h.IsTupleIter it a i
def IsSrcB (h : Heap) (a : Addr) (xs : Array Value) : Bool → Prop
  | true => h.IsList a xs
  | false => h.IsTuple a xs
def newIt (a : Addr) : Bool → Obj
  | true => { cls := .type "list_iterator", data := .fields #[.ref a, .int 0 0] }
  | false => { cls := .type "tuple_iterator", data := .fields #[.ref a, .int 0 0] }
section
variable {X : Cx} {pins : List (Addr × Obj)} {σ : L2.St} {H : Hp} {s : Shared} {a : Addr} {xs ys : List V} {k : Bool}
theorem inv_src (I : Inv X pins σ H s) (h : SqB X.K H a xs k) : ∃ its : List Value, Vals xs its ∧ IsSrcB s.heap a its.toArray k ∧ xs.length ≤ sizeLine ∧ a < s.heap.objs.size := by
  cases k with
  | true => obtain ⟨its, r, p, z⟩ := I.list h; obtain ⟨_, e, _⟩ := id p.isList; exact ⟨its, r, p.isList, z, Heap.lt_size e⟩
  | false => obtain ⟨its, r, p, z⟩ := I.tuple h; exact ⟨its, r, p, z, p.lt⟩
theorem inv_src_inj (I : Inv X pins σ H s) (h : SqB X.K H a xs k) (h' : SqB X.K H a ys k) : xs = ys := by
  cases k with
  | true => exact I.list_inj h h'
  | false => exact I.tuple_inj h h'
theorem begins_src (k : Bool) (a : Addr) (xs : Array Value) : Begins (.ref a) (newIt a k) (fun h => IsSrcB h a xs k) := by
  cases k with
  | true => exact begins_list a xs
  | false => exact begins_tuple a xs
theorem draws_src {prog : Program} {w : World} {A : Around} (hh : A.handled = none) (k : Bool) (it a : Addr) (ne : a ≠ it) (xs : Array Value) : Draws prog w A it [it, a] xs.size (fun i v => xs[i]? = some v) (fun i h => IsItB h it a i k ∧ IsSrcB h a xs k) := by
  cases k with
  | true => exact Draws.list hh it a ne xs
  | false => exact Draws.tuple hh it a ne xs
theorem isIt_new {h : Heap} {it a : Addr} (k : Bool) (e : h.get? it = some (newIt a k)) : IsItB h it a 0 k := by
  cases k with
  | true => exact ⟨_, e, rfl, rfl⟩
  | false => exact ⟨_, e, rfl, rfl⟩
theorem isIt_at {h h' : Heap} {it a : Addr} {i : Nat} {k : Bool} (x : IsItB h it a i k) (hk : ∀ o, h.get? it = some o → h'.get? it = some o) : IsItB h' it a i k := by
  cases k with
  | true => exact Heap.IsListIter.at x hk
  | false => exact Heap.IsTupleIter.at x hk
theorem isIt_obj {h : Heap} {it a : Addr} {i : Nat} {k : Bool} (x : IsItB h it a i k) : ∃ o, h.get? it = some o ∧ ∀ v, o.data ≠ .cell v := by
  cases k with
  | true => obtain ⟨o, e, _, d⟩ := x; exact ⟨o, e, fun v z => by rw [d] at z; cases z⟩
  | false => obtain ⟨o, e, _, d⟩ := x; exact ⟨o, e, fun v z => by rw [d] at z; cases z⟩
end

/-! ### enumerate -/
def Ie (K : PySem.W.Frag) (a : Addr) (k : Bool) : It :=
  ⟨fun i H => ∃ (xs : List V) (x : V), SqB K H a xs k ∧ xs[i]? = some x, fun i H v H' => ∃ T x, v = .ref T ∧ H T = none ∧ H' = upd H T (.tup [.int (i : Nat), x]) ∧ ∀ xs, SqB K H a xs k → xs[i]? = some x, fun i H => ∃ xs : List V, SqB K H a xs k ∧ xs.length = i⟩
theorem turn_enumB {P : Program} {w : World} {K : PySem.W.Frag} {elts : List Expr} {kk : Nat} {tpos : Pos} (a e it : Addr) (k : Bool) (ne : a ≠ it) (ne2 : e ≠ it) (ne3 : e ≠ a) :
    Turn P w K (.Tuple elts kk tpos) (Ie K a k) [e, it] e (fun i h => (∃ old, IsEnum h e it ((0 : Int) + (i : Int)) old) ∧ IsItB h it a i k) where
  mem := by simp
  obj := fun i h st b hb => by
    obtain ⟨⟨old, he⟩, hi⟩ := st
    have e' : b = e ∨ b = it := by simpa using hb
    rcases e' with z | z
    · rw [z]; exact ⟨_, he, fun v q => nomatch q⟩
    · rw [z]; exact isIt_obj hi
  keep := fun i h h' st k => let ⟨⟨old, he⟩, hi⟩ := st; ⟨⟨old, k e (by simp) _ he⟩, isIt_at hi fun o q => k it (by simp) o q⟩
  item := by
    intro X hP hw hK hc i pins s σ H E I hf st hg
    subst hP hw hK
    obtain ⟨⟨old, he⟩, hi⟩ := st
    obtain ⟨xs, x, sq, hx⟩ := hg
    obtain ⟨its, rv, src, hz, la⟩ := inv_src I sq
    obtain ⟨u, hu, ru⟩ := rv.get hx
    have il : i < its.toArray.size := by simpa using (List.getElem?_eq_some_iff.mp hu).1
    have hel : e < s.heap.objs.size := Heap.lt_size he
    obtain ⟨oi, hoi, _⟩ := isIt_obj hi
    have hil : it < s.heap.objs.size := Heap.lt_size hoi
    have G := GoesN.enumFrom (prog := X.prog) (w := X.w) (A := X.A) (elts := elts) (x1 := kk) (pos := tpos) 0 (draws_src (A := X.A.in1) (I.ok.hd hc) k it a ne its.toArray) e ne2 (by simp [ne2, ne3]) (by simp)
    refine thn (G.goes i s (fun v s2 => ∃ x H', Inv X pins σ H' s2 ∧ RelV x v ∧ (Ie X.K a k).yld i H x H' ∧ ((∃ old, IsEnum s2.heap e it ((0 : Int) + ((i + 1 : Nat) : Int)) old) ∧ IsItB s2.heap it a (i + 1) k) ∧ ∀ b ∈ [e, it], H' b = none) E il ⟨⟨old, he⟩, hi, src⟩ ?_) fun r s1 ⟨v, e1, q⟩ => ⟨v, e1, q⟩
    rintro v h' tk ⟨T, t, y, rfl, hT, hy, isT⟩ ⟨en, hi', _⟩ hk htk
    have ey : y = u := by
      have : its.toArray[i]? = some u := by simpa using hu
      rw [this] at hy; exact (Option.some.inj hy).symm
    subst ey
    have new : ObjOk X.prog X.w (upd H T (.tup [.int (i : Nat), x])) h' T (.tup [.int (i : Nat), x]) :=
      ⟨by show 2 ≤ sizeLine; decide, [.int ((0 : Int) + (i : Int)) t, y], .cons ⟨t, by rw [Int.zero_add]⟩ (.cons ru .nil), (by have := isT; simpa [IsTup, Heap.IsTuple] using this)⟩
    have J : Inv X pins σ (upd H T (.tup [.int (i : Nat), x])) { s with heap := h', toks := tk } := I.turnedNew (ch := [e, it]) (fun b ob hb q => hk b ob hb q) hf hT new
    refine ⟨.ref T, _, J, rfl, ⟨T, x, rfl, I.hok.fresh hT, rfl, fun ys hy => by rw [inv_src_inj I hy sq]; exact hx⟩, ⟨en, hi'⟩, fun b hb => ?_⟩
    have hb' : b < s.heap.objs.size := by
      have e' : b = e ∨ b = it := by simpa using hb
      rcases e' with z | z
      · rw [z]; exact hel
      · rw [z]; exact hil
    rw [upd_ne (Nat.ne_of_lt (Nat.lt_of_lt_of_le hb' hT))]
    exact (hf b hb).1
  done := by
    intro X hP hw hK hc i pins s σ H E I hf st hg
    subst hP hw hK
    obtain ⟨⟨old, he⟩, hi⟩ := st
    obtain ⟨xs, sq, hx⟩ := hg
    obtain ⟨its, rv, src, hz, la⟩ := inv_src I sq
    have en : i = its.toArray.size := by rw [List.size_toArray, ← rv.length, hx]
    have G := GoesN.enumFrom (prog := X.prog) (w := X.w) (A := X.A) (elts := elts) (x1 := kk) (pos := tpos) 0 (draws_src (A := X.A.in1) (I.ok.hd hc) k it a ne its.toArray) e ne2 (by simp [ne2, ne3]) (by simp)
    exact G.stops s (fun s1 => Inv X pins σ H s1) E ⟨⟨old, by rw [← en]; exact he⟩, by rw [← en]; exact hi, src⟩ fun h' tk hk _ => I.turnedL (ch := [e, it]) (fun c o hb q => hk c o hb q) hf
  self := fun A i s Q E st h => let ⟨⟨_, he⟩, _⟩ := st; wpAny_pyIter_enum he h
theorem meets_enumerate_1B {v : Value} {o : Obj} {H : Heap → Prop} (B : Begins v o H) :
    Meets (Builtin.«enumerate.__new__» ⟨[.type "enumerate", v], []⟩) (fun _ R s => H s.heap ∧
      R (.ok (.ret (.ref (s.heap.push o).objs.size))) { s with heap := (s.heap.push o).push { cls := .type "enumerate", data := .fields #[.none, .bool false, .ref s.heap.objs.size, rawInt 0, .none, .none] } }) :=
  .of_wp fun prog w A R s h => by
    obtain ⟨hp, g, d, tk, os⟩ := s
    obtain ⟨h1, h⟩ := h
    have hsub := sub_enumerate
    have q1 : ∀ {A' : Around} {E : Value → Shared → Prop} {Q : Value → Shared → Prop}, Q (.ref hp.objs.size) ⟨hp.push o, g, d, tk, os⟩ → wpAny (model prog w) A' (pyIter v) Q E ⟨hp, g, d, tk, os⟩ :=
      fun q => B.iter prog w _ _ ⟨hp, g, d, tk, os⟩ _ h1 q
    wp_walk using q1
    refine wpAny_stack_any fun st => wpAny_pure ?_
    split
    · rename_i c _ _ _ _ _
      cases (c == Value.type "enumerate")
      · wp_walk using q1
        exact ⟨_, rfl, h⟩
      · wp_walk using q1
        exact ⟨_, rfl, h⟩
    · wp_walk using q1
      exact ⟨_, rfl, h⟩
theorem enum_begins1 {prog : Program} {w : World} {A : Around} {E : Value → Shared → Prop} {s : Shared} {v : Value} {o : Obj} {H : Heap → Prop} {Q : Value → Shared → Prop} (B : Begins v o H) (h1 : H s.heap)
    (h : ∀ h', IsEnum h' (s.heap.objs.size + 1) s.heap.objs.size 0 .none → h'.get? s.heap.objs.size = some o → h'.objs.size = s.heap.objs.size + 2 → (∀ b o, s.heap.get? b = some o → h'.get? b = some o) → Q (.ref (s.heap.objs.size + 1)) { s with heap := h' }) :
    wpAny (model prog w) A (call (.type "enumerate") [v]) Q E s := by
  refine callType_new F.called_enumerate (by decide) (F.typeCall_enumerate_1 _) (F.newCall_enumerate_1 _) (fun obj => F.args_object_init_2 obj _) F.entry_enumerate_new (meets_enumerate_1B B) ⟨h1, ?_⟩
  have hz : (s.heap.push o).objs.size = s.heap.objs.size + 1 := Heap.size_push ..
  show _ ∧ _
  rw [hz]
  have e1 : (s.heap.push o).get? s.heap.objs.size = some o := by
    have hd : o.isFreed = false := B.free
    exact Heap.get?_push_size _ (by first | exact hd | (cases o; rename_i c d dt sl; cases dt <;> first | rfl | (simp [Obj.isFreed] at hd)))
  refine ⟨⟨{ cls := .type "enumerate", data := .fields #[.none, .bool false, .ref s.heap.objs.size, rawInt 0, .none, .none] }, ?_, rfl⟩, h _ ?_ ?_ ?_ ?_⟩
  · rw [← hz]; exact Heap.get?_push_size _ rfl
  · have := Heap.get?_push_size (s.heap.push o) (o := { cls := .type "enumerate", data := .fields #[.none, .bool false, .ref s.heap.objs.size, rawInt 0, .none, .none] }) rfl
    rw [hz] at this
    exact this
  · exact Heap.get?_push_of_some _ e1
  · rw [Heap.size_push, hz]
  · exact fun b o e => Heap.get?_push_of_some _ (Heap.get?_push_of_some _ e)
def iEnumB (K : PySem.W.Frag) (ta : TA) : TI := fun σ H R => ta σ H fun vs H1 => ∃ a xs k, vs = [.ref a] ∧ SqB K H1 a xs k ∧ R (Ie K a k) H1
theorem pi_enumB {X : Cx} {e : Expr} {ta : TA} {p pos tpos : Pos} {elts : List Expr} {kk : Nat} (hg : Gl X "enumerate") (hm : X.mg "enumerate" = none) (ha : PA X [e] ta) (hs : starEach [e] X.env = [(false, eval e X.env)] := by rfl) :
    PI X (.Tuple elts kk tpos) (.Call (.Name "enumerate" p) [e] [] pos) (iEnumB X.K ta) := by
  refine ⟨fun pins s σ H R I h => ?_⟩
  refine Call_ (ld_blt I hg hm boot_enumerate (PyProof.Rows.callWith_type1 (thn (ha.run pos pins s σ H _ I h) fun us s1 ⟨vs, H1, I1, r1, q1⟩ => ?_) hs rfl))
  obtain ⟨a, xs, k, ex, sq, q⟩ := q1
  subst ex
  obtain ⟨u, rfl, ru⟩ := vals1 r1
  cases ru
  obtain ⟨its, rv, src, hz, la⟩ := inv_src I1 sq
  refine enum_begins1 (begins_src k a its.toArray) src fun h' he hit hsz hk => wpAny_pyIter_enum he ?_
  have I2 : Inv X pins σ H1 { s1 with heap := h' } := I1.kept (t' := s1.toks) hk
  refine ⟨s1.heap.objs.size + 1, [s1.heap.objs.size + 1, s1.heap.objs.size], _, _, H1, rfl, I2, turn_enumB a (s1.heap.objs.size + 1) s1.heap.objs.size k (Nat.ne_of_lt la) (Nat.succ_ne_self _) (Nat.ne_of_gt (Nat.lt_succ_of_lt la)), ⟨⟨.none, he⟩, isIt_new k hit⟩, fun b hb => ?_, q⟩
  have hle : s1.heap.objs.size ≤ b := by
    have e' : b = s1.heap.objs.size + 1 ∨ b = s1.heap.objs.size := by simpa using hb
    rcases e' with z | z
    · rw [z]; exact Nat.le_add_right _ _
    · rw [z]; exact Nat.le_refl _
  exact I1.fpOk hle (I1.hok.fresh hle)

/-! ### zip -/
def Iz (K : PySem.W.Frag) (a b : Addr) (k l : Bool) : It :=
  ⟨fun i H => ∃ (xs ys : List V) (x y : V), SqB K H a xs k ∧ SqB K H b ys l ∧ xs[i]? = some x ∧ ys[i]? = some y,
    fun i H v H' => ∃ T x y, v = .ref T ∧ H T = none ∧ H' = upd H T (.tup [x, y]) ∧ (∀ xs, SqB K H a xs k → xs[i]? = some x) ∧ ∀ ys, SqB K H b ys l → ys[i]? = some y,
    fun i H => ∃ xs ys : List V, SqB K H a xs k ∧ SqB K H b ys l ∧ min xs.length ys.length = i⟩
theorem turn_zipB {P : Program} {w : World} {K : PySem.W.Frag} {elts : List Expr} {kk : Nat} {tpos : Pos} {a b z TI TO i1 i2 : Addr} (k l : Bool) (D : ZipSep2 z TI TO i1 i2 [i1, a] [i2, b]) (n1 : a ≠ i1) (n2 : b ≠ i2) :
    Turn P w K (.Tuple elts kk tpos) (Iz K a b k l) [z, TI, TO, i1, i2] z (fun i h => IsZip h z TI TO .none ∧ IsTupOf2 h TI (.ref i1) (.ref i2) ∧ (∃ x y, IsTupOf2 h TO x y) ∧ IsItB h i1 a i k ∧ IsItB h i2 b i l) where
  mem := by simp
  obj := fun i h st c hc => by
    obtain ⟨hz, hTI, ⟨x, y, hTO⟩, h1, h2⟩ := st
    have e' : c = z ∨ c = TI ∨ c = TO ∨ c = i1 ∨ c = i2 := by simpa using hc
    rcases e' with q | q | q | q | q
    · rw [q]; exact ⟨_, hz, fun v q => nomatch q⟩
    · rw [q]; exact ⟨_, hTI, fun v q => nomatch q⟩
    · rw [q]; exact ⟨_, hTO, fun v q => nomatch q⟩
    · rw [q]; exact isIt_obj h1
    · rw [q]; exact isIt_obj h2
  keep := fun i h h' st k => by
    obtain ⟨hz, hTI, ⟨x, y, hTO⟩, h1, h2⟩ := st
    exact ⟨k z (by simp) _ hz, k TI (by simp) _ hTI, ⟨x, y, k TO (by simp) _ hTO⟩, isIt_at h1 fun o q => k i1 (by simp) o q, isIt_at h2 fun o q => k i2 (by simp) o q⟩
  item := by
    intro X hP hw hK hc i pins s σ H E I hf st hg
    subst hP hw hK
    obtain ⟨hz, hTI, hTO, h1, h2⟩ := st
    obtain ⟨xs, ys, x, y, sx, sy, hx, hy⟩ := hg
    obtain ⟨its, rv, src, _, _⟩ := inv_src I sx
    obtain ⟨its2, rv2, src2, _, _⟩ := inv_src I sy
    obtain ⟨u, hu, ru⟩ := rv.get hx
    obtain ⟨u2, hu2, ru2⟩ := rv2.get hy
    have il : i < min its.toArray.size its2.toArray.size := Nat.lt_min.mpr ⟨by simpa using (List.getElem?_eq_some_iff.mp hu).1, by simpa using (List.getElem?_eq_some_iff.mp hu2).1⟩
    have lt : ∀ c ∈ [z, TI, TO, i1, i2], c < s.heap.objs.size := fun c hc => by
      have e' : c = z ∨ c = TI ∨ c = TO ∨ c = i1 ∨ c = i2 := by simpa using hc
      rcases e' with q | q | q | q | q
      · rw [q]; exact Heap.lt_size hz
      · rw [q]; exact Heap.lt_size hTI
      · rw [q]; obtain ⟨_, _, e⟩ := hTO; exact Heap.lt_size e
      · rw [q]; obtain ⟨_, e, _⟩ := isIt_obj h1; exact Heap.lt_size e
      · rw [q]; obtain ⟨_, e, _⟩ := isIt_obj h2; exact Heap.lt_size e
    have G := GoesN.zip2 (prog := X.prog) (w := X.w) (A := X.A) (elts := elts) (x1 := kk) (pos := tpos) D (draws_src (A := X.A.in1) (I.ok.hd hc) k i1 a n1 its.toArray) (draws_src (A := X.A.in1) (I.ok.hd hc) l i2 b n2 its2.toArray)
    refine thn (G.goes i s (fun v s2 => ∃ x H', Inv X pins σ H' s2 ∧ RelV x v ∧ (Iz X.K a b k l).yld i H x H' ∧ (IsZip s2.heap z TI TO .none ∧ IsTupOf2 s2.heap TI (.ref i1) (.ref i2) ∧ (∃ x y, IsTupOf2 s2.heap TO x y) ∧ IsItB s2.heap i1 a (i + 1) k ∧ IsItB s2.heap i2 b (i + 1) l) ∧ ∀ b ∈ [z, TI, TO, i1, i2], H' b = none) E il ⟨hz, hTI, hTO, ⟨h1, src⟩, h2, src2⟩ ?_) fun r s1 ⟨v, e1, q⟩ => ⟨v, e1, q⟩
    rintro v h' tk ⟨T, y1, y2, rfl, hT, e1, e2, isT⟩ ⟨hz', hTI', hTO', ⟨h1', _⟩, h2', _⟩ hk htk
    have ey : y1 = u := by
      have : its.toArray[i]? = some u := by simpa using hu
      rw [this] at e1; exact (Option.some.inj e1).symm
    have ey2 : y2 = u2 := by
      have : its2.toArray[i]? = some u2 := by simpa using hu2
      rw [this] at e2; exact (Option.some.inj e2).symm
    subst ey ey2
    have new : ObjOk X.prog X.w (upd H T (.tup [x, y])) h' T (.tup [x, y]) :=
      ⟨by show 2 ≤ sizeLine; decide, [y1, y2], .cons ru (.cons ru2 .nil), (by have := isT; simpa [IsTup, Heap.IsTuple] using this)⟩
    have J : Inv X pins σ (upd H T (.tup [x, y])) { s with heap := h', toks := tk } := I.turnedNew (ch := [z, TI, TO, i1, i2]) (fun b ob hb q => hk b ob (fun m => hb (by
      have e' : b = z ∨ b = TO ∨ b = i1 ∨ b = i2 := by simpa using m
      rcases e' with q | q | q | q <;> simp [q])) q) hf hT new
    refine ⟨.ref T, _, J, rfl, ⟨T, x, y, rfl, I.hok.fresh hT, rfl, (fun zs hz => by rw [inv_src_inj I hz sx]; exact hx), (fun zs hz => by rw [inv_src_inj I hz sy]; exact hy)⟩, ⟨hz', hTI', hTO', h1', h2'⟩, fun c hcm => ?_⟩
    rw [upd_ne (Nat.ne_of_lt (Nat.lt_of_lt_of_le (lt c hcm) hT))]
    exact (hf c hcm).1
  done := by
    intro X hP hw hK hc i pins s σ H E I hf st hg
    subst hP hw hK
    obtain ⟨hz, hTI, hTO, h1, h2⟩ := st
    obtain ⟨xs, ys, sx, sy, hx⟩ := hg
    obtain ⟨its, rv, src, _, _⟩ := inv_src I sx
    obtain ⟨its2, rv2, src2, _, _⟩ := inv_src I sy
    have en : i = min its.toArray.size its2.toArray.size := by rw [List.size_toArray, List.size_toArray, ← rv.length, ← rv2.length, hx]
    have G := GoesN.zip2 (prog := X.prog) (w := X.w) (A := X.A) (elts := elts) (x1 := kk) (pos := tpos) D (draws_src (A := X.A.in1) (I.ok.hd hc) k i1 a n1 its.toArray) (draws_src (A := X.A.in1) (I.ok.hd hc) l i2 b n2 its2.toArray)
    refine G.stops s (fun s1 => Inv X pins σ H s1) E ⟨hz, hTI, hTO, ⟨by rw [← en]; exact h1, src⟩, by rw [← en]; exact h2, src2⟩ fun h' tk hk _ => I.turnedL (ch := [z, TI, TO, i1, i2]) (fun c o hb q => hk c o (fun m => hb ?_) q) hf
    have e' : c = z ∨ c = TO ∨ c = i1 ∨ c = i2 := by simpa using m
    rcases e' with q | q | q | q <;> simp [q]
  self := fun A i s Q E st h => wpAny_pyIter_zip st.1 h
def iZipB (K : PySem.W.Frag) (ta : TA) : TI := fun σ H R => ta σ H fun vs H1 => ∃ a b xs ys k l, vs = [.ref a, .ref b] ∧ SqB K H1 a xs k ∧ SqB K H1 b ys l ∧ R (Iz K a b k l) H1
theorem pi_zipB {X : Cx} {e e2 : Expr} {ta : TA} {p pos tpos : Pos} {elts : List Expr} {kk : Nat} (hg : Gl X "zip") (hm : X.mg "zip" = none) (ha : PA X [e, e2] ta)
    (hs : starEach [e, e2] X.env = (false, eval e X.env) :: starEach [e2] X.env := by rfl) (hpl : (backTo pos (starEach [e2] X.env)).any (·.1) = false := by rfl) :
    PI X (.Tuple elts kk tpos) (.Call (.Name "zip" p) [e, e2] [] pos) (iZipB X.K ta) := by
  refine ⟨fun pins s σ H R I h => ?_⟩
  refine Call_ (ld_blt I hg hm PyProof.Rows.boot_zip (PyProof.Rows.callWith_type1 (thn (ha.run pos pins s σ H _ I h) fun us s1 ⟨vs, H1, I1, r1, q1⟩ => ?_) hs hpl))
  obtain ⟨a, b, xs, ys, k, l, ex, sx, sy, q⟩ := q1
  subst ex
  obtain ⟨u, u', rfl, ru, ru'⟩ := vals2 r1
  cases ru
  cases ru'
  obtain ⟨its, rv, src, _, la⟩ := inv_src I1 sx
  obtain ⟨its2, rv2, src2, _, lb⟩ := inv_src I1 sy
  refine zip_begins2 (begins_src k a its.toArray) (begins_src l b its2.toArray) src src2 fun h' hz hTI hTO e1 e2 hsz hk => wpAny_pyIter_zip hz ?_
  have I2 : Inv X pins σ H1 { s1 with heap := h' } := I1.kept (t' := s1.toks) hk
  refine ⟨s1.heap.objs.size + 4, [s1.heap.objs.size + 4, s1.heap.objs.size + 2, s1.heap.objs.size + 3, s1.heap.objs.size, s1.heap.objs.size + 1], _, _, H1, rfl, I2, turn_zipB (a := a) (b := b) k l (zip_sep2 (by simpa using la) (by simpa using lb)) (Nat.ne_of_lt la) (Nat.ne_of_lt (Nat.lt_succ_of_lt lb)),
    ⟨hz, hTI, ⟨_, _, hTO⟩, isIt_new k e1, isIt_new l e2⟩, fun c hc => ?_, q⟩
  have hle : s1.heap.objs.size ≤ c := by
    have e' : c = s1.heap.objs.size + 4 ∨ c = s1.heap.objs.size + 2 ∨ c = s1.heap.objs.size + 3 ∨ c = s1.heap.objs.size ∨ c = s1.heap.objs.size + 1 := by simpa using hc
    rcases e' with z | z | z | z | z <;> rw [z] <;> first | exact Nat.le_refl _ | exact Nat.le_add_right _ _
  exact I1.fpOk hle (I1.hok.fresh hle)

/-! ### a list, a tuple itself, its length known -/
def iSeq (K : PySem.W.Frag) (tl : TE) : TI := fun σ H R => tl σ H fun x H1 => ∃ a xs k, x = .ref a ∧ SqB K H1 a xs k ∧ (xs.length ≤ sizeLine → R (if k then Itl K a else Itt K a) H1)
theorem pi_seq {X : Cx} {tg l : Expr} {tl : TE} (hl : PE X l tl) : PI X tg l (iSeq X.K tl) := by
  refine ⟨fun pins s σ H R I h => ?_⟩
  refine thn (hl.run pins s σ H _ I h) fun v s1 ⟨x, H1, I1, r1, q1⟩ => ?_
  obtain ⟨a, xs, k, e, sq, q⟩ := q1
  subst e
  cases r1
  cases k with
  | true =>
    obtain ⟨its, rv, p, hz⟩ := I1.list sq
    refine wpAny_pyIter_list p.isList ⟨s1.heap.objs.size, [s1.heap.objs.size], _, _, H1, rfl, I1.kept (t' := s1.toks) fun b o e => Heap.get?_push_of_some _ e, turn_list a _, ⟨_, Heap.get?_push_size _ rfl, rfl, rfl⟩, fun b hb => ?_, q hz⟩
    obtain rfl : b = s1.heap.objs.size := by simpa using hb
    exact I1.fpOk (Nat.le_refl _) (I1.hok.fresh (Nat.le_refl _))
  | false =>
    obtain ⟨its, rv, p, hz⟩ := I1.tuple sq
    refine wpAny_pyIter_tuple (show s1.heap.IsTuple a its.toArray from p) ⟨s1.heap.objs.size, [s1.heap.objs.size], _, _, H1, rfl, I1.kept (t' := s1.toks) fun b o e => Heap.get?_push_of_some _ e, turn_tuple a _, ⟨_, Heap.get?_push_size _ rfl, rfl, rfl⟩, fun b hb => ?_, q hz⟩
    obtain rfl : b = s1.heap.objs.size := by simpa using hb
    exact I1.fpOk (Nat.le_refl _) (I1.hok.fresh (Nat.le_refl _))
end Pv

/-! G2: dicts, as they lie. -/
namespace Pv
open PySem L2 PySem.Spec PyProof.Rows

structure Ct where
  cls : Nat → Option Addr
  fld : Nat → Option Str
  fok : Nat → Nat → Bool
abbrev tb (X : Cx) (c : Ct) : Tb := ⟨X.prog, X.w, X.K, c.cls, c.fld, c.fok⟩

section
variable {K : PySem.W.Frag} {H : Hp} {n : Nat} {ρ : Nat → Addr} {kvs : Kvs}
/-- rows and what lies there -/
abbrev RV (K : PySem.W.Frag) (H : Hp) (n : Nat) (ρ : Nat → Addr) : Kvs → List (Leaf × Value) → Prop := Paired fun kv q => kv.1.leaf = true ∧ q.1 = kv.1.lf ∧ ∃ v, RelD K H n ρ kv.2 v ∧ RelV v q.2
abbrev RX (K : PySem.W.Frag) (H : Hp) (n : Nat) (ρ : Nat → Addr) : Kvs → List (NestedKey × Addr × Value) → Prop := Paired fun kv x => kv.1.tkey = true ∧ x.1 = kv.1.key ∧ RelP K H kv.1 (.ref x.2.1) ∧ ∃ v, RelD K H n ρ kv.2 v ∧ RelV v x.2.2
theorem rv_of {es : List (Leaf × V)} {vs : List (Leaf × Value)} (r : RelEl K H n ρ kvs es) (q : KV es vs) : RV K H n ρ kvs vs :=
  prd_imp (fun _ _ ⟨e, ⟨h1, h2, h3⟩, h4, h5⟩ => ⟨h1, h4.symm.trans h2, _, h3, h5⟩) (prd_comp r q)
theorem rx_of {es : List (NestedKey × Addr × V)} {xs : List (NestedKey × Addr × Value)} (r : RelEt K H n ρ kvs es) (q : KA es xs) : RX K H n ρ kvs xs :=
  prd_imp (fun _ _ ⟨e, ⟨h1, h2, h3, h4⟩, h5, h6, h7⟩ => ⟨h1, h5.symm.trans h2, h6 ▸ h3, _, h4, h7⟩) (prd_comp r q)
theorem rv_split {vs : List (Leaf × Value)} (r : RV K H n ρ kvs vs) : ∃ es, RelEl K H n ρ kvs es ∧ KV es vs := by
  induction r with
  | nil => exact ⟨[], .nil, .nil⟩
  | cons h t ih =>
    obtain ⟨es, e1, e2⟩ := ih
    obtain ⟨h1, h2, v, h3, h4⟩ := h
    exact ⟨(_, v) :: es, .cons ⟨h1, h2, h3⟩ e1, .cons ⟨rfl, h4⟩ e2⟩
theorem rx_split {xs : List (NestedKey × Addr × Value)} (r : RX K H n ρ kvs xs) : ∃ es, RelEt K H n ρ kvs es ∧ KA es xs := by
  induction r with
  | nil => exact ⟨[], .nil, .nil⟩
  | cons h t ih =>
    obtain ⟨es, e1, e2⟩ := ih
    obtain ⟨h1, h2, h3, v, h4, h5⟩ := h
    exact ⟨(_, _, v) :: es, .cons ⟨h1, h2, h3, h4⟩ e1, .cons ⟨rfl, rfl, h5⟩ e2⟩
theorem lf_dec {a b : P} (h1 : a.leaf = true) (h2 : b.leaf = true) {l : Leaf} (e : l = a.lf) : decide (a = b) = decide (l = b.lf) := by
  subst e
  rw [decide_eq_decide]
  exact ⟨fun e => e ▸ rfl, fun e => lf_inj h1 h2 e⟩
theorem tk_dec {a b : P} (h1 : a.tkey = true) (h2 : b.tkey = true) {l : NestedKey} (e : l = a.key) : decide (a = b) = decide (l = b.key) := by
  subst e
  rw [decide_eq_decide]
  exact ⟨fun e => e ▸ rfl, fun e => key_inj (tkey_plain h1) (tkey_plain h2) e⟩
theorem rv_get {vs : List (Leaf × Value)} {k : P} (r : RV K H n ρ kvs vs) (hk : k.leaf = true) : (dGet kvs k = none ∧ valueAt vs k.lf = none) ∨ ∃ d v u, dGet kvs k = some d ∧ valueAt vs k.lf = some u ∧ RelD K H n ρ d v ∧ RelV v u := by
  rcases prd_find (p := fun kv => decide (kv.1 = k)) (q := fun q => decide (q.1 = k.lf)) (fun a b h => lf_dec h.1 hk h.2.1) r with ⟨h1, h2⟩ | ⟨a, b, h1, h2, h3, h4, v, h5, h6⟩
  · exact .inl ⟨by unfold dGet; rw [h1]; rfl, by unfold valueAt; rw [h2]; rfl⟩
  · exact .inr ⟨a.2, v, b.2, by unfold dGet; rw [h1]; rfl, by unfold valueAt; rw [h2]; rfl, h5, h6⟩
theorem rx_get {xs : List (NestedKey × Addr × Value)} {k : P} (r : RX K H n ρ kvs xs) (hk : k.tkey = true) : (dGet kvs k = none ∧ atKey xs k.key = none) ∨ ∃ d v p, dGet kvs k = some d ∧ atKey xs k.key = some p ∧ RelD K H n ρ d v ∧ RelV v p.2 := by
  rcases prd_find (p := fun kv => decide (kv.1 = k)) (q := fun q => decide (q.1 = k.key)) (fun a b h => tk_dec h.1 hk h.2.1) r with ⟨h1, h2⟩ | ⟨a, b, h1, h2, h3, h4, h7, v, h5, h6⟩
  · exact .inl ⟨by unfold dGet; rw [h1]; rfl, by unfold atKey; rw [h2]; rfl⟩
  · exact .inr ⟨a.2, v, b.2, by unfold dGet; rw [h1]; rfl, by unfold atKey; rw [h2]; rfl, h5, h6⟩
theorem rv_put {vs : List (Leaf × Value)} {k : P} {d : D} {v : V} {u : Value} (r : RV K H n ρ kvs vs) (hk : k.leaf = true) (rd : RelD K H n ρ d v) (rv : RelV v u) : RV K H n ρ (dPut kvs k d) (stored vs k.lf u) := by
  have dec : ∀ (a : P × D) (b : Leaf × Value), (a.1.leaf = true ∧ b.1 = a.1.lf ∧ ∃ v, RelD K H n ρ a.2 v ∧ RelV v b.2) → decide (a.1 = k) = decide (b.1 = k.lf) := fun a b h => lf_dec h.1 hk h.2.1
  have e := prd_any (p := fun kv => decide (kv.1 = k)) (q := fun q => decide (q.1 = k.lf)) dec r
  unfold dPut stored
  rw [← e]
  by_cases q : (kvs.any fun kv => decide (kv.1 = k)) = true
  · rw [if_pos q, if_pos q]
    refine prd_map (fun a b h => ?_) r
    have := dec a b h
    by_cases z : a.1 = k
    · rw [if_pos z, if_pos (of_decide_eq_true (this.symm.trans (decide_eq_true z)))]
      exact ⟨h.1, h.2.1, v, rd, rv⟩
    · rw [if_neg z, if_neg (of_decide_eq_false (this.symm.trans (decide_eq_false z)))]
      exact h
  · rw [if_neg q, if_neg q]
    exact Paired.snoc r ⟨hk, rfl, v, rd, rv⟩
theorem rx_put {xs : List (NestedKey × Addr × Value)} {k : P} {b : Addr} {d : D} {v : V} {u : Value} (r : RX K H n ρ kvs xs) (hk : k.tkey = true) (rk : RelP K H k (.ref b)) (rd : RelD K H n ρ d v) (rv : RelV v u) : RX K H n ρ (dPut kvs k d) (storedH xs k.key b u) := by
  have dec : ∀ (a : P × D) (x : NestedKey × Addr × Value), (a.1.tkey = true ∧ x.1 = a.1.key ∧ RelP K H a.1 (.ref x.2.1) ∧ ∃ v, RelD K H n ρ a.2 v ∧ RelV v x.2.2) → decide (a.1 = k) = decide (x.1 = k.key) := fun a b h => tk_dec h.1 hk h.2.1
  have e := prd_any (p := fun kv => decide (kv.1 = k)) (q := fun q => decide (q.1 = k.key)) dec r
  have e2 : (atKey xs k.key).isSome = xs.any fun q => decide (q.1 = k.key) := by
    unfold atKey
    rw [Option.isSome_map, Bool.eq_iff_iff, List.find?_isSome, List.any_eq_true]
  unfold dPut storedH
  rw [e2, ← e]
  by_cases q : (kvs.any fun kv => decide (kv.1 = k)) = true
  · rw [if_pos q, if_pos q]
    refine prd_map (fun a x h => ?_) r
    have := dec a x h
    unfold putAt
    by_cases z : a.1 = k
    · rw [if_pos z, if_pos (of_decide_eq_true (this.symm.trans (decide_eq_true z)))]
      exact ⟨h.1, h.2.1, h.2.2.1, v, rd, rv⟩
    · rw [if_neg z, if_neg (of_decide_eq_false (this.symm.trans (decide_eq_false z)))]
      exact h
  · rw [if_neg q, if_neg q]
    exact Paired.snoc r ⟨hk, rfl, rk, v, rd, rv⟩
theorem rv_drop {vs : List (Leaf × Value)} {k : P} (r : RV K H n ρ kvs vs) (hk : k.leaf = true) : RV K H n ρ (dDrop kvs k) (without vs k.lf) := by
  have := prd_filter (p := fun kv => decide (kv.1 ≠ k)) (q := fun q => decide (q.1 ≠ k.lf)) (fun a b h => by
    have e := lf_dec h.1 hk h.2.1
    rw [decide_not, decide_not, e]) r
  unfold dDrop without
  simpa using this
theorem dDrop_length (kvs : Kvs) (k : P) : (dDrop kvs k).length ≤ kvs.length := List.length_filter_le _ _
end

section
variable {X : Cx} {c : Ct} {pins : List (Addr × Obj)} {σ : L2.St} {H : Hp} {s : Shared} {W : WX} {ρ : Nat → Addr} {h : Hh} {i : Nat} {kvs : Kvs} {k : P} {y : V} {u : Value} {a : Addr}
mutual
/-- a plain value is a key as it lies -/
theorem relP_nested (I : Inv X pins σ H s) : ∀ {x : P} {v : V} {u : Value}, RelP X.K H x v → RelV v u → x.plain = true → NestedIs s.heap x.key u
  | _, _, _, .non, r, _ => by cases r; exact .none
  | _, _, _, .int i, r, _ => by obtain ⟨t, rfl⟩ := r; exact .int i t
  | _, _, _, .str x, r, _ => by obtain ⟨t, rfl⟩ := r; exact .text x t
  | _, _, _, .bl _, _, h => by simp [P.plain] at h
  | _, _, _, .tup t ts, r, h => by
    cases r
    obtain ⟨its, rv, ⟨o, e1, e2, n, e3⟩, _⟩ := I.tuple t.sq
    rw [P.key]
    exact .tup e1 e2 e3 (by simpa using relPs_nested I ts rv (by simpa [P.plain] using h))
theorem relPs_nested (I : Inv X pins σ H s) : ∀ {x : List P} {v : List V} {u : List Value}, RelPs X.K H x v → Vals v u → P.plains x = true → NestedAll s.heap (P.keys x) u
  | _, _, _, .nil, .nil, _ => by rw [P.keys]; exact .nil
  | _, _, _, .cons a as, .cons r rs, h => by
    simp only [P.plains, Bool.and_eq_true] at h
    rw [P.keys]
    exact .cons (relP_nested I a r h.1) (relPs_nested I as rs h.2)
end
theorem tk_is (I : Inv X pins σ H s) (rk : RelP X.K H k (.ref a)) (hk : k.tkey = true) : (nestedKind X.prog X.w).is s.heap k.key a := ⟨relP_nested I rk rfl (tkey_plain hk), tkey_depth hk⟩
theorem tk_ref (hk : k.tkey = true) (rk : RelP X.K H k y) : ∃ a, y = .ref a := by
  cases rk with
  | tup _ _ => exact ⟨_, rfl⟩
  | non => cases hk
  | bl _ => cases hk
  | int _ => cases hk
  | str _ => cases hk
theorem lf_tk_nil (h1 : lfs kvs = true) (h2 : tks kvs = true) : kvs = [] := by
  cases kvs with
  | nil => rfl
  | cons kv r =>
    simp only [lfs, List.all_cons, Bool.and_eq_true] at h1
    simp only [tks, List.all_cons, Bool.and_eq_true] at h2
    rw [lf_tk h1.1] at h2
    cases h2.1
/-- the object at a dict's number -/
def DO (o : O) (kvs : Kvs) : Prop := o = .dct kvs ∨ o = .lck kvs
theorem dct_lf {o : O} (I : Inv X pins σ H s) (R : RelH (tb X c) ρ h H) (g : h[i]? = some o) (hd : DO o kvs) (lf : lfs kvs = true) :
    (ρ i == sysModules) = false ∧ kvs.length ≤ sizeLine ∧ ∃ vs, RV X.K H h.length ρ kvs vs ∧ s.heap.DictOf (lfKind X.prog X.w) (ρ i) vs := by
  have fin : ∀ u, (u = HO.ext fun _ => False) ∨ True → ObjOk X.prog X.w H s.heap (ρ i) u → (ρ i == sysModules) = false → kvs.length ≤ sizeLine →
      ((∃ es, u = dlO X.prog X.w (ρ i) es ∧ RelEl X.K H h.length ρ kvs es) ∨ ∃ es, u = dtO X.prog X.w (ρ i) es ∧ RelEt X.K H h.length ρ kvs es) →
      (ρ i == sysModules) = false ∧ kvs.length ≤ sizeLine ∧ ∃ vs, RV X.K H h.length ρ kvs vs ∧ s.heap.DictOf (lfKind X.prog X.w) (ρ i) vs := by
    intro u _ ok e0 z r
    refine ⟨e0, z, ?_⟩
    rcases r with ⟨es, rfl, r⟩ | ⟨es, rfl, r⟩
    · obtain ⟨⟨vs, q, d⟩, _⟩ := ok
      exact ⟨vs, rv_of r q, d⟩
    · obtain ⟨⟨xs, q, o, ar, ep, e1, e2, e3, e4, e5⟩, _⟩ := ok
      have e := lf_tk_nil lf r.tks
      subst e
      cases r
      cases q
      refine ⟨[], .nil, o, ar, ep, e1, e2, e3, ?_, ?_, List.nodup_nil⟩
      · intro e he
        have : ar.toList = [] := e4
        have he : e ∈ ar.toList := by simpa using he
        rw [this] at he
        cases he
      · rw [show ar.toList = [] from e4]; exact .nil
  have ro := R.obj i o g
  rcases hd with rfl | rfl
  · obtain ⟨e0, z, ⟨es, e, r⟩ | ⟨es, e, r⟩⟩ := ro
    · exact fin _ (.inr trivial) (I.hok _ _ e) e0 z (.inl ⟨es, rfl, r⟩)
    · exact fin _ (.inr trivial) (I.hok _ _ e) e0 z (.inr ⟨es, rfl, r⟩)
  · obtain ⟨e0, z, od, ⟨es, e, r⟩ | ⟨es, e, r⟩⟩ := ro
    · exact fin _ (.inr trivial) (Rd.ok (.inr ⟨od, e⟩) I.hok) e0 z (.inl ⟨es, rfl, r⟩)
    · exact fin _ (.inr trivial) (Rd.ok (.inr ⟨od, e⟩) I.hok) e0 z (.inr ⟨es, rfl, r⟩)
theorem dct_tk {o : O} (I : Inv X pins σ H s) (R : RelH (tb X c) ρ h H) (g : h[i]? = some o) (hd : DO o kvs) (lf : tks kvs = true) :
    (ρ i == sysModules) = false ∧ kvs.length ≤ sizeLine ∧ ∃ xs, RX X.K H h.length ρ kvs xs ∧ s.heap.DictOfH (nestedKind X.prog X.w) (ρ i) xs := by
  have fin : ∀ u, ObjOk X.prog X.w H s.heap (ρ i) u → (ρ i == sysModules) = false → kvs.length ≤ sizeLine →
      ((∃ es, u = dlO X.prog X.w (ρ i) es ∧ RelEl X.K H h.length ρ kvs es) ∨ ∃ es, u = dtO X.prog X.w (ρ i) es ∧ RelEt X.K H h.length ρ kvs es) →
      (ρ i == sysModules) = false ∧ kvs.length ≤ sizeLine ∧ ∃ xs, RX X.K H h.length ρ kvs xs ∧ s.heap.DictOfH (nestedKind X.prog X.w) (ρ i) xs := by
    intro u ok e0 z r
    refine ⟨e0, z, ?_⟩
    rcases r with ⟨es, rfl, r⟩ | ⟨es, rfl, r⟩
    · obtain ⟨⟨vs, q, d⟩, _⟩ := ok
      have e := lf_tk_nil r.lfs lf
      subst e
      cases r
      cases q
      obtain ⟨o, ar, ep, e1, e2, e3, e4, e5, e6⟩ := d
      have nil : ar.toList = [] := by
        have := e5.length
        exact List.eq_nil_of_length_eq_zero this
      exact ⟨[], .nil, o, ar, ep, e1, e2, e3, nil, (fun _ z => by cases z), List.nodup_nil⟩
    · obtain ⟨⟨xs, q, o, ar, ep, e1, e2, e3, e4, e5⟩, _⟩ := ok
      have r' := rx_of r q
      refine ⟨xs, r', o, ar, ep, e1, e2, e3, e4, fun x hx => ?_, e5⟩
      obtain ⟨kv, _, h1, h2, h3, _⟩ := prd_mem r' hx
      rw [h2]
      exact tk_is I h3 h1
  have ro := R.obj i o g
  rcases hd with rfl | rfl
  · obtain ⟨e0, z, ⟨es, e, r⟩ | ⟨es, e, r⟩⟩ := ro
    · exact fin _ (I.hok _ _ e) e0 z (.inl ⟨es, rfl, r⟩)
    · exact fin _ (I.hok _ _ e) e0 z (.inr ⟨es, rfl, r⟩)
  · obtain ⟨e0, z, od, ⟨es, e, r⟩ | ⟨es, e, r⟩⟩ := ro
    · exact fin _ (Rd.ok (.inr ⟨od, e⟩) I.hok) e0 z (.inl ⟨es, rfl, r⟩)
    · exact fin _ (Rd.ok (.inr ⟨od, e⟩) I.hok) e0 z (.inr ⟨es, rfl, r⟩)
theorem dct_is {o : O} (I : Inv X pins σ H s) (R : RelH (tb X c) ρ h H) (g : h[i]? = some o) (hd : DO o kvs) : (ρ i == sysModules) = false ∧ ∃ es ep, s.heap.DictRaw (ρ i) es ep ∧ es.size = kvs.length ∧ kvs.length ≤ sizeLine := by
  have two : lfs kvs = true ∨ tks kvs = true := by
    have ro := R.obj i o g
    rcases hd with rfl | rfl
    · obtain ⟨e0, z, ⟨es, e, r⟩ | ⟨es, e, r⟩⟩ := ro
      · exact .inl r.lfs
      · exact .inr r.tks
    · obtain ⟨e0, z, od, ⟨es, e, r⟩ | ⟨es, e, r⟩⟩ := ro
      · exact .inl r.lfs
      · exact .inr r.tks
  rcases two with lf | tk
  · obtain ⟨h1, h2, vs, r, d⟩ := dct_lf I R g hd lf
    obtain ⟨es, ep, h3, h4, _⟩ := d.raw
    exact ⟨h1, es, ep, h3, by rw [h4]; exact (Paired.length r).symm, h2⟩
  · obtain ⟨h1, h2, xs, r, d⟩ := dct_tk I R g hd tk
    obtain ⟨o, ar, ep, e1, e2, e3, e4, _⟩ := d
    refine ⟨h1, ar, ep, ⟨o, e1, e2, e3⟩, ?_, h2⟩
    have := congrArg List.length e4
    simp only [Array.length_toList, List.length_map] at this
    rw [this]
    exact (Paired.length r).symm
/-! ### writing -/
theorem dct_wrl {kvs' : Kvs} {vs' : List (Leaf × Value)} {h' : Heap} {t' : Nat} (I : Inv X pins σ H s) (R : RelH (tb X c) ρ h H) (g : h[i]? = some (.dct kvs)) (e0 : (ρ i == sysModules) = false) (z : kvs'.length ≤ sizeLine)
    (r : ∀ es, Keep X.K H (upd H (ρ i) (dlO X.prog X.w (ρ i) es)) → RV X.K (upd H (ρ i) (dlO X.prog X.w (ρ i) es)) h.length ρ kvs' vs') (r0 : RV X.K H h.length ρ kvs' vs') (hs : Heap.SameBut (ρ i) s.heap h') (d : h'.DictOf (lfKind X.prog X.w) (ρ i) vs') :
    ∃ H', Inv X pins σ H' { s with heap := h', toks := t' } ∧ Keep X.K H H' ∧ RelH (tb X c) ρ (h.set i (.dct kvs')) H' := by
  obtain ⟨es, r1, r2⟩ := rv_split r0
  obtain ⟨u, hu, mu, _⟩ := (R.obj i _ g).at rfl
  obtain ⟨kp, R'⟩ := R.wr (o' := .dct kvs') (u := dlO X.prog X.w (ρ i) es) g rfl rfl fun kp => ⟨e0, z, .inl ⟨es, upd_same, r1.mono kp (Ext.refl _ _) (Nat.le_refl _)⟩⟩
  exact ⟨_, d_write I (by rw [hu]; exact mu) hs (let ⟨o, _, _, e, _⟩ := d; ⟨o, e⟩) (dl_ok r2 d), kp, R'⟩
theorem dct_wrt {kvs' : Kvs} {xs' : List (NestedKey × Addr × Value)} {h' : Heap} {t' : Nat} (I : Inv X pins σ H s) (R : RelH (tb X c) ρ h H) (g : h[i]? = some (.dct kvs)) (e0 : (ρ i == sysModules) = false) (z : kvs'.length ≤ sizeLine)
    (r0 : RX X.K H h.length ρ kvs' xs') (hs : Heap.SameBut (ρ i) s.heap h') (d : h'.DictOfH (nestedKind X.prog X.w) (ρ i) xs') :
    ∃ H', Inv X pins σ H' { s with heap := h', toks := t' } ∧ Keep X.K H H' ∧ RelH (tb X c) ρ (h.set i (.dct kvs')) H' := by
  obtain ⟨es, r1, r2⟩ := rx_split r0
  obtain ⟨u, hu, mu, _⟩ := (R.obj i _ g).at rfl
  obtain ⟨kp, R'⟩ := R.wr (o' := .dct kvs') (u := dtO X.prog X.w (ρ i) es) g rfl rfl fun kp => ⟨e0, z, .inr ⟨es, upd_same, r1.mono kp (Ext.refl _ _) (Nat.le_refl _)⟩⟩
  exact ⟨_, d_write I (by rw [hu]; exact mu) hs (let ⟨o, _, _, e, _⟩ := d; ⟨o, e⟩) (dt_ok r2 d), kp, R'⟩
theorem dct_at {d : D} {x : V} (ra : RelD X.K H h.length ρ d x) (e : dctOf h d = some kvs) : ∃ i o, d = .r i ∧ h[i]? = some o ∧ DO o kvs ∧ x = .ref (ρ i) := by
  cases ra with
  | p _ => cases e
  | t _ _ => cases e
  | r hi =>
    rename_i i
    simp only [dctOf] at e
    cases g : h[i]? with
    | none => rw [g] at e; cases e
    | some ob =>
      rw [g] at e
      cases ob with
      | dct ys => cases e; exact ⟨i, _, rfl, g, .inl rfl, rfl⟩
      | lck ys => cases e; exact ⟨i, _, rfl, g, .inr rfl, rfl⟩
      | _ => cases e
theorem kfit (h : kFit kvs k = true) : (k.leaf = true ∧ lfs kvs = true) ∨ (k.tkey = true ∧ tks kvs = true) := by
  unfold kFit at h
  rw [Bool.or_eq_true, Bool.and_eq_true, Bool.and_eq_true] at h
  exact h
theorem room8 {A : Around} (hu : A.units + 64 < cLine) : (nestedKind X.prog X.w).room A.in1 := by
  show A.units + 1 + 8 < cLine
  omega
/-- d[k], d.get and so on: what is there -/
theorem dk_getItem {o : O} {d : D} {Q : Value → Shared → Prop} {E : Value → Shared → Prop} (hu : X.A.units + 64 < cLine) (I : Inv X pins σ H s) (R : RelH (tb X c) ρ h H) (g : h[i]? = some o) (hd : DO o kvs) (rk : RelP X.K H k y) (ry : RelV y u)
    (fit : kFit kvs k = true) (hg : dGet kvs k = some d) (hQ : ∀ v w s', Inv X pins σ H s' → RelD X.K H h.length ρ d v → RelV v w → Q w s') : wpAny (model X.prog X.w) X.A (getItem (.ref (ρ i)) u) Q E s := by
  rcases kfit fit with ⟨kl, lf⟩ | ⟨kt, tk⟩
  · obtain ⟨_, _, vs, r, dd⟩ := dct_lf I R g hd lf
    rcases rv_get r kl with ⟨h1, _⟩ | ⟨d', v, w, h1, h2, h3, h4⟩
    · rw [hg] at h1; cases h1
    · rw [hg] at h1; cases h1
      exact wpAny_getItem_of (knd := lfKind X.prog X.w) (lf_of kl rk ry) dd.mapOf h2 (hQ _ _ _ (I.tok _) h3 h4)
  · obtain ⟨_, _, xs, r, dd⟩ := dct_tk I R g hd tk
    obtain ⟨a, rfl⟩ := tk_ref kt rk
    cases ry
    rcases rx_get r kt with ⟨h1, _⟩ | ⟨d', v, p, h1, h2, h3, h4⟩
    · rw [hg] at h1; cases h1
    · rw [hg] at h1; cases h1
      exact wpAny_getItem_heap (room8 hu) (tk_is I rk kt) dd h2 (hQ _ _ _ (I.tok _) h3 h4)
theorem dk_in {o : O} {Q : Value → Shared → Prop} {E : Value → Shared → Prop} (hu : X.A.units + 64 < cLine) (I : Inv X pins σ H s) (R : RelH (tb X c) ρ h H) (g : h[i]? = some o) (hd : DO o kvs) (rk : RelP X.K H k y) (ry : RelV y u)
    (fit : kFit kvs k = true) (hQ : ∀ s', Inv X pins σ H s' → Q (.bool (dGet kvs k).isSome) s') : wpAny (model X.prog X.w) X.A (compareOp .In u (.ref (ρ i))) Q E s := by
  rcases kfit fit with ⟨kl, lf⟩ | ⟨kt, tk⟩
  · obtain ⟨e0, _, vs, r, dd⟩ := dct_lf I R g hd lf
    refine wpAny_in_of (knd := lfKind X.prog X.w) (lf_of kl rk ry) e0 dd.mapOf ?_
    rcases rv_get r kl with ⟨h1, h2⟩ | ⟨d', v, w, h1, h2, h3, h4⟩
    · rw [h2]; have := hQ _ (I.tok (s.toks + 1)); rw [h1] at this; exact this
    · rw [h2]; have := hQ _ (I.tok (s.toks + 1)); rw [h1] at this; exact this
  · obtain ⟨e0, _, xs, r, dd⟩ := dct_tk I R g hd tk
    obtain ⟨a, rfl⟩ := tk_ref kt rk
    cases ry
    refine wpAny_in_heap (room8 hu) (tk_is I rk kt) e0 dd ?_
    rcases rx_get r kt with ⟨h1, h2⟩ | ⟨d', v, p, h1, h2, h3, h4⟩
    · rw [h2]; have := hQ _ (I.tok (s.toks + (nestedKind X.prog X.w).draws k.key)); rw [h1] at this; exact this
    · rw [h2]; have := hQ _ (I.tok (s.toks + (nestedKind X.prog X.w).draws k.key)); rw [h1] at this; exact this
theorem dk_notIn {o : O} {Q : Value → Shared → Prop} {E : Value → Shared → Prop} (hu : X.A.units + 64 < cLine) (I : Inv X pins σ H s) (R : RelH (tb X c) ρ h H) (g : h[i]? = some o) (hd : DO o kvs) (rk : RelP X.K H k y) (ry : RelV y u)
    (fit : kFit kvs k = true) (hQ : ∀ s', Inv X pins σ H s' → Q (.bool (!(dGet kvs k).isSome)) s') : wpAny (model X.prog X.w) X.A (compareOp .NotIn u (.ref (ρ i))) Q E s := by
  rcases kfit fit with ⟨kl, lf⟩ | ⟨kt, tk⟩
  · obtain ⟨e0, _, vs, r, dd⟩ := dct_lf I R g hd lf
    refine wpAny_notIn_of (knd := lfKind X.prog X.w) (lf_of kl rk ry) e0 dd.mapOf ?_
    rcases rv_get r kl with ⟨h1, h2⟩ | ⟨d', v, w, h1, h2, h3, h4⟩
    · rw [h2]; have := hQ _ (I.tok (s.toks + 1)); rw [h1] at this; exact this
    · rw [h2]; have := hQ _ (I.tok (s.toks + 1)); rw [h1] at this; exact this
  · obtain ⟨e0, _, xs, r, dd⟩ := dct_tk I R g hd tk
    obtain ⟨a, rfl⟩ := tk_ref kt rk
    cases ry
    refine PyProof.Rows.wpAny_notIn_heap (room8 hu) (tk_is I rk kt) e0 dd ?_
    rcases rx_get r kt with ⟨h1, h2⟩ | ⟨d', v, p, h1, h2, h3, h4⟩
    · rw [h2]; have := hQ _ (I.tok (s.toks + (nestedKind X.prog X.w).draws k.key)); rw [h1] at this; exact this
    · rw [h2]; have := hQ _ (I.tok (s.toks + (nestedKind X.prog X.w).draws k.key)); rw [h1] at this; exact this
theorem dk_setItem {d : D} {v : V} {w : Value} {Q : Unit → Shared → Prop} {E : Value → Shared → Prop} (hu : X.A.units + 64 < cLine) (I : Inv X pins σ H s) (R : RelH (tb X c) ρ h H) (g : h[i]? = some (.dct kvs)) (rk : RelP X.K H k y) (ry : RelV y u)
    (rd : RelD X.K H h.length ρ d v) (rv : RelV v w) (fit : kFit kvs k = true) (hl : kvs.length < sizeLine) (hQ : ∀ s' H', Inv X pins σ H' s' → Keep X.K H H' → RelH (tb X c) ρ (h.set i (.dct (dPut kvs k d))) H' → Q () s') :
    wpAny (model X.prog X.w) X.A (setItem (.ref (ρ i)) u w) Q E s := by
  have hz : (dPut kvs k d).length ≤ sizeLine := by have := dPut_length kvs k d; omega
  rcases kfit fit with ⟨kl, lf⟩ | ⟨kt, tk⟩
  · obtain ⟨e0, z, vs, r, dd⟩ := dct_lf I R g (.inl rfl) lf
    refine wpAny_setItem_pairs (hsz := by rw [← Paired.length r]; exact z) (knd := lfKind X.prog X.w) (lf_of kl rk ry) dd fun h' dd' hs => ?_
    obtain ⟨H', I', kp, R'⟩ := dct_wrl (t' := s.toks + 1) I R g e0 hz (fun es kp => prd_imp (fun _ _ ⟨h1, h2, v, h3, h4⟩ => ⟨h1, h2, v, h3.mono kp (Ext.refl _ _) (Nat.le_refl _), h4⟩) (rv_put r kl rd rv)) (rv_put r kl rd rv) hs dd'
    exact hQ _ H' I' kp R'
  · obtain ⟨e0, z, xs, r, dd⟩ := dct_tk I R g (.inl rfl) tk
    obtain ⟨a, rfl⟩ := tk_ref kt rk
    cases ry
    refine wpAny_setItem_heap (hsz := by rw [← Paired.length r]; exact z) (room8 hu) (tk_is I rk kt) dd fun h' dd' hs => ?_
    obtain ⟨H', I', kp, R'⟩ := dct_wrt (t' := s.toks + (nestedKind X.prog X.w).draws k.key) I R g e0 hz (rx_put r kt rk rd rv) hs dd'
    exact hQ _ H' I' kp R'
/-- d.get(k), d.get(k, x) -/
theorem dk_get1 {o : O} {Q : Value → Shared → Prop} {E : Value → Shared → Prop} (hu : X.A.units + 64 < cLine) (I : Inv X pins σ H s) (R : RelH (tb X c) ρ h H) (g : h[i]? = some o) (hd : DO o kvs) (rk : RelP X.K H k y) (ry : RelV y u)
    (fit : kFit kvs k = true) (hQ : ∀ v w s', Inv X pins σ H s' → RelD X.K H h.length ρ ((dGet kvs k).getD (.p .non)) v → RelV v w → Q w s') : wpAny (model X.prog X.w) X.A (call (.builtin "dict.get") [.ref (ρ i), u]) Q E s := by
  rcases kfit fit with ⟨kl, lf⟩ | ⟨kt, tk⟩
  · obtain ⟨e0, _, vs, r, dd⟩ := dct_lf I R g hd lf
    refine call_meetsIn PySem.F.slot_dict_get dd.typeIs PySem.F.entry_dict_get (PySem.F.args_dict_get_2 _ _) (meets_dict_get (lfKind X.prog X.w) (ρ i) (lf_of kl rk ry) e0) ⟨_, dd.mapOf, ?_⟩
    rcases rv_get r kl with ⟨h1, h2⟩ | ⟨d', v, w, h1, h2, h3, h4⟩
    · rw [h2]; exact hQ .non _ _ (I.tok _) (by rw [h1]; exact .p .non) rfl
    · rw [h2]; exact hQ v _ _ (I.tok _) (by rw [h1]; exact h3) h4
  · obtain ⟨e0, _, xs, r, dd⟩ := dct_tk I R g hd tk
    obtain ⟨a, rfl⟩ := tk_ref kt rk
    cases ry
    refine call_meetsIn PySem.F.slot_dict_get dd.typeIs PySem.F.entry_dict_get (PySem.F.args_dict_get_2 _ _) (meetsH_dict_get (nestedKind X.prog X.w) (ρ i) a e0) ⟨room8 hu, k.key, xs, tk_is I rk kt, dd, ?_⟩
    rcases rx_get r kt with ⟨h1, h2⟩ | ⟨d', v, p, h1, h2, h3, h4⟩
    · rw [h2]; exact hQ .non _ _ (I.tok _) (by rw [h1]; exact .p .non) rfl
    · rw [h2]; exact hQ v _ _ (I.tok _) (by rw [h1]; exact h3) h4
theorem dk_get2 {o : O} {x : D} {xv : V} {xw : Value} {Q : Value → Shared → Prop} {E : Value → Shared → Prop} (hu : X.A.units + 64 < cLine) (I : Inv X pins σ H s) (R : RelH (tb X c) ρ h H) (g : h[i]? = some o) (hd : DO o kvs) (rk : RelP X.K H k y) (ry : RelV y u)
    (rx : RelD X.K H h.length ρ x xv) (rxv : RelV xv xw) (fit : kFit kvs k = true) (hQ : ∀ v w s', Inv X pins σ H s' → RelD X.K H h.length ρ ((dGet kvs k).getD x) v → RelV v w → Q w s') : wpAny (model X.prog X.w) X.A (call (.builtin "dict.get") [.ref (ρ i), u, xw]) Q E s := by
  rcases kfit fit with ⟨kl, lf⟩ | ⟨kt, tk⟩
  · obtain ⟨e0, _, vs, r, dd⟩ := dct_lf I R g hd lf
    refine call_meetsIn PySem.F.slot_dict_get dd.typeIs PySem.F.entry_dict_get (PySem.F.args_dict_get_3 _ _ _) (meets_dict_get_default (lfKind X.prog X.w) (ρ i) (lf_of kl rk ry) e0 xw) ⟨_, dd.mapOf, ?_⟩
    rcases rv_get r kl with ⟨h1, h2⟩ | ⟨d', v, w, h1, h2, h3, h4⟩
    · rw [h2]; exact hQ xv _ _ (I.tok _) (by rw [h1]; exact rx) rxv
    · rw [h2]; exact hQ v _ _ (I.tok _) (by rw [h1]; exact h3) h4
  · obtain ⟨e0, _, xs, r, dd⟩ := dct_tk I R g hd tk
    obtain ⟨a, rfl⟩ := tk_ref kt rk
    cases ry
    refine call_meetsIn PySem.F.slot_dict_get dd.typeIs PySem.F.entry_dict_get (PySem.F.args_dict_get_3 _ _ _) (meetsH_dict_get_default (nestedKind X.prog X.w) (ρ i) a e0 xw) ⟨room8 hu, k.key, xs, tk_is I rk kt, dd, ?_⟩
    rcases rx_get r kt with ⟨h1, h2⟩ | ⟨d', v, p, h1, h2, h3, h4⟩
    · rw [h2]; exact hQ xv _ _ (I.tok _) (by rw [h1]; exact rx) rxv
    · rw [h2]; exact hQ v _ _ (I.tok _) (by rw [h1]; exact h3) h4
/-- d.setdefault(k, x) -/
theorem dk_setd {x : D} {xv : V} {xw : Value} {Q : Value → Shared → Prop} {E : Value → Shared → Prop} (hu : X.A.units + 64 < cLine) (I : Inv X pins σ H s) (R : RelH (tb X c) ρ h H) (g : h[i]? = some (.dct kvs)) (rk : RelP X.K H k y) (ry : RelV y u)
    (rx : RelD X.K H h.length ρ x xv) (rxv : RelV xv xw) (fit : kFit kvs k = true) (hl : kvs.length < sizeLine)
    (h1 : ∀ d, dGet kvs k = some d → ∀ v w s', Inv X pins σ H s' → RelD X.K H h.length ρ d v → RelV v w → Q w s')
    (h2 : dGet kvs k = none → ∀ s' H', Inv X pins σ H' s' → Keep X.K H H' → RelH (tb X c) ρ (h.set i (.dct (dPut kvs k x))) H' → Q xw s') : wpAny (model X.prog X.w) X.A (call (.builtin "dict.setdefault") [.ref (ρ i), u, xw]) Q E s := by
  have hz : (dPut kvs k x).length ≤ sizeLine := by have := dPut_length kvs k x; omega
  rcases kfit fit with ⟨kl, lf⟩ | ⟨kt, tk⟩
  · obtain ⟨e0, z, vs, r, dd⟩ := dct_lf I R g (.inl rfl) lf
    refine call_meetsIn PySem.F.slot_dict_setdefault dd.typeIs PySem.F.entry_dict_setdefault (PySem.F.args_dict_setdefault_3 _ _ _) (kt_meets_setdefault (lfKind X.prog X.w) (ρ i) (lf_of kl rk ry) e0 xw) ⟨vs, dd, by rw [← Paired.length r]; exact z, fun v hv => ?_, fun hn h' dd' hs => ?_⟩
    · rcases rv_get r kl with ⟨_, q⟩ | ⟨d', v', w, q1, q2, q3, q4⟩
      · rw [q] at hv; cases hv
      · rw [q2] at hv; cases hv; exact h1 _ q1 _ _ _ (I.tok _) q3 q4
    · rcases rv_get r kl with ⟨q, _⟩ | ⟨d', v', w, q1, q2, q3, q4⟩
      · obtain ⟨H', I', kp, R'⟩ := dct_wrl (t' := s.toks + 1) I R g e0 hz (fun es kp => prd_imp (fun _ _ ⟨h1, h2, v, h3, h4⟩ => ⟨h1, h2, v, h3.mono kp (Ext.refl _ _) (Nat.le_refl _), h4⟩) (rv_put r kl rx rxv)) (rv_put r kl rx rxv) hs dd'
        exact h2 q _ H' I' kp R'
      · rw [q2] at hn; cases hn
  · obtain ⟨e0, z, xs, r, dd⟩ := dct_tk I R g (.inl rfl) tk
    obtain ⟨a, rfl⟩ := tk_ref kt rk
    cases ry
    refine call_setdefault_heap (hsz := by rw [← Paired.length r]; exact z) (room8 hu) (tk_is I rk kt) e0 dd (fun p hp => ?_) fun hn h' dd' hs => ?_
    · rcases rx_get r kt with ⟨_, q⟩ | ⟨d', v', w, q1, q2, q3, q4⟩
      · rw [q] at hp; cases hp
      · rw [q2] at hp; cases hp; exact h1 _ q1 _ _ _ (I.tok _) q3 q4
    · rcases rx_get r kt with ⟨q, _⟩ | ⟨d', v', w, q1, q2, q3, q4⟩
      · obtain ⟨H', I', kp, R'⟩ := dct_wrt (t' := s.toks + (nestedKind X.prog X.w).draws k.key) I R g e0 hz (rx_put r kt rk rx rxv) hs dd'
        exact h2 q _ H' I' kp R'
      · rw [q2] at hn; cases hn
theorem ks_leaf (h : k.isKs = true) : k.leaf = true := by cases k <;> first | rfl | cases h
theorem ks_part (h : k.isKs = true) (rk : RelP X.K H k y) (ry : RelV y u) : (keyPart u).isSome = true := by
  cases rk with
  | int i => obtain ⟨t, rfl⟩ := ry; rfl
  | str x => obtain ⟨t, rfl⟩ := ry; rfl
  | non => cases h
  | bl _ => cases h
  | tup _ _ => cases h
/-- d.pop(k), d.pop(k, x): there -/
theorem dk_pop {d : D} {more : List Value} {Q : Value → Shared → Prop} {E : Value → Shared → Prop} (I : Inv X pins σ H s) (R : RelH (tb X c) ρ h H) (g : h[i]? = some (.dct kvs)) (rk : RelP X.K H k y) (ry : RelV y u)
    (kl : k.isKs = true) (lf : lfs kvs = true) (hg : dGet kvs k = some d) (hm : more = [] ∨ ∃ x, more = [x])
    (hQ : ∀ v w s' H', Inv X pins σ H' s' → Keep X.K H H' → RelH (tb X c) ρ (h.set i (.dct (dDrop kvs k))) H' → RelD X.K H h.length ρ d v → RelV v w → Q w s') : wpAny (model X.prog X.w) X.A (call (.builtin "dict.pop") (.ref (ρ i) :: u :: more)) Q E s := by
  obtain ⟨e0, z, vs, r, dd⟩ := dct_lf I R g (.inl rfl) lf
  have ha : argsOk "dict.pop" ⟨.ref (ρ i) :: u :: more, []⟩ := by
    rcases hm with q | ⟨x, q⟩
    · subst q; exact PySem.F.args_dict_pop_2 _ _
    · subst q; exact PySem.F.args_dict_pop_3 _ _ _
  rcases rv_get r (ks_leaf kl) with ⟨h1, _⟩ | ⟨d', v, w, h1, h2, h3, h4⟩
  · rw [hg] at h1; cases h1
  rw [hg] at h1; cases h1
  refine call_meetsIn PySem.F.slot_dict_pop dd.typeIs PySem.F.entry_dict_pop ha (meets_dict_pop_there (lfKind X.prog X.w) (ρ i) (lf_of (ks_leaf kl) rk ry) more hm (ks_part kl rk ry)) ⟨vs, w, dd, by rw [← Paired.length r]; exact z, h2, fun h' dd' hs => ?_⟩
  have rr := rv_drop r (ks_leaf kl)
  obtain ⟨H', I', kp, R'⟩ := dct_wrl (t' := s.toks + 1) I R g e0 (Nat.le_trans (dDrop_length kvs k) z) (fun es kp => prd_imp (fun _ _ ⟨h1, h2, v, h3, h4⟩ => ⟨h1, h2, v, h3.mono kp (Ext.refl _ _) (Nat.le_refl _), h4⟩) rr) rr hs dd'
  exact hQ v w _ H' I' kp R' h3 h4
theorem dk_popD {xw : Value} {Q : Value → Shared → Prop} {E : Value → Shared → Prop} (I : Inv X pins σ H s) (R : RelH (tb X c) ρ h H) (g : h[i]? = some (.dct kvs)) (rk : RelP X.K H k y) (ry : RelV y u)
    (kl : k.isKs = true) (lf : lfs kvs = true) (hg : dGet kvs k = none) (hQ : ∀ s', Inv X pins σ H s' → Q xw s') : wpAny (model X.prog X.w) X.A (call (.builtin "dict.pop") [.ref (ρ i), u, xw]) Q E s := by
  obtain ⟨e0, z, vs, r, dd⟩ := dct_lf I R g (.inl rfl) lf
  rcases rv_get r (ks_leaf kl) with ⟨_, h2⟩ | ⟨d', v, w, h1, h2, h3, h4⟩
  · exact call_meetsIn PySem.F.slot_dict_pop dd.typeIs PySem.F.entry_dict_pop (PySem.F.args_dict_pop_3 _ _ _) (meets_dict_pop_default (lfKind X.prog X.w) (ρ i) (lf_of (ks_leaf kl) rk ry) e0 (ks_part kl rk ry) xw) ⟨vs, dd, h2, hQ _ (I.tok _)⟩
  · rw [hg] at h1; cases h1
/-- len(d), if d -/
theorem dk_len {o : O} {Q : Value → Shared → Prop} {E : Value → Shared → Prop} (I : Inv X pins σ H s) (R : RelH (tb X c) ρ h H) (g : h[i]? = some o) (hd : DO o kvs) (hQ : ∀ t s', Inv X pins σ H s' → Q (.int kvs.length t) s') :
    wpAny (model X.prog X.w) X.A (call (.builtin "len") [.ref (ρ i)]) Q E s := by
  obtain ⟨e0, es, ep, hr, he, hz⟩ := dct_is I R g hd
  refine PyProof.Rows.call_len_slot (n := kvs.length) hr.typeIs PySem.F.slot_dict_len (fun Q' hq => call_len_raw e0 hr ?_) (by omega) (by rw [sizeLine_eq] at hz; omega) ?_
  · rw [he]; exact hq
  · exact hQ _ _ (I.tok _)
theorem dk_truth {o : O} {Q : Bool → Shared → Prop} {E : Value → Shared → Prop} (I : Inv X pins σ H s) (R : RelH (tb X c) ρ h H) (g : h[i]? = some o) (hd : DO o kvs) (lf : lfs kvs = true) (hQ : ∀ s', Inv X pins σ H s' → Q (!kvs.isEmpty) s') :
    wpAny (model X.prog X.w) X.A (truthy (.ref (ρ i))) Q E s := by
  obtain ⟨e0, z, vs, r, dd⟩ := dct_lf I R g hd lf
  refine wpAny_truthy_dict e0 dd (by rw [← Paired.length r]; rw [sizeLine_eq] at z; omega) ?_
  have q : kvs.isEmpty = vs.isEmpty := by cases r <;> rfl
  rw [← q]
  exact hQ _ (I.tok _)
end
end Pv

/-! H: the values' operations keep what the evaluator says. -/
namespace Pv
open PySem L2 PySem.Spec PyProof.Rows

@[simp] theorem mkT_map (xs : List P) : mkT (xs.map .p) = .p (.tup xs) := by simp [mkT]
theorem upd_tup {K : PySem.W.Frag} {H : Hp} {p : Addr} {ob : Obj} {vs : List V} (h : ob.dict = none) : SqP K (upd H p (.frz ob (.tup vs))) p vs := .inl ⟨ob, h, upd_same⟩

section
variable {X : Cx} {c : Ct} {pins : List (Addr × Obj)} {σ : L2.St} {H : Hp} {s : Shared} {W : WX} {ρ : Nat → Addr} {h : Hh} {Q : VK} {a b : D} {x y : V} {v u : Value} {p : Addr} {ds : List D} {vs : List V}
/-- a new tuple, a new list -/
theorem Out.newT (o : Out (tb X c) RL.d W h.length ρ H σ Q (.ok (mkT ds) h)) (R : RelH (tb X c) ρ h H) (r : RelDs X.K H h.length ρ ds vs) : NewT H vs Q := fun p ob hp hd =>
  o ρ (.ref p) _ (Nat.le_refl _) (Ext.refl _ _) (keep_new hp) (R.pad hp) (RelD.mkT (upd_tup hd) (r.mono (keep_new hp) (Ext.refl _ _) (Nat.le_refl _)))
theorem Out.newTw (o : Out (tb X c) RL.d W h.length ρ H σ Q (.ok (.t ds) h)) (R : RelH (tb X c) ρ h H) (r : RelDs X.K H h.length ρ ds vs) : NewT H vs Q := fun p ob hp hd =>
  o ρ (.ref p) _ (Nat.le_refl _) (Ext.refl _ _) (keep_new hp) (R.pad hp) (.t (upd_tup hd).sq (r.mono (keep_new hp) (Ext.refl _ _) (Nat.le_refl _)))
theorem Out.newL (o : Out (tb X c) RL.d W h.length ρ H σ Q (mk (.lst ds) h)) (R : RelH (tb X c) ρ h H) (r : RelDs X.K H h.length ρ ds vs) (hp : H p = none) : Q (.ref p) (upd H p (.lst vs)) := by
  obtain ⟨ρ', e0, e1, R'⟩ := R.new (o := .lst ds) hp (fun ρ' e0 e1 => ⟨vs, upd_same, r.mono (keep_new hp) e1 (Nat.le_succ _)⟩)
  refine o ρ' (.ref p) _ (by simp) e1 (keep_new hp) R' ?_
  have q : RelD X.K (upd H p (.lst vs)) (h ++ [O.lst ds]).length ρ' (.r h.length) (.ref (ρ' h.length)) := .r (by simp)
  rw [e0] at q
  exact q
theorem lst_at {xs : List D} (R : RelH (tb X c) ρ h H) (r : RelD X.K H h.length ρ a x) (e : lstOf h a = some xs) : ∃ q vs, x = .ref q ∧ SqL X.K H q vs ∧ RelDs X.K H h.length ρ xs vs := by
  cases r with
  | p _ => cases e
  | t _ _ => cases e
  | r hi =>
    rename_i i
    simp only [lstOf] at e
    cases g : h[i]? with
    | none => rw [g] at e; cases e
    | some ob =>
      rw [g] at e
      have ro := R.obj i ob g
      cases ob with
      | lst ys => cases e; obtain ⟨vs, q, r⟩ := ro; exact ⟨_, vs, rfl, .inl (.inl q), r⟩
      | ro ys => cases e; obtain ⟨vs, q, r⟩ := ro; exact ⟨_, vs, rfl, q.sq, r.toDs⟩
      | dct _ => cases e
      | lck _ => cases e
      | set _ => cases e
      | ins _ _ => cases e
theorem mut_at {xs : List D} (R : RelH (tb X c) ρ h H) (r : RelD X.K H h.length ρ a x) (e : mutOf h a = some xs) : ∃ i vs, a = .r i ∧ h[i]? = some (.lst xs) ∧ x = .ref (ρ i) ∧ H (ρ i) = some (.lst vs) ∧ RelDs X.K H h.length ρ xs vs := by
  cases r with
  | p _ => cases e
  | t _ _ => cases e
  | r hi =>
    rename_i i
    simp only [mutOf] at e
    cases g : h[i]? with
    | none => rw [g] at e; cases e
    | some ob =>
      rw [g] at e
      have ro := R.obj i ob g
      cases ob with
      | lst ys => cases e; obtain ⟨vs, q, r⟩ := ro; exact ⟨i, vs, rfl, g, rfl, q, r⟩
      | ro ys => cases e
      | dct _ => cases e
      | lck _ => cases e
      | set _ => cases e
      | ins _ _ => cases e
theorem seq_at {xs : List D} (R : RelH (tb X c) ρ h H) (r : RelD X.K H h.length ρ a x) (e : seqOf h a = some xs) : ∃ q vs k, x = .ref q ∧ SqB X.K H q vs k ∧ RelDs X.K H h.length ρ xs vs := by
  cases r with
  | p r =>
    cases r with
    | tup q rs => cases e; exact ⟨_, _, false, rfl, q.sq, rs.toDs⟩
    | non => cases e
    | bl _ => cases e
    | int _ => cases e
    | str _ => cases e
  | t q rs => cases e; exact ⟨_, _, false, rfl, q, rs⟩
  | r hi =>
    obtain ⟨q, vs, e1, e2, e3⟩ := lst_at R (.r hi) e
    exact ⟨q, vs, true, e1, e2, e3⟩
theorem RelDs.nil_iff {K : PySem.W.Frag} {n : Nat} (r : RelDs K H n ρ ds vs) : vs = [] → ds = [] := by
  rintro rfl
  cases r
  rfl

/-! ### + and so on -/
theorem catP_ok {d1 d2 : List P} (I : Inv X pins σ H s) (rx : RelV x v) (ry : RelV y u) (R : RelH (tb X c) ρ h H) (ra : RelP X.K H (.tup d1) x) (rb : RelP X.K H (.tup d2) y)
    (l : d1.length + d2.length ≤ sizeLine) (o : Out (tb X c) RL.d W h.length ρ H σ Q (.ok (.p (.tup (d1 ++ d2))) h)) : wpAny (model X.prog X.w) X.A (binaryOp .Add v u) (EP X pins σ Q) X.xe s := by
  cases ra with | tup t1 r1 => cases rb with | tup t2 r2 =>
  refine op_catP pins s σ H _ _ v u Q I rx ry ⟨_, _, _, _, rfl, rfl, t1.sq, t2.sq, by rw [← r1.length, ← r2.length]; exact l, fun e => ?_, fun e => ?_, ?_⟩
  · subst e
    cases r1
    exact o.ret R (.p (.tup t2 r2))
  · subst e
    cases r2
    rw [List.append_nil] at o
    exact o.ret R (.p (.tup t1 r1))
  · rw [← mkT_map] at o
    exact o.newT R (r1.append r2).toDs
theorem cat_ok {d1 d2 : List D} (I : Inv X pins σ H s) (rx : RelV x v) (ry : RelV y u) (R : RelH (tb X c) ρ h H) (ra : RelD X.K H h.length ρ a x) (rb : RelD X.K H h.length ρ b y)
    (e1 : a.items = some d1) (e2 : b.items = some d2) (l : d1.length + d2.length ≤ sizeLine) (o : Out (tb X c) RL.d W h.length ρ H σ Q (.ok (.t (d1 ++ d2)) h)) : wpAny (model X.prog X.w) X.A (binaryOp .Add v u) (EP X pins σ Q) X.xe s := by
  obtain ⟨q1, vs1, rfl, t1, r1⟩ := ra.items e1
  obtain ⟨q2, vs2, rfl, t2, r2⟩ := rb.items e2
  refine op_catP pins s σ H _ _ v u Q I rx ry ⟨q1, q2, vs1, vs2, rfl, rfl, t1, t2, by rw [← r1.length, ← r2.length]; exact l, fun e => ?_, fun e => ?_, o.newTw R (r1.append r2)⟩
  · have e' := RelDs.nil_iff r1 e
    subst e'
    exact o.ret R (.t t2 r2)
  · have e' := RelDs.nil_iff r2 e
    subst e'
    rw [List.append_nil] at o
    exact o.ret R (.t t1 r1)
theorem catL_ok {d1 d2 : List D} (I : Inv X pins σ H s) (rx : RelV x v) (ry : RelV y u) (R : RelH (tb X c) ρ h H) (ra : RelD X.K H h.length ρ a x) (rb : RelD X.K H h.length ρ b y)
    (e1 : mutOf h a = some d1) (e2 : mutOf h b = some d2) (l : d1.length + d2.length ≤ sizeLine) (o : Out (tb X c) RL.d W h.length ρ H σ Q (mk (.lst (d1 ++ d2)) h)) : wpAny (model X.prog X.w) X.A (binaryOp .Add v u) (EP X pins σ Q) X.xe s := by
  obtain ⟨i1, vs1, _, _, rfl, t1, r1⟩ := mut_at R ra e1
  obtain ⟨i2, vs2, _, _, rfl, t2, r2⟩ := mut_at R rb e2
  exact op_cat pins s σ H _ _ v u Q I rx ry ⟨_, _, vs1, vs2, rfl, rfl, t1, t2, by rw [← r1.length, ← r2.length]; exact l, fun p hp => o.newL R (r1.append r2) hp⟩
theorem mulOk_c {i j : Int} (h : mulOk i j = true) : CMul i j := by
  simpa [mulOk, CMul] using h
theorem RelPs.flat {K : PySem.W.Frag} {H : Hp} {xs : List P} {vs : List V} (r : RelPs K H xs vs) : ∀ n : Nat, RelPs K H (List.replicate n xs).flatten (List.replicate n vs).flatten
  | 0 => .nil
  | n + 1 => by
    rw [List.replicate_succ, List.replicate_succ, List.flatten_cons, List.flatten_cons]
    exact r.append (RelPs.flat r n)
theorem RelDs.flat {K : PySem.W.Frag} {n : Nat} (r : RelDs K H n ρ ds vs) : ∀ k : Nat, RelDs K H n ρ (List.replicate k ds).flatten (List.replicate k vs).flatten
  | 0 => .nil
  | k + 1 => by
    rw [List.replicate_succ, List.replicate_succ, List.flatten_cons, List.flatten_cons]
    exact r.append (RelDs.flat r k)
theorem op_fdivB : OpR X (binaryOp .FloorDiv) (rI (fun _ j => j ≠ 0 ∧ j.natAbs < 1329227995784915872903807060280344576) fun i j => .int (i.fdiv j)) := opI fun i j _ _ _ _ _ hc q =>
  floordiv_int hc.1 q (.inl (PyProof.noPylong_of_log2 (by
    by_cases z : j.natAbs = 0
    · rw [z]; decide
    · exact Nat.lt_trans ((Nat.log2_lt z).mpr (show j.natAbs < 2 ^ 120 from hc.2)) (by decide))))
theorem bin_ok {op : Operator} {bo : Bin} (ho : binOf op = some bo) (I : Inv X pins σ H s) (rx : RelV x v) (ry : RelV y u) (R : RelH (tb X c) ρ h H) (ra : RelD X.K H h.length ρ a x) (rb : RelD X.K H h.length ρ b y)
    (o : Out (tb X c) RL.d W h.length ρ H σ Q (binS bo a b h)) : wpAny (model X.prog X.w) X.A (binaryOp op v u) (EP X pins σ Q) X.xe s := by
  have two : ∀ (f : Int → Int → D → Prop), True := fun _ => trivial
  cases op with
  | Add =>
    cases ho
    simp only [binS, addS] at o
    split at o
    · split at o
      · cases ra with | p ra => cases rb with | p rb => cases ra with | int i => cases rb with | int j => exact op_add pins s σ H _ _ v u Q I rx ry ⟨_, _, rfl, rfl, o.ret R (.p (.int _))⟩
      · exact o.elim
    · split at o
      · cases ra with | p ra => cases rb with | p rb => cases ra with | str i => cases rb with | str j =>
          split at o
          · rename_i l; exact op_add_str pins s σ H _ _ v u Q I rx ry ⟨_, _, rfl, rfl, l, o.ret R (.p (.str _))⟩
          · exact o.elim
      · exact o.elim
    · split at o
      · split at o
        · rename_i l
          cases ra with | p ra => cases rb with | p rb =>
          exact catP_ok I rx ry R ra rb l o
        · exact o.elim
      · split at o
        · rename_i l
          exact cat_ok I rx ry R ra rb rfl rfl (by simpa using l) o
        · exact o.elim
      · exact o.elim
    · split at o
      · split at o
        · rename_i l
          exact cat_ok I rx ry R ra rb rfl rfl (by simpa using l) o
        · exact o.elim
      · split at o
        · rename_i l
          exact cat_ok I rx ry R ra rb rfl rfl l o
        · exact o.elim
      · exact o.elim
    · split at o
      · split at o
        · rename_i e1 e2 l
          exact catL_ok I rx ry R ra rb e1 e2 l o
        · exact o.elim
      · exact o.elim
    · exact o.elim
  | Sub =>
    cases ho
    simp only [binS] at o
    split at o
    · cases ra with | p ra => cases rb with | p rb => cases ra with | int i => cases rb with | int j => exact op_sub pins s σ H _ _ v u Q I rx ry ⟨_, _, rfl, rfl, o.ret R (.p (.int _))⟩
    · exact o.elim
  | Mult =>
    cases ho
    simp only [binS, mulS] at o
    split at o
    · split at o
      · split at o
        · rename_i l
          cases ra with | p ra => cases rb with | p rb => cases ra with | int i => cases rb with | int j => exact op_mul pins s σ H _ _ v u Q I rx ry ⟨_, _, rfl, rfl, mulOk_c l, o.ret R (.p (.int _))⟩
        · exact o.elim
      · split at o
        · rename_i l
          cases ra with | p ra => cases rb with | p rb => cases ra with | tup t ts => cases rb with | int j =>
            refine op_mulT pins s σ H _ _ v u Q I rx ry ⟨_, _, _, rfl, rfl, t.sq, l.1, l.2.1, by rw [← ts.length]; exact l.2.2, fun e => ?_, ?_⟩
            · refine o.ret R (.p (.tup t ?_))
              rw [← e]
              exact ts.flat _
            · refine Out.newT (ds := (List.replicate _ _).flatten.map D.p) (by rw [mkT_map]; exact o) R (ts.flat _).toDs
        · exact o.elim
      · split at o
        · rename_i e
          split at o
          · rename_i l
            cases rb with | p rb => cases rb with | int j =>
              obtain ⟨i1, vs1, _, _, rfl, t1, r1⟩ := mut_at R ra e
              exact op_rep pins s σ H _ _ v u Q I rx ry ⟨_, _, vs1, rfl, rfl, t1, l.1, l.2.1, by rw [← r1.length]; exact l.2.2, fun p hp => o.newL R (r1.flat _) hp⟩
          · exact o.elim
        · exact o.elim
      · exact o.elim
    · exact o.elim
  | FloorDiv =>
    cases ho
    simp only [binS] at o
    split at o
    · split at o
      · rename_i l
        cases ra with | p ra => cases rb with | p rb => cases ra with | int i => cases rb with | int j => exact op_fdivB pins s σ H _ _ v u Q I rx ry ⟨_, _, rfl, rfl, l, o.ret R (.p (.int _))⟩
      · exact o.elim
    · exact o.elim
  | Mod =>
    cases ho
    simp only [binS] at o
    split at o
    · split at o
      · rename_i l
        cases ra with | p ra => cases rb with | p rb => cases ra with | int i => cases rb with | int j => exact op_modN pins s σ H _ _ v u Q I rx ry ⟨_, _, rfl, rfl, l, o.ret R (.p (.int _))⟩
      · exact o.elim
    · exact o.elim
  | Pow =>
    cases ho
    simp only [binS] at o
    split at o
    · split at o
      · rename_i l
        cases ra with | p ra => cases rb with | p rb => cases ra with | int i => cases rb with | int j => exact op_pow pins s σ H _ _ v u Q I rx ry ⟨_, _, rfl, rfl, l, o.ret R (.p (.int _))⟩
      · exact o.elim
    · exact o.elim
  | _ => cases ho

/-! ### a op= b -/
theorem aug_ok {op : Operator} {bo : Bin} (ho : binOf op = some bo) (I : Inv X pins σ H s) (rx : RelV x v) (ry : RelV y u) (R : RelH (tb X c) ρ h H) (ra : RelD X.K H h.length ρ a x) (rb : RelD X.K H h.length ρ b y)
    (o : Out (tb X c) RL.d W h.length ρ H σ Q (augS bo a b h)) : wpAny (model X.prog X.w) X.A (inplaceOp op v u) (EP X pins σ Q) X.xe s := by
  unfold augS at o
  cases op with
  | Add =>
    cases ho
    split at o
    · cases ra with | p ra => cases rb with | p rb => cases ra with | int i => cases rb with | int j => exact iop_add pins s σ H _ _ v u Q I rx ry ⟨_, _, rfl, rfl, o.ret R (.p (.int _))⟩
    · split at o
      · rename_i l
        cases ra with | p ra => cases rb with | p rb => cases ra with | str i => cases rb with | str j => exact iop_add_str pins s σ H _ _ v u Q I rx ry ⟨_, _, rfl, rfl, l, o.ret R (.p (.str _))⟩
      · exact o.elim
    all_goals first | contradiction | exact o.elim
  | Sub =>
    cases ho
    split at o
    · contradiction
    · contradiction
    · cases ra with | p ra => cases rb with | p rb => cases ra with | int i => cases rb with | int j => exact iop_sub pins s σ H _ _ v u Q I rx ry ⟨_, _, rfl, rfl, o.ret R (.p (.int _))⟩
    all_goals first | contradiction | exact o.elim
  | Mult =>
    cases ho
    split at o
    · contradiction
    · contradiction
    · contradiction
    · split at o
      · rename_i l
        cases ra with | p ra => cases rb with | p rb => cases ra with | int i => cases rb with | int j => exact iop_mul pins s σ H _ _ v u Q I rx ry ⟨_, _, rfl, rfl, mulOk_c l, o.ret R (.p (.int _))⟩
      · exact o.elim
    all_goals first | contradiction | exact o.elim
  | FloorDiv =>
    cases ho
    split at o
    · contradiction
    · contradiction
    · contradiction
    · contradiction
    · split at o
      · rename_i l
        cases ra with | p ra => cases rb with | p rb => cases ra with | int i => cases rb with | int j => exact iop_fdiv pins s σ H _ _ v u Q I rx ry ⟨_, _, rfl, rfl, l, o.ret R (.p (.int _))⟩
      · exact o.elim
    all_goals first | contradiction | exact o.elim
  | Mod =>
    cases ho
    split at o
    · contradiction
    · contradiction
    · contradiction
    · contradiction
    · contradiction
    · split at o
      · rename_i l
        cases ra with | p ra => cases rb with | p rb => cases ra with | int i => cases rb with | int j => exact iop_mod pins s σ H _ _ v u Q I rx ry ⟨_, _, rfl, rfl, l, o.ret R (.p (.int _))⟩
      · exact o.elim
    all_goals first | contradiction | exact o.elim
  | Pow =>
    cases ho
    split at o
    all_goals first | contradiction | exact o.elim
  | _ => cases ho

/-! ### data as seen -/
theorem see_all {K : PySem.W.Frag} {n : Nat} {f : D → Option PyData} (hf : ∀ d v e, RelD K H n ρ d v → f d = some e → Dp K H v e) : ∀ {ds : List D} {vs : List V} {es : List PyData}, RelDs K H n ρ ds vs → ds.mapM f = some es → DpAll K H vs es
  | _, _, _, .nil, e => by
    simp at e; subst e; exact .nil
  | _, _, _, .cons r rs, e => by
    rw [List.mapM_cons] at e
    obtain ⟨d0, e0, e⟩ := Option.bind_eq_some_iff.mp e
    obtain ⟨d1, e1, e⟩ := Option.bind_eq_some_iff.mp e
    cases e
    exact .cons (hf _ _ _ r e0) (see_all hf rs e1)
theorem see_dp (R : RelH (tb X c) ρ h H) : ∀ (n : Nat) (d : D) (v : V) (e : PyData), RelD X.K H h.length ρ d v → see n h d = some e → Dp X.K H v e
  | n, _, _, e, .p r, q => by
    cases n <;> (simp only [see] at q; cases q; exact r.dp)
  | 0, _, _, e, .r _, q => by simp [see] at q
  | 0, _, _, e, .t _ _, q => by simp [see] at q
  | n + 1, _, _, e, .t t rs, q => by
    simp only [see, Option.map_eq_some_iff] at q
    obtain ⟨es, q, rfl⟩ := q
    exact .tup t (see_all (see_dp R n) rs q)
  | n + 1, _, _, e, .r (i := i) hi, q => by
    simp only [see] at q
    cases g : h[i]? with
    | none => rw [g] at q; cases q
    | some ob =>
      rw [g] at q
      have ro := R.obj i ob g
      cases ob with
      | lst ys =>
        obtain ⟨vs, t, r⟩ := ro
        simp only [Option.map_eq_some_iff] at q
        obtain ⟨es, q, rfl⟩ := q
        exact .lst (.inl (.inl t)) (see_all (see_dp R n) r q)
      | ro ys =>
        obtain ⟨vs, t, r⟩ := ro
        cases q
        exact .lst t.sq r.dps
      | dct _ => cases q
      | lck _ => cases q
      | set _ => cases q
      | ins _ _ => cases q
mutual
theorem py_lay : ∀ x : P, x.fit = true → x.py.canLay0 = true
  | .non, _ => rfl
  | .bl _, _ => rfl
  | .int _, _ => rfl
  | .str z, h => by simpa [P.py, PyData.canLay0, P.fit] using h
  | .tup xs, h => by simp only [P.py, PyData.canLay0]; exact pys_lay xs (by simpa [P.fit] using h)
theorem pys_lay : ∀ x : List P, P.fits x = true → PyData.canLayAll0 (P.pys x) = true
  | [], _ => rfl
  | x :: xs, h => by
    simp only [P.fits, Bool.and_eq_true] at h
    simp only [P.pys, PyData.canLayAll0, py_lay x h.1, pys_lay xs h.2, Bool.and_self]
end
theorem py_shaped {x : P} (d : x.depth ≤ 64) (f : x.fit = true) : SeqAt.shaped x.py = true := by
  unfold SeqAt.shaped
  rw [py_lay x f, py_depth, decide_eq_true d]
  rfl
theorem eqO_dp {k : Bool} (R : RelH (tb X c) ρ h H) (ra : RelD X.K H h.length ρ a x) (rb : RelD X.K H h.length ρ b y) (e : eqO h a b = some k) :
    (scal x y = true ∧ decide (x = y) = k) ∨ ∃ d f, Dp X.K H x d ∧ Dp X.K H y f ∧ SeqAt.shaped d = true ∧ SeqAt.shaped f = true ∧ PyData.eqv d f = k := by
  unfold eqO at e
  split at e
  · cases e
    cases ra with | p ra => cases rb with | p rb => cases ra with | str u => cases rb with | str w =>
    refine .inl ⟨rfl, ?_⟩
    rw [Bool.eq_iff_iff]
    simp
  · right
    split at e
    · rename_i l
      cases e
      cases ra with | p ra => cases rb with | p rb => exact ⟨_, _, ra.dp, rb.dp, py_shaped l.1 l.2.2.1, py_shaped l.2.1 l.2.2.2, P.eqv_py _ _⟩
    · cases e
  · right
    split at e
    · rename_i d f e1 e2
      split at e
      · rename_i l
        cases e
        exact ⟨d, f, see_dp R _ _ _ _ ra e1, see_dp R _ _ _ _ rb e2, l.1, l.2, rfl⟩
      · cases e
    · cases e
theorem isNone_eq {K : PySem.W.Frag} {n : Nat} (r : RelD K H n ρ a x) : decide (x = .non) = isNone a := by
  cases r with
  | p r => cases r <;> rfl
  | r _ => rfl
  | t _ _ => rfl
theorem ord_ok {op : CmpOp} {f : Int → Int → Bool} {Q : VK} (hop : OpR X (compareOp op) (rI0 fun i j => .bl (f i j))) (I : Inv X pins σ H s) (rx : RelV x v) (ry : RelV y u) (R : RelH (tb X c) ρ h H) (ra : RelD X.K H h.length ρ a x) (rb : RelD X.K H h.length ρ b y)
    (o : Out (tb X c) RL.b W h.length ρ H σ (fun k H' => Q (.bl k) H') (ordS f a b h)) : wpAny (model X.prog X.w) X.A (compareOp op v u) (EP X pins σ Q) X.xe s := by
  unfold ordS at o
  split at o
  · cases ra with | p ra => cases rb with | p rb => cases ra with | int i => cases rb with | int j => exact hop pins s σ H _ _ v u Q I rx ry ⟨_, _, rfl, rfl, o.ret R rfl⟩
  · exact o.elim
theorem eqv_V {K : PySem.W.Frag} {x y : P} {v w : V} (r1 : RelP K H x v) (r2 : RelP K H y w) (f1 : x.flat = true) (f2 : y.flat = true) : flatV v = true ∧ eqV v w = x.eqv y := by
  cases r1 with
  | tup _ _ => cases f1
  | non => refine ⟨rfl, ?_⟩; cases r2 <;> first | rfl | cases f2
  | bl b => refine ⟨rfl, ?_⟩; cases r2 <;> first | rfl | (cases f2) | (simp [eqV, P.eqv] <;> done) | (rw [Bool.eq_iff_iff]; simp [eqV, P.eqv])
  | int i => refine ⟨rfl, ?_⟩; cases r2 <;> first | rfl | (cases f2) | (simp [eqV, P.eqv] <;> done) | (rw [Bool.eq_iff_iff]; simp [eqV, P.eqv])
  | str z => refine ⟨rfl, ?_⟩; cases r2 <;> first | rfl | (cases f2) | (simp [eqV, P.eqv] <;> done) | (rw [Bool.eq_iff_iff]; simp [eqV, P.eqv])
theorem in_V {K : PySem.W.Frag} {x : P} {v : V} (r1 : RelP K H x v) (f1 : x.flat = true) : ∀ {ys : List P} {ws : List V}, RelPs K H ys ws → ys.all P.flat = true → ws.all flatV = true ∧ inV v ws = ys.any fun y => y.eqv x
  | _, _, .nil, _ => ⟨rfl, rfl⟩
  | _, _, .cons r rs, f => by
    rw [List.all_cons, Bool.and_eq_true] at f
    obtain ⟨h1, h2⟩ := in_V r1 f1 rs f.2
    obtain ⟨h3, h4⟩ := eqv_V r r1 f.1 f1
    refine ⟨by rw [List.all_cons, h3, h1]; rfl, ?_⟩
    unfold inV at h2 ⊢
    rw [List.any_cons, List.any_cons, h2, h4]
/-- the set that stands there -/
theorem set_at {xs : List P} (I : Inv X pins σ H s) (R : RelH (tb X c) ρ h H) {i : Nat} (g : h[i]? = some (.set xs)) : SetL X.prog X.w s.heap (ρ i) (xs.map P.lf) ∧ (xs.all P.leaf) = true := by
  obtain ⟨e, lf, nd⟩ := R.obj i _ g
  exact ⟨(I.hok _ _ e).1, lf⟩
theorem setOf_get {xs : List P} (e : setOf h a = some xs) : ∃ i, a = .r i ∧ h[i]? = some (.set xs) := by
  unfold setOf at e
  split at e
  · rename_i i
    split at e
    · rename_i g; cases e; exact ⟨i, rfl, g⟩
    · cases e
  · cases e
theorem in_ok {k : Bool} (hu : X.A.units + 66 < cLine) (neg : Bool) (I : Inv X pins σ H s) (rx : RelV x v) (ry : RelV y u) (R : RelH (tb X c) ρ h H) (ra : RelD X.K H h.length ρ a x) (rb : RelD X.K H h.length ρ b y)
    (e : inO h a b = some k) (q : Q (.bl (if neg then !k else k)) H) : wpAny (model X.prog X.w) X.A (compareOp (if neg then .NotIn else .In) v u) (EP X pins σ Q) X.xe s := by
  have two : ∀ {r r' : R2}, OpR X (compareOp .In) r → OpR X (compareOp .NotIn) r' → (∀ Q : VK, Q (.bl k) H → r x y H Q) → (∀ Q : VK, Q (.bl (!k)) H → r' x y H Q) →
      wpAny (model X.prog X.w) X.A (compareOp (if neg then .NotIn else .In) v u) (EP X pins σ Q) X.xe s := fun o1 o2 h1 h2 => by
    cases neg with
    | true => exact o2 pins s σ H _ _ v u Q I rx ry (h2 _ q)
    | false => exact o1 pins s σ H _ _ v u Q I rx ry (h1 _ q)
  unfold inO at e
  split at e
  · rename_i i
    split at e
    · rename_i kvs ed
      split at e
      · rename_i kk
        split at e
        · rename_i fit
          cases e
          obtain ⟨i', o', ei, g, hd, rfl⟩ := dct_at rb ed
          cases ei
          cases ra with | p ra =>
          cases ry
          cases neg with
          | true => exact dk_notIn (by omega) I R g hd ra rx fit fun s' I' => ⟨.bl _, H, I', rfl, q⟩
          | false => exact dk_in (by omega) I R g hd ra rx fit fun s' I' => ⟨.bl _, H, I', rfl, q⟩
        · cases e
      · cases e
    · split at e
      · rename_i xs es
        split at e
        · rename_i kk
          split at e
          · rename_i lfk
            cases e
            obtain ⟨i', ei, g⟩ := setOf_get es
            cases ei
            cases rb with | r hi =>
            cases ra with | p ra =>
            cases ry
            obtain ⟨rs, lfs'⟩ := set_at I R g
            exact set_in I rs lfs' lfk ra rx neg fun s' I' => ⟨.bl _, H, I', rfl, q⟩
          · cases e
        · cases e
      · split at e
        · rename_i d ds e1 e2
          split at e
          · rename_i sh
            cases e
            exact two (op_inD (by omega)) (op_notInD (by omega)) (fun Q q => ⟨d, ds, see_dp R _ _ _ _ ra e1, see_dp R _ _ _ _ rb e2, sh.1, sh.2, q⟩) (fun Q q => ⟨d, ds, see_dp R _ _ _ _ ra e1, see_dp R _ _ _ _ rb e2, sh.1, sh.2, q⟩)
          · cases e
        · cases e
  · split at e
    · split at e
      · rename_i f
        cases e
        cases ra with | p ra => cases rb with | p rb => cases rb with | tup t ts =>
        obtain ⟨h1, h2⟩ := in_V ra f.1 ts f.2
        have h3 := (eqv_V ra ra f.1 f.1).1
        exact two op_in_seq op_notIn_seq (fun Q q => ⟨_, _, rfl, .inr t.sq, h3, h1, by rw [h2]; exact q⟩) (fun Q q => ⟨_, _, rfl, .inr t.sq, h3, h1, by rw [h2]; exact q⟩)
      · cases e
    · cases e
  · split at e
    · cases e
      cases ra with | p ra => cases rb with | p rb => cases ra with | str _ => cases rb with | str _ =>
      exact two op_in_str op_notin_str (fun Q q => ⟨_, _, rfl, rfl, q⟩) (fun Q q => ⟨_, _, rfl, rfl, q⟩)
    · cases e
  · cases e
theorem cmp_ok {op : CmpOp} {Q : VK} (hu : X.A.units + 66 < cLine) (I : Inv X pins σ H s) (rx : RelV x v) (ry : RelV y u) (R : RelH (tb X c) ρ h H) (ra : RelD X.K H h.length ρ a x) (rb : RelD X.K H h.length ρ b y)
    (o : Out (tb X c) RL.b W h.length ρ H σ (fun k H' => Q (.bl k) H') (cmpS (cmpOf op) a b h)) : wpAny (model X.prog X.w) X.A (compareOp op v u) (EP X pins σ Q) X.xe s := by
  cases op with
  | Eq =>
    simp only [cmpOf, cmpS] at o
    cases e : eqO h a b with
    | none => rw [e] at o; exact o.elim
    | some k =>
      rw [e] at o
      rcases eqO_dp R ra rb e with ⟨h1, h2⟩ | ⟨d, f, h1, h2, h3, h4, h5⟩
      · exact op_eq pins s σ H _ _ v u Q I rx ry ⟨h1, by rw [h2]; exact o.ret R rfl⟩
      exact op_eqD (by omega) pins s σ H _ _ v u Q I rx ry ⟨d, f, h1, h2, h3, h4, by rw [h5]; exact o.ret R rfl⟩
  | NotEq =>
    simp only [cmpOf, cmpS] at o
    cases e : eqO h a b with
    | none => rw [e] at o; exact o.elim
    | some k =>
      rw [e] at o
      rcases eqO_dp R ra rb e with ⟨h1, h2⟩ | ⟨d, f, h1, h2, h3, h4, h5⟩
      · exact op_ne pins s σ H _ _ v u Q I rx ry ⟨h1, by rw [h2]; exact o.ret R rfl⟩
      exact op_neD (by omega) pins s σ H _ _ v u Q I rx ry ⟨d, f, h1, h2, h3, h4, by rw [h5]; exact o.ret R rfl⟩
  | Lt => exact ord_ok op_lt I rx ry R ra rb o
  | LtE => exact ord_ok op_le I rx ry R ra rb o
  | Gt => exact ord_ok op_gt I rx ry R ra rb o
  | GtE => exact ord_ok op_ge I rx ry R ra rb o
  | Is =>
    simp only [cmpOf, cmpS] at o
    split at o
    · cases rb with | p rb => cases rb with | non => exact op_isN pins s σ H _ _ v u Q I rx ry ⟨rfl, by rw [isNone_eq ra]; exact o.ret R rfl⟩
    · exact o.elim
  | IsNot =>
    simp only [cmpOf, cmpS] at o
    split at o
    · cases rb with | p rb => cases rb with | non => exact op_notN pins s σ H _ _ v u Q I rx ry ⟨rfl, by rw [isNone_eq ra]; exact o.ret R rfl⟩
    · exact o.elim
  | In =>
    simp only [cmpOf, cmpS] at o
    cases e : inO h a b with
    | none => rw [e] at o; exact o.elim
    | some k =>
      rw [e] at o
      refine in_ok hu false I rx ry R ra rb e ?_
      exact o.ret R rfl
  | NotIn =>
    simp only [cmpOf, cmpS] at o
    cases e : inO h a b with
    | none => rw [e] at o; exact o.elim
    | some k =>
      rw [e] at o
      refine in_ok hu true I rx ry R ra rb e ?_
      exact o.ret R rfl

/-! ### truth, length -/
theorem truth_v {k : Bool} (R : RelH (tb X c) ρ h H) (ra : RelD X.K H h.length ρ a x) (e : truth h a = some k) : TruV X.K x H k ∨ ∃ i o kvs, x = .ref (ρ i) ∧ h[i]? = some o ∧ DO o kvs ∧ lfs kvs = true ∧ k = !kvs.isEmpty := by
  cases ra with
  | p r =>
    left
    cases r with
    | non => cases e; rfl
    | bl _ => cases e; rfl
    | int _ => cases e; rfl
    | str z =>
      simp only [truth] at e
      split at e
      · rename_i l
        cases e
        refine ⟨l, ?_⟩
        rw [Bool.eq_iff_iff]
        simp
      · cases e
    | tup t ts =>
      cases e
      refine .inr (.inl ⟨_, t.sq, ?_⟩)
      cases ts <;> rfl
  | t t ts =>
    left
    cases e
    refine .inr (.inl ⟨_, t, ?_⟩)
    cases ts <;> rfl
  | r hi =>
    rename_i i
    simp only [truth] at e
    cases g : h[i]? with
    | none => rw [g] at e; cases e
    | some ob =>
      rw [g] at e
      have ro := R.obj i ob g
      cases ob with
      | lst ys =>
        obtain ⟨vs, t, r⟩ := ro
        cases e
        refine .inl (.inl ⟨_, .inl (.inl t), ?_⟩)
        cases r <;> rfl
      | ro ys =>
        obtain ⟨vs, t, r⟩ := ro
        cases e
        refine .inl (.inl ⟨_, t.sq, ?_⟩)
        cases r <;> rfl
      | dct kvs =>
        dsimp only at e
        split at e
        · rename_i lf
          cases e
          exact .inr ⟨i, _, kvs, rfl, g, .inl rfl, lf, rfl⟩
        · cases e
      | lck kvs =>
        dsimp only at e
        split at e
        · rename_i lf
          cases e
          exact .inr ⟨i, _, kvs, rfl, g, .inr rfl, lf, rfl⟩
        · cases e
      | set _ => cases e
      | ins _ _ => cases e
theorem truthy_ok {k : Bool} (I : Inv X pins σ H s) (rx : RelV x v) (R : RelH (tb X c) ρ h H) (ra : RelD X.K H h.length ρ a x) (e : truth h a = some k) : wpAny (model X.prog X.w) X.A (truthy v) (TP X pins σ fun c H2 => c = k ∧ H2 = H) X.xe s := by
  rcases truth_v R ra e with t | ⟨i, o, kvs, rfl, g, hd, lf, rfl⟩
  · exact tru_ok pins s σ H x v _ I rx ⟨k, t, rfl, rfl⟩
  · cases rx
    exact dk_truth I R g hd lf fun s' I' => ⟨H, I', rfl, rfl⟩
theorem len_v {n : Nat} (R : RelH (tb X c) ρ h H) (ra : RelD X.K H h.length ρ a x) (e : lenOf h a = some n) : LenV X.K x H n ∨ (∃ i o kvs, x = .ref (ρ i) ∧ h[i]? = some o ∧ DO o kvs ∧ n = kvs.length) ∨ ∃ i xs, x = .ref (ρ i) ∧ h[i]? = some (.set xs) ∧ n = xs.length := by
  cases ra with
  | p r =>
    left
    cases r with
    | non => cases e
    | bl _ => cases e
    | int _ => cases e
    | str z =>
      simp only [lenOf] at e
      split at e
      · rename_i l
        cases e
        exact ⟨l, rfl⟩
      · cases e
    | tup t ts =>
      cases e
      exact .inr ⟨_, t.sq, ts.length⟩
  | t t ts =>
    left
    cases e
    exact .inr ⟨_, t, ts.length⟩
  | r hi =>
    rename_i i
    simp only [lenOf] at e
    cases g : h[i]? with
    | none => rw [g] at e; cases e
    | some ob =>
      rw [g] at e
      have ro := R.obj i ob g
      cases ob with
      | lst ys =>
        obtain ⟨vs, t, r⟩ := ro
        cases e
        exact .inl (.inl ⟨_, .inl (.inl t), r.length⟩)
      | ro ys =>
        obtain ⟨vs, t, r⟩ := ro
        cases e
        exact .inl (.inl ⟨_, t.sq, r.length⟩)
      | dct kvs => cases e; exact .inr (.inl ⟨i, _, kvs, rfl, g, .inl rfl, rfl⟩)
      | lck kvs => cases e; exact .inr (.inl ⟨i, _, kvs, rfl, g, .inr rfl, rfl⟩)
      | set xs => cases e; exact .inr (.inr ⟨i, xs, rfl, g, rfl⟩)
      | _ => cases e

/-! ### subscripts -/
theorem RelPs.at_ {K : PySem.W.Frag} {H : Hp} {xs : List P} {vs : List V} {k : Int} {z : P} (r : RelPs K H xs vs) (e : atI xs k = some z) : ∃ w, atI vs k = some w ∧ RelP K H z w := by
  unfold atI at e ⊢
  rw [← r.length]
  cases q : ixN xs.length k with
  | none => rw [q] at e; cases e
  | some j =>
    rw [q] at e
    exact r.get e
theorem RelDs.at_ {K : PySem.W.Frag} {n : Nat} {k : Int} {z : D} (r : RelDs K H n ρ ds vs) (e : atI ds k = some z) : ∃ w, atI vs k = some w ∧ RelD K H n ρ z w := by
  unfold atI at e ⊢
  rw [← r.length]
  cases q : ixN ds.length k with
  | none => rw [q] at e; cases e
  | some j =>
    rw [q] at e
    exact r.get e
theorem sub_at (nd : dctOf h a = none) (R : RelH (tb X c) ρ h H) (ra : RelD X.K H h.length ρ a x) (rb : RelD X.K H h.length ρ b y) (o : Out (tb X c) RL.d W h.length ρ H σ Q (subS a b h)) :
    (∃ p xs k w, x = .ref p ∧ y = .int k ∧ SqL X.K H p xs ∧ atI xs k = some w ∧ Q w H) ∨ (∃ p xs k w, x = .ref p ∧ y = .int k ∧ SqT X.K H p xs ∧ atI xs k = some w ∧ Q w H) ∨ rIxS x y H Q := by
  unfold subS at o
  rw [nd] at o
  dsimp only at o
  split at o
  · rename_i k
    cases rb with | p rb => cases rb with | int _ =>
      split at o
      · cases ra with | p ra => cases ra with | tup t ts =>
        rename_i xs _ _
        cases e : atI xs k with
        | none => rw [e] at o; exact o.elim
        | some z =>
          rw [e] at o
          obtain ⟨w, e', r⟩ := ts.at_ e
          exact .inr (.inl ⟨_, _, k, w, rfl, rfl, t.sq, e', o.ret R (.p r)⟩)
      · cases ra with | t t ts =>
        rename_i xs _ _
        cases e : atI xs k with
        | none => rw [e] at o; exact o.elim
        | some z =>
          rw [e] at o
          obtain ⟨w, e', r⟩ := RelDs.at_ ts e
          exact .inr (.inl ⟨_, _, k, w, rfl, rfl, t, e', o.ret R r⟩)
      · split at o
        · rename_i xs el
          obtain ⟨q, vs, rfl, t, ts⟩ := lst_at R ra el
          cases e : atI xs k with
          | none => rw [e] at o; exact o.elim
          | some z =>
            rw [e] at o
            obtain ⟨w, e', r⟩ := RelDs.at_ ts e
            exact .inl ⟨_, _, k, w, rfl, rfl, t, e', o.ret R r⟩
        · exact o.elim
      · split at o
        · rename_i z l
          cases ra with | p ra => cases ra with | str _ =>
          cases e : atI z.cps.toList k with
          | none => rw [e] at o; exact o.elim
          | some ch =>
            rw [e] at o
            exact .inr (.inr ⟨z, k, ch, rfl, rfl, l, e, o.ret R (.p (.str _))⟩)
        · exact o.elim
      · exact o.elim
  · exact o.elim
theorem sub_ok {value slice : Expr} (hu : X.A.units + 66 < cLine) (I : Inv X pins σ H s) (rx : RelV x v) (ry : RelV y u) (R : RelH (tb X c) ρ h H) (ra : RelD X.K H h.length ρ a x) (rb : RelD X.K H h.length ρ b y)
    (hs : subscripted slice false v u = operate [v, u] (getItem v u)) (o : Out (tb X c) RL.d W h.length ρ H σ Q (subS a b h)) : wpAny (model X.prog X.w) X.A (subscriptTail value slice v u) (EP X pins σ Q) X.xe s := by
  cases nd : dctOf h a with
  | some kvs =>
    unfold subS at o
    rw [nd] at o
    dsimp only at o
    split at o
    · rename_i kk
      split at o
      · rename_i fit
        cases e : dGet kvs kk with
        | none => rw [e] at o; exact o.elim
        | some d =>
          rw [e] at o
          obtain ⟨i, ob, rfl, g, hd, rfl⟩ := dct_at ra nd
          cases rb with | p rb =>
          cases rx
          obtain ⟨e0, es, ep, hr, _, _⟩ := dct_is I R g hd
          exact tail_any (ops := [.ref (ρ i), u]) hr.typeIs PySem.F.slot_dict_getitem.lookup (dk_getItem (by omega) I R g hd rb ry fit e fun v w s' I' r1 r2 => ⟨v, H, I', r2, o.ret R r1⟩) hs
      · exact o.elim
    · exact o.elim
  | none =>
  rcases sub_at nd R ra rb o with q | q | q
  · exact ix_list value slice pins s σ H _ _ v u Q I rx ry q hs
  · exact ix_tup value slice pins s σ H _ _ v u Q I rx ry q hs
  · exact ix_str value slice pins s σ H _ _ v u Q I rx ry q hs
theorem put_ok {d : D} {z : V} {w : Value} {Q : Hp → Prop} (hu : X.A.units + 66 < cLine) (I : Inv X pins σ H s) (rx : RelV x v) (ry : RelV y u) (rz : RelV z w) (R : RelH (tb X c) ρ h H) (ra : RelD X.K H h.length ρ a x) (rb : RelD X.K H h.length ρ b y) (rd : RelD X.K H h.length ρ d z)
    (o : Out (tb X c) RL.u W h.length ρ H σ (fun _ H' => Q H') (putS a b d h)) : wpAny (model X.prog X.w) X.A (setItem v u w) (fun _ s' => ∃ H', Inv X pins σ H' s' ∧ Q H') X.xe s := by
  unfold putS at o
  split at o
  · split at o
    · rename_i j _ xs g
      split at o
      · split at o
        · rename_i k _ m e
          cases rb with | p rb => cases rb with | int _ => cases ra with | r hi =>
          obtain ⟨vs, t, r⟩ := R.obj j _ g
          refine set_list pins s σ H _ _ _ v u w Q I rx ry rz ⟨_, vs, k, m, rfl, rfl, t, by rw [← r.length]; exact e, ?_⟩
          obtain ⟨kp, R'⟩ := R.wr (o' := .lst (xs.set m d)) (u := .lst (vs.set m z)) g rfl rfl fun kp => ⟨_, upd_same, RelDs.set (rd.mono kp (Ext.refl _ _) (Nat.le_refl _)) m (r.mono kp (Ext.refl _ _) (Nat.le_refl _))⟩
          exact o ρ () _ (by rw [List.length_set]; exact Nat.le_refl _) (Ext.refl _ _) kp R' True.intro
        · exact o.elim
      · exact o.elim
    · rename_i j _ kvs g
      split at o
      · split at o
        · rename_i kk _ fit
          cases rb with | p rb => cases ra with | r hi =>
          cases rx
          exact dk_setItem (by omega) I R g rb ry rd rz fit.1 fit.2 fun s' H' I' kp R' => ⟨H', I', o ρ () _ (by rw [List.length_set]; exact Nat.le_refl _) (Ext.refl _ _) kp R' True.intro⟩
        · exact o.elim
      · exact o.elim
    · exact o.elim
  · exact o.elim
theorem RelD.mono' {K : PySem.W.Frag} {H' : Hp} {n : Nat} {d : D} {z : V} (r : RelD K H n ρ d z) (k : Keep K H H') : RelD K H' n ρ d z := r.mono k (Ext.refl _ _) (Nat.le_refl _)
/-- an item that is read, by what lies there -/
def rGetD (X : Cx) (c : Ct) : V → V → Hp → VK → Prop := fun x y H Q => ∃ ρ h a b d, RelH (tb X c) ρ h H ∧ RelD X.K H h.length ρ a x ∧ RelD X.K H h.length ρ b y ∧ itmS a b h = some d ∧ ∀ v, RelD X.K H h.length ρ d v → Q v H
theorem get_d {X : Cx} {c : Ct} (hu : X.A.units + 66 < cLine) : PGet X (rGetD X c) := by
  intro pins s σ H o i ov iv Q I ro ri q
  obtain ⟨ρ, h, a, b, d, R, ra, rb, e, q⟩ := q
  unfold itmS at e
  split at e
  · rename_i kvs kk nd
    split at e
    · rename_i fit
      obtain ⟨j, ob, rfl, g, hd, rfl⟩ := dct_at ra nd
      cases rb with | p rb =>
      cases ro
      exact dk_getItem (by omega) I R g hd rb ri fit e fun v w s' I' r1 r2 => ⟨v, H, I', r2, q v r1⟩
    · cases e
  · cases e
  · rename_i k nd
    split at e
    · rename_i xs el
      obtain ⟨p, vs, rfl, t, r⟩ := lst_at R ra el
      cases rb with | p rb => cases rb with | int _ =>
      obtain ⟨v, e1, r1⟩ := RelDs.at_ r e
      exact get_list pins s σ H _ _ ov iv Q I ro ri ⟨p, vs, k, v, rfl, rfl, t, e1, q v r1⟩
    · cases e
  · cases e
/-- an item that is stored -/
def rSetD (X : Cx) (c : Ct) (W : WX) (σ : L2.St) : V → V → V → Hp → (Hp → Prop) → Prop := fun x y z H Q => ∃ ρ h a b d, RelH (tb X c) ρ h H ∧ RelD X.K H h.length ρ a x ∧ RelD X.K H h.length ρ b y ∧ RelD X.K H h.length ρ d z ∧ Out (tb X c) RL.u W h.length ρ H σ (fun _ H' => Q H') (putS a b d h)
theorem set_d {X : Cx} {c : Ct} {W : WX} {σ0 : L2.St} (hu : X.A.units + 66 < cLine) : PSet X (rSetD X c W σ0) := by
  intro pins s σ H o i z ov iv u Q I ro ri rz q
  obtain ⟨ρ, h, a, b, d, R, ra, rb, rd, q⟩ := q
  refine put_ok (W := fun cc dd _ H' => W cc dd σ0 H') hu I ro ri rz R ra rb rd ?_
  cases e : putS a b d h with
  | stuck => rw [e] at q; exact q
  | ok _ h2 => rw [e] at q; exact q
  | exc x h2 => rw [e] at q; exact q

/-! ### slices -/
theorem RelPs.cut {K : PySem.W.Frag} {H : Hp} {xs : List P} {vs : List V} (r : RelPs K H xs vs) (lo hi : Option Int) : RelPs K H (cutX xs lo hi) (cutV vs lo hi) := by
  unfold cutX cutV
  rw [← r.length]
  exact (r.drop _).take _
theorem RelDs.cut {K : PySem.W.Frag} {n : Nat} (r : RelDs K H n ρ ds vs) (lo hi : Option Int) : RelDs K H n ρ (cutX ds lo hi) (cutV vs lo hi) := by
  unfold cutX cutV
  rw [← r.length]
  exact (r.drop _).take _
theorem cutV_all {vs : List V} {lo hi : Option Int} (e : HT.sIx vs.length 0 lo = 0 ∧ HT.sIx vs.length vs.length hi = vs.length) : cutV vs lo hi = vs := by
  unfold cutV
  rw [e.1, e.2, List.drop_zero, Nat.sub_zero, List.take_length]
theorem cutX_map {α β : Type} (f : α → β) (xs : List α) (lo hi : Option Int) : cutX (xs.map f) lo hi = (cutX xs lo hi).map f := by
  unfold cutX
  rw [List.length_map, List.map_take, List.map_drop]
def rSlD (K : PySem.W.Frag) : V → Option Int → Option Int → Hp → VK → Prop := fun x lo hi H Q => rSlL K x lo hi H Q ∨ rSlP K x lo hi H Q
theorem sl_d {X : Cx} : SlR X (rSlD X.K) := sl_list.or sl_tupP
theorem slc_at {lo hi : Option Int} (R : RelH (tb X c) ρ h H) (ra : RelD X.K H h.length ρ a x) (o : Out (tb X c) RL.d W h.length ρ H σ Q (slcS a lo hi h)) : rSlD X.K x lo hi H Q := by
  unfold slcS at o
  split at o
  · cases ra with | p ra => cases ra with | tup t ts =>
    refine .inr ⟨_, _, rfl, t.sq, fun e => ?_, ?_⟩
    · refine o.ret R (.p (.tup t ?_))
      have := RelPs.cut ts lo hi
      rw [e] at this
      exact this
    · rw [← mkT_map] at o
      exact o.newT R (RelPs.cut ts lo hi).toDs
  · cases ra with | t t ts =>
    refine .inr ⟨_, _, rfl, t, fun e => ?_, ?_⟩
    · refine o.ret R (.t t ?_)
      have := RelDs.cut ts lo hi
      rw [e] at this
      exact this
    · exact o.newTw R (RelDs.cut ts lo hi)
  · split at o
    · rename_i xs e
      obtain ⟨q, vs, rfl, t, r⟩ := lst_at R ra e
      exact .inl ⟨q, vs, rfl, t, fun p hp => o.newL R (RelDs.cut r lo hi) hp⟩
    · exact o.elim
  · exact o.elim

/-! ### attributes -/
/-- the text's part about attributes and classes -/
structure CtOk (K : PySem.W.Frag) (c : Ct) : Prop where
  cls : ∀ i C, c.cls i = some C → Cls K C
  noAt : ∀ i C f x, c.cls i = some C → c.fld f = some x → c.fok i f = true → NoAttr K C x
  inj : ∀ f g x, c.fld f = some x → c.fld g = some x → f = g
theorem relFs_get {T : Tb} (inj : ∀ f g x, T.fld f = some x → T.fld g = some x → f = g) {n : Nat} {f : Nat} {z : Str} (hz : T.fld f = some z) : ∀ {fs : List (Nat × D)} {fv : List (Str × V)} {d : D}, RelFs T H n ρ fs fv → getF f fs = some d → ∃ v, fv.lookup z = some v ∧ RelD T.K H n ρ d v
  | _, _, _, .nil, e => by cases e
  | _, _, d, .cons (i := i) (x := x) (d := d') (v := v) h1 h2 hs, e => by
    unfold getF at e
    by_cases q : i = f
    · subst q
      rw [if_pos rfl] at e
      cases e
      rw [h1] at hz
      cases hz
      exact ⟨v, by simp [List.lookup], h2⟩
    · rw [if_neg q] at e
      obtain ⟨w, e1, e2⟩ := relFs_get inj hz hs e
      have : (z == x) = false := by
        rw [beq_eq_false_iff_ne]
        rintro rfl
        exact q (inj _ _ _ h1 hz)
      exact ⟨w, by rw [List.lookup, this]; exact e1, e2⟩
theorem getF_mem {f : Nat} : ∀ {fs : List (Nat × D)} {d : D}, getF f fs = some d → ∃ p ∈ fs, p.1 = f
  | [], _, e => by cases e
  | (g, x) :: r, d, e => by
    unfold getF at e
    by_cases q : g = f
    · exact ⟨(g, x), List.mem_cons_self, q⟩
    · rw [if_neg q] at e
      obtain ⟨p, hp, e⟩ := getF_mem e
      exact ⟨p, List.mem_cons_of_mem _ hp, e⟩
theorem attr_at {f : Nat} {z : Str} (ok : CtOk X.K c) (hz : c.fld f = some z) (R : RelH (tb X c) ρ h H) (ra : RelD X.K H h.length ρ a x) (o : Out (tb X c) RL.d W h.length ρ H σ Q (attrS a f h)) :
    ∃ p C dx fs v, x = .ref p ∧ H p = some (.ins C dx fs) ∧ Cls X.K C ∧ NoAttr X.K C z ∧ fs.lookup z = some v ∧ Q v H := by
  unfold attrS at o
  split at o
  · split at o
    · rename_i i _ ci fs g
      cases ra with | r hi =>
      obtain ⟨C, dx, fv, e0, e1, r, al⟩ := R.obj i _ g
      cases e : getF f fs with
      | none => rw [e] at o; exact o.elim
      | some d =>
        rw [e] at o
        obtain ⟨w, e2, rd⟩ := relFs_get (T := tb X c) ok.inj hz r e
        obtain ⟨p, hp, rfl⟩ := getF_mem e
        exact ⟨_, C, dx, fv, w, rfl, e1, ok.cls _ _ e0, ok.noAt _ _ _ _ e0 hz (List.all_eq_true.mp al p hp), e2, o.ret R rd⟩
    · exact o.elim
  · exact o.elim
theorem relFs_put {T : Tb} (inj : ∀ f g x, T.fld f = some x → T.fld g = some x → f = g) {n : Nat} {f : Nat} {z : Str} {d : D} {w : V} (hz : T.fld f = some z) (rd : RelD T.K H n ρ d w) : ∀ {fs : List (Nat × D)} {fv : List (Str × V)}, RelFs T H n ρ fs fv → RelFs T H n ρ (putFd f d fs) (putF z w fv)
  | _, _, .nil => .cons hz rd .nil
  | _, _, .cons (i := i) (x := x) (d := d') (v := v) h1 h2 hs => by
    unfold putFd putF
    by_cases q : i = f
    · subst q
      have e : x = z := by rw [h1] at hz; exact Option.some.inj hz
      rw [if_pos rfl, if_pos e]
      exact .cons h1 rd hs
    · have e : x ≠ z := by rintro rfl; exact q (inj _ _ _ h1 hz)
      rw [if_neg q, if_neg e]
      exact .cons h1 h2 (relFs_put inj hz rd hs)
theorem putFd_all {q : Nat → Bool} {f : Nat} {d : D} (hf : q f = true) : ∀ {fs : List (Nat × D)}, (fs.all fun p => q p.1) = true → ((putFd f d fs).all fun p => q p.1) = true
  | [], _ => by simp [putFd, hf]
  | (g, x) :: r, e => by
    simp only [List.all_cons, Bool.and_eq_true] at e
    unfold putFd
    by_cases z : g = f
    · rw [if_pos z]
      simp only [List.all_cons, e.1, e.2, Bool.and_self]
    · rw [if_neg z]
      simp only [List.all_cons, e.1, putFd_all hf e.2, Bool.and_self]
theorem RelFs.length {T : Tb} {n : Nat} : ∀ {fs : List (Nat × D)} {fv : List (Str × V)}, RelFs T H n ρ fs fv → fs.length = fv.length
  | _, _, .nil => rfl
  | _, _, .cons _ _ hs => congrArg (· + 1) hs.length
theorem putAttr_at {f : Nat} {z : Str} {d : D} {w : V} {Q : Hp → Prop} (ok : CtOk X.K c) (hz : c.fld f = some z) (R : RelH (tb X c) ρ h H) (ra : RelD X.K H h.length ρ a x) (rd : RelD X.K H h.length ρ d w)
    (o : Out (tb X c) RL.u W h.length ρ H σ (fun _ H' => Q H') (putAttrS c.fok a f d h)) :
    ∃ p C dx fs, x = .ref p ∧ H p = some (.ins C dx fs) ∧ Cls X.K C ∧ NoAttr X.K C z ∧ fs.length < 1000 ∧ Q (upd H p (.ins C dx (putF z w fs))) := by
  unfold putAttrS at o
  split at o
  · split at o
    · rename_i i _ ci fs g
      split at o
      · rename_i l
        cases ra with | r hi =>
        obtain ⟨C, dx, fv, e0, e1, r, al⟩ := R.obj i _ g
        refine ⟨_, C, dx, fv, rfl, e1, ok.cls _ _ e0, ok.noAt _ _ _ _ e0 hz l.2, by rw [← RelFs.length r]; exact l.1, ?_⟩
        obtain ⟨kp, R'⟩ := R.wr (o' := .ins ci (putFd f d fs)) (u := .ins C dx (putF z w fv)) g rfl rfl fun kp => ⟨C, dx, _, e0, upd_same, relFs_put ok.inj hz (rd.mono kp (Ext.refl _ _) (Nat.le_refl _)) (r.mono kp (Ext.refl _ _) (Nat.le_refl _)), putFd_all l.2 al⟩
        exact o ρ () _ (by rw [List.length_set]; exact Nat.le_refl _) (Ext.refl _ _) kp R' True.intro
      · exact o.elim
    · exact o.elim
  · exact o.elim

/-! ### dict(..) -/
theorem Out.newDl {vs' : List (Leaf × Value)} {kvs : Kvs} {h' : Heap} {t' : Nat} (I : Inv X pins σ H s) (R : RelH (tb X c) ρ h H) (o : Out (tb X c) RL.d W h.length ρ H σ Q (mk (.dct kvs) h)) (z : kvs.length ≤ sizeLine)
    (r : RV X.K H h.length ρ kvs vs') (k : ∀ b u, s.heap.get? b = some u → h'.get? b = some u) (d : h'.DictOf (lfKind X.prog X.w) s.heap.objs.size vs') : EP X pins σ Q (.ref s.heap.objs.size) { s with heap := h', toks := t' } := by
  obtain ⟨es, r1, r2⟩ := rv_split r
  have hp : H s.heap.objs.size = none := I.hok.fresh (Nat.le_refl _)
  have e0 : (s.heap.objs.size == sysModules) = false := beq_eq_false_iff_ne.mpr (Nat.ne_of_gt I.big)
  obtain ⟨ρ', q0, q1, R'⟩ := R.new (o := .dct kvs) (u := dlO X.prog X.w s.heap.objs.size es) hp (fun ρ' e1 e2 => ⟨e0, z, .inl ⟨es, upd_same, r1.mono (keep_new hp) e2 (Nat.le_succ _)⟩⟩)
  refine ⟨.ref s.heap.objs.size, _, I.laid (t' := t') k (Nat.le_refl _) (dl_ok r2 d), rfl, o ρ' (.ref s.heap.objs.size) _ (by simp) q1 (keep_new hp) R' ?_⟩
  have q : RelD X.K (upd H s.heap.objs.size (dlO X.prog X.w s.heap.objs.size es)) (h ++ [O.dct kvs]).length ρ' (.r h.length) (.ref (ρ' h.length)) := .r (by simp)
  rw [q0] at q
  exact q
theorem Out.newDt {xs' : List (NestedKey × Addr × Value)} {kvs : Kvs} {h' : Heap} {t' : Nat} (I : Inv X pins σ H s) (R : RelH (tb X c) ρ h H) (o : Out (tb X c) RL.d W h.length ρ H σ Q (mk (.dct kvs) h)) (z : kvs.length ≤ sizeLine)
    (r : RX X.K H h.length ρ kvs xs') (k : ∀ b u, s.heap.get? b = some u → h'.get? b = some u) (d : h'.DictOfH (nestedKind X.prog X.w) s.heap.objs.size xs') : EP X pins σ Q (.ref s.heap.objs.size) { s with heap := h', toks := t' } := by
  obtain ⟨es, r1, r2⟩ := rx_split r
  have hp : H s.heap.objs.size = none := I.hok.fresh (Nat.le_refl _)
  have e0 : (s.heap.objs.size == sysModules) = false := beq_eq_false_iff_ne.mpr (Nat.ne_of_gt I.big)
  obtain ⟨ρ', q0, q1, R'⟩ := R.new (o := .dct kvs) (u := dtO X.prog X.w s.heap.objs.size es) hp (fun ρ' e1 e2 => ⟨e0, z, .inr ⟨es, upd_same, r1.mono (keep_new hp) e2 (Nat.le_succ _)⟩⟩)
  refine ⟨.ref s.heap.objs.size, _, I.laid (t' := t') k (Nat.le_refl _) (dt_ok r2 d), rfl, o ρ' (.ref s.heap.objs.size) _ (by simp) q1 (keep_new hp) R' ?_⟩
  have q : RelD X.K (upd H s.heap.objs.size (dtO X.prog X.w s.heap.objs.size es)) (h ++ [O.dct kvs]).length ρ' (.r h.length) (.ref (ρ' h.length)) := .r (by simp)
  rw [q0] at q
  exact q
/-- pairs, as they lie -/
abbrev PRel (K : PySem.W.Frag) (H : Hp) (n : Nat) (ρ : Nat → Addr) : Kvs → List (Value × Value) → Prop := Paired fun kv p => ∃ kv' v, RelP K H kv.1 kv' ∧ RelV kv' p.1 ∧ RelD K H n ρ kv.2 v ∧ RelV v p.2
theorem pairs_lay (I : Inv X pins σ H s) {n : Nat} : ∀ {xs : List D} {vs : List V} {its : List Value} {kvs : Kvs}, RelDs X.K H n ρ xs vs → Vals vs its → pairsOf xs = some kvs →
    ∃ (as : List Addr) (ps : List (Value × Value)), its = as.map Value.ref ∧ as.length = ps.length ∧ PRel X.K H n ρ kvs ps ∧ ∀ (j : Nat) (a : Addr) (p : Value × Value), as[j]? = some a → ps[j]? = some p → PairAt s.heap a p.1 p.2
  | [], _, _, _, .nil, .nil, e => by cases e; exact ⟨[], [], rfl, rfl, .nil, fun j a p h => by simp at h⟩
  | x :: xs, _, _, _, .cons r rs, .cons q qs, e => by
    unfold pairsOf at e
    split at e
    · rename_i k d ei
      rw [Option.map_eq_some_iff] at e
      obtain ⟨kvs', e', rfl⟩ := e
      obtain ⟨as, ps, h1, h2, h3, h4⟩ := pairs_lay I rs qs e'
      obtain ⟨a, ws, rfl, t, rd⟩ := r.items ei
      cases q
      obtain ⟨its2, rv, ⟨o, o1, o2, n2, o3⟩, _⟩ := I.tuple t
      cases rd with | cons rk rd => cases rd with | cons rw rd => cases rd with | nil => cases rk with | p rk =>
      cases rv with | cons v1 rv => cases rv with | cons v2 rv => cases rv with | nil =>
      rename_i u1 u2
      refine ⟨a :: as, (u1, u2) :: ps, by rw [List.map_cons, ← h1], by rw [List.length_cons, List.length_cons, h2], .cons ⟨_, _, rk, v1, rw, v2⟩ h3, fun j a' p ha hp => ?_⟩
      cases j with
      | zero => cases ha; cases hp; exact .inl ⟨o, o1, o2, n2, o3⟩
      | succ j => exact h4 j a' p (by simpa using ha) (by simpa using hp)
    · cases e
theorem prel_lf {n : Nat} : ∀ {kvs : Kvs} {ps : List (Value × Value)}, PRel X.K H n ρ kvs ps → lfs kvs = true → ∃ vs : List (Leaf × Value), RV X.K H n ρ kvs vs ∧ vs.length = ps.length ∧ ∀ (i : Nat) (key v : Value), ps[i]? = some (key, v) → ∃ k, vs[i]? = some (k, v) ∧ lfIs k key = true
  | _, _, .nil, _ => ⟨[], .nil, rfl, fun i key v h => by simp at h⟩
  | _, _, .cons ⟨kv', v, r1, r2, r3, r4⟩ t, l => by
    simp only [lfs, List.all_cons, Bool.and_eq_true] at l
    obtain ⟨vs, h1, h2, h3⟩ := prel_lf t l.2
    refine ⟨(_, _) :: vs, .cons ⟨l.1, rfl, v, r3, r4⟩ h1, by rw [List.length_cons, List.length_cons, h2], fun i key w h => ?_⟩
    cases i with
    | zero => cases h; exact ⟨_, rfl, lf_of l.1 r1 r2⟩
    | succ i => exact h3 i key w (by simpa using h)
theorem prel_tk {n : Nat} : ∀ {kvs : Kvs} {ps : List (Value × Value)}, PRel X.K H n ρ kvs ps → tks kvs = true → ∃ xs : List (NestedKey × Addr × Value), RX X.K H n ρ kvs xs ∧ xs.length = ps.length ∧ ∀ (i : Nat) (key v : Value), ps[i]? = some (key, v) → ∃ k b, xs[i]? = some (k, b, v) ∧ key = .ref b
  | _, _, .nil, _ => ⟨[], .nil, rfl, fun i key v h => by simp at h⟩
  | _, _, .cons ⟨kv', v, r1, r2, r3, r4⟩ t, l => by
    simp only [tks, List.all_cons, Bool.and_eq_true] at l
    obtain ⟨xs, h1, h2, h3⟩ := prel_tk t l.2
    obtain ⟨b, rfl⟩ := tk_ref l.1 r1
    refine ⟨(_, b, _) :: xs, .cons ⟨l.1, rfl, r1, v, r3, r4⟩ h1, by rw [List.length_cons, List.length_cons, h2], fun i key w h => ?_⟩
    cases i with
    | zero => cases h; exact ⟨_, b, rfl, r2⟩
    | succ i => exact h3 i key w (by simpa using h)
theorem rv_merge {n : Nat} {more : Kvs} {ms : List (Leaf × Value)} (t : RV X.K H n ρ more ms) : ∀ {kvs : Kvs} {vs : List (Leaf × Value)}, RV X.K H n ρ kvs vs → RV X.K H n ρ (mergeD kvs more) (merged vs ms) := by
  induction t with
  | nil => exact fun r => r
  | cons q t ih =>
    intro kvs vs r
    obtain ⟨h1, h2, v, h3, h4⟩ := q
    have z := rv_put r h1 h3 h4
    rw [← h2] at z
    exact ih z
theorem rx_merge {n : Nat} {more : Kvs} {ms : List (NestedKey × Addr × Value)} (t : RX X.K H n ρ more ms) : ∀ {kvs : Kvs} {vs : List (NestedKey × Addr × Value)}, RX X.K H n ρ kvs vs → RX X.K H n ρ (mergeD kvs more) (storedAllH vs ms) := by
  induction t with
  | nil => exact fun r => r
  | cons q t ih =>
    intro kvs vs r
    obtain ⟨h1, h2, h5, v, h3, h4⟩ := q
    have z := rx_put r h1 h5 h3 h4
    rw [← h2] at z
    exact ih z
theorem mergeD_length : ∀ (more kvs : Kvs), (mergeD kvs more).length ≤ kvs.length + more.length
  | [], kvs => Nat.le_refl _
  | kv :: r, kvs => by
    have := mergeD_length r (dPut kvs kv.1 kv.2)
    have h2 := dPut_length kvs kv.1 kv.2
    show (mergeD (dPut kvs kv.1 kv.2) r).length ≤ _
    rw [List.length_cons]
    omega
theorem src_at {xs : List D} (I : Inv X pins σ H s) (R : RelH (tb X c) ρ h H) (ra : RelD X.K H h.length ρ a x) (e : srcOf h a = some xs) :
    ∃ q vs its T, x = .ref q ∧ RelDs X.K H h.length ρ xs vs ∧ Vals vs its ∧ vs.length ≤ sizeLine ∧ (T = "list" ∨ T = "tuple") ∧ PlainSeq T s.heap q its.toArray := by
  cases ra with
  | p r =>
    cases r with
    | tup q rs =>
      cases e
      rcases q with ⟨ob, d, q⟩ | ⟨ob, its, n, h1, h2, h3, h4, h5, h6⟩
      · obtain ⟨g, z, its, rv, o2, o3, o4, n, o5⟩ := I.hok _ _ q
        have : o2 = ob := by rw [g] at o3; exact (Option.some.inj o3).symm
        subst this
        exact ⟨_, _, its, _, rfl, rs.toDs, rv, z, .inr rfl, o2, n, o3, o4, d, o5⟩
      · refine ⟨_, _, its.toList, _, rfl, rs.toDs, h6, ?_, .inr rfl, ob, n, I.kIn _ _ h1, h2, h3, by simpa using h4⟩
        have := h6.length
        rw [this, Array.length_toList]
        exact h5
    | non => cases e
    | bl _ => cases e
    | int _ => cases e
    | str _ => cases e
  | t q rs => cases e
  | r hi =>
    obtain ⟨q, vs, eq, t, rs⟩ := lst_at R (.r hi) e
    obtain ⟨its, rv, ⟨o, n, h1, h2, h3, h4⟩, z⟩ := I.list t
    exact ⟨q, vs, its, _, eq, rs, rv, z, .inl rfl, o, n, h1, h2, h3, h4⟩
theorem dict_ok {xs : List D} {kvs : Kvs} (hu : X.A.units + 66 < cLine) (hc : X.calm = true) (I : Inv X pins σ H s) (rx : RelV x v) (R : RelH (tb X c) ρ h H) (ra : RelD X.K H h.length ρ a x) (e : srcOf h a = some xs) (ep : pairsOf xs = some kvs) (kk : lfs kvs = true ∨ tks kvs = true)
    (o : Out (tb X c) RL.d W h.length ρ H σ Q (mk (.dct (mergeD [] kvs)) h)) : wpAny (model X.prog X.w) X.A (call (.type "dict") [v]) (EP X pins σ Q) X.xe s := by
  obtain ⟨q, vs, its, T, rfl, rd, rv, z, hT, pl⟩ := src_at I R ra e
  cases rx
  obtain ⟨as, ps, rfl, l1, pr, pa⟩ := pairs_lay I rd rv ep
  have lp : ps.length ≤ sizeLine := by
    have := rv.length
    rw [List.length_map] at this
    omega
  have lk : kvs.length = ps.length := Paired.length pr
  have lm : (mergeD [] kvs).length ≤ sizeLine := Nat.le_trans (mergeD_length kvs []) (by simp only [List.length_nil]; omega)
  have ok : PlainSeq T s.heap q (as.map Value.ref).toArray ∧ PairItems s.heap (as.map Value.ref).toArray (fun j => as.getD j 0) ps := by
    refine ⟨pl, by simp [l1], fun j k w hj => ?_⟩
    have hl : j < as.length := by
      have := (List.getElem?_eq_some_iff.mp hj).1
      omega
    have ha : as[j]? = some (as.getD j 0) := by rw [List.getD_eq_getElem?_getD, List.getElem?_eq_getElem hl]; rfl
    refine ⟨?_, pa j _ _ ha hj⟩
    rw [List.getElem?_toArray, List.getElem?_map, ha]
    rfl
  have arg : PairArg X.prog X.w T q (q :: (List.range ps.length).map fun j => as.getD j 0) [] ps.length (PairRel ps) fun h => PlainSeq T h q (as.map Value.ref).toArray ∧ PairItems h (as.map Value.ref).toArray (fun j => as.getD j 0) ps := by
    rcases hT with rfl | rfl
    · exact PairArg.list q _ _ ps
    · exact PairArg.tuple q _ _ ps
  rcases kk with lf | tk
  · obtain ⟨vs', r1, r2, r3⟩ := prel_lf pr lf
    exact call_dict_pairs (knd := lfKind X.prog X.w) arg (I.ok.hd hc) ok ⟨r2, r3⟩ lp fun h' tk hd' hk => Out.newDl I R o lm (rv_merge r1 .nil) (fun b u g => hk b u (by simp) g) hd'
  · obtain ⟨xs', r1, r2, r3⟩ := prel_tk pr tk
    refine call_dict_pairsH (knd := nestedKind X.prog X.w) arg (I.ok.hd hc) (by show X.A.units + 1 + 1 + 8 < cLine; omega) ok ⟨r2, r3⟩ (fun h' hk x hx => ?_) lp fun h' tk hd' hk => Out.newDt I R o lm (rx_merge r1 .nil) (fun b u g => hk b u (by simp) g) hd'
    obtain ⟨kv, _, g1, g2, g3, _⟩ := prd_mem r1 hx
    have is := tk_is I g3 g1
    rw [← g2] at is
    exact nestedKind_stays.all h' (fun b o' _ g => hk b o' (Nat.ne_of_lt (Heap.lt_size g)) (by simp) g) _ _ is
theorem dictC_ok {kvs : Kvs} (I : Inv X pins σ H s) (rx : RelV x v) (R : RelH (tb X c) ρ h H) (ra : RelD X.K H h.length ρ a x) (e : dctOf h a = some kvs) (lf : lfs kvs = true)
    (o : Out (tb X c) RL.d W h.length ρ H σ Q (mk (.dct kvs) h)) : wpAny (model X.prog X.w) X.A (call (.type "dict") [v]) (EP X pins σ Q) X.xe s := by
  obtain ⟨i, ob, rfl, g, hd, rfl⟩ := dct_at ra e
  cases rx
  obtain ⟨e0, z, vs, r, dd⟩ := dct_lf I R g hd lf
  refine kt_call_dict e0 dd (by rw [← Paired.length r]; exact z) fun h' dd' hs => Out.newDl (t' := s.toks) I R o z r (fun b q hq => ?_) dd'
  exact (hs.2 b (Nat.ne_of_lt (Heap.lt_size hq))).trans (Heap.get?_push_of_some _ hq)
/-! ### isinstance -/
def tyS : TyD → String
  | .non => "NoneType" | .bool => "bool" | .int => "int" | .str => "str" | .tuple => "tuple" | .list => "list" | .dict => "dict"
def tyN : Ty → String
  | .int => "int" | .bool => "bool" | .str => "str" | .tuple => "tuple" | .list => "list" | .dict => "dict"
theorem kit_tys (K : PySem.W.Frag) (t : Ty) (d : TyD) : PySem.W.kitOne K (.type (tyS d)) (.type (tyN t)) = some (tyIs t d) := by
  cases t <;> cases d <;> exact kit_ty (by decide +kernel)
theorem kit_d {td : TyD} (I : Inv X pins σ H s) (rx : RelV x v) (R : RelH (tb X c) ρ h H) (ra : RelD X.K H h.length ρ a x) (e : tyOf h a = some td) :
    ∃ Pr : Heap → Prop, PySem.W.KitX X.K v (.type (tyS td)) Pr ∧ Pr s.heap ∧ v ≠ .builtin "__main__.__loader__#opaque" := by
  have tup : ∀ {q : Addr} {vs : List V}, SqT X.K H q vs → ∃ Pr : Heap → Prop, PySem.W.KitX X.K (.ref q) (.type "tuple") Pr ∧ Pr s.heap ∧ Value.ref q ≠ .builtin "__main__.__loader__#opaque" := fun t => by
    obtain ⟨its, rv, ⟨o, h1, h2, _⟩, _⟩ := I.tuple t
    exact ⟨_, PySem.W.kitx_tuple, ⟨o, h1, h2⟩, fun z => nomatch z⟩
  cases ra with
  | p r =>
    cases r with
    | non => cases e; cases rx; exact ⟨_, PySem.W.kitx_none, True.intro, fun z => nomatch z⟩
    | bl b => cases e; cases rx; exact ⟨_, PySem.W.kitx_bool, True.intro, fun z => nomatch z⟩
    | int i => cases e; obtain ⟨t, rfl⟩ := rx; exact ⟨_, PySem.W.kitx_int, True.intro, fun z => nomatch z⟩
    | str i => cases e; obtain ⟨t, rfl⟩ := rx; exact ⟨_, PySem.W.kitx_str, True.intro, fun z => nomatch z⟩
    | tup t ts => cases e; cases rx; exact tup t.sq
  | t t ts => cases e; cases rx; exact tup t
  | r hi =>
    rename_i i
    cases rx
    simp only [tyOf] at e
    cases g : h[i]? with
    | none => rw [g] at e; cases e
    | some ob =>
      rw [g] at e
      have lst : ∀ {q : Addr} {vs : List V}, SqL X.K H q vs → ∃ Pr : Heap → Prop, PySem.W.KitX X.K (.ref q) (.type "list") Pr ∧ Pr s.heap ∧ Value.ref q ≠ .builtin "__main__.__loader__#opaque" := fun t => by
        obtain ⟨its, rv, ⟨o, n, h1, h2, _⟩, _⟩ := I.list t
        exact ⟨_, PySem.W.kitx_list, ⟨o, h1, h2⟩, fun z => nomatch z⟩
      cases ob with
      | lst ys => cases e; obtain ⟨vs, q, r⟩ := R.obj i _ g; exact lst (.inl (.inl q))
      | ro ys => cases e; obtain ⟨vs, q, r⟩ := R.obj i _ g; exact lst q.sq
      | dct kvs => cases e; obtain ⟨e0, es, ep, ⟨o, h1, h2, _⟩, _, _⟩ := dct_is I R g (.inl rfl); exact ⟨_, PySem.W.kitx_dict, ⟨o, h1, h2.1⟩, fun z => nomatch z⟩
      | lck kvs => cases e; obtain ⟨e0, es, ep, ⟨o, h1, h2, _⟩, _, _⟩ := dct_is I R g (.inr rfl); exact ⟨_, PySem.W.kitx_dict, ⟨o, h1, h2.1⟩, fun z => nomatch z⟩
      | set _ => cases e
      | ins _ _ => cases e
/-! ### lists of ints, of truths -/
theorem ints_v {K : PySem.W.Frag} {n : Nat} : ∀ {xs : List D} {vs : List V} {ns : List Int}, RelDs K H n ρ xs vs → asInts xs = some ns → vs = ns.map V.int
  | [], _, _, .nil, e => by cases e; rfl
  | .p (.int i) :: r, _, _, .cons h t, e => by
    simp only [asInts, Option.map_eq_some_iff] at e
    obtain ⟨ns, e, rfl⟩ := e
    cases h with | p h =>
    cases h
    rw [List.map_cons, ints_v t e]
  | .p .non :: _, _, _, _, e | .p (.bl _) :: _, _, _, _, e | .p (.str _) :: _, _, _, _, e | .p (.tup _) :: _, _, _, _, e | .r _ :: _, _, _, _, e | .t _ :: _, _, _, _, e => by cases e
theorem bls_v {K : PySem.W.Frag} {n : Nat} : ∀ {xs : List D} {vs : List V} {ns : List Bool}, RelDs K H n ρ xs vs → asBls xs = some ns → vs = ns.map V.bl
  | [], _, _, .nil, e => by cases e; rfl
  | .p (.bl i) :: r, _, _, .cons h t, e => by
    simp only [asBls, Option.map_eq_some_iff] at e
    obtain ⟨ns, e, rfl⟩ := e
    cases h with | p h =>
    cases h
    rw [List.map_cons, bls_v t e]
  | .p .non :: _, _, _, _, e | .p (.int _) :: _, _, _, _, e | .p (.str _) :: _, _, _, _, e | .p (.tup _) :: _, _, _, _, e | .r _ :: _, _, _, _, e | .t _ :: _, _, _, _, e => by cases e
theorem maxI_of : ∀ (ns : List Int) (n m : Int), (m = n ∨ m ∈ ns) → n ≤ m → (∀ y ∈ ns, y ≤ m) → m = maxI n ns
  | [], n, m, h, _, _ => by rcases h with h | h; exact h; cases h
  | x :: r, n, m, h, l, hy => by
    have hx := hy x List.mem_cons_self
    have hr := fun y h => hy y (List.mem_cons_of_mem _ h)
    show m = maxI (if x > n then x else n) r
    refine maxI_of r _ m ?_ (by split <;> omega) hr
    by_cases q : x > n
    · rw [if_pos q]
      rcases h with h | h
      · omega
      · rcases List.mem_cons.mp h with h | h
        · exact .inl h
        · exact .inr h
    · rw [if_neg q]
      rcases h with h | h
      · exact .inl h
      · rcases List.mem_cons.mp h with h | h
        · left; omega
        · exact .inr h
theorem minI_of : ∀ (ns : List Int) (n m : Int), (m = n ∨ m ∈ ns) → m ≤ n → (∀ y ∈ ns, m ≤ y) → m = minI n ns
  | [], n, m, h, _, _ => by rcases h with h | h; exact h; cases h
  | x :: r, n, m, h, l, hy => by
    have hx := hy x List.mem_cons_self
    have hr := fun y h => hy y (List.mem_cons_of_mem _ h)
    show m = minI (if x < n then x else n) r
    refine minI_of r _ m ?_ (by split <;> omega) hr
    by_cases q : x < n
    · rw [if_pos q]
      rcases h with h | h
      · omega
      · rcases List.mem_cons.mp h with h | h
        · exact .inl h
        · exact .inr h
    · rw [if_neg q]
      rcases h with h | h
      · exact .inl h
      · rcases List.mem_cons.mp h with h | h
        · left; omega
        · exact .inr h

/-! ### built-ins -/
def bltId : Blt → Option (Str × Value)
  | .len => some ("len", .builtin "len")
  | .abs => some ("abs", .builtin "abs")
  | .int => some ("int", .type "int")
  | .max => some ("max", .builtin "max")
  | .min => some ("min", .builtin "min")
  | .tuple => some ("tuple", .type "tuple")
  | .list => some ("list", .type "list")
  | .sorted => some ("sorted", .builtin "sorted")
  | .repr => some ("repr", .builtin "repr")
  | .sum => some ("sum", .builtin "sum")
  | .all => some ("all", .builtin "all")
  | .any => some ("any", .builtin "any")
  | .dict => some ("dict", .type "dict")
  | .str => some ("str", .type "str")
  | .set => some ("set", .type "set")
/-- set(xs) -/
theorem set_new {q : Addr} {vs : List V} {us : List Value} {ps : List P} (hc : X.calm = true) (I : Inv X pins σ H s) (r : Vals [.ref q] us) (R : RelH (tb X c) ρ h H) (rp : RelPs X.K H ps vs) (lf : (ps.all P.leaf) = true) (few : ps.length < 4000) (t : SqL X.K H q vs ∨ SqT X.K H q vs)
    (o : Out (tb X c) RL.d W h.length ρ H σ Q (mk (.set (dedup [] ps)) h)) : wpAny (model X.prog X.w) X.A (call (.type "set") us) (EP X pins σ Q) X.xe s := by
  obtain ⟨u1, rfl, ru⟩ := vals1 r
  cases ru
  obtain ⟨dl, dlf⟩ := dedup_lf ps [] lf rfl
  have sb : scanBound = 4096 := rfl
  have fin : ∀ (h' : Heap) (tk : Nat), SetL X.prog X.w h' s.heap.objs.size (mkL (ps.map P.lf)) → (∀ b o, s.heap.get? b = some o → h'.get? b = some o) → EP X pins σ Q (.ref s.heap.objs.size) { s with heap := h', toks := tk } := fun h' tk rs k => by
    have rs : SetL X.prog X.w h' s.heap.objs.size ((dedup [] ps).map P.lf) := by rw [dl]; exact rs
    have hp : H s.heap.objs.size = none := I.hok.fresh (Nat.le_refl _)
    obtain ⟨ρ', q0, q1, R'⟩ := R.new (o := .set (dedup [] ps)) (u := setO X.prog X.w s.heap.objs.size (dedup [] ps)) hp (fun ρ' e1 e2 => ⟨upd_same, dlf, dedup_nd ps [] List.nodup_nil⟩)
    refine ⟨.ref s.heap.objs.size, _, I.laid (t' := tk) k (Nat.le_refl _) (setL_ok rs), rfl, o ρ' (.ref s.heap.objs.size) _ (by simp) q1 (keep_new hp) R' ?_⟩
    have q : RelD X.K (upd H s.heap.objs.size (setO X.prog X.w s.heap.objs.size (dedup [] ps))) (h ++ [O.set (dedup [] ps)]).length ρ' (.r h.length) (.ref (ρ' h.length)) := .r (by simp)
    rw [q0] at q
    exact q
  rcases t with t | t
  · obtain ⟨its, rv, pl, hz⟩ := I.list t
    exact call_set_listL (ps.map P.lf) (I.ok.hd hc) pl.isList (by simpa using lv_of lf rp rv) (by rw [List.length_map]; omega) fin
  · obtain ⟨its, rv, pl, hz⟩ := I.tuple t
    exact call_set_tupleL (ps.map P.lf) (I.ok.hd hc) pl (by simpa using lv_of lf rp rv) (by rw [List.length_map]; omega) fin
theorem blt_ok {bl : Blt} {f : Value} {us : List Value} {nm : Str} (hc : X.calm = true) (bare : Bare X.A) (hu : X.A.units + 66 < cLine) (hb : bltId bl = some (nm, f)) (I : Inv X pins σ H s) (r : Vals vs us) (R : RelH (tb X c) ρ h H) (rd : RelDs X.K H h.length ρ ds vs)
    (o : Out (tb X c) RL.d W h.length ρ H σ Q (bltS bl ds h)) : wpAny (model X.prog X.w) X.A (call f us) (EP X pins σ Q) X.xe s := by
  unfold bltS at o
  split at o
  · cases hb
    cases rd with | cons rd rd' => cases rd' with | nil =>
    cases e : lenOf h _ with
    | none => rw [e] at o; exact o.elim
    | some n =>
      rw [e] at o
      rcases len_v R rd e with l | ⟨i, ob, kvs, rfl, g, hd, rfl⟩ | ⟨i, xs, rfl, g, rfl⟩
      · exact call_len pins s σ H _ us Q I r ⟨_, n, rfl, l, o.ret R (.p (.int _))⟩
      · obtain ⟨u1, rfl, ru⟩ := vals1 r
        cases ru
        exact dk_len I R g hd fun t s' I' => ⟨.int kvs.length, H, I', ⟨t, rfl⟩, o.ret R (.p (.int _))⟩
      · obtain ⟨u1, rfl, ru⟩ := vals1 r
        cases ru
        exact set_len I (set_at I R g).1 fun t s' I' => ⟨.int xs.length, H, I', ⟨t, rfl⟩, o.ret R (.p (.int _))⟩
  · cases hb
    cases rd with | cons rd rd' => cases rd' with | nil => cases rd with | p rd => cases rd with | int _ =>
    exact call_abs pins s σ H _ us Q I r ⟨_, rfl, o.ret R (.p (.int _))⟩
  · cases hb
    cases rd with | cons rd rd' => cases rd' with | nil => cases rd with | p rd => cases rd with | int _ =>
    exact call_int1 pins s σ H _ us Q I r (.inl ⟨_, rfl, o.ret R (.p (.int _))⟩)
  · cases hb
    cases rd with | cons rd rd' => cases rd' with | nil => cases rd with | p rd => cases rd with | bl _ =>
    exact call_int1 pins s σ H _ us Q I r (.inr ⟨_, rfl, o.ret R (.p (.int _))⟩)
  · cases hb
    cases rd with | cons rd rd' => cases rd' with | cons rd' rd2 => cases rd2 with | nil => cases rd with | p rd => cases rd with | int _ => cases rd' with | p rd' => cases rd' with | int _ =>
    exact call_max2 hc pins s σ H _ us Q I r ⟨_, _, rfl, o.ret R (.p (.int _))⟩
  · cases hb
    cases rd with | cons rd rd' => cases rd' with | cons rd' rd2 => cases rd2 with | nil => cases rd with | p rd => cases rd with | int _ => cases rd' with | p rd' => cases rd' with | int _ =>
    exact call_min2 hc pins s σ H _ us Q I r ⟨_, _, rfl, o.ret R (.p (.int _))⟩
  · cases hb
    cases rd with | cons rd rd' => cases rd' with | nil =>
    split at o
    · cases rd with | p rd => cases rd with | tup t ts => exact call_tupleP pins s σ H _ us Q I r ⟨_, _, rfl, .inr ⟨t.sq, o.ret R (.p (.tup t ts))⟩⟩
    · cases rd with | t t ts => exact call_tupleP pins s σ H _ us Q I r ⟨_, _, rfl, .inr ⟨t, o.ret R (.t t ts)⟩⟩
    · split at o
      · rename_i e
        obtain ⟨q, vs, rfl, t, ts⟩ := lst_at R rd e
        exact call_tupleP pins s σ H _ us Q I r ⟨_, _, rfl, .inl ⟨t, o.newT R ts⟩⟩
      · exact o.elim
    · exact o.elim
  · cases hb
    cases rd with | cons rd rd' => cases rd' with | nil =>
    split at o
    · rename_i e
      obtain ⟨q, vs, k, rfl, t, ts⟩ := seq_at R rd e
      refine call_list_of pins s σ H _ us Q I r ⟨_, vs, rfl, ?_, fun l hl => o.newL R ts hl⟩
      cases k with
      | true => exact .inl t
      | false => exact .inr t
    · exact o.elim
  · cases hb
    cases rd with | cons rd rd' => cases rd' with | nil =>
    split at o
    · rename_i xs e
      split at o
      · rename_i ps ep
        split at o
        · rename_i so
          obtain ⟨q, vs, rfl, t, ts⟩ := lst_at R rd e
          exact call_sorted hu pins s σ H _ us Q I r ⟨q, vs, ps, rfl, t, ts.pure ep, so, fun p ws hp rw_ => o.newL R rw_.toDs hp⟩
        · exact o.elim
      · exact o.elim
    · split at o
      · rename_i ps es
        split at o
        · rename_i so
          obtain ⟨i, rfl, g⟩ := setOf_get es
          obtain ⟨u1, rfl, ru⟩ := vals1 r
          cases rd with | r hi =>
          cases ru
          obtain ⟨rs, lf'⟩ := set_at I R g
          exact call_sortedSet hc hu I rs lf' (fun x hx => List.all_eq_true.mp so.2 x hx) so.1 fun p ws hp rw_ => o.newL R rw_.toDs hp
        · exact o.elim
      · exact o.elim
  · cases hb
    cases rd with | cons rd rd' => cases rd' with | nil =>
    split at o
    · rename_i xs e
      split at o
      · rename_i ps ep
        split at o
        · rename_i so
          obtain ⟨q, vs, k, rfl, t, ts⟩ := seq_at R rd e
          exact set_new hc I r R (ts.pure ep) so.1 so.2 (by cases k with | true => exact .inl t | false => exact .inr t) o
        · exact o.elim
      · exact o.elim
    · exact o.elim
  · cases hb
    cases rd with | cons rd rd' => cases rd' with | nil =>
    split at o
    · rename_i e
      split at o
      · rename_i ei
        obtain ⟨q, vs, rfl, t, ts⟩ := lst_at R rd e
        exact cr_sum hc pins s σ H _ us Q I r ⟨q, _, rfl, by rw [← ints_v ts ei]; exact t, o.ret R (.p (.int _))⟩
      · exact o.elim
    · exact o.elim
  · cases hb
    cases rd with | cons rd rd' => cases rd' with | nil =>
    split at o
    · rename_i e
      split at o
      · rename_i ei
        obtain ⟨q, vs, rfl, t, ts⟩ := lst_at R rd e
        exact cr_all hc pins s σ H _ us Q I r ⟨q, _, rfl, by rw [← bls_v ts ei]; exact t, o.ret R (.p (.bl _))⟩
      · exact o.elim
    · exact o.elim
  · cases hb
    cases rd with | cons rd rd' => cases rd' with | nil =>
    split at o
    · rename_i e
      split at o
      · rename_i ei
        obtain ⟨q, vs, rfl, t, ts⟩ := lst_at R rd e
        exact cr_any hc pins s σ H _ us Q I r ⟨q, _, rfl, by rw [← bls_v ts ei]; exact t, o.ret R (.p (.bl _))⟩
      · exact o.elim
    · exact o.elim
  · cases hb
    cases rd with | cons rd rd' => cases rd' with | nil =>
    split at o
    · rename_i e
      split at o
      · rename_i n ns ei
        obtain ⟨q, vs, rfl, t, ts⟩ := lst_at R rd e
        exact cr_max hc pins s σ H _ us Q I r ⟨q, n :: ns, rfl, by rw [← ints_v ts ei]; exact t, Nat.succ_pos _, fun m hm hy => by
          rw [maxI_of ns n m (List.mem_cons.mp hm) (hy n List.mem_cons_self) fun y h => hy y (List.mem_cons_of_mem _ h)]
          exact o.ret R (.p (.int _))⟩
      · exact o.elim
    · exact o.elim
  · cases hb
    cases rd with | cons rd rd' => cases rd' with | nil =>
    split at o
    · rename_i e
      split at o
      · rename_i n ns ei
        obtain ⟨q, vs, rfl, t, ts⟩ := lst_at R rd e
        exact cr_min hc pins s σ H _ us Q I r ⟨q, n :: ns, rfl, by rw [← ints_v ts ei]; exact t, Nat.succ_pos _, fun m hm hy => by
          rw [minI_of ns n m (List.mem_cons.mp hm) (hy n List.mem_cons_self) fun y h => hy y (List.mem_cons_of_mem _ h)]
          exact o.ret R (.p (.int _))⟩
      · exact o.elim
    · exact o.elim
  · cases hb
    cases rd with | cons rd rd' => cases rd' with | nil =>
    obtain ⟨u1, rfl, ru⟩ := vals1 r
    split at o
    · rename_i xs e
      split at o
      · rename_i kvs ep
        split at o
        · rename_i kk
          exact dict_ok hu hc I ru R rd e ep kk o
        · exact o.elim
      · exact o.elim
    · split at o
      · rename_i kvs e
        split at o
        · rename_i lf
          exact dictC_ok I ru R rd e lf o
        · exact o.elim
      · exact o.elim
  · cases hb
    cases rd with | cons rd rd' => cases rd' with | nil =>
    split at o
    · split at o
      · rename_i l
        cases rd with | p rd => cases rd with | int _ =>
        exact call_str_int pins s σ H _ us Q I r ⟨_, rfl, l, o.ret R (.p (.str _))⟩
      · exact o.elim
    · cases rd with | p rd => cases rd with | str _ =>
      exact SkE.call_str_str pins s σ H _ us Q I r ⟨_, rfl, o.ret R (.p (.str _))⟩
    · exact o.elim
  · cases hb
    cases rd with | cons rd rd' => cases rd' with | nil =>
    split at o
    · rename_i d e
      split at o
      · rename_i l
        unfold PyData.wide at l
        simp only [Bool.and_eq_true, decide_eq_true_eq] at l
        exact call_repr bare hu pins s σ H _ us Q I r ⟨_, d, rfl, see_dp R _ _ _ _ rd e, l.1.1, l.1.2, l.2, o.ret R (.p (.str _))⟩
      · exact o.elim
    · exact o.elim
  · exact o.elim
end
end Pv

/-! H2: methods of built-in types. -/
namespace Pv
open PySem L2 PySem.Spec PyProof.Rows

def bkId : BK → String
  | .lAppend => "list.append" | .lExtend => "list.extend" | .lInsert => "list.insert" | .lPop => "list.pop" | .lIndex => "list.index"
  | .dGet => "dict.get" | .dSetd => "dict.setdefault" | .dPop => "dict.pop"
def bmStr : BM → Str
  | .none => "" | .append => "append" | .extend => "extend" | .insert => "insert" | .pop => "pop" | .get => "get" | .setdefault => "setdefault" | .index => "index"
theorem bmOf_str {z : Str} {b : BM} (h : bmOf z = b) (hb : b ≠ .none) : z = bmStr b := by
  unfold bmOf at h
  repeat (first
    | (split at h; · (rename_i q; rw [q, ← h]; rfl))
    | exact absurd h.symm hb)
theorem placeOf_spec (d : PyData) : ∀ (ds : List PyData) (n j : Nat), placeOf d ds n = some j → ∃ i z, j = n + i ∧ ds[i]? = some z ∧ PyData.eqv z d = true ∧ ∀ (m : Nat) (z' : PyData), m < i → ds[m]? = some z' → PyData.eqv z' d = false
  | [], n, j, e => by cases e
  | z :: r, n, j, e => by
    unfold placeOf at e
    by_cases q : PyData.eqv z d = true
    · rw [if_pos q] at e
      cases e
      exact ⟨0, z, rfl, rfl, q, fun m z' h => absurd h (Nat.not_lt_zero _)⟩
    · rw [if_neg q] at e
      obtain ⟨i, z0, h1, h2, h3, h4⟩ := placeOf_spec d r (n + 1) j e
      refine ⟨i + 1, z0, by omega, h2, h3, fun m z' h g => ?_⟩
      cases m with
      | zero => cases g; simpa using q
      | succ m => exact h4 m z' (by omega) (by simpa using g)
section
variable {X : Cx} {c : Ct} {pins : List (Addr × Obj)} {σ : L2.St} {H : Hp} {s : Shared} {W : WX} {ρ : Nat → Addr} {h : Hh} {Q : VK} {a b : D} {x y : V} {v u : Value} {p : Addr} {ds : List D} {vs : List V} {us : List Value}
theorem ixN_both {n : Nat} {k : Int} {m : Nat} (h : ixN n k = some m) (h0 : -(2 ^ 63) ≤ k) (h1 : k < 2 ^ 63) : seqIndex? k n = some m := (ixN_seq h).1
theorem rel_dropLast {K : PySem.W.Frag} {n : Nat} {xs : List D} {ws : List V} (rs : RelDs K H n ρ xs ws) : RelDs K H n ρ xs.dropLast ws.dropLast := by
  rw [List.dropLast_eq_take, List.dropLast_eq_take, ← RelDs.length rs]
  exact rs.take _
theorem rel_erase {K : PySem.W.Frag} {n : Nat} {xs : List D} {ws : List V} (rs : RelDs K H n ρ xs ws) (m : Nat) : RelDs K H n ρ (xs.eraseIdx m) (ws.eraseIdx m) := by
  rw [List.eraseIdx_eq_take_drop_succ, List.eraseIdx_eq_take_drop_succ]
  exact RelDs.append (rs.take _) (rs.drop _)
theorem bm_ok {k : BK} (hu : X.A.units + 66 < cLine) (I : Inv X pins σ H s) (rx : RelV x v) (r : Vals vs us) (R : RelH (tb X c) ρ h H) (ra : RelD X.K H h.length ρ a x) (rd : RelDs X.K H h.length ρ ds vs)
    (o : Out (tb X c) RL.d W h.length ρ H σ Q (bmS k a ds h)) : wpAny (model X.prog X.w) X.A (call (.builtin (bkId k)) (v :: us)) (EP X pins σ Q) X.xe s := by
  unfold bmS at o
  split at o
  · rename_i i z
    cases rd with | cons rz rd => cases rd with | nil => cases ra with | r hi =>
    split at o
    · rename_i xs g
      split at o
      · rename_i l
        obtain ⟨ws, e1, rs⟩ := R.obj i _ g
        refine mt_append pins s σ H _ _ v us Q I rx r ⟨_, ws, _, rfl, rfl, e1, by rw [← RelDs.length rs]; exact l, ?_⟩
        obtain ⟨kp, R'⟩ := R.wr (o' := .lst (xs ++ [z])) (u := .lst (ws ++ [_])) g rfl rfl fun kp => ⟨_, upd_same, RelDs.append (rs.mono kp (Ext.refl _ _) (Nat.le_refl _)) (.cons (rz.mono kp (Ext.refl _ _) (Nat.le_refl _)) .nil)⟩
        exact o ρ .non _ (by rw [List.length_set]; exact Nat.le_refl _) (Ext.refl _ _) kp R' (.p .non)
      · exact o.elim
    · exact o.elim
  · rename_i i z
    cases rd with | cons rz rd => cases rd with | nil => cases ra with | r hi =>
    split at o
    · rename_i xs g
      split at o
      · rename_i ys ey
        split at o
        · rename_i l
          obtain ⟨ws, e1, rs⟩ := R.obj i _ g
          obtain ⟨i2, ws2, _, _, rfl, t2, rs2⟩ := mut_at R rz ey
          refine mt_extend pins s σ H _ _ v us Q I rx r ⟨_, _, ws, ws2, rfl, rfl, e1, t2, by rw [← RelDs.length rs, ← RelDs.length rs2]; exact l, ?_⟩
          obtain ⟨kp, R'⟩ := R.wr (o' := .lst (xs ++ ys)) (u := .lst (ws ++ ws2)) g rfl rfl fun kp => ⟨_, upd_same, RelDs.append (rs.mono kp (Ext.refl _ _) (Nat.le_refl _)) (rs2.mono kp (Ext.refl _ _) (Nat.le_refl _))⟩
          exact o ρ .non _ (by rw [List.length_set]; exact Nat.le_refl _) (Ext.refl _ _) kp R' (.p .non)
        · exact o.elim
      · exact o.elim
    · exact o.elim
  · rename_i i k z
    cases rd with | cons rk rd => cases rd with | cons rz rd => cases rd with | nil => cases ra with | r hi => cases rk with | p rk => cases rk with | int _ =>
    split at o
    · rename_i xs g
      split at o
      · rename_i l
        obtain ⟨ws, e1, rs⟩ := R.obj i _ g
        refine mt_insert pins s σ H _ _ v us Q I rx r ⟨_, ws, k, _, rfl, rfl, e1, by rw [← RelDs.length rs]; exact l.1, l.2.1, l.2.2, ?_⟩
        obtain ⟨kp, R'⟩ := R.wr (o' := .lst (xs.take k.toNat ++ [z] ++ xs.drop k.toNat)) (u := .lst (ws.take k.toNat ++ [_] ++ ws.drop k.toNat)) g rfl rfl fun kp => ⟨_, upd_same,
          RelDs.append (RelDs.append ((rs.take _).mono kp (Ext.refl _ _) (Nat.le_refl _)) (.cons (rz.mono kp (Ext.refl _ _) (Nat.le_refl _)) .nil)) ((rs.drop _).mono kp (Ext.refl _ _) (Nat.le_refl _))⟩
        exact o ρ .non _ (by rw [List.length_set]; exact Nat.le_refl _) (Ext.refl _ _) kp R' (.p .non)
      · exact o.elim
    · exact o.elim
  · rename_i i
    cases ra with | r hi =>
    split at o
    · rename_i xs g
      obtain ⟨ws, e1, rs⟩ := R.obj i _ g
      split at o
      · cases rd with | nil =>
        split at o
        · rename_i d e
          obtain ⟨w, e2, rw_⟩ := rs.get e
          refine mt_pop pins s σ H _ _ v us Q I rx r ⟨_, ws, w, rfl, rfl, e1, by rw [← RelDs.length rs]; exact e2, ?_⟩
          obtain ⟨kp, R'⟩ := R.wr (o' := .lst xs.dropLast) (u := .lst ws.dropLast) g rfl rfl fun kp => ⟨_, upd_same, RelDs.mono kp (Ext.refl _ _) (Nat.le_refl _) (rel_dropLast rs)⟩
          exact o ρ w _ (by rw [List.length_set]; exact Nat.le_refl _) (Ext.refl _ _) kp R' (rw_.mono kp (Ext.refl _ _) (by rw [List.length_set]; exact Nat.le_refl _))
        · exact o.elim
      · rename_i k
        cases rd with | cons rk rd => cases rd with | nil => cases rk with | p rk => cases rk with | int _ =>
        split at o
        · rename_i m em
          split at o
          · rename_i d e
            split at o
            · rename_i l
              obtain ⟨w, e2, rw_⟩ := rs.get e
              refine mt_popAt pins s σ H _ _ v us Q I rx r ⟨_, ws, k, m, w, rfl, rfl, e1, l.1, l.2, by rw [← RelDs.length rs]; exact ixN_both em l.1 l.2, e2, ?_⟩
              obtain ⟨kp, R'⟩ := R.wr (o' := .lst (xs.eraseIdx m)) (u := .lst (ws.eraseIdx m)) g rfl rfl fun kp => ⟨_, upd_same, RelDs.mono kp (Ext.refl _ _) (Nat.le_refl _) (rel_erase rs m)⟩
              exact o ρ w _ (by rw [List.length_set]; exact Nat.le_refl _) (Ext.refl _ _) kp R' (rw_.mono kp (Ext.refl _ _) (by rw [List.length_set]; exact Nat.le_refl _))
            · exact o.elim
          · exact o.elim
        · exact o.elim
      · exact o.elim
    · exact o.elim
  · rename_i i
    cases ra with | r hi =>
    cases rx
    split at o
    · rename_i kvs g
      split at o
      · rename_i k
        cases rd with | cons rk rd => cases rd with | nil => cases rk with | p rk =>
        obtain ⟨u1, rfl, ru⟩ := vals1 r
        split at o
        · rename_i l
          split at o
          · rename_i d e
            exact dk_pop (more := []) I R g rk ru l.1 l.2 e (.inl rfl) fun v w s' H' I' kp R' rv rw_ => ⟨v, H', I', rw_, o ρ v _ (by rw [List.length_set]; exact Nat.le_refl _) (Ext.refl _ _) kp R' (rv.mono kp (Ext.refl _ _) (by rw [List.length_set]; exact Nat.le_refl _))⟩
          · exact o.elim
        · exact o.elim
      · rename_i k z
        cases rd with | cons rk rd => cases rd with | cons rz rd => cases rd with | nil => cases rk with | p rk =>
        obtain ⟨u1, u2, rfl, ru, ru2⟩ := vals2 r
        split at o
        · rename_i l
          split at o
          · rename_i d e
            exact dk_pop (more := [u2]) I R g rk ru l.1 l.2 e (.inr ⟨_, rfl⟩) fun v w s' H' I' kp R' rv rw_ => ⟨v, H', I', rw_, o ρ v _ (by rw [List.length_set]; exact Nat.le_refl _) (Ext.refl _ _) kp R' (rv.mono kp (Ext.refl _ _) (by rw [List.length_set]; exact Nat.le_refl _))⟩
          · rename_i e
            exact dk_popD I R g rk ru l.1 l.2 e fun s' I' => ⟨_, H, I', ru2, o.ret R rz⟩
        · exact o.elim
      · exact o.elim
    · exact o.elim
  · split at o
    · rename_i kvs nd
      obtain ⟨i, ob, rfl, g, hd, rfl⟩ := dct_at ra nd
      cases rx
      split at o
      · rename_i k
        cases rd with | cons rk rd => cases rd with | nil => cases rk with | p rk =>
        obtain ⟨u1, rfl, ru⟩ := vals1 r
        split at o
        · rename_i fit
          exact dk_get1 (by omega) I R g hd rk ru fit fun v w s' I' rv rw_ => ⟨v, H, I', rw_, o.ret R rv⟩
        · exact o.elim
      · rename_i k z
        cases rd with | cons rk rd => cases rd with | cons rz rd => cases rd with | nil => cases rk with | p rk =>
        obtain ⟨u1, u2, rfl, ru, ru2⟩ := vals2 r
        split at o
        · rename_i fit
          exact dk_get2 (by omega) I R g hd rk ru rz ru2 fit fun v w s' I' rv rw_ => ⟨v, H, I', rw_, o.ret R rv⟩
        · exact o.elim
      · exact o.elim
    · exact o.elim
  · rename_i i k z
    cases rd with | cons rk rd => cases rd with | cons rz rd => cases rd with | nil => cases rk with | p rk => cases ra with | r hi =>
    obtain ⟨u1, u2, rfl, ru, ru2⟩ := vals2 r
    cases rx
    split at o
    · rename_i kvs g
      split at o
      · rename_i fit
        refine dk_setd (by omega) I R g rk ru rz ru2 fit.1 fit.2 (fun d e v w s' I' rv rw_ => ?_) fun e s' H' I' kp R' => ?_
        · rw [e] at o
          exact ⟨v, H, I', rw_, o.ret R rv⟩
        · rw [e] at o
          exact ⟨_, H', I', ru2, o ρ _ _ (by rw [List.length_set]; exact Nat.le_refl _) (Ext.refl _ _) kp R' (rz.mono kp (Ext.refl _ _) (by rw [List.length_set]; exact Nat.le_refl _))⟩
      · exact o.elim
    · exact o.elim
  · rename_i i z
    cases rd with | cons rz rd => cases rd with | nil =>
    split at o
    · rename_i d dl e1 e2
      split at o
      · rename_i sh
        split at o
        · rename_i j ej
          have q2 := see_dp R _ _ _ _ ra e2
          cases ra with | r hi =>
          obtain ⟨j', z', rfl, h1, h2, h3⟩ := placeOf_spec _ _ _ _ ej
          rw [Nat.zero_add] at o
          exact mt_indexD (by omega) pins s σ H _ _ v us Q I rx r ⟨_, _, d, dl, j', z', rfl, rfl, q2, see_dp R _ _ _ _ rz e1, sh.2, sh.1, h1, h2, h3, o.ret R (.p (.int _))⟩
        · exact o.elim
      · exact o.elim
    · exact o.elim
  · exact o.elim
theorem bm_get {i : Nat} {ob : O} {bm : BM} {k : BK} {z : Str} {pl : Sem Bool} {Q' : Value × List Value → Shared → Prop} {E : Value → Shared → Prop} (I : Inv X pins σ H s) (R : RelH (tb X c) ρ h H) (g : h[i]? = some ob) (e : bkOf ob bm = some k) (hb : bmOf z = bm)
    (hq : Q' (.builtin (bkId k), [.ref (ρ i)]) s) : wpAny (model X.prog X.w) X.A (getMethod (.ref (ρ i)) z pl) Q' E s := by
  have lst : ∀ {vs : List V}, SqL X.K H (ρ i) vs → s.TypeIs (.ref (ρ i)) "list" ∧ ∀ b, Value.ref (ρ i) = .ref b → ∃ o, s.heap.get? b = some o ∧ o.dict = none := fun t => by
    obtain ⟨its, rv, ⟨o, n, h1, h2, h3, _⟩, _⟩ := I.list t
    exact ⟨⟨o, h1, h2⟩, fun b e => by cases e; exact ⟨o, h1, h3⟩⟩
  have dct : ∀ {kvs : Kvs}, DO ob kvs → s.TypeIs (.ref (ρ i)) "dict" ∧ ∀ b, Value.ref (ρ i) = .ref b → ∃ o, s.heap.get? b = some o ∧ o.dict = none := fun hd => by
    obtain ⟨_, es, ep, ⟨o, h1, h2, h3⟩, _, _⟩ := dct_is I R g hd
    exact ⟨⟨o, h1, h2.1⟩, fun b e => by cases e; exact ⟨o, h1, h2.2.1⟩⟩
  have nn : bm ≠ .none := by rintro rfl; cases ob <;> cases e
  have hz := bmOf_str hb nn
  subst hz
  cases ob with
  | lst xs =>
    obtain ⟨vs, q, _⟩ := R.obj i _ g
    obtain ⟨t1, t2⟩ := lst (.inl (.inl q))
    cases bm <;> first | (cases e; done) | skip
    · cases e; exact getMethod_builtin t1 PySem.F.plainAttrs_list PySem.F.slot_list_append PySem.F.type_list_append t2 hq
    · cases e; exact getMethod_builtin t1 PySem.F.plainAttrs_list PySem.F.slot_list_extend PySem.F.type_list_extend t2 hq
    · cases e; exact getMethod_builtin t1 PySem.F.plainAttrs_list PySem.F.slot_list_insert PySem.F.type_list_insert t2 hq
    · cases e; exact getMethod_builtin t1 PySem.F.plainAttrs_list PySem.F.slot_list_pop PySem.F.type_list_pop t2 hq
    · cases e; exact getMethod_builtin t1 PySem.F.plainAttrs_list PySem.F.slot_list_index PySem.F.type_list_index t2 hq
  | ro xs =>
    obtain ⟨vs, q, _⟩ := R.obj i _ g
    obtain ⟨t1, t2⟩ := lst q.sq
    cases bm <;> first | (cases e; done) | skip
    cases e; exact getMethod_builtin t1 PySem.F.plainAttrs_list PySem.F.slot_list_index PySem.F.type_list_index t2 hq
  | dct kvs =>
    obtain ⟨t1, t2⟩ := dct (.inl rfl)
    cases bm <;> first | (cases e; done) | skip
    · cases e; exact getMethod_builtin t1 PySem.F.plainAttrs_dict PySem.F.slot_dict_pop PySem.F.type_dict_pop t2 hq
    · cases e; exact getMethod_builtin t1 PySem.F.plainAttrs_dict PySem.F.slot_dict_get PySem.F.type_dict_get t2 hq
    · cases e; exact getMethod_builtin t1 PySem.F.plainAttrs_dict PySem.F.slot_dict_setdefault PySem.F.type_dict_setdefault t2 hq
  | lck kvs =>
    obtain ⟨t1, t2⟩ := dct (.inr rfl)
    cases bm <;> first | (cases e; done) | skip
    cases e; exact getMethod_builtin t1 PySem.F.plainAttrs_dict PySem.F.slot_dict_get PySem.F.type_dict_get t2 hq
  | set xs => cases bm <;> cases e
  | ins ci fs => cases bm <;> cases e
end
end Pv

/-! I: statements' ends; the rules for expressions. -/
namespace Pv
open PySem L2 PySem.Spec PyProof.Rows

section
variable (T : Tb)
def OutS (W : WX) (n : Nat) (ρ : Nat → Addr) (H : Hp) (E : Ends) : RS → Prop
  | .stuck => False
  | .next sg h' => ∀ ρ' σ' H', n ≤ h'.length → Ext n ρ ρ' → Keep T.K H H' → RelH T ρ' h' H' → RelS T.K H' h'.length ρ' sg σ' → E.nx σ' H'
  | .brk sg h' => ∀ ρ' σ' H', n ≤ h'.length → Ext n ρ ρ' → Keep T.K H H' → RelH T ρ' h' H' → RelS T.K H' h'.length ρ' sg σ' → E.bk σ' H'
  | .cont sg h' => ∀ ρ' σ' H', n ≤ h'.length → Ext n ρ ρ' → Keep T.K H H' → RelH T ρ' h' H' → RelS T.K H' h'.length ρ' sg σ' → E.ct σ' H'
  | .ret d h' => ∀ ρ' v H', n ≤ h'.length → Ext n ρ ρ' → Keep T.K H H' → RelH T ρ' h' H' → RelD T.K H' h'.length ρ' d v → E.rt v H'
  | .exc x sg h' => ∀ ρ' σ' c d H', n ≤ h'.length → Ext n ρ ρ' → Keep T.K H H' → RelH T ρ' h' H' → RelS T.K H' h'.length ρ' sg σ' → RelX T H' h'.length ρ' x c d → W c d σ' H'
def tHS {α β : Type} (W : WX) (l : RL T.K α β) (k : Sg → α → Hh → RS) (x : β) : TS := fun E σ H =>
  ∃ ρ sg h a, At T l x σ H ρ sg h a ∧ OutS T W h.length ρ H E (k sg a h)
def tS (W : WX) (ev : Sg → Hh → RS) : TS := tHS T W RL.u (fun sg _ h => ev sg h) ()
end
section
variable {T : Tb} {W : WX} {α β γ δ ε ζ : Type} {l : RL T.K α β} {m : RL T.K γ δ} {m' : RL T.K ε ζ}
theorem OutS.later {n n' : Nat} {ρ ρ' : Nat → Addr} {H H' : Hp} {E : Ends} {r : RS} (o : OutS T W n ρ H E r) (hn : n ≤ n') (e : Ext n ρ ρ') (k : Keep T.K H H') : OutS T W n' ρ' H' E r := by
  cases r with
  | stuck => exact o
  | next sg h' => exact fun ρ'' σ' H'' l1 e1 k1 R1 r1 => o ρ'' σ' H'' (Nat.le_trans hn l1) (e.trans e1 hn) (k.trans k1) R1 r1
  | brk sg h' => exact fun ρ'' σ' H'' l1 e1 k1 R1 r1 => o ρ'' σ' H'' (Nat.le_trans hn l1) (e.trans e1 hn) (k.trans k1) R1 r1
  | cont sg h' => exact fun ρ'' σ' H'' l1 e1 k1 R1 r1 => o ρ'' σ' H'' (Nat.le_trans hn l1) (e.trans e1 hn) (k.trans k1) R1 r1
  | ret d h' => exact fun ρ'' σ' H'' l1 e1 k1 R1 r1 => o ρ'' σ' H'' (Nat.le_trans hn l1) (e.trans e1 hn) (k.trans k1) R1 r1
  | exc x sg h' => exact fun ρ'' σ' c d H'' l1 e1 k1 R1 s1 r1 => o ρ'' σ' c d H'' (Nat.le_trans hn l1) (e.trans e1 hn) (k.trans k1) R1 s1 r1
theorem tHS.step {ev : Sg → Hh → R γ} (k : Sg → α × γ → Hh → RS) {x : β} {σ : L2.St} {H : Hp} {E : Ends} (t : tHS T W l (fun sg a h => (ev sg h).then sg fun b h1 => k sg (a, b) h1) x E σ H) :
    tG T W m ev σ H fun y H1 => tHS T W (l.x m) k (x, y) E σ H1 := by
  obtain ⟨ρ, sg, h, a, A, o⟩ := t
  refine ⟨ρ, sg, h, (), ⟨A.s, A.o, True.intro⟩, ?_⟩
  show Out T m W h.length ρ H σ _ (ev sg h)
  have o : OutS T W h.length ρ H E ((ev sg h).then sg fun b h1 => k sg (a, b) h1) := o
  cases e : ev sg h with
  | stuck => rw [e] at o; exact o
  | ok b h1 =>
    rw [e] at o
    intro ρ1 y H1 l1 e1 k1 R1 r1
    exact ⟨ρ1, sg, h1, (a, b), ⟨A.s.mono k1 e1 l1, R1, l.mono k1 e1 l1 A.a, r1⟩, OutS.later o l1 e1 k1⟩
  | exc x h1 =>
    rw [e] at o
    intro ρ1 c d H1 l1 e1 k1 R1 r1
    exact o ρ1 σ c d H1 l1 e1 k1 R1 (A.s.mono k1 e1 l1) r1
theorem tS.step {ev : Sg → Hh → R γ} (k : Sg → γ → Hh → RS) {σ : L2.St} {H : Hp} {E : Ends} (t : tS T W (fun sg h => (ev sg h).then sg fun b h1 => k sg b h1) E σ H) :
    tG T W m ev σ H fun y H1 => tHS T W m k y E σ H1 := by
  obtain ⟨ρ, sg, h, a, A, o⟩ := t
  refine ⟨ρ, sg, h, (), A, ?_⟩
  show Out T m W h.length ρ H σ _ (ev sg h)
  have o : OutS T W h.length ρ H E ((ev sg h).then sg fun b h1 => k sg b h1) := o
  cases e : ev sg h with
  | stuck => rw [e] at o; exact o
  | ok b h1 =>
    rw [e] at o
    intro ρ1 y H1 l1 e1 k1 R1 r1
    exact ⟨ρ1, sg, h1, b, ⟨A.s.mono k1 e1 l1, R1, r1⟩, OutS.later o l1 e1 k1⟩
  | exc x h1 =>
    rw [e] at o
    intro ρ1 c d H1 l1 e1 k1 R1 r1
    exact o ρ1 σ c d H1 l1 e1 k1 R1 (A.s.mono k1 e1 l1) r1
theorem tS.seq {ev : Sg → Hh → RS} {k : Sg → Hh → RS} {σ : L2.St} {H : Hp} {E : Ends} (t : tS T W (fun sg h => (ev sg h).seq k) E σ H) : tS T W ev { E with nx := tS T W k E } σ H := by
  obtain ⟨ρ, sg, h, a, A, o⟩ := t
  refine ⟨ρ, sg, h, a, A, ?_⟩
  show OutS T W h.length ρ H _ (ev sg h)
  have o : OutS T W h.length ρ H E ((ev sg h).seq k) := o
  cases e : ev sg h with
  | next s1 h1 =>
    rw [e] at o
    intro ρ1 σ1 H1 l1 e1 k1 R1 r1
    exact ⟨ρ1, s1, h1, (), ⟨r1, R1, True.intro⟩, OutS.later o l1 e1 k1⟩
  | _ => rw [e] at o; exact o
theorem Out.mono {n : Nat} {ρ : Nat → Addr} {H : Hp} {σ : L2.St} {Q Q' : β → Hp → Prop} {r : R α} (f : ∀ y H', Q y H' → Q' y H') (o : Out T l W n ρ H σ Q r) : Out T l W n ρ H σ Q' r := by
  cases r with
  | stuck => exact o
  | exc x h' => exact o
  | ok a h' => exact fun ρ' b H' l1 e1 k1 R1 r1 => f _ _ (o ρ' b H' l1 e1 k1 R1 r1)
theorem tG_mono {ev : Sg → Hh → R α} {σ : L2.St} {H : Hp} {Q Q' : β → Hp → Prop} (f : ∀ y H', Q y H' → Q' y H') (t : tG T W l ev σ H Q) : tG T W l ev σ H Q' := by
  obtain ⟨ρ, sg, h, a, A, o⟩ := t
  exact ⟨ρ, sg, h, a, A, Out.mono f o⟩
/-- what is held may be told otherwise -/
theorem tH.exact {σ : L2.St} {H : Hp} {k : Sg → α → Hh → R γ} {x : β} {Q : δ → Hp → Prop} (t : tH T W l m k x σ H Q) : ∃ ρ sg h a, At T l x σ H ρ sg h a ∧ Out T m W h.length ρ H σ Q (k sg a h) := t

/-! ### trimming, again -/
theorem trim_ok {ρ : Nat → Addr} {h h' : Hh} {H : Hp} {d : D} (R0 : RelH T ρ h H) :
    ∃ d2 h2, trimR h (.ok d h') = .ok d2 h2 ∧ truth h2 d2 = truth h' d ∧ ∀ ρ' H', h.length ≤ h'.length → RelH T ρ' h' H' → ∃ ρ2, h.length ≤ h2.length ∧ Ext h.length ρ' ρ2 ∧ RelH T ρ2 h2 H' := by
  have same : trimR h (.ok d h') = .ok d h' → ∃ d2 h2, trimR h (.ok d h') = .ok d2 h2 ∧ truth h2 d2 = truth h' d ∧ ∀ ρ' H', h.length ≤ h'.length → RelH T ρ' h' H' → ∃ ρ2, h.length ≤ h2.length ∧ Ext h.length ρ' ρ2 ∧ RelH T ρ2 h2 H' := fun e => ⟨d, h', e, rfl, fun ρ' H' l1 R1 => ⟨ρ', l1, Ext.refl _ _, R1⟩⟩
  by_cases ag : agree h h' h.length = true
  · have tl : (h'.take h.length).length = h.length := by rw [List.length_take]; have := agree_len ag; omega
    by_cases du : d.under h.length = true
    · refine ⟨d, h'.take h.length, by simp only [trimR]; rw [if_pos ag, if_pos du], ?_, fun ρ' H' l1 R1 => ⟨ρ', by omega, Ext.refl _ _, R0.cut R1 ag⟩⟩
      cases d with
      | p x => cases x <;> rfl
      | t xs => rfl
      | r i =>
        have hi : i < h.length := by simpa [D.under] using du
        simp only [truth, List.getElem?_take_of_lt hi]
    · cases d with
      | p x => exact absurd rfl du
      | t xs => exact same (by simp only [trimR]; rw [if_pos ag, if_neg du])
      | r i =>
        cases g : h'[i]? with
        | none => exact same (by simp only [trimR]; rw [if_pos ag, if_neg du, g])
        | some ob =>
          by_cases c : (decide (h.length ≤ i) && ob.under h.length) = true
          · refine ⟨.r h.length, h'.take h.length ++ [ob], ?_, ?_, fun ρ' H' l1 R1 => ?_⟩
            · simp only [trimR]
              rw [if_pos ag, if_neg du, g]
              dsimp only
              rw [if_pos c]
            · simp only [truth, g]
              rw [List.getElem?_append_right (by omega), tl, Nat.sub_self]
              rfl
            · rw [Bool.and_eq_true, decide_eq_true_eq] at c
              obtain ⟨ρ'', f0, f1, R2⟩ := R0.cutOne R1 ag g c.1 c.2
              have ln : (h'.take h.length ++ [ob]).length = h.length + 1 := by rw [List.length_append, tl]; rfl
              exact ⟨ρ'', by omega, f1, R2⟩
          · exact same (by simp only [trimR]; rw [if_pos ag, if_neg du, g]; dsimp only; rw [if_neg c])
  · exact same (by simp only [trimR]; rw [if_neg ag])
theorem Out.trimB {ρ : Nat → Addr} {h : Hh} {H : Hp} {σ : L2.St} {Q : Bool → Hp → Prop} {r : R D} (R0 : RelH T ρ h H) (o : Out T RL.b W h.length ρ H σ Q (tr (trimR h r))) : Out T RL.b W h.length ρ H σ Q (tr r) := by
  cases r with
  | stuck => exact o
  | exc x h' => exact o
  | ok d h' =>
    obtain ⟨d2, h2, t0, t1, t2⟩ := trim_ok (d := d) (h' := h') R0
    rw [t0, tr_ok, t1] at o
    rw [tr_ok]
    cases e : truth h' d with
    | none => rw [e] at o; exact o.elim
    | some k =>
      rw [e] at o
      intro ρ' b H' l1 e1 k1 R1 r1
      obtain ⟨ρ2, t3, t4, t5⟩ := t2 ρ' H' l1 R1
      cases r1
      exact o ρ2 k H' t3 (e1.trans t4 (Nat.le_refl _)) k1 t5 rfl
theorem tT.trim {ev : Sg → Hh → R D} {σ : L2.St} {H : Hp} {Q : Bool → Hp → Prop} (t : tT T W (fun sg h => tr (trimR h (ev sg h))) σ H Q) : tT T W (fun sg h => tr (ev sg h)) σ H Q := by
  obtain ⟨ρ, sg, h, a, A, o⟩ := t
  exact ⟨ρ, sg, h, a, A, Out.trimB A.o o⟩
end

/-! ### the calls' contract -/
def spG (T : Tb) (n : Nat) (ev : List D → Hh → R D) : Sp := fun vs H Q E => vs.length = n ∧ ∃ ρ h ds, RelH T ρ h H ∧ RelDs T.K H h.length ρ ds vs ∧ Out T RL.d (fun c d _ H' => E c d H') h.length ρ H [] Q (ev ds h)

section
variable {X : Cx} {c : Ct} {W : WX} {g : G} {e e2 e3 : Expr} {a b d : IE} {pos : Pos}
abbrev tEe (X : Cx) (c : Ct) (W : WX) (g : G) (a : IE) : TE := tE (tb X c) W (evE g a)
abbrev tTe (X : Cx) (c : Ct) (W : WX) (g : G) (a : IE) : TT := tT (tb X c) W fun s h => tr (evE g a s h)
theorem pe_p {x : P} {v : V} (h : PE X e (tC v)) (r : ∀ H, RelP X.K H x v) : PE X e (tEe X c W g (.c x)) := by
  refine ⟨fun pins s σ H Q I t => h.run pins s σ H Q I ?_⟩
  obtain ⟨ρ, sg, hh, _, A, o⟩ := t
  exact o.ret A.o (.p (r H))
theorem pe_v {i : Nat} {x : Str} (hN : X.N[i]? = some x) (hv : Vis X.env.scope x) (ok : okName x = true) : PE X (.Name x pos) (tEe X c W g (.v i)) := by
  have h1 : (x == ("__debug__" : Str)) = false ∧ (x == ("__classdict__" : Str)) = false := by
    unfold okName at ok
    rw [decide_eq_true_eq] at ok
    exact ⟨by rw [beq_eq_false_iff_ne]; exact ok.1, by rw [beq_eq_false_iff_ne]; exact ok.2.1⟩
  refine ⟨fun pins s σ H Q I t => (pe_var hN hv h1.1 h1.2).run pins s σ H Q I ?_⟩
  obtain ⟨ρ, sg, hh, _, A, o⟩ := t
  have o : Out (tb X c) RL.d W hh.length ρ H σ Q (R.of (slot i sg) hh) := o
  unfold slot at o
  cases q : sg[i]? with
  | none => rw [q] at o; exact o.elim
  | some z =>
    cases z with
    | none => rw [q] at o; exact o.elim
    | some d =>
      rw [q] at o
      obtain ⟨v, e1, r⟩ := A.s.at_ i d q
      exact ⟨v, e1, o.ret A.o r⟩
theorem pe_bin {op : Operator} {bo : Bin} (ho : binOf op = some bo) (ha : PE X e (tEe X c W g a)) (hb : PE X e2 (tEe X c W g b)) : PE X (.BinOp e op e2 pos) (tEe X c W g (.bin bo a b)) := by
  refine ⟨fun pins s σ H Q I t => wpAny_BinOp (thn (ha.run pins s σ H _ I (tG.step t)) fun v s1 ⟨x, H1, I1, r1, q1⟩ => thn (hb.run pins s1 σ H1 _ I1 (tH.step (k := fun sg p h => binS bo p.1 p.2 h) q1)) fun u s2 ⟨y, H2, I2, r2, q2⟩ => ?_)⟩
  obtain ⟨ρ, sg, hh, ab, A, o⟩ := q2
  exact bin_ok ho I2 r1 r2 A.o A.a.1 A.a.2 o
theorem pe_neg (ha : PE X e (tEe X c W g a)) : PE X (.UnaryOp .USub e pos) (tEe X c W g (.neg a)) := by
  refine ⟨fun pins s σ H Q I t => UnaryOp_ (thn (ha.run pins s σ H _ I (tG.step t)) fun v s1 ⟨x, H1, I1, r1, q1⟩ => ?_)⟩
  obtain ⟨ρ, sg, hh, d, A, o⟩ := q1
  have ra : RelD X.K H1 hh.length ρ d x := A.a
  dsimp only at o
  split at o
  · cases ra with | p ra => cases ra with | int i => exact un_neg pins s1 σ H1 _ v Q I1 r1 ⟨_, rfl, o.ret A.o (.p (.int _))⟩
  · exact o.elim
/-- a value's truth -/
theorem truth_ok {pins : List (Addr × Obj)} {s : Shared} {σ : L2.St} {H : Hp} {ρ : Nat → Addr} {h : Hh} {x : V} {v : Value} {d : D} {Q : Bool → Hp → Prop} (I : Inv X pins σ H s) (rx : RelV x v) (Rh : RelH (tb X c) ρ h H) (ra : RelD X.K H h.length ρ d x) (o : Out (tb X c) RL.b W h.length ρ H σ Q (R.of (truth h d) h)) :
    wpAny (model X.prog X.w) X.A (truthy v) (TP X pins σ Q) X.xe s := by
  cases e : truth h d with
  | none => rw [e] at o; exact o.elim
  | some k =>
    rw [e] at o
    refine thn (truthy_ok I rx Rh ra e) fun k' s' ⟨H', I', e1, e2⟩ => ⟨H', I', ?_⟩
    subst e1 e2
    exact o.ret Rh rfl
/-- no test of its own -/
def plainT : Expr → Bool
  | .UnaryOp .Not _ _ | .BoolOp .. | .IfExp .. | .Compare .. => false
  | _ => true
theorem isTrue_of (hp : plainT e = true) : ∀ whole, isTrue e X.env whole = (do let v ← whole; standAt e.pos; holding [v] (truthy v)) := by
  intro whole
  cases e with
  | UnaryOp op a p => cases op <;> first | rfl | cases hp
  | BoolOp op a p => cases hp
  | IfExp t a b p => cases hp
  | Compare a o l p => cases hp
  | _ => rfl
theorem pt_of (hp : plainT e = true) (ha : PE X e (tEe X c W g a)) : PT X e (tTe X c W g a) := by
  refine ⟨fun pins s σ H Q I t => isTrue_plain (thn (ha.run pins s σ H _ I (tG.step (k := fun sg d h => R.of (truth h d) h) t)) fun v s1 ⟨x, H1, I1, r1, q1⟩ => ?_) (isTrue_of hp _)⟩
  obtain ⟨ρ, sg, hh, d, A, o⟩ := q1
  exact truth_ok I1 r1 A.o A.a o
/-! ### the text's forms -/
def noStar : Expr → Bool
  | .Starred .. => false
  | _ => true
theorem star_of {es : List Expr} {env : Env} (h : noStar e = true) : starEach (e :: es) env = (false, eval e env) :: starEach es env := by
  cases e <;> first | rfl | cases h
theorem base_of {f : Str} {env : Env} {w : Sem Value} (h : isSuper e = false) : attributeBase e f env w = w := by
  cases e with
  | Call fn es kw p =>
    cases fn with
    | Name x q =>
      have h : (x == "super") = false := h
      have hx : ¬ x = Str.ofString "super" := by simpa using h
      cases es <;> cases kw <;> simp [attributeBase, hx]
    | _ => rfl
  | _ => rfl
theorem plainIx_of (h : plainIx e = true) : PlainIx e := by
  intro o i
  cases e <;> first | rfl | cases h
theorem stars_all {env : Env} : ∀ {es : List Expr}, (∀ e ∈ es, noStar e = true) → (starEach es env).all (fun x => !x.1) = true ∧ (starEach es env).any (fun x => x.1) = false ∧ (starEach es env).length = es.length
  | [], _ => ⟨rfl, rfl, rfl⟩
  | e :: es, h => by
    obtain ⟨h1, h2, h3⟩ := stars_all (env := env) (es := es) fun x hx => h x (List.mem_cons_of_mem _ hx)
    rw [star_of (h e List.mem_cons_self)]
    exact ⟨by simp [h1], by simp [h2], by simp [h3]⟩
theorem back_any {pos : Pos} {l : List (Bool × Sem Value)} (h : l.any (fun x => x.1) = false) : (backTo pos l).any (fun x => x.1) = false := by
  cases l with
  | nil => rfl
  | cons x r => first | exact h | simpa [backTo] using h
theorem back_all {pos : Pos} {l : List (Bool × Sem Value)} (h : l.all (fun x => !x.1) = true) : (backTo pos l).all (fun x => !x.1) = true := by
  cases l with
  | nil => rfl
  | cons x r => first | exact h | simpa [backTo] using h

/-! ### lists of expressions -/
abbrev tAe (X : Cx) (c : Ct) (W : WX) (g : G) (a : IEs) : TA := tA (tb X c) W (evEs g a)
theorem pa_nilE : PA X [] (tAe X c W g .nil) := by
  refine ⟨fun p pins s σ H Q I t => pa_nil.run p pins s σ H Q I ?_⟩
  obtain ⟨ρ, sg, hh, _, A, o⟩ := t
  exact o.ret A.o .nil
theorem pa_consE {es : List Expr} {as : IEs} (hs : noStar e = true) (ha : PE X e (tEe X c W g a)) (hr : PA X es (tAe X c W g as)) : PA X (e :: es) (tAe X c W g (.cons a as)) := by
  refine ⟨fun pos pins s σ H Q I t => ?_⟩
  rw [star_of hs]
  show wpAny _ _ (spliced ((false, eval e X.env) :: backTo pos (starEach es X.env))) _ _ s
  refine Calls.spliced_cons (thn (ha.run pins s σ H _ I (tG.step t)) fun u s1 ⟨x, H1, I1, r1, q1⟩ => ?_)
  refine thn (hr.run pos pins s1 σ H1 _ I1 (tH.step (k := fun sg p h => .ok (p.1 :: p.2) h) q1)) fun us s2 ⟨xs, H2, I2, r2, q2⟩ => ?_
  obtain ⟨ρ, sg, hh, ab, A, o⟩ := q2
  exact ⟨x :: xs, H2, I2, .cons r1 r2, o.ret A.o (.cons A.a.1 A.a.2)⟩
theorem pe_tupE {x1 : Nat} {es : List Expr} {as : IEs} (ha : PA X es (tAe X c W g as)) : PE X (.Tuple es x1 pos) (tEe X c W g (.tup as)) := by
  refine ⟨fun pins s σ H Q I t => (pe_tupP ha).run pins s σ H Q I ?_⟩
  have z := tG.step (m := RL.ds) (ev := evEs g as) (k := fun sg ds h1 => if ds.length ≤ sizeLine then .ok (mkT ds) h1 else .stuck) t
  refine tG_mono (fun xs H1 q => ?_) z
  obtain ⟨ρ, sg, hh, ds, A, o⟩ := q
  dsimp only at o
  split at o
  · rename_i l
    exact ⟨by rw [← RelDs.length A.a]; exact l, o.newT A.o A.a⟩
  · exact o.elim
theorem pe_lstE {es : List Expr} {as : IEs} (ha : PA X es (tAe X c W g as)) : PE X (.List es pos) (tEe X c W g (.lst as)) := by
  refine ⟨fun pins s σ H Q I t => (pe_lst ha).run pins s σ H Q I ?_⟩
  refine tG_mono (fun xs H1 q => ?_) (tG.step (m := RL.ds) (ev := evEs g as) (k := fun sg ds h1 => if ds.length ≤ sizeLine then mk (.lst ds) h1 else .stuck) t)
  obtain ⟨ρ, sg, hh, ds, A, o⟩ := q
  dsimp only at o
  split at o
  · rename_i l
    exact ⟨by rw [← RelDs.length A.a]; exact l, fun p hp => o.newL A.o A.a hp⟩
  · exact o.elim

/-! ### not, and, or, if -/
theorem R.bind_assoc {α β γ : Type} (m : R α) (f : α → Hh → R β) (k : β → Hh → R γ) : (m.bind f).bind k = m.bind fun x h => (f x h).bind k := by cases m <;> rfl
theorem tG_cong {ev ev' : Sg → Hh → R D} {T : Tb} {σ : L2.St} {H : Hp} {Q : VK} (h : ∀ s hh, ev s hh = ev' s hh) (t : tE T W ev σ H Q) : tE T W ev' σ H Q := by
  have : ev = ev' := funext fun s => funext fun hh => h s hh
  exact this ▸ t
theorem tT_cong {ev ev' : Sg → Hh → R Bool} {T : Tb} {σ : L2.St} {H : Hp} {Q : Bool → Hp → Prop} (h : ∀ s hh, ev s hh = ev' s hh) (t : tT T W ev σ H Q) : tT T W ev' σ H Q := by
  have : ev = ev' := funext fun s => funext fun hh => h s hh
  exact this ▸ t
theorem pe_notE (ha : PE X e (tEe X c W g a)) : PE X (.UnaryOp .Not e pos) (tEe X c W g (.not a)) := by
  refine ⟨fun pins s σ H Q I t => UnaryOp_ (thn (ha.run pins s σ H _ I (tG.step (k := fun sg x h => (R.of (truth h x) h).bind fun b h1 => .ok (.p (.bl (!b))) h1) (tG_cong (fun s hh => R.bind_assoc _ _ _) t))) fun v s1 ⟨x, H1, I1, r1, q1⟩ => ?_)⟩
  obtain ⟨ρ, sg, hh, d, A, o⟩ := q1
  dsimp only at o
  refine not_of (thn (truth_ok (W := W) (Q := fun k H2 => Q (.bl (!k)) H2) I1 r1 A.o A.a ?_) fun k s2 ⟨H2, I2, q2⟩ => ⟨.bl (!k), H2, I2, rfl, q2⟩)
  cases q : truth hh d with
  | none => rw [q] at o; exact o.elim
  | some k =>
    rw [q] at o
    exact fun ρ' b H' l1 e1 k1 R1 r1 => by
      cases r1
      exact o ρ' _ H' l1 e1 k1 R1 (.p (.bl _))
theorem pt_notE (ha : PT X e (tTe X c W g a)) : PT X (.UnaryOp .Not e pos) (tTe X c W g (.not a)) := by
  refine ⟨fun pins s σ H Q I t => wpAny_isTrue_Not (thn (ha.run pins s σ H (fun k H1 => Q (!k) H1) I ?_) fun _ _ q => q)⟩
  refine tG_mono (fun k H1 q => ?_) (tG.step (m := RL.b) (k := fun sg b h => .ok (!b) h) (tT_cong (fun s hh => ?_) t))
  · obtain ⟨ρ, sg, hh, d, A, o⟩ := q
    have e : d = k := A.a
    subst e
    exact o.ret A.o rfl
  · show tr ((tr (evE g a s hh)).bind _) = _
    cases tr (evE g a s hh) <;> rfl
theorem pe_andE {es : List Expr} (ha : PE X e (tEe X c W g a)) (hb : PE X (.BoolOp .And (e2 :: es) pos) (tEe X c W g b)) : PE X (.BoolOp .And (e :: e2 :: es) pos) (tEe X c W g (.and a b)) := by
  refine ⟨fun pins s σ H Q I t => BoolOp_and (thn (ha.run pins s σ H _ I (tG.step t)) fun v s1 ⟨x, H1, I1, r1, q1⟩ => ?_)⟩
  obtain ⟨ρ, sg, hh, d, A, o⟩ := q1
  dsimp only at o
  cases q : truth hh d with
  | none => rw [q] at o; exact o.elim
  | some k =>
    rw [q] at o
    refine thn (truthy_ok I1 r1 A.o A.a q) fun c s2 ⟨H2, I2, e1, e2⟩ => ?_
    subst e1 e2
    cases c with
    | true => exact hb.run pins s2 σ H2 Q I2 ⟨ρ, sg, hh, (), ⟨A.s, A.o, True.intro⟩, o⟩
    | false => exact ⟨x, H2, I2, r1, o.ret A.o A.a⟩
theorem pe_orE {es : List Expr} (ha : PE X e (tEe X c W g a)) (hb : PE X (.BoolOp .Or (e2 :: es) pos) (tEe X c W g b)) : PE X (.BoolOp .Or (e :: e2 :: es) pos) (tEe X c W g (.or a b)) := by
  refine ⟨fun pins s σ H Q I t => BoolOp_or (thn (ha.run pins s σ H _ I (tG.step t)) fun v s1 ⟨x, H1, I1, r1, q1⟩ => ?_)⟩
  obtain ⟨ρ, sg, hh, d, A, o⟩ := q1
  dsimp only at o
  cases q : truth hh d with
  | none => rw [q] at o; exact o.elim
  | some k =>
    rw [q] at o
    refine thn (truthy_ok I1 r1 A.o A.a q) fun c s2 ⟨H2, I2, e1, e2⟩ => ?_
    subst e1 e2
    cases c with
    | false => exact hb.run pins s2 σ H2 Q I2 ⟨ρ, sg, hh, (), ⟨A.s, A.o, True.intro⟩, o⟩
    | true => exact ⟨x, H2, I2, r1, o.ret A.o A.a⟩
theorem tr_and (x : R D) (f : Hh → R D) : tr (x.bind fun d h1 => (R.of (truth h1 d) h1).bind fun k h2 => if k then f h2 else .ok d h2) = (tr x).bind fun k h1 => if k then tr (f h1) else .ok false h1 := by
  cases x with
  | stuck => rfl
  | exc _ _ => rfl
  | ok d h =>
    show tr ((R.of (truth h d) h).bind _) = (R.of (truth h d) h).bind _
    cases q : truth h d with
    | none => rfl
    | some k =>
      cases k with
      | true => rfl
      | false => show R.of (truth h d) h = _; rw [q]; rfl
theorem tr_or (x : R D) (f : Hh → R D) : tr (x.bind fun d h1 => (R.of (truth h1 d) h1).bind fun k h2 => if k then .ok d h2 else f h2) = (tr x).bind fun k h1 => if k then .ok true h1 else tr (f h1) := by
  cases x with
  | stuck => rfl
  | exc _ _ => rfl
  | ok d h =>
    show tr ((R.of (truth h d) h).bind _) = (R.of (truth h d) h).bind _
    cases q : truth h d with
    | none => rfl
    | some k =>
      cases k with
      | false => rfl
      | true => show R.of (truth h d) h = _; rw [q]; rfl
theorem tT_keep {k : Bool} {σ : L2.St} {H : Hp} {Q : Bool → Hp → Prop} {f : Sg → Bool → Hh → R Bool} (q : tH (tb X c) W RL.b RL.b f k σ H Q) : tT (tb X c) W (fun s h => f s k h) σ H Q := by
  obtain ⟨ρ, sg, hh, d, A, o⟩ := q
  have e : d = k := A.a
  subst e
  exact ⟨ρ, sg, hh, (), ⟨A.s, A.o, True.intro⟩, o⟩
theorem tT_done {k : Bool} {σ : L2.St} {H : Hp} {Q : Bool → Hp → Prop} (q : tT (tb X c) W (fun s h => .ok k h) σ H Q) : Q k H := by
  obtain ⟨ρ, sg, hh, d, A, o⟩ := q
  exact o.ret A.o rfl
theorem pw_andE {es : List Expr} (ha : PT X e (tTe X c W g a)) (hb : PW X (.BoolOp .And (e2 :: es) pos) (tTe X c W g b)) : PW X (.BoolOp .And (e :: e2 :: es) pos) (tTe X c W g (.and a b)) := by
  refine ⟨fun whole pins s σ H Q I t => (pw_and ha hb).run whole pins s σ H Q I ?_⟩
  refine tG_mono (fun k H1 q => ?_) (tG.step (m := RL.b) (k := fun sg k h => if k then tr (evE g b sg h) else .ok false h) (tT_cong (fun s hh => tr_and _ fun h2 => evE g b s h2) t))
  have q := tT_keep q
  cases k with
  | true => exact q
  | false => exact tT_done q
theorem pw_orE {es : List Expr} (ha : PT X e (tTe X c W g a)) (hb : PW X (.BoolOp .Or (e2 :: es) pos) (tTe X c W g b)) : PW X (.BoolOp .Or (e :: e2 :: es) pos) (tTe X c W g (.or a b)) := by
  refine ⟨fun whole pins s σ H Q I t => (pw_or ha hb).run whole pins s σ H Q I ?_⟩
  refine tG_mono (fun k H1 q => ?_) (tG.step (m := RL.b) (k := fun sg k h => if k then .ok true h else tr (evE g b sg h)) (tT_cong (fun s hh => tr_or _ fun h2 => evE g b s h2) t))
  have q := tT_keep q
  cases k with
  | false => exact q
  | true => exact tT_done q
theorem tE_keep {k : Bool} {σ : L2.St} {H : Hp} {Q : VK} {f : Sg → Bool → Hh → R D} (q : tH (tb X c) W RL.b RL.d f k σ H Q) : tE (tb X c) W (fun s h => f s k h) σ H Q := by
  obtain ⟨ρ, sg, hh, d, A, o⟩ := q
  have e : d = k := A.a
  subst e
  exact ⟨ρ, sg, hh, (), ⟨A.s, A.o, True.intro⟩, o⟩
theorem pe_iteE (ht : PT X e (tTe X c W g a)) (ha : PE X e2 (tEe X c W g b)) (hb : PE X e3 (tEe X c W g d)) : PE X (.IfExp e e2 e3 pos) (tEe X c W g (.ite a b d)) := by
  refine ⟨fun pins s σ H Q I t => (pe_ifExp ht ha hb).run pins s σ H Q I ?_⟩
  refine tG_mono (fun k H1 q => ?_) (tG.step (m := RL.b) (k := fun sg k h => if k then evE g b sg h else evE g d sg h) t)
  have q := tE_keep q
  cases k with
  | true => exact q
  | false => exact q
theorem pt_iteE (ht : PT X e (tTe X c W g a)) (ha : PT X e2 (tTe X c W g b)) (hb : PT X e3 (tTe X c W g d)) : PT X (.IfExp e e2 e3 pos) (tTe X c W g (.ite a b d)) := by
  refine ⟨fun pins s σ H Q I t => (pt_ifExp ht ha hb).run pins s σ H Q I ?_⟩
  refine tG_mono (fun k H1 q => ?_) (tG.step (m := RL.b) (k := fun sg k h => if k then tr (evE g b sg h) else tr (evE g d sg h)) (tT_cong (fun s hh => ?_) t))
  · have q := tT_keep q
    cases k with
    | true => exact q
    | false => exact q
  · show tr ((tr (evE g a s hh)).bind _) = _
    cases tr (evE g a s hh) with
    | stuck => rfl
    | exc _ _ => rfl
    | ok k h => cases k <;> rfl

/-! ### comparisons -/
theorem pe_cmpE {op : CmpOp} (hu : X.A.units + 66 < cLine) (hm : behindInMarks op e2 = false) (ha : PE X e (tEe X c W g a)) (hb : PE X e2 (tEe X c W g b)) : PE X (.Compare e [op] [e2] pos) (tEe X c W g (.cmp (cmpOf op) a b)) := by
  refine ⟨fun pins s σ H Q I t => wpAny_Compare1 (thn (ha.run pins s σ H _ I (tG.step t)) fun v s1 ⟨x, H1, I1, r1, q1⟩ => thn (hb.run pins s1 σ H1 _ I1 (tH.step (k := fun sg p h => (cmpS (cmpOf op) p.1 p.2 h).bind fun k h3 => (R.ok (D.p (P.bl k)) h3 : R D)) q1)) fun u s2 ⟨y, H2, I2, r2, q2⟩ => ?_) hm⟩
  obtain ⟨ρ, sg, hh, ab, A, o⟩ := q2
  refine cmp_ok (W := W) hu I2 r1 r2 A.o A.a.1 A.a.2 ?_
  dsimp only at o
  cases q : cmpS (cmpOf op) ab.1 ab.2 hh with
  | stuck => rw [q] at o; exact o
  | exc _ _ => rw [q] at o; exact o
  | ok k h3 =>
    rw [q] at o
    exact fun ρ' b' H' l1 e1 k1 R1 r1 => by
      cases r1
      exact o ρ' _ H' l1 e1 k1 R1 (.p (.bl _))
theorem pt_cmpE {op : CmpOp} (hu : X.A.units + 66 < cLine) (hm : behindInMarks op e2 = false) (ha : PE X e (tEe X c W g a)) (hb : PE X e2 (tEe X c W g b)) : PT X (.Compare e [op] [e2] pos) (tTe X c W g (.cmp (cmpOf op) a b)) := by
  refine ⟨fun pins s σ H Q I t => ?_⟩
  have t : tT (tb X c) W (fun sg h => (evE g a sg h).bind fun x h1 => (evE g b sg h1).bind fun y h2 => cmpS (cmpOf op) x y h2) σ H Q := tT_cong (fun s hh => by
    show tr ((evE g a s hh).bind _) = _
    cases evE g a s hh with
    | stuck => rfl
    | exc _ _ => rfl
    | ok x h1 =>
      show tr ((evE g b s h1).bind _) = (evE g b s h1).bind _
      cases evE g b s h1 with
      | stuck => rfl
      | exc _ _ => rfl
      | ok y h2 =>
        show tr ((cmpS (cmpOf op) x y h2).bind _) = cmpS (cmpOf op) x y h2
        cases cmpS (cmpOf op) x y h2 <;> rfl) t
  refine wpAny_isTrue_Compare1 (thn (ha.run pins s σ H _ I (tG.step t)) fun v s1 ⟨x, H1, I1, r1, q1⟩ => thn (hb.run pins s1 σ H1 _ I1 (tH.step (k := fun sg p h => cmpS (cmpOf op) p.1 p.2 h) q1)) fun u s2 ⟨y, H2, I2, r2, q2⟩ => ?_) hm
  obtain ⟨ρ, sg, hh, ab, A, o⟩ := q2
  refine thn (cmp_ok (W := W) (Q := fun z H3 => ∃ k, z = .bl k ∧ Q k H3) hu I2 r1 r2 A.o A.a.1 A.a.2 (Out.mono (fun k H' q => ⟨k, rfl, q⟩) o)) fun z s3 ⟨zz, H3, I3, r3, k, e1, q3⟩ => ?_
  subst e1
  cases r3
  exact wpAny_truthy_bool ⟨H3, I3, q3⟩
/-- a chain of two -/
theorem tr_ok_bl {m : R Bool} : tr (m.bind fun k h => .ok (.p (.bl k)) h) = m := by cases m <;> rfl
theorem bl_out {Q : VK} {n : Nat} {ρ : Nat → Addr} {H : Hp} {σ : L2.St} {m : R Bool} (o : Out (tb X c) RL.d W n ρ H σ Q (m.bind fun k h => .ok (.p (.bl k)) h)) : Out (tb X c) RL.b W n ρ H σ (fun k H' => Q (.bl k) H') m := by
  cases m with
  | stuck => exact o
  | exc _ _ => exact o
  | ok k h3 =>
    exact fun ρ' b' H' l1 e1 k1 R1 r1 => by
      cases r1
      exact o ρ' _ H' l1 e1 k1 R1 (.p (.bl _))
theorem pe_cmp2E {op op' : CmpOp} (hu : X.A.units + 66 < cLine) (hm : lastMarks [op, op'] [e2, e3] = false) (ha : PE X e (tEe X c W g a)) (hb : PE X e2 (tEe X c W g b)) (hd : PE X e3 (tEe X c W g d)) : PE X (.Compare e [op, op'] [e2, e3] pos) (tEe X c W g (.cmp2 (cmpOf op) (cmpOf op') a b d)) := by
  refine ⟨fun pins s σ H Q I t => Compare_chain (thn (ha.run pins s σ H _ I (tG.step t)) fun v s1 ⟨x, H1, I1, r1, q1⟩ => chain_link (thn (hb.run pins s1 σ H1 _ I1 (tH.step (k := fun sg p h => (cmpS (cmpOf op) p.1 p.2 h).bind fun k h3 =>
      if k then (evE g d sg h3).bind fun z h4 => (cmpS (cmpOf op') p.2 z h4).bind fun k h5 => (R.ok (D.p (P.bl k)) h5 : R D) else .ok (.p (.bl false)) h3) q1)) fun u s2 ⟨y, H2, I2, r2, q2⟩ => ?_)) hm⟩
  obtain ⟨ρ, sg, hh, ab, A, o⟩ := q2
  dsimp only at o
  have st : Out (tb X c) RL.b W hh.length ρ H2 σ (fun k H3 => tH (tb X c) W (RL.d.x RL.b) RL.d (fun sg p h3 => if p.2 then (evE g d sg h3).bind fun z h4 => (cmpS (cmpOf op') p.1 z h4).bind fun k h5 => (R.ok (D.p (P.bl k)) h5 : R D) else .ok (.p (.bl false)) h3) (y, k) σ H3 Q) (cmpS (cmpOf op) ab.1 ab.2 hh) := by
    cases q : cmpS (cmpOf op) ab.1 ab.2 hh with
    | stuck => rw [q] at o; exact o
    | exc _ _ => rw [q] at o; exact o
    | ok k h3 =>
      rw [q] at o
      exact fun ρ' k' H' l1 e1 k1 R1 r1 => ⟨ρ', sg, h3, (ab.2, k), ⟨A.s.mono k1 e1 l1, R1, A.a.2.mono k1 e1 l1, r1⟩, Out.later o l1 e1 k1⟩
  refine thn (cmp_ok (W := W) (Q := fun z H3 => ∃ k, z = .bl k ∧ tH (tb X c) W (RL.d.x RL.b) RL.d (fun sg p h3 => if p.2 then (evE g d sg h3).bind fun z h4 => (cmpS (cmpOf op') p.1 z h4).bind fun k h5 => (R.ok (D.p (P.bl k)) h5 : R D) else .ok (.p (.bl false)) h3) (y, k) σ H3 Q) hu I2 r1 r2 A.o A.a.1 A.a.2 (Out.mono (fun k H' q => ⟨k, rfl, q⟩) st)) fun z s3 ⟨zz, H3, I3, r3, k, ek, q3⟩ => ?_
  subst ek
  cases r3
  refine wpAny_truthy_bool ?_
  obtain ⟨ρ3, sg3, h3, yk, A3, o3⟩ := q3
  have ek : yk.2 = k := A3.a.2
  dsimp only at o3
  rw [ek] at o3
  cases k with
  | false => exact ite_ff ⟨.bl false, H3, I3, rfl, o3.ret A3.o (.p (.bl _))⟩
  | true =>
    refine ite_tt (chain_last (thn (hd.run pins s3 σ H3 _ I3 (tH.step (l := RL.d) (x := y) (k := fun sg p h4 => (cmpS (cmpOf op') p.1 p.2 h4).bind fun k h5 => (R.ok (D.p (P.bl k)) h5 : R D)) ⟨ρ3, sg3, h3, yk.1, ⟨A3.s, A3.o, A3.a.1⟩, o3⟩)) fun w' s4 ⟨z', H4, I4, r4, q4⟩ => ?_))
    obtain ⟨ρ4, sg4, h4, yz, A4, o4⟩ := q4
    exact cmp_ok (W := W) hu I4 r2 r4 A4.o A4.a.1 A4.a.2 (bl_out o4)
theorem tr_if {k : Bool} {m m' : R D} : tr (if k then m else m') = if k then tr m else tr m' := by cases k <;> rfl
theorem pt_cmp2E {op op' : CmpOp} (hu : X.A.units + 66 < cLine) (hm : lastMarks [op, op'] [e2, e3] = false) (ha : PE X e (tEe X c W g a)) (hb : PE X e2 (tEe X c W g b)) (hd : PE X e3 (tEe X c W g d)) : PT X (.Compare e [op, op'] [e2, e3] pos) (tTe X c W g (.cmp2 (cmpOf op) (cmpOf op') a b d)) := by
  refine ⟨fun pins s σ H Q I t => ?_⟩
  have t : tT (tb X c) W (fun sg h => (evE g a sg h).bind fun x h1 => (evE g b sg h1).bind fun y h2 => (cmpS (cmpOf op) x y h2).bind fun k h3 => if k then (evE g d sg h3).bind fun z h4 => cmpS (cmpOf op') y z h4 else .ok false h3) σ H Q := tT_cong (fun s hh => by
    show tr ((evE g a s hh).bind _) = _
    cases evE g a s hh with
    | stuck => rfl
    | exc _ _ => rfl
    | ok x h1 =>
      show tr ((evE g b s h1).bind _) = (evE g b s h1).bind _
      cases evE g b s h1 with
      | stuck => rfl
      | exc _ _ => rfl
      | ok y h2 =>
        show tr ((cmpS (cmpOf op) x y h2).bind _) = (cmpS (cmpOf op) x y h2).bind _
        cases cmpS (cmpOf op) x y h2 with
        | stuck => rfl
        | exc _ _ => rfl
        | ok k h3 =>
          cases k with
          | false => rfl
          | true =>
            show tr ((evE g d s h3).bind _) = (evE g d s h3).bind _
            cases evE g d s h3 with
            | stuck => rfl
            | exc _ _ => rfl
            | ok z h4 => exact tr_ok_bl) t
  refine isTrue_chain (thn (ha.run pins s σ H _ I (tG.step t)) fun v s1 ⟨x, H1, I1, r1, q1⟩ => test_link (thn (hb.run pins s1 σ H1 _ I1 (tH.step (k := fun sg p h => (cmpS (cmpOf op) p.1 p.2 h).bind fun k h3 =>
      if k then (evE g d sg h3).bind fun z h4 => cmpS (cmpOf op') p.2 z h4 else .ok false h3) q1)) fun u s2 ⟨y, H2, I2, r2, q2⟩ => ?_)) hm
  obtain ⟨ρ, sg, hh, ab, A, o⟩ := q2
  dsimp only at o
  have st : Out (tb X c) RL.b W hh.length ρ H2 σ (fun k H3 => tH (tb X c) W (RL.d.x RL.b) RL.b (fun sg p h3 => if p.2 then (evE g d sg h3).bind fun z h4 => cmpS (cmpOf op') p.1 z h4 else .ok false h3) (y, k) σ H3 Q) (cmpS (cmpOf op) ab.1 ab.2 hh) := by
    cases q : cmpS (cmpOf op) ab.1 ab.2 hh with
    | stuck => rw [q] at o; exact o
    | exc _ _ => rw [q] at o; exact o
    | ok k h3 =>
      rw [q] at o
      exact fun ρ' k' H' l1 e1 k1 R1 r1 => ⟨ρ', sg, h3, (ab.2, k), ⟨A.s.mono k1 e1 l1, R1, A.a.2.mono k1 e1 l1, r1⟩, Out.later o l1 e1 k1⟩
  refine thn (cmp_ok (W := W) (Q := fun z H3 => ∃ k, z = .bl k ∧ tH (tb X c) W (RL.d.x RL.b) RL.b (fun sg p h3 => if p.2 then (evE g d sg h3).bind fun z h4 => cmpS (cmpOf op') p.1 z h4 else .ok false h3) (y, k) σ H3 Q) hu I2 r1 r2 A.o A.a.1 A.a.2 (Out.mono (fun k H' q => ⟨k, rfl, q⟩) st)) fun z s3 ⟨zz, H3, I3, r3, k, ek, q3⟩ => ?_
  subst ek
  cases r3
  refine wpAny_truthy_bool ?_
  obtain ⟨ρ3, sg3, h3, yk, A3, o3⟩ := q3
  have ek : yk.2 = k := A3.a.2
  dsimp only at o3
  rw [ek] at o3
  cases k with
  | false => exact ite_ff ⟨H3, I3, o3.ret A3.o rfl⟩
  | true =>
    refine ite_tt (test_last (thn (hd.run pins s3 σ H3 _ I3 (tH.step (l := RL.d) (x := y) (k := fun sg p h4 => cmpS (cmpOf op') p.1 p.2 h4) ⟨ρ3, sg3, h3, yk.1, ⟨A3.s, A3.o, A3.a.1⟩, o3⟩)) fun w' s4 ⟨z', H4, I4, r4, q4⟩ => ?_))
    obtain ⟨ρ4, sg4, h4, yz, A4, o4⟩ := q4
    refine thn (cmp_ok (W := W) (Q := fun z H3 => ∃ k, z = .bl k ∧ Q k H3) hu I4 r2 r4 A4.o A4.a.1 A4.a.2 (Out.mono (fun k H' q => ⟨k, rfl, q⟩) o4)) fun d' s5 ⟨z2, H5, I5, r5, k2, e5, q5⟩ => ?_
    subst e5
    cases r5
    exact wpAny_truthy_bool ⟨H5, I5, q5⟩

/-! ### subscripts, slices, attributes -/
theorem pe_subE (hu : X.A.units + 66 < cLine) (hp : plainIx e2 = true) (ha : PE X e (tEe X c W g a)) (hb : PE X e2 (tEe X c W g b)) : PE X (.Subscript e e2 pos) (tEe X c W g (.sub a b)) := by
  refine ⟨fun pins s σ H Q I t => Subscript_ (thn (ha.run pins s σ H _ I (tG.step t)) fun v s1 ⟨x, H1, I1, r1, q1⟩ => thn (hb.run pins s1 σ H1 _ I1 (tH.step (k := fun sg p h => subS p.1 p.2 h) q1)) fun u s2 ⟨y, H2, I2, r2, q2⟩ => ?_)⟩
  obtain ⟨ρ, sg, hh, ab, A, o⟩ := q2
  exact sub_ok hu I2 r1 r2 A.o A.a.1 A.a.2 (plainIx_of hp _ _) o
/-- a slice's bound -/
def RL.o {K : PySem.W.Frag} : RL K (Option Int) (Option Int) := ⟨fun _ _ _ a b => a = b, fun _ _ _ r => r⟩
theorem po_noneE : PO X none (tG (tb X c) W RL.o (evO g .none)) := by
  refine ⟨fun pins s σ H Q I t => po_none.run pins s σ H Q I ?_⟩
  obtain ⟨ρ, sg, hh, _, A, o⟩ := t
  exact o.ret A.o rfl
theorem po_someE (ha : PE X e (tEe X c W g a)) : PO X (some e) (tG (tb X c) W RL.o (evO g (.some a))) := by
  refine ⟨fun pins s σ H Q I t => (po_some ha).run pins s σ H Q I ?_⟩
  refine tG_mono (fun x H1 q => ?_) (tG.step (m := RL.d) (ev := evE g a) (k := fun sg x h1 => match x with
    | .p (.int i) => .ok (some i) h1
    | _ => .stuck) t)
  obtain ⟨ρ, sg, hh, d, A, o⟩ := q
  have ra : RelD X.K H1 hh.length ρ d x := A.a
  dsimp only at o
  split at o
  · cases ra with | p ra => cases ra with | int i => exact ⟨_, rfl, o.ret A.o rfl⟩
  · exact o.elim
theorem pe_slcE {lo hi : Option Expr} {l u : IEo} {p2 : Pos} (ha : PE X e (tEe X c W g a)) (hl : PO X lo (tG (tb X c) W RL.o (evO g l))) (hu : PO X hi (tG (tb X c) W RL.o (evO g u))) : PE X (.Subscript e (.Slice lo hi none p2) pos) (tEe X c W g (.slc a l u)) := by
  refine ⟨fun pins s σ H Q I t => (pe_slice sl_d ha hl hu).run pins s σ H Q I ?_⟩
  refine tG_mono (fun x H1 q => ?_) (tG.step (m := RL.d) (k := fun sg x h1 => (evO g l sg h1).bind fun l h2 => (evO g u sg h2).bind fun u h3 => slcS x l u h3) t)
  refine tG_mono (fun x H1 q => ?_) (tH.step (m := RL.o) (k := fun sg p h2 => (evO g u sg h2).bind fun u h3 => slcS p.1 p.2 u h3) q)
  refine tG_mono (fun x H1 q => ?_) (tH.step (m := RL.o) (k := fun sg (p : (D × Option Int) × Option Int) h2 => slcS p.1.1 p.1.2 p.2 h2) q)
  obtain ⟨ρ, sg, hh, d, A, o⟩ := q
  have e1 := A.a.1.2
  have e2 := A.a.2
  dsimp only at e1 e2
  rw [← show d.1.2 = _ from e1, ← show d.2 = _ from e2]
  exact slc_at A.o A.a.1.1 o
theorem pe_attrE {f : Nat} {z : Str} (ok : CtOk X.K c) (hz : c.fld f = some z) (hs : isSuper e = false) (ha : PE X e (tEe X c W g a)) : PE X (.Attribute e z pos) (tEe X c W g (.attr a f)) := by
  refine ⟨fun pins s σ H Q I t => (pe_fld ha (base_of hs)).run pins s σ H Q I ?_⟩
  refine tG_mono (fun x H1 q => ?_) (tG.step (m := RL.d) (k := fun sg x h1 => attrS x f h1) t)
  obtain ⟨ρ, sg, hh, d, A, o⟩ := q
  exact attr_at ok hz A.o A.a o

/-! ### calls -/
def noStars (es : List Expr) : Prop := ∀ e ∈ es, noStar e = true
theorem pe_bltE {es : List Expr} {as : IEs} {bl : Blt} {nm : Str} {f : Value} {p : Pos} (hc : X.calm = true) (bare : Bare X.A) (hu : X.A.units + 66 < cLine) (hb : bltId bl = some (nm, f)) (hg : Gl X nm) (hm : X.mg nm = none) (ns : noStars (e :: es)) (ha : PA X (e :: es) (tAe X c W g as)) :
    PE X (.Call (.Name nm p) (e :: es) [] pos) (tEe X c W g (.blt bl as)) := by
  have cr : ∀ (σ : L2.St) (H : Hp) (Q : VK), tEe X c W g (.blt bl as) σ H Q → tAe X c W g as σ H (fun vs H1 => tH (tb X c) W RL.ds RL.d (fun sg ds h => bltS bl ds h) vs σ H1 Q) := fun σ H Q t => tG.step (k := fun sg ds h => bltS bl ds h) t
  have he := star_of (es := es) (env := X.env) (ns e List.mem_cons_self)
  have hpl := back_any (pos := pos) (stars_all (env := X.env) (es := es) fun x hx => ns x (List.mem_cons_of_mem _ hx)).2.1
  refine ⟨fun pins s σ H Q I t => wpAny_Call_Name_kw ?_⟩
  have fin : wpAny (model X.prog X.w) X.A (spliced (backTo pos (starEach (e :: es) X.env))) (fun us s1 => wpAny (model X.prog X.w) X.A (call f us) (EP X pins σ Q) X.xe s1) X.xe s :=
    thn (ha.run pos pins s σ H _ I (cr σ H Q t)) fun us s1 ⟨vs, H1, I1, r1, q1⟩ => by
      obtain ⟨ρ, sg, hh, ds, A, o⟩ := q1
      exact blt_ok hc bare hu hb I1 r1 A.o A.a o
  cases bl <;> first
    | (cases hb; refine ld_blt I hg hm (by rfl) (PyProof.Rows.callWith_builtin1 fin he hpl) (by decide) (by decide))
    | (cases hb; refine ld_blt I hg hm (by rfl) (PyProof.Rows.callWith_type1 fin he hpl) (by decide) (by decide))
    | cases hb

/-! ### defs, classes, methods -/
theorem RelD.r_inv {K : PySem.W.Frag} {H : Hp} {n i : Nat} {ρ : Nat → Addr} {v : V} (r : RelD K H n ρ (.r i) v) : v = .ref (ρ i) := by cases r; rfl
theorem Out.cb {W' : WX} {n : Nat} {ρ : Nat → Addr} {H : Hp} {σ σ' : L2.St} {Q : VK} {r : R D} (h : ∀ cls d H', W cls d σ H' → W' cls d σ' H') (o : Out (tb X c) RL.d W n ρ H σ Q r) : Out (tb X c) RL.d W' n ρ H σ' Q r := by
  cases r with
  | stuck => exact o
  | ok a h' => exact o
  | exc x h' => exact fun ρ' cc d H' l1 e1 k1 R1 r1 => h _ _ _ (o ρ' cc d H' l1 e1 k1 R1 r1)
/-- a def that is there -/
structure FnAt (X : Cx) (c : Ct) (k : Nat) (a : Addr) (ev : List D → Hh → R D) : Prop where
  keep : PySem.W.keepIn X.K (.ref a) = true
  go : ∃ (fd : FuncData) (np : List Str), (∀ ds h, ds.length ≠ np.length → ev ds h = .stuck) ∧ Binds X.K fd np [] ∧ FnG X.prog X.w X.K X.mg X.base (L2.CX X.prog X.w) k a fd np (spG (tb X c) np.length ev)
theorem FnAt.run {k : Nat} {fa : Addr} {ev : List D → Hh → R D} (F : FnAt X c k fa ev) (room : Room k X.A) (bare : Bare X.A) (tk : Takes X W) {pins : List (Addr × Obj)} {s : Shared} {σ : L2.St} {H : Hp} {Q : VK} {us : List Value} {vs : List V} {ρ : Nat → Addr} {h : Hh} {ds : List D}
    (I : Inv X pins σ H s) (r : Vals vs us) (R : RelH (tb X c) ρ h H) (rd : RelDs X.K H h.length ρ ds vs) (o : Out (tb X c) RL.d W h.length ρ H σ Q (ev ds h)) :
    wpAny (model X.prog X.w) X.A (call (.ref fa) us) (EP X pins σ Q) X.xe s := by
  obtain ⟨fd, np, len, bind, G⟩ := F.go
  refine FnG.run (E := fun cls d H => W cls d σ H) G room bare bind (fun pins H s e s' I q => tk e s' (XE.of_call I (fun _ _ _ z => z) q)) I r ⟨?_, ρ, h, ds, R, rd, Out.cb (fun _ _ _ z => z) o⟩
  rw [← RelDs.length rd]
  by_cases q : ds.length = np.length
  · exact q
  · rw [len ds h q] at o
    exact o.elim
theorem FnAt.make {k ci : Nat} {fa C : Addr} {ev : List D → Hh → R D} (hC : c.cls ci = some C) (M : Mk X.K C fa) (F : FnAt X c k fa ev) (room : Room (k + 1) X.A) (bare : Bare X.A) (tk : Takes X W) {pins : List (Addr × Obj)} {s : Shared} {σ : L2.St} {H : Hp} {Q : VK} {us : List Value} {vs : List V} {ρ : Nat → Addr} {h : Hh} {ds : List D}
    (I : Inv X pins σ H s) (r : Vals vs us) (R0 : RelH (tb X c) ρ h H) (rd : RelDs X.K H h.length ρ ds vs)
    (o : Out (tb X c) RL.d W h.length ρ H σ Q (match ev (.r h.length :: ds) (h ++ [.ins ci []]) with
      | .ok (.p .non) h1 => .ok (.r h.length) h1
      | .exc x h1 => .exc x h1
      | _ => .stuck)) :
    wpAny (model X.prog X.w) X.A (call (.ref C) us) (EP X pins σ Q) X.xe s := by
  obtain ⟨fd, np, len, bind, G⟩ := F.go
  refine FnG.make (E := fun cls d H => W cls d σ H) M G room bare bind (fun pins H s e s' I q => tk e s' (XE.of_call I (fun _ _ _ z => z) q)) I r fun x dx hx hdx ne => ?_
  have R1 : RelH (tb X c) ρ h (upd H dx (.own x)) := R0.pad hdx
  have k1 : Keep X.K H (upd H dx (.own x)) := keep_new hdx
  have hx1 : upd H dx (.own x) x = none := by rw [upd_ne (Ne.symm ne)]; exact hx
  obtain ⟨ρ', e0, e1, R2⟩ := R1.new (o := .ins ci []) (u := .ins C dx []) hx1 (fun ρ' e0 e1 => ⟨C, dx, [], hC, upd_same, .nil, rfl⟩)
  have k2 : Keep X.K H (upd (upd H dx (.own x)) x (.ins C dx [])) := k1.trans (keep_new hx1)
  have hl : (h ++ [O.ins ci []]).length = h.length + 1 := by simp
  have rs : RelDs X.K (upd (upd H dx (.own x)) x (.ins C dx [])) (h ++ [O.ins ci []]).length ρ' (.r h.length :: ds) (.ref x :: vs) := by
    refine .cons ?_ (rd.mono k2 e1 (by omega))
    have q : RelD X.K (upd (upd H dx (.own x)) x (.ins C dx [])) (h ++ [O.ins ci []]).length ρ' (.r h.length) (.ref (ρ' h.length)) := .r (by omega)
    rw [e0] at q
    exact q
  have hn : (V.ref x :: vs).length = np.length := by
    by_cases q : (D.r h.length :: ds).length = np.length
    · rw [← q, List.length_cons, List.length_cons, RelDs.length rd]
    · rw [len _ _ q] at o
      exact o.elim
  refine ⟨hn, ρ', h ++ [O.ins ci []], .r h.length :: ds, R2, rs, ?_⟩
  cases q : ev (.r h.length :: ds) (h ++ [.ins ci []]) with
  | stuck => rw [q] at o; exact o.elim
  | exc ex h1 =>
    rw [q] at o
    exact fun ρ2 cc d H' l1 e2 k3 R3 r3 => o ρ2 cc d H' (by omega) (e1.trans e2 (by omega)) (k2.trans k3) R3 r3
  | ok d h1 =>
    rw [q] at o
    dsimp only at o
    split at o
    · rename_i h2 e
      injection e with ed eh
      subst ed eh
      intro ρ2 v H' l1 e2 k3 R3 r3
      cases r3 with | p r3 => cases r3 with | non =>
      refine ⟨rfl, o ρ2 (.ref x) H' (by omega) (e1.trans e2 (by omega)) (k2.trans k3) R3 ?_⟩
      have q : RelD X.K H' h1.length ρ2 (.r h.length) (.ref (ρ2 h.length)) := .r (by omega)
      rw [e2 h.length (by omega), e0] at q
      exact q
    · rename_i e; cases e
    · exact o.elim
theorem okName_db {x : Str} (ok : okName x = true) : (x == ("__debug__" : Str)) = false := by
  unfold okName at ok
  rw [decide_eq_true_eq] at ok
  rw [beq_eq_false_iff_ne]
  exact ok.1
theorem call_args {es : List Expr} {as : IEs} {p : Pos} {x : Str} {f : Value} {pins : List (Addr × Obj)} {s : Shared} {σ : L2.St} {H : Hp} {Q : VK} {Q1 : List V → Hp → Prop} (hg : Gl X x) (hm : X.mg x = some f) (ok : okName x = true) (hk : PySem.W.keepIn X.K f = true) (ns : noStars es) (hn : es = [] → as = .nil) (ha : PA X es (tAe X c W g as))
    (I : Inv X pins σ H s) (t : tAe X c W g as σ H Q1) (go : ∀ us s1 vs H1, Inv X pins σ H1 s1 → Vals vs us → Q1 vs H1 → wpAny (model X.prog X.w) X.A (call f us) (EP X pins σ Q) X.xe s1) :
    wpAny (model X.prog X.w) X.A (eval (.Call (.Name x p) es [] pos) X.env) (EP X pins σ Q) X.xe s := by
  refine wpAny_Call_Name_kw (ld_glob I hg hm ?_ (okName_db ok))
  have run := ha.run pos pins s σ H _ I t
  cases es with
  | nil =>
    refine PySem.W.callWith_K0 I.kIn hk ?_
    refine go [] s [] H I .nil ?_
    have e := hn rfl
    subst e
    obtain ⟨ρ, sg, hh, _, A, o⟩ := t
    exact o.ret A.o .nil
  | cons e es =>
    have he := star_of (es := es) (env := X.env) (ns e List.mem_cons_self)
    have hpl := back_any (pos := pos) (stars_all (env := X.env) (es := es) fun x hx => ns x (List.mem_cons_of_mem _ hx)).2.1
    exact PySem.W.callWith_K (h₀ := X.base) I.ok.mod.kin hk (thn run fun us s1 ⟨vs, H1, I1, r, q⟩ => ⟨I1.kIn, go us s1 vs H1 I1 r q⟩) he hpl
theorem pe_callE {k f : Nat} {fa : Addr} {es : List Expr} {as : IEs} {p : Pos} {x : Str} (room : Room k X.A) (bare : Bare X.A) (tk : Takes X W) (F : FnAt X c k fa (g.call f)) (hg : Gl X x) (hm : X.mg x = some (.ref fa)) (ok : okName x = true) (ns : noStars es) (hn : es = [] → as = .nil) (ha : PA X es (tAe X c W g as)) :
    PE X (.Call (.Name x p) es [] pos) (tEe X c W g (.call f as)) := by
  refine ⟨fun pins s σ H Q I t => call_args hg hm ok F.keep ns hn ha I (tG.step (m := RL.ds) (k := fun sg ds h1 => g.call f ds h1) t) fun us s1 vs H1 I1 r q => ?_⟩
  obtain ⟨ρ, sg, hh, ds, A, o⟩ := q
  exact F.run room bare tk I1 r A.o A.a o
theorem pe_makeE {k ci fi : Nat} {fa C : Addr} {es : List Expr} {as : IEs} {p : Pos} {x : Str} (room : Room (k + 1) X.A) (bare : Bare X.A) (tk : Takes X W) (hi : g.cinit ci = some fi) (hC : c.cls ci = some C) (M : Mk X.K C fa) (F : FnAt X c k fa (g.init fi)) (hg : Gl X x) (hm : X.mg x = some (.ref C)) (ok : okName x = true) (ns : noStars es) (hn : es = [] → as = .nil) (ha : PA X es (tAe X c W g as)) :
    PE X (.Call (.Name x p) es [] pos) (tEe X c W g (.make ci as)) := by
  refine ⟨fun pins s σ H Q I t => call_args hg hm ok M.kp ns hn ha I (tG.step (m := RL.ds) (k := fun sg ds h1 => mkIns g ci ds h1) t) fun us s1 vs H1 I1 r q => ?_⟩
  obtain ⟨ρ, sg, hh, ds, A, o⟩ := q
  dsimp only [mkIns] at o
  rw [hi] at o
  exact F.make hC M room bare tk I1 r A.o A.a o
/-- what a class's methods are -/
def MethOk (X : Cx) (c : Ct) (g : G) (k : Nat) (mi : Nat) (z : Str) : Prop := ∀ ci f C, g.meth ci mi = some f → c.cls ci = some C → c.fok ci mi = false ∧ ∃ fa, Meth X.K C z fa ∧ FnAt X c k fa (g.call f)
theorem relFs_none {T : Tb} {H : Hp} {n : Nat} {ρ : Nat → Addr} (inj : ∀ f g x, T.fld f = some x → T.fld g = some x → f = g) {f : Nat} {z : Str} (hz : T.fld f = some z) (q : Nat → Bool) (hq : q f = false) : ∀ {fs : List (Nat × D)} {fv : List (Str × V)}, RelFs T H n ρ fs fv → (fs.all fun p => q p.1) = true → fv.lookup z = none
  | _, _, .nil, _ => rfl
  | _, _, .cons (i := i) (x := x) h1 h2 hs, e => by
    simp only [List.all_cons, Bool.and_eq_true] at e
    have : (z == x) = false := by
      rw [beq_eq_false_iff_ne]
      rintro rfl
      rw [inj _ _ _ h1 hz, hq] at e
      cases e.1
    rw [List.lookup, this]
    exact relFs_none inj hz q hq hs e.2
theorem form_ok {es : List Expr} (ns : noStars es) (hl : es.length < 29) : methodCallForm (es.length + ([] : List Keyword).length) (backTo pos (starEach es X.env)) (backToKw pos (keywordEach [] X.env)) = true := by
  unfold methodCallForm
  have h1 := back_all (pos := pos) (stars_all (env := X.env) ns).1
  have h2 : (backToKw pos (keywordEach [] X.env)) = [] := rfl
  rw [h1, h2]
  have : es.length < 30 := by omega
  simp [this]
theorem pe_methE {k mi : Nat} {z : Str} {bm : BM} {es : List Expr} {as : IEs} {ap : Pos} (room : Room k X.A) (bare : Bare X.A) (tk : Takes X W) (ok : CtOk X.K c) (hz : mi = 1000 ∧ (∀ ci, g.meth ci mi = none) ∨ c.fld mi = some z) (hb : bm = bmOf z) (mo : MethOk X c g k mi z)
    (hs : isSuper e = false) (hline : (ap.endLine == pos.line) = true) (hl : es.length < 29) (ns : noStars es) (hn : es = [] → as = .nil) (hn2 : es ≠ [] → ∃ b bs, as = .cons b bs) (he : PE X e (tEe X c W g a)) (ha : PA X es (tAe X c W g as)) :
    PE X (.Call (.Attribute e z ap) es [] pos) (tEe X c W g (.meth a mi bm as)) := by
  refine ⟨fun pins s σ H Q I t => ?_⟩
  rw [arm_eval_Call, base_of hs]
  refine wpAny_bind (thn (he.run pins s σ H _ I (tG.step (m := RL.d) t)) fun v s1 ⟨x, H1, I1, r1, q1⟩ => ?_)
  refine wpAny_bind (wpAny_standAt ?_)
  have hpos : methodCallPos true e X.env ap pos = pure pos := by unfold methodCallPos; simp [hline]
  unfold methodCall
  rw [form_ok ns hl]
  obtain ⟨ρ, sg, hh, d, A, o⟩ := q1
  have ra : RelD X.K H1 hh.length ρ d x := A.a
  dsimp only at o
  cases q : methK g mi bm d hh with
  | no => rw [q] at o; exact o.elim
  | fn f =>
    rw [q] at o
    dsimp only at o
    unfold methK at q
    split at q
    · rename_i i
      split at q
      · rename_i ci fs gi
        split at q
        · rename_i f' em
          cases q
          rcases hz with ⟨_, hz⟩ | hz
          · rw [hz ci] at em; cases em
          · cases ra with | r hi =>
            obtain ⟨C, dx, fv, e0, e1, rf, al⟩ := A.o.obj i _ gi
            obtain ⟨fk, fa, me, F⟩ := mo ci _ C em e0
            have ln : fv.lookup z = none := relFs_none (T := tb X c) ok.inj hz (c.fok ci) fk rf al
            cases r1
            refine wpAny_bind (wpAny_holding (getmeth_ok I1 e1 (ok.cls _ _ e0) me ln ?_))
            refine wpAny_bind (wpAny_of_eq hpos ?_)
            have t2 : tAe X c W g as σ H1 (fun vs H2 => tH (tb X c) W (RL.d.x RL.ds) RL.d (fun sg (p : D × List D) h => g.call f (p.1 :: p.2) h) (V.ref (ρ i), vs) σ H2 Q) :=
              tH.step (l := RL.d) (x := V.ref (ρ i)) (k := fun sg (p : D × List D) h => g.call f (p.1 :: p.2) h) ⟨ρ, sg, hh, _, A, o⟩
            have run := ha.run pos pins s1 σ H1 _ I1 t2
            cases es with
            | nil =>
              refine PySem.W.callWith_K0 (first := [.ref (ρ i)]) I1.kIn me.kp ?_
              have e := hn rfl
              subst e
              obtain ⟨ρ2, sg2, h2, _, A2, o2⟩ := t2
              have z := o2.ret A2.o .nil
              obtain ⟨ρ3, sg3, h3, dd, A3, o3⟩ := z
              exact F.run room bare tk (us := [.ref (ρ i)]) (vs := [.ref (ρ i)]) I1 (.cons rfl .nil) A3.o (.cons A3.a.1 A3.a.2) o3
            | cons e0 es =>
              have he := star_of (es := es) (env := X.env) (ns e0 List.mem_cons_self)
              have hpl := back_any (pos := pos) (stars_all (env := X.env) (es := es) fun x hx => ns x (List.mem_cons_of_mem _ hx)).2.1
              refine PySem.W.callWith_K (first := [.ref (ρ i)]) (h₀ := X.base) I.ok.mod.kin me.kp (thn run fun us s2 ⟨vs, H2, I2, r, q2⟩ => ⟨I2.kIn, ?_⟩) he hpl
              obtain ⟨ρ3, sg3, h3, dd, A3, o3⟩ := q2
              exact F.run room bare tk (us := .ref (ρ i) :: us) (vs := .ref (ρ i) :: vs) I2 (.cons rfl r) A3.o (.cons A3.a.1 A3.a.2) o3
        · cases q
      · split at q <;> cases q
      · cases q
    · cases q
  | bm k =>
    rw [q] at o
    dsimp only at o
    unfold methK at q
    split at q
    · rename_i i
      split at q
      · split at q <;> cases q
      · rename_i ob _ gi
        split at q
        · rename_i k' ek
          cases q
          cases ra with | r hi =>
          cases r1
          refine wpAny_bind (wpAny_holding (bm_get I1 A.o gi ek hb.symm ?_))
          refine wpAny_bind (wpAny_of_eq hpos ?_)
          have t2 : tAe X c W g as σ H1 (fun vs H2 => tH (tb X c) W (RL.d.x RL.ds) RL.d (fun sg (p : D × List D) h => bmS k p.1 p.2 h) (V.ref (ρ i), vs) σ H2 Q) :=
            tH.step (l := RL.d) (x := V.ref (ρ i)) (k := fun sg (p : D × List D) h => bmS k p.1 p.2 h) ⟨ρ, sg, hh, _, A, o⟩
          have fin : ∀ (us : List Value) (vs : List V) (s2 : Shared) (H2 : Hp), Inv X pins σ H2 s2 → Vals vs us → tH (tb X c) W (RL.d.x RL.ds) RL.d (fun sg (p : D × List D) h => bmS k p.1 p.2 h) (V.ref (ρ i), vs) σ H2 Q →
              wpAny (model X.prog X.w) X.A (call (.builtin (bkId k)) (.ref (ρ i) :: us)) (EP X pins σ Q) X.xe s2 := fun us vs s2 H2 I2 r q2 => by
            obtain ⟨ρ3, sg3, h3, dd, A3, o3⟩ := q2
            exact bm_ok (W := W) (by have := room.un; omega) I2 (x := .ref (ρ i)) rfl r A3.o A3.a.1 A3.a.2 o3
          cases es with
          | nil =>
            have e := hn rfl
            subst e
            obtain ⟨ρ2, sg2, h2, _, A2, o2⟩ := t2
            refine Calls.callWith_builtin rfl (L2.FK.evalArgs_any rfl (Calls.spliced_nil ?_))
            exact fin [] [] s1 H1 I1 .nil (o2.ret A2.o .nil)
          | cons e0 es =>
            have run := ha.run pos pins s1 σ H1 _ I1 t2
            have he := star_of (es := es) (env := X.env) (ns e0 List.mem_cons_self)
            have hpl := back_any (pos := pos) (stars_all (env := X.env) (es := es) fun x hx => ns x (List.mem_cons_of_mem _ hx)).2.1
            rw [he] at run ⊢
            refine Calls.callWith_builtin (by show (false || (backTo pos (starEach es X.env)).any (·.1)) = false; rw [hpl] <;> rfl) (Calls.evalArgs_plain ?_)
            exact thn run fun us s2 ⟨vs, H2, I2, r, q2⟩ => fin us vs s2 H2 I2 r q2
        · cases q
      · cases q
    · cases q

/-! ### stars, displays of dicts, isinstance and so on -/
theorem pa_starE {es : List Expr} {as : IEs} {p : Pos} (ha : PE X e (tEe X c W g a)) (hr : PA X es (tAe X c W g as)) : PA X (.Starred e p :: es) (tAe X c W g (.star a as)) := by
  refine ⟨fun pos pins s σ H Q I t => (StX.pa_star ha hr).run pos pins s σ H Q I ?_⟩
  have t : tA (tb X c) W (fun sg h => (evE g a sg h).bind fun x h1 => match seqOf h1 x with
    | some ys => (evEs g as sg h1).bind fun xs h2 => .ok (ys ++ xs) h2
    | none => .stuck) σ H Q := t
  refine tG_mono (fun x H1 q => ?_) (tG.step (m := RL.d) (k := fun sg x h1 => match seqOf h1 x with
    | some ys => (evEs g as sg h1).bind fun xs h2 => .ok (ys ++ xs) h2
    | none => .stuck) t)
  obtain ⟨ρ, sg, hh, d, A, o⟩ := q
  dsimp only at o
  cases q : seqOf hh d with
  | none => rw [q] at o; exact o.elim
  | some ys =>
    rw [q] at o
    obtain ⟨p, vs, k, rfl, sq, rd⟩ := seq_at A.o A.a q
    refine ⟨p, vs, rfl, ?_, ?_⟩
    · cases k with
      | true => exact .inr sq
      | false => exact .inl sq
    · refine tG_mono (fun zs H2 q2 => ?_) (tH.step (l := RL.ds) (m := RL.ds) (x := vs) (k := fun sg (p : List D × List D) h => .ok (p.1 ++ p.2) h) ⟨ρ, sg, hh, ys, ⟨A.s, A.o, rd⟩, o⟩)
      obtain ⟨ρ3, sg3, h3, dd, A3, o3⟩ := q2
      exact o3.ret A3.o (RelDs.append A3.a.1 A3.a.2)
def flatE : List (IE × IE) → IEs
  | [] => .nil
  | (k, v) :: r => .cons k (.cons v (flatE r))
def flatV : List (V × V) → List V
  | [] => []
  | (k, v) :: r => k :: v :: flatV r
theorem tPairs_mono {σ : L2.St} {Q Q' : List (V × V) → Hp → Prop} (f : ∀ ps H, Q ps H → Q' ps H) : ∀ (L : List (IE × IE)) {H : Hp}, tPairs (L.map fun p => (tEe X c W g p.1, tEe X c W g p.2)) σ H Q → tPairs (L.map fun p => (tEe X c W g p.1, tEe X c W g p.2)) σ H Q'
  | [], _, t => f _ _ t
  | p :: r, _, t => tG_mono (fun y H1 q => tG_mono (fun z H2 q => tPairs_mono (fun ps H => f _ H) r q) q) t
theorem pairs_t {α β γ δ : Type} {l : RL X.K α β} {m' : RL X.K γ δ} {σ : L2.St} {Q : δ → Hp → Prop} : ∀ (L : List (IE × IE)) {k : Sg → α × List D → Hh → R γ} {x : β} {H : Hp}, tH (tb X c) W l m' (fun sg a h => (evEs g (flatE L) sg h).bind fun ds h1 => k sg (a, ds) h1) x σ H Q →
    tPairs (L.map fun p => (tEe X c W g p.1, tEe X c W g p.2)) σ H fun ps H1 => tH (tb X c) W (l.x RL.ds) m' k (x, Pv.flatV ps) σ H1 Q
  | [], k, x, H, t => by
    obtain ⟨ρ, sg, h, a, A, o⟩ := t
    exact ⟨ρ, sg, h, (a, []), ⟨A.s, A.o, A.a, .nil⟩, o⟩
  | (ke, ve) :: r, k, x, H, t => by
    have t : tH (tb X c) W l m' (fun sg a h => (evE g ke sg h).bind fun y h1 => (evE g ve sg h1).bind fun z h2 => (evEs g (flatE r) sg h2).bind fun ds h3 => k sg (a, y :: z :: ds) h3) x σ H Q := by
      obtain ⟨ρ, sg, h, a, A, o⟩ := t
      refine ⟨ρ, sg, h, a, A, ?_⟩
      have o : Out (tb X c) m' W h.length ρ H σ Q (((evE g ke sg h).bind fun y h1 => ((evE g ve sg h1).bind fun z h2 => (evEs g (flatE r) sg h2).bind fun ds h3 => (R.ok (z :: ds) h3 : R (List D))).bind fun ds h3 => (R.ok (y :: ds) h3 : R (List D))).bind fun ds h1 => k sg (a, ds) h1) := o
      rw [R.bind_assoc] at o
      have e : ∀ y h1, ((((evE g ve sg h1).bind fun z h2 => (evEs g (flatE r) sg h2).bind fun ds h3 => (R.ok (z :: ds) h3 : R (List D))).bind fun ds h3 => (R.ok (y :: ds) h3 : R (List D))).bind fun ds h1 => k sg (a, ds) h1) = (evE g ve sg h1).bind fun z h2 => (evEs g (flatE r) sg h2).bind fun ds h3 => k sg (a, y :: z :: ds) h3 := fun y h1 => by
        rw [R.bind_assoc, R.bind_assoc]
        congr 1
        funext z h2
        first | rfl | (rw [R.bind_assoc]; rfl) | (rw [R.bind_assoc, R.bind_assoc]; rfl)
      simp only [e] at o
      exact o
    refine tG_mono (fun y H1 q => ?_) (tH.step (m := RL.d) (k := fun sg (p : α × D) h1 => (evE g ve sg h1).bind fun z h2 => (evEs g (flatE r) sg h2).bind fun ds h3 => k sg (p.1, p.2 :: z :: ds) h3) t)
    refine tG_mono (fun z H2 q => ?_) (tH.step (m := RL.d) (k := fun sg (p : (α × D) × D) h2 => (evEs g (flatE r) sg h2).bind fun ds h3 => k sg (p.1.1, p.1.2 :: p.2 :: ds) h3) q)
    have z' := pairs_t r (k := fun sg (p : ((α × D) × D) × List D) h3 => k sg (p.1.1.1, p.1.1.2 :: p.1.2 :: p.2) h3) q
    refine tPairs_mono (fun ps H3 q => ?_) _ z'
    obtain ⟨ρ, sg, h, a, A, o⟩ := q
    exact ⟨ρ, sg, h, (a.1.1.1, a.1.1.2 :: a.1.2 :: a.2), ⟨A.s, A.o, A.a.1.1.1, .cons A.a.1.1.2 (.cons A.a.1.2 A.a.2)⟩, o⟩
end
end Pv

/-! I2: displays of dicts, isinstance, lists turned, ranges as lists; what stands still. -/
namespace Pv
open PySem L2 PySem.Spec PyProof.Rows

section
variable {X : Cx} {c : Ct} {W : WX} {g : G} {e e2 e3 : Expr} {a b d : IE} {pos : Pos}
theorem prel_pairs {H : Hp} {n : Nat} {ρ : Nat → Addr} : ∀ {ps : List (V × V)} {ws : List (Value × Value)} {ds : List D} {kvs : Kvs}, VV ps ws → RelDs X.K H n ρ ds (flatV ps) → pairUp ds = some kvs → PRel X.K H n ρ kvs ws
  | [], _, ds, kvs, .nil, r, e => by cases r; cases e; exact .nil
  | (k, v) :: ps, _, ds, kvs, .cons q qs, r, e => by
    cases r with | cons rk r => cases r with | cons rv r =>
    unfold pairUp at e
    split at e
    · rename_i e'; cases e'
    · rename_i e'
      cases e'
      rw [Option.map_eq_some_iff] at e
      obtain ⟨kvs', e, rfl⟩ := e
      cases rk with | p rk =>
      exact .cons ⟨_, _, rk, q.1, rv, q.2⟩ (prel_pairs qs r e)
    · cases e
theorem prel_carries {H : Hp} {n : Nat} {ρ : Nat → Addr} : ∀ {kvs : Kvs} {ws : List (Value × Value)}, PRel X.K H n ρ kvs ws → lfs kvs = true → ∃ vs, RV X.K H n ρ kvs vs ∧ Carries (lfKind X.prog X.w) ws vs
  | _, _, .nil, _ => ⟨[], .nil, True.intro⟩
  | _, _, .cons ⟨kv', v, r1, r2, r3, r4⟩ t, l => by
    simp only [lfs, List.all_cons, Bool.and_eq_true] at l
    obtain ⟨vs, h1, h2⟩ := prel_carries t l.2
    exact ⟨(_, _) :: vs, .cons ⟨l.1, rfl, v, r3, r4⟩ h1, lf_of l.1 r1 r2, rfl, h2⟩
/-- the new dict, ahead of its pairs -/
theorem dct_start {pins : List (Addr × Obj)} {s : Shared} {σ : L2.St} {H : Hp} {α δ : Type} {m : RL X.K α δ} {Q : δ → Hp → Prop} {k : Sg → D → Hh → R α} (I : Inv X pins σ H s) (t : tG (tb X c) W m (fun sg h => k sg (.r h.length) (h ++ [.dct []])) σ H Q) :
    ∃ H', Inv X pins σ H' { s with heap := s.heap.push { cls := .type "dict", data := .dict #[] } } ∧ tH (tb X c) W RL.d m k (.ref s.heap.objs.size) σ H' Q := by
  obtain ⟨ρ, sg, h, u, A, o⟩ := t
  have hp : H s.heap.objs.size = none := I.hok.fresh (Nat.le_refl _)
  have e0 : (s.heap.objs.size == sysModules) = false := beq_eq_false_iff_ne.mpr (Nat.ne_of_gt I.big)
  obtain ⟨ρ', q0, q1, R'⟩ := A.o.new (o := .dct []) (u := dlO X.prog X.w s.heap.objs.size []) hp (fun ρ' e1 e2 => ⟨e0, Nat.zero_le _, .inl ⟨[], upd_same, .nil⟩⟩)
  refine ⟨_, I.laid (t' := s.toks) (fun b u e => Heap.get?_push_of_some _ e) (Nat.le_refl _) (dl_ok (vs := []) .nil (Heap.DictOf.new s.heap)), ρ', sg, h ++ [.dct []], .r h.length, ⟨A.s.mono (keep_new hp) q1 (by simp), R', ?_⟩, Out.later o (by simp) q1 (keep_new hp)⟩
  have q : RelD X.K (upd H s.heap.objs.size (dlO X.prog X.w s.heap.objs.size [])) (h ++ [O.dct []]).length ρ' (.r h.length) (.ref (ρ' h.length)) := .r (by simp)
  rw [q0] at q
  exact q
/-- its end -/
def dctEnd (a : D) (ds : List D) (h1 : Hh) : R D := match a with
  | .r n => match pairUp ds with
    | some kvs => if h1[n]? = some (.dct []) ∧ lfs kvs = true ∧ kvs.length ≤ 15 then .ok (.r n) (h1.set n (.dct (mergeD [] kvs))) else .stuck
    | none => .stuck
  | _ => .stuck
theorem pe_dctE {keys : List (Option Expr)} {values : List Expr} (L : List (IE × IE)) (hP : PPs X pos keys values (L.map fun p => (tEe X c W g p.1, tEe X c W g p.2))) (hall : keys.all (·.isSome) = true) (hl : keys.length = values.length) (h15 : keys.length ≤ 15)
    (hn : keys = [] → L = [] ∧ values = []) : PE X (.Dict keys values pos) (tEe X c W g (.dct (flatE L))) := by
  refine ⟨fun pins s σ H Q I t => ?_⟩
  have t : tG (tb X c) W RL.d (fun sg h => (evEs g (flatE L) sg (h ++ [.dct []])).bind fun ds h1 => dctEnd (.r h.length) ds h1) σ H Q := t
  obtain ⟨H', I', t'⟩ := dct_start (k := fun sg a h => (evEs g (flatE L) sg h).bind fun ds h1 => dctEnd a ds h1) I t
  by_cases h0 : keys = []
  · obtain ⟨rfl, rfl⟩ := hn h0
    subst h0
    refine wpAny_Dict_empty ?_
    obtain ⟨ρ, sg, h, a, A, o⟩ := t'
    have ra : RelD X.K H' h.length ρ a (.ref s.heap.objs.size) := A.a
    have o : Out (tb X c) RL.d W h.length ρ H' σ Q (dctEnd a [] h) := o
    cases a with
    | p _ => exact o.elim
    | t _ => exact o.elim
    | r n =>
      simp only [dctEnd, pairUp] at o
      split at o
      · rename_i l
        have es : h.set n (.dct (mergeD [] [])) = h := by
          refine List.ext_getElem? fun j => ?_
          by_cases q : n = j
          · subst q
            rw [List.getElem?_set_self (List.getElem?_eq_some_iff.mp l.1).1, l.1]
            rfl
          · rw [List.getElem?_set_ne q]
        rw [es] at o
        exact ⟨.ref s.heap.objs.size, H', I', rfl, o.ret A.o ra⟩
      · exact o.elim
  · refine wpAny_Dict_walk (knd := lfKind X.prog X.w) hall hl h0 h15 (thn (hP.run pins _ σ _ _ I' (pairs_t L (k := fun sg (p : D × List D) h1 => dctEnd p.1 p.2 h1) t')) fun ws s2 ⟨ps, H2, I2, rel, q2⟩ => ?_)
    obtain ⟨ρ, sg, h, p, A, o⟩ := q2
    have r1 : RelD X.K H2 h.length ρ p.1 (.ref s.heap.objs.size) := A.a.1
    have r2 : RelDs X.K H2 h.length ρ p.2 (flatV ps) := A.a.2
    dsimp only at o
    unfold dctEnd at o
    split at o
    · rename_i n en
      rw [en] at r1
      split at o
      · rename_i kvs ep
        split at o
        · rename_i l
          have er : s.heap.objs.size = ρ n := V.ref.inj (RelD.r_inv r1)
          obtain ⟨vs, r3, cr⟩ := prel_carries (prel_pairs rel r2 ep) l.2.1
          obtain ⟨e0, z, vs0, r0, dd⟩ := dct_lf I2 A.o l.1 (.inl rfl) rfl
          cases r0
          rw [er] at r1 ⊢
          refine ⟨vs, cr, dd, fun h' dd' hs => ?_⟩
          have rm := rv_merge r3 (kvs := []) (vs := []) .nil
          have lm : (mergeD [] kvs).length ≤ sizeLine := by
            have := mergeD_length kvs []
            have h2 := l.2.2
            rw [sizeLine_eq]
            simp only [List.length_nil] at this
            omega
          obtain ⟨H3, I3, kp, R3⟩ := dct_wrl (t' := s2.toks + ws.length) I2 A.o l.1 e0 lm (fun es kp => prd_imp (fun _ _ ⟨h1, h2, v, h3, h4⟩ => ⟨h1, h2, v, h3.mono kp (Ext.refl _ _) (Nat.le_refl _), h4⟩) rm) rm hs dd'
          exact ⟨.ref (ρ n), H3, I3, rfl, o ρ _ _ (by rw [List.length_set]; exact Nat.le_refl _) (Ext.refl _ _) kp R3 (r1.mono kp (Ext.refl _ _) (by rw [List.length_set]; exact Nat.le_refl _))⟩
        · exact o.elim
      · exact o.elim
    · exact o.elim

/-! ### isinstance -/
theorem tyName_ok {x : Str} {t : Ty} (h : tyName x = some t) : bootBuiltins x = some (.type (tyN t)) ∧ x ≠ "__name__" ∧ (x == ("__debug__" : Str)) = false ∧ bltNames.contains x = true := by
  unfold tyName at h
  repeat (first
    | (split at h; · (rename_i q; cases h; rw [q]; exact ⟨rfl, by decide, by decide, by decide +kernel⟩))
    | cases h)
theorem pe_isiE {t : Ty} {x : Str} {p tp : Pos} (hg : Gl X "isinstance") (hm : X.mg "isinstance" = none) (hg2 : Gl X x) (hm2 : X.mg x = none) (ht : tyName x = some t) (ns : noStar e = true) (ha : PE X e (tEe X c W g a)) :
    PE X (.Call (.Name "isinstance" p) [e, .Name x tp] [] pos) (tEe X c W g (.isi a t)) := by
  obtain ⟨hb, h1, h2, _⟩ := tyName_ok ht
  have pt : PE X (.Name x tp) (tC (.ty (tyN t))) := pe_bltn hg2 hm2 hb rfl h1 h2
  have pa := pa_cons (es := [.Name x tp]) ha (pa_cons pt pa_nil rfl) (star_of ns)
  have he := star_of (es := [.Name x tp]) (env := X.env) ns
  refine ⟨fun pins s σ H Q I t0 => wpAny_Call_Name_kw ?_⟩
  have fin : wpAny (model X.prog X.w) X.A (spliced (backTo pos (starEach [e, .Name x tp] X.env))) (fun us s1 => wpAny (model X.prog X.w) X.A (call (.builtin "isinstance") us) (EP X pins σ Q) X.xe s1) X.xe s := by
    refine thn (pa.run pos pins s σ H (fun vs H1 => ∃ y, vs = [y, .ty (tyN t)] ∧ tH (tb X c) W RL.d RL.d (fun sg x h1 => R.of ((tyOf h1 x).map fun y => (D.p (P.bl (tyIs t y)))) h1) y σ H1 Q) I ?_) fun us s1 ⟨vs, H1, I1, r1, q1⟩ => ?_
    · exact tG_mono (fun y H1 q => ⟨y, rfl, q⟩) (tG.step (m := RL.d) (k := fun sg x h1 => R.of ((tyOf h1 x).map fun y => (D.p (P.bl (tyIs t y)))) h1) t0)
    · obtain ⟨y, rfl, ρ, sg, hh, dd, A, o⟩ := q1
      dsimp only at o
      cases q : tyOf hh dd with
      | none => rw [q] at o; exact o.elim
      | some td =>
        rw [q] at o
        obtain ⟨u1, u2, rfl, ru1, ru2⟩ := vals2 r1
        cases ru2
        obtain ⟨Pr, Z, pr, hx⟩ := kit_d I1 ru1 A.o A.a q
        exact PySem.W.kia_one Z I1.kIn pr (kit_tys X.K t td) hx fun tk => ⟨.bl _, H1, I1.tok tk, rfl, o.ret A.o (.p (.bl _))⟩
  exact ld_blt I hg hm (by rfl) (PyProof.Rows.callWith_builtin1 fin he rfl) (by decide) (by decide)

/-! ### xs[::-1], list(range(..)) -/
theorem RelDs.reverse {K : PySem.W.Frag} {H : Hp} {n : Nat} {ρ : Nat → Addr} {ds : List D} {vs : List V} (r : RelDs K H n ρ ds vs) : RelDs K H n ρ ds.reverse vs.reverse := by
  induction ds generalizing vs with
  | nil => cases r; exact .nil
  | cons d ds ih =>
    cases r with | cons h t =>
    rw [List.reverse_cons, List.reverse_cons]
    exact RelDs.append (ih t) (.cons h .nil)
theorem pe_revE {k : Nat} {p1 p2 p3 : Pos} (ha : PE X e (tEe X c W g a)) : PE X (.Subscript e (.Slice none none (some (.UnaryOp .USub (.Constant (.int 1) k p1) p2)) p3) pos) (tEe X c W g (.rev a)) := by
  refine ⟨fun pins s σ H Q I t => (pe_revL ha).run pins s σ H Q I ?_⟩
  refine tG_mono (fun x H1 q => ?_) (tG.step (m := RL.d) (k := fun sg x h1 => match lstOf h1 x with
    | some xs => mk (.lst xs.reverse) h1
    | none => .stuck) t)
  obtain ⟨ρ, sg, hh, d, A, o⟩ := q
  dsimp only at o
  cases q : lstOf hh d with
  | none => rw [q] at o; exact o.elim
  | some xs =>
    rw [q] at o
    obtain ⟨p, vs, rfl, sq, rd⟩ := lst_at A.o A.a q
    exact ⟨p, vs, rfl, sq, fun r hr => o.newL A.o (RelDs.reverse rd) hr⟩
theorem nums_rg {K : PySem.W.Frag} {H : Hp} {n : Nat} {ρ : Nat → Addr} : ∀ (k : Nat) (lo : Int), RelDs K H n ρ (nums lo k) ((List.range k).map fun i => V.int (lo + (i : Nat)))
  | 0, _ => .nil
  | k + 1, lo => by
    have ih := nums_rg (K := K) (H := H) (n := n) (ρ := ρ) k (lo + 1)
    rw [List.range_succ_eq_map, List.map_cons, List.map_map, nums]
    refine .cons (.p ?_) ?_
    · have : lo + ((0 : Nat) : Int) = lo := by omega
      rw [this]
      exact .int lo
    · have e : ((fun i : Nat => V.int (lo + (i : Nat))) ∘ Nat.succ) = fun i : Nat => V.int (lo + 1 + (i : Nat)) := by
        funext i
        show V.int (lo + ((i + 1 : Nat) : Int)) = _
        congr 1
        omega
      rw [e]
      exact ih
theorem pe_lrng1E {p p2 pos2 : Pos} (hc : X.calm = true) (hg : Gl X "list") (hm : X.mg "list" = none) (hg2 : Gl X "range") (hm2 : X.mg "range" = none) (ns : noStar e = true) (ha : PE X e (tEe X c W g a)) :
    PE X (.Call (.Name "list" p) [.Call (.Name "range" p2) [e] [] pos2] [] pos) (tEe X c W g (.lrng1 a)) := by
  refine ⟨fun pins s σ H Q I t => (pe_listRg hc hg hm (prg_1 hg2 hm2 ha (star_of ns)) (star_of rfl)).run pins s σ H Q I ?_⟩
  refine tG_mono (fun x H1 q => ?_) (tG.step (m := RL.d) (k := fun sg x h1 => match x with
    | .p (.int j) => if -(2 ^ 62) ≤ j ∧ j ≤ 16777216 then mk (.lst (nums 0 j.toNat)) h1 else .stuck
    | _ => .stuck) t)
  obtain ⟨ρ, sg, hh, d, A, o⟩ := q
  have ra : RelD X.K H1 hh.length ρ d x := A.a
  dsimp only at o
  split at o
  · split at o
    · rename_i j l
      cases ra with | p ra => cases ra with | int _ =>
      refine ⟨j, rfl, ⟨by omega, by omega, l.1, by omega, by omega⟩, fun q hq => o.newL A.o ?_ hq⟩
      unfold rgV
      rw [Int.sub_zero]
      exact nums_rg _ _
    · exact o.elim
  · exact o.elim
theorem pe_lrng2E {p p2 pos2 : Pos} (hc : X.calm = true) (hg : Gl X "list") (hm : X.mg "list" = none) (hg2 : Gl X "range") (hm2 : X.mg "range" = none) (ns : noStar e = true) (ns2 : noStar e2 = true) (ha : PE X e (tEe X c W g a)) (hb : PE X e2 (tEe X c W g b)) :
    PE X (.Call (.Name "list" p) [.Call (.Name "range" p2) [e, e2] [] pos2] [] pos) (tEe X c W g (.lrng2 a b)) := by
  refine ⟨fun pins s σ H Q I t => (pe_listRg hc hg hm (prg_2 hg2 hm2 ha hb (star_of ns) (star_of ns2) (back_any (by rw [star_of ns2]; rfl))) (star_of rfl)).run pins s σ H Q I ?_⟩
  refine tG_mono (fun x H1 q => ?_) (tG.step (m := RL.d) (k := fun sg x h1 => (evE g b sg h1).bind fun y h2 => match x, y with
    | .p (.int i), .p (.int j) => if -(2 ^ 62) ≤ i ∧ i < 2 ^ 62 ∧ -(2 ^ 62) ≤ j ∧ j < 2 ^ 62 ∧ j - i ≤ 16777216 then mk (.lst (nums i (j - i).toNat)) h2 else .stuck
    | _, _ => .stuck) t)
  refine tG_mono (fun y H2 q => ?_) (tH.step (m := RL.d) (k := fun sg (p : D × D) h2 => match p.1, p.2 with
    | .p (.int i), .p (.int j) => if -(2 ^ 62) ≤ i ∧ i < 2 ^ 62 ∧ -(2 ^ 62) ≤ j ∧ j < 2 ^ 62 ∧ j - i ≤ 16777216 then mk (.lst (nums i (j - i).toNat)) h2 else .stuck
    | _, _ => .stuck) q)
  obtain ⟨ρ, sg, hh, d, A, o⟩ := q
  have ra : RelD X.K H2 hh.length ρ d.1 x := A.a.1
  have rb : RelD X.K H2 hh.length ρ d.2 y := A.a.2
  dsimp only at o
  split at o
  · rename_i i j e1 e2
    rw [e1] at ra
    rw [e2] at rb
    split at o
    · rename_i l
      cases ra with | p ra => cases ra with | int _ => cases rb with | p rb => cases rb with | int _ =>
      refine ⟨i, j, rfl, rfl, ⟨l.1, l.2.1, l.2.2.1, l.2.2.2.1, by omega⟩, fun q hq => o.newL A.o ?_ hq⟩
      exact nums_rg _ _
    · exact o.elim
  · exact o.elim

/-! ### a dict stands still -/
theorem peek_ok {h : Hh} {sg : Sg} {i : Nat} {kvs : Kvs} {a : IE} (e : lckAt (peek a sg h) h = some (i, kvs)) : h[i]? = some (.dct kvs) := by
  unfold lckAt at e
  cases q : peek a sg h with
  | none => rw [q] at e; cases e
  | some d =>
    rw [q] at e
    have e : dmOf h d = some (i, kvs) := e
    unfold dmOf at e
    split at e
    · split at e
      · rename_i g
        cases e
        exact g
      · cases e
    · cases e
theorem lock_rel {H : Hp} {ρ : Nat → Addr} {h : Hh} {i : Nat} {kvs : Kvs} (R : RelH (tb X c) ρ h H) (g : h[i]? = some (.dct kvs)) : ∃ u, H (ρ i) = some u ∧ Mut (some u) ∧ (∀ vs, u ≠ .tup vs) ∧ (∀ ob x, u ≠ .frz ob x) ∧ (∀ vs, u ≠ .lst vs) ∧
    ∀ od, Keep X.K H (upd H (ρ i) (.frz od u)) ∧ RelH (tb X c) ρ (h.set i (.lck kvs)) (upd H (ρ i) (.frz od u)) := by
  obtain ⟨u, hu, mu, nt, nf⟩ := (R.obj i _ g).at rfl
  have nl : ∀ vs, u ≠ .lst vs := by
    obtain ⟨e0, z, ⟨es, e1, r⟩ | ⟨es, e1, r⟩⟩ := R.obj i _ g
    · rw [hu] at e1; cases e1; exact fun vs z => nomatch z
    · rw [hu] at e1; cases e1; exact fun vs z => nomatch z
  refine ⟨u, hu, mu, nt, nf, nl, fun od => ?_⟩
  refine R.wr (o' := .lck kvs) (u := .frz od u) g rfl rfl fun kp => ?_
  obtain ⟨e0, z, r⟩ := R.obj i _ g
  refine ⟨e0, z, od, ?_⟩
  rcases r with ⟨es, e1, r⟩ | ⟨es, e1, r⟩
  · rw [hu] at e1
    cases e1
    exact .inl ⟨es, upd_same, r.mono kp (Ext.refl _ _) (Nat.le_refl _)⟩
  · rw [hu] at e1
    cases e1
    exact .inr ⟨es, upd_same, r.mono kp (Ext.refl _ _) (Nat.le_refl _)⟩
section
variable {K : PySem.W.Frag} {H H' : Hp} {n : Nat} {ρ : Nat → Addr} (tup : ∀ a vs, SqT K H a vs → SqT K H' a vs) (sqp : ∀ a vs, SqP K H a vs → SqP K H' a vs)
include tup sqp
mutual
theorem relP_by : ∀ {x : P} {v : V}, RelP K H x v → RelP K H' x v
  | _, _, .non => .non
  | _, _, .bl b => .bl b
  | _, _, .int b => .int b
  | _, _, .str b => .str b
  | _, _, .tup h hs => .tup (sqp _ _ h) (relPs_by hs)
theorem relPs_by : ∀ {x : List P} {v : List V}, RelPs K H x v → RelPs K H' x v
  | _, _, .nil => .nil
  | _, _, .cons h hs => .cons (relP_by h) (relPs_by hs)
end
mutual
theorem relD_by : ∀ {x : D} {v : V}, RelD K H n ρ x v → RelD K H' n ρ x v
  | _, _, .p h => .p (relP_by tup sqp h)
  | _, _, .r h => .r h
  | _, _, .t h hs => .t (tup _ _ h) (relDs_by hs)
theorem relDs_by : ∀ {x : List D} {v : List V}, RelDs K H n ρ x v → RelDs K H' n ρ x v
  | _, _, .nil => .nil
  | _, _, .cons h hs => .cons (relD_by h) (relDs_by hs)
end
end
theorem relFs_by {T : Tb} {H H' : Hp} {n : Nat} {ρ : Nat → Addr} (kd : ∀ x v, RelD T.K H n ρ x v → RelD T.K H' n ρ x v) : ∀ {fs : List (Nat × D)} {fv : List (Str × V)}, RelFs T H n ρ fs fv → RelFs T H' n ρ fs fv
  | _, _, .nil => .nil
  | _, _, .cons h1 h2 hs => .cons h1 (kd _ _ h2) (relFs_by kd hs)
theorem relO_by {T : Tb} {H H' : Hp} {n : Nat} {ρ : Nat → Addr} {a : Addr} {o : O} (tup : ∀ a vs, SqT T.K H a vs → SqT T.K H' a vs) (sqp : ∀ a vs, SqP T.K H a vs → SqP T.K H' a vs) (r : RelO T H n ρ a o)
    (hm : ∀ w, o.mut = true → H a = some w → H' a = some w) (hr : ∀ ob xs, H a = some (.frz ob (.lst xs)) → H' a = some (.frz ob (.lst xs))) : RelO T H' n ρ a o := by
  cases o with
  | lst xs => obtain ⟨vs, e1, r⟩ := r; exact ⟨vs, hm _ rfl e1, relDs_by tup sqp r⟩
  | ro xs =>
    obtain ⟨vs, e1, r⟩ := r
    refine ⟨vs, ?_, relPs_by tup sqp r⟩
    rcases e1 with ⟨o, e1⟩ | e1
    · exact .inl ⟨o, hr _ _ e1⟩
    · exact .inr e1
  | dct kvs =>
    obtain ⟨e0, z, r⟩ := r
    refine ⟨e0, z, ?_⟩
    rcases r with ⟨es, e1, r⟩ | ⟨es, e1, r⟩
    · exact .inl ⟨es, hm _ rfl e1, prd_imp (fun _ _ h => ⟨h.1, h.2.1, relD_by tup sqp h.2.2⟩) r⟩
    · exact .inr ⟨es, hm _ rfl e1, prd_imp (fun _ _ h => ⟨h.1, h.2.1, relP_by tup sqp h.2.2.1, relD_by tup sqp h.2.2.2⟩) r⟩
  | lck kvs =>
    obtain ⟨e0, z, od, r⟩ := r
    refine ⟨e0, z, od, ?_⟩
    rcases r with ⟨es, e1, r⟩ | ⟨es, e1, r⟩
    · exact .inl ⟨es, hm _ rfl e1, prd_imp (fun _ _ h => ⟨h.1, h.2.1, relD_by tup sqp h.2.2⟩) r⟩
    · exact .inr ⟨es, hm _ rfl e1, prd_imp (fun _ _ h => ⟨h.1, h.2.1, relP_by tup sqp h.2.2.1, relD_by tup sqp h.2.2.2⟩) r⟩
  | set xs => exact ⟨hm _ rfl r.1, r.2⟩
  | ins c fs => obtain ⟨C, dx, fv, e0, e1, r, q⟩ := r; exact ⟨C, dx, fv, e0, hm _ rfl e1, relFs_by (fun _ _ => relD_by tup sqp) r, q⟩
theorem unlock_tup {K : PySem.W.Frag} {H : Hp} {p : Addr} {od : Obj} {u : HO} (hf : H p = some (.frz od u)) (nt : ∀ vs, u ≠ .tup vs) : (∀ a vs, SqT K H a vs → SqT K (upd H p u) a vs) ∧ ∀ a vs, SqP K H a vs → SqP K (upd H p u) a vs := by
  refine ⟨fun a vs q => ?_, fun a vs q => ?_⟩
  · rcases q with (q | ⟨o, q⟩) | q
    · have : a ≠ p := by rintro rfl; rw [hf] at q; cases q
      exact .inl (.inl (by rw [upd_ne this]; exact q))
    · have : a ≠ p := by
        rintro rfl
        rw [hf] at q
        cases q
        exact nt _ rfl
      exact .inl (.inr ⟨o, by rw [upd_ne this]; exact q⟩)
    · exact .inr q
  · rcases q with ⟨o, d, q⟩ | q
    · have : a ≠ p := by
        rintro rfl
        rw [hf] at q
        cases q
        exact nt _ rfl
      exact .inl ⟨o, d, by rw [upd_ne this]; exact q⟩
    · exact .inr q
/-- and behind it: what was locked is as it was -/
theorem unlock_rel {H H' : Hp} {ρ ρ' : Nat → Addr} {h' : Hh} {n i : Nat} {kvs : Kvs} {od : Obj} {u : HO} (R' : RelH (tb X c) ρ' h' H') (hin : i < n) (e : Ext n ρ ρ') (hu : H (ρ i) = some u) (nt : ∀ vs, u ≠ .tup vs) (nf : ∀ ob x, u ≠ .frz ob x) (nl : ∀ vs, u ≠ .lst vs)
    (k : Keep X.K (upd H (ρ i) (.frz od u)) H') (g : h'[i]? = some (.lck kvs)) : H' (ρ i) = some (.frz od u) ∧ Keep X.K H (upd H' (ρ i) u) ∧ RelH (tb X c) ρ' (h'.set i (.dct kvs)) (upd H' (ρ i) u) := by
  have hf : H' (ρ i) = some (.frz od u) := k.2 _ _ _ upd_same
  have er : ρ' i = ρ i := e i hin
  obtain ⟨tup, sqp⟩ := unlock_tup (K := X.K) hf nt
  have kall : Keep X.K H (upd H' (ρ i) u) := by
    refine ⟨fun a vs q => tup a vs (k.1 a vs ?_), fun a o x q => ?_⟩
    · rcases q with (q | ⟨o, q⟩) | q
      · have : a ≠ ρ i := by rintro rfl; rw [hu] at q; cases q; exact nt _ rfl
        exact .inl (.inl (by rw [upd_ne this]; exact q))
      · have : a ≠ ρ i := by rintro rfl; rw [hu] at q; cases q; exact nf _ _ rfl
        exact .inl (.inr ⟨o, by rw [upd_ne this]; exact q⟩)
      · exact .inr q
    · have : a ≠ ρ i := by rintro rfl; rw [hu] at q; cases q; exact nf _ _ rfl
      rw [upd_ne this]
      exact k.2 a o x (by rw [upd_ne this]; exact q)
  refine ⟨hf, kall, ?_⟩
  have il : i < h'.length := (List.getElem?_eq_some_iff.mp g).1
  -- values are kept
  have kv : ∀ {x : P} {v : V}, RelP X.K H' x v → RelP X.K (upd H' (ρ i) u) x v := fun {x v} r => relP_by tup sqp r
  have kd : ∀ {x : D} {v : V}, RelD X.K H' h'.length ρ' x v → RelD X.K (upd H' (ρ i) u) h'.length ρ' x v := fun {x v} r => relD_by tup sqp r
  refine ⟨fun j x q => ?_, fun j l x y q1 q2 ne m1 m2 => ?_⟩
  · rw [List.length_set]
    by_cases hj : j = i
    · subst hj
      rw [List.getElem?_set_self il] at q
      cases q
      rw [er]
      obtain ⟨e0, z, od', r⟩ := R'.obj j _ g
      rw [er] at r e0
      refine ⟨e0, z, ?_⟩
      rcases r with ⟨es, e1, r⟩ | ⟨es, e1, r⟩
      · rw [hf] at e1
        cases e1
        exact .inl ⟨es, upd_same, prd_imp (fun _ _ h => ⟨h.1, h.2.1, kd h.2.2⟩) r⟩
      · rw [hf] at e1
        cases e1
        exact .inr ⟨es, upd_same, prd_imp (fun _ _ h => ⟨h.1, h.2.1, kv h.2.2.1, kd h.2.2.2⟩) r⟩
    · rw [List.getElem?_set_ne (Ne.symm hj)] at q
      have ne : x.mut = true → ρ' j ≠ ρ i := fun m => by rw [← er]; exact R'.inj j i x _ q g hj m rfl
      exact relO_by tup sqp (R'.obj j x q) (fun w m e => by rw [upd_ne (ne m)]; exact e) (fun ob xs e => by
        have : ρ' j ≠ ρ i := by
          intro z
          rw [z, hf] at e
          cases e
          exact nl _ rfl
        rw [upd_ne this]
        exact e)
  · have at_ : ∀ {j : Nat} {x : O}, (h'.set i (.dct kvs))[j]? = some x → x.mut = true → ∃ x' : O, h'[j]? = some x' ∧ x'.mut = true := fun {j x} q m1 => by
      by_cases hj : j = i
      · subst hj; exact ⟨_, g, rfl⟩
      · rw [List.getElem?_set_ne (Ne.symm hj)] at q; exact ⟨x, q, m1⟩
    obtain ⟨x', g1, n1⟩ := at_ q1 m1
    obtain ⟨y', g2, n2⟩ := at_ q2 m2
    exact R'.inj j l x' y' g1 g2 ne n1 n2
theorem unlock_val {H : Hp} {p : Addr} {od : Obj} {u : HO} {n : Nat} {ρ : Nat → Addr} {d : D} {v : V} (hf : H p = some (.frz od u)) (nt : ∀ vs, u ≠ .tup vs) (r : RelD X.K H n ρ d v) : RelD X.K (upd H p u) n ρ d v :=
  relD_by (unlock_tup hf nt).1 (unlock_tup hf nt).2 r
theorem unlckH_ok {i : Nat} {kvs : Kvs} {h h2 : Hh} (e : unlckH i kvs h = some h2) : h[i]? = some (.lck kvs) ∧ h2 = h.set i (.dct kvs) := by
  unfold unlckH at e
  split at e
  · rename_i g; cases e; exact ⟨g, rfl⟩
  · cases e
theorem lck_t {l : IE} {σ : L2.St} {H : Hp} {Q : VK} (t : tEe X c W g (.lck l a) σ H Q) : tEe X c W g a σ H Q ∨ tLockE (tEe X c W g a) σ H Q := by
  obtain ⟨ρ, sg, h, u0, A, o⟩ := t
  have o : Out (tb X c) RL.d W h.length ρ H σ Q (match lckAt (peek l sg h) h with
    | some p => unlck p.1 p.2 (evE g a sg (h.set p.1 (.lck p.2)))
    | none => evE g a sg h) := o
  cases q : lckAt (peek l sg h) h with
  | none =>
    rw [q] at o
    exact .inl ⟨ρ, sg, h, u0, A, o⟩
  | some p =>
    rw [q] at o
    obtain ⟨i, kvs⟩ := p
    dsimp only at o
    have gi := peek_ok q
    obtain ⟨u, hu, mu, nt, nf, nl, hl⟩ := lock_rel A.o gi
    have il : i < h.length := (List.getElem?_eq_some_iff.mp gi).1
    refine .inr ⟨ρ i, u, hu, mu, fun od => ?_⟩
    obtain ⟨kp, R1⟩ := hl od
    have ll : (h.set i (.lck kvs)).length = h.length := List.length_set
    refine ⟨ρ, sg, h.set i (.lck kvs), u0, ⟨by rw [ll]; exact A.s.mono kp (Ext.refl _ _) (Nat.le_refl _), R1, True.intro⟩, ?_⟩
    rw [ll]
    show Out (tb X c) RL.d W h.length ρ (upd H (ρ i) (.frz od u)) σ _ (evE g a sg (h.set i (.lck kvs)))
    cases r : evE g a sg (h.set i (.lck kvs)) with
    | stuck => rw [r] at o; exact o
    | exc x h1 =>
      rw [r] at o
      exact fun ρ' c d H' l1 e1 k1 R2 r1 => o ρ' c d H' l1 e1 (kp.trans k1) R2 r1
    | ok d h1 =>
      rw [r] at o
      intro ρ' v H' l1 e1 k1 R2 r1
      have o : Out (tb X c) RL.d W h.length ρ H σ Q (match unlckH i kvs h1 with
        | some h2 => .ok d h2
        | none => .stuck) := o
      cases q2 : unlckH i kvs h1 with
      | none => rw [q2] at o; exact o.elim
      | some h2 =>
        rw [q2] at o
        obtain ⟨g1, rfl⟩ := unlckH_ok q2
        obtain ⟨hf, ka, R3⟩ := unlock_rel R2 il e1 hu nt nf nl k1 g1
        refine ⟨hf, o ρ' v _ (by rw [List.length_set]; exact l1) e1 ka R3 ?_⟩
        rw [List.length_set]
        exact unlock_val hf nt r1
theorem pe_lckE {l : IE} (ha : PE X e (tEe X c W g a)) : PE X e (tEe X c W g (.lck l a)) := by
  refine ⟨fun pins s σ H Q I t => ?_⟩
  rcases lck_t t with q | q
  · exact ha.run pins s σ H Q I q
  · exact (pe_lock ha).run pins s σ H Q I q
theorem ps_lckE {st : Stmt} {l : IE} {is : IS} (ha : PS X st (tS (tb X c) W (evS g is))) : PS X st (tS (tb X c) W (evS g (.lck l is))) := by
  refine ⟨fun pins s σ H E I t => ?_⟩
  obtain ⟨ρ, sg, h, u0, A, o⟩ := t
  have o : OutS (tb X c) W h.length ρ H E (match lckAt (peek l sg h) h with
    | some p => unlckS p.1 p.2 (evS g is sg (h.set p.1 (.lck p.2)))
    | none => evS g is sg h) := o
  cases q : lckAt (peek l sg h) h with
  | none =>
    rw [q] at o
    exact ha.run pins s σ H E I ⟨ρ, sg, h, u0, A, o⟩
  | some p =>
    rw [q] at o
    obtain ⟨i, kvs⟩ := p
    dsimp only at o
    have gi := peek_ok q
    obtain ⟨u, hu, mu, nt, nf, nl, hl⟩ := lock_rel A.o gi
    have il : i < h.length := (List.getElem?_eq_some_iff.mp gi).1
    refine (ps_lock ha).run pins s σ H E I ⟨ρ i, u, hu, mu, fun od => ?_⟩
    obtain ⟨kp, R1⟩ := hl od
    have ll : (h.set i (.lck kvs)).length = h.length := List.length_set
    refine ⟨ρ, sg, h.set i (.lck kvs), u0, ⟨by rw [ll]; exact A.s.mono kp (Ext.refl _ _) (Nat.le_refl _), R1, True.intro⟩, ?_⟩
    show OutS (tb X c) W (h.set i (.lck kvs)).length ρ _ _ (evS g is sg (h.set i (.lck kvs)))
    rw [ll]
    have sl : ∀ {ρ' : Nat → Addr} {H' : Hp} {sg' : Sg} {σ' : L2.St} {n : Nat}, H' (ρ i) = some (.frz od u) → RelS X.K H' n ρ' sg' σ' → RelS X.K (upd H' (ρ i) u) n ρ' sg' σ' := fun hf r =>
      ⟨r.len, fun j d hj => let ⟨v, h1, h2⟩ := r.at_ j d hj; ⟨v, h1, unlock_val hf nt h2⟩⟩
    cases r : evS g is sg (h.set i (.lck kvs)) with
    | stuck => rw [r] at o; exact o
    | exc x s1 h1 =>
      rw [r] at o
      exact fun ρ' σ' c d H' l1 e1 k1 R2 s2 r1 => o ρ' σ' c d H' l1 e1 (kp.trans k1) R2 s2 r1
    | next s1 h1 =>
      rw [r] at o
      intro ρ' σ' H' l1 e1 k1 R2 r1
      have o : OutS (tb X c) W h.length ρ H E (match unlckH i kvs h1 with
        | some h2 => .next s1 h2
        | none => .stuck) := o
      cases q2 : unlckH i kvs h1 with
      | none => rw [q2] at o; exact o.elim
      | some h2 =>
        rw [q2] at o
        obtain ⟨g1, rfl⟩ := unlckH_ok q2
        obtain ⟨hf, ka, R3⟩ := unlock_rel R2 il e1 hu nt nf nl k1 g1
        exact ⟨hf, o ρ' σ' _ (by rw [List.length_set]; exact l1) e1 ka R3 (by rw [List.length_set]; exact sl hf r1)⟩
    | brk s1 h1 =>
      rw [r] at o
      intro ρ' σ' H' l1 e1 k1 R2 r1
      have o : OutS (tb X c) W h.length ρ H E (match unlckH i kvs h1 with
        | some h2 => .brk s1 h2
        | none => .stuck) := o
      cases q2 : unlckH i kvs h1 with
      | none => rw [q2] at o; exact o.elim
      | some h2 =>
        rw [q2] at o
        obtain ⟨g1, rfl⟩ := unlckH_ok q2
        obtain ⟨hf, ka, R3⟩ := unlock_rel R2 il e1 hu nt nf nl k1 g1
        exact ⟨hf, o ρ' σ' _ (by rw [List.length_set]; exact l1) e1 ka R3 (by rw [List.length_set]; exact sl hf r1)⟩
    | cont s1 h1 =>
      rw [r] at o
      intro ρ' σ' H' l1 e1 k1 R2 r1
      have o : OutS (tb X c) W h.length ρ H E (match unlckH i kvs h1 with
        | some h2 => .cont s1 h2
        | none => .stuck) := o
      cases q2 : unlckH i kvs h1 with
      | none => rw [q2] at o; exact o.elim
      | some h2 =>
        rw [q2] at o
        obtain ⟨g1, rfl⟩ := unlckH_ok q2
        obtain ⟨hf, ka, R3⟩ := unlock_rel R2 il e1 hu nt nf nl k1 g1
        exact ⟨hf, o ρ' σ' _ (by rw [List.length_set]; exact l1) e1 ka R3 (by rw [List.length_set]; exact sl hf r1)⟩
    | ret d h1 =>
      rw [r] at o
      intro ρ' v H' l1 e1 k1 R2 r1
      have o : OutS (tb X c) W h.length ρ H E (match unlckH i kvs h1 with
        | some h2 => .ret d h2
        | none => .stuck) := o
      cases q2 : unlckH i kvs h1 with
      | none => rw [q2] at o; exact o.elim
      | some h2 =>
        rw [q2] at o
        obtain ⟨g1, rfl⟩ := unlckH_ok q2
        obtain ⟨hf, ka, R3⟩ := unlock_rel R2 il e1 hu nt nf nl k1 g1
        exact ⟨hf, o ρ' v _ (by rw [List.length_set]; exact l1) e1 ka R3 (by rw [List.length_set]; exact unlock_val hf nt r1)⟩
end
end Pv

/-! I3: dicts that are walked. -/
namespace Pv
open PySem L2 PySem.Spec PyProof.Rows

theorem list_choose {α : Type} {p : Nat → α → Prop} : ∀ (n : Nat), (∀ j : Nat, j < n → ∃ x, p j x) → ∃ xs : List α, xs.length = n ∧ ∀ (j : Nat) (x : α), xs[j]? = some x → p j x
  | 0, _ => ⟨[], rfl, fun j x h => by simp at h⟩
  | n + 1, h => by
    obtain ⟨xs, l, q⟩ := list_choose n fun j hj => h j (by omega)
    obtain ⟨x, px⟩ := h n (by omega)
    refine ⟨xs ++ [x], by simp [l], fun j y e => ?_⟩
    by_cases hj : j < n
    · rw [List.getElem?_append_left (by omega)] at e; exact q j y e
    · rw [List.getElem?_append_right (by omega)] at e
      have z : j - xs.length = 0 := by
        have := (List.getElem?_eq_some_iff.mp e).1
        simp at this
        omega
      rw [z] at e
      cases e
      have : j = n := by omega
      rw [this]; exact px
/-- a dict that stands still: its rows as they lie -/
structure Still (K : PySem.W.Frag) (H : Hp) (n : Nat) (ρ : Nat → Addr) (a : Addr) (od : Obj) (u : HO) (ar : Array DictEntry) (ep : Nat) (kvs : Kvs) : Prop where
  at_ : H a = some (.frz od u)
  notSys : (a == sysModules) = false
  cls : od.ExactDict
  data : od.data = .dict ar ep
  size : ar.size = kvs.length
  row : ∀ (j : Nat) (k : P) (d : D), kvs[j]? = some (k, d) → ∃ en kv vv, ar[j]? = some en ∧ RelP K H k kv ∧ RelV kv en.key ∧ RelD K H n ρ d vv ∧ RelV vv en.val
theorem pairs_at {prog : Program} {w : World} {es : List DictEntry} {vs : List (Leaf × Value)} (h : Pairs (lfKind prog w) es vs) : ∀ {j : Nat} {q : Leaf × Value}, vs[j]? = some q → ∃ en, es[j]? = some en ∧ lfIs q.1 en.key = true ∧ en.val = q.2 := by
  induction h with
  | nil => intro j q e; simp at e
  | cons h1 h2 _ ih =>
    intro j q e
    cases j with
    | zero => cases e; exact ⟨_, rfl, h1, h2⟩
    | succ j => exact ih (by simpa using e)
section
variable {X : Cx} {c : Ct} {W : WX} {g : G} {e : Expr} {a : IE} {pos : Pos}
theorem still_of {pins : List (Addr × Obj)} {s : Shared} {σ : L2.St} {H : Hp} {ρ : Nat → Addr} {h : Hh} {i : Nat} {kvs : Kvs} (I : Inv X pins σ H s) (R : RelH (tb X c) ρ h H) (gi : h[i]? = some (.lck kvs)) : ∃ od u ar ep, Still X.K H h.length ρ (ρ i) od u ar ep kvs := by
  obtain ⟨e0, z, od, ⟨es, e1, r⟩ | ⟨es, e1, r⟩⟩ := R.obj i _ gi
  · obtain ⟨g0, ⟨vs, q, o, ar, ep, h1, h2, h3, _, h5, _⟩, _⟩ := I.hok _ _ e1
    have : o = od := by rw [g0] at h1; exact (Option.some.inj h1).symm
    subst this
    have rv := rv_of r q
    refine ⟨_, _, ar, ep, e1, e0, h2, h3, ?_, fun j k d hj => ?_⟩
    · have l1 := h5.length
      have l2 := Paired.length rv
      rw [Array.length_toList] at l1
      omega
    · obtain ⟨q0, g1, g2, g3, v, g4, g5⟩ := prd_get rv hj
      obtain ⟨en, k1, k2, k3⟩ := pairs_at h5 g1
      refine ⟨en, leafV k.lf, v, by rw [← Array.getElem?_toList]; exact k1, leafV_rel g2, ?_, g4, by rw [k3]; exact g5⟩
      rw [← g3]
      exact of_lf k2
  · obtain ⟨g0, ⟨xs, q, o, ar, ep, h1, h2, h3, h4, _⟩, _⟩ := I.hok _ _ e1
    have : o = od := by rw [g0] at h1; exact (Option.some.inj h1).symm
    subst this
    have rx := rx_of r q
    refine ⟨_, _, ar, ep, e1, e0, h2, h3, ?_, fun j k d hj => ?_⟩
    · have l1 := congrArg List.length h4
      have l2 := Paired.length rx
      rw [Array.length_toList, List.length_map] at l1
      omega
    · obtain ⟨x, g1, g2, g3, g4, v, g5, g6⟩ := prd_get rx hj
      have k1 := entry_at h4 j
      rw [g1] at k1
      exact ⟨_, .ref x.2.1, v, k1, g4, rfl, g5, g6⟩
/-- walked: what comes at each turn, nothing else changes -/
def ItS (a : Addr) (od : Obj) (u : HO) (xs : List V) : It :=
  ⟨fun i H => H a = some (.frz od u) ∧ i < xs.length, fun i H x H' => H' = H ∧ xs[i]? = some x, fun i H => H a = some (.frz od u) ∧ xs.length ≤ i⟩
/-- .. each in a new pair -/
def ItP (a : Addr) (od : Obj) (u : HO) (xs : List (V × V)) : It :=
  ⟨fun i H => H a = some (.frz od u) ∧ i < xs.length, fun i H x H' => ∃ T k v, xs[i]? = some (k, v) ∧ x = .ref T ∧ H T = none ∧ H' = upd H T (.tup [k, v]), fun i H => H a = some (.frz od u) ∧ xs.length ≤ i⟩
theorem turn_still_keys {P : Program} {w : World} {K : PySem.W.Frag} {tg : Expr} {a : Addr} {od : Obj} {u : HO} {ar : Array DictEntry} {ep : Nat} {xs : List V} (it : Addr) (hc0 : od.ExactDict) (hod : od.data = .dict ar ep) (hl : ar.size = xs.length) (hx : ∀ (j : Nat) (x : V), xs[j]? = some x → ∃ en, ar[j]? = some en ∧ RelV x en.key) :
    Turn P w K tg (ItS a od u xs) [it] it (fun i h => h.IsKeyIter it a i ar.size ep) where
  mem := by simp
  obj := fun i h st b hb => by
    obtain rfl : b = it := by simpa using hb
    obtain ⟨oi, e, c, dd⟩ := st
    exact ⟨oi, e, fun v z => by rw [dd] at z; cases z⟩
  keep := fun i h h' st k => st.at fun oi e => k it (by simp) oi e
  item := by
    intro X hP hw hK hc i pins s σ H E I hf st hg
    subst hP hw hK
    obtain ⟨hd, hi⟩ := hg
    obtain ⟨f0, f1, f2, f3, f4, f5⟩ := hf it (by simp)
    have raw : s.heap.DictRaw a ar ep := ⟨od, (I.hok _ _ hd).1, hc0, hod⟩
    have hi' : i < ar.size := by omega
    obtain ⟨en, g1, g2⟩ := hx i xs[i] (List.getElem?_eq_getElem hi)
    refine wpAny_pyNext_keys_item_raw st raw hi' fun h' st' sb => ?_
    have I1 : Inv X pins σ H { s with heap := h' } := I.turned (t' := s.toks) (fun b ob hb e => (sb.2 b hb).trans e) f0 f1 f3 f4 f5
    obtain ⟨oi, e, c, dd⟩ := id st'
    have ek : ar[i] = en := by rw [Array.getElem?_eq_getElem hi'] at g1; exact Option.some.inj g1
    exact ⟨_, rfl, go_of (s := { s with heap := h' }) e c dd (by decide) ⟨xs[i], H, I1, by rw [ek]; exact g2, ⟨rfl, List.getElem?_eq_getElem hi⟩, st', fun b hb => (hf b hb).1⟩⟩
  done := by
    intro X hP hw hK hc i pins s σ H E I hf st hg
    subst hP hw hK
    obtain ⟨hd, hi⟩ := hg
    obtain ⟨f0, f1, f2, f3, f4, f5⟩ := hf it (by simp)
    exact wpAny_pyNext_keys_end_raw (I.ok.hd hc) st ⟨od, (I.hok _ _ hd).1, hc0, hod⟩ (by omega) fun h' eb => ⟨rfl, I.turned (t' := s.toks) (fun b ob hb e => eb b ob hb e) f0 f1 f3 f4 f5⟩
  self := fun A i s Q E st h => by
    refine wpAny_pyIter_slot st.typeIs F.slot_dict_keyiterator_iter (wpAny_call_entry F.slot_dict_keyiterator_iter st.typeIs F.entry_dict_keyiterator_iter ?_ (F.args_dict_keyiterator_iter_1 _))
    exact wpAny_pure ⟨_, rfl, "dict_keyiterator", _, st.typeIs, F.slot_dict_keyiterator_next.lookup, h⟩
theorem turn_still_vals {P : Program} {w : World} {K : PySem.W.Frag} {tg : Expr} {a : Addr} {od : Obj} {u : HO} {ar : Array DictEntry} {ep : Nat} {xs : List V} (it : Addr) (hc0 : od.ExactDict) (hod : od.data = .dict ar ep) (hl : ar.size = xs.length) (hx : ∀ (j : Nat) (x : V), xs[j]? = some x → ∃ en, ar[j]? = some en ∧ RelV x en.val) :
    Turn P w K tg (ItS a od u xs) [it] it (fun i h => h.IsValIter it a i ar.size ep) where
  mem := by simp
  obj := fun i h st b hb => by
    obtain rfl : b = it := by simpa using hb
    obtain ⟨oi, e, c, dd⟩ := st
    exact ⟨oi, e, fun v z => by rw [dd] at z; cases z⟩
  keep := fun i h h' st k => st.at fun oi e => k it (by simp) oi e
  item := by
    intro X hP hw hK hc i pins s σ H E I hf st hg
    subst hP hw hK
    obtain ⟨hd, hi⟩ := hg
    obtain ⟨f0, f1, f2, f3, f4, f5⟩ := hf it (by simp)
    have raw : s.heap.DictRaw a ar ep := ⟨od, (I.hok _ _ hd).1, hc0, hod⟩
    have hi' : i < ar.size := by omega
    obtain ⟨en, g1, g2⟩ := hx i xs[i] (List.getElem?_eq_getElem hi)
    refine wpAny_pyNext_values_item_raw st raw hi' fun h' st' sb => ?_
    have I1 : Inv X pins σ H { s with heap := h' } := I.turned (t' := s.toks) (fun b ob hb e => (sb.2 b hb).trans e) f0 f1 f3 f4 f5
    obtain ⟨oi, e, c, dd⟩ := id st'
    have ek : ar[i] = en := by rw [Array.getElem?_eq_getElem hi'] at g1; exact Option.some.inj g1
    exact ⟨_, rfl, go_of (s := { s with heap := h' }) e c dd (by decide) ⟨xs[i], H, I1, by rw [ek]; exact g2, ⟨rfl, List.getElem?_eq_getElem hi⟩, st', fun b hb => (hf b hb).1⟩⟩
  done := by
    intro X hP hw hK hc i pins s σ H E I hf st hg
    subst hP hw hK
    obtain ⟨hd, hi⟩ := hg
    obtain ⟨f0, f1, f2, f3, f4, f5⟩ := hf it (by simp)
    exact wpAny_pyNext_values_end_raw (I.ok.hd hc) st ⟨od, (I.hok _ _ hd).1, hc0, hod⟩ (by omega) fun h' eb => ⟨rfl, I.turned (t' := s.toks) (fun b ob hb e => eb b ob hb e) f0 f1 f3 f4 f5⟩
  self := fun A i s Q E st h => wpAny_pyIter_valiter st h
theorem turn_still_items {P : Program} {w : World} {K : PySem.W.Frag} {elts : List Expr} {kk : Nat} {tpos : Pos} {a : Addr} {od : Obj} {u : HO} {ar : Array DictEntry} {ep : Nat} {xs : List (V × V)} (it : Addr) (hc0 : od.ExactDict) (hod : od.data = .dict ar ep) (hl : ar.size = xs.length)
    (hx : ∀ (j : Nat) (x : V × V), xs[j]? = some x → ∃ en, ar[j]? = some en ∧ RelV x.1 en.key ∧ RelV x.2 en.val) :
    Turn P w K (.Tuple elts kk tpos) (ItP a od u xs) [it] it (fun i h => ∃ ok ov, IsItemIter h it a i ar.size ep ok ov) where
  mem := by simp
  obj := fun i h st b hb => by
    obtain rfl : b = it := by simpa using hb
    obtain ⟨ok, ov, e⟩ := st
    exact ⟨_, e, fun v z => nomatch z⟩
  keep := fun i h h' st k => let ⟨ok, ov, e⟩ := st; ⟨ok, ov, k it (by simp) _ e⟩
  item := by
    intro X hP hw hK hc i pins s σ H E I hf st hg
    subst hP hw hK
    obtain ⟨hd, hi⟩ := hg
    have raw : s.heap.DictRaw a ar ep := ⟨od, (I.hok _ _ hd).1, hc0, hod⟩
    have hi' : i < ar.size := by omega
    obtain ⟨en, g1, g2, g3⟩ := hx i xs[i] (List.getElem?_eq_getElem hi)
    have ek : ar[i] = en := by rw [Array.getElem?_eq_getElem hi'] at g1; exact Option.some.inj g1
    obtain ⟨ok, ov, he⟩ := st
    have hlt : it < s.heap.objs.size := Heap.lt_size he
    refine wpAny_pyNext_items_item_raw he raw hi' fun h' ho hT hz hk => ?_
    rw [ek] at ho hT
    refine ⟨_, rfl, wpAny_letOwnedTupleGo_items (s := { s with heap := h' }) ho fun h'' he' sb => ?_⟩
    have hT2 := (sb.2 _ (Nat.ne_of_gt hlt)).trans hT
    have new : ObjOk X.prog X.w (upd H s.heap.objs.size (.tup [xs[i].1, xs[i].2])) h'' s.heap.objs.size (.tup [xs[i].1, xs[i].2]) :=
      ⟨by show 2 ≤ sizeLine; decide, [en.key, en.val], .cons g2 (.cons g3 .nil), ⟨_, hT2, rfl, _, rfl⟩⟩
    have I1 : Inv X pins σ (upd H s.heap.objs.size (.tup [xs[i].1, xs[i].2])) { s with heap := h'' } :=
      I.turnedNew (t' := s.toks) (ch := [it]) (fun b ob hb e => (sb.2 b (by simpa using hb)).trans (hk b ob (by simpa using hb) e)) hf (Nat.le_refl _) new
    refine ⟨.ref s.heap.objs.size, _, I1, rfl, ⟨_, xs[i].1, xs[i].2, List.getElem?_eq_getElem hi, rfl, I.hok.fresh (Nat.le_refl _), rfl⟩, ⟨en.key, en.val, he'⟩, fun b hb => ?_⟩
    obtain rfl : b = it := by simpa using hb
    rw [upd_ne (Nat.ne_of_lt hlt)]
    exact (hf b (by simp)).1
  done := by
    intro X hP hw hK hc i pins s σ H E I hf st hg
    subst hP hw hK
    obtain ⟨hd, hi⟩ := hg
    obtain ⟨f0, f1, f2, f3, f4, f5⟩ := hf it (by simp)
    obtain ⟨ok, ov, he⟩ := st
    exact wpAny_pyNext_items_end_raw (I.ok.hd hc) he ⟨od, (I.hok _ _ hd).1, hc0, hod⟩ (by omega) fun h' eb => ⟨rfl, I.turned (t' := s.toks) (fun b ob hb e => eb b ob hb e) f0 f1 f3 f4 f5⟩
  self := fun A i s Q E st h => let ⟨_, _, e⟩ := st; PySem.W.kcp_self e h
/-- what is asked of the walk: a list, a tuple, or a dict that stands still -/
def iAny (X : Cx) (c : Ct) (tl : TE) : TI := fun σ H R => tl σ H fun x H1 => (∃ a xs k, x = .ref a ∧ SqB X.K H1 a xs k ∧ (xs.length ≤ sizeLine → R (if k then Itl X.K a else Itt X.K a) H1)) ∨
  ∃ ρ h i kvs, x = .ref (ρ i) ∧ RelH (tb X c) ρ h H1 ∧ h[i]? = some (.lck kvs) ∧ ∀ od u ar ep, Still X.K H1 h.length ρ (ρ i) od u ar ep kvs → ∀ xs : List V, xs.length = kvs.length → (∀ (j : Nat) (x : V), xs[j]? = some x → ∃ k d, kvs[j]? = some (k, d) ∧ RelP X.K H1 k x) → R (ItS (ρ i) od u xs) H1
theorem still_keys {H : Hp} {n : Nat} {ρ : Nat → Addr} {a : Addr} {od : Obj} {u : HO} {ar : Array DictEntry} {ep : Nat} {kvs : Kvs} (S : Still X.K H n ρ a od u ar ep kvs) : ∃ xs : List V, xs.length = kvs.length ∧ (∀ (j : Nat) (x : V), xs[j]? = some x → ∃ k d, kvs[j]? = some (k, d) ∧ RelP X.K H k x) ∧ ∀ (j : Nat) (x : V), xs[j]? = some x → ∃ en, ar[j]? = some en ∧ RelV x en.key := by
  have each : ∀ j : Nat, j < kvs.length → ∃ x : V, (∃ k d, kvs[j]? = some (k, d) ∧ RelP X.K H k x) ∧ ∃ en, ar[j]? = some en ∧ RelV x en.key := fun j hj => by
    obtain ⟨en, kv, vv, h1, h2, h3, h4, h5⟩ := S.row j kvs[j].1 kvs[j].2 (List.getElem?_eq_getElem hj)
    exact ⟨kv, ⟨_, _, List.getElem?_eq_getElem hj, h2⟩, en, h1, h3⟩
  obtain ⟨xs, l, p⟩ := list_choose kvs.length each
  exact ⟨xs, l, fun j x h => (p j x h).1, fun j x h => (p j x h).2⟩
theorem pi_any {tg l : Expr} {tl : TE} (hl : PE X l tl) : PI X tg l (iAny X c tl) := by
  refine ⟨fun pins s σ H R I h => ?_⟩
  refine thn (hl.run pins s σ H _ I h) fun v s1 ⟨x, H1, I1, r1, q1⟩ => ?_
  rcases q1 with ⟨a, xs, k, e, sq, q⟩ | ⟨ρ, hh, i, kvs, e, Rh, gi, q⟩
  · subst e
    cases r1
    cases k with
    | true =>
      obtain ⟨its, rv, p, hz⟩ := I1.list sq
      refine wpAny_pyIter_list p.isList ⟨s1.heap.objs.size, [s1.heap.objs.size], _, _, H1, rfl, I1.kept (t' := s1.toks) fun b o e => Heap.get?_push_of_some _ e, turn_list a _, ⟨_, Heap.get?_push_size _ rfl, rfl, rfl⟩, fun b hb => ?_, q hz⟩
      obtain rfl : b = s1.heap.objs.size := by simpa using hb
      exact I1.fpOk (Nat.le_refl _) (I1.hok.fresh (Nat.le_refl _))
    | false =>
      obtain ⟨its, rv, p, hz⟩ := I1.tuple sq
      refine wpAny_pyIter_tuple (show s1.heap.IsTuple a its.toArray from p) ⟨s1.heap.objs.size, [s1.heap.objs.size], _, _, H1, rfl, I1.kept (t' := s1.toks) fun b o e => Heap.get?_push_of_some _ e, turn_tuple a _, ⟨_, Heap.get?_push_size _ rfl, rfl, rfl⟩, fun b hb => ?_, q hz⟩
      obtain rfl : b = s1.heap.objs.size := by simpa using hb
      exact I1.fpOk (Nat.le_refl _) (I1.hok.fresh (Nat.le_refl _))
  · subst e
    cases r1
    obtain ⟨od, u, ar, ep, S⟩ := still_of I1 Rh gi
    obtain ⟨xs, lx, p1, p2⟩ := still_keys S
    refine wpAny_pyIter_dict_raw S.notSys ⟨od, (I1.hok _ _ S.at_).1, S.cls, S.data⟩ (pi_one (tk := s1.toks) I1 _ (turn_still_keys _ S.cls S.data (by rw [S.size, lx]) p2) ⟨_, Heap.get?_push_size _ rfl, rfl, rfl⟩ (q od u ar ep S xs lx p1))
/-- d.values() -/
def iValsS (X : Cx) (c : Ct) (tl : TE) : TI := fun σ H R => tl σ H fun x H1 => ∃ ρ h i kvs, x = .ref (ρ i) ∧ RelH (tb X c) ρ h H1 ∧ h[i]? = some (.lck kvs) ∧ ∀ od u ar ep, Still X.K H1 h.length ρ (ρ i) od u ar ep kvs → ∀ xs : List V, xs.length = kvs.length →
  (∀ (j : Nat) (x : V), xs[j]? = some x → ∃ k d, kvs[j]? = some (k, d) ∧ RelD X.K H1 h.length ρ d x) → R (ItS (ρ i) od u xs) H1
def iItemsS (X : Cx) (c : Ct) (tl : TE) : TI := fun σ H R => tl σ H fun x H1 => ∃ ρ h i kvs, x = .ref (ρ i) ∧ RelH (tb X c) ρ h H1 ∧ h[i]? = some (.lck kvs) ∧ ∀ od u ar ep, Still X.K H1 h.length ρ (ρ i) od u ar ep kvs → ∀ xs : List (V × V), xs.length = kvs.length →
  (∀ (j : Nat) (x : V × V), xs[j]? = some x → ∃ k d, kvs[j]? = some (k, d) ∧ RelP X.K H1 k x.1 ∧ RelD X.K H1 h.length ρ d x.2) → R (ItP (ρ i) od u xs) H1
theorem pi_valsS {tg l : Expr} {tl : TE} {apos cpos : Pos} (he : PE X l tl) (hbase : attributeBase l "values" X.env (eval l X.env) = eval l X.env) (hline : (apos.endLine == cpos.line) = true) : PI X tg (.Call (.Attribute l "values" apos) [] [] cpos) (iValsS X c tl) := by
  refine ⟨fun pins s σ H R I h => ?_⟩
  refine wpAny_Call_method (T := "dict") (id := "dict.values") hbase rfl hline F.plainAttrs_dict F.slot_dict_values F.type_dict_values (thn (he.run pins s σ H _ I h) fun v s1 ⟨x, H1, I1, rx, ρ, hh, i, kvs, e, Rh, gi, q⟩ => ?_)
  subst e
  cases rx
  obtain ⟨od, u, ar, ep, S⟩ := still_of I1 Rh gi
  have raw : s1.heap.DictRaw (ρ i) ar ep := ⟨od, (I1.hok _ _ S.at_).1, S.cls, S.data⟩
  refine ⟨raw.typeIs, fun b e => by cases e; exact ⟨od, (I1.hok _ _ S.at_).1, S.cls.2.1⟩, ?_⟩
  have each : ∀ j : Nat, j < kvs.length → ∃ x : V, (∃ k d, kvs[j]? = some (k, d) ∧ RelD X.K H1 hh.length ρ d x) ∧ ∃ en, ar[j]? = some en ∧ RelV x en.val := fun j hj => by
    obtain ⟨en, kv, vv, h1, h2, h3, h4, h5⟩ := S.row j kvs[j].1 kvs[j].2 (List.getElem?_eq_getElem hj)
    exact ⟨vv, ⟨_, _, List.getElem?_eq_getElem hj, h4⟩, en, h1, h5⟩
  obtain ⟨xs, lx, p⟩ := list_choose kvs.length each
  have I2 : Inv X pins σ H1 { s1 with heap := s1.heap.push { cls := .type "dict_values", data := .fields #[.ref (ρ i)] } } := I1.kept (t' := s1.toks) fun b ob q => Heap.get?_push_of_some _ q
  have fin : wpAny (model X.prog X.w) X.A (pyIter (.ref s1.heap.objs.size)) (PIE X pins σ tg R) X.xe { s1 with heap := s1.heap.push { cls := .type "dict_values", data := .fields #[.ref (ρ i)] } } :=
    wpAny_pyIter_values_raw (d := ρ i) ⟨_, Heap.get?_push_size _ rfl, rfl, rfl⟩ (raw.at fun o e => Heap.get?_push_of_some _ e) (pi_one (tk := s1.toks) I2 _ (turn_still_vals _ S.cls S.data (by rw [S.size, lx]) fun j x h => (p j x h).2) ⟨_, Heap.get?_push_size _ rfl, rfl, rfl⟩ (q od u ar ep S xs lx fun j x h => (p j x h).1))
  exact method_meetsIn F.slot_dict_values F.entry_dict_values rfl (PySem.evalArgs_none ⟨rfl, raw.typeIs, F.args_dict_values_1 _, _, meets_dict_values_raw (ρ i) S.notSys, ⟨ar, ep, raw⟩, fin⟩)
theorem pi_itemsS {elts : List Expr} {kk : Nat} {tpos : Pos} {l : Expr} {tl : TE} {apos cpos : Pos} (he : PE X l tl) (hbase : attributeBase l "items" X.env (eval l X.env) = eval l X.env) (hline : (apos.endLine == cpos.line) = true) : PI X (.Tuple elts kk tpos) (.Call (.Attribute l "items" apos) [] [] cpos) (iItemsS X c tl) := by
  refine ⟨fun pins s σ H R I h => ?_⟩
  refine wpAny_Call_method (T := "dict") (id := "dict.items") hbase rfl hline F.plainAttrs_dict F.slot_dict_items F.type_dict_items (thn (he.run pins s σ H _ I h) fun v s1 ⟨x, H1, I1, rx, ρ, hh, i, kvs, e, Rh, gi, q⟩ => ?_)
  subst e
  cases rx
  obtain ⟨od, u, ar, ep, S⟩ := still_of I1 Rh gi
  have raw : s1.heap.DictRaw (ρ i) ar ep := ⟨od, (I1.hok _ _ S.at_).1, S.cls, S.data⟩
  refine ⟨raw.typeIs, fun b e => by cases e; exact ⟨od, (I1.hok _ _ S.at_).1, S.cls.2.1⟩, ?_⟩
  have each : ∀ j : Nat, j < kvs.length → ∃ x : V × V, (∃ k d, kvs[j]? = some (k, d) ∧ RelP X.K H1 k x.1 ∧ RelD X.K H1 hh.length ρ d x.2) ∧ ∃ en, ar[j]? = some en ∧ RelV x.1 en.key ∧ RelV x.2 en.val := fun j hj => by
    obtain ⟨en, kv, vv, h1, h2, h3, h4, h5⟩ := S.row j kvs[j].1 kvs[j].2 (List.getElem?_eq_getElem hj)
    exact ⟨(kv, vv), ⟨_, _, List.getElem?_eq_getElem hj, h2, h4⟩, en, h1, h3, h5⟩
  obtain ⟨xs, lx, p⟩ := list_choose kvs.length each
  have I2 : Inv X pins σ H1 { s1 with heap := s1.heap.push { cls := .type "dict_items", data := .fields #[.ref (ρ i)] } } := I1.kept (t' := s1.toks) fun b ob q => Heap.get?_push_of_some _ q
  have fin : wpAny (model X.prog X.w) X.A (pyIter (.ref s1.heap.objs.size)) (PIE X pins σ (.Tuple elts kk tpos) R) X.xe { s1 with heap := s1.heap.push { cls := .type "dict_items", data := .fields #[.ref (ρ i)] } } :=
    wpAny_pyIter_items_raw (d := ρ i) ⟨_, Heap.get?_push_size _ rfl, rfl, rfl⟩ (raw.at fun o e => Heap.get?_push_of_some _ e) (pi_one (tk := s1.toks) I2 _ (turn_still_items _ S.cls S.data (by rw [S.size, lx]) fun j x h => (p j x h).2) ⟨.none, .none, Heap.get?_push_size _ rfl⟩ (q od u ar ep S xs lx fun j x h => (p j x h).1))
  exact method_meetsIn F.slot_dict_items F.entry_dict_items rfl (PySem.evalArgs_none ⟨rfl, raw.typeIs, F.args_dict_items_1 _, _, meets_dict_items_raw (ρ i) S.notSys, ⟨ar, ep, raw⟩, fin⟩)
end
end Pv

/-! J: targets, what is walked, comprehensions. -/
namespace Pv
open PySem L2 PySem.Spec PyProof.Rows

/-! ### targets -/
def OutG (T : Tb) (W : WX) (vs : List Nat) (n : Nat) (ρ : Nat → Addr) (H : Hp) (σ : L2.St) (Q : L2.St → Hp → Prop) : R Sg → Prop
  | .stuck => False
  | .ok sg h' => ∀ ρ' σ' H', n ≤ h'.length → Ext n ρ ρ' → Keep T.K H H' → RelH T ρ' h' H' → RelS T.K H' h'.length ρ' sg σ' → wipe σ' vs = wipe σ vs → Q σ' H'
  | .exc x h' => ∀ ρ' c d H', n ≤ h'.length → Ext n ρ ρ' → Keep T.K H H' → RelH T ρ' h' H' → RelX T H' h'.length ρ' x c d → W c d σ H'
theorem OutG.later {T : Tb} {W : WX} {vs : List Nat} {n n' : Nat} {ρ ρ' : Nat → Addr} {H H' : Hp} {σ : L2.St} {Q : L2.St → Hp → Prop} {r : R Sg} (o : OutG T W vs n ρ H σ Q r) (hn : n ≤ n') (e : Ext n ρ ρ') (k : Keep T.K H H') : OutG T W vs n' ρ' H' σ Q r := by
  cases r with
  | stuck => exact o
  | ok a h' => exact fun ρ'' b H'' l1 e1 k1 R1 r1 w => o ρ'' b H'' (Nat.le_trans hn l1) (e.trans e1 hn) (k.trans k1) R1 r1 w
  | exc x h' => exact fun ρ'' c d H'' l1 e1 k1 R1 r1 => o ρ'' c d H'' (Nat.le_trans hn l1) (e.trans e1 hn) (k.trans k1) R1 r1
/-- held: a value; what is stored is told by f -/
def tHG {α β : Type} (T : Tb) (W : WX) (vs : List Nat) (l : RL T.K α β) (f : Sg → α → Hh → R Sg) (x : β) (σ : L2.St) (H : Hp) (Q : L2.St → Hp → Prop) : Prop :=
  ∃ ρ sg h a, At T l x σ H ρ sg h a ∧ OutG T W vs h.length ρ H σ Q (f sg a h)
abbrev tTg (T : Tb) (W : WX) (vs : List Nat) (asg : D → Sg → Hh → R Sg) : TG := fun v σ H Q => tHG T W vs RL.d (fun sg d h => asg d sg h) v σ H Q
abbrev tTgs (T : Tb) (W : WX) (vs : List Nat) (asg : List D → Sg → Hh → R Sg) : TGs := fun v σ H Q => tHG T W vs RL.ds (fun sg d h => asg d sg h) v σ H Q
theorem tHG.step {T : Tb} {W : WX} {vs : List Nat} {α β γ δ : Type} {l : RL T.K α β} {m : RL T.K γ δ} {ev : Sg → Hh → R γ} (k : Sg → α × γ → Hh → R Sg) {x : β} {σ : L2.St} {H : Hp} {Q : L2.St → Hp → Prop} (t : tHG T W vs l (fun sg a h => (ev sg h).bind fun b h1 => k sg (a, b) h1) x σ H Q) :
    tG T W m ev σ H fun y H1 => tHG T W vs (l.x m) k (x, y) σ H1 Q := by
  obtain ⟨ρ, sg, h, a, A, o⟩ := t
  refine ⟨ρ, sg, h, (), ⟨A.s, A.o, True.intro⟩, ?_⟩
  show Out T m W h.length ρ H σ _ (ev sg h)
  have o : OutG T W vs h.length ρ H σ Q ((ev sg h).bind fun b h1 => k sg (a, b) h1) := o
  cases e : ev sg h with
  | stuck => rw [e] at o; exact o
  | ok b h1 =>
    rw [e] at o
    intro ρ1 y H1 l1 e1 k1 R1 r1
    exact ⟨ρ1, sg, h1, (a, b), ⟨A.s.mono k1 e1 l1, R1, l.mono k1 e1 l1 A.a, r1⟩, OutG.later o l1 e1 k1⟩
  | exc x h1 =>
    rw [e] at o
    exact fun ρ1 c d H1 l1 e1 k1 R1 r1 => o ρ1 c d H1 l1 e1 k1 R1 r1
theorem wipe_in {σ : L2.St} {i : Nat} : ∀ {vs : List Nat}, i ∈ vs → i < σ.length → (wipe σ vs)[i]? = some none
  | [], h, _ => by cases h
  | v :: vs, h, l => by
    unfold wipe
    by_cases q : v = i
    · subst q
      rw [List.getElem?_set_self (by rw [wipe_length]; exact l)]
    · rw [List.getElem?_set_ne q]
      exact wipe_in (by rcases List.mem_cons.mp h with z | z; exact absurd z.symm q; exact z) l
theorem wipe_set {σ : L2.St} {i : Nat} {a : Option V} {vs : List Nat} (h : i ∈ vs) : wipe (σ.set i a) vs = wipe σ vs := by
  refine List.ext_getElem? fun j => ?_
  by_cases q : j ∈ vs
  · by_cases l : j < σ.length
    · rw [wipe_in q l, wipe_in q (by rw [List.length_set]; exact l)]
    · rw [List.getElem?_eq_none (by rw [wipe_length, List.length_set]; omega), List.getElem?_eq_none (by rw [wipe_length]; omega)]
  · rw [wipe_out q, wipe_out q, List.getElem?_set_ne (by rintro rfl; exact q h)]

section
variable {X : Cx} {c : Ct} {W : WX} {g : G} {e e2 : Expr} {a b : IE} {pos : Pos} {vs : List Nat}
theorem pg_nameE {i : Nat} {x : Str} (hN : X.N.Nodup) (hi : X.N[i]? = some x) (hx : Loc X.env.scope x) (hf : X.fn x = true ∨ X.env.scope.names.lookup x = some .local) (hv : i ∈ vs) : PG X (.Name x pos) (tTg (tb X c) W vs (asgT g (.v i))) := by
  refine ⟨fun pins s σ H v u Q I r t => (pg_name hN hi hx hf).run pins s σ H v u Q I r ?_⟩
  obtain ⟨ρ, sg, hh, d, A, o⟩ := t
  exact o ρ _ H (Nat.le_refl _) (Ext.refl _ _) (Keep.refl _ _) A.o (A.s.set A.a) (wipe_set hv)
theorem pg_fldE {f : Nat} {z : Str} (ok : CtOk X.K c) (hz : c.fld f = some z) (hF : g.fok = c.fok) (ha : PE X e (tEe X c W g a)) : PG X (.Attribute e z pos) (tTg (tb X c) W vs (asgT g (.attr a f))) := by
  refine ⟨fun pins s σ H v u Q I r t => (pg_fld ha).run pins s σ H v u Q I r ?_⟩
  refine tG_mono (fun x H1 q => ?_) (tHG.step (m := RL.d) (k := fun sg (p : D × D) h => (putAttrS g.fok p.2 f p.1 h).bind fun _ h2 => R.ok sg h2) t)
  obtain ⟨ρ, sg, hh, d, A, o⟩ := q
  rw [hF] at o
  refine putAttr_at (W := W) (σ := σ) ok hz A.o A.a.2 A.a.1 ?_
  dsimp only at o
  cases q : putAttrS c.fok d.2 f d.1 hh with
  | stuck => rw [q] at o; exact o
  | exc _ _ => rw [q] at o; exact o
  | ok _ h2 =>
    rw [q] at o
    exact fun ρ' b' H' l1 e1 k1 R1 r1 => o ρ' σ H' l1 e1 k1 R1 (A.s.mono k1 e1 l1) rfl
theorem pg_subE (hu : X.A.units + 66 < cLine) (hp : plainIx e2 = true) (ha : PE X e (tEe X c W g a)) (hb : PE X e2 (tEe X c W g b)) : PG X (.Subscript e e2 pos) (tTg (tb X c) W vs (asgT g (.sub a b))) := by
  refine ⟨fun pins s σ H v u Q I r t => ?_⟩
  have ha' : assign (.Subscript e e2 pos) X.env u = (do
      let ov ← holding [u] (eval e X.env)
      let iv ← holding [u, ov] (eval e2 X.env)
      standAt pos
      holding [u, ov, iv] (setItem ov iv u)
      release [u, ov, iv] []) := by cases e2 <;> first | rfl | cases hp
  rw [ha']
  refine wpAny_bind (wpAny_holding (thn (ha.run pins s σ H _ I (tHG.step (m := RL.d) (k := fun sg (p : D × D) h => (evE g b sg h).bind fun y h2 => (putS p.2 y p.1 h2).bind fun _ h3 => R.ok sg h3) t)) fun ov s1 ⟨x, H1, I1, r1, q1⟩ => ?_))
  refine wpAny_bind (wpAny_holding (thn (hb.run pins s1 σ H1 _ I1 (tHG.step (m := RL.d) (k := fun sg (p : (D × D) × D) h => (putS p.1.2 p.2 p.1.1 h).bind fun _ h3 => R.ok sg h3) q1)) fun iv s2 ⟨y, H2, I2, r2, q2⟩ => ?_))
  obtain ⟨ρ, sg, hh, d, A, o⟩ := q2
  refine wpAny_bind (wpAny_standAt (wpAny_bind (wpAny_holding (thn (put_ok (W := W) (σ := σ) (Q := fun H' => Q σ H') hu I2 r1 r2 r A.o A.a.1.2 A.a.2 A.a.1.1 ?_) fun _ s3 ⟨H3, I3, q3⟩ => ?_))))
  · dsimp only at o
    cases q : putS d.1.2 d.2 d.1.1 hh with
    | stuck => rw [q] at o; exact o
    | exc _ _ => rw [q] at o; exact o
    | ok _ h2 =>
      rw [q] at o
      exact fun ρ' b' H' l1 e1 k1 R1 r1 => o ρ' σ H' l1 e1 k1 R1 (A.s.mono k1 e1 l1) rfl
  · exact wpAny_release ⟨σ, H3, I3, q3⟩
theorem each_of' {es : List Expr} {env : Env} (h : noStar e = true) : assignEach (e :: es) env = (false, assign e env) :: assignEach es env := by
  cases e <;> first | rfl | cases h
theorem each_all {env : Env} : ∀ {es : List Expr}, noStars es → (assignEach es env).length = es.length ∧ (assignEach es env).findIdx? (·.1) = none
  | [], _ => ⟨rfl, rfl⟩
  | e :: es, h => by
    obtain ⟨h1, h2⟩ := each_all (env := env) (es := es) fun x hx => h x (List.mem_cons_of_mem _ hx)
    rw [each_of' (h e List.mem_cons_self)]
    exact ⟨by simp [h1], by simp [List.findIdx?_cons, h2]⟩
theorem asgTs_quiet : ∀ (ts : ITgs) (ds : List D) (s : Sg) (h : Hh) (x : Ex) (h' : Hh), asgTs g ts ds s h ≠ .exc x h'
  | .nil, ds, s, h, x, h', e => by
    cases ds <;> simp [asgTs] at e
  | .cons t ts, ds, s, h, x, h', e => by
    cases ds with
    | nil => simp [asgTs] at e
    | cons d ds =>
      simp only [asgTs] at e
      split at e
      · exact asgTs_quiet ts _ _ _ _ _ e
      · cases e
theorem pgs_nilE : PGs X [] (tTgs (tb X c) W vs (asgTs g .nil)) := by
  refine ⟨fun pins s σ H v u Q I r t => pgs_nil.run pins s σ H v u Q I r ?_⟩
  obtain ⟨ρ, sg, hh, ds, A, o⟩ := t
  have ra : RelDs X.K H hh.length ρ ds v := A.a
  cases ra with
  | nil => exact ⟨rfl, o ρ _ H (Nat.le_refl _) (Ext.refl _ _) (Keep.refl _ _) A.o A.s rfl⟩
  | cons _ _ => exact o.elim
theorem pgs_consE {es : List Expr} {t : ITg} {ts : ITgs} (hs : noStar e = true) (h1 : PG X e (tTg (tb X c) W vs (asgT g t))) (h2 : PGs X es (tTgs (tb X c) W vs (asgTs g ts))) : PGs X (e :: es) (tTgs (tb X c) W vs (asgTs g (.cons t ts))) := by
  refine ⟨fun pins s σ H v u Q I r q => (pgs_cons h1 h2 (by rw [each_of' hs]; rfl)).run pins s σ H v u Q I r ?_⟩
  obtain ⟨ρ, sg, hh, ds, A, o⟩ := q
  have ra : RelDs X.K H hh.length ρ ds v := A.a
  cases ra with
  | nil => exact o.elim
  | cons r1 r2 =>
    rename_i d v0 ds' vr
    refine ⟨_, _, rfl, ρ, sg, hh, d, ⟨A.s, A.o, r1⟩, ?_⟩
    have o : OutG (tb X c) W vs hh.length ρ H σ Q (match asgT g t d sg hh with
      | .ok s1 h1 => asgTs g ts ds' s1 h1
      | _ => .stuck) := o
    show OutG (tb X c) W vs hh.length ρ H σ _ (asgT g t d sg hh)
    cases q : asgT g t d sg hh with
    | stuck => rw [q] at o; exact o.elim
    | exc _ _ => rw [q] at o; exact o.elim
    | ok s1 h1 =>
      rw [q] at o
      dsimp only at o
      intro ρ' σ' H' l1 e1 k1 R1 rs w1
      refine ⟨ρ', s1, h1, ds', ⟨rs, R1, r2.mono k1 e1 l1⟩, ?_⟩
      have o := OutG.later o l1 e1 k1
      show OutG (tb X c) W vs h1.length ρ' H' σ' Q (asgTs g ts ds' s1 h1)
      cases q2 : asgTs g ts ds' s1 h1 with
      | stuck => rw [q2] at o; exact o
      | exc x h2 => exact absurd q2 (asgTs_quiet ts ds' s1 h1 x h2)
      | ok s2 h2 =>
        rw [q2] at o
        exact fun ρ2 σ2 H2 l2 e2 k2 R2 rs2 w2 => o ρ2 σ2 H2 l2 e2 k2 R2 rs2 (w2.trans w1)
theorem pg_tupE {es : List Expr} {k : Nat} {ts : ITgs} (hc : X.calm = true) (ns : noStars es) (h : PGs X es (tTgs (tb X c) W vs (asgTs g ts))) : PG X (.Tuple es k pos) (tTg (tb X c) W vs (asgT g (.tup es.length ts))) := by
  refine ⟨fun pins s σ H v u Q I r q => (pg_tup (n := es.length) hc h (each_all ns).1 (each_all ns).2).run pins s σ H v u Q I r ?_⟩
  obtain ⟨ρ, sg, hh, d, A, o⟩ := q
  have o : OutG (tb X c) W vs hh.length ρ H σ Q (match d.items with
    | some ds => if ds.length = es.length then asgTs g ts ds sg hh else .stuck
    | none => .stuck) := o
  cases q : d.items with
  | none => rw [q] at o; exact o.elim
  | some ds =>
    rw [q] at o
    dsimp only at o
    split at o
    · rename_i l
      obtain ⟨p, xs, rfl, t, rd⟩ := RelD.items A.a q
      exact ⟨p, xs, rfl, t, by rw [← rd.length]; exact l, ρ, sg, hh, ds, ⟨A.s, A.o, rd⟩, o⟩
    · exact o.elim

/-! ### what is walked -/
def Wk (T : Tb) : RL T.K (List D × Gd) It := ⟨fun H n ρ a J => ∀ (i : Nat) (H' : Hp) (h' : Hh) (ρ' : Nat → Addr), n ≤ h'.length → Ext n ρ ρ' → Keep T.K H H' → RelH T ρ' h' H' → a.2.ok h' = true →
    (i = a.1.length → J.stop i H') ∧ ∀ d, a.1[i]? = some d → J.go i H' ∧ ∀ x H'', J.yld i H' x H'' → Keep T.K H' H'' ∧ RelH T ρ' h' H'' ∧ RelD T.K H'' h'.length ρ' d x,
  fun k e l r i H' h' ρ' l1 e1 k1 R1 q => r i H' h' ρ' (Nat.le_trans l l1) (e.trans e1 l) (k.trans k1) R1 q⟩
theorem wk_src {ρ : Nat → Addr} {h : Hh} {H : Hp} {d : D} {x : V} {ds : List D} (R : RelH (tb X c) ρ h H) (ra : RelD X.K H h.length ρ d x) (e : seqOf h d = some ds) :
    ∃ q vs k, x = .ref q ∧ SqB X.K H q vs k ∧ RelDs X.K H h.length ρ ds vs ∧ ∀ (H' : Hp) (h' : Hh) (ρ' : Nat → Addr), h.length ≤ h'.length → Ext h.length ρ ρ' → Keep X.K H H' → RelH (tb X c) ρ' h' H' → (gdOf h d).ok h' = true →
      ∃ vs', SqB X.K H' q vs' k ∧ RelDs X.K H' h'.length ρ' ds vs' := by
  cases ra with
  | p r =>
    cases r with
    | tup q rs => cases e; exact ⟨_, _, false, rfl, q.sq, rs.toDs, fun H' h' ρ' l1 e1 k1 R1 _ => ⟨_, (k1.p q).sq, (rs.keep k1).toDs⟩⟩
    | non => cases e
    | bl _ => cases e
    | int _ => cases e
    | str _ => cases e
  | t q rs => cases e; exact ⟨_, _, false, rfl, q, rs, fun H' h' ρ' l1 e1 k1 R1 _ => ⟨_, k1.1 _ _ q, rs.mono k1 e1 l1⟩⟩
  | r hi =>
    rename_i i
    simp only [seqOf, lstOf] at e
    cases g : h[i]? with
    | none => rw [g] at e; cases e
    | some ob =>
      rw [g] at e
      have ro := R.obj i ob g
      have gd : ∀ h', (gdOf h (.r i)).ok h' = true → h'[i]? = some ob := fun h' q => by
        simp only [gdOf, g] at q
        simpa using q
      cases ob with
      | lst ys =>
        cases e
        obtain ⟨vs, q, r⟩ := ro
        refine ⟨_, vs, true, rfl, .inl (.inl q), r, fun H' h' ρ' l1 e1 k1 R1 ok => ?_⟩
        obtain ⟨vs', q', r'⟩ := R1.obj i _ (gd h' ok)
        rw [e1 i hi] at q'
        exact ⟨vs', .inl (.inl q'), r'⟩
      | ro ys =>
        cases e
        obtain ⟨vs, q, r⟩ := ro
        refine ⟨_, vs, true, rfl, q.sq, r.toDs, fun H' h' ρ' l1 e1 k1 R1 ok => ?_⟩
        obtain ⟨vs', q', r'⟩ := R1.obj i _ (gd h' ok)
        rw [e1 i hi] at q'
        exact ⟨vs', q'.sq, r'.toDs⟩
      | dct _ => cases e
      | lck _ => cases e
      | set _ => cases e
      | ins _ _ => cases e
/-- what stands still is walked row by row -/
theorem still_wk {H1 : Hp} {hh : Hh} {ρ : Nat → Addr} {i : Nat} {kvs : Kvs} {od : Obj} {u : HO} {ar : Array DictEntry} {ep : Nat} {J : It} {ds : List D} (A : RelH (tb X c) ρ hh H1) (S : Still X.K H1 hh.length ρ (ρ i) od u ar ep kvs) (hl : ds.length = kvs.length)
    (stop : ∀ j H, H (ρ i) = some (.frz od u) → kvs.length ≤ j → J.stop j H) (go : ∀ j H, H (ρ i) = some (.frz od u) → j < kvs.length → J.go j H)
    (yld : ∀ (j : Nat) (H' : Hp) (x : V) (H'' : Hp) (h' : Hh) (ρ' : Nat → Addr) (d : D), hh.length ≤ h'.length → Ext hh.length ρ ρ' → Keep X.K H1 H' → RelH (tb X c) ρ' h' H' → ds[j]? = some d → J.yld j H' x H'' → Keep X.K H' H'' ∧ RelH (tb X c) ρ' h' H'' ∧ RelD X.K H'' h'.length ρ' d x) : (Wk (tb X c)).r H1 hh.length ρ (ds, gdOf hh (.r i)) J := by
  intro j H' h' ρ' l1 e1 k1 R1 ok
  have hf : H' (ρ i) = some (.frz od u) := k1.2 _ _ _ S.at_
  refine ⟨fun ej => stop j H' hf (by rw [← hl]; exact Nat.le_of_eq ej.symm), fun d ed => ⟨go j H' hf ?_, fun x H'' y => yld j H' x H'' h' ρ' d l1 e1 k1 R1 ed y⟩⟩
  rw [← hl]
  exact (List.getElem?_eq_some_iff.mp ed).1
theorem lck_at {H : Hp} {hh : Hh} {ρ : Nat → Addr} {d : D} {x : V} {kvs : Kvs} (ra : RelD X.K H hh.length ρ d x) (e : lckOf hh d = some kvs) : ∃ i, d = .r i ∧ hh[i]? = some (.lck kvs) ∧ x = .ref (ρ i) := by
  unfold lckOf at e
  split at e
  · rename_i i
    split at e
    · rename_i g
      cases e
      exact ⟨i, rfl, g, RelD.r_inv ra⟩
    · cases e
  · cases e
theorem pi_ofE {tg : Expr} (ha : PE X e (tEe X c W g a)) : PI X tg e (tG (tb X c) W (Wk (tb X c)) (evI g (.of a))) := by
  refine ⟨fun pins s σ H R' I t => (pi_any (c := c) ha).run pins s σ H R' I ?_⟩
  refine tG_mono (fun x H1 q => ?_) (tG.step (m := RL.d) (ev := evE g a) (k := fun sg x h1 => match seqOf h1 x with
    | some ds => .ok (ds, gdOf h1 x) h1
    | none => match lckOf h1 x with
      | some kvs => .ok (kvs.map fun kv => .p kv.1, gdOf h1 x) h1
      | none => .stuck) t)
  obtain ⟨ρ, sg, hh, d, A, o⟩ := q
  dsimp only at o
  cases q : seqOf hh d with
  | none =>
    rw [q] at o
    dsimp only at o
    cases q2 : lckOf hh d with
    | none => rw [q2] at o; exact o.elim
    | some kvs =>
      rw [q2] at o
      obtain ⟨i, rfl, gi, rfl⟩ := lck_at A.a q2
      refine .inr ⟨ρ, hh, i, kvs, rfl, A.o, gi, fun od u ar ep S xs lx px => ?_⟩
      refine o ρ _ H1 (Nat.le_refl _) (Ext.refl _ _) (Keep.refl _ _) A.o (still_wk A.o S (by simp) (fun j H h1 h2 => ⟨h1, by omega⟩) (fun j H h1 h2 => ⟨h1, by omega⟩) fun j H' x H'' h' ρ' d l1 e1 k1 R1 ed y => ?_)
      obtain ⟨rfl, ex⟩ := y
      obtain ⟨k, dd, g1, g2⟩ := px j x ex
      rw [List.getElem?_map, g1] at ed
      cases ed
      exact ⟨Keep.refl _ _, R1, .p (g2.keep k1)⟩
  | some ds =>
    rw [q] at o
    obtain ⟨p, vs, k, rfl, sq, rd, lat⟩ := wk_src A.o A.a q
    refine .inl ⟨p, vs, k, rfl, sq, fun _ => ?_⟩
    refine o ρ _ H1 (Nat.le_refl _) (Ext.refl _ _) (Keep.refl _ _) A.o fun i H' h' ρ' l1 e1 k1 R1 ok => ?_
    obtain ⟨vs', sq', rd'⟩ := lat H' h' ρ' l1 e1 k1 R1 ok
    cases k with
    | true =>
      refine ⟨fun ei => ⟨vs', sq', by rw [ei, rd'.length]; exact Nat.le_refl _⟩, fun d ed => ?_⟩
      obtain ⟨v, ev, rv⟩ := rd'.get ed
      refine ⟨⟨vs', v, sq', ev⟩, fun x H'' y => ?_⟩
      obtain ⟨rfl, y⟩ := y
      have := y vs' sq'
      rw [ev] at this
      cases this
      exact ⟨Keep.refl _ _, R1, rv⟩
    | false =>
      refine ⟨fun ei => ⟨vs', sq', by rw [ei, rd'.length]; exact Nat.le_refl _⟩, fun d ed => ?_⟩
      obtain ⟨v, ev, rv⟩ := rd'.get ed
      refine ⟨⟨vs', v, sq', ev⟩, fun x H'' y => ?_⟩
      obtain ⟨rfl, y⟩ := y
      have := y vs' sq'
      rw [ev] at this
      cases this
      exact ⟨Keep.refl _ _, R1, rv⟩
theorem pi_valsE {tg : Expr} {ap : Pos} (hs : isSuper e = false) (hline : (ap.endLine == pos.line) = true) (ha : PE X e (tEe X c W g a)) : PI X tg (.Call (.Attribute e "values" ap) [] [] pos) (tG (tb X c) W (Wk (tb X c)) (evI g (.vals a))) := by
  refine ⟨fun pins s σ H R' I t => (pi_valsS (c := c) ha (base_of hs) hline).run pins s σ H R' I ?_⟩
  refine tG_mono (fun x H1 q => ?_) (tG.step (m := RL.d) (ev := evE g a) (k := fun sg x h1 => match lckOf h1 x with
    | some kvs => .ok (kvs.map fun kv => kv.2, gdOf h1 x) h1
    | none => .stuck) t)
  obtain ⟨ρ, sg, hh, d, A, o⟩ := q
  dsimp only at o
  cases q2 : lckOf hh d with
  | none => rw [q2] at o; exact o.elim
  | some kvs =>
    rw [q2] at o
    obtain ⟨i, rfl, gi, rfl⟩ := lck_at A.a q2
    refine ⟨ρ, hh, i, kvs, rfl, A.o, gi, fun od u ar ep S xs lx px => ?_⟩
    refine o ρ _ H1 (Nat.le_refl _) (Ext.refl _ _) (Keep.refl _ _) A.o (still_wk A.o S (by simp) (fun j H h1 h2 => ⟨h1, by omega⟩) (fun j H h1 h2 => ⟨h1, by omega⟩) fun j H' x H'' h' ρ' d l1 e1 k1 R1 ed y => ?_)
    obtain ⟨rfl, ex⟩ := y
    obtain ⟨k, dd, g1, g2⟩ := px j x ex
    rw [List.getElem?_map, g1] at ed
    cases ed
    exact ⟨Keep.refl _ _, R1, g2.mono k1 e1 l1⟩
theorem mkT2 {K : PySem.W.Frag} {H : Hp} {n : Nat} {ρ : Nat → Addr} {T : Addr} {d1 d2 : D} {v1 v2 : V} (hT : H T = none) (r1 : RelD K H n ρ d1 v1) (r2 : RelD K H n ρ d2 v2) : RelD K (upd H T (.tup [v1, v2])) n ρ (.t [d1, d2]) (.ref T) :=
  .t (.inl (.inl upd_same)) (.cons (r1.mono (keep_new hT) (Ext.refl _ _) (Nat.le_refl _)) (.cons (r2.mono (keep_new hT) (Ext.refl _ _) (Nat.le_refl _)) .nil))
theorem pi_itemsE {elts : List Expr} {kk : Nat} {tpos ap : Pos} (hs : isSuper e = false) (hline : (ap.endLine == pos.line) = true) (ha : PE X e (tEe X c W g a)) : PI X (.Tuple elts kk tpos) (.Call (.Attribute e "items" ap) [] [] pos) (tG (tb X c) W (Wk (tb X c)) (evI g (.items a))) := by
  refine ⟨fun pins s σ H R' I t => (pi_itemsS (c := c) ha (base_of hs) hline).run pins s σ H R' I ?_⟩
  refine tG_mono (fun x H1 q => ?_) (tG.step (m := RL.d) (ev := evE g a) (k := fun sg x h1 => match lckOf h1 x with
    | some kvs => .ok (kvs.map fun kv => D.t [.p kv.1, kv.2], gdOf h1 x) h1
    | none => .stuck) t)
  obtain ⟨ρ, sg, hh, d, A, o⟩ := q
  dsimp only at o
  cases q2 : lckOf hh d with
  | none => rw [q2] at o; exact o.elim
  | some kvs =>
    rw [q2] at o
    obtain ⟨i, rfl, gi, rfl⟩ := lck_at A.a q2
    refine ⟨ρ, hh, i, kvs, rfl, A.o, gi, fun od u ar ep S xs lx px => ?_⟩
    refine o ρ _ H1 (Nat.le_refl _) (Ext.refl _ _) (Keep.refl _ _) A.o (still_wk A.o S (by simp) (fun j H h1 h2 => ⟨h1, by omega⟩) (fun j H h1 h2 => ⟨h1, by omega⟩) fun j H' x H'' h' ρ' d l1 e1 k1 R1 ed y => ?_)
    obtain ⟨T, kv, vv, ex, rfl, hT, rfl⟩ := y
    obtain ⟨k, dd, g1, g2, g3⟩ := px j (kv, vv) ex
    rw [List.getElem?_map, g1] at ed
    cases ed
    exact ⟨keep_new hT, R1.pad hT, mkT2 hT (.p (g2.keep k1)) (g3.mono k1 e1 l1)⟩
theorem nums_get : ∀ (n : Nat) (a : Int) (i : Nat), (nums a n)[i]? = if i < n then some (.p (.int (a + i))) else none
  | 0, a, i => by simp [nums]
  | n + 1, a, 0 => by simp [nums]
  | n + 1, a, i + 1 => by
    rw [nums, List.getElem?_cons_succ, nums_get n (a + 1) i]
    have : a + 1 + (i : Int) = a + ((i + 1 : Nat) : Int) := by omega
    rw [this]
    by_cases h : i < n
    · rw [if_pos h, if_pos (by omega)]
    · rw [if_neg h, if_neg (by omega)]
theorem nums_length : ∀ (n : Nat) (a : Int), (nums a n).length = n
  | 0, _ => rfl
  | n + 1, a => by rw [nums, List.length_cons, nums_length n]
theorem zips_length : ∀ xs ys : List D, (zips xs ys).length = min xs.length ys.length
  | [], _ => by simp [zips]
  | _ :: _, [] => by simp [zips]
  | x :: xs, y :: ys => by
    rw [zips, List.length_cons, zips_length xs ys, List.length_cons, List.length_cons]
    omega
theorem zips_get : ∀ (xs ys : List D) (i : Nat) (d : D), (zips xs ys)[i]? = some d → ∃ a b, xs[i]? = some a ∧ ys[i]? = some b ∧ d = .t [a, b]
  | [], _, _, _, h => by simp [zips] at h
  | _ :: _, [], _, _, h => by simp [zips] at h
  | x :: xs, y :: ys, 0, d, h => by
    rw [zips] at h
    simp at h
    exact ⟨x, y, rfl, rfl, h.symm⟩
  | x :: xs, y :: ys, i + 1, d, h => by
    rw [zips, List.getElem?_cons_succ] at h
    simpa using zips_get xs ys i d h
theorem wk_rng {ρ : Nat → Addr} {h : Hh} {H : Hp} (lo : Int) (n : Nat) : (Wk (tb X c)).r H h.length ρ (nums lo n, []) (Itr lo n) := by
  intro i H' h' ρ' l1 e1 k1 R1 ok
  refine ⟨fun ei => ?_, fun d ed => ?_⟩
  · show n ≤ i
    rw [ei]
    show n ≤ (nums lo n).length
    rw [nums_length]
    exact Nat.le_refl _
  · have ed : (nums lo n)[i]? = some d := ed
    rw [nums_get] at ed
    split at ed
    · rename_i l
      cases ed
      refine ⟨l, fun x H'' y => ?_⟩
      obtain ⟨rfl, rfl⟩ := y
      exact ⟨Keep.refl _ _, R1, .p (.int _)⟩
    · cases ed
theorem pi_rng1E {tg : Expr} {p : Pos} (hg : Gl X "range") (hm : X.mg "range" = none) (ns : noStar e = true) (ha : PE X e (tEe X c W g a)) : PI X tg (.Call (.Name "range" p) [e] [] pos) (tG (tb X c) W (Wk (tb X c)) (evI g (.rng1 a))) := by
  refine ⟨fun pins s σ H R' I t => (pi_range1 hg hm (pa_consE ns ha pa_nilE) (star_of ns)).run pins s σ H R' I ?_⟩
  have t : tG (tb X c) W (Wk (tb X c)) (fun sg h => (evEs g (.cons a .nil) sg h).bind fun xs h1 => match xs with
    | [.p (.int j)] => if -(2 ^ 62) ≤ j ∧ j ≤ 16777216 then .ok (nums 0 j.toNat, []) h1 else .stuck
    | _ => .stuck) σ H R' := by
    obtain ⟨ρ, sg, h, z, A, o⟩ := t
    refine ⟨ρ, sg, h, z, A, ?_⟩
    have o : Out (tb X c) (Wk (tb X c)) W h.length ρ H σ R' ((evE g a sg h).bind fun x h1 => match x with
      | .p (.int j) => if -(2 ^ 62) ≤ j ∧ j ≤ 16777216 then .ok (nums 0 j.toNat, []) h1 else .stuck
      | _ => .stuck) := o
    show Out _ _ _ _ _ _ _ _ (((evE g a sg h).bind fun x h1 => (R.ok [] h1 : R (List D)).bind fun xs h2 => .ok (x :: xs) h2).bind _)
    cases q : evE g a sg h with
    | stuck => rw [q] at o; exact o
    | exc _ _ => rw [q] at o; exact o
    | ok x h1 =>
      rw [q] at o
      cases x with
      | p x => cases x <;> exact o
      | _ => exact o
  refine tG_mono (fun vs H1 q => ?_) (tG.step (m := RL.ds) t)
  obtain ⟨ρ, sg, hh, ds, A, o⟩ := q
  have ra : RelDs X.K H1 hh.length ρ ds vs := A.a
  dsimp only at o
  split at o
  · split at o
    · rename_i j l
      cases ra with | cons r1 r2 => cases r2 with | nil => cases r1 with | p r1 => cases r1 with | int _ =>
      refine ⟨_, rfl, l.1, by omega, ?_⟩
      exact o ρ _ H1 (Nat.le_refl _) (Ext.refl _ _) (Keep.refl _ _) A.o (wk_rng 0 _)
    · exact o.elim
  · exact o.elim
theorem pi_rng2E {tg : Expr} {p : Pos} (hg : Gl X "range") (hm : X.mg "range" = none) (ns : noStar e = true) (ns2 : noStar e2 = true) (ha : PE X e (tEe X c W g a)) (hb : PE X e2 (tEe X c W g b)) : PI X tg (.Call (.Name "range" p) [e, e2] [] pos) (tG (tb X c) W (Wk (tb X c)) (evI g (.rng2 a b))) := by
  refine ⟨fun pins s σ H R' I t => (pi_range2 hg hm (pa_consE ns ha (pa_consE ns2 hb pa_nilE)) (by rw [star_of ns, star_of ns2]; rfl) (star_of ns2)).run pins s σ H R' I ?_⟩
  have t : tG (tb X c) W (Wk (tb X c)) (fun sg h => (evEs g (.cons a (.cons b .nil)) sg h).bind fun xs h1 => match xs with
    | [.p (.int i), .p (.int j)] => if -(2 ^ 62) ≤ i ∧ i < 2 ^ 62 ∧ -(2 ^ 62) ≤ j ∧ j < 2 ^ 62 ∧ j - i ≤ 16777216 then .ok (nums i (j - i).toNat, []) h1 else .stuck
    | _ => .stuck) σ H R' := by
    obtain ⟨ρ, sg, h, z, A, o⟩ := t
    refine ⟨ρ, sg, h, z, A, ?_⟩
    have o : Out (tb X c) (Wk (tb X c)) W h.length ρ H σ R' ((evE g a sg h).bind fun x h1 => (evE g b sg h1).bind fun y h2 => match x, y with
      | .p (.int i), .p (.int j) => if -(2 ^ 62) ≤ i ∧ i < 2 ^ 62 ∧ -(2 ^ 62) ≤ j ∧ j < 2 ^ 62 ∧ j - i ≤ 16777216 then .ok (nums i (j - i).toNat, []) h2 else .stuck
      | _, _ => .stuck) := o
    show Out _ _ _ _ _ _ _ _ (((evE g a sg h).bind fun x h1 => ((evE g b sg h1).bind fun y h2 => (R.ok [] h2 : R (List D)).bind fun xs h2 => .ok (y :: xs) h2).bind fun xs h2 => .ok (x :: xs) h2).bind _)
    cases q : evE g a sg h with
    | stuck => rw [q] at o; exact o
    | exc _ _ => rw [q] at o; exact o
    | ok x h1 =>
      rw [q] at o
      have o : Out (tb X c) (Wk (tb X c)) W h.length ρ H σ R' ((evE g b sg h1).bind fun y h2 => match (generalizing := false) x, y with
        | .p (.int i), .p (.int j) => if -(2 ^ 62) ≤ i ∧ i < 2 ^ 62 ∧ -(2 ^ 62) ≤ j ∧ j < 2 ^ 62 ∧ j - i ≤ 16777216 then .ok (nums i (j - i).toNat, []) h2 else .stuck
        | _, _ => .stuck) := o
      show Out _ _ _ _ _ _ _ _ ((((evE g b sg h1).bind fun y h2 => (R.ok [] h2 : R (List D)).bind fun xs h2 => .ok (y :: xs) h2).bind fun xs h2 => .ok (x :: xs) h2).bind _)
      cases q2 : evE g b sg h1 with
      | stuck => rw [q2] at o; exact o
      | exc _ _ => rw [q2] at o; exact o
      | ok y h2 =>
        rw [q2] at o
        cases x with
        | p x =>
          cases x with
          | int _ => cases y with
            | p y => cases y <;> exact o
            | _ => exact o
          | _ => exact o
        | _ => exact o
  refine tG_mono (fun vs H1 q => ?_) (tG.step (m := RL.ds) t)
  obtain ⟨ρ, sg, hh, ds, A, o⟩ := q
  have ra : RelDs X.K H1 hh.length ρ ds vs := A.a
  dsimp only at o
  split at o
  · split at o
    · rename_i i j l
      cases ra with | cons r1 r2 => cases r2 with | cons r2 r3 => cases r3 with | nil => cases r1 with | p r1 => cases r1 with | int _ => cases r2 with | p r2 => cases r2 with | int _ =>
      refine ⟨_, _, rfl, ⟨l.1, l.2.1, l.2.2.1, l.2.2.2.1⟩, ?_⟩
      exact o ρ _ H1 (Nat.le_refl _) (Ext.refl _ _) (Keep.refl _ _) A.o (wk_rng _ _)
    · exact o.elim
  · exact o.elim
theorem pi_enumE {elts : List Expr} {kk : Nat} {tpos p : Pos} (hg : Gl X "enumerate") (hm : X.mg "enumerate" = none) (ns : noStar e = true) (ha : PE X e (tEe X c W g a)) : PI X (.Tuple elts kk tpos) (.Call (.Name "enumerate" p) [e] [] pos) (tG (tb X c) W (Wk (tb X c)) (evI g (.enum a))) := by
  refine ⟨fun pins s σ H R' I t => (pi_enumB hg hm (pa_consE ns ha pa_nilE) (star_of ns)).run pins s σ H R' I ?_⟩
  have t : tG (tb X c) W (Wk (tb X c)) (fun sg h => (evEs g (.cons a .nil) sg h).bind fun xs h1 => match xs with
    | [x] => (match seqOf h1 x with
      | some ds => .ok (zips (nums 0 ds.length) ds, gdOf h1 x) h1
      | none => .stuck)
    | _ => .stuck) σ H R' := by
    obtain ⟨ρ, sg, h, z, A, o⟩ := t
    refine ⟨ρ, sg, h, z, A, ?_⟩
    have o : Out (tb X c) (Wk (tb X c)) W h.length ρ H σ R' ((evE g a sg h).bind fun x h1 => match seqOf h1 x with
      | some ds => .ok (zips (nums 0 ds.length) ds, gdOf h1 x) h1
      | none => .stuck) := o
    show Out _ _ _ _ _ _ _ _ (((evE g a sg h).bind fun x h1 => (R.ok [] h1 : R (List D)).bind fun xs h2 => .ok (x :: xs) h2).bind _)
    cases q : evE g a sg h with
    | stuck => rw [q] at o; exact o
    | exc _ _ => rw [q] at o; exact o
    | ok x h1 => rw [q] at o; exact o
  refine tG_mono (fun vs H1 q => ?_) (tG.step (m := RL.ds) t)
  obtain ⟨ρ, sg, hh, ds, A, o⟩ := q
  have ra : RelDs X.K H1 hh.length ρ ds vs := A.a
  dsimp only at o
  split at o
  · rename_i d
    cases ra with | cons r1 r2 => cases r2 with | nil =>
    cases q : seqOf hh d with
    | none => rw [q] at o; exact o.elim
    | some ds =>
      rw [q] at o
      obtain ⟨p, vs, k, rfl, sq, rd, lat⟩ := wk_src A.o r1 q
      refine ⟨p, vs, k, rfl, sq, ?_⟩
      refine o ρ _ H1 (Nat.le_refl _) (Ext.refl _ _) (Keep.refl _ _) A.o fun i H' h' ρ' l1 e1 k1 R1 ok => ?_
      obtain ⟨vs', sq', rd'⟩ := lat H' h' ρ' l1 e1 k1 R1 ok
      refine ⟨fun ei => ⟨vs', sq', ?_⟩, fun z ez => ?_⟩
      · have ei : i = (zips (nums 0 ds.length) ds).length := ei
        rw [ei, zips_length, nums_length, ← rd'.length, Nat.min_self]
      · obtain ⟨d1, d2, g1, g2, rfl⟩ := zips_get _ _ _ _ ez
        obtain ⟨v, ev, rv⟩ := rd'.get g2
        rw [nums_get] at g1
        split at g1
        · cases g1
          refine ⟨⟨vs', v, sq', ev⟩, fun x H'' y => ?_⟩
          obtain ⟨T, w, rfl, hT, rfl, y⟩ := y
          have := y vs' sq'
          rw [ev] at this
          cases this
          refine ⟨keep_new hT, R1.pad hT, ?_⟩
          rw [Int.zero_add]
          exact mkT2 hT (.p (.int _)) rv
        · cases g1
  · exact o.elim
theorem Gd.ok_append (g1 g2 : Gd) (h : Hh) : Gd.ok (g1 ++ g2) h = (Gd.ok g1 h && Gd.ok g2 h) := by simp [Gd.ok]
theorem pi_zipE {elts : List Expr} {kk : Nat} {tpos p : Pos} (hg : Gl X "zip") (hm : X.mg "zip" = none) (ns : noStar e = true) (ns2 : noStar e2 = true) (ha : PE X e (tEe X c W g a)) (hb : PE X e2 (tEe X c W g b)) : PI X (.Tuple elts kk tpos) (.Call (.Name "zip" p) [e, e2] [] pos) (tG (tb X c) W (Wk (tb X c)) (evI g (.zip a b))) := by
  refine ⟨fun pins s σ H R' I t => (pi_zipB hg hm (pa_consE ns ha (pa_consE ns2 hb pa_nilE)) (star_of ns) (by rw [star_of ns2]; rfl)).run pins s σ H R' I ?_⟩
  have t : tG (tb X c) W (Wk (tb X c)) (fun sg h => (evEs g (.cons a (.cons b .nil)) sg h).bind fun xs h1 => match xs with
    | [x, y] => (match seqOf h1 x, seqOf h1 y with
      | some ds, some es => .ok (zips ds es, gdOf h1 x ++ gdOf h1 y) h1
      | _, _ => .stuck)
    | _ => .stuck) σ H R' := by
    obtain ⟨ρ, sg, h, z, A, o⟩ := t
    refine ⟨ρ, sg, h, z, A, ?_⟩
    have o : Out (tb X c) (Wk (tb X c)) W h.length ρ H σ R' ((evE g a sg h).bind fun x h1 => (evE g b sg h1).bind fun y h2 => match seqOf h2 x, seqOf h2 y with
      | some ds, some es => .ok (zips ds es, gdOf h2 x ++ gdOf h2 y) h2
      | _, _ => .stuck) := o
    show Out _ _ _ _ _ _ _ _ (((evE g a sg h).bind fun x h1 => ((evE g b sg h1).bind fun y h2 => (R.ok [] h2 : R (List D)).bind fun xs h2 => .ok (y :: xs) h2).bind fun xs h2 => .ok (x :: xs) h2).bind _)
    cases q : evE g a sg h with
    | stuck => rw [q] at o; exact o
    | exc _ _ => rw [q] at o; exact o
    | ok x h1 =>
      rw [q] at o
      have o : Out (tb X c) (Wk (tb X c)) W h.length ρ H σ R' ((evE g b sg h1).bind fun y h2 => match (generalizing := false) seqOf h2 x, seqOf h2 y with
        | some ds, some es => .ok (zips ds es, gdOf h2 x ++ gdOf h2 y) h2
        | _, _ => .stuck) := o
      show Out _ _ _ _ _ _ _ _ ((((evE g b sg h1).bind fun y h2 => (R.ok [] h2 : R (List D)).bind fun xs h2 => .ok (y :: xs) h2).bind fun xs h2 => .ok (x :: xs) h2).bind _)
      cases q2 : evE g b sg h1 with
      | stuck => rw [q2] at o; exact o
      | exc _ _ => rw [q2] at o; exact o
      | ok y h2 => rw [q2] at o; exact o
  refine tG_mono (fun vs H1 q => ?_) (tG.step (m := RL.ds) t)
  obtain ⟨ρ, sg, hh, ds, A, o⟩ := q
  have ra : RelDs X.K H1 hh.length ρ ds vs := A.a
  dsimp only at o
  split at o
  · rename_i d1 d2
    cases ra with | cons r1 r2 => cases r2 with | cons r2 r3 => cases r3 with | nil =>
    cases q : seqOf hh d1 with
    | none => rw [q] at o; exact o.elim
    | some ds =>
      cases q2 : seqOf hh d2 with
      | none => rw [q, q2] at o; exact o.elim
      | some es =>
        rw [q, q2] at o
        obtain ⟨p, vs, k, rfl, sq, rd, lat⟩ := wk_src A.o r1 q
        obtain ⟨p2, vs2, k2, rfl, sq2, rd2, lat2⟩ := wk_src A.o r2 q2
        refine ⟨p, p2, vs, vs2, k, k2, rfl, sq, sq2, ?_⟩
        refine o ρ _ H1 (Nat.le_refl _) (Ext.refl _ _) (Keep.refl _ _) A.o fun i H' h' ρ' l1 e1 k1 R1 ok => ?_
        have ok : (Gd.ok (gdOf hh d1 ++ gdOf hh d2) h') = true := ok
        rw [Gd.ok_append, Bool.and_eq_true] at ok
        obtain ⟨vs', sq', rd'⟩ := lat H' h' ρ' l1 e1 k1 R1 ok.1
        obtain ⟨vs2', sq2', rd2'⟩ := lat2 H' h' ρ' l1 e1 k1 R1 ok.2
        refine ⟨fun ei => ⟨vs', vs2', sq', sq2', ?_⟩, fun z ez => ?_⟩
        · have ei : i = (zips ds es).length := ei
          rw [ei, zips_length, rd'.length, rd2'.length]
        · obtain ⟨z1, z2, g1, g2, rfl⟩ := zips_get _ _ _ _ ez
          obtain ⟨v, ev, rv⟩ := rd'.get g1
          obtain ⟨v2, ev2, rv2⟩ := rd2'.get g2
          refine ⟨⟨vs', vs2', v, v2, sq', sq2', ev, ev2⟩, fun x H'' y => ?_⟩
          obtain ⟨T, w, w2, rfl, hT, rfl, y, y2⟩ := y
          have y := y vs' sq'
          have y2 := y2 vs2' sq2'
          rw [ev] at y
          rw [ev2] at y2
          cases y
          cases y2
          exact ⟨keep_new hT, R1.pad hT, mkT2 hT rv rv2⟩
  · exact o.elim

/-! ### comprehensions -/
theorem RelS.wipe {K : PySem.W.Frag} {H : Hp} {n : Nat} {ρ : Nat → Addr} {sg : Sg} {σ : L2.St} (s : RelS K H n ρ sg σ) : ∀ vs : List Nat, RelS K H n ρ (wipeD sg vs) (L2.wipe σ vs)
  | [] => s
  | v :: vs => by
    have ih := RelS.wipe s vs
    unfold wipeD L2.wipe
    refine ⟨by rw [List.length_set, List.length_set, ih.len], fun i d h => ?_⟩
    by_cases q : v = i
    · subst q
      by_cases l : v < (wipeD sg vs).length
      · rw [List.getElem?_set_self l] at h; cases h
      · rw [List.getElem?_eq_none (by rw [List.length_set]; omega)] at h; cases h
    · rw [List.getElem?_set_ne q] at h ⊢
      exact ih.at_ i d h
theorem pts_E {X : Cx} {W : WX} {ifs : List Expr} {fs : IEs} (l : ifs.length ≤ 1) (h0 : ifs = [] → fs = .nil) (h1 : ∀ e, ifs = [e] → ∃ a, fs = .cons a .nil ∧ PT X e (tTe X c W g a)) : PTs X ifs (tT (tb X c) W (evTs g fs)) := by
  match ifs, l with
  | [], _ =>
    rw [h0 rfl]
    refine ⟨fun pins s σ H Q I t => pts_nil.run pins s σ H Q I ?_⟩
    obtain ⟨ρ, sg, hh, d, A, o⟩ := t
    exact o.ret A.o rfl
  | [e], _ =>
    obtain ⟨a, rfl, h⟩ := h1 e rfl
    refine ⟨fun pins s σ H Q I t => (pts_one h).run pins s σ H Q I (tT_cong (fun s hh => ?_) t)⟩
    show (tr (evE g a s hh)).bind _ = _
    cases tr (evE g a s hh) with
    | stuck => rfl
    | exc _ _ => rfl
    | ok k h => cases k <;> rfl
def bodyC (g : G) (own : List Nat) (t : ITg) (ifs : IEs) (elt : IE) (sg : Sg) : D → Hh → R (Option D) := fun d h2 => (asgT g t d (wipeD sg own) h2).bind fun s1 h3 => (evTs g ifs s1 h3).bind fun k h4 =>
        if k then (evE g elt s1 h4).bind fun x h5 => .ok (some x) h5 else .ok none h4
theorem drop_cases {α : Type} (l : List α) (i : Nat) : (l.drop i = [] ∧ l.length ≤ i) ∨ ∃ x, l[i]? = some x ∧ l.drop i = x :: l.drop (i + 1) ∧ i < l.length := by
  by_cases h : i < l.length
  · exact .inr ⟨l[i], List.getElem?_eq_getElem h, List.drop_eq_getElem_cons h, h⟩
  · exact .inl ⟨List.drop_eq_nil_of_le (by omega), by omega⟩
theorem wipe_wipe (σ : L2.St) (vs : List Nat) : L2.wipe (L2.wipe σ vs) vs = L2.wipe σ vs := by
  refine List.ext_getElem? fun j => ?_
  by_cases q : j ∈ vs
  · by_cases l : j < σ.length
    · rw [wipe_in q l, wipe_in q (by rw [wipe_length]; exact l)]
    · rw [List.getElem?_eq_none (by rw [wipe_length, wipe_length]; omega), List.getElem?_eq_none (by rw [wipe_length]; omega)]
  · rw [wipe_out q]
theorem comp_t {t : ITg} {it : IIt} {ifs : IEs} {elt : IE} {own : List Nat} {σ : L2.St} {H : Hp} {Q : VK} {W0 : WX} (q : tEe X c W g (.comp own elt t it ifs) σ H Q) :
    tLc (tG (tb X c) W (Wk (tb X c)) (evI g it)) (tTg (tb X c) W0 own (asgT g t)) (tT (tb X c) W0 (evTs g ifs)) (tEe X c W0 g elt) own σ H Q := by
  refine tG_mono (fun J H1 q => ?_) (tG.step (m := Wk (tb X c)) (k := fun sg p h1 => (loopC p.2 h1.length (bodyC g own t ifs elt sg) p.1 [] (h1 ++ [O.lst []])).bind fun _ h2 => (R.ok (.r h1.length) h2 : R D)) q)
  intro D0 hD
  obtain ⟨ρ, sg, h, ⟨ds, gd⟩, A, o⟩ := q
  dsimp only at o
  have wk := A.a
  obtain ⟨ρ1, f0, f1, R1⟩ := A.o.new (o := O.lst []) (u := HO.lst []) hD (fun ρ' e0 e1 => ⟨[], upd_same, .nil⟩)
  have k1 : Keep X.K H1 (upd H1 D0 (.lst [])) := keep_new hD
  have l1 : (h ++ [O.lst []]).length = h.length + 1 := by simp
  refine ⟨fun i m H' => ∃ ρ' h' acc, h.length + 1 ≤ h'.length ∧ Ext (h.length + 1) ρ1 ρ' ∧ Keep X.K H1 H' ∧ RelH (tb X c) ρ' h' H' ∧ i + m = ds.length ∧
    Out (tb X c) RL.d W h'.length ρ' H' σ Q ((loopC gd h.length (bodyC g own t ifs elt sg) (ds.drop i) acc h').bind fun _ h2 => (R.ok (.r h.length) h2 : R D)),
    ⟨ds.length, ρ1, h ++ [O.lst []], [], by omega, Ext.refl _ _, k1, R1, by omega, Out.later o (by omega) f1 k1⟩, ?_⟩
  rintro i m H' ⟨ρ', h', acc, lh, fe, kk, Rh, im, o⟩
  have exA : Ext h.length ρ ρ' := f1.trans fe (by omega)
  have eD : ρ' h.length = D0 := by rw [fe _ (by omega)]; exact f0
  rcases drop_cases ds i with ⟨e, le⟩ | ⟨d, ed, e, lt⟩
  · rw [e] at o
    have o : Out (tb X c) RL.d W h'.length ρ' H' σ Q ((if gd.ok h' && decide (h'[h.length]? = some (O.lst acc)) then R.ok () h' else .stuck).bind fun _ h2 => (R.ok (.r h.length) h2 : R D)) := o
    split at o
    · rename_i ok
      rw [Bool.and_eq_true, decide_eq_true_eq] at ok
      refine .inl ⟨(wk i H' h' ρ' (by omega) exA kk Rh ok.1).1 (by show i = ds.length; omega), ?_⟩
      have q : RelD X.K H' h'.length ρ' (.r h.length) (.ref (ρ' h.length)) := .r (by omega)
      rw [eD] at q
      exact o.ret Rh q
    · exact o.elim
  · rw [e] at o
    have o : Out (tb X c) RL.d W h'.length ρ' H' σ Q ((if gd.ok h' then match bodyC g own t ifs elt sg d h' with
      | .ok o h1 => if h1[h.length]? = some (O.lst acc) ∧ acc.length < sizeLine then match o with
        | none => loopC gd h.length (bodyC g own t ifs elt sg) (ds.drop (i + 1)) acc h1
        | some x => loopC gd h.length (bodyC g own t ifs elt sg) (ds.drop (i + 1)) (acc ++ [x]) (h1.set h.length (.lst (acc ++ [x])))
        else .stuck
      | _ => .stuck
      else .stuck).bind fun _ h2 => (R.ok (.r h.length) h2 : R D)) := o
    split at o
    · rename_i ok
      obtain ⟨go, yl⟩ := (wk i H' h' ρ' (by omega) exA kk Rh ok).2 d ed
      refine .inr ⟨go, fun H2 => ∃ ρ2 h2 acc2, h.length + 1 ≤ h2.length ∧ Ext (h.length + 1) ρ1 ρ2 ∧ Keep X.K H1 H2 ∧ RelH (tb X c) ρ2 h2 H2 ∧ (i + 1) + (m - 1) = ds.length ∧
        Out (tb X c) RL.d W h2.length ρ2 H2 σ Q ((loopC gd h.length (bodyC g own t ifs elt sg) (ds.drop (i + 1)) acc2 h2).bind fun _ h2 => (R.ok (.r h.length) h2 : R D)), fun H2 z => ⟨m - 1, by omega, z⟩, fun x H2 y => ?_⟩
      obtain ⟨k2, R2, rx⟩ := yl x H2 y
      have o := Out.later o (Nat.le_refl _) (Ext.refl _ _) k2
      have sw := (A.s.mono (kk.trans k2) exA (by omega : h.length ≤ h'.length)).wipe own
      refine ⟨ρ', wipeD sg own, h', d, ⟨sw, R2, rx⟩, ?_⟩
      show OutG (tb X c) W0 own h'.length ρ' H2 (L2.wipe σ own) _ (asgT g t d (wipeD sg own) h')
      have eb : bodyC g own t ifs elt sg d h' = (asgT g t d (wipeD sg own) h').bind fun s1 h3 => (evTs g ifs s1 h3).bind fun k h4 => if k then (evE g elt s1 h4).bind fun x h5 => .ok (some x) h5 else .ok none h4 := rfl
      rw [eb] at o
      cases q1 : asgT g t d (wipeD sg own) h' with
      | stuck => rw [q1] at o; exact o.elim
      | exc _ _ => rw [q1] at o; exact o.elim
      | ok s1 h3 =>
        rw [q1, R.bind_ok] at o
        intro ρ3 σ3 H3 l3 e3 k3 R3 rs3 w3
        have o := Out.later o l3 e3 k3
        refine ⟨w3.trans (wipe_wipe σ own), ρ3, s1, h3, (), ⟨rs3, R3, True.intro⟩, ?_⟩
        show Out (tb X c) RL.b W0 h3.length ρ3 H3 σ3 _ (evTs g ifs s1 h3)
        cases q2 : evTs g ifs s1 h3 with
        | stuck => rw [q2] at o; exact o.elim
        | exc _ _ => rw [q2] at o; exact o.elim
        | ok k h4 =>
          rw [q2, R.bind_ok] at o
          intro ρ4 b4 H4 l4 e4 k4 R4 rb
          have rb : k = b4 := rb
          subst rb
          have o := Out.later o l4 e4 k4
          have ex4 : Ext (h.length + 1) ρ1 ρ4 := (fe.trans e3 (by omega)).trans e4 (by omega)
          have kk4 : Keep X.K H1 H4 := ((kk.trans k2).trans k3).trans k4
          cases k with
          | false =>
            have o : Out (tb X c) RL.d W h4.length ρ4 H4 σ Q ((if h4[h.length]? = some (O.lst acc) ∧ acc.length < sizeLine then loopC gd h.length (bodyC g own t ifs elt sg) (ds.drop (i + 1)) acc h4 else .stuck).bind fun _ h2 => (R.ok (.r h.length) h2 : R D)) := o
            split at o
            · exact ⟨ρ4, h4, acc, by omega, ex4, kk4, R4, by omega, o⟩
            · exact o.elim
          | true =>
            refine ⟨ρ4, s1, h4, (), ⟨rs3.mono k4 e4 l4, R4, True.intro⟩, ?_⟩
            show Out (tb X c) RL.d W0 h4.length ρ4 H4 σ3 _ (evE g elt s1 h4)
            have o : Out (tb X c) RL.d W h4.length ρ4 H4 σ Q ((match ((evE g elt s1 h4).bind fun x h5 => (R.ok (some x) h5 : R (Option D))) with
              | .ok o h1 => if h1[h.length]? = some (O.lst acc) ∧ acc.length < sizeLine then match o with
                | none => loopC gd h.length (bodyC g own t ifs elt sg) (ds.drop (i + 1)) acc h1
                | some x => loopC gd h.length (bodyC g own t ifs elt sg) (ds.drop (i + 1)) (acc ++ [x]) (h1.set h.length (.lst (acc ++ [x])))
                else .stuck
              | _ => .stuck).bind fun _ h2 => (R.ok (.r h.length) h2 : R D)) := o
            cases q3 : evE g elt s1 h4 with
            | stuck => rw [q3] at o; exact o.elim
            | exc _ _ => rw [q3] at o; exact o.elim
            | ok x5 h5 =>
              rw [q3, R.bind_ok] at o
              intro ρ5 y5 H5 l5 e5 k5 R5 r5
              have o := Out.later o l5 e5 k5
              have o : Out (tb X c) RL.d W h5.length ρ5 H5 σ Q ((if h5[h.length]? = some (O.lst acc) ∧ acc.length < sizeLine then loopC gd h.length (bodyC g own t ifs elt sg) (ds.drop (i + 1)) (acc ++ [x5]) (h5.set h.length (.lst (acc ++ [x5]))) else .stuck).bind fun _ h2 => (R.ok (.r h.length) h2 : R D)) := o
              split at o
              · rename_i cc
                have ex5 : Ext (h.length + 1) ρ1 ρ5 := ex4.trans e5 (by omega)
                obtain ⟨vs5, a5, rs5⟩ := R5.obj h.length _ cc.1
                have e5D : ρ5 h.length = D0 := by rw [ex5 _ (by omega)]; exact f0
                have ki : RelD X.K H5 h5.length ρ5 x5 y5 := r5
                obtain ⟨kp, R6⟩ := R5.wr (o' := .lst (acc ++ [x5])) (u := .lst (vs5 ++ [y5])) cc.1 rfl rfl fun kp => ⟨_, upd_same, RelDs.append (rs5.mono kp (Ext.refl _ _) (Nat.le_refl _)) (.cons (ki.mono kp (Ext.refl _ _) (Nat.le_refl _)) .nil)⟩
                rw [e5D] at a5 kp R6
                refine ⟨vs5, a5, by rw [← RelDs.length rs5]; exact cc.2, ρ5, _, acc ++ [x5], by rw [List.length_set]; omega, ex5, (kk4.trans k5).trans kp, R6, by omega, ?_⟩
                exact Out.later o (by rw [List.length_set]; exact Nat.le_refl _) (Ext.refl _ _) kp
              · exact o.elim
    · exact o.elim
theorem pe_compE {tg iter : Expr} {ifs : List Expr} {scope : Scope} {own : List (Str × Nat)} {t : ITg} {it : IIt} {fs : IEs} (hc : X.calm = true) (hN : X.N.Nodup) (hi : PI X tg iter (tG (tb X c) W (Wk (tb X c)) (evI g it))) (ok : BlkOk X.N X.env.scope scope own)
    (hg : ∀ (s : Shared) (H : Hp) (C : Addr) (cl : List (Str × Addr)) (fp : List Addr), PG (X.blk s H scope (compEnvC scope cl C X.env) fp) tg (tTg (tb X c) (fun _ _ _ _ => False) (own.map (·.2)) (asgT g t)))
    (ht : ∀ (s : Shared) (H : Hp) (C : Addr) (cl : List (Str × Addr)) (fp : List Addr), PTs (X.blk s H scope (compEnvC scope cl C X.env) fp) ifs (tT (tb X c) (fun _ _ _ _ => False) (evTs g fs)))
    (he : ∀ (s : Shared) (H : Hp) (C : Addr) (cl : List (Str × Addr)) (fp : List Addr), PE (X.blk s H scope (compEnvC scope cl C X.env) fp) e (tEe X c (fun _ _ _ _ => False) g a)) (hs : ∀ x, foldedSetIterable iter X.env x = pure x) :
    PE X (.ListComp e [⟨tg, iter, ifs, 0⟩] scope pos) (tEe X c W g (.comp (own.map (·.2)) a t it fs)) :=
  ⟨fun pins s σ H Q I q => (pe_lc hc hN hi ok hg ht he hs).run pins s σ H Q I (comp_t q)⟩
end
end Pv

/-! K: the rules for statements. -/
namespace Pv
open PySem L2 PySem.Spec PyProof.Rows

section
variable {X : Cx} {c : Ct} {W : WX} {g : G} {e e2 : Expr} {a b : IE} {pos : Pos} {σ : L2.St} {H : Hp} {E : Ends}
abbrev tSe (X : Cx) (c : Ct) (W : WX) (g : G) (a : IS) : TS := tS (tb X c) W (evS g a)
abbrev tSs (X : Cx) (c : Ct) (W : WX) (g : G) (a : ISs) : TS := tS (tb X c) W (evSs g a)
/-- a statement's next -/
theorem tHS.done {α β : Type} {l : RL (tb X c).K α β} {x : β} {f : Sg → α → Hh → RS} (t : tHS (tb X c) W l f x E σ H) : ∃ ρ sg h a, At (tb X c) l x σ H ρ sg h a ∧ OutS (tb X c) W h.length ρ H E (f sg a h) := t
theorem OutS.fin {ρ : Nat → Addr} {sg : Sg} {h : Hh} (o : OutS (tb X c) W h.length ρ H E (.next sg h)) (R0 : RelH (tb X c) ρ h H) (s : RelS X.K H h.length ρ sg σ) : E.nx σ H := o ρ σ H (Nat.le_refl _) (Ext.refl _ _) (Keep.refl _ _) R0 s
theorem ps_nextE {st : Stmt} (h : PS X st tNext) : PS X st (tSe X c W g .pass) := by
  refine ⟨fun pins s σ H E I t => h.run pins s σ H E I ?_⟩
  obtain ⟨ρ, sg, hh, _, A, o⟩ := t
  exact OutS.fin o A.o A.s
theorem ps_exprE (hs : swapsWith e none pos.line X.env = pure false) (ha : PE X e (tEe X c W g a)) : PS X (.Expr e pos) (tSe X c W g (.expr a)) := by
  refine ⟨fun pins s σ H E I t => (ps_expr ha hs).run pins s σ H E I ?_⟩
  refine tG_mono (fun x H1 q => ?_) (tS.step (m := RL.d) (fun sg _ h => .next sg h) t)
  obtain ⟨ρ, sg, hh, _, A, o⟩ := q
  exact OutS.fin o A.o A.s
theorem ps_retE (ha : PE X e (tEe X c W g a)) : PS X (.Return (some e) pos) (tSe X c W g (.ret a)) := by
  refine ⟨fun pins s σ H E I t => (ps_ret ha).run pins s σ H E I ?_⟩
  refine tG_mono (fun x H1 q => ?_) (tS.step (m := RL.d) (fun sg d h => .ret d h) t)
  obtain ⟨ρ, sg, hh, d, A, o⟩ := q
  exact o ρ x H1 (Nat.le_refl _) (Ext.refl _ _) (Keep.refl _ _) A.o A.a
theorem ps_retNE : PS X (.Return none pos) (tSe X c W g .retN) := by
  refine ⟨fun pins s σ H E I t => ps_retN.run pins s σ H E I ?_⟩
  obtain ⟨ρ, sg, hh, d, A, o⟩ := t
  exact o ρ .non H (Nat.le_refl _) (Ext.refl _ _) (Keep.refl _ _) A.o (.p .non)
theorem ps_brkE : PS X (.Break pos) (tSe X c W g .brk) := by
  refine ⟨fun pins s σ H E I t => ps_break.run pins s σ H E I ?_⟩
  obtain ⟨ρ, sg, hh, d, A, o⟩ := t
  exact o ρ σ H (Nat.le_refl _) (Ext.refl _ _) (Keep.refl _ _) A.o A.s
theorem ps_contE : PS X (.Continue pos) (tSe X c W g .cont) := by
  refine ⟨fun pins s σ H E I t => ps_continue.run pins s σ H E I ?_⟩
  obtain ⟨ρ, sg, hh, d, A, o⟩ := t
  exact o ρ σ H (Nat.le_refl _) (Ext.refl _ _) (Keep.refl _ _) A.o A.s
theorem ps_neverE {st : Stmt} : PS X st (tSe X c W g .never) := by
  refine ⟨fun pins s σ H E I t => ?_⟩
  obtain ⟨ρ, sg, hh, d, A, o⟩ := t
  exact o.elim
theorem pss_nilE : PSs X [] (tSs X c W g .nil) := by
  refine ⟨fun pins s σ H E I t => pss_nil.run pins s σ H E I ?_⟩
  obtain ⟨ρ, sg, hh, _, A, o⟩ := t
  exact OutS.fin o A.o A.s
theorem pss_consE {st : Stmt} {ss : List Stmt} {i : IS} {is : ISs} (h1 : PS X st (tSe X c W g i)) (h2 : PSs X ss (tSs X c W g is)) : PSs X (st :: ss) (tSs X c W g (.cons i is)) :=
  ⟨fun pins s σ H E I t => (pss_cons h1 h2).run pins s σ H E I (tS.seq t)⟩
/-- the slots behind a target, in a statement -/
theorem tS_tg {vs : List Nat} {asg : D → Sg → Hh → R Sg} {k : Sg → Hh → RS} {x : V} {f : Sg → D → Hh → RS} (hf : ∀ sg d h, f sg d h = (asg d sg h).then sg fun s1 h1 => k s1 h1) (t : tHS (tb X c) W RL.d f x E σ H) :
    tTg (tb X c) W vs asg x σ H (fun σ' H' => tS (tb X c) W k E σ' H') := by
  obtain ⟨ρ, sg, hh, d, A, o⟩ := t
  refine ⟨ρ, sg, hh, d, A, ?_⟩
  show OutG (tb X c) W vs hh.length ρ H σ _ (asg d sg hh)
  rw [hf] at o
  cases q : asg d sg hh with
  | stuck => rw [q] at o; exact o
  | exc x h1 =>
    rw [q] at o
    exact fun ρ' cc dd H' l1 e1 k1 R1 r1 => o ρ' σ cc dd H' l1 e1 k1 R1 (A.s.mono k1 e1 l1) r1
  | ok s1 h1 =>
    rw [q] at o
    exact fun ρ' σ' H' l1 e1 k1 R1 rs w => ⟨ρ', s1, h1, (), ⟨rs, R1, True.intro⟩, OutS.later o l1 e1 k1⟩
theorem tg_mono {vs : List Nat} {asg : D → Sg → Hh → R Sg} {x : V} {Q Q' : L2.St → Hp → Prop} (h : ∀ σ' H', Q σ' H' → Q' σ' H') (t : tTg (tb X c) W vs asg x σ H Q) : tTg (tb X c) W vs asg x σ H Q' := by
  obtain ⟨ρ, sg, hh, d, A, o⟩ := t
  refine ⟨ρ, sg, hh, d, A, ?_⟩
  revert o
  show OutG (tb X c) W vs hh.length ρ H σ Q (asg d sg hh) → OutG (tb X c) W vs hh.length ρ H σ Q' (asg d sg hh)
  cases asg d sg hh with
  | stuck => exact id
  | exc x h1 => exact id
  | ok s1 h1 => exact fun o ρ' σ' H' l1 e1 k1 R1 rs w => h _ _ (o ρ' σ' H' l1 e1 k1 R1 rs w)
theorem tS_next (t : tS (tb X c) W (fun s h => .next s h) E σ H) : E.nx σ H := by
  obtain ⟨ρ, sg, hh, _, A, o⟩ := t
  exact OutS.fin o A.o A.s
theorem ps_asgE {vs : List Nat} {tg : Expr} {t : ITg} (ns : noStar tg = true) (hs : swapsWithSole [tg] e pos.line X.env = pure false) (hw : swappedStores [tg] e X.env = pure none) (he : PE X e (tEe X c W g a)) (hg : PG X tg (tTg (tb X c) W vs (asgT g t))) : PS X (.Assign [tg] e pos) (tSe X c W g (.asg t a)) := by
  refine ⟨fun pins s σ H E I q => (ps_asg he hg hs hw (by rw [each_of' ns]; rfl)).run pins s σ H E I ?_⟩
  refine tG_mono (fun x H1 q => ?_) (tS.step (m := RL.d) (fun sg d h => (asgT g t d sg h).then sg fun s1 h2 => .next s1 h2) q)
  exact tg_mono (fun σ' H' z => tS_next z) (tS_tg (k := fun s h => .next s h) (fun _ _ _ => rfl) q)
theorem ps_iteE {ss1 ss2 : List Stmt} {i1 i2 : ISs} (ht : PT X e (tTe X c W g a)) (h1 : PSs X ss1 (tSs X c W g i1)) (h2 : PSs X ss2 (tSs X c W g i2)) : PS X (.If e ss1 ss2 pos) (tSe X c W g (.ite a i1 i2)) := by
  refine ⟨fun pins s σ H E I q => (ps_if ht h1 h2).run pins s σ H E I ?_⟩
  refine tG_mono (fun x H1 q => ?_) (tS.step (m := RL.b) (fun sg k h => if k then evSs g i1 sg h else evSs g i2 sg h) q)
  obtain ⟨ρ, sg, hh, k, A, o⟩ := q
  have ek : k = x := A.a
  subst ek
  cases k with
  | true => exact ⟨ρ, sg, hh, (), ⟨A.s, A.o, True.intro⟩, o⟩
  | false => exact ⟨ρ, sg, hh, (), ⟨A.s, A.o, True.intro⟩, o⟩
/-- a loop's turn: what is new and not held goes -/
theorem trimS_rel {ρ ρ' : Nat → Addr} {h h' : Hh} {H H' : Hp} {sg : Sg} (R0 : RelH (tb X c) ρ h H) (l : h.length ≤ h'.length) (R1 : RelH (tb X c) ρ' h' H') (s : RelS X.K H' h'.length ρ' sg σ) : h.length ≤ (trimS h sg h').length ∧ RelH (tb X c) ρ' (trimS h sg h') H' ∧ RelS X.K H' (trimS h sg h').length ρ' sg σ := by
  unfold trimS
  split
  · rename_i q
    rw [Bool.and_eq_true] at q
    have tl : (h'.take h.length).length = h.length := by rw [List.length_take]; omega
    refine ⟨by omega, R0.cut R1 q.1, s.len, fun i d e => ?_⟩
    obtain ⟨v, e1, r⟩ := s.at_ i d e
    refine ⟨v, e1, ?_⟩
    rw [tl]
    refine RelD.low r ?_
    have := List.all_eq_true.mp q.2 (some d) (List.mem_of_getElem? e)
    exact this
  · exact ⟨l, R1, s⟩
theorem ps_whE {ss : List Stmt} {is : ISs} (hp : PassesOwn (model X.prog X.w) X.A X.env X.xe) (ht : PT X e (tTe X c W g a)) (hb : PSs X ss (tSs X c W g is)) : PS X (.While e ss [] pos) (tSe X c W g (.wh a is)) := by
  refine ⟨fun pins s σ H E I q => (ps_while hp ht hb).run pins s σ H E I ?_⟩
  refine ⟨fun m σ H => tS (tb X c) W (fun s h => loopW (fun s h => tr (evE g a s h)) (evSs g is) m s h) E σ H, ⟨g.F, q⟩, fun m σ H q => ?_⟩
  cases m with
  | zero =>
    obtain ⟨ρ, sg, hh, _, A, o⟩ := q
    exact o.elim
  | succ m =>
    obtain ⟨ρ0, sg0, h0, _, A0, o0⟩ := q
    have o0 : OutS (tb X c) W h0.length ρ0 H E ((tr (evE g a sg0 h0)).then sg0 fun b h1 => if b then match evSs g is sg0 h1 with
      | .next s1 h1 => loopW (fun s h => tr (evE g a s h)) (evSs g is) m s1 (trimS h0 s1 h1)
      | .cont s1 h1 => loopW (fun s h => tr (evE g a s h)) (evSs g is) m s1 (trimS h0 s1 h1)
      | .brk s1 h1 => .next s1 h1
      | o => o
      else .next sg0 h1) := o0
    refine ⟨ρ0, sg0, h0, (), A0, ?_⟩
    show Out (tb X c) RL.b W h0.length ρ0 H σ _ (tr (evE g a sg0 h0))
    cases q : tr (evE g a sg0 h0) with
    | stuck => rw [q] at o0; exact o0
    | exc x h1 =>
      rw [q] at o0
      exact fun ρ' cc dd H' l1 e1 k1 R1 r1 => o0 ρ' σ cc dd H' l1 e1 k1 R1 (A0.s.mono k1 e1 l1) r1
    | ok k h1 =>
      rw [q, R.then_ok] at o0
      intro ρ1 b1 H1 l1 e1 k1 R1 rb
      have rb : k = b1 := rb
      subst rb
      have o1 := OutS.later o0 l1 e1 k1
      have s1 := A0.s.mono k1 e1 l1
      cases k with
      | false =>
        rw [if_neg Bool.false_ne_true]
        exact OutS.fin o1 R1 s1
      | true =>
        rw [if_pos rfl]
        refine ⟨fun σ' H' => tS (tb X c) W (fun s h => loopW (fun s h => tr (evE g a s h)) (evSs g is) m s h) E σ' H', fun σ' H' z => ⟨m, Nat.lt_succ_self m, z⟩, ρ1, sg0, h1, (), ⟨s1, R1, True.intro⟩, ?_⟩
        have o1 : OutS (tb X c) W h1.length ρ1 H1 E (match evSs g is sg0 h1 with
          | .next s1 h1 => loopW (fun s h => tr (evE g a s h)) (evSs g is) m s1 (trimS h0 s1 h1)
          | .cont s1 h1 => loopW (fun s h => tr (evE g a s h)) (evSs g is) m s1 (trimS h0 s1 h1)
          | .brk s1 h1 => .next s1 h1
          | o => o) := o1
        have o0 : OutS (tb X c) W h0.length ρ0 H E (match evSs g is sg0 h1 with
          | .next s1 h1 => loopW (fun s h => tr (evE g a s h)) (evSs g is) m s1 (trimS h0 s1 h1)
          | .cont s1 h1 => loopW (fun s h => tr (evE g a s h)) (evSs g is) m s1 (trimS h0 s1 h1)
          | .brk s1 h1 => .next s1 h1
          | o => o) := o0
        show OutS (tb X c) W h1.length ρ1 H1 _ (evSs g is sg0 h1)
        cases q2 : evSs g is sg0 h1 with
        | stuck => rw [q2] at o1; exact o1
        | ret d h2 => rw [q2] at o1; exact o1
        | exc x s2 h2 => rw [q2] at o1; exact o1
        | brk s2 h2 => rw [q2] at o1; exact o1
        | next s2 h2 =>
          rw [q2] at o0
          intro ρ2 σ2 H2 l2 e2 k2 R2 rs2
          obtain ⟨t1, t2, t3⟩ := trimS_rel A0.o (by omega) R2 rs2
          exact ⟨ρ2, s2, _, (), ⟨t3, t2, True.intro⟩, OutS.later o0 t1 (e1.trans e2 l1) (k1.trans k2)⟩
        | cont s2 h2 =>
          rw [q2] at o0
          intro ρ2 σ2 H2 l2 e2 k2 R2 rs2
          obtain ⟨t1, t2, t3⟩ := trimS_rel A0.o (by omega) R2 rs2
          exact ⟨ρ2, s2, _, (), ⟨t3, t2, True.intro⟩, OutS.later o0 t1 (e1.trans e2 l1) (k1.trans k2)⟩
theorem ps_forE {vs : List Nat} {tg : Expr} {ss : List Stmt} {is : ISs} {t : ITg} {it : IIt} (hp : PassesOwn (model X.prog X.w) X.A X.env X.xe) (hc : X.calm = true) (hs : ∀ x, foldedSetIterable e X.env x = pure x) (hi : PI X tg e (tG (tb X c) W (Wk (tb X c)) (evI g it)))
    (hg : PG X tg (tTg (tb X c) W vs (asgT g t))) (hb : PSs X ss (tSs X c W g is)) : PS X (.For tg e ss [] pos) (tSe X c W g (.for t it is)) := by
  refine ⟨fun pins s σ H E I q => (ps_for hp hc hi hg hb hs).run pins s σ H E I ?_⟩
  refine tG_mono (fun J H1 q => ?_) (tS.step (m := Wk (tb X c)) (fun sg p h1 => loopS p.2 (fun d s1 h2 => (asgT g t d s1 h2).then s1 fun s2 h3 => evSs g is s2 h3) p.1 sg h1) q)
  obtain ⟨ρ, sg, h, ⟨ds, gd⟩, A, o⟩ := q
  have wk := A.a
  dsimp only at o
  refine ⟨fun i m σ H' => ∃ ρ' sg' h', h.length ≤ h'.length ∧ Ext h.length ρ ρ' ∧ Keep X.K H1 H' ∧ RelH (tb X c) ρ' h' H' ∧ RelS X.K H' h'.length ρ' sg' σ ∧ i + m = ds.length ∧
    OutS (tb X c) W h'.length ρ' H' E (loopS gd (fun d s1 h2 => (asgT g t d s1 h2).then s1 fun s2 h3 => evSs g is s2 h3) (ds.drop i) sg' h'), ⟨ds.length, ρ, sg, h, Nat.le_refl _, Ext.refl _ _, Keep.refl _ _, A.o, A.s, by omega, o⟩, ?_⟩
  rintro i m σ H' ⟨ρ', sg', h', lh, fe, kk, Rh, Rs, im, o⟩
  rcases drop_cases ds i with ⟨ed, le⟩ | ⟨d, gt, ed, lt⟩
  · rw [ed] at o
    have o : OutS (tb X c) W h'.length ρ' H' E (if gd.ok h' then .next sg' h' else .stuck) := o
    split at o
    · rename_i ok
      exact .inl ⟨(wk i H' h' ρ' lh fe kk Rh ok).1 (by show i = ds.length; omega), OutS.fin o Rh Rs⟩
    · exact o.elim
  · rw [ed] at o
    have o : OutS (tb X c) W h'.length ρ' H' E (if gd.ok h' then match ((asgT g t d sg' h').then sg' fun s2 h3 => evSs g is s2 h3) with
      | .next s1 h1 => loopS gd (fun d s1 h2 => (asgT g t d s1 h2).then s1 fun s2 h3 => evSs g is s2 h3) (ds.drop (i + 1)) s1 (trimS h' s1 h1)
      | .cont s1 h1 => loopS gd (fun d s1 h2 => (asgT g t d s1 h2).then s1 fun s2 h3 => evSs g is s2 h3) (ds.drop (i + 1)) s1 (trimS h' s1 h1)
      | .brk s1 h1 => .next s1 h1
      | o => o
      else .stuck) := o
    split at o
    · rename_i ok
      obtain ⟨go, yl⟩ := (wk i H' h' ρ' lh fe kk Rh ok).2 d gt
      refine .inr ⟨go, fun σ2 H2 => ∃ ρ2 sg2 h2, h.length ≤ h2.length ∧ Ext h.length ρ ρ2 ∧ Keep X.K H1 H2 ∧ RelH (tb X c) ρ2 h2 H2 ∧ RelS X.K H2 h2.length ρ2 sg2 σ2 ∧ (i + 1) + (m - 1) = ds.length ∧
        OutS (tb X c) W h2.length ρ2 H2 E (loopS gd (fun d s1 h2 => (asgT g t d s1 h2).then s1 fun s2 h3 => evSs g is s2 h3) (ds.drop (i + 1)) sg2 h2), fun σ2 H2 z => ⟨m - 1, by omega, z⟩, fun x H2 y => ?_⟩
      obtain ⟨k2, R2, rx⟩ := yl x H2 y
      have o := OutS.later o (Nat.le_refl _) (Ext.refl _ _) k2
      refine ⟨ρ', sg', h', d, ⟨Rs.mono k2 (Ext.refl _ _) (Nat.le_refl _), R2, rx⟩, ?_⟩
      show OutG (tb X c) W vs h'.length ρ' H2 σ _ (asgT g t d sg' h')
      cases q1 : asgT g t d sg' h' with
      | stuck => rw [q1] at o; exact o
      | exc x1 h3 =>
        rw [q1] at o
        exact fun ρ3 cc dd H3 l3 e3 k3 R3 r3 => o ρ3 σ cc dd H3 l3 e3 k3 R3 ((Rs.mono k2 (Ext.refl _ _) (Nat.le_refl _)).mono k3 e3 l3) r3
      | ok s1 h3 =>
        rw [q1, R.then_ok] at o
        intro ρ3 σ3 H3 l3 e3 k3 R3 rs3 _
        refine ⟨ρ3, s1, h3, (), ⟨rs3, R3, True.intro⟩, ?_⟩
        show OutS (tb X c) W h3.length ρ3 H3 _ (evSs g is s1 h3)
        cases q2 : evSs g is s1 h3 with
        | stuck => rw [q2] at o; exact o
        | ret d2 h4 => rw [q2] at o; exact OutS.later (r := .ret d2 h4) o l3 e3 k3
        | exc x s2 h4 => rw [q2] at o; exact OutS.later (r := .exc x s2 h4) o l3 e3 k3
        | brk s2 h4 => rw [q2] at o; exact OutS.later (r := .next s2 h4) o l3 e3 k3
        | next s2 h4 =>
          rw [q2] at o
          intro ρ4 σ4 H4 l4 e4 k4 R4 rs4
          obtain ⟨t1, t2, t3⟩ := trimS_rel R2 (by omega) R4 rs4
          exact ⟨ρ4, s2, _, by omega, fe.trans (e3.trans e4 l3) lh, ((kk.trans k2).trans k3).trans k4, t2, t3, by omega, OutS.later o t1 (e3.trans e4 l3) (k3.trans k4)⟩
        | cont s2 h4 =>
          rw [q2] at o
          intro ρ4 σ4 H4 l4 e4 k4 R4 rs4
          obtain ⟨t1, t2, t3⟩ := trimS_rel R2 (by omega) R4 rs4
          exact ⟨ρ4, s2, _, by omega, fe.trans (e3.trans e4 l3) lh, ((kk.trans k2).trans k3).trans k4, t2, t3, by omega, OutS.later o t1 (e3.trans e4 l3) (k3.trans k4)⟩
    · exact o.elim

/-! ### op= -/
theorem augS_quiet {bo : Bin} {x y : D} {h h' : Hh} {z : Ex} : augS bo x y h ≠ .exc z h' := by
  unfold augS
  split <;> first | (split <;> simp) | simp
def rAugD (X : Cx) (c : Ct) (bo : Bin) : TIp := fun x y H Q => ∃ ρ h a b, RelH (tb X c) ρ h H ∧ RelD X.K H h.length ρ a x ∧ RelD X.K H h.length ρ b y ∧ Out (tb X c) RL.d (fun _ _ _ _ => False) h.length ρ H [] Q (augS bo a b h)
theorem ip_d {op : Operator} {bo : Bin} (ho : binOf op = some bo) : PIp X op (rAugD X c bo) := by
  intro pins s σ H x y v u Q I rx ry ⟨ρ, h, a, b, R, ra, rb, o⟩
  exact aug_ok (W := fun _ _ _ _ => False) ho I rx ry R ra rb (Out.cb (fun _ _ _ z => z) o)
theorem aug_mk {bo : Bin} {x y : V} {Q : VK} {ρ : Nat → Addr} {h : Hh} {a b : D} (R0 : RelH (tb X c) ρ h H) (ra : RelD X.K H h.length ρ a x) (rb : RelD X.K H h.length ρ b y) (f : ∀ d h', augS bo a b h = .ok d h' → ∀ ρ' v H', h.length ≤ h'.length → Ext h.length ρ ρ' → Keep X.K H H' → RelH (tb X c) ρ' h' H' → RelD X.K H' h'.length ρ' d v → Q v H') (ns : augS bo a b h ≠ .stuck) : rAugD X c bo x y H Q := by
  refine ⟨ρ, h, a, b, R0, ra, rb, ?_⟩
  cases q : augS bo a b h with
  | stuck => exact absurd q ns
  | exc z h' => exact absurd q augS_quiet
  | ok d h' => exact f d h' q
theorem ps_augE {i : Nat} {x : Str} {op : Operator} {bo : Bin} {pos' : Pos} (ho : binOf op = some bo) (hN : X.N.Nodup) (hi : X.N[i]? = some x) (hx : Loc X.env.scope x) (hf : X.fn x = true ∨ X.env.scope.names.lookup x = some .local) (he : PE X e (tEe X c W g a)) :
    PS X (.AugAssign (.Name x pos') op e pos) (tSe X c W g (.aug i bo a)) := by
  refine ⟨fun pins s σ H E I q => (ps_aug hN hi hx he (ip_d (c := c) ho) hf).run pins s σ H E I ?_⟩
  obtain ⟨ρ, sg, h, _, A, o⟩ := q
  have o : OutS (tb X c) W h.length ρ H E ((R.of (slot i sg) h).then sg fun x h0 => (evE g a sg h0).then sg fun y h1 => (augS bo x y h1).then sg fun z h2 => .next (sg.set i (some z)) h2) := o
  unfold slot at o
  cases q : sg[i]? with
  | none => rw [q] at o; exact o.elim
  | some z =>
    cases z with
    | none => rw [q] at o; exact o.elim
    | some d =>
      rw [q] at o
      obtain ⟨v, e1, r⟩ := A.s.at_ i d q
      refine ⟨v, e1, ?_⟩
      have t2 : tHS (tb X c) W RL.d (fun sg x h0 => (evE g a sg h0).then sg fun y h1 => (augS bo x y h1).then sg fun z h2 => .next (sg.set i (some z)) h2) v E σ H := ⟨ρ, sg, h, d, ⟨A.s, A.o, r⟩, o⟩
      refine tG_mono (fun y H1 q => ?_) (tHS.step (m := RL.d) (fun sg (p : D × D) h1 => (augS bo p.1 p.2 h1).then sg fun z h2 => .next (sg.set i (some z)) h2) t2)
      obtain ⟨ρ1, sg1, h1, ab, A1, o1⟩ := q
      dsimp only at o1
      refine aug_mk A1.o A1.a.1 A1.a.2 (fun d' h' q ρ' v' H' l1 e1 k1 R1 r1 => ?_) fun q => by rw [q] at o1; exact o1
      rw [q] at o1
      exact o1 ρ' _ H' l1 e1 k1 R1 ((A1.s.mono k1 e1 l1).set r1)
theorem fld_at {ρ : Nat → Addr} {h : Hh} {f ci : Nat} {z : Str} {d y : D} {x : V} (ok : CtOk X.K c) (hz : c.fld f = some z) (R : RelH (tb X c) ρ h H) (ra : RelD X.K H h.length ρ d x) (q : fldS f h d = some (ci, y)) :
    ∃ p C dx fs v, x = .ref p ∧ H p = some (.ins C dx fs) ∧ c.cls ci = some C ∧ Cls X.K C ∧ NoAttr X.K C z ∧ fs.lookup z = some v ∧ RelD X.K H h.length ρ y v := by
  unfold fldS at q
  split at q
  · split at q
    · rename_i i _ ci' fs g
      cases ra with | r hi =>
      obtain ⟨C, dx, fv, e0, e1, r, al⟩ := R.obj i _ g
      rw [Option.map_eq_some_iff] at q
      obtain ⟨d', e, q⟩ := q
      cases q
      obtain ⟨w, e2, rd⟩ := relFs_get (T := tb X c) ok.inj hz r e
      obtain ⟨p, hp, rfl⟩ := getF_mem e
      exact ⟨_, C, dx, fv, w, rfl, e1, e0, ok.cls _ _ e0, ok.noAt _ _ _ _ e0 hz (List.all_eq_true.mp al p hp), e2, rd⟩
    · cases q
  · cases q
theorem cls_at {ρ : Nat → Addr} {h : Hh} {ci : Nat} {d : D} {x : V} (R : RelH (tb X c) ρ h H) (ra : RelD X.K H h.length ρ d x) (q : clsOf h d = some ci) : ∃ p C dx fs, x = .ref p ∧ H p = some (.ins C dx fs) ∧ c.cls ci = some C := by
  unfold clsOf at q
  split at q
  · split at q
    · rename_i i _ ci' fs g
      cases q
      cases ra with | r hi =>
      obtain ⟨C, dx, fv, e0, e1, r, al⟩ := R.obj i _ g
      exact ⟨_, C, dx, fv, rfl, e1, e0⟩
    · cases q
  · cases q
theorem putAttr_quiet {fok : Nat → Nat → Bool} {x y : D} {f : Nat} {h h' : Hh} {z : Ex} : putAttrS fok x f y h ≠ .exc z h' := by
  unfold putAttrS
  split
  · split
    · split <;> simp
    · simp
  · simp
theorem ps_augAttrE {f : Nat} {z : Str} {op : Operator} {bo : Bin} {tpos : Pos} (ho : binOf op = some bo) (ok : CtOk X.K c) (hz : c.fld f = some z) (hF : g.fok = c.fok) (ha : PE X e (tEe X c W g a)) (hb : PE X e2 (tEe X c W g b)) :
    PS X (.AugAssign (.Attribute e z tpos) op e2 pos) (tSe X c W g (.augAttr a f bo b)) := by
  refine ⟨fun pins s σ H E I q => (ps_fldaug (rd := rAugD X c bo) ha hb (fun pins s σ H x y u v Q I rx ry h => ip_d ho pins s σ H x y u v Q I rx ry h)).run pins s σ H E I ?_⟩
  refine tG_mono (fun x H1 q => ?_) (tS.step (m := RL.d) (fun sg x h1 => (R.of (fldS f h1 x) h1).then sg fun cy h2 => (evE g b sg h2).then sg fun z h3 => (augS bo cy.2 z h3).then sg fun w h4 => if clsOf h4 x = some cy.1 then (putAttrS g.fok x f w h4).then sg fun _ h5 => .next sg h5 else .stuck) q)
  obtain ⟨ρ, sg, h, d, A, o⟩ := q
  have ra : RelD X.K H1 h.length ρ d x := A.a
  dsimp only at o
  cases q : fldS f h d with
  | none => rw [q] at o; exact o.elim
  | some cy =>
    rw [q] at o
    obtain ⟨ci, y⟩ := cy
    have o : OutS (tb X c) W h.length ρ H1 E ((evE g b sg h).then sg fun z h3 => (augS bo y z h3).then sg fun w h4 => if clsOf h4 d = some ci then (putAttrS g.fok d f w h4).then sg fun _ h5 => .next sg h5 else .stuck) := o
    obtain ⟨p, C, dx, fs, v, rfl, e1, e0, e3, e4, e5, e6⟩ := fld_at ok hz A.o ra q
    refine ⟨p, C, dx, fs, v, rfl, e1, e3, e4, e5, ?_⟩
    refine tG_mono (fun y2 H2 q => ?_) (tHS.step (l := RL.x RL.d RL.d) (m := RL.d) (x := (V.ref p, v)) (fun sg (t : (D × D) × D) h3 => (augS bo t.1.2 t.2 h3).then sg fun w h4 => if clsOf h4 t.1.1 = some ci then (putAttrS g.fok t.1.1 f w h4).then sg fun _ h5 => .next sg h5 else .stuck) ⟨ρ, sg, h, (d, y), ⟨A.s, A.o, ra, e6⟩, o⟩)
    obtain ⟨ρ2, sg2, h2, t, A2, o2⟩ := q
    have r1 : RelD X.K H2 h2.length ρ2 t.1.1 (V.ref p) := A2.a.1.1
    dsimp only at o2
    refine aug_mk A2.o A2.a.1.2 A2.a.2 (fun w h4 q ρ4 zv H4 l4 ex4 k4 R4 r4 => ?_) fun q => by rw [q] at o2; exact o2
    rw [q, R.then_ok] at o2
    have o2 := OutS.later o2 l4 ex4 k4
    split at o2
    · rename_i cl
      have r5 : RelD X.K H4 h4.length ρ4 t.1.1 (V.ref p) := r1.mono k4 ex4 l4
      obtain ⟨p', C', dx', fs', ep, e7, e8⟩ := cls_at R4 r5 cl
      cases ep
      have : C' = C := by rw [e0] at e8; exact (Option.some.inj e8).symm
      subst this
      rw [hF] at o2
      have pa := putAttr_at (W := fun _ _ _ _ => False) (σ := []) (Q := fun H5 => E.nx σ H5) (f := f) ok hz R4 r5 r4 (d := w) (by
        cases q : putAttrS c.fok t.1.1 f w h4 with
        | stuck => rw [q] at o2; exact o2
        | exc _ _ => exact absurd q putAttr_quiet
        | ok _ h5 =>
          rw [q] at o2
          exact fun ρ' b' H' l1 e1 k1 R1 r1 => o2 ρ' σ H' l1 e1 k1 R1 ((A2.s.mono k4 ex4 l4).mono k1 e1 l1))
      obtain ⟨p5, C5, dx5, fs5, ep5, g1, g2, g3, g4, g5⟩ := pa
      cases ep5
      rw [e7] at g1
      cases g1
      exact ⟨dx', fs', e7, g4, g5⟩
    · exact o2.elim
theorem putS_quiet {o i d : D} {h h' : Hh} {x : Ex} : putS o i d h ≠ .exc x h' := by
  unfold putS
  repeat' split
  all_goals (intro z; cases z)
theorem ps_augSubE {op : Operator} {bo : Bin} {tpos : Pos} {i2 : Expr} {ib : IE} (hu : X.A.units + 66 < cLine) (ho : binOf op = some bo) (hp : plainIx e2 = true) (ha : PE X e (tEe X c W g a)) (hb : PE X e2 (tEe X c W g b)) (hd : PE X i2 (tEe X c W g ib)) :
    PS X (.AugAssign (.Subscript e e2 tpos) op i2 pos) (tSe X c W g (.augSub a b bo ib)) := by
  refine ⟨fun pins s σ H E I q => (ps_augS (tip := rAugD X c bo) (tset := rSetD X c (fun _ _ _ _ => False) []) ha hb (get_d (c := c) (by omega)) hd (ip_d ho) (set_d (by omega)) (by intros; cases e2 <;> first | rfl | cases hp)).run pins s σ H E I ?_⟩
  refine tG_mono (fun x H1 q => ?_) (tS.step (m := RL.d) (fun sg x h1 => (evE g b sg h1).then sg fun k h2 => (R.of (itmS x k h2) h2).then sg fun y h3 => (evE g ib sg h3).then sg fun z h4 => (augS bo y z h4).then sg fun w h5 => (putS x k w h5).then sg fun _ h6 => .next sg h6) q)
  refine tG_mono (fun kx H2 q => ?_) (tHS.step (m := RL.d) (fun sg (t : D × D) h2 => (R.of (itmS t.1 t.2 h2) h2).then sg fun y h3 => (evE g ib sg h3).then sg fun z h4 => (augS bo y z h4).then sg fun w h5 => (putS t.1 t.2 w h5).then sg fun _ h6 => .next sg h6) q)
  obtain ⟨ρ, sg, h, d, A, o⟩ := q
  have ra : RelD X.K H2 h.length ρ d.1 x := A.a.1
  have rb : RelD X.K H2 h.length ρ d.2 kx := A.a.2
  dsimp only at o
  clear q
  cases qi : itmS d.1 d.2 h with
  | none => rw [qi] at o; exact o.elim
  | some y =>
    rw [qi] at o
    have o : OutS (tb X c) W h.length ρ H2 E ((evE g ib sg h).then sg fun z h4 => (augS bo y z h4).then sg fun w h5 => (putS d.1 d.2 w h5).then sg fun _ h6 => .next sg h6) := o
    refine ⟨ρ, h, d.1, d.2, y, A.o, ra, rb, qi, fun v rv => ?_⟩
    refine tG_mono (fun z H3 q => ?_) (tHS.step (l := RL.x (RL.x RL.d RL.d) RL.d) (m := RL.d) (x := ((x, kx), v)) (fun sg (t : ((D × D) × D) × D) h4 => (augS bo t.1.2 t.2 h4).then sg fun w h5 => (putS t.1.1.1 t.1.1.2 w h5).then sg fun _ h6 => .next sg h6) ⟨ρ, sg, h, (d, y), ⟨A.s, A.o, ⟨ra, rb⟩, rv⟩, o⟩)
    obtain ⟨ρ2, sg2, h2, t2, A2, o2⟩ := q
    have r1 : RelD X.K H3 h2.length ρ2 t2.1.1.1 x := A2.a.1.1.1
    have r2 : RelD X.K H3 h2.length ρ2 t2.1.1.2 kx := A2.a.1.1.2
    dsimp only at o2
    refine aug_mk A2.o A2.a.1.2 A2.a.2 (fun w h4 q ρ4 zv H4 l4 ex4 k4 R4 r4 => ?_) fun q => by rw [q] at o2; exact o2
    rw [q, R.then_ok] at o2
    have o2 := OutS.later o2 l4 ex4 k4
    refine ⟨ρ4, h4, t2.1.1.1, t2.1.1.2, w, R4, r1.mono k4 ex4 l4, r2.mono k4 ex4 l4, r4, ?_⟩
    cases qp : putS t2.1.1.1 t2.1.1.2 w h4 with
    | stuck => rw [qp] at o2; exact o2
    | exc _ _ => exact absurd qp putS_quiet
    | ok _ h6 =>
      rw [qp] at o2
      exact fun ρ' b' H' l1 e1 k1 R1 _ => o2 ρ' σ H' l1 e1 k1 R1 ((A2.s.mono k4 ex4 l4).mono k1 e1 l1)
end
end Pv

/-! L: what is compiled is kept. -/
namespace Pv
open PySem L2 PySem.Spec PyProof.Rows

/-- what must be known of the text around -/
structure Okc (X : Cx) (c : Ct) (m : Nm) (g : G) (j : Nat) : Prop where
  ct : CtOk X.K c
  hF : g.fok = c.fok
  calm : X.calm = true
  nodup : X.N.Nodup
  kind : X.env.scope.kind = .function
  room : Room (j + 1) X.A
  bare : Bare X.A
  bnd : ∀ x, bltNames.contains x = true → m.bnd.contains x = false → X.mg x = none
  con : ∀ x p, m.con.lookup x = some p → ∃ u v, X.mg x = some u ∧ RelV v u ∧ ∀ H, RelP X.K H p v
  fns : ∀ x f, idx x m.fns = some f → ∃ a, X.mg x = some (.ref a) ∧ FnAt X c (j + 1) a (g.call f)
  cls : ∀ x ci, idx x m.cls = some ci → ∃ C fa fi, X.mg x = some (.ref C) ∧ c.cls ci = some C ∧ g.cinit ci = some fi ∧ Mk X.K C fa ∧ FnAt X c j fa (g.init fi)
  met : ∀ z mi, idx z m.nms = some mi → MethOk X c g (j + 1) mi z
  no1000 : ∀ ci, g.meth ci 1000 = none
  fld : ∀ z f, idx z m.nms = some f → c.fld f = some z
theorem Okc.blk {X : Cx} {c : Ct} {m : Nm} {g : G} {j : Nat} (k : Okc X c m g j) {scope : Scope} (hk : scope.kind = .function) (s : Shared) (H : Hp) (C : Addr) (cl : List (Str × Addr)) (fp : List Addr) : Okc (X.blk s H scope (compEnvC scope cl C X.env) fp) c m g j where
  ct := k.ct
  hF := k.hF
  calm := k.calm
  nodup := k.nodup
  kind := hk
  room := k.room
  bare := k.bare
  bnd := k.bnd
  con := k.con
  fns := fun x f e => let ⟨a, h1, h2⟩ := k.fns x f e; ⟨a, h1, ⟨h2.keep, h2.go⟩⟩
  cls := fun x ci e => let ⟨C, fa, fi, h1, h2, h3, h4, h5⟩ := k.cls x ci e; ⟨C, fa, fi, h1, h2, h3, h4, ⟨h5.keep, h5.go⟩⟩
  met := fun z mi e ci f C e1 e2 => let ⟨h1, fa, h2, h3⟩ := k.met z mi e ci f C e1 e2; ⟨h1, fa, h2, ⟨h3.keep, h3.go⟩⟩
  no1000 := k.no1000
  fld := k.fld

theorem idx_get : ∀ {x : Str} {N : List Str} {i : Nat}, idx x N = some i → N[i]? = some x
  | x, [], i, h => by cases h
  | x, y :: ys, i, h => by
    unfold idx at h
    by_cases q : x = y
    · rw [if_pos q] at h; cases h; rw [q]; rfl
    · rw [if_neg q] at h
      rw [Option.map_eq_some_iff] at h
      obtain ⟨i', h, rfl⟩ := h
      rw [List.getElem?_cons_succ]
      exact idx_get h
section
variable {X : Cx} {c : Ct} {m : Nm} {g : G} {j : Nat} {W : WX} {sc : Scope} {e : Expr} {a : IE}
theorem vis_of {x : Str} (hs : X.env.scope = sc) (h : isVis sc x = true) : Vis X.env.scope x := by
  unfold isVis at h
  rw [hs]
  split at h
  · exact .inl ‹_›
  · exact .inr (.inl ‹_›)
  · exact .inr (.inr ‹_›)
  · cases h
theorem loc_of {x : Str} (hs : X.env.scope = sc) (h : isLoc sc x = true) : Loc X.env.scope x := by
  unfold isLoc at h
  rw [hs]
  split at h
  · exact .inl ‹_›
  · exact .inr ‹_›
  · cases h
theorem gl_of {x : Str} (hs : X.env.scope = sc) (h : isGl sc x = true) : Gl X x := by
  unfold isGl at h
  show X.env.scope.names.lookup x = some .globalImplicit
  rw [hs]
  split at h
  · assumption
  · cases h
theorem pe_root (h : PE X e (tEe X c W g a)) : PE X e (tEe X c W g a.root) := by
  unfold IE.root
  split
  · exact ⟨fun pins s σ H Q I t => h.run pins s σ H Q I (tE.trim t)⟩
  · exact h
theorem pt_root (h : PT X e (tTe X c W g a)) : PT X e (tTe X c W g a.root) := by
  unfold IE.root
  split
  · exact ⟨fun pins s σ H Q I t => h.run pins s σ H Q I (tT.trim t)⟩
  · exact h
theorem noSet_of (h : noSet e = true) : ∀ x, foldedSetIterable e X.env x = pure x := by
  intro x
  cases e <;> first | rfl | cases h
/-- which names may be stored, and where they stand -/
def StOk (X : Cx) (st : List Str) (vs : List Nat) : Prop := ∀ x ∈ st, (Loc X.env.scope x → X.fn x = true ∨ X.env.scope.names.lookup x = some .local) ∧ ∀ i, idx x X.N = some i → i ∈ vs
theorem takes_no : Takes X (fun _ _ _ _ => False) := fun _ _ ⟨_, _, _, _, _, _, _, _, _, _, _, _, _, _, _, _, w⟩ => w.elim
theorem owns_ok {scope : Scope} (bo : BlkOk X.N X.env.scope scope (owns X.N scope)) (s : Shared) (H : Hp) (C : Addr) (cl : List (Str × Addr)) (fp : List Addr) : StOk (X.blk s H scope (compEnvC scope cl C X.env) fp) ((owns X.N scope).map (·.1)) ((owns X.N scope).map (·.2)) := by
  intro x hx
  obtain ⟨⟨x', i⟩, hp, rfl⟩ := List.mem_map.mp hx
  have hp0 := hp
  unfold owns at hp
  rw [List.mem_filterMap] at hp
  obtain ⟨y, hy, ey⟩ := hp
  rw [List.mem_filter] at hy
  rw [Option.map_eq_some_iff] at ey
  obtain ⟨i', ei, ey⟩ := ey
  cases ey
  have lk := bo.uniq y hy.1
  refine ⟨fun _ => ?_, fun i2 e2 => ?_⟩
  · have hk := hy.2
    cases q : y.2 with
    | cell =>
      left
      show (scope.names.lookup y.1 == some .cell) = true
      rw [lk, q]
      rfl
    | «local» =>
      right
      show (relS scope X.env.scope).names.lookup y.1 = some .local
      exact lookup_relS_keep (by decide) (by rw [lk, q])
    | _ => rw [q] at hk; cases hk
  · have e2 : idx y.1 X.N = some i2 := e2
    rw [ei] at e2
    cases e2
    exact List.mem_map.mpr ⟨_, hp0, rfl⟩

/-- all that is compiled with n is kept -/
structure Snd (c : Ct) (m : Nm) (g : G) (j n : Nat) : Prop where
  e : ∀ {X : Cx} {W : WX} {e : Expr} {ie : IE}, Okc X c m g j → Takes X W → cE m n X.env.scope X.N e = some ie → noStar e = true ∧ PE X e (tEe X c W g ie) ∧ PT X e (tTe X c W g ie)
  b : ∀ {X : Cx} {W : WX} {op : BoolOp} {vs : List Expr} {ie : IE}, Okc X c m g j → Takes X W → cBool m n X.env.scope X.N op vs = some ie → ∀ pos, PE X (.BoolOp op vs pos) (tEe X c W g ie) ∧ PW X (.BoolOp op vs pos) (tTe X c W g ie)
  es : ∀ {X : Cx} {W : WX} {es : List Expr} {ie : IEs}, Okc X c m g j → Takes X W → cEs m n X.env.scope X.N es = some ie → PA X es (tAe X c W g ie) ∧ noStars es ∧ (es = [] → ie = .nil) ∧ (es ≠ [] → ∃ b bs, ie = .cons b bs) ∧ ∀ e, es = [e] → ∃ a, ie = .cons a .nil ∧ PT X e (tTe X c W g a)
  o : ∀ {X : Cx} {W : WX} {e : Option Expr} {ie : IEo}, Okc X c m g j → Takes X W → cO m n X.env.scope X.N e = some ie → PO X e (tG (tb X c) W RL.o (evO g ie))
  t : ∀ {X : Cx} {W : WX} {st : List Str} {vs : List Nat} {e : Expr} {ie : ITg}, Okc X c m g j → Takes X W → StOk X st vs → cT m n X.env.scope X.N st e = some ie → noStar e = true ∧ PG X e (tTg (tb X c) W vs (asgT g ie))
  ts : ∀ {X : Cx} {W : WX} {st : List Str} {vs : List Nat} {es : List Expr} {ie : ITgs}, Okc X c m g j → Takes X W → StOk X st vs → cTs m n X.env.scope X.N st es = some ie → noStars es ∧ PGs X es (tTgs (tb X c) W vs (asgTs g ie))
  i : ∀ {X : Cx} {W : WX} {tg it : Expr} {ie : IIt}, Okc X c m g j → Takes X W → cI m n X.env.scope X.N tg it = some ie → PI X tg it (tG (tb X c) W (Wk (tb X c)) (evI g ie))
  x : ∀ {X : Cx} {W : WX} {es : List Expr} {ie : IEs}, Okc X c m g j → Takes X W → cEx m n X.env.scope X.N es = some ie → PA X es (tAe X c W g ie)
  kv : ∀ {X : Cx} {W : WX} {ks : List (Option Expr)} {vs : List Expr} {ie : IEs}, Okc X c m g j → Takes X W → cKV m n X.env.scope X.N ks vs = some ie → ∀ pos, ∃ L : List (IE × IE), ie = flatE L ∧ PPs X pos ks vs (L.map fun p => (tEe X c W g p.1, tEe X c W g p.2)) ∧ (ks = [] → L = [] ∧ vs = [])
  r : ∀ {X : Cx} {W : WX} {es : List Expr} {ie : IE}, Okc X c m g j → Takes X W → cRange m n X.env.scope X.N es = some ie → Gl X "list" → X.mg "list" = none → ∀ p pos, PE X (.Call (.Name "list" p) es [] pos) (tEe X c W g ie)

/-- a comprehension's parts -/
theorem comp_parts {n : Nat} (S : Snd c m g j n) (k : Okc X c m g j) (tk : Takes X W) {elt tg it : Expr} {ifs : List Expr} {scope : Scope} {pos : Pos} {ie : IE} (h : cE m (n + 1) X.env.scope X.N (.ListComp elt [⟨tg, it, ifs, 0⟩] scope pos) = some ie) :
    ∃ (l : Option IE) (x : IE) (t : ITg) (i : IIt) (fs : IEs), ie = lockE l (.comp ((owns X.N scope).map (·.2)) x t i fs) ∧ PI X tg it (tG (tb X c) W (Wk (tb X c)) (evI g i)) ∧ BlkOk X.N X.env.scope scope (owns X.N scope) ∧
      (∀ (s : Shared) (H : Hp) (C : Addr) (cl : List (Str × Addr)) (fp : List Addr), PG (X.blk s H scope (compEnvC scope cl C X.env) fp) tg (tTg (tb X c) (fun _ _ _ _ => False) ((owns X.N scope).map (·.2)) (asgT g t))) ∧
      (∀ (s : Shared) (H : Hp) (C : Addr) (cl : List (Str × Addr)) (fp : List Addr), PTs (X.blk s H scope (compEnvC scope cl C X.env) fp) ifs (tT (tb X c) (fun _ _ _ _ => False) (evTs g fs))) ∧
      (∀ (s : Shared) (H : Hp) (C : Addr) (cl : List (Str × Addr)) (fp : List Addr), PE (X.blk s H scope (compEnvC scope cl C X.env) fp) elt (tEe X c (fun _ _ _ _ => False) g x)) ∧ (∀ x, foldedSetIterable it X.env x = pure x) := by
  simp only [cE] at h
  split at h
  · rename_i q
    simp only [Bool.and_eq_true, decide_eq_true_eq] at q
    have bo := blkOk_by q.1.1
    simp only [bind, Option.bind_eq_some_iff] at h
    obtain ⟨i, hi, t, ht, fs, hf, x, hx, l, hl, h⟩ := h
    cases h
    have K1 := fun (s : Shared) (H : Hp) (C : Addr) (cl : List (Str × Addr)) (fp : List Addr) => k.blk bo.kind s H C cl fp
    refine ⟨l, _, t, i, fs, rfl, S.i k tk hi, bo, fun s H C cl fp => (S.t (K1 s H C cl fp) takes_no (owns_ok bo s H C cl fp) ht).2, fun s H C cl fp => ?_, fun s H C cl fp => pe_root (S.e (K1 s H C cl fp) takes_no hx).2.1, noSet_of q.1.2⟩
    obtain ⟨h1, h2, h3, h4, h5⟩ := S.es (W := fun _ _ _ _ => False) (K1 s H C cl fp) takes_no hf
    exact pts_E q.2 h3 h5
  · cases h
theorem con_ok {x : Str} {p : P} (k : Okc X c m g j) (ok : okName x = true) (hg : Gl X x) (h : m.con.lookup x = some p) {pos : Pos} : PE X (.Name x pos) (tEe X c W g (.c p)) := by
  obtain ⟨u, v, hm, r, rp⟩ := k.con x p h
  exact pe_p (pe_glob hg hm r (okName_db ok)) rp
theorem lookup_in {α β : Type} [BEq α] [LawfulBEq α] : ∀ {l : List (α × β)} {a : α} {b : β}, l.lookup a = some b → (a, b) ∈ l
  | [], _, _, h => by cases h
  | (x, y) :: r, a, b, h => by
    rw [List.lookup] at h
    split at h
    · rename_i q
      cases h
      rw [eq_of_beq q]
      exact List.mem_cons_self
    · exact List.mem_cons_of_mem _ (lookup_in h)
theorem bltTab_ok : ∀ p ∈ bltTab, (∃ f, bltId p.2 = some (p.1, f)) ∧ bltNames.contains p.1 = true := by
  intro p hp
  simp only [bltTab, List.mem_cons, List.not_mem_nil, or_false] at hp
  rcases hp with rfl | rfl | rfl | rfl | rfl | rfl | rfl | rfl | rfl | rfl | rfl | rfl | rfl | rfl | rfl <;> exact ⟨⟨_, rfl⟩, by decide +kernel⟩
theorem bltOf_id {x : Str} {b : Blt} (h : bltOf x = some b) : ∃ f, bltId b = some (x, f) := (bltTab_ok _ (lookup_in h)).1
theorem bltOf_in {x : Str} {b : Blt} (h : bltOf x = some b) : bltNames.contains x = true := (bltTab_ok _ (lookup_in h)).2
theorem tyName_in {x : Str} {t : Ty} (h : tyName x = some t) : bltNames.contains x = true := (tyName_ok h).2.2.2
theorem lockE_ok {X : Cx} {c : Ct} {W : WX} {g : G} {e : Expr} {a : IE} (l : Option IE) (h : PE X e (tEe X c W g a)) : PE X e (tEe X c W g (lockE l a)) := by
  cases l with
  | none => exact h
  | some l => exact pe_lckE h
theorem bmOf_ok (x : Str) : bmOf x = bmOf x := rfl
section
variable {n : Nat} (S : Snd c m g j n)
include S
theorem snd_call {x : Str} {es : List Expr} {p pos : Pos} {ie : IE} (k : Okc X c m g j) (tk : Takes X W) (h : cE m (n + 1) X.env.scope X.N (.Call (.Name x p) es [] pos) = some ie) : PE X (.Call (.Name x p) es [] pos) (tEe X c W g ie) := by
  simp only [cE] at h
  split at h
  · rename_i q
    rw [Bool.and_eq_true] at q
    have hg := gl_of (X := X) rfl q.2
    split at h
    · rename_i f hf
      rw [Option.map_eq_some_iff] at h
      obtain ⟨as, has, rfl⟩ := h
      obtain ⟨h1, h2, h3, h4, h5⟩ := S.es (W := W) k tk has
      obtain ⟨fa, hm, F⟩ := k.fns x f hf
      exact pe_callE k.room k.bare tk F hg hm q.1 h2 h3 h1
    · split at h
      · rename_i ci hc
        rw [Option.map_eq_some_iff] at h
        obtain ⟨as, has, rfl⟩ := h
        obtain ⟨h1, h2, h3, h4, h5⟩ := S.es (W := W) k tk has
        obtain ⟨C, fa, fi, hm, hC, hi, M, F⟩ := k.cls x ci hc
        exact pe_makeE k.room k.bare tk hi hC M F hg hm q.1 h2 h3 h1
      · split at h
        · cases h
        · rename_i nb
          split at h
          · rename_i ex
            subst ex
            have hm := k.bnd "isinstance" (by decide +kernel) (by simpa using nb)
            split at h
            · split at h
              · rename_i q2
                simp only [Bool.and_eq_true, Bool.not_eq_true'] at q2
                split at h
                · rename_i ht
                  rw [Option.map_eq_some_iff] at h
                  obtain ⟨y, hy, rfl⟩ := h
                  obtain ⟨e1, e2, _⟩ := S.e (W := W) k tk hy
                  exact pe_isiE hg hm (gl_of (X := X) rfl q2.1.2) (k.bnd _ (tyName_in ht) q2.2) ht e1 e2
                · cases h
              · cases h
            · cases h
          split at h
          · rename_i ex
            rw [Bool.and_eq_true, decide_eq_true_eq] at ex
            obtain ⟨ex, _⟩ := ex
            subst ex
            exact S.r k tk h hg (k.bnd "list" (by decide +kernel) (by simpa using nb)) p pos
          split at h
          · rename_i b hb
            split at h
            · cases h
            · rw [Option.map_eq_some_iff] at h
              obtain ⟨as, has, rfl⟩ := h
              obtain ⟨h1, h2, h3, h4, h5⟩ := S.es (W := W) k tk has
              obtain ⟨f, hf⟩ := bltOf_id hb
              exact pe_bltE k.calm k.bare (by have := k.room.un; omega) hf hg (k.bnd x (bltOf_in hb) (by simpa using nb)) h2 h1
          · cases h
  · cases h
theorem snd_meth {o : Expr} {x : Str} {ap : Pos} {es : List Expr} {pos : Pos} {ie : IE} (k : Okc X c m g j) (tk : Takes X W) (h : cE m (n + 1) X.env.scope X.N (.Call (.Attribute o x ap) es [] pos) = some ie) : PE X (.Call (.Attribute o x ap) es [] pos) (tEe X c W g ie) := by
  simp only [cE] at h
  split at h
  · cases h
  · rename_i q
    simp only [Bool.or_eq_true, Bool.not_eq_true', not_or, Bool.not_eq_false, decide_eq_true_eq, Bool.not_eq_true, decide_eq_false_iff_not, Decidable.not_not] at q
    simp only [bind, Option.bind_eq_some_iff] at h
    obtain ⟨y, hy, as, has, h⟩ := h
    cases h
    obtain ⟨h1, h2, h3, h4, h5⟩ := S.es (W := W) k tk has
    refine pe_methE k.room k.bare tk k.ct ?_ rfl ?_ q.1.1 q.1.2 q.2 h2 h3 h4 (S.e k tk hy).2.1 h1
    · cases e : idx x m.nms with
      | none => exact .inl ⟨rfl, k.no1000⟩
      | some mi => exact .inr (k.fld x mi e)
    · cases e : idx x m.nms with
      | none => intro ci f C hm; have hm : g.meth ci 1000 = some f := hm; rw [k.no1000 ci] at hm; cases hm
      | some mi => exact k.met x mi e
theorem snd_lc {elt tg it : Expr} {ifs : List Expr} {scope : Scope} {pos : Pos} {ie : IE} (k : Okc X c m g j) (tk : Takes X W) (h : cE m (n + 1) X.env.scope X.N (.ListComp elt [⟨tg, it, ifs, 0⟩] scope pos) = some ie) : PE X (.ListComp elt [⟨tg, it, ifs, 0⟩] scope pos) (tEe X c W g ie) := by
  obtain ⟨l, x, t, i, fs, rfl, h1, h2, h3, h4, h5, h6⟩ := comp_parts (W := W) S k tk h
  exact lockE_ok l (pe_compE k.calm k.nodup h1 h2 h3 h4 h5 h6)
theorem snd_e {ie : IE} (k : Okc X c m g j) (tk : Takes X W) (h : cE m (n + 1) X.env.scope X.N e = some ie) : noStar e = true ∧ PE X e (tEe X c W g ie) ∧ PT X e (tTe X c W g ie) := by
  have hu : X.A.units + 66 < cLine := by have := k.room.un; omega
  have pl : plainT e = true → noStar e = true → PE X e (tEe X c W g ie) → noStar e = true ∧ PE X e (tEe X c W g ie) ∧ PT X e (tTe X c W g ie) := fun h1 h2 h3 => ⟨h2, h3, pt_of h1 h3⟩
  cases e with
  | Constant kk kd pos =>
    refine pl rfl rfl ?_
    simp only [cE] at h
    split at h
    · cases h; exact pe_p pe_non fun _ => .non
    · cases h; exact pe_p pe_bl fun _ => .bl _
    · cases h; exact pe_p pe_int fun _ => .int _
    · cases h; exact pe_p pe_str fun _ => .str _
    · cases h
  | Name x pos =>
    refine pl rfl rfl ?_
    simp only [cE] at h
    split at h
    · rename_i ok
      split at h
      · rename_i q
        rw [Option.map_eq_some_iff] at h
        obtain ⟨i, hi, rfl⟩ := h
        exact pe_v (idx_get hi) (vis_of rfl q) ok
      · split at h
        · rename_i q
          rw [Option.map_eq_some_iff] at h
          obtain ⟨p, hp, rfl⟩ := h
          exact con_ok k ok (gl_of rfl q) hp
        · cases h
    · cases h
  | Tuple es kk pos =>
    refine pl rfl rfl ?_
    simp only [cE, Option.map_eq_some_iff] at h
    obtain ⟨as, has, rfl⟩ := h
    exact pe_tupE (S.x k tk has)
  | List es pos =>
    refine pl rfl rfl ?_
    simp only [cE, Option.map_eq_some_iff] at h
    obtain ⟨as, has, rfl⟩ := h
    exact pe_lstE (S.x k tk has)
  | Dict ks vs pos =>
    refine pl rfl rfl ?_
    simp only [cE] at h
    split at h
    · rename_i q
      simp only [Bool.and_eq_true, decide_eq_true_eq] at q
      rw [Option.map_eq_some_iff] at h
      obtain ⟨as, has, rfl⟩ := h
      obtain ⟨L, rfl, hP, hn⟩ := S.kv (W := W) k tk has pos
      exact pe_dctE L hP q.1.1 q.1.2 q.2 hn
    · cases h
  | BinOp a op b pos =>
    refine pl rfl rfl ?_
    simp only [cE, bind, Option.bind_eq_some_iff] at h
    obtain ⟨o, ho, x, hx, y, hy, h⟩ := h
    cases h
    exact pe_bin ho (S.e k tk hx).2.1 (S.e k tk hy).2.1
  | UnaryOp op a pos =>
    cases op with
    | USub =>
      refine pl rfl rfl ?_
      simp only [cE, Option.map_eq_some_iff] at h
      obtain ⟨x, hx, rfl⟩ := h
      exact pe_neg (S.e k tk hx).2.1
    | Not =>
      simp only [cE, Option.map_eq_some_iff] at h
      obtain ⟨x, hx, rfl⟩ := h
      exact ⟨rfl, pe_notE (S.e k tk hx).2.1, pt_notE (S.e k tk hx).2.2⟩
    | _ => simp [cE] at h
  | BoolOp op vs pos =>
    simp only [cE] at h
    have := S.b k tk h pos
    exact ⟨rfl, this.1, this.2.pt⟩
  | IfExp t a b pos =>
    simp only [cE, bind, Option.bind_eq_some_iff] at h
    obtain ⟨x, hx, y, hy, z, hz, h⟩ := h
    cases h
    exact ⟨rfl, pe_iteE (S.e k tk hx).2.2 (S.e k tk hy).2.1 (S.e k tk hz).2.1, pt_iteE (S.e k tk hx).2.2 (S.e k tk hy).2.2 (S.e k tk hz).2.2⟩
  | Compare a ops bs pos =>
    match ops, bs, h with
    | [], bs, h => simp [cE] at h
    | [op], [], h => simp [cE] at h
    | [op], [b], h =>
      simp only [cE] at h
      split at h
      · cases h
      · rename_i q
        have q : behindInMarks op b = false := by simpa using q
        simp only [bind, Option.bind_eq_some_iff] at h
        obtain ⟨x, hx, y, hy, h⟩ := h
        cases h
        exact ⟨rfl, pe_cmpE hu q (S.e k tk hx).2.1 (S.e k tk hy).2.1, pt_cmpE hu q (S.e k tk hx).2.1 (S.e k tk hy).2.1⟩
    | [op], _ :: _ :: _, h => simp [cE] at h
    | [op, op'], [], h => simp [cE] at h
    | [op, op'], [_], h => simp [cE] at h
    | [op, op'], [b, d], h =>
      simp only [cE] at h
      split at h
      · cases h
      · rename_i q
        have q : lastMarks [op, op'] [b, d] = false := by simpa using q
        simp only [bind, Option.bind_eq_some_iff] at h
        obtain ⟨x, hx, y, hy, z, hz, h⟩ := h
        cases h
        exact ⟨rfl, pe_cmp2E hu q (S.e k tk hx).2.1 (S.e k tk hy).2.1 (S.e k tk hz).2.1, pt_cmp2E hu q (S.e k tk hx).2.1 (S.e k tk hy).2.1 (S.e k tk hz).2.1⟩
    | [op, op'], _ :: _ :: _ :: _, h => simp [cE] at h
    | _ :: _ :: _ :: _, bs, h => simp [cE] at h
  | Call f es kw pos =>
    refine pl rfl rfl ?_
    cases kw with
    | cons _ _ => cases f <;> simp [cE] at h
    | nil =>
      cases f with
      | Name x p => exact snd_call S k tk h
      | Attribute o x ap => exact snd_meth S k tk h
      | _ => simp [cE] at h
  | Attribute o x pos =>
    refine pl rfl rfl ?_
    simp only [cE] at h
    split at h
    · cases h
    · rename_i q
      simp only [bind, Option.bind_eq_some_iff] at h
      obtain ⟨f, hf, y, hy, h⟩ := h
      cases h
      exact pe_attrE k.ct (k.fld x f hf) (by simpa using q) (S.e k tk hy).2.1
  | Subscript o i pos =>
    refine pl rfl rfl ?_
    have plain : plainIx i = true → PE X (.Subscript o i pos) (tEe X c W g ie) := fun q => by
      have h2 : (do
          let y ← cE m n X.env.scope X.N o
          let z ← cE m n X.env.scope X.N i
          some (IE.sub y z)) = some ie := by
        cases i <;> first | (simp only [cE] at h; rw [if_pos q] at h; exact h) | cases q
      simp only [bind, Option.bind_eq_some_iff] at h2
      obtain ⟨y, hy, z, hz, h2⟩ := h2
      cases h2
      exact pe_subE hu q (S.e k tk hy).2.1 (S.e k tk hz).2.1
    cases i with
    | Slice lo hi st p2 =>
      cases st with
      | none =>
        simp only [cE, bind, Option.bind_eq_some_iff] at h
        obtain ⟨y, hy, l, hl, u, hu', h⟩ := h
        cases h
        exact pe_slcE (S.e k tk hy).2.1 (S.o k tk hl) (S.o k tk hu')
      | some st =>
        by_cases q : ∃ k1 p1 p2', lo = none ∧ hi = none ∧ st = .UnaryOp .USub (.Constant (.int 1) k1 p1) p2'
        · obtain ⟨k1, p1, p2', rfl, rfl, rfl⟩ := q
          simp only [cE, Option.map_eq_some_iff] at h
          obtain ⟨y, hy, rfl⟩ := h
          exact pe_revE (S.e k tk hy).2.1
        · exfalso
          unfold cE at h
          split at h <;> first | (cases h; done) | contradiction | (rename_i e1; cases e1; done) | (rename_i e1; cases e1; exact q ⟨_, _, _, rfl, rfl, rfl⟩) | (rename_i e1 _; cases e1; simp [plainIx] at h; done) | (simp [plainIx] at h; done) | (rename_i e1; injection e1 with e0 e3 e4; subst e3; simp [plainIx] at h; done) | (rename_i e1 _; injection e1 with e0 e3 e4; subst e3; simp [plainIx] at h; done) | skip
    | _ => exact plain rfl
  | ListComp elt gens scope pos =>
    refine pl rfl rfl ?_
    match gens, h with
    | [], h => simp [cE] at h
    | ⟨tg, it, ifs, as⟩ :: _ :: _, h => simp [cE] at h
    | [⟨tg, it, ifs, as⟩], h =>
      cases as with
      | ofNat q => cases q with
        | zero => exact snd_lc S k tk h
        | succ q =>
          have h : (none : Option IE) = some ie := h
          cases h
      | negSucc q =>
        have h : (none : Option IE) = some ie := h
        cases h
  | _ => simp [cE] at h
theorem snd_b {op : BoolOp} {vs : List Expr} {ie : IE} (k : Okc X c m g j) (tk : Takes X W) (h : cBool m (n + 1) X.env.scope X.N op vs = some ie) (pos : Pos) : PE X (.BoolOp op vs pos) (tEe X c W g ie) ∧ PW X (.BoolOp op vs pos) (tTe X c W g ie) := by
  match vs, h with
  | [], h => simp [cBool] at h
  | [a], h =>
    simp only [cBool] at h
    obtain ⟨h1, h2, h3⟩ := S.e k tk h
    cases op with
    | And => exact ⟨pe_one h2, pw_and1 h3⟩
    | Or => exact ⟨pe_one h2, pw_or1 h3⟩
  | a :: b :: r, h =>
    simp only [cBool, bind, Option.bind_eq_some_iff] at h
    obtain ⟨x, hx, y, hy, h⟩ := h
    obtain ⟨h1, h2, h3⟩ := S.e k tk hx
    obtain ⟨h4, h5⟩ := S.b k tk hy pos
    cases op with
    | And => cases h; exact ⟨pe_andE h2 h4, pw_andE h3 h5⟩
    | Or => cases h; exact ⟨pe_orE h2 h4, pw_orE h3 h5⟩
theorem snd_es {es : List Expr} {ie : IEs} (k : Okc X c m g j) (tk : Takes X W) (h : cEs m (n + 1) X.env.scope X.N es = some ie) : PA X es (tAe X c W g ie) ∧ noStars es ∧ (es = [] → ie = .nil) ∧ (es ≠ [] → ∃ b bs, ie = .cons b bs) ∧ ∀ e, es = [e] → ∃ a, ie = .cons a .nil ∧ PT X e (tTe X c W g a) := by
  match es, h with
  | [], h =>
    simp only [cEs] at h
    cases h
    exact ⟨pa_nilE, (fun _ hx => by cases hx), fun _ => rfl, (fun z => absurd rfl z), fun _ z => by cases z⟩
  | e :: r, h =>
    simp only [cEs, bind, Option.bind_eq_some_iff] at h
    obtain ⟨x, hx, xs, hxs, h⟩ := h
    cases h
    obtain ⟨h1, h2, h3⟩ := S.e k tk hx
    obtain ⟨g1, g2, g3, g4, g5⟩ := S.es (W := W) k tk hxs
    refine ⟨pa_consE h1 h2 g1, fun y hy => ?_, (fun z => by cases z), fun _ => ⟨_, _, rfl⟩, fun e' z => ?_⟩
    · rcases List.mem_cons.mp hy with rfl | hy
      · exact h1
      · exact g2 y hy
    · cases z
      exact ⟨x, by rw [g3 rfl], h3⟩
theorem snd_o {e : Option Expr} {ie : IEo} (k : Okc X c m g j) (tk : Takes X W) (h : cO m (n + 1) X.env.scope X.N e = some ie) : PO X e (tG (tb X c) W RL.o (evO g ie)) := by
  cases e with
  | none => simp only [cO] at h; cases h; exact po_noneE
  | some e =>
    simp only [cO, Option.map_eq_some_iff] at h
    obtain ⟨a, ha, rfl⟩ := h
    exact po_someE (S.e k tk ha).2.1
theorem snd_t {st : List Str} {vs : List Nat} {ie : ITg} (k : Okc X c m g j) (tk : Takes X W) (so : StOk X st vs) (h : cT m (n + 1) X.env.scope X.N st e = some ie) : noStar e = true ∧ PG X e (tTg (tb X c) W vs (asgT g ie)) := by
  cases e with
  | Name x pos =>
    simp only [cT] at h
    split at h
    · rename_i q
      rw [Bool.and_eq_true] at q
      rw [Option.map_eq_some_iff] at h
      obtain ⟨i, hi, rfl⟩ := h
      have hl := loc_of (X := X) rfl q.1
      obtain ⟨h1, h2⟩ := so x (by simpa using q.2)
      exact ⟨rfl, pg_nameE k.nodup (idx_get hi) hl (h1 hl) (h2 i hi)⟩
    · cases h
  | Tuple es kk pos =>
    simp only [cT, Option.map_eq_some_iff] at h
    obtain ⟨ts, hts, rfl⟩ := h
    obtain ⟨h1, h2⟩ := S.ts k tk so hts
    exact ⟨rfl, pg_tupE k.calm h1 h2⟩
  | Attribute o x pos =>
    simp only [cT] at h
    split at h
    · cases h
    · simp only [bind, Option.bind_eq_some_iff] at h
      obtain ⟨f, hf, y, hy, h⟩ := h
      cases h
      exact ⟨rfl, pg_fldE k.ct (k.fld x f hf) k.hF (S.e k tk hy).2.1⟩
  | Subscript o i pos =>
    simp only [cT] at h
    split at h
    · rename_i q
      simp only [bind, Option.bind_eq_some_iff] at h
      obtain ⟨y, hy, z, hz, h⟩ := h
      cases h
      exact ⟨rfl, pg_subE (by have := k.room.un; omega) q (S.e k tk hy).2.1 (S.e k tk hz).2.1⟩
    · cases h
  | _ => simp [cT] at h
theorem snd_ts {st : List Str} {vs : List Nat} {es : List Expr} {ie : ITgs} (k : Okc X c m g j) (tk : Takes X W) (so : StOk X st vs) (h : cTs m (n + 1) X.env.scope X.N st es = some ie) : noStars es ∧ PGs X es (tTgs (tb X c) W vs (asgTs g ie)) := by
  match es, h with
  | [], h =>
    simp only [cTs] at h
    cases h
    exact ⟨(fun _ hx => by cases hx), pgs_nilE⟩
  | e :: r, h =>
    simp only [cTs, bind, Option.bind_eq_some_iff] at h
    obtain ⟨x, hx, xs, hxs, h⟩ := h
    cases h
    obtain ⟨h1, h2⟩ := S.t k tk so hx
    obtain ⟨g1, g2⟩ := S.ts k tk so hxs
    refine ⟨fun y hy => ?_, pgs_consE h1 h2 g2⟩
    rcases List.mem_cons.mp hy with rfl | hy
    · exact h1
    · exact g1 y hy
theorem snd_i {tg it : Expr} {ie : IIt} (k : Okc X c m g j) (tk : Takes X W) (h : cI m (n + 1) X.env.scope X.N tg it = some ie) : PI X tg it (tG (tb X c) W (Wk (tb X c)) (evI g ie)) := by
  have plain : (cE m n X.env.scope X.N it).map (fun y => IIt.of y.root) = some ie → PI X tg it (tG (tb X c) W (Wk (tb X c)) (evI g ie)) := fun h => by
    rw [Option.map_eq_some_iff] at h
    obtain ⟨y, hy, rfl⟩ := h
    exact pi_ofE (pe_root (S.e k tk hy).2.1)
  unfold cI at h
  split at h
  · rename_i x p es pos
    split at h
    · rename_i q
      simp only [Bool.and_eq_true, Bool.not_eq_true'] at q
      have hg := gl_of (X := X) rfl q.1.2
      have hb := q.2
      split at h
      · rename_i ex
        subst ex
        have hm := k.bnd _ (by decide +kernel) hb
        split at h
        · rw [Option.map_eq_some_iff] at h
          obtain ⟨y, hy, rfl⟩ := h
          exact pi_rng1E hg hm (S.e (W := W) k tk hy).1 (pe_root (S.e k tk hy).2.1)
        · simp only [bind, Option.bind_eq_some_iff] at h
          obtain ⟨y, hy, z, hz, h⟩ := h
          cases h
          exact pi_rng2E hg hm (S.e (W := W) k tk hy).1 (S.e (W := W) k tk hz).1 (pe_root (S.e k tk hy).2.1) (pe_root (S.e k tk hz).2.1)
        · cases h
      · split at h
        · rename_i ex
          subst ex
          have hm := k.bnd _ (by decide +kernel) hb
          split at h
          · split at h
            · rename_i ht
              rw [Option.map_eq_some_iff] at h
              obtain ⟨y, hy, rfl⟩ := h
              cases tg <;> first | exact pi_enumE hg hm (S.e (W := W) k tk hy).1 (pe_root (S.e k tk hy).2.1) | cases ht
            · cases h
          · cases h
        · split at h
          · rename_i ex
            subst ex
            have hm := k.bnd _ (by decide +kernel) hb
            split at h
            · split at h
              · rename_i ht
                simp only [bind, Option.bind_eq_some_iff] at h
                obtain ⟨y, hy, z, hz, h⟩ := h
                cases h
                cases tg <;> first | exact pi_zipE hg hm (S.e (W := W) k tk hy).1 (S.e (W := W) k tk hz).1 (pe_root (S.e k tk hy).2.1) (pe_root (S.e k tk hz).2.1) | cases ht
              · cases h
            · cases h
          · exact plain h
    · exact plain h
  · rename_i o x ap p
    split at h
    · rename_i ex
      subst ex
      split at h
      · rename_i q
        simp only [Bool.and_eq_true, Bool.not_eq_true'] at q
        rw [Option.map_eq_some_iff] at h
        obtain ⟨y, hy, rfl⟩ := h
        cases tg <;> first | exact pi_itemsE q.1.2 q.2 (S.e k tk hy).2.1 | (exact absurd q.1.1 (by simp [isTup]))
      · cases h
    · split at h
      · rename_i ex
        subst ex
        split at h
        · rename_i q
          simp only [Bool.and_eq_true, Bool.not_eq_true'] at q
          rw [Option.map_eq_some_iff] at h
          obtain ⟨y, hy, rfl⟩ := h
          exact pi_valsE q.1 q.2 (S.e k tk hy).2.1
        · cases h
      · exact plain h
  · exact plain h
theorem snd_x {es : List Expr} {ie : IEs} (k : Okc X c m g j) (tk : Takes X W) (h : cEx m (n + 1) X.env.scope X.N es = some ie) : PA X es (tAe X c W g ie) := by
  unfold cEx at h
  split at h
  · cases h; exact pa_nilE
  · simp only [bind, Option.bind_eq_some_iff] at h
    obtain ⟨x, hx, xs, hxs, h⟩ := h
    cases h
    exact pa_starE (S.e k tk hx).2.1 (S.x k tk hxs)
  · simp only [bind, Option.bind_eq_some_iff] at h
    obtain ⟨x, hx, xs, hxs, h⟩ := h
    cases h
    obtain ⟨h1, h2, h3⟩ := S.e (W := W) k tk hx
    exact pa_consE h1 h2 (S.x k tk hxs)
theorem snd_kv {ks : List (Option Expr)} {vs : List Expr} {ie : IEs} (k : Okc X c m g j) (tk : Takes X W) (h : cKV m (n + 1) X.env.scope X.N ks vs = some ie) (pos : Pos) : ∃ L : List (IE × IE), ie = flatE L ∧ PPs X pos ks vs (L.map fun p => (tEe X c W g p.1, tEe X c W g p.2)) ∧ (ks = [] → L = [] ∧ vs = []) := by
  unfold cKV at h
  split at h
  · cases h; exact ⟨[], rfl, pps_nil, fun _ => ⟨rfl, rfl⟩⟩
  · simp only [bind, Option.bind_eq_some_iff] at h
    obtain ⟨x, hx, y, hy, xs, hxs, h⟩ := h
    cases h
    obtain ⟨L, rfl, h1, h2⟩ := S.kv (W := W) k tk hxs pos
    exact ⟨(x, y) :: L, rfl, pps_cons (S.e k tk hx).2.1 (S.e k tk hy).2.1 h1, fun z => by cases z⟩
  · cases h
theorem snd_r {es : List Expr} {ie : IE} (k : Okc X c m g j) (tk : Takes X W) (h : cRange m (n + 1) X.env.scope X.N es = some ie) (hg : Gl X "list") (hm : X.mg "list" = none) (p pos : Pos) : PE X (.Call (.Name "list" p) es [] pos) (tEe X c W g ie) := by
  unfold cRange at h
  split at h
  · split at h
    · rename_i q
      simp only [Bool.and_eq_true, Bool.not_eq_true', decide_eq_true_eq] at q
      obtain ⟨⟨rfl, q1⟩, q2⟩ := q
      rw [Option.map_eq_some_iff] at h
      obtain ⟨y, hy, rfl⟩ := h
      obtain ⟨h1, h2, h3⟩ := S.e (W := W) k tk hy
      exact pe_lrng1E k.calm hg hm (gl_of (X := X) rfl q1) (k.bnd _ (by decide +kernel) q2) h1 h2
    · cases h
  · split at h
    · rename_i q
      simp only [Bool.and_eq_true, Bool.not_eq_true', decide_eq_true_eq] at q
      obtain ⟨⟨rfl, q1⟩, q2⟩ := q
      simp only [bind, Option.bind_eq_some_iff] at h
      obtain ⟨y, hy, z, hz, h⟩ := h
      cases h
      obtain ⟨h1, h2, h3⟩ := S.e (W := W) k tk hy
      obtain ⟨g1, g2, g3⟩ := S.e (W := W) k tk hz
      exact pe_lrng2E k.calm hg hm (gl_of (X := X) rfl q1) (k.bnd _ (by decide +kernel) q2) h1 g1 h2 g2
    · cases h
  · cases h
theorem snd_succ : Snd c m g j (n + 1) := ⟨fun k tk h => snd_e S k tk h, fun k tk h pos => snd_b S k tk h pos, fun k tk h => snd_es S k tk h, fun k tk h => snd_o S k tk h, fun k tk so h => snd_t S k tk so h, fun k tk so h => snd_ts S k tk so h, fun k tk h => snd_i S k tk h, fun k tk h => snd_x S k tk h, fun k tk h => snd_kv S k tk h, fun k tk h => snd_r S k tk h⟩
end
theorem snd_zero : Snd c m g j 0 := ⟨fun _ _ h => by simp [cE] at h, fun _ _ h => by simp [cBool] at h, fun _ _ h => by simp [cEs] at h, fun _ _ h => by simp [cO] at h, fun _ _ _ h => by simp [cT] at h, fun _ _ _ h => by simp [cTs] at h, fun _ _ h => by simp [cI] at h, fun _ _ h => by simp [cEx] at h, fun _ _ h => by simp [cKV] at h, fun _ _ h => by simp [cRange] at h⟩
theorem snd_all (c : Ct) (m : Nm) (g : G) (j : Nat) : ∀ n, Snd c m g j n
  | 0 => snd_zero
  | n + 1 => snd_succ (snd_all c m g j n)
end
end Pv

/-! M: compiled statements are kept. -/
namespace Pv
open PySem L2 PySem.Spec PyProof.Rows

section
variable {X : Cx} {c : Ct} {m : Nm} {g : G} {j : Nat} {W : WX} {e : Expr} {a : IE}
theorem lnm_of {sc : Scope} {line : Nat} {t : Expr} {x : Str} (h : lnm sc line t = some x) : ∃ p, t = .Name x p ∧ sc.names.lookup x = some .local := by
  unfold lnm at h
  split at h
  · rename_i id pos
    split at h
    · rename_i q
      cases h
      rw [Bool.and_eq_true, beq_iff_eq] at q
      exact ⟨_, rfl, q.1⟩
    · cases h
  · cases h
theorem sw_ok {t v : Expr} {r : Option (List Str)} (hk : X.env.scope.kind = .function) (h : swOf X.env.scope [t] v = some r) : swappedStores [t] v X.env = pure r ∧
    ∀ names, r = some names → ∃ ts vs k2 p2, ((∃ kt pt, t = .Tuple ts kt pt) ∨ ∃ pt, t = .List ts pt) ∧ v = .Tuple vs k2 p2 ∧ vs.length = ts.length ∧ (ts.length = 2 ∨ ts.length = 3) ∧ ∃ line, names = ts.filterMap (lnm X.env.scope line) ∧ names.length = ts.length ∧ names.eraseDups.length = names.length := by
  have hb : X.env.blockKind = .function := by unfold Env.blockKind; rw [hk]; rfl
  have go : ∀ mm : Option (List Expr × List Expr), swCore X.env.scope mm = some r → (match mm with
      | some (ts, vs) =>
        if !(ts.length == 2 || ts.length == 3) || vs.length != ts.length || X.env.blockKind != ScopeKind.function then (pure none : Sem (Option (List Str)))
        else if vs.any isStar then pure none
        else
          let line := (ts.head?.map fun (t : Expr) => t.pos.line).getD 0
          let names := ts.filterMap (lnm X.env.scope line)
          if names.length != ts.length || names.eraseDups.length != names.length then pure none
          else if vs.all (foldedForSure 8) then pure none
          else if vs.all (constantsAlone 8) then do
            unsupported "assign.tuple-of-constant-expressions:order-of-the-stores"
            pure (some names)
          else pure (some names)
      | none => pure none) = pure r ∧ ∀ names, r = some names → ∃ ts vs, mm = some (ts, vs) ∧ vs.length = ts.length ∧ (ts.length = 2 ∨ ts.length = 3) ∧ ∃ line, names = ts.filterMap (lnm X.env.scope line) ∧ names.length = ts.length ∧ names.eraseDups.length = names.length := by
    intro mm h
    cases mm with
    | none => cases h; exact ⟨rfl, fun _ z => by cases z⟩
    | some p =>
      obtain ⟨ts, vs⟩ := p
      unfold swCore at h
      dsimp only at h ⊢
      rw [hb]
      rw [hk] at h
      split at h
      · rename_i q; rw [if_pos q]; cases h; exact ⟨rfl, fun _ z => by cases z⟩
      · rename_i q1
        rw [if_neg q1]
        split at h
        · rename_i q; rw [if_pos q]; cases h; exact ⟨rfl, fun _ z => by cases z⟩
        · rename_i q2
          rw [if_neg q2]
          split at h
          · rename_i q; rw [if_pos q]; cases h; exact ⟨rfl, fun _ z => by cases z⟩
          · rename_i q3
            rw [if_neg q3]
            split at h
            · rename_i q; rw [if_pos q]; cases h; exact ⟨rfl, fun _ z => by cases z⟩
            · rename_i q4
              rw [if_neg q4]
              split at h
              · cases h
              · rename_i q5
                rw [if_neg q5]
                cases h
                refine ⟨rfl, fun names z => ?_⟩
                cases z
                simp only [Bool.or_eq_true, Bool.not_eq_true', not_or, bne_iff_ne, ne_eq, Decidable.not_not, Bool.or_eq_false_iff, beq_eq_false_iff_ne] at q1 q3
                refine ⟨ts, vs, rfl, q1.1.2, ?_, _, rfl, q3.1, q3.2⟩
                have := q1.1.1
                omega
  unfold swOf at h
  obtain ⟨g1, g2⟩ := go _ h
  refine ⟨?_, fun names z => ?_⟩
  · rw [← g1]
    cases t with
    | Tuple ts kt pt => cases v <;> rfl
    | List ts pt => cases v <;> rfl
    | _ => rfl
  · obtain ⟨ts, vs, e1, e2⟩ := g2 names z
    unfold swPick at e1
    split at e1
    · rename_i q
      cases e1; exact ⟨_, _, _, _, .inl ⟨_, _, by injection q⟩, rfl, e2⟩
    · rename_i q
      cases e1; exact ⟨_, _, _, _, .inr ⟨_, by injection q⟩, rfl, e2⟩
    · cases e1
theorem fm2 {f : Expr → Option Str} {t1 t2 : Expr} (h : ([t1, t2].filterMap f).length = 2) : ∃ x y, f t1 = some x ∧ f t2 = some y ∧ [t1, t2].filterMap f = [x, y] := by
  cases e1 : f t1 with
  | none => cases e2 : f t2 <;> simp [List.filterMap_cons, e1, e2] at h
  | some x =>
    cases e2 : f t2 with
    | none => simp [List.filterMap_cons, e1, e2] at h
    | some y => exact ⟨x, y, rfl, rfl, by simp [List.filterMap_cons, e1, e2]⟩
theorem fm3 {f : Expr → Option Str} {t1 t2 t3 : Expr} (h : ([t1, t2, t3].filterMap f).length = 3) : ∃ x y z, f t1 = some x ∧ f t2 = some y ∧ f t3 = some z ∧ [t1, t2, t3].filterMap f = [x, y, z] := by
  cases e1 : f t1 with
  | none => cases e2 : f t2 <;> cases e3 : f t3 <;> simp [List.filterMap_cons, e1, e2, e3] at h
  | some x =>
    cases e2 : f t2 with
    | none => cases e3 : f t3 <;> simp [List.filterMap_cons, e1, e2, e3] at h
    | some y =>
      cases e3 : f t3 with
      | none => simp [List.filterMap_cons, e1, e2, e3] at h
      | some z => exact ⟨x, y, z, rfl, rfl, rfl, by simp [List.filterMap_cons, e1, e2, e3]⟩
theorem dup2 {x y : Str} (h : ([x, y].eraseDups).length = 2) : x ≠ y := by
  rintro rfl
  simp [List.eraseDups_cons] at h
theorem dup3 {x y z : Str} (h : ([x, y, z].eraseDups).length = 3) : x ≠ y ∧ x ≠ z ∧ y ≠ z := by
  refine ⟨?_, ?_, ?_⟩
  · rintro rfl
    by_cases q : z = x
    · subst q; simp [List.eraseDups_cons] at h
    · simp [List.eraseDups_cons, q] at h
  · rintro rfl
    by_cases q : y = x
    · subst q; simp [List.eraseDups_cons] at h
    · simp [List.eraseDups_cons, q] at h
  · rintro rfl
    by_cases q : y = x
    · subst q; simp [List.eraseDups_cons] at h
    · simp [List.eraseDups_cons, q] at h
theorem idx_ne {N : List Str} {x y : Str} {i j : Nat} (hi : idx x N = some i) (hj : idx y N = some j) (h : x ≠ y) : i ≠ j := by
  rintro rfl
  have a := idx_get hi
  rw [idx_get hj] at a
  exact h (Option.some.inj a).symm
theorem cT_name {n : Nat} {sc : Scope} {N st : List Str} {x : Str} {p : Pos} {t : ITg} (h : cT m n sc N st (.Name x p) = some t) : ∃ i, idx x N = some i ∧ t = .v i := by
  cases n with
  | zero => simp [cT] at h
  | succ n =>
    simp only [cT] at h
    split at h
    · rw [Option.map_eq_some_iff] at h
      obtain ⟨i, hi, rfl⟩ := h
      exact ⟨i, hi, rfl⟩
    · cases h
theorem cTs_cons {n : Nat} {sc : Scope} {N st : List Str} {e : Expr} {es : List Expr} {t : ITgs} (h : cTs m n sc N st (e :: es) = some t) : ∃ n' x xs, cT m n' sc N st e = some x ∧ cTs m n' sc N st es = some xs ∧ t = .cons x xs := by
  cases n with
  | zero => simp [cTs] at h
  | succ n =>
    simp only [cTs, bind, Option.bind_eq_some_iff] at h
    obtain ⟨x, hx, xs, hxs, h⟩ := h
    cases h
    exact ⟨n, x, xs, hx, hxs, rfl⟩
theorem cTs_nil {n : Nat} {sc : Scope} {N st : List Str} {t : ITgs} (h : cTs m n sc N st [] = some t) : t = .nil := by
  cases n with
  | zero => simp [cTs] at h
  | succ n => simp only [cTs] at h; cases h; rfl
/-- pairs of stores from the right -/
theorem ps_parE {n : Nat} {ts es : List Expr} {kt k2 : Nat} {pt p2 pos : Pos} {names : List Str} {t : ITgs} {as : IEs} (hc : X.calm = true) (hN : X.N.Nodup) (hsw : swOf X.env.scope [.Tuple ts kt pt] (.Tuple es k2 p2) = some (some names)) (hk : X.env.scope.kind = .function)
    (ht : cTs m n X.env.scope X.N (locs X.env.scope) ts = some t) (ha : PA X es (tAe X c W g as)) : PS X (.Assign [.Tuple ts kt pt] (.Tuple es k2 p2) pos) (tSe X c W g (.par t as)) := by
  obtain ⟨hw, more⟩ := sw_ok hk hsw
  obtain ⟨ts', es', k3, p3, e1, e2, l1, l2, line, en, ln, ld⟩ := more names rfl
  have e1 : ts' = ts := by
    rcases e1 with ⟨_, _, e1⟩ | ⟨_, e1⟩
    · injection e1 with e1; exact e1.symm
    · cases e1
  have e2 : es' = es := by injection e2 with e2; exact e2.symm
  subst e1 e2
  rcases l2 with l2 | l2
  · obtain ⟨t1, t2, rfl⟩ : ∃ t1 t2, ts' = [t1, t2] := by
      match ts', l2 with
      | [t1, t2], _ => exact ⟨t1, t2, rfl⟩
    obtain ⟨b1, b2, rfl⟩ : ∃ b1 b2, es' = [b1, b2] := by
      match es', l1 with
      | [t1, t2], _ => exact ⟨t1, t2, rfl⟩
    obtain ⟨x, y, f1, f2, f3⟩ := fm2 (by rw [← en]; exact ln)
    rw [f3] at en
    subst en
    obtain ⟨px, rfl, hx⟩ := lnm_of f1
    obtain ⟨py, rfl, hy⟩ := lnm_of f2
    obtain ⟨n1, x1, xs1, c1, c2, rfl⟩ := cTs_cons ht
    obtain ⟨n2, x2, xs2, c3, c4, rfl⟩ := cTs_cons c2
    obtain ⟨i, hi, rfl⟩ := cT_name c1
    obtain ⟨j, hj, rfl⟩ := cT_name c3
    cases cTs_nil c4
    refine ⟨fun pins s σ H E I q => (ps_par hc hN (idx_get hi) (idx_get hj) (idx_ne hi hj (dup2 ld)) hx hy ha hw rfl).run pins s σ H E I ?_⟩
    refine tG_mono (fun vs H1 q => ?_) (tS.step (m := RL.ds) (fun sg ds h => (asgTs g (.cons (.v i) (.cons (.v j) .nil)) ds sg h).then sg fun s1 h2 => .next s1 h2) q)
    obtain ⟨ρ, sg, h, ds, A, o⟩ := q
    have ra : RelDs X.K H1 h.length ρ ds vs := A.a
    cases ra with
    | nil => exact o.elim
    | cons r1 ra => cases ra with
      | nil => exact o.elim
      | cons r2 ra => cases ra with
        | nil => exact ⟨_, _, rfl, OutS.fin o A.o ((A.s.set r1).set r2)⟩
        | cons _ _ => exact o.elim
  · obtain ⟨t1, t2, t3, rfl⟩ : ∃ t1 t2 t3, ts' = [t1, t2, t3] := by
      match ts', l2 with
      | [t1, t2, t3], _ => exact ⟨t1, t2, t3, rfl⟩
    obtain ⟨b1, b2, b3, rfl⟩ : ∃ b1 b2 b3, es' = [b1, b2, b3] := by
      match es', l1 with
      | [t1, t2, t3], _ => exact ⟨t1, t2, t3, rfl⟩
    obtain ⟨x, y, z, f1, f2, f3, f4⟩ := fm3 (by rw [← en]; exact ln)
    rw [f4] at en
    subst en
    obtain ⟨px, rfl, hx⟩ := lnm_of f1
    obtain ⟨py, rfl, hy⟩ := lnm_of f2
    obtain ⟨pz, rfl, hz⟩ := lnm_of f3
    obtain ⟨n1, x1, xs1, c1, c2, rfl⟩ := cTs_cons ht
    obtain ⟨n2, x2, xs2, c3, c4, rfl⟩ := cTs_cons c2
    obtain ⟨n3, x3, xs3, c5, c6, rfl⟩ := cTs_cons c4
    obtain ⟨i, hi, rfl⟩ := cT_name c1
    obtain ⟨j, hj, rfl⟩ := cT_name c3
    obtain ⟨l, hl, rfl⟩ := cT_name c5
    cases cTs_nil c6
    obtain ⟨d1, d2, d3⟩ := dup3 ld
    refine ⟨fun pins s σ H E I q => (ps_par3 hc hN (idx_get hi) (idx_get hj) (idx_get hl) (idx_ne hi hj d1) (idx_ne hi hl d2) (idx_ne hj hl d3) hx hy hz ha hw rfl).run pins s σ H E I ?_⟩
    refine tG_mono (fun vs H1 q => ?_) (tS.step (m := RL.ds) (fun sg ds h => (asgTs g (.cons (.v i) (.cons (.v j) (.cons (.v l) .nil))) ds sg h).then sg fun s1 h2 => .next s1 h2) q)
    obtain ⟨ρ, sg, h, ds, A, o⟩ := q
    have ra : RelDs X.K H1 h.length ρ ds vs := A.a
    cases ra with
    | nil => exact o.elim
    | cons r1 ra => cases ra with
      | nil => exact o.elim
      | cons r2 ra => cases ra with
        | nil => exact o.elim
        | cons r3 ra => cases ra with
          | nil => exact ⟨_, _, _, rfl, OutS.fin o A.o (((A.s.set r1).set r2).set r3)⟩
          | cons _ _ => exact o.elim
/-- name = [.. for ..], a local's on one line -/
theorem ps_setLcE {n : Nat} {i : Nat} {y : Str} {py pos spos : Pos} {elt tg it : Expr} {ifs : List Expr} {scope : Scope} {ie : IE} (k : Okc X c m g j) (tk : Takes X W) (hy : X.N[i]? = some y) (hyl : X.env.scope.names.lookup y = some .local)
    (hsw : swapsWith (.ListComp elt [⟨tg, it, ifs, 0⟩] scope pos) (some (.Name y py)) spos.line X.env = pure true) (h : cE m (n + 1) X.env.scope X.N (.ListComp elt [⟨tg, it, ifs, 0⟩] scope pos) = some ie) :
    PS X (.Assign [.Name y py] (.ListComp elt [⟨tg, it, ifs, 0⟩] scope pos) spos) (tSe X c W g (.asg (.v i) ie.root)) := by
  obtain ⟨l, x, t, ii, fs, rfl, h1, h2, h3, h4, h5, h6⟩ := comp_parts (W := W) (snd_all c m g j n) k tk h
  have B : PS X (.Assign [.Name y py] (.ListComp elt [⟨tg, it, ifs, 0⟩] scope pos) spos) (fun E σ H => tEe X c W g (lockE l (.comp ((owns X.N scope).map (·.2)) x t ii fs)) σ H (fun x H1 => gName i x σ H1 E.nx)) := by
    have B0 : PS X (.Assign [.Name y py] (.ListComp elt [⟨tg, it, ifs, 0⟩] scope pos) spos) (fun E σ H => tEe X c W g (.comp ((owns X.N scope).map (·.2)) x t ii fs) σ H (fun x H1 => gName i x σ H1 E.nx)) :=
      ⟨fun pins s σ H E I q => (ps_setLc k.calm k.nodup hy hyl hsw h1 h2 h3 h4 h5 h6).run pins s σ H E I (comp_t q)⟩
    cases l with
    | none => exact B0
    | some l =>
      refine ⟨fun pins s σ H E I q => ?_⟩
      rcases lck_t q with q | q
      · exact B0.run pins s σ H E I q
      · exact (ps_lock B0).run pins s σ H E I q
  refine ⟨fun pins s σ H E I q => B.run pins s σ H E I ?_⟩
  have q1 := tS.step (m := RL.d) (fun sg d h => (asgT g (.v i) d sg h).then sg fun s1 h2 => .next s1 h2) q
  have q3 := tG_mono (Q' := fun x H1 => gName i x σ H1 E.nx) (fun x H1 q => by
    obtain ⟨ρ, sg, h, d, A, o⟩ := q
    exact OutS.fin o A.o (A.s.set A.a)) q1
  revert q3
  unfold IE.root
  split
  · exact fun q3 => tE.trim q3
  · exact id

theorem lockS_ok {st : Stmt} {is : IS} (l : Option IE) (h : PS X st (tSe X c W g is)) : PS X st (tSe X c W g (lockS l is)) := by
  cases l with
  | none => exact h
  | some l => exact ps_lckE h
/-! ### statements -/
structure SndS (c : Ct) (m : Nm) (g : G) (j n : Nat) : Prop where
  s : ∀ {X : Cx} {W : WX} {st : Stmt} {is : IS}, Okc X c m g j → Takes X W → PassesOwn (model X.prog X.w) X.A X.env X.xe → (∀ x, X.fn x = true) → cS m n X.env.scope X.N st = some is → PS X st (tSe X c W g is)
  ss : ∀ {X : Cx} {W : WX} {st : List Stmt} {is : ISs}, Okc X c m g j → Takes X W → PassesOwn (model X.prog X.w) X.A X.env X.xe → (∀ x, X.fn x = true) → cSs m n X.env.scope X.N st = some is → PSs X st (tSs X c W g is)
theorem idx_lt {x : Str} {N : List Str} {i : Nat} (h : idx x N = some i) : i < N.length := (List.getElem?_eq_some_iff.mp (idx_get h)).1
theorem st_all (fn : ∀ x, X.fn x = true) : StOk X (locs X.env.scope) (List.range X.N.length) := fun x _ => ⟨fun _ => .inl (fn x), fun i h => List.mem_range.mpr (idx_lt h)⟩
theorem asg_ok {n : Nat} {t v : Expr} {pos : Pos} {y : IE} {gt : ITg} (k : Okc X c m g j) (tk : Takes X W) (fn : ∀ x, X.fn x = true) (hw : swappedStores [t] v X.env = pure none) (hg : cT m n X.env.scope X.N (locs X.env.scope) t = some gt) (hy : cE m n X.env.scope X.N v = some y) :
    PS X (.Assign [t] v pos) (tSe X c W g (.asg gt y.root)) := by
  have S := snd_all c m g j n
  obtain ⟨t1, t2⟩ := S.t (W := W) (vs := List.range X.N.length) k tk (st_all fn) hg
  obtain ⟨e1, e2, e3⟩ := S.e (W := W) k tk hy
  have go : swapsWithSole [t] v pos.line X.env = pure false → PS X (.Assign [t] v pos) (tSe X c W g (.asg gt y.root)) := fun h => ps_asgE t1 h hw (pe_root e2) t2
  cases v with
  | ListComp elt gens scope p =>
    cases t with
    | Name x px =>
      have e : swapsWith (.ListComp elt gens scope p) (some (.Name x px)) pos.line X.env = pure (X.env.blockKind == .function && X.env.kindOf x == some .local && px.line == p.line && !(scope.names.any fun (n, k) => n == x && (k == .local || k == .cell))) := rfl
      cases q : (X.env.blockKind == .function && X.env.kindOf x == some .local && px.line == p.line && !(scope.names.any fun (n, k) => n == x && (k == .local || k == .cell))) with
      | false => exact go (e.trans (by rw [q]))
      | true =>
        rw [q] at e
        simp only [Bool.and_eq_true, beq_iff_eq] at q
        obtain ⟨i, hi, rfl⟩ := cT_name hg
        cases n with
        | zero => simp [cE] at hy
        | succ n =>
          match gens, hy, e with
          | [], hy, e => simp [cE] at hy
          | ⟨tg, it, ifs, as⟩ :: _ :: _, hy, e => simp [cE] at hy
          | [⟨tg, it, ifs, as⟩], hy, e =>
            cases as with
            | ofNat q' => cases q' with
              | zero => exact ps_setLcE k tk (idx_get hi) q.1.1.2 e hy
              | succ q =>
                have h : (none : Option IE) = some y := hy
                cases h
            | negSucc q =>
              have h : (none : Option IE) = some y := hy
              cases h
    | _ => exact go rfl
  | SetComp _ _ _ _ => cases n <;> simp [cE] at hy
  | DictComp _ _ _ _ _ => cases n <;> simp [cE] at hy
  | _ => exact go rfl
theorem drop_ok {v : Expr} {pos : Pos} {n : Nat} {N : List Str} {sc : Scope} {y : IE} (hn : ∀ elt gens scope p, v ≠ .ListComp elt gens scope p) (hy : cE m n sc N v = some y) : swapsWith v none pos.line X.env = pure false := by
  cases v with
  | ListComp elt gens scope p => exact absurd rfl (hn _ _ _ _)
  | SetComp _ _ _ _ => cases n <;> simp [cE] at hy
  | DictComp _ _ _ _ _ => cases n <;> simp [cE] at hy
  | _ => rfl
theorem sndS_zero : SndS c m g j 0 := ⟨fun _ _ _ _ h => by simp [cS] at h, fun _ _ _ _ h => by simp [cSs] at h⟩
section
variable {n : Nat} (S : SndS c m g j n)
include S
theorem sndS_ss {st : List Stmt} {is : ISs} (k : Okc X c m g j) (tk : Takes X W) (po : PassesOwn (model X.prog X.w) X.A X.env X.xe) (fn : ∀ x, X.fn x = true) (h : cSs m (n + 1) X.env.scope X.N st = some is) : PSs X st (tSs X c W g is) := by
  match st, h with
  | [], h => simp only [cSs] at h; cases h; exact pss_nilE
  | e :: r, h =>
    simp only [cSs, bind, Option.bind_eq_some_iff] at h
    obtain ⟨x, hx, xs, hxs, h⟩ := h
    cases h
    exact pss_consE (S.s k tk po fn hx) (S.ss k tk po fn hxs)
theorem sndS_s {st : Stmt} {is : IS} (k : Okc X c m g j) (tk : Takes X W) (po : PassesOwn (model X.prog X.w) X.A X.env X.xe) (fn : ∀ x, X.fn x = true) (h : cS m (n + 1) X.env.scope X.N st = some is) : PS X st (tSe X c W g is) := by
  have Z := snd_all c m g j n
  unfold cS at h
  split at h
  · cases h; exact ps_nextE ps_doc
  · rename_i e p q
    split at h
    · cases h
    · rename_i nl
      rw [Option.map_eq_some_iff] at h
      obtain ⟨y, hy, rfl⟩ := h
      exact ps_exprE (drop_ok nl hy) (pe_root (Z.e k tk hy).2.1)
  · rename_i t v p
    split at h
    · cases h
    · rename_i hw
      simp only [bind, Option.bind_eq_some_iff] at h
      obtain ⟨gt, hg, y, hy, h⟩ := h
      cases h
      exact asg_ok k tk fn (sw_ok k.kind hw).1 hg hy
    · rename_i hw
      split at h
      · simp only [bind, Option.bind_eq_some_iff] at h
        obtain ⟨gt, hg, y, hy, h⟩ := h
        cases h
        exact ps_parE k.calm k.nodup hw k.kind hg (Z.es k tk hy).1
      · cases h
  · split at h
    · rename_i q
      simp only [bind, Option.bind_eq_some_iff] at h
      obtain ⟨o, ho, i, hi, y, hy, h⟩ := h
      cases h
      exact ps_augE ho k.nodup (idx_get hi) (loc_of rfl q) (.inl (fn _)) (pe_root (Z.e k tk hy).2.1)
    · cases h
  · split at h
    · cases h
    · simp only [bind, Option.bind_eq_some_iff] at h
      obtain ⟨o, ho, f, hf, y, hy, z, hz, h⟩ := h
      cases h
      exact ps_augAttrE ho k.ct (k.fld _ _ hf) k.hF (Z.e k tk hy).2.1 (pe_root (Z.e k tk hz).2.1)
  · split at h
    · rename_i q
      simp only [bind, Option.bind_eq_some_iff] at h
      obtain ⟨o, ho, y, hy, kk, hk, z, hz, h⟩ := h
      cases h
      exact ps_augSubE (by have := k.room.un; omega) ho q (Z.e k tk hy).2.1 (Z.e k tk hk).2.1 (pe_root (Z.e k tk hz).2.1)
    · cases h
  · simp only [bind, Option.bind_eq_some_iff] at h
    obtain ⟨x, hx, y, hy, z, hz, h⟩ := h
    cases h
    exact ps_iteE (pt_root (Z.e k tk hx).2.2) (S.ss k tk po fn hy) (S.ss k tk po fn hz)
  · simp only [bind, Option.bind_eq_some_iff] at h
    obtain ⟨x, hx, y, hy, h⟩ := h
    cases h
    exact ps_whE po (pt_root (Z.e k tk hx).2.2) (S.ss k tk po fn hy)
  · split at h
    · rename_i q
      simp only [bind, Option.bind_eq_some_iff] at h
      obtain ⟨i, hi, gt, hg, y, hy, l, hl, h⟩ := h
      cases h
      refine lockS_ok l ?_
      exact ps_forE po k.calm (noSet_of q) (Z.i k tk hi) (Z.t (vs := List.range X.N.length) k tk (st_all fn) hg).2 (S.ss k tk po fn hy)
    · cases h
  · rw [Option.map_eq_some_iff] at h
    obtain ⟨y, hy, rfl⟩ := h
    exact ps_retE (pe_root (Z.e k tk hy).2.1)
  · cases h; exact ps_retNE
  · cases h; exact ps_brkE
  · cases h; exact ps_contE
  · cases h; exact ps_nextE ps_pass
  · cases h; exact ps_neverE
  · cases h
end
theorem sndS_all (c : Ct) (m : Nm) (g : G) (j : Nat) : ∀ n, SndS c m g j n
  | 0 => sndS_zero
  | n + 1 => ⟨fun k tk po fn h => sndS_s (sndS_all c m g j n) k tk po fn h, fun k tk po fn h => sndS_ss (sndS_all c m g j n) k tk po fn h⟩
end
end Pv

/-! N: the defs of a text are what the evaluator says. -/
namespace Pv
open PySem L2 PySem.Spec PyProof.Rows

/-- a def as it lies in the text and in the written part -/
def DefW (K : PySem.W.Frag) (m : Nm) (a : Addr) (fd : FD) (fdd : FuncData) (np : List Str) : Prop :=
  ∃ (nm qual : Str) (params : Arguments) (body : List Stmt) (scope : Scope) (dV kV doc pm cdv ct oc : Value) (an od : Option Addr) (osl : Array (Option Value)) (N : List Str) (n : Nat),
    fdd = PySem.W.fnOf nm qual params body scope dV kV doc pm an cdv ct ∧ K.lookup a = some ⟨oc, od, .func (PySem.W.fnOf nm qual params body scope dV kV doc pm an cdv ct), osl⟩ ∧ PySem.W.codeIn K cdv qual = true ∧ FnScope N np scope ∧ Binds K (PySem.W.fnOf nm qual params body scope dV kV doc pm an cdv ct) np [] ∧
      fd.np = np.length ∧ fd.ns = N.length ∧ cSs m n scope N body = some fd.body
structure DefOk (K : PySem.W.Frag) (m : Nm) (a : Addr) (fd : FD) : Prop where
  keep : PySem.W.keepIn K (.ref a) = true
  ex : ∃ fdd np, DefW K m a fd fdd np
/-- the text: its tables and where its parts lie -/
structure TabOk (K : PySem.W.Frag) (mg : Str → Option Value) (c : Ct) (m : Nm) (p : Prg) (adr : Nat → Addr) : Prop where
  def_ : ∀ i fd, p.fns[i]? = some fd → DefOk K m (adr i) fd
  ct : CtOk K c
  hF : ∀ (ci f : Nat), c.fok ci f = (match p.cls[ci]? with
    | some x => x.2.2.contains f
    | none => false)
  bnd : ∀ x, bltNames.contains x = true → m.bnd.contains x = false → mg x = none
  con : ∀ x q, m.con.lookup x = some q → ∃ u v, mg x = some u ∧ RelV v u ∧ ∀ H, RelP K H q v
  fns : ∀ x f, idx x m.fns = some f → mg x = some (.ref (adr f)) ∧ ∃ fd, p.fns[f]? = some fd
  cls : ∀ x ci, idx x m.cls = some ci → ∃ C fi l, p.cls[ci]? = some (some fi, l) ∧ mg x = some (.ref C) ∧ c.cls ci = some C ∧ Mk K C (adr fi) ∧ ∃ fd, p.fns[fi]? = some fd
  met : ∀ (ci : Nat) (x : Option Nat × List (Nat × Nat) × List Nat) (mi f : Nat) (C : Addr) (z : Str), p.cls[ci]? = some x → x.2.1.lookup mi = some f → c.cls ci = some C → idx z m.nms = some mi → x.2.2.contains mi = false ∧ Meth K C z (adr f) ∧ ∃ fd, p.fns[f]? = some fd
  no1000 : ∀ (ci : Nat) (x : Option Nat × List (Nat × Nat) × List Nat), p.cls[ci]? = some x → x.2.1.lookup 1000 = none
  fld : ∀ z f, idx z m.nms = some f → c.fld f = some z
section
variable {P : Program} {w : World} {K : PySem.W.Frag} {mg : Str → Option Value} {base : Heap} {c : Ct} {m : Nm} {p : Prg} {adr : Nat → Addr} {F : Nat}
abbrev T_ (P : Program) (w : World) (K : PySem.W.Frag) (c : Ct) : Tb := ⟨P, w, K, c.cls, c.fld, c.fok⟩
theorem relS_start {H : Hp} {n ns : Nat} {ρ : Nat → Addr} {ds : List D} {vs : List V} {N : List Str} (hn : ns = N.length) (r : RelDs K H n ρ ds vs) : RelS K H n ρ (startD ns ds) (L2.start N vs) := by
  refine ⟨by unfold startD L2.start; rw [hn, List.length_append, List.length_append, List.length_map, List.length_map, List.length_replicate, List.length_replicate, r.length], fun i d h => ?_⟩
  unfold startD at h
  unfold L2.start
  by_cases l : i < ds.length
  · rw [List.getElem?_append_left (by rw [List.length_map]; exact l), List.getElem?_map, Option.map_eq_some_iff] at h
    obtain ⟨d', h, e⟩ := h
    cases e
    obtain ⟨v, e1, r1⟩ := r.get h
    exact ⟨v, by rw [List.getElem?_append_left (by rw [List.length_map, ← r.length]; exact l), List.getElem?_map, e1]; rfl, r1⟩
  · rw [List.getElem?_append_right (by rw [List.length_map]; omega), List.getElem?_replicate] at h
    split at h <;> cases h
/-- a def's contract at a level -/
def At_ (P : Program) (w : World) (K : PySem.W.Frag) (mg : Str → Option Value) (base : Heap) (c : Ct) (m : Nm) (p : Prg) (F k : Nat) (a : Addr) (i : Nat) : Prop :=
  ∀ (f : FD) (fd : FuncData) (np : List Str), p.fns[i]? = some f → DefW K m a f fd np → (∀ ds h, ds.length ≠ np.length → callN p F k i ds h = .stuck) ∧ Binds K fd np [] ∧ FnG P w K mg base (L2.CX P w) k a fd np (spG (T_ P w K c) np.length (callN p F k i))
theorem At_.none {k : Nat} {a : Addr} {i : Nat} (hk : ∀ ds h, callN p F k i ds h = .stuck) : At_ P w K mg base c m p F k a i := by
  rintro f fd np hi ⟨nm, qual, params, body, scope, dV, kV, doc, pm, cdv, ct, oc, an, od, osl, N, n, rfl, at_, code, S, bind, e1, e2, e3⟩
  refine ⟨fun ds h _ => hk ds h, bind, fun vs H Q E h => h.1, fun A around s H given us vs Q E room bare e0 b r h => ?_⟩
  obtain ⟨_, ρ, hh, ds, _, _, o⟩ := h
  rw [hk] at o
  exact o.elim
theorem fnAt_of {X : Cx} {k : Nat} {a : Addr} {i : Nat} {fd : FD} (hP : X.prog = P) (hw : X.w = w) (hK : X.K = K) (hm : X.mg = mg) (hb : X.base = base) (hi : p.fns[i]? = some fd) (d : DefOk K m a fd) (h : At_ P w K mg base c m p F k a i) : FnAt X c k a (callN p F k i) := by
  subst hP hw hK hm hb
  obtain ⟨fdd, np, D⟩ := d.ex
  obtain ⟨h1, h2, h3⟩ := h fd fdd np hi D
  exact ⟨d.keep, fdd, np, h1, h2, h3⟩
theorem at_step (tab : TabOk K mg c m p adr) {j : Nat} (ih1 : ∀ i, At_ P w K mg base c m p F (j + 1) (adr i) i) (ih0 : ∀ i, At_ P w K mg base c m p F j (adr i) i) (i : Nat) : At_ P w K mg base c m p F (j + 2) (adr i) i := by
  rintro fd fdd np hi ⟨nm, qual, params, body, scope, dV, kV, doc, pm, cdv, ct, oc, an, od, osl, N, n, rfl, at_, code, S, bind, e1, e2, e3⟩
  have stuck : ∀ ds h, ds.length ≠ np.length → callN p F (j + 2) i ds h = .stuck := fun ds h q => by
    simp only [callN, hi]
    rw [if_neg (by rw [e1]; exact q)]
  refine ⟨stuck, bind, FnG.of at_ code S (fun vs H Q E h => h.1) fun A around s H vs Q E room bare h => ?_⟩
  obtain ⟨len, ρ, hh, ds, R0, rd, o⟩ := h
  have o : Out (T_ P w K c) RL.d (fun cls d _ H' => E cls d H') hh.length ρ H [] Q (backR hh (evSs (gOf p F (callN p F (j + 1)) (callN p F j)) fd.body (startD fd.ns ds) hh)) := by
    simp only [callN, hi] at o
    rw [if_pos (by rw [e1, ← len]; exact rd.length)] at o
    exact o
  have X0 := cxOf (L2.CX P w) P w K mg base N qual scope (adr i) cdv A around s H E
  have k : Okc (cxOf (L2.CX P w) P w K mg base N qual scope (adr i) cdv A around s H E) c m (gOf p F (callN p F (j + 1)) (callN p F j)) j := {
    ct := tab.ct
    hF := funext fun ci => funext fun f => (tab.hF ci f).symm
    calm := rfl
    nodup := S.nd
    kind := S.kind
    room := room
    bare := bare
    bnd := tab.bnd
    con := tab.con
    fns := fun x f e => by
      obtain ⟨h1, fd', h2⟩ := tab.fns x f e
      exact ⟨adr f, h1, fnAt_of rfl rfl rfl rfl rfl h2 (tab.def_ f fd' h2) (ih1 f)⟩
    cls := fun x ci e => by
      obtain ⟨C, fi, l, h1, h2, h3, h4, fd', h5⟩ := tab.cls x ci e
      refine ⟨C, adr fi, fi, h2, h3, ?_, h4, fnAt_of rfl rfl rfl rfl rfl h5 (tab.def_ fi fd' h5) (ih0 fi)⟩
      show (p.cls[ci]?).bind (·.1) = some fi
      rw [h1]
      rfl
    met := fun z mi e ci f C hm hC => by
      have hm : ((p.cls[ci]?).bind fun x => x.2.1.lookup mi) = some f := hm
      cases q : p.cls[ci]? with
      | none => rw [q] at hm; cases hm
      | some x =>
        rw [q] at hm
        obtain ⟨h1, h2, fd', h3⟩ := tab.met ci x mi f C z q hm hC e
        refine ⟨?_, adr f, h2, fnAt_of rfl rfl rfl rfl rfl h3 (tab.def_ f fd' h3) (ih1 f)⟩
        rw [tab.hF]
        show (match p.cls[ci]? with
          | some x => x.2.2.contains mi
          | none => false) = false
        rw [q]
        exact h1
    no1000 := fun ci => by
      show ((p.cls[ci]?).bind fun x => x.2.1.lookup 1000) = none
      cases q : p.cls[ci]? with
      | none => rfl
      | some x => exact tab.no1000 ci x q
    fld := tab.fld }
  have tk : Takes (cxOf (L2.CX P w) P w K mg base N qual scope (adr i) cdv A around s H E) (fun cls d _ H' => E cls d H') := takes_of rfl rfl rfl rfl
  have po : PassesOwn (model P w) (cxOf (L2.CX P w) P w K mg base N qual scope (adr i) cdv A around s H E).A (cxOf (L2.CX P w) P w K mg base N qual scope (adr i) cdv A around s H E).env (cxOf (L2.CX P w) P w K mg base N qual scope (adr i) cdv A around s H E).xe := passes_of rfl
  refine ⟨_, (sndS_all c m _ j n).ss k tk po (fun _ => rfl) e3, ρ, startD fd.ns ds, hh, (), ⟨relS_start e2 rd, R0, True.intro⟩, ?_⟩
  show OutS (T_ P w K c) (fun cls d _ H' => E cls d H') hh.length ρ H { nx := fun _ H' => Q .non H', rt := Q } (evSs (gOf p F (callN p F (j + 1)) (callN p F j)) fd.body (startD fd.ns ds) hh)
  cases q : evSs (gOf p F (callN p F (j + 1)) (callN p F j)) fd.body (startD fd.ns ds) hh with
  | stuck => rw [q] at o; exact o
  | brk sg h' => rw [q] at o; exact o.elim
  | cont sg h' => rw [q] at o; exact o.elim
  | exc x sg h' =>
    rw [q] at o
    exact fun ρ' σ' cc d H' l1 e1 k1 R1 _ r1 => o ρ' cc d H' l1 e1 k1 R1 r1
  | ret d h' =>
    rw [q] at o
    exact fun ρ' v H' l1 e1 k1 R1 r1 => (show Out (T_ P w K c) RL.d (fun cls d _ H' => E cls d H') hh.length ρ H [] Q (.ok d h') from Out.trim R0 o) ρ' v H' l1 e1 k1 R1 r1
  | next sg h' =>
    rw [q] at o
    exact fun ρ' σ' H' l1 e1 k1 R1 _ => (show Out (T_ P w K c) RL.d (fun cls d _ H' => E cls d H') hh.length ρ H [] Q (.ok (.p .non) h') from Out.trim R0 o) ρ' .non H' l1 e1 k1 R1 (.p .non)
theorem at_all (tab : TabOk K mg c m p adr) : ∀ k, (∀ i, At_ P w K mg base c m p F k (adr i) i) ∧ ∀ i, At_ P w K mg base c m p F (k + 1) (adr i) i
  | 0 => ⟨fun i => At_.none (fun _ _ => rfl), fun i => At_.none (fun _ _ => rfl)⟩
  | k + 1 => ⟨(at_all tab k).2, fun i => at_step tab (at_all tab k).2 (at_all tab k).1 i⟩
end
end Pv

/-! O: a text's tables, a law's end. -/
namespace Pv
open PySem L2 PySem.Spec PyProof.Rows

theorem scB_ok {N ps : List Str} {sc : Scope} (h : scB N ps sc = true) : FnScope N ps sc := by
  unfold scB at h
  simp only [Bool.and_eq_true, Bool.not_eq_true', decide_eq_true_eq, List.all_eq_true] at h
  obtain ⟨⟨⟨⟨⟨⟨h1, h2⟩, h3⟩, h4⟩, h5⟩, h6⟩, h7⟩ := h
  refine ⟨?_, h2, h3, h4, h5, fun x hx => ?_, fun y hy e => ?_⟩
  · split at h1
    · assumption
    · cases h1
  · have := h6 x hx
    unfold isLoc at this
    split at this
    · exact .inl ‹_›
    · exact .inr ‹_›
    · cases this
  · have := h7 y hy
    rw [e] at this
    cases this
theorem defOk_mk {K : PySem.W.Frag} {m : Nm} {a : Addr} {fd : FD} {x qual : Str} {st : Stmt} {N ps : List Str} {fdd : FuncData} (F : L2.Fun K x qual st a fdd) (b : Binds K fdd ps []) (ok : cF m N ps st = some fd) : DefOk K m a fd := by
  obtain ⟨oc, od, kV, doc, pm, an, cdv, ct, osl, rfl, lk, hcd⟩ := F.ex
  unfold cF at ok
  split at ok
  · split at ok
    · rename_i q
      simp only [Bool.and_eq_true] at q
      rw [Option.map_eq_some_iff] at ok
      obtain ⟨b', hb, rfl⟩ := ok
      exact ⟨F.kp, _, ps, _, _, _, _, _, _, _, _, _, _, _, _, _, _, _, N, 400, rfl, lk, hcd, scB_ok q.2, b, rfl, rfl, hb⟩
    · cases ok
  · cases ok
def All_ {α : Type} (P : α → Prop) : List α → Prop
  | [] => True
  | x :: xs => P x ∧ All_ P xs
theorem All_.mem {α : Type} {P : α → Prop} : ∀ {l : List α}, All_ P l → ∀ x ∈ l, P x
  | [], _, x, hx => by cases hx
  | y :: ys, h, x, hx => by
    rcases List.mem_cons.mp hx with rfl | hx
    · exact h.1
    · exact All_.mem h.2 x hx
/-- two lists, place by place -/
def Each {α β : Type} (P : α → β → Prop) : List α → List β → Prop
  | [], [] => True
  | x :: xs, y :: ys => P x y ∧ Each P xs ys
  | [], _ :: _ => False
  | _ :: _, [] => False
theorem Each.at_ {α β : Type} {P : α → β → Prop} : ∀ {xs : List α} {ys : List β}, Each P xs ys → ∀ {i : Nat} {y : β}, ys[i]? = some y → ∃ x, xs[i]? = some x ∧ P x y
  | [], [], _, i, y, e => by cases e
  | x :: xs, y' :: ys, h, 0, y, e => by cases e; exact ⟨x, rfl, h.1⟩
  | x :: xs, y' :: ys, h, i + 1, y, e => by
    rw [List.getElem?_cons_succ] at e ⊢
    exact Each.at_ h.2 e
  | [], _ :: _, h, _, _, _ => h.elim
  | _ :: _, [], h, _, _, _ => h.elim
theorem Each.at' {α β : Type} {P : α → β → Prop} : ∀ {xs : List α} {ys : List β}, Each P xs ys → ∀ {i : Nat} {x : α}, xs[i]? = some x → ∃ y, ys[i]? = some y ∧ P x y
  | [], [], _, i, y, e => by cases e
  | x' :: xs, y :: ys, h, 0, x, e => by cases e; exact ⟨y, rfl, h.1⟩
  | x' :: xs, y :: ys, h, i + 1, x, e => by
    rw [List.getElem?_cons_succ] at e ⊢
    exact Each.at' h.2 e
  | [], _ :: _, h, _, _, _ => h.elim
  | _ :: _, [], h, _, _, _ => h.elim
theorem Each.n {α β : Type} {P : α → β → Prop} : Each P [] [] := trivial
theorem Each.c {α β : Type} {P : α → β → Prop} {x : α} {y : β} {xs : List α} {ys : List β} (h : P x y) (t : Each P xs ys) : Each P (x :: xs) (y :: ys) := ⟨h, t⟩
theorem All_.n {α : Type} {P : α → Prop} : All_ P [] := trivial
theorem All_.c {α : Type} {P : α → Prop} {x : α} {xs : List α} (h : P x) (t : All_ P xs) : All_ P (x :: xs) := ⟨h, t⟩
abbrev Row := Option Nat × List (Nat × Nat) × List Nat
abbrev adrOf (as : List Addr) (i : Nat) : Addr := as.getD i 0
def fokOf (p : Prg) (ci f : Nat) : Bool := match p.cls[ci]? with
  | some x => x.2.2.contains f
  | none => false
abbrev ctOf (m : Nm) (p : Prg) (Cs : List Addr) : Ct := ⟨fun ci => Cs[ci]?, fun f => m.nms[f]?, fokOf p⟩
/-- a class as it stands behind the top -/
structure ClsAt (K : PySem.W.Frag) (m : Nm) (p : Prg) (as : List Addr) (C : Addr) (row : Row) : Prop where
  cl : Cls K C
  init : ∃ fi, row.1 = some fi ∧ Mk K C (adrOf as fi) ∧ fi < p.fns.length
  meth : All_ (fun q : Nat × Nat => ∃ z, m.nms[q.1]? = some z ∧ row.2.2.contains q.1 = false ∧ Meth K C z (adrOf as q.2) ∧ q.2 < p.fns.length) row.2.1
  attr : All_ (fun f : Nat => ∃ z, m.nms[f]? = some z ∧ NoAttr K C z) row.2.2
theorem lookup_mem {α β : Type} [BEq α] [LawfulBEq α] : ∀ {l : List (α × β)} {a : α} {b : β}, l.lookup a = some b → (a, b) ∈ l
  | [], _, _, h => by cases h
  | (x, y) :: r, a, b, h => by
    rw [List.lookup] at h
    split at h
    · rename_i q
      cases h
      rw [eq_of_beq q]
      exact List.mem_cons_self
    · exact List.mem_cons_of_mem _ (lookup_mem h)
theorem tab_mk {K : PySem.W.Frag} {mg : Str → Option Value} {m : Nm} {p : Prg} {as Cs : List Addr} (nd : m.nms.Nodup) (few : m.nms.length ≤ 1000) (defs : Each (DefOk K m) as p.fns)
    (fns : Each (fun (x : Str) (a : Addr) => mg x = some (.ref a)) m.fns (as.take m.fns.length)) (cls : Each (ClsAt K m p as) Cs p.cls) (cln : Each (fun (x : Str) (C : Addr) => mg x = some (.ref C)) m.cls Cs)
    (bnd : All_ (fun x => m.bnd.contains x = true ∨ mg x = none) bltNames) (con : All_ (fun q : Str × P => ∃ u v, mg q.1 = some u ∧ RelV v u ∧ ∀ H, RelP K H q.2 v) m.con) : TabOk K mg (ctOf m p Cs) m p (adrOf as) where
  def_ := fun i fd h => by
    obtain ⟨a, e, d⟩ := defs.at_ h
    have : adrOf as i = a := by unfold adrOf; rw [List.getD_eq_getElem?_getD, e]; rfl
    rw [this]
    exact d
  ct := ⟨fun i C e => by
      obtain ⟨row, _, r⟩ := cls.at' (show Cs[i]? = some C from e)
      exact r.cl, fun i C f x e1 e2 e3 => by
      obtain ⟨row, er, r⟩ := cls.at' (show Cs[i]? = some C from e1)
      have e3 : fokOf p i f = true := e3
      unfold fokOf at e3
      rw [er] at e3
      obtain ⟨z, ez, na⟩ := r.attr.mem f (by simpa using e3)
      rw [show m.nms[f]? = some x from e2] at ez
      cases ez
      exact na, fun f h x e1 e2 => by
      have e1 : m.nms[f]? = some x := e1
      have e2 : m.nms[h]? = some x := e2
      obtain ⟨l1, g1⟩ := List.getElem?_eq_some_iff.mp e1
      obtain ⟨l2, g2⟩ := List.getElem?_eq_some_iff.mp e2
      have pw := List.pairwise_iff_getElem.mp nd
      rcases Nat.lt_trichotomy f h with q | q | q
      · exact absurd (g1.trans g2.symm) (pw f h l1 l2 q)
      · exact q
      · exact absurd (g2.trans g1.symm) (pw h f l2 l1 q)⟩
  hF := fun ci f => rfl
  bnd := fun x h1 h2 => by
    rcases bnd.mem x (by simpa using h1) with q | q
    · rw [q] at h2; cases h2
    · exact q
  con := fun x q h => con.mem (x, q) (lookup_mem h)
  fns := fun x f h => by
    obtain ⟨a, e, q⟩ := fns.at' (idx_get h)
    have hl : f < m.fns.length := idx_lt h
    rw [List.getElem?_take_of_lt hl] at e
    have : adrOf as f = a := by unfold adrOf; rw [List.getD_eq_getElem?_getD, e]; rfl
    rw [this]
    obtain ⟨fd, h2, _⟩ := defs.at' e
    exact ⟨q, fd, h2⟩
  cls := fun x ci h => by
    obtain ⟨C, e, q⟩ := cln.at' (idx_get h)
    obtain ⟨row, er, r⟩ := cls.at' e
    obtain ⟨fi, e1, e2, e3⟩ := r.init
    obtain ⟨r1, r2⟩ := row
    cases e1
    exact ⟨C, fi, r2, er, q, e, e2, _, List.getElem?_eq_getElem e3⟩
  met := fun ci x mi f C z e1 e2 e3 e4 => by
    obtain ⟨row, er, r⟩ := cls.at' (show Cs[ci]? = some C from e3)
    rw [e1] at er
    cases er
    obtain ⟨z', ez, h1, h2, h3⟩ := r.meth.mem (mi, f) (lookup_mem e2)
    rw [idx_get e4] at ez
    cases ez
    exact ⟨h1, h2, _, List.getElem?_eq_getElem h3⟩
  no1000 := fun ci x e => by
    obtain ⟨C, eC, r⟩ := cls.at_ e
    cases q : x.2.1.lookup 1000 with
    | none => rfl
    | some f =>
      obtain ⟨z, ez, _⟩ := r.meth.mem (1000, f) (lookup_mem q)
      obtain ⟨l1, _⟩ := List.getElem?_eq_some_iff.mp ez
      exact absurd l1 (by show ¬ (1000 < m.nms.length); omega)
  fld := fun z f h => idx_get h

/-! ### a law's end -/
/-- a list of ints is handed in, nothing else is tracked; True comes out -/
def spLaw (K : PySem.W.Frag) : Sp := fun vs H Q _ => ∃ (a : Addr) (ns : List Int), vs = [.ref a] ∧ SqL K H a (ns.map V.int) ∧ ns.length ≤ 63 ∧ Only H ∧ ∀ H', Q (.bl true) H'
theorem FnG.weak {P : Program} {w : World} {K : PySem.W.Frag} {mg : Str → Option Value} {base : Heap} {CX : CXT} {k : Nat} {f : Addr} {fd : FuncData} {np : List Str} {sp sp' : Sp} (h : ∀ vs H Q E, sp' vs H Q E → sp vs H Q E) (F : FnG P w K mg base CX k f fd np sp) : FnG P w K mg base CX k f fd np sp' :=
  ⟨fun vs H Q E q => F.many vs H Q E (h _ _ _ _ q), fun A around s H given us vs Q E room bare e0 b r q => F.go A around s H given us vs Q E room bare e0 b r (h _ _ _ _ q)⟩
theorem ints_rel {K : PySem.W.Frag} {H : Hp} : ∀ ns : List Int, RelPs K H (ns.map .int) (ns.map V.int)
  | [] => .nil
  | n :: ns => .cons (.int n) (ints_rel ns)
theorem law_sp {P : Program} {w : World} {K : PySem.W.Frag} {c : Ct} {p : Prg} {F k i : Nat} (law : ∀ ns : List Int, ns.length ≤ 63 → ∃ h', callN p F k i [.r 0] [.ro (ns.map .int)] = .ok (.p (.bl true)) h') :
    ∀ vs H Q E, spLaw K vs H Q E → spG (T_ P w K c) 1 (callN p F k i) vs H Q E := by
  rintro vs H Q E ⟨a, ns, rfl, sq, hl, only, q⟩
  refine ⟨rfl, fun _ => a, [.ro (ns.map .int)], [.r 0], ⟨fun j o e => ?_, fun j l o o' e e' ne m m' => ?_⟩, .cons (.r (by show 0 < 1; decide)) .nil, ?_⟩
  · cases j with
    | zero =>
      cases e
      refine ⟨ns.map V.int, SqR.of sq fun ys z => ?_, ints_rel ns⟩
      rcases only a with n | ⟨_, _, n⟩ <;> (rw [n] at z; cases z)
    | succ j => cases e
  · cases j with
    | zero => cases e; cases m
    | succ j => cases e
  · obtain ⟨h', e⟩ := law ns hl
    rw [e]
    intro ρ' b H' _ _ _ _ r
    cases r with | p r => cases r with | bl _ => exact q H'
/-- THE END: the law's value at every script, told in plain Lean, is enough -/
theorem pv_walk {l : PySem.W.OpenLaw} {q : Program} {loose : List Str} {XP : (Str → Option Value) → Heap → Prop} {YP : World → Heap → Prop} {d : DefRec} {K : Params → PySem.W.Frag} {m : Nm} {p : Prg} {F k i : Nat} {f : FD}
    (most : l.most = some 63) (nodef : d.params.defaults = []) (room : Room (k + 1) callerA) (kin : ∀ (w : World) (h : Heap), YP w h → (K w.params).In h) (hi : p.fns[i]? = some f) (h1 : f.np = 1)
    (tab : ∀ (w : World) (mg : Str → Option Value) (fa : Addr) (h : Heap), (K w.params).In h → h.Ns mainGlobals mg → mg d.name = some (.ref fa) → ∃ (c : Ct) (adr : Nat → Addr), adr i = fa ∧ TabOk (K w.params) mg c m p adr)
    (law : ∀ ns : List Int, ns.length ≤ 63 → ∃ h', callN p F (k + 1) i [.r 0] [.ro (ns.map .int)] = .ok (.p (.bl true)) h') : PySem.W.WalkO q loose XP YP l.row.toRowW d [] (fun f vs => PySem.call f vs) := by
  refine law_walk (n := 63) (k := k + 1) (CX := fun w => L2.CX l.prog w) (sp := fun w => spLaw (K w.params)) most (by decide) nodef room kin (fun w mg fa h hK G hm => ?_) (fun w H a ns hl only sq => ⟨a, ns, rfl, sq, hl, only, fun _ => rfl⟩) fun w H s e s' z => ?_
  · obtain ⟨c, adr, rfl, T⟩ := tab w mg fa h hK G hm
    have np1 : ∀ np : List Str, f.np = np.length → ∃ x, np = [x] := fun np e => by
      rw [h1] at e
      match np, e with
      | [x], _ => exact ⟨x, rfl⟩
    obtain ⟨fdd, np, D⟩ := (T.def_ i f hi).ex
    have D0 := D
    obtain ⟨nm, qual, params, body, scope, dV, kV, doc, pm, cdv, ct, oc, an, od, osl, N, n, e0, at_, code, S, bind, e1, e2, e3⟩ := D0
    obtain ⟨x, rfl⟩ := np1 np e1
    refine ⟨fdd, x, fun s u hs => ?_, fun base hb G' => ?_⟩
    · have := bind s [u] hs rfl
      rw [e0]
      exact this
    · exact FnG.weak (law_sp law) ((at_all (P := l.prog) (w := w) (base := base) (F := F) T (k + 1)).1 i f fdd [x] hi D).2.2
  · obtain ⟨_, _, _, _, _, _, _, _, _, _, _, _, z⟩ := z
    exact z
end Pv

/-! P: what every law draws its input with. -/
namespace Pv
open PySem L2

def bagF : FD := ⟨1, 2, (.cons (.ret (.trim (.lst (.cons (.c (.int 0)) (.cons (.c (.int 1234567891)) (.cons (.c (.int 0)) (.cons (.comp [1] (.blt .abs (.cons (.v 1) .nil)) (.v 1) (.of (.slc (.v 0) .none (.some (.c (.int 63))))) .nil) .nil))))))) .nil)⟩
def takeF : FD := ⟨2, 7, (.cons (.ite (.cmp .eq (.sub (.v 0) (.c (.int 0))) (.c (.int 0))) (.cons (.asg (.v 4) (.trim (.sub (.bin .add (.slc (.sub (.v 0) (.c (.int 3))) (.some (.sub (.v 0) (.c (.int 2)))) .none) (.lst (.cons (.c (.int 0)) .nil))) (.c (.int 0))))) (.cons (.augSub (.v 0) (.c (.int 2)) .add (.c (.int 1))) (.cons (.ite (.cmp .ge (.v 4) (.bin .pow (.c (.int 10)) (.c (.int 18)))) (.cons (.asg (.sub (.v 0) (.c (.int 0))) (.v 4)) .nil) .nil) (.cons (.asg (.v 5) (.trim (.bin .add (.bin .add (.bin .mul (.sub (.v 0) (.c (.int 1))) (.c (.int 48271))) (.bin .mod (.blt .int (.cons (.v 4) .nil)) (.c (.int 2147483647)))) (.bin .mul (.c (.int 7919)) (.sub (.v 0) (.c (.int 2))))))) (.cons (.asg (.sub (.v 0) (.c (.int 1))) (.bin .mod (.blt .int (.cons (.v 5) .nil)) (.c (.int 2147483647)))) .nil))))) .nil) (.cons (.ite (.cmp .gt (.sub (.v 0) (.c (.int 0))) (.c (.int 0))) (.cons (.asg (.v 6) (.bin .mod (.blt .int (.cons (.sub (.v 0) (.c (.int 0))) .nil)) (.v 1))) (.cons (.asg (.sub (.v 0) (.c (.int 0))) (.bin .fdiv (.blt .int (.cons (.sub (.v 0) (.c (.int 0))) .nil)) (.v 1))) (.cons (.ret (.v 6)) .nil))) .nil) (.cons (.asg (.v 2) (.trim (.bin .mod (.blt .int (.cons (.bin .mul (.bin .add (.sub (.v 0) (.c (.int 1))) (.c (.int 1))) (.c (.int 39373))) .nil)) (.c (.int 1000000007))))) (.cons (.asg (.v 3) (.trim (.bin .mod (.blt .int (.cons (.bin .mul (.bin .mod (.blt .int (.cons (.bin .mul (.v 2) (.v 2)) .nil)) (.c (.int 998244353))) (.c (.int 30011))) .nil)) (.c (.int 998244353))))) (.cons (.ret (.bin .mod (.blt .int (.cons (.bin .fdiv (.v 3) (.c (.int 7))) .nil)) (.v 1))) .nil)))))⟩
def someF (t : Nat) : FD := ⟨2, 2, (.cons (.ret (.trim (.sub (.v 1) (.call t (.cons (.v 0) (.cons (.blt .len (.cons (.v 1) .nil)) .nil)))))) .nil)⟩
def alikeF : FD := ⟨2, 2, (.cons (.ret (.and (.cmp .eq (.blt .repr (.cons (.v 0) .nil)) (.blt .repr (.cons (.v 1) .nil))) (.cmp .eq (.v 0) (.v 1)))) .nil)⟩

/-! ### heaps and trims -/
theorem agree_app (t : Hh) (n : Nat) : ∀ h : Hh, agree h (h ++ t) n = true
  | [] => by cases t <;> rfl
  | o :: h => by simp [agree, agree_app t n h]
theorem agree_set (t : Hh) {n : Nat} {o : O} (u : o.under n = true) : ∀ (h : Hh) (b : Nat), agree h (h.set b o ++ t) n = true
  | [], _ => by cases t <;> rfl
  | x :: h, 0 => by simp [agree, u, agree_app t n h]
  | x :: h, b + 1 => by simp [agree, agree_set t u h b]
theorem trim_p (h t : Hh) (x : P) : trimR h (.ok (.p x) (h ++ t)) = .ok (.p x) h := by
  simp [trimR, agree_app, D.under]
theorem trim_p0 (h : Hh) (x : P) : trimR h (.ok (.p x) h) = .ok (.p x) h := by
  have := trim_p h [] x
  rwa [List.append_nil] at this
theorem trim_set (h t : Hh) (x : P) {b : Nat} {o : O} (u : o.under h.length = true) : trimR h (.ok (.p x) (h.set b o ++ t)) = .ok (.p x) (h.set b o) := by
  have l : (h.set b o).length = h.length := List.length_set
  simp only [trimR, agree_set t u h b, D.under, if_true]
  rw [← l, List.take_left']
  rfl
theorem trim_set0 (h : Hh) (x : P) {b : Nat} {o : O} (u : o.under h.length = true) : trimR h (.ok (.p x) (h.set b o)) = .ok (.p x) (h.set b o) := by
  have := trim_set h [] x (b := b) u
  rwa [List.append_nil] at this
theorem trim_new (h : Hh) (o : O) : trimR h (.ok (.r h.length) (h ++ [o])) = .ok (.r h.length) (h ++ [o]) := by
  have a := agree_app [o] h.length h
  have u : D.under h.length (.r h.length) = false := by simp [D.under]
  simp only [trimR, a, u, if_true]
  rw [if_neg (by simp)]
  have g : (h ++ [o])[h.length]? = some o := by simp
  rw [g]
  dsimp only
  split
  · rw [List.take_left' rfl]
  · rfl
@[simp] theorem get_set_self {h : Hh} {b : Nat} {o o' : O} (e : h[b]? = some o') : (h.set b o)[b]? = some o := List.getElem?_set_self (List.getElem?_eq_some_iff.mp e).1
theorem get_app {h t : Hh} {b : Nat} {o : O} (e : h[b]? = some o) : (h ++ t)[b]? = some o := by
  rw [List.getElem?_append_left (List.getElem?_eq_some_iff.mp e).1]; exact e

/-! ### the bag -/
def bagO (x0 x1 x2 : Int) (l : Nat) : O := .lst [.p (.int x0), .p (.int x1), .p (.int x2), .r l]
def intsO (cs : List Int) : O := .lst (cs.map fun c => .p (.int c))
/-- a bag stands at b, its cells at l -/
structure Bag (h : Hh) (b l : Nat) : Prop where
  ne : b ≠ l
  cells : ∃ cs : List Int, h[l]? = some (intsO cs) ∧ cs.length ≤ 63 ∧ ∀ c ∈ cs, 0 ≤ c
  bag : ∃ x0 x1 x2 : Int, h[b]? = some (bagO x0 x1 x2 l) ∧ 0 ≤ x0 ∧ 0 ≤ x1 ∧ x1 < 2147483647 ∧ 0 ≤ x2
/-! ### how a text is run by simp -/
theorem add_ii (i j : Int) (h : Hh) : binS .add (.p (.int i)) (.p (.int j)) h = .ok (.p (.int (i + j))) h := rfl
theorem sub_ii (i j : Int) (h : Hh) : binS .sub (.p (.int i)) (.p (.int j)) h = .ok (.p (.int (i - j))) h := rfl
theorem mul_ii (i j : Int) (h : Hh) (c : mulOk i j = true) : binS .mul (.p (.int i)) (.p (.int j)) h = .ok (.p (.int (i * j))) h := by simp only [binS, mulS]; rw [if_pos c]
theorem mod_ii (i j : Int) (h : Hh) (c : j ≠ 0) : binS .mod (.p (.int i)) (.p (.int j)) h = .ok (.p (.int (i.fmod j))) h := by simp only [binS]; rw [if_pos c]
theorem fdiv_ii (i j : Int) (h : Hh) (c : j ≠ 0 ∧ j.natAbs < 1329227995784915872903807060280344576) : binS .fdiv (.p (.int i)) (.p (.int j)) h = .ok (.p (.int (i.fdiv j))) h := by simp only [binS]; rw [if_pos c]
theorem pow_ii (i j : Int) (h : Hh) (c : 0 ≤ j ∧ j ≤ 1000000 ∧ i.natAbs < 2 ^ 64) : binS .pow (.p (.int i)) (.p (.int j)) h = .ok (.p (.int (i ^ j.toNat))) h := by simp only [binS]; rw [if_pos c]
theorem pow_lit (h : Hh) : binS .pow (.p (.int 10)) (.p (.int 18)) h = .ok (.p (.int 1000000000000000000)) h := (pow_ii 10 18 h (by decide)).trans (by congr 1)
theorem aug_ii (i j : Int) (h : Hh) : augS .add (.p (.int i)) (.p (.int j)) h = .ok (.p (.int (i + j))) h := rfl
theorem blt_int (i : Int) (h : Hh) : bltS .int [.p (.int i)] h = .ok (.p (.int i)) h := rfl
theorem blt_abs (i : Int) (h : Hh) : bltS .abs [.p (.int i)] h = .ok (.p (.int (if i < 0 then -i else i))) h := rfl
theorem blt_max (i j : Int) (h : Hh) : bltS .max [.p (.int i), .p (.int j)] h = .ok (.p (.int (if j > i then j else i))) h := rfl
theorem blt_min (i j : Int) (h : Hh) : bltS .min [.p (.int i), .p (.int j)] h = .ok (.p (.int (if j < i then j else i))) h := rfl
theorem lt_ii (i j : Int) (h : Hh) : cmpS .lt (.p (.int i)) (.p (.int j)) h = .ok (decide (i < j)) h := rfl
theorem le_ii (i j : Int) (h : Hh) : cmpS .le (.p (.int i)) (.p (.int j)) h = .ok (decide (i ≤ j)) h := rfl
theorem gt_ii (i j : Int) (h : Hh) : cmpS .gt (.p (.int i)) (.p (.int j)) h = .ok (decide (j < i)) h := rfl
theorem ge_ii (i j : Int) (h : Hh) : cmpS .ge (.p (.int i)) (.p (.int j)) h = .ok (decide (j ≤ i)) h := rfl
theorem eq_ii (i j : Int) (h : Hh) : cmpS .eq (.p (.int i)) (.p (.int j)) h = .ok (decide (i = j)) h := rfl
theorem ne_ii (i j : Int) (h : Hh) : cmpS .ne (.p (.int i)) (.p (.int j)) h = .ok (!decide (i = j)) h := rfl
theorem mkT_p2 (a b : P) : mkT [.p a, .p b] = .p (.tup [a, b]) := rfl
theorem len_t (xs : List P) (h : Hh) : bltS .len [.p (.tup xs)] h = .ok (.p (.int xs.length)) h := rfl
theorem sz1 : (0 + 1 ≤ sizeLine) = True := by rw [sizeLine_eq]; simp
theorem sz3 : (0 + 1 + 1 + 1 ≤ sizeLine) = True := by rw [sizeLine_eq]; simp
theorem sz4 : (0 + 1 + 1 + 1 + 1 ≤ sizeLine) = True := by rw [sizeLine_eq]; simp
theorem sz6 : (0 + 1 + 1 + 1 + 1 + 1 + 1 ≤ sizeLine) = True := by rw [sizeLine_eq]; simp
theorem sz2 : (0 + 1 + 1 ≤ sizeLine) = True := by rw [sizeLine_eq]; simp
theorem gOf_call (p : Prg) (F : Nat) (c i : Nat → List D → Hh → R D) : (gOf p F c i).call = c := rfl
theorem gOf_init (p : Prg) (F : Nat) (c i : Nat → List D → Hh → R D) : (gOf p F c i).init = i := rfl
theorem R.tr_ok_bl (k : Bool) (h : Hh) : tr (.ok (.p (.bl k)) h) = .ok k h := rfl
/-- what it is of a dict -/
def subD (o i : D) (h : Hh) : R D := subS o i h
theorem dct_lst {h : Hh} {j : Nat} {xs : List D} (e : lstOf h (.r j) = some xs) : dctOf h (.r j) = none := by
  unfold lstOf at e
  unfold dctOf
  dsimp only at e ⊢
  split at e <;> simp_all
theorem subS_r (j : Nat) (k : Int) (h : Hh) : subS (.r j) (.p (.int k)) h = (match lstOf h (.r j) with
    | some xs => R.of (atI xs k) h
    | none => subD (.r j) (.p (.int k)) h) := by
  cases e : lstOf h (.r j) with
  | none => rfl
  | some xs =>
    unfold subS
    rw [dct_lst e]
    simp only [e]
theorem subS_t (xs : List P) (k : Int) (h : Hh) : subS (.p (.tup xs)) (.p (.int k)) h = R.of ((atI xs k).map .p) h := rfl
theorem atI_nat {α : Type} (xs : List α) (n : Nat) : atI xs (n : Int) = xs[n]? := by
  unfold atI ixN
  rw [if_pos (Int.natCast_nonneg n)]
  by_cases l : n < xs.length
  · rw [if_pos (by omega)]
    simp
  · rw [if_neg (by omega), List.getElem?_eq_none (by omega)]
    rfl
theorem atI_lit {α : Type} (xs : List α) (n : Nat) : atI xs (no_index (OfNat.ofNat n : Int)) = xs[n]? := atI_nat xs n
theorem atI_zero {α : Type} (xs : List α) : atI xs 0 = xs[0]? := atI_nat xs 0
theorem atI_one {α : Type} (xs : List α) : atI xs 1 = xs[1]? := atI_nat xs 1
theorem eqO_int (h : Hh) (i j : Int) : eqO h (.p (.int i)) (.p (.int j)) = some (decide (i = j)) := rfl
theorem lst_new (h : Hh) (xs : List D) : lstOf (h ++ [.lst xs]) (.r h.length) = some xs := by simp [lstOf]
theorem lst_app (h t : Hh) (i : Nat) (l : i < h.length) : lstOf (h ++ t) (.r i) = lstOf h (.r i) := by
  simp [lstOf, List.getElem?_append_left l]
theorem lst_set (h : Hh) (i : Nat) (xs : List D) (l : i < h.length) : lstOf (h.set i (.lst xs)) (.r i) = some xs := by simp [lstOf, l]
theorem lst_set_ne (h : Hh) (i j : Nat) (o : O) (l : i ≠ j) : lstOf (h.set i o) (.r j) = lstOf h (.r j) := by
  simp [lstOf, List.getElem?_set_ne l]
theorem add_mut (h : Hh) (i j : Nat) : addS (.r i) (.r j) h = (match mutOf h (.r i), mutOf h (.r j) with
    | some xs, some ys => if xs.length + ys.length ≤ sizeLine then mk (.lst (xs ++ ys)) h else .stuck
    | _, _ => .stuck) := rfl
theorem sizeLine_v : sizeLine = 16777216 := sizeLine_eq
theorem cut_from {α : Type} (xs : List α) (k : Int) (h : 0 ≤ k) : cutX xs (some k) none = xs.drop k.toNat := by
  unfold cutX
  show (xs.drop (HT.sIx xs.length 0 (some k))).take (xs.length - HT.sIx xs.length 0 (some k)) = _
  have e : HT.sIx xs.length 0 (some k) = min k.toNat xs.length := by
    show (if k < 0 then _ else _) = _
    rw [if_neg (by omega)]
  rw [e]
  by_cases q : k.toNat ≤ xs.length
  · rw [Nat.min_eq_left q, List.take_of_length_le (by rw [List.length_drop]; omega)]
  · rw [Nat.min_eq_right (by omega), List.drop_length, List.drop_eq_nil_of_le (by omega), List.take_nil]
theorem trim_set_int (h t : Hh) (x : Int) {b l : Nat} {x0 x1 x2 : Int} (hl : l < h.length) : trimR h (.ok (.p (.int x)) (h.set b (bagO x0 x1 x2 l) ++ t)) = .ok (.p (.int x)) (h.set b (bagO x0 x1 x2 l)) :=
  trim_set h t (.int x) (by simp [bagO, O.under, D.unders, D.under, hl])
theorem bag_get {h : Hh} {b l : Nat} {x0 x1 x2 : Int} (hb : h[b]? = some (bagO x0 x1 x2 l)) : lstOf h (.r b) = some [.p (.int x0), .p (.int x1), .p (.int x2), .r l] := by simp [lstOf, hb, bagO]
/-- the first part: a cell is taken -/
def takeCell : IE := .trim (.sub (.bin .add (.slc (.sub (.v 0) (.c (.int 3))) (.some (.sub (.v 0) (.c (.int 2)))) .none) (.lst (.cons (.c (.int 0)) .nil))) (.c (.int 0)))
def cellOf (cs : List Int) (x2 : Int) : Int := ((cs.drop x2.toNat) ++ [0]).headD 0
theorem cell_ok (cs : List Int) (x2 : Int) (h : ∀ c ∈ cs, 0 ≤ c) : 0 ≤ cellOf cs x2 := by
  unfold cellOf
  cases q : cs.drop x2.toNat with
  | nil => exact Int.le_refl 0
  | cons c r => exact h c (List.mem_of_mem_drop (by rw [q]; exact List.mem_cons_self))
theorem take_cell (g : G) (h : Hh) (b l : Nat) (many : D) (x0 x1 x2 : Int) (cs : List Int) (ne : b ≠ l) (hl : h[l]? = some (intsO cs)) (cl : cs.length ≤ 63) (hb : h[b]? = some (bagO x0 x1 x2 l)) (h2 : 0 ≤ x2) (s : Sg) :
    evE g takeCell (some (.r b) :: some many :: s) h = .ok (.p (.int (cellOf cs x2))) h := by
  have lb := bag_get hb
  have hl' : lstOf h (.r l) = some (cs.map fun c => .p (.int c)) := by simp [lstOf, hl, intsO]
  have cut : cutX (cs.map fun c => D.p (.int c)) (some x2) none = (cs.drop x2.toNat).map fun c => D.p (.int c) := by
    rw [cut_from _ _ h2, List.map_drop]
  have ln : (List.drop x2.toNat cs).length ≤ 63 := by rw [List.length_drop]; omega
  simp only [takeCell, evE, evEs, evO, slot, R.of_some, List.getElem?_cons_zero, List.getElem?_cons_succ, R.bind_ok, subS_r, lb, atI_lit, atI_zero, Option.bind_some, slcS, hl', cut, mk, List.length_cons, List.length_nil, binS, add_mut]
  rw [if_pos (by rw [sizeLine_v]; decide)]
  simp only [R.bind_ok, add_mut, mutOf]
  have e1 : (h ++ [O.lst (List.map (fun c => D.p (P.int c)) (List.drop x2.toNat cs))] ++ [O.lst [D.p (P.int 0)]])[h.length]? = some (O.lst (List.map (fun c => D.p (P.int c)) (List.drop x2.toNat cs))) := by simp
  have e2 : (h ++ [O.lst (List.map (fun c => D.p (P.int c)) (List.drop x2.toNat cs))] ++ [O.lst [D.p (P.int 0)]])[(h ++ [O.lst (List.map (fun c => D.p (P.int c)) (List.drop x2.toNat cs))]).length]? = some (O.lst [D.p (P.int 0)]) := by simp
  rw [e1, e2]
  dsimp only
  rw [if_pos (by rw [List.length_map, sizeLine_v]; simp only [List.length_cons, List.length_nil]; omega)]
  simp only [mk, R.bind_ok, subS_r, lst_new, atI_zero, Option.bind_some]
  have e3 : (List.map (fun c => D.p (P.int c)) (List.drop x2.toNat cs) ++ [D.p (P.int 0)])[0]? = some (.p (.int (cellOf cs x2))) := by
    unfold cellOf
    cases cs.drop x2.toNat <;> rfl
  rw [e3]
  simp only [R.of_some, List.append_assoc]
  exact trim_p h _ _
theorem itmS_l {j : Nat} {xs : List D} (k : Int) {h : Hh} (e : lstOf h (.r j) = some xs) : itmS (.r j) (.p (.int k)) h = atI xs k := by
  unfold itmS
  rw [dct_lst e]
  simp only [e]
theorem putS_r {h : Hh} {j : Nat} {xs : List D} (n : Nat) (d : D) (hb : h[j]? = some (.lst xs)) (l : n < xs.length) : putS (.r j) (.p (.int (n : Int))) d h = .ok () (h.set j (.lst (xs.set n d))) := by
  have e : ixN xs.length (n : Int) = some n := by
    unfold ixN
    rw [if_pos (Int.natCast_nonneg n), if_pos (by omega)]
    simp
  simp only [putS, hb, e]
theorem put0 {h : Hh} {b l : Nat} {x0 x1 x2 y : Int} (hb : h[b]? = some (bagO x0 x1 x2 l)) : putS (.r b) (.p (.int 0)) (.p (.int y)) h = .ok () (h.set b (bagO y x1 x2 l)) := putS_r 0 _ hb (by simp)
theorem put1 {h : Hh} {b l : Nat} {x0 x1 x2 y : Int} (hb : h[b]? = some (bagO x0 x1 x2 l)) : putS (.r b) (.p (.int 1)) (.p (.int y)) h = .ok () (h.set b (bagO x0 y x2 l)) := putS_r 1 _ hb (by simp)
theorem put2 {h : Hh} {b l : Nat} {x0 x1 x2 y : Int} (hb : h[b]? = some (bagO x0 x1 x2 l)) : putS (.r b) (.p (.int 2)) (.p (.int y)) h = .ok () (h.set b (bagO x0 x1 y l)) := putS_r 2 _ hb (by simp)
/-- the bag's entries -/
theorem bag0 {h : Hh} {b l : Nat} {x0 x1 x2 : Int} (hb : h[b]? = some (bagO x0 x1 x2 l)) : subS (.r b) (.p (.int 0)) h = .ok (.p (.int x0)) h := by rw [subS_r, bag_get hb]; rfl
theorem bag1 {h : Hh} {b l : Nat} {x0 x1 x2 : Int} (hb : h[b]? = some (bagO x0 x1 x2 l)) : subS (.r b) (.p (.int 1)) h = .ok (.p (.int x1)) h := by rw [subS_r, bag_get hb]; rfl
theorem bag2 {h : Hh} {b l : Nat} {x0 x1 x2 : Int} (hb : h[b]? = some (bagO x0 x1 x2 l)) : subS (.r b) (.p (.int 2)) h = .ok (.p (.int x2)) h := by rw [subS_r, bag_get hb]; rfl
theorem mulOk_r {i j : Int} (h : -(2 ^ 64) < j ∧ j < 2 ^ 64) : mulOk i j = true := decide_eq_true (.inr h)
theorem mulOk_l {i j : Int} (h : -(2 ^ 64) < i ∧ i < 2 ^ 64) : mulOk i j = true := decide_eq_true (.inl h)
def takeA : ISs := .cons (.asg (.v 4) takeCell) (.cons (.augSub (.v 0) (.c (.int 2)) .add (.c (.int 1))) (.cons (.ite (.cmp .ge (.v 4) (.bin .pow (.c (.int 10)) (.c (.int 18)))) (.cons (.asg (.sub (.v 0) (.c (.int 0))) (.v 4)) .nil) .nil)
  (.cons (.asg (.v 5) (.trim (.bin .add (.bin .add (.bin .mul (.sub (.v 0) (.c (.int 1))) (.c (.int 48271))) (.bin .mod (.blt .int (.cons (.v 4) .nil)) (.c (.int 2147483647)))) (.bin .mul (.c (.int 7919)) (.sub (.v 0) (.c (.int 2)))))))
  (.cons (.asg (.sub (.v 0) (.c (.int 1))) (.bin .mod (.blt .int (.cons (.v 5) .nil)) (.c (.int 2147483647)))) .nil))))
theorem ite_some {c : Bool} {a b : ISs} {g : G} {s : Sg} {h : Hh} : (if c = true then evSs g a s h else evSs g b s h) = (if c then evSs g a s h else evSs g b s h) := rfl
theorem takeA_ok (g : G) (h : Hh) (b l : Nat) (many : D) (x1 x2 : Int) (cs : List Int) (ne : b ≠ l) (hl : h[l]? = some (intsO cs)) (cl : cs.length ≤ 63) (cn : ∀ c ∈ cs, 0 ≤ c) (hb : h[b]? = some (bagO 0 x1 x2 l)) (h1 : 0 ≤ x1) (h1' : x1 < 2147483647) (h2 : 0 ≤ x2) :
    ∃ s4 s5 y0 y1, 0 ≤ y0 ∧ 0 ≤ y1 ∧ y1 < 2147483647 ∧ evSs g takeA [some (.r b), some many, none, none, none, none, none] h = .next [some (.r b), some many, none, none, s4, s5, none] (h.set b (bagO y0 y1 (x2 + 1) l)) := by
  have c0 := cell_ok cs x2 cn
  have hc := take_cell g h b l many 0 x1 x2 cs ne hl cl hb h2
  generalize cellOf cs x2 = c at c0 hc
  have hb1 : (h.set b (bagO 0 x1 (x2 + 1) l))[b]? = some (bagO 0 x1 (x2 + 1) l) := get_set_self hb
  have hb2 : (h.set b (bagO c x1 (x2 + 1) l))[b]? = some (bagO c x1 (x2 + 1) l) := get_set_self hb
  have pw : ((10 : Int) ^ (18 : Int).toNat) = 1000000000000000000 := by decide
  have m1 : ∀ x : Int, mulOk x 48271 = true := fun x => mulOk_r (by decide)
  have m2 : ∀ x : Int, mulOk 7919 x = true := fun x => mulOk_l (by decide)
  have nz : (2147483647 : Int) ≠ 0 := by decide
  have pc : (0 : Int) ≤ 18 ∧ (18 : Int) ≤ 1000000 ∧ (10 : Int).natAbs < 2 ^ 64 := by decide
  have it2 : (R.of (itmS (.r b) (.p (.int 2)) h) h : R D) = .ok (.p (.int x2)) h := by rw [itmS_l _ (bag_get hb)]; rfl
  have f1 : ∀ z : Int, 0 ≤ z.fmod 2147483647 ∧ z.fmod 2147483647 < 2147483647 := fun z => ⟨Int.fmod_nonneg_of_pos z (by decide), Int.fmod_lt_of_pos z (by decide)⟩
  refine ⟨some (.p (.int c)), some (.p (.int (x1 * 48271 + c.fmod 2147483647 + 7919 * (x2 + 1)))), if 1000000000000000000 ≤ c then c else 0, (x1 * 48271 + c.fmod 2147483647 + 7919 * (x2 + 1)).fmod 2147483647, by split <;> omega, (f1 _).1, (f1 _).2, ?_⟩
  simp only [takeA, evSs, evS.eq_1, evS.eq_2, evS.eq_3, evS.eq_4, evS.eq_5, evS.eq_6, evS.eq_7, evS.eq_10, evS.eq_11, evS.eq_12, evS.eq_13, evS.eq_14, evE.eq_1, evE.eq_2, evE.eq_3, evE.eq_4, evE.eq_5, evE.eq_6, evE.eq_7, evE.eq_8, evE.eq_9, evE.eq_10, evE.eq_11, evE.eq_12, evE.eq_13, evE.eq_14, evE.eq_15, evE.eq_16, evE.eq_17, evE.eq_18, evE.eq_19, evE.eq_21, evE.eq_22, evE.eq_23, evE.eq_24, evE.eq_25, evE.eq_26,  evEs, evO, evTs, evI, asgT, asgTs, slot, startD, R.of_some, R.of_none, R.bind_ok, R.bind_stuck, R.then_ok, RS.seq_next, RS.seq_ret, RS.seq_brk, RS.seq_cont, List.getElem?_cons_zero, List.getElem?_cons_succ, List.set_cons_zero, List.set_cons_succ, List.set_set, add_ii, sub_ii, mul_ii, mod_ii, fdiv_ii, pow_lit, blt_int, blt_max, blt_min, blt_abs, aug_ii, tr_bl, lt_ii, le_ii, gt_ii, ge_ii, eq_ii, ne_ii, trim_p0, if_true, Bool.not_true, Bool.not_false, Bool.false_eq_true, if_false, R.tr_ok_bl, gOf_call, mkT_p2, len_t, sz1, sz2, sz3, sz4, sz6, D.items, hc, it2, put2 hb, pc, pw]
  by_cases q : 1000000000000000000 ≤ c
  · simp only [evSs, evS.eq_1, evS.eq_2, evS.eq_3, evS.eq_4, evS.eq_5, evS.eq_6, evS.eq_7, evS.eq_10, evS.eq_11, evS.eq_12, evS.eq_13, evS.eq_14, evE.eq_1, evE.eq_2, evE.eq_3, evE.eq_4, evE.eq_5, evE.eq_6, evE.eq_7, evE.eq_8, evE.eq_9, evE.eq_10, evE.eq_11, evE.eq_12, evE.eq_13, evE.eq_14, evE.eq_15, evE.eq_16, evE.eq_17, evE.eq_18, evE.eq_19, evE.eq_21, evE.eq_22, evE.eq_23, evE.eq_24, evE.eq_25, evE.eq_26,  evEs, evO, evTs, evI, asgT, asgTs, slot, startD, R.of_some, R.of_none, R.bind_ok, R.bind_stuck, R.then_ok, RS.seq_next, RS.seq_ret, RS.seq_brk, RS.seq_cont, List.getElem?_cons_zero, List.getElem?_cons_succ, List.set_cons_zero, List.set_cons_succ, List.set_set, add_ii, sub_ii, mul_ii, mod_ii, fdiv_ii, pow_lit, blt_int, blt_max, blt_min, blt_abs, aug_ii, tr_bl, lt_ii, le_ii, gt_ii, ge_ii, eq_ii, ne_ii, trim_p0, if_true, Bool.not_true, Bool.not_false, Bool.false_eq_true, if_false, R.tr_ok_bl, gOf_call, mkT_p2, len_t, sz1, sz2, sz3, sz4, sz6, D.items, q, decide_true, put0 hb1, bag1 hb2, bag2 hb2, m1, m2, nz, put1 hb2, ne_eq, not_false_eq_true]
  · simp only [evSs, evS.eq_1, evS.eq_2, evS.eq_3, evS.eq_4, evS.eq_5, evS.eq_6, evS.eq_7, evS.eq_10, evS.eq_11, evS.eq_12, evS.eq_13, evS.eq_14, evE.eq_1, evE.eq_2, evE.eq_3, evE.eq_4, evE.eq_5, evE.eq_6, evE.eq_7, evE.eq_8, evE.eq_9, evE.eq_10, evE.eq_11, evE.eq_12, evE.eq_13, evE.eq_14, evE.eq_15, evE.eq_16, evE.eq_17, evE.eq_18, evE.eq_19, evE.eq_21, evE.eq_22, evE.eq_23, evE.eq_24, evE.eq_25, evE.eq_26,  evEs, evO, evTs, evI, asgT, asgTs, slot, startD, R.of_some, R.of_none, R.bind_ok, R.bind_stuck, R.then_ok, RS.seq_next, RS.seq_ret, RS.seq_brk, RS.seq_cont, List.getElem?_cons_zero, List.getElem?_cons_succ, List.set_cons_zero, List.set_cons_succ, List.set_set, add_ii, sub_ii, mul_ii, mod_ii, fdiv_ii, pow_lit, blt_int, blt_max, blt_min, blt_abs, aug_ii, tr_bl, lt_ii, le_ii, gt_ii, ge_ii, eq_ii, ne_ii, trim_p0, if_true, Bool.not_true, Bool.not_false, Bool.false_eq_true, if_false, R.tr_ok_bl, gOf_call, mkT_p2, len_t, sz1, sz2, sz3, sz4, sz6, D.items, q, decide_false, bag1 hb1, bag2 hb1, m1, m2, nz, put1 hb1, ne_eq, not_false_eq_true]
def takeB : ISs := .cons (.ite (.cmp .gt (.sub (.v 0) (.c (.int 0))) (.c (.int 0))) (.cons (.asg (.v 6) (.bin .mod (.blt .int (.cons (.sub (.v 0) (.c (.int 0))) .nil)) (.v 1))) (.cons (.asg (.sub (.v 0) (.c (.int 0))) (.bin .fdiv (.blt .int (.cons (.sub (.v 0) (.c (.int 0))) .nil)) (.v 1))) (.cons (.ret (.v 6)) .nil))) .nil)
  (.cons (.asg (.v 2) (.trim (.bin .mod (.blt .int (.cons (.bin .mul (.bin .add (.sub (.v 0) (.c (.int 1))) (.c (.int 1))) (.c (.int 39373))) .nil)) (.c (.int 1000000007)))))
  (.cons (.asg (.v 3) (.trim (.bin .mod (.blt .int (.cons (.bin .mul (.bin .mod (.blt .int (.cons (.bin .mul (.v 2) (.v 2)) .nil)) (.c (.int 998244353))) (.c (.int 30011))) .nil)) (.c (.int 998244353)))))
  (.cons (.ret (.bin .mod (.blt .int (.cons (.bin .fdiv (.v 3) (.c (.int 7))) .nil)) (.v 1))) .nil)))
theorem takeF_eq : takeF = ⟨2, 7, .cons (.ite (.cmp .eq (.sub (.v 0) (.c (.int 0))) (.c (.int 0))) takeA .nil) takeB⟩ := rfl
theorem takeB_ok (g : G) (h : Hh) (b l : Nat) (many x0 x1 x2 : Int) (hb : h[b]? = some (bagO x0 x1 x2 l)) (hm : 0 < many) (hm2 : many < 1329227995784915872903807060280344576) (h0 : 0 ≤ x0) (s4 s5 : Option D) :
    ∃ v y0, 0 ≤ v ∧ v < many ∧ 0 ≤ y0 ∧ evSs g takeB [some (.r b), some (.p (.int many)), none, none, s4, s5, none] h = .ret (.p (.int v)) (h.set b (bagO y0 x1 x2 l)) := by
  have m1 : ∀ x : Int, mulOk x 39373 = true := fun x => mulOk_r (by decide)
  have m2 : ∀ x : Int, mulOk x 30011 = true := fun x => mulOk_r (by decide)
  have n1 : (1000000007 : Int) ≠ 0 := by decide
  have n2 : (998244353 : Int) ≠ 0 := by decide
  have n3 : many ≠ 0 := by omega
  have n4 : many ≠ 0 ∧ many.natAbs < 1329227995784915872903807060280344576 := ⟨n3, by omega⟩
  have n5 : (7 : Int) ≠ 0 ∧ (7 : Int).natAbs < 1329227995784915872903807060280344576 := by decide
  have same : h.set b (bagO x0 x1 x2 l) = h := by
    refine List.ext_getElem? fun i => ?_
    by_cases q : b = i
    · subst q; rw [get_set_self hb, hb]
    · rw [List.getElem?_set_ne q]
  by_cases q : 0 < x0
  · refine ⟨x0.fmod many, x0.fdiv many, Int.fmod_nonneg_of_pos _ hm, Int.fmod_lt_of_pos _ hm, Int.fdiv_nonneg h0 (by omega), ?_⟩
    simp only [takeB, evSs, evS.eq_1, evS.eq_2, evS.eq_3, evS.eq_4, evS.eq_5, evS.eq_6, evS.eq_7, evS.eq_10, evS.eq_11, evS.eq_12, evS.eq_13, evS.eq_14, evE.eq_1, evE.eq_2, evE.eq_3, evE.eq_4, evE.eq_5, evE.eq_6, evE.eq_7, evE.eq_8, evE.eq_9, evE.eq_10, evE.eq_11, evE.eq_12, evE.eq_13, evE.eq_14, evE.eq_15, evE.eq_16, evE.eq_17, evE.eq_18, evE.eq_19, evE.eq_21, evE.eq_22, evE.eq_23, evE.eq_24, evE.eq_25, evE.eq_26,  evEs, evO, evTs, evI, asgT, asgTs, slot, startD, R.of_some, R.of_none, R.bind_ok, R.bind_stuck, R.then_ok, RS.seq_next, RS.seq_ret, RS.seq_brk, RS.seq_cont, List.getElem?_cons_zero, List.getElem?_cons_succ, List.set_cons_zero, List.set_cons_succ, List.set_set, add_ii, sub_ii, mul_ii, mod_ii, fdiv_ii, pow_lit, blt_int, blt_max, blt_min, blt_abs, aug_ii, tr_bl, lt_ii, le_ii, gt_ii, ge_ii, eq_ii, ne_ii, trim_p0, if_true, Bool.not_true, Bool.not_false, Bool.false_eq_true, if_false, R.tr_ok_bl, gOf_call, mkT_p2, len_t, sz1, sz2, sz3, sz4, sz6, D.items, bag0 hb, q, decide_true, n3, n4, put0 hb, ne_eq, not_false_eq_true, and_self]
  · obtain ⟨w, hw⟩ : ∃ w, w = ((x1 + 1) * 39373).fmod 1000000007 := ⟨_, rfl⟩
    have w0 : 0 ≤ w := by rw [hw]; exact Int.fmod_nonneg_of_pos _ (by decide)
    have w1 : w < 1000000007 := by rw [hw]; exact Int.fmod_lt_of_pos _ (by decide)
    have m3 : mulOk w w = true := mulOk_r (by omega)
    refine ⟨((((w * w).fmod 998244353 * 30011).fmod 998244353).fdiv 7).fmod many, x0, Int.fmod_nonneg_of_pos _ hm, Int.fmod_lt_of_pos _ hm, h0, ?_⟩
    rw [same]
    simp only [takeB, evSs, evS.eq_1, evS.eq_2, evS.eq_3, evS.eq_4, evS.eq_5, evS.eq_6, evS.eq_7, evS.eq_10, evS.eq_11, evS.eq_12, evS.eq_13, evS.eq_14, evE.eq_1, evE.eq_2, evE.eq_3, evE.eq_4, evE.eq_5, evE.eq_6, evE.eq_7, evE.eq_8, evE.eq_9, evE.eq_10, evE.eq_11, evE.eq_12, evE.eq_13, evE.eq_14, evE.eq_15, evE.eq_16, evE.eq_17, evE.eq_18, evE.eq_19, evE.eq_21, evE.eq_22, evE.eq_23, evE.eq_24, evE.eq_25, evE.eq_26,  evEs, evO, evTs, evI, asgT, asgTs, slot, startD, R.of_some, R.of_none, R.bind_ok, R.bind_stuck, R.then_ok, RS.seq_next, RS.seq_ret, RS.seq_brk, RS.seq_cont, List.getElem?_cons_zero, List.getElem?_cons_succ, List.set_cons_zero, List.set_cons_succ, List.set_set, add_ii, sub_ii, mul_ii, mod_ii, fdiv_ii, pow_lit, blt_int, blt_max, blt_min, blt_abs, aug_ii, tr_bl, lt_ii, le_ii, gt_ii, ge_ii, eq_ii, ne_ii, trim_p0, if_true, Bool.not_true, Bool.not_false, Bool.false_eq_true, if_false, R.tr_ok_bl, gOf_call, mkT_p2, len_t, sz1, sz2, sz3, sz4, sz6, D.items, bag0 hb, bag1 hb, q, decide_false, n1, n2, n3, n5, m1, m2, ne_eq, not_false_eq_true, ← hw, m3, and_self]
theorem call_eq {p : Prg} {F k t : Nat} {fd : FD} {ds : List D} {h : Hh} (ht : p.fns[t]? = some fd) (hl : ds.length = fd.np) : callN p F (k + 2) t ds h = backR h (evSs (gOf p F (callN p F (k + 1)) (callN p F k)) fd.body (startD fd.ns ds) h) := by
  simp only [callN, ht]
  rw [if_pos hl]
theorem take_ok {p : Prg} {F k t : Nat} (ht : p.fns[t]? = some takeF) (h : Hh) (b l : Nat) (many : Int) (B : Bag h b l) (hm : 0 < many) (hm2 : many < 1329227995784915872903807060280344576) :
    ∃ v o, 0 ≤ v ∧ v < many ∧ Bag (h.set b o) b l ∧ (∃ x0 x1 x2, o = bagO x0 x1 x2 l) ∧ callN p F (k + 2) t [.r b, .p (.int many)] h = .ok (.p (.int v)) (h.set b o) := by
  obtain ⟨ne, ⟨cs, hl, cl, cn⟩, ⟨x0, x1, x2, hb, h0, h1, h1', h2⟩⟩ := B
  have ll : l < h.length := (List.getElem?_eq_some_iff.mp hl).1
  have bag' : ∀ y0 y1 y2 : Int, 0 ≤ y0 → 0 ≤ y1 → y1 < 2147483647 → 0 ≤ y2 → Bag (h.set b (bagO y0 y1 y2 l)) b l := fun y0 y1 y2 a1 a2 a3 a4 =>
    ⟨ne, ⟨cs, by rw [List.getElem?_set_ne ne]; exact hl, cl, cn⟩, y0, y1, y2, get_set_self hb, a1, a2, a3, a4⟩
  have fin : ∀ (v y0 y1 y2 : Int), backR h (.ret (.p (.int v)) (h.set b (bagO y0 y1 y2 l))) = .ok (.p (.int v)) (h.set b (bagO y0 y1 y2 l)) := fun v y0 y1 y2 =>
    trim_set0 h (.int v) (by simp [bagO, O.under, D.unders, D.under, ll])
  rw [call_eq ht rfl, takeF_eq]
  dsimp only
  by_cases q : x0 = 0
  · subst q
    obtain ⟨s4, s5, y0, y1, a0, a1, a2, e⟩ := takeA_ok (gOf p F (callN p F (k + 1)) (callN p F k)) h b l (.p (.int many)) x1 x2 cs ne hl cl cn hb h1 h1' h2
    obtain ⟨v, z0, v0, v1, v2, e2⟩ := takeB_ok (gOf p F (callN p F (k + 1)) (callN p F k)) (h.set b (bagO y0 y1 (x2 + 1) l)) b l many y0 y1 (x2 + 1) (get_set_self hb) hm hm2 a0 s4 s5
    refine ⟨v, bagO z0 y1 (x2 + 1) l, v0, v1, bag' _ _ _ v2 a1 a2 (by omega), ⟨_, _, _, rfl⟩, ?_⟩
    have e3 : evSs (gOf p F (callN p F (k + 1)) (callN p F k)) (.cons (.ite (.cmp .eq (.sub (.v 0) (.c (.int 0))) (.c (.int 0))) takeA .nil) takeB) (startD 7 [.r b, .p (.int many)]) h = .ret (.p (.int v)) (h.set b (bagO z0 y1 (x2 + 1) l)) := by
      rw [evSs, evS]
      simp only [evE, slot, startD, List.map, List.length_cons, List.length_nil, List.replicate, List.cons_append, List.nil_append, List.getElem?_cons_zero, R.of_some, R.bind_ok, bag0 hb, eq_ii, R.tr_ok_bl, R.then_ok, decide_true, if_true]
      show ((evSs _ takeA [some (.r b), some (.p (.int many)), none, none, none, none, none] h).seq _) = _
      rw [e]
      show evSs _ takeB _ _ = _
      rw [e2, List.set_set]
    rw [e3]
    exact fin v z0 y1 (x2 + 1)
  · obtain ⟨v, z0, v0, v1, v2, e2⟩ := takeB_ok (gOf p F (callN p F (k + 1)) (callN p F k)) h b l many x0 x1 x2 hb hm hm2 h0 none none
    refine ⟨v, bagO z0 x1 x2 l, v0, v1, bag' _ _ _ v2 h1 h1' h2, ⟨_, _, _, rfl⟩, ?_⟩
    have e3 : evSs (gOf p F (callN p F (k + 1)) (callN p F k)) (.cons (.ite (.cmp .eq (.sub (.v 0) (.c (.int 0))) (.c (.int 0))) takeA .nil) takeB) (startD 7 [.r b, .p (.int many)]) h = .ret (.p (.int v)) (h.set b (bagO z0 x1 x2 l)) := by
      rw [evSs, evS]
      simp only [evE, slot, startD, List.map, List.length_cons, List.length_nil, List.replicate, List.cons_append, List.nil_append, List.getElem?_cons_zero, R.of_some, R.bind_ok, bag0 hb, eq_ii, R.tr_ok_bl, R.then_ok, q, decide_false, Bool.false_eq_true, if_false, evSs, RS.seq_next]
      exact e2
    rw [e3]
    exact fin v z0 x1 x2
end Pv

/-! Q: _law_alike, _law_bag, _law_some; comprehensions run. -/
namespace Pv
open PySem L2

/-! ### what is shown -/
mutual
/-- a bound of the signs shown -/
def P.w : P → Nat
  | .non => 4
  | .bl _ => 5
  | .int _ => 1921
  | .str s => 10 * s.length + 2
  | .tup xs => P.ws xs + 3
def P.ws : List P → Nat
  | [] => 0
  | x :: xs => x.w + 2 + P.ws xs
end
mutual
/-- texts shown at most ten signs for one; numbers that may be shown -/
def P.nums : P → Bool
  | .non | .bl _ => true
  | .int i => decide (i.natAbs.log2 < 1920)
  | .str s => decide ((PyData.str s).shown.length ≤ 10 * s.length + 2) && PyData.strOk s
  | .tup xs => P.numss xs
def P.numss : List P → Bool
  | [] => true
  | x :: xs => x.nums && P.numss xs
end
theorem len_join {sep : Str} : ∀ ts : List Str, (Str.join sep ts).length ≤ (ts.map fun t => t.length + sep.length).sum
  | [] => Nat.le_refl 0
  | [x] => by simp [Str.join]
  | x :: y :: r => by
    have ih := len_join (sep := sep) (y :: r)
    rw [Str.join, Str.length_append, Str.length_append, List.map_cons, List.sum_cons]
    · omega
    · simp
theorem len_lit (s : String) : (Str.ofString s).length = s.length := ofString_length s
mutual
theorem shown_w : ∀ x : P, x.nums = true → x.py.shown.length ≤ x.w ∧ x.py.showable = true
  | .non, _ => ⟨by show ("None" : Str).length ≤ 4; decide, rfl⟩
  | .bl b, _ => ⟨by cases b <;> (show (_ : Str).length ≤ 5; decide), rfl⟩
  | .int i, h => by
    simp only [P.nums, decide_eq_true_eq] at h
    exact ⟨PyProof.Rows.int_text_len_1921 h, by simpa [P.py, PyData.showable] using h⟩
  | .str s, h => by
    simp only [P.nums, Bool.and_eq_true, decide_eq_true_eq] at h
    exact ⟨h.1, rfl⟩
  | .tup xs, h => by
    obtain ⟨h1, h2⟩ := shown_ws xs (by simpa [P.nums] using h)
    refine ⟨?_, by simpa [P.py, PyData.showable] using h2⟩
    show (tupleText (PyData.shownAll (P.pys xs))).length ≤ P.ws xs + 3
    unfold tupleText
    rw [Str.length_append, Str.length_append]
    have e1 : ("(" : Str).length = 1 := by decide
    have e2 : ∀ c : Bool, (Str.ofString (if c = true then ",)" else ")")).length ≤ 2 := by intro c; cases c <;> decide
    have := e2 ((PyData.shownAll (P.pys xs)).length == 1)
    have j := len_join (sep := ", ") (PyData.shownAll (P.pys xs))
    have e3 : (", " : Str).length = 2 := by decide
    rw [e3] at j
    omega
theorem shown_ws : ∀ xs : List P, P.numss xs = true → ((PyData.shownAll (P.pys xs)).map fun t => t.length + 2).sum ≤ P.ws xs ∧ PyData.showableAll (P.pys xs) = true
  | [], _ => ⟨Nat.le_refl 0, rfl⟩
  | x :: xs, h => by
    simp only [P.numss, Bool.and_eq_true] at h
    obtain ⟨h1, h2⟩ := shown_w x h.1
    obtain ⟨h3, h4⟩ := shown_ws xs h.2
    refine ⟨?_, by simp only [P.pys, PyData.showableAll, h2, h4, Bool.and_self]⟩
    simp only [P.pys, PyData.shownAll, List.map_cons, List.sum_cons, P.ws]
    omega
end
mutual
theorem nums_fit : ∀ x : P, x.nums = true → x.fit = true
  | .non, _ => rfl
  | .bl _, _ => rfl
  | .int _, _ => rfl
  | .str s, h => by
    simp only [P.nums, Bool.and_eq_true] at h
    exact h.2
  | .tup xs, h => by simp only [P.fit]; exact numss_fit xs (by simpa [P.nums] using h)
theorem numss_fit : ∀ xs : List P, P.numss xs = true → P.fits xs = true
  | [], _ => rfl
  | x :: xs, h => by
    simp only [P.numss, Bool.and_eq_true] at h
    simp only [P.fits, nums_fit x h.1, numss_fit xs h.2, Bool.and_self]
end
mutual
theorem eqv_self : ∀ x : P, x.eqv x = true
  | .non => rfl
  | .bl b => by simp [P.eqv]
  | .int i => by simp [P.eqv]
  | .str s => by simp [P.eqv]
  | .tup xs => by rw [P.eqv]; exact eqvs_self xs
theorem eqvs_self : ∀ xs : List P, P.eqvs xs xs = true
  | [] => rfl
  | x :: xs => by rw [P.eqvs, eqv_self x, eqvs_self xs]; rfl
end
theorem eqO_self (h : Hh) (x : P) (d : x.depth ≤ 64) (f : x.fit = true) : eqO h (.p x) (.p x) = some true := by
  cases x with
  | str s => simp [eqO]
  | non => simp [eqO, P.depth, P.fit, P.eqv]
  | bl b => simp [eqO, P.depth, P.fit, P.eqv]
  | int i => simp [eqO, P.depth, P.fit, P.eqv]
  | tup xs => simp only [eqO]; rw [if_pos ⟨d, d, f, f⟩, eqv_self]
/-- may be told alike -/
def Fine (x : P) : Prop := x.nums = true ∧ x.depth ≤ 60 ∧ x.w ≤ sizeLine
theorem repr_ok (h : Hh) {x : P} (f : Fine x) : bltS .repr [.p x] h = .ok (.p (.str x.py.shown)) h := by
  obtain ⟨h1, h2⟩ := shown_w x f.1
  have e : see 64 h (.p x) = some x.py := rfl
  have wd : PyData.wide x.py = true := by
    unfold PyData.wide
    rw [h2, decide_eq_true (Nat.le_trans h1 f.2.2), decide_eq_true (by rw [py_depth]; have := f.2.1; omega)]
    rfl
  simp only [bltS, e, wd, if_true]
theorem eqO_str (h : Hh) (s : Str) : eqO h (.p (.str s)) (.p (.str s)) = some true := by simp [eqO]
theorem truth_bl (h : Hh) (b : Bool) : truth h (.p (.bl b)) = some b := rfl
theorem alike_ok {p : Prg} {F k t : Nat} (ht : p.fns[t]? = some alikeF) (h : Hh) (x : P) (f : Fine x) : callN p F (k + 2) t [.p x, .p x] h = .ok (.p (.bl true)) h := by
  rw [call_eq ht rfl]
  have e2 := eqO_self h x (by have := f.2.1; omega) (nums_fit x f.1)
  simp only [alikeF, startD, List.map, List.length_cons, List.length_nil, List.replicate, List.cons_append, List.nil_append, List.append_nil, evSs, evS.eq_1, evS.eq_2, evS.eq_3, evS.eq_4, evS.eq_5, evS.eq_6, evS.eq_7, evS.eq_10, evS.eq_11, evS.eq_12, evS.eq_13, evS.eq_14, evE.eq_1, evE.eq_2, evE.eq_3, evE.eq_4, evE.eq_5, evE.eq_6, evE.eq_7, evE.eq_8, evE.eq_9, evE.eq_10, evE.eq_11, evE.eq_12, evE.eq_13, evE.eq_14, evE.eq_15, evE.eq_16, evE.eq_17, evE.eq_18, evE.eq_19, evE.eq_21, evE.eq_22, evE.eq_23, evE.eq_24, evE.eq_25, evE.eq_26,  evEs, evO, evTs, evI, asgT, asgTs, slot, startD, R.of_some, R.of_none, R.bind_ok, R.bind_stuck, R.then_ok, RS.seq_next, RS.seq_ret, RS.seq_brk, RS.seq_cont, List.getElem?_cons_zero, List.getElem?_cons_succ, List.set_cons_zero, List.set_cons_succ, List.set_set, add_ii, sub_ii, mul_ii, mod_ii, fdiv_ii, pow_lit, blt_int, blt_max, blt_min, blt_abs, aug_ii, tr_bl, lt_ii, le_ii, gt_ii, ge_ii, eq_ii, ne_ii, trim_p0, if_true, Bool.not_true, Bool.not_false, Bool.false_eq_true, if_false, R.tr_ok_bl, gOf_call, mkT_p2, len_t, sz1, sz2, sz3, sz4, sz6, D.items, repr_ok h f, cmpS, eqO_str, truth_bl, e2]
  exact trim_p0 h _

/-! ### comprehensions -/
theorem loopC_map (h0 : Hh) (gd : Gd) (body : D → Hh → R (Option D)) (f : D → Option D) (gok : ∀ a, gd.ok (h0 ++ [.lst a]) = true) :
    ∀ (ds acc : List D), (∀ d ∈ ds, ∀ a, body d (h0 ++ [.lst a]) = .ok (f d) (h0 ++ [.lst a])) → acc.length + ds.length ≤ sizeLine → loopC gd h0.length body ds acc (h0 ++ [.lst acc]) = .ok () (h0 ++ [.lst (acc ++ ds.filterMap f)])
  | [], acc, _, _ => by
    simp only [loopC, gok, Bool.true_and]
    rw [if_pos (by simp)]
    simp
  | d :: ds, acc, hb, hl => by
    have hl' : acc.length + (ds.length + 1) ≤ sizeLine := hl
    simp only [loopC, gok, if_true, hb d List.mem_cons_self]
    rw [if_pos ⟨by simp, by omega⟩]
    cases q : f d with
    | none =>
      dsimp only
      rw [loopC_map h0 gd body f gok ds acc (fun d hd => hb d (List.mem_cons_of_mem _ hd)) (by omega), List.filterMap_cons_none q]
    | some x =>
      dsimp only
      have e : (h0 ++ [O.lst acc]).set h0.length (.lst (acc ++ [x])) = h0 ++ [.lst (acc ++ [x])] := by
        rw [List.set_append_right _ _ (Nat.le_refl _), Nat.sub_self]
        rfl
      rw [e, loopC_map h0 gd body f gok ds (acc ++ [x]) (fun d hd => hb d (List.mem_cons_of_mem _ hd)) (by rw [List.length_append, List.length_singleton]; omega), List.filterMap_cons_some q]
      simp
/-- the same, where the heap below changes: I what stays true of it, Q what holds of each item -/
theorem loopC_st {gd : Gd} {body : D → Hh → R (Option D)} (n : Nat) (I : Hh → Prop) (Q : D → Prop) (len : ∀ h, I h → h.length = n) (gok : ∀ h a, I h → gd.ok (h ++ [.lst a]) = true)
    (hb : ∀ (d : D) (h : Hh) (a : List D), I h → ∃ h2 x, I h2 ∧ Q x ∧ body d (h ++ [.lst a]) = .ok (some x) (h2 ++ [.lst a])) :
    ∀ (ds acc : List D) (h : Hh), I h → acc.length + ds.length ≤ sizeLine → ∃ h2 xs, I h2 ∧ xs.length = ds.length ∧ (∀ x ∈ xs, Q x) ∧ loopC gd n body ds acc (h ++ [.lst acc]) = .ok () (h2 ++ [.lst (acc ++ xs)])
  | [], acc, h, ih, _ => by
    refine ⟨h, [], ih, rfl, (fun _ z => by cases z), ?_⟩
    simp only [loopC, gok h acc ih, Bool.true_and]
    rw [if_pos (by rw [decide_eq_true_eq, ← len h ih]; simp)]
    simp
  | d :: ds, acc, h, ih, hl => by
    have hl' : acc.length + (ds.length + 1) ≤ sizeLine := hl
    obtain ⟨h2, x, i2, qx, e⟩ := hb d h acc ih
    have e2 : (h2 ++ [O.lst acc]).set n (.lst (acc ++ [x])) = h2 ++ [.lst (acc ++ [x])] := by
      rw [← len h2 i2, List.set_append_right _ _ (Nat.le_refl _), Nat.sub_self]
      rfl
    obtain ⟨h3, xs, i3, lx, qxs, e3⟩ := loopC_st n I Q len gok hb ds (acc ++ [x]) h2 i2 (by rw [List.length_append, List.length_singleton]; omega)
    refine ⟨h3, x :: xs, i3, by rw [List.length_cons, lx, List.length_cons], fun y hy => ?_, ?_⟩
    · rcases List.mem_cons.mp hy with rfl | hy
      · exact qx
      · exact qxs y hy
    · simp only [loopC, gok h acc ih, if_true, e]
      rw [if_pos ⟨by rw [← len h2 i2]; simp, by omega⟩, e2, e3]
      simp
theorem comp_eq (g : G) (own : List Nat) (elt : IE) (t : ITg) (it : IIt) (ifs : IEs) (s : Sg) (h : Hh) : evE g (.comp own elt t it ifs) s h = (evI g it s h).bind fun p h1 => (loopC p.2 h1.length (bodyC g own t ifs elt s) p.1 [] (h1 ++ [.lst []])).bind fun _ h2 => .ok (.r h1.length) h2 := rfl

theorem trim_more (h t : Hh) (i : Nat) (o : O) (hi : h.length ≤ i) (g : (h ++ t)[i]? = some o) (u : o.under h.length = false) : trimR h (.ok (.r i) (h ++ t)) = .ok (.r i) (h ++ t) := by
  have a := agree_app t h.length h
  have d : D.under h.length (.r i) = false := by simp [D.under, hi]
  simp only [trimR, a, d, if_true]
  rw [if_neg (by simp), g]
  dsimp only
  rw [u, Bool.and_false, if_neg (by simp)]

/-! ### the bag -/
theorem bag_ok {p : Prg} {F k t : Nat} (ht : p.fns[t]? = some bagF) (ns : List Int) (hn : ns.length ≤ 63) :
    ∃ b l h', Bag h' b l ∧ callN p F (k + 2) t [.r 0] [.ro (ns.map .int)] = .ok (.r b) h' := by
  have hcut : cutX (ns.map fun n => D.p (.int n)) none (some 63) = ns.map fun n => D.p (.int n) := by
    unfold cutX
    have e : ∀ m : Nat, HT.sIx m m (some 63) = min 63 m := fun m => by
      show (if (63 : Int) < 0 then ((63 : Int) + (m : Int)).toNat else min (63 : Int).toNat m) = _
      rw [if_neg (by decide)]
      rfl
    rw [HT.sIx_none, List.drop_zero, e]
    refine List.take_of_length_le ?_
    rw [List.length_map]
    omega
  refine ⟨3, 2, [.ro (ns.map .int), .lst (ns.map fun n => .p (.int n)), intsO (ns.map fun n => if n < 0 then -n else n), bagO 0 1234567891 0 2], ⟨by decide, ⟨_, rfl, by rw [List.length_map]; exact hn, fun c hc => ?_⟩, _, _, _, rfl, by decide, by decide, by decide, by decide⟩, ?_⟩
  · obtain ⟨n, _, rfl⟩ := List.mem_map.mp hc
    split <;> omega
  · rw [call_eq ht rfl]
    have s1 : slcS (.r 0) none (some 63) [.ro (ns.map .int)] = .ok (.r 1) [.ro (ns.map .int), .lst (ns.map fun n => .p (.int n))] := by
      have e : lstOf [O.ro (ns.map .int)] (.r 0) = some (ns.map fun n => D.p (.int n)) := by simp [lstOf, Function.comp_def]
      simp only [slcS, e, hcut, mk]
      rfl
    have e1 : seqOf [O.ro (ns.map .int), .lst (ns.map fun n => .p (.int n))] (.r 1) = some (ns.map fun n => D.p (.int n)) := rfl
    have s2 := loopC_map [O.ro (ns.map .int), .lst (ns.map fun n => .p (.int n))] (gdOf [O.ro (ns.map .int), .lst (ns.map fun n => .p (.int n))] (.r 1))
      (bodyC (gOf p F (callN p F (k + 1)) (callN p F k)) [1] (.v 1) .nil (.blt .abs (.cons (.v 1) .nil)) [some (.r 0), none])
      (fun d => match d with
        | .p (.int i) => some (.p (.int (if i < 0 then -i else i)))
        | _ => none) (fun a => by simp [gdOf, Gd.ok]) (ns.map fun n => D.p (.int n)) [] (fun d hd a => by
        obtain ⟨n, _, rfl⟩ := List.mem_map.mp hd
        simp only [bodyC, evSs, evS.eq_1, evS.eq_2, evS.eq_3, evS.eq_4, evS.eq_5, evS.eq_6, evS.eq_7, evS.eq_10, evS.eq_11, evS.eq_12, evS.eq_13, evS.eq_14, evE.eq_1, evE.eq_2, evE.eq_3, evE.eq_4, evE.eq_5, evE.eq_6, evE.eq_7, evE.eq_8, evE.eq_9, evE.eq_10, evE.eq_11, evE.eq_12, evE.eq_13, evE.eq_14, evE.eq_15, evE.eq_16, evE.eq_17, evE.eq_18, evE.eq_19, evE.eq_21, evE.eq_22, evE.eq_23, evE.eq_24, evE.eq_25, evE.eq_26,  evEs, evO, evTs, evI, asgT, asgTs, slot, startD, R.of_some, R.of_none, R.bind_ok, R.bind_stuck, R.then_ok, RS.seq_next, RS.seq_ret, RS.seq_brk, RS.seq_cont, List.getElem?_cons_zero, List.getElem?_cons_succ, List.set_cons_zero, List.set_cons_succ, List.set_set, add_ii, sub_ii, mul_ii, mod_ii, fdiv_ii, pow_lit, blt_int, blt_max, blt_min, blt_abs, aug_ii, tr_bl, lt_ii, le_ii, gt_ii, ge_ii, eq_ii, ne_ii, trim_p0, if_true, Bool.not_true, Bool.not_false, Bool.false_eq_true, if_false, R.tr_ok_bl, gOf_call, mkT_p2, len_t, sz1, sz2, sz3, sz4, sz6, D.items, wipeD]) (by rw [List.length_map, sizeLine_v]; simp only [List.length_nil]; omega)
    have e3 : (ns.map fun n => D.p (.int n)).filterMap (fun d => match d with
        | .p (.int i) => some (D.p (.int (if i < 0 then -i else i)))
        | _ => none) = (ns.map fun n => if n < 0 then -n else n).map fun n => D.p (.int n) := by
      clear s1 e1 s2 hcut hn
      induction ns with
      | nil => rfl
      | cons n ns ih => simp only [List.map_cons, List.filterMap_cons, ih]
    rw [e3] at s2
    have s3 : evE (gOf p F (callN p F (k + 1)) (callN p F k)) (.comp [1] (.blt .abs (.cons (.v 1) .nil)) (.v 1) (.of (.slc (.v 0) .none (.some (.c (.int 63))))) .nil) [some (.r 0), none] [.ro (ns.map .int)] =
        .ok (.r 2) [.ro (ns.map .int), .lst (ns.map fun n => .p (.int n)), intsO (ns.map fun n => if n < 0 then -n else n)] := by
      rw [comp_eq]
      simp only [evSs, evS.eq_1, evS.eq_2, evS.eq_3, evS.eq_4, evS.eq_5, evS.eq_6, evS.eq_7, evS.eq_10, evS.eq_11, evS.eq_12, evS.eq_13, evS.eq_14, evE.eq_1, evE.eq_2, evE.eq_3, evE.eq_4, evE.eq_5, evE.eq_6, evE.eq_7, evE.eq_8, evE.eq_9, evE.eq_10, evE.eq_11, evE.eq_12, evE.eq_13, evE.eq_14, evE.eq_15, evE.eq_16, evE.eq_17, evE.eq_18, evE.eq_19, evE.eq_21, evE.eq_22, evE.eq_23, evE.eq_24, evE.eq_25, evE.eq_26,  evEs, evO, evTs, evI, asgT, asgTs, slot, startD, R.of_some, R.of_none, R.bind_ok, R.bind_stuck, R.then_ok, RS.seq_next, RS.seq_ret, RS.seq_brk, RS.seq_cont, List.getElem?_cons_zero, List.getElem?_cons_succ, List.set_cons_zero, List.set_cons_succ, List.set_set, add_ii, sub_ii, mul_ii, mod_ii, fdiv_ii, pow_lit, blt_int, blt_max, blt_min, blt_abs, aug_ii, tr_bl, lt_ii, le_ii, gt_ii, ge_ii, eq_ii, ne_ii, trim_p0, if_true, Bool.not_true, Bool.not_false, Bool.false_eq_true, if_false, R.tr_ok_bl, gOf_call, mkT_p2, len_t, sz1, sz2, sz3, sz4, sz6, D.items, s1, e1]
      have s2 : loopC (gdOf [O.ro (ns.map .int), .lst (ns.map fun n => .p (.int n))] (.r 1)) 2 (bodyC (gOf p F (callN p F (k + 1)) (callN p F k)) [1] (.v 1) .nil (.blt .abs (.cons (.v 1) .nil)) [some (.r 0), none]) (ns.map fun n => D.p (.int n)) [] [O.ro (ns.map .int), .lst (ns.map fun n => .p (.int n)), .lst []] =
        .ok () [.ro (ns.map .int), .lst (ns.map fun n => .p (.int n)), intsO (ns.map fun n => if n < 0 then -n else n)] := s2
      show (R.bind (loopC _ 2 _ _ _ [O.ro (ns.map .int), .lst (ns.map fun n => .p (.int n)), .lst []]) _) = _
      rw [s2]
      rfl
    simp only [bagF, startD, List.map_cons, List.map_nil, List.length_cons, List.length_nil, List.replicate, List.cons_append, List.nil_append, evSs, evS.eq_1, evS.eq_2, evS.eq_3, evS.eq_4, evS.eq_5, evS.eq_6, evS.eq_7, evS.eq_10, evS.eq_11, evS.eq_12, evS.eq_13, evS.eq_14, evE.eq_1, evE.eq_2, evE.eq_3, evE.eq_4, evE.eq_5, evE.eq_6, evE.eq_7, evE.eq_8, evE.eq_9, evE.eq_10, evE.eq_11, evE.eq_12, evE.eq_13, evE.eq_14, evE.eq_15, evE.eq_16, evE.eq_17, evE.eq_18, evE.eq_19, evE.eq_21, evE.eq_22, evE.eq_23, evE.eq_24, evE.eq_25, evE.eq_26,  evEs, evO, evTs, evI, asgT, asgTs, slot, startD, R.of_some, R.of_none, R.bind_ok, R.bind_stuck, R.then_ok, RS.seq_next, RS.seq_ret, RS.seq_brk, RS.seq_cont, List.getElem?_cons_zero, List.getElem?_cons_succ, List.set_cons_zero, List.set_cons_succ, List.set_set, add_ii, sub_ii, mul_ii, mod_ii, fdiv_ii, pow_lit, blt_int, blt_max, blt_min, blt_abs, aug_ii, tr_bl, lt_ii, le_ii, gt_ii, ge_ii, eq_ii, ne_ii, trim_p0, if_true, Bool.not_true, Bool.not_false, Bool.false_eq_true, if_false, R.tr_ok_bl, gOf_call, mkT_p2, len_t, sz1, sz2, sz3, sz4, sz6, D.items, s3, mk]
    have tm := trim_more [O.ro (ns.map .int)] [.lst (ns.map fun n => .p (.int n)), intsO (ns.map fun n => if n < 0 then -n else n), bagO 0 1234567891 0 2] 3 (bagO 0 1234567891 0 2) (by show 1 ≤ 3; decide) rfl (by rfl)
    show backR _ (((trimR _ (R.ok (.r 3) ([O.ro (ns.map .int)] ++ [.lst (ns.map fun n => .p (.int n)), intsO (ns.map fun n => if n < 0 then -n else n), bagO 0 1234567891 0 2]))).then [some (.r 0), none] fun d h1 => RS.ret d h1).seq fun s1 h1 => RS.next s1 h1) = _
    rw [tm]
    exact tm
theorem law_starts {p : Prg} {F k t : Nat} (ht : p.fns[t]? = some bagF) (ns : List Int) (hn : ns.length ≤ 63) :
    ∃ b l h', Bag h' b l ∧ callN p F (k + 2) t [.r 0] [.ro (ns.map .int)] = .ok (.r b) h' := bag_ok ht ns hn
end Pv

/-! R: _law_some, loops by states. -/
namespace Pv
open PySem L2

theorem set_app {h t : Hh} {b : Nat} {o : O} (l : b < h.length) : (h ++ t).set b o = h.set b o ++ t := List.set_append_left _ _ l
theorem Bag.lt {h : Hh} {b l : Nat} (B : Bag h b l) : b < h.length ∧ l < h.length := by
  obtain ⟨_, ⟨cs, e, _⟩, _, _, _, e2, _⟩ := B
  exact ⟨(List.getElem?_eq_some_iff.mp e2).1, (List.getElem?_eq_some_iff.mp e).1⟩
theorem Bag.app {h : Hh} {b l : Nat} (B : Bag h b l) (t : Hh) : Bag (h ++ t) b l := by
  obtain ⟨ne, ⟨cs, e, r⟩, x0, x1, x2, e2, r2⟩ := B
  exact ⟨ne, ⟨cs, get_app e, r⟩, x0, x1, x2, get_app e2, r2⟩
theorem Bag.unapp {h t : Hh} {b l : Nat} (B : Bag (h ++ t) b l) (lb : b < h.length) (ll : l < h.length) : Bag h b l := by
  obtain ⟨ne, ⟨cs, e, r⟩, x0, x1, x2, e2, r2⟩ := B
  rw [List.getElem?_append_left ll] at e
  rw [List.getElem?_append_left lb] at e2
  exact ⟨ne, ⟨cs, e, r⟩, x0, x1, x2, e2, r2⟩
/-- how a bag moves on: the same heap but for the bag -/
def Next (h h' : Hh) (b l : Nat) : Prop := Bag h' b l ∧ ∃ x0 x1 x2, h' = h.set b (bagO x0 x1 x2 l)
theorem Next.refl {h : Hh} {b l : Nat} (B : Bag h b l) : Next h h b l := by
  refine ⟨B, ?_⟩
  obtain ⟨ne, _, x0, x1, x2, hb, _⟩ := B
  refine ⟨x0, x1, x2, List.ext_getElem? fun i => ?_⟩
  by_cases q : b = i
  · subst q; rw [get_set_self hb, hb]
  · rw [List.getElem?_set_ne q]
theorem Next.trans {h h1 h2 : Hh} {b l : Nat} (a : Next h h1 b l) (c : Next h1 h2 b l) : Next h h2 b l := by
  obtain ⟨_, y0, y1, y2, rfl⟩ := a
  obtain ⟨B, z0, z1, z2, rfl⟩ := c
  exact ⟨B, z0, z1, z2, by rw [List.set_set]⟩
theorem Next.length {h h' : Hh} {b l : Nat} (a : Next h h' b l) : h'.length = h.length := by
  obtain ⟨_, y0, y1, y2, rfl⟩ := a
  exact List.length_set
theorem Next.app {h h' : Hh} {b l : Nat} (lb : b < h.length) (a : Next h h' b l) (t : Hh) : Next (h ++ t) (h' ++ t) b l := by
  obtain ⟨B, y0, y1, y2, rfl⟩ := a
  exact ⟨B.app t, y0, y1, y2, by rw [set_app lb]⟩
theorem Next.unapp {h t h' : Hh} {b l : Nat} (B : Bag h b l) (a : Next (h ++ t) h' b l) : ∃ h1, h' = h1 ++ t ∧ Next h h1 b l := by
  obtain ⟨B', y0, y1, y2, rfl⟩ := a
  rw [set_app B.lt.1] at B' ⊢
  exact ⟨_, rfl, B'.unapp (by rw [List.length_set]; exact B.lt.1) (by rw [List.length_set]; exact B.lt.2), y0, y1, y2, rfl⟩
theorem Next.trim {h h' : Hh} {b l : Nat} (B : Bag h b l) (a : Next h h' b l) (t : Hh) (x : P) : trimR h (.ok (.p x) (h' ++ t)) = .ok (.p x) h' := by
  obtain ⟨_, y0, y1, y2, rfl⟩ := a
  exact trim_set h t x (by simp [bagO, O.under, D.unders, D.under, B.lt.2])
theorem Next.trim0 {h h' : Hh} {b l : Nat} (B : Bag h b l) (a : Next h h' b l) (x : P) : trimR h (.ok (.p x) h') = .ok (.p x) h' := by
  have := a.trim B [] x
  rwa [List.append_nil] at this
theorem take_next {p : Prg} {F k t : Nat} (ht : p.fns[t]? = some takeF) {h : Hh} {b l : Nat} {many : Int} (B : Bag h b l) (hm : 0 < many) (hm2 : many < 1329227995784915872903807060280344576) :
    ∃ v h', 0 ≤ v ∧ v < many ∧ Next h h' b l ∧ callN p F (k + 2) t [.r b, .p (.int many)] h = .ok (.p (.int v)) h' := by
  obtain ⟨v, o, h1, h2, h3, ⟨x0, x1, x2, rfl⟩, e⟩ := take_ok (F := F) (k := k) ht h b l many B hm hm2
  exact ⟨v, _, h1, h2, ⟨h3, x0, x1, x2, rfl⟩, e⟩
/-- one of the things -/
theorem some_ok {p : Prg} {F k t t' : Nat} (ht : p.fns[t]? = some takeF) (hs : p.fns[t']? = some (someF t)) {h : Hh} {b l L : Nat} {items : List P} (B : Bag h b l) (hb : b ≠ L) (hL : h[L]? = some (.lst (items.map .p))) (h0 : items ≠ []) (h1 : items.length < 1000) :
    ∃ x h', x ∈ items ∧ Next h h' b l ∧ callN p F (k + 3) t' [.r b, .r L] h = .ok (.p x) h' := by
  have len : lenOf h (.r L) = some items.length := by simp [lenOf, hL]
  have pos : 0 < items.length := List.length_pos_iff.mpr h0
  obtain ⟨v, h', v0, v1, nx, e⟩ := take_next (F := F) (k := k) ht B (many := items.length) (by omega) (by omega)
  have hL' : lstOf h' (.r L) = some (items.map .p) := by
    obtain ⟨_, y0, y1, y2, rfl⟩ := nx
    simp [lstOf, List.getElem?_set_ne hb, hL]
  obtain ⟨n, rfl⟩ : ∃ n : Nat, v = n := ⟨v.toNat, by omega⟩
  have hn : n < items.length := by omega
  refine ⟨items[n], h', List.getElem_mem hn, nx, ?_⟩
  rw [show k + 3 = (k + 1) + 2 from rfl, call_eq hs rfl]
  have it : (items.map D.p)[n]? = some (.p items[n]) := by rw [List.getElem?_map, List.getElem?_eq_getElem hn]; rfl
  have bl : bltS .len [.r L] h = .ok (.p (.int items.length)) h := by simp only [bltS, len]; rfl
  simp only [someF, startD, List.map_cons, List.map_nil, List.length_cons, List.length_nil, List.replicate, List.cons_append, List.nil_append, List.append_nil, evSs, evS.eq_1, evS.eq_2, evS.eq_3, evS.eq_4, evS.eq_5, evS.eq_6, evS.eq_7, evS.eq_10, evS.eq_11, evS.eq_12, evS.eq_13, evS.eq_14, evE.eq_1, evE.eq_2, evE.eq_3, evE.eq_4, evE.eq_5, evE.eq_6, evE.eq_7, evE.eq_8, evE.eq_9, evE.eq_10, evE.eq_11, evE.eq_12, evE.eq_13, evE.eq_14, evE.eq_15, evE.eq_16, evE.eq_17, evE.eq_18, evE.eq_19, evE.eq_21, evE.eq_22, evE.eq_23, evE.eq_24, evE.eq_25, evE.eq_26,  evEs, evO, evTs, evI, asgT, asgTs, slot, startD, R.of_some, R.of_none, R.bind_ok, R.bind_stuck, R.then_ok, RS.seq_next, RS.seq_ret, RS.seq_brk, RS.seq_cont, List.getElem?_cons_zero, List.getElem?_cons_succ, List.set_cons_zero, List.set_cons_succ, List.set_set, add_ii, sub_ii, mul_ii, mod_ii, fdiv_ii, pow_lit, blt_int, blt_max, blt_min, blt_abs, aug_ii, tr_bl, lt_ii, le_ii, gt_ii, ge_ii, eq_ii, ne_ii, trim_p0, if_true, Bool.not_true, Bool.not_false, Bool.false_eq_true, if_false, R.tr_ok_bl, gOf_call, mkT_p2, len_t, sz1, sz2, sz3, sz4, sz6, D.items, gOf_call, bl, e, subS_r, hL', Option.bind_some, atI_nat, it]
  rw [nx.trim0 B]
  exact nx.trim0 B _

/-! ### loops by states -/
def runS {σ : Type} (step : σ → D → σ × D) (st : σ) : List D → σ
  | [] => st
  | d :: ds => runS step (step st d).1 ds
def outS {σ : Type} (step : σ → D → σ × D) (st : σ) : List D → List D
  | [] => []
  | d :: ds => (step st d).2 :: outS step (step st d).1 ds
theorem outS_length {σ : Type} (step : σ → D → σ × D) : ∀ (ds : List D) (st : σ), (outS step st ds).length = ds.length
  | [], _ => rfl
  | d :: ds, st => by rw [outS, List.length_cons, outS_length step ds, List.length_cons]
theorem loopC_fold {σ : Type} {gd : Gd} {body : D → Hh → R (Option D)} (n : Nat) (S : σ → Hh) (step : σ → D → σ × D) (len : ∀ st, (S st).length = n) (gok : ∀ st a, gd.ok (S st ++ [.lst a]) = true) :
    ∀ (ds acc : List D) (st : σ), (∀ d ∈ ds, ∀ st a, body d (S st ++ [.lst a]) = .ok (some (step st d).2) (S (step st d).1 ++ [.lst a])) → acc.length + ds.length ≤ sizeLine →
      loopC gd n body ds acc (S st ++ [.lst acc]) = .ok () (S (runS step st ds) ++ [.lst (acc ++ outS step st ds)])
  | [], acc, st, _, _ => by
    simp only [loopC, gok, Bool.true_and]
    rw [if_pos (by rw [decide_eq_true_eq, ← len st]; simp)]
    simp [runS, outS]
  | d :: ds, acc, st, hb, hl => by
    have hl' : acc.length + (ds.length + 1) ≤ sizeLine := hl
    have e2 : (S (step st d).1 ++ [O.lst acc]).set n (.lst (acc ++ [(step st d).2])) = S (step st d).1 ++ [.lst (acc ++ [(step st d).2])] := by
      rw [← len (step st d).1, List.set_append_right _ _ (Nat.le_refl _), Nat.sub_self]
      rfl
    simp only [loopC, gok, if_true, hb d List.mem_cons_self]
    rw [if_pos ⟨by rw [← len (step st d).1]; simp, by omega⟩, e2, loopC_fold n S step len gok ds _ _ (fun d hd => hb d (List.mem_cons_of_mem _ hd)) (by rw [List.length_append, List.length_singleton]; omega)]
    simp [runS, outS]
theorem trimS_same {h h' : Hh} {s : Sg} (l : h'.length = h.length) : trimS h s h' = h' := by
  unfold trimS
  split
  · rw [← l, List.take_length]
  · rfl
/-- a for loop that only moves a state on; I: what holds ahead of each turn -/
theorem loopS_fold {σ : Type} {gd : Gd} {body : D → Sg → Hh → RS} (n : Nat) (S : σ → Hh) (Z : σ → Sg) (step : σ → D → σ) (I : Nat → σ → Prop) (len : ∀ st, (S st).length = n) (gok : ∀ st, gd.ok (S st) = true) (all : List D)
    (hb : ∀ i d st, all[i]? = some d → I i st → I (i + 1) (step st d) ∧ body d (Z st) (S st) = .next (Z (step st d)) (S (step st d))) :
    ∀ (ds : List D) (i : Nat) (st : σ), all.drop i = ds → I i st → loopS gd body ds (Z st) (S st) = .next (Z (ds.foldl step st)) (S (ds.foldl step st))
  | [], i, st, _, _ => by simp only [loopS, gok, if_true, List.foldl_nil]
  | d :: ds, i, st, e, i0 => by
    have g : all[i]? = some d := by
      have := congrArg (fun l : List D => l[0]?) e
      simpa using this
    have e' : all.drop (i + 1) = ds := by
      have := congrArg List.tail e
      simpa using this
    obtain ⟨i1, eb⟩ := hb i d st g i0
    simp only [loopS, gok, if_true, eb]
    rw [trimS_same (by rw [len, len]), loopS_fold n S Z step I len gok all hb ds (i + 1) _ e' i1]
    rfl
end Pv

/-! S: runs by conditions; objects behind a heap; dicts of numbers. -/
namespace Pv
open PySem L2

/-! ### runs by conditions -/
abbrev SH := Sg → Hh → Prop
def Run (r : RS) (N B C : SH) (Q : D → Hh → Prop) : Prop := match r with
  | .next s h => N s h
  | .brk s h => B s h
  | .cont s h => C s h
  | .ret d h => Q d h
  | .exc .. => False
  | .stuck => False
/-- no break, no continue -/
abbrev Ru (r : RS) (N : SH) (Q : D → Hh → Prop) : Prop := Run r N (fun _ _ => False) (fun _ _ => False) Q
theorem Run.seq {r : RS} {k : Sg → Hh → RS} {M N B C : SH} {Q : D → Hh → Prop} (h : Run r M B C Q) (f : ∀ s h, M s h → Run (k s h) N B C Q) : Run (r.seq k) N B C Q := by
  cases r with
  | next s h' => exact f s h' h
  | brk s h' => exact h
  | cont s h' => exact h
  | ret d h' => exact h
  | exc x s h' => exact h.elim
  | stuck => exact h.elim
theorem Run.weak {r : RS} {N B C N' B' C' : SH} {Q Q' : D → Hh → Prop} (h : Run r N B C Q) (n : ∀ s h, N s h → N' s h) (b : ∀ s h, B s h → B' s h) (c : ∀ s h, C s h → C' s h) (q : ∀ d h, Q d h → Q' d h) : Run r N' B' C' Q' := by
  cases r with
  | next s h' => exact n _ _ h
  | brk s h' => exact b _ _ h
  | cont s h' => exact c _ _ h
  | ret d h' => exact q _ _ h
  | exc x s h' => exact h.elim
  | stuck => exact h.elim
/-- a for loop: I holds ahead of each turn -/
theorem loopS_run {gd : Gd} {body : D → Sg → Hh → RS} (I : Nat → SH) (P : SH) {B C : SH} (Q : D → Hh → Prop) (all : List D)
    (st : ∀ i d s h, all[i]? = some d → I i s h → gd.ok h = true ∧ Run (body d s h) (fun s1 h1 => I (i + 1) s1 (trimS h s1 h1)) P (fun s1 h1 => I (i + 1) s1 (trimS h s1 h1)) Q)
    (fin : ∀ s h, I all.length s h → gd.ok h = true ∧ P s h) : ∀ (ds : List D) (i : Nat) (s : Sg) (h : Hh), all.drop i = ds → I i s h → i ≤ all.length → Run (loopS gd body ds s h) P B C Q
  | [], i, s, h, e, i0, il => by
    have : i = all.length := by
      have := congrArg List.length e
      rw [List.length_drop, List.length_nil] at this
      omega
    subst this
    obtain ⟨g, p⟩ := fin s h i0
    simp only [loopS, g, if_true]
    exact p
  | d :: ds, i, s, h, e, i0, il => by
    have g : all[i]? = some d := by
      have := congrArg (fun l : List D => l[0]?) e
      simpa using this
    have e' : all.drop (i + 1) = ds := by
      have := congrArg List.tail e
      simpa using this
    have il' : i + 1 ≤ all.length := (List.getElem?_eq_some_iff.mp g).1
    obtain ⟨gk, r⟩ := st i d s h g i0
    simp only [loopS, gk, if_true]
    cases q : body d s h with
    | next s1 h1 => rw [q] at r; exact loopS_run I P Q all st fin ds (i + 1) s1 _ e' r il'
    | cont s1 h1 => rw [q] at r; exact loopS_run I P Q all st fin ds (i + 1) s1 _ e' r il'
    | brk s1 h1 => rw [q] at r; exact r
    | ret d1 h1 => rw [q] at r; exact r
    | exc x s1 h1 => rw [q] at r; exact r.elim
    | stuck => rw [q] at r; exact r.elim
/-- a while loop: m falls -/
theorem loopW_run {test : Sg → Hh → R Bool} {body : Sg → Hh → RS} (I : Nat → SH) (P : SH) {B C : SH} (Q : D → Hh → Prop)
    (st : ∀ m s h, I m s h → ∃ b h0, test s h = .ok b h0 ∧ (b = false → P s h0) ∧ (b = true → Run (body s h0) (fun s1 h1 => ∃ m', m' < m ∧ I m' s1 (trimS h s1 h1)) P (fun s1 h1 => ∃ m', m' < m ∧ I m' s1 (trimS h s1 h1)) Q)) :
    ∀ (F m : Nat) (s : Sg) (h : Hh), m < F → I m s h → Run (loopW test body F s h) P B C Q
  | 0, m, s, h, l, _ => absurd l (by omega)
  | F + 1, m, s, h, l, i => by
    obtain ⟨b, h0, e, f, t⟩ := st m s h i
    simp only [loopW, e, R.then_ok]
    cases b with
    | false => exact f rfl
    | true =>
      have t := t rfl
      simp only [if_true]
      cases q : body s h0 with
      | next s1 h1 => rw [q] at t; obtain ⟨m', l', i'⟩ := t; exact loopW_run I P Q st F m' s1 _ (by omega) i'
      | cont s1 h1 => rw [q] at t; obtain ⟨m', l', i'⟩ := t; exact loopW_run I P Q st F m' s1 _ (by omega) i'
      | brk s1 h1 => rw [q] at t; exact t
      | ret d1 h1 => rw [q] at t; exact t
      | exc x s1 h1 => rw [q] at t; exact t.elim
      | stuck => rw [q] at t; exact t.elim

/-! ### objects behind a heap -/
theorem hg0 (h : Hh) (a : O) (t : Hh) : (h ++ a :: t)[h.length]? = some a := by simp
theorem hg1 (h : Hh) (a b : O) (t : Hh) : (h ++ a :: b :: t)[h.length + 1]? = some b := by simp
theorem hg2 (h : Hh) (a b c : O) (t : Hh) : (h ++ a :: b :: c :: t)[h.length + 2]? = some c := by simp
theorem hg3 (h : Hh) (a b c d : O) (t : Hh) : (h ++ a :: b :: c :: d :: t)[h.length + 3]? = some d := by simp
theorem hs0 (h : Hh) (a o : O) (t : Hh) : (h ++ a :: t).set h.length o = h ++ o :: t := by simp
theorem hs1 (h : Hh) (a b o : O) (t : Hh) : (h ++ a :: b :: t).set (h.length + 1) o = h ++ a :: o :: t := by simp
theorem hs2 (h : Hh) (a b c o : O) (t : Hh) : (h ++ a :: b :: c :: t).set (h.length + 2) o = h ++ a :: b :: o :: t := by simp
theorem hs3 (h : Hh) (a b c d o : O) (t : Hh) : (h ++ a :: b :: c :: d :: t).set (h.length + 3) o = h ++ a :: b :: c :: o :: t := by simp
theorem hl1 (h : Hh) (a : O) : (h ++ [a]).length = h.length + 1 := by simp
theorem hl2 (h : Hh) (a b : O) : (h ++ [a, b]).length = h.length + 2 := by simp
theorem hl3 (h : Hh) (a b c : O) : (h ++ [a, b, c]).length = h.length + 3 := by simp
theorem hl4 (h : Hh) (a b c d : O) : (h ++ [a, b, c, d]).length = h.length + 4 := by simp
theorem trimS_at {h : Hh} {s : Sg} {h' : Hh} (n : Nat) (l : h.length = n) (l' : h'.length = n) : trimS h s h' = h' := trimS_same (by rw [l, l'])
theorem trim_pb (h t : Hh) (x : P) : backR h (.ret (.p x) (h ++ t)) = .ok (.p x) h := trim_p h t x
theorem trim_p2 (h t : Hh) (a : Hh) (x : P) : trimR (h ++ a) (.ok (.p x) (h ++ (a ++ t))) = .ok (.p x) (h ++ a) := by
  rw [← List.append_assoc]
  exact trim_p _ _ _
theorem dctAt {h : Hh} {i : Nat} {kvs : Kvs} (e : h[i]? = some (.dct kvs)) : dctOf h (.r i) = some kvs := by simp [dctOf, e]
theorem dct_p (h : Hh) (x : P) : dctOf h (.p x) = none := rfl
theorem dct_t (h : Hh) (x : List D) : dctOf h (.t x) = none := rfl
/-- a dict's entry -/
theorem sub_dct {h : Hh} {i : Nat} {kvs : Kvs} {k : P} {d : D} (e : h[i]? = some (.dct kvs)) (f : kFit kvs k = true) (g : dGet kvs k = some d) : subS (.r i) (.p k) h = .ok d h := by
  unfold subS
  rw [dctAt e]
  simp only [f, if_true, g]
  rfl
theorem put_dct {h : Hh} {i : Nat} {kvs : Kvs} {k : P} (d : D) (e : h[i]? = some (.dct kvs)) (f : kFit kvs k = true) (l : kvs.length < sizeLine) : putS (.r i) (.p k) d h = .ok () (h.set i (.dct (dPut kvs k d))) := by
  simp only [putS, e]
  rw [if_pos ⟨f, l⟩]
theorem in_dct {h : Hh} {i : Nat} {kvs : Kvs} {k : P} (e : h[i]? = some (.dct kvs)) (f : kFit kvs k = true) : inO h (.p k) (.r i) = some (dGet kvs k).isSome := by
  unfold inO
  dsimp only
  rw [dctAt e]
  dsimp only
  rw [if_pos f]
theorem get2_dct {h : Hh} {i : Nat} {kvs : Kvs} {k : P} (z : D) (e : h[i]? = some (.dct kvs)) (f : kFit kvs k = true) : bmS .dGet (.r i) [.p k, z] h = .ok ((dGet kvs k).getD z) h := by
  simp only [bmS, dctAt e]
  rw [if_pos f]
theorem get1_dct {h : Hh} {i : Nat} {kvs : Kvs} {k : P} (e : h[i]? = some (.dct kvs)) (f : kFit kvs k = true) : bmS .dGet (.r i) [.p k] h = .ok ((dGet kvs k).getD (.p .non)) h := by
  simp only [bmS, dctAt e]
  rw [if_pos f]
theorem len_dct {h : Hh} {i : Nat} {kvs : Kvs} (e : h[i]? = some (.dct kvs)) : bltS .len [.r i] h = .ok (.p (.int kvs.length)) h := by
  simp only [bltS, lenOf, e]
  rfl
theorem meth_get {g : G} {m : Nat} {h : Hh} {i : Nat} {kvs : Kvs} (e : h[i]? = some (.dct kvs)) : methK g m .get (.r i) h = .bm .dGet := by
  simp only [methK, e]
  rfl
theorem meth_app {g : G} {m : Nat} {h : Hh} {i : Nat} {xs : List D} (e : h[i]? = some (.lst xs)) : methK g m .append (.r i) h = .bm .lAppend := by
  simp only [methK, e]
  rfl
theorem app_lst {h : Hh} {i : Nat} {xs : List D} (x : D) (e : h[i]? = some (.lst xs)) (l : xs.length < sizeLine) : bmS .lAppend (.r i) [x] h = .ok (.p .non) (h.set i (.lst (xs ++ [x]))) := by
  simp only [bmS, e]
  rw [if_pos l]
theorem kfit_leaf {kvs : Kvs} {k : P} (h : k.leaf = true) (l : lfs kvs = true) : kFit kvs k = true := by simp [kFit, h, l]
theorem kfit_tup {kvs : Kvs} {k : P} (h : k.tkey = true) (l : tks kvs = true) : kFit kvs k = true := by simp [kFit, h, l]

theorem cmp_in (a b : D) (h : Hh) : cmpS .isin a b h = R.of (inO h a b) h := rfl
theorem cmp_notin (a b : D) (h : Hh) : cmpS .notin a b h = R.of ((inO h a b).map (!·)) h := rfl
theorem cmp_eq (a b : D) (h : Hh) : cmpS .eq a b h = R.of (eqO h a b) h := rfl
theorem cmp_ne (a b : D) (h : Hh) : cmpS .ne a b h = R.of ((eqO h a b).map (!·)) h := rfl
/-! ### dicts -/
theorem dget_put (kvs : Kvs) (k k' : P) (d : D) : dGet (dPut kvs k d) k' = if k' = k then some d else dGet kvs k' := by
  unfold dPut
  by_cases q : kvs.any (fun kv => decide (kv.1 = k)) = true
  · rw [if_pos q]
    induction kvs with
    | nil => cases q
    | cons kv kvs ih =>
      by_cases e : kv.1 = k
      · by_cases e' : k' = k
        · subst e'; simp [dGet, e]
        · have ne : ¬ kv.1 = k' := fun z => e' (z ▸ e ▸ rfl)
          by_cases m : kvs.any (fun kv => decide (kv.1 = k)) = true
          · have := ih m
            rw [if_neg e'] at this ⊢
            simp only [dGet, List.map_cons, if_pos e, List.find?_cons, decide_eq_false ne]
            exact this
          · have same : kvs.map (fun kv => if kv.1 = k then (kv.1, d) else kv) = kvs := by
              rw [List.map_congr_left (g := id), List.map_id]
              intro x hx
              have : ¬ x.1 = k := fun z => m (List.any_eq_true.mpr ⟨x, hx, by simpa using z⟩)
              rw [if_neg this]
              rfl
            rw [if_neg e']
            simp only [dGet, List.map_cons, if_pos e, List.find?_cons, decide_eq_false ne, same]
      · have m : kvs.any (fun kv => decide (kv.1 = k)) = true := by
          rw [List.any_cons, decide_eq_false e, Bool.false_or] at q
          exact q
        have := ih m
        by_cases e2 : kv.1 = k'
        · have : ¬ k' = k := fun z => e (e2.trans z)
          rw [if_neg this]
          simp only [dGet, List.map_cons, if_neg e, List.find?_cons, decide_eq_true e2]
        · simp only [dGet, List.map_cons, if_neg e, List.find?_cons, decide_eq_false e2] at this ⊢
          exact this
  · rw [if_neg q]
    have no : ∀ x ∈ kvs, ¬ x.1 = k := fun x hx z => q (List.any_eq_true.mpr ⟨x, hx, by simpa using z⟩)
    unfold dGet
    rw [List.find?_append]
    by_cases e' : k' = k
    · subst e'
      have : kvs.find? (fun kv => decide (kv.1 = k')) = none := List.find?_eq_none.mpr fun x hx => by simpa using no x hx
      rw [this, if_pos rfl]
      simp
    · rw [if_neg e']
      have ne : ¬ k = k' := fun z => e' z.symm
      simp [ne]
/-- keys, each once, of S -/
def KeysIn (kvs : Kvs) (S : List P) : Prop := (kvs.map (·.1)).Nodup ∧ ∀ x ∈ kvs.map (·.1), x ∈ S
theorem dput_keys (kvs : Kvs) (k : P) (d : D) : (dPut kvs k d).map (·.1) = if k ∈ kvs.map (·.1) then kvs.map (·.1) else kvs.map (·.1) ++ [k] := by
  unfold dPut
  by_cases q : kvs.any (fun kv => decide (kv.1 = k)) = true
  · have m : k ∈ kvs.map (·.1) := by
      obtain ⟨x, hx, e⟩ := List.any_eq_true.mp q
      exact List.mem_map.mpr ⟨x, hx, by simpa using e⟩
    rw [if_pos q, if_pos m, List.map_map]
    refine List.map_congr_left fun x hx => ?_
    show (if x.1 = k then (x.1, d) else x).1 = x.1
    split <;> rfl
  · have m : ¬ k ∈ kvs.map (·.1) := fun z => by
      obtain ⟨x, hx, e⟩ := List.mem_map.mp z
      exact q (List.any_eq_true.mpr ⟨x, hx, by simpa using e⟩)
    rw [if_neg q, if_neg m, List.map_append]
    rfl
theorem KeysIn.put {kvs : Kvs} {S : List P} {k : P} (h : KeysIn kvs S) (hk : k ∈ S) (d : D) : KeysIn (dPut kvs k d) S := by
  unfold KeysIn
  rw [dput_keys]
  by_cases q : k ∈ kvs.map (·.1)
  · rw [if_pos q]; exact h
  · rw [if_neg q]
    refine ⟨?_, fun x hx => ?_⟩
    · rw [List.nodup_append]
      exact ⟨h.1, (by simp), fun a ha b hb => by
        rw [List.mem_singleton.mp hb]
        rintro rfl
        exact q ha⟩
    · rcases List.mem_append.mp hx with hx | hx
      · exact h.2 x hx
      · rw [List.mem_singleton.mp hx]; exact hk
theorem KeysIn.lfs {kvs : Kvs} {S : List P} (h : KeysIn kvs S) (l : ∀ x ∈ S, x.leaf = true) : lfs kvs = true := List.all_eq_true.mpr fun x hx => l _ (h.2 _ (List.mem_map.mpr ⟨x, hx, rfl⟩))
theorem KeysIn.tks {kvs : Kvs} {S : List P} (h : KeysIn kvs S) (l : ∀ x ∈ S, x.tkey = true) : tks kvs = true := List.all_eq_true.mpr fun x hx => l _ (h.2 _ (List.mem_map.mpr ⟨x, hx, rfl⟩))
theorem dget_in {kvs : Kvs} {k : P} {d : D} (h : dGet kvs k = some d) : k ∈ kvs.map (·.1) := by
  unfold dGet at h
  rw [Option.map_eq_some_iff] at h
  obtain ⟨x, hx, _⟩ := h
  have := List.find?_some hx
  exact List.mem_map.mpr ⟨x, List.mem_of_find?_eq_some hx, by simpa using this⟩
/-- a dict of numbers -/
def Wd (ns : List P) (W : P → Int) : Kvs := ns.map fun k => (k, .p (.int (W k)))
theorem wd_keys (ns : List P) (W : P → Int) : (Wd ns W).map (·.1) = ns := by
  unfold Wd
  rw [List.map_map]
  exact List.map_id ns
theorem wd_len (ns : List P) (W : P → Int) : (Wd ns W).length = ns.length := List.length_map _
theorem wd_get {ns : List P} (W : P → Int) {k : P} (h : k ∈ ns) : dGet (Wd ns W) k = some (.p (.int (W k))) := by
  induction ns with
  | nil => cases h
  | cons x ns ih =>
    by_cases e : x = k
    · subst e; simp [dGet, Wd]
    · have := ih (by rcases List.mem_cons.mp h with z | z; (exact absurd z.symm e); exact z)
      simp only [dGet, Wd, List.map_cons, List.find?_cons, decide_eq_false e] at this ⊢
      exact this
theorem wd_none {ns : List P} (W : P → Int) {k : P} (h : ¬ k ∈ ns) : dGet (Wd ns W) k = none := by
  cases e : dGet (Wd ns W) k with
  | none => rfl
  | some d =>
    have := dget_in e
    rw [wd_keys] at this
    exact absurd this h
theorem wd_put {ns : List P} (W : P → Int) {k : P} (x : Int) (h : k ∈ ns) : dPut (Wd ns W) k (.p (.int x)) = Wd ns (fun y => if y = k then x else W y) := by
  unfold dPut
  have q : (Wd ns W).any (fun kv => decide (kv.1 = k)) = true := List.any_eq_true.mpr ⟨(k, .p (.int (W k))), List.mem_map.mpr ⟨k, h, rfl⟩, by simp⟩
  rw [if_pos q]
  unfold Wd
  rw [List.map_map]
  refine List.map_congr_left fun y _ => ?_
  show (if y = k then (y, _) else (y, _)) = _
  by_cases e : y = k
  · rw [if_pos e]; simp [e]
  · rw [if_neg e]; simp [e]
theorem wd_new {ns : List P} (W : P → Int) {k : P} (x : Int) (h : ¬ k ∈ ns) : dPut (Wd ns W) k (.p (.int x)) = Wd (ns ++ [k]) (fun y => if y = k then x else W y) := by
  unfold dPut
  have q : ¬ (Wd ns W).any (fun kv => decide (kv.1 = k)) = true := fun z => by
    obtain ⟨y, hy, e⟩ := List.any_eq_true.mp z
    have : y.1 ∈ (Wd ns W).map (·.1) := List.mem_map.mpr ⟨y, hy, rfl⟩
    rw [wd_keys] at this
    have e : y.1 = k := by simpa using e
    exact h (e ▸ this)
  rw [if_neg q]
  unfold Wd
  rw [List.map_append]
  congr 1
  · refine List.map_congr_left fun y hy => ?_
    have : ¬ y = k := fun e => h (e ▸ hy)
    simp [this]
  · simp
theorem wd_lfs {ns : List P} (W : P → Int) (l : ∀ x ∈ ns, x.leaf = true) : lfs (Wd ns W) = true := by
  unfold lfs Wd
  rw [List.all_map]
  exact List.all_eq_true.mpr l
/-- one name more -/
def addk (ns : List P) (k : P) : List P := if k ∈ ns then ns else ns ++ [k]
theorem wd_put0 (ns : List P) (k : P) : dPut (Wd ns fun _ => 0) k (.p (.int 0)) = Wd (addk ns k) fun _ => 0 := by
  unfold addk
  by_cases q : k ∈ ns
  · rw [if_pos q, wd_put _ _ q]
    simp
  · rw [if_neg q, wd_new _ _ q]
    simp
theorem addk_mem {ns : List P} {k x : P} : x ∈ addk ns k ↔ x ∈ ns ∨ x = k := by
  unfold addk
  split
  · rename_i h
    constructor
    · exact .inl
    · rintro (h2 | rfl)
      · exact h2
      · exact h
  · simp
theorem addk_nodup {ns : List P} {k : P} (h : ns.Nodup) : (addk ns k).Nodup := by
  unfold addk
  split
  · exact h
  · rename_i q
    rw [List.nodup_append]
    exact ⟨h, (by simp), fun a ha b hb => by
      rw [List.mem_singleton.mp hb]
      rintro rfl
      exact q ha⟩
theorem addk_len {ns : List P} {k : P} : (addk ns k).length ≤ ns.length + 1 := by
  unfold addk
  split
  · omega
  · simp
/-! ### what is walked -/
theorem numsAt (a : Int) : ∀ (n i : Nat), (nums a n)[i]? = if i < n then some (.p (.int (a + i))) else none
  | 0, i => by simp [nums]
  | n + 1, 0 => by simp [nums]
  | n + 1, i + 1 => by
    rw [nums, List.getElem?_cons_succ, numsAt (a + 1) n i]
    by_cases q : i < n
    · rw [if_pos q, if_pos (by omega)]
      congr 3
      omega
    · rw [if_neg q, if_neg (by omega)]
theorem numsLen (a : Int) : ∀ n : Nat, (nums a n).length = n
  | 0 => rfl
  | n + 1 => by rw [nums, List.length_cons, numsLen (a + 1) n]
theorem zipsAt (ds : List D) (a : Int) : ∀ i : Nat, (zips (nums a ds.length) ds)[i]? = ds[i]?.map fun d => .t [.p (.int (a + i)), d] := by
  induction ds generalizing a with
  | nil => intro i; simp [nums, zips]
  | cons d ds ih =>
    intro i
    cases i with
    | zero => simp [nums, zips]
    | succ i =>
      rw [List.length_cons, nums, zips, List.getElem?_cons_succ, List.getElem?_cons_succ, ih]
      congr 1
      funext d
      congr 4
      omega
theorem zipsLen (ds : List D) (a : Int) : (zips (nums a ds.length) ds).length = ds.length := by
  induction ds generalizing a with
  | nil => rfl
  | cons d ds ih => rw [List.length_cons, nums, zips, List.length_cons, ih]
theorem mem_up {α : Type} {l : List α} {i : Nat} {x : α} (h : l[i]? = some x) : i < l.length ∧ x ∈ l := ⟨(List.getElem?_eq_some_iff.mp h).1, List.mem_of_getElem? h⟩
end Pv

/-! U: drawing with a bag on any heap. -/
namespace Pv
open PySem L2

theorem trim_len {h h' : Hh} (x : P) (l : h'.length = h.length) : trimR h (.ok (.p x) h') = .ok (.p x) h' := by
  unfold trimR
  dsimp only
  split
  · rw [if_pos (show D.under h.length (.p x) = true from rfl), ← l, List.take_length]
  · rfl
theorem backP {h h' : Hh} (x : P) (l : h'.length = h.length) : backR h (.ret (.p x) h') = .ok (.p x) h' := trim_len x l
theorem Next.get {h h' : Hh} {b l j : Nat} (n : Next h h' b l) (ne : j ≠ b) : h'[j]? = h[j]? := by
  obtain ⟨_, x0, x1, x2, rfl⟩ := n
  exact List.getElem?_set_ne (Ne.symm ne)
theorem Next.bag {h h' : Hh} {b l : Nat} (n : Next h h' b l) : Bag h' b l := n.1
theorem trimS_get {h : Hh} {s : Sg} {h' : Hh} {j : Nat} (l : j < h.length) : (trimS h s h')[j]? = h'[j]? := by
  unfold trimS
  split
  · rw [List.getElem?_take_of_lt l]
  · rfl
theorem Bag.trimS {h h' : Hh} {s : Sg} {b l : Nat} (B : Bag h' b l) (lb : b < h.length) (ll : l < h.length) : Bag (trimS h s h') b l := by
  obtain ⟨ne, ⟨cs, e, r⟩, x0, x1, x2, e2, r2⟩ := B
  exact ⟨ne, ⟨cs, by rw [trimS_get ll]; exact e, r⟩, x0, x1, x2, by rw [trimS_get lb]; exact e2, r2⟩
theorem get_lt {h : Hh} {j : Nat} {o : O} (e : h[j]? = some o) : j < h.length := (List.getElem?_eq_some_iff.mp e).1
theorem Bag.set {h : Hh} {b l j : Nat} (B : Bag h b l) (o : O) (nb : j ≠ b) (nl : j ≠ l) : Bag (h.set j o) b l := by
  obtain ⟨ne, ⟨cs, e, r⟩, x0, x1, x2, e2, r2⟩ := B
  exact ⟨ne, ⟨cs, by rw [List.getElem?_set_ne nl]; exact e, r⟩, x0, x1, x2, by rw [List.getElem?_set_ne nb]; exact e2, r2⟩
/-- a new object and the bag moved on: the object moves down -/
theorem trim_down {h h1 : Hh} {b l : Nat} (B : Bag h b l) (n : Next h h1 b l) (x o : O) (u : o.under h.length = true) : trimR h (.ok (.r (h.length + 1)) (h1 ++ [x, o])) = .ok (.r h.length) (h1 ++ [o]) := by
  have ln := n.length
  obtain ⟨_, y0, y1, y2, rfl⟩ := n
  have a := agree_set [x, o] (n := h.length) (o := bagO y0 y1 y2 l) (by simp [bagO, O.under, D.unders, D.under, B.lt.2]) h b
  have d : D.under h.length (.r (h.length + 1)) = false := by simp [D.under]
  have g : (h.set b (bagO y0 y1 y2 l) ++ [x, o])[h.length + 1]? = some o := by
    have := hg1 (h.set b (bagO y0 y1 y2 l)) x o []
    rwa [ln] at this
  simp only [trimR, a, d, if_true, g]
  rw [if_neg (by simp), if_pos (by simp [u])]
  have : (h.set b (bagO y0 y1 y2 l) ++ [x, o]).take h.length = h.set b (bagO y0 y1 y2 l) := by rw [← ln, List.take_left' rfl]
  rw [this]
theorem take_more {p : Prg} {F k t : Nat} (ht : p.fns[t]? = some takeF) {h : Hh} {b l : Nat} (B : Bag h b l) (tl : Hh) {many : Int} (hm : 0 < many) (hm2 : many < 1329227995784915872903807060280344576) :
    ∃ (v : Nat) (h1 : Hh), (v : Int) < many ∧ Next h h1 b l ∧ callN p F (k + 2) t [.r b, .p (.int many)] (h ++ tl) = .ok (.p (.int v)) (h1 ++ tl) := by
  obtain ⟨v, h', v0, v1, nx, e⟩ := take_next (F := F) (k := k) ht (B.app tl) hm hm2
  obtain ⟨h1, rfl, n1⟩ := Next.unapp B nx
  exact ⟨v.toNat, h1, by omega, n1, by rw [Int.toNat_of_nonneg v0]; exact e⟩
theorem take0 {p : Prg} {F k t : Nat} (ht : p.fns[t]? = some takeF) {h : Hh} {b l : Nat} (B : Bag h b l) {many : Int} (hm : 0 < many) (hm2 : many < 1329227995784915872903807060280344576) :
    ∃ (v : Nat) (h1 : Hh), (v : Int) < many ∧ Next h h1 b l ∧ callN p F (k + 2) t [.r b, .p (.int many)] h = .ok (.p (.int v)) h1 := by
  obtain ⟨v, h1, v1, nx, e⟩ := take_more (F := F) (k := k) ht B [] hm hm2
  rw [List.append_nil, List.append_nil] at e
  exact ⟨v, h1, v1, nx, e⟩
/-- one of a list just made -/
theorem some_new {p : Prg} {F k t t' : Nat} (ht : p.fns[t]? = some takeF) (hs : p.fns[t']? = some (someF t)) {h : Hh} {b l : Nat} {items : List P} (B : Bag h b l) (tl : Hh) (h0 : items ≠ []) (h1 : items.length < 1000) :
    ∃ x h1, x ∈ items ∧ Next h h1 b l ∧ callN p F (k + 3) t' [.r b, .r (h.length + tl.length)] (h ++ (tl ++ [.lst (items.map .p)])) = .ok (.p x) (h1 ++ (tl ++ [.lst (items.map .p)])) := by
  have hg : (h ++ (tl ++ [O.lst (items.map .p)]))[h.length + tl.length]? = some (.lst (items.map .p)) := by
    rw [← List.append_assoc, ← List.length_append]
    simp
  obtain ⟨x, h', hx, nx, e⟩ := some_ok (F := F) (k := k) ht hs (B.app (tl ++ [O.lst (items.map .p)])) (by have := B.lt.1; omega) hg h0 h1
  obtain ⟨h1, rfl, n1⟩ := Next.unapp B nx
  exact ⟨x, h1, hx, n1, e⟩
/-- lists of truths told alike -/
theorem alike_bls {p : Prg} {F k t : Nat} (ht : p.fns[t]? = some alikeF) {h : Hh} {i j : Nat} {a b c : Bool} (hi : h[i]? = some (.lst [.p (.bl a), .p (.bl b), .p (.bl c)])) (hj : h[j]? = some (.lst [.p (.bl a), .p (.bl b), .p (.bl c)])) : callN p F (k + 2) t [.r i, .r j] h = .ok (.p (.bl true)) h := by
  have se : ∀ j : Nat, h[j]? = some (.lst [.p (.bl a), .p (.bl b), .p (.bl c)]) → see 64 h (.r j) = some (.list [.bool a, .bool b, .bool c]) := fun j e => by
    rw [see, e]
    rfl
  have wd : PyData.wide (.list [.bool a, .bool b, .bool c]) = true := by
    unfold PyData.wide
    rw [sizeLine_v]
    cases a <;> cases b <;> cases c <;> decide +kernel
  have rp : ∀ j : Nat, h[j]? = some (.lst [.p (.bl a), .p (.bl b), .p (.bl c)]) → bltS .repr [.r j] h = .ok (.p (.str (PyData.shown (.list [.bool a, .bool b, .bool c])))) h := fun j e => by
    simp only [bltS, se j e, wd, if_true]
  have sh : SeqAt.shaped (.list [.bool a, .bool b, .bool c]) = true := by cases a <;> cases b <;> cases c <;> decide +kernel
  have eq : eqO h (.r i) (.r j) = some true := by
    simp only [eqO, se i hi, se j hj]
    rw [if_pos ⟨sh, sh⟩]
    cases a <;> cases b <;> cases c <;> rfl
  rw [call_eq ht rfl]
  simp only [alikeF, startD, evSs, evS.eq_1, evS.eq_2, evS.eq_3, evS.eq_4, evS.eq_5, evS.eq_6, evS.eq_7, evS.eq_10, evS.eq_11, evS.eq_12, evS.eq_13, evS.eq_14, evE.eq_1, evE.eq_2, evE.eq_3, evE.eq_4, evE.eq_5, evE.eq_6, evE.eq_7, evE.eq_8, evE.eq_9, evE.eq_10, evE.eq_11, evE.eq_12, evE.eq_13, evE.eq_14, evE.eq_15, evE.eq_16, evE.eq_17, evE.eq_18, evE.eq_19, evE.eq_21, evE.eq_22, evE.eq_23, evE.eq_24, evE.eq_25, evE.eq_26,  evEs, evO, evTs, evI, asgT, asgTs, slot, startD, R.of_some, R.of_none, R.bind_ok, R.bind_stuck, R.then_ok, RS.seq_next, RS.seq_ret, RS.seq_brk, RS.seq_cont, List.getElem?_cons_zero, List.getElem?_cons_succ, List.set_cons_zero, List.set_cons_succ, List.set_set, add_ii, sub_ii, mul_ii, mod_ii, fdiv_ii, pow_lit, blt_int, blt_max, blt_min, blt_abs, aug_ii, tr_bl, lt_ii, le_ii, gt_ii, ge_ii, eq_ii, ne_ii, trim_p0, if_true, Bool.not_true, Bool.not_false, Bool.false_eq_true, if_false, R.tr_ok_bl, gOf_call, mkT_p2, len_t, sz1, sz2, sz3, sz4, sz6, D.items, hg0, hg1, hg2, hg3, hs0, hs1, hs2, hs3, hl1, hl2, hl3, hl4, List.append_assoc, List.cons_append, List.nil_append, List.append_nil, mk, pairUp, List.map_cons, List.map_nil, List.length_cons, List.length_nil, List.replicate, Nat.zero_le, rp i hi, rp j hj, cmp_eq, eqO_str, truth_bl, eq]
  exact trim_p0 h _
/-- the heap has grown, the bag has moved on -/
def Grow (h h' : Hh) (b l : Nat) : Prop := ∃ hb t, h' = hb ++ t ∧ Next h hb b l
theorem Grow.refl {h : Hh} {b l : Nat} (B : Bag h b l) : Grow h h b l := ⟨h, [], by simp, Next.refl B⟩
theorem Grow.next {h h1 h2 : Hh} {b l : Nat} (g : Grow h h1 b l) (n : Next h1 h2 b l) : Grow h h2 b l := by
  obtain ⟨hb, t, rfl, n1⟩ := g
  obtain ⟨hb2, rfl, n2⟩ := Next.unapp n1.bag n
  exact ⟨hb2, t, rfl, n1.trans n2⟩
theorem Grow.app {h h1 : Hh} {b l : Nat} (g : Grow h h1 b l) (u : Hh) : Grow h (h1 ++ u) b l := by
  obtain ⟨hb, t, rfl, n1⟩ := g
  exact ⟨hb, t ++ u, by rw [List.append_assoc], n1⟩
theorem Grow.set {h h1 : Hh} {b l e : Nat} (g : Grow h h1 b l) (o : O) (he : h.length ≤ e) : Grow h (h1.set e o) b l := by
  obtain ⟨hb, t, rfl, n1⟩ := g
  exact ⟨hb, t.set (e - hb.length) o, List.set_append_right _ _ (by rw [n1.length]; exact he), n1⟩
theorem Grow.bag {h h1 : Hh} {b l : Nat} (g : Grow h h1 b l) : Bag h1 b l := by
  obtain ⟨hb, t, rfl, n1⟩ := g
  exact n1.bag.app t
theorem Grow.len {h h1 : Hh} {b l : Nat} (g : Grow h h1 b l) : h.length ≤ h1.length := by
  obtain ⟨hb, t, rfl, n1⟩ := g
  rw [List.length_append, n1.length]
  omega
theorem Grow.trimS {h h1 h2 : Hh} {b l : Nat} {s : Sg} (g1 : Grow h h1 b l) (g2 : Grow h h2 b l) (le : h1.length ≤ h2.length) : Grow h (trimS h1 s h2) b l := by
  unfold Pv.trimS
  split
  · obtain ⟨hb, t, rfl, n1⟩ := g2
    have := g1.len
    refine ⟨hb, t.take (h1.length - hb.length), ?_, n1⟩
    rw [List.take_append]
    rw [List.take_of_length_le (by rw [n1.length]; exact this)]
  · exact g2
theorem Grow.trim {h h1 : Hh} {b l : Nat} (B : Bag h b l) (g : Grow h h1 b l) (x : P) : ∃ h2, Next h h2 b l ∧ trimR h (.ok (.p x) h1) = .ok (.p x) h2 := by
  obtain ⟨hb, t, rfl, n1⟩ := g
  exact ⟨hb, n1, n1.trim B t x⟩
/-- a number drawn, what is not held goes -/
theorem some_trim {p : Prg} {F k t t' : Nat} (ht : p.fns[t]? = some takeF) (hs : p.fns[t']? = some (someF t)) {h : Hh} {b l : Nat} {items : List P} (B : Bag h b l) (h0 : items ≠ []) (h1 : items.length < 1000) :
    ∃ x h1 h2, x ∈ items ∧ Next h h1 b l ∧ callN p F (k + 3) t' [.r b, .r h.length] (h ++ [.lst (items.map .p)]) = .ok (.p x) h2 ∧ trimR h (.ok (.p x) h2) = .ok (.p x) h1 := by
  obtain ⟨x, h1, hx, n, e⟩ := some_new (F := F) (k := k) ht hs B [] h0 h1
  rw [List.nil_append, List.length_nil, Nat.add_zero] at e
  exact ⟨x, h1, _, hx, n, e, n.trim B _ x⟩
end Pv

/-! V: lists told alike. -/
namespace Pv
open PySem L2

theorem see_ps (h : Hh) (j : Nat) (xs : List P) (e : h[j]? = some (.lst (xs.map .p))) : see 64 h (.r j) = some (.list (xs.map P.py)) := by
  have m : ∀ xs : List P, (xs.map D.p).mapM (see 63 h) = some (xs.map P.py) := fun xs => by
    induction xs with
    | nil => rfl
    | cons x xs ih =>
      rw [List.map_cons, List.mapM_cons]
      have : see 63 h (.p x) = some x.py := rfl
      rw [this, Option.bind_eq_bind, Option.bind_some, ih]
      rfl
  rw [see, e]
  dsimp only
  rw [m]
  rfl
theorem fits_lay : ∀ xs : List P, P.fits xs = true → PyData.canLayAll0 (P.pys xs) = true := by
  have one : ∀ x : P, x.fit = true → x.py.canLay0 = true := fun x => by
    refine P.rec (motive_1 := fun x => x.fit = true → x.py.canLay0 = true) (motive_2 := fun xs => P.fits xs = true → PyData.canLayAll0 (P.pys xs) = true) ?_ ?_ ?_ ?_ ?_ ?_ ?_ x
    · exact fun _ => rfl
    · exact fun _ _ => rfl
    · exact fun _ _ => rfl
    · exact fun s h => h
    · exact fun xs ih h => ih h
    · exact fun _ => rfl
    · intro x xs h1 h2 h
      simp only [P.fits, Bool.and_eq_true] at h
      simp only [P.pys, PyData.canLayAll0, h1 h.1, h2 h.2, Bool.and_self]
  intro xs
  induction xs with
  | nil => exact fun _ => rfl
  | cons x xs ih =>
    intro h
    simp only [P.fits, Bool.and_eq_true] at h
    simp only [P.pys, PyData.canLayAll0, one x h.1, ih h.2, Bool.and_self]
theorem text_from : ∀ (ts : List Str) (k : Nat) (acc : Str), (PySem.textFrom k acc ts).length ≤ acc.length + (ts.map fun t => t.length + 2).sum
  | [], k, acc => Nat.le_add_right _ _
  | t :: ts, k, acc => by
    have h := text_from ts (k + 1) (acc ++ (if k > 0 then ", " else "" : String) ++ t)
    rw [Str.length_append, Str.length_append] at h
    have e : (Str.ofString (if k > 0 then ", " else "")).length ≤ 2 := by split <;> decide
    rw [List.map_cons, List.sum_cons]
    refine Nat.le_trans h ?_
    omega
/-- two lists with the same things -/
theorem alike_ps {p : Prg} {F k t : Nat} (ht : p.fns[t]? = some alikeF) {h : Hh} {i j : Nat} {xs : List P} (f : Fine (.tup xs)) (hi : h[i]? = some (.lst (xs.map .p))) (hj : h[j]? = some (.lst (xs.map .p))) : callN p F (k + 2) t [.r i, .r j] h = .ok (.p (.bl true)) h := by
  obtain ⟨f1, f2, f3⟩ := f
  have f1' : P.numss xs = true := f1
  obtain ⟨s1, s2⟩ := shown_ws xs f1'
  have fit := numss_fit xs f1'
  have dp : P.depths xs ≤ 59 := by simp only [P.depth] at f2; omega
  have wd : PyData.wide (.list (xs.map P.py)) = true := by
    rw [← P.pys_eq]
    unfold PyData.wide
    have e1 : PyData.showable (.list (P.pys xs)) = true := s2
    have e2 : (PyData.shown (.list (P.pys xs))).length ≤ sizeLine := by
      show (PySem.listText (PyData.shownAll (P.pys xs))).length ≤ sizeLine
      unfold PySem.listText
      rw [Str.length_append]
      have l1 := text_from (PyData.shownAll (P.pys xs)) 0 "["
      have e0 : ("[" : Str).length = 1 := by decide
      have e1 : ("]" : Str).length = 1 := by decide
      have w3 : P.ws xs + 3 ≤ sizeLine := f3
      omega
    have e3 : (PyData.list (P.pys xs)).depth ≤ 64 := by
      simp only [PyData.depth, pys_depth]
      omega
    rw [e1, decide_eq_true e2, decide_eq_true e3]
    rfl
  have rp : ∀ j : Nat, h[j]? = some (.lst (xs.map .p)) → bltS .repr [.r j] h = .ok (.p (.str (PyData.shown (.list (xs.map P.py))))) h := fun j e => by
    simp only [bltS, see_ps h j xs e, wd, if_true]
  have sh : SeqAt.shaped (.list (xs.map P.py)) = true := by
    rw [← P.pys_eq]
    unfold SeqAt.shaped
    rw [PyData.canLay0, fits_lay xs fit, PyData.depth, pys_depth, decide_eq_true (by omega)]
    rfl
  have eq : eqO h (.r i) (.r j) = some true := by
    simp only [eqO, see_ps h i xs hi, see_ps h j xs hj]
    rw [if_pos ⟨sh, sh⟩, ← P.pys_eq, PyData.eqv, P.eqvs_py, eqvs_self]
  rw [call_eq ht rfl]
  simp only [alikeF, startD, evSs, evS.eq_1, evS.eq_2, evS.eq_3, evS.eq_4, evS.eq_5, evS.eq_6, evS.eq_7, evS.eq_10, evS.eq_11, evS.eq_12, evS.eq_13, evS.eq_14, evE.eq_1, evE.eq_2, evE.eq_3, evE.eq_4, evE.eq_5, evE.eq_6, evE.eq_7, evE.eq_8, evE.eq_9, evE.eq_10, evE.eq_11, evE.eq_12, evE.eq_13, evE.eq_14, evE.eq_15, evE.eq_16, evE.eq_17, evE.eq_18, evE.eq_19, evE.eq_21, evE.eq_22, evE.eq_23, evE.eq_24, evE.eq_25, evE.eq_26,  evEs, evO, evTs, evI, asgT, asgTs, slot, startD, R.of_some, R.of_none, R.bind_ok, R.bind_stuck, R.then_ok, RS.seq_next, RS.seq_ret, RS.seq_brk, RS.seq_cont, List.getElem?_cons_zero, List.getElem?_cons_succ, List.set_cons_zero, List.set_cons_succ, List.set_set, add_ii, sub_ii, mul_ii, mod_ii, fdiv_ii, pow_lit, blt_int, blt_max, blt_min, blt_abs, aug_ii, tr_bl, lt_ii, le_ii, gt_ii, ge_ii, eq_ii, ne_ii, trim_p0, if_true, Bool.not_true, Bool.not_false, Bool.false_eq_true, if_false, R.tr_ok_bl, gOf_call, mkT_p2, len_t, sz1, sz2, sz3, sz4, sz6, D.items, hg0, hg1, hg2, hg3, hs0, hs1, hs2, hs3, hl1, hl2, hl3, hl4, List.append_assoc, List.cons_append, List.nil_append, List.append_nil, mk, pairUp, List.map_cons, List.map_nil, List.length_cons, List.length_nil, List.replicate, Nat.zero_le, rp i hi, rp j hj, cmp_eq, eqO_str, truth_bl, eq]
  exact trim_p0 h _
end Pv

/-! Nets of differences: ways, rings, shortest ways. No program here. -/
namespace Net
variable {α : Type} [DecidableEq α]
/-- u - v <= c -/
abbrev Lit (α : Type) := α × α × Int

/-! ### few things -/
theorem pig : ∀ {l S : List α}, l.Nodup → (∀ x ∈ l, x ∈ S) → l.length ≤ S.length
  | [], S, _, _ => Nat.zero_le _
  | x :: l, S, nd, sub => by
    have hx := sub x List.mem_cons_self
    have n := List.nodup_cons.mp nd
    have := pig (l := l) (S := S.erase x) n.2 fun y hy => (List.mem_erase_of_ne (fun e => n.1 (by rw [← e]; exact hy))).mpr (sub y (List.mem_cons_of_mem _ hy))
    rw [List.length_erase_of_mem hx] at this
    have := List.length_pos_of_mem hx
    rw [List.length_cons]
    omega
theorem twice : ∀ {l : List α}, ¬ l.Nodup → ∃ p x q r, l = p ++ x :: (q ++ x :: r)
  | [], h => absurd List.nodup_nil h
  | y :: l, h => by
    by_cases m : y ∈ l
    · obtain ⟨q, r, rfl⟩ := List.append_of_mem m
      exact ⟨[], y, q, r, rfl⟩
    · have : ¬ l.Nodup := fun n => h (List.nodup_cons.mpr ⟨m, n⟩)
      obtain ⟨p, x, q, r, rfl⟩ := twice this
      exact ⟨y :: p, x, q, r, rfl⟩

/-! ### ways -/
def Chain (E : List (Lit α)) : α → List (Lit α) → α → Prop
  | a, [], b => a = b
  | a, e :: l, b => e ∈ E ∧ e.1 = a ∧ Chain E e.2.1 l b
def wt : List (Lit α) → Int
  | [] => 0
  | e :: l => e.2.2 + wt l
variable {E : List (Lit α)}
theorem wt_app : ∀ l m : List (Lit α), wt (l ++ m) = wt l + wt m
  | [], m => by simp [wt]
  | e :: l, m => by rw [List.cons_append, wt, wt, wt_app l m]; omega
theorem Chain.app : ∀ {l : List (Lit α)} {a b : α} {m : List (Lit α)} {c : α}, Chain E a l b → Chain E b m c → Chain E a (l ++ m) c
  | [], a, b, m, c, h, k => by cases h; exact k
  | e :: l, a, b, m, c, h, k => ⟨h.1, h.2.1, Chain.app h.2.2 k⟩
theorem Chain.cut : ∀ {l : List (Lit α)} {a : α} {m : List (Lit α)} {c : α}, Chain E a (l ++ m) c → ∃ b, Chain E a l b ∧ Chain E b m c
  | [], a, m, c, h => ⟨a, rfl, h⟩
  | e :: l, a, m, c, h => by
    obtain ⟨b, h1, h2⟩ := Chain.cut h.2.2
    exact ⟨b, ⟨h.1, h.2.1, h1⟩, h2⟩
theorem Chain.mono {F : List (Lit α)} (s : ∀ e ∈ E, e ∈ F) : ∀ {l : List (Lit α)} {a b : α}, Chain E a l b → Chain F a l b
  | [], a, b, h => h
  | e :: l, a, b, h => ⟨s e h.1, h.2.1, Chain.mono s h.2.2⟩
theorem Chain.sub : ∀ {l : List (Lit α)} {a b : α}, Chain E a l b → ∀ e ∈ l, e ∈ E
  | [], _, _, _, e, he => by cases he
  | x :: l, _, _, h, e, he => by
    rcases List.mem_cons.mp he with rfl | he
    · exact h.1
    · exact Chain.sub h.2.2 e he
/-- a way round below 0 -/
def Bad (E : List (Lit α)) : Prop := ∃ a l, Chain E a l a ∧ wt l < 0
theorem feas_way {x : α → Int} (hx : ∀ e ∈ E, x e.1 ≤ x e.2.1 + e.2.2) : ∀ {l : List (Lit α)} {a b : α}, Chain E a l b → x a ≤ x b + wt l
  | [], a, b, h => by cases h; rw [wt]; omega
  | e :: l, a, b, h => by
    have := feas_way hx h.2.2
    have h1 := hx e h.1
    rw [h.2.1] at h1
    rw [wt]
    omega
theorem feas_good {x : α → Int} (hx : ∀ e ∈ E, x e.1 ≤ x e.2.1 + e.2.2) : ¬ Bad E := fun ⟨a, l, h, w⟩ => by
  have := feas_way hx h
  omega
/-- no literal twice -/
theorem short (good : ¬ Bad E) : ∀ (n : Nat) (l : List (Lit α)), l.length ≤ n → ∀ {a b : α}, Chain E a l b → ∃ l', Chain E a l' b ∧ wt l' ≤ wt l ∧ l'.length ≤ E.length
  | 0, l, hl, a, b, h => by
    have : l = [] := List.length_eq_zero_iff.mp (by omega)
    subst this
    exact ⟨[], h, Int.le_refl _, Nat.zero_le _⟩
  | n + 1, l, hl, a, b, h => by
    by_cases nd : l.Nodup
    · exact ⟨l, h, Int.le_refl _, pig nd (Chain.sub h)⟩
    · obtain ⟨p, e, q, r, rfl⟩ := twice nd
      obtain ⟨c, h1, h2⟩ := Chain.cut h
      have h3 : Chain E c ((e :: q) ++ (e :: r)) b := h2
      obtain ⟨d, h4, h5⟩ := Chain.cut h3
      have ed : d = c := by rw [← h5.2.1, ← h4.2.1]
      subst ed
      have w : 0 ≤ wt (e :: q) := by
        by_cases z : 0 ≤ wt (e :: q)
        · exact z
        · exact absurd ⟨d, e :: q, h4, by omega⟩ good
      obtain ⟨l', g1, g2, g3⟩ := short good n (p ++ e :: r) (by simp only [List.length_append, List.length_cons] at hl ⊢; omega) (Chain.app h1 h5)
      refine ⟨l', g1, ?_, g3⟩
      have e1 : wt (p ++ e :: (q ++ e :: r)) = wt p + (wt (e :: q) + wt (e :: r)) := by
        rw [show p ++ e :: (q ++ e :: r) = p ++ ((e :: q) ++ (e :: r)) from rfl, wt_app, wt_app]
      rw [wt_app] at g2
      omega

/-! ### one literal more -/
theorem more_way {v u : α} {c : Int} (far : ∀ l, Chain E u l v → c < wt l) : ∀ {l : List (Lit α)} {a b : α}, Chain ((v, u, -c - 1) :: E) a l b →
    (∃ l', Chain E a l' b ∧ wt l' ≤ wt l) ∨ ∃ l1 l2, Chain E a l1 v ∧ Chain E u l2 b ∧ wt l1 + (-c - 1) + wt l2 ≤ wt l
  | [], a, b, h => .inl ⟨[], h, Int.le_refl _⟩
  | e :: l, a, b, h => by
    obtain ⟨h1, h2, h3⟩ := h
    rcases List.mem_cons.mp h1 with rfl | h1
    · cases h2
      rcases more_way far h3 with ⟨l', g1, g2⟩ | ⟨l1, l2, g1, g2, g3⟩
      · exact .inr ⟨[], l', rfl, g1, by simp only [wt]; omega⟩
      · have := far l1 g1
        exact .inr ⟨[], l2, rfl, g2, by simp only [wt]; omega⟩
    · rcases more_way far h3 with ⟨l', g1, g2⟩ | ⟨l1, l2, g1, g2, g3⟩
      · exact .inl ⟨e :: l', ⟨h1, h2, g1⟩, by simp only [wt]; omega⟩
      · exact .inr ⟨e :: l1, l2, ⟨h1, h2, g1⟩, g2, by simp only [wt]; omega⟩
/-- the opposite of u - v <= c makes a ring just if the literals make it so -/
theorem entails_iff (good : ¬ Bad E) (u v : α) (c : Int) : Bad ((v, u, -c - 1) :: E) ↔ ∃ l, Chain E u l v ∧ wt l ≤ c := by
  constructor
  · rintro ⟨a, l, h, w⟩
    by_cases q : ∃ l, Chain E u l v ∧ wt l ≤ c
    · exact q
    · have far : ∀ l, Chain E u l v → c < wt l := fun l h => by
        by_cases z : wt l ≤ c
        · exact absurd ⟨l, h, z⟩ q
        · omega
      rcases more_way far h with ⟨l', g1, g2⟩ | ⟨l1, l2, g1, g2, g3⟩
      · exact absurd ⟨a, l', g1, by omega⟩ good
      · have := far _ (Chain.app g2 g1)
        rw [wt_app] at this
        omega
  · rintro ⟨l, h, w⟩
    refine ⟨v, (v, u, -c - 1) :: l, ⟨List.mem_cons_self, rfl, Chain.mono (fun e he => List.mem_cons_of_mem _ he) h⟩, ?_⟩
    simp only [wt]
    omega
theorem bad_more {F : List (Lit α)} (s : ∀ e ∈ E, e ∈ F) : Bad E → Bad F := fun ⟨a, l, h, w⟩ => ⟨a, l, Chain.mono s h, w⟩

/-! ### all ways between all nodes -/
inductive Path (E : List (Lit α)) (M : α → Prop) : α → α → Int → Prop
  | nil (a : α) : Path E M a a 0
  | one {e : Lit α} : e ∈ E → Path E M e.1 e.2.1 e.2.2
  | cons {e : Lit α} {b : α} {w : Int} : e ∈ E → M e.2.1 → Path E M e.2.1 b w → Path E M e.1 b (e.2.2 + w)
theorem path_of {M : α → Prop} (hM : ∀ e ∈ E, M e.2.1) : ∀ {l : List (Lit α)} {a b : α}, Chain E a l b → Path E M a b (wt l)
  | [], a, b, h => by cases h; exact .nil a
  | e :: l, a, b, h => by
    have := Path.cons h.1 (hM e h.1) (path_of hM h.2.2)
    rw [h.2.1] at this
    exact this
theorem path_split {M M' : α → Prop} {m : α} (hm : ∀ x, M' x → M x ∨ x = m) (pos : ∀ w, Path E M m m w → 0 ≤ w) {a b : α} {w : Int} (h : Path E M' a b w) :
    Path E M a b w ∨ ∃ w1 w2, Path E M a m w1 ∧ Path E M m b w2 ∧ w1 + w2 ≤ w := by
  induction h with
  | nil a => exact .inl (.nil a)
  | one he => exact .inl (.one he)
  | @cons e b w he hx _ ih =>
    rcases hm _ hx with q | q
    · rcases ih with g | ⟨w1, w2, g1, g2, g3⟩
      · exact .inl (.cons he q g)
      · exact .inr ⟨_, w2, .cons he q g1, g2, by omega⟩
    · subst q
      rcases ih with g | ⟨w1, w2, g1, g2, g3⟩
      · exact .inr ⟨_, w, .one he, g, Int.le_refl _⟩
      · have := pos _ g1
        exact .inr ⟨_, w2, .one he, g2, by omega⟩
/-- a table of bounds -/
abbrev Tb (α : Type) := α → α → Option Int
def Sound (E : List (Lit α)) (B : Tb α) : Prop := ∀ u v w, B u v = some w → ∃ l, Chain E u l v ∧ wt l = w
/-- B' is at most B -/
def Le (B' B : Tb α) : Prop := ∀ u v w, B u v = some w → ∃ w', B' u v = some w' ∧ w' ≤ w
theorem Le.refl (B : Tb α) : Le B B := fun _ _ w h => ⟨w, h, Int.le_refl _⟩
theorem Le.trans {A B C : Tb α} (h : Le A B) (k : Le B C) : Le A C := fun u v w e => by
  obtain ⟨w1, e1, l1⟩ := k u v w e
  obtain ⟨w2, e2, l2⟩ := h u v w1 e1
  exact ⟨w2, e2, by omega⟩
def lower (B : Tb α) (u v : α) (c : Int) : Tb α := fun x y => if x = u ∧ y = v then some (match B u v with
    | some w => if w < c then w else c
    | none => c) else B x y
theorem lower_at (B : Tb α) (u v : α) (c : Int) : ∃ w, lower B u v c u v = some w ∧ w ≤ c := by
  refine ⟨_, if_pos ⟨rfl, rfl⟩, ?_⟩
  split
  · split <;> omega
  · omega
theorem lower_le (B : Tb α) (u v : α) (c : Int) : Le (lower B u v c) B := fun x y w h => by
  by_cases q : x = u ∧ y = v
  · obtain ⟨rfl, rfl⟩ := q
    refine ⟨_, if_pos ⟨rfl, rfl⟩, ?_⟩
    rw [h]
    dsimp only
    split <;> omega
  · exact ⟨w, by unfold lower; rw [if_neg q]; exact h, Int.le_refl _⟩
theorem lower_sound {B : Tb α} {u v : α} {c : Int} (s : Sound E B) (k : ∃ l, Chain E u l v ∧ wt l = c) : Sound E (lower B u v c) := fun x y w h => by
  by_cases q : x = u ∧ y = v
  · obtain ⟨rfl, rfl⟩ := q
    unfold lower at h
    rw [if_pos ⟨rfl, rfl⟩] at h
    cases e : B x y with
    | none => rw [e] at h; cases h; exact k
    | some z =>
      rw [e] at h
      dsimp only at h
      split at h
      · cases h; exact s x y _ e
      · cases h; exact k
  · unfold lower at h
    rw [if_neg q] at h
    exact s x y w h
/-- B knows the ways over M -/
def Knows (E : List (Lit α)) (N : List α) (M : α → Prop) (B : Tb α) : Prop := ∀ u ∈ N, ∀ v ∈ N, ∀ w, Path E M u v w → ∃ w', B u v = some w' ∧ w' ≤ w
def Neg (N : List α) (B : Tb α) : Prop := ∃ m ∈ N, ∃ w, B m m = some w ∧ w < 0
theorem Neg.le {N : List α} {A B : Tb α} (h : Le A B) (n : Neg N B) : Neg N A := by
  obtain ⟨m, hm, w, e, l⟩ := n
  obtain ⟨w', e', l'⟩ := h m m w e
  exact ⟨m, hm, w', e', by omega⟩
/-- one node more is gone over -/
theorem knows_more {N : List α} {M M' : α → Prop} {m : α} {B B' : Tb α} (hN : m ∈ N) (hm : ∀ x, M' x → M x ∨ x = m) (le : Le B' B) (k : Neg N B ∨ Knows E N M B)
    (st : ∀ u ∈ N, ∀ v ∈ N, ∀ p q, B u m = some p → B m v = some q → ∃ w, B' u v = some w ∧ w ≤ p + q) : Neg N B' ∨ Knows E N M' B' := by
  rcases k with n | k
  · exact .inl (n.le le)
  · by_cases z : ∃ w, B m m = some w ∧ w < 0
    · exact .inl (Neg.le le ⟨m, hN, z⟩)
    · refine .inr fun u hu v hv w h => ?_
      have pos : ∀ w, Path E M m m w → 0 ≤ w := fun w h => by
        obtain ⟨w', e, l⟩ := k m hN m hN w h
        by_cases y : w' < 0
        · exact absurd ⟨w', e, y⟩ z
        · omega
      rcases path_split hm pos h with g | ⟨w1, w2, g1, g2, g3⟩
      · obtain ⟨w', e, l⟩ := k u hu v hv w g
        obtain ⟨w'', e', l'⟩ := le u v w' e
        exact ⟨w'', e', by omega⟩
      · obtain ⟨p, e1, l1⟩ := k u hu m hN w1 g1
        obtain ⟨q, e2, l2⟩ := k m hN v hv w2 g2
        obtain ⟨w', e', l'⟩ := st u hu v hv p q e1 e2
        exact ⟨w', e', by omega⟩
/-- the end of it -/
structure Best (E : List (Lit α)) (N : List α) (B : Tb α) : Prop where
  good : ¬ Bad E
  sound : Sound E B
  least : ∀ u ∈ N, ∀ v ∈ N, ∀ l, Chain E u l v → ∃ w, B u v = some w ∧ w ≤ wt l
theorem best_or {N : List α} {B : Tb α} (s : Sound E B) (k : Neg N B ∨ Knows E N (fun x => x ∈ N) B) (hN : ∀ e ∈ E, e.1 ∈ N ∧ e.2.1 ∈ N) : (Neg N B ∧ Bad E) ∨ ((¬ Neg N B) ∧ Best E N B) := by
  by_cases n : Neg N B
  · refine .inl ⟨n, ?_⟩
    obtain ⟨m, hm, w, e, l⟩ := n
    obtain ⟨l', h, e'⟩ := s m m w e
    exact ⟨m, l', h, by omega⟩
  · have k : Knows E N (fun x => x ∈ N) B := by
      rcases k with k | k
      · exact absurd k n
      · exact k
    have least : ∀ u ∈ N, ∀ v ∈ N, ∀ l, Chain E u l v → ∃ w, B u v = some w ∧ w ≤ wt l := fun u hu v hv l h => k u hu v hv _ (path_of (fun e he => (hN e he).2) h)
    refine .inr ⟨n, ⟨fun ⟨a, l, h, w⟩ => ?_, s, least⟩⟩
    cases l with
    | nil => simp only [wt] at w; omega
    | cons e r =>
      have ha : a ∈ N := by rw [← h.2.1]; exact (hN e h.1).1
      obtain ⟨w', e1, l1⟩ := least a ha a ha _ h
      exact n ⟨a, ha, w', e1, by omega⟩
end Net

/-! Rounds of lowering. No program here. -/
namespace Net
variable {α : Type} [DecidableEq α]
variable {E : List (Lit α)}
def up {β : Type} (f : α → β) (k : α) (x : β) : α → β := fun y => if y = k then x else f y
theorem up_at {β : Type} (f : α → β) (k : α) (x : β) : up f k x k = x := if_pos rfl
theorem up_ne {β : Type} (f : α → β) {k y : α} (x : β) (h : y ≠ k) : up f k x y = f y := if_neg h

/-- no way of at most r literals is below -/
def Rnd (E : List (Lit α)) (r : Nat) (W : α → Int) : Prop := ∀ l a b, Chain E a l b → l.length ≤ r → W a ≤ wt l
theorem rnd_zero : Rnd E 0 (fun _ => 0) := fun l a b h q => by
  have : l = [] := List.length_eq_zero_iff.mp (by omega)
  subst this
  exact Int.le_refl _
theorem rnd_less {r : Nat} {W W' : α → Int} (h : Rnd E r W) (le : ∀ k, W' k ≤ W k) : Rnd E r W' := fun l a b c q => Int.le_trans (le a) (h l a b c q)
theorem rnd_more {r : Nat} {W W' : α → Int} (h : Rnd E r W) (le : ∀ k, W' k ≤ W k) (st : ∀ e ∈ E, W' e.1 ≤ W e.2.1 + e.2.2) : Rnd E (r + 1) W' := fun l a b c q => by
  cases l with
  | nil => exact Int.le_trans (le a) (h [] a a rfl (Nat.zero_le _))
  | cons e l =>
    have := h l e.2.1 b c.2.2 (by simpa using q)
    have s := st e c.1
    rw [c.2.1] at s
    simp only [wt]
    omega
/-- whence each bound came: L the literal's index, T when -/
structure Prd (E : List (Lit α)) (W : α → Int) (L : α → Option Nat) (T : α → Nat) : Prop where
  from_ : ∀ k i, L k = some i → ∃ e, E[i]? = some e ∧ e.1 = k ∧ W e.2.1 + e.2.2 ≤ W k ∧ (T k ≤ T e.2.1 → W e.2.1 + e.2.2 < W k)
  none_ : ∀ k, L k = none → W k = 0
theorem prd_start : Prd E (fun _ => 0) (fun _ => none) (fun _ => 0) := ⟨fun k i h => (nomatch h), fun _ _ => rfl⟩
theorem Prd.step {W : α → Int} {L : α → Option Nat} {T : α → Nat} (p : Prd E W L T) {i t : Nat} {e : Lit α} (he : E[i]? = some e) (ht : ∀ k, T k < t) (lt : W e.2.1 + e.2.2 < W e.1) :
    Prd E (up W e.1 (W e.2.1 + e.2.2)) (up L e.1 (some i)) (up T e.1 t) := by
  refine ⟨fun k j h => ?_, fun k h => ?_⟩
  · by_cases q : k = e.1
    · subst q
      rw [up_at] at h
      cases h
      refine ⟨e, he, rfl, ?_⟩
      rw [up_at, up_at]
      by_cases z : e.2.1 = e.1
      · have c0 : e.2.2 < 0 := by rw [z] at lt; omega
        rw [z, up_at, up_at]
        constructor
        · omega
        · intro _; omega
      · rw [up_ne _ _ z, up_ne _ _ z]
        refine ⟨Int.le_refl _, fun x => ?_⟩
        have := ht e.2.1
        omega
    · rw [up_ne _ _ q] at h
      obtain ⟨e2, g1, g2, g3, g4⟩ := p.from_ k j h
      refine ⟨e2, g1, g2, ?_⟩
      rw [up_ne _ _ q, up_ne _ _ q]
      by_cases z : e2.2.1 = e.1
      · rw [z, up_at, up_at]
        rw [z] at g3 g4
        constructor
        · omega
        · intro _; omega
      · rw [up_ne _ _ z, up_ne _ _ z]
        exact ⟨g3, g4⟩
  · by_cases q : k = e.1
    · subst q
      rw [up_at] at h
      cases h
    · rw [up_ne _ _ q] at h
      rw [up_ne _ _ q]
      exact p.none_ k h
/-- the way back along the indices -/
def Back (E : List (Lit α)) (L : α → Option Nat) : α → List Nat → α → Prop
  | a, [], b => a = b
  | a, i :: is, b => L a = some i ∧ ∃ e, E[i]? = some e ∧ Back E L e.2.1 is b
def lits (E : List (Lit α)) (is : List Nat) : List (Lit α) := is.filterMap fun i => E[i]?
theorem back_chain {W : α → Int} {L : α → Option Nat} {T : α → Nat} (p : Prd E W L T) : ∀ {is : List Nat} {a b : α}, Back E L a is b → Chain E a (lits E is) b ∧ W b + wt (lits E is) ≤ W a ∧ (lits E is).length = is.length
  | [], a, b, h => by cases h; exact ⟨rfl, by simp only [lits, List.filterMap_nil, wt]; omega, rfl⟩
  | i :: is, a, b, h => by
    obtain ⟨h1, e, h2, h3⟩ := h
    obtain ⟨e', g1, g2, g3, _⟩ := p.from_ a i h1
    rw [h2] at g1
    cases g1
    obtain ⟨k1, k2, k3⟩ := back_chain p h3
    have el : lits E (i :: is) = e :: lits E is := by simp only [lits, List.filterMap_cons, h2]
    rw [el]
    exact ⟨⟨List.mem_of_getElem? h2, g2, k1⟩, by simp only [wt]; omega, by simp only [List.length_cons, k3]⟩
/-- going round, it is below 0: times would fall for ever -/
theorem back_time {W : α → Int} {L : α → Option Nat} {T : α → Nat} (p : Prd E W L T) : ∀ {is : List Nat} {a b : α}, Back E L a is b → is ≠ [] → W b + wt (lits E is) < W a ∨ T b < T a
  | [], a, b, h, ne => absurd rfl ne
  | i :: is, a, b, h, _ => by
    obtain ⟨h1, e, h2, h3⟩ := h
    obtain ⟨e', g1, g2, g3, g4⟩ := p.from_ a i h1
    rw [h2] at g1
    cases g1
    have el : lits E (i :: is) = e :: lits E is := by simp only [lits, List.filterMap_cons, h2]
    rw [el]
    simp only [wt]
    obtain ⟨_, k2, _⟩ := back_chain p h3
    by_cases t : T a ≤ T e.2.1
    · have := g4 t
      exact .inl (by omega)
    · cases is with
      | nil => cases h3; exact .inr (by omega)
      | cons j js =>
        rcases back_time p h3 (by simp) with k | k
        · exact .inl (by omega)
        · exact .inr (by omega)
theorem ring_below {W : α → Int} {L : α → Option Nat} {T : α → Nat} (p : Prd E W L T) {is : List Nat} {a : α} (h : Back E L a is a) (ne : is ≠ []) : wt (lits E is) < 0 := by
  rcases back_time p h ne with k | k
  · omega
  · omega
theorem Back.app {L : α → Option Nat} : ∀ {is : List Nat} {a b : α} {js : List Nat} {c : α}, Back E L a is b → Back E L b js c → Back E L a (is ++ js) c
  | [], a, b, js, c, h, k => by cases h; exact k
  | i :: is, a, b, js, c, h, k => ⟨h.1, h.2.choose, h.2.choose_spec.1, Back.app h.2.choose_spec.2 k⟩
/-- behind n rounds, one more lowers a: back from a there are more than n steps -/
theorem no_root {W W0 : α → Int} {L : α → Option Nat} {T : α → Nat} (p : Prd E W L T) {n : Nat} (r : Rnd E n W0) {a : α} (lt : W a < W0 a) {is : List Nat} {b : α} (h : Back E L a is b) (hn : is.length ≤ n) : L b ≠ none := fun z => by
  obtain ⟨h1, h2, h3⟩ := back_chain p h
  have := p.none_ b z
  have := r _ _ _ h1 (by omega)
  omega
end Net

/-! C: ring_from and solved are run. -/
namespace Net
open PySem L2 Pv

def ringF (ap : Nat) : FD := ⟨3, 6, (.cons (.asg (.v 3) (.dct .nil)) (.cons (.wh (.cmp .notin (.v 2) (.v 3)) (.cons (.asg (.sub (.v 3) (.v 2)) (.c (.bl true))) (.cons (.asg (.v 2) (.sub (.sub (.v 0) (.sub (.v 1) (.v 2))) (.c (.int 1)))) .nil))) (.cons (.par (.cons (.v 4) (.cons (.v 5) .nil)) (.cons (.lst (.cons (.sub (.v 1) (.v 2)) .nil)) (.cons (.v 2) .nil))) (.cons (.asg (.v 2) (.sub (.sub (.v 0) (.sub (.v 1) (.v 2))) (.c (.int 1)))) (.cons (.wh (.cmp .ne (.v 2) (.v 5)) (.cons (.expr (.meth (.v 4) ap .append (.cons (.sub (.v 1) (.v 2)) .nil))) (.cons (.asg (.v 2) (.sub (.sub (.v 0) (.sub (.v 1) (.v 2))) (.c (.int 1)))) .nil))) (.cons (.ret (.blt .tuple (.cons (.v 4) .nil))) .nil))))))⟩

abbrev Lt := Lit P
def litP (e : Lt) : P := .tup [e.1, e.2.1, .int e.2.2]
def netP (E : List Lt) : P := .tup (E.map litP)
/-- a node: None or a text, and so on -/
def Node (x : P) : Prop := x.leaf = true ∧ x.fit = true
theorem leaf_depth {x : P} (h : x.leaf = true) : x.depth = 0 := by cases x <;> first | rfl | cases h
theorem leaf_eqv : ∀ {x y : P}, x.leaf = true → y.leaf = true → x.eqv y = decide (x = y)
  | .non, .non, _, _ => rfl
  | .non, .int _, _, _ => by simp [P.eqv]
  | .non, .str _, _, _ => by simp [P.eqv]
  | .int _, .non, _, _ => by simp [P.eqv]
  | .int i, .int j, _, _ => by simp [P.eqv]
  | .int _, .str _, _, _ => by simp [P.eqv]
  | .str _, .non, _, _ => by simp [P.eqv]
  | .str _, .int _, _, _ => by simp [P.eqv]
  | .str x, .str y, _, _ => by simp [P.eqv]
theorem eqO_node {h : Hh} {x y : P} (hx : Node x) (hy : Node y) : eqO h (.p x) (.p y) = some (decide (x = y)) := by
  have a := leaf_eqv hx.1 hy.1
  have d1 := leaf_depth hx.1
  have d2 := leaf_depth hy.1
  have f1 := hx.2
  have f2 := hy.2
  cases x <;> cases y <;> first
    | (unfold eqO; dsimp only; rw [if_pos ⟨by rw [d1]; decide, by rw [d2]; decide, f1, f2⟩, a]; done)
    | (simp only [eqO, P.str.injEq]; done)
theorem dget_iff (kvs : Kvs) (k : P) : (dGet kvs k).isSome = decide (k ∈ kvs.map (·.1)) := by
  rw [Bool.eq_iff_iff, decide_eq_true_iff]
  constructor
  · intro h
    obtain ⟨d, e⟩ := Option.isSome_iff_exists.mp h
    exact dget_in e
  · intro h
    obtain ⟨x, hx, e⟩ := List.mem_map.mp h
    unfold dGet
    rw [Option.isSome_map, List.find?_isSome]
    exact ⟨x, hx, by simpa using e⟩
/-- one step back -/
def Stp (E : List Lt) (L : P → Option Nat) (x y : P) : Prop := ∃ i e, L x = some i ∧ E[i]? = some e ∧ e.2.1 = y
/-- a trace: its head, what comes behind it -/
def hd (vs : List P) (x : P) : P := match vs with
  | [] => x
  | v :: _ => v
def Tr (E : List Lt) (L : P → Option Nat) : List P → P → Prop
  | [], _ => True
  | v :: vs, x => Stp E L v (hd vs x) ∧ Tr E L vs x
variable {E : List Lt} {L : P → Option Nat}
theorem hd_app (vs : List P) (x y : P) : hd (vs ++ [x]) y = hd vs x := by cases vs <;> rfl
theorem Tr.snoc : ∀ {vs : List P} {x y : P}, Tr E L vs x → Stp E L x y → Tr E L (vs ++ [x]) y
  | [], x, y, _, s => ⟨s, trivial⟩
  | v :: vs, x, y, h, s => ⟨by show Stp E L v (hd (vs ++ [x]) y); rw [hd_app]; exact h.1, Tr.snoc h.2 s⟩
theorem Tr.behind : ∀ {p vs : List P} {x : P}, Tr E L (p ++ vs) x → Tr E L vs x
  | [], _, _, h => h
  | _ :: _, _, _, h => Tr.behind h.2
def ix (L : P → Option Nat) (x : P) : Nat := (L x).getD 0
theorem Tr.back : ∀ {vs : List P} {x : P}, Tr E L vs x → Back E L (hd vs x) (vs.map (ix L)) x
  | [], _, _ => rfl
  | v :: vs, x, h => by
    obtain ⟨⟨i, e, h1, h2, h3⟩, h4⟩ := h
    have : ix L v = i := by unfold ix; rw [h1]; rfl
    rw [List.map_cons, this]
    exact ⟨h1, e, h2, by rw [h3]; exact Tr.back h4⟩
/-- the table of indices -/
structure LD (kl : Kvs) (L : P → Option Nat) : Prop where
  get : ∀ k, dGet kl k = (L k).map fun i => .p (.int i)
  lf : lfs kl = true
/-- indices and nodes are right -/
structure Rt (E : List Lt) (L : P → Option Nat) (ns : List P) : Prop where
  node : ∀ x ∈ ns, Node x
  lit : ∀ k i, L k = some i → ∃ e, E[i]? = some e ∧ e.2.1 ∈ ns
theorem run_ret {r : RS} {Q : D → Hh → Prop} (h : Ru r (fun _ _ => False) Q) : ∃ d h', r = .ret d h' ∧ Q d h' := by
  cases r with
  | ret d h' => exact ⟨d, h', rfl, h⟩
  | next s h' => exact h.elim
  | brk s h' => exact h.elim
  | cont s h' => exact h.elim
  | exc x s h' => exact h.elim
  | stuck => exact h.elim
section
variable {g : G} {h : Hh} {j : Nat} {kl : Kvs}
/-- literals[last[node]][1] -/
theorem next_ev (ld : LD kl L) {x y : P} {i : Nat} {e : Lt} (hx : x.leaf = true) (h1 : L x = some i) (h2 : E[i]? = some e) {h' : Hh} (hj : h'[j]? = some (.dct kl)) :
    subS (.r j) (.p x) h' = .ok (.p (.int i)) h' ∧ subS (.p (netP E)) (.p (.int i)) h' = .ok (.p (litP e)) h' ∧ subS (.p (litP e)) (.p (.int 1)) h' = .ok (.p e.2.1) h' := by
  refine ⟨sub_dct hj (kfit_leaf hx ld.lf) (by rw [ld.get, h1]; rfl), ?_, rfl⟩
  unfold netP
  rw [subS_t, Pv.atI_nat, List.getElem?_map, h2]
  rfl
theorem ring_one (ld : LD kl L) (hj : h[j]? = some (.dct kl)) {ns : List P} (rt : Rt E L ns) {a : P} (ha : a ∈ ns) (more : ∀ is b, Back E L a is b → is.length ≤ ns.length → L b ≠ none) (hF : ns.length + 1 < g.F) (small : ns.length < 1000000) {s4 s5 : Option D} {B C : SH} {Q : D → Hh → Prop} :
    Pv.Run (evS g (.wh (.cmp .notin (.v 2) (.v 3)) (.cons (.asg (.sub (.v 3) (.v 2)) (.c (.bl true))) (.cons (.asg (.v 2) (.sub (.sub (.v 0) (.sub (.v 1) (.v 2))) (.c (.int 1)))) .nil))) [some (.p (netP E)), some (.r j), some (.p a), some (.r h.length), s4, s5] (h ++ [.dct []]))
      (fun s h' => ∃ (b : P) (post : List P) (met : Kvs), s = [some (.p (netP E)), some (.r j), some (.p b), some (.r h.length), s4, s5] ∧ h' = h ++ [.dct met] ∧ Tr E L (b :: post) b ∧ (b :: post).Nodup ∧ (∀ x ∈ b :: post, x ∈ ns) ∧ b ∈ ns) B C Q := by
  rw [evS.eq_8]
  refine loopW_run (fun m s h' => ∃ (x : P) (met : Kvs), s = [some (.p (netP E)), some (.r j), some (.p x), some (.r h.length), s4, s5] ∧ h' = h ++ [.dct met] ∧ Tr E L (met.map (·.1)) x ∧ hd (met.map (·.1)) x = a ∧ (met.map (·.1)).Nodup ∧ (∀ y ∈ met.map (·.1), y ∈ ns) ∧ x ∈ ns ∧ m + met.length = ns.length + 1)
    _ _ ?_ g.F (ns.length + 1) _ _ hF ⟨a, [], rfl, rfl, trivial, rfl, List.nodup_nil, (fun _ z => by cases z), ha, rfl⟩
  rintro m s h' ⟨x, met, rfl, rfl, tr, hh, nd, sub, hx, hm⟩
  have nx := rt.node x hx
  have lm : Pv.lfs met = true := KeysIn.lfs ⟨nd, sub⟩ fun y hy => (rt.node y hy).1
  have hj' : ∀ t : Hh, (h ++ t)[j]? = some (.dct kl) := fun t => get_app hj
  have lk : (met.map (·.1)).length ≤ ns.length := pig nd sub
  rw [List.length_map] at lk
  have e1 : inO (h ++ [O.dct met]) (.p x) (.r h.length) = some (decide (x ∈ met.map (·.1))) := by
    rw [in_dct (hg0 h _ []) (kfit_leaf nx.1 lm), dget_iff]
  refine ⟨!decide (x ∈ met.map (·.1)), h ++ [.dct met], ?_, fun hb => ?_, fun hb => ?_⟩
  · simp only [evSs, evS.eq_1, evS.eq_2, evS.eq_3, evS.eq_4, evS.eq_5, evS.eq_6, evS.eq_7, evS.eq_10, evS.eq_11, evS.eq_12, evS.eq_13, evS.eq_14, evE.eq_1, evE.eq_2, evE.eq_3, evE.eq_4, evE.eq_5, evE.eq_6, evE.eq_7, evE.eq_8, evE.eq_9, evE.eq_10, evE.eq_11, evE.eq_12, evE.eq_13, evE.eq_14, evE.eq_15, evE.eq_16, evE.eq_17, evE.eq_18, evE.eq_19, evE.eq_21, evE.eq_22, evE.eq_23, evE.eq_24, evE.eq_25, evE.eq_26,  evEs, evO, evTs, evI, asgT, asgTs, slot, startD, R.of_some, R.of_none, R.bind_ok, R.bind_stuck, R.then_ok, RS.seq_next, RS.seq_ret, RS.seq_brk, RS.seq_cont, List.getElem?_cons_zero, List.getElem?_cons_succ, List.set_cons_zero, List.set_cons_succ, List.set_set, add_ii, sub_ii, mul_ii, mod_ii, fdiv_ii, pow_lit, blt_int, blt_max, blt_min, blt_abs, aug_ii, tr_bl, lt_ii, le_ii, gt_ii, ge_ii, eq_ii, ne_ii, trim_p0, if_true, Bool.not_true, Bool.not_false, Bool.false_eq_true, if_false, R.tr_ok_bl, gOf_call, mkT_p2, len_t, sz1, sz2, sz3, sz4, sz6, D.items, hg0, hg1, hg2, hg3, hs0, hs1, hs2, hs3, hl1, hl2, hl3, hl4, List.append_assoc, List.cons_append, List.nil_append, List.append_nil, mk, pairUp, List.map_cons, List.map_nil, List.length_cons, List.length_nil, List.replicate, Nat.zero_le, cmpS, e1, Option.map_some]
  · have hb : x ∈ met.map (·.1) := by simpa using hb
    obtain ⟨p, q, e⟩ := List.append_of_mem hb
    rw [e] at tr nd sub
    exact ⟨x, q, met, rfl, rfl, Tr.behind tr, (List.nodup_append.mp nd).2.1, fun y hy => sub y (List.mem_append_right _ hy), hx⟩
  · have hb : ¬ x ∈ met.map (·.1) := by simpa using hb
    cases hl : L x with
    | none =>
      have bk := Tr.back tr
      rw [hh] at bk
      exact absurd hl (more _ _ bk (by rw [List.length_map, List.length_map]; exact lk))
    | some i =>
      obtain ⟨e, he, hn⟩ := rt.lit x i hl
      have keys : (dPut met x (.p (.bl true))).map (·.1) = met.map (·.1) ++ [x] := by rw [dput_keys, if_neg hb]
      have pt : putS (.r h.length) (.p x) (.p (.bl true)) (h ++ [.dct met]) = .ok () (h ++ [.dct (dPut met x (.p (.bl true)))]) := by
        rw [put_dct _ (hg0 h _ []) (kfit_leaf nx.1 lm) (by rw [sizeLine_v]; omega), hs0]
      obtain ⟨a1, a2, a3⟩ := next_ev (j := j) (y := x) ld nx.1 hl he (hj' [.dct (dPut met x (.p (.bl true)))])
      simp only [evSs, evS.eq_1, evS.eq_2, evS.eq_3, evS.eq_4, evS.eq_5, evS.eq_6, evS.eq_7, evS.eq_10, evS.eq_11, evS.eq_12, evS.eq_13, evS.eq_14, evE.eq_1, evE.eq_2, evE.eq_3, evE.eq_4, evE.eq_5, evE.eq_6, evE.eq_7, evE.eq_8, evE.eq_9, evE.eq_10, evE.eq_11, evE.eq_12, evE.eq_13, evE.eq_14, evE.eq_15, evE.eq_16, evE.eq_17, evE.eq_18, evE.eq_19, evE.eq_21, evE.eq_22, evE.eq_23, evE.eq_24, evE.eq_25, evE.eq_26,  evEs, evO, evTs, evI, asgT, asgTs, slot, startD, R.of_some, R.of_none, R.bind_ok, R.bind_stuck, R.then_ok, RS.seq_next, RS.seq_ret, RS.seq_brk, RS.seq_cont, List.getElem?_cons_zero, List.getElem?_cons_succ, List.set_cons_zero, List.set_cons_succ, List.set_set, add_ii, sub_ii, mul_ii, mod_ii, fdiv_ii, pow_lit, blt_int, blt_max, blt_min, blt_abs, aug_ii, tr_bl, lt_ii, le_ii, gt_ii, ge_ii, eq_ii, ne_ii, trim_p0, if_true, Bool.not_true, Bool.not_false, Bool.false_eq_true, if_false, R.tr_ok_bl, gOf_call, mkT_p2, len_t, sz1, sz2, sz3, sz4, sz6, D.items, pt, a1, a2, a3]
      refine ⟨m - 1, by omega, e.2.1, dPut met x (.p (.bl true)), rfl, trimS_same (by rw [hl1, hl1]), ?_, ?_, ?_, ?_, hn, ?_⟩
      · rw [keys]; exact Tr.snoc tr ⟨i, e, hl, he, rfl⟩
      · rw [keys, hd_app]; exact hh
      · rw [keys, List.nodup_append]
        exact ⟨nd, (by simp), fun y hy z hz => by
          rw [List.mem_singleton.mp hz]
          rintro rfl
          exact hb hy⟩
      · rw [keys]
        intro y hy
        rcases List.mem_append.mp hy with hy | hy
        · exact sub y hy
        · rw [List.mem_singleton.mp hy]; exact hx
      · have := congrArg List.length keys
        rw [List.length_map, List.length_append, List.length_map, List.length_singleton] at this
        omega

def idxD (L : P → Option Nat) (vs : List P) : List D := vs.map fun x => .p (.int (ix L x))
theorem ring_two (ld : LD kl L) (hj : h[j]? = some (.dct kl)) {ns : List P} (rt : Rt E L ns) {b : P} {post : List P} (tr : Tr E L (b :: post) b) (nd : (b :: post).Nodup) (sub : ∀ x ∈ b :: post, x ∈ ns) {ap : Nat} {met : Kvs} (hF : ns.length + 1 < g.F) (small : ns.length < 1000000) {B C : SH} {Q : D → Hh → Prop} :
    Pv.Run (evS g (.wh (.cmp .ne (.v 2) (.v 5)) (.cons (.expr (.meth (.v 4) ap .append (.cons (.sub (.v 1) (.v 2)) .nil))) (.cons (.asg (.v 2) (.sub (.sub (.v 0) (.sub (.v 1) (.v 2))) (.c (.int 1)))) .nil))) [some (.p (netP E)), some (.r j), some (.p (hd post b)), some (.r h.length), some (.r (h.length + 1)), some (.p b)] (h ++ [.dct met, .lst (idxD L [b])]))
      (fun s h' => s = [some (.p (netP E)), some (.r j), some (.p b), some (.r h.length), some (.r (h.length + 1)), some (.p b)] ∧ h' = h ++ [.dct met, .lst (idxD L (b :: post))]) B C Q := by
  have lp : (b :: post).length ≤ ns.length := pig nd sub
  rw [evS.eq_8]
  refine loopW_run (fun m s h' => ∃ ds rest : List P, s = [some (.p (netP E)), some (.r j), some (.p (hd rest b)), some (.r h.length), some (.r (h.length + 1)), some (.p b)] ∧ h' = h ++ [.dct met, .lst (idxD L ds)] ∧ b :: post = ds ++ rest ∧ ds ≠ [] ∧ m = rest.length)
    _ _ ?_ g.F post.length _ _ (by rw [List.length_cons] at lp; omega) ⟨[b], post, rfl, rfl, rfl, by simp, rfl⟩
  rintro m s h' ⟨ds, rest, rfl, rfl, e, dn, rfl⟩
  have hr : hd rest b ∈ b :: post := by
    rw [e]
    cases rest with
    | nil =>
      have : b ∈ b :: post := List.mem_cons_self
      rw [e] at this
      exact this
    | cons x r => exact List.mem_append_right _ List.mem_cons_self
  have nb := rt.node b (sub b List.mem_cons_self)
  have nx := rt.node _ (sub _ hr)
  have hj' : ∀ t : Hh, (h ++ t)[j]? = some (.dct kl) := fun t => get_app hj
  refine ⟨!decide (hd rest b = b), h ++ [.dct met, .lst (idxD L ds)], ?_, fun hb => ?_, fun hb => ?_⟩
  · simp only [evSs, evS.eq_1, evS.eq_2, evS.eq_3, evS.eq_4, evS.eq_5, evS.eq_6, evS.eq_7, evS.eq_10, evS.eq_11, evS.eq_12, evS.eq_13, evS.eq_14, evE.eq_1, evE.eq_2, evE.eq_3, evE.eq_4, evE.eq_5, evE.eq_6, evE.eq_7, evE.eq_8, evE.eq_9, evE.eq_10, evE.eq_11, evE.eq_12, evE.eq_13, evE.eq_14, evE.eq_15, evE.eq_16, evE.eq_17, evE.eq_18, evE.eq_19, evE.eq_21, evE.eq_22, evE.eq_23, evE.eq_24, evE.eq_25, evE.eq_26,  evEs, evO, evTs, evI, asgT, asgTs, slot, startD, R.of_some, R.of_none, R.bind_ok, R.bind_stuck, R.then_ok, RS.seq_next, RS.seq_ret, RS.seq_brk, RS.seq_cont, List.getElem?_cons_zero, List.getElem?_cons_succ, List.set_cons_zero, List.set_cons_succ, List.set_set, add_ii, sub_ii, mul_ii, mod_ii, fdiv_ii, pow_lit, blt_int, blt_max, blt_min, blt_abs, aug_ii, tr_bl, lt_ii, le_ii, gt_ii, ge_ii, eq_ii, ne_ii, trim_p0, if_true, Bool.not_true, Bool.not_false, Bool.false_eq_true, if_false, R.tr_ok_bl, gOf_call, mkT_p2, len_t, sz1, sz2, sz3, sz4, sz6, D.items, hg0, hg1, hg2, hg3, hs0, hs1, hs2, hs3, hl1, hl2, hl3, hl4, List.append_assoc, List.cons_append, List.nil_append, List.append_nil, mk, pairUp, List.map_cons, List.map_nil, List.length_cons, List.length_nil, List.replicate, Nat.zero_le, cmpS, eqO_node nx nb, Option.map_some]
  · have hb : hd rest b = b := by simpa using hb
    cases rest with
    | nil => rw [List.append_nil] at e; rw [e]; exact ⟨rfl, rfl⟩
    | cons x r =>
      have hb : x = b := hb
      subst hb
      exfalso
      cases ds with
      | nil => exact dn rfl
      | cons y ds =>
        rw [List.cons_append] at e
        injection e with e1 e2
        have := (List.nodup_cons.mp nd).1
        rw [e2] at this
        exact this (List.mem_append_right _ List.mem_cons_self)
  · have hb : ¬ hd rest b = b := by simpa using hb
    cases rest with
    | nil => exact absurd rfl hb
    | cons x r =>
      have nx : Node x := nx
      have t2 : Tr E L (x :: r) b := by
        have := tr
        rw [e] at this
        exact Tr.behind this
      obtain ⟨⟨i, ee, h1, h2, h3⟩, _⟩ := t2
      have lds : (idxD L ds).length < sizeLine := by
        have := congrArg List.length e
        rw [List.length_append, List.length_cons] at this
        rw [idxD, List.length_map, sizeLine_v]
        rw [List.length_cons] at lp this
        omega
      have ei : idxD L ds ++ [.p (.int i)] = idxD L (ds ++ [x]) := by
        have : ix L x = i := by unfold ix; rw [h1]; rfl
        simp only [idxD, List.map_append, List.map_cons, List.map_nil, this]
      obtain ⟨a1, a2, a3⟩ := next_ev (j := j) (y := x) ld nx.1 h1 h2 (hj' [.dct met, .lst (idxD L (ds ++ [x]))])
      obtain ⟨a0, _, _⟩ := next_ev (j := j) (y := x) ld nx.1 h1 h2 (hj' [.dct met, .lst (idxD L ds)])
      have ap1 := app_lst (.p (.int i)) (hg1 h (.dct met) (.lst (idxD L ds)) []) lds
      rw [hs1, ei] at ap1
      simp only [evSs, evS.eq_1, evS.eq_2, evS.eq_3, evS.eq_4, evS.eq_5, evS.eq_6, evS.eq_7, evS.eq_10, evS.eq_11, evS.eq_12, evS.eq_13, evS.eq_14, evE.eq_1, evE.eq_2, evE.eq_3, evE.eq_4, evE.eq_5, evE.eq_6, evE.eq_7, evE.eq_8, evE.eq_9, evE.eq_10, evE.eq_11, evE.eq_12, evE.eq_13, evE.eq_14, evE.eq_15, evE.eq_16, evE.eq_17, evE.eq_18, evE.eq_19, evE.eq_21, evE.eq_22, evE.eq_23, evE.eq_24, evE.eq_25, evE.eq_26,  evEs, evO, evTs, evI, asgT, asgTs, slot, startD, R.of_some, R.of_none, R.bind_ok, R.bind_stuck, R.then_ok, RS.seq_next, RS.seq_ret, RS.seq_brk, RS.seq_cont, List.getElem?_cons_zero, List.getElem?_cons_succ, List.set_cons_zero, List.set_cons_succ, List.set_set, add_ii, sub_ii, mul_ii, mod_ii, fdiv_ii, pow_lit, blt_int, blt_max, blt_min, blt_abs, aug_ii, tr_bl, lt_ii, le_ii, gt_ii, ge_ii, eq_ii, ne_ii, trim_p0, if_true, Bool.not_true, Bool.not_false, Bool.false_eq_true, if_false, R.tr_ok_bl, gOf_call, mkT_p2, len_t, sz1, sz2, sz3, sz4, sz6, D.items, hd, meth_app (hg1 h (.dct met) (.lst (idxD L ds)) []), a0, ap1, a1, a2, a3]
      refine ⟨r.length, by simp, ds ++ [x], r, by rw [h3]; rfl, trimS_same (by rw [hl2, hl2]), by rw [e]; simp, by simp, rfl⟩
/-- the whole of it -/
theorem ring_ok {p : Prg} {F k r ap : Nat} (hr : p.fns[r]? = some (ringF ap)) (ld : LD kl L) (hj : h[j]? = some (.dct kl)) {ns : List P} (rt : Rt E L ns) {a : P} (ha : a ∈ ns) (more : ∀ is b, Back E L a is b → is.length ≤ ns.length → L b ≠ none) (hF : ns.length + 1 < F) (small : ns.length < 1000000) :
    ∃ (b : P) (post : List P), Tr E L (b :: post) b ∧ (b :: post).Nodup ∧ (∀ x ∈ b :: post, x ∈ ns) ∧ callN p F (k + 2) r [.p (netP E), .r j, .p a] h = .ok (.p (.tup ((b :: post).map fun x => .int (ix L x)))) h := by
  rw [call_eq hr rfl]
  obtain ⟨d, h2, e, b, post, tr, nd, sub, rfl, t, rfl⟩ : ∃ d h2, evSs (gOf p F (callN p F (k + 1)) (callN p F k)) (ringF ap).body (startD 6 [.p (netP E), .r j, .p a]) h = .ret d h2 ∧ ∃ (b : P) (post : List P), Tr E L (b :: post) b ∧ (b :: post).Nodup ∧ (∀ x ∈ b :: post, x ∈ ns) ∧ d = .p (.tup ((b :: post).map fun x => .int (ix L x))) ∧ ∃ t, h2 = h ++ t := by
    refine run_ret ?_
    unfold ringF
    have l0 : lfs [] = true := rfl
    have m0 : mergeD [] [] = [] := rfl
    rw [evSs]
    have e0 : evS (gOf p F (callN p F (k + 1)) (callN p F k)) (.asg (.v 3) (.dct .nil)) (startD 6 [.p (netP E), .r j, .p a]) h = .next [some (.p (netP E)), some (.r j), some (.p a), some (.r h.length), none, none] (h ++ [.dct []]) := by
      simp only [evSs, evS.eq_1, evS.eq_2, evS.eq_3, evS.eq_4, evS.eq_5, evS.eq_6, evS.eq_7, evS.eq_10, evS.eq_11, evS.eq_12, evS.eq_13, evS.eq_14, evE.eq_1, evE.eq_2, evE.eq_3, evE.eq_4, evE.eq_5, evE.eq_6, evE.eq_7, evE.eq_8, evE.eq_9, evE.eq_10, evE.eq_11, evE.eq_12, evE.eq_13, evE.eq_14, evE.eq_15, evE.eq_16, evE.eq_17, evE.eq_18, evE.eq_19, evE.eq_21, evE.eq_22, evE.eq_23, evE.eq_24, evE.eq_25, evE.eq_26,  evEs, evO, evTs, evI, asgT, asgTs, slot, startD, R.of_some, R.of_none, R.bind_ok, R.bind_stuck, R.then_ok, RS.seq_next, RS.seq_ret, RS.seq_brk, RS.seq_cont, List.getElem?_cons_zero, List.getElem?_cons_succ, List.set_cons_zero, List.set_cons_succ, List.set_set, add_ii, sub_ii, mul_ii, mod_ii, fdiv_ii, pow_lit, blt_int, blt_max, blt_min, blt_abs, aug_ii, tr_bl, lt_ii, le_ii, gt_ii, ge_ii, eq_ii, ne_ii, trim_p0, if_true, Bool.not_true, Bool.not_false, Bool.false_eq_true, if_false, R.tr_ok_bl, gOf_call, mkT_p2, len_t, sz1, sz2, sz3, sz4, sz6, D.items, hg0, hg1, hg2, hg3, hs0, hs1, hs2, hs3, hl1, hl2, hl3, hl4, List.append_assoc, List.cons_append, List.nil_append, List.append_nil, mk, pairUp, List.map_cons, List.map_nil, List.length_cons, List.length_nil, List.replicate, Nat.zero_le, l0, m0]
      rw [if_pos (by simp)]
      rfl
    rw [e0, RS.seq_next, evSs]
    refine Run.seq (ring_one (g := gOf p F (callN p F (k + 1)) (callN p F k)) ld hj rt ha more hF small) ?_
    rintro s h' ⟨b, post, met, rfl, rfl, tr, nd, sub, hb⟩
    have nb := rt.node b hb
    have hj' : ∀ t : Hh, (h ++ t)[j]? = some (.dct kl) := fun t => get_app hj
    obtain ⟨⟨i, ee, g1, g2, g3⟩, _⟩ := id tr
    have ei : (.lst [.p (.int i)] : O) = .lst (idxD L [b]) := by
      have : ix L b = i := by unfold ix; rw [g1]; rfl
      simp only [idxD, List.map_cons, List.map_nil, this]
    obtain ⟨a1, a2, a3⟩ := next_ev (j := j) (y := b) ld nb.1 g1 g2 (hj' [.dct met, .lst (idxD L [b])])
    obtain ⟨a0, _, _⟩ := next_ev (j := j) (y := b) ld nb.1 g1 g2 (hj' [.dct met])
    rw [evSs]
    have e1 : evS (gOf p F (callN p F (k + 1)) (callN p F k)) (.par (.cons (.v 4) (.cons (.v 5) .nil)) (.cons (.lst (.cons (.sub (.v 1) (.v 2)) .nil)) (.cons (.v 2) .nil))) [some (.p (netP E)), some (.r j), some (.p b), some (.r h.length), none, none] (h ++ [.dct met]) =
        .next [some (.p (netP E)), some (.r j), some (.p b), some (.r h.length), some (.r (h.length + 1)), some (.p b)] (h ++ [.dct met, .lst (idxD L [b])]) := by
      rw [← ei]
      simp only [evSs, evS.eq_1, evS.eq_2, evS.eq_3, evS.eq_4, evS.eq_5, evS.eq_6, evS.eq_7, evS.eq_10, evS.eq_11, evS.eq_12, evS.eq_13, evS.eq_14, evE.eq_1, evE.eq_2, evE.eq_3, evE.eq_4, evE.eq_5, evE.eq_6, evE.eq_7, evE.eq_8, evE.eq_9, evE.eq_10, evE.eq_11, evE.eq_12, evE.eq_13, evE.eq_14, evE.eq_15, evE.eq_16, evE.eq_17, evE.eq_18, evE.eq_19, evE.eq_21, evE.eq_22, evE.eq_23, evE.eq_24, evE.eq_25, evE.eq_26,  evEs, evO, evTs, evI, asgT, asgTs, slot, startD, R.of_some, R.of_none, R.bind_ok, R.bind_stuck, R.then_ok, RS.seq_next, RS.seq_ret, RS.seq_brk, RS.seq_cont, List.getElem?_cons_zero, List.getElem?_cons_succ, List.set_cons_zero, List.set_cons_succ, List.set_set, add_ii, sub_ii, mul_ii, mod_ii, fdiv_ii, pow_lit, blt_int, blt_max, blt_min, blt_abs, aug_ii, tr_bl, lt_ii, le_ii, gt_ii, ge_ii, eq_ii, ne_ii, trim_p0, if_true, Bool.not_true, Bool.not_false, Bool.false_eq_true, if_false, R.tr_ok_bl, gOf_call, mkT_p2, len_t, sz1, sz2, sz3, sz4, sz6, D.items, hg0, hg1, hg2, hg3, hs0, hs1, hs2, hs3, hl1, hl2, hl3, hl4, List.append_assoc, List.cons_append, List.nil_append, List.append_nil, mk, pairUp, List.map_cons, List.map_nil, List.length_cons, List.length_nil, List.replicate, Nat.zero_le, a0]
    have e2 : evS (gOf p F (callN p F (k + 1)) (callN p F k)) (.asg (.v 2) (.sub (.sub (.v 0) (.sub (.v 1) (.v 2))) (.c (.int 1)))) [some (.p (netP E)), some (.r j), some (.p b), some (.r h.length), some (.r (h.length + 1)), some (.p b)] (h ++ [.dct met, .lst (idxD L [b])]) =
        .next [some (.p (netP E)), some (.r j), some (.p (hd post b)), some (.r h.length), some (.r (h.length + 1)), some (.p b)] (h ++ [.dct met, .lst (idxD L [b])]) := by
      rw [← g3]
      simp only [evSs, evS.eq_1, evS.eq_2, evS.eq_3, evS.eq_4, evS.eq_5, evS.eq_6, evS.eq_7, evS.eq_10, evS.eq_11, evS.eq_12, evS.eq_13, evS.eq_14, evE.eq_1, evE.eq_2, evE.eq_3, evE.eq_4, evE.eq_5, evE.eq_6, evE.eq_7, evE.eq_8, evE.eq_9, evE.eq_10, evE.eq_11, evE.eq_12, evE.eq_13, evE.eq_14, evE.eq_15, evE.eq_16, evE.eq_17, evE.eq_18, evE.eq_19, evE.eq_21, evE.eq_22, evE.eq_23, evE.eq_24, evE.eq_25, evE.eq_26,  evEs, evO, evTs, evI, asgT, asgTs, slot, startD, R.of_some, R.of_none, R.bind_ok, R.bind_stuck, R.then_ok, RS.seq_next, RS.seq_ret, RS.seq_brk, RS.seq_cont, List.getElem?_cons_zero, List.getElem?_cons_succ, List.set_cons_zero, List.set_cons_succ, List.set_set, add_ii, sub_ii, mul_ii, mod_ii, fdiv_ii, pow_lit, blt_int, blt_max, blt_min, blt_abs, aug_ii, tr_bl, lt_ii, le_ii, gt_ii, ge_ii, eq_ii, ne_ii, trim_p0, if_true, Bool.not_true, Bool.not_false, Bool.false_eq_true, if_false, R.tr_ok_bl, gOf_call, mkT_p2, len_t, sz1, sz2, sz3, sz4, sz6, D.items, hg0, hg1, hg2, hg3, hs0, hs1, hs2, hs3, hl1, hl2, hl3, hl4, List.append_assoc, List.cons_append, List.nil_append, List.append_nil, mk, pairUp, List.map_cons, List.map_nil, List.length_cons, List.length_nil, List.replicate, Nat.zero_le, a1, a2, a3]
    rw [e1, RS.seq_next, evSs, e2, RS.seq_next, evSs]
    refine Run.seq (ring_two (g := gOf p F (callN p F (k + 1)) (callN p F k)) ld hj rt tr nd sub hF small) ?_
    rintro s h' ⟨rfl, rfl⟩
    have lo : lstOf (h ++ [.dct met, .lst (idxD L (b :: post))]) (.r (h.length + 1)) = some (idxD L (b :: post)) := by simp only [lstOf, hg1]
    have tu : bltS .tuple [.r (h.length + 1)] (h ++ [.dct met, .lst (idxD L (b :: post))]) = .ok (.p (.tup ((b :: post).map fun x => .int (ix L x)))) (h ++ [.dct met, .lst (idxD L (b :: post))]) := by
      simp only [bltS, lo]
      rw [show idxD L (b :: post) = ((b :: post).map fun x => P.int (ix L x)).map D.p by rw [idxD, List.map_map]; rfl, mkT_map]
    simp only [evSs, evS.eq_1, evS.eq_2, evS.eq_3, evS.eq_4, evS.eq_5, evS.eq_6, evS.eq_7, evS.eq_10, evS.eq_11, evS.eq_12, evS.eq_13, evS.eq_14, evE.eq_1, evE.eq_2, evE.eq_3, evE.eq_4, evE.eq_5, evE.eq_6, evE.eq_7, evE.eq_8, evE.eq_9, evE.eq_10, evE.eq_11, evE.eq_12, evE.eq_13, evE.eq_14, evE.eq_15, evE.eq_16, evE.eq_17, evE.eq_18, evE.eq_19, evE.eq_21, evE.eq_22, evE.eq_23, evE.eq_24, evE.eq_25, evE.eq_26,  evEs, evO, evTs, evI, asgT, asgTs, slot, startD, R.of_some, R.of_none, R.bind_ok, R.bind_stuck, R.then_ok, RS.seq_next, RS.seq_ret, RS.seq_brk, RS.seq_cont, List.getElem?_cons_zero, List.getElem?_cons_succ, List.set_cons_zero, List.set_cons_succ, List.set_set, add_ii, sub_ii, mul_ii, mod_ii, fdiv_ii, pow_lit, blt_int, blt_max, blt_min, blt_abs, aug_ii, tr_bl, lt_ii, le_ii, gt_ii, ge_ii, eq_ii, ne_ii, trim_p0, if_true, Bool.not_true, Bool.not_false, Bool.false_eq_true, if_false, R.tr_ok_bl, gOf_call, mkT_p2, len_t, sz1, sz2, sz3, sz4, sz6, D.items, tu]
    exact ⟨b, post, tr, nd, sub, rfl, _, rfl⟩
  exact ⟨b, post, tr, nd, sub, by rw [show (ringF ap).ns = 6 from rfl, e]; exact trim_pb _ _ _⟩
end
end Net

/-! D: solved is run. -/
namespace Net
open PySem L2 Pv

def sInit : IS := .asg (.tup 2 (.cons (.v 2) (.cons (.v 3) .nil))) (.trim (.tup (.cons (.dct (.cons (.c .non) (.cons (.c (.int 0)) .nil))) (.cons (.dct .nil) .nil))))
def sFill : IS := .for (.tup 3 (.cons (.v 4) (.cons (.v 5) (.cons (.v 6) .nil)))) (.of (.v 0)) (.cons (.asg (.tup 2 (.cons (.sub (.v 2) (.v 4)) (.cons (.sub (.v 2) (.v 5)) .nil))) (.tup (.cons (.c (.int 0)) (.cons (.c (.int 0)) .nil)))) .nil)
def sLow : IS := .for (.tup 2 (.cons (.v 8) (.cons (.tup 3 (.cons (.v 4) (.cons (.v 5) (.cons (.v 6) .nil)))) .nil))) (.enum (.v 0)) (.cons (.ite (.trim (.cmp .lt (.bin .add (.sub (.v 2) (.v 5)) (.v 6)) (.sub (.v 2) (.v 4)))) (.cons (.asg (.tup 3 (.cons (.sub (.v 2) (.v 4)) (.cons (.sub (.v 3) (.v 4)) (.cons (.v 7) .nil)))) (.trim (.tup (.cons (.bin .add (.sub (.v 2) (.v 5)) (.v 6)) (.cons (.v 8) (.cons (.v 8) .nil)))))) .nil) .nil) .nil)
def sRows : IE := .lck (.v 2) (.comp [10] (.tup (.cons (.v 10) (.cons (.bin .sub (.sub (.v 2) (.v 10)) (.sub (.v 2) (.c .non))) .nil))) (.v 10) (.of (.v 2)) (.cons (.cmp .isnot (.v 10) (.c .non)) .nil))
def sNum : IS := .ite (.cmp .is (.v 7) (.c .non)) (.cons (.asg (.v 9) sRows) (.cons (.ret (.trim (.tup (.cons (.c (.str "numbers")) (.cons (.blt .tuple (.cons (.blt .sorted (.cons (.v 9) .nil)) .nil)) .nil))))) .nil)) .nil
def sRing (r : Nat) : IS := .ret (.trim (.tup (.cons (.c (.str "ring")) (.cons (.call r (.cons (.v 0) (.cons (.v 3) (.cons (.sub (.sub (.v 0) (.v 7)) (.c (.int 0))) .nil)))) .nil))))
def solvedF (r : Nat) : FD := ⟨1, 11, .cons sInit (.cons sFill (.cons (.for (.v 1) (.rng1 (.bin .add (.blt .len (.cons (.v 2) .nil)) (.c (.int 1)))) (.cons (.asg (.v 7) (.c .non)) (.cons sLow (.cons sNum .nil)))) (.cons (sRing r) .nil)))⟩

/-- None or a text -/
def IsN (x : P) : Prop := x = .non ∨ ∃ s, x = .str s ∧ PyData.strOk s = true
theorem IsN.node {x : P} (h : IsN x) : Node x := by
  rcases h with rfl | ⟨s, rfl, h⟩
  · exact ⟨rfl, rfl⟩
  · exact ⟨rfl, h⟩
def NetOk (E : List Lt) : Prop := ∀ e ∈ E, IsN e.1 ∧ IsN e.2.1
variable {E : List Lt}
theorem seq_net (h : Hh) : seqOf h (.p (netP E)) = some (E.map fun e => .p (litP e)) := by
  show some ((E.map litP).map D.p) = _
  rw [List.map_map]
  rfl
theorem items_lit (e : Lt) : D.items (.p (litP e)) = some [.p e.1, .p e.2.1, .p (.int e.2.2)] := rfl
theorem at_net {i : Nat} {d : D} (h : (E.map fun e => D.p (litP e))[i]? = some d) : ∃ e, E[i]? = some e ∧ d = .p (litP e) ∧ e ∈ E ∧ i < E.length := by
  rw [List.getElem?_map, Option.map_eq_some_iff] at h
  obtain ⟨e, he, rfl⟩ := h
  exact ⟨e, he, rfl, List.mem_of_getElem? he, (List.getElem?_eq_some_iff.mp he).1⟩
theorem lt3 : ([1, 2, 3] : List Nat).length = 3 := rfl
/-- the names of a net -/
structure Names (E : List Lt) (ns : List P) : Prop where
  non : P.non ∈ ns
  nd : ns.Nodup
  ok : ∀ x ∈ ns, IsN x
  lit : ∀ e ∈ E, e.1 ∈ ns ∧ e.2.1 ∈ ns
  only : ∀ x ∈ ns, x = .non ∨ ∃ e ∈ E, x = e.1 ∨ x = e.2.1
  few : ns.length ≤ 1 + 2 * E.length
section
variable {g : G} {h : Hh}
theorem fill_ok (ok : NetOk E) (few : E.length < 100000) {s1 s4 s5 s6 s7 s8 s9 s10 : Option D} {B C : SH} {Q : D → Hh → Prop} :
    Pv.Run (evS g sFill [some (.p (netP E)), s1, some (.r h.length), some (.r (h.length + 1)), s4, s5, s6, s7, s8, s9, s10] (h ++ [.dct (Wd [.non] fun _ => 0), .dct []]))
      (fun s h' => ∃ ns s4 s5 s6, Names E ns ∧ s = [some (.p (netP E)), s1, some (.r h.length), some (.r (h.length + 1)), s4, s5, s6, s7, s8, s9, s10] ∧ h' = h ++ [.dct (Wd ns fun _ => 0), .dct []]) B C Q := by
  unfold sFill
  rw [evS.eq_9]
  have it : evI g (.of (.v 0)) [some (.p (netP E)), s1, some (.r h.length), some (.r (h.length + 1)), s4, s5, s6, s7, s8, s9, s10] (h ++ [.dct (Wd [.non] fun _ => 0), .dct []]) = .ok (E.map fun e => .p (litP e), []) (h ++ [.dct (Wd [.non] fun _ => 0), .dct []]) := by
    simp only [evSs, evS.eq_1, evS.eq_2, evS.eq_3, evS.eq_4, evS.eq_5, evS.eq_6, evS.eq_7, evS.eq_10, evS.eq_11, evS.eq_12, evS.eq_13, evS.eq_14, evE.eq_1, evE.eq_2, evE.eq_3, evE.eq_4, evE.eq_5, evE.eq_6, evE.eq_7, evE.eq_8, evE.eq_9, evE.eq_10, evE.eq_11, evE.eq_12, evE.eq_13, evE.eq_14, evE.eq_15, evE.eq_16, evE.eq_17, evE.eq_18, evE.eq_19, evE.eq_21, evE.eq_22, evE.eq_23, evE.eq_24, evE.eq_25, evE.eq_26,  evEs, evO, evTs, evI, asgT, asgTs, slot, startD, R.of_some, R.of_none, R.bind_ok, R.bind_stuck, R.then_ok, RS.seq_next, RS.seq_ret, RS.seq_brk, RS.seq_cont, List.getElem?_cons_zero, List.getElem?_cons_succ, List.set_cons_zero, List.set_cons_succ, List.set_set, add_ii, sub_ii, mul_ii, mod_ii, fdiv_ii, pow_lit, blt_int, blt_max, blt_min, blt_abs, aug_ii, tr_bl, lt_ii, le_ii, gt_ii, ge_ii, eq_ii, ne_ii, trim_p0, if_true, Bool.not_true, Bool.not_false, Bool.false_eq_true, if_false, R.tr_ok_bl, gOf_call, mkT_p2, len_t, sz1, sz2, sz3, sz4, sz6, D.items, seq_net, gdOf]
  rw [it, R.then_ok]
  refine loopS_run (fun i s h' => ∃ ns s4 s5 s6, (P.non ∈ ns ∧ ns.Nodup ∧ (∀ x ∈ ns, IsN x) ∧ (∀ e ∈ E.take i, e.1 ∈ ns ∧ e.2.1 ∈ ns) ∧ (∀ x ∈ ns, x = .non ∨ ∃ e ∈ E, x = e.1 ∨ x = e.2.1) ∧ ns.length ≤ 1 + 2 * i) ∧ s = [some (.p (netP E)), s1, some (.r h.length), some (.r (h.length + 1)), s4, s5, s6, s7, s8, s9, s10] ∧ h' = h ++ [.dct (Wd ns fun _ => 0), .dct []])
    _ _ (E.map fun e => .p (litP e)) ?_ ?_ _ 0 _ _ rfl ⟨[.non], s4, s5, s6, ⟨List.mem_singleton.mpr rfl, by simp, fun x hx => .inl (List.mem_singleton.mp hx), (fun _ z => by simp at z), fun x hx => .inl (List.mem_singleton.mp hx), by simp⟩, rfl, rfl⟩ (Nat.zero_le _)
  · rintro i d s h' hd ⟨ns, s4, s5, s6, ⟨n1, n2, n3, n4, n5, n6⟩, rfl, rfl⟩
    obtain ⟨e, he, rfl, hm, hi⟩ := at_net hd
    obtain ⟨o1, o2⟩ := ok e hm
    have lf : ∀ ns : List P, (∀ x ∈ ns, IsN x) → ∀ y, IsN y → kFit (Wd ns fun _ => 0) y = true := fun ns h y hy => kfit_leaf hy.node.1 (wd_lfs _ fun x hx => (h x hx).node.1)
    have n3' : ∀ x ∈ addk ns e.1, IsN x := fun x hx => by
      rcases addk_mem.mp hx with hx | rfl
      · exact n3 x hx
      · exact o1
    have n3'' : ∀ x ∈ addk (addk ns e.1) e.2.1, IsN x := fun x hx => by
      rcases addk_mem.mp hx with hx | rfl
      · exact n3' x hx
      · exact o2
    have l1 := addk_len (ns := ns) (k := e.1)
    have l2 := addk_len (ns := addk ns e.1) (k := e.2.1)
    have p1 := put_dct (.p (.int 0)) (hg0 h (.dct (Wd ns fun _ => 0)) [.dct []]) (lf ns n3 e.1 o1) (by rw [wd_len, sizeLine_v]; omega)
    have p2 := put_dct (.p (.int 0)) (hg0 h (.dct (Wd (addk ns e.1) fun _ => 0)) [.dct []]) (lf _ n3' e.2.1 o2) (by rw [wd_len, sizeLine_v]; omega)
    rw [wd_put0, hs0] at p1 p2
    refine ⟨rfl, ?_⟩
    simp only [evSs, evS.eq_1, evS.eq_2, evS.eq_3, evS.eq_4, evS.eq_5, evS.eq_6, evS.eq_7, evS.eq_10, evS.eq_11, evS.eq_12, evS.eq_13, evS.eq_14, evE.eq_1, evE.eq_2, evE.eq_3, evE.eq_4, evE.eq_5, evE.eq_6, evE.eq_7, evE.eq_8, evE.eq_9, evE.eq_10, evE.eq_11, evE.eq_12, evE.eq_13, evE.eq_14, evE.eq_15, evE.eq_16, evE.eq_17, evE.eq_18, evE.eq_19, evE.eq_21, evE.eq_22, evE.eq_23, evE.eq_24, evE.eq_25, evE.eq_26,  evEs, evO, evTs, evI, asgT, asgTs, slot, startD, R.of_some, R.of_none, R.bind_ok, R.bind_stuck, R.then_ok, RS.seq_next, RS.seq_ret, RS.seq_brk, RS.seq_cont, List.getElem?_cons_zero, List.getElem?_cons_succ, List.set_cons_zero, List.set_cons_succ, List.set_set, add_ii, sub_ii, mul_ii, mod_ii, fdiv_ii, pow_lit, blt_int, blt_max, blt_min, blt_abs, aug_ii, tr_bl, lt_ii, le_ii, gt_ii, ge_ii, eq_ii, ne_ii, trim_p0, if_true, Bool.not_true, Bool.not_false, Bool.false_eq_true, if_false, R.tr_ok_bl, gOf_call, mkT_p2, len_t, sz1, sz2, sz3, sz4, sz6, D.items, hg0, hg1, hg2, hg3, hs0, hs1, hs2, hs3, hl1, hl2, hl3, hl4, List.append_assoc, List.cons_append, List.nil_append, List.append_nil, mk, pairUp, List.map_cons, List.map_nil, List.length_cons, List.length_nil, List.replicate, Nat.zero_le, litP, mkT_p2, p1, p2]
    refine ⟨addk (addk ns e.1) e.2.1, some (.p e.1), some (.p e.2.1), some (.p (.int e.2.2)), ⟨addk_mem.mpr (.inl (addk_mem.mpr (.inl n1))), addk_nodup (addk_nodup n2), n3'', fun x hx => ?_, fun x hx => ?_, by omega⟩, rfl, trimS_same (by rw [hl2, hl2])⟩
    · rw [List.take_add_one, he] at hx
      rcases List.mem_append.mp hx with hx | hx
      · obtain ⟨a, b⟩ := n4 x hx
        exact ⟨addk_mem.mpr (.inl (addk_mem.mpr (.inl a))), addk_mem.mpr (.inl (addk_mem.mpr (.inl b)))⟩
      · have : x = e := by simpa using hx
        subst this
        exact ⟨addk_mem.mpr (.inl (addk_mem.mpr (.inr rfl))), addk_mem.mpr (.inr rfl)⟩
    · rcases addk_mem.mp hx with hx | rfl
      · rcases addk_mem.mp hx with hx | rfl
        · exact n5 x hx
        · exact .inr ⟨e, hm, .inl rfl⟩
      · exact .inr ⟨e, hm, .inr rfl⟩
  · rintro s h' ⟨ns, s4, s5, s6, ⟨n1, n2, n3, n4, n5, n6⟩, rfl, rfl⟩
    rw [List.length_map] at n4 n6
    rw [List.take_length] at n4
    exact ⟨rfl, ns, s4, s5, s6, ⟨n1, n2, n3, n4, n5, n6⟩, rfl, rfl⟩

/-- the state of a round -/
structure Turn (E : List Lt) (ns : List P) (kl : Kvs) (W : P → Int) (L : P → Option Nat) : Prop where
  ld : LD kl L
  keys : KeysIn kl ns
  prd : ∃ T t, Prd E W L T ∧ ∀ k, T k < t
theorem up_eq (W : P → Int) (k : P) (x : Int) : (fun y => if y = k then x else W y) = up W k x := rfl
theorem LD.put {kl : Kvs} {L : P → Option Nat} {k : P} (h : LD kl L) (i : Nat) (hk : k.leaf = true) (lf : lfs (dPut kl k (.p (.int i))) = true) : LD (dPut kl k (.p (.int i))) (up L k (some i)) := by
  refine ⟨fun x => ?_, lf⟩
  rw [dget_put]
  unfold up
  split
  · rfl
  · exact h.get x
theorem Turn.step {ns : List P} {kl : Kvs} {W : P → Int} {L : P → Option Nat} (t : Turn E ns kl W L) (nm : Names E ns) {i : Nat} {e : Lt} (he : E[i]? = some e) (lt : W e.2.1 + e.2.2 < W e.1) :
    Turn E ns (dPut kl e.1 (.p (.int i))) (up W e.1 (W e.2.1 + e.2.2)) (up L e.1 (some i)) := by
  obtain ⟨T, z, p, q⟩ := t.prd
  have hm := List.mem_of_getElem? he
  have ky := t.keys.put (nm.lit e hm).1 (.p (.int i))
  have lf := ky.lfs fun x hx => (nm.ok x hx).node.1
  refine ⟨t.ld.put i (nm.ok _ (nm.lit e hm).1).node.1 lf, ky, up T e.1 z, z + 1, p.step he q lt, fun k => ?_⟩
  unfold up
  split
  · omega
  · have := q k; omega
theorem low_ok {ns : List P} (nm : Names E ns) (few : E.length < 100000) {W0 : P → Int} {kl0 : Kvs} {L0 : P → Option Nat} (t0 : Turn E ns kl0 W0 L0) {s1 s4 s5 s6 s8 s9 s10 : Option D} {B C : SH} {Q : D → Hh → Prop} :
    Pv.Run (evS g sLow [some (.p (netP E)), s1, some (.r h.length), some (.r (h.length + 1)), s4, s5, s6, some (.p .non), s8, s9, s10] (h ++ [.dct (Wd ns W0), .dct kl0]))
      (fun s h' => ∃ W L kl s4 s5 s6 s7 s8, s = [some (.p (netP E)), s1, some (.r h.length), some (.r (h.length + 1)), s4, s5, s6, some s7, s8, s9, s10] ∧ h' = h ++ [.dct (Wd ns W), .dct kl] ∧ Turn E ns kl W L ∧ (∀ k, W k ≤ W0 k) ∧ (∀ e ∈ E, W e.1 ≤ W0 e.2.1 + e.2.2) ∧
        ((s7 = .p .non ∧ W = W0) ∨ ∃ (m : Nat) (e : Lt), s7 = .p (.int m) ∧ E[m]? = some e ∧ W e.1 < W0 e.1)) B C Q := by
  unfold sLow
  rw [evS.eq_9]
  have it : evI g (.enum (.v 0)) [some (.p (netP E)), s1, some (.r h.length), some (.r (h.length + 1)), s4, s5, s6, some (.p .non), s8, s9, s10] (h ++ [.dct (Wd ns W0), .dct kl0]) = .ok (zips (nums 0 (E.map fun e => D.p (litP e)).length) (E.map fun e => .p (litP e)), []) (h ++ [.dct (Wd ns W0), .dct kl0]) := by
    simp only [evSs, evS.eq_1, evS.eq_2, evS.eq_3, evS.eq_4, evS.eq_5, evS.eq_6, evS.eq_7, evS.eq_10, evS.eq_11, evS.eq_12, evS.eq_13, evS.eq_14, evE.eq_1, evE.eq_2, evE.eq_3, evE.eq_4, evE.eq_5, evE.eq_6, evE.eq_7, evE.eq_8, evE.eq_9, evE.eq_10, evE.eq_11, evE.eq_12, evE.eq_13, evE.eq_14, evE.eq_15, evE.eq_16, evE.eq_17, evE.eq_18, evE.eq_19, evE.eq_21, evE.eq_22, evE.eq_23, evE.eq_24, evE.eq_25, evE.eq_26,  evEs, evO, evTs, evI, asgT, asgTs, slot, startD, R.of_some, R.of_none, R.bind_ok, R.bind_stuck, R.then_ok, RS.seq_next, RS.seq_ret, RS.seq_brk, RS.seq_cont, List.getElem?_cons_zero, List.getElem?_cons_succ, List.set_cons_zero, List.set_cons_succ, List.set_set, add_ii, sub_ii, mul_ii, mod_ii, fdiv_ii, pow_lit, blt_int, blt_max, blt_min, blt_abs, aug_ii, tr_bl, lt_ii, le_ii, gt_ii, ge_ii, eq_ii, ne_ii, trim_p0, if_true, Bool.not_true, Bool.not_false, Bool.false_eq_true, if_false, R.tr_ok_bl, gOf_call, mkT_p2, len_t, sz1, sz2, sz3, sz4, sz6, D.items, seq_net, gdOf]
  rw [it, R.then_ok]
  have zl : (zips (nums 0 (E.map fun e => D.p (litP e)).length) (E.map fun e => D.p (litP e))).length = E.length := by rw [zipsLen, List.length_map]
  refine loopS_run (fun i s h' => ∃ W L kl s4 s5 s6 s7 s8, s = [some (.p (netP E)), s1, some (.r h.length), some (.r (h.length + 1)), s4, s5, s6, some s7, s8, s9, s10] ∧ h' = h ++ [.dct (Wd ns W), .dct kl] ∧ Turn E ns kl W L ∧ (∀ k, W k ≤ W0 k) ∧ (∀ e ∈ E.take i, W e.1 ≤ W0 e.2.1 + e.2.2) ∧
        ((s7 = .p .non ∧ W = W0) ∨ ∃ (m : Nat) (e : Lt), s7 = .p (.int m) ∧ E[m]? = some e ∧ W e.1 < W0 e.1))
    _ _ (zips (nums 0 (E.map fun e => D.p (litP e)).length) (E.map fun e => .p (litP e))) ?_ ?_ _ 0 _ _ rfl ⟨W0, L0, kl0, s4, s5, s6, _, s8, rfl, rfl, t0, fun _ => Int.le_refl _, (fun _ z => by simp at z), .inl ⟨rfl, rfl⟩⟩ (Nat.zero_le _)
  · rintro i d s h' hd ⟨W, L, kl, s4, s5, s6, s7, s8, rfl, rfl, t, le, done, low⟩
    rw [zipsAt, Option.map_eq_some_iff] at hd
    obtain ⟨d', hd, rfl⟩ := hd
    obtain ⟨e, he, rfl, hm, hi⟩ := at_net hd
    obtain ⟨k1, k2⟩ := nm.lit e hm
    have lfW : lfs (Wd ns W) = true := wd_lfs _ fun x hx => (nm.ok x hx).node.1
    have g1 : subS (.r h.length) (.p e.2.1) (h ++ [.dct (Wd ns W), .dct kl]) = .ok (.p (.int (W e.2.1))) (h ++ [.dct (Wd ns W), .dct kl]) := sub_dct (hg0 h _ _) (kfit_leaf (nm.ok _ k2).node.1 lfW) (wd_get W k2)
    have g2 : subS (.r h.length) (.p e.1) (h ++ [.dct (Wd ns W), .dct kl]) = .ok (.p (.int (W e.1))) (h ++ [.dct (Wd ns W), .dct kl]) := sub_dct (hg0 h _ _) (kfit_leaf (nm.ok _ k1).node.1 lfW) (wd_get W k1)
    refine ⟨rfl, ?_⟩
    by_cases lt : W e.2.1 + e.2.2 < W e.1
    · have p1 := put_dct (.p (.int (W e.2.1 + e.2.2))) (hg0 h (.dct (Wd ns W)) [.dct kl]) (kfit_leaf (nm.ok _ k1).node.1 lfW) (by rw [wd_len, sizeLine_v]; have := nm.few; omega)
      rw [wd_put _ _ k1, hs0, up_eq] at p1
      have lk : kl.length ≤ ns.length := by
        have := pig t.keys.1 t.keys.2
        rwa [List.length_map] at this
      have p2 := put_dct (.p (.int (i : Int))) (hg1 h (.dct (Wd ns (up W e.1 (W e.2.1 + e.2.2)))) (.dct kl) []) (kfit_leaf (nm.ok _ k1).node.1 t.ld.lf) (by rw [sizeLine_v]; have := nm.few; omega)
      rw [hs1] at p2
      have m3 : mkT [.p (.int (W e.2.1 + e.2.2)), .p (.int (i : Int)), .p (.int (i : Int))] = .p (.tup [.int (W e.2.1 + e.2.2), .int i, .int i]) := rfl
      simp only [evSs, evS.eq_1, evS.eq_2, evS.eq_3, evS.eq_4, evS.eq_5, evS.eq_6, evS.eq_7, evS.eq_10, evS.eq_11, evS.eq_12, evS.eq_13, evS.eq_14, evE.eq_1, evE.eq_2, evE.eq_3, evE.eq_4, evE.eq_5, evE.eq_6, evE.eq_7, evE.eq_8, evE.eq_9, evE.eq_10, evE.eq_11, evE.eq_12, evE.eq_13, evE.eq_14, evE.eq_15, evE.eq_16, evE.eq_17, evE.eq_18, evE.eq_19, evE.eq_21, evE.eq_22, evE.eq_23, evE.eq_24, evE.eq_25, evE.eq_26,  evEs, evO, evTs, evI, asgT, asgTs, slot, startD, R.of_some, R.of_none, R.bind_ok, R.bind_stuck, R.then_ok, RS.seq_next, RS.seq_ret, RS.seq_brk, RS.seq_cont, List.getElem?_cons_zero, List.getElem?_cons_succ, List.set_cons_zero, List.set_cons_succ, List.set_set, add_ii, sub_ii, mul_ii, mod_ii, fdiv_ii, pow_lit, blt_int, blt_max, blt_min, blt_abs, aug_ii, tr_bl, lt_ii, le_ii, gt_ii, ge_ii, eq_ii, ne_ii, trim_p0, if_true, Bool.not_true, Bool.not_false, Bool.false_eq_true, if_false, R.tr_ok_bl, gOf_call, mkT_p2, len_t, sz1, sz2, sz3, sz4, sz6, D.items, hg0, hg1, hg2, hg3, hs0, hs1, hs2, hs3, hl1, hl2, hl3, hl4, List.append_assoc, List.cons_append, List.nil_append, List.append_nil, mk, pairUp, List.map_cons, List.map_nil, List.length_cons, List.length_nil, List.replicate, Nat.zero_le, litP, Int.zero_add, g1, g2, decide_eq_true lt, m3, p1, p2]
      refine ⟨up W e.1 (W e.2.1 + e.2.2), up L e.1 (some i), dPut kl e.1 (.p (.int (i : Int))), _, _, _, _, _, rfl, trimS_same (by rw [hl2, hl2]), t.step nm he lt, fun k => ?_, fun x hx => ?_, .inr ⟨i, e, rfl, he, ?_⟩⟩
      · unfold up
        split
        · rename_i q; subst q; have := le e.1; omega
        · exact le k
      · have down : ∀ k, up W e.1 (W e.2.1 + e.2.2) k ≤ W k := fun k => by
          unfold up
          split
          · rename_i q; subst q; omega
          · exact Int.le_refl _
        rw [List.take_add_one, he] at hx
        rcases List.mem_append.mp hx with hx | hx
        · exact Int.le_trans (down _) (done x hx)
        · have : x = e := by simpa using hx
          subst this
          rw [up_at]
          have := le x.2.1
          omega
      · rw [up_at]
        have := le e.1
        omega
    · simp only [evSs, evS.eq_1, evS.eq_2, evS.eq_3, evS.eq_4, evS.eq_5, evS.eq_6, evS.eq_7, evS.eq_10, evS.eq_11, evS.eq_12, evS.eq_13, evS.eq_14, evE.eq_1, evE.eq_2, evE.eq_3, evE.eq_4, evE.eq_5, evE.eq_6, evE.eq_7, evE.eq_8, evE.eq_9, evE.eq_10, evE.eq_11, evE.eq_12, evE.eq_13, evE.eq_14, evE.eq_15, evE.eq_16, evE.eq_17, evE.eq_18, evE.eq_19, evE.eq_21, evE.eq_22, evE.eq_23, evE.eq_24, evE.eq_25, evE.eq_26,  evEs, evO, evTs, evI, asgT, asgTs, slot, startD, R.of_some, R.of_none, R.bind_ok, R.bind_stuck, R.then_ok, RS.seq_next, RS.seq_ret, RS.seq_brk, RS.seq_cont, List.getElem?_cons_zero, List.getElem?_cons_succ, List.set_cons_zero, List.set_cons_succ, List.set_set, add_ii, sub_ii, mul_ii, mod_ii, fdiv_ii, pow_lit, blt_int, blt_max, blt_min, blt_abs, aug_ii, tr_bl, lt_ii, le_ii, gt_ii, ge_ii, eq_ii, ne_ii, trim_p0, if_true, Bool.not_true, Bool.not_false, Bool.false_eq_true, if_false, R.tr_ok_bl, gOf_call, mkT_p2, len_t, sz1, sz2, sz3, sz4, sz6, D.items, hg0, hg1, hg2, hg3, hs0, hs1, hs2, hs3, hl1, hl2, hl3, hl4, List.append_assoc, List.cons_append, List.nil_append, List.append_nil, mk, pairUp, List.map_cons, List.map_nil, List.length_cons, List.length_nil, List.replicate, Nat.zero_le, litP, Int.zero_add, g1, g2, decide_eq_false lt]
      refine ⟨W, L, kl, _, _, _, s7, _, rfl, trimS_same rfl, t, le, fun x hx => ?_, low⟩
      rw [List.take_add_one, he] at hx
      rcases List.mem_append.mp hx with hx | hx
      · exact done x hx
      · have : x = e := by simpa using hx
        subst this
        have := le x.2.1
        omega
  · rintro s h' ⟨W, L, kl, s4, s5, s6, s7, s8, rfl, rfl, t, le, done, low⟩
    rw [zl, List.take_length] at done
    exact ⟨rfl, W, L, kl, s4, s5, s6, s7, s8, rfl, rfl, t, le, done, low⟩
/-- the numbers told -/
def rowsOf (ns : List P) (W : P → Int) : List P := (ns.filter fun k => !isNone (.p k)).map fun k => .tup [k, .int (W k - W .non)]
theorem rows_ok {ns : List P} (nm : Names E ns) (few : E.length < 100000) {W : P → Int} {kl : Kvs} {s1 s4 s5 s6 s7 s8 s9 s10 : Option D} :
    evE g sRows [some (.p (netP E)), s1, some (.r h.length), some (.r (h.length + 1)), s4, s5, s6, s7, s8, s9, s10] (h ++ [.dct (Wd ns W), .dct kl]) = .ok (.r (h.length + 2)) (h ++ [.dct (Wd ns W), .dct kl, .lst ((rowsOf ns W).map .p)]) := by
  unfold sRows
  have pk : lckAt (peek (.v 2) [some (.p (netP E)), s1, some (.r h.length), some (.r (h.length + 1)), s4, s5, s6, s7, s8, s9, s10] (h ++ [.dct (Wd ns W), .dct kl])) (h ++ [.dct (Wd ns W), .dct kl]) = some (h.length, Wd ns W) := by
    simp only [lckAt, peek, slot, List.getElem?_cons_zero, List.getElem?_cons_succ, Option.bind_some, dmOf, hg0]
  have lfW : lfs (Wd ns W) = true := wd_lfs _ fun x hx => (nm.ok x hx).node.1
  rw [evE.eq_27, pk]
  dsimp only
  rw [hs0, comp_eq]
  have it : evI g (.of (.v 2)) [some (.p (netP E)), s1, some (.r h.length), some (.r (h.length + 1)), s4, s5, s6, s7, s8, s9, s10] (h ++ [.lck (Wd ns W), .dct kl]) = .ok (ns.map .p, [(h.length, .lck (Wd ns W))]) (h ++ [.lck (Wd ns W), .dct kl]) := by
    have e1 : seqOf (h ++ [.lck (Wd ns W), .dct kl]) (.r h.length) = none := by simp only [seqOf, lstOf, hg0]
    have e2 : lckOf (h ++ [.lck (Wd ns W), .dct kl]) (.r h.length) = some (Wd ns W) := by simp only [lckOf, hg0]
    have e3 : (Wd ns W).map (fun kv => D.p kv.1) = ns.map .p := by unfold Wd; rw [List.map_map]; rfl
    simp only [evSs, evS.eq_1, evS.eq_2, evS.eq_3, evS.eq_4, evS.eq_5, evS.eq_6, evS.eq_7, evS.eq_10, evS.eq_11, evS.eq_12, evS.eq_13, evS.eq_14, evE.eq_1, evE.eq_2, evE.eq_3, evE.eq_4, evE.eq_5, evE.eq_6, evE.eq_7, evE.eq_8, evE.eq_9, evE.eq_10, evE.eq_11, evE.eq_12, evE.eq_13, evE.eq_14, evE.eq_15, evE.eq_16, evE.eq_17, evE.eq_18, evE.eq_19, evE.eq_21, evE.eq_22, evE.eq_23, evE.eq_24, evE.eq_25, evE.eq_26,  evEs, evO, evTs, evI, asgT, asgTs, slot, startD, R.of_some, R.of_none, R.bind_ok, R.bind_stuck, R.then_ok, RS.seq_next, RS.seq_ret, RS.seq_brk, RS.seq_cont, List.getElem?_cons_zero, List.getElem?_cons_succ, List.set_cons_zero, List.set_cons_succ, List.set_set, add_ii, sub_ii, mul_ii, mod_ii, fdiv_ii, pow_lit, blt_int, blt_max, blt_min, blt_abs, aug_ii, tr_bl, lt_ii, le_ii, gt_ii, ge_ii, eq_ii, ne_ii, trim_p0, if_true, Bool.not_true, Bool.not_false, Bool.false_eq_true, if_false, R.tr_ok_bl, gOf_call, mkT_p2, len_t, sz1, sz2, sz3, sz4, sz6, D.items, e1, e2, e3, gdOf, hg0]
  rw [it, R.bind_ok]
  dsimp only
  have lp := loopC_map (h ++ [.lck (Wd ns W), .dct kl]) [(h.length, .lck (Wd ns W))] (bodyC g [10] (.v 10) (.cons (.cmp .isnot (.v 10) (.c .non)) .nil) (.tup (.cons (.v 10) (.cons (.bin .sub (.sub (.v 2) (.v 10)) (.sub (.v 2) (.c .non))) .nil))) [some (.p (netP E)), s1, some (.r h.length), some (.r (h.length + 1)), s4, s5, s6, s7, s8, s9, s10])
    (fun d => match d with
      | .p k => if isNone (.p k) then none else some (.p (.tup [k, .int (W k - W .non)]))
      | _ => none) (fun a => by simp only [Gd.ok_cons, Gd.ok_nil, List.append_assoc, List.cons_append, List.nil_append, hg0, Bool.and_true, decide_true]) (ns.map .p) [] (fun d hd a => by
      obtain ⟨k, hk, rfl⟩ := List.mem_map.mp hd
      have dc : ∀ x ∈ ns, subS (.r h.length) (.p x) (h ++ [.lck (Wd ns W), .dct kl, .lst a]) = .ok (.p (.int (W x))) (h ++ [.lck (Wd ns W), .dct kl, .lst a]) := fun x hx => by
        have e : dctOf (h ++ [.lck (Wd ns W), .dct kl, .lst a]) (.r h.length) = some (Wd ns W) := by simp only [dctOf, hg0]
        unfold subS
        rw [e]
        simp only [kfit_leaf (nm.ok _ hx).node.1 lfW, if_true, wd_get W hx]
        rfl
      by_cases q : isNone (.p k) = true
      · simp only [bodyC, evSs, evS.eq_1, evS.eq_2, evS.eq_3, evS.eq_4, evS.eq_5, evS.eq_6, evS.eq_7, evS.eq_10, evS.eq_11, evS.eq_12, evS.eq_13, evS.eq_14, evE.eq_1, evE.eq_2, evE.eq_3, evE.eq_4, evE.eq_5, evE.eq_6, evE.eq_7, evE.eq_8, evE.eq_9, evE.eq_10, evE.eq_11, evE.eq_12, evE.eq_13, evE.eq_14, evE.eq_15, evE.eq_16, evE.eq_17, evE.eq_18, evE.eq_19, evE.eq_21, evE.eq_22, evE.eq_23, evE.eq_24, evE.eq_25, evE.eq_26,  evEs, evO, evTs, evI, asgT, asgTs, slot, startD, R.of_some, R.of_none, R.bind_ok, R.bind_stuck, R.then_ok, RS.seq_next, RS.seq_ret, RS.seq_brk, RS.seq_cont, List.getElem?_cons_zero, List.getElem?_cons_succ, List.set_cons_zero, List.set_cons_succ, List.set_set, add_ii, sub_ii, mul_ii, mod_ii, fdiv_ii, pow_lit, blt_int, blt_max, blt_min, blt_abs, aug_ii, tr_bl, lt_ii, le_ii, gt_ii, ge_ii, eq_ii, ne_ii, trim_p0, if_true, Bool.not_true, Bool.not_false, Bool.false_eq_true, if_false, R.tr_ok_bl, gOf_call, mkT_p2, len_t, sz1, sz2, sz3, sz4, sz6, D.items, hg0, hg1, hg2, hg3, hs0, hs1, hs2, hs3, hl1, hl2, hl3, hl4, List.append_assoc, List.cons_append, List.nil_append, List.append_nil, mk, pairUp, List.map_cons, List.map_nil, List.length_cons, List.length_nil, List.replicate, Nat.zero_le, wipeD, cmpS, q]
      · have q : isNone (.p k) = false := by simpa using q
        simp only [bodyC, evSs, evS.eq_1, evS.eq_2, evS.eq_3, evS.eq_4, evS.eq_5, evS.eq_6, evS.eq_7, evS.eq_10, evS.eq_11, evS.eq_12, evS.eq_13, evS.eq_14, evE.eq_1, evE.eq_2, evE.eq_3, evE.eq_4, evE.eq_5, evE.eq_6, evE.eq_7, evE.eq_8, evE.eq_9, evE.eq_10, evE.eq_11, evE.eq_12, evE.eq_13, evE.eq_14, evE.eq_15, evE.eq_16, evE.eq_17, evE.eq_18, evE.eq_19, evE.eq_21, evE.eq_22, evE.eq_23, evE.eq_24, evE.eq_25, evE.eq_26,  evEs, evO, evTs, evI, asgT, asgTs, slot, startD, R.of_some, R.of_none, R.bind_ok, R.bind_stuck, R.then_ok, RS.seq_next, RS.seq_ret, RS.seq_brk, RS.seq_cont, List.getElem?_cons_zero, List.getElem?_cons_succ, List.set_cons_zero, List.set_cons_succ, List.set_set, add_ii, sub_ii, mul_ii, mod_ii, fdiv_ii, pow_lit, blt_int, blt_max, blt_min, blt_abs, aug_ii, tr_bl, lt_ii, le_ii, gt_ii, ge_ii, eq_ii, ne_ii, trim_p0, if_true, Bool.not_true, Bool.not_false, Bool.false_eq_true, if_false, R.tr_ok_bl, gOf_call, mkT_p2, len_t, sz1, sz2, sz3, sz4, sz6, D.items, hg0, hg1, hg2, hg3, hs0, hs1, hs2, hs3, hl1, hl2, hl3, hl4, List.append_assoc, List.cons_append, List.nil_append, List.append_nil, mk, pairUp, List.map_cons, List.map_nil, List.length_cons, List.length_nil, List.replicate, Nat.zero_le, wipeD, cmpS, q, dc k hk, dc .non nm.non]) (by rw [List.length_map, sizeLine_v]; have := nm.few; simp only [List.length_nil]; omega)
  rw [lp]
  have fm : (ns.map D.p).filterMap (fun d => match d with
      | .p k => if isNone (.p k) then none else some (D.p (.tup [k, .int (W k - W .non)]))
      | _ => none) = (rowsOf ns W).map .p := by
    clear lp it pk lfW nm
    unfold rowsOf
    induction ns with
    | nil => rfl
    | cons k ns ih =>
      by_cases q : isNone (.p k) = true
      · simp only [List.map_cons, List.filterMap_cons, q, if_true, ih, List.filter_cons, Bool.not_true, Bool.false_eq_true, if_false]
      · have q : isNone (.p k) = false := by simpa using q
        simp only [List.map_cons, List.filterMap_cons, q, Bool.false_eq_true, if_false, ih, List.filter_cons, Bool.not_false, if_true]
  rw [fm, List.nil_append, R.bind_ok, hl2]
  simp only [unlck, unlckH, List.append_assoc, List.cons_append, List.nil_append, hg0, hs0, if_true]
theorem sortable_rows {ns : List P} (nm : Names E ns) {W : P → Int} : sortable (rowsOf ns W) = true := by
  have sh : ∀ x ∈ rowsOf ns W, ∃ s i, x = .tup [.str s, .int i] := fun x hx => by
    obtain ⟨k, hk, rfl⟩ := List.mem_map.mp hx
    obtain ⟨hk, q⟩ := List.mem_filter.mp hk
    rcases nm.ok k hk with rfl | ⟨s, rfl, _⟩
    · cases q
    · exact ⟨s, _, rfl⟩
  unfold sortable
  simp only [Bool.and_eq_true, Bool.or_eq_true, List.all_eq_true, decide_eq_true_eq]
  refine ⟨⟨fun x hx y hy => ?_, .inl fun x hx => ?_⟩, fun x hx => ?_⟩
  · obtain ⟨s, i, rfl⟩ := sh x hx
    obtain ⟨s', i', rfl⟩ := sh y hy
    simp [P.alike, P.py, P.pys, PySem.W.alike, PySem.W.alikeAll]
  · obtain ⟨s, i, rfl⟩ := sh x hx
    rfl
  · obtain ⟨s, i, rfl⟩ := sh x hx
    show (P.tup [.str s, .int i]).depth ≤ 64
    simp [P.depth, P.depths]
def numP (ns : List P) (W : P → Int) : P := .tup [.str "numbers", .tup ((rowsOf ns W).mergeSort P.le)]
theorem num_ok {ns : List P} (nm : Names E ns) (few : E.length < 100000) {W : P → Int} {kl : Kvs} {s1 s4 s5 s6 s8 s9 s10 : Option D} {N B C : SH} {Q : D → Hh → Prop} (q : ∀ t, Q (.p (numP ns W)) (h ++ t)) :
    Pv.Run (evS g sNum [some (.p (netP E)), s1, some (.r h.length), some (.r (h.length + 1)), s4, s5, s6, some (.p .non), s8, s9, s10] (h ++ [.dct (Wd ns W), .dct kl])) N B C Q := by
  have r := rows_ok (g := g) (h := h) nm few (W := W) (kl := kl) (s1 := s1) (s4 := s4) (s5 := s5) (s6 := s6) (s7 := some (.p .non)) (s8 := s8) (s9 := s9) (s10 := s10)
  have lo : lstOf (h ++ [.dct (Wd ns W), .dct kl, .lst ((rowsOf ns W).map .p)]) (.r (h.length + 2)) = some ((rowsOf ns W).map .p) := by simp only [lstOf, hg2]
  have so : bltS .sorted [.r (h.length + 2)] (h ++ [.dct (Wd ns W), .dct kl, .lst ((rowsOf ns W).map .p)]) = .ok (.r (h.length + 3)) (h ++ [.dct (Wd ns W), .dct kl, .lst ((rowsOf ns W).map .p), .lst (((rowsOf ns W).mergeSort P.le).map .p)]) := by
    simp only [bltS, lo, pures_map, sortable_rows nm, if_true, mk, hl3, List.append_assoc, List.cons_append, List.nil_append]
  have lo2 : lstOf (h ++ [.dct (Wd ns W), .dct kl, .lst ((rowsOf ns W).map .p), .lst (((rowsOf ns W).mergeSort P.le).map .p)]) (.r (h.length + 3)) = some (((rowsOf ns W).mergeSort P.le).map .p) := by simp only [lstOf, hg3]
  have tu : bltS .tuple [.r (h.length + 3)] (h ++ [.dct (Wd ns W), .dct kl, .lst ((rowsOf ns W).map .p), .lst (((rowsOf ns W).mergeSort P.le).map .p)]) = .ok (.p (.tup ((rowsOf ns W).mergeSort P.le))) (h ++ [.dct (Wd ns W), .dct kl, .lst ((rowsOf ns W).map .p), .lst (((rowsOf ns W).mergeSort P.le).map .p)]) := by
    simp only [bltS, lo2, mkT_map]
  have tm := trim_p2 h [.lst (((rowsOf ns W).mergeSort P.le).map .p)] [.dct (Wd ns W), .dct kl, .lst ((rowsOf ns W).map .p)] (numP ns W)
  simp only [List.cons_append, List.nil_append] at tm
  unfold sNum
  simp only [evSs, evS.eq_1, evS.eq_2, evS.eq_3, evS.eq_4, evS.eq_5, evS.eq_6, evS.eq_7, evS.eq_10, evS.eq_11, evS.eq_12, evS.eq_13, evS.eq_14, evE.eq_1, evE.eq_2, evE.eq_3, evE.eq_4, evE.eq_5, evE.eq_6, evE.eq_7, evE.eq_8, evE.eq_9, evE.eq_10, evE.eq_11, evE.eq_12, evE.eq_13, evE.eq_14, evE.eq_15, evE.eq_16, evE.eq_17, evE.eq_18, evE.eq_19, evE.eq_21, evE.eq_22, evE.eq_23, evE.eq_24, evE.eq_25, evE.eq_26,  evEs, evO, evTs, evI, asgT, asgTs, slot, startD, R.of_some, R.of_none, R.bind_ok, R.bind_stuck, R.then_ok, RS.seq_next, RS.seq_ret, RS.seq_brk, RS.seq_cont, List.getElem?_cons_zero, List.getElem?_cons_succ, List.set_cons_zero, List.set_cons_succ, List.set_set, add_ii, sub_ii, mul_ii, mod_ii, fdiv_ii, pow_lit, blt_int, blt_max, blt_min, blt_abs, aug_ii, tr_bl, lt_ii, le_ii, gt_ii, ge_ii, eq_ii, ne_ii, trim_p0, if_true, Bool.not_true, Bool.not_false, Bool.false_eq_true, if_false, R.tr_ok_bl, gOf_call, mkT_p2, len_t, sz1, sz2, sz3, sz4, sz6, D.items, hg0, hg1, hg2, hg3, hs0, hs1, hs2, hs3, hl1, hl2, hl3, hl4, List.append_assoc, List.cons_append, List.nil_append, List.append_nil, mk, pairUp, List.map_cons, List.map_nil, List.length_cons, List.length_nil, List.replicate, Nat.zero_le, cmpS, isNone, r, so, tu, mkT_p2]
  rw [show (P.tup [P.str "numbers", P.tup ((rowsOf ns W).mergeSort P.le)]) = numP ns W from rfl, tm]
  exact q _

/-- the whole of it -/
inductive Told (E : List Lt) : P → Prop
  | num (ns : List P) (W : P → Int) : Names E ns → (∀ e ∈ E, W e.1 ≤ W e.2.1 + e.2.2) → (∃ L T, Prd E W L T) → (∀ k, W k ≤ 0) → Told E (numP ns W)
  | ring (L : P → Option Nat) (b : P) (post : List P) : Tr E L (b :: post) b → (b :: post).Nodup → wt (lits E ((b :: post).map (ix L))) < 0 → (∃ W T, Prd E W L T) → Told E (.tup [.str "ring", .tup ((b :: post).map fun x => .int (ix L x))])
theorem rnd_same {r : Nat} {W : P → Int} (h : Rnd E r W) (f : ∀ e ∈ E, W e.1 ≤ W e.2.1 + e.2.2) : Rnd E (r + 1) W := rnd_more h (fun _ => Int.le_refl _) f
theorem init_ok : evS g sInit (startD 11 [.p (netP E)]) h = .next [some (.p (netP E)), none, some (.r h.length), some (.r (h.length + 1)), none, none, none, none, none, none, none] (h ++ [.dct (Wd [.non] fun _ => 0), .dct []]) := by
  have l0 : lfs [(P.non, D.p (.int 0))] = true := rfl
  have l1 : lfs [] = true := rfl
  have m0 : mergeD [] [(P.non, D.p (.int 0))] = Wd [.non] fun _ => 0 := rfl
  have m1 : mergeD [] [] = [] := rfl
  have d1 : ∀ s, evE g (.dct (.cons (.c .non) (.cons (.c (.int 0)) .nil))) s h = .ok (.r h.length) (h ++ [.dct (Wd [.non] fun _ => 0)]) := fun s => by
    simp only [evSs, evS.eq_1, evS.eq_2, evS.eq_3, evS.eq_4, evS.eq_5, evS.eq_6, evS.eq_7, evS.eq_10, evS.eq_11, evS.eq_12, evS.eq_13, evS.eq_14, evE.eq_1, evE.eq_2, evE.eq_3, evE.eq_4, evE.eq_5, evE.eq_6, evE.eq_7, evE.eq_8, evE.eq_9, evE.eq_10, evE.eq_11, evE.eq_12, evE.eq_13, evE.eq_14, evE.eq_15, evE.eq_16, evE.eq_17, evE.eq_18, evE.eq_19, evE.eq_21, evE.eq_22, evE.eq_23, evE.eq_24, evE.eq_25, evE.eq_26,  evEs, evO, evTs, evI, asgT, asgTs, slot, startD, R.of_some, R.of_none, R.bind_ok, R.bind_stuck, R.then_ok, RS.seq_next, RS.seq_ret, RS.seq_brk, RS.seq_cont, List.getElem?_cons_zero, List.getElem?_cons_succ, List.set_cons_zero, List.set_cons_succ, List.set_set, add_ii, sub_ii, mul_ii, mod_ii, fdiv_ii, pow_lit, blt_int, blt_max, blt_min, blt_abs, aug_ii, tr_bl, lt_ii, le_ii, gt_ii, ge_ii, eq_ii, ne_ii, trim_p0, if_true, Bool.not_true, Bool.not_false, Bool.false_eq_true, if_false, R.tr_ok_bl, gOf_call, mkT_p2, len_t, sz1, sz2, sz3, sz4, sz6, D.items, hg0, hg1, hg2, hg3, hs0, hs1, hs2, hs3, hl1, hl2, hl3, hl4, List.append_assoc, List.cons_append, List.nil_append, List.append_nil, mk, pairUp, List.map_cons, List.map_nil, List.length_cons, List.length_nil, List.replicate, Nat.zero_le, l0, m0, Option.map_some]
    rw [if_pos (by simp)]
  have d2 : ∀ s, evE g (.dct .nil) s (h ++ [.dct (Wd [.non] fun _ => 0)]) = .ok (.r (h.length + 1)) (h ++ [.dct (Wd [.non] fun _ => 0), .dct []]) := fun s => by
    simp only [evSs, evS.eq_1, evS.eq_2, evS.eq_3, evS.eq_4, evS.eq_5, evS.eq_6, evS.eq_7, evS.eq_10, evS.eq_11, evS.eq_12, evS.eq_13, evS.eq_14, evE.eq_1, evE.eq_2, evE.eq_3, evE.eq_4, evE.eq_5, evE.eq_6, evE.eq_7, evE.eq_8, evE.eq_9, evE.eq_10, evE.eq_11, evE.eq_12, evE.eq_13, evE.eq_14, evE.eq_15, evE.eq_16, evE.eq_17, evE.eq_18, evE.eq_19, evE.eq_21, evE.eq_22, evE.eq_23, evE.eq_24, evE.eq_25, evE.eq_26,  evEs, evO, evTs, evI, asgT, asgTs, slot, startD, R.of_some, R.of_none, R.bind_ok, R.bind_stuck, R.then_ok, RS.seq_next, RS.seq_ret, RS.seq_brk, RS.seq_cont, List.getElem?_cons_zero, List.getElem?_cons_succ, List.set_cons_zero, List.set_cons_succ, List.set_set, add_ii, sub_ii, mul_ii, mod_ii, fdiv_ii, pow_lit, blt_int, blt_max, blt_min, blt_abs, aug_ii, tr_bl, lt_ii, le_ii, gt_ii, ge_ii, eq_ii, ne_ii, trim_p0, if_true, Bool.not_true, Bool.not_false, Bool.false_eq_true, if_false, R.tr_ok_bl, gOf_call, mkT_p2, len_t, sz1, sz2, sz3, sz4, sz6, D.items, hg0, hg1, hg2, hg3, hs0, hs1, hs2, hs3, hl1, hl2, hl3, hl4, List.append_assoc, List.cons_append, List.nil_append, List.append_nil, mk, pairUp, List.map_cons, List.map_nil, List.length_cons, List.length_nil, List.replicate, Nat.zero_le, l1, m1, hg1, hs1]
    rw [if_pos (by simp)]
  have tm : trimR h (.ok (.t [.r h.length, .r (h.length + 1)]) (h ++ [.dct (Wd [.non] fun _ => 0), .dct []])) = .ok (.t [.r h.length, .r (h.length + 1)]) (h ++ [.dct (Wd [.non] fun _ => 0), .dct []]) := by
    simp [trimR, agree_app, D.under, D.unders]
  have m2 : mkT [.r h.length, .r (h.length + 1)] = .t [.r h.length, .r (h.length + 1)] := rfl
  unfold sInit
  rw [evS.eq_2, evE.eq_21, evE.eq_3, evEs, d1, R.bind_ok, evEs, d2, R.bind_ok, evEs, R.bind_ok, R.bind_ok, R.bind_ok]
  rw [if_pos (by rw [sizeLine_v]; exact (by decide : 2 ≤ 16777216)), m2, tm, R.then_ok]
  simp only [evSs, evS.eq_1, evS.eq_2, evS.eq_3, evS.eq_4, evS.eq_5, evS.eq_6, evS.eq_7, evS.eq_10, evS.eq_11, evS.eq_12, evS.eq_13, evS.eq_14, evE.eq_1, evE.eq_2, evE.eq_3, evE.eq_4, evE.eq_5, evE.eq_6, evE.eq_7, evE.eq_8, evE.eq_9, evE.eq_10, evE.eq_11, evE.eq_12, evE.eq_13, evE.eq_14, evE.eq_15, evE.eq_16, evE.eq_17, evE.eq_18, evE.eq_19, evE.eq_21, evE.eq_22, evE.eq_23, evE.eq_24, evE.eq_25, evE.eq_26,  evEs, evO, evTs, evI, asgT, asgTs, slot, startD, R.of_some, R.of_none, R.bind_ok, R.bind_stuck, R.then_ok, RS.seq_next, RS.seq_ret, RS.seq_brk, RS.seq_cont, List.getElem?_cons_zero, List.getElem?_cons_succ, List.set_cons_zero, List.set_cons_succ, List.set_set, add_ii, sub_ii, mul_ii, mod_ii, fdiv_ii, pow_lit, blt_int, blt_max, blt_min, blt_abs, aug_ii, tr_bl, lt_ii, le_ii, gt_ii, ge_ii, eq_ii, ne_ii, trim_p0, if_true, Bool.not_true, Bool.not_false, Bool.false_eq_true, if_false, R.tr_ok_bl, gOf_call, mkT_p2, len_t, sz1, sz2, sz3, sz4, sz6, D.items, hg0, hg1, hg2, hg3, hs0, hs1, hs2, hs3, hl1, hl2, hl3, hl4, List.append_assoc, List.cons_append, List.nil_append, List.append_nil, mk, pairUp, List.map_cons, List.map_nil, List.length_cons, List.length_nil, List.replicate, Nat.zero_le]

theorem rng_bd {n : Nat} (hn : n ≤ 16777216) : -(2 ^ 62) ≤ (n : Int) ∧ (n : Int) ≤ 16777216 := by omega
theorem rng1_ok {a : IE} {s : Sg} {h h1 : Hh} {n : Nat} (e : evE g a s h = .ok (.p (.int (n : Nat))) h1) (hn : n ≤ 16777216) : evI g (.rng1 a) s h = .ok (nums 0 n, []) h1 := by
  rw [evI, e, R.bind_ok]
  dsimp only
  rw [if_pos (rng_bd hn), Int.toNat_natCast]

def turnsS (r : Nat) : IS := .for (.v 1) (.rng1 (.bin .add (.blt .len (.cons (.v 2) .nil)) (.c (.int 1)))) (.cons (.asg (.v 7) (.c .non)) (.cons sLow (.cons sNum .nil)))
theorem turn_one {ns : List P} (nm : Names E ns) (few : E.length < 100000) {i : Nat} {d : D} {W : P → Int} {kl : Kvs} {L : P → Option Nat} (t : Turn E ns kl W L) (rn : Rnd E i W) {s1 s4 s5 s6 s7 s8 s9 s10 : Option D} {P' C : SH} {Q : D → Hh → Prop} (q : ∀ x t, Told E x → Q (.p x) (h ++ t)) :
    Pv.Run ((asgT g (.v 1) d [some (.p (netP E)), s1, some (.r h.length), some (.r (h.length + 1)), s4, s5, s6, s7, s8, s9, s10] (h ++ [.dct (Wd ns W), .dct kl])).then [some (.p (netP E)), s1, some (.r h.length), some (.r (h.length + 1)), s4, s5, s6, s7, s8, s9, s10] fun s2 h3 => evSs g (.cons (.asg (.v 7) (.c .non)) (.cons sLow (.cons sNum .nil))) s2 h3)
      (fun s h' => ∃ W2 L2 kl2 s4 s5 s6 s8 m e, s = [some (.p (netP E)), some d, some (.r h.length), some (.r (h.length + 1)), s4, s5, s6, some (.p (.int (m : Nat))), s8, s9, s10] ∧ h' = h ++ [.dct (Wd ns W2), .dct kl2] ∧ Turn E ns kl2 W2 L2 ∧ Rnd E (i + 1) W2 ∧ E[m]? = some e ∧ W2 e.1 < W e.1) P' C Q := by
  have e1 : ((asgT g (.v 1) d [some (.p (netP E)), s1, some (.r h.length), some (.r (h.length + 1)), s4, s5, s6, s7, s8, s9, s10] (h ++ [.dct (Wd ns W), .dct kl])).then [some (.p (netP E)), s1, some (.r h.length), some (.r (h.length + 1)), s4, s5, s6, s7, s8, s9, s10] fun s2 h3 => evSs g (.cons (.asg (.v 7) (.c .non)) (.cons sLow (.cons sNum .nil))) s2 h3) =
      evSs g (.cons sLow (.cons sNum .nil)) [some (.p (netP E)), some d, some (.r h.length), some (.r (h.length + 1)), s4, s5, s6, some (.p .non), s8, s9, s10] (h ++ [.dct (Wd ns W), .dct kl]) := by
    rw [asgT]
    simp only [List.set_cons_succ, List.set_cons_zero, R.then_ok]
    rw [evSs]
    simp only [evS.eq_2, evE.eq_1, asgT, List.set_cons_succ, List.set_cons_zero, R.then_ok, RS.seq_next]
  rw [e1, evSs]
  refine Run.seq (low_ok nm few t) ?_
  rintro s h' ⟨W2, L2, kl2, s4, s5, s6, s7, s8, rfl, rfl, t2, le, done, low⟩
  rw [evSs]
  rcases low with ⟨rfl, rfl⟩ | ⟨m, e, rfl, he, lt⟩
  · refine Run.seq (M := fun _ _ => False) (num_ok nm few (fun tl => q _ tl (.num ns W2 nm done (let ⟨T, z, q, _⟩ := t2.prd; ⟨L2, T, q⟩) fun k => rn [] k k rfl (Nat.zero_le _)))) fun _ _ z => z.elim
  · have e2 : evS g sNum [some (.p (netP E)), some d, some (.r h.length), some (.r (h.length + 1)), s4, s5, s6, some (.p (.int (m : Int))), s8, s9, s10] (h ++ [.dct (Wd ns W2), .dct kl2]) = .next [some (.p (netP E)), some d, some (.r h.length), some (.r (h.length + 1)), s4, s5, s6, some (.p (.int (m : Int))), s8, s9, s10] (h ++ [.dct (Wd ns W2), .dct kl2]) := by
      unfold sNum
      simp only [evSs, evS.eq_1, evS.eq_2, evS.eq_3, evS.eq_4, evS.eq_5, evS.eq_6, evS.eq_7, evS.eq_10, evS.eq_11, evS.eq_12, evS.eq_13, evS.eq_14, evE.eq_1, evE.eq_2, evE.eq_3, evE.eq_4, evE.eq_5, evE.eq_6, evE.eq_7, evE.eq_8, evE.eq_9, evE.eq_10, evE.eq_11, evE.eq_12, evE.eq_13, evE.eq_14, evE.eq_15, evE.eq_16, evE.eq_17, evE.eq_18, evE.eq_19, evE.eq_21, evE.eq_22, evE.eq_23, evE.eq_24, evE.eq_25, evE.eq_26,  evEs, evO, evTs, evI, asgT, asgTs, slot, startD, R.of_some, R.of_none, R.bind_ok, R.bind_stuck, R.then_ok, RS.seq_next, RS.seq_ret, RS.seq_brk, RS.seq_cont, List.getElem?_cons_zero, List.getElem?_cons_succ, List.set_cons_zero, List.set_cons_succ, List.set_set, add_ii, sub_ii, mul_ii, mod_ii, fdiv_ii, pow_lit, blt_int, blt_max, blt_min, blt_abs, aug_ii, tr_bl, lt_ii, le_ii, gt_ii, ge_ii, eq_ii, ne_ii, trim_p0, if_true, Bool.not_true, Bool.not_false, Bool.false_eq_true, if_false, R.tr_ok_bl, gOf_call, mkT_p2, len_t, sz1, sz2, sz3, sz4, sz6, D.items, cmpS, isNone]
    rw [e2, RS.seq_next, evSs]
    exact ⟨W2, L2, kl2, _, _, _, _, m, e, rfl, rfl, t2, rnd_more rn le done, he, lt⟩
theorem turns_ok {r : Nat} {ns : List P} (nm : Names E ns) (few : E.length < 100000) {s4 s5 s6 : Option D} {B C : SH} {Q : D → Hh → Prop} (q : ∀ x t, Told E x → Q (.p x) (h ++ t)) :
    Pv.Run (evS g (turnsS r) [some (.p (netP E)), none, some (.r h.length), some (.r (h.length + 1)), s4, s5, s6, none, none, none, none] (h ++ [.dct (Wd ns fun _ => 0), .dct []]))
      (fun s h' => ∃ W W0 L kl s1 s4 s5 s6 s8 s9 s10 m e, s = [some (.p (netP E)), s1, some (.r h.length), some (.r (h.length + 1)), s4, s5, s6, some (.p (.int (m : Nat))), s8, s9, s10] ∧ h' = h ++ [.dct (Wd ns W), .dct kl] ∧ Turn E ns kl W L ∧ Rnd E ns.length W0 ∧ E[m]? = some e ∧ W e.1 < W0 e.1) B C Q := by
  have nsl := nm.few
  have it := rng1_ok (g := g) (a := .bin .add (.blt .len (.cons (.v 2) .nil)) (.c (.int 1))) (s := [some (.p (netP E)), none, some (.r h.length), some (.r (h.length + 1)), s4, s5, s6, none, none, none, none]) (h := h ++ [.dct (Wd ns fun _ => 0), .dct []]) (h1 := h ++ [.dct (Wd ns fun _ => 0), .dct []]) (n := ns.length + 1) (by
    have := len_dct (hg0 h (.dct (Wd ns fun _ => 0)) [.dct []])
    rw [wd_len] at this
    simp only [evSs, evS.eq_1, evS.eq_2, evS.eq_3, evS.eq_4, evS.eq_5, evS.eq_6, evS.eq_7, evS.eq_10, evS.eq_11, evS.eq_12, evS.eq_13, evS.eq_14, evE.eq_1, evE.eq_2, evE.eq_3, evE.eq_4, evE.eq_5, evE.eq_6, evE.eq_7, evE.eq_8, evE.eq_9, evE.eq_10, evE.eq_11, evE.eq_12, evE.eq_13, evE.eq_14, evE.eq_15, evE.eq_16, evE.eq_17, evE.eq_18, evE.eq_19, evE.eq_21, evE.eq_22, evE.eq_23, evE.eq_24, evE.eq_25, evE.eq_26,  evEs, evO, evTs, evI, asgT, asgTs, slot, startD, R.of_some, R.of_none, R.bind_ok, R.bind_stuck, R.then_ok, RS.seq_next, RS.seq_ret, RS.seq_brk, RS.seq_cont, List.getElem?_cons_zero, List.getElem?_cons_succ, List.set_cons_zero, List.set_cons_succ, List.set_set, add_ii, sub_ii, mul_ii, mod_ii, fdiv_ii, pow_lit, blt_int, blt_max, blt_min, blt_abs, aug_ii, tr_bl, lt_ii, le_ii, gt_ii, ge_ii, eq_ii, ne_ii, trim_p0, if_true, Bool.not_true, Bool.not_false, Bool.false_eq_true, if_false, R.tr_ok_bl, gOf_call, mkT_p2, len_t, sz1, sz2, sz3, sz4, sz6, D.items, this]
    rfl) (by omega)
  unfold turnsS
  rw [evS.eq_9, it, R.then_ok]
  dsimp only
  refine (loopS_run (fun i s h' => ∃ W L kl s1 s4 s5 s6 s7 s8 s9 s10, s = [some (.p (netP E)), s1, some (.r h.length), some (.r (h.length + 1)), s4, s5, s6, s7, s8, s9, s10] ∧ h' = h ++ [.dct (Wd ns W), .dct kl] ∧ Turn E ns kl W L ∧ Rnd E i W ∧
          (0 < i → ∃ W0 m e, s7 = some (.p (.int (m : Nat))) ∧ Rnd E (i - 1) W0 ∧ E[m]? = some e ∧ W e.1 < W0 e.1)) _ _ (nums 0 (ns.length + 1)) ?_ ?_ _ 0 _ _ List.drop_zero
          ⟨fun _ => 0, fun _ => none, [], _, _, _, _, _, _, _, _, rfl, rfl, ⟨⟨fun k => rfl, rfl⟩, ⟨List.nodup_nil, (fun _ z => by cases z)⟩, fun _ => 0, 1, prd_start, fun _ => Nat.one_pos⟩, rnd_zero, fun z => absurd z (by omega)⟩ (Nat.zero_le _))
  · rintro i d s h' hd ⟨W, L, kl, s1, s4, s5, s6, s7, s8, s9, s10, rfl, rfl, t, rn, _⟩
    refine ⟨rfl, (turn_one nm few t rn q).weak ?_ (fun _ _ z => z) (fun _ _ z => z) (fun _ _ z => z)⟩
    rintro s h' ⟨W2, L2, kl2, s4, s5, s6, s8, m, e, rfl, rfl, t2, rn2, he, lt⟩
    exact ⟨W2, L2, kl2, _, _, _, _, _, _, _, _, rfl, trimS_same (by rw [hl2, hl2]), t2, rn2, fun _ => ⟨W, m, e, rfl, by rw [Nat.add_sub_cancel]; exact rn, he, lt⟩⟩
  · rintro s h' ⟨W, L, kl, s1, s4, s5, s6, s7, s8, s9, s10, rfl, rfl, t, rn, more⟩
    rw [numsLen] at more
    obtain ⟨W0, m, e, rfl, r0, he, lt⟩ := more (Nat.succ_pos _)
    exact ⟨rfl, W, W0, L, kl, s1, s4, s5, s6, s8, s9, s10, m, e, rfl, rfl, t, r0, he, lt⟩
theorem end_ok {p : Prg} {F k r ap : Nat} (hr : p.fns[r]? = some (ringF ap)) {ns : List P} (nm : Names E ns) (few : E.length < 100000) (hF : 2 * E.length + 2 < F) {W W0 : P → Int} {L : P → Option Nat} {kl : Kvs} {s1 s4 s5 s6 s8 s9 s10 : Option D} {m : Nat} {e : Lt} (t : Turn E ns kl W L) (r0 : Rnd E ns.length W0) (he : E[m]? = some e) (lt : W e.1 < W0 e.1) :
    ∃ x, Told E x ∧ evS (gOf p F (callN p F (k + 2)) (callN p F (k + 1))) (sRing r) [some (.p (netP E)), s1, some (.r h.length), some (.r (h.length + 1)), s4, s5, s6, some (.p (.int (m : Nat))), s8, s9, s10] (h ++ [.dct (Wd ns W), .dct kl]) = .ret (.p x) (h ++ [.dct (Wd ns W), .dct kl]) := by
  have nsl := nm.few
  obtain ⟨T, z, prd, _⟩ := t.prd
  have hm := List.mem_of_getElem? he
  obtain ⟨b, post, tr, nd, sub, ring⟩ := ring_ok (F := F) (k := k) (h := h ++ [.dct (Wd ns W), .dct kl]) hr t.ld (hg1 h _ _ []) (ns := ns) ⟨fun x hx => (nm.ok x hx).node, fun x i hx => by
    obtain ⟨e2, g1, g2, _⟩ := prd.from_ x i hx
    exact ⟨e2, g1, (nm.lit e2 (List.mem_of_getElem? g1)).2⟩⟩ (nm.lit e hm).1 (fun is b bk hl => no_root prd r0 lt bk hl) (by omega) (by omega)
  have a1 : subS (.p (netP E)) (.p (.int (m : Int))) (h ++ [.dct (Wd ns W), .dct kl]) = .ok (.p (litP e)) (h ++ [.dct (Wd ns W), .dct kl]) := by
    unfold netP
    rw [subS_t, Pv.atI_nat, List.getElem?_map, he]
    rfl
  have a2 : subS (.p (litP e)) (.p (.int 0)) (h ++ [.dct (Wd ns W), .dct kl]) = .ok (.p e.1) (h ++ [.dct (Wd ns W), .dct kl]) := rfl
  have tb := Tr.back tr
  refine ⟨_, .ring L b post tr nd (ring_below prd tb (by simp)) ⟨W, T, prd⟩, ?_⟩
  unfold sRing
  simp only [evSs, evS.eq_1, evS.eq_2, evS.eq_3, evS.eq_4, evS.eq_5, evS.eq_6, evS.eq_7, evS.eq_10, evS.eq_11, evS.eq_12, evS.eq_13, evS.eq_14, evE.eq_1, evE.eq_2, evE.eq_3, evE.eq_4, evE.eq_5, evE.eq_6, evE.eq_7, evE.eq_8, evE.eq_9, evE.eq_10, evE.eq_11, evE.eq_12, evE.eq_13, evE.eq_14, evE.eq_15, evE.eq_16, evE.eq_17, evE.eq_18, evE.eq_19, evE.eq_21, evE.eq_22, evE.eq_23, evE.eq_24, evE.eq_25, evE.eq_26,  evEs, evO, evTs, evI, asgT, asgTs, slot, startD, R.of_some, R.of_none, R.bind_ok, R.bind_stuck, R.then_ok, RS.seq_next, RS.seq_ret, RS.seq_brk, RS.seq_cont, List.getElem?_cons_zero, List.getElem?_cons_succ, List.set_cons_zero, List.set_cons_succ, List.set_set, add_ii, sub_ii, mul_ii, mod_ii, fdiv_ii, pow_lit, blt_int, blt_max, blt_min, blt_abs, aug_ii, tr_bl, lt_ii, le_ii, gt_ii, ge_ii, eq_ii, ne_ii, trim_p0, if_true, Bool.not_true, Bool.not_false, Bool.false_eq_true, if_false, R.tr_ok_bl, gOf_call, mkT_p2, len_t, sz1, sz2, sz3, sz4, sz6, D.items, hg0, hg1, hg2, hg3, hs0, hs1, hs2, hs3, hl1, hl2, hl3, hl4, List.append_assoc, List.cons_append, List.nil_append, List.append_nil, mk, pairUp, List.map_cons, List.map_nil, List.length_cons, List.length_nil, List.replicate, Nat.zero_le, a1, a2, gOf_call, ring, mkT_p2]
theorem solved_ok {p : Prg} {F k t r ap : Nat} (ht : p.fns[t]? = some (solvedF r)) (hr : p.fns[r]? = some (ringF ap)) (ok : NetOk E) (few : E.length < 100000) (hF : 2 * E.length + 2 < F) :
    ∃ x, Told E x ∧ callN p F (k + 3) t [.p (netP E)] h = .ok (.p x) h := by
  rw [show k + 3 = (k + 1) + 2 from rfl, call_eq ht rfl]
  obtain ⟨d, h2, e, x, tx, rfl, tl, rfl⟩ : ∃ d h2, evSs (gOf p F (callN p F (k + 2)) (callN p F (k + 1))) (solvedF r).body (startD 11 [.p (netP E)]) h = .ret d h2 ∧ ∃ x, Told E x ∧ d = .p x ∧ ∃ tl, h2 = h ++ tl := by
    refine run_ret ?_
    show Ru (evSs _ (.cons sInit (.cons sFill (.cons (turnsS r) (.cons (sRing r) .nil)))) _ _) _ _
    rw [evSs, init_ok, RS.seq_next, evSs]
    refine Run.seq (fill_ok ok few) ?_
    rintro s h' ⟨ns, s4, s5, s6, nm, rfl, rfl⟩
    rw [evSs]
    refine Run.seq (turns_ok nm few fun x t hx => ⟨x, hx, rfl, t, rfl⟩) ?_
    rintro s h' ⟨W, W0, L, kl, s1, s4, s5, s6, s8, s9, s10, m, e, rfl, rfl, t, r0, he, lt⟩
    obtain ⟨x, tx, ex⟩ := end_ok (k := k) (h := h) hr nm few hF t r0 he lt (s1 := s1) (s4 := s4) (s5 := s5) (s6 := s6) (s8 := s8) (s9 := s9) (s10 := s10)
    rw [evSs, ex]
    exact ⟨x, tx, rfl, _, rfl⟩
  exact ⟨x, tx, by rw [show (solvedF r).ns = 11 from rfl, e]; exact trim_pb _ _ _⟩
end
end Net

/-! E: entails and tightest are run. -/
namespace Net
open PySem L2 Pv

def oppF : FD := ⟨1, 4, (.cons (.asg (.tup 3 (.cons (.v 1) (.cons (.v 2) (.cons (.v 3) .nil)))) (.v 0)) (.cons (.ret (.tup (.cons (.v 2) (.cons (.v 1) (.cons (.bin .sub (.neg (.v 3)) (.c (.int 1))) .nil))))) .nil))⟩
def entF (t o : Nat) : FD := ⟨2, 2, (.cons (.ret (.trim (.cmp .eq (.sub (.call t (.cons (.tup (.star (.v 0) (.cons (.call o (.cons (.v 1) .nil)) .nil))) .nil)) (.c (.int 0))) (.c (.str "ring"))))) .nil)⟩
def tLow (gi : Nat) : IS := .for (.tup 3 (.cons (.v 5) (.cons (.v 6) (.cons (.v 7) .nil)))) (.of (.v 0)) (.cons (.ite (.trim (.and (.cmp .isin (.v 6) (.v 3)) (.cmp .lt (.bin .add (.sub (.v 3) (.v 6)) (.v 7)) (.meth (.v 3) gi .get (.cons (.v 5) (.cons (.bin .add (.bin .add (.sub (.v 3) (.v 6)) (.v 7)) (.c (.int 1))) .nil)))))) (.cons (.asg (.sub (.v 3) (.v 5)) (.bin .add (.sub (.v 3) (.v 6)) (.v 7))) .nil) .nil) .nil)
def tAll (gi : Nat) : IS := .for (.v 4) (.rng1 (.bin .add (.blt .len (.cons (.v 0) .nil)) (.c (.int 1)))) (.cons (tLow gi) .nil)
def tightF (t gi : Nat) : FD := ⟨3, 8, (.cons (.ite (.trim (.cmp .eq (.sub (.call t (.cons (.v 0) .nil)) (.c (.int 0))) (.c (.str "ring")))) (.cons (.ret (.c .non)) .nil) .nil) (.cons (.asg (.v 3) (.dct (.cons (.v 2) (.cons (.c (.int 0)) .nil)))) (.cons (tAll gi) (.cons (.ret (.meth (.v 3) gi .get (.cons (.v 1) .nil))) .nil))))⟩

variable {E : List Lt}
theorem told_cases {x : P} (h : Told E x) : (∃ y, x = .tup [.str "ring", y] ∧ Bad E) ∨ ∃ y, x = .tup [.str "numbers", y] ∧ ¬ Bad E := by
  cases h with
  | num ns W nm f _ _ => exact .inr ⟨_, rfl, feas_good f⟩
  | ring L b post tr nd w ex =>
    obtain ⟨W, T, p⟩ := ex
    have c := (back_chain p (Tr.back tr)).1
    exact .inl ⟨_, rfl, b, _, c, w⟩
/-- is it a ring -/
theorem ring_eq {x : P} {h : Hh} (t : Told E x) : ∃ k : Bool, subS (.p x) (.p (.int 0)) h = .ok (.p (.str (if k then "ring" else "numbers"))) h ∧ eqO h (.p (.str (if k then "ring" else "numbers"))) (.p (.str "ring")) = some k ∧ (k = true ↔ Bad E) := by
  rcases told_cases t with ⟨y, rfl, b⟩ | ⟨y, rfl, b⟩
  · exact ⟨true, rfl, by show some (decide (("ring" : Str) = "ring")) = some true; decide +kernel, by simp [b]⟩
  · exact ⟨false, rfl, by show some (decide (("numbers" : Str) = "ring")) = some false; decide +kernel, by simp [b]⟩
section
variable {h : Hh} {p : Prg} {F k t r ap o i gi : Nat}
theorem opp_ok (ho : p.fns[o]? = some oppF) (u v : P) (c : Int) : callN p F (k + 2) o [.p (litP (u, v, c))] h = .ok (.p (litP (v, u, -c - 1))) h := by
  rw [call_eq ho rfl]
  have m3 : mkT [.p v, .p u, .p (.int (-c - 1))] = .p (.tup [v, u, .int (-c - 1)]) := rfl
  simp only [oppF, startD, evSs, evS.eq_1, evS.eq_2, evS.eq_3, evS.eq_4, evS.eq_5, evS.eq_6, evS.eq_7, evS.eq_10, evS.eq_11, evS.eq_12, evS.eq_13, evS.eq_14, evE.eq_1, evE.eq_2, evE.eq_3, evE.eq_4, evE.eq_5, evE.eq_6, evE.eq_7, evE.eq_8, evE.eq_9, evE.eq_10, evE.eq_11, evE.eq_12, evE.eq_13, evE.eq_14, evE.eq_15, evE.eq_16, evE.eq_17, evE.eq_18, evE.eq_19, evE.eq_21, evE.eq_22, evE.eq_23, evE.eq_24, evE.eq_25, evE.eq_26,  evEs, evO, evTs, evI, asgT, asgTs, slot, startD, R.of_some, R.of_none, R.bind_ok, R.bind_stuck, R.then_ok, RS.seq_next, RS.seq_ret, RS.seq_brk, RS.seq_cont, List.getElem?_cons_zero, List.getElem?_cons_succ, List.set_cons_zero, List.set_cons_succ, List.set_set, add_ii, sub_ii, mul_ii, mod_ii, fdiv_ii, pow_lit, blt_int, blt_max, blt_min, blt_abs, aug_ii, tr_bl, lt_ii, le_ii, gt_ii, ge_ii, eq_ii, ne_ii, trim_p0, if_true, Bool.not_true, Bool.not_false, Bool.false_eq_true, if_false, R.tr_ok_bl, gOf_call, mkT_p2, len_t, sz1, sz2, sz3, sz4, sz6, D.items, hg0, hg1, hg2, hg3, hs0, hs1, hs2, hs3, hl1, hl2, hl3, hl4, List.append_assoc, List.cons_append, List.nil_append, List.append_nil, mk, pairUp, List.map_cons, List.map_nil, List.length_cons, List.length_nil, List.replicate, Nat.zero_le, litP, m3]
  exact trim_p0 h _
theorem bad_snoc {e : Lt} : Bad (E ++ [e]) ↔ Bad (e :: E) := ⟨bad_more fun x hx => by simpa [or_comm] using hx, bad_more fun x hx => by simpa [or_comm] using hx⟩
theorem ent_ok (hi : p.fns[i]? = some (entF t o)) (ht : p.fns[t]? = some (solvedF r)) (hr : p.fns[r]? = some (ringF ap)) (ho : p.fns[o]? = some oppF) (ok : NetOk E) (few : E.length < 90000) (hF : 2 * E.length + 4 < F) {u v : P} {c : Int} (hu : IsN u) (hv : IsN v) :
    ∃ b : Bool, callN p F (k + 4) i [.p (netP E), .p (litP (u, v, c))] h = .ok (.p (.bl b)) h ∧ (b = true ↔ Bad ((v, u, -c - 1) :: E)) := by
  obtain ⟨x, tx, ex⟩ := solved_ok (E := E ++ [(v, u, -c - 1)]) (F := F) (k := k) (h := h) ht hr (fun e he => by
    rcases List.mem_append.mp he with he | he
    · exact ok e he
    · rw [List.mem_singleton.mp he]; exact ⟨hv, hu⟩) (by simp; omega) (by simp; omega)
  obtain ⟨b, g1, g2, g3⟩ := ring_eq (h := h) tx
  refine ⟨b, ?_, g3.trans bad_snoc⟩
  rw [show k + 4 = (k + 2) + 2 from rfl, call_eq hi rfl]
  have oo := opp_ok (F := F) (k := k + 1) (h := h) ho u v c
  have sq : seqOf h (.p (netP E)) = some ((E.map litP).map .p) := rfl
  have mt : mkT ((E.map litP).map D.p ++ [.p (litP (v, u, -c - 1))]) = .p (netP (E ++ [(v, u, -c - 1)])) := by
    rw [show (E.map litP).map D.p ++ [.p (litP (v, u, -c - 1))] = ((E ++ [(v, u, -c - 1)]).map litP).map D.p by simp, mkT_map]
    rfl
  have ll : ((E.map litP).map D.p ++ [D.p (litP (v, u, -c - 1))]).length ≤ sizeLine := by
    rw [sizeLine_v]
    simp
    omega
  simp only [entF, startD, evSs, evS.eq_1, evS.eq_2, evS.eq_3, evS.eq_4, evS.eq_5, evS.eq_6, evS.eq_7, evS.eq_10, evS.eq_11, evS.eq_12, evS.eq_13, evS.eq_14, evE.eq_1, evE.eq_2, evE.eq_3, evE.eq_4, evE.eq_5, evE.eq_6, evE.eq_7, evE.eq_8, evE.eq_9, evE.eq_10, evE.eq_11, evE.eq_12, evE.eq_13, evE.eq_14, evE.eq_15, evE.eq_16, evE.eq_17, evE.eq_18, evE.eq_19, evE.eq_21, evE.eq_22, evE.eq_23, evE.eq_24, evE.eq_25, evE.eq_26,  evEs, evO, evTs, evI, asgT, asgTs, slot, startD, R.of_some, R.of_none, R.bind_ok, R.bind_stuck, R.then_ok, RS.seq_next, RS.seq_ret, RS.seq_brk, RS.seq_cont, List.getElem?_cons_zero, List.getElem?_cons_succ, List.set_cons_zero, List.set_cons_succ, List.set_set, add_ii, sub_ii, mul_ii, mod_ii, fdiv_ii, pow_lit, blt_int, blt_max, blt_min, blt_abs, aug_ii, tr_bl, lt_ii, le_ii, gt_ii, ge_ii, eq_ii, ne_ii, trim_p0, if_true, Bool.not_true, Bool.not_false, Bool.false_eq_true, if_false, R.tr_ok_bl, gOf_call, mkT_p2, len_t, sz1, sz2, sz3, sz4, sz6, D.items, hg0, hg1, hg2, hg3, hs0, hs1, hs2, hs3, hl1, hl2, hl3, hl4, List.append_assoc, List.cons_append, List.nil_append, List.append_nil, mk, pairUp, List.map_cons, List.map_nil, List.length_cons, List.length_nil, List.replicate, Nat.zero_le, gOf_call, sq, oo, if_pos ll, mt, ex, cmpS, g1, g2]
  exact trim_p0 h _

/-! ### tightest -/
def oP (o : Option Int) : P := match o with
  | some w => .int w
  | none => .non
/-- the bounds found -/
structure WO (kl : Kvs) (D0 : P → Option Int) (S : List P) : Prop where
  get : ∀ k, dGet kl k = (D0 k).map fun w => .p (.int w)
  keys : KeysIn kl S
def Low (D' D0 : P → Option Int) : Prop := ∀ k w, D0 k = some w → ∃ w', D' k = some w' ∧ w' ≤ w
def SoundW (E : List Lt) (b : P) (D0 : P → Option Int) : Prop := ∀ k w, D0 k = some w → ∃ l, Chain E k l b ∧ wt l = w
def FarW (E : List Lt) (b : P) (r : Nat) (D0 : P → Option Int) : Prop := ∀ l a, Chain E a l b → l.length ≤ r → ∃ w, D0 a = some w ∧ w ≤ wt l
theorem Low.refl (D0 : P → Option Int) : Low D0 D0 := fun _ w h => ⟨w, h, Int.le_refl _⟩
theorem Low.trans {A B C : P → Option Int} (h : Low A B) (k : Low B C) : Low A C := fun x w e => by
  obtain ⟨w1, e1, l1⟩ := k x w e
  obtain ⟨w2, e2, l2⟩ := h x w1 e1
  exact ⟨w2, e2, by omega⟩
theorem low_up {D0 : P → Option Int} {k : P} {x : Int} (h : ∀ w, D0 k = some w → x ≤ w) : Low (up D0 k (some x)) D0 := fun y w e => by
  by_cases q : y = k
  · subst q; exact ⟨x, up_at _ _ _, h w e⟩
  · exact ⟨w, by rw [up_ne _ _ q]; exact e, Int.le_refl _⟩
theorem far_more {b : P} {r : Nat} {D0 D' : P → Option Int} (f : FarW E b r D0) (le : Low D' D0) (st : ∀ e ∈ E, ∀ w, D0 e.2.1 = some w → ∃ w', D' e.1 = some w' ∧ w' ≤ w + e.2.2) : FarW E b (r + 1) D' := fun l a c q => by
  cases l with
  | nil =>
    obtain ⟨w, e, l⟩ := f [] a c (Nat.zero_le _)
    obtain ⟨w', e', l'⟩ := le a w e
    exact ⟨w', e', by omega⟩
  | cons e l =>
    obtain ⟨w, e1, l1⟩ := f l e.2.1 c.2.2 (by simpa using q)
    obtain ⟨w', e2, l2⟩ := st e c.1 w e1
    rw [c.2.1] at e2
    exact ⟨w', e2, by simp only [wt]; omega⟩
theorem tlow_ok {g : G} {b : P} {S : List P} (hS : ∀ x ∈ S, Node x) (few : S.length < 1000000) (lit : ∀ e ∈ E, e.1 ∈ S ∧ Node e.2.1) {kl0 : Kvs} {D0 : P → Option Int} (w0 : WO kl0 D0 S) (so0 : SoundW E b D0) {s1 s4 s5 s6 s7 : Option D} {s2 : Option D} {B C : SH} {Q : D → Hh → Prop} :
    Pv.Run (evS g (tLow gi) [some (.p (netP E)), s1, s2, some (.r h.length), s4, s5, s6, s7] (h ++ [.dct kl0]))
      (fun s h' => ∃ kl D1 s5 s6 s7, s = [some (.p (netP E)), s1, s2, some (.r h.length), s4, s5, s6, s7] ∧ h' = h ++ [.dct kl] ∧ WO kl D1 S ∧ SoundW E b D1 ∧ Low D1 D0 ∧ ∀ e ∈ E, ∀ w, D0 e.2.1 = some w → ∃ w', D1 e.1 = some w' ∧ w' ≤ w + e.2.2) B C Q := by
  unfold tLow
  rw [evS.eq_9]
  have it : evI g (.of (.v 0)) [some (.p (netP E)), s1, s2, some (.r h.length), s4, s5, s6, s7] (h ++ [.dct kl0]) = .ok (E.map fun e => .p (litP e), []) (h ++ [.dct kl0]) := by
    simp only [evSs, evS.eq_1, evS.eq_2, evS.eq_3, evS.eq_4, evS.eq_5, evS.eq_6, evS.eq_7, evS.eq_10, evS.eq_11, evS.eq_12, evS.eq_13, evS.eq_14, evE.eq_1, evE.eq_2, evE.eq_3, evE.eq_4, evE.eq_5, evE.eq_6, evE.eq_7, evE.eq_8, evE.eq_9, evE.eq_10, evE.eq_11, evE.eq_12, evE.eq_13, evE.eq_14, evE.eq_15, evE.eq_16, evE.eq_17, evE.eq_18, evE.eq_19, evE.eq_21, evE.eq_22, evE.eq_23, evE.eq_24, evE.eq_25, evE.eq_26,  evEs, evO, evTs, evI, asgT, asgTs, slot, startD, R.of_some, R.of_none, R.bind_ok, R.bind_stuck, R.then_ok, RS.seq_next, RS.seq_ret, RS.seq_brk, RS.seq_cont, List.getElem?_cons_zero, List.getElem?_cons_succ, List.set_cons_zero, List.set_cons_succ, List.set_set, add_ii, sub_ii, mul_ii, mod_ii, fdiv_ii, pow_lit, blt_int, blt_max, blt_min, blt_abs, aug_ii, tr_bl, lt_ii, le_ii, gt_ii, ge_ii, eq_ii, ne_ii, trim_p0, if_true, Bool.not_true, Bool.not_false, Bool.false_eq_true, if_false, R.tr_ok_bl, gOf_call, mkT_p2, len_t, sz1, sz2, sz3, sz4, sz6, D.items, seq_net, gdOf]
  rw [it, R.then_ok]
  dsimp only
  refine loopS_run (fun i s h' => ∃ kl D1 s5 s6 s7, s = [some (.p (netP E)), s1, s2, some (.r h.length), s4, s5, s6, s7] ∧ h' = h ++ [.dct kl] ∧ WO kl D1 S ∧ SoundW E b D1 ∧ Low D1 D0 ∧ ∀ e ∈ E.take i, ∀ w, D0 e.2.1 = some w → ∃ w', D1 e.1 = some w' ∧ w' ≤ w + e.2.2)
    _ _ (E.map fun e => .p (litP e)) ?_ ?_ _ 0 _ _ List.drop_zero ⟨kl0, D0, s5, s6, s7, rfl, rfl, w0, so0, Low.refl _, fun _ z => by simp at z⟩ (Nat.zero_le _)
  · rintro i d s h' hd ⟨kl, D1, s5, s6, s7, rfl, rfl, wo, so, le, done⟩
    obtain ⟨e, he, rfl, hm, hi⟩ := at_net hd
    obtain ⟨k1, k2⟩ := lit e hm
    have lf : lfs kl = true := wo.keys.lfs fun x hx => (hS x hx).1
    have f1 := kfit_leaf (hS _ k1).1 lf
    have f2 := kfit_leaf k2.1 lf
    have ci := in_dct (hg0 h (.dct kl) []) f2
    rw [wo.get] at ci
    -- what is done at the end of the turn
    have fin : ∀ D2 : P → Option Int, Low D2 D1 → (∀ w, D1 e.2.1 = some w → ∃ w', D2 e.1 = some w' ∧ w' ≤ w + e.2.2) → ∀ x ∈ E.take (i + 1), ∀ w, D0 x.2.1 = some w → ∃ w', D2 x.1 = some w' ∧ w' ≤ w + x.2.2 := fun D2 l2 h2 x hx w hw => by
      rw [List.take_add_one, he] at hx
      rcases List.mem_append.mp hx with hx | hx
      · obtain ⟨w1, e1, q1⟩ := done x hx w hw
        obtain ⟨w2, e2, q2⟩ := l2 _ w1 e1
        exact ⟨w2, e2, by omega⟩
      · have : x = e := by simpa using hx
        subst this
        obtain ⟨w1, e1, q1⟩ := le _ w hw
        obtain ⟨w2, e2, q2⟩ := h2 w1 e1
        exact ⟨w2, e2, by omega⟩
    refine ⟨rfl, ?_⟩
    cases q : D1 e.2.1 with
    | none =>
      rw [q] at ci
      simp only [Option.map_none, Option.isSome_none] at ci
      simp only [evSs, evS.eq_1, evS.eq_2, evS.eq_3, evS.eq_4, evS.eq_5, evS.eq_6, evS.eq_7, evS.eq_10, evS.eq_11, evS.eq_12, evS.eq_13, evS.eq_14, evE.eq_1, evE.eq_2, evE.eq_3, evE.eq_4, evE.eq_5, evE.eq_6, evE.eq_7, evE.eq_8, evE.eq_9, evE.eq_10, evE.eq_11, evE.eq_12, evE.eq_13, evE.eq_14, evE.eq_15, evE.eq_16, evE.eq_17, evE.eq_18, evE.eq_19, evE.eq_21, evE.eq_22, evE.eq_23, evE.eq_24, evE.eq_25, evE.eq_26,  evEs, evO, evTs, evI, asgT, asgTs, slot, startD, R.of_some, R.of_none, R.bind_ok, R.bind_stuck, R.then_ok, RS.seq_next, RS.seq_ret, RS.seq_brk, RS.seq_cont, List.getElem?_cons_zero, List.getElem?_cons_succ, List.set_cons_zero, List.set_cons_succ, List.set_set, add_ii, sub_ii, mul_ii, mod_ii, fdiv_ii, pow_lit, blt_int, blt_max, blt_min, blt_abs, aug_ii, tr_bl, lt_ii, le_ii, gt_ii, ge_ii, eq_ii, ne_ii, trim_p0, if_true, Bool.not_true, Bool.not_false, Bool.false_eq_true, if_false, R.tr_ok_bl, gOf_call, mkT_p2, len_t, sz1, sz2, sz3, sz4, sz6, D.items, hg0, hg1, hg2, hg3, hs0, hs1, hs2, hs3, hl1, hl2, hl3, hl4, List.append_assoc, List.cons_append, List.nil_append, List.append_nil, mk, pairUp, List.map_cons, List.map_nil, List.length_cons, List.length_nil, List.replicate, Nat.zero_le, litP, cmp_in, ci, truth_bl]
      exact ⟨kl, D1, _, _, _, rfl, trimS_same rfl, wo, so, le, fin D1 (Low.refl _) fun w z => by rw [q] at z; cases z⟩
    | some w =>
      rw [q] at ci
      simp only [Option.map_some, Option.isSome_some] at ci
      have g1 : subS (.r h.length) (.p e.2.1) (h ++ [.dct kl]) = .ok (.p (.int w)) (h ++ [.dct kl]) := sub_dct (hg0 h _ _) f2 (by rw [wo.get, q]; rfl)
      have g2 := get2_dct (.p (.int (w + e.2.2 + 1))) (hg0 h (.dct kl) []) f1
      rw [wo.get] at g2
      have g3 : ((D1 e.1).map fun w => D.p (.int w)).getD (.p (.int (w + e.2.2 + 1))) = .p (.int ((D1 e.1).getD (w + e.2.2 + 1))) := by cases D1 e.1 <;> rfl
      rw [g3] at g2
      by_cases lt : w + e.2.2 < (D1 e.1).getD (w + e.2.2 + 1)
      · have lk : kl.length ≤ S.length := by
          have := pig wo.keys.1 wo.keys.2
          rwa [List.length_map] at this
        have p1 := put_dct (.p (.int (w + e.2.2))) (hg0 h (.dct kl) []) f1 (by rw [sizeLine_v]; omega)
        rw [hs0] at p1
        have lw : Low (up D1 e.1 (some (w + e.2.2))) D1 := low_up fun z hz => by rw [hz] at lt; simp only [Option.getD_some] at lt; omega
        simp only [evSs, evS.eq_1, evS.eq_2, evS.eq_3, evS.eq_4, evS.eq_5, evS.eq_6, evS.eq_7, evS.eq_10, evS.eq_11, evS.eq_12, evS.eq_13, evS.eq_14, evE.eq_1, evE.eq_2, evE.eq_3, evE.eq_4, evE.eq_5, evE.eq_6, evE.eq_7, evE.eq_8, evE.eq_9, evE.eq_10, evE.eq_11, evE.eq_12, evE.eq_13, evE.eq_14, evE.eq_15, evE.eq_16, evE.eq_17, evE.eq_18, evE.eq_19, evE.eq_21, evE.eq_22, evE.eq_23, evE.eq_24, evE.eq_25, evE.eq_26,  evEs, evO, evTs, evI, asgT, asgTs, slot, startD, R.of_some, R.of_none, R.bind_ok, R.bind_stuck, R.then_ok, RS.seq_next, RS.seq_ret, RS.seq_brk, RS.seq_cont, List.getElem?_cons_zero, List.getElem?_cons_succ, List.set_cons_zero, List.set_cons_succ, List.set_set, add_ii, sub_ii, mul_ii, mod_ii, fdiv_ii, pow_lit, blt_int, blt_max, blt_min, blt_abs, aug_ii, tr_bl, lt_ii, le_ii, gt_ii, ge_ii, eq_ii, ne_ii, trim_p0, if_true, Bool.not_true, Bool.not_false, Bool.false_eq_true, if_false, R.tr_ok_bl, gOf_call, mkT_p2, len_t, sz1, sz2, sz3, sz4, sz6, D.items, hg0, hg1, hg2, hg3, hs0, hs1, hs2, hs3, hl1, hl2, hl3, hl4, List.append_assoc, List.cons_append, List.nil_append, List.append_nil, mk, pairUp, List.map_cons, List.map_nil, List.length_cons, List.length_nil, List.replicate, Nat.zero_le, litP, cmp_in, ci, truth_bl, g1, meth_get (hg0 h (.dct kl) []), g2, decide_eq_true lt, p1]
        refine ⟨dPut kl e.1 (.p (.int (w + e.2.2))), up D1 e.1 (some (w + e.2.2)), _, _, _, rfl, trimS_same (by rw [hl1, hl1]), ⟨fun x => ?_, wo.keys.put k1 _⟩, fun x z hz => ?_, lw.trans le, fin _ lw fun z hz => ?_⟩
        · rw [dget_put]
          unfold up
          split
          · rfl
          · exact wo.get x
        · by_cases qx : x = e.1
          · subst qx
            rw [up_at] at hz
            cases hz
            obtain ⟨l, c1, c2⟩ := so _ w q
            exact ⟨e :: l, ⟨hm, rfl, c1⟩, by simp only [wt]; omega⟩
          · rw [up_ne _ _ qx] at hz
            exact so x z hz
        · rw [q] at hz
          cases hz
          exact ⟨_, up_at _ _ _, Int.le_refl _⟩
      · simp only [evSs, evS.eq_1, evS.eq_2, evS.eq_3, evS.eq_4, evS.eq_5, evS.eq_6, evS.eq_7, evS.eq_10, evS.eq_11, evS.eq_12, evS.eq_13, evS.eq_14, evE.eq_1, evE.eq_2, evE.eq_3, evE.eq_4, evE.eq_5, evE.eq_6, evE.eq_7, evE.eq_8, evE.eq_9, evE.eq_10, evE.eq_11, evE.eq_12, evE.eq_13, evE.eq_14, evE.eq_15, evE.eq_16, evE.eq_17, evE.eq_18, evE.eq_19, evE.eq_21, evE.eq_22, evE.eq_23, evE.eq_24, evE.eq_25, evE.eq_26,  evEs, evO, evTs, evI, asgT, asgTs, slot, startD, R.of_some, R.of_none, R.bind_ok, R.bind_stuck, R.then_ok, RS.seq_next, RS.seq_ret, RS.seq_brk, RS.seq_cont, List.getElem?_cons_zero, List.getElem?_cons_succ, List.set_cons_zero, List.set_cons_succ, List.set_set, add_ii, sub_ii, mul_ii, mod_ii, fdiv_ii, pow_lit, blt_int, blt_max, blt_min, blt_abs, aug_ii, tr_bl, lt_ii, le_ii, gt_ii, ge_ii, eq_ii, ne_ii, trim_p0, if_true, Bool.not_true, Bool.not_false, Bool.false_eq_true, if_false, R.tr_ok_bl, gOf_call, mkT_p2, len_t, sz1, sz2, sz3, sz4, sz6, D.items, hg0, hg1, hg2, hg3, hs0, hs1, hs2, hs3, hl1, hl2, hl3, hl4, List.append_assoc, List.cons_append, List.nil_append, List.append_nil, mk, pairUp, List.map_cons, List.map_nil, List.length_cons, List.length_nil, List.replicate, Nat.zero_le, litP, cmp_in, ci, truth_bl, g1, meth_get (hg0 h (.dct kl) []), g2, decide_eq_false lt]
        refine ⟨kl, D1, _, _, _, rfl, trimS_same rfl, wo, so, le, fin D1 (Low.refl _) fun z hz => ?_⟩
        rw [q] at hz
        cases hz
        cases q2 : D1 e.1 with
        | none => rw [q2] at lt; simp only [Option.getD_none] at lt; omega
        | some y => rw [q2] at lt; simp only [Option.getD_some] at lt; exact ⟨y, rfl, by omega⟩
  · rintro s h' ⟨kl, D1, s5, s6, s7, rfl, rfl, wo, so, le, done⟩
    rw [List.length_map, List.take_length] at done
    exact ⟨rfl, kl, D1, s5, s6, s7, rfl, rfl, wo, so, le, done⟩
theorem tight_ok (hi : p.fns[i]? = some (tightF t gi)) (ht : p.fns[t]? = some (solvedF r)) (hr : p.fns[r]? = some (ringF ap)) (ok : NetOk E) (few : E.length < 90000) (hF : 2 * E.length + 4 < F) {u v : P} (hu : IsN u) (hv : IsN v) :
    ∃ o : Option Int, callN p F (k + 4) i [.p (netP E), .p u, .p v] h = .ok (.p (oP o)) h ∧ (Bad E → o = none) ∧ ((¬ Bad E) → (∀ w, o = some w → ∃ l, Chain E u l v ∧ wt l = w) ∧ ∀ l, Chain E u l v → ∃ w, o = some w ∧ w ≤ wt l) := by
  obtain ⟨x, tx, ex⟩ := solved_ok (F := F) (k := k) (h := h) ht hr ok (by omega) (by omega)
  obtain ⟨b, g1, g2, g3⟩ := ring_eq (h := h) tx
  rw [show k + 4 = (k + 2) + 2 from rfl, call_eq hi rfl]
  have e0 : evS (gOf p F (callN p F (k + 3)) (callN p F (k + 2))) (.ite (.trim (.cmp .eq (.sub (.call t (.cons (.v 0) .nil)) (.c (.int 0))) (.c (.str "ring")))) (.cons (.ret (.c .non)) .nil) .nil) (startD 8 [.p (netP E), .p u, .p v]) h = if b then .ret (.p .non) h else .next (startD 8 [.p (netP E), .p u, .p v]) h := by
    simp only [evSs, evS.eq_1, evS.eq_2, evS.eq_3, evS.eq_4, evS.eq_5, evS.eq_6, evS.eq_7, evS.eq_10, evS.eq_11, evS.eq_12, evS.eq_13, evS.eq_14, evE.eq_1, evE.eq_2, evE.eq_3, evE.eq_4, evE.eq_5, evE.eq_6, evE.eq_7, evE.eq_8, evE.eq_9, evE.eq_10, evE.eq_11, evE.eq_12, evE.eq_13, evE.eq_14, evE.eq_15, evE.eq_16, evE.eq_17, evE.eq_18, evE.eq_19, evE.eq_21, evE.eq_22, evE.eq_23, evE.eq_24, evE.eq_25, evE.eq_26,  evEs, evO, evTs, evI, asgT, asgTs, slot, startD, R.of_some, R.of_none, R.bind_ok, R.bind_stuck, R.then_ok, RS.seq_next, RS.seq_ret, RS.seq_brk, RS.seq_cont, List.getElem?_cons_zero, List.getElem?_cons_succ, List.set_cons_zero, List.set_cons_succ, List.set_set, add_ii, sub_ii, mul_ii, mod_ii, fdiv_ii, pow_lit, blt_int, blt_max, blt_min, blt_abs, aug_ii, tr_bl, lt_ii, le_ii, gt_ii, ge_ii, eq_ii, ne_ii, trim_p0, if_true, Bool.not_true, Bool.not_false, Bool.false_eq_true, if_false, R.tr_ok_bl, gOf_call, mkT_p2, len_t, sz1, sz2, sz3, sz4, sz6, D.items, hg0, hg1, hg2, hg3, hs0, hs1, hs2, hs3, hl1, hl2, hl3, hl4, List.append_assoc, List.cons_append, List.nil_append, List.append_nil, mk, pairUp, List.map_cons, List.map_nil, List.length_cons, List.length_nil, List.replicate, Nat.zero_le, gOf_call, ex, g1, cmpS, g2]
  by_cases bad : Bad E
  · have b1 : b = true := g3.mpr bad
    subst b1
    refine ⟨none, ?_, fun _ => rfl, fun z => absurd bad z⟩
    show backR h (evSs _ (.cons _ _) _ _) = _
    rw [evSs]
    have e0 : evS (gOf p F (callN p F (k + 2 + 1)) (callN p F (k + 2))) (.ite (.trim (.cmp .eq (.sub (.call t (.cons (.v 0) .nil)) (.c (.int 0))) (.c (.str "ring")))) (.cons (.ret (.c .non)) .nil) .nil) (startD (tightF t gi).ns [.p (netP E), .p u, .p v]) h = .ret (.p .non) h := e0
    rw [e0]
    exact trim_p0 h _
  · have b0 : b = false := by
      cases b with
      | false => rfl
      | true => exact absurd (g3.mp rfl) bad
    subst b0
    obtain ⟨d, h2, e, o, rfl, ⟨tl, rfl⟩, so, fa⟩ : ∃ d h2, evSs (gOf p F (callN p F (k + 3)) (callN p F (k + 2))) (tightF t gi).body (startD 8 [.p (netP E), .p u, .p v]) h = .ret d h2 ∧ ∃ o : Option Int, d = .p (oP o) ∧ (∃ tl, h2 = h ++ tl) ∧ (∀ w, o = some w → ∃ l, Chain E u l v ∧ wt l = w) ∧ ∀ l, Chain E u l v → ∃ w, o = some w ∧ w ≤ wt l := by
      refine run_ret ?_
      show Ru (evSs _ (.cons _ (.cons _ (.cons (tAll gi) _))) _ _) _ _
      rw [evSs, e0, if_neg (by decide), RS.seq_next, evSs]
      have e1 : evS (gOf p F (callN p F (k + 3)) (callN p F (k + 2))) (.asg (.v 3) (.dct (.cons (.v 2) (.cons (.c (.int 0)) .nil)))) (startD 8 [.p (netP E), .p u, .p v]) h = .next [some (.p (netP E)), some (.p u), some (.p v), some (.r h.length), none, none, none, none] (h ++ [.dct [(v, .p (.int 0))]]) := by
        have l0 : lfs [(v, D.p (.int 0))] = true := by simp [lfs, hv.node.1]
        have m0 : mergeD [] [(v, D.p (.int 0))] = [(v, .p (.int 0))] := rfl
        simp only [evSs, evS.eq_1, evS.eq_2, evS.eq_3, evS.eq_4, evS.eq_5, evS.eq_6, evS.eq_7, evS.eq_10, evS.eq_11, evS.eq_12, evS.eq_13, evS.eq_14, evE.eq_1, evE.eq_2, evE.eq_3, evE.eq_4, evE.eq_5, evE.eq_6, evE.eq_7, evE.eq_8, evE.eq_9, evE.eq_10, evE.eq_11, evE.eq_12, evE.eq_13, evE.eq_14, evE.eq_15, evE.eq_16, evE.eq_17, evE.eq_18, evE.eq_19, evE.eq_21, evE.eq_22, evE.eq_23, evE.eq_24, evE.eq_25, evE.eq_26,  evEs, evO, evTs, evI, asgT, asgTs, slot, startD, R.of_some, R.of_none, R.bind_ok, R.bind_stuck, R.then_ok, RS.seq_next, RS.seq_ret, RS.seq_brk, RS.seq_cont, List.getElem?_cons_zero, List.getElem?_cons_succ, List.set_cons_zero, List.set_cons_succ, List.set_set, add_ii, sub_ii, mul_ii, mod_ii, fdiv_ii, pow_lit, blt_int, blt_max, blt_min, blt_abs, aug_ii, tr_bl, lt_ii, le_ii, gt_ii, ge_ii, eq_ii, ne_ii, trim_p0, if_true, Bool.not_true, Bool.not_false, Bool.false_eq_true, if_false, R.tr_ok_bl, gOf_call, mkT_p2, len_t, sz1, sz2, sz3, sz4, sz6, D.items, hg0, hg1, hg2, hg3, hs0, hs1, hs2, hs3, hl1, hl2, hl3, hl4, List.append_assoc, List.cons_append, List.nil_append, List.append_nil, mk, pairUp, List.map_cons, List.map_nil, List.length_cons, List.length_nil, List.replicate, Nat.zero_le, l0, m0, Option.map_some, startD]
        rw [if_pos (by simp)]
        rfl
      rw [e1, RS.seq_next, evSs]
      have hS : ∀ x ∈ v :: E.map (·.1), Node x := fun x hx => by
        rcases List.mem_cons.mp hx with rfl | hx
        · exact hv.node
        · obtain ⟨e, he, rfl⟩ := List.mem_map.mp hx
          exact (ok e he).1.node
      have lit : ∀ e ∈ E, e.1 ∈ v :: E.map (·.1) ∧ Node e.2.1 := fun e he => ⟨List.mem_cons_of_mem _ (List.mem_map.mpr ⟨e, he, rfl⟩), (ok e he).2.node⟩
      refine Run.seq (M := fun s h' => ∃ kl D1 s4 s5 s6 s7, s = [some (.p (netP E)), some (.p u), some (.p v), some (.r h.length), s4, s5, s6, s7] ∧ h' = h ++ [.dct kl] ∧ WO kl D1 (v :: E.map (·.1)) ∧ SoundW E v D1 ∧ FarW E v (E.length + 1) D1) ?_ ?_
      · unfold tAll
        have it := rng1_ok (g := gOf p F (callN p F (k + 3)) (callN p F (k + 2))) (a := .bin .add (.blt .len (.cons (.v 0) .nil)) (.c (.int 1))) (s := [some (.p (netP E)), some (.p u), some (.p v), some (.r h.length), none, none, none, none]) (h := h ++ [.dct [(v, .p (.int 0))]]) (h1 := h ++ [.dct [(v, .p (.int 0))]]) (n := E.length + 1) (by
          have := len_t (E.map litP) (h ++ [.dct [(v, .p (.int 0))]])
          rw [List.length_map] at this
          have this : bltS .len [.p (netP E)] (h ++ [.dct [(v, .p (.int 0))]]) = .ok (.p (.int E.length)) (h ++ [.dct [(v, .p (.int 0))]]) := this
          simp only [evSs, evS.eq_1, evS.eq_2, evS.eq_3, evS.eq_4, evS.eq_5, evS.eq_6, evS.eq_7, evS.eq_10, evS.eq_11, evS.eq_12, evS.eq_13, evS.eq_14, evE.eq_1, evE.eq_2, evE.eq_3, evE.eq_4, evE.eq_5, evE.eq_6, evE.eq_7, evE.eq_8, evE.eq_9, evE.eq_10, evE.eq_11, evE.eq_12, evE.eq_13, evE.eq_14, evE.eq_15, evE.eq_16, evE.eq_17, evE.eq_18, evE.eq_19, evE.eq_21, evE.eq_22, evE.eq_23, evE.eq_24, evE.eq_25, evE.eq_26,  evEs, evO, evTs, evI, asgT, asgTs, slot, startD, R.of_some, R.of_none, R.bind_ok, R.bind_stuck, R.then_ok, RS.seq_next, RS.seq_ret, RS.seq_brk, RS.seq_cont, List.getElem?_cons_zero, List.getElem?_cons_succ, List.set_cons_zero, List.set_cons_succ, List.set_set, add_ii, sub_ii, mul_ii, mod_ii, fdiv_ii, pow_lit, blt_int, blt_max, blt_min, blt_abs, aug_ii, tr_bl, lt_ii, le_ii, gt_ii, ge_ii, eq_ii, ne_ii, trim_p0, if_true, Bool.not_true, Bool.not_false, Bool.false_eq_true, if_false, R.tr_ok_bl, gOf_call, mkT_p2, len_t, sz1, sz2, sz3, sz4, sz6, D.items, this]
          rfl) (by omega)
        rw [evS.eq_9, it, R.then_ok]
        dsimp only
        refine loopS_run (fun i s h' => ∃ kl D1 s4 s5 s6 s7, s = [some (.p (netP E)), some (.p u), some (.p v), some (.r h.length), s4, s5, s6, s7] ∧ h' = h ++ [.dct kl] ∧ WO kl D1 (v :: E.map (·.1)) ∧ SoundW E v D1 ∧ FarW E v i D1) _ _ (nums 0 (E.length + 1)) ?_ ?_ _ 0 _ _ List.drop_zero
          ⟨[(v, .p (.int 0))], up (fun _ => none) v (some 0), none, none, none, none, rfl, rfl, ⟨fun x => ?_, ⟨by simp, fun x hx => by simp at hx; subst hx; exact List.mem_cons_self⟩⟩, fun x w hx => ?_, fun l a c q => ?_⟩ (Nat.zero_le _)
        · rintro i d s h' hd ⟨kl, D1, s4, s5, s6, s7, rfl, rfl, wo, so, fa⟩
          refine ⟨rfl, ?_⟩
          have e2 : ((asgT (gOf p F (callN p F (k + 3)) (callN p F (k + 2))) (.v 4) d [some (.p (netP E)), some (.p u), some (.p v), some (.r h.length), s4, s5, s6, s7] (h ++ [.dct kl])).then [some (.p (netP E)), some (.p u), some (.p v), some (.r h.length), s4, s5, s6, s7] fun s2 h3 => evSs (gOf p F (callN p F (k + 3)) (callN p F (k + 2))) (.cons (tLow gi) .nil) s2 h3) =
              evSs (gOf p F (callN p F (k + 3)) (callN p F (k + 2))) (.cons (tLow gi) .nil) [some (.p (netP E)), some (.p u), some (.p v), some (.r h.length), some d, s5, s6, s7] (h ++ [.dct kl]) := by
            rw [asgT]
            simp only [List.set_cons_succ, List.set_cons_zero, R.then_ok]
          rw [e2, evSs]
          refine Run.seq (tlow_ok hS (by simp; omega) lit wo so) ?_
          rintro s h' ⟨kl2, D2, s5, s6, s7, rfl, rfl, wo2, so2, le, st⟩
          rw [evSs]
          exact ⟨kl2, D2, _, _, _, _, rfl, trimS_same (by rw [hl1, hl1]), wo2, so2, far_more fa le st⟩
        · rintro s h' ⟨kl, D1, s4, s5, s6, s7, rfl, rfl, wo, so, fa⟩
          rw [numsLen] at fa
          exact ⟨rfl, kl, D1, s4, s5, s6, s7, rfl, rfl, wo, so, fa⟩
        · by_cases q : x = v
          · subst q; rw [up_at]; simp [dGet]
          · rw [up_ne _ _ q]
            have : ¬ v = x := fun z => q z.symm
            simp [dGet, this]
        · by_cases q : x = v
          · subst q; rw [up_at] at hx; cases hx; exact ⟨[], rfl, rfl⟩
          · rw [up_ne _ _ q] at hx; cases hx
        · have : l = [] := List.length_eq_zero_iff.mp (by omega)
          subst this
          have c : a = v := c
          subst c
          exact ⟨0, up_at _ _ _, Int.le_refl _⟩
      · rintro s h' ⟨kl, D1, s4, s5, s6, s7, rfl, rfl, wo, so, fa⟩
        have lf : lfs kl = true := wo.keys.lfs fun x hx => (hS x hx).1
        have g := get1_dct (hg0 h (.dct kl) []) (kfit_leaf hu.node.1 lf)
        rw [wo.get] at g
        have g' : ((D1 u).map fun w => D.p (.int w)).getD (.p .non) = .p (oP (D1 u)) := by cases D1 u <;> rfl
        rw [g'] at g
        simp only [evSs, evS.eq_1, evS.eq_2, evS.eq_3, evS.eq_4, evS.eq_5, evS.eq_6, evS.eq_7, evS.eq_10, evS.eq_11, evS.eq_12, evS.eq_13, evS.eq_14, evE.eq_1, evE.eq_2, evE.eq_3, evE.eq_4, evE.eq_5, evE.eq_6, evE.eq_7, evE.eq_8, evE.eq_9, evE.eq_10, evE.eq_11, evE.eq_12, evE.eq_13, evE.eq_14, evE.eq_15, evE.eq_16, evE.eq_17, evE.eq_18, evE.eq_19, evE.eq_21, evE.eq_22, evE.eq_23, evE.eq_24, evE.eq_25, evE.eq_26,  evEs, evO, evTs, evI, asgT, asgTs, slot, startD, R.of_some, R.of_none, R.bind_ok, R.bind_stuck, R.then_ok, RS.seq_next, RS.seq_ret, RS.seq_brk, RS.seq_cont, List.getElem?_cons_zero, List.getElem?_cons_succ, List.set_cons_zero, List.set_cons_succ, List.set_set, add_ii, sub_ii, mul_ii, mod_ii, fdiv_ii, pow_lit, blt_int, blt_max, blt_min, blt_abs, aug_ii, tr_bl, lt_ii, le_ii, gt_ii, ge_ii, eq_ii, ne_ii, trim_p0, if_true, Bool.not_true, Bool.not_false, Bool.false_eq_true, if_false, R.tr_ok_bl, gOf_call, mkT_p2, len_t, sz1, sz2, sz3, sz4, sz6, D.items, meth_get (hg0 h (.dct kl) []), g]
        refine ⟨D1 u, rfl, ⟨_, rfl⟩, so u, fun l c => ?_⟩
        obtain ⟨l', c1, c2, c3⟩ := short bad l.length l (Nat.le_refl _) c
        obtain ⟨w, e, q⟩ := fa l' u c1 (by omega)
        exact ⟨w, e, by omega⟩
    exact ⟨o, by rw [show (tightF t gi).ns = 8 from rfl, e]; exact trim_pb _ _ _, fun z => absurd z bad, fun _ => ⟨so, fa⟩⟩
end
end Net

/-! G: back to a root, or a ring; how far numbers go; other names. No program here. -/
namespace Net
open Pv
variable {E : List Lt} {L : P → Option Nat} {W : P → Int} {T : P → Nat} {ns : List P}
theorem tr_len {vs : List P} {x : P} (h : Tr E L vs x) (p : Prd E W L T) : wt (lits E (vs.map (ix L))) + W x ≤ W (hd vs x) := by
  have := (back_chain p (Tr.back h)).2.1
  omega
theorem ring_bad (p : Prd E W L T) {b : P} {post : List P} (h : Tr E L (b :: post) b) : Bad E := ⟨b, _, (back_chain p (Tr.back h)).1, ring_below p (Tr.back h) (by simp)⟩
theorem walk_back (p : Prd E W L T) (hL : ∀ k i, L k = some i → ∃ e, E[i]? = some e ∧ e.2.1 ∈ ns) {a : P} (ha : a ∈ ns) : ∀ m : Nat,
    (∃ vs x, Tr E L vs x ∧ hd vs x = a ∧ vs.Nodup ∧ (∀ y ∈ vs, y ∈ ns) ∧ x ∈ ns ∧ vs.length = m ∧ ¬ x ∈ vs) ∨ (∃ vs x, Tr E L vs x ∧ hd vs x = a ∧ vs.Nodup ∧ (∀ y ∈ vs, y ∈ ns) ∧ L x = none) ∨ Bad E
  | 0 => .inl ⟨[], a, trivial, rfl, List.nodup_nil, (fun _ z => by cases z), ha, rfl, List.not_mem_nil⟩
  | m + 1 => by
    rcases walk_back p hL ha m with ⟨vs, x, tr, h, nd, sub, hx, len, out⟩ | z | z
    · cases hl : L x with
      | none => exact .inr (.inl ⟨vs, x, tr, h, nd, sub, hl⟩)
      | some i =>
        obtain ⟨e, he, hn⟩ := hL x i hl
        have tr2 : Tr E L (vs ++ [x]) e.2.1 := Tr.snoc tr ⟨i, e, hl, he, rfl⟩
        have nd2 : (vs ++ [x]).Nodup := by
          rw [List.nodup_append]
          exact ⟨nd, (by simp), fun y hy z hz => by
            rw [List.mem_singleton.mp hz]
            rintro rfl
            exact out hy⟩
        by_cases q : e.2.1 ∈ vs ++ [x]
        · obtain ⟨u, w, ee⟩ := List.append_of_mem q
          rw [ee] at tr2
          exact .inr (.inr (ring_bad p (Tr.behind tr2)))
        · refine .inl ⟨vs ++ [x], e.2.1, tr2, by rw [hd_app]; exact h, nd2, fun y hy => ?_, hn, by simp [len], q⟩
          rcases List.mem_append.mp hy with hy | hy
          · exact sub y hy
          · rw [List.mem_singleton.mp hy]; exact hx
    · exact .inr (.inl z)
    · exact .inr (.inr z)
theorem root_or (p : Prd E W L T) (hL : ∀ k i, L k = some i → ∃ e, E[i]? = some e ∧ e.2.1 ∈ ns) {a : P} (ha : a ∈ ns) : (∃ vs x, Tr E L vs x ∧ hd vs x = a ∧ vs.Nodup ∧ (∀ y ∈ vs, y ∈ ns) ∧ L x = none) ∨ Bad E := by
  rcases walk_back p hL ha (ns.length + 1) with ⟨vs, x, _, _, nd, sub, _, len, _⟩ | z | z
  · have := pig nd sub
    omega
  · exact .inl z
  · exact .inr z
/-- still lowered behind as many rounds as there are names -/
theorem bad_of (p : Prd E W L T) (hL : ∀ k i, L k = some i → ∃ e, E[i]? = some e ∧ e.2.1 ∈ ns) {W0 : P → Int} (r : Rnd E ns.length W0) {a : P} (ha : a ∈ ns) (lt : W a < W0 a) : Bad E := by
  rcases root_or p hL ha with ⟨vs, x, tr, h, nd, sub, hx⟩ | z
  · have bk := Tr.back tr
    rw [h] at bk
    have lv := pig nd sub
    exact absurd hx (no_root p r lt bk (by rw [List.length_map]; exact lv))
  · exact z

/-! ### how far -/
def absS : List Lt → Int
  | [] => 0
  | e :: l => (if e.2.2 < 0 then -e.2.2 else e.2.2) + absS l
theorem absS_pos : ∀ l : List Lt, 0 ≤ absS l
  | [] => Int.le_refl _
  | e :: l => by
    have := absS_pos l
    simp only [absS]
    split <;> omega
theorem wt_abs : ∀ l : List Lt, -(absS l) ≤ wt l
  | [] => Int.le_refl _
  | e :: l => by
    have := wt_abs l
    simp only [absS, wt]
    split <;> omega
theorem absS_app : ∀ l m : List Lt, absS (l ++ m) = absS l + absS m
  | [], m => by simp [absS]
  | e :: l, m => by rw [List.cons_append, absS, absS, absS_app l m]; omega
/-- some of the literals, each place once -/
theorem absS_some : ∀ (E : List Lt) (is : List Nat), is.Nodup → absS (lits E is) ≤ absS E
  | [], is, _ => by
    have : lits ([] : List Lt) is = [] := by
      unfold lits
      rw [List.filterMap_eq_nil_iff]
      intro i _
      rfl
    rw [this]
    exact Int.le_refl _
  | e :: E, is, nd => by
    -- the places behind the first, moved down by one
    have key : ∀ is : List Nat, is.Nodup → absS (lits (e :: E) is) ≤ absS (lits E ((is.filter (fun i => decide (0 < i))).map (· - 1))) + (if 0 ∈ is then absS [e] else 0) := by
      intro is
      induction is with
      | nil => intro _; simp [lits, absS]
      | cons i is ih =>
        intro nd
        obtain ⟨n1, n2⟩ := List.nodup_cons.mp nd
        have ih := ih n2
        cases i with
        | zero =>
          have l0 : lits (e :: E) (0 :: is) = e :: lits (e :: E) is := by simp [lits]
          have f0 : (0 :: is).filter (fun i => decide (0 < i)) = is.filter fun i => decide (0 < i) := by simp
          rw [l0, f0, if_pos List.mem_cons_self]
          rw [if_neg n1] at ih
          simp only [absS] at ih ⊢
          omega
        | succ i =>
          have f0 : ((i + 1) :: is).filter (fun i => decide (0 < i)) = (i + 1) :: is.filter fun i => decide (0 < i) := by simp
          have m0 : (0 ∈ (i + 1) :: is) ↔ 0 ∈ is := by simp
          rw [f0, List.map_cons]
          have l0 : lits (e :: E) ((i + 1) :: is) = lits E [i] ++ lits (e :: E) is := by
            simp only [lits, List.filterMap_cons, List.getElem?_cons_succ, List.filterMap_nil]
            cases E[i]? <;> rfl
          have l1 : lits E ((i + 1 - 1) :: (is.filter fun i => decide (0 < i)).map (· - 1)) = lits E [i] ++ lits E ((is.filter fun i => decide (0 < i)).map (· - 1)) := by
            simp only [lits, List.filterMap_cons, Nat.add_sub_cancel, List.filterMap_nil]
            cases E[i]? <;> rfl
          rw [l0, l1, absS_app, absS_app]
          by_cases q : 0 ∈ is
          · rw [if_pos (m0.mpr q)]; rw [if_pos q] at ih; omega
          · rw [if_neg (fun z => q (m0.mp z))]; rw [if_neg q] at ih; omega
    have nd2 : ((is.filter fun i => decide (0 < i)).map (· - 1)).Nodup := by
      have n3 : (is.filter fun i => decide (0 < i)).Nodup := List.Nodup.sublist List.filter_sublist nd
      have pos : ∀ x ∈ is.filter (fun i => decide (0 < i)), 0 < x := fun x hx => by simpa using (List.mem_filter.mp hx).2
      generalize is.filter (fun i => decide (0 < i)) = js at n3 pos
      induction js with
      | nil => exact List.nodup_nil
      | cons j js ih =>
        obtain ⟨m1, m2⟩ := List.nodup_cons.mp n3
        rw [List.map_cons, List.nodup_cons]
        refine ⟨fun z => ?_, ih m2 fun x hx => pos x (List.mem_cons_of_mem _ hx)⟩
        obtain ⟨y, hy, e⟩ := List.mem_map.mp z
        have a1 := pos y (List.mem_cons_of_mem _ hy)
        have a2 := pos j List.mem_cons_self
        have : y = j := by omega
        subst this
        exact m1 hy
    have k := key is nd
    have r := absS_some E _ nd2
    have ap := absS_pos [e]
    simp only [absS] at k ap ⊢
    split at k <;> omega
/-- the indices along a trace are apart -/
theorem ix_nodup (p : Prd E W L T) : ∀ {vs : List P} {x : P}, Tr E L vs x → vs.Nodup → (vs.map (ix L)).Nodup
  | [], _, _, _ => List.nodup_nil
  | v :: vs, x, tr, nd => by
    obtain ⟨n1, n2⟩ := List.nodup_cons.mp nd
    rw [List.map_cons, List.nodup_cons]
    refine ⟨fun z => ?_, ix_nodup p tr.2 n2⟩
    obtain ⟨y, hy, e⟩ := List.mem_map.mp z
    obtain ⟨i, _, hi, _, _⟩ := tr.1
    have hy2 : ∃ j, L y = some j := by
      have : ∀ {vs : List P} {x : P}, Tr E L vs x → y ∈ vs → ∃ j, L y = some j := by
        intro vs
        induction vs with
        | nil => intro _ _ h; cases h
        | cons w vs ih =>
          intro x t h
          rcases List.mem_cons.mp h with rfl | h
          · obtain ⟨j, _, hj, _⟩ := t.1
            exact ⟨j, hj⟩
          · exact ih t.2 h
      exact this tr.2 hy
    obtain ⟨j, hj⟩ := hy2
    have e : j = i := by
      unfold ix at e
      rw [hi, hj] at e
      exact e
    subst e
    obtain ⟨e1, g1, g2, _⟩ := p.from_ v j hi
    obtain ⟨e2, g3, g4, _⟩ := p.from_ y j hj
    rw [g1] at g3
    cases g3
    rw [g2] at g4
    rw [g4] at n1
    exact n1 hy
/-- no number is farther below 0 than all sizes together -/
theorem far_ok (p : Prd E W L T) (hL : ∀ k i, L k = some i → ∃ e, E[i]? = some e ∧ e.2.1 ∈ ns) (good : ¬ Bad E) {a : P} (ha : a ∈ ns) : -(absS E) ≤ W a := by
  rcases root_or p hL ha with ⟨vs, x, tr, h, nd, sub, hx⟩ | z
  · have h1 := tr_len tr p
    rw [h, p.none_ x hx] at h1
    have h2 := wt_abs (lits E (vs.map (ix L)))
    have h3 := absS_some E _ (ix_nodup p tr nd)
    omega
  · exact absurd z good

/-! ### other names -/
theorem bad_map {f : P → P} : Bad E → Bad (E.map fun e => (f e.1, f e.2.1, e.2.2)) := fun ⟨a, l, h, w⟩ => by
  have go : ∀ {l : List Lt} {a b : P}, Chain E a l b → Chain (E.map fun e => (f e.1, f e.2.1, e.2.2)) (f a) (l.map fun e => (f e.1, f e.2.1, e.2.2)) (f b) ∧ wt (l.map fun e => (f e.1, f e.2.1, e.2.2)) = wt l := by
    intro l
    induction l with
    | nil => intro a b h; cases h; exact ⟨rfl, rfl⟩
    | cons e l ih =>
      intro a b h
      obtain ⟨h1, h2⟩ := ih h.2.2
      refine ⟨⟨List.mem_map.mpr ⟨e, h.1, rfl⟩, by show f e.1 = f a; rw [h.2.1], h1⟩, ?_⟩
      simp only [List.map_cons, wt, h2]
  obtain ⟨h1, h2⟩ := go h
  exact ⟨f a, _, h1, by rw [h2]; exact w⟩
theorem bad_unmap {f : P → P} {S : P → Prop} (inj : ∀ a b, S a → S b → f a = f b → a = b) (hS : ∀ e ∈ E, S e.1 ∧ S e.2.1) : Bad (E.map fun e => (f e.1, f e.2.1, e.2.2)) → Bad E := fun ⟨a, l, h, w⟩ => by
  have go : ∀ {l : List Lt} {a b : P}, S a → Chain (E.map fun e => (f e.1, f e.2.1, e.2.2)) (f a) l b → ∃ l' b', S b' ∧ Chain E a l' b' ∧ f b' = b ∧ wt l' = wt l := by
    intro l
    induction l with
    | nil => intro a b sa h; exact ⟨[], a, sa, rfl, h, rfl⟩
    | cons e l ih =>
      intro a b sa h
      obtain ⟨e', he, rfl⟩ := List.mem_map.mp h.1
      have ea : e'.1 = a := inj _ _ (hS e' he).1 sa h.2.1
      obtain ⟨l', b', s1, s2, s3, s4⟩ := ih (hS e' he).2 h.2.2
      exact ⟨e' :: l', b', s1, ⟨he, ea, s2⟩, s3, by simp only [wt, s4]⟩
  cases l with
  | nil => simp only [wt] at w; omega
  | cons e l =>
    obtain ⟨e', he, rfl⟩ := List.mem_map.mp h.1
    have h0 := h
    rw [← h.2.1] at h0
    obtain ⟨l', b', s1, s2, s3, s4⟩ := go (hS e' he).1 h0
    have : b' = e'.1 := inj _ _ s1 (hS e' he).1 s3
    subst this
    exact ⟨_, l', s2, by rw [s4]; exact w⟩
end Net

/-! H: a law's own numbers are run. -/
namespace Net
open PySem L2 Pv

def hMake : IS := .asg (.v 1) (.trim (.blt .dict (.cons (.bin .add (.comp [4, 5, 6] (.tup (.cons (.v 4) (.cons (.c (.int 0)) .nil))) (.tup 3 (.cons (.v 4) (.cons (.v 5) (.cons (.v 6) .nil)))) (.of (.v 0)) .nil) (.comp [4, 5, 6] (.tup (.cons (.v 5) (.cons (.c (.int 0)) .nil))) (.tup 3 (.cons (.v 4) (.cons (.v 5) (.cons (.v 6) .nil)))) (.of (.v 0)) .nil)) .nil)))
def hLow : IS := .for (.tup 3 (.cons (.v 4) (.cons (.v 5) (.cons (.v 6) .nil)))) (.of (.v 0)) (.cons (.ite (.trim (.cmp .lt (.bin .add (.sub (.v 1) (.v 5)) (.v 6)) (.sub (.v 1) (.v 4)))) (.cons (.asg (.tup 2 (.cons (.sub (.v 1) (.v 4)) (.cons (.v 3) .nil))) (.trim (.tup (.cons (.bin .add (.sub (.v 1) (.v 5)) (.v 6)) (.cons (.c (.bl true)) .nil))))) .nil) .nil) .nil)
def hDict : IE := .trim (.blt .dict (.cons (.lck (.v 1) (.comp [8] (.tup (.cons (.v 8) (.cons (.bin .sub (.sub (.v 1) (.v 8)) (.v 7)) .nil))) (.v 8) (.of (.v 1)) .nil)) .nil))
def hDone (gi : Nat) : IS := .ite (.not (.v 3)) (.cons (.asg (.v 7) (.meth (.v 1) gi .get (.cons (.c (.str "")) (.cons (.c (.int 0)) .nil)))) (.cons (.ret hDict) .nil)) .nil
def hTurns (gi : Nat) : IS := .for (.v 2) (.rng1 (.bin .add (.blt .len (.cons (.v 1) .nil)) (.c (.int 1)))) (.cons (.asg (.v 3) (.c (.bl false))) (.cons hLow (.cons (hDone gi) .nil)))
def numF (gi : Nat) : FD := ⟨1, 9, .cons hMake (.cons (hTurns gi) (.cons (.ret (.c .non)) .nil))⟩

variable {E : List Lt}
/-- a list of literals in the heap -/
def netL (E : List Lt) : O := .lst (E.map fun e => .p (litP e))
/-- names, each once -/
def namesOf (ks : List P) : List P := ks.foldl addk []
theorem names_mem : ∀ (ks acc : List P) (x : P), x ∈ ks.foldl addk acc ↔ x ∈ acc ∨ x ∈ ks
  | [], acc, x => by simp
  | k :: ks, acc, x => by
    rw [List.foldl_cons, names_mem ks (addk acc k) x, addk_mem, List.mem_cons]
    constructor
    · rintro ((h | h) | h)
      · exact .inl h
      · exact .inr (.inl h)
      · exact .inr (.inr h)
    · rintro (h | h | h)
      · exact .inl (.inl h)
      · exact .inl (.inr h)
      · exact .inr h
theorem names_nd : ∀ (ks acc : List P), acc.Nodup → (ks.foldl addk acc).Nodup
  | [], _, h => h
  | k :: ks, acc, h => names_nd ks _ (addk_nodup h)
theorem names_len : ∀ (ks acc : List P), (ks.foldl addk acc).length ≤ acc.length + ks.length
  | [], acc => Nat.le_refl _
  | k :: ks, acc => by
    have h1 := names_len ks (addk acc k)
    have h2 := addk_len (ns := acc) (k := k)
    rw [List.foldl_cons, List.length_cons]
    omega
theorem merge_zero : ∀ (ks acc : List P), mergeD (Wd acc fun _ => 0) (ks.map fun k => (k, .p (.int 0))) = Wd (ks.foldl addk acc) fun _ => 0
  | [], acc => rfl
  | k :: ks, acc => by
    have := merge_zero ks (addk acc k)
    rw [← wd_put0] at this
    exact this
def pairF (f : Lt → P) : D → Option D
  | .p (.tup [u, v, .int c]) => some (.p (.tup [f (u, v, c), .int 0]))
  | _ => none
def ends (E : List Lt) : List P := E.map (·.1) ++ E.map (·.2.1)
section
variable {g : G} {h : Hh} {i : Nat} (hi : h[i]? = some (netL E))
include hi
theorem walk_net {t : Hh} {a : IE} {s : Sg} (e : evE g a s (h ++ t) = .ok (.r i) (h ++ t)) : evI g (.of a) s (h ++ t) = .ok (E.map fun e => .p (litP e), [(i, netL E)]) (h ++ t) := by
  have e1 : (h ++ t)[i]? = some (netL E) := get_app hi
  have e2 : seqOf (h ++ t) (.r i) = some (E.map fun e => .p (litP e)) := by simp only [seqOf, lstOf, e1, netL]
  rw [evI, e, R.bind_ok, e2]
  simp only [gdOf, e1]
theorem gd_net (t : Hh) : Gd.ok [(i, netL E)] (h ++ t) = true := by
  have e1 : (h ++ t)[i]? = some (netL E) := get_app hi
  simp only [Gd.ok_cons, Gd.ok_nil, e1, decide_true, Bool.and_true]
theorem pair_comp (few : E.length < 100000) {f : Lt → P} {elt : IE} {s : Sg} (t : Hh) (ev : ∀ (e : Lt) (a : Hh), bodyC g [4, 5, 6] (.tup 3 (.cons (.v 4) (.cons (.v 5) (.cons (.v 6) .nil)))) .nil elt s (.p (litP e)) a = .ok (some (.p (.tup [f e, .int 0]))) a) (h0 : slot 0 s = some (.r i)) :
    evE g (.comp [4, 5, 6] elt (.tup 3 (.cons (.v 4) (.cons (.v 5) (.cons (.v 6) .nil)))) (.of (.v 0)) .nil) s (h ++ t) = .ok (.r (h ++ t).length) (h ++ t ++ [.lst (E.map fun e => .p (.tup [f e, .int 0]))]) := by
  have w := walk_net (g := g) (t := t) hi (a := .v 0) (s := s) (by rw [evE.eq_2, h0]; rfl)
  have lp := loopC_map (h ++ t) [(i, netL E)] (bodyC g [4, 5, 6] (.tup 3 (.cons (.v 4) (.cons (.v 5) (.cons (.v 6) .nil)))) .nil elt s)
    (pairF f) (fun a => by rw [List.append_assoc]; exact gd_net hi _) (E.map fun e => .p (litP e)) [] (fun d hd a => by
      obtain ⟨e, he, rfl⟩ := List.mem_map.mp hd
      exact ev e _) (by rw [List.length_map, sizeLine_v]; simp only [List.length_nil]; omega)
  have fm : ∀ E : List Lt, (E.map fun e => D.p (litP e)).filterMap (pairF f) = E.map fun e => .p (.tup [f e, .int 0]) := fun E => by
    induction E with
    | nil => rfl
    | cons e E ih =>
      have st : pairF f (D.p (litP e)) = some (.p (.tup [f e, .int 0])) := rfl
      rw [List.map_cons, List.filterMap_cons_some st, ih]
      rfl
  rw [fm, List.nil_append] at lp
  rw [comp_eq, w, R.bind_ok]
  dsimp only
  rw [lp, R.bind_ok]
theorem hmake_ok (few : E.length < 100000) (leaf : NetOk E) {s1 s2 s3 s4 s5 s6 s7 s8 : Option D} : evS g hMake [some (.r i), s1, s2, s3, s4, s5, s6, s7, s8] h = .next [some (.r i), some (.r h.length), s2, s3, s4, s5, s6, s7, s8] (h ++ [.dct (Wd (namesOf (ends E)) fun _ => 0)]) := by
  have il := (List.getElem?_eq_some_iff.mp hi).1
  have c1 := pair_comp (g := g) hi few (f := (·.1)) (elt := .tup (.cons (.v 4) (.cons (.c (.int 0)) .nil))) (s := [some (.r i), s1, s2, s3, s4, s5, s6, s7, s8]) [] (fun e a => by simp only [bodyC, evSs, evS.eq_1, evS.eq_2, evS.eq_3, evS.eq_4, evS.eq_5, evS.eq_6, evS.eq_7, evS.eq_10, evS.eq_11, evS.eq_12, evS.eq_13, evS.eq_14, evE.eq_1, evE.eq_2, evE.eq_3, evE.eq_4, evE.eq_5, evE.eq_6, evE.eq_7, evE.eq_8, evE.eq_9, evE.eq_10, evE.eq_11, evE.eq_12, evE.eq_13, evE.eq_14, evE.eq_15, evE.eq_16, evE.eq_17, evE.eq_18, evE.eq_19, evE.eq_21, evE.eq_22, evE.eq_23, evE.eq_24, evE.eq_25, evE.eq_26,  evEs, evO, evTs, evI, asgT, asgTs, slot, startD, R.of_some, R.of_none, R.bind_ok, R.bind_stuck, R.then_ok, RS.seq_next, RS.seq_ret, RS.seq_brk, RS.seq_cont, List.getElem?_cons_zero, List.getElem?_cons_succ, List.set_cons_zero, List.set_cons_succ, List.set_set, add_ii, sub_ii, mul_ii, mod_ii, fdiv_ii, pow_lit, blt_int, blt_max, blt_min, blt_abs, aug_ii, tr_bl, lt_ii, le_ii, gt_ii, ge_ii, eq_ii, ne_ii, trim_p0, if_true, Bool.not_true, Bool.not_false, Bool.false_eq_true, if_false, R.tr_ok_bl, gOf_call, mkT_p2, len_t, sz1, sz2, sz3, sz4, sz6, D.items, hg0, hg1, hg2, hg3, hs0, hs1, hs2, hs3, hl1, hl2, hl3, hl4, List.append_assoc, List.cons_append, List.nil_append, List.append_nil, mk, pairUp, List.map_cons, List.map_nil, List.length_cons, List.length_nil, List.replicate, Nat.zero_le, litP, wipeD]) rfl
  rw [List.append_nil] at c1
  have c2 := pair_comp (g := g) hi few (f := (·.2.1)) (elt := .tup (.cons (.v 5) (.cons (.c (.int 0)) .nil))) (s := [some (.r i), s1, s2, s3, s4, s5, s6, s7, s8]) [.lst (E.map fun e => .p (.tup [e.1, .int 0]))] (fun e a => by simp only [bodyC, evSs, evS.eq_1, evS.eq_2, evS.eq_3, evS.eq_4, evS.eq_5, evS.eq_6, evS.eq_7, evS.eq_10, evS.eq_11, evS.eq_12, evS.eq_13, evS.eq_14, evE.eq_1, evE.eq_2, evE.eq_3, evE.eq_4, evE.eq_5, evE.eq_6, evE.eq_7, evE.eq_8, evE.eq_9, evE.eq_10, evE.eq_11, evE.eq_12, evE.eq_13, evE.eq_14, evE.eq_15, evE.eq_16, evE.eq_17, evE.eq_18, evE.eq_19, evE.eq_21, evE.eq_22, evE.eq_23, evE.eq_24, evE.eq_25, evE.eq_26,  evEs, evO, evTs, evI, asgT, asgTs, slot, startD, R.of_some, R.of_none, R.bind_ok, R.bind_stuck, R.then_ok, RS.seq_next, RS.seq_ret, RS.seq_brk, RS.seq_cont, List.getElem?_cons_zero, List.getElem?_cons_succ, List.set_cons_zero, List.set_cons_succ, List.set_set, add_ii, sub_ii, mul_ii, mod_ii, fdiv_ii, pow_lit, blt_int, blt_max, blt_min, blt_abs, aug_ii, tr_bl, lt_ii, le_ii, gt_ii, ge_ii, eq_ii, ne_ii, trim_p0, if_true, Bool.not_true, Bool.not_false, Bool.false_eq_true, if_false, R.tr_ok_bl, gOf_call, mkT_p2, len_t, sz1, sz2, sz3, sz4, sz6, D.items, hg0, hg1, hg2, hg3, hs0, hs1, hs2, hs3, hl1, hl2, hl3, hl4, List.append_assoc, List.cons_append, List.nil_append, List.append_nil, mk, pairUp, List.map_cons, List.map_nil, List.length_cons, List.length_nil, List.replicate, Nat.zero_le, litP, wipeD]) rfl
  rw [hl1, List.append_assoc] at c2
  have ad : addS (.r h.length) (.r (h.length + 1)) (h ++ [.lst (E.map fun e => .p (.tup [e.1, .int 0])), .lst (E.map fun e => .p (.tup [e.2.1, .int 0]))]) = .ok (.r (h.length + 2)) (h ++ [.lst (E.map fun e => .p (.tup [e.1, .int 0])), .lst (E.map fun e => .p (.tup [e.2.1, .int 0])), .lst ((ends E).map fun k => .p (.tup [k, .int 0]))]) := by
    have m1 : mutOf (h ++ [.lst (E.map fun e => .p (.tup [e.1, .int 0])), .lst (E.map fun e => .p (.tup [e.2.1, .int 0]))]) (.r h.length) = some (E.map fun e => .p (.tup [e.1, .int 0])) := by simp only [mutOf, hg0]
    have m2 : mutOf (h ++ [.lst (E.map fun e => .p (.tup [e.1, .int 0])), .lst (E.map fun e => .p (.tup [e.2.1, .int 0]))]) (.r (h.length + 1)) = some (E.map fun e => .p (.tup [e.2.1, .int 0])) := by simp only [mutOf, hg1]
    rw [add_mut, m1, m2]
    dsimp only
    rw [if_pos (by rw [List.length_map, List.length_map, sizeLine_v]; omega)]
    have ee : (E.map fun e => D.p (.tup [e.1, .int 0])) ++ (E.map fun e => D.p (.tup [e.2.1, .int 0])) = (ends E).map fun k => .p (.tup [k, .int 0]) := by
      unfold ends
      rw [List.map_append, List.map_map, List.map_map]
      rfl
    rw [ee]
    simp only [mk, hl2, List.append_assoc, List.cons_append, List.nil_append]
  have po : ∀ N : List P, pairsOf (N.map fun k => D.p (.tup [k, .int 0])) = some (N.map fun k => (k, .p (.int 0))) := fun N => by
    induction N with
    | nil => rfl
    | cons k N ih => simp only [List.map_cons, pairsOf, D.items, List.map_nil, ih, Option.map_some]
  have lfE : lfs ((ends E).map fun k => (k, D.p (.int 0))) = true := by
    unfold lfs
    rw [List.all_map]
    refine List.all_eq_true.mpr fun x hx => ?_
    unfold ends at hx
    rcases List.mem_append.mp hx with hx | hx
    · obtain ⟨e, he, rfl⟩ := List.mem_map.mp hx; exact (leaf e he).1.node.1
    · obtain ⟨e, he, rfl⟩ := List.mem_map.mp hx; exact (leaf e he).2.node.1
  have dd : bltS .dict [.r (h.length + 2)] (h ++ [.lst (E.map fun e => .p (.tup [e.1, .int 0])), .lst (E.map fun e => .p (.tup [e.2.1, .int 0])), .lst ((ends E).map fun k => .p (.tup [k, .int 0]))]) = .ok (.r (h.length + 3)) (h ++ [.lst (E.map fun e => .p (.tup [e.1, .int 0])), .lst (E.map fun e => .p (.tup [e.2.1, .int 0])), .lst ((ends E).map fun k => .p (.tup [k, .int 0])), .dct (Wd (namesOf (ends E)) fun _ => 0)]) := by
    have so : srcOf (h ++ [.lst (E.map fun e => .p (.tup [e.1, .int 0])), .lst (E.map fun e => .p (.tup [e.2.1, .int 0])), .lst ((ends E).map fun k => .p (.tup [k, .int 0]))]) (.r (h.length + 2)) = some ((ends E).map fun k => .p (.tup [k, .int 0])) := by simp only [srcOf, lstOf, hg2]
    simp only [bltS, so, po]
    rw [if_pos (.inl lfE)]
    have mz := merge_zero (ends E) []
    have mz : mergeD [] ((ends E).map fun k => (k, .p (.int 0))) = Wd (namesOf (ends E)) fun _ => 0 := mz
    rw [mz]
    simp only [mk, hl3, List.append_assoc, List.cons_append, List.nil_append]
  have un : (O.dct (Wd (namesOf (ends E)) fun _ => 0)).under h.length = true := by
    show (Wd (namesOf (ends E)) fun _ => 0).all (fun kv => kv.2.under h.length) = true
    unfold Wd
    rw [List.all_map]
    exact List.all_eq_true.mpr fun x _ => rfl
  have tm : trimR h (.ok (.r (h.length + 3)) (h ++ [.lst (E.map fun e => .p (.tup [e.1, .int 0])), .lst (E.map fun e => .p (.tup [e.2.1, .int 0])), .lst ((ends E).map fun k => .p (.tup [k, .int 0])), .dct (Wd (namesOf (ends E)) fun _ => 0)])) = .ok (.r h.length) (h ++ [.dct (Wd (namesOf (ends E)) fun _ => 0)]) := by
    have a := agree_app [.lst (E.map fun e => .p (.tup [e.1, .int 0])), .lst (E.map fun e => .p (.tup [e.2.1, .int 0])), .lst ((ends E).map fun k => .p (.tup [k, .int 0])), .dct (Wd (namesOf (ends E)) fun _ => 0)] h.length h
    have u : D.under h.length (.r (h.length + 3)) = false := by simp [D.under]
    simp only [trimR, a, u, if_true, hg3, un, List.take_left']
    rw [if_neg (by simp), if_pos (by simp)]
  unfold hMake
  rw [evS.eq_2, evE.eq_21, evE.eq_16, evEs, evE.eq_5, c1, R.bind_ok, c2, R.bind_ok]
  simp only [List.cons_append, List.nil_append, binS, ad, R.bind_ok, evEs, dd, tm, R.then_ok, asgT, List.set_cons_succ, List.set_cons_zero]

/-- the state of a round, what is kept of each lowering told beside it -/
structure TurnG (E : List Lt) (W : P → Int) : Prop where
  prd : ∃ L T t, Prd E W L T ∧ ∀ k, T k < t
omit hi in
theorem TurnG.step {W : P → Int} (t : TurnG E W) {j : Nat} {e : Lt} (he : E[j]? = some e) (lt : W e.2.1 + e.2.2 < W e.1) : TurnG E (up W e.1 (W e.2.1 + e.2.2)) := by
  obtain ⟨L, T, z, p, q⟩ := t.prd
  refine ⟨up L e.1 (some j), up T e.1 z, z + 1, p.step he q lt, fun k => ?_⟩
  unfold up
  split
  · omega
  · have := q k; omega
/-- names of a net without None -/
structure NamesE (E : List Lt) (ns : List P) : Prop where
  ok : ∀ x ∈ ns, IsN x
  lit : ∀ e ∈ E, e.1 ∈ ns ∧ e.2.1 ∈ ns
  few : ns.length ≤ 2 * E.length
omit hi in
theorem names_ok (ok : NetOk E) : NamesE E (namesOf (ends E)) := by
  have mem : ∀ x, x ∈ namesOf (ends E) ↔ x ∈ ends E := fun x => by
    unfold namesOf
    rw [names_mem]
    simp
  refine ⟨fun x hx => ?_, fun e he => ⟨(mem _).mpr ?_, (mem _).mpr ?_⟩, ?_⟩
  · have hx := (mem x).mp hx
    unfold ends at hx
    rcases List.mem_append.mp hx with hx | hx
    · obtain ⟨e, he, rfl⟩ := List.mem_map.mp hx; exact (ok e he).1
    · obtain ⟨e, he, rfl⟩ := List.mem_map.mp hx; exact (ok e he).2
  · exact List.mem_append_left _ (List.mem_map.mpr ⟨e, he, rfl⟩)
  · exact List.mem_append_right _ (List.mem_map.mpr ⟨e, he, rfl⟩)
  · have := names_len (ends E) []
    unfold ends at this
    rw [List.length_append, List.length_map, List.length_map] at this
    unfold namesOf ends
    simp only [List.length_nil] at this
    omega
theorem hlow_ok {ns : List P} (nm : NamesE E ns) (few : E.length < 100000) {W0 : P → Int} (t0 : TurnG E W0) {s2 s4 s5 s6 s7 s8 : Option D} {B C : SH} {Q : D → Hh → Prop} :
    Pv.Run (evS g hLow [some (.r i), some (.r h.length), s2, some (.p (.bl false)), s4, s5, s6, s7, s8] (h ++ [.dct (Wd ns W0)]))
      (fun s h' => ∃ W s4 s5 s6 again, s = [some (.r i), some (.r h.length), s2, some (.p (.bl again)), s4, s5, s6, s7, s8] ∧ h' = h ++ [.dct (Wd ns W)] ∧ TurnG E W ∧ (∀ k, W k ≤ W0 k) ∧ (∀ e ∈ E, W e.1 ≤ W0 e.2.1 + e.2.2) ∧
        ((again = false ∧ W = W0) ∨ (again = true ∧ ∃ e ∈ E, W e.1 < W0 e.1))) B C Q := by
  unfold hLow
  rw [evS.eq_9, walk_net hi (a := .v 0) (by simp only [evSs, evS.eq_1, evS.eq_2, evS.eq_3, evS.eq_4, evS.eq_5, evS.eq_6, evS.eq_7, evS.eq_10, evS.eq_11, evS.eq_12, evS.eq_13, evS.eq_14, evE.eq_1, evE.eq_2, evE.eq_3, evE.eq_4, evE.eq_5, evE.eq_6, evE.eq_7, evE.eq_8, evE.eq_9, evE.eq_10, evE.eq_11, evE.eq_12, evE.eq_13, evE.eq_14, evE.eq_15, evE.eq_16, evE.eq_17, evE.eq_18, evE.eq_19, evE.eq_21, evE.eq_22, evE.eq_23, evE.eq_24, evE.eq_25, evE.eq_26,  evEs, evO, evTs, evI, asgT, asgTs, slot, startD, R.of_some, R.of_none, R.bind_ok, R.bind_stuck, R.then_ok, RS.seq_next, RS.seq_ret, RS.seq_brk, RS.seq_cont, List.getElem?_cons_zero, List.getElem?_cons_succ, List.set_cons_zero, List.set_cons_succ, List.set_set, add_ii, sub_ii, mul_ii, mod_ii, fdiv_ii, pow_lit, blt_int, blt_max, blt_min, blt_abs, aug_ii, tr_bl, lt_ii, le_ii, gt_ii, ge_ii, eq_ii, ne_ii, trim_p0, if_true, Bool.not_true, Bool.not_false, Bool.false_eq_true, if_false, R.tr_ok_bl, gOf_call, mkT_p2, len_t, sz1, sz2, sz3, sz4, sz6, D.items, hg0, hg1, hg2, hg3, hs0, hs1, hs2, hs3, hl1, hl2, hl3, hl4, List.append_assoc, List.cons_append, List.nil_append, List.append_nil, mk, pairUp, List.map_cons, List.map_nil, List.length_cons, List.length_nil, List.replicate, Nat.zero_le]), R.then_ok]
  dsimp only
  refine loopS_run (fun j s h' => ∃ W s4 s5 s6 again, s = [some (.r i), some (.r h.length), s2, some (.p (.bl again)), s4, s5, s6, s7, s8] ∧ h' = h ++ [.dct (Wd ns W)] ∧ TurnG E W ∧ (∀ k, W k ≤ W0 k) ∧ (∀ e ∈ E.take j, W e.1 ≤ W0 e.2.1 + e.2.2) ∧
        ((again = false ∧ W = W0) ∨ (again = true ∧ ∃ e ∈ E, W e.1 < W0 e.1)))
    _ _ (E.map fun e => .p (litP e)) ?_ ?_ _ 0 _ _ List.drop_zero ⟨W0, s4, s5, s6, false, rfl, rfl, t0, fun _ => Int.le_refl _, (fun _ z => by simp at z), .inl ⟨rfl, rfl⟩⟩ (Nat.zero_le _)
  · rintro j d s h' hd ⟨W, s4, s5, s6, again, rfl, rfl, t, le, done, low⟩
    obtain ⟨e, he, rfl, hm, hj⟩ := at_net hd
    obtain ⟨k1, k2⟩ := nm.lit e hm
    have lfW : lfs (Wd ns W) = true := wd_lfs _ fun x hx => (nm.ok x hx).node.1
    have g1 : subS (.r h.length) (.p e.2.1) (h ++ [.dct (Wd ns W)]) = .ok (.p (.int (W e.2.1))) (h ++ [.dct (Wd ns W)]) := sub_dct (hg0 h _ _) (kfit_leaf (nm.ok _ k2).node.1 lfW) (wd_get W k2)
    have g2 : subS (.r h.length) (.p e.1) (h ++ [.dct (Wd ns W)]) = .ok (.p (.int (W e.1))) (h ++ [.dct (Wd ns W)]) := sub_dct (hg0 h _ _) (kfit_leaf (nm.ok _ k1).node.1 lfW) (wd_get W k1)
    refine ⟨gd_net hi _, ?_⟩
    by_cases lt : W e.2.1 + e.2.2 < W e.1
    · have p1 := put_dct (.p (.int (W e.2.1 + e.2.2))) (hg0 h (.dct (Wd ns W)) []) (kfit_leaf (nm.ok _ k1).node.1 lfW) (by rw [wd_len, sizeLine_v]; have := nm.few; omega)
      rw [wd_put _ _ k1, hs0, up_eq] at p1
      have m2 : mkT [.p (.int (W e.2.1 + e.2.2)), .p (.bl true)] = .p (.tup [.int (W e.2.1 + e.2.2), .bl true]) := rfl
      simp only [evSs, evS.eq_1, evS.eq_2, evS.eq_3, evS.eq_4, evS.eq_5, evS.eq_6, evS.eq_7, evS.eq_10, evS.eq_11, evS.eq_12, evS.eq_13, evS.eq_14, evE.eq_1, evE.eq_2, evE.eq_3, evE.eq_4, evE.eq_5, evE.eq_6, evE.eq_7, evE.eq_8, evE.eq_9, evE.eq_10, evE.eq_11, evE.eq_12, evE.eq_13, evE.eq_14, evE.eq_15, evE.eq_16, evE.eq_17, evE.eq_18, evE.eq_19, evE.eq_21, evE.eq_22, evE.eq_23, evE.eq_24, evE.eq_25, evE.eq_26,  evEs, evO, evTs, evI, asgT, asgTs, slot, startD, R.of_some, R.of_none, R.bind_ok, R.bind_stuck, R.then_ok, RS.seq_next, RS.seq_ret, RS.seq_brk, RS.seq_cont, List.getElem?_cons_zero, List.getElem?_cons_succ, List.set_cons_zero, List.set_cons_succ, List.set_set, add_ii, sub_ii, mul_ii, mod_ii, fdiv_ii, pow_lit, blt_int, blt_max, blt_min, blt_abs, aug_ii, tr_bl, lt_ii, le_ii, gt_ii, ge_ii, eq_ii, ne_ii, trim_p0, if_true, Bool.not_true, Bool.not_false, Bool.false_eq_true, if_false, R.tr_ok_bl, gOf_call, mkT_p2, len_t, sz1, sz2, sz3, sz4, sz6, D.items, hg0, hg1, hg2, hg3, hs0, hs1, hs2, hs3, hl1, hl2, hl3, hl4, List.append_assoc, List.cons_append, List.nil_append, List.append_nil, mk, pairUp, List.map_cons, List.map_nil, List.length_cons, List.length_nil, List.replicate, Nat.zero_le, litP, g1, g2, decide_eq_true lt, m2, p1]
      have down : ∀ k, up W e.1 (W e.2.1 + e.2.2) k ≤ W k := fun k => by
        unfold up
        split
        · rename_i q; subst q; omega
        · exact Int.le_refl _
      refine ⟨up W e.1 (W e.2.1 + e.2.2), _, _, _, true, rfl, trimS_same (by rw [hl1, hl1]), t.step he lt, fun k => Int.le_trans (down k) (le k), fun x hx => ?_, .inr ⟨rfl, e, hm, ?_⟩⟩
      · rw [List.take_add_one, he] at hx
        rcases List.mem_append.mp hx with hx | hx
        · exact Int.le_trans (down _) (done x hx)
        · have : x = e := by simpa using hx
          subst this
          rw [up_at]
          have := le x.2.1
          omega
      · rw [up_at]
        have := le e.1
        omega
    · simp only [evSs, evS.eq_1, evS.eq_2, evS.eq_3, evS.eq_4, evS.eq_5, evS.eq_6, evS.eq_7, evS.eq_10, evS.eq_11, evS.eq_12, evS.eq_13, evS.eq_14, evE.eq_1, evE.eq_2, evE.eq_3, evE.eq_4, evE.eq_5, evE.eq_6, evE.eq_7, evE.eq_8, evE.eq_9, evE.eq_10, evE.eq_11, evE.eq_12, evE.eq_13, evE.eq_14, evE.eq_15, evE.eq_16, evE.eq_17, evE.eq_18, evE.eq_19, evE.eq_21, evE.eq_22, evE.eq_23, evE.eq_24, evE.eq_25, evE.eq_26,  evEs, evO, evTs, evI, asgT, asgTs, slot, startD, R.of_some, R.of_none, R.bind_ok, R.bind_stuck, R.then_ok, RS.seq_next, RS.seq_ret, RS.seq_brk, RS.seq_cont, List.getElem?_cons_zero, List.getElem?_cons_succ, List.set_cons_zero, List.set_cons_succ, List.set_set, add_ii, sub_ii, mul_ii, mod_ii, fdiv_ii, pow_lit, blt_int, blt_max, blt_min, blt_abs, aug_ii, tr_bl, lt_ii, le_ii, gt_ii, ge_ii, eq_ii, ne_ii, trim_p0, if_true, Bool.not_true, Bool.not_false, Bool.false_eq_true, if_false, R.tr_ok_bl, gOf_call, mkT_p2, len_t, sz1, sz2, sz3, sz4, sz6, D.items, hg0, hg1, hg2, hg3, hs0, hs1, hs2, hs3, hl1, hl2, hl3, hl4, List.append_assoc, List.cons_append, List.nil_append, List.append_nil, mk, pairUp, List.map_cons, List.map_nil, List.length_cons, List.length_nil, List.replicate, Nat.zero_le, litP, g1, g2, decide_eq_false lt]
      refine ⟨W, _, _, _, again, rfl, trimS_same rfl, t, le, fun x hx => ?_, low⟩
      rw [List.take_add_one, he] at hx
      rcases List.mem_append.mp hx with hx | hx
      · exact done x hx
      · have : x = e := by simpa using hx
        subst this
        have := le x.2.1
        omega
  · rintro s h' ⟨W, s4, s5, s6, again, rfl, rfl, t, le, done, low⟩
    rw [List.length_map, List.take_length] at done
    exact ⟨gd_net hi _, W, s4, s5, s6, again, rfl, rfl, t, le, done, low⟩
omit hi in
theorem hdict_ok {ns : List P} (nm : NamesE E ns) (few : E.length < 100000) {W : P → Int} {z : Int} {s0 s2 s3 s4 s5 s6 s8 : Option D} :
    ∃ o, o.under h.length = true ∧ (∃ kvs, o = O.dct kvs) ∧ evE g hDict [s0, some (.r h.length), s2, s3, s4, s5, s6, some (.p (.int z)), s8] (h ++ [.dct (Wd ns W)]) = .ok (.r (h.length + 1)) (h ++ [.dct (Wd ns W), o]) := by
  have lfW : lfs (Wd ns W) = true := wd_lfs _ fun x hx => (nm.ok x hx).node.1
  have pk : lckAt (peek (.v 1) [s0, some (.r h.length), s2, s3, s4, s5, s6, some (.p (.int z)), s8] (h ++ [.dct (Wd ns W)])) (h ++ [.dct (Wd ns W)]) = some (h.length, Wd ns W) := by
    simp only [lckAt, peek, slot, List.getElem?_cons_zero, List.getElem?_cons_succ, Option.bind_some, dmOf, hg0]
  have it : evI g (.of (.v 1)) [s0, some (.r h.length), s2, s3, s4, s5, s6, some (.p (.int z)), s8] (h ++ [.lck (Wd ns W)]) = .ok (ns.map .p, [(h.length, .lck (Wd ns W))]) (h ++ [.lck (Wd ns W)]) := by
    have e1 : seqOf (h ++ [.lck (Wd ns W)]) (.r h.length) = none := by simp only [seqOf, lstOf, hg0]
    have e2 : lckOf (h ++ [.lck (Wd ns W)]) (.r h.length) = some (Wd ns W) := by simp only [lckOf, hg0]
    have e3 : (Wd ns W).map (fun kv => D.p kv.1) = ns.map .p := by unfold Wd; rw [List.map_map]; rfl
    simp only [evSs, evS.eq_1, evS.eq_2, evS.eq_3, evS.eq_4, evS.eq_5, evS.eq_6, evS.eq_7, evS.eq_10, evS.eq_11, evS.eq_12, evS.eq_13, evS.eq_14, evE.eq_1, evE.eq_2, evE.eq_3, evE.eq_4, evE.eq_5, evE.eq_6, evE.eq_7, evE.eq_8, evE.eq_9, evE.eq_10, evE.eq_11, evE.eq_12, evE.eq_13, evE.eq_14, evE.eq_15, evE.eq_16, evE.eq_17, evE.eq_18, evE.eq_19, evE.eq_21, evE.eq_22, evE.eq_23, evE.eq_24, evE.eq_25, evE.eq_26,  evEs, evO, evTs, evI, asgT, asgTs, slot, startD, R.of_some, R.of_none, R.bind_ok, R.bind_stuck, R.then_ok, RS.seq_next, RS.seq_ret, RS.seq_brk, RS.seq_cont, List.getElem?_cons_zero, List.getElem?_cons_succ, List.set_cons_zero, List.set_cons_succ, List.set_set, add_ii, sub_ii, mul_ii, mod_ii, fdiv_ii, pow_lit, blt_int, blt_max, blt_min, blt_abs, aug_ii, tr_bl, lt_ii, le_ii, gt_ii, ge_ii, eq_ii, ne_ii, trim_p0, if_true, Bool.not_true, Bool.not_false, Bool.false_eq_true, if_false, R.tr_ok_bl, gOf_call, mkT_p2, len_t, sz1, sz2, sz3, sz4, sz6, D.items, e1, e2, e3, gdOf, hg0]
  have lp := loopC_map (h ++ [.lck (Wd ns W)]) [(h.length, .lck (Wd ns W))] (bodyC g [8] (.v 8) .nil (.tup (.cons (.v 8) (.cons (.bin .sub (.sub (.v 1) (.v 8)) (.v 7)) .nil))) [s0, some (.r h.length), s2, s3, s4, s5, s6, some (.p (.int z)), s8])
    (fun d => match d with
      | .p k => some (.p (.tup [k, .int (W k - z)]))
      | _ => none) (fun a => by simp only [Gd.ok_cons, Gd.ok_nil, List.append_assoc, List.cons_append, List.nil_append, hg0, Bool.and_true, decide_true]) (ns.map .p) [] (fun d hd a => by
      obtain ⟨k, hk, rfl⟩ := List.mem_map.mp hd
      have dc : subS (.r h.length) (.p k) (h ++ [.lck (Wd ns W), .lst a]) = .ok (.p (.int (W k))) (h ++ [.lck (Wd ns W), .lst a]) := by
        have e : dctOf (h ++ [.lck (Wd ns W), .lst a]) (.r h.length) = some (Wd ns W) := by simp only [dctOf, hg0]
        unfold subS
        rw [e]
        simp only [kfit_leaf (nm.ok _ hk).node.1 lfW, if_true, wd_get W hk]
        rfl
      simp only [bodyC, evSs, evS.eq_1, evS.eq_2, evS.eq_3, evS.eq_4, evS.eq_5, evS.eq_6, evS.eq_7, evS.eq_10, evS.eq_11, evS.eq_12, evS.eq_13, evS.eq_14, evE.eq_1, evE.eq_2, evE.eq_3, evE.eq_4, evE.eq_5, evE.eq_6, evE.eq_7, evE.eq_8, evE.eq_9, evE.eq_10, evE.eq_11, evE.eq_12, evE.eq_13, evE.eq_14, evE.eq_15, evE.eq_16, evE.eq_17, evE.eq_18, evE.eq_19, evE.eq_21, evE.eq_22, evE.eq_23, evE.eq_24, evE.eq_25, evE.eq_26,  evEs, evO, evTs, evI, asgT, asgTs, slot, startD, R.of_some, R.of_none, R.bind_ok, R.bind_stuck, R.then_ok, RS.seq_next, RS.seq_ret, RS.seq_brk, RS.seq_cont, List.getElem?_cons_zero, List.getElem?_cons_succ, List.set_cons_zero, List.set_cons_succ, List.set_set, add_ii, sub_ii, mul_ii, mod_ii, fdiv_ii, pow_lit, blt_int, blt_max, blt_min, blt_abs, aug_ii, tr_bl, lt_ii, le_ii, gt_ii, ge_ii, eq_ii, ne_ii, trim_p0, if_true, Bool.not_true, Bool.not_false, Bool.false_eq_true, if_false, R.tr_ok_bl, gOf_call, mkT_p2, len_t, sz1, sz2, sz3, sz4, sz6, D.items, hg0, hg1, hg2, hg3, hs0, hs1, hs2, hs3, hl1, hl2, hl3, hl4, List.append_assoc, List.cons_append, List.nil_append, List.append_nil, mk, pairUp, List.map_cons, List.map_nil, List.length_cons, List.length_nil, List.replicate, Nat.zero_le, wipeD, dc]) (by rw [List.length_map, sizeLine_v]; have := nm.few; simp only [List.length_nil]; omega)
  have fm : ∀ ns : List P, (ns.map D.p).filterMap (fun d => match d with
      | .p k => some (D.p (.tup [k, .int (W k - z)]))
      | _ => none) = ns.map fun k => .p (.tup [k, .int (W k - z)]) := fun ns => by
    induction ns with
    | nil => rfl
    | cons k N ih => simp only [List.map_cons, List.filterMap_cons, ih]
  rw [fm, List.nil_append] at lp
  have e1 : evE g (.lck (.v 1) (.comp [8] (.tup (.cons (.v 8) (.cons (.bin .sub (.sub (.v 1) (.v 8)) (.v 7)) .nil))) (.v 8) (.of (.v 1)) .nil)) [s0, some (.r h.length), s2, s3, s4, s5, s6, some (.p (.int z)), s8] (h ++ [.dct (Wd ns W)]) = .ok (.r (h.length + 1)) (h ++ [.dct (Wd ns W), .lst (ns.map fun k => .p (.tup [k, .int (W k - z)]))]) := by
    rw [evE.eq_27, pk]
    dsimp only
    rw [hs0, comp_eq, it, R.bind_ok]
    dsimp only
    rw [lp, R.bind_ok, hl1]
    simp only [unlck, unlckH, List.append_assoc, List.cons_append, List.nil_append, hg0, hs0, if_true]
  have po : ∀ N : List P, pairsOf (N.map fun k => D.p (.tup [k, .int (W k - z)])) = some (N.map fun k => (k, .p (.int (W k - z)))) := fun N => by
    induction N with
    | nil => rfl
    | cons k N ih => simp only [List.map_cons, pairsOf, D.items, List.map_nil, ih, Option.map_some]
  have lfE : lfs (ns.map fun k => (k, D.p (.int (W k - z)))) = true := by
    unfold lfs
    rw [List.all_map]
    exact List.all_eq_true.mpr fun x hx => (nm.ok x hx).node.1
  have so : srcOf (h ++ [.dct (Wd ns W), .lst (ns.map fun k => .p (.tup [k, .int (W k - z)]))]) (.r (h.length + 1)) = some (ns.map fun k => .p (.tup [k, .int (W k - z)])) := by simp only [srcOf, lstOf, hg1]
  have gen : ∀ (l acc : Kvs), (∀ x ∈ acc, ∃ y, x.2 = .p y) → (∀ x ∈ l, ∃ y, x.2 = .p y) → ∀ x ∈ mergeD acc l, ∃ y, x.2 = .p y := by
    intro l
    induction l with
    | nil => intro acc h1 _; exact h1
    | cons y l ih =>
      intro acc h1 h2
      refine ih (dPut acc y.1 y.2) (fun x hx => ?_) fun x hx => h2 x (List.mem_cons_of_mem _ hx)
      unfold dPut at hx
      split at hx
      · obtain ⟨z, hz, rfl⟩ := List.mem_map.mp hx
        split
        · exact h2 y List.mem_cons_self
        · exact h1 z hz
      · rcases List.mem_append.mp hx with hx | hx
        · exact h1 x hx
        · rw [List.mem_singleton.mp hx]; exact h2 y List.mem_cons_self
  have all := gen (ns.map fun k => (k, .p (.int (W k - z)))) [] (fun _ z => by cases z) fun x hx => by
    obtain ⟨k, _, rfl⟩ := List.mem_map.mp hx
    exact ⟨_, rfl⟩
  have un : ∀ n, (O.dct (mergeD [] (ns.map fun k => (k, D.p (.int (W k - z)))))).under n = true := fun n => by
    refine List.all_eq_true.mpr fun x hx => ?_
    obtain ⟨y, e⟩ := all x hx
    rw [e]
    rfl
  refine ⟨.dct (mergeD [] (ns.map fun k => (k, .p (.int (W k - z))))), un _, ⟨_, rfl⟩, ?_⟩
  have dd : bltS .dict [.r (h.length + 1)] (h ++ [.dct (Wd ns W), .lst (ns.map fun k => .p (.tup [k, .int (W k - z)]))]) = .ok (.r (h.length + 2)) (h ++ [.dct (Wd ns W), .lst (ns.map fun k => .p (.tup [k, .int (W k - z)])), .dct (mergeD [] (ns.map fun k => (k, .p (.int (W k - z)))))]) := by
    simp only [bltS, so, po]
    rw [if_pos (.inl lfE)]
    simp only [mk, hl2, List.append_assoc, List.cons_append, List.nil_append]
  have tm : trimR (h ++ [.dct (Wd ns W)]) (.ok (.r (h.length + 2)) (h ++ [.dct (Wd ns W), .lst (ns.map fun k => .p (.tup [k, .int (W k - z)])), .dct (mergeD [] (ns.map fun k => (k, .p (.int (W k - z)))))])) = .ok (.r (h.length + 1)) (h ++ [.dct (Wd ns W), .dct (mergeD [] (ns.map fun k => (k, .p (.int (W k - z)))))]) := by
    have a := agree_app [.lst (ns.map fun k => .p (.tup [k, .int (W k - z)])), .dct (mergeD [] (ns.map fun k => (k, .p (.int (W k - z)))))] (h ++ [O.dct (Wd ns W)]).length (h ++ [.dct (Wd ns W)])
    rw [List.append_assoc] at a
    simp only [List.cons_append, List.nil_append] at a
    have u : D.under (h ++ [O.dct (Wd ns W)]).length (.r (h.length + 2)) = false := by simp [D.under]
    simp only [trimR, a, u, if_true, hg2]
    rw [if_neg (by simp), un, if_pos (by simp), hl1]
    have tk : (h ++ [O.dct (Wd ns W), .lst (ns.map fun k => .p (.tup [k, .int (W k - z)])), .dct (mergeD [] (ns.map fun k => (k, .p (.int (W k - z)))))]).take (h.length + 1) = h ++ [O.dct (Wd ns W)] := by
      rw [show h ++ [O.dct (Wd ns W), .lst (ns.map fun k => .p (.tup [k, .int (W k - z)])), .dct (mergeD [] (ns.map fun k => (k, .p (.int (W k - z)))))] = (h ++ [O.dct (Wd ns W)]) ++ [.lst (ns.map fun k => .p (.tup [k, .int (W k - z)])), .dct (mergeD [] (ns.map fun k => (k, .p (.int (W k - z)))))] by simp, ← hl1 h (O.dct (Wd ns W)), List.take_left' rfl]
    rw [tk]
    simp
  unfold hDict
  rw [evE.eq_21, evE.eq_16, evEs, e1, R.bind_ok, evEs, R.bind_ok, R.bind_ok, dd, tm]

theorem hturns_ok {gi : Nat} {ns : List P} (nm : NamesE E ns) (few : E.length < 100000) {s2 s3 s4 s5 s6 s7 s8 : Option D} {B C : SH} :
    Pv.Run (evS g (hTurns gi) [some (.r i), some (.r h.length), s2, s3, s4, s5, s6, s7, s8] (h ++ [.dct (Wd ns fun _ => 0)]))
      (fun s h' => Bad E ∧ ∃ t, h' = h ++ t) B C (fun d h' => (¬ Bad E) ∧ ∃ x o, o.under h.length = true ∧ d = .r (h.length + 1) ∧ h' = h ++ [x, o]) := by
  have nsl := nm.few
  have it := rng1_ok (g := g) (a := .bin .add (.blt .len (.cons (.v 1) .nil)) (.c (.int 1))) (s := [some (.r i), some (.r h.length), s2, s3, s4, s5, s6, s7, s8]) (h := h ++ [.dct (Wd ns fun _ => 0)]) (h1 := h ++ [.dct (Wd ns fun _ => 0)]) (n := ns.length + 1) (by
    have := len_dct (hg0 h (.dct (Wd ns fun _ => 0)) [])
    rw [wd_len] at this
    simp only [evSs, evS.eq_1, evS.eq_2, evS.eq_3, evS.eq_4, evS.eq_5, evS.eq_6, evS.eq_7, evS.eq_10, evS.eq_11, evS.eq_12, evS.eq_13, evS.eq_14, evE.eq_1, evE.eq_2, evE.eq_3, evE.eq_4, evE.eq_5, evE.eq_6, evE.eq_7, evE.eq_8, evE.eq_9, evE.eq_10, evE.eq_11, evE.eq_12, evE.eq_13, evE.eq_14, evE.eq_15, evE.eq_16, evE.eq_17, evE.eq_18, evE.eq_19, evE.eq_21, evE.eq_22, evE.eq_23, evE.eq_24, evE.eq_25, evE.eq_26,  evEs, evO, evTs, evI, asgT, asgTs, slot, startD, R.of_some, R.of_none, R.bind_ok, R.bind_stuck, R.then_ok, RS.seq_next, RS.seq_ret, RS.seq_brk, RS.seq_cont, List.getElem?_cons_zero, List.getElem?_cons_succ, List.set_cons_zero, List.set_cons_succ, List.set_set, add_ii, sub_ii, mul_ii, mod_ii, fdiv_ii, pow_lit, blt_int, blt_max, blt_min, blt_abs, aug_ii, tr_bl, lt_ii, le_ii, gt_ii, ge_ii, eq_ii, ne_ii, trim_p0, if_true, Bool.not_true, Bool.not_false, Bool.false_eq_true, if_false, R.tr_ok_bl, gOf_call, mkT_p2, len_t, sz1, sz2, sz3, sz4, sz6, D.items, this]
    rfl) (by omega)
  unfold hTurns
  rw [evS.eq_9, it, R.then_ok]
  dsimp only
  refine (loopS_run (fun j s h' => ∃ W s2 s3 s4 s5 s6 s7 s8, s = [some (.r i), some (.r h.length), s2, s3, s4, s5, s6, s7, s8] ∧ h' = h ++ [.dct (Wd ns W)] ∧ TurnG E W ∧ Rnd E j W ∧ (0 < j → ∃ W0 e, e ∈ E ∧ Rnd E (j - 1) W0 ∧ W e.1 < W0 e.1)) _ _ (nums 0 (ns.length + 1)) ?_ ?_ _ 0 _ _ List.drop_zero
    ⟨fun _ => 0, _, _, _, _, _, _, _, rfl, rfl, ⟨fun _ => none, fun _ => 0, 1, prd_start, fun _ => Nat.one_pos⟩, rnd_zero, fun z => absurd z (by omega)⟩ (Nat.zero_le _))
  · rintro j d s h' hd ⟨W, s2, s3, s4, s5, s6, s7, s8, rfl, rfl, t, rn, _⟩
    refine ⟨rfl, ?_⟩
    have e1 : ((asgT g (.v 2) d [some (.r i), some (.r h.length), s2, s3, s4, s5, s6, s7, s8] (h ++ [.dct (Wd ns W)])).then [some (.r i), some (.r h.length), s2, s3, s4, s5, s6, s7, s8] fun s2 h3 => evSs g (.cons (.asg (.v 3) (.c (.bl false))) (.cons hLow (.cons (hDone gi) .nil))) s2 h3) =
        evSs g (.cons hLow (.cons (hDone gi) .nil)) [some (.r i), some (.r h.length), some d, some (.p (.bl false)), s4, s5, s6, s7, s8] (h ++ [.dct (Wd ns W)]) := by
      rw [asgT]
      simp only [List.set_cons_succ, List.set_cons_zero, R.then_ok]
      rw [evSs]
      simp only [evS.eq_2, evE.eq_1, asgT, List.set_cons_succ, List.set_cons_zero, R.then_ok, RS.seq_next]
    rw [e1, evSs]
    refine Run.seq (hlow_ok hi nm few t) ?_
    rintro s h' ⟨W2, s4, s5, s6, again, rfl, rfl, t2, le, done, low⟩
    rw [evSs]
    rcases low with ⟨rfl, rfl⟩ | ⟨rfl, e, hm, lt⟩
    · -- done
      have lfW : lfs (Wd ns W2) = true := wd_lfs _ fun x hx => (nm.ok x hx).node.1
      obtain ⟨z, gz⟩ : ∃ z : Int, bmS .dGet (.r h.length) [.p (.str ""), .p (.int 0)] (h ++ [.dct (Wd ns W2)]) = .ok (.p (.int z)) (h ++ [.dct (Wd ns W2)]) := by
        have g0 := get2_dct (.p (.int 0)) (hg0 h (.dct (Wd ns W2)) []) (kfit_leaf (k := .str "") rfl lfW)
        by_cases q : P.str "" ∈ ns
        · rw [wd_get W2 q] at g0; exact ⟨_, g0⟩
        · rw [wd_none W2 q] at g0; exact ⟨_, g0⟩
      obtain ⟨o, un, ⟨kvs, ho⟩, ed⟩ := hdict_ok (g := g) (h := h) nm few (W := W2) (z := z) (s0 := some (.r i)) (s2 := some d) (s3 := some (.p (.bl false))) (s4 := s4) (s5 := s5) (s6 := s6) (s8 := s8)
      have e2 : evS g (hDone gi) [some (.r i), some (.r h.length), some d, some (.p (.bl false)), s4, s5, s6, s7, s8] (h ++ [.dct (Wd ns W2)]) = .ret (.r (h.length + 1)) (h ++ [.dct (Wd ns W2), o]) := by
        unfold hDone
        simp only [evSs, evS.eq_1, evS.eq_2, evS.eq_3, evS.eq_4, evS.eq_5, evS.eq_6, evS.eq_7, evS.eq_10, evS.eq_11, evS.eq_12, evS.eq_13, evS.eq_14, evE.eq_1, evE.eq_2, evE.eq_3, evE.eq_4, evE.eq_5, evE.eq_6, evE.eq_7, evE.eq_8, evE.eq_9, evE.eq_10, evE.eq_11, evE.eq_12, evE.eq_13, evE.eq_14, evE.eq_15, evE.eq_16, evE.eq_17, evE.eq_18, evE.eq_19, evE.eq_21, evE.eq_22, evE.eq_23, evE.eq_24, evE.eq_25, evE.eq_26,  evEs, evO, evTs, evI, asgT, asgTs, slot, startD, R.of_some, R.of_none, R.bind_ok, R.bind_stuck, R.then_ok, RS.seq_next, RS.seq_ret, RS.seq_brk, RS.seq_cont, List.getElem?_cons_zero, List.getElem?_cons_succ, List.set_cons_zero, List.set_cons_succ, List.set_set, add_ii, sub_ii, mul_ii, mod_ii, fdiv_ii, pow_lit, blt_int, blt_max, blt_min, blt_abs, aug_ii, tr_bl, lt_ii, le_ii, gt_ii, ge_ii, eq_ii, ne_ii, trim_p0, if_true, Bool.not_true, Bool.not_false, Bool.false_eq_true, if_false, R.tr_ok_bl, gOf_call, mkT_p2, len_t, sz1, sz2, sz3, sz4, sz6, D.items, hg0, hg1, hg2, hg3, hs0, hs1, hs2, hs3, hl1, hl2, hl3, hl4, List.append_assoc, List.cons_append, List.nil_append, List.append_nil, mk, pairUp, List.map_cons, List.map_nil, List.length_cons, List.length_nil, List.replicate, Nat.zero_le, meth_get (hg0 h (.dct (Wd ns W2)) []), gz]
        rw [ed]
        rfl
      rw [e2]
      exact ⟨feas_good done, _, o, un, rfl, rfl⟩
    · have e2 : evS g (hDone gi) [some (.r i), some (.r h.length), some d, some (.p (.bl true)), s4, s5, s6, s7, s8] (h ++ [.dct (Wd ns W2)]) = .next [some (.r i), some (.r h.length), some d, some (.p (.bl true)), s4, s5, s6, s7, s8] (h ++ [.dct (Wd ns W2)]) := by
        unfold hDone
        simp only [evSs, evS.eq_1, evS.eq_2, evS.eq_3, evS.eq_4, evS.eq_5, evS.eq_6, evS.eq_7, evS.eq_10, evS.eq_11, evS.eq_12, evS.eq_13, evS.eq_14, evE.eq_1, evE.eq_2, evE.eq_3, evE.eq_4, evE.eq_5, evE.eq_6, evE.eq_7, evE.eq_8, evE.eq_9, evE.eq_10, evE.eq_11, evE.eq_12, evE.eq_13, evE.eq_14, evE.eq_15, evE.eq_16, evE.eq_17, evE.eq_18, evE.eq_19, evE.eq_21, evE.eq_22, evE.eq_23, evE.eq_24, evE.eq_25, evE.eq_26,  evEs, evO, evTs, evI, asgT, asgTs, slot, startD, R.of_some, R.of_none, R.bind_ok, R.bind_stuck, R.then_ok, RS.seq_next, RS.seq_ret, RS.seq_brk, RS.seq_cont, List.getElem?_cons_zero, List.getElem?_cons_succ, List.set_cons_zero, List.set_cons_succ, List.set_set, add_ii, sub_ii, mul_ii, mod_ii, fdiv_ii, pow_lit, blt_int, blt_max, blt_min, blt_abs, aug_ii, tr_bl, lt_ii, le_ii, gt_ii, ge_ii, eq_ii, ne_ii, trim_p0, if_true, Bool.not_true, Bool.not_false, Bool.false_eq_true, if_false, R.tr_ok_bl, gOf_call, mkT_p2, len_t, sz1, sz2, sz3, sz4, sz6, D.items, hg0, hg1, hg2, hg3, hs0, hs1, hs2, hs3, hl1, hl2, hl3, hl4, List.append_assoc, List.cons_append, List.nil_append, List.append_nil, mk, pairUp, List.map_cons, List.map_nil, List.length_cons, List.length_nil, List.replicate, Nat.zero_le]
      rw [e2, RS.seq_next, evSs]
      exact ⟨W2, _, _, _, _, _, _, _, rfl, trimS_same (by rw [hl1, hl1]), t2, rnd_more rn le done, fun _ => ⟨W, e, hm, by rw [Nat.add_sub_cancel]; exact rn, lt⟩⟩
  · rintro s h' ⟨W, s2, s3, s4, s5, s6, s7, s8, rfl, rfl, t, rn, more⟩
    rw [numsLen] at more
    obtain ⟨W0, e, hm, r0, lt⟩ := more (Nat.succ_pos _)
    obtain ⟨L, T, z, prd, _⟩ := t.prd
    exact ⟨rfl, bad_of prd (fun k j hk => by
      obtain ⟨e2, g1, g2, _⟩ := prd.from_ k j hk
      exact ⟨e2, g1, (nm.lit e2 (List.mem_of_getElem? g1)).2⟩) r0 (nm.lit e hm).1 lt, _, rfl⟩
omit hi in
theorem back_obj {x o : O} (u : o.under h.length = true) : backR h (.ret (.r (h.length + 1)) (h ++ [x, o])) = .ok (.r h.length) (h ++ [o]) := by
  have a := agree_app [x, o] h.length h
  have d : D.under h.length (.r (h.length + 1)) = false := by simp [D.under]
  show trimR h (.ok (.r (h.length + 1)) (h ++ [x, o])) = _
  simp only [trimR, a, d, if_true, hg1, u]
  rw [if_neg (by simp), if_pos (by simp)]
  rw [List.take_left' rfl]
theorem numF_ok {p : Prg} {F k t gi : Nat} (ht : p.fns[t]? = some (numF gi)) (ok : NetOk E) (few : E.length < 90000) :
    ((¬ Bad E) ∧ ∃ o, callN p F (k + 2) t [.r i] h = .ok (.r h.length) (h ++ [o])) ∨ (Bad E ∧ callN p F (k + 2) t [.r i] h = .ok (.p .non) h) := by
  rw [call_eq ht rfl]
  obtain ⟨d, h2, e, q⟩ : ∃ d h2, evSs (gOf p F (callN p F (k + 1)) (callN p F k)) (numF gi).body (startD 9 [.r i]) h = .ret d h2 ∧ (((¬ Bad E) ∧ ∃ x o, o.under h.length = true ∧ d = .r (h.length + 1) ∧ h2 = h ++ [x, o]) ∨ (Bad E ∧ d = .p .non ∧ ∃ t, h2 = h ++ t)) := by
    refine run_ret ?_
    show Ru (evSs _ (.cons hMake (.cons (hTurns gi) (.cons (.ret (.c .non)) .nil))) [some (.r i), none, none, none, none, none, none, none, none] h) _ _
    rw [evSs, hmake_ok hi (by omega) ok, RS.seq_next, evSs]
    refine Run.seq ((hturns_ok hi (names_ok ok) (by omega)).weak (fun _ _ z => z) (fun _ _ z => z) (fun _ _ z => z) (fun _ _ z => .inl z)) ?_
    rintro s h' ⟨bad, t, rfl⟩
    simp only [evSs, evS.eq_1, evS.eq_2, evS.eq_3, evS.eq_4, evS.eq_5, evS.eq_6, evS.eq_7, evS.eq_10, evS.eq_11, evS.eq_12, evS.eq_13, evS.eq_14, evE.eq_1, evE.eq_2, evE.eq_3, evE.eq_4, evE.eq_5, evE.eq_6, evE.eq_7, evE.eq_8, evE.eq_9, evE.eq_10, evE.eq_11, evE.eq_12, evE.eq_13, evE.eq_14, evE.eq_15, evE.eq_16, evE.eq_17, evE.eq_18, evE.eq_19, evE.eq_21, evE.eq_22, evE.eq_23, evE.eq_24, evE.eq_25, evE.eq_26,  evEs, evO, evTs, evI, asgT, asgTs, slot, startD, R.of_some, R.of_none, R.bind_ok, R.bind_stuck, R.then_ok, RS.seq_next, RS.seq_ret, RS.seq_brk, RS.seq_cont, List.getElem?_cons_zero, List.getElem?_cons_succ, List.set_cons_zero, List.set_cons_succ, List.set_set, add_ii, sub_ii, mul_ii, mod_ii, fdiv_ii, pow_lit, blt_int, blt_max, blt_min, blt_abs, aug_ii, tr_bl, lt_ii, le_ii, gt_ii, ge_ii, eq_ii, ne_ii, trim_p0, if_true, Bool.not_true, Bool.not_false, Bool.false_eq_true, if_false, R.tr_ok_bl, gOf_call, mkT_p2, len_t, sz1, sz2, sz3, sz4, sz6, D.items]
    exact .inr ⟨bad, rfl, t, rfl⟩
  rw [show (numF gi).ns = 9 from rfl, e]
  rcases q with ⟨good, x, o, u, rfl, rfl⟩ | ⟨bad, rfl, t, rfl⟩
  · exact .inl ⟨good, o, back_obj u⟩
  · exact .inr ⟨bad, trim_pb _ _ _⟩
end
end Net

namespace L20
open PySem L2 Pv
def top (i : Nat) : Stmt := PySem.Challenge.pw_piecedruns_k20_nets_solved_or_a_ring.main.body.getD i (.Pass ⟨0, 0, 0, 0⟩)
abbrev s0 : Stmt := top 1 -- ring_from
abbrev s1 : Stmt := top 2 -- solved
abbrev s2 : Stmt := top 4 -- _law_bag
abbrev s3 : Stmt := top 5 -- _law_take
abbrev s4 : Stmt := top 6 -- _law_some
abbrev s5 : Stmt := top 7 -- _law_alike
abbrev s6 : Stmt := top 8 -- _law_numbers
abbrev s7 : Stmt := top 9 -- _law_net
abbrev s8 : Stmt := top 10 -- _law_are_numbers
abbrev s9 : Stmt := top 11 -- _law_is_ring
abbrev s10 : Stmt := top 12 -- law
def nm : Nm := ⟨["ring_from", "solved", "_law_bag", "_law_take", "_law_some", "_law_alike", "_law_numbers", "_law_net", "_law_are_numbers", "_law_is_ring", "law"], [], ["append", "get"], [], ["__name__", "ring_from", "solved", "_law_bag", "_law_take", "_law_some", "_law_alike", "_law_numbers", "_law_net", "_law_are_numbers", "_law_is_ring", "law"], ["worths", "best"]⟩
def n0 : List Str := ["literals", "last", "node", "met", "found", "begin"]
def q0 : List Str := ["literals", "last", "node"]
def f0 : FD := ⟨3, 6, (.cons (.asg (.v 3) (.dct .nil)) (.cons (.wh (.cmp .notin (.v 2) (.v 3)) (.cons (.asg (.sub (.v 3) (.v 2)) (.c (.bl true))) (.cons (.asg (.v 2) (.sub (.sub (.v 0) (.sub (.v 1) (.v 2))) (.c (.int 1)))) .nil))) (.cons (.par (.cons (.v 4) (.cons (.v 5) .nil)) (.cons (.lst (.cons (.sub (.v 1) (.v 2)) .nil)) (.cons (.v 2) .nil))) (.cons (.asg (.v 2) (.sub (.sub (.v 0) (.sub (.v 1) (.v 2))) (.c (.int 1)))) (.cons (.wh (.cmp .ne (.v 2) (.v 5)) (.cons (.expr (.meth (.v 4) 0 .append (.cons (.sub (.v 1) (.v 2)) .nil))) (.cons (.asg (.v 2) (.sub (.sub (.v 0) (.sub (.v 1) (.v 2))) (.c (.int 1)))) .nil))) (.cons (.ret (.blt .tuple (.cons (.v 4) .nil))) .nil))))))⟩ -- ring_from
theorem f0_ok : cF nm n0 q0 s0 = some f0 := by kernel_rfl
def n1 : List Str := ["literals", "turn", "worths", "last", "u", "v", "c", "lowered", "index", "rows", "node"]
def q1 : List Str := ["literals"]
def f1 : FD := ⟨1, 11, (.cons (.asg (.tup 2 (.cons (.v 2) (.cons (.v 3) .nil))) (.trim (.tup (.cons (.dct (.cons (.c .non) (.cons (.c (.int 0)) .nil))) (.cons (.dct .nil) .nil))))) (.cons (.for (.tup 3 (.cons (.v 4) (.cons (.v 5) (.cons (.v 6) .nil)))) (.of (.v 0)) (.cons (.asg (.tup 2 (.cons (.sub (.v 2) (.v 4)) (.cons (.sub (.v 2) (.v 5)) .nil))) (.tup (.cons (.c (.int 0)) (.cons (.c (.int 0)) .nil)))) .nil)) (.cons (.for (.v 1) (.rng1 (.bin .add (.blt .len (.cons (.v 2) .nil)) (.c (.int 1)))) (.cons (.asg (.v 7) (.c .non)) (.cons (.for (.tup 2 (.cons (.v 8) (.cons (.tup 3 (.cons (.v 4) (.cons (.v 5) (.cons (.v 6) .nil)))) .nil))) (.enum (.v 0)) (.cons (.ite (.trim (.cmp .lt (.bin .add (.sub (.v 2) (.v 5)) (.v 6)) (.sub (.v 2) (.v 4)))) (.cons (.asg (.tup 3 (.cons (.sub (.v 2) (.v 4)) (.cons (.sub (.v 3) (.v 4)) (.cons (.v 7) .nil)))) (.trim (.tup (.cons (.bin .add (.sub (.v 2) (.v 5)) (.v 6)) (.cons (.v 8) (.cons (.v 8) .nil)))))) .nil) .nil) .nil)) (.cons (.ite (.cmp .is (.v 7) (.c .non)) (.cons (.asg (.v 9) (.lck (.v 2) (.comp [10] (.tup (.cons (.v 10) (.cons (.bin .sub (.sub (.v 2) (.v 10)) (.sub (.v 2) (.c .non))) .nil))) (.v 10) (.of (.v 2)) (.cons (.cmp .isnot (.v 10) (.c .non)) .nil)))) (.cons (.ret (.trim (.tup (.cons (.c (.str "numbers")) (.cons (.blt .tuple (.cons (.blt .sorted (.cons (.v 9) .nil)) .nil)) .nil))))) .nil)) .nil) .nil)))) (.cons (.ret (.trim (.tup (.cons (.c (.str "ring")) (.cons (.call 0 (.cons (.v 0) (.cons (.v 3) (.cons (.sub (.sub (.v 0) (.v 7)) (.c (.int 0))) .nil)))) .nil))))) .nil))))⟩ -- solved
theorem f1_ok : cF nm n1 q1 s1 = some f1 := by kernel_rfl
def n2 : List Str := ["script", "cell"]
def q2 : List Str := ["script"]
def f2 : FD := ⟨1, 2, (.cons (.ret (.trim (.lst (.cons (.c (.int 0)) (.cons (.c (.int 1234567891)) (.cons (.c (.int 0)) (.cons (.comp [1] (.blt .abs (.cons (.v 1) .nil)) (.v 1) (.of (.slc (.v 0) .none (.some (.c (.int 63))))) .nil) .nil))))))) .nil)⟩ -- _law_bag
theorem f2_ok : cF nm n2 q2 s2 = some f2 := by kernel_rfl
def n3 : List Str := ["bag", "many", "begin", "second", "cell", "stirred", "value"]
def q3 : List Str := ["bag", "many"]
def f3 : FD := ⟨2, 7, (.cons (.ite (.cmp .eq (.sub (.v 0) (.c (.int 0))) (.c (.int 0))) (.cons (.asg (.v 4) (.trim (.sub (.bin .add (.slc (.sub (.v 0) (.c (.int 3))) (.some (.sub (.v 0) (.c (.int 2)))) .none) (.lst (.cons (.c (.int 0)) .nil))) (.c (.int 0))))) (.cons (.augSub (.v 0) (.c (.int 2)) .add (.c (.int 1))) (.cons (.ite (.cmp .ge (.v 4) (.bin .pow (.c (.int 10)) (.c (.int 18)))) (.cons (.asg (.sub (.v 0) (.c (.int 0))) (.v 4)) .nil) .nil) (.cons (.asg (.v 5) (.trim (.bin .add (.bin .add (.bin .mul (.sub (.v 0) (.c (.int 1))) (.c (.int 48271))) (.bin .mod (.blt .int (.cons (.v 4) .nil)) (.c (.int 2147483647)))) (.bin .mul (.c (.int 7919)) (.sub (.v 0) (.c (.int 2))))))) (.cons (.asg (.sub (.v 0) (.c (.int 1))) (.bin .mod (.blt .int (.cons (.v 5) .nil)) (.c (.int 2147483647)))) .nil))))) .nil) (.cons (.ite (.cmp .gt (.sub (.v 0) (.c (.int 0))) (.c (.int 0))) (.cons (.asg (.v 6) (.bin .mod (.blt .int (.cons (.sub (.v 0) (.c (.int 0))) .nil)) (.v 1))) (.cons (.asg (.sub (.v 0) (.c (.int 0))) (.bin .fdiv (.blt .int (.cons (.sub (.v 0) (.c (.int 0))) .nil)) (.v 1))) (.cons (.ret (.v 6)) .nil))) .nil) (.cons (.asg (.v 2) (.trim (.bin .mod (.blt .int (.cons (.bin .mul (.bin .add (.sub (.v 0) (.c (.int 1))) (.c (.int 1))) (.c (.int 39373))) .nil)) (.c (.int 1000000007))))) (.cons (.asg (.v 3) (.trim (.bin .mod (.blt .int (.cons (.bin .mul (.bin .mod (.blt .int (.cons (.bin .mul (.v 2) (.v 2)) .nil)) (.c (.int 998244353))) (.c (.int 30011))) .nil)) (.c (.int 998244353))))) (.cons (.ret (.bin .mod (.blt .int (.cons (.bin .fdiv (.v 3) (.c (.int 7))) .nil)) (.v 1))) .nil)))))⟩ -- _law_take
theorem f3_ok : cF nm n3 q3 s3 = some f3 := by kernel_rfl
def n4 : List Str := ["bag", "things"]
def q4 : List Str := ["bag", "things"]
def f4 : FD := ⟨2, 2, (.cons (.ret (.trim (.sub (.v 1) (.call 3 (.cons (.v 0) (.cons (.blt .len (.cons (.v 1) .nil)) .nil)))))) .nil)⟩ -- _law_some
theorem f4_ok : cF nm n4 q4 s4 = some f4 := by kernel_rfl
def n5 : List Str := ["found", "due"]
def q5 : List Str := ["found", "due"]
def f5 : FD := ⟨2, 2, (.cons (.ret (.and (.cmp .eq (.blt .repr (.cons (.v 0) .nil)) (.blt .repr (.cons (.v 1) .nil))) (.cmp .eq (.v 0) (.v 1)))) .nil)⟩ -- _law_alike
theorem f5_ok : cF nm n5 q5 s5 = some f5 := by kernel_rfl
def n6 : List Str := ["literals", "best", "lap", "again", "u", "v", "c", "zero", "node"]
def q6 : List Str := ["literals"]
def f6 : FD := ⟨1, 9, (.cons (.asg (.v 1) (.trim (.blt .dict (.cons (.bin .add (.comp [4, 5, 6] (.tup (.cons (.v 4) (.cons (.c (.int 0)) .nil))) (.tup 3 (.cons (.v 4) (.cons (.v 5) (.cons (.v 6) .nil)))) (.of (.v 0)) .nil) (.comp [4, 5, 6] (.tup (.cons (.v 5) (.cons (.c (.int 0)) .nil))) (.tup 3 (.cons (.v 4) (.cons (.v 5) (.cons (.v 6) .nil)))) (.of (.v 0)) .nil)) .nil)))) (.cons (.for (.v 2) (.rng1 (.bin .add (.blt .len (.cons (.v 1) .nil)) (.c (.int 1)))) (.cons (.asg (.v 3) (.c (.bl false))) (.cons (.for (.tup 3 (.cons (.v 4) (.cons (.v 5) (.cons (.v 6) .nil)))) (.of (.v 0)) (.cons (.ite (.trim (.cmp .lt (.bin .add (.sub (.v 1) (.v 5)) (.v 6)) (.sub (.v 1) (.v 4)))) (.cons (.asg (.tup 2 (.cons (.sub (.v 1) (.v 4)) (.cons (.v 3) .nil))) (.trim (.tup (.cons (.bin .add (.sub (.v 1) (.v 5)) (.v 6)) (.cons (.c (.bl true)) .nil))))) .nil) .nil) .nil)) (.cons (.ite (.not (.v 3)) (.cons (.asg (.v 7) (.meth (.v 1) 1 .get (.cons (.c (.str "")) (.cons (.c (.int 0)) .nil)))) (.cons (.ret (.trim (.blt .dict (.cons (.lck (.v 1) (.comp [8] (.tup (.cons (.v 8) (.cons (.bin .sub (.sub (.v 1) (.v 8)) (.v 7)) .nil))) (.v 8) (.of (.v 1)) .nil)) .nil)))) .nil)) .nil) .nil)))) (.cons (.ret (.c .non)) .nil)))⟩ -- _law_numbers
theorem f6_ok : cF nm n6 q6 s6 = some f6 := by kernel_rfl
def n7 : List Str := ["bag", "nodes", "great", "found", "lap", "c"]
def q7 : List Str := ["bag"]
def f7 : FD := ⟨1, 6, (.cons (.asg (.v 1) (.trim (.slc (.lst (.cons (.c .non) (.cons (.c (.str "a")) (.cons (.c (.str "b")) (.cons (.c (.str "x")) (.cons (.c (.str "len r")) (.cons (.c (.str "zz")) .nil))))))) .none (.some (.bin .add (.c (.int 2)) (.call 3 (.cons (.v 0) (.cons (.c (.int 5)) .nil)))))))) (.cons (.asg (.v 2) (.trim (.call 4 (.cons (.v 0) (.cons (.lst (.cons (.c (.int 1)) (.cons (.c (.int 1)) (.cons (.c (.int 1)) (.cons (.bin .pow (.c (.int 10)) (.c (.int 30))) .nil))))) .nil))))) (.cons (.asg (.v 3) (.lst .nil)) (.cons (.for (.v 4) (.rng1 (.call 3 (.cons (.v 0) (.cons (.c (.int 15)) .nil)))) (.cons (.asg (.v 5) (.trim (.bin .add (.bin .mul (.bin .sub (.call 3 (.cons (.v 0) (.cons (.c (.int 9)) .nil))) (.c (.int 3))) (.v 2)) (.call 3 (.cons (.v 0) (.cons (.c (.int 2)) .nil)))))) (.cons (.expr (.trim (.meth (.v 3) 0 .append (.cons (.tup (.cons (.call 4 (.cons (.v 0) (.cons (.v 1) .nil))) (.cons (.call 4 (.cons (.v 0) (.cons (.v 1) .nil))) (.cons (.v 5) .nil)))) .nil)))) .nil))) (.cons (.ret (.blt .tuple (.cons (.v 3) .nil))) .nil)))))⟩ -- _law_net
theorem f7_ok : cF nm n7 q7 s7 = some f7 := by kernel_rfl
def n8 : List Str := ["net", "rows", "nodes", "worths", "far", "node", "u", "v", "c", "number"]
def q8 : List Str := ["net", "rows"]
def f8 : FD := ⟨2, 10, (.cons (.asg (.v 2) (.trim (.bin .add (.comp [6, 7, 8] (.v 6) (.tup 3 (.cons (.v 6) (.cons (.v 7) (.cons (.v 8) .nil)))) (.of (.v 0)) .nil) (.comp [6, 7, 8] (.v 7) (.tup 3 (.cons (.v 6) (.cons (.v 7) (.cons (.v 8) .nil)))) (.of (.v 0)) .nil)))) (.cons (.ite (.trim (.not (.call 5 (.cons (.comp [5, 9] (.v 5) (.tup 2 (.cons (.v 5) (.cons (.v 9) .nil))) (.of (.v 1)) .nil) (.cons (.blt .sorted (.cons (.blt .set (.cons (.comp [5] (.v 5) (.v 5) (.of (.v 2)) (.cons (.cmp .isnot (.v 5) (.c .non)) .nil)) .nil)) .nil)) .nil))))) (.cons (.ret (.c (.bl false))) .nil) .nil) (.cons (.asg (.tup 2 (.cons (.v 3) (.cons (.v 4) .nil))) (.trim (.tup (.cons (.blt .dict (.cons (.v 1) .nil)) (.cons (.blt .sum (.cons (.comp [6, 7, 8] (.blt .abs (.cons (.v 8) .nil)) (.tup 3 (.cons (.v 6) (.cons (.v 7) (.cons (.v 8) .nil)))) (.of (.v 0)) .nil) .nil)) .nil))))) (.cons (.asg (.sub (.v 3) (.c .non)) (.c (.int 0))) (.cons (.ite (.trim (.cmp .ne (.lck (.v 3) (.comp [5] (.v 5) (.v 5) (.of (.v 3)) (.cons (.or (.not (.isi (.sub (.v 3) (.v 5)) .int)) (.cmp .gt (.blt .abs (.cons (.sub (.v 3) (.v 5)) .nil)) (.v 4))) .nil))) (.lst .nil))) (.cons (.ret (.c (.bl false))) .nil) .nil) (.cons (.ret (.trim (.cmp .eq (.comp [6, 7, 8] (.v 8) (.tup 3 (.cons (.v 6) (.cons (.v 7) (.cons (.v 8) .nil)))) (.of (.v 0)) (.cons (.cmp .gt (.bin .sub (.sub (.v 3) (.v 6)) (.sub (.v 3) (.v 7))) (.v 8)) .nil)) (.lst .nil)))) .nil))))))⟩ -- _law_are_numbers
theorem f8_ok : cF nm n8 q8 s8 = some f8 := by kernel_rfl
def n9 : List Str := ["net", "thing", "rows", "apart", "at", "k", "u", "v", "c"]
def q9 : List Str := ["net", "thing"]
def f9 : FD := ⟨2, 9, (.cons (.ite (.trim (.or (.not (.isi (.v 1) .tuple)) (.or (.cmp .eq (.v 1) (.tup .nil)) (.cmp .ne (.blt .len (.cons (.blt .set (.cons (.v 1) .nil)) .nil)) (.blt .len (.cons (.v 1) .nil)))))) (.cons (.ret (.c (.bl false))) .nil) .nil) (.cons (.ite (.trim (.cmp .ne (.comp [4] (.v 4) (.v 4) (.of (.v 1)) (.cons (.or (.not (.isi (.v 4) .int)) (.or (.cmp .lt (.v 4) (.c (.int 0))) (.cmp .ge (.v 4) (.blt .len (.cons (.v 0) .nil))))) .nil)) (.lst .nil))) (.cons (.ret (.c (.bl false))) .nil) .nil) (.cons (.asg (.v 2) (.comp [4] (.sub (.v 0) (.v 4)) (.v 4) (.of (.v 1)) .nil)) (.cons (.asg (.v 3) (.comp [5] (.v 5) (.v 5) (.rng1 (.blt .len (.cons (.v 2) .nil))) (.cons (.cmp .ne (.sub (.sub (.v 2) (.v 5)) (.c (.int 0))) (.sub (.sub (.v 2) (.bin .sub (.v 5) (.c (.int 1)))) (.c (.int 1)))) .nil))) (.cons (.ret (.trim (.and (.cmp .eq (.v 3) (.lst .nil)) (.cmp .lt (.blt .sum (.cons (.comp [6, 7, 8] (.v 8) (.tup 3 (.cons (.v 6) (.cons (.v 7) (.cons (.v 8) .nil)))) (.of (.v 2)) .nil) .nil)) (.c (.int 0)))))) .nil)))))⟩ -- _law_is_ring
theorem f9_ok : cF nm n9 q9 s9 = some f9 := by kernel_rfl
def n10 : List Str := ["script", "bag", "lap", "net", "named", "due", "said", "told", "u", "v", "c"]
def q10 : List Str := ["script"]
def f10 : FD := ⟨1, 11, (.cons (.asg (.v 1) (.call 2 (.cons (.v 0) .nil))) (.cons (.for (.v 2) (.rng1 (.c (.int 12))) (.cons (.asg (.v 3) (.call 7 (.cons (.v 1) .nil))) (.cons (.par (.cons (.v 6) (.cons (.v 7) .nil)) (.cons (.blt .repr (.cons (.v 3) .nil)) (.cons (.call 1 (.cons (.v 3) .nil)) .nil))) (.cons (.asg (.v 4) (.comp [8, 9, 10] (.trim (.tup (.cons (.ite (.cmp .is (.v 8) (.c .non)) (.c (.str "")) (.bin .add (.c (.str "n")) (.v 8))) (.cons (.ite (.cmp .is (.v 9) (.c .non)) (.c (.str "")) (.bin .add (.c (.str "n")) (.v 9))) (.cons (.v 10) .nil))))) (.tup 3 (.cons (.v 8) (.cons (.v 9) (.cons (.v 10) .nil)))) (.of (.v 3)) .nil)) (.cons (.asg (.v 5) (.trim (.ite (.cmp .isnot (.call 6 (.cons (.v 4) .nil)) (.c .non)) (.c (.str "numbers")) (.c (.str "ring"))))) (.cons (.ite (.or (.not (.isi (.v 7) .tuple)) (.or (.cmp .ne (.blt .len (.cons (.v 7) .nil)) (.c (.int 2))) (.or (.cmp .ne (.sub (.v 7) (.c (.int 0))) (.v 5)) (.cmp .ne (.blt .repr (.cons (.v 3) .nil)) (.v 6))))) (.cons (.ret (.c (.bl false))) .nil) .nil) (.cons (.ite (.not (.isi (.sub (.v 7) (.c (.int 1))) .tuple)) (.cons (.ret (.c (.bl false))) .nil) .nil) (.cons (.ite (.trim (.not (.ite (.cmp .eq (.v 5) (.c (.str "numbers"))) (.call 8 (.cons (.v 3) (.cons (.sub (.v 7) (.c (.int 1))) .nil))) (.call 9 (.cons (.v 3) (.cons (.sub (.v 7) (.c (.int 1))) .nil)))))) (.cons (.ret (.c (.bl false))) .nil) .nil) .nil)))))))) (.cons (.ret (.c (.bl true))) .nil)))⟩ -- law
theorem f10_ok : cF nm n10 q10 s10 = some f10 := by kernel_rfl
def prg : Prg := { fns := [f0, f1, f2, f3, f4, f5, f6, f7, f8, f9, f10], cls := [] }
theorem tab {K : PySem.W.Frag} {h : Heap} {mg : Str → Option Value} {fa : Addr} {a0 a1 a2 a3 a4 a5 a6 a7 a8 a9 a10 : Addr} {od0 an0 od1 an1 od2 an2 od3 an3 od4 an4 od5 an5 od6 an6 od7 an7 od8 an8 od9 an9 od10 an10 : Option Addr} {sl0 sl1 sl2 sl3 sl4 sl5 sl6 sl7 sl8 sl9 sl10 : Array (Option Value)} {oc0 kV0 dc0 pm0 cd0 ct0 oc1 kV1 dc1 pm1 cd1 ct1 oc2 kV2 dc2 pm2 cd2 ct2 oc3 kV3 dc3 pm3 cd3 ct3 oc4 kV4 dc4 pm4 cd4 ct4 oc5 kV5 dc5 pm5 cd5 ct5 oc6 kV6 dc6 pm6 cd6 ct6 oc7 kV7 dc7 pm7 cd7 ct7 oc8 kV8 dc8 pm8 cd8 ct8 oc9 kV9 dc9 pm9 cd9 ct9 oc10 kV10 dc10 pm10 cd10 ct10 : Value} (X : K.In h) (G : h.Ns mainGlobals mg) (hfa : mg "law" = some (.ref fa))
    (e0 : PySem.W.nsIn K mainGlobals "ring_from" = some (some (.ref a0)))
    (l0 : K.lookup a0 = some ⟨oc0, od0, .func (PySem.W.fnOf "ring_from" "ring_from" (defArgs s0) (defBody s0) (defScope s0) .none kV0 dc0 pm0 an0 cd0 ct0), sl0⟩)
    (c0 : PySem.W.codeIn K cd0 "ring_from" = true)
    (k0 : PySem.W.keepIn K (.ref a0) = true)
    (e1 : PySem.W.nsIn K mainGlobals "solved" = some (some (.ref a1)))
    (l1 : K.lookup a1 = some ⟨oc1, od1, .func (PySem.W.fnOf "solved" "solved" (defArgs s1) (defBody s1) (defScope s1) .none kV1 dc1 pm1 an1 cd1 ct1), sl1⟩)
    (c1 : PySem.W.codeIn K cd1 "solved" = true)
    (k1 : PySem.W.keepIn K (.ref a1) = true)
    (e2 : PySem.W.nsIn K mainGlobals "_law_bag" = some (some (.ref a2)))
    (l2 : K.lookup a2 = some ⟨oc2, od2, .func (PySem.W.fnOf "_law_bag" "_law_bag" (defArgs s2) (defBody s2) (defScope s2) .none kV2 dc2 pm2 an2 cd2 ct2), sl2⟩)
    (c2 : PySem.W.codeIn K cd2 "_law_bag" = true)
    (k2 : PySem.W.keepIn K (.ref a2) = true)
    (e3 : PySem.W.nsIn K mainGlobals "_law_take" = some (some (.ref a3)))
    (l3 : K.lookup a3 = some ⟨oc3, od3, .func (PySem.W.fnOf "_law_take" "_law_take" (defArgs s3) (defBody s3) (defScope s3) .none kV3 dc3 pm3 an3 cd3 ct3), sl3⟩)
    (c3 : PySem.W.codeIn K cd3 "_law_take" = true)
    (k3 : PySem.W.keepIn K (.ref a3) = true)
    (e4 : PySem.W.nsIn K mainGlobals "_law_some" = some (some (.ref a4)))
    (l4 : K.lookup a4 = some ⟨oc4, od4, .func (PySem.W.fnOf "_law_some" "_law_some" (defArgs s4) (defBody s4) (defScope s4) .none kV4 dc4 pm4 an4 cd4 ct4), sl4⟩)
    (c4 : PySem.W.codeIn K cd4 "_law_some" = true)
    (k4 : PySem.W.keepIn K (.ref a4) = true)
    (e5 : PySem.W.nsIn K mainGlobals "_law_alike" = some (some (.ref a5)))
    (l5 : K.lookup a5 = some ⟨oc5, od5, .func (PySem.W.fnOf "_law_alike" "_law_alike" (defArgs s5) (defBody s5) (defScope s5) .none kV5 dc5 pm5 an5 cd5 ct5), sl5⟩)
    (c5 : PySem.W.codeIn K cd5 "_law_alike" = true)
    (k5 : PySem.W.keepIn K (.ref a5) = true)
    (e6 : PySem.W.nsIn K mainGlobals "_law_numbers" = some (some (.ref a6)))
    (l6 : K.lookup a6 = some ⟨oc6, od6, .func (PySem.W.fnOf "_law_numbers" "_law_numbers" (defArgs s6) (defBody s6) (defScope s6) .none kV6 dc6 pm6 an6 cd6 ct6), sl6⟩)
    (c6 : PySem.W.codeIn K cd6 "_law_numbers" = true)
    (k6 : PySem.W.keepIn K (.ref a6) = true)
    (e7 : PySem.W.nsIn K mainGlobals "_law_net" = some (some (.ref a7)))
    (l7 : K.lookup a7 = some ⟨oc7, od7, .func (PySem.W.fnOf "_law_net" "_law_net" (defArgs s7) (defBody s7) (defScope s7) .none kV7 dc7 pm7 an7 cd7 ct7), sl7⟩)
    (c7 : PySem.W.codeIn K cd7 "_law_net" = true)
    (k7 : PySem.W.keepIn K (.ref a7) = true)
    (e8 : PySem.W.nsIn K mainGlobals "_law_are_numbers" = some (some (.ref a8)))
    (l8 : K.lookup a8 = some ⟨oc8, od8, .func (PySem.W.fnOf "_law_are_numbers" "_law_are_numbers" (defArgs s8) (defBody s8) (defScope s8) .none kV8 dc8 pm8 an8 cd8 ct8), sl8⟩)
    (c8 : PySem.W.codeIn K cd8 "_law_are_numbers" = true)
    (k8 : PySem.W.keepIn K (.ref a8) = true)
    (e9 : PySem.W.nsIn K mainGlobals "_law_is_ring" = some (some (.ref a9)))
    (l9 : K.lookup a9 = some ⟨oc9, od9, .func (PySem.W.fnOf "_law_is_ring" "_law_is_ring" (defArgs s9) (defBody s9) (defScope s9) .none kV9 dc9 pm9 an9 cd9 ct9), sl9⟩)
    (c9 : PySem.W.codeIn K cd9 "_law_is_ring" = true)
    (k9 : PySem.W.keepIn K (.ref a9) = true)
    (e10 : PySem.W.nsIn K mainGlobals "law" = some (some (.ref a10)))
    (l10 : K.lookup a10 = some ⟨oc10, od10, .func (PySem.W.fnOf "law" "law" (defArgs s10) (defBody s10) (defScope s10) .none kV10 dc10 pm10 an10 cd10 ct10), sl10⟩)
    (c10 : PySem.W.codeIn K cd10 "law" = true)
    (k10 : PySem.W.keepIn K (.ref a10) = true)
    (z_len : PySem.W.nsIn K mainGlobals "len" = some none)
    (z_abs : PySem.W.nsIn K mainGlobals "abs" = some none)
    (z_int : PySem.W.nsIn K mainGlobals "int" = some none)
    (z_max : PySem.W.nsIn K mainGlobals "max" = some none)
    (z_min : PySem.W.nsIn K mainGlobals "min" = some none)
    (z_tuple : PySem.W.nsIn K mainGlobals "tuple" = some none)
    (z_list : PySem.W.nsIn K mainGlobals "list" = some none)
    (z_sorted : PySem.W.nsIn K mainGlobals "sorted" = some none)
    (z_repr : PySem.W.nsIn K mainGlobals "repr" = some none)
    (z_range : PySem.W.nsIn K mainGlobals "range" = some none)
    (z_enumerate : PySem.W.nsIn K mainGlobals "enumerate" = some none)
    (z_zip : PySem.W.nsIn K mainGlobals "zip" = some none)
    (z_sum : PySem.W.nsIn K mainGlobals "sum" = some none)
    (z_all : PySem.W.nsIn K mainGlobals "all" = some none)
    (z_any : PySem.W.nsIn K mainGlobals "any" = some none)
    (z_dict : PySem.W.nsIn K mainGlobals "dict" = some none)
    (z_str : PySem.W.nsIn K mainGlobals "str" = some none)
    (z_isinstance : PySem.W.nsIn K mainGlobals "isinstance" = some none)
    (z_bool : PySem.W.nsIn K mainGlobals "bool" = some none)
    (z_set : PySem.W.nsIn K mainGlobals "set" = some none) :
    ∃ (c : Ct) (adr : Nat → Addr), adr 10 = fa ∧ TabOk K mg c nm prg adr := by
  have eq := hfa.symm.trans (PySem.W.mg_of X G e10)
  have eq2 : a10 = fa := by cases eq; rfl
  have F0 := fun_mk (st := s0) l0 c0 k0
  have b0 := F0.binds (ps := ["literals", "last", "node"]) fun _ _ _ _ _ _ us hl => match us, hl with | [_, _, _], _ => rfl
  have F1 := fun_mk (st := s1) l1 c1 k1
  have b1 := F1.binds (ps := ["literals"]) fun _ _ _ _ _ _ us hl => match us, hl with | [_], _ => rfl
  have F2 := fun_mk (st := s2) l2 c2 k2
  have b2 := F2.binds (ps := ["script"]) fun _ _ _ _ _ _ us hl => match us, hl with | [_], _ => rfl
  have F3 := fun_mk (st := s3) l3 c3 k3
  have b3 := F3.binds (ps := ["bag", "many"]) fun _ _ _ _ _ _ us hl => match us, hl with | [_, _], _ => rfl
  have F4 := fun_mk (st := s4) l4 c4 k4
  have b4 := F4.binds (ps := ["bag", "things"]) fun _ _ _ _ _ _ us hl => match us, hl with | [_, _], _ => rfl
  have F5 := fun_mk (st := s5) l5 c5 k5
  have b5 := F5.binds (ps := ["found", "due"]) fun _ _ _ _ _ _ us hl => match us, hl with | [_, _], _ => rfl
  have F6 := fun_mk (st := s6) l6 c6 k6
  have b6 := F6.binds (ps := ["literals"]) fun _ _ _ _ _ _ us hl => match us, hl with | [_], _ => rfl
  have F7 := fun_mk (st := s7) l7 c7 k7
  have b7 := F7.binds (ps := ["bag"]) fun _ _ _ _ _ _ us hl => match us, hl with | [_], _ => rfl
  have F8 := fun_mk (st := s8) l8 c8 k8
  have b8 := F8.binds (ps := ["net", "rows"]) fun _ _ _ _ _ _ us hl => match us, hl with | [_, _], _ => rfl
  have F9 := fun_mk (st := s9) l9 c9 k9
  have b9 := F9.binds (ps := ["net", "thing"]) fun _ _ _ _ _ _ us hl => match us, hl with | [_, _], _ => rfl
  have F10 := fun_mk (st := s10) l10 c10 k10
  have b10 := F10.binds (ps := ["script"]) fun _ _ _ _ _ _ us hl => match us, hl with | [_], _ => rfl
  refine ⟨ctOf nm prg [], adrOf [a0, a1, a2, a3, a4, a5, a6, a7, a8, a9, a10], eq2, tab_mk (by decide +kernel) (by decide +kernel) ?_ ?_ ?_ ?_ ?_ ?_⟩
  · exact Each.c (defOk_mk F0 b0 f0_ok) (Each.c (defOk_mk F1 b1 f1_ok) (Each.c (defOk_mk F2 b2 f2_ok) (Each.c (defOk_mk F3 b3 f3_ok) (Each.c (defOk_mk F4 b4 f4_ok) (Each.c (defOk_mk F5 b5 f5_ok) (Each.c (defOk_mk F6 b6 f6_ok) (Each.c (defOk_mk F7 b7 f7_ok) (Each.c (defOk_mk F8 b8 f8_ok) (Each.c (defOk_mk F9 b9 f9_ok) (Each.c (defOk_mk F10 b10 f10_ok) (Each.n)))))))))))
  · exact Each.c (PySem.W.mg_of X G e0) (Each.c (PySem.W.mg_of X G e1) (Each.c (PySem.W.mg_of X G e2) (Each.c (PySem.W.mg_of X G e3) (Each.c (PySem.W.mg_of X G e4) (Each.c (PySem.W.mg_of X G e5) (Each.c (PySem.W.mg_of X G e6) (Each.c (PySem.W.mg_of X G e7) (Each.c (PySem.W.mg_of X G e8) (Each.c (PySem.W.mg_of X G e9) (Each.c (PySem.W.mg_of X G e10) (Each.n)))))))))))
  · exact Each.n
  · exact Each.n
  · exact All_.c (.inr (PySem.W.mg_none_of X G z_len)) (All_.c (.inr (PySem.W.mg_none_of X G z_abs)) (All_.c (.inr (PySem.W.mg_none_of X G z_int)) (All_.c (.inr (PySem.W.mg_none_of X G z_max)) (All_.c (.inr (PySem.W.mg_none_of X G z_min)) (All_.c (.inr (PySem.W.mg_none_of X G z_tuple)) (All_.c (.inr (PySem.W.mg_none_of X G z_list)) (All_.c (.inr (PySem.W.mg_none_of X G z_sorted)) (All_.c (.inr (PySem.W.mg_none_of X G z_repr)) (All_.c (.inr (PySem.W.mg_none_of X G z_range)) (All_.c (.inr (PySem.W.mg_none_of X G z_enumerate)) (All_.c (.inr (PySem.W.mg_none_of X G z_zip)) (All_.c (.inr (PySem.W.mg_none_of X G z_sum)) (All_.c (.inr (PySem.W.mg_none_of X G z_all)) (All_.c (.inr (PySem.W.mg_none_of X G z_any)) (All_.c (.inr (PySem.W.mg_none_of X G z_dict)) (All_.c (.inr (PySem.W.mg_none_of X G z_str)) (All_.c (.inr (PySem.W.mg_none_of X G z_isinstance)) (All_.c (.inr (PySem.W.mg_none_of X G z_bool)) (All_.c (.inr (PySem.W.mg_none_of X G z_set)) (All_.n))))))))))))))))))))
  · exact trivial
end L20

/-! K20 a: a net is drawn. -/
namespace L20
open PySem L2 Pv Net

def jN : IS := (.asg (.v 1) (.trim (.slc (.lst (.cons (.c .non) (.cons (.c (.str "a")) (.cons (.c (.str "b")) (.cons (.c (.str "x")) (.cons (.c (.str "len r")) (.cons (.c (.str "zz")) .nil))))))) .none (.some (.bin .add (.c (.int 2)) (.call 3 (.cons (.v 0) (.cons (.c (.int 5)) .nil))))))))
def jG : IS := (.asg (.v 2) (.trim (.call 4 (.cons (.v 0) (.cons (.lst (.cons (.c (.int 1)) (.cons (.c (.int 1)) (.cons (.c (.int 1)) (.cons (.bin .pow (.c (.int 10)) (.c (.int 30))) .nil))))) .nil)))))
def jE : IS := (.asg (.v 3) (.lst .nil))
def jC : IS := (.asg (.v 5) (.trim (.bin .add (.bin .mul (.bin .sub (.call 3 (.cons (.v 0) (.cons (.c (.int 9)) .nil))) (.c (.int 3))) (.v 2)) (.call 3 (.cons (.v 0) (.cons (.c (.int 2)) .nil))))))
def jA : IS := (.expr (.trim (.meth (.v 3) 0 .append (.cons (.tup (.cons (.call 4 (.cons (.v 0) (.cons (.v 1) .nil))) (.cons (.call 4 (.cons (.v 0) (.cons (.v 1) .nil))) (.cons (.v 5) .nil)))) .nil))))
def jD : IS := .for (.v 4) (.rng1 (.call 3 (.cons (.v 0) (.cons (.c (.int 15)) .nil)))) (.cons jC (.cons jA .nil))
def jR : IS := .ret (.blt .tuple (.cons (.v 3) .nil))
theorem f7_eq : f7 = ⟨1, 6, .cons jN (.cons jG (.cons jE (.cons jD (.cons jR .nil))))⟩ := rfl
abbrev N6 : List P := [.non, .str "a", .str "b", .str "x", .str "len r", .str "zz"]
abbrev gO (F k : Nat) : G := gOf prg F (callN prg F (k + 6)) (callN prg F (k + 5))
def big : Int := 1000000000000000000000000000000
theorem isN6 : ∀ x ∈ N6, IsN x := fun x hx => by
  rcases List.mem_cons.mp hx with rfl | hx
  · exact .inl rfl
  · refine .inr ?_
    simp only [List.mem_cons, List.not_mem_nil, or_false] at hx
    rcases hx with rfl | rfl | rfl | rfl | rfl <;> exact ⟨_, rfl, by decide +kernel⟩
/-- a net over these nodes -/
structure NetIn (E : List Lt) : Prop where
  lit : ∀ e ∈ E, e.1 ∈ N6 ∧ e.2.1 ∈ N6
  size : ∀ e ∈ E, -(8 * big) ≤ e.2.2 ∧ e.2.2 ≤ 8 * big
  few : E.length ≤ 14
structure Std (h : Hh) (b l a : Nat) (N : List P) : Prop where
  bag : Bag h b l
  nodes : h[a]? = some (.lst (N.map .p))
  ne : a ≠ b
theorem Std.next {h h1 : Hh} {b l a : Nat} {N : List P} (s : Std h b l a N) (n : Next h h1 b l) : Std h1 b l a N := ⟨n.bag, by rw [n.get s.ne]; exact s.nodes, s.ne⟩
theorem Std.app {h : Hh} {b l a : Nat} {N : List P} (s : Std h b l a N) (t : Hh) : Std (h ++ t) b l a N := ⟨s.bag.app t, get_app s.nodes, s.ne⟩
section
variable {F k : Nat} {h : Hh} {b l : Nat} {a1 a2 a3 a4 a5 : Option D}
theorem jN_ok (B : Bag h b l) : ∃ (N : List P) (h1 : Hh), (∀ x ∈ N, x ∈ N6) ∧ N ≠ [] ∧ N.length ≤ 6 ∧ Next h h1 b l ∧
    evS (gO F k) jN [some (.r b), a1, a2, a3, a4, a5] h = .next [some (.r b), some (.r h.length), a2, a3, a4, a5] (h1 ++ [.lst (N.map .p)]) := by
  obtain ⟨v, h1, v1, nx, e⟩ := take_more (p := prg) (F := F) (k := k + 4) (t := 3) rfl B [.lst (N6.map .p)] (many := 5) (by decide) (by decide)
  obtain ⟨N, hN, n0, n1, cut⟩ : ∃ N : List P, (∀ x ∈ N, x ∈ N6) ∧ N ≠ [] ∧ N.length ≤ 6 ∧ cutX (N6.map D.p) none (some (2 + (v : Int))) = N.map .p := by
    have : v = 0 ∨ v = 1 ∨ v = 2 ∨ v = 3 ∨ v = 4 := by omega
    rcases this with rfl | rfl | rfl | rfl | rfl
    · exact ⟨N6.take 2, fun x hx => List.mem_of_mem_take hx, by decide, by decide, rfl⟩
    · exact ⟨N6.take 3, fun x hx => List.mem_of_mem_take hx, by decide, by decide, rfl⟩
    · exact ⟨N6.take 4, fun x hx => List.mem_of_mem_take hx, by decide, by decide, rfl⟩
    · exact ⟨N6.take 5, fun x hx => List.mem_of_mem_take hx, by decide, by decide, rfl⟩
    · exact ⟨N6.take 6, fun x hx => List.mem_of_mem_take hx, by decide, by decide, rfl⟩
  refine ⟨N, h1, hN, n0, n1, nx, ?_⟩
  have ln := nx.length
  have un : (O.lst (N.map D.p)).under h.length = true := by
    show D.unders h.length (N.map D.p) = true
    clear cut hN n0 n1
    induction N with
    | nil => rfl
    | cons x N ih => simp only [List.map_cons, D.unders, D.under, ih, Bool.and_self]
  have td := trim_down B nx (.lst (N6.map D.p)) (.lst (N.map D.p)) un
  have lo : lstOf (h1 ++ [.lst (N6.map .p)]) (.r h.length) = some (N6.map .p) := by
    have := hg0 h1 (.lst (N6.map .p)) []
    rw [ln] at this
    simp only [lstOf, this]
  have sl : slcS (.r h.length) none (some (2 + (v : Int))) (h1 ++ [.lst (N6.map .p)]) = .ok (.r (h.length + 1)) (h1 ++ [.lst (N6.map .p), .lst (N.map .p)]) := by
    simp only [slcS, lo, cut, mk, hl1, ln, List.append_assoc, List.cons_append, List.nil_append]
  have ml : evE (gO F k) (.lst (.cons (.c .non) (.cons (.c (.str "a")) (.cons (.c (.str "b")) (.cons (.c (.str "x")) (.cons (.c (.str "len r")) (.cons (.c (.str "zz")) .nil))))))) [some (.r b), a1, a2, a3, a4, a5] h = .ok (.r h.length) (h ++ [.lst (N6.map .p)]) := by
    simp only [evSs, evS.eq_1, evS.eq_2, evS.eq_3, evS.eq_4, evS.eq_5, evS.eq_6, evS.eq_7, evS.eq_10, evS.eq_11, evS.eq_12, evS.eq_13, evS.eq_14, evE.eq_1, evE.eq_2, evE.eq_3, evE.eq_4, evE.eq_5, evE.eq_6, evE.eq_7, evE.eq_8, evE.eq_9, evE.eq_10, evE.eq_11, evE.eq_12, evE.eq_13, evE.eq_14, evE.eq_15, evE.eq_16, evE.eq_17, evE.eq_18, evE.eq_19, evE.eq_21, evE.eq_22, evE.eq_23, evE.eq_24, evE.eq_25, evE.eq_26,  evEs, evO, evTs, evI, asgT, asgTs, slot, startD, R.of_some, R.of_none, R.bind_ok, R.bind_stuck, R.then_ok, RS.seq_next, RS.seq_ret, RS.seq_brk, RS.seq_cont, List.getElem?_cons_zero, List.getElem?_cons_succ, List.set_cons_zero, List.set_cons_succ, List.set_set, add_ii, sub_ii, mul_ii, mod_ii, fdiv_ii, pow_lit, blt_int, blt_max, blt_min, blt_abs, aug_ii, tr_bl, lt_ii, le_ii, gt_ii, ge_ii, eq_ii, ne_ii, trim_p0, if_true, Bool.not_true, Bool.not_false, Bool.false_eq_true, if_false, R.tr_ok_bl, gOf_call, mkT_p2, len_t, sz1, sz2, sz3, sz4, sz6, D.items, hg0, hg1, hg2, hg3, hs0, hs1, hs2, hs3, hl1, hl2, hl3, hl4, List.append_assoc, List.cons_append, List.nil_append, List.append_nil, mk, pairUp, List.map_cons, List.map_nil, List.length_cons, List.length_nil, List.replicate, Nat.zero_le]
  unfold jN
  rw [evS.eq_2, evE.eq_21, evE.eq_19, ml, R.bind_ok, evO, R.bind_ok, evO]
  simp only [evSs, evS.eq_1, evS.eq_2, evS.eq_3, evS.eq_4, evS.eq_5, evS.eq_6, evS.eq_7, evS.eq_10, evS.eq_11, evS.eq_12, evS.eq_13, evS.eq_14, evE.eq_1, evE.eq_2, evE.eq_3, evE.eq_4, evE.eq_5, evE.eq_6, evE.eq_7, evE.eq_8, evE.eq_9, evE.eq_10, evE.eq_11, evE.eq_12, evE.eq_13, evE.eq_14, evE.eq_15, evE.eq_16, evE.eq_17, evE.eq_18, evE.eq_19, evE.eq_21, evE.eq_22, evE.eq_23, evE.eq_24, evE.eq_25, evE.eq_26,  evEs, evO, evTs, evI, asgT, asgTs, slot, startD, R.of_some, R.of_none, R.bind_ok, R.bind_stuck, R.then_ok, RS.seq_next, RS.seq_ret, RS.seq_brk, RS.seq_cont, List.getElem?_cons_zero, List.getElem?_cons_succ, List.set_cons_zero, List.set_cons_succ, List.set_set, add_ii, sub_ii, mul_ii, mod_ii, fdiv_ii, pow_lit, blt_int, blt_max, blt_min, blt_abs, aug_ii, tr_bl, lt_ii, le_ii, gt_ii, ge_ii, eq_ii, ne_ii, trim_p0, if_true, Bool.not_true, Bool.not_false, Bool.false_eq_true, if_false, R.tr_ok_bl, gOf_call, mkT_p2, len_t, sz1, sz2, sz3, sz4, sz6, D.items, gOf_call, e, sl, td]
theorem jG_ok (B : Bag h b l) : ∃ (great : Int) (h1 : Hh), (great = 1 ∨ great = big) ∧ Next h h1 b l ∧
    evS (gO F k) jG [some (.r b), a1, a2, a3, a4, a5] h = .next [some (.r b), a1, some (.p (.int great)), a3, a4, a5] h1 := by
  obtain ⟨x, h1, h2, hx, n1, e1, tm⟩ := some_trim (p := prg) (F := F) (k := k + 3) (t := 3) (t' := 4) rfl rfl (items := [.int 1, .int 1, .int 1, .int big]) B (by simp) (by decide)
  obtain ⟨great, rfl, hg⟩ : ∃ great, x = .int great ∧ (great = 1 ∨ great = big) := by
    simp only [List.mem_cons, List.not_mem_nil, or_false] at hx
    rcases hx with rfl | rfl | rfl | rfl
    · exact ⟨_, rfl, .inl rfl⟩
    · exact ⟨_, rfl, .inl rfl⟩
    · exact ⟨_, rfl, .inl rfl⟩
    · exact ⟨_, rfl, .inr rfl⟩
  refine ⟨great, h1, hg, n1, ?_⟩
  have pw : ∀ h : Hh, binS .pow (.p (.int 10)) (.p (.int 30)) h = .ok (.p (.int big)) h := fun h => (pow_ii 10 30 h (by decide)).trans (by congr 1)
  simp only [List.map_cons, List.map_nil] at e1
  unfold jG
  simp only [evSs, evS.eq_1, evS.eq_2, evS.eq_3, evS.eq_4, evS.eq_5, evS.eq_6, evS.eq_7, evS.eq_10, evS.eq_11, evS.eq_12, evS.eq_13, evS.eq_14, evE.eq_1, evE.eq_2, evE.eq_3, evE.eq_4, evE.eq_5, evE.eq_6, evE.eq_7, evE.eq_8, evE.eq_9, evE.eq_10, evE.eq_11, evE.eq_12, evE.eq_13, evE.eq_14, evE.eq_15, evE.eq_16, evE.eq_17, evE.eq_18, evE.eq_19, evE.eq_21, evE.eq_22, evE.eq_23, evE.eq_24, evE.eq_25, evE.eq_26,  evEs, evO, evTs, evI, asgT, asgTs, slot, startD, R.of_some, R.of_none, R.bind_ok, R.bind_stuck, R.then_ok, RS.seq_next, RS.seq_ret, RS.seq_brk, RS.seq_cont, List.getElem?_cons_zero, List.getElem?_cons_succ, List.set_cons_zero, List.set_cons_succ, List.set_set, add_ii, sub_ii, mul_ii, mod_ii, fdiv_ii, pow_lit, blt_int, blt_max, blt_min, blt_abs, aug_ii, tr_bl, lt_ii, le_ii, gt_ii, ge_ii, eq_ii, ne_ii, trim_p0, if_true, Bool.not_true, Bool.not_false, Bool.false_eq_true, if_false, R.tr_ok_bl, gOf_call, mkT_p2, len_t, sz1, sz2, sz3, sz4, sz6, D.items, hg0, hg1, hg2, hg3, hs0, hs1, hs2, hs3, hl1, hl2, hl3, hl4, List.append_assoc, List.cons_append, List.nil_append, List.append_nil, mk, pairUp, List.map_cons, List.map_nil, List.length_cons, List.length_nil, List.replicate, Nat.zero_le, pw, gOf_call, e1, tm]
theorem jC_ok (B : Bag h b l) {great : Int} (hg : great = 1 ∨ great = big) : ∃ (c : Int) (h1 : Hh), (-(8 * big) ≤ c ∧ c ≤ 8 * big) ∧ Next h h1 b l ∧
    evS (gO F k) jC [some (.r b), a1, some (.p (.int great)), a3, a4, a5] h = .next [some (.r b), a1, some (.p (.int great)), a3, a4, some (.p (.int c))] h1 := by
  obtain ⟨v, h1, hv, n1, e1⟩ := take0 (p := prg) (F := F) (k := k + 4) (t := 3) rfl B (many := 9) (by decide) (by decide)
  obtain ⟨u, h2, hu, n2, e2⟩ := take0 (p := prg) (F := F) (k := k + 4) (t := 3) rfl n1.bag (many := 2) (by decide) (by decide)
  have mo : mulOk ((v : Int) - 3) great = true := mulOk_l (by omega)
  have tl := trim_len (h := h) (h' := h2) (.int (((v : Int) - 3) * great + u)) ((n1.trans n2).length)
  refine ⟨((v : Int) - 3) * great + u, h2, ?_, n1.trans n2, ?_⟩
  · rcases hg with rfl | rfl
    · rw [Int.mul_one]; unfold big; omega
    · unfold big; omega
  · unfold jC
    simp only [evSs, evS.eq_1, evS.eq_2, evS.eq_3, evS.eq_4, evS.eq_5, evS.eq_6, evS.eq_7, evS.eq_10, evS.eq_11, evS.eq_12, evS.eq_13, evS.eq_14, evE.eq_1, evE.eq_2, evE.eq_3, evE.eq_4, evE.eq_5, evE.eq_6, evE.eq_7, evE.eq_8, evE.eq_9, evE.eq_10, evE.eq_11, evE.eq_12, evE.eq_13, evE.eq_14, evE.eq_15, evE.eq_16, evE.eq_17, evE.eq_18, evE.eq_19, evE.eq_21, evE.eq_22, evE.eq_23, evE.eq_24, evE.eq_25, evE.eq_26,  evEs, evO, evTs, evI, asgT, asgTs, slot, startD, R.of_some, R.of_none, R.bind_ok, R.bind_stuck, R.then_ok, RS.seq_next, RS.seq_ret, RS.seq_brk, RS.seq_cont, List.getElem?_cons_zero, List.getElem?_cons_succ, List.set_cons_zero, List.set_cons_succ, List.set_set, add_ii, sub_ii, mul_ii, mod_ii, fdiv_ii, pow_lit, blt_int, blt_max, blt_min, blt_abs, aug_ii, tr_bl, lt_ii, le_ii, gt_ii, ge_ii, eq_ii, ne_ii, trim_p0, if_true, Bool.not_true, Bool.not_false, Bool.false_eq_true, if_false, R.tr_ok_bl, gOf_call, mkT_p2, len_t, sz1, sz2, sz3, sz4, sz6, D.items, hg0, hg1, hg2, hg3, hs0, hs1, hs2, hs3, hl1, hl2, hl3, hl4, List.append_assoc, List.cons_append, List.nil_append, List.append_nil, mk, pairUp, List.map_cons, List.map_nil, List.length_cons, List.length_nil, List.replicate, Nat.zero_le, gOf_call, e1, e2, mo, tl]

theorem get_lt' {α : Type} {l : List α} {j : Nat} {x : α} (e : l[j]? = some x) : j < l.length := (List.getElem?_eq_some_iff.mp e).1
theorem jA_ok {h0 : Hh} {N : List P} {a e : Nat} (gr : Grow h0 h b l) (st : Std h b l a N) (hN : N ≠ []) (fN : N.length ≤ 6) {c : Int} {E : List Lt} (few : E.length < 1000) (he : h[e]? = some (.lst (E.map fun x => .p (litP x)))) (e0 : h0.length ≤ e) (eb : e ≠ b) (el : e ≠ l) (ea : e ≠ a) :
    ∃ (x : Lt) (h' : Hh), x.1 ∈ N ∧ x.2.1 ∈ N ∧ x.2.2 = c ∧ Grow h0 h' b l ∧ Std h' b l a N ∧ h'.length = h.length ∧ h'[e]? = some (.lst ((E ++ [x]).map fun x => .p (litP x))) ∧
      evS (gO F k) jA [some (.r b), some (.r a), a2, some (.r e), a4, some (.p (.int c))] h = .next [some (.r b), some (.r a), a2, some (.r e), a4, some (.p (.int c))] h' := by
  obtain ⟨x, h1, hx, n1, e1⟩ := some_ok (p := prg) (F := F) (k := k + 3) (t := 3) (t' := 4) rfl rfl st.bag (Ne.symm st.ne) st.nodes hN (by omega)
  have s1 := st.next n1
  obtain ⟨y, h2, hy, n2, e2⟩ := some_ok (p := prg) (F := F) (k := k + 3) (t := 3) (t' := 4) rfl rfl s1.bag (Ne.symm s1.ne) s1.nodes hN (by omega)
  have s2 := s1.next n2
  have nx := n1.trans n2
  have he2 : h2[e]? = some (.lst (E.map fun x => .p (litP x))) := by rw [nx.get eb]; exact he
  have ap := app_lst (.p (litP (x, y, c))) he2 (by rw [List.length_map, sizeLine_v]; omega)
  have m3 : mkT [.p x, .p y, .p (.int c)] = .p (litP (x, y, c)) := rfl
  have tl := trim_len (h := h) (h' := h2.set e (.lst ((E.map fun x => .p (litP x)) ++ [.p (litP (x, y, c))]))) .non (by rw [List.length_set]; exact nx.length)
  refine ⟨(x, y, c), h2.set e (.lst ((E.map fun x => .p (litP x)) ++ [.p (litP (x, y, c))])), hx, hy, rfl, (gr.next nx).set _ e0, ⟨s2.bag.set _ eb el, by rw [List.getElem?_set_ne ea]; exact s2.nodes, s2.ne⟩, by rw [List.length_set]; exact nx.length, ?_, ?_⟩
  · rw [List.getElem?_set_self (get_lt he2), List.map_append]
    rfl
  · unfold jA
    simp only [evSs, evS.eq_1, evS.eq_2, evS.eq_3, evS.eq_4, evS.eq_5, evS.eq_6, evS.eq_7, evS.eq_10, evS.eq_11, evS.eq_12, evS.eq_13, evS.eq_14, evE.eq_1, evE.eq_2, evE.eq_3, evE.eq_4, evE.eq_5, evE.eq_6, evE.eq_7, evE.eq_8, evE.eq_9, evE.eq_10, evE.eq_11, evE.eq_12, evE.eq_13, evE.eq_14, evE.eq_15, evE.eq_16, evE.eq_17, evE.eq_18, evE.eq_19, evE.eq_21, evE.eq_22, evE.eq_23, evE.eq_24, evE.eq_25, evE.eq_26,  evEs, evO, evTs, evI, asgT, asgTs, slot, startD, R.of_some, R.of_none, R.bind_ok, R.bind_stuck, R.then_ok, RS.seq_next, RS.seq_ret, RS.seq_brk, RS.seq_cont, List.getElem?_cons_zero, List.getElem?_cons_succ, List.set_cons_zero, List.set_cons_succ, List.set_set, add_ii, sub_ii, mul_ii, mod_ii, fdiv_ii, pow_lit, blt_int, blt_max, blt_min, blt_abs, aug_ii, tr_bl, lt_ii, le_ii, gt_ii, ge_ii, eq_ii, ne_ii, trim_p0, if_true, Bool.not_true, Bool.not_false, Bool.false_eq_true, if_false, R.tr_ok_bl, gOf_call, mkT_p2, len_t, sz1, sz2, sz3, sz4, sz6, D.items, hg0, hg1, hg2, hg3, hs0, hs1, hs2, hs3, hl1, hl2, hl3, hl4, List.append_assoc, List.cons_append, List.nil_append, List.append_nil, mk, pairUp, List.map_cons, List.map_nil, List.length_cons, List.length_nil, List.replicate, Nat.zero_le, gOf_call, meth_app he, e1, e2, m3, ap, tl]
theorem jD_ok {h0 : Hh} {N : List P} {a e : Nat} (gr : Grow h0 h b l) (st : Std h b l a N) (hN : ∀ x ∈ N, x ∈ N6) (n0 : N ≠ []) (fN : N.length ≤ 6) {great : Int} (hg : great = 1 ∨ great = big) (he : h[e]? = some (.lst [])) (e0 : h0.length ≤ e) (eb : e ≠ b) (el : e ≠ l) (ea : e ≠ a) {B' C : SH} {Q : D → Hh → Prop} :
    Pv.Run (evS (gO F k) jD [some (.r b), some (.r a), some (.p (.int great)), some (.r e), a4, a5] h)
      (fun s h' => ∃ E a4 a5, NetIn E ∧ s = [some (.r b), some (.r a), some (.p (.int great)), some (.r e), a4, a5] ∧ Grow h0 h' b l ∧ h'[e]? = some (.lst (E.map fun x => .p (litP x)))) B' C Q := by
  obtain ⟨v, h1, hv, n1, e1⟩ := take0 (p := prg) (F := F) (k := k + 4) (t := 3) rfl st.bag (many := 15) (by decide) (by decide)
  have it := rng1_ok (g := gO F k) (a := .call 3 (.cons (.v 0) (.cons (.c (.int 15)) .nil))) (s := [some (.r b), some (.r a), some (.p (.int great)), some (.r e), a4, a5]) (h := h) (h1 := h1) (n := v) (by simp only [evSs, evS.eq_1, evS.eq_2, evS.eq_3, evS.eq_4, evS.eq_5, evS.eq_6, evS.eq_7, evS.eq_10, evS.eq_11, evS.eq_12, evS.eq_13, evS.eq_14, evE.eq_1, evE.eq_2, evE.eq_3, evE.eq_4, evE.eq_5, evE.eq_6, evE.eq_7, evE.eq_8, evE.eq_9, evE.eq_10, evE.eq_11, evE.eq_12, evE.eq_13, evE.eq_14, evE.eq_15, evE.eq_16, evE.eq_17, evE.eq_18, evE.eq_19, evE.eq_21, evE.eq_22, evE.eq_23, evE.eq_24, evE.eq_25, evE.eq_26,  evEs, evO, evTs, evI, asgT, asgTs, slot, startD, R.of_some, R.of_none, R.bind_ok, R.bind_stuck, R.then_ok, RS.seq_next, RS.seq_ret, RS.seq_brk, RS.seq_cont, List.getElem?_cons_zero, List.getElem?_cons_succ, List.set_cons_zero, List.set_cons_succ, List.set_set, add_ii, sub_ii, mul_ii, mod_ii, fdiv_ii, pow_lit, blt_int, blt_max, blt_min, blt_abs, aug_ii, tr_bl, lt_ii, le_ii, gt_ii, ge_ii, eq_ii, ne_ii, trim_p0, if_true, Bool.not_true, Bool.not_false, Bool.false_eq_true, if_false, R.tr_ok_bl, gOf_call, mkT_p2, len_t, sz1, sz2, sz3, sz4, sz6, D.items, gOf_call, e1]) (by omega)
  unfold jD
  rw [evS.eq_9, it, R.then_ok]
  dsimp only
  refine loopS_run (fun i s h' => ∃ E a4 a5, E.length = i ∧ (∀ x ∈ E, (x.1 ∈ N6 ∧ x.2.1 ∈ N6) ∧ -(8 * big) ≤ x.2.2 ∧ x.2.2 ≤ 8 * big) ∧ s = [some (.r b), some (.r a), some (.p (.int great)), some (.r e), a4, a5] ∧ Grow h0 h' b l ∧ Std h' b l a N ∧ h'[e]? = some (.lst (E.map fun x => .p (litP x))))
    _ _ (nums 0 v) ?_ ?_ _ 0 _ _ List.drop_zero ⟨[], a4, a5, rfl, (fun _ z => by cases z), rfl, gr.next n1, st.next n1, by rw [n1.get eb]; exact he⟩ (Nat.zero_le _)
  · rintro i d s h' hd ⟨E, a4, a5, hi, hE, rfl, gr', st', he'⟩
    have iv : i < v := by
      have := get_lt' hd
      rwa [numsLen] at this
    obtain ⟨c, h2, hc, n2, ec⟩ := jC_ok (F := F) (k := k) (a1 := some (.r a)) (a3 := some (.r e)) (a4 := some d) (a5 := a5) st'.bag hg
    obtain ⟨x, h3, x1, x2, x3, gr3, st3, l3, he3, ev⟩ := jA_ok (F := F) (k := k) (a2 := some (.p (.int great))) (a4 := some d) (gr'.next n2) (st'.next n2) n0 fN (c := c) (E := E) (by omega) (by rw [n2.get eb]; exact he') e0 eb el ea
    have l2 : h3.length = h'.length := by rw [l3, n2.length]
    refine ⟨rfl, ?_⟩
    simp only [asgT, List.set_cons_succ, List.set_cons_zero, R.then_ok, evSs, ec, RS.seq_next, ev]
    exact ⟨E ++ [x], _, _, by simp [hi], fun y hy => by
      rcases List.mem_append.mp hy with hy | hy
      · exact hE y hy
      · rw [List.mem_singleton.mp hy]; exact ⟨⟨hN _ x1, hN _ x2⟩, by rw [x3]; exact hc⟩, rfl, by rw [trimS_same l2]; exact gr3, by rw [trimS_same l2]; exact st3, by rw [trimS_same l2]; exact he3⟩
  · rintro s h' ⟨E, a4, a5, hi, hE, rfl, gr', st', he'⟩
    rw [numsLen] at hi
    exact ⟨rfl, E, a4, a5, ⟨fun x hx => (hE x hx).1, fun x hx => (hE x hx).2, by omega⟩, rfl, gr', he'⟩
/-- a net is drawn -/
theorem net_ok (B : Bag h b l) : ∃ (E : List Lt) (h1 : Hh), NetIn E ∧ Next h h1 b l ∧ callN prg F (k + 7) 7 [.r b] h = .ok (.p (netP E)) h1 := by
  rw [show k + 7 = (k + 5) + 2 from rfl, call_eq (fd := f7) rfl rfl]
  have lb := B.lt.1
  have ll := B.lt.2
  obtain ⟨d, h2, e, E, net, rfl, gr⟩ : ∃ d h2, evSs (gO F k) f7.body (startD f7.ns [.r b]) h = .ret d h2 ∧ ∃ E, NetIn E ∧ d = .p (netP E) ∧ Grow h h2 b l := by
    refine run_ret ?_
    rw [f7_eq]
    show Ru (evSs (gO F k) (.cons jN (.cons jG (.cons jE (.cons jD (.cons jR .nil))))) [some (.r b), none, none, none, none, none] h) _ _
    obtain ⟨N, h1, hN, n0, fN, x1, e1⟩ := jN_ok (F := F) (k := k) (a1 := none) (a2 := none) (a3 := none) (a4 := none) (a5 := none) B
    have l1 := x1.length
    have st1 : Std (h1 ++ [.lst (N.map .p)]) b l h.length N := ⟨x1.bag.app _, by rw [← l1]; exact hg0 h1 _ [], by omega⟩
    have gr1 : Grow h (h1 ++ [.lst (N.map .p)]) b l := ((Grow.refl B).next x1).app _
    rw [evSs, e1, RS.seq_next, evSs]
    obtain ⟨great, h2, hg, x2, e2⟩ := jG_ok (F := F) (k := k) (a1 := some (.r h.length)) (a2 := none) (a3 := none) (a4 := none) (a5 := none) st1.bag
    have st2 := st1.next x2
    have gr2 := gr1.next x2
    have l2 := x2.length
    rw [hl1] at l2
    rw [e2, RS.seq_next, evSs]
    have e3 : evS (gO F k) jE [some (.r b), some (.r h.length), some (.p (.int great)), none, none, none] h2 = .next [some (.r b), some (.r h.length), some (.p (.int great)), some (.r h2.length), none, none] (h2 ++ [.lst []]) := by
      unfold jE
      simp only [evSs, evS.eq_1, evS.eq_2, evS.eq_3, evS.eq_4, evS.eq_5, evS.eq_6, evS.eq_7, evS.eq_10, evS.eq_11, evS.eq_12, evS.eq_13, evS.eq_14, evE.eq_1, evE.eq_2, evE.eq_3, evE.eq_4, evE.eq_5, evE.eq_6, evE.eq_7, evE.eq_8, evE.eq_9, evE.eq_10, evE.eq_11, evE.eq_12, evE.eq_13, evE.eq_14, evE.eq_15, evE.eq_16, evE.eq_17, evE.eq_18, evE.eq_19, evE.eq_21, evE.eq_22, evE.eq_23, evE.eq_24, evE.eq_25, evE.eq_26,  evEs, evO, evTs, evI, asgT, asgTs, slot, startD, R.of_some, R.of_none, R.bind_ok, R.bind_stuck, R.then_ok, RS.seq_next, RS.seq_ret, RS.seq_brk, RS.seq_cont, List.getElem?_cons_zero, List.getElem?_cons_succ, List.set_cons_zero, List.set_cons_succ, List.set_set, add_ii, sub_ii, mul_ii, mod_ii, fdiv_ii, pow_lit, blt_int, blt_max, blt_min, blt_abs, aug_ii, tr_bl, lt_ii, le_ii, gt_ii, ge_ii, eq_ii, ne_ii, trim_p0, if_true, Bool.not_true, Bool.not_false, Bool.false_eq_true, if_false, R.tr_ok_bl, gOf_call, mkT_p2, len_t, sz1, sz2, sz3, sz4, sz6, D.items, mk, List.length_nil, Nat.zero_le]
    rw [e3, RS.seq_next, evSs]
    refine Run.seq (jD_ok (F := F) (k := k) (gr2.app [.lst []]) (st2.app [.lst []]) hN n0 fN hg (e := h2.length) (hg0 h2 _ []) (by omega) (by omega) (by omega) (by omega)) ?_
    rintro s h4 ⟨E, a4, a5, net, rfl, gr4, ge⟩
    have lo : lstOf h4 (.r h2.length) = some ((E.map litP).map .p) := by
      simp only [lstOf, ge]
      rw [List.map_map]
      rfl
    have tu : bltS .tuple [.r h2.length] h4 = .ok (.p (netP E)) h4 := by
      simp only [bltS, lo, mkT_map]
      rfl
    rw [evSs]
    unfold jR
    simp only [evSs, evS.eq_1, evS.eq_2, evS.eq_3, evS.eq_4, evS.eq_5, evS.eq_6, evS.eq_7, evS.eq_10, evS.eq_11, evS.eq_12, evS.eq_13, evS.eq_14, evE.eq_1, evE.eq_2, evE.eq_3, evE.eq_4, evE.eq_5, evE.eq_6, evE.eq_7, evE.eq_8, evE.eq_9, evE.eq_10, evE.eq_11, evE.eq_12, evE.eq_13, evE.eq_14, evE.eq_15, evE.eq_16, evE.eq_17, evE.eq_18, evE.eq_19, evE.eq_21, evE.eq_22, evE.eq_23, evE.eq_24, evE.eq_25, evE.eq_26,  evEs, evO, evTs, evI, asgT, asgTs, slot, startD, R.of_some, R.of_none, R.bind_ok, R.bind_stuck, R.then_ok, RS.seq_next, RS.seq_ret, RS.seq_brk, RS.seq_cont, List.getElem?_cons_zero, List.getElem?_cons_succ, List.set_cons_zero, List.set_cons_succ, List.set_set, add_ii, sub_ii, mul_ii, mod_ii, fdiv_ii, pow_lit, blt_int, blt_max, blt_min, blt_abs, aug_ii, tr_bl, lt_ii, le_ii, gt_ii, ge_ii, eq_ii, ne_ii, trim_p0, if_true, Bool.not_true, Bool.not_false, Bool.false_eq_true, if_false, R.tr_ok_bl, gOf_call, mkT_p2, len_t, sz1, sz2, sz3, sz4, sz6, D.items, tu]
    exact ⟨E, net, rfl, gr4⟩
  obtain ⟨h3, nx, tm⟩ := gr.trim B (netP E)
  exact ⟨E, h3, net, nx, by
    have e' : evSs (gOf prg F (callN prg F (k + 5 + 1)) (callN prg F (k + 5))) f7.body (startD f7.ns [.r b]) h = .ret (.p (netP E)) h2 := e
    rw [e']
    exact tm⟩
end
end L20

/-! K20 b: _law_is_ring. -/
namespace L20
open PySem L2 Pv Net

def rIf1 : IS := (.ite (.trim (.or (.not (.isi (.v 1) .tuple)) (.or (.cmp .eq (.v 1) (.tup .nil)) (.cmp .ne (.blt .len (.cons (.blt .set (.cons (.v 1) .nil)) .nil)) (.blt .len (.cons (.v 1) .nil)))))) (.cons (.ret (.c (.bl false))) .nil) .nil)
theorem dedup_same : ∀ (ps acc : List P), (acc ++ ps).Nodup → dedup acc ps = acc ++ ps
  | [], acc, _ => by simp [dedup]
  | p :: ps, acc, nd => by
    have nm : ¬ p ∈ acc := fun z => by
      have := List.nodup_append.mp nd
      exact this.2.2 p z p List.mem_cons_self rfl
    have c : acc.contains p = false := by
      cases q : acc.contains p with
      | false => rfl
      | true => exact absurd (List.contains_iff_mem.mp q) nm
    rw [dedup, c]
    simp only [Bool.false_eq_true, if_false]
    rw [dedup_same ps (acc ++ [p]) (by simpa using nd)]
    simp
section
variable {F k : Nat} {h : Hh} {E : List Lt} {is : List Nat} {a2 a3 a4 a5 a6 a7 a8 : Option D} {g : G}
def idxP (is : List Nat) : List P := is.map fun (i : Nat) => P.int (i : Int)
theorem rIf1_ok (ne : is ≠ []) (nd : is.Nodup) (few : is.length < 1000) : evS g rIf1 [some (.p (netP E)), some (.p (.tup (idxP is))), a2, a3, a4, a5, a6, a7, a8] h = .next [some (.p (netP E)), some (.p (.tup (idxP is))), a2, a3, a4, a5, a6, a7, a8] h := by
  have ln : (idxP is).length = is.length := List.length_map _
  have ndp : (idxP is).Nodup := by
    unfold idxP
    refine List.Pairwise.map _ (fun x y n e => n ?_) nd
    injection e with e
    omega
  have lf : ((idxP is).all P.leaf) = true := List.all_eq_true.mpr fun x hx => by
    obtain ⟨i, _, rfl⟩ := List.mem_map.mp hx
    rfl
  have fit : P.fits (idxP is) = true := by
    unfold idxP
    clear ne nd few ln ndp lf
    induction is with
    | nil => rfl
    | cons i is ih => simp only [List.map_cons, P.fits, P.fit, ih, Bool.and_self]
  have dp : P.depths (idxP is) = 0 := by
    unfold idxP
    clear ne nd few ln ndp lf fit
    induction is with
    | nil => rfl
    | cons i is ih => simp [P.depths, P.depth, ih]
  have ev : P.eqvs (idxP is) [] = false := by
    cases is with
    | nil => exact absurd rfl ne
    | cons i is => simp [idxP, P.eqvs]
  have eq : ∀ h : Hh, eqO h (.p (.tup (idxP is))) (.p (.tup [])) = some false := fun h => by
    unfold eqO
    dsimp only
    rw [if_pos ⟨by simp only [P.depth, dp]; omega, by decide, by simp only [P.fit, fit], rfl⟩, P.eqv, ev]
  have st : bltS .set [.p (.tup (idxP is))] h = .ok (.r h.length) (h ++ [.set (idxP is)]) := by
    have s1 : seqOf h (.p (.tup (idxP is))) = some ((idxP is).map .p) := rfl
    simp only [bltS, s1, pures_map]
    rw [if_pos ⟨lf, by rw [ln]; omega⟩, dedup_same _ _ (by simpa using ndp)]
    rfl
  have l1 : bltS .len [.r h.length] (h ++ [.set (idxP is)]) = .ok (.p (.int is.length)) (h ++ [.set (idxP is)]) := by
    simp only [bltS, lenOf, hg0, ln]
    rfl
  have l2 : ∀ h : Hh, bltS .len [.p (.tup (idxP is))] h = .ok (.p (.int is.length)) h := fun h => by
    simp only [bltS, lenOf, ln]
    rfl
  have ty : ∀ h : Hh, tyOf h (.p (.tup (idxP is))) = some .tuple := fun _ => rfl
  have tp := trim_pb h [.set (idxP is)] (.bl false)
  have tp' : trimR h (.ok (.p (.bl false)) (h ++ [.set (idxP is)])) = .ok (.p (.bl false)) h := tp
  have m0 : mkT [] = .p (.tup []) := rfl
  have nn : decide ((is.length : Int) = is.length) = true := decide_eq_true rfl
  unfold rIf1
  simp only [evSs, evS.eq_1, evS.eq_2, evS.eq_3, evS.eq_4, evS.eq_5, evS.eq_6, evS.eq_7, evS.eq_10, evS.eq_11, evS.eq_12, evS.eq_13, evS.eq_14, evE.eq_1, evE.eq_2, evE.eq_3, evE.eq_4, evE.eq_5, evE.eq_6, evE.eq_7, evE.eq_8, evE.eq_9, evE.eq_10, evE.eq_11, evE.eq_12, evE.eq_13, evE.eq_14, evE.eq_15, evE.eq_16, evE.eq_17, evE.eq_18, evE.eq_19, evE.eq_21, evE.eq_22, evE.eq_23, evE.eq_24, evE.eq_25, evE.eq_26,  evEs, evO, evTs, evI, asgT, asgTs, slot, startD, R.of_some, R.of_none, R.bind_ok, R.bind_stuck, R.then_ok, RS.seq_next, RS.seq_ret, RS.seq_brk, RS.seq_cont, List.getElem?_cons_zero, List.getElem?_cons_succ, List.set_cons_zero, List.set_cons_succ, List.set_set, add_ii, sub_ii, mul_ii, mod_ii, fdiv_ii, pow_lit, blt_int, blt_max, blt_min, blt_abs, aug_ii, tr_bl, lt_ii, le_ii, gt_ii, ge_ii, eq_ii, ne_ii, trim_p0, if_true, Bool.not_true, Bool.not_false, Bool.false_eq_true, if_false, R.tr_ok_bl, gOf_call, mkT_p2, len_t, sz1, sz2, sz3, sz4, sz6, D.items, hg0, hg1, hg2, hg3, hs0, hs1, hs2, hs3, hl1, hl2, hl3, hl4, List.append_assoc, List.cons_append, List.nil_append, List.append_nil, mk, pairUp, List.map_cons, List.map_nil, List.length_cons, List.length_nil, List.replicate, Nat.zero_le, ty, Option.map_some, tyIs, truth_bl, m0, cmp_eq, eq, st, l1, l2, decide_true, tp']
end
section
variable {F k : Nat} {h : Hh} {E : List Lt} {is : List Nat} {g : G}
theorem comp_pure {own : List Nat} {elt : IE} {t : ITg} {it : IIt} {ifs : IEs} {s : Sg} {ds : List D} {gd : Gd} (f : D → Option D) (hi : evI g it s h = .ok (ds, gd) h) (gok : ∀ a, gd.ok (h ++ [.lst a]) = true)
    (hb : ∀ d ∈ ds, ∀ a, bodyC g own t ifs elt s d (h ++ [.lst a]) = .ok (f d) (h ++ [.lst a])) (few : ds.length ≤ sizeLine) :
    evE g (.comp own elt t it ifs) s h = .ok (.r h.length) (h ++ [.lst (ds.filterMap f)]) := by
  have lp := loopC_map h gd (bodyC g own t ifs elt s) f gok ds [] hb (by rw [List.length_nil]; omega)
  rw [List.nil_append] at lp
  rw [comp_eq, hi, R.bind_ok]
  dsimp only
  rw [lp, R.bind_ok]
theorem walk_tup {s : Sg} {i : Nat} {xs : List P} (hs : slot i s = some (.p (.tup xs))) : evI g (.of (.v i)) s h = .ok (xs.map .p, []) h := by
  rw [evI, evE, hs]
  rfl
theorem none_map {ds : List D} {f : D → Option D} (hf : ∀ d ∈ ds, f d = none) : ds.filterMap f = [] := by
  rw [List.filterMap_eq_nil_iff]
  exact hf
theorem eqO_nils {i j : Nat} (hi : h[i]? = some (.lst [])) (hj : h[j]? = some (.lst [])) : eqO h (.r i) (.r j) = some true := by
  have s : ∀ j : Nat, h[j]? = some (.lst []) → see 64 h (.r j) = some (.list []) := fun j e => by
    rw [see, e]
    rfl
  simp only [eqO, s i hi, s j hj]
  rfl
theorem len_net (h : Hh) : bltS .len [.p (netP E)] h = .ok (.p (.int E.length)) h := by
  simp only [bltS, lenOf, netP, List.length_map]
  rfl
def rIf2 : IS := (.ite (.trim (.cmp .ne (.comp [4] (.v 4) (.v 4) (.of (.v 1)) (.cons (.or (.not (.isi (.v 4) .int)) (.or (.cmp .lt (.v 4) (.c (.int 0))) (.cmp .ge (.v 4) (.blt .len (.cons (.v 0) .nil))))) .nil)) (.lst .nil))) (.cons (.ret (.c (.bl false))) .nil) .nil)
theorem rIf2_ok {a2 a3 a4 a5 a6 a7 a8 : Option D} (few : is.length < 1000) (lt : ∀ i ∈ is, i < E.length) : evS g rIf2 [some (.p (netP E)), some (.p (.tup (idxP is))), a2, a3, a4, a5, a6, a7, a8] h = .next [some (.p (netP E)), some (.p (.tup (idxP is))), a2, a3, a4, a5, a6, a7, a8] h := by
  have ln : (idxP is).length = is.length := List.length_map _
  have cp := comp_pure (g := g) (h := h) (own := [4]) (elt := .v 4) (t := .v 4) (it := .of (.v 1)) (ifs := .cons (.or (.not (.isi (.v 4) .int)) (.or (.cmp .lt (.v 4) (.c (.int 0))) (.cmp .ge (.v 4) (.blt .len (.cons (.v 0) .nil))))) .nil)
    (s := [some (.p (netP E)), some (.p (.tup (idxP is))), a2, a3, a4, a5, a6, a7, a8]) (fun _ => none) (walk_tup rfl) (fun _ => rfl) (fun d hd a => by
      obtain ⟨x, hx, rfl⟩ := List.mem_map.mp hd
      obtain ⟨i, hi, rfl⟩ := List.mem_map.mp hx
      have l0 : decide ((i : Int) < 0) = false := decide_eq_false (by omega)
      have l1 : decide ((E.length : Int) ≤ (i : Int)) = false := decide_eq_false (by have := lt i hi; omega)
      have ty : ∀ h : Hh, tyOf h (.p (.int (i : Int))) = some .int := fun _ => rfl
      simp only [bodyC, evSs, evS.eq_1, evS.eq_2, evS.eq_3, evS.eq_4, evS.eq_5, evS.eq_6, evS.eq_7, evS.eq_10, evS.eq_11, evS.eq_12, evS.eq_13, evS.eq_14, evE.eq_1, evE.eq_2, evE.eq_3, evE.eq_4, evE.eq_5, evE.eq_6, evE.eq_7, evE.eq_8, evE.eq_9, evE.eq_10, evE.eq_11, evE.eq_12, evE.eq_13, evE.eq_14, evE.eq_15, evE.eq_16, evE.eq_17, evE.eq_18, evE.eq_19, evE.eq_21, evE.eq_22, evE.eq_23, evE.eq_24, evE.eq_25, evE.eq_26,  evEs, evO, evTs, evI, asgT, asgTs, slot, startD, R.of_some, R.of_none, R.bind_ok, R.bind_stuck, R.then_ok, RS.seq_next, RS.seq_ret, RS.seq_brk, RS.seq_cont, List.getElem?_cons_zero, List.getElem?_cons_succ, List.set_cons_zero, List.set_cons_succ, List.set_set, add_ii, sub_ii, mul_ii, mod_ii, fdiv_ii, pow_lit, blt_int, blt_max, blt_min, blt_abs, aug_ii, tr_bl, lt_ii, le_ii, gt_ii, ge_ii, eq_ii, ne_ii, trim_p0, if_true, Bool.not_true, Bool.not_false, Bool.false_eq_true, if_false, R.tr_ok_bl, gOf_call, mkT_p2, len_t, sz1, sz2, sz3, sz4, sz6, D.items, hg0, hg1, hg2, hg3, hs0, hs1, hs2, hs3, hl1, hl2, hl3, hl4, List.append_assoc, List.cons_append, List.nil_append, List.append_nil, mk, pairUp, List.map_cons, List.map_nil, List.length_cons, List.length_nil, List.replicate, Nat.zero_le, wipeD, ty, Option.map_some, tyIs, truth_bl, l0, l1, len_net]) (by rw [List.length_map, ln, sizeLine_v]; omega)
  rw [none_map (fun _ _ => rfl)] at cp
  have eq := eqO_nils (h := h ++ [.lst [], .lst []]) (i := h.length) (j := h.length + 1) (hg0 h _ _) (hg1 h _ _ _)
  have tp : trimR h (.ok (.p (.bl false)) (h ++ [.lst [], .lst []])) = .ok (.p (.bl false)) h := trim_pb h _ (.bl false)
  unfold rIf2
  simp only [evSs, evS.eq_1, evS.eq_2, evS.eq_3, evS.eq_4, evS.eq_5, evS.eq_6, evS.eq_7, evS.eq_10, evS.eq_11, evS.eq_12, evS.eq_13, evS.eq_14, evE.eq_1, evE.eq_2, evE.eq_3, evE.eq_4, evE.eq_5, evE.eq_6, evE.eq_7, evE.eq_8, evE.eq_9, evE.eq_10, evE.eq_11, evE.eq_12, evE.eq_13, evE.eq_14, evE.eq_15, evE.eq_16, evE.eq_17, evE.eq_18, evE.eq_19, evE.eq_21, evE.eq_22, evE.eq_23, evE.eq_24, evE.eq_25, evE.eq_26,  evEs, evO, evTs, evI, asgT, asgTs, slot, startD, R.of_some, R.of_none, R.bind_ok, R.bind_stuck, R.then_ok, RS.seq_next, RS.seq_ret, RS.seq_brk, RS.seq_cont, List.getElem?_cons_zero, List.getElem?_cons_succ, List.set_cons_zero, List.set_cons_succ, List.set_set, add_ii, sub_ii, mul_ii, mod_ii, fdiv_ii, pow_lit, blt_int, blt_max, blt_min, blt_abs, aug_ii, tr_bl, lt_ii, le_ii, gt_ii, ge_ii, eq_ii, ne_ii, trim_p0, if_true, Bool.not_true, Bool.not_false, Bool.false_eq_true, if_false, R.tr_ok_bl, gOf_call, mkT_p2, len_t, sz1, sz2, sz3, sz4, sz6, D.items, hg0, hg1, hg2, hg3, hs0, hs1, hs2, hs3, hl1, hl2, hl3, hl4, List.append_assoc, List.cons_append, List.nil_append, List.append_nil, mk, pairUp, List.map_cons, List.map_nil, List.length_cons, List.length_nil, List.replicate, Nat.zero_le, cp, cmp_ne, eq, Option.map_some, tp]
end
end L20

/-! K20 c: _law_is_ring, to its end. -/
namespace L20
open PySem L2 Pv Net

theorem chain_adj {E : List Lt} : ∀ {es : List Lt} {a b : P}, Chain E a es b → ∀ (k : Nat) (e' : Lt), es[k]? = some e' → (k = 0 → e'.1 = a) ∧ ∀ e, 0 < k → es[k - 1]? = some e → e'.1 = e.2.1
  | [], _, _, _, _, _, g => by cases g
  | e :: es, a, b, h, 0, e', g => by
    simp only [List.getElem?_cons_zero, Option.some.injEq] at g
    subst g
    exact ⟨fun _ => h.2.1, fun _ z => absurd z (by omega)⟩
  | e :: es, a, b, h, k + 1, e', g => by
    rw [List.getElem?_cons_succ] at g
    obtain ⟨h1, h2⟩ := chain_adj h.2.2 k e' g
    refine ⟨fun z => absurd z (by omega), fun e0 _ g0 => ?_⟩
    cases k with
    | zero =>
      simp only [Nat.zero_add, Nat.sub_self, List.getElem?_cons_zero, Option.some.injEq] at g0
      subst g0
      exact h1 rfl
    | succ k =>
      rw [show k + 1 + 1 - 1 = k + 1 from rfl, List.getElem?_cons_succ] at g0
      exact h2 e0 (by omega) g0
theorem chain_last {E : List Lt} : ∀ {es : List Lt} {a b : P}, Chain E a es b → ∀ e, es[es.length - 1]? = some e → e.2.1 = b
  | [], _, _, _, _, g => by cases g
  | [e], a, b, h, e', g => by
    simp only [List.length_singleton, Nat.sub_self, List.getElem?_cons_zero, Option.some.injEq] at g
    subst g
    exact h.2.2
  | e :: e2 :: es, a, b, h, e', g => by
    rw [show (e :: e2 :: es).length - 1 = (e2 :: es).length - 1 + 1 from by simp, List.getElem?_cons_succ] at g
    exact chain_last h.2.2 e' g
/-- what the law asks of a ring -/
structure RingL (E : List Lt) (is : List Nat) : Prop where
  lt : ∀ i ∈ is, i < E.length
  len : (lits E is).length = is.length
  ne : is ≠ []
  nd : is.Nodup
  adj : ∀ k e e', (lits E is)[k]? = some e' → (lits E is)[if k = 0 then (lits E is).length - 1 else k - 1]? = some e → e'.1 = e.2.1
  neg : wt (lits E is) < 0
theorem ringL {E : List Lt} {L : P → Option Nat} {W : P → Int} {T : P → Nat} {b : P} {post : List P} (p : Prd E W L T) (tr : Tr E L (b :: post) b) (nd : (b :: post).Nodup) (neg : wt (lits E ((b :: post).map (ix L))) < 0) : RingL E ((b :: post).map (ix L)) := by
  obtain ⟨c1, _, c3⟩ := back_chain p (Tr.back tr)
  refine ⟨fun i hi => ?_, c3, by simp, ix_nodup p tr nd, fun k e e' g g' => ?_, neg⟩
  · obtain ⟨v, hv, rfl⟩ := List.mem_map.mp hi
    have : ∀ {vs : List P} {x : P}, Tr E L vs x → v ∈ vs → ix L v < E.length := by
      intro vs
      induction vs with
      | nil => intro _ _ h; cases h
      | cons w vs ih =>
        intro x t h
        rcases List.mem_cons.mp h with rfl | h
        · obtain ⟨j, e, hj, he, _⟩ := t.1
          unfold ix
          rw [hj]
          exact (List.getElem?_eq_some_iff.mp he).1
        · exact ih t.2 h
    exact this tr hv
  · obtain ⟨h1, h2⟩ := chain_adj c1 k e' g
    by_cases q : k = 0
    · rw [if_pos q] at g'
      rw [h1 q]
      exact (chain_last c1 e g').symm
    · rw [if_neg q] at g'
      exact h2 e (by omega) g'
section
variable {F k : Nat} {h : Hh} {E : List Lt} {is : List Nat} {g : G}
def rGet : IS := .asg (.v 2) (.comp [4] (.sub (.v 0) (.v 4)) (.v 4) (.of (.v 1)) .nil)
def rowsO (es : List Lt) : O := .lst (es.map fun e => .p (litP e))
theorem rGet_ok (r : RingL E is) (few : is.length < 1000) {a2 a3 a4 a5 a6 a7 a8 : Option D} : evS g rGet [some (.p (netP E)), some (.p (.tup (idxP is))), a2, a3, a4, a5, a6, a7, a8] h =
    .next [some (.p (netP E)), some (.p (.tup (idxP is))), some (.r h.length), a3, a4, a5, a6, a7, a8] (h ++ [rowsO (lits E is)]) := by
  have ln : (idxP is).length = is.length := List.length_map _
  have cp := comp_pure (g := g) (h := h) (own := [4]) (elt := .sub (.v 0) (.v 4)) (t := .v 4) (it := .of (.v 1)) (ifs := .nil)
    (s := [some (.p (netP E)), some (.p (.tup (idxP is))), a2, a3, a4, a5, a6, a7, a8]) (fun d => match d with
      | .p (.int i) => (E[i.toNat]?).map fun e => .p (litP e)
      | _ => none) (walk_tup rfl) (fun _ => rfl) (fun d hd a => by
      obtain ⟨x, hx, rfl⟩ := List.mem_map.mp hd
      obtain ⟨i, hi, rfl⟩ := List.mem_map.mp hx
      obtain ⟨e, gi⟩ : ∃ e, E[i]? = some e := ⟨_, List.getElem?_eq_getElem (r.lt i hi)⟩
      have sb : ∀ h : Hh, subS (.p (netP E)) (.p (.int (i : Int))) h = .ok (.p (litP e)) h := fun h => by
        unfold netP
        rw [subS_t, Pv.atI_nat, List.getElem?_map, gi]
        rfl
      simp only [bodyC, evSs, evS.eq_1, evS.eq_2, evS.eq_3, evS.eq_4, evS.eq_5, evS.eq_6, evS.eq_7, evS.eq_10, evS.eq_11, evS.eq_12, evS.eq_13, evS.eq_14, evE.eq_1, evE.eq_2, evE.eq_3, evE.eq_4, evE.eq_5, evE.eq_6, evE.eq_7, evE.eq_8, evE.eq_9, evE.eq_10, evE.eq_11, evE.eq_12, evE.eq_13, evE.eq_14, evE.eq_15, evE.eq_16, evE.eq_17, evE.eq_18, evE.eq_19, evE.eq_21, evE.eq_22, evE.eq_23, evE.eq_24, evE.eq_25, evE.eq_26,  evEs, evO, evTs, evI, asgT, asgTs, slot, startD, R.of_some, R.of_none, R.bind_ok, R.bind_stuck, R.then_ok, RS.seq_next, RS.seq_ret, RS.seq_brk, RS.seq_cont, List.getElem?_cons_zero, List.getElem?_cons_succ, List.set_cons_zero, List.set_cons_succ, List.set_set, add_ii, sub_ii, mul_ii, mod_ii, fdiv_ii, pow_lit, blt_int, blt_max, blt_min, blt_abs, aug_ii, tr_bl, lt_ii, le_ii, gt_ii, ge_ii, eq_ii, ne_ii, trim_p0, if_true, Bool.not_true, Bool.not_false, Bool.false_eq_true, if_false, R.tr_ok_bl, gOf_call, mkT_p2, len_t, sz1, sz2, sz3, sz4, sz6, D.items, hg0, hg1, hg2, hg3, hs0, hs1, hs2, hs3, hl1, hl2, hl3, hl4, List.append_assoc, List.cons_append, List.nil_append, List.append_nil, mk, pairUp, List.map_cons, List.map_nil, List.length_cons, List.length_nil, List.replicate, Nat.zero_le, wipeD, sb, Int.toNat_natCast, gi, Option.map_some]) (by rw [List.length_map, ln, sizeLine_v]; omega)
  have fm : ((idxP is).map D.p).filterMap (fun d => match d with
      | .p (.int i) => (E[i.toNat]?).map fun e => D.p (litP e)
      | _ => none) = (lits E is).map fun e => .p (litP e) := by
    unfold idxP lits
    clear cp ln few r
    induction is with
    | nil => rfl
    | cons i is ih =>
      simp only [List.map_cons, List.filterMap_cons, Int.toNat_natCast]
      cases E[i]? with
      | none => exact ih
      | some e => simp only [Option.map_some, List.map_cons, ih]
  rw [fm] at cp
  unfold rGet
  simp only [evSs, evS.eq_1, evS.eq_2, evS.eq_3, evS.eq_4, evS.eq_5, evS.eq_6, evS.eq_7, evS.eq_10, evS.eq_11, evS.eq_12, evS.eq_13, evS.eq_14, evE.eq_1, evE.eq_2, evE.eq_3, evE.eq_4, evE.eq_5, evE.eq_6, evE.eq_7, evE.eq_8, evE.eq_9, evE.eq_10, evE.eq_11, evE.eq_12, evE.eq_13, evE.eq_14, evE.eq_15, evE.eq_16, evE.eq_17, evE.eq_18, evE.eq_19, evE.eq_21, evE.eq_22, evE.eq_23, evE.eq_24, evE.eq_25, evE.eq_26,  evEs, evO, evTs, evI, asgT, asgTs, slot, startD, R.of_some, R.of_none, R.bind_ok, R.bind_stuck, R.then_ok, RS.seq_next, RS.seq_ret, RS.seq_brk, RS.seq_cont, List.getElem?_cons_zero, List.getElem?_cons_succ, List.set_cons_zero, List.set_cons_succ, List.set_set, add_ii, sub_ii, mul_ii, mod_ii, fdiv_ii, pow_lit, blt_int, blt_max, blt_min, blt_abs, aug_ii, tr_bl, lt_ii, le_ii, gt_ii, ge_ii, eq_ii, ne_ii, trim_p0, if_true, Bool.not_true, Bool.not_false, Bool.false_eq_true, if_false, R.tr_ok_bl, gOf_call, mkT_p2, len_t, sz1, sz2, sz3, sz4, sz6, D.items, cp]
  rfl
def rApart : IS := .asg (.v 3) (.comp [5] (.v 5) (.v 5) (.rng1 (.blt .len (.cons (.v 2) .nil))) (.cons (.cmp .ne (.sub (.sub (.v 2) (.v 5)) (.c (.int 0))) (.sub (.sub (.v 2) (.bin .sub (.v 5) (.c (.int 1)))) (.c (.int 1)))) .nil))
theorem atI_back {α : Type} (xs : List α) (k : Nat) (hk : k < xs.length) : atI xs ((k : Int) - 1) = xs[if k = 0 then xs.length - 1 else k - 1]? := by
  by_cases q : k = 0
  · subst q
    have e : ixN xs.length (((0 : Nat) : Int) - 1) = some (xs.length - 1) := by
      unfold ixN
      rw [if_neg (by omega), if_pos (by omega)]
      congr 1
      omega
    unfold atI
    rw [e]
    rfl
  · rw [if_neg q, show ((k : Int) - 1) = ((k - 1 : Nat) : Int) from by omega, Pv.atI_nat]
theorem rApart_ok (ok : NetOk E) (r : RingL E is) (few : is.length < 1000) {a3 a4 a5 a6 a7 a8 : Option D} : evS g rApart [some (.p (netP E)), some (.p (.tup (idxP is))), some (.r h.length), a3, a4, a5, a6, a7, a8] (h ++ [rowsO (lits E is)]) =
    .next [some (.p (netP E)), some (.p (.tup (idxP is))), some (.r h.length), some (.r (h.length + 1)), a4, a5, a6, a7, a8] (h ++ [rowsO (lits E is), .lst []]) := by
  have ln := r.len
  have lo : ∀ t : Hh, lstOf (h ++ rowsO (lits E is) :: t) (.r h.length) = some ((lits E is).map fun e => .p (litP e)) := fun t => by
    simp only [lstOf, hg0, rowsO]
  have le : bltS .len [.r h.length] (h ++ [rowsO (lits E is)]) = .ok (.p (.int (is.length : Nat))) (h ++ [rowsO (lits E is)]) := by
    have : lenOf (h ++ [rowsO (lits E is)]) (.r h.length) = some is.length := by
      simp only [lenOf, hg0, rowsO, List.length_map, ln]
    simp only [bltS, this]
    rfl
  have it := rng1_ok (g := g) (a := .blt .len (.cons (.v 2) .nil)) (s := [some (.p (netP E)), some (.p (.tup (idxP is))), some (.r h.length), a3, a4, a5, a6, a7, a8]) (h := h ++ [rowsO (lits E is)]) (h1 := h ++ [rowsO (lits E is)]) (n := is.length) (by simp only [evSs, evS.eq_1, evS.eq_2, evS.eq_3, evS.eq_4, evS.eq_5, evS.eq_6, evS.eq_7, evS.eq_10, evS.eq_11, evS.eq_12, evS.eq_13, evS.eq_14, evE.eq_1, evE.eq_2, evE.eq_3, evE.eq_4, evE.eq_5, evE.eq_6, evE.eq_7, evE.eq_8, evE.eq_9, evE.eq_10, evE.eq_11, evE.eq_12, evE.eq_13, evE.eq_14, evE.eq_15, evE.eq_16, evE.eq_17, evE.eq_18, evE.eq_19, evE.eq_21, evE.eq_22, evE.eq_23, evE.eq_24, evE.eq_25, evE.eq_26,  evEs, evO, evTs, evI, asgT, asgTs, slot, startD, R.of_some, R.of_none, R.bind_ok, R.bind_stuck, R.then_ok, RS.seq_next, RS.seq_ret, RS.seq_brk, RS.seq_cont, List.getElem?_cons_zero, List.getElem?_cons_succ, List.set_cons_zero, List.set_cons_succ, List.set_set, add_ii, sub_ii, mul_ii, mod_ii, fdiv_ii, pow_lit, blt_int, blt_max, blt_min, blt_abs, aug_ii, tr_bl, lt_ii, le_ii, gt_ii, ge_ii, eq_ii, ne_ii, trim_p0, if_true, Bool.not_true, Bool.not_false, Bool.false_eq_true, if_false, R.tr_ok_bl, gOf_call, mkT_p2, len_t, sz1, sz2, sz3, sz4, sz6, D.items, le]) (by omega)
  have cp := comp_pure (g := g) (h := h ++ [rowsO (lits E is)]) (own := [5]) (elt := .v 5) (t := .v 5) (ifs := .cons (.cmp .ne (.sub (.sub (.v 2) (.v 5)) (.c (.int 0))) (.sub (.sub (.v 2) (.bin .sub (.v 5) (.c (.int 1)))) (.c (.int 1)))) .nil)
    (fun _ => none) it (fun _ => rfl) (fun d hd a => by
      obtain ⟨j, hj⟩ := List.getElem?_of_mem hd
      have hj2 := (List.getElem?_eq_some_iff.mp hj).1
      rw [numsLen] at hj2
      rw [numsAt, if_pos hj2] at hj
      cases hj
      rw [Int.zero_add]
      obtain ⟨e', g'⟩ : ∃ e', (lits E is)[j]? = some e' := ⟨_, List.getElem?_eq_getElem (by omega)⟩
      obtain ⟨e, g0⟩ : ∃ e, (lits E is)[if j = 0 then (lits E is).length - 1 else j - 1]? = some e := ⟨_, List.getElem?_eq_getElem (by split <;> omega)⟩
      have s1 : ∀ t, subS (.r h.length) (.p (.int (j : Int))) (h ++ rowsO (lits E is) :: t) = .ok (.p (litP e')) (h ++ rowsO (lits E is) :: t) := fun t => by
        rw [subS_r, lo]
        dsimp only
        rw [Pv.atI_nat, List.getElem?_map, g']
        rfl
      have s2 : ∀ t, subS (.r h.length) (.p (.int ((j : Int) - 1))) (h ++ rowsO (lits E is) :: t) = .ok (.p (litP e)) (h ++ rowsO (lits E is) :: t) := fun t => by
        rw [subS_r, lo]
        dsimp only
        rw [atI_back _ _ (by rw [List.length_map]; omega), List.length_map, List.getElem?_map, g0]
        rfl
      have f1 : ∀ h : Hh, subS (.p (litP e')) (.p (.int 0)) h = .ok (.p e'.1) h := fun _ => rfl
      have f2 : ∀ h : Hh, subS (.p (litP e)) (.p (.int 1)) h = .ok (.p e.2.1) h := fun _ => rfl
      have m1 := List.mem_of_getElem? g'
      have m2 := List.mem_of_getElem? g0
      have mE : ∀ x ∈ lits E is, x ∈ E := fun x hx => by
        obtain ⟨i, _, hi⟩ := List.mem_filterMap.mp hx
        exact List.mem_of_getElem? hi
      have q : ∀ h : Hh, eqO h (.p e'.1) (.p e.2.1) = some true := fun h => by
        rw [eqO_node (ok _ (mE _ m1)).1.node (ok _ (mE _ m2)).2.node, decide_eq_true (r.adj j e e' g' g0)]
      simp only [bodyC, evSs, evS.eq_1, evS.eq_2, evS.eq_3, evS.eq_4, evS.eq_5, evS.eq_6, evS.eq_7, evS.eq_10, evS.eq_11, evS.eq_12, evS.eq_13, evS.eq_14, evE.eq_1, evE.eq_2, evE.eq_3, evE.eq_4, evE.eq_5, evE.eq_6, evE.eq_7, evE.eq_8, evE.eq_9, evE.eq_10, evE.eq_11, evE.eq_12, evE.eq_13, evE.eq_14, evE.eq_15, evE.eq_16, evE.eq_17, evE.eq_18, evE.eq_19, evE.eq_21, evE.eq_22, evE.eq_23, evE.eq_24, evE.eq_25, evE.eq_26,  evEs, evO, evTs, evI, asgT, asgTs, slot, startD, R.of_some, R.of_none, R.bind_ok, R.bind_stuck, R.then_ok, RS.seq_next, RS.seq_ret, RS.seq_brk, RS.seq_cont, List.getElem?_cons_zero, List.getElem?_cons_succ, List.set_cons_zero, List.set_cons_succ, List.set_set, add_ii, sub_ii, mul_ii, mod_ii, fdiv_ii, pow_lit, blt_int, blt_max, blt_min, blt_abs, aug_ii, tr_bl, lt_ii, le_ii, gt_ii, ge_ii, eq_ii, ne_ii, trim_p0, if_true, Bool.not_true, Bool.not_false, Bool.false_eq_true, if_false, R.tr_ok_bl, gOf_call, mkT_p2, len_t, sz1, sz2, sz3, sz4, sz6, D.items, hg0, hg1, hg2, hg3, hs0, hs1, hs2, hs3, hl1, hl2, hl3, hl4, List.append_assoc, List.cons_append, List.nil_append, List.append_nil, mk, pairUp, List.map_cons, List.map_nil, List.length_cons, List.length_nil, List.replicate, Nat.zero_le, wipeD, s1, s2, f1, f2, cmp_ne, q, Option.map_some]) (by rw [numsLen, sizeLine_v]; omega)
  rw [none_map (fun _ _ => rfl), hl1] at cp
  unfold rApart
  simp only [evSs, evS.eq_1, evS.eq_2, evS.eq_3, evS.eq_4, evS.eq_5, evS.eq_6, evS.eq_7, evS.eq_10, evS.eq_11, evS.eq_12, evS.eq_13, evS.eq_14, evE.eq_1, evE.eq_2, evE.eq_3, evE.eq_4, evE.eq_5, evE.eq_6, evE.eq_7, evE.eq_8, evE.eq_9, evE.eq_10, evE.eq_11, evE.eq_12, evE.eq_13, evE.eq_14, evE.eq_15, evE.eq_16, evE.eq_17, evE.eq_18, evE.eq_19, evE.eq_21, evE.eq_22, evE.eq_23, evE.eq_24, evE.eq_25, evE.eq_26,  evEs, evO, evTs, evI, asgT, asgTs, slot, startD, R.of_some, R.of_none, R.bind_ok, R.bind_stuck, R.then_ok, RS.seq_next, RS.seq_ret, RS.seq_brk, RS.seq_cont, List.getElem?_cons_zero, List.getElem?_cons_succ, List.set_cons_zero, List.set_cons_succ, List.set_set, add_ii, sub_ii, mul_ii, mod_ii, fdiv_ii, pow_lit, blt_int, blt_max, blt_min, blt_abs, aug_ii, tr_bl, lt_ii, le_ii, gt_ii, ge_ii, eq_ii, ne_ii, trim_p0, if_true, Bool.not_true, Bool.not_false, Bool.false_eq_true, if_false, R.tr_ok_bl, gOf_call, mkT_p2, len_t, sz1, sz2, sz3, sz4, sz6, D.items, hg0, hg1, hg2, hg3, hs0, hs1, hs2, hs3, hl1, hl2, hl3, hl4, List.append_assoc, List.cons_append, List.nil_append, List.append_nil, mk, pairUp, List.map_cons, List.map_nil, List.length_cons, List.length_nil, List.replicate, Nat.zero_le, cp]
def rEnd : IS := .ret (.trim (.and (.cmp .eq (.v 3) (.lst .nil)) (.cmp .lt (.blt .sum (.cons (.comp [6, 7, 8] (.v 8) (.tup 3 (.cons (.v 6) (.cons (.v 7) (.cons (.v 8) .nil)))) (.of (.v 2)) .nil) .nil)) (.c (.int 0)))))
theorem asInts_map : ∀ ns : List Int, asInts (ns.map fun n => .p (.int n)) = some ns
  | [] => rfl
  | n :: ns => by simp only [List.map_cons, asInts, asInts_map ns, Option.map_some]
theorem wt_sum : ∀ es : List Lt, (es.map fun e => e.2.2).sum = wt es
  | [] => rfl
  | e :: es => by simp only [List.map_cons, List.sum_cons, wt, wt_sum es]
theorem rEnd_ok (r : RingL E is) (few : is.length < 1000) {a4 a5 a6 a7 a8 : Option D} : evS g rEnd [some (.p (netP E)), some (.p (.tup (idxP is))), some (.r h.length), some (.r (h.length + 1)), a4, a5, a6, a7, a8] (h ++ [rowsO (lits E is), .lst []]) =
    .ret (.p (.bl true)) (h ++ [rowsO (lits E is), .lst []]) := by
  have ln := r.len
  have e3 : (h ++ [rowsO (lits E is), .lst [], .lst []]).length = h.length + 3 := hl3 _ _ _ _
  have so : seqOf (h ++ [rowsO (lits E is), .lst [], .lst []]) (.r h.length) = some ((lits E is).map fun e => .p (litP e)) := by simp only [seqOf, lstOf, hg0, rowsO]
  have eq : eqO (h ++ [rowsO (lits E is), .lst [], .lst []]) (.r (h.length + 1)) (.r (h.length + 2)) = some true := eqO_nils (hg1 h _ _ _) (hg2 h _ _ _ _)
  have cp := comp_pure (g := g) (h := h ++ [rowsO (lits E is), .lst [], .lst []]) (own := [6, 7, 8]) (elt := .v 8) (t := .tup 3 (.cons (.v 6) (.cons (.v 7) (.cons (.v 8) .nil)))) (it := .of (.v 2)) (ifs := .nil)
    (s := [some (.p (netP E)), some (.p (.tup (idxP is))), some (.r h.length), some (.r (h.length + 1)), a4, a5, a6, a7, a8]) (ds := (lits E is).map fun e => .p (litP e)) (gd := [(h.length, rowsO (lits E is))])
    (fun d => match d with
      | .p (.tup [_, _, .int c]) => some (.p (.int c))
      | _ => none) (by simp only [evSs, evS.eq_1, evS.eq_2, evS.eq_3, evS.eq_4, evS.eq_5, evS.eq_6, evS.eq_7, evS.eq_10, evS.eq_11, evS.eq_12, evS.eq_13, evS.eq_14, evE.eq_1, evE.eq_2, evE.eq_3, evE.eq_4, evE.eq_5, evE.eq_6, evE.eq_7, evE.eq_8, evE.eq_9, evE.eq_10, evE.eq_11, evE.eq_12, evE.eq_13, evE.eq_14, evE.eq_15, evE.eq_16, evE.eq_17, evE.eq_18, evE.eq_19, evE.eq_21, evE.eq_22, evE.eq_23, evE.eq_24, evE.eq_25, evE.eq_26,  evEs, evO, evTs, evI, asgT, asgTs, slot, startD, R.of_some, R.of_none, R.bind_ok, R.bind_stuck, R.then_ok, RS.seq_next, RS.seq_ret, RS.seq_brk, RS.seq_cont, List.getElem?_cons_zero, List.getElem?_cons_succ, List.set_cons_zero, List.set_cons_succ, List.set_set, add_ii, sub_ii, mul_ii, mod_ii, fdiv_ii, pow_lit, blt_int, blt_max, blt_min, blt_abs, aug_ii, tr_bl, lt_ii, le_ii, gt_ii, ge_ii, eq_ii, ne_ii, trim_p0, if_true, Bool.not_true, Bool.not_false, Bool.false_eq_true, if_false, R.tr_ok_bl, gOf_call, mkT_p2, len_t, sz1, sz2, sz3, sz4, sz6, D.items, so, gdOf, hg0]) (fun a => by simp only [Gd.ok_cons, Gd.ok_nil, List.append_assoc, List.cons_append, hg0, decide_true, Bool.and_true]) (fun d hd a => by
      obtain ⟨e, he, rfl⟩ := List.mem_map.mp hd
      simp only [bodyC, wipeD, asgT, items_lit, lt3, if_true, asgTs, evSs, evS.eq_1, evS.eq_2, evS.eq_3, evS.eq_4, evS.eq_5, evS.eq_6, evS.eq_7, evS.eq_10, evS.eq_11, evS.eq_12, evS.eq_13, evS.eq_14, evE.eq_1, evE.eq_2, evE.eq_3, evE.eq_4, evE.eq_5, evE.eq_6, evE.eq_7, evE.eq_8, evE.eq_9, evE.eq_10, evE.eq_11, evE.eq_12, evE.eq_13, evE.eq_14, evE.eq_15, evE.eq_16, evE.eq_17, evE.eq_18, evE.eq_19, evE.eq_21, evE.eq_22, evE.eq_23, evE.eq_24, evE.eq_25, evE.eq_26,  evEs, evO, evTs, evI, asgT, asgTs, slot, startD, R.of_some, R.of_none, R.bind_ok, R.bind_stuck, R.then_ok, RS.seq_next, RS.seq_ret, RS.seq_brk, RS.seq_cont, List.getElem?_cons_zero, List.getElem?_cons_succ, List.set_cons_zero, List.set_cons_succ, List.set_set, add_ii, sub_ii, mul_ii, mod_ii, fdiv_ii, pow_lit, blt_int, blt_max, blt_min, blt_abs, aug_ii, tr_bl, lt_ii, le_ii, gt_ii, ge_ii, eq_ii, ne_ii, trim_p0, if_true, Bool.not_true, Bool.not_false, Bool.false_eq_true, if_false, R.tr_ok_bl, gOf_call, mkT_p2, len_t, sz1, sz2, sz3, sz4, sz6, D.items]
      rfl) (by rw [List.length_map, sizeLine_v]; omega)
  have fm : ((lits E is).map fun e => D.p (litP e)).filterMap (fun d => match d with
      | .p (.tup [_, _, .int c]) => some (D.p (.int c))
      | _ => none) = ((lits E is).map fun e => e.2.2).map fun c => .p (.int c) := by
    generalize lits E is = es
    clear cp so
    induction es with
    | nil => rfl
    | cons e es ih =>
      simp only [List.map_cons]
      rw [← ih]
      rfl
  rw [fm, e3] at cp
  have su : bltS .sum [.r (h.length + 3)] (h ++ [rowsO (lits E is), .lst [], .lst []] ++ [.lst (((lits E is).map fun e => e.2.2).map fun c => .p (.int c))]) = .ok (.p (.int (wt (lits E is)))) (h ++ [rowsO (lits E is), .lst [], .lst []] ++ [.lst (((lits E is).map fun e => e.2.2).map fun c => .p (.int c))]) := by
    have : lstOf (h ++ [rowsO (lits E is), .lst [], .lst []] ++ [.lst (((lits E is).map fun e => e.2.2).map fun c => .p (.int c))]) (.r (h.length + 3)) = some (((lits E is).map fun e => e.2.2).map fun c => .p (.int c)) := by
      simp only [List.append_assoc, List.cons_append, List.nil_append, lstOf, hg3]
    simp only [bltS, this, asInts_map, wt_sum]
  have lt : decide (wt (lits E is) < 0) = true := decide_eq_true r.neg
  have tp : trimR (h ++ [rowsO (lits E is), .lst []]) (.ok (.p (.bl true)) (h ++ [rowsO (lits E is), .lst [], .lst []] ++ [.lst (((lits E is).map fun e => e.2.2).map fun c => .p (.int c))])) = .ok (.p (.bl true)) (h ++ [rowsO (lits E is), .lst []]) := by
    have := trim_p (h ++ [rowsO (lits E is), .lst []]) [.lst [], .lst (((lits E is).map fun e => e.2.2).map fun c => .p (.int c))] (.bl true)
    simp only [List.append_assoc, List.cons_append, List.nil_append] at this ⊢
    exact this
  have e0 : h ++ [rowsO (lits E is), .lst []] ++ [.lst []] = h ++ [rowsO (lits E is), .lst [], .lst []] := by simp
  have mk0 : mk (.lst []) (h ++ [rowsO (lits E is), .lst []]) = .ok (.r (h.length + 2)) (h ++ [rowsO (lits E is), .lst [], .lst []]) := by
    simp only [mk, e0, hl2]
  unfold rEnd
  rw [evS.eq_10, evE.eq_21, evE.eq_10, evE.eq_8]
  simp only [evSs, evS.eq_1, evS.eq_2, evS.eq_3, evS.eq_4, evS.eq_5, evS.eq_6, evS.eq_7, evS.eq_10, evS.eq_11, evS.eq_12, evS.eq_13, evS.eq_14, evE.eq_1, evE.eq_2, evE.eq_3, evE.eq_4, evE.eq_5, evE.eq_6, evE.eq_7, evE.eq_8, evE.eq_9, evE.eq_10, evE.eq_11, evE.eq_12, evE.eq_13, evE.eq_14, evE.eq_15, evE.eq_16, evE.eq_17, evE.eq_18, evE.eq_19, evE.eq_21, evE.eq_22, evE.eq_23, evE.eq_24, evE.eq_25, evE.eq_26,  evEs, evO, evTs, evI, asgT, asgTs, slot, startD, R.of_some, R.of_none, R.bind_ok, R.bind_stuck, R.then_ok, RS.seq_next, RS.seq_ret, RS.seq_brk, RS.seq_cont, List.getElem?_cons_zero, List.getElem?_cons_succ, List.set_cons_zero, List.set_cons_succ, List.set_set, add_ii, sub_ii, mul_ii, mod_ii, fdiv_ii, pow_lit, blt_int, blt_max, blt_min, blt_abs, aug_ii, tr_bl, lt_ii, le_ii, gt_ii, ge_ii, eq_ii, ne_ii, trim_p0, if_true, Bool.not_true, Bool.not_false, Bool.false_eq_true, if_false, R.tr_ok_bl, gOf_call, mkT_p2, len_t, sz1, sz2, sz3, sz4, sz6, D.items, List.length_nil, Nat.zero_le, mk0, cmp_eq, eq, truth_bl, cp, su, lt, tp]
theorem isRing_ok {p : Prg} {t : Nat} (ht : p.fns[t]? = some ⟨2, 9, .cons rIf1 (.cons rIf2 (.cons rGet (.cons rApart (.cons rEnd .nil))))⟩) (ok : NetOk E) (r : RingL E is) (few : is.length < 1000) :
    callN p F (k + 2) t [.p (netP E), .p (.tup (idxP is))] h = .ok (.p (.bl true)) h := by
  rw [call_eq ht rfl]
  have e : evSs (gOf p F (callN p F (k + 1)) (callN p F k)) (.cons rIf1 (.cons rIf2 (.cons rGet (.cons rApart (.cons rEnd .nil))))) [some (.p (netP E)), some (.p (.tup (idxP is))), none, none, none, none, none, none, none] h = .ret (.p (.bl true)) (h ++ [rowsO (lits E is), .lst []]) := by
    rw [evSs, rIf1_ok r.ne r.nd few, RS.seq_next, evSs, rIf2_ok few r.lt, RS.seq_next, evSs, rGet_ok r few, RS.seq_next, evSs, rApart_ok ok r few, RS.seq_next, evSs, rEnd_ok r few, RS.seq_ret]
  show backR h (evSs _ _ [some (.p (netP E)), some (.p (.tup (idxP is))), none, none, none, none, none, none, none] h) = _
  rw [e]
  exact trim_pb _ _ _
end
end L20

/-! K20 d: _law_are_numbers. -/
namespace L20
open PySem L2 Pv Net

theorem trim_last (h t : Hh) (o : O) (u : o.under h.length = true) : trimR h (.ok (.r (h.length + t.length)) (h ++ (t ++ [o]))) = .ok (.r h.length) (h ++ [o]) := by
  have a := agree_app (t ++ [o]) h.length h
  have d : D.under h.length (.r (h.length + t.length)) = false := by simp [D.under]
  have g : (h ++ (t ++ [o]))[h.length + t.length]? = some o := by
    rw [← List.append_assoc, ← List.length_append]
    simp
  simp only [trimR, a, d, if_true, g]
  rw [if_neg (by simp), if_pos (by simp [u])]
  rw [List.take_left' rfl]
theorem unders_p (n : Nat) : ∀ ps : List P, D.unders n (ps.map .p) = true
  | [] => rfl
  | p :: ps => by simp only [List.map_cons, D.unders, D.under, unders_p n ps, Bool.and_self]
theorem dedup_fold : ∀ (ps acc : List P), dedup acc ps = ps.foldl addk acc
  | [], acc => rfl
  | p :: ps, acc => by
    rw [dedup, List.foldl_cons, dedup_fold ps]
    congr 1
    unfold addk
    by_cases q : p ∈ acc
    · rw [if_pos q, List.contains_iff_mem.mpr q, if_pos rfl]
    · have c : acc.contains p = false := by
        cases z : acc.contains p with
        | false => rfl
        | true => exact absurd (List.contains_iff_mem.mp z) q
      rw [if_neg q, c]
      rfl
/-- the names that are texts -/
def txt (ns : List P) : List P := ns.filter fun k => !isNone (.p k)
def firstP : P → P
  | .tup (k :: _) => k
  | x => x
theorem firsts_rows (ns : List P) (W : P → Int) : (rowsOf ns W).map firstP = txt ns := by
  unfold rowsOf txt
  rw [List.map_map]
  exact List.map_id _
theorem row_of {ns : List P} {W : P → Int} {x : P} (h : x ∈ rowsOf ns W) : x = .tup [firstP x, .int (W (firstP x) - W .non)] := by
  unfold rowsOf at h
  obtain ⟨k, _, rfl⟩ := List.mem_map.mp h
  rfl
theorem txt_str {E : List Lt} {ns : List P} (nm : Names E ns) {x : P} (h : x ∈ txt ns) : x ∈ ns ∧ ∃ s, x = .str s ∧ PyData.strOk s = true := by
  obtain ⟨h1, h2⟩ := List.mem_filter.mp h
  rcases nm.ok x h1 with rfl | q
  · cases h2
  · exact ⟨h1, q⟩
open PySem.Spec PyProof.Rows in
theorem lt_self (d : PyData) : PySem.W.dataLt d d = false := by simp only [PySem.W.dataLt, lex_irrefl]
theorem le_first {s t : Str} {i j : Int} (h : P.le (.tup [.str s, .int i]) (.tup [.str t, .int j]) = true) : P.le (.str s) (.str t) = true := by
  simp only [P.le, P.lt, P.py, P.pys, Bool.not_eq_true'] at h ⊢
  rw [PySem.W.dataLt_pair (by rfl) (by rfl)] at h
  split at h
  · rename_i q
    have : t = s := by simpa [PyData.eqv] using q
    rw [this]
    exact lt_self _
  · exact h
/-- the firsts of sorted rows are the sorted names -/
theorem sorted_firsts {E : List Lt} {ns : List P} (nm : Names E ns) (W : P → Int) : ((rowsOf ns W).mergeSort P.le).map firstP = (txt ns).mergeSort P.le := by
  have pm : (((rowsOf ns W).mergeSort P.le).map firstP).Perm ((txt ns).mergeSort P.le) := by
    refine ((List.mergeSort_perm _ _).map firstP).trans ?_
    rw [firsts_rows]
    exact (List.mergeSort_perm _ _).symm
  have st : ∀ x ∈ (txt ns).mergeSort P.le, ∃ s, x = .str s := fun x hx => by
    obtain ⟨_, s, e, _⟩ := txt_str nm (List.mem_mergeSort.mp hx)
    exact ⟨s, e⟩
  refine List.Perm.eq_of_pairwise (le := fun a b => P.le a b = true) (fun a b ha hb h1 h2 => ?_) ?_ (List.pairwise_mergeSort (le := P.le) le_trans le_total _) pm
  · obtain ⟨s, rfl⟩ := st b hb
    obtain ⟨t, rfl⟩ := st a (pm.mem_iff.mp ha)
    exact le_anti rfl rfl h1 h2
  · have pw := List.pairwise_mergeSort (le := P.le) le_trans le_total (rowsOf ns W)
    rw [List.pairwise_map]
    refine List.Pairwise.imp_of_mem (fun {a b} ha hb h => ?_) pw
    have ra := List.mem_mergeSort.mp ha
    have rb := List.mem_mergeSort.mp hb
    have fa : ∃ s, firstP a = .str s := by
      have : firstP a ∈ txt ns := by rw [← firsts_rows ns W]; exact List.mem_map.mpr ⟨a, ra, rfl⟩
      obtain ⟨_, s, e, _⟩ := txt_str nm this
      exact ⟨s, e⟩
    have fb : ∃ s, firstP b = .str s := by
      have : firstP b ∈ txt ns := by rw [← firsts_rows ns W]; exact List.mem_map.mpr ⟨b, rb, rfl⟩
      obtain ⟨_, s, e, _⟩ := txt_str nm this
      exact ⟨s, e⟩
    obtain ⟨s, es⟩ := fa
    obtain ⟨t, et⟩ := fb
    rw [row_of ra, row_of rb, es, et] at h
    rw [es, et]
    exact le_first h
/-- the rows, by their names -/
theorem sorted_rows {E : List Lt} {ns : List P} (nm : Names E ns) (W : P → Int) : (rowsOf ns W).mergeSort P.le = ((txt ns).mergeSort P.le).map fun k => .tup [k, .int (W k - W .non)] := by
  rw [← sorted_firsts nm W, List.map_map]
  conv => lhs; rw [← List.map_id ((rowsOf ns W).mergeSort P.le)]
  refine List.map_congr_left fun x hx => ?_
  exact row_of (List.mem_mergeSort.mp hx)
/-- the nodes of a net, as the law sorts them -/
theorem nodes_sorted {E : List Lt} {ns : List P} (nm : Names E ns) : (dedup [] ((ends E).filter fun k => !isNone (.p k))).mergeSort P.le = (txt ns).mergeSort P.le := by
  have mem : ∀ x, x ∈ dedup [] ((ends E).filter fun k => !isNone (.p k)) ↔ x ∈ txt ns := fun x => by
    rw [dedup_fold, names_mem]
    unfold txt
    rw [List.mem_filter, List.mem_filter]
    constructor
    · rintro (h | ⟨h, q⟩)
      · cases h
      · refine ⟨?_, q⟩
        unfold ends at h
        rcases List.mem_append.mp h with h | h
        · obtain ⟨e, he, rfl⟩ := List.mem_map.mp h
          exact (nm.lit e he).1
        · obtain ⟨e, he, rfl⟩ := List.mem_map.mp h
          exact (nm.lit e he).2
    · rintro ⟨h, q⟩
      refine .inr ⟨?_, q⟩
      rcases nm.only x h with rfl | ⟨e, he, rfl | rfl⟩
      · cases q
      · exact List.mem_append_left _ (List.mem_map.mpr ⟨e, he, rfl⟩)
      · exact List.mem_append_right _ (List.mem_map.mpr ⟨e, he, rfl⟩)
  have nd1 : (dedup [] ((ends E).filter fun k => !isNone (.p k))).Nodup := by
    rw [dedup_fold]
    exact names_nd _ _ List.nodup_nil
  have nd2 : (txt ns).Nodup := List.Nodup.sublist List.filter_sublist nm.nd
  refine sort_perm ((List.perm_ext_iff_of_nodup nd1 nd2).mpr mem) fun x hx => ?_
  obtain ⟨_, s, rfl, _⟩ := txt_str nm ((mem x).mp hx)
  rfl
/-- what the proof needs of the names -/
structure Qs (E : List Lt) (ns Q : List P) : Prop where
  eq : Q = (txt ns).mergeSort P.le
  nd : Q.Nodup
  str : ∀ x ∈ Q, x ∈ ns ∧ ∃ s, x = .str s ∧ PyData.strOk s = true
  all : ∀ x ∈ ns, x = .non ∨ x ∈ Q
  len : Q.length ≤ ns.length
theorem qs_ok {E : List Lt} {ns : List P} (nm : Names E ns) : Qs E ns ((txt ns).mergeSort P.le) := by
  refine ⟨rfl, ?_, fun x hx => txt_str nm (List.mem_mergeSort.mp hx), fun x hx => ?_, ?_⟩
  · exact ((List.mergeSort_perm _ _).nodup_iff).mpr (List.Nodup.sublist List.filter_sublist nm.nd)
  · rcases nm.ok x hx with rfl | ⟨s, rfl, _⟩
    · exact .inl rfl
    · exact .inr (List.mem_mergeSort.mpr (List.mem_filter.mpr ⟨hx, rfl⟩))
  · rw [List.length_mergeSort]
    exact List.length_filter_le _ _
theorem merge_wd (V : P → Int) : ∀ (Q acc : List P), (acc ++ Q).Nodup → mergeD (Wd acc V) (Q.map fun k => (k, .p (.int (V k)))) = Wd (acc ++ Q) V
  | [], acc, _ => by rw [List.append_nil]; rfl
  | k :: Q, acc, nd => by
    have nk : ¬ k ∈ acc := fun z => (List.nodup_append.mp nd).2.2 k z k List.mem_cons_self rfl
    have e := wd_new V (V k) nk
    have f : (fun y => if y = k then V k else V y) = V := funext fun y => by
      by_cases q : y = k
      · rw [if_pos q, q]
      · rw [if_neg q]
    rw [f] at e
    have ih := merge_wd V Q (acc ++ [k]) (by rw [List.append_assoc]; exact nd)
    rw [List.append_assoc] at ih
    rw [← e] at ih
    exact ih
end L20

/-! K20 e: _law_are_numbers is run. -/
namespace L20
open PySem L2 Pv Net

abbrev T3 : ITg := .tup 3 (.cons (.v 6) (.cons (.v 7) (.cons (.v 8) .nil)))
def nA : IS := .asg (.v 2) (.trim (.bin .add (.comp [6, 7, 8] (.v 6) T3 (.of (.v 0)) .nil) (.comp [6, 7, 8] (.v 7) T3 (.of (.v 0)) .nil)))
def nIf1 : IS := .ite (.trim (.not (.call 5 (.cons (.comp [5, 9] (.v 5) (.tup 2 (.cons (.v 5) (.cons (.v 9) .nil))) (.of (.v 1)) .nil) (.cons (.blt .sorted (.cons (.blt .set (.cons (.comp [5] (.v 5) (.v 5) (.of (.v 2)) (.cons (.cmp .isnot (.v 5) (.c .non)) .nil)) .nil)) .nil)) .nil))))) (.cons (.ret (.c (.bl false))) .nil) .nil
def nMake : IS := .asg (.tup 2 (.cons (.v 3) (.cons (.v 4) .nil))) (.trim (.tup (.cons (.blt .dict (.cons (.v 1) .nil)) (.cons (.blt .sum (.cons (.comp [6, 7, 8] (.blt .abs (.cons (.v 8) .nil)) T3 (.of (.v 0)) .nil) .nil)) .nil))))
def nZero : IS := .asg (.sub (.v 3) (.c .non)) (.c (.int 0))
def nFar : IE := .comp [5] (.v 5) (.v 5) (.of (.v 3)) (.cons (.or (.not (.isi (.sub (.v 3) (.v 5)) .int)) (.cmp .gt (.blt .abs (.cons (.sub (.v 3) (.v 5)) .nil)) (.v 4))) .nil)
def nIf2 : IS := .ite (.trim (.cmp .ne (.lck (.v 3) nFar) (.lst .nil))) (.cons (.ret (.c (.bl false))) .nil) .nil
def nEnd : IS := .ret (.trim (.cmp .eq (.comp [6, 7, 8] (.v 8) T3 (.of (.v 0)) (.cons (.cmp .gt (.bin .sub (.sub (.v 3) (.v 6)) (.sub (.v 3) (.v 7))) (.v 8)) .nil)) (.lst .nil)))
theorem f8_eq : f8 = ⟨2, 10, .cons nA (.cons nIf1 (.cons nMake (.cons nZero (.cons nIf2 (.cons nEnd .nil)))))⟩ := rfl
def rowK (W : P → Int) (k : P) : P := .tup [k, .int (W k - W .non)]
section
variable {F k : Nat} {h : Hh} {E : List Lt} {ns Q : List P} {W : P → Int} {g : G}
theorem net_comp {elt : IE} {ifs : IEs} {s : Sg} (hs : slot 0 s = some (.p (netP E))) (few : E.length < 1000) (f : Lt → Option P) (hb : ∀ e ∈ E, ∀ a, bodyC g [6, 7, 8] T3 ifs elt s (.p (litP e)) (h ++ [.lst a]) = .ok ((f e).map .p) (h ++ [.lst a])) :
    evE g (.comp [6, 7, 8] elt T3 (.of (.v 0)) ifs) s h = .ok (.r h.length) (h ++ [.lst ((E.filterMap f).map .p)]) := by
  have cp := comp_pure (g := g) (h := h) (own := [6, 7, 8]) (elt := elt) (t := T3) (it := .of (.v 0)) (ifs := ifs) (s := s) (fun d => match d with
      | .p (.tup [u, v, .int c]) => (f (u, v, c)).map .p
      | _ => none) (walk_tup hs) (fun _ => rfl) (fun d hd a => by
      obtain ⟨x, hx, rfl⟩ := List.mem_map.mp hd
      obtain ⟨e, he, rfl⟩ := List.mem_map.mp hx
      exact hb e he a) (by rw [List.length_map, List.length_map, sizeLine_v]; omega)
  rw [cp]
  congr 3
  congr 1
  clear cp hb hs few
  rw [List.map_map]
  induction E with
  | nil => rfl
  | cons e E ih =>
    rw [List.map_cons, List.filterMap_cons, List.filterMap_cons, ih]
    simp only [Function.comp, litP]
    cases f e <;> rfl
theorem fm_some {α β : Type} (f : α → β) : ∀ l : List α, l.filterMap (fun e => some (f e)) = l.map f
  | [] => rfl
  | x :: l => by rw [List.filterMap_cons, List.map_cons, fm_some f l]
theorem nA_ok (few : E.length < 1000) {Z : P} {a2 a3 a4 a5 a6 a7 a8 a9 : Option D} : evS g nA [some (.p (netP E)), some (.p Z), a2, a3, a4, a5, a6, a7, a8, a9] h =
    .next [some (.p (netP E)), some (.p Z), some (.r h.length), a3, a4, a5, a6, a7, a8, a9] (h ++ [.lst ((ends E).map .p)]) := by
  have c1 := net_comp (g := g) (h := h) (elt := .v 6) (ifs := .nil) (s := [some (.p (netP E)), some (.p Z), a2, a3, a4, a5, a6, a7, a8, a9]) rfl few (fun e => some e.1) (fun e _ a => by
    simp only [bodyC, wipeD, asgT, items_lit, lt3, if_true, asgTs, evSs, evS.eq_1, evS.eq_2, evS.eq_3, evS.eq_4, evS.eq_5, evS.eq_6, evS.eq_7, evS.eq_10, evS.eq_11, evS.eq_12, evS.eq_13, evS.eq_14, evE.eq_1, evE.eq_2, evE.eq_3, evE.eq_4, evE.eq_5, evE.eq_6, evE.eq_7, evE.eq_8, evE.eq_9, evE.eq_10, evE.eq_11, evE.eq_12, evE.eq_13, evE.eq_14, evE.eq_15, evE.eq_16, evE.eq_17, evE.eq_18, evE.eq_19, evE.eq_21, evE.eq_22, evE.eq_23, evE.eq_24, evE.eq_25, evE.eq_26,  evEs, evO, evTs, evI, asgT, asgTs, slot, startD, R.of_some, R.of_none, R.bind_ok, R.bind_stuck, R.then_ok, RS.seq_next, RS.seq_ret, RS.seq_brk, RS.seq_cont, List.getElem?_cons_zero, List.getElem?_cons_succ, List.set_cons_zero, List.set_cons_succ, List.set_set, add_ii, sub_ii, mul_ii, mod_ii, fdiv_ii, pow_lit, blt_int, blt_max, blt_min, blt_abs, aug_ii, tr_bl, lt_ii, le_ii, gt_ii, ge_ii, eq_ii, ne_ii, trim_p0, if_true, Bool.not_true, Bool.not_false, Bool.false_eq_true, if_false, R.tr_ok_bl, gOf_call, mkT_p2, len_t, sz1, sz2, sz3, sz4, sz6, D.items]
    rfl)
  have c2 := net_comp (g := g) (h := h ++ [.lst ((E.map fun e => e.1).map .p)]) (elt := .v 7) (ifs := .nil) (s := [some (.p (netP E)), some (.p Z), a2, a3, a4, a5, a6, a7, a8, a9]) rfl few (fun e => some e.2.1) (fun e _ a => by
    simp only [bodyC, wipeD, asgT, items_lit, lt3, if_true, asgTs, evSs, evS.eq_1, evS.eq_2, evS.eq_3, evS.eq_4, evS.eq_5, evS.eq_6, evS.eq_7, evS.eq_10, evS.eq_11, evS.eq_12, evS.eq_13, evS.eq_14, evE.eq_1, evE.eq_2, evE.eq_3, evE.eq_4, evE.eq_5, evE.eq_6, evE.eq_7, evE.eq_8, evE.eq_9, evE.eq_10, evE.eq_11, evE.eq_12, evE.eq_13, evE.eq_14, evE.eq_15, evE.eq_16, evE.eq_17, evE.eq_18, evE.eq_19, evE.eq_21, evE.eq_22, evE.eq_23, evE.eq_24, evE.eq_25, evE.eq_26,  evEs, evO, evTs, evI, asgT, asgTs, slot, startD, R.of_some, R.of_none, R.bind_ok, R.bind_stuck, R.then_ok, RS.seq_next, RS.seq_ret, RS.seq_brk, RS.seq_cont, List.getElem?_cons_zero, List.getElem?_cons_succ, List.set_cons_zero, List.set_cons_succ, List.set_set, add_ii, sub_ii, mul_ii, mod_ii, fdiv_ii, pow_lit, blt_int, blt_max, blt_min, blt_abs, aug_ii, tr_bl, lt_ii, le_ii, gt_ii, ge_ii, eq_ii, ne_ii, trim_p0, if_true, Bool.not_true, Bool.not_false, Bool.false_eq_true, if_false, R.tr_ok_bl, gOf_call, mkT_p2, len_t, sz1, sz2, sz3, sz4, sz6, D.items]
    rfl)
  rw [fm_some (fun e : Lt => e.1)] at c1
  rw [fm_some (fun e : Lt => e.2.1)] at c2
  rw [hl1] at c2
  simp only [List.append_assoc, List.cons_append, List.nil_append] at c2
  have ad : binS .add (.r h.length) (.r (h.length + 1)) (h ++ [.lst ((E.map fun e => e.1).map .p), .lst ((E.map fun e => e.2.1).map .p)]) = .ok (.r (h.length + 2)) (h ++ [.lst ((E.map fun e => e.1).map .p), .lst ((E.map fun e => e.2.1).map .p), .lst ((ends E).map .p)]) := by
    simp only [binS, addS, mutOf, hg0, hg1]
    rw [if_pos (by simp only [List.length_map]; rw [sizeLine_v]; omega)]
    simp only [mk, hl2, List.append_assoc, List.cons_append, List.nil_append, ends, List.map_append]
  have tl := trim_last h [.lst ((E.map fun e => e.1).map .p), .lst ((E.map fun e => e.2.1).map .p)] (.lst ((ends E).map .p)) (unders_p _ _)
  simp only [List.length_cons, List.length_nil, List.cons_append, List.nil_append] at tl
  unfold nA
  simp only [evSs, evS.eq_1, evS.eq_2, evS.eq_3, evS.eq_4, evS.eq_5, evS.eq_6, evS.eq_7, evS.eq_10, evS.eq_11, evS.eq_12, evS.eq_13, evS.eq_14, evE.eq_1, evE.eq_2, evE.eq_3, evE.eq_4, evE.eq_5, evE.eq_6, evE.eq_7, evE.eq_8, evE.eq_9, evE.eq_10, evE.eq_11, evE.eq_12, evE.eq_13, evE.eq_14, evE.eq_15, evE.eq_16, evE.eq_17, evE.eq_18, evE.eq_19, evE.eq_21, evE.eq_22, evE.eq_23, evE.eq_24, evE.eq_25, evE.eq_26,  evEs, evO, evTs, evI, asgT, asgTs, slot, startD, R.of_some, R.of_none, R.bind_ok, R.bind_stuck, R.then_ok, RS.seq_next, RS.seq_ret, RS.seq_brk, RS.seq_cont, List.getElem?_cons_zero, List.getElem?_cons_succ, List.set_cons_zero, List.set_cons_succ, List.set_set, add_ii, sub_ii, mul_ii, mod_ii, fdiv_ii, pow_lit, blt_int, blt_max, blt_min, blt_abs, aug_ii, tr_bl, lt_ii, le_ii, gt_ii, ge_ii, eq_ii, ne_ii, trim_p0, if_true, Bool.not_true, Bool.not_false, Bool.false_eq_true, if_false, R.tr_ok_bl, gOf_call, mkT_p2, len_t, sz1, sz2, sz3, sz4, sz6, D.items, c1, c2, ad]
  rw [show h.length + 2 = h.length + (0 + 1 + 1) from rfl, tl]
  simp only [evSs, evS.eq_1, evS.eq_2, evS.eq_3, evS.eq_4, evS.eq_5, evS.eq_6, evS.eq_7, evS.eq_10, evS.eq_11, evS.eq_12, evS.eq_13, evS.eq_14, evE.eq_1, evE.eq_2, evE.eq_3, evE.eq_4, evE.eq_5, evE.eq_6, evE.eq_7, evE.eq_8, evE.eq_9, evE.eq_10, evE.eq_11, evE.eq_12, evE.eq_13, evE.eq_14, evE.eq_15, evE.eq_16, evE.eq_17, evE.eq_18, evE.eq_19, evE.eq_21, evE.eq_22, evE.eq_23, evE.eq_24, evE.eq_25, evE.eq_26,  evEs, evO, evTs, evI, asgT, asgTs, slot, startD, R.of_some, R.of_none, R.bind_ok, R.bind_stuck, R.then_ok, RS.seq_next, RS.seq_ret, RS.seq_brk, RS.seq_cont, List.getElem?_cons_zero, List.getElem?_cons_succ, List.set_cons_zero, List.set_cons_succ, List.set_set, add_ii, sub_ii, mul_ii, mod_ii, fdiv_ii, pow_lit, blt_int, blt_max, blt_min, blt_abs, aug_ii, tr_bl, lt_ii, le_ii, gt_ii, ge_ii, eq_ii, ne_ii, trim_p0, if_true, Bool.not_true, Bool.not_false, Bool.false_eq_true, if_false, R.tr_ok_bl, gOf_call, mkT_p2, len_t, sz1, sz2, sz3, sz4, sz6, D.items]
/-- a text that may be told alike, short -/
def Nice (x : P) : Prop := ∃ s, x = .str s ∧ x.nums = true ∧ s.length ≤ 100
theorem fine_names {Q : List P} (q : ∀ x ∈ Q, Nice x) (l : Q.length < 1000) : Fine (.tup Q) := by
  have h1 : P.numss Q = true ∧ P.depths Q = 0 ∧ P.ws Q ≤ 1004 * Q.length := by
    clear l
    induction Q with
    | nil => exact ⟨rfl, rfl, Nat.le_refl _⟩
    | cons x Q ih =>
      obtain ⟨s, rfl, n, l⟩ := q x List.mem_cons_self
      obtain ⟨i1, i2, i3⟩ := ih fun y hy => q y (List.mem_cons_of_mem _ hy)
      refine ⟨by simp only [P.numss, n, i1, Bool.and_self], by simp only [P.depths, P.depth, i2, Nat.max_self], ?_⟩
      simp only [P.ws, P.w, List.length_cons]
      omega
  refine ⟨h1.1, by simp only [P.depth, h1.2.1]; omega, ?_⟩
  have := h1.2.2
  simp only [P.w]
  rw [sizeLine_v]
  omega
theorem sortable_strs {xs : List P} (q : ∀ x ∈ xs, ∃ s, x = .str s) : sortable xs = true := by
  unfold sortable
  simp only [Bool.and_eq_true, Bool.or_eq_true, List.all_eq_true, decide_eq_true_eq]
  refine ⟨⟨fun x hx y hy => ?_, .inr fun x hx => ?_⟩, fun x hx => ?_⟩
  · obtain ⟨s, rfl⟩ := q x hx
    obtain ⟨t, rfl⟩ := q y hy
    rfl
  · obtain ⟨s, rfl⟩ := q x hx
    rfl
  · obtain ⟨s, rfl⟩ := q x hx
    exact Nat.zero_le _
theorem nIf1_ok (nm : Names E ns) (qs : Qs E ns Q) (nice : ∀ x ∈ Q, Nice x) (few : E.length < 400) {a3 a4 a5 a6 a7 a8 a9 : Option D} :
    evS (gOf prg F (callN prg F (k + 2)) (callN prg F (k + 1))) nIf1 [some (.p (netP E)), some (.p (.tup (Q.map (rowK W)))), some (.r h.length), a3, a4, a5, a6, a7, a8, a9] (h ++ [.lst ((ends E).map .p)]) =
    .next [some (.p (netP E)), some (.p (.tup (Q.map (rowK W)))), some (.r h.length), a3, a4, a5, a6, a7, a8, a9] (h ++ [.lst ((ends E).map .p)]) := by
  have nsl := nm.few
  have ql := qs.len
  have el : (ends E).length = 2 * E.length := by unfold ends; rw [List.length_append, List.length_map, List.length_map]; omega
  have c1 := comp_pure (g := gOf prg F (callN prg F (k + 2)) (callN prg F (k + 1))) (h := h ++ [.lst ((ends E).map .p)]) (own := [5, 9]) (elt := .v 5) (t := .tup 2 (.cons (.v 5) (.cons (.v 9) .nil))) (it := .of (.v 1)) (ifs := .nil)
    (s := [some (.p (netP E)), some (.p (.tup (Q.map (rowK W)))), some (.r h.length), a3, a4, a5, a6, a7, a8, a9]) (fun d => match d with
      | .p (.tup [x, _]) => some (.p x)
      | _ => none) (walk_tup rfl) (fun _ => rfl) (fun d hd a => by
      obtain ⟨x, hx, rfl⟩ := List.mem_map.mp hd
      obtain ⟨y, hy, rfl⟩ := List.mem_map.mp hx
      have it : D.items (.p (rowK W y)) = some [.p y, .p (.int (W y - W .non))] := rfl
      have l2 : ([.p y, .p (.int (W y - W .non))] : List D).length = 2 := rfl
      simp only [bodyC, wipeD, asgT, it, l2, if_true, asgTs, evSs, evS.eq_1, evS.eq_2, evS.eq_3, evS.eq_4, evS.eq_5, evS.eq_6, evS.eq_7, evS.eq_10, evS.eq_11, evS.eq_12, evS.eq_13, evS.eq_14, evE.eq_1, evE.eq_2, evE.eq_3, evE.eq_4, evE.eq_5, evE.eq_6, evE.eq_7, evE.eq_8, evE.eq_9, evE.eq_10, evE.eq_11, evE.eq_12, evE.eq_13, evE.eq_14, evE.eq_15, evE.eq_16, evE.eq_17, evE.eq_18, evE.eq_19, evE.eq_21, evE.eq_22, evE.eq_23, evE.eq_24, evE.eq_25, evE.eq_26,  evEs, evO, evTs, evI, asgT, asgTs, slot, startD, R.of_some, R.of_none, R.bind_ok, R.bind_stuck, R.then_ok, RS.seq_next, RS.seq_ret, RS.seq_brk, RS.seq_cont, List.getElem?_cons_zero, List.getElem?_cons_succ, List.set_cons_zero, List.set_cons_succ, List.set_set, add_ii, sub_ii, mul_ii, mod_ii, fdiv_ii, pow_lit, blt_int, blt_max, blt_min, blt_abs, aug_ii, tr_bl, lt_ii, le_ii, gt_ii, ge_ii, eq_ii, ne_ii, trim_p0, if_true, Bool.not_true, Bool.not_false, Bool.false_eq_true, if_false, R.tr_ok_bl, gOf_call, mkT_p2, len_t, sz1, sz2, sz3, sz4, sz6, D.items]
      rfl) (by rw [List.length_map, List.length_map, sizeLine_v]; omega)
  have fm1 : ((Q.map (rowK W)).map D.p).filterMap (fun d => match d with
      | .p (.tup [x, _]) => some (D.p x)
      | _ => none) = Q.map .p := by
    rw [List.map_map, List.filterMap_map]
    exact fm_some (fun x => D.p x) Q
  rw [fm1, hl1] at c1
  simp only [List.append_assoc, List.cons_append, List.nil_append] at c1
  have so : seqOf (h ++ [.lst ((ends E).map .p), .lst (Q.map .p)]) (.r h.length) = some ((ends E).map .p) := by simp only [seqOf, lstOf, hg0]
  have c2 := comp_pure (g := gOf prg F (callN prg F (k + 2)) (callN prg F (k + 1))) (h := h ++ [.lst ((ends E).map .p), .lst (Q.map .p)]) (own := [5]) (elt := .v 5) (t := .v 5) (it := .of (.v 2)) (ifs := .cons (.cmp .isnot (.v 5) (.c .non)) .nil)
    (s := [some (.p (netP E)), some (.p (.tup (Q.map (rowK W)))), some (.r h.length), a3, a4, a5, a6, a7, a8, a9]) (ds := (ends E).map .p) (gd := [(h.length, .lst ((ends E).map .p))]) (fun d => if isNone d then none else some d) (by simp only [evSs, evS.eq_1, evS.eq_2, evS.eq_3, evS.eq_4, evS.eq_5, evS.eq_6, evS.eq_7, evS.eq_10, evS.eq_11, evS.eq_12, evS.eq_13, evS.eq_14, evE.eq_1, evE.eq_2, evE.eq_3, evE.eq_4, evE.eq_5, evE.eq_6, evE.eq_7, evE.eq_8, evE.eq_9, evE.eq_10, evE.eq_11, evE.eq_12, evE.eq_13, evE.eq_14, evE.eq_15, evE.eq_16, evE.eq_17, evE.eq_18, evE.eq_19, evE.eq_21, evE.eq_22, evE.eq_23, evE.eq_24, evE.eq_25, evE.eq_26,  evEs, evO, evTs, evI, asgT, asgTs, slot, startD, R.of_some, R.of_none, R.bind_ok, R.bind_stuck, R.then_ok, RS.seq_next, RS.seq_ret, RS.seq_brk, RS.seq_cont, List.getElem?_cons_zero, List.getElem?_cons_succ, List.set_cons_zero, List.set_cons_succ, List.set_set, add_ii, sub_ii, mul_ii, mod_ii, fdiv_ii, pow_lit, blt_int, blt_max, blt_min, blt_abs, aug_ii, tr_bl, lt_ii, le_ii, gt_ii, ge_ii, eq_ii, ne_ii, trim_p0, if_true, Bool.not_true, Bool.not_false, Bool.false_eq_true, if_false, R.tr_ok_bl, gOf_call, mkT_p2, len_t, sz1, sz2, sz3, sz4, sz6, D.items, so, gdOf, hg0]) (fun a => by simp only [Gd.ok_cons, Gd.ok_nil, List.append_assoc, List.cons_append, hg0, decide_true, Bool.and_true]) (fun d hd a => by
      by_cases q : isNone d = true
      · simp only [bodyC, wipeD, cmpS, q, evSs, evS.eq_1, evS.eq_2, evS.eq_3, evS.eq_4, evS.eq_5, evS.eq_6, evS.eq_7, evS.eq_10, evS.eq_11, evS.eq_12, evS.eq_13, evS.eq_14, evE.eq_1, evE.eq_2, evE.eq_3, evE.eq_4, evE.eq_5, evE.eq_6, evE.eq_7, evE.eq_8, evE.eq_9, evE.eq_10, evE.eq_11, evE.eq_12, evE.eq_13, evE.eq_14, evE.eq_15, evE.eq_16, evE.eq_17, evE.eq_18, evE.eq_19, evE.eq_21, evE.eq_22, evE.eq_23, evE.eq_24, evE.eq_25, evE.eq_26,  evEs, evO, evTs, evI, asgT, asgTs, slot, startD, R.of_some, R.of_none, R.bind_ok, R.bind_stuck, R.then_ok, RS.seq_next, RS.seq_ret, RS.seq_brk, RS.seq_cont, List.getElem?_cons_zero, List.getElem?_cons_succ, List.set_cons_zero, List.set_cons_succ, List.set_set, add_ii, sub_ii, mul_ii, mod_ii, fdiv_ii, pow_lit, blt_int, blt_max, blt_min, blt_abs, aug_ii, tr_bl, lt_ii, le_ii, gt_ii, ge_ii, eq_ii, ne_ii, trim_p0, if_true, Bool.not_true, Bool.not_false, Bool.false_eq_true, if_false, R.tr_ok_bl, gOf_call, mkT_p2, len_t, sz1, sz2, sz3, sz4, sz6, D.items]
      · have q : isNone d = false := by simpa using q
        simp only [bodyC, wipeD, cmpS, q, evSs, evS.eq_1, evS.eq_2, evS.eq_3, evS.eq_4, evS.eq_5, evS.eq_6, evS.eq_7, evS.eq_10, evS.eq_11, evS.eq_12, evS.eq_13, evS.eq_14, evE.eq_1, evE.eq_2, evE.eq_3, evE.eq_4, evE.eq_5, evE.eq_6, evE.eq_7, evE.eq_8, evE.eq_9, evE.eq_10, evE.eq_11, evE.eq_12, evE.eq_13, evE.eq_14, evE.eq_15, evE.eq_16, evE.eq_17, evE.eq_18, evE.eq_19, evE.eq_21, evE.eq_22, evE.eq_23, evE.eq_24, evE.eq_25, evE.eq_26,  evEs, evO, evTs, evI, asgT, asgTs, slot, startD, R.of_some, R.of_none, R.bind_ok, R.bind_stuck, R.then_ok, RS.seq_next, RS.seq_ret, RS.seq_brk, RS.seq_cont, List.getElem?_cons_zero, List.getElem?_cons_succ, List.set_cons_zero, List.set_cons_succ, List.set_set, add_ii, sub_ii, mul_ii, mod_ii, fdiv_ii, pow_lit, blt_int, blt_max, blt_min, blt_abs, aug_ii, tr_bl, lt_ii, le_ii, gt_ii, ge_ii, eq_ii, ne_ii, trim_p0, if_true, Bool.not_true, Bool.not_false, Bool.false_eq_true, if_false, R.tr_ok_bl, gOf_call, mkT_p2, len_t, sz1, sz2, sz3, sz4, sz6, D.items]) (by rw [List.length_map, sizeLine_v]; omega)
  have fm2 : ((ends E).map D.p).filterMap (fun d => if isNone d then none else some d) = ((ends E).filter fun k => !isNone (.p k)).map .p := by
    generalize ends E = xs
    clear c1 c2 so el
    induction xs with
    | nil => rfl
    | cons x xs ih =>
      by_cases q : isNone (.p x) = true
      · simp only [List.map_cons, List.filterMap_cons, q, if_true, ih, List.filter_cons, Bool.not_true, Bool.false_eq_true, if_false]
      · have q : isNone (.p x) = false := by simpa using q
        simp only [List.map_cons, List.filterMap_cons, q, Bool.false_eq_true, if_false, ih, List.filter_cons, Bool.not_false, if_true]
  rw [fm2, hl2] at c2
  simp only [List.append_assoc, List.cons_append, List.nil_append] at c2
  have fl : ((ends E).filter fun k => !isNone (.p k)).length ≤ 2 * E.length := by rw [← el]; exact List.length_filter_le _ _
  have txs : ∀ x ∈ (ends E).filter (fun k => !isNone (.p k)), ∃ s, x = .str s := fun x hx => by
    obtain ⟨h1, h2⟩ := List.mem_filter.mp hx
    have : x ∈ ns := by
      unfold ends at h1
      rcases List.mem_append.mp h1 with h | h
      · obtain ⟨e, he, rfl⟩ := List.mem_map.mp h
        exact (nm.lit e he).1
      · obtain ⟨e, he, rfl⟩ := List.mem_map.mp h
        exact (nm.lit e he).2
    rcases nm.ok x this with rfl | ⟨s, rfl, _⟩
    · cases h2
    · exact ⟨s, rfl⟩
  have dm : ∀ x ∈ dedup [] ((ends E).filter fun k => !isNone (.p k)), x ∈ (ends E).filter (fun k => !isNone (.p k)) := fun x hx => by
    rw [dedup_fold, names_mem] at hx
    rcases hx with hx | hx
    · cases hx
    · exact hx
  have st : bltS .set [.r (h.length + 2)] (h ++ [.lst ((ends E).map .p), .lst (Q.map .p), .lst (((ends E).filter fun k => !isNone (.p k)).map .p)]) = .ok (.r (h.length + 3)) (h ++ [.lst ((ends E).map .p), .lst (Q.map .p), .lst (((ends E).filter fun k => !isNone (.p k)).map .p), .set (dedup [] ((ends E).filter fun k => !isNone (.p k)))]) := by
    have s1 : seqOf (h ++ [.lst ((ends E).map .p), .lst (Q.map .p), .lst (((ends E).filter fun k => !isNone (.p k)).map .p)]) (.r (h.length + 2)) = some (((ends E).filter fun k => !isNone (.p k)).map .p) := by simp only [seqOf, lstOf, hg2]
    simp only [bltS, s1, pures_map]
    rw [if_pos ⟨List.all_eq_true.mpr fun x hx => by obtain ⟨s, rfl⟩ := txs x hx; rfl, by omega⟩]
    simp only [mk, hl3, List.append_assoc, List.cons_append, List.nil_append]
  have sr : bltS .sorted [.r (h.length + 3)] (h ++ [.lst ((ends E).map .p), .lst (Q.map .p), .lst (((ends E).filter fun k => !isNone (.p k)).map .p), .set (dedup [] ((ends E).filter fun k => !isNone (.p k)))]) = .ok (.r (h.length + 4)) (h ++ [.lst ((ends E).map .p), .lst (Q.map .p), .lst (((ends E).filter fun k => !isNone (.p k)).map .p), .set (dedup [] ((ends E).filter fun k => !isNone (.p k))), .lst (Q.map .p)]) := by
    have s0 : lstOf (h ++ [.lst ((ends E).map .p), .lst (Q.map .p), .lst (((ends E).filter fun k => !isNone (.p k)).map .p), .set (dedup [] ((ends E).filter fun k => !isNone (.p k)))]) (.r (h.length + 3)) = none := by simp only [lstOf, hg3]
    have s1 : setOf (h ++ [.lst ((ends E).map .p), .lst (Q.map .p), .lst (((ends E).filter fun k => !isNone (.p k)).map .p), .set (dedup [] ((ends E).filter fun k => !isNone (.p k)))]) (.r (h.length + 3)) = some (dedup [] ((ends E).filter fun k => !isNone (.p k))) := by simp only [setOf, hg3]
    simp only [bltS, s0, s1]
    rw [if_pos ⟨sortable_strs fun x hx => txs x (dm x hx), List.all_eq_true.mpr fun x hx => by obtain ⟨s, rfl⟩ := txs x (dm x hx); rfl⟩, nodes_sorted nm, ← qs.eq]
    simp only [mk, hl4, List.append_assoc, List.cons_append, List.nil_append]
  have g4 : ∀ (a b c d e : O), (h ++ [a, b, c, d, e])[h.length + 4]? = some e := fun a b c d e => by simp
  have al := alike_ps (p := prg) (F := F) (k := k) (t := 5) rfl (i := h.length + 1) (j := h.length + 4) (fine_names nice (by omega)) (hg1 h (.lst ((ends E).map .p)) (.lst (Q.map .p)) [.lst (((ends E).filter fun k => !isNone (.p k)).map .p), .set (dedup [] ((ends E).filter fun k => !isNone (.p k))), .lst (Q.map .p)]) (g4 _ _ _ _ _)
  have tp : trimR (h ++ [.lst ((ends E).map .p)]) (.ok (.p (.bl false)) (h ++ [.lst ((ends E).map .p), .lst (Q.map .p), .lst (((ends E).filter fun k => !isNone (.p k)).map .p), .set (dedup [] ((ends E).filter fun k => !isNone (.p k))), .lst (Q.map .p)])) = .ok (.p (.bl false)) (h ++ [.lst ((ends E).map .p)]) := by
    have := trim_p (h ++ [.lst ((ends E).map .p)]) [.lst (Q.map .p), .lst (((ends E).filter fun k => !isNone (.p k)).map .p), .set (dedup [] ((ends E).filter fun k => !isNone (.p k))), .lst (Q.map .p)] (.bl false)
    simp only [List.append_assoc, List.cons_append, List.nil_append] at this ⊢
    exact this
  unfold nIf1
  simp only [evSs, evS.eq_1, evS.eq_2, evS.eq_3, evS.eq_4, evS.eq_5, evS.eq_6, evS.eq_7, evS.eq_10, evS.eq_11, evS.eq_12, evS.eq_13, evS.eq_14, evE.eq_1, evE.eq_2, evE.eq_3, evE.eq_4, evE.eq_5, evE.eq_6, evE.eq_7, evE.eq_8, evE.eq_9, evE.eq_10, evE.eq_11, evE.eq_12, evE.eq_13, evE.eq_14, evE.eq_15, evE.eq_16, evE.eq_17, evE.eq_18, evE.eq_19, evE.eq_21, evE.eq_22, evE.eq_23, evE.eq_24, evE.eq_25, evE.eq_26,  evEs, evO, evTs, evI, asgT, asgTs, slot, startD, R.of_some, R.of_none, R.bind_ok, R.bind_stuck, R.then_ok, RS.seq_next, RS.seq_ret, RS.seq_brk, RS.seq_cont, List.getElem?_cons_zero, List.getElem?_cons_succ, List.set_cons_zero, List.set_cons_succ, List.set_set, add_ii, sub_ii, mul_ii, mod_ii, fdiv_ii, pow_lit, blt_int, blt_max, blt_min, blt_abs, aug_ii, tr_bl, lt_ii, le_ii, gt_ii, ge_ii, eq_ii, ne_ii, trim_p0, if_true, Bool.not_true, Bool.not_false, Bool.false_eq_true, if_false, R.tr_ok_bl, gOf_call, mkT_p2, len_t, sz1, sz2, sz3, sz4, sz6, D.items, gOf_call, c1, c2, st, sr, al, truth_bl, tp]
end
end L20

/-! K20 f: _law_are_numbers, to its end. -/
namespace L20
open PySem L2 Pv Net

section
variable {F k : Nat} {h : Hh} {E : List Lt} {ns Q : List P} {W : P → Int} {g : G}
def absP (e : Lt) : P := .int (if e.2.2 < 0 then -e.2.2 else e.2.2)
def absO (E : List Lt) : O := .lst ((E.map absP).map .p)
def nodesO (E : List Lt) : O := .lst ((ends E).map .p)
def V0 (W : P → Int) (k : P) : Int := W k - W .non
theorem trim_t {h h' : Hh} {ds : List D} (u : D.unders h.length ds = false) : trimR h (.ok (.t ds) h') = .ok (.t ds) h' := by
  have e : D.under h.length (.t ds) = false := by rw [D.under, u]
  simp only [trimR, e, Bool.false_eq_true, if_false]
  split <;> rfl
theorem abs_sum : ∀ E : List Lt, (E.map fun e => if e.2.2 < 0 then -e.2.2 else e.2.2).sum = absS E
  | [] => rfl
  | e :: E => by simp only [List.map_cons, List.sum_cons, absS, abs_sum E]
theorem pairs_rows : ∀ Q : List P, pairsOf ((Q.map (rowK W)).map .p) = some (Q.map fun k => (k, .p (.int (V0 W k))))
  | [] => rfl
  | k :: Q => by
    rw [List.map_cons, List.map_cons, pairsOf]
    have e : D.items (.p (rowK W k)) = some [.p k, .p (.int (V0 W k))] := rfl
    rw [e, pairs_rows Q]
    rfl
theorem nMake_ok (qs : Qs E ns Q) (few : E.length < 400) {a3 a4 a5 a6 a7 a8 a9 : Option D} :
    evS g nMake [some (.p (netP E)), some (.p (.tup (Q.map (rowK W)))), some (.r h.length), a3, a4, a5, a6, a7, a8, a9] (h ++ [nodesO E]) =
    .next [some (.p (netP E)), some (.p (.tup (Q.map (rowK W)))), some (.r h.length), some (.r (h.length + 1)), some (.p (.int (absS E))), a5, a6, a7, a8, a9] (h ++ [nodesO E, .dct (Wd Q (V0 W)), absO E]) := by
  have lf : lfs (Q.map fun k => (k, D.p (.int (V0 W k)))) = true := List.all_eq_true.mpr fun x hx => by
    obtain ⟨k, hk, rfl⟩ := List.mem_map.mp hx
    obtain ⟨_, s, rfl, _⟩ := qs.str k hk
    rfl
  have mg := merge_wd (V0 W) Q [] (by simpa using qs.nd)
  have dc : bltS .dict [.p (.tup (Q.map (rowK W)))] (h ++ [nodesO E]) = .ok (.r (h.length + 1)) (h ++ [nodesO E, .dct (Wd Q (V0 W))]) := by
    have s0 : srcOf (h ++ [nodesO E]) (.p (.tup (Q.map (rowK W)))) = some ((Q.map (rowK W)).map .p) := rfl
    simp only [bltS, s0, pairs_rows]
    rw [if_pos (.inl lf)]
    have : mergeD [] (Q.map fun k => (k, D.p (.int (V0 W k)))) = Wd Q (V0 W) := mg
    rw [this]
    simp only [mk, hl1, List.append_assoc, List.cons_append, List.nil_append]
  have c1 := net_comp (g := g) (h := h ++ [nodesO E, .dct (Wd Q (V0 W))]) (elt := .blt .abs (.cons (.v 8) .nil)) (ifs := .nil) (s := [some (.p (netP E)), some (.p (.tup (Q.map (rowK W)))), some (.r h.length), a3, a4, a5, a6, a7, a8, a9]) rfl (by omega) (fun e => some (absP e)) (fun e _ a => by
    simp only [bodyC, wipeD, asgT, items_lit, lt3, if_true, asgTs, evSs, evS.eq_1, evS.eq_2, evS.eq_3, evS.eq_4, evS.eq_5, evS.eq_6, evS.eq_7, evS.eq_10, evS.eq_11, evS.eq_12, evS.eq_13, evS.eq_14, evE.eq_1, evE.eq_2, evE.eq_3, evE.eq_4, evE.eq_5, evE.eq_6, evE.eq_7, evE.eq_8, evE.eq_9, evE.eq_10, evE.eq_11, evE.eq_12, evE.eq_13, evE.eq_14, evE.eq_15, evE.eq_16, evE.eq_17, evE.eq_18, evE.eq_19, evE.eq_21, evE.eq_22, evE.eq_23, evE.eq_24, evE.eq_25, evE.eq_26,  evEs, evO, evTs, evI, asgT, asgTs, slot, startD, R.of_some, R.of_none, R.bind_ok, R.bind_stuck, R.then_ok, RS.seq_next, RS.seq_ret, RS.seq_brk, RS.seq_cont, List.getElem?_cons_zero, List.getElem?_cons_succ, List.set_cons_zero, List.set_cons_succ, List.set_set, add_ii, sub_ii, mul_ii, mod_ii, fdiv_ii, pow_lit, blt_int, blt_max, blt_min, blt_abs, aug_ii, tr_bl, lt_ii, le_ii, gt_ii, ge_ii, eq_ii, ne_ii, trim_p0, if_true, Bool.not_true, Bool.not_false, Bool.false_eq_true, if_false, R.tr_ok_bl, gOf_call, mkT_p2, len_t, sz1, sz2, sz3, sz4, sz6, D.items]
    rfl)
  rw [fm_some, hl2] at c1
  simp only [List.append_assoc, List.cons_append, List.nil_append] at c1
  have su : bltS .sum [.r (h.length + 2)] (h ++ [nodesO E, .dct (Wd Q (V0 W)), .lst ((E.map absP).map .p)]) = .ok (.p (.int (absS E))) (h ++ [nodesO E, .dct (Wd Q (V0 W)), .lst ((E.map absP).map .p)]) := by
    have e1 : lstOf (h ++ [nodesO E, .dct (Wd Q (V0 W)), .lst ((E.map absP).map .p)]) (.r (h.length + 2)) = some ((E.map absP).map .p) := by simp only [lstOf, hg2]
    have e2 : asInts ((E.map absP).map .p) = some (E.map fun e => if e.2.2 < 0 then -e.2.2 else e.2.2) := by
      rw [List.map_map]
      have := asInts_map (E.map fun e => if e.2.2 < 0 then -e.2.2 else e.2.2)
      rw [List.map_map] at this
      exact this
    simp only [bltS, e1, e2, abs_sum]
  have mt : mkT [.r (h.length + 1), .p (.int (absS E))] = .t [.r (h.length + 1), .p (.int (absS E))] := rfl
  have tm := trim_t (h := h ++ [nodesO E]) (h' := h ++ [nodesO E, .dct (Wd Q (V0 W)), .lst ((E.map absP).map .p)]) (ds := [.r (h.length + 1), .p (.int (absS E))]) (by simp [D.unders, D.under])
  have it : D.items (.t [.r (h.length + 1), .p (.int (absS E))]) = some [.r (h.length + 1), .p (.int (absS E))] := rfl
  have l2 : ([.r (h.length + 1), .p (.int (absS E))] : List D).length = 2 := rfl
  unfold nMake
  simp only [evSs, evS.eq_1, evS.eq_2, evS.eq_3, evS.eq_4, evS.eq_5, evS.eq_6, evS.eq_7, evS.eq_10, evS.eq_11, evS.eq_12, evS.eq_13, evS.eq_14, evE.eq_1, evE.eq_2, evE.eq_3, evE.eq_4, evE.eq_5, evE.eq_6, evE.eq_7, evE.eq_8, evE.eq_9, evE.eq_10, evE.eq_11, evE.eq_12, evE.eq_13, evE.eq_14, evE.eq_15, evE.eq_16, evE.eq_17, evE.eq_18, evE.eq_19, evE.eq_21, evE.eq_22, evE.eq_23, evE.eq_24, evE.eq_25, evE.eq_26,  evEs, evO, evTs, evI, asgT, asgTs, slot, startD, R.of_some, R.of_none, R.bind_ok, R.bind_stuck, R.then_ok, RS.seq_next, RS.seq_ret, RS.seq_brk, RS.seq_cont, List.getElem?_cons_zero, List.getElem?_cons_succ, List.set_cons_zero, List.set_cons_succ, List.set_set, add_ii, sub_ii, mul_ii, mod_ii, fdiv_ii, pow_lit, blt_int, blt_max, blt_min, blt_abs, aug_ii, tr_bl, lt_ii, le_ii, gt_ii, ge_ii, eq_ii, ne_ii, trim_p0, if_true, Bool.not_true, Bool.not_false, Bool.false_eq_true, if_false, R.tr_ok_bl, gOf_call, mkT_p2, len_t, sz1, sz2, sz3, sz4, sz6, D.items, dc, c1, su, mt, tm, it, l2]
  rfl
theorem nZero_ok (qs : Qs E ns Q) (few : E.length < 400) (nm : Names E ns) {a5 a6 a7 a8 a9 : Option D} {x y : D} :
    evS g nZero [some (.p (netP E)), some x, some (.r h.length), some (.r (h.length + 1)), some y, a5, a6, a7, a8, a9] (h ++ [nodesO E, .dct (Wd Q (V0 W)), absO E]) =
    .next [some (.p (netP E)), some x, some (.r h.length), some (.r (h.length + 1)), some y, a5, a6, a7, a8, a9] (h ++ [nodesO E, .dct (Wd (Q ++ [.non]) (V0 W)), absO E]) := by
  have lfW : lfs (Wd Q (V0 W)) = true := wd_lfs _ fun x hx => by
    obtain ⟨_, s, rfl, _⟩ := qs.str x hx
    rfl
  have nn : ¬ P.non ∈ Q := fun z => by
    obtain ⟨_, s, e, _⟩ := qs.str _ z
    cases e
  have ql := qs.len
  have nsl := nm.few
  have pd := put_dct (h := h ++ [nodesO E, .dct (Wd Q (V0 W)), absO E]) (i := h.length + 1) (k := .non) (.p (.int 0)) (hg1 h _ _ _) (kfit_leaf rfl lfW) (by rw [wd_len, sizeLine_v]; omega)
  have wn := wd_new (V0 W) 0 nn
  have f : (fun y => if y = P.non then 0 else V0 W y) = V0 W := funext fun y => by
    by_cases q : y = .non
    · rw [if_pos q, q]; unfold V0; omega
    · rw [if_neg q]
  rw [f] at wn
  rw [wn, hs1] at pd
  unfold nZero
  simp only [evSs, evS.eq_1, evS.eq_2, evS.eq_3, evS.eq_4, evS.eq_5, evS.eq_6, evS.eq_7, evS.eq_10, evS.eq_11, evS.eq_12, evS.eq_13, evS.eq_14, evE.eq_1, evE.eq_2, evE.eq_3, evE.eq_4, evE.eq_5, evE.eq_6, evE.eq_7, evE.eq_8, evE.eq_9, evE.eq_10, evE.eq_11, evE.eq_12, evE.eq_13, evE.eq_14, evE.eq_15, evE.eq_16, evE.eq_17, evE.eq_18, evE.eq_19, evE.eq_21, evE.eq_22, evE.eq_23, evE.eq_24, evE.eq_25, evE.eq_26,  evEs, evO, evTs, evI, asgT, asgTs, slot, startD, R.of_some, R.of_none, R.bind_ok, R.bind_stuck, R.then_ok, RS.seq_next, RS.seq_ret, RS.seq_brk, RS.seq_cont, List.getElem?_cons_zero, List.getElem?_cons_succ, List.set_cons_zero, List.set_cons_succ, List.set_set, add_ii, sub_ii, mul_ii, mod_ii, fdiv_ii, pow_lit, blt_int, blt_max, blt_min, blt_abs, aug_ii, tr_bl, lt_ii, le_ii, gt_ii, ge_ii, eq_ii, ne_ii, trim_p0, if_true, Bool.not_true, Bool.not_false, Bool.false_eq_true, if_false, R.tr_ok_bl, gOf_call, mkT_p2, len_t, sz1, sz2, sz3, sz4, sz6, D.items, pd]
theorem nIf2_ok (qs : Qs E ns Q) (few : E.length < 400) (nm : Names E ns) (far : ∀ k ∈ Q, -(absS E) ≤ V0 W k ∧ V0 W k ≤ absS E) {a5 a6 a7 a8 a9 : Option D} {x : D} :
    evS g nIf2 [some (.p (netP E)), some x, some (.r h.length), some (.r (h.length + 1)), some (.p (.int (absS E))), a5, a6, a7, a8, a9] (h ++ [nodesO E, .dct (Wd (Q ++ [.non]) (V0 W)), absO E]) =
    .next [some (.p (netP E)), some x, some (.r h.length), some (.r (h.length + 1)), some (.p (.int (absS E))), a5, a6, a7, a8, a9] (h ++ [nodesO E, .dct (Wd (Q ++ [.non]) (V0 W)), absO E]) := by
  have lfW : lfs (Wd (Q ++ [.non]) (V0 W)) = true := wd_lfs _ fun x hx => by
    rcases List.mem_append.mp hx with hx | hx
    · obtain ⟨_, s, rfl, _⟩ := qs.str x hx
      rfl
    · rw [List.mem_singleton.mp hx]; rfl
  have leaf : ∀ x ∈ Q ++ [.non], x.leaf = true := fun x hx => by
    rcases List.mem_append.mp hx with hx | hx
    · obtain ⟨_, s, rfl, _⟩ := qs.str x hx
      rfl
    · rw [List.mem_singleton.mp hx]; rfl
  have ab := absS_pos E
  have near : ∀ x ∈ Q ++ [.non], -(absS E) ≤ V0 W x ∧ V0 W x ≤ absS E := fun x hx => by
    rcases List.mem_append.mp hx with hx | hx
    · exact far x hx
    · rw [List.mem_singleton.mp hx]; unfold V0; omega
  have ql := qs.len
  have nsl := nm.few
  have pk : lckAt (peek (.v 3) [some (.p (netP E)), some x, some (.r h.length), some (.r (h.length + 1)), some (.p (.int (absS E))), a5, a6, a7, a8, a9] (h ++ [nodesO E, .dct (Wd (Q ++ [.non]) (V0 W)), absO E])) (h ++ [nodesO E, .dct (Wd (Q ++ [.non]) (V0 W)), absO E]) = some (h.length + 1, Wd (Q ++ [.non]) (V0 W)) := by
    simp only [lckAt, peek, slot, List.getElem?_cons_zero, List.getElem?_cons_succ, Option.bind_some, dmOf, hg1]
  have e1 : seqOf (h ++ [nodesO E, .lck (Wd (Q ++ [.non]) (V0 W)), absO E]) (.r (h.length + 1)) = none := by simp only [seqOf, lstOf, hg1]
  have e2 : lckOf (h ++ [nodesO E, .lck (Wd (Q ++ [.non]) (V0 W)), absO E]) (.r (h.length + 1)) = some (Wd (Q ++ [.non]) (V0 W)) := by simp only [lckOf, hg1]
  have e3 : (Wd (Q ++ [.non]) (V0 W)).map (fun kv => D.p kv.1) = (Q ++ [P.non]).map .p := by unfold Wd; rw [List.map_map]; rfl
  have c1 := comp_pure (g := g) (h := h ++ [nodesO E, .lck (Wd (Q ++ [.non]) (V0 W)), absO E]) (own := [5]) (elt := .v 5) (t := .v 5) (it := .of (.v 3)) (ifs := .cons (.or (.not (.isi (.sub (.v 3) (.v 5)) .int)) (.cmp .gt (.blt .abs (.cons (.sub (.v 3) (.v 5)) .nil)) (.v 4))) .nil)
    (s := [some (.p (netP E)), some x, some (.r h.length), some (.r (h.length + 1)), some (.p (.int (absS E))), a5, a6, a7, a8, a9]) (ds := (Q ++ [P.non]).map .p) (gd := [(h.length + 1, .lck (Wd (Q ++ [.non]) (V0 W)))]) (fun _ => none) (by simp only [evSs, evS.eq_1, evS.eq_2, evS.eq_3, evS.eq_4, evS.eq_5, evS.eq_6, evS.eq_7, evS.eq_10, evS.eq_11, evS.eq_12, evS.eq_13, evS.eq_14, evE.eq_1, evE.eq_2, evE.eq_3, evE.eq_4, evE.eq_5, evE.eq_6, evE.eq_7, evE.eq_8, evE.eq_9, evE.eq_10, evE.eq_11, evE.eq_12, evE.eq_13, evE.eq_14, evE.eq_15, evE.eq_16, evE.eq_17, evE.eq_18, evE.eq_19, evE.eq_21, evE.eq_22, evE.eq_23, evE.eq_24, evE.eq_25, evE.eq_26,  evEs, evO, evTs, evI, asgT, asgTs, slot, startD, R.of_some, R.of_none, R.bind_ok, R.bind_stuck, R.then_ok, RS.seq_next, RS.seq_ret, RS.seq_brk, RS.seq_cont, List.getElem?_cons_zero, List.getElem?_cons_succ, List.set_cons_zero, List.set_cons_succ, List.set_set, add_ii, sub_ii, mul_ii, mod_ii, fdiv_ii, pow_lit, blt_int, blt_max, blt_min, blt_abs, aug_ii, tr_bl, lt_ii, le_ii, gt_ii, ge_ii, eq_ii, ne_ii, trim_p0, if_true, Bool.not_true, Bool.not_false, Bool.false_eq_true, if_false, R.tr_ok_bl, gOf_call, mkT_p2, len_t, sz1, sz2, sz3, sz4, sz6, D.items, e1, e2, e3, gdOf, hg1]) (fun a => by simp only [Gd.ok_cons, Gd.ok_nil, List.append_assoc, List.cons_append, hg1, decide_true, Bool.and_true]) (fun d hd a => by
      obtain ⟨z, hz, rfl⟩ := List.mem_map.mp hd
      have dc : ∀ t, subS (.r (h.length + 1)) (.p z) (h ++ nodesO E :: .lck (Wd (Q ++ [.non]) (V0 W)) :: t) = .ok (.p (.int (V0 W z))) (h ++ nodesO E :: .lck (Wd (Q ++ [.non]) (V0 W)) :: t) := fun t => by
        have e : dctOf (h ++ nodesO E :: .lck (Wd (Q ++ [.non]) (V0 W)) :: t) (.r (h.length + 1)) = some (Wd (Q ++ [.non]) (V0 W)) := by simp only [dctOf, hg1]
        unfold subS
        rw [e]
        simp only [kfit_leaf (leaf z hz) lfW, if_true, wd_get (V0 W) hz]
        rfl
      have ty : ∀ (n : Int) (h : Hh), tyOf h (.p (.int n)) = some .int := fun _ _ => rfl
      have ng : decide (absS E < (if V0 W z < 0 then -V0 W z else V0 W z)) = false := decide_eq_false (by have := near z hz; split <;> omega)
      simp only [bodyC, wipeD, evSs, evS.eq_1, evS.eq_2, evS.eq_3, evS.eq_4, evS.eq_5, evS.eq_6, evS.eq_7, evS.eq_10, evS.eq_11, evS.eq_12, evS.eq_13, evS.eq_14, evE.eq_1, evE.eq_2, evE.eq_3, evE.eq_4, evE.eq_5, evE.eq_6, evE.eq_7, evE.eq_8, evE.eq_9, evE.eq_10, evE.eq_11, evE.eq_12, evE.eq_13, evE.eq_14, evE.eq_15, evE.eq_16, evE.eq_17, evE.eq_18, evE.eq_19, evE.eq_21, evE.eq_22, evE.eq_23, evE.eq_24, evE.eq_25, evE.eq_26,  evEs, evO, evTs, evI, asgT, asgTs, slot, startD, R.of_some, R.of_none, R.bind_ok, R.bind_stuck, R.then_ok, RS.seq_next, RS.seq_ret, RS.seq_brk, RS.seq_cont, List.getElem?_cons_zero, List.getElem?_cons_succ, List.set_cons_zero, List.set_cons_succ, List.set_set, add_ii, sub_ii, mul_ii, mod_ii, fdiv_ii, pow_lit, blt_int, blt_max, blt_min, blt_abs, aug_ii, tr_bl, lt_ii, le_ii, gt_ii, ge_ii, eq_ii, ne_ii, trim_p0, if_true, Bool.not_true, Bool.not_false, Bool.false_eq_true, if_false, R.tr_ok_bl, gOf_call, mkT_p2, len_t, sz1, sz2, sz3, sz4, sz6, D.items, hg0, hg1, hg2, hg3, hs0, hs1, hs2, hs3, hl1, hl2, hl3, hl4, List.append_assoc, List.cons_append, List.nil_append, List.append_nil, mk, pairUp, List.map_cons, List.map_nil, List.length_cons, List.length_nil, List.replicate, Nat.zero_le, dc, ty, Option.map_some, tyIs, truth_bl, ng]) (by rw [List.length_map, List.length_append, List.length_singleton, sizeLine_v]; omega)
  rw [none_map (fun _ _ => rfl), hl3] at c1
  simp only [List.append_assoc, List.cons_append, List.nil_append] at c1
  have ul : unlck (h.length + 1) (Wd (Q ++ [.non]) (V0 W)) (R.ok (D.r (h.length + 3)) (h ++ [nodesO E, .lck (Wd (Q ++ [.non]) (V0 W)), absO E, .lst []])) = .ok (.r (h.length + 3)) (h ++ [nodesO E, .dct (Wd (Q ++ [.non]) (V0 W)), absO E, .lst []]) := by
    simp only [unlck, unlckH, hg1, hs1, if_true]
  have lk : evE g (.lck (.v 3) nFar) [some (.p (netP E)), some x, some (.r h.length), some (.r (h.length + 1)), some (.p (.int (absS E))), a5, a6, a7, a8, a9] (h ++ [nodesO E, .dct (Wd (Q ++ [.non]) (V0 W)), absO E]) = .ok (.r (h.length + 3)) (h ++ [nodesO E, .dct (Wd (Q ++ [.non]) (V0 W)), absO E, .lst []]) := by
    rw [evE.eq_27, pk]
    dsimp only
    rw [hs1]
    unfold nFar
    rw [c1, ul]
  have g4 : ∀ (a b c d e : O), (h ++ [a, b, c, d, e])[h.length + 4]? = some e := fun a b c d e => by simp
  have eq := eqO_nils (h := h ++ [nodesO E, .dct (Wd (Q ++ [.non]) (V0 W)), absO E, .lst [], .lst []]) (i := h.length + 3) (j := h.length + 4) (hg3 h _ _ _ _ _) (g4 _ _ _ _ _)
  have mk0 : mk (.lst []) (h ++ [nodesO E, .dct (Wd (Q ++ [.non]) (V0 W)), absO E, .lst []]) = .ok (.r (h.length + 4)) (h ++ [nodesO E, .dct (Wd (Q ++ [.non]) (V0 W)), absO E, .lst [], .lst []]) := by
    simp only [mk, hl4, List.append_assoc, List.cons_append, List.nil_append]
  have tp : trimR (h ++ [nodesO E, .dct (Wd (Q ++ [.non]) (V0 W)), absO E]) (.ok (.p (.bl false)) (h ++ [nodesO E, .dct (Wd (Q ++ [.non]) (V0 W)), absO E, .lst [], .lst []])) = .ok (.p (.bl false)) (h ++ [nodesO E, .dct (Wd (Q ++ [.non]) (V0 W)), absO E]) := by
    have := trim_p (h ++ [nodesO E, .dct (Wd (Q ++ [.non]) (V0 W)), absO E]) [.lst [], .lst []] (.bl false)
    simp only [List.append_assoc, List.cons_append, List.nil_append] at this ⊢
    exact this
  unfold nIf2
  simp only [evSs, evS.eq_1, evS.eq_2, evS.eq_3, evS.eq_4, evS.eq_5, evS.eq_6, evS.eq_7, evS.eq_10, evS.eq_11, evS.eq_12, evS.eq_13, evS.eq_14, evE.eq_1, evE.eq_2, evE.eq_3, evE.eq_4, evE.eq_5, evE.eq_6, evE.eq_7, evE.eq_8, evE.eq_9, evE.eq_10, evE.eq_11, evE.eq_12, evE.eq_13, evE.eq_14, evE.eq_15, evE.eq_16, evE.eq_17, evE.eq_18, evE.eq_19, evE.eq_21, evE.eq_22, evE.eq_23, evE.eq_24, evE.eq_25, evE.eq_26,  evEs, evO, evTs, evI, asgT, asgTs, slot, startD, R.of_some, R.of_none, R.bind_ok, R.bind_stuck, R.then_ok, RS.seq_next, RS.seq_ret, RS.seq_brk, RS.seq_cont, List.getElem?_cons_zero, List.getElem?_cons_succ, List.set_cons_zero, List.set_cons_succ, List.set_set, add_ii, sub_ii, mul_ii, mod_ii, fdiv_ii, pow_lit, blt_int, blt_max, blt_min, blt_abs, aug_ii, tr_bl, lt_ii, le_ii, gt_ii, ge_ii, eq_ii, ne_ii, trim_p0, if_true, Bool.not_true, Bool.not_false, Bool.false_eq_true, if_false, R.tr_ok_bl, gOf_call, mkT_p2, len_t, sz1, sz2, sz3, sz4, sz6, D.items, lk, List.length_nil, Nat.zero_le, mk0, cmp_ne, eq, Option.map_some, tp]
theorem nEnd_ok (qs : Qs E ns Q) (few : E.length < 400) (nm : Names E ns) (feas : ∀ e ∈ E, W e.1 ≤ W e.2.1 + e.2.2) {a5 a6 a7 a8 a9 : Option D} {x : D} :
    evS g nEnd [some (.p (netP E)), some x, some (.r h.length), some (.r (h.length + 1)), some (.p (.int (absS E))), a5, a6, a7, a8, a9] (h ++ [nodesO E, .dct (Wd (Q ++ [.non]) (V0 W)), absO E]) =
    .ret (.p (.bl true)) (h ++ [nodesO E, .dct (Wd (Q ++ [.non]) (V0 W)), absO E]) := by
  have leaf : ∀ x ∈ Q ++ [.non], x.leaf = true := fun x hx => by
    rcases List.mem_append.mp hx with hx | hx
    · obtain ⟨_, s, rfl, _⟩ := qs.str x hx
      rfl
    · rw [List.mem_singleton.mp hx]; rfl
  have lfW : lfs (Wd (Q ++ [.non]) (V0 W)) = true := wd_lfs _ leaf
  have inQ : ∀ x ∈ ns, x ∈ Q ++ [.non] := fun x hx => by
    rcases qs.all x hx with rfl | h
    · exact List.mem_append_right _ (List.mem_singleton.mpr rfl)
    · exact List.mem_append_left _ h
  have dc : ∀ z ∈ ns, ∀ t, subS (.r (h.length + 1)) (.p z) (h ++ nodesO E :: .dct (Wd (Q ++ [.non]) (V0 W)) :: t) = .ok (.p (.int (V0 W z))) (h ++ nodesO E :: .dct (Wd (Q ++ [.non]) (V0 W)) :: t) := fun z hz t => by
    have e : dctOf (h ++ nodesO E :: .dct (Wd (Q ++ [.non]) (V0 W)) :: t) (.r (h.length + 1)) = some (Wd (Q ++ [.non]) (V0 W)) := by simp only [dctOf, hg1]
    unfold subS
    rw [e]
    simp only [kfit_leaf (leaf z (inQ z hz)) lfW, if_true, wd_get (V0 W) (inQ z hz)]
    rfl
  have c1 := net_comp (g := g) (h := h ++ [nodesO E, .dct (Wd (Q ++ [.non]) (V0 W)), absO E]) (elt := .v 8) (ifs := .cons (.cmp .gt (.bin .sub (.sub (.v 3) (.v 6)) (.sub (.v 3) (.v 7))) (.v 8)) .nil) (s := [some (.p (netP E)), some x, some (.r h.length), some (.r (h.length + 1)), some (.p (.int (absS E))), a5, a6, a7, a8, a9]) rfl (by omega) (fun e => none) (fun e he a => by
    have ng : decide (e.2.2 < V0 W e.1 - V0 W e.2.1) = false := decide_eq_false (by have := feas e he; unfold V0; omega)
    simp only [bodyC, wipeD, asgT, items_lit, lt3, if_true, asgTs, List.set_cons_zero, List.set_cons_succ, R.bind_ok]
    simp only [evSs, evS.eq_1, evS.eq_2, evS.eq_3, evS.eq_4, evS.eq_5, evS.eq_6, evS.eq_7, evS.eq_10, evS.eq_11, evS.eq_12, evS.eq_13, evS.eq_14, evE.eq_1, evE.eq_2, evE.eq_3, evE.eq_4, evE.eq_5, evE.eq_6, evE.eq_7, evE.eq_8, evE.eq_9, evE.eq_10, evE.eq_11, evE.eq_12, evE.eq_13, evE.eq_14, evE.eq_15, evE.eq_16, evE.eq_17, evE.eq_18, evE.eq_19, evE.eq_21, evE.eq_22, evE.eq_23, evE.eq_24, evE.eq_25, evE.eq_26,  evEs, evO, evTs, evI, asgT, asgTs, slot, startD, R.of_some, R.of_none, R.bind_ok, R.bind_stuck, R.then_ok, RS.seq_next, RS.seq_ret, RS.seq_brk, RS.seq_cont, List.getElem?_cons_zero, List.getElem?_cons_succ, List.set_cons_zero, List.set_cons_succ, List.set_set, add_ii, sub_ii, mul_ii, mod_ii, fdiv_ii, pow_lit, blt_int, blt_max, blt_min, blt_abs, aug_ii, tr_bl, lt_ii, le_ii, gt_ii, ge_ii, eq_ii, ne_ii, trim_p0, if_true, Bool.not_true, Bool.not_false, Bool.false_eq_true, if_false, R.tr_ok_bl, gOf_call, mkT_p2, len_t, sz1, sz2, sz3, sz4, sz6, D.items, hg0, hg1, hg2, hg3, hs0, hs1, hs2, hs3, hl1, hl2, hl3, hl4, List.append_assoc, List.cons_append, List.nil_append, List.append_nil, mk, pairUp, List.map_cons, List.map_nil, List.length_cons, List.length_nil, List.replicate, Nat.zero_le, dc _ (nm.lit e he).1, dc _ (nm.lit e he).2, ng, Option.map_none])
  rw [show E.filterMap (fun _ => (none : Option P)) = [] from List.filterMap_eq_nil_iff.mpr fun _ _ => rfl, hl3] at c1
  simp only [List.append_assoc, List.cons_append, List.nil_append, List.map_nil] at c1
  have g4 : ∀ (a b c d e : O), (h ++ [a, b, c, d, e])[h.length + 4]? = some e := fun a b c d e => by simp
  have eq := eqO_nils (h := h ++ [nodesO E, .dct (Wd (Q ++ [.non]) (V0 W)), absO E, .lst [], .lst []]) (i := h.length + 3) (j := h.length + 4) (hg3 h _ _ _ _ _) (g4 _ _ _ _ _)
  have mk0 : mk (.lst []) (h ++ [nodesO E, .dct (Wd (Q ++ [.non]) (V0 W)), absO E, .lst []]) = .ok (.r (h.length + 4)) (h ++ [nodesO E, .dct (Wd (Q ++ [.non]) (V0 W)), absO E, .lst [], .lst []]) := by
    simp only [mk, hl4, List.append_assoc, List.cons_append, List.nil_append]
  have tp : trimR (h ++ [nodesO E, .dct (Wd (Q ++ [.non]) (V0 W)), absO E]) (.ok (.p (.bl true)) (h ++ [nodesO E, .dct (Wd (Q ++ [.non]) (V0 W)), absO E, .lst [], .lst []])) = .ok (.p (.bl true)) (h ++ [nodesO E, .dct (Wd (Q ++ [.non]) (V0 W)), absO E]) := by
    have := trim_p (h ++ [nodesO E, .dct (Wd (Q ++ [.non]) (V0 W)), absO E]) [.lst [], .lst []] (.bl true)
    simp only [List.append_assoc, List.cons_append, List.nil_append] at this ⊢
    exact this
  unfold nEnd
  simp only [evSs, evS.eq_1, evS.eq_2, evS.eq_3, evS.eq_4, evS.eq_5, evS.eq_6, evS.eq_7, evS.eq_10, evS.eq_11, evS.eq_12, evS.eq_13, evS.eq_14, evE.eq_1, evE.eq_2, evE.eq_3, evE.eq_4, evE.eq_5, evE.eq_6, evE.eq_7, evE.eq_8, evE.eq_9, evE.eq_10, evE.eq_11, evE.eq_12, evE.eq_13, evE.eq_14, evE.eq_15, evE.eq_16, evE.eq_17, evE.eq_18, evE.eq_19, evE.eq_21, evE.eq_22, evE.eq_23, evE.eq_24, evE.eq_25, evE.eq_26,  evEs, evO, evTs, evI, asgT, asgTs, slot, startD, R.of_some, R.of_none, R.bind_ok, R.bind_stuck, R.then_ok, RS.seq_next, RS.seq_ret, RS.seq_brk, RS.seq_cont, List.getElem?_cons_zero, List.getElem?_cons_succ, List.set_cons_zero, List.set_cons_succ, List.set_set, add_ii, sub_ii, mul_ii, mod_ii, fdiv_ii, pow_lit, blt_int, blt_max, blt_min, blt_abs, aug_ii, tr_bl, lt_ii, le_ii, gt_ii, ge_ii, eq_ii, ne_ii, trim_p0, if_true, Bool.not_true, Bool.not_false, Bool.false_eq_true, if_false, R.tr_ok_bl, gOf_call, mkT_p2, len_t, sz1, sz2, sz3, sz4, sz6, D.items, c1, List.length_nil, Nat.zero_le, mk0, cmp_eq, eq, tp]
theorem areNum_ok (nm : Names E ns) (qs : Qs E ns Q) (nice : ∀ x ∈ Q, Nice x) (few : E.length < 400) (feas : ∀ e ∈ E, W e.1 ≤ W e.2.1 + e.2.2) (far : ∀ k ∈ Q, -(absS E) ≤ V0 W k ∧ V0 W k ≤ absS E) :
    callN prg F (k + 3) 8 [.p (netP E), .p (.tup (Q.map (rowK W)))] h = .ok (.p (.bl true)) h := by
  rw [show k + 3 = (k + 1) + 2 from rfl, call_eq (fd := f8) rfl rfl]
  have e : evSs (gOf prg F (callN prg F (k + 2)) (callN prg F (k + 1))) f8.body (startD f8.ns [.p (netP E), .p (.tup (Q.map (rowK W)))]) h = .ret (.p (.bl true)) (h ++ [nodesO E, .dct (Wd (Q ++ [.non]) (V0 W)), absO E]) := by
    rw [f8_eq]
    show evSs _ (.cons nA (.cons nIf1 (.cons nMake (.cons nZero (.cons nIf2 (.cons nEnd .nil)))))) [some (.p (netP E)), some (.p (.tup (Q.map (rowK W)))), none, none, none, none, none, none, none, none] h = _
    rw [evSs, nA_ok (by omega), RS.seq_next, evSs, nIf1_ok nm qs nice few, RS.seq_next, evSs, show h ++ [O.lst ((ends E).map .p)] = h ++ [nodesO E] from rfl, nMake_ok qs few, RS.seq_next, evSs, nZero_ok qs few nm, RS.seq_next, evSs, nIf2_ok qs few nm far, RS.seq_next, evSs, nEnd_ok qs few nm feas, RS.seq_ret]
  rw [show k + 1 + 1 = k + 2 from rfl, e]
  exact trim_pb _ _ _
end
end L20

/-! K20 g: the law. -/
namespace L20
open PySem L2 Pv Net

def nameP : P → P
  | .str s => .str ("n" ++ s)
  | _ => .str ""
def nameL (e : Lt) : Lt := (nameP e.1, nameP e.2.1, e.2.2)
def nameE (v : Nat) : IE := .ite (.cmp .is (.v v) (.c .non)) (.c (.str "")) (.bin .add (.c (.str "n")) (.v v))
theorem six {x : P} (h : x ∈ N6) : x = .non ∨ x = .str "a" ∨ x = .str "b" ∨ x = .str "x" ∨ x = .str "len r" ∨ x = .str "zz" := by
  simpa only [List.mem_cons, List.not_mem_nil, or_false] using h
theorem nameE_ok {g : G} {v : Nat} {s : Sg} {h : Hh} {x : P} (hx : x ∈ N6) (hs : slot v s = some (.p x)) : evE g (nameE v) s h = .ok (.p (nameP x)) h := by
  have v0 : ∀ h : Hh, evE g (.v v) s h = .ok (.p x) h := fun h => by rw [evE.eq_2, hs]; rfl
  unfold nameE
  rcases six hx with rfl | rfl | rfl | rfl | rfl | rfl
  · simp only [evE.eq_12, evE.eq_8, evE.eq_1, v0, R.bind_ok, cmpS, isNone, tr_bl, if_true]
    rfl
  all_goals
    simp only [evE.eq_12, evE.eq_8, evE.eq_5, evE.eq_1, v0, R.bind_ok, cmpS, isNone, tr_bl, Bool.false_eq_true, if_false, binS, addS]
    rw [if_pos (by rw [sizeLine_v]; decide)]
    rfl
theorem nameP_inj : ∀ a b : P, a ∈ N6 → b ∈ N6 → nameP a = nameP b → a = b := fun a b ha hb e => by
  rcases six ha with rfl | rfl | rfl | rfl | rfl | rfl <;> rcases six hb with rfl | rfl | rfl | rfl | rfl | rfl <;> first | rfl | (revert e; decide +kernel)
theorem nameP_ok {x : P} (h : x ∈ N6) : IsN (nameP x) := by
  rcases six h with rfl | rfl | rfl | rfl | rfl | rfl <;> exact .inr ⟨_, rfl, by decide +kernel⟩
theorem nice6 {x : P} (h : x ∈ N6) (ne : x ≠ .non) : Nice x := by
  rcases six h with rfl | rfl | rfl | rfl | rfl | rfl
  · exact absurd rfl ne
  all_goals exact ⟨_, rfl, by decide +kernel, by decide +kernel⟩
section
variable {E : List Lt}
theorem six_nums {x : P} (h : x ∈ N6) : x.nums = true ∧ x.depth = 0 ∧ x.w ≤ 1000 := by
  rcases six h with rfl | rfl | rfl | rfl | rfl | rfl <;> exact ⟨by decide +kernel, rfl, by decide +kernel⟩
theorem big_log {c : Int} (h : -(8 * big) ≤ c ∧ c ≤ 8 * big) : c.natAbs.log2 < 1920 := by
  have h2 : c.natAbs < 2 ^ 1920 := by
    have : c.natAbs ≤ 8000000000000000000000000000000 := by unfold big at h; omega
    refine Nat.lt_of_le_of_lt this ?_
    decide +kernel
  by_cases z : c.natAbs = 0
  · rw [z]; decide
  · exact (Nat.log2_lt z).mpr h2
theorem net_parts : ∀ E : List Lt, (∀ e ∈ E, (e.1 ∈ N6 ∧ e.2.1 ∈ N6) ∧ -(8 * big) ≤ e.2.2 ∧ e.2.2 ≤ 8 * big) → P.numss (E.map litP) = true ∧ P.depths (E.map litP) ≤ 1 ∧ P.ws (E.map litP) ≤ 4000 * E.length
  | [], _ => ⟨rfl, Nat.zero_le _, Nat.le_refl _⟩
  | e :: E, h => by
    obtain ⟨⟨a, b⟩, c⟩ := h e List.mem_cons_self
    obtain ⟨h1, h2, h3⟩ := net_parts E fun x hx => h x (List.mem_cons_of_mem _ hx)
    obtain ⟨a1, a2, a3⟩ := six_nums a
    obtain ⟨b1, b2, b3⟩ := six_nums b
    have ci : (P.int e.2.2).nums = true := by simp only [P.nums, big_log c, decide_true]
    refine ⟨?_, ?_, ?_⟩
    · simp only [List.map_cons, P.numss, h1, litP, P.nums, a1, b1, big_log c, decide_true, Bool.and_self]
    · simp only [List.map_cons, P.depths, litP, P.depth, a2, b2]
      omega
    · simp only [List.map_cons, P.ws, litP, P.w, List.length_cons]
      omega
theorem net_fine (n : NetIn E) : Fine (netP E) := by
  obtain ⟨h1, h2, h3⟩ := net_parts E fun e he => ⟨n.lit e he, n.size e he⟩
  have few := n.few
  refine ⟨h1, by show (P.tup (E.map litP)).depth ≤ 60; simp only [P.depth]; omega, by show (P.tup (E.map litP)).w ≤ sizeLine; rw [sizeLine_v]; simp only [P.w]; omega⟩
end
abbrev gL (F k : Nat) : G := gOf prg F (callN prg F (k + 7)) (callN prg F (k + 6))
abbrev S11 (a0 a1 a2 a3 a4 a5 a6 a7 a8 a9 a10 : Option D) : Sg := [a0, a1, a2, a3, a4, a5, a6, a7, a8, a9, a10]
def oNet : IS := .asg (.v 3) (.call 7 (.cons (.v 1) .nil))
def oTold : IS := .par (.cons (.v 6) (.cons (.v 7) .nil)) (.cons (.blt .repr (.cons (.v 3) .nil)) (.cons (.call 1 (.cons (.v 3) .nil)) .nil))
def oNamed : IS := .asg (.v 4) (.comp [8, 9, 10] (.trim (.tup (.cons (nameE 8) (.cons (nameE 9) (.cons (.v 10) .nil))))) (.tup 3 (.cons (.v 8) (.cons (.v 9) (.cons (.v 10) .nil)))) (.of (.v 3)) .nil)
def oDue : IS := .asg (.v 5) (.trim (.ite (.cmp .isnot (.call 6 (.cons (.v 4) .nil)) (.c .non)) (.c (.str "numbers")) (.c (.str "ring"))))
def oIf1 : IS := .ite (.or (.not (.isi (.v 7) .tuple)) (.or (.cmp .ne (.blt .len (.cons (.v 7) .nil)) (.c (.int 2))) (.or (.cmp .ne (.sub (.v 7) (.c (.int 0))) (.v 5)) (.cmp .ne (.blt .repr (.cons (.v 3) .nil)) (.v 6))))) (.cons (.ret (.c (.bl false))) .nil) .nil
def oIf2 : IS := .ite (.not (.isi (.sub (.v 7) (.c (.int 1))) .tuple)) (.cons (.ret (.c (.bl false))) .nil) .nil
def oIf3 : IS := .ite (.trim (.not (.ite (.cmp .eq (.v 5) (.c (.str "numbers"))) (.call 8 (.cons (.v 3) (.cons (.sub (.v 7) (.c (.int 1))) .nil))) (.call 9 (.cons (.v 3) (.cons (.sub (.v 7) (.c (.int 1))) .nil)))))) (.cons (.ret (.c (.bl false))) .nil) .nil
def lapS : ISs := .cons oNet (.cons oTold (.cons oNamed (.cons oDue (.cons oIf1 (.cons oIf2 (.cons oIf3 .nil))))))
theorem f10_eq : f10 = ⟨1, 11, .cons (.asg (.v 1) (.call 2 (.cons (.v 0) .nil))) (.cons (.for (.v 2) (.rng1 (.c (.int 12))) lapS) (.cons (.ret (.c (.bl true))) .nil))⟩ := rfl
section
variable {F k : Nat} {h : Hh} {b l : Nat} {a0 a2 a3 a4 a5 a6 a7 a8 a9 a10 : Option D} {E : List Lt}
theorem oNamed_ok (n : NetIn E) : evS (gL F k) oNamed (S11 a0 (some (.r b)) a2 (some (.p (netP E))) a4 a5 a6 a7 a8 a9 a10) h = .next (S11 a0 (some (.r b)) a2 (some (.p (netP E))) (some (.r h.length)) a5 a6 a7 a8 a9 a10) (h ++ [netL (E.map nameL)]) := by
  have few := n.few
  have cp := comp_pure (g := gL F k) (h := h) (own := [8, 9, 10]) (elt := .trim (.tup (.cons (nameE 8) (.cons (nameE 9) (.cons (.v 10) .nil))))) (t := .tup 3 (.cons (.v 8) (.cons (.v 9) (.cons (.v 10) .nil)))) (it := .of (.v 3)) (ifs := .nil) (s := S11 a0 (some (.r b)) a2 (some (.p (netP E))) a4 a5 a6 a7 a8 a9 a10) (fun d => match d with
      | .p (.tup [u, v, .int c]) => some (.p (litP (nameL (u, v, c))))
      | _ => none) (walk_tup rfl) (fun _ => rfl) (fun d hd a => by
      obtain ⟨x, hx, rfl⟩ := List.mem_map.mp hd
      obtain ⟨e, he, rfl⟩ := List.mem_map.mp hx
      have n1 : ∀ h : Hh, evE (gL F k) (nameE 8) [a0, some (.r b), a2, some (.p (netP E)), a4, a5, a6, a7, some (.p e.1), some (.p e.2.1), some (.p (.int e.2.2))] h = .ok (.p (nameP e.1)) h := fun h => nameE_ok (n.lit e he).1 rfl
      have n2 : ∀ h : Hh, evE (gL F k) (nameE 9) [a0, some (.r b), a2, some (.p (netP E)), a4, a5, a6, a7, some (.p e.1), some (.p e.2.1), some (.p (.int e.2.2))] h = .ok (.p (nameP e.2.1)) h := fun h => nameE_ok (n.lit e he).2 rfl
      have m3 : mkT [.p (nameP e.1), .p (nameP e.2.1), .p (.int e.2.2)] = .p (litP (nameL e)) := rfl
      have l3 : ([.p e.1, .p e.2.1, .p (.int e.2.2)] : List D).length = 3 := rfl
      simp only [bodyC, wipeD, asgT, items_lit, l3, if_true, asgTs, List.set_cons_zero, List.set_cons_succ, R.bind_ok]
      simp only [evSs, evS.eq_1, evS.eq_2, evS.eq_3, evS.eq_4, evS.eq_5, evS.eq_6, evS.eq_7, evS.eq_10, evS.eq_11, evS.eq_12, evS.eq_13, evS.eq_14, evE.eq_1, evE.eq_2, evE.eq_3, evE.eq_4, evE.eq_5, evE.eq_6, evE.eq_7, evE.eq_8, evE.eq_9, evE.eq_10, evE.eq_11, evE.eq_12, evE.eq_13, evE.eq_14, evE.eq_15, evE.eq_16, evE.eq_17, evE.eq_18, evE.eq_19, evE.eq_21, evE.eq_22, evE.eq_23, evE.eq_24, evE.eq_25, evE.eq_26,  evEs, evO, evTs, evI, asgT, asgTs, slot, startD, R.of_some, R.of_none, R.bind_ok, R.bind_stuck, R.then_ok, RS.seq_next, RS.seq_ret, RS.seq_brk, RS.seq_cont, List.getElem?_cons_zero, List.getElem?_cons_succ, List.set_cons_zero, List.set_cons_succ, List.set_set, add_ii, sub_ii, mul_ii, mod_ii, fdiv_ii, pow_lit, blt_int, blt_max, blt_min, blt_abs, aug_ii, tr_bl, lt_ii, le_ii, gt_ii, ge_ii, eq_ii, ne_ii, trim_p0, if_true, Bool.not_true, Bool.not_false, Bool.false_eq_true, if_false, R.tr_ok_bl, gOf_call, mkT_p2, len_t, sz1, sz2, sz3, sz4, sz6, D.items, n1, n2, m3, List.length_cons, List.length_nil, trim_p0]
      rfl) (by rw [List.length_map, List.length_map, sizeLine_v]; omega)
  have fm : ((E.map litP).map D.p).filterMap (fun d => match d with
      | .p (.tup [u, v, .int c]) => some (D.p (litP (nameL (u, v, c))))
      | _ => none) = (E.map nameL).map fun e => .p (litP e) := by
    rw [List.map_map, List.filterMap_map, List.map_map]
    exact fm_some (fun e => D.p (litP (nameL e))) E
  rw [fm] at cp
  unfold oNamed
  simp only [evSs, evS.eq_1, evS.eq_2, evS.eq_3, evS.eq_4, evS.eq_5, evS.eq_6, evS.eq_7, evS.eq_10, evS.eq_11, evS.eq_12, evS.eq_13, evS.eq_14, evE.eq_1, evE.eq_2, evE.eq_3, evE.eq_4, evE.eq_5, evE.eq_6, evE.eq_7, evE.eq_8, evE.eq_9, evE.eq_10, evE.eq_11, evE.eq_12, evE.eq_13, evE.eq_14, evE.eq_15, evE.eq_16, evE.eq_17, evE.eq_18, evE.eq_19, evE.eq_21, evE.eq_22, evE.eq_23, evE.eq_24, evE.eq_25, evE.eq_26,  evEs, evO, evTs, evI, asgT, asgTs, slot, startD, R.of_some, R.of_none, R.bind_ok, R.bind_stuck, R.then_ok, RS.seq_next, RS.seq_ret, RS.seq_brk, RS.seq_cont, List.getElem?_cons_zero, List.getElem?_cons_succ, List.set_cons_zero, List.set_cons_succ, List.set_set, add_ii, sub_ii, mul_ii, mod_ii, fdiv_ii, pow_lit, blt_int, blt_max, blt_min, blt_abs, aug_ii, tr_bl, lt_ii, le_ii, gt_ii, ge_ii, eq_ii, ne_ii, trim_p0, if_true, Bool.not_true, Bool.not_false, Bool.false_eq_true, if_false, R.tr_ok_bl, gOf_call, mkT_p2, len_t, sz1, sz2, sz3, sz4, sz6, D.items, cp]
  rfl
theorem bad_named (n : NetIn E) : Bad (E.map nameL) ↔ Bad E := ⟨fun h => bad_unmap (f := nameP) (S := fun x => x ∈ N6) (fun a b ha hb e => nameP_inj a b ha hb e) n.lit h, bad_map⟩
noncomputable def dueS (E : List Lt) : Str := open Classical in if Bad E then "ring" else "numbers"
theorem dueS_bad (h : Bad E) : dueS E = "ring" := by unfold dueS; rw [if_pos h]
theorem dueS_good (h : ¬ Bad E) : dueS E = "numbers" := by unfold dueS; rw [if_neg h]
theorem oDue_ok (n : NetIn E) (nb : b < h.length) {a5 : Option D} : evS (gL F k) oDue (S11 a0 (some (.r b)) a2 (some (.p (netP E))) (some (.r h.length)) a5 a6 a7 a8 a9 a10) (h ++ [netL (E.map nameL)]) =
    .next (S11 a0 (some (.r b)) a2 (some (.p (netP E))) (some (.r h.length)) (some (.p (.str (dueS E)))) a6 a7 a8 a9 a10) (h ++ [netL (E.map nameL)]) := by
  have few := n.few
  have ok : NetOk (E.map nameL) := fun e he => by
    obtain ⟨x, hx, rfl⟩ := List.mem_map.mp he
    exact ⟨nameP_ok (n.lit x hx).1, nameP_ok (n.lit x hx).2⟩
  have nf := numF_ok (p := prg) (F := F) (k := k + 5) (t := 6) (gi := 1) (E := E.map nameL) (h := h ++ [netL (E.map nameL)]) (i := h.length) (hg0 h _ []) rfl ok (by rw [List.length_map]; omega)
  rcases nf with ⟨good, o, e⟩ | ⟨bad, e⟩
  · have good : ¬ Bad E := fun z => good ((bad_named n).mpr z)
    have tp := trim_p (h ++ [netL (E.map nameL)]) [o] (.str "numbers")
    rw [dueS_good good]
    unfold oDue
    simp only [evSs, evS.eq_1, evS.eq_2, evS.eq_3, evS.eq_4, evS.eq_5, evS.eq_6, evS.eq_7, evS.eq_10, evS.eq_11, evS.eq_12, evS.eq_13, evS.eq_14, evE.eq_1, evE.eq_2, evE.eq_3, evE.eq_4, evE.eq_5, evE.eq_6, evE.eq_7, evE.eq_8, evE.eq_9, evE.eq_10, evE.eq_11, evE.eq_12, evE.eq_13, evE.eq_14, evE.eq_15, evE.eq_16, evE.eq_17, evE.eq_18, evE.eq_19, evE.eq_21, evE.eq_22, evE.eq_23, evE.eq_24, evE.eq_25, evE.eq_26,  evEs, evO, evTs, evI, asgT, asgTs, slot, startD, R.of_some, R.of_none, R.bind_ok, R.bind_stuck, R.then_ok, RS.seq_next, RS.seq_ret, RS.seq_brk, RS.seq_cont, List.getElem?_cons_zero, List.getElem?_cons_succ, List.set_cons_zero, List.set_cons_succ, List.set_set, add_ii, sub_ii, mul_ii, mod_ii, fdiv_ii, pow_lit, blt_int, blt_max, blt_min, blt_abs, aug_ii, tr_bl, lt_ii, le_ii, gt_ii, ge_ii, eq_ii, ne_ii, trim_p0, if_true, Bool.not_true, Bool.not_false, Bool.false_eq_true, if_false, R.tr_ok_bl, gOf_call, mkT_p2, len_t, sz1, sz2, sz3, sz4, sz6, D.items, gOf_call, e, cmpS, isNone, tp]
  · have bad := (bad_named n).mp bad
    have tp := trim_p0 (h ++ [netL (E.map nameL)]) (.str "ring")
    rw [dueS_bad bad]
    unfold oDue
    simp only [evSs, evS.eq_1, evS.eq_2, evS.eq_3, evS.eq_4, evS.eq_5, evS.eq_6, evS.eq_7, evS.eq_10, evS.eq_11, evS.eq_12, evS.eq_13, evS.eq_14, evE.eq_1, evE.eq_2, evE.eq_3, evE.eq_4, evE.eq_5, evE.eq_6, evE.eq_7, evE.eq_8, evE.eq_9, evE.eq_10, evE.eq_11, evE.eq_12, evE.eq_13, evE.eq_14, evE.eq_15, evE.eq_16, evE.eq_17, evE.eq_18, evE.eq_19, evE.eq_21, evE.eq_22, evE.eq_23, evE.eq_24, evE.eq_25, evE.eq_26,  evEs, evO, evTs, evI, asgT, asgTs, slot, startD, R.of_some, R.of_none, R.bind_ok, R.bind_stuck, R.then_ok, RS.seq_next, RS.seq_ret, RS.seq_brk, RS.seq_cont, List.getElem?_cons_zero, List.getElem?_cons_succ, List.set_cons_zero, List.set_cons_succ, List.set_set, add_ii, sub_ii, mul_ii, mod_ii, fdiv_ii, pow_lit, blt_int, blt_max, blt_min, blt_abs, aug_ii, tr_bl, lt_ii, le_ii, gt_ii, ge_ii, eq_ii, ne_ii, trim_p0, if_true, Bool.not_true, Bool.not_false, Bool.false_eq_true, if_false, R.tr_ok_bl, gOf_call, mkT_p2, len_t, sz1, sz2, sz3, sz4, sz6, D.items, gOf_call, e, cmpS, isNone, tp]
theorem eqO_strs (h : Hh) (s t : Str) : eqO h (.p (.str s)) (.p (.str t)) = some (decide (s = t)) := rfl
theorem lap_ok (hF : 100 < F) (B : Bag h b l) :
    Ru (evSs (gL F k) lapS (S11 a0 (some (.r b)) a2 a3 a4 a5 a6 a7 a8 a9 a10) h)
      (fun s h' => ∃ a3 a4 a5 a6 a7 a8 a9 a10, s = S11 a0 (some (.r b)) a2 a3 a4 a5 a6 a7 a8 a9 a10 ∧ Bag h' b l) (fun _ _ => False) := by
  obtain ⟨E, h1, n, nx, e1⟩ := net_ok (F := F) (k := k) B
  have few := n.few
  have B1 := nx.bag
  have nb := B1.lt.1
  have ok : NetOk E := fun e he => ⟨isN6 _ (n.lit e he).1, isN6 _ (n.lit e he).2⟩
  have fine := net_fine n
  have rp : ∀ h : Hh, bltS .repr [.p (netP E)] h = .ok (.p (.str (netP E).py.shown)) h := fun h => repr_ok h fine
  obtain ⟨x, tx, e2⟩ := solved_ok (p := prg) (F := F) (k := k + 4) (t := 1) (r := 0) (ap := 0) (h := h1) rfl rfl ok (by omega) (by omega)
  have s1 : evS (gL F k) oNet (S11 a0 (some (.r b)) a2 a3 a4 a5 a6 a7 a8 a9 a10) h = .next (S11 a0 (some (.r b)) a2 (some (.p (netP E))) a4 a5 a6 a7 a8 a9 a10) h1 := by
    unfold oNet
    simp only [evSs, evS.eq_1, evS.eq_2, evS.eq_3, evS.eq_4, evS.eq_5, evS.eq_6, evS.eq_7, evS.eq_10, evS.eq_11, evS.eq_12, evS.eq_13, evS.eq_14, evE.eq_1, evE.eq_2, evE.eq_3, evE.eq_4, evE.eq_5, evE.eq_6, evE.eq_7, evE.eq_8, evE.eq_9, evE.eq_10, evE.eq_11, evE.eq_12, evE.eq_13, evE.eq_14, evE.eq_15, evE.eq_16, evE.eq_17, evE.eq_18, evE.eq_19, evE.eq_21, evE.eq_22, evE.eq_23, evE.eq_24, evE.eq_25, evE.eq_26,  evEs, evO, evTs, evI, asgT, asgTs, slot, startD, R.of_some, R.of_none, R.bind_ok, R.bind_stuck, R.then_ok, RS.seq_next, RS.seq_ret, RS.seq_brk, RS.seq_cont, List.getElem?_cons_zero, List.getElem?_cons_succ, List.set_cons_zero, List.set_cons_succ, List.set_set, add_ii, sub_ii, mul_ii, mod_ii, fdiv_ii, pow_lit, blt_int, blt_max, blt_min, blt_abs, aug_ii, tr_bl, lt_ii, le_ii, gt_ii, ge_ii, eq_ii, ne_ii, trim_p0, if_true, Bool.not_true, Bool.not_false, Bool.false_eq_true, if_false, R.tr_ok_bl, gOf_call, mkT_p2, len_t, sz1, sz2, sz3, sz4, sz6, D.items, gOf_call, e1]
  have s2 : evS (gL F k) oTold (S11 a0 (some (.r b)) a2 (some (.p (netP E))) a4 a5 a6 a7 a8 a9 a10) h1 = .next (S11 a0 (some (.r b)) a2 (some (.p (netP E))) a4 a5 (some (.p (.str (netP E).py.shown))) (some (.p x)) a8 a9 a10) h1 := by
    unfold oTold
    simp only [evSs, evS.eq_1, evS.eq_2, evS.eq_3, evS.eq_4, evS.eq_5, evS.eq_6, evS.eq_7, evS.eq_10, evS.eq_11, evS.eq_12, evS.eq_13, evS.eq_14, evE.eq_1, evE.eq_2, evE.eq_3, evE.eq_4, evE.eq_5, evE.eq_6, evE.eq_7, evE.eq_8, evE.eq_9, evE.eq_10, evE.eq_11, evE.eq_12, evE.eq_13, evE.eq_14, evE.eq_15, evE.eq_16, evE.eq_17, evE.eq_18, evE.eq_19, evE.eq_21, evE.eq_22, evE.eq_23, evE.eq_24, evE.eq_25, evE.eq_26,  evEs, evO, evTs, evI, asgT, asgTs, slot, startD, R.of_some, R.of_none, R.bind_ok, R.bind_stuck, R.then_ok, RS.seq_next, RS.seq_ret, RS.seq_brk, RS.seq_cont, List.getElem?_cons_zero, List.getElem?_cons_succ, List.set_cons_zero, List.set_cons_succ, List.set_set, add_ii, sub_ii, mul_ii, mod_ii, fdiv_ii, pow_lit, blt_int, blt_max, blt_min, blt_abs, aug_ii, tr_bl, lt_ii, le_ii, gt_ii, ge_ii, eq_ii, ne_ii, trim_p0, if_true, Bool.not_true, Bool.not_false, Bool.false_eq_true, if_false, R.tr_ok_bl, gOf_call, mkT_p2, len_t, sz1, sz2, sz3, sz4, sz6, D.items, gOf_call, rp, e2]
  have key : ∃ w z : _, x = .tup [.str w, .tup z] ∧ w = dueS E ∧ (w = "numbers" → ∀ h : Hh, callN prg F (k + 7) 8 [.p (netP E), .p (.tup z)] h = .ok (.p (.bl true)) h) ∧ (w ≠ "numbers" → ∀ h : Hh, callN prg F (k + 7) 9 [.p (netP E), .p (.tup z)] h = .ok (.p (.bl true)) h) := by
    cases tx with
    | num ns W nm feas prd neg =>
      have good : ¬ Bad E := feas_good feas
      obtain ⟨L, T, prd⟩ := prd
      have qs := qs_ok nm
      have nsl := nm.few
      refine ⟨_, _, rfl, (dueS_good good).symm, fun _ h => ?_, fun z => absurd rfl z⟩
      rw [sorted_rows nm W]
      have hL : ∀ k i, L k = some i → ∃ e, E[i]? = some e ∧ e.2.1 ∈ ns := fun k i hk => by
        obtain ⟨e, g1, _⟩ := prd.from_ k i hk
        exact ⟨e, g1, (nm.lit e (List.mem_of_getElem? g1)).2⟩
      refine areNum_ok (k := k + 4) nm qs (fun x hx => ?_) (by omega) feas fun x hx => ?_
      · obtain ⟨h1, s, rfl, _⟩ := qs.str x hx
        rcases nm.only _ h1 with z | ⟨e, he, z | z⟩
        · cases z
        · exact nice6 (by rw [z]; exact (n.lit e he).1) (by simp)
        · exact nice6 (by rw [z]; exact (n.lit e he).2) (by simp)
      · have f1 := far_ok prd hL good (qs.str x hx).1
        have f2 := far_ok prd hL good nm.non
        have n1 := neg x
        have n2 := neg .non
        unfold V0
        omega
    | ring L b0 post tr nd neg prd =>
      obtain ⟨W, T, prd⟩ := prd
      have bad : Bad E := ring_bad prd tr
      have r := ringL prd tr nd neg
      refine ⟨_, _, rfl, (dueS_bad bad).symm, fun z => absurd z (by decide +kernel), fun _ h => ?_⟩
      have i2 : ((b0 :: post).map fun x => P.int (ix L x)) = idxP ((b0 :: post).map (ix L)) := by unfold idxP; rw [List.map_map]; rfl
      rw [i2]
      refine isRing_ok (k := k + 5) rfl ok r ?_
      have := pig r.nd (fun i hi => List.mem_range.mpr (r.lt i hi))
      rw [List.length_range] at this
      omega
  obtain ⟨w, z, rfl, hw, c8, c9⟩ := key
  have s3 := oNamed_ok (F := F) (k := k) (h := h1) (b := b) (a0 := a0) (a2 := a2) (a4 := a4) (a5 := a5) (a6 := some (.p (.str (netP E).py.shown))) (a7 := some (.p (.tup [.str w, .tup z]))) (a8 := a8) (a9 := a9) (a10 := a10) n
  have s4 := oDue_ok (F := F) (k := k) (h := h1) (b := b) (a0 := a0) (a2 := a2) (a5 := a5) (a6 := some (.p (.str (netP E).py.shown))) (a7 := some (.p (.tup [.str w, .tup z]))) (a8 := a8) (a9 := a9) (a10 := a10) n nb
  rw [← hw] at s4
  have ty : ∀ (xs : List P) (h : Hh), tyOf h (.p (.tup xs)) = some .tuple := fun _ _ => rfl
  have g0 : ∀ h : Hh, subS (.p (.tup [.str w, .tup z])) (.p (.int 0)) h = .ok (.p (.str w)) h := fun _ => rfl
  have g1 : ∀ h : Hh, subS (.p (.tup [.str w, .tup z])) (.p (.int 1)) h = .ok (.p (.tup z)) h := fun _ => rfl
  have ln : ∀ h : Hh, bltS .len [.p (.tup [.str w, .tup z])] h = .ok (.p (.int 2)) h := fun _ => rfl
  have ne2 : ∀ h : Hh, eqO h (.p (.int 2)) (.p (.int 2)) = some true := fun _ => rfl
  have s5 : ∀ H : Hh, evS (gL F k) oIf1 (S11 a0 (some (.r b)) a2 (some (.p (netP E))) (some (.r h1.length)) (some (.p (.str w))) (some (.p (.str (netP E).py.shown))) (some (.p (.tup [.str w, .tup z]))) a8 a9 a10) H = .next (S11 a0 (some (.r b)) a2 (some (.p (netP E))) (some (.r h1.length)) (some (.p (.str w))) (some (.p (.str (netP E).py.shown))) (some (.p (.tup [.str w, .tup z]))) a8 a9 a10) H := fun H => by
    unfold oIf1
    simp only [evSs, evS.eq_1, evS.eq_2, evS.eq_3, evS.eq_4, evS.eq_5, evS.eq_6, evS.eq_7, evS.eq_10, evS.eq_11, evS.eq_12, evS.eq_13, evS.eq_14, evE.eq_1, evE.eq_2, evE.eq_3, evE.eq_4, evE.eq_5, evE.eq_6, evE.eq_7, evE.eq_8, evE.eq_9, evE.eq_10, evE.eq_11, evE.eq_12, evE.eq_13, evE.eq_14, evE.eq_15, evE.eq_16, evE.eq_17, evE.eq_18, evE.eq_19, evE.eq_21, evE.eq_22, evE.eq_23, evE.eq_24, evE.eq_25, evE.eq_26,  evEs, evO, evTs, evI, asgT, asgTs, slot, startD, R.of_some, R.of_none, R.bind_ok, R.bind_stuck, R.then_ok, RS.seq_next, RS.seq_ret, RS.seq_brk, RS.seq_cont, List.getElem?_cons_zero, List.getElem?_cons_succ, List.set_cons_zero, List.set_cons_succ, List.set_set, add_ii, sub_ii, mul_ii, mod_ii, fdiv_ii, pow_lit, blt_int, blt_max, blt_min, blt_abs, aug_ii, tr_bl, lt_ii, le_ii, gt_ii, ge_ii, eq_ii, ne_ii, trim_p0, if_true, Bool.not_true, Bool.not_false, Bool.false_eq_true, if_false, R.tr_ok_bl, gOf_call, mkT_p2, len_t, sz1, sz2, sz3, sz4, sz6, D.items, ty, Option.map_some, tyIs, truth_bl, ln, cmp_ne, ne2, g0, eqO_str, rp]
  have s6 : ∀ H : Hh, evS (gL F k) oIf2 (S11 a0 (some (.r b)) a2 (some (.p (netP E))) (some (.r h1.length)) (some (.p (.str w))) (some (.p (.str (netP E).py.shown))) (some (.p (.tup [.str w, .tup z]))) a8 a9 a10) H = .next (S11 a0 (some (.r b)) a2 (some (.p (netP E))) (some (.r h1.length)) (some (.p (.str w))) (some (.p (.str (netP E).py.shown))) (some (.p (.tup [.str w, .tup z]))) a8 a9 a10) H := fun H => by
    unfold oIf2
    simp only [evSs, evS.eq_1, evS.eq_2, evS.eq_3, evS.eq_4, evS.eq_5, evS.eq_6, evS.eq_7, evS.eq_10, evS.eq_11, evS.eq_12, evS.eq_13, evS.eq_14, evE.eq_1, evE.eq_2, evE.eq_3, evE.eq_4, evE.eq_5, evE.eq_6, evE.eq_7, evE.eq_8, evE.eq_9, evE.eq_10, evE.eq_11, evE.eq_12, evE.eq_13, evE.eq_14, evE.eq_15, evE.eq_16, evE.eq_17, evE.eq_18, evE.eq_19, evE.eq_21, evE.eq_22, evE.eq_23, evE.eq_24, evE.eq_25, evE.eq_26,  evEs, evO, evTs, evI, asgT, asgTs, slot, startD, R.of_some, R.of_none, R.bind_ok, R.bind_stuck, R.then_ok, RS.seq_next, RS.seq_ret, RS.seq_brk, RS.seq_cont, List.getElem?_cons_zero, List.getElem?_cons_succ, List.set_cons_zero, List.set_cons_succ, List.set_set, add_ii, sub_ii, mul_ii, mod_ii, fdiv_ii, pow_lit, blt_int, blt_max, blt_min, blt_abs, aug_ii, tr_bl, lt_ii, le_ii, gt_ii, ge_ii, eq_ii, ne_ii, trim_p0, if_true, Bool.not_true, Bool.not_false, Bool.false_eq_true, if_false, R.tr_ok_bl, gOf_call, mkT_p2, len_t, sz1, sz2, sz3, sz4, sz6, D.items, g1, ty, Option.map_some, tyIs, truth_bl]
  have s7 : ∀ H : Hh, evS (gL F k) oIf3 (S11 a0 (some (.r b)) a2 (some (.p (netP E))) (some (.r h1.length)) (some (.p (.str w))) (some (.p (.str (netP E).py.shown))) (some (.p (.tup [.str w, .tup z]))) a8 a9 a10) H = .next (S11 a0 (some (.r b)) a2 (some (.p (netP E))) (some (.r h1.length)) (some (.p (.str w))) (some (.p (.str (netP E).py.shown))) (some (.p (.tup [.str w, .tup z]))) a8 a9 a10) H := fun H => by
    have tp := trim_p0 H (.bl false)
    unfold oIf3
    by_cases q : w = "numbers"
    · simp only [evSs, evS.eq_1, evS.eq_2, evS.eq_3, evS.eq_4, evS.eq_5, evS.eq_6, evS.eq_7, evS.eq_10, evS.eq_11, evS.eq_12, evS.eq_13, evS.eq_14, evE.eq_1, evE.eq_2, evE.eq_3, evE.eq_4, evE.eq_5, evE.eq_6, evE.eq_7, evE.eq_8, evE.eq_9, evE.eq_10, evE.eq_11, evE.eq_12, evE.eq_13, evE.eq_14, evE.eq_15, evE.eq_16, evE.eq_17, evE.eq_18, evE.eq_19, evE.eq_21, evE.eq_22, evE.eq_23, evE.eq_24, evE.eq_25, evE.eq_26,  evEs, evO, evTs, evI, asgT, asgTs, slot, startD, R.of_some, R.of_none, R.bind_ok, R.bind_stuck, R.then_ok, RS.seq_next, RS.seq_ret, RS.seq_brk, RS.seq_cont, List.getElem?_cons_zero, List.getElem?_cons_succ, List.set_cons_zero, List.set_cons_succ, List.set_set, add_ii, sub_ii, mul_ii, mod_ii, fdiv_ii, pow_lit, blt_int, blt_max, blt_min, blt_abs, aug_ii, tr_bl, lt_ii, le_ii, gt_ii, ge_ii, eq_ii, ne_ii, trim_p0, if_true, Bool.not_true, Bool.not_false, Bool.false_eq_true, if_false, R.tr_ok_bl, gOf_call, mkT_p2, len_t, sz1, sz2, sz3, sz4, sz6, D.items, cmp_eq, eqO_strs, decide_eq_true q, g1, gOf_call, c8 q, truth_bl, tp]
    · simp only [evSs, evS.eq_1, evS.eq_2, evS.eq_3, evS.eq_4, evS.eq_5, evS.eq_6, evS.eq_7, evS.eq_10, evS.eq_11, evS.eq_12, evS.eq_13, evS.eq_14, evE.eq_1, evE.eq_2, evE.eq_3, evE.eq_4, evE.eq_5, evE.eq_6, evE.eq_7, evE.eq_8, evE.eq_9, evE.eq_10, evE.eq_11, evE.eq_12, evE.eq_13, evE.eq_14, evE.eq_15, evE.eq_16, evE.eq_17, evE.eq_18, evE.eq_19, evE.eq_21, evE.eq_22, evE.eq_23, evE.eq_24, evE.eq_25, evE.eq_26,  evEs, evO, evTs, evI, asgT, asgTs, slot, startD, R.of_some, R.of_none, R.bind_ok, R.bind_stuck, R.then_ok, RS.seq_next, RS.seq_ret, RS.seq_brk, RS.seq_cont, List.getElem?_cons_zero, List.getElem?_cons_succ, List.set_cons_zero, List.set_cons_succ, List.set_set, add_ii, sub_ii, mul_ii, mod_ii, fdiv_ii, pow_lit, blt_int, blt_max, blt_min, blt_abs, aug_ii, tr_bl, lt_ii, le_ii, gt_ii, ge_ii, eq_ii, ne_ii, trim_p0, if_true, Bool.not_true, Bool.not_false, Bool.false_eq_true, if_false, R.tr_ok_bl, gOf_call, mkT_p2, len_t, sz1, sz2, sz3, sz4, sz6, D.items, cmp_eq, eqO_strs, decide_eq_false q, g1, gOf_call, c9 q, truth_bl, tp]
  unfold lapS
  rw [evSs, s1, RS.seq_next, evSs, s2, RS.seq_next, evSs, s3, RS.seq_next, evSs, s4, RS.seq_next, evSs, s5, RS.seq_next, evSs, s6, RS.seq_next, evSs, s7, RS.seq_next, evSs]
  exact ⟨_, _, _, _, _, _, _, _, rfl, B1.app _⟩
end
def fuel : Nat := 1000
def level : Nat := 7
theorem law_ok (ns : List Int) (hn : ns.length ≤ 63) : ∃ h', callN prg fuel (level + 1) 10 [.r 0] [.ro (ns.map .int)] = .ok (.p (.bl true)) h' := by
  obtain ⟨b, l, h0, B, e0⟩ := law_starts (p := prg) (F := fuel) (k := 5) (t := 2) rfl ns hn
  show ∃ h', callN prg fuel (6 + 2) 10 [.r 0] [.ro (ns.map .int)] = .ok (.p (.bl true)) h'
  rw [call_eq (fd := f10) rfl rfl]
  obtain ⟨d, h2, e, rfl⟩ : ∃ d h2, evSs (gL fuel 0) f10.body (startD f10.ns [.r 0]) [.ro (ns.map .int)] = .ret d h2 ∧ d = .p (.bl true) := by
    refine run_ret ?_
    rw [f10_eq]
    show Ru (evSs (gL fuel 0) _ (S11 (some (.r 0)) none none none none none none none none none none) _) _ _
    rw [evSs]
    have e1 : evS (gL fuel 0) (.asg (.v 1) (.call 2 (.cons (.v 0) .nil))) (S11 (some (.r 0)) none none none none none none none none none none) [.ro (ns.map .int)] = .next (S11 (some (.r 0)) (some (.r b)) none none none none none none none none none) h0 := by
      simp only [evSs, evS.eq_1, evS.eq_2, evS.eq_3, evS.eq_4, evS.eq_5, evS.eq_6, evS.eq_7, evS.eq_10, evS.eq_11, evS.eq_12, evS.eq_13, evS.eq_14, evE.eq_1, evE.eq_2, evE.eq_3, evE.eq_4, evE.eq_5, evE.eq_6, evE.eq_7, evE.eq_8, evE.eq_9, evE.eq_10, evE.eq_11, evE.eq_12, evE.eq_13, evE.eq_14, evE.eq_15, evE.eq_16, evE.eq_17, evE.eq_18, evE.eq_19, evE.eq_21, evE.eq_22, evE.eq_23, evE.eq_24, evE.eq_25, evE.eq_26,  evEs, evO, evTs, evI, asgT, asgTs, slot, startD, R.of_some, R.of_none, R.bind_ok, R.bind_stuck, R.then_ok, RS.seq_next, RS.seq_ret, RS.seq_brk, RS.seq_cont, List.getElem?_cons_zero, List.getElem?_cons_succ, List.set_cons_zero, List.set_cons_succ, List.set_set, add_ii, sub_ii, mul_ii, mod_ii, fdiv_ii, pow_lit, blt_int, blt_max, blt_min, blt_abs, aug_ii, tr_bl, lt_ii, le_ii, gt_ii, ge_ii, eq_ii, ne_ii, trim_p0, if_true, Bool.not_true, Bool.not_false, Bool.false_eq_true, if_false, R.tr_ok_bl, gOf_call, mkT_p2, len_t, sz1, sz2, sz3, sz4, sz6, D.items, gOf_call, e0]
    rw [e1, RS.seq_next, evSs]
    have it := rng1_ok (g := gL fuel 0) (a := .c (.int 12)) (s := S11 (some (.r 0)) (some (.r b)) none none none none none none none none none) (h := h0) (h1 := h0) (n := 12) rfl (by decide)
    rw [evS.eq_9, it, R.then_ok]
    dsimp only
    refine Run.seq (M := fun s h' => True) (loopS_run (fun i s h' => ∃ a2 a3 a4 a5 a6 a7 a8 a9 a10, s = S11 (some (.r 0)) (some (.r b)) a2 a3 a4 a5 a6 a7 a8 a9 a10 ∧ Bag h' b l) _ _ (nums 0 12) ?_ (fun s h _ => ⟨rfl, trivial⟩) _ 0 _ _ List.drop_zero ⟨_, _, _, _, _, _, _, _, _, rfl, B⟩ (Nat.zero_le _)) ?_
    · rintro i d s h' hd ⟨a2, a3, a4, a5, a6, a7, a8, a9, a10, rfl, B'⟩
      refine ⟨rfl, ?_⟩
      rw [asgT, R.then_ok]
      show Run (evSs (gL fuel 0) lapS (S11 (some (.r 0)) (some (.r b)) (some d) a3 a4 a5 a6 a7 a8 a9 a10) h') _ _ _ _
      refine (lap_ok (F := fuel) (k := 0) (by decide) B').weak ?_ (fun _ _ z => z.elim) (fun _ _ z => z.elim) (fun _ _ z => z.elim)
      rintro s h2 ⟨a3, a4, a5, a6, a7, a8, a9, a10, rfl, B2⟩
      exact ⟨_, _, _, _, _, _, _, _, _, rfl, B2.trimS B'.lt.1 B'.lt.2⟩
    · rintro s h' _
      simp only [evSs, evS.eq_1, evS.eq_2, evS.eq_3, evS.eq_4, evS.eq_5, evS.eq_6, evS.eq_7, evS.eq_10, evS.eq_11, evS.eq_12, evS.eq_13, evS.eq_14, evE.eq_1, evE.eq_2, evE.eq_3, evE.eq_4, evE.eq_5, evE.eq_6, evE.eq_7, evE.eq_8, evE.eq_9, evE.eq_10, evE.eq_11, evE.eq_12, evE.eq_13, evE.eq_14, evE.eq_15, evE.eq_16, evE.eq_17, evE.eq_18, evE.eq_19, evE.eq_21, evE.eq_22, evE.eq_23, evE.eq_24, evE.eq_25, evE.eq_26,  evEs, evO, evTs, evI, asgT, asgTs, slot, startD, R.of_some, R.of_none, R.bind_ok, R.bind_stuck, R.then_ok, RS.seq_next, RS.seq_ret, RS.seq_brk, RS.seq_cont, List.getElem?_cons_zero, List.getElem?_cons_succ, List.set_cons_zero, List.set_cons_succ, List.set_set, add_ii, sub_ii, mul_ii, mod_ii, fdiv_ii, pow_lit, blt_int, blt_max, blt_min, blt_abs, aug_ii, tr_bl, lt_ii, le_ii, gt_ii, ge_ii, eq_ii, ne_ii, trim_p0, if_true, Bool.not_true, Bool.not_false, Bool.false_eq_true, if_false, R.tr_ok_bl, gOf_call, mkT_p2, len_t, sz1, sz2, sz3, sz4, sz6, D.items]
      exact rfl
  have e' : evSs (gOf prg fuel (callN prg fuel (6 + 1)) (callN prg fuel 6)) f10.body (startD f10.ns [.r 0]) [.ro (ns.map .int)] = .ret (.p (.bl true)) h2 := e
  rw [e']
  show ∃ h', trimR _ (.ok (.p (.bl true)) h2) = _
  unfold trimR
  dsimp only
  split
  · split <;> exact ⟨_, rfl⟩
  · exact ⟨_, rfl⟩
end L20

open PySem PySem.W PyProof.Rows
set_option maxRecDepth 100000 in
set_option maxHeartbeats 0 in
theorem PySem.Challenge.cw_piecedruns_k20_nets_solved_or_a_ring_holds : PySem.Challenge.rw_piecedruns_k20_nets_solved_or_a_ring.Holds := by
  w_on; o_law; k_head; (case hw => w_witness2)
  k_fill
  refine Pv.pv_walk (l := PySem.Challenge.rw_piecedruns_k20_nets_solved_or_a_ring) (m := L20.nm) (p := L20.prg) (F := L20.fuel) (k := L20.level) (i := 10) (f := L20.f10) rfl rfl ⟨rfl, by decide, by decide⟩ (fun w h Y => PySem.W.kIn_of Y) rfl rfl ?F L20.law_ok
  case F =>
    intro w mg fa h KX G hmg
    refine' L20.tab KX G hmg ?e0 ?l0 ?c0 ?k0 ?e1 ?l1 ?c1 ?k1 ?e2 ?l2 ?c2 ?k2 ?e3 ?l3 ?c3 ?k3 ?e4 ?l4 ?c4 ?k4 ?e5 ?l5 ?c5 ?k5 ?e6 ?l6 ?c6 ?k6 ?e7 ?l7 ?c7 ?k7 ?e8 ?l8 ?c8 ?k8 ?e9 ?l9 ?c9 ?k9 ?e10 ?l10 ?c10 ?k10 ?z_len ?z_abs ?z_int ?z_max ?z_min ?z_tuple ?z_list ?z_sorted ?z_repr ?z_range ?z_enumerate ?z_zip ?z_sum ?z_all ?z_any ?z_dict ?z_str ?z_isinstance ?z_bool ?z_set
    (case e0 => k_is); (case l0 => k_is); (case c0 => k_is); (case k0 => k_is); (case e1 => k_is); (case l1 => k_is)
    (case c1 => k_is); (case k1 => k_is); (case e2 => k_is); (case l2 => k_is); (case c2 => k_is); (case k2 => k_is)
    (case e3 => k_is); (case l3 => k_is); (case c3 => k_is); (case k3 => k_is); (case e4 => k_is); (case l4 => k_is)
    (case c4 => k_is); (case k4 => k_is); (case e5 => k_is); (case l5 => k_is); (case c5 => k_is); (case k5 => k_is)
    (case e6 => k_is); (case l6 => k_is); (case c6 => k_is); (case k6 => k_is); (case e7 => k_is); (case l7 => k_is)
    (case c7 => k_is); (case k7 => k_is); (case e8 => k_is); (case l8 => k_is); (case c8 => k_is); (case k8 => k_is)
    (case e9 => k_is); (case l9 => k_is); (case c9 => k_is); (case k9 => k_is); (case e10 => k_is); (case l10 => k_is)
    (case c10 => k_is); (case k10 => k_is); (case z_len => k_is); (case z_abs => k_is); (case z_int => k_is); (case z_max => k_is)
    (case z_min => k_is); (case z_tuple => k_is); (case z_list => k_is); (case z_sorted => k_is); (case z_repr => k_is); (case z_range => k_is)
    (case z_enumerate => k_is); (case z_zip => k_is); (case z_sum => k_is); (case z_all => k_is); (case z_any => k_is); (case z_dict => k_is)
    (case z_str => k_is); (case z_isinstance => k_is); (case z_bool => k_is); (case z_set => k_is)
