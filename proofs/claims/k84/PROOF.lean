import PyProof.Rows.All
import Wide.All
import OpenK.AllK
import Wide.FinOn
import HandS.Base
import HandS.Call
import HandS.List
import HandS.Comp
import HandS.Dict
import HandS.Iter
import HandS.Ends
import HandS.Words
import HandS.Flow
import HandS.Defaults
import HandS.IsInst
import HandS.Zip
import HandS.Text
import HandS.TupAny
import HandS.NoneIn
import HandS.Sort
import HandS.Small
import HandS.More
import HandS.HeadEnd
import HandS.Head0
import HandS.Head1
import HandS.Head2
import HandS.HeadHook1
import HandS.HeadHook2
import KE.KStateDown
import PySem.Challenge.RW_faultward_k84_whole_calls_through_gates
set_option Elab.async false
set_option linter.all false
set_option maxRecDepth 100000
set_option maxHeartbeats 0
/-! A pure semantics for the part of Python that the program uses: values (tuples by value), a store of lists, dicts, instances; how it lies in the hand layer's heap. -/
namespace Mi
open PySem L2

inductive Va where
  | non | bl (b : Bool) | int (i : Int) | str (x : Str) | tup (xs : List Va) | fro (xs : List Va) | ref (n : Nat)
deriving Inhabited
inductive Ob where
  | lst (xs : List Va)
  | dic (kvs : List (Key × Va))
  | ins (C : Nat) (fs : List (Nat × Va))
deriving Inhabited

/-! ### the store: a tree by the bits of the address -/
inductive Tr where
  | nil
  | node (o : Option Ob) (l r : Tr)
def Tr.get : Tr → Nat → Option Ob
  | .nil, _ => none
  | .node o l r, i => match Nat.beq i 0 with
    | true => o
    | false => match Nat.beq (i % 2) 1 with
      | true => l.get ((i - 1) / 2)
      | false => r.get ((i - 1) / 2)
def Tr.put : Nat → Tr → Nat → Ob → Tr
  | 0, t, _, _ => t
  | f + 1, .nil, i, o => match Nat.beq i 0 with
    | true => .node (some o) .nil .nil
    | false => match Nat.beq (i % 2) 1 with
      | true => .node none (Tr.put f .nil ((i - 1) / 2) o) .nil
      | false => .node none .nil (Tr.put f .nil ((i - 1) / 2) o)
  | f + 1, .node p l r, i, o => match Nat.beq i 0 with
    | true => .node (some o) l r
    | false => match Nat.beq (i % 2) 1 with
      | true => .node p (Tr.put f l ((i - 1) / 2) o) r
      | false => .node p l (Tr.put f r ((i - 1) / 2) o)
theorem beqT {i j : Nat} (h : i = j) : Nat.beq i j = true := by
  subst h
  exact Nat.beq_refl i
theorem beqF {i j : Nat} (h : i ≠ j) : Nat.beq i j = false := by
  cases e : Nat.beq i j with
  | false => rfl
  | true => exact absurd (Nat.eq_of_beq_eq_true e) h
theorem Tr.get_nil (i : Nat) : Tr.get .nil i = none := rfl
theorem Tr.get_put_same : ∀ (f : Nat) (t : Tr) (i : Nat) (o : Ob), i < f → (Tr.put f t i o).get i = some o
  | 0, _, _, _, h => absurd h (Nat.not_lt_zero _)
  | f + 1, .nil, i, o, h => by
    unfold Tr.put
    by_cases h0 : i = 0
    · rw [beqT h0]; subst h0; rfl
    · rw [beqF h0]
      by_cases h1 : i % 2 = 1
      · rw [beqT h1]
        show (match Nat.beq i 0 with | true => none | false => match Nat.beq (i % 2) 1 with | true => (Tr.put f .nil ((i - 1) / 2) o).get ((i - 1) / 2) | false => _) = _
        rw [beqF h0, beqT h1]
        exact Tr.get_put_same f _ _ _ (by omega)
      · rw [beqF h1]
        show (match Nat.beq i 0 with | true => none | false => match Nat.beq (i % 2) 1 with | true => _ | false => (Tr.put f .nil ((i - 1) / 2) o).get ((i - 1) / 2)) = _
        rw [beqF h0, beqF h1]
        exact Tr.get_put_same f _ _ _ (by omega)
  | f + 1, .node p l r, i, o, h => by
    unfold Tr.put
    by_cases h0 : i = 0
    · rw [beqT h0]; subst h0; rfl
    · rw [beqF h0]
      by_cases h1 : i % 2 = 1
      · rw [beqT h1]
        show (match Nat.beq i 0 with | true => p | false => match Nat.beq (i % 2) 1 with | true => (Tr.put f l ((i - 1) / 2) o).get ((i - 1) / 2) | false => _) = _
        rw [beqF h0, beqT h1]
        exact Tr.get_put_same f _ _ _ (by omega)
      · rw [beqF h1]
        show (match Nat.beq i 0 with | true => p | false => match Nat.beq (i % 2) 1 with | true => _ | false => (Tr.put f r ((i - 1) / 2) o).get ((i - 1) / 2)) = _
        rw [beqF h0, beqF h1]
        exact Tr.get_put_same f _ _ _ (by omega)
theorem Tr.get_put_ne : ∀ (f : Nat) (t : Tr) (i j : Nat) (o : Ob), i ≠ j → (Tr.put f t i o).get j = t.get j
  | 0, _, _, _, _, _ => rfl
  | f + 1, .nil, i, j, o, h => by
    unfold Tr.put
    by_cases h0 : i = 0
    · rw [beqT h0]
      show (match Nat.beq j 0 with | true => some o | false => match Nat.beq (j % 2) 1 with | true => none | false => none) = none
      rw [beqF (by omega)]
      cases Nat.beq (j % 2) 1 <;> rfl
    · rw [beqF h0]
      by_cases h1 : i % 2 = 1
      · rw [beqT h1]
        show (match Nat.beq j 0 with | true => none | false => match Nat.beq (j % 2) 1 with | true => (Tr.put f .nil ((i - 1) / 2) o).get ((j - 1) / 2) | false => none) = none
        by_cases j0 : j = 0
        · rw [beqT j0]
        · rw [beqF j0]
          by_cases j1 : j % 2 = 1
          · rw [beqT j1]
            exact Tr.get_put_ne f .nil _ _ o (by omega)
          · rw [beqF j1]
      · rw [beqF h1]
        show (match Nat.beq j 0 with | true => none | false => match Nat.beq (j % 2) 1 with | true => none | false => (Tr.put f .nil ((i - 1) / 2) o).get ((j - 1) / 2)) = none
        by_cases j0 : j = 0
        · rw [beqT j0]
        · rw [beqF j0]
          by_cases j1 : j % 2 = 1
          · rw [beqT j1]
          · rw [beqF j1]
            exact Tr.get_put_ne f .nil _ _ o (by omega)
  | f + 1, .node p l r, i, j, o, h => by
    unfold Tr.put
    by_cases h0 : i = 0
    · rw [beqT h0]
      show (match Nat.beq j 0 with | true => some o | false => match Nat.beq (j % 2) 1 with | true => l.get ((j - 1) / 2) | false => r.get ((j - 1) / 2)) = (match Nat.beq j 0 with | true => p | false => match Nat.beq (j % 2) 1 with | true => l.get ((j - 1) / 2) | false => r.get ((j - 1) / 2))
      rw [beqF (show j ≠ 0 by omega)]
    · rw [beqF h0]
      by_cases h1 : i % 2 = 1
      · rw [beqT h1]
        show (match Nat.beq j 0 with | true => p | false => match Nat.beq (j % 2) 1 with | true => (Tr.put f l ((i - 1) / 2) o).get ((j - 1) / 2) | false => r.get ((j - 1) / 2)) = (match Nat.beq j 0 with | true => p | false => match Nat.beq (j % 2) 1 with | true => l.get ((j - 1) / 2) | false => r.get ((j - 1) / 2))
        by_cases j0 : j = 0
        · rw [beqT j0]
        · rw [beqF j0]
          by_cases j1 : j % 2 = 1
          · rw [beqT j1]
            exact Tr.get_put_ne f l _ _ o (by omega)
          · rw [beqF j1]
      · rw [beqF h1]
        show (match Nat.beq j 0 with | true => p | false => match Nat.beq (j % 2) 1 with | true => l.get ((j - 1) / 2) | false => (Tr.put f r ((i - 1) / 2) o).get ((j - 1) / 2)) = (match Nat.beq j 0 with | true => p | false => match Nat.beq (j % 2) 1 with | true => l.get ((j - 1) / 2) | false => r.get ((j - 1) / 2))
        by_cases j0 : j = 0
        · rw [beqT j0]
        · rw [beqF j0]
          by_cases j1 : j % 2 = 1
          · rw [beqT j1]
          · rw [beqF j1]
            exact Tr.get_put_ne f r _ _ o (by omega)

structure Sto where
  n : Nat
  t : Tr
def Sto.get (S : Sto) (i : Nat) : Option Ob := match Nat.blt i S.n with
  | true => S.t.get i
  | false => none
/-- the object at i becomes o -/
def Sto.set (S : Sto) (i : Nat) (o : Ob) : Sto := ⟨S.n, Tr.put (i + 1) S.t i o⟩
/-- a new object, at S.n -/
def Sto.new (S : Sto) (o : Ob) : Sto := ⟨S.n + 1, Tr.put (S.n + 1) S.t S.n o⟩
theorem bltT {i j : Nat} (h : i < j) : Nat.blt i j = true := Nat.ble_eq_true_of_le h
theorem bltF {i j : Nat} (h : ¬ i < j) : Nat.blt i j = false := by
  cases e : Nat.blt i j with
  | false => rfl
  | true => exact absurd (Nat.le_of_ble_eq_true e) h
theorem Sto.lt {S : Sto} {i : Nat} {o : Ob} (h : S.get i = some o) : i < S.n := by
  unfold Sto.get at h
  by_cases e : i < S.n
  · exact e
  · rw [bltF e] at h; cases h
theorem Sto.get_set {S : Sto} {i : Nat} {o : Ob} (h : i < S.n) : (S.set i o).get i = some o := by
  unfold Sto.get
  rw [show (S.set i o).n = S.n from rfl, bltT h]
  exact Tr.get_put_same _ _ _ _ (Nat.lt_succ_self i)
theorem Sto.get_set_ne {S : Sto} {i j : Nat} {o : Ob} (h : i ≠ j) : (S.set i o).get j = S.get j := by
  unfold Sto.get
  rw [show (S.set i o).n = S.n from rfl, show (S.set i o).t.get j = S.t.get j from Tr.get_put_ne _ _ _ _ _ h]
theorem Sto.get_new {S : Sto} {o : Ob} : (S.new o).get S.n = some o := by
  unfold Sto.get
  rw [show (S.new o).n = S.n + 1 from rfl, bltT (Nat.lt_succ_self _)]
  exact Tr.get_put_same _ _ _ _ (Nat.lt_succ_self _)
theorem Sto.get_new_ne {S : Sto} {j : Nat} {o : Ob} (h : j ≠ S.n) : (S.new o).get j = S.get j := by
  unfold Sto.get
  rw [show (S.new o).n = S.n + 1 from rfl, show (S.new o).t.get j = S.t.get j from Tr.get_put_ne _ _ _ _ _ (Ne.symm h)]
  by_cases e : j < S.n
  · rw [bltT e, bltT (Nat.lt_succ_of_lt e)]
  · rw [bltF e, bltF (by omega)]
theorem Sto.get_new_of {S : Sto} {j : Nat} {o u : Ob} (h : S.get j = some u) : (S.new o).get j = some u := by
  rw [Sto.get_new_ne (Nat.ne_of_lt (Sto.lt h)), h]
theorem Sto.set_n {S : Sto} {i : Nat} {o : Ob} : (S.set i o).n = S.n := rfl
theorem Sto.new_n {S : Sto} {o : Ob} : (S.new o).n = S.n + 1 := rfl

/-! ### results -/
inductive R (α : Type) where
  | ok (a : α) (S : Sto)
  | bad
def R.bind {α β : Type} (r : R α) (k : α → Sto → R β) : R β := match r with
  | .ok a S => k a S
  | .bad => .bad

/-! ### how values and stores lie in the heap -/
/-- names: the classes' addresses, the fields' names, which fields a class's instances may have -/
structure Cf where
  K : PySem.W.Frag
  cA : Nat → Addr
  fN : Nat → Str
  na : Nat → Nat → Bool
structure Cf.Ok (G : Cf) : Prop where
  inj : ∀ i j, G.fN i = G.fN j → i = j
  na : ∀ C j, G.na C j = true → NoAttr G.K (G.cA C) (G.fN j)

/-- a list that nobody writes -/
def SqF (K : PySem.W.Frag) (H : Hp) (a : Addr) (xs : List V) : Prop :=
  (∃ o, H a = some (.frz o (.lst xs))) ∨
    ∃ (o : PySem.Obj) (its : Array Value) (n : Nat), K.lookup a = some o ∧ o.cls = .type "list" ∧ o.dict = none ∧ o.data = .seq its n ∧ its.size ≤ sizeLine ∧ Vals xs its.toList
theorem SqF.sq {K : PySem.W.Frag} {H : Hp} {a : Addr} {xs : List V} (h : SqF K H a xs) : SqL K H a xs := by
  rcases h with ⟨o, h⟩ | h
  · exact .inl (.inr ⟨o, h⟩)
  · exact .inr h

section
variable (G : Cf) (ρ : List Addr) (H : Hp)
mutual
inductive Rep : V → Va → Prop
  | non : Rep .non .non
  | bl (b : Bool) : Rep (.bl b) (.bl b)
  | int (i : Int) : Rep (.int i) (.int i)
  | str (x : Str) : Rep (.str x) (.str x)
  | ref {n : Nat} {a : Addr} : ρ[n]? = some a → Rep (.ref a) (.ref n)
  | tup {p : Addr} {ys : List V} {xs : List Va} : SqT G.K H p ys → Reps ys xs → Rep (.ref p) (.tup xs)
  | fro {p : Addr} {ys : List V} {xs : List Va} : SqF G.K H p ys → Reps ys xs → Rep (.ref p) (.fro xs)
inductive Reps : List V → List Va → Prop
  | nil : Reps [] []
  | cons {v : V} {vs : List V} {x : Va} {xs : List Va} : Rep v x → Reps vs xs → Reps (v :: vs) (x :: xs)
end
/-- pairs: keys alike, values told -/
inductive RepK {κ : Type} : List (κ × V) → List (κ × Va) → Prop
  | nil : RepK [] []
  | cons {k : κ} {v : V} {vs : List (κ × V)} {x : Va} {xs : List (κ × Va)} : Rep G ρ H v x → RepK vs xs → RepK ((k, v) :: vs) ((k, x) :: xs)
/-- fields -/
inductive RepF : List (Str × V) → List (Nat × Va) → Prop
  | nil : RepF [] []
  | cons {j : Nat} {v : V} {vs : List (Str × V)} {x : Va} {xs : List (Nat × Va)} : Rep G ρ H v x → RepF vs xs → RepF ((G.fN j, v) :: vs) ((j, x) :: xs)
def RepO (a : Addr) : Ob → Prop
  | .lst xs => ∃ ys, H a = some (.lst ys) ∧ Reps G ρ H ys xs
  | .dic kvs => ∃ ks, H a = some (.dK ks) ∧ RepK G ρ H ks kvs
  | .ins C fs => ∃ dx gs, H a = some (.ins (G.cA C) dx gs) ∧ RepF G ρ H gs fs ∧ Cls G.K (G.cA C) ∧ (∀ q ∈ fs, G.na C q.1 = true) ∧ fs.length ≤ 100
end

structure Rel (G : Cf) (ρ : List Addr) (S : Sto) (H : Hp) : Prop where
  len : ρ.length = S.n
  nd : ρ.Nodup
  ob : ∀ (i : Nat) (a : Addr), ρ[i]? = some a → ∃ o, S.get i = some o ∧ RepO G ρ H a o

/-- later: more addresses, all tuples and locked lists as they were -/
structure Ext (G : Cf) (ρ : List Addr) (H : Hp) (ρ' : List Addr) (H' : Hp) : Prop where
  more : ∃ l, ρ' = ρ ++ l
  tup : ∀ p ys, SqT G.K H p ys → SqT G.K H' p ys
  fro : ∀ p ys, SqF G.K H p ys → SqF G.K H' p ys

section
variable {G : Cf} {ρ ρ1 ρ2 : List Addr} {H H1 H2 : Hp} {S : Sto}
theorem Ext.refl : Ext G ρ H ρ H := ⟨⟨[], by simp⟩, fun _ _ h => h, fun _ _ h => h⟩
theorem Ext.trans (a : Ext G ρ H ρ1 H1) (b : Ext G ρ1 H1 ρ2 H2) : Ext G ρ H ρ2 H2 := by
  obtain ⟨⟨l, rfl⟩, t, f⟩ := a
  obtain ⟨⟨l2, rfl⟩, t2, f2⟩ := b
  exact ⟨⟨l ++ l2, by simp⟩, fun p ys h => t2 p ys (t p ys h), fun p ys h => f2 p ys (f p ys h)⟩
theorem Ext.at (e : Ext G ρ H ρ1 H1) {n : Nat} {a : Addr} (h : ρ[n]? = some a) : ρ1[n]? = some a := by
  obtain ⟨⟨l, rfl⟩, _, _⟩ := e
  rw [List.getElem?_append_left (List.getElem?_eq_some_iff.mp h).1]
  exact h
mutual
theorem Rep.mono (e : Ext G ρ H ρ1 H1) : ∀ {v : V} {x : Va}, Rep G ρ H v x → Rep G ρ1 H1 v x
  | _, _, .non => .non
  | _, _, .bl b => .bl b
  | _, _, .int i => .int i
  | _, _, .str x => .str x
  | _, _, .ref h => .ref (e.at h)
  | _, _, .tup h r => .tup (e.tup _ _ h) (Reps.mono e r)
  | _, _, .fro h r => .fro (e.fro _ _ h) (Reps.mono e r)
theorem Reps.mono (e : Ext G ρ H ρ1 H1) : ∀ {vs : List V} {xs : List Va}, Reps G ρ H vs xs → Reps G ρ1 H1 vs xs
  | _, _, .nil => .nil
  | _, _, .cons a b => .cons (Rep.mono e a) (Reps.mono e b)
end
theorem RepK.mono {κ : Type} (e : Ext G ρ H ρ1 H1) : ∀ {vs : List (κ × V)} {xs : List (κ × Va)}, RepK G ρ H vs xs → RepK G ρ1 H1 vs xs
  | _, _, .nil => .nil
  | _, _, .cons a b => .cons (a.mono e) (RepK.mono e b)
theorem RepF.mono (e : Ext G ρ H ρ1 H1) : ∀ {vs : List (Str × V)} {xs : List (Nat × Va)}, RepF G ρ H vs xs → RepF G ρ1 H1 vs xs
  | _, _, .nil => .nil
  | _, _, .cons a b => .cons (a.mono e) (RepF.mono e b)
theorem Reps.length : ∀ {vs : List V} {xs : List Va}, Reps G ρ H vs xs → vs.length = xs.length
  | _, _, .nil => rfl
  | _, _, .cons _ b => by rw [List.length_cons, List.length_cons, Reps.length b]
theorem RepF.length : ∀ {vs : List (Str × V)} {xs : List (Nat × Va)}, RepF G ρ H vs xs → vs.length = xs.length
  | _, _, .nil => rfl
  | _, _, .cons _ b => by rw [List.length_cons, List.length_cons, RepF.length b]
theorem RepK.length {κ : Type} : ∀ {vs : List (κ × V)} {xs : List (κ × Va)}, RepK G ρ H vs xs → vs.length = xs.length
  | _, _, .nil => rfl
  | _, _, .cons _ b => by rw [List.length_cons, List.length_cons, RepK.length b]
theorem Reps.append : ∀ {vs ws : List V} {xs ys : List Va}, Reps G ρ H vs xs → Reps G ρ H ws ys → Reps G ρ H (vs ++ ws) (xs ++ ys)
  | _, _, _, _, .nil, h => h
  | _, _, _, _, .cons a b, h => .cons a (Reps.append b h)
theorem Reps.get : ∀ {vs : List V} {xs : List Va} {i : Nat} {x : Va}, Reps G ρ H vs xs → xs[i]? = some x → ∃ v, vs[i]? = some v ∧ Rep G ρ H v x
  | _, _, _, _, .nil, h => by simp at h
  | _, _, 0, x, .cons a b, h => by simp at h; subst h; exact ⟨_, rfl, a⟩
  | _, _, i + 1, x, .cons a b, h => by
    obtain ⟨v, h1, h2⟩ := Reps.get (i := i) (x := x) b (by simpa using h)
    exact ⟨v, by simpa using h1, h2⟩
theorem Reps.none : ∀ {vs : List V} {xs : List Va} {i : Nat}, Reps G ρ H vs xs → xs[i]? = Option.none → vs[i]? = Option.none := fun r h => by
  have e := r.length
  rw [List.getElem?_eq_none_iff] at h ⊢
  omega
theorem Reps.take : ∀ {vs : List V} {xs : List Va} (n : Nat), Reps G ρ H vs xs → Reps G ρ H (vs.take n) (xs.take n)
  | _, _, 0, _ => .nil
  | _, _, _ + 1, .nil => .nil
  | _, _, n + 1, .cons a b => .cons a (Reps.take n b)
theorem Reps.drop : ∀ {vs : List V} {xs : List Va} (n : Nat), Reps G ρ H vs xs → Reps G ρ H (vs.drop n) (xs.drop n)
  | _, _, 0, h => h
  | _, _, _ + 1, .nil => .nil
  | _, _, n + 1, .cons _ b => Reps.drop n b
theorem Reps.set : ∀ {vs : List V} {xs : List Va} {v : V} {x : Va} (n : Nat), Rep G ρ H v x → Reps G ρ H vs xs → Reps G ρ H (vs.set n v) (xs.set n x)
  | _, _, _, _, _, _, .nil => .nil
  | _, _, _, _, 0, h, .cons _ b => .cons h b
  | _, _, _, _, n + 1, h, .cons a b => .cons a (Reps.set n h b)
theorem Reps.cons_inv {vs : List V} {x : Va} {xs : List Va} (h : Reps G ρ H vs (x :: xs)) : ∃ v r, vs = v :: r ∧ Rep G ρ H v x ∧ Reps G ρ H r xs := by
  cases h with
  | cons a b => exact ⟨_, _, rfl, a, b⟩
theorem Reps.nil_inv {vs : List V} (h : Reps G ρ H vs []) : vs = [] := by
  cases h
  rfl

/-! ### heaps that grow, objects that change -/
theorem sqT_ext {K : PySem.W.Frag} (h : ∀ b o, H b = some o → H1 b = some o) {p : Addr} {ys : List V} (q : SqT K H p ys) : SqT K H1 p ys := by
  rcases q with (q | ⟨o, q⟩) | q
  · exact .inl (.inl (h _ _ q))
  · exact .inl (.inr ⟨o, h _ _ q⟩)
  · exact .inr q
theorem sqF_ext {K : PySem.W.Frag} (h : ∀ b o, H b = some o → H1 b = some o) {p : Addr} {ys : List V} (q : SqF K H p ys) : SqF K H1 p ys := by
  rcases q with ⟨o, q⟩ | q
  · exact .inl ⟨o, h _ _ q⟩
  · exact .inr q
theorem Ext.same (h : ∀ b o, H b = some o → H1 b = some o) : Ext G ρ H ρ H1 := ⟨⟨[], by simp⟩, fun _ _ q => sqT_ext h q, fun _ _ q => sqF_ext h q⟩
theorem Ext.same' (h : ∀ b o, H b = some o → H1 b = some o) (l : List Addr) : Ext G ρ H (ρ ++ l) H1 := ⟨⟨l, rfl⟩, fun _ _ q => sqT_ext h q, fun _ _ q => sqF_ext h q⟩
theorem same_upd {p : Addr} {o : HO} (hp : H p = none) : ∀ b u, H b = some u → upd H p o b = some u := fun b u e => by
  rw [upd_ne (ne_of_none e hp)]
  exact e
theorem RepO.keep (h : ∀ b o, H b = some o → H1 b = some o) (e : Ext G ρ H ρ1 H1) {a : Addr} {o : Ob} (r : RepO G ρ H a o) : RepO G ρ1 H1 a o := by
  cases o with
  | lst xs =>
    obtain ⟨ys, q, r⟩ := r
    exact ⟨ys, h _ _ q, r.mono e⟩
  | dic kvs =>
    obtain ⟨ks, q, r⟩ := r
    exact ⟨ks, h _ _ q, r.mono e⟩
  | ins C fs =>
    obtain ⟨dx, gs, q, r, c, n⟩ := r
    exact ⟨dx, gs, h _ _ q, r.mono e, c, n⟩
theorem RepO.some {a : Addr} {o : Ob} (r : RepO G ρ H a o) : ∃ u, H a = Option.some u ∧ Mut (Option.some u) := by
  cases o with
  | lst xs =>
    obtain ⟨ys, q, r⟩ := r
    exact ⟨_, q, trivial⟩
  | dic kvs =>
    obtain ⟨ks, q, r⟩ := r
    exact ⟨_, q, trivial⟩
  | ins C fs =>
    obtain ⟨dx, gs, q, r, c, n⟩ := r
    exact ⟨_, q, trivial⟩
/-- the heap grows by what the store doesn't speak of -/
theorem Rel.same (r : Rel G ρ S H) (h : ∀ b o, H b = some o → H1 b = some o) : Rel G ρ S H1 :=
  ⟨r.len, r.nd, fun i a e => by
    obtain ⟨o, q, x⟩ := r.ob i a e
    exact ⟨o, q, x.keep h (Ext.same h)⟩⟩
theorem Rel.at (r : Rel G ρ S H) {i : Nat} {o : Ob} (h : S.get i = some o) : ∃ a, ρ[i]? = some a ∧ RepO G ρ H a o := by
  have hl := Sto.lt h
  rw [← r.len] at hl
  obtain ⟨u, q, x⟩ := r.ob i ρ[i] (List.getElem?_eq_getElem hl)
  rw [h] at q
  cases q
  exact ⟨_, List.getElem?_eq_getElem hl, x⟩
theorem Rel.ob_of (r : Rel G ρ S H) {i : Nat} {a : Addr} {o : Ob} (h : S.get i = some o) (e : ρ[i]? = some a) : RepO G ρ H a o := by
  obtain ⟨b, q, x⟩ := r.at h
  rw [e] at q
  cases q
  exact x
theorem Rel.notin (r : Rel G ρ S H) {p : Addr} (hp : H p = none) : p ∉ ρ := fun h => by
  obtain ⟨i, hi, e⟩ := List.mem_iff_getElem.mp h
  obtain ⟨o, _, x⟩ := r.ob i p (by rw [List.getElem?_eq_getElem hi, e])
  obtain ⟨u, q, _⟩ := x.some
  rw [hp] at q
  cases q
/-- a new object at p -/
theorem Rel.new (r : Rel G ρ S H) {p : Addr} {o : Ob} (hp : H p = none) (h : ∀ b u, H b = some u → H1 b = some u) (x : RepO G (ρ ++ [p]) H1 p o) :
    Rel G (ρ ++ [p]) (S.new o) H1 ∧ Ext G ρ H (ρ ++ [p]) H1 := by
  have e : Ext G ρ H (ρ ++ [p]) H1 := Ext.same' h [p]
  refine ⟨⟨by rw [List.length_append, r.len]; rfl, ?_, fun i a q => ?_⟩, e⟩
  · refine List.nodup_append.mpr ⟨r.nd, by simp, fun a ha b hb z => ?_⟩
    have z2 : b = p := by simpa using hb
    subst z2
    subst z
    exact r.notin hp ha
  · by_cases hi : i < ρ.length
    · rw [List.getElem?_append_left hi] at q
      obtain ⟨u, q1, x1⟩ := r.ob i a q
      exact ⟨u, Sto.get_new_of q1, x1.keep h e⟩
    · have hi2 : i = ρ.length := by
        have := (List.getElem?_eq_some_iff.mp q).1
        rw [List.length_append, List.length_singleton] at this
        omega
      subst hi2
      rw [List.getElem?_append_right (Nat.le_refl _), Nat.sub_self] at q
      cases q
      refine ⟨o, ?_, x⟩
      rw [r.len]
      exact Sto.get_new
/-- the object at the i-th address is written -/
theorem Rel.put (r : Rel G ρ S H) {i : Nat} {a : Addr} {o : Ob} {u : HO} (ha : ρ[i]? = some a) (x : ∀ e : Ext G ρ H ρ (upd H a u), RepO G ρ (upd H a u) a o) :
    Rel G ρ (S.set i o) (upd H a u) ∧ Ext G ρ H ρ (upd H a u) := by
  obtain ⟨o0, q0, x0⟩ := r.ob i a ha
  obtain ⟨u0, hu0, m0⟩ := x0.some
  have e : Ext G ρ H ρ (upd H a u) := by
    refine ⟨⟨[], by simp⟩, fun p ys q => ?_, fun p ys q => ?_⟩
    · rcases q with (q | ⟨o, q⟩) | q
      · refine .inl (.inl ?_)
        rw [upd_ne (by rintro rfl; rw [hu0] at q; cases q; exact m0)]
        exact q
      · refine .inl (.inr ⟨o, ?_⟩)
        rw [upd_ne (by rintro rfl; rw [hu0] at q; cases q; exact m0)]
        exact q
      · exact .inr q
    · rcases q with ⟨o, q⟩ | q
      · refine .inl ⟨o, ?_⟩
        rw [upd_ne (by rintro rfl; rw [hu0] at q; cases q; exact m0)]
        exact q
      · exact .inr q
  refine ⟨⟨r.len, r.nd, fun j b hb => ?_⟩, e⟩
  by_cases hij : i = j
  · subst hij
    rw [ha] at hb
    cases hb
    exact ⟨o, Sto.get_set (Sto.lt q0), x e⟩
  · obtain ⟨o1, q1, x1⟩ := r.ob j b hb
    have nab : b ≠ a := by
      rintro rfl
      obtain ⟨h1, e1⟩ := List.getElem?_eq_some_iff.mp ha
      obtain ⟨h2, e2⟩ := List.getElem?_eq_some_iff.mp hb
      exact hij ((List.getElem_inj r.nd).mp (e1.trans e2.symm))
    refine ⟨o1, by rw [Sto.get_set_ne hij]; exact q1, ?_⟩
    cases o1 with
    | lst xs =>
      obtain ⟨ys, q, r⟩ := x1
      exact ⟨ys, by rw [upd_ne nab]; exact q, r.mono e⟩
    | dic kvs =>
      obtain ⟨ks, q, r⟩ := x1
      exact ⟨ks, by rw [upd_ne nab]; exact q, r.mono e⟩
    | ins C fs =>
      obtain ⟨dx, gs, q, r, c, n⟩ := x1
      exact ⟨dx, gs, by rw [upd_ne nab]; exact q, r.mono e, c, n⟩
end
end Mi
/-! Judgements: a piece of Python does what a function over stores says; one theorem a construct (expressions). -/
namespace Mi
open PySem L2

abbrev Ev := List (Option Va)
abbrev EF := Ev → Sto → R Va
abbrev BF := Ev → Sto → R Bool
abbrev AF := Ev → Sto → R (List Va)

structure RepE (G : Cf) (ρ : List Addr) (H : Hp) (σ : L2.St) (env : Ev) : Prop where
  len : σ.length = env.length
  at_ : ∀ (i : Nat) (x : Va), env[i]? = some (some x) → ∃ v, σ[i]? = some (some v) ∧ Rep G ρ H v x
theorem RepE.mono {G : Cf} {ρ ρ1 : List Addr} {H H1 : Hp} {σ : L2.St} {env : Ev} (e : Ext G ρ H ρ1 H1) (r : RepE G ρ H σ env) : RepE G ρ1 H1 σ env :=
  ⟨r.len, fun i x h => by
    obtain ⟨v, a, b⟩ := r.at_ i x h
    exact ⟨v, a, b.mono e⟩⟩
theorem RepE.set {G : Cf} {ρ : List Addr} {H : Hp} {σ : L2.St} {env : Ev} {v : V} {x : Va} (r : RepE G ρ H σ env) (h : Rep G ρ H v x) (i : Nat) : RepE G ρ H (σ.set i (some v)) (env.set i (some x)) :=
  ⟨by rw [List.length_set, List.length_set, r.len], fun j y hy => by
    by_cases e : i = j
    · subst e
      have hl : i < env.length := by
        have := (List.getElem?_eq_some_iff.mp hy).1
        rwa [List.length_set] at this
      rw [List.getElem?_set_self hl] at hy
      cases hy
      exact ⟨v, List.getElem?_set_self (by rw [r.len]; exact hl), h⟩
    · rw [List.getElem?_set_ne e] at hy
      obtain ⟨u, a, b⟩ := r.at_ j y hy
      exact ⟨u, by rw [List.getElem?_set_ne e]; exact a, b⟩⟩

/-! ### what is wanted behind a piece -/
def Out {α β : Type} (G : Cf) (P : List Addr → Hp → β → α → Prop) (ρ : List Addr) (H : Hp) (r : R α) (Q : β → Hp → Prop) : Prop := match r with
  | .ok a S' => ∀ (ρ' : List Addr) (H' : Hp) (b : β), Ext G ρ H ρ' H' → Rel G ρ' S' H' → P ρ' H' b a → Q b H'
  | .bad => False
section
variable {α β γ δ : Type} {G : Cf} {P : List Addr → Hp → β → α → Prop} {P2 : List Addr → Hp → δ → γ → Prop} {ρ ρ1 : List Addr} {H H1 : Hp} {r : R α} {Q : β → Hp → Prop} {Q2 : δ → Hp → Prop}
theorem Out.mono (e : Ext G ρ H ρ1 H1) (h : Out G P ρ H r Q) : Out G P ρ1 H1 r Q := by
  cases r with
  | bad => exact h
  | ok a S => exact fun ρ' H' b e' rel p => h ρ' H' b (e.trans e') rel p
theorem Out.ok {a : α} {b : β} {S : Sto} (h : Out G P ρ H (.ok a S) Q) (rel : Rel G ρ S H) (p : P ρ H b a) : Q b H := h ρ H b Ext.refl rel p
theorem Out.bind {k : α → Sto → R γ} (h : Out G P2 ρ H (r.bind k) Q2)
    (c : ∀ (a : α) (S' : Sto) (ρ' : List Addr) (H' : Hp) (b : β), r = .ok a S' → Ext G ρ H ρ' H' → Rel G ρ' S' H' → P ρ' H' b a → Out G P2 ρ' H' (k a S') Q2 → Q b H') : Out G P ρ H r Q := by
  cases r with
  | bad => exact h.elim
  | ok a S => exact fun ρ' H' b e rel p => c a S ρ' H' b rfl e rel p (Out.mono e h)
theorem Out.imp (h : Out G P ρ H r Q) {Q' : β → Hp → Prop} (i : ∀ b H', Q b H' → Q' b H') : Out G P ρ H r Q' := by
  cases r with
  | bad => exact h
  | ok a S => exact fun ρ' H' b e rel p => i _ _ (h ρ' H' b e rel p)
end
abbrev PV (G : Cf) : List Addr → Hp → V → Va → Prop := fun ρ H v x => Rep G ρ H v x
abbrev PVs (G : Cf) : List Addr → Hp → List V → List Va → Prop := fun ρ H v x => Reps G ρ H v x
abbrev PB : List Addr → Hp → Bool → Bool → Prop := fun _ _ b c => b = c

/-! ### the pieces' own weakest wants -/
def PEw (X : Cx) (e : Expr) : TE := fun σ H Q => ∀ pins s, Inv X pins σ H s → wpAny (model X.prog X.w) X.A (eval e X.env) (EP X pins σ Q) X.xe s
def PTw (X : Cx) (e : Expr) : TT := fun σ H Q => ∀ pins s, Inv X pins σ H s → wpAny (model X.prog X.w) X.A (isTrue e X.env (eval e X.env)) (TP X pins σ Q) X.xe s
def PWw (X : Cx) (e : Expr) : TT := fun σ H Q => ∀ whole pins s, Inv X pins σ H s → wpAny (model X.prog X.w) X.A (isTrue e X.env whole) (TP X pins σ Q) X.xe s
def PCw (X : Cx) (op : CmpOp) (a b : Expr) : TE := fun σ H Q => ∀ pins s, Inv X pins σ H s →
  wpAny (model X.prog X.w) X.A (eval a X.env) (fun v s₁ => wpAny (model X.prog X.w) X.A (eval b X.env) (fun u s₂ => wpAny (model X.prog X.w) X.A (compareOp op v u) (EP X pins σ Q) X.xe s₂) X.xe s₁) X.xe s
def PAw (X : Cx) (es : List Expr) : TA := fun σ H Q => ∀ pos pins s, Inv X pins σ H s → wpAny (model X.prog X.w) X.A (spliced (backTo pos (starEach es X.env))) (AP X pins σ Q) X.xe s
theorem pew {X : Cx} {e : Expr} : PE X e (PEw X e) := ⟨fun pins s _ _ _ I h => h pins s I⟩
theorem ptw {X : Cx} {e : Expr} : PT X e (PTw X e) := ⟨fun pins s _ _ _ I h => h pins s I⟩
theorem pww {X : Cx} {e : Expr} : PW X e (PWw X e) := ⟨fun wh pins s _ _ _ I h => h wh pins s I⟩
theorem pcw {X : Cx} {op : CmpOp} {a b : Expr} : PC X op a b (PCw X op a b) := ⟨fun pins s _ _ _ I h => h pins s I⟩
theorem paw {X : Cx} {es : List Expr} : PA X es (PAw X es) := ⟨fun pos pins s _ _ _ I h => h pos pins s I⟩
theorem PEw.by {X : Cx} {e : Expr} {t : TE} {σ : L2.St} {H : Hp} {Q : VK} (h : PE X e t) (q : t σ H Q) : PEw X e σ H Q := fun pins s I => h.run pins s σ H Q I q
theorem PTw.by {X : Cx} {e : Expr} {t : TT} {σ : L2.St} {H : Hp} {Q : Bool → Hp → Prop} (h : PT X e t) (q : t σ H Q) : PTw X e σ H Q := fun pins s I => h.run pins s σ H Q I q
theorem PWw.by {X : Cx} {e : Expr} {t : TT} {σ : L2.St} {H : Hp} {Q : Bool → Hp → Prop} (h : PW X e t) (q : t σ H Q) : PWw X e σ H Q := fun wh pins s I => h.run wh pins s σ H Q I q
theorem PCw.by {X : Cx} {op : CmpOp} {a b : Expr} {t : TE} {σ : L2.St} {H : Hp} {Q : VK} (h : PC X op a b t) (q : t σ H Q) : PCw X op a b σ H Q := fun pins s I => h.run pins s σ H Q I q
theorem PAw.by {X : Cx} {es : List Expr} {t : TA} {σ : L2.St} {H : Hp} {Q : List V → Hp → Prop} (h : PA X es t) (q : t σ H Q) : PAw X es σ H Q := fun pos pins s I => h.run pos pins s σ H Q I q

/-! ### what a context must have -/
structure GX (G : Cf) (X : Cx) : Prop where
  ok : G.Ok
  hK : X.K = G.K
  nd : X.N.Nodup
  calm : X.calm = true
  hu : X.A.units + 65 < cLine

def SE (G : Cf) (X : Cx) (e : Expr) (f : EF) : Prop := ∀ (env : Ev) (S : Sto) (ρ : List Addr) (σ : L2.St) (H : Hp) (Q : VK), RepE G ρ H σ env → Rel G ρ S H → Out G (PV G) ρ H (f env S) Q → PEw X e σ H Q
def SC (G : Cf) (X : Cx) (op : CmpOp) (a b : Expr) (f : EF) : Prop := ∀ (env : Ev) (S : Sto) (ρ : List Addr) (σ : L2.St) (H : Hp) (Q : VK), RepE G ρ H σ env → Rel G ρ S H → Out G (PV G) ρ H (f env S) Q → PCw X op a b σ H Q
def ST (G : Cf) (X : Cx) (e : Expr) (f : BF) : Prop := ∀ (env : Ev) (S : Sto) (ρ : List Addr) (σ : L2.St) (H : Hp) (Q : Bool → Hp → Prop), RepE G ρ H σ env → Rel G ρ S H → Out G PB ρ H (f env S) Q → PTw X e σ H Q
def SW (G : Cf) (X : Cx) (e : Expr) (f : BF) : Prop := ∀ (env : Ev) (S : Sto) (ρ : List Addr) (σ : L2.St) (H : Hp) (Q : Bool → Hp → Prop), RepE G ρ H σ env → Rel G ρ S H → Out G PB ρ H (f env S) Q → PWw X e σ H Q
def SA (G : Cf) (X : Cx) (es : List Expr) (f : AF) : Prop := ∀ (env : Ev) (S : Sto) (ρ : List Addr) (σ : L2.St) (H : Hp) (Q : List V → Hp → Prop), RepE G ρ H σ env → Rel G ρ S H → Out G (PVs G) ρ H (f env S) Q → PAw X es σ H Q

/-! ### names, constants -/
def mVar (i : Nat) : EF := fun env S => match env[i]? with
  | some (some v) => .ok v S
  | _ => .bad
def mC (v : Va) : EF := fun _ S => .ok v S
section
variable {G : Cf} {X : Cx} {a b c e : Expr} {es : List Expr} {fa fb fc : EF} {pos : Pos}
theorem se_var {i : Nat} {x : Str} (hN : X.N[i]? = some x) (hv : Vis X.env.scope x) (hd : (x == ("__debug__" : Str)) = false) (hcd : (x == ("__classdict__" : Str)) = false) : SE G X (.Name x pos) (mVar i) := by
  intro env S ρ σ H Q he hr h
  unfold mVar at h
  cases q : env[i]? with
  | none => rw [q] at h; exact h.elim
  | some o =>
    rw [q] at h
    cases o with
    | none => exact h.elim
    | some v =>
      obtain ⟨u, hu, ru⟩ := he.at_ i v q
      exact PEw.by (pe_var hN hv hd hcd) ⟨u, hu, Out.ok h hr ru⟩
theorem se_int {i : Int} {j : Nat} : SE G X (.Constant (.int i) j pos) (mC (.int i)) := fun env S ρ σ H Q he hr h => PEw.by pe_int (Out.ok h hr (.int i))
theorem se_bl {i : Bool} {j : Nat} : SE G X (.Constant (.bool i) j pos) (mC (.bl i)) := fun env S ρ σ H Q he hr h => PEw.by pe_bl (Out.ok h hr (.bl i))
theorem se_non {j : Nat} : SE G X (.Constant .none j pos) (mC .non) := fun env S ρ σ H Q he hr h => PEw.by pe_non (Out.ok h hr .non)
theorem se_str {x y : Str} {j : Nat} (e : x = y) : SE G X (.Constant (.str x) j pos) (mC (.str y)) := by
  subst e
  exact fun env S ρ σ H Q he hr h => PEw.by pe_str (Out.ok h hr (.str x))
/-- a module's constant: an int, a text -/
theorem se_gint {x : Str} {i : Int} (hg : Gl X x) (hm : ∃ t, X.mg x = some (.int i t)) (hd : (x == ("__debug__" : Str)) = false) : SE G X (.Name x pos) (mC (.int i)) := by
  obtain ⟨t, hm⟩ := hm
  exact fun env S ρ σ H Q he hr h => PEw.by (pe_glob hg hm (v := .int i) ⟨t, rfl⟩ hd) (Out.ok h hr (.int i))
theorem se_gstr {x y : Str} (hg : Gl X x) (hm : ∃ t, X.mg x = some (.str y t)) (hd : (x == ("__debug__" : Str)) = false) : SE G X (.Name x pos) (mC (.str y)) := by
  obtain ⟨t, hm⟩ := hm
  exact fun env S ρ σ H Q he hr h => PEw.by (pe_glob hg hm (v := .str y) ⟨t, rfl⟩ hd) (Out.ok h hr (.str y))
/-- a module's constant that is a tuple -/
theorem se_gtup {x : Str} {p : Addr} {ys : List V} {xs : List Va} (hK : X.K = G.K) (hg : Gl X x) (hm : X.mg x = some (.ref p)) (ht : ∀ H, SqT G.K H p ys) (hr : ∀ ρ H, Reps G ρ H ys xs) (hd : (x == ("__debug__" : Str)) = false) : SE G X (.Name x pos) (mC (.tup xs)) :=
  fun env S ρ σ H Q he rl h => PEw.by (pe_glob hg hm (v := .ref p) rfl hd) (Out.ok h rl (.tup (ht H) (hr ρ H)))

/-! ### two-place operations -/
abbrev G2 := Va → Va → Sto → R Va
def mBin (g : G2) (a b : EF) : EF := fun env S => (a env S).bind fun x S1 => (b env S1).bind fun y S2 => g x y S2
def OpW (X : Cx) (f : Value → Value → Sem Value) : R2 := fun x y H Q => ∀ pins s σ v u, Inv X pins σ H s → RelV x v → RelV y u → wpAny (model X.prog X.w) X.A (f v u) (EP X pins σ Q) X.xe s
theorem opw {f : Value → Value → Sem Value} : OpR X f (OpW X f) := fun pins s σ H x y v u Q I rx ry h => h pins s σ v u I rx ry
theorem OpW.by {f : Value → Value → Sem Value} {r : R2} (h : OpR X f r) {x y : V} {H : Hp} {Q : VK} (q : r x y H Q) : OpW X f x y H Q := fun pins s σ v u I rx ry => h pins s σ H x y v u Q I rx ry q
def OpS (G : Cf) (X : Cx) (f : Value → Value → Sem Value) (g : G2) : Prop := ∀ (x y : Va) (v u : V) (S : Sto) (ρ : List Addr) (H : Hp) (Q : VK), Rel G ρ S H → Rep G ρ H v x → Rep G ρ H u y → Out G (PV G) ρ H (g x y S) Q → OpW X f v u H Q
theorem se_bin {op : Operator} {g : G2} (ho : OpS G X (binaryOp op) g) (ha : SE G X a fa) (hb : SE G X b fb) : SE G X (.BinOp a op b pos) (mBin g fa fb) := by
  intro env S ρ σ H Q he hr h
  refine PEw.by (pe_op opw pew pew) (ha env S ρ σ H _ he hr (Out.bind h fun x S1 ρ1 H1 v _ e1 r1 p1 h1 => ?_))
  refine hb env S1 ρ1 σ H1 _ (he.mono e1) r1 (Out.bind h1 fun y S2 ρ2 H2 u _ e2 r2 p2 h2 => ?_)
  exact ho x y v u S2 ρ2 H2 Q r2 (p1.mono e2) p2 h2
theorem sc_op {op : CmpOp} {g : G2} (ho : OpS G X (compareOp op) g) (ha : SE G X a fa) (hb : SE G X b fb) : SC G X op a b (mBin g fa fb) := by
  intro env S ρ σ H Q he hr h pins s I
  refine thn (ha env S ρ σ H (fun v H1 => ∀ s, Inv X pins σ H1 s → ∀ u, RelV v u → wpAny (model X.prog X.w) X.A (eval b X.env) (fun u' s₂ => wpAny (model X.prog X.w) X.A (compareOp op u u') (EP X pins σ Q) X.xe s₂) X.xe s) he hr (Out.bind h fun x S1 ρ1 H1 v _ e1 r1 p1 h1 => ?_) pins s I)
    fun u s1 ⟨v, H1, I1, r1, q1⟩ => q1 s1 I1 u r1
  intro s1 I1 u ru
  refine thn (hb env S1 ρ1 σ H1 (fun v' H2 => OpW X (compareOp op) v v' H2 Q) (he.mono e1) r1 (Out.bind h1 fun y S2 ρ2 H2 u2 _ e2 r2 p2 h2 => ?_) pins s1 I1) fun u' s2 ⟨v', H2, I2, r2, q2⟩ => q2 pins s2 σ _ _ I2 ru r2
  exact ho x y v u2 S2 ρ2 H2 Q r2 (p1.mono e2) p2 h2
theorem se_cmp {op : CmpOp} (h : SC G X op a b fa) (hm : behindInMarks op b = false) : SE G X (.Compare a [op] [b] pos) fa := fun env S ρ σ H Q he hr q => PEw.by (pe_cmp pcw hm) (h env S ρ σ H Q he hr q)
def mBool (f : EF) : BF := fun env S => (f env S).bind fun x S1 => match x with
  | .bl k => .ok k S1
  | _ => .bad
theorem st_cmp {op : CmpOp} (h : SC G X op a b fa) (hm : behindInMarks op b = false) : ST G X (.Compare a [op] [b] pos) (mBool fa) := by
  intro env S ρ σ H Q he hr q
  refine PTw.by (pt_cmp pcw hm) (h env S ρ σ H _ he hr (Out.bind q fun x S1 ρ1 H1 v _ e1 r1 p1 h1 => ?_))
  cases p1 with
  | bl k => exact ⟨k, rfl, Out.ok h1 r1 rfl⟩
  | _ => exact h1.elim

/-- a op b op' c -/
def mChain (g g' : G2) (a b c : EF) : EF := fun env S => (a env S).bind fun x S1 => (b env S1).bind fun y S2 => (g x y S2).bind fun z S3 => match z with
  | .bl true => (c env S3).bind fun w S4 => g' y w S4
  | .bl false => .ok (.bl false) S3
  | _ => .bad
theorem se_chain {op op' : CmpOp} {g g' : G2} (ho : OpS G X (compareOp op) g) (ho' : OpS G X (compareOp op') g') (ha : SE G X a fa) (hb : SE G X b fb) (hc : SE G X c fc) (h1 : behindInMarks op b = false) (h2 : behindInMarks op' c = false)
    (hpe : ∀ {r r' : R2} {ta tb tc : TE}, OpR X (compareOp op) r → OpR X (compareOp op') r' → PE X a ta → PE X b tb → PE X c tc → PE X (.Compare a [op, op'] [b, c] pos) (tChain r r' ta tb tc)) : SE G X (.Compare a [op, op'] [b, c] pos) (mChain g g' fa fb fc) := by
  intro env S ρ σ H Q he hr h
  refine PEw.by (hpe opw opw pew pew pew) (ha env S ρ σ H _ he hr (Out.bind h fun x S1 ρ1 H1 v _ e1 r1 p1 h1 => ?_))
  refine hb env S1 ρ1 σ H1 _ (he.mono e1) r1 (Out.bind h1 fun y S2 ρ2 H2 u _ e2 r2 p2 h2 => ?_)
  refine ho x y v u S2 ρ2 H2 _ r2 (p1.mono e2) p2 (Out.bind h2 fun z S3 ρ3 H3 t _ e3 r3 p3 h3 => ?_)
  cases p3 with
  | bl k =>
    refine ⟨k, rfl, ?_⟩
    cases k with
    | false => exact Out.ok h3 r3 (.bl false)
    | true =>
      refine hc env S3 ρ3 σ H3 _ (he.mono ((e1.trans e2).trans e3)) r3 (Out.bind h3 fun w S4 ρ4 H4 t4 _ e4 r4 p4 h4 => ?_)
      exact ho' y w u t4 S4 ρ4 H4 Q r4 (p2.mono (e3.trans e4)) p4 h4
  | _ => exact h3.elim

theorem st_chain {op op' : CmpOp} {g g' : G2} (ho : OpS G X (compareOp op) g) (ho' : OpS G X (compareOp op') g') (ha : SE G X a fa) (hb : SE G X b fb) (hc : SE G X c fc)
    (hpt : ∀ {r r' : R2} {ta tb tc : TE}, OpR X (compareOp op) r → OpR X (compareOp op') r' → PE X a ta → PE X b tb → PE X c tc → PT X (.Compare a [op, op'] [b, c] pos) (tTest (tChain r r' ta tb tc))) : ST G X (.Compare a [op, op'] [b, c] pos) (mBool (mChain g g' fa fb fc)) := by
  intro env S ρ σ H Q he hr h
  have fin : ∀ {ρ1 : List Addr} {H1 : Hp} {z : Va} {S1 : Sto} {v : V}, Rel G ρ1 S1 H1 → Rep G ρ1 H1 v z → Out G PB ρ1 H1 (match z with | .bl k => R.ok k S1 | _ => .bad) Q → ∃ k, v = .bl k ∧ Q k H1 := by
    intro ρ1 H1 z S1 v r1 p h
    cases p with
    | bl k => exact ⟨k, rfl, Out.ok h r1 rfl⟩
    | _ => exact h.elim
  have h0 : Out G PB ρ H ((fa env S).bind fun x S1 => ((fb env S1).bind fun y S2 => (g x y S2).bind fun z S3 => match z with | .bl true => (fc env S3).bind fun w S4 => g' y w S4 | .bl false => .ok (.bl false) S3 | _ => .bad).bind fun z S5 => match z with | .bl k => .ok k S5 | _ => .bad) Q := by
    unfold mBool mChain at h
    cases q : fa env S with
    | bad => rw [q] at h; exact h
    | ok x S1 => rw [q] at h; exact h
  refine PTw.by (hpt opw opw pew pew pew) (ha env S ρ σ H _ he hr (Out.bind h0 fun x S1 ρ1 H1 v _ e1 r1 p1 h1 => ?_))
  have h1' : Out G PB ρ1 H1 ((fb env S1).bind fun y S2 => ((g x y S2).bind fun z S3 => match z with | .bl true => (fc env S3).bind fun w S4 => g' y w S4 | .bl false => .ok (.bl false) S3 | _ => .bad).bind fun z S5 => match z with | .bl k => .ok k S5 | _ => .bad) Q := by
    cases q : fb env S1 with
    | bad => rw [q] at h1; exact h1
    | ok y S2 => rw [q] at h1; exact h1
  refine hb env S1 ρ1 σ H1 _ (he.mono e1) r1 (Out.bind h1' fun y S2 ρ2 H2 u _ e2 r2 p2 h2 => ?_)
  have h2' : Out G PB ρ2 H2 ((g x y S2).bind fun z S3 => (match z with | .bl true => (fc env S3).bind fun w S4 => g' y w S4 | .bl false => .ok (.bl false) S3 | _ => .bad).bind fun z S5 => match z with | .bl k => .ok k S5 | _ => .bad) Q := by
    cases q : g x y S2 with
    | bad => rw [q] at h2; exact h2
    | ok z S3 => rw [q] at h2; exact h2
  refine ho x y v u S2 ρ2 H2 _ r2 (p1.mono e2) p2 (Out.bind h2' fun z S3 ρ3 H3 t _ e3 r3 p3 h3 => ?_)
  cases p3 with
  | bl k =>
    refine ⟨k, rfl, ?_⟩
    cases k with
    | false => exact ⟨false, rfl, Out.ok h3 r3 rfl⟩
    | true =>
      have h3' : Out G PB ρ3 H3 ((fc env S3).bind fun w S4 => (g' y w S4).bind fun z S5 => match z with | .bl k => .ok k S5 | _ => .bad) Q := by
        cases q : fc env S3 with
        | bad =>
          have h3a : Out G PB ρ3 H3 (((fc env S3).bind fun w S4 => g' y w S4).bind fun z S5 => match z with | .bl k => .ok k S5 | _ => .bad) Q := h3
          rw [q] at h3a; exact h3a
        | ok w S4 =>
          have h3a : Out G PB ρ3 H3 (((fc env S3).bind fun w S4 => g' y w S4).bind fun z S5 => match z with | .bl k => .ok k S5 | _ => .bad) Q := h3
          rw [q] at h3a; exact h3a
      refine hc env S3 ρ3 σ H3 _ (he.mono ((e1.trans e2).trans e3)) r3 (Out.bind h3' fun w S4 ρ4 H4 t4 _ e4 r4 p4 h4 => ?_)
      refine ho' y w u t4 S4 ρ4 H4 _ r4 (p2.mono (e3.trans e4)) p4 (Out.bind h4 fun z S5 ρ5 H5 t5 _ e5 r5 p5 h5 => ?_)
      exact fin r5 p5 h5
  | _ => exact h3.elim

/-! ### truth -/
def truth (x : Va) (S : Sto) : Option Bool := match x with
  | .non => some false
  | .bl b => some b
  | .int i => some (i != 0)
  | .str y => if y.length ≤ sizeLine then some ((y.length : Int) != 0) else none
  | .tup xs => some (!xs.isEmpty)
  | .fro xs => some (!xs.isEmpty)
  | .ref n => match S.get n with
    | some (.lst xs) => some (!xs.isEmpty)
    | some (.dic kvs) => some (!kvs.isEmpty)
    | _ => none
theorem isEmpty_len {α β : Type} {a : List α} {b : List β} (h : a.length = b.length) : a.isEmpty = b.isEmpty := by
  cases a <;> cases b <;> simp_all
theorem truV {ρ : List Addr} {H : Hp} {S : Sto} {v : V} {x : Va} {k : Bool} (hr : Rel G ρ S H) (p : Rep G ρ H v x) (h : truth x S = some k) : TruV G.K v H k := by
  cases p with
  | non => exact (Option.some.inj h).symm
  | bl b => exact (Option.some.inj h).symm
  | int i => exact (Option.some.inj h).symm
  | str y =>
    have h' : (if y.length ≤ sizeLine then some ((y.length : Int) != 0) else none) = some k := h
    by_cases e : y.length ≤ sizeLine
    · rw [if_pos e] at h'
      exact ⟨e, (Option.some.inj h').symm⟩
    · rw [if_neg e] at h'; cases h'
  | tup q r => exact .inr (.inl ⟨_, q, by rw [isEmpty_len r.length]; exact (Option.some.inj h).symm⟩)
  | fro q r => exact .inl ⟨_, q.sq, by rw [isEmpty_len r.length]; exact (Option.some.inj h).symm⟩
  | ref q =>
    rename_i n a
    have h' : (match S.get n with | some (.lst xs) => some (!xs.isEmpty) | some (.dic kvs) => some (!kvs.isEmpty) | _ => none) = some k := h
    cases g : S.get n with
    | none => rw [g] at h'; cases h'
    | some o =>
      rw [g] at h'
      have x := hr.ob_of g q
      cases o with
      | lst xs =>
        obtain ⟨ys, e, r⟩ := x
        exact .inl ⟨ys, SqL.of e, by rw [isEmpty_len r.length]; exact (Option.some.inj h').symm⟩
      | dic kvs =>
        obtain ⟨ys, e, r⟩ := x
        exact .inr (.inr ⟨ys, e, by rw [isEmpty_len r.length]; exact (Option.some.inj h').symm⟩)
      | ins C fs => cases h'
def mTru (f : EF) : BF := fun env S => (f env S).bind fun x S1 => match truth x S1 with
  | some k => .ok k S1
  | none => .bad
theorem st_tru (gx : GX G X) (ha : SE G X a fa) (he : ∀ whole, isTrue a X.env whole = (do let v ← whole; standAt a.pos; holding [v] (truthy v))) : ST G X a (mTru fa) := by
  intro env S ρ σ H Q hv hr h
  refine PTw.by (pt_truth pew he) (ha env S ρ σ H _ hv hr (Out.bind h fun x S1 ρ1 H1 v _ e1 r1 p1 h1 => ?_))
  cases q : truth x S1 with
  | none => rw [q] at h1; exact h1.elim
  | some k =>
    rw [q] at h1
    exact ⟨k, by rw [gx.hK]; exact truV r1 p1 q, Out.ok h1 r1 rfl⟩
def mNotB (f : BF) : BF := fun env S => (f env S).bind fun k S1 => .ok (!k) S1
theorem st_not {f : BF} (ha : ST G X a f) : ST G X (.UnaryOp .Not a pos) (mNotB f) := by
  intro env S ρ σ H Q hv hr h
  refine PTw.by (pt_not ptw) (ha env S ρ σ H _ hv hr (Out.bind h fun x S1 ρ1 H1 v _ e1 r1 p1 h1 => ?_))
  subst p1
  exact Out.ok h1 r1 rfl
def mAndB (f g : BF) : BF := fun env S => (f env S).bind fun k S1 => match k with
  | true => g env S1
  | false => .ok false S1
def mOrB (f g : BF) : BF := fun env S => (f env S).bind fun k S1 => match k with
  | true => .ok true S1
  | false => g env S1
theorem sw_and1 {f : BF} (ha : ST G X a f) : SW G X (.BoolOp .And [a] pos) f := fun env S ρ σ H Q hv hr h => PWw.by (pw_and1 ptw) (ha env S ρ σ H Q hv hr h)
theorem sw_or1 {f : BF} (ha : ST G X a f) : SW G X (.BoolOp .Or [a] pos) f := fun env S ρ σ H Q hv hr h => PWw.by (pw_or1 ptw) (ha env S ρ σ H Q hv hr h)
theorem sw_and {f g : BF} {rest : List Expr} (ha : ST G X a f) (hb : SW G X (.BoolOp .And (b :: rest) pos) g) : SW G X (.BoolOp .And (a :: b :: rest) pos) (mAndB f g) := by
  intro env S ρ σ H Q hv hr h
  refine PWw.by (pw_and ptw pww) (ha env S ρ σ H _ hv hr (Out.bind h fun x S1 ρ1 H1 v _ e1 r1 p1 h1 => ?_))
  subst p1
  cases v with
  | true => exact hb env S1 ρ1 σ H1 Q (hv.mono e1) r1 h1
  | false => exact Out.ok h1 r1 rfl
theorem sw_or {f g : BF} {rest : List Expr} (ha : ST G X a f) (hb : SW G X (.BoolOp .Or (b :: rest) pos) g) : SW G X (.BoolOp .Or (a :: b :: rest) pos) (mOrB f g) := by
  intro env S ρ σ H Q hv hr h
  refine PWw.by (pw_or ptw pww) (ha env S ρ σ H _ hv hr (Out.bind h fun x S1 ρ1 H1 v _ e1 r1 p1 h1 => ?_))
  subst p1
  cases v with
  | false => exact hb env S1 ρ1 σ H1 Q (hv.mono e1) r1 h1
  | true => exact Out.ok h1 r1 rfl
theorem st_w {f : BF} (h : SW G X a f) : ST G X a f := fun env S ρ σ H Q hv hr q => PTw.by (PW.pt pww) (h env S ρ σ H Q hv hr q)

/-! ### and, or, not as values; a if t else b -/
def mAndV (f g : EF) : EF := fun env S => (f env S).bind fun x S1 => match truth x S1 with
  | some true => g env S1
  | some false => .ok x S1
  | none => .bad
def mOrV (f g : EF) : EF := fun env S => (f env S).bind fun x S1 => match truth x S1 with
  | some true => .ok x S1
  | some false => g env S1
  | none => .bad
def mNotV (f : EF) : EF := fun env S => (f env S).bind fun x S1 => match truth x S1 with
  | some k => .ok (.bl (!k)) S1
  | none => .bad
theorem se_one {op : BoolOp} (ha : SE G X a fa) : SE G X (.BoolOp op [a] pos) fa := fun env S ρ σ H Q hv hr q => PEw.by (pe_one pew) (ha env S ρ σ H Q hv hr q)
theorem se_and {rest : List Expr} (gx : GX G X) (ha : SE G X a fa) (hb : SE G X (.BoolOp .And (b :: rest) pos) fb) : SE G X (.BoolOp .And (a :: b :: rest) pos) (mAndV fa fb) := by
  intro env S ρ σ H Q hv hr h
  refine PEw.by (pe_andT pew pew) (ha env S ρ σ H _ hv hr (Out.bind h fun x S1 ρ1 H1 v _ e1 r1 p1 h1 => ?_))
  cases q : truth x S1 with
  | none => rw [q] at h1; exact h1.elim
  | some k =>
    rw [q] at h1
    refine ⟨k, by rw [gx.hK]; exact truV r1 p1 q, ?_⟩
    cases k with
    | true => exact hb env S1 ρ1 σ H1 Q (hv.mono e1) r1 h1
    | false => exact Out.ok h1 r1 p1
theorem se_or {rest : List Expr} (gx : GX G X) (ha : SE G X a fa) (hb : SE G X (.BoolOp .Or (b :: rest) pos) fb) : SE G X (.BoolOp .Or (a :: b :: rest) pos) (mOrV fa fb) := by
  intro env S ρ σ H Q hv hr h
  refine PEw.by (pe_orT pew pew) (ha env S ρ σ H _ hv hr (Out.bind h fun x S1 ρ1 H1 v _ e1 r1 p1 h1 => ?_))
  cases q : truth x S1 with
  | none => rw [q] at h1; exact h1.elim
  | some k =>
    rw [q] at h1
    refine ⟨k, by rw [gx.hK]; exact truV r1 p1 q, ?_⟩
    cases k with
    | false => exact hb env S1 ρ1 σ H1 Q (hv.mono e1) r1 h1
    | true => exact Out.ok h1 r1 p1
theorem se_not (gx : GX G X) (ha : SE G X a fa) : SE G X (.UnaryOp .Not a pos) (mNotV fa) := by
  intro env S ρ σ H Q hv hr h
  refine PEw.by (pe_notT pew) (ha env S ρ σ H _ hv hr (Out.bind h fun x S1 ρ1 H1 v _ e1 r1 p1 h1 => ?_))
  cases q : truth x S1 with
  | none => rw [q] at h1; exact h1.elim
  | some k =>
    rw [q] at h1
    exact ⟨k, by rw [gx.hK]; exact truV r1 p1 q, Out.ok h1 r1 (.bl (!k))⟩
def mIf (t : BF) (a b : EF) : EF := fun env S => (t env S).bind fun k S1 => match k with
  | true => a env S1
  | false => b env S1
theorem se_if {f : BF} (hc : ST G X c f) (ha : SE G X a fa) (hb : SE G X b fb) : SE G X (.IfExp c a b pos) (mIf f fa fb) := by
  intro env S ρ σ H Q hv hr h
  refine PEw.by (pe_ifExp ptw pew pew) (hc env S ρ σ H _ hv hr (Out.bind h fun x S1 ρ1 H1 v _ e1 r1 p1 h1 => ?_))
  subst p1
  cases v with
  | true => exact ha env S1 ρ1 σ H1 Q (hv.mono e1) r1 h1
  | false => exact hb env S1 ρ1 σ H1 Q (hv.mono e1) r1 h1

/-! ### argument lists, displays -/
def mNil : AF := fun _ S => .ok [] S
def mCons (f : EF) (g : AF) : AF := fun env S => (f env S).bind fun x S1 => (g env S1).bind fun xs S2 => .ok (x :: xs) S2
theorem sa_nil : SA G X [] mNil := fun env S ρ σ H Q hv hr h => PAw.by pa_nil (Out.ok h hr .nil)
theorem sa_cons {f : AF} (ha : SE G X a fa) (hb : SA G X es f) (hs : starEach (a :: es) X.env = (false, eval a X.env) :: starEach es X.env) : SA G X (a :: es) (mCons fa f) := by
  intro env S ρ σ H Q hv hr h
  refine PAw.by (pa_cons pew paw hs) (ha env S ρ σ H _ hv hr (Out.bind h fun x S1 ρ1 H1 v _ e1 r1 p1 h1 => ?_))
  refine hb env S1 ρ1 σ H1 _ (hv.mono e1) r1 (Out.bind h1 fun xs S2 ρ2 H2 vs _ e2 r2 p2 h2 => ?_)
  exact Out.ok h2 r2 (.cons (p1.mono e2) p2)
def mTup (f : AF) : EF := fun env S => (f env S).bind fun xs S1 => match Nat.ble xs.length 1000 with
  | true => .ok (.tup xs) S1
  | false => .bad
def mLst (f : AF) : EF := fun env S => (f env S).bind fun xs S1 => match Nat.ble xs.length 1000 with
  | true => .ok (.ref S1.n) (S1.new (.lst xs))
  | false => .bad
theorem le1000 {n : Nat} (h : Nat.ble n 1000 = true) : n ≤ sizeLine := Nat.le_trans (Nat.le_of_ble_eq_true h) (by decide)
/-- a value that is a new tuple -/
theorem Out.tup {ρ : List Addr} {H : Hp} {S : Sto} {xs : List Va} {ys : List V} {Q : VK} (h : Out G (PV G) ρ H (.ok (.tup xs) S) Q) (hr : Rel G ρ S H) (r : Reps G ρ H ys xs) (p : Addr) (hp : H p = none) : Q (.ref p) (upd H p (.tup ys)) :=
  h ρ _ _ (Ext.same (same_upd hp)) (hr.same (same_upd hp)) (.tup (.inl (.inl upd_same)) (r.mono (Ext.same (same_upd hp))))
/-- a value that is a new list -/
theorem Out.lst {ρ : List Addr} {H : Hp} {S : Sto} {xs : List Va} {ys : List V} {Q : VK} (h : Out G (PV G) ρ H (.ok (.ref S.n) (S.new (.lst xs))) Q) (hr : Rel G ρ S H) (r : Reps G ρ H ys xs) (p : Addr) (hp : H p = none) : Q (.ref p) (upd H p (.lst ys)) := by
  obtain ⟨r1, e1⟩ := hr.new (o := .lst xs) hp (same_upd (o := .lst ys) hp) ⟨ys, upd_same, r.mono (Ext.same' (same_upd hp) [p])⟩
  refine h _ _ _ e1 r1 (.ref ?_)
  rw [← hr.len]
  simp
/-- a value that is a new dict -/
theorem Out.dic {ρ : List Addr} {H : Hp} {S : Sto} {xs : List (Key × Va)} {ys : List (Key × V)} {Q : VK} (h : Out G (PV G) ρ H (.ok (.ref S.n) (S.new (.dic xs))) Q) (hr : Rel G ρ S H) (r : RepK G ρ H ys xs) (p : Addr) (hp : H p = none) : Q (.ref p) (upd H p (.dK ys)) := by
  obtain ⟨r1, e1⟩ := hr.new (o := .dic xs) hp (same_upd (o := .dK ys) hp) ⟨ys, upd_same, r.mono (Ext.same' (same_upd hp) [p])⟩
  refine h _ _ _ e1 r1 (.ref ?_)
  rw [← hr.len]
  simp
theorem se_tup {f : AF} {x1 : Nat} (ha : SA G X es f) : SE G X (.Tuple es x1 pos) (mTup f) := by
  intro env S ρ σ H Q hv hr h
  refine PEw.by (pe_tup paw) (ha env S ρ σ H _ hv hr (Out.bind h fun xs S1 ρ1 H1 vs _ e1 r1 p1 h1 => ?_))
  cases q : Nat.ble xs.length 1000 with
  | false => rw [q] at h1; exact h1.elim
  | true =>
    rw [q] at h1
    exact ⟨by rw [p1.length]; exact le1000 q, fun p hp => Out.tup h1 r1 p1 p hp⟩
theorem se_lst {f : AF} (ha : SA G X es f) : SE G X (.List es pos) (mLst f) := by
  intro env S ρ σ H Q hv hr h
  refine PEw.by (pe_lst paw) (ha env S ρ σ H _ hv hr (Out.bind h fun xs S1 ρ1 H1 vs _ e1 r1 p1 h1 => ?_))
  cases q : Nat.ble xs.length 1000 with
  | false => rw [q] at h1; exact h1.elim
  | true =>
    rw [q] at h1
    exact ⟨by rw [p1.length]; exact le1000 q, fun p hp => Out.lst h1 r1 p1 p hp⟩
/-! ### -n -/
def mNeg (f : EF) : EF := fun env S => (f env S).bind fun x S1 => match x with
  | .int i => .ok (.int (-i)) S1
  | _ => .bad
theorem se_neg (ha : SE G X a fa) : SE G X (.UnaryOp .USub a pos) (mNeg fa) := by
  intro env S ρ σ H Q hv hr h
  refine PEw.by (pe_un un_neg pew) (ha env S ρ σ H _ hv hr (Out.bind h fun x S1 ρ1 H1 v _ e1 r1 p1 h1 => ?_))
  cases p1 with
  | int i => exact ⟨i, rfl, Out.ok h1 r1 (.int _)⟩
  | _ => exact h1.elim
end
end Mi
/-! Operators, comparisons, subscripts, slices by values. -/
namespace Mi
open PySem L2
section
variable {G : Cf} {X : Cx} {a b c e : Expr} {es : List Expr} {fa fb fc : EF} {pos : Pos}

/-! ### ints -/
def okMul (i j : Int) : Bool := (decide (-(2 ^ 64) < i) && decide (i < 2 ^ 64)) || (decide (-(2 ^ 64) < j) && decide (j < 2 ^ 64))
def okDiv (j : Int) : Bool := decide (0 < j) && decide (j < 1073741824)
def okPow (i j : Int) : Bool := decide (0 ≤ j) && (decide (j ≤ 1000000) && decide (i.natAbs < 2 ^ 64))
def gAdd : G2 := fun x y S => match x, y with
  | .int i, .int j => .ok (.int (i + j)) S
  | .str i, .str j => match Nat.ble (i.length + j.length) 16777216 with
    | true => .ok (.str (i ++ j)) S
    | false => .bad
  | .tup i, .tup j => match Nat.ble (i.length + j.length) 16777216 with
    | true => .ok (.tup (i ++ j)) S
    | false => .bad
  | .ref n, .ref m => match S.get n, S.get m with
    | some (.lst i), some (.lst j) => match Nat.ble (i.length + j.length) 16777216 with
      | true => .ok (.ref S.n) (S.new (.lst (i ++ j)))
      | false => .bad
    | _, _ => .bad
  | _, _ => .bad
def gSub : G2 := fun x y S => match x, y with
  | .int i, .int j => .ok (.int (i - j)) S
  | _, _ => .bad
def gMul : G2 := fun x y S => match x, y with
  | .int i, .int j => match okMul i j with
    | true => .ok (.int (i * j)) S
    | false => .bad
  | .ref n, .int k => match S.get n with
    | some (.lst xs) => match decide (-(2 ^ 63) ≤ k) && (decide (k < 2 ^ 63) && Nat.ble (xs.length * k.toNat) 16777216) with
      | true => .ok (.ref S.n) (S.new (.lst (List.replicate k.toNat xs).flatten))
      | false => .bad
    | _ => .bad
  | _, _ => .bad
def gDiv : G2 := fun x y S => match x, y with
  | .int i, .int j => match okDiv j with
    | true => .ok (.int (i / j)) S
    | false => .bad
  | _, _ => .bad
def gMod : G2 := fun x y S => match x, y with
  | .int i, .int j => match decide (0 < j) with
    | true => .ok (.int (i % j)) S
    | false => .bad
  | _, _ => .bad
def gPow : G2 := fun x y S => match x, y with
  | .int i, .int j => match okPow i j with
    | true => .ok (.int (i ^ j.toNat)) S
    | false => .bad
  | _, _ => .bad
theorem ble_line {n : Nat} (h : Nat.ble n 16777216 = true) : n ≤ sizeLine := Nat.le_trans (Nat.le_of_ble_eq_true h) (by rw [sizeLine_eq]; exact Nat.le_refl _)
theorem Reps.replicate {ρ : List Addr} {H : Hp} {ys : List V} {xs : List Va} (r : Reps G ρ H ys xs) : ∀ n : Nat, Reps G ρ H (List.replicate n ys).flatten (List.replicate n xs).flatten
  | 0 => .nil
  | n + 1 => by
    rw [List.replicate_succ, List.replicate_succ, List.flatten_cons, List.flatten_cons]
    exact r.append (Reps.replicate r n)
theorem reps_nil {ρ : List Addr} {H : Hp} {ys : List V} {xs : List Va} (r : Reps G ρ H ys xs) : ys = [] ↔ xs = [] := by
  cases r <;> simp
theorem Rel.lst {S : Sto} {ρ : List Addr} {H : Hp} {n : Nat} {p : Addr} {xs : List Va} (hr : Rel G ρ S H) (h : S.get n = some (.lst xs)) (e : ρ[n]? = some p) : ∃ ys, H p = some (.lst ys) ∧ Reps G ρ H ys xs := hr.ob_of h e
theorem ops_add (gx : GX G X) : OpS G X (binaryOp .Add) gAdd := by
  intro x y v u S ρ H Q hr px py h
  cases px with
  | int i => cases py with
    | int j => exact OpW.by op_add ⟨i, j, rfl, rfl, Out.ok h hr (.int _)⟩
    | _ => exact h.elim
  | str i => cases py with
    | str j =>
      have h' : Out G (PV G) ρ H (match Nat.ble (i.length + j.length) 16777216 with | true => .ok (.str (i ++ j)) S | false => .bad) Q := h
      cases q : Nat.ble (i.length + j.length) 16777216 with
      | false => rw [q] at h'; exact h'.elim
      | true => rw [q] at h'; exact OpW.by op_add_str ⟨i, j, rfl, rfl, ble_line q, Out.ok h' hr (.str _)⟩
    | _ => exact h.elim
  | tup t1 r1 =>
    cases py with
    | tup t2 r2 =>
      rename_i p ys xs p2 ys2 xs2
      have h' : Out G (PV G) ρ H (match Nat.ble (xs.length + xs2.length) 16777216 with | true => .ok (.tup (xs ++ xs2)) S | false => .bad) Q := h
      cases q : Nat.ble (xs.length + xs2.length) 16777216 with
      | false => rw [q] at h'; exact h'.elim
      | true =>
        rw [q] at h'
        refine OpW.by op_catA ⟨_, _, _, _, rfl, rfl, by rw [gx.hK]; exact t1, by rw [gx.hK]; exact t2, by rw [r1.length, r2.length]; exact ble_line q, fun e => ?_, fun e1 e2 => ?_, fun _ _ p hp => Out.tup h' hr (r1.append r2) p hp⟩
        · have e' := (reps_nil r1).mp e
          subst e'
          exact Out.ok h' hr (.tup t2 r2)
        · have e' := (reps_nil r2).mp e2
          subst e'
          rw [List.append_nil] at h'
          exact Out.ok h' hr (.tup t1 r1)
    | _ => exact h.elim
  | ref e1 =>
    cases py with
    | ref e2 =>
      rename_i n p m p2
      have h' : Out G (PV G) ρ H (match S.get n, S.get m with | some (.lst i), some (.lst j) => (match Nat.ble (i.length + j.length) 16777216 with | true => .ok (.ref S.n) (S.new (.lst (i ++ j))) | false => .bad) | _, _ => .bad) Q := h
      cases g1 : S.get n with
      | none => rw [g1] at h'; exact h'.elim
      | some o1 =>
        rw [g1] at h'
        cases o1 with
        | lst i =>
          cases g2 : S.get m with
          | none => rw [g2] at h'; exact h'.elim
          | some o2 =>
            rw [g2] at h'
            cases o2 with
            | lst j =>
              have h2 : Out G (PV G) ρ H (match Nat.ble (i.length + j.length) 16777216 with | true => .ok (.ref S.n) (S.new (.lst (i ++ j))) | false => .bad) Q := h'
              obtain ⟨ys1, f1, r1⟩ := hr.lst g1 e1
              obtain ⟨ys2, f2, r2⟩ := hr.lst g2 e2
              cases q : Nat.ble (i.length + j.length) 16777216 with
              | false => rw [q] at h2; exact h2.elim
              | true =>
                rw [q] at h2
                exact OpW.by op_cat ⟨_, _, _, _, rfl, rfl, f1, f2, by rw [r1.length, r2.length]; exact ble_line q, fun p hp => Out.lst h2 hr (r1.append r2) p hp⟩
            | _ => exact h'.elim
        | _ => exact h'.elim
    | _ => exact h.elim
  | _ => exact h.elim
theorem ops_sub : OpS G X (binaryOp .Sub) gSub := by
  intro x y v u S ρ H Q hr px py h
  cases px with
  | int i => cases py with
    | int j => exact OpW.by op_sub ⟨i, j, rfl, rfl, Out.ok h hr (.int _)⟩
    | _ => exact h.elim
  | _ => exact h.elim
theorem ops_mul : OpS G X (binaryOp .Mult) gMul := by
  intro x y v u S ρ H Q hr px py h
  cases px with
  | int i => cases py with
    | int j =>
      have h' : Out G (PV G) ρ H (match okMul i j with | true => .ok (.int (i * j)) S | false => .bad) Q := h
      cases q : okMul i j with
      | false => rw [q] at h'; exact h'.elim
      | true =>
        rw [q] at h'
        refine OpW.by op_mul ⟨i, j, rfl, rfl, ?_, Out.ok h' hr (.int _)⟩
        unfold okMul at q
        simp only [Bool.or_eq_true, Bool.and_eq_true, decide_eq_true_eq] at q
        exact q
    | _ => exact h.elim
  | ref e1 => cases py with
    | int k =>
      rename_i n p
      have h' : Out G (PV G) ρ H (match S.get n with | some (.lst xs) => (match decide (-(2 ^ 63) ≤ k) && (decide (k < 2 ^ 63) && Nat.ble (xs.length * k.toNat) 16777216) with | true => .ok (.ref S.n) (S.new (.lst (List.replicate k.toNat xs).flatten)) | false => .bad) | _ => .bad) Q := h
      cases g1 : S.get n with
      | none => rw [g1] at h'; exact h'.elim
      | some o1 =>
        rw [g1] at h'
        cases o1 with
        | lst xs =>
          have h2 : Out G (PV G) ρ H (match decide (-(2 ^ 63) ≤ k) && (decide (k < 2 ^ 63) && Nat.ble (xs.length * k.toNat) 16777216) with | true => .ok (.ref S.n) (S.new (.lst (List.replicate k.toNat xs).flatten)) | false => .bad) Q := h'
          obtain ⟨ys1, f1, r1⟩ := hr.lst g1 e1
          cases q : decide (-(2 ^ 63) ≤ k) && (decide (k < 2 ^ 63) && Nat.ble (xs.length * k.toNat) 16777216) with
          | false => rw [q] at h2; exact h2.elim
          | true =>
            rw [q] at h2
            simp only [Bool.and_eq_true, decide_eq_true_eq] at q
            exact OpW.by op_rep ⟨_, _, _, rfl, rfl, f1, q.1, q.2.1, by rw [r1.length]; exact ble_line q.2.2, fun p hp => Out.lst h2 hr (r1.replicate _) p hp⟩
        | _ => exact h'.elim
    | _ => exact h.elim
  | _ => exact h.elim
theorem ops_div : OpS G X (binaryOp .FloorDiv) gDiv := by
  intro x y v u S ρ H Q hr px py h
  cases px with
  | int i => cases py with
    | int j =>
      have h' : Out G (PV G) ρ H (match okDiv j with | true => .ok (.int (i / j)) S | false => .bad) Q := h
      cases q : okDiv j with
      | false => rw [q] at h'; exact h'.elim
      | true =>
        rw [q] at h'
        refine OpW.by op_fdiv ⟨i, j, rfl, rfl, ?_, Out.ok h' hr (.int _)⟩
        unfold okDiv at q
        simp only [Bool.and_eq_true, decide_eq_true_eq] at q
        exact q
    | _ => exact h.elim
  | _ => exact h.elim
theorem ops_mod : OpS G X (binaryOp .Mod) gMod := by
  intro x y v u S ρ H Q hr px py h
  cases px with
  | int i => cases py with
    | int j =>
      have h' : Out G (PV G) ρ H (match decide (0 < j) with | true => .ok (.int (i % j)) S | false => .bad) Q := h
      cases q : decide (0 < j) with
      | false => rw [q] at h'; exact h'.elim
      | true =>
        rw [q] at h'
        exact OpW.by op_mod ⟨i, j, rfl, rfl, of_decide_eq_true q, Out.ok h' hr (.int _)⟩
    | _ => exact h.elim
  | _ => exact h.elim
theorem ops_pow : OpS G X (binaryOp .Pow) gPow := by
  intro x y v u S ρ H Q hr px py h
  cases px with
  | int i => cases py with
    | int j =>
      have h' : Out G (PV G) ρ H (match okPow i j with | true => .ok (.int (i ^ j.toNat)) S | false => .bad) Q := h
      cases q : okPow i j with
      | false => rw [q] at h'; exact h'.elim
      | true =>
        rw [q] at h'
        refine OpW.by op_pow ⟨i, j, rfl, rfl, ?_, Out.ok h' hr (.int _)⟩
        unfold okPow at q
        simp only [Bool.and_eq_true, decide_eq_true_eq] at q
        exact q
    | _ => exact h.elim
  | _ => exact h.elim

/-! ### order -/
def gLt : G2 := fun x y S => match x, y with
  | .int i, .int j => .ok (.bl (decide (i < j))) S
  | .str i, .str j => .ok (.bl (decide (i.cps.toList < j.cps.toList))) S
  | _, _ => .bad
def gLe : G2 := fun x y S => match x, y with
  | .int i, .int j => .ok (.bl (decide (i ≤ j))) S
  | _, _ => .bad
def gGt : G2 := fun x y S => match x, y with
  | .int i, .int j => .ok (.bl (decide (j < i))) S
  | _, _ => .bad
def gGe : G2 := fun x y S => match x, y with
  | .int i, .int j => .ok (.bl (decide (j ≤ i))) S
  | _, _ => .bad
theorem ops_lt : OpS G X (compareOp .Lt) gLt := by
  intro x y v u S ρ H Q hr px py h
  cases px with
  | int i => cases py with
    | int j => exact OpW.by op_lt ⟨i, j, rfl, rfl, Out.ok h hr (.bl _)⟩
    | _ => exact h.elim
  | str i => cases py with
    | str j => exact OpW.by op_lt_str ⟨i, j, rfl, rfl, Out.ok h hr (.bl _)⟩
    | _ => exact h.elim
  | _ => exact h.elim
theorem ops_le : OpS G X (compareOp .LtE) gLe := by
  intro x y v u S ρ H Q hr px py h
  cases px with
  | int i => cases py with
    | int j => exact OpW.by op_le ⟨i, j, rfl, rfl, Out.ok h hr (.bl _)⟩
    | _ => exact h.elim
  | _ => exact h.elim
theorem ops_gt : OpS G X (compareOp .Gt) gGt := by
  intro x y v u S ρ H Q hr px py h
  cases px with
  | int i => cases py with
    | int j => exact OpW.by op_gt ⟨i, j, rfl, rfl, Out.ok h hr (.bl _)⟩
    | _ => exact h.elim
  | _ => exact h.elim
theorem ops_ge : OpS G X (compareOp .GtE) gGe := by
  intro x y v u S ρ H Q hr px py h
  cases px with
  | int i => cases py with
    | int j => exact OpW.by op_ge ⟨i, j, rfl, rfl, Out.ok h hr (.bl _)⟩
    | _ => exact h.elim
  | _ => exact h.elim

/-! ### is None -/
def isNon : Va → Bool
  | .non => true
  | _ => false
def gIsN : G2 := fun x y S => match y with
  | .non => .ok (.bl (isNon x)) S
  | _ => .bad
def gNotN : G2 := fun x y S => match y with
  | .non => .ok (.bl (!isNon x)) S
  | _ => .bad
theorem isNon_dec {ρ : List Addr} {H : Hp} {v : V} {x : Va} (p : Rep G ρ H v x) : isNon x = decide (v = .non) := by
  cases p <;> simp [isNon]
theorem ops_isN : OpS G X (compareOp .Is) gIsN := by
  intro x y v u S ρ H Q hr px py h
  cases py with
  | non => exact OpW.by op_isN ⟨rfl, by rw [← isNon_dec px]; exact Out.ok h hr (.bl _)⟩
  | _ => exact h.elim
theorem ops_notN : OpS G X (compareOp .IsNot) gNotN := by
  intro x y v u S ρ H Q hr px py h
  cases py with
  | non => exact OpW.by op_notN ⟨rfl, by rw [← isNon_dec px]; exact Out.ok h hr (.bl _)⟩
  | _ => exact h.elim

/-! ### equality -/
def mapO {α β : Type} (f : α → Option β) : List α → Option (List β)
  | [] => some []
  | a :: r => match f a with
    | none => none
    | some b => match mapO f r with
      | none => none
      | some bs => some (b :: bs)
theorem mapO_cons {α β : Type} {f : α → Option β} {a : α} {r : List α} {ds : List β} (e : mapO f (a :: r) = some ds) : ∃ b bs, f a = some b ∧ mapO f r = some bs ∧ ds = b :: bs := by
  rw [mapO] at e
  cases q : f a with
  | none => rw [q] at e; cases e
  | some b =>
    rw [q] at e
    cases q2 : mapO f r with
    | none => rw [q2] at e; cases e
    | some bs =>
      rw [q2] at e
      cases e
      exact ⟨b, bs, rfl, rfl, rfl⟩
def toD : Nat → Sto → Va → Option PyData
  | 0, _, _ => none
  | n + 1, S, x => match x with
    | .non => some .none
    | .bl b => some (.bool b)
    | .int i => some (.int i)
    | .str y => some (.str y)
    | .tup xs => match mapO (toD n S) xs with
      | some ds => some (.tuple ds)
      | none => none
    | .fro xs => match mapO (toD n S) xs with
      | some ds => some (.list ds)
      | none => none
    | .ref k => match S.get k with
      | some (.lst xs) => match mapO (toD n S) xs with
        | some ds => some (.list ds)
        | none => none
      | _ => none
theorem dpAll_of {ρ : List Addr} {H : Hp} {f : Va → Option PyData} (hf : ∀ v x d, Rep G ρ H v x → f x = some d → Dp G.K H v d) : ∀ {vs : List V} {xs : List Va} {ds : List PyData}, Reps G ρ H vs xs → mapO f xs = some ds → DpAll G.K H vs ds
  | _, _, _, .nil, e => by
    have e' : some [] = some _ := e
    cases e'
    exact .nil
  | _, _, ds, .cons (x := x) (xs := xs) p r, e => by
    obtain ⟨b, bs, q, q2, rfl⟩ := mapO_cons e
    exact .cons (hf _ _ _ p q) (dpAll_of hf r q2)
theorem toD_dp {ρ : List Addr} {S : Sto} {H : Hp} (hr : Rel G ρ S H) : ∀ (n : Nat) (v : V) (x : Va) (d : PyData), Rep G ρ H v x → toD n S x = some d → Dp G.K H v d
  | 0, _, _, _, _, e => by cases e
  | n + 1, v, x, d, p, e => by
    cases p with
    | non => cases e; exact .non
    | bl b => cases e; exact .bl b
    | int i => cases e; exact .int i
    | str y => cases e; exact .str y
    | tup t r =>
      rename_i xs
      have e' : (match mapO (toD n S) xs with | some ds => some (PyData.tuple ds) | none => none) = some d := e
      cases q : mapO (toD n S) xs with
      | none => rw [q] at e'; cases e'
      | some ds =>
        rw [q] at e'
        cases e'
        exact .tup t (dpAll_of (toD_dp hr n) r q)
    | fro t r =>
      rename_i xs
      have e' : (match mapO (toD n S) xs with | some ds => some (PyData.list ds) | none => none) = some d := e
      cases q : mapO (toD n S) xs with
      | none => rw [q] at e'; cases e'
      | some ds =>
        rw [q] at e'
        cases e'
        exact .lst t.sq (dpAll_of (toD_dp hr n) r q)
    | ref i =>
      rename_i k p
      have e' : (match S.get k with | some (.lst xs) => (match mapO (toD n S) xs with | some ds => some (PyData.list ds) | none => none) | _ => none) = some d := e
      cases g : S.get k with
      | none => rw [g] at e'; cases e'
      | some o =>
        rw [g] at e'
        cases o with
        | lst xs =>
          have e2 : (match mapO (toD n S) xs with | some ds => some (PyData.list ds) | none => none) = some d := e'
          obtain ⟨ys, f1, r1⟩ := hr.lst g i
          cases q : mapO (toD n S) xs with
          | none => rw [q] at e2; cases e2
          | some ds =>
            rw [q] at e2
            cases e2
            exact .lst (SqL.of f1) (dpAll_of (toD_dp hr n) r1 q)
        | _ => cases e'
/-- flat values -/
def sEq : Va → Va → Option Bool
  | .non, .non => some true
  | .non, .int _ => some false
  | .int _, .non => some false
  | .non, .bl _ => some false
  | .bl _, .non => some false
  | .non, .str _ => some false
  | .str _, .non => some false
  | .int i, .int j => some (decide (i = j))
  | .bl i, .bl j => some (decide (i = j))
  | .str i, .str j => some (decide (i = j))
  | .int _, .str _ => some false
  | .str _, .int _ => some false
  | .bl _, .str _ => some false
  | .str _, .bl _ => some false
  | _, _ => none
def veq (S : Sto) (x y : Va) : Option Bool := match sEq x y with
  | some k => some k
  | none => match toD 66 S x, toD 66 S y with
    | some d, some e => match SeqAt.shaped d && SeqAt.shaped e with
      | true => some (PyData.eqv d e)
      | false => none
    | _, _ => none
theorem sEq_ok {ρ : List Addr} {H : Hp} {v u : V} {x y : Va} {k : Bool} (px : Rep G ρ H v x) (py : Rep G ρ H u y) (h : sEq x y = some k) : scal v u = true ∧ decide (v = u) = k := by
  cases px <;> cases py <;> first
    | (cases h; exact ⟨rfl, by simp⟩)
    | (cases h; refine ⟨rfl, ?_⟩; rename_i i j; cases i <;> cases j <;> rfl)
    | cases h
def gEq : G2 := fun x y S => match veq S x y with
  | some k => .ok (.bl k) S
  | none => .bad
def gNe : G2 := fun x y S => match veq S x y with
  | some k => .ok (.bl (!k)) S
  | none => .bad
theorem veq_cases {S : Sto} {x y : Va} {k : Bool} (h : veq S x y = some k) : sEq x y = some k ∨ ∃ d e, toD 66 S x = some d ∧ toD 66 S y = some e ∧ SeqAt.shaped d = true ∧ SeqAt.shaped e = true ∧ k = PyData.eqv d e := by
  unfold veq at h
  cases q : sEq x y with
  | some k' =>
    rw [q] at h
    cases h
    exact .inl rfl
  | none =>
    rw [q] at h
    have h1 : (match toD 66 S x, toD 66 S y with | some d, some e => (match SeqAt.shaped d && SeqAt.shaped e with | true => some (PyData.eqv d e) | false => none) | _, _ => none) = some k := h
    cases q1 : toD 66 S x with
    | none => rw [q1] at h1; cases h1
    | some d =>
      cases q2 : toD 66 S y with
      | none => rw [q1, q2] at h1; cases h1
      | some e =>
        rw [q1, q2] at h1
        have h2 : (match SeqAt.shaped d && SeqAt.shaped e with | true => some (PyData.eqv d e) | false => none) = some k := h1
        cases q3 : SeqAt.shaped d && SeqAt.shaped e with
        | false => rw [q3] at h2; cases h2
        | true =>
          rw [q3] at h2
          cases h2
          obtain ⟨s1, s2⟩ := Bool.and_eq_true_iff.mp q3
          exact .inr ⟨d, e, rfl, rfl, s1, s2, rfl⟩
theorem ops_eq (gx : GX G X) : OpS G X (compareOp .Eq) gEq := by
  intro x y v u S ρ H Q hr px py h
  unfold gEq at h
  cases q : veq S x y with
  | none => rw [q] at h; exact h.elim
  | some k =>
    rw [q] at h
    rcases veq_cases q with q | ⟨d, e, hd, he, s1, s2, rfl⟩
    · obtain ⟨h1, h2⟩ := sEq_ok px py q
      exact OpW.by op_eq ⟨h1, by rw [h2]; exact Out.ok h hr (.bl _)⟩
    · exact OpW.by (op_eqD (by have := gx.hu; omega)) ⟨d, e, by rw [gx.hK]; exact toD_dp hr _ _ _ _ px hd, by rw [gx.hK]; exact toD_dp hr _ _ _ _ py he, s1, s2, Out.ok h hr (.bl _)⟩
theorem ops_ne (gx : GX G X) : OpS G X (compareOp .NotEq) gNe := by
  intro x y v u S ρ H Q hr px py h
  unfold gNe at h
  cases q : veq S x y with
  | none => rw [q] at h; exact h.elim
  | some k =>
    rw [q] at h
    rcases veq_cases q with q | ⟨d, e, hd, he, s1, s2, rfl⟩
    · obtain ⟨h1, h2⟩ := sEq_ok px py q
      exact OpW.by op_ne ⟨h1, by rw [h2]; exact Out.ok h hr (.bl _)⟩
    · exact OpW.by (op_neD (by have := gx.hu; omega)) ⟨d, e, by rw [gx.hK]; exact toD_dp hr _ _ _ _ px hd, by rw [gx.hK]; exact toD_dp hr _ _ _ _ py he, s1, s2, Out.ok h hr (.bl _)⟩
end
end Mi
/-! Membership, subscripts, slices, fields, calls. -/
namespace Mi
open PySem PySem.Spec PyProof.Rows L2

/-! ### dicts by keys -/
def dGet {β : Type} (kvs : List (Key × β)) (k : Key) : Option β := match kvs with
  | [] => none
  | (h, v) :: r => match decide (h = k) with
    | true => some v
    | false => dGet r k
def dPut {β : Type} (kvs : List (Key × β)) (k : Key) (v : β) : List (Key × β) := match kvs.any fun kv => decide (kv.1 = k) with
  | true => kvs.map fun kv => match decide (kv.1 = k) with
    | true => (kv.1, v)
    | false => kv
  | false => kvs ++ [(k, v)]
def dDrop {β : Type} (kvs : List (Key × β)) (k : Key) : List (Key × β) := kvs.filter fun kv => !decide (kv.1 = k)
def keyOf : Va → Option Key
  | .int i => some (.inl i)
  | .str x => some (.inr x)
  | _ => none
def vaK : Key → Va
  | .inl i => .int i
  | .inr x => .str x
section
variable {G : Cf} {ρ : List Addr} {H : Hp}
theorem keyOf_rep {v : V} {x : Va} {k : Key} (p : Rep G ρ H v x) (h : keyOf x = some k) : v = kV k := by
  cases p with
  | int i => cases h; rfl
  | str i => cases h; rfl
  | _ => cases h
theorem rep_key (k : Key) : Rep G ρ H (kV k) (vaK k) := by
  cases k with
  | inl i => exact .int i
  | inr x => exact .str x
theorem dGet_rep : ∀ {ks : List (Key × V)} {kvs : List (Key × Va)} (k : Key), RepK G ρ H ks kvs → (∀ x, dGet kvs k = some x → ∃ v, valV ks k = some v ∧ Rep G ρ H v x) ∧ (dGet kvs k = none → valV ks k = none)
  | _, _, k, .nil => ⟨fun x h => (by cases h), fun _ => rfl⟩
  | _, _, k, .cons (k := h) (v := v) (vs := vs) (x := x) (xs := xs) a b => by
    obtain ⟨h1, h2⟩ := dGet_rep k b
    by_cases e : h = k
    · have e1 : dGet ((h, x) :: xs) k = some x := by rw [dGet, decide_eq_true e]
      have e2 : valV ((h, v) :: vs) k = some v := valV_pos e
      rw [e1, e2]
      exact ⟨fun y q => (by cases q; exact ⟨v, rfl, a⟩), fun q => (by cases q)⟩
    · have e1 : dGet ((h, x) :: xs) k = dGet xs k := by rw [dGet, decide_eq_false e]
      have e2 : valV ((h, v) :: vs) k = valV vs k := valV_neg e
      rw [e1, e2]
      exact ⟨h1, h2⟩
theorem repK_any : ∀ {ks : List (Key × V)} {kvs : List (Key × Va)} (k : Key), RepK G ρ H ks kvs → (ks.any fun kv => decide (kv.1 = k)) = kvs.any fun kv => decide (kv.1 = k)
  | _, _, _, .nil => rfl
  | _, _, k, .cons a b => by rw [List.any_cons, List.any_cons, repK_any k b]
theorem repK_map {v : V} {x : Va} (p : Rep G ρ H v x) : ∀ {ks : List (Key × V)} {kvs : List (Key × Va)} (k : Key), RepK G ρ H ks kvs → RepK G ρ H (ks.map fun kv => if kv.1 = k then (kv.1, v) else kv) (kvs.map fun kv => match decide (kv.1 = k) with | true => (kv.1, x) | false => kv)
  | _, _, _, .nil => .nil
  | _, _, k, .cons (k := h) a b => by
    rw [List.map_cons, List.map_cons]
    by_cases e : h = k
    · rw [if_pos e, decide_eq_true e]
      exact .cons p (repK_map p k b)
    · rw [if_neg e, decide_eq_false e]
      exact .cons a (repK_map p k b)
theorem repK_append : ∀ {ks ls : List (Key × V)} {kvs lvs : List (Key × Va)}, RepK G ρ H ks kvs → RepK G ρ H ls lvs → RepK G ρ H (ks ++ ls) (kvs ++ lvs)
  | _, _, _, _, .nil, h => h
  | _, _, _, _, .cons a b, h => .cons a (repK_append b h)
theorem dPut_rep {v : V} {x : Va} {ks : List (Key × V)} {kvs : List (Key × Va)} (k : Key) (r : RepK G ρ H ks kvs) (p : Rep G ρ H v x) : RepK G ρ H (putK ks k v) (dPut kvs k x) := by
  unfold putK dPut
  rw [repK_any k r]
  cases q : kvs.any fun kv => decide (kv.1 = k) with
  | true =>
    rw [if_pos rfl]
    exact repK_map p k r
  | false =>
    rw [if_neg Bool.false_ne_true]
    exact repK_append r (.cons p .nil)
theorem dDrop_rep : ∀ {ks : List (Key × V)} {kvs : List (Key × Va)} (k : Key), RepK G ρ H ks kvs → RepK G ρ H (dropK ks k) (dDrop kvs k)
  | _, _, _, .nil => .nil
  | _, _, k, .cons (k := h) (vs := vs) (xs := xs) a b => by
    unfold dropK dDrop
    by_cases e : h = k
    · rw [List.filter_cons_of_neg (by simp [e]), List.filter_cons_of_neg (by simp [e])]
      exact dDrop_rep k b
    · rw [List.filter_cons_of_pos (by simp [e]), List.filter_cons_of_pos (by simp [e])]
      exact .cons a (dDrop_rep k b)
end

section
variable {G : Cf} {X : Cx} {a b c e : Expr} {es : List Expr} {fa fb fc : EF} {pos : Pos}

/-! ### x in y -/
def flatA : Va → Bool
  | .non => true
  | .bl _ => true
  | .int _ => true
  | .str _ => true
  | _ => false
def eqA : Va → Va → Bool
  | .non, .non => true
  | .bl a, .bl b => a == b
  | .bl a, .int b => (if a then 1 else 0) == b
  | .int a, .bl b => a == (if b then 1 else 0)
  | .int a, .int b => a == b
  | .str a, .str b => a == b
  | _, _ => false
def inA (x : Va) (xs : List Va) : Option Bool := match flatA x && xs.all flatA with
  | true => some (xs.any fun y => eqA y x)
  | false => none
theorem flat_rep {ρ : List Addr} {H : Hp} {v : V} {x : Va} (p : Rep G ρ H v x) (h : flatA x = true) : flatV v = true := by
  cases p <;> first | rfl | cases h
theorem eqA_rep {ρ : List Addr} {H : Hp} {v u : V} {x y : Va} (p : Rep G ρ H v x) (q : Rep G ρ H u y) (hx : flatA x = true) (hy : flatA y = true) : eqV v u = eqA x y := by
  cases p <;> cases q <;> first | rfl | cases hx | cases hy
theorem inA_rep {ρ : List Addr} {H : Hp} {v : V} {x : Va} (p : Rep G ρ H v x) (hx : flatA x = true) : ∀ {vs : List V} {xs : List Va}, Reps G ρ H vs xs → xs.all flatA = true → vs.all flatV = true ∧ inV v vs = xs.any fun y => eqA y x
  | _, _, .nil, _ => ⟨rfl, rfl⟩
  | _, _, .cons a b, h => by
    rw [List.all_cons, Bool.and_eq_true] at h
    obtain ⟨h1, h2⟩ := inA_rep p hx b h.2
    refine ⟨?_, ?_⟩
    · rw [List.all_cons, flat_rep a h.1, h1]; rfl
    · unfold inV at h2 ⊢
      rw [List.any_cons, List.any_cons, h2, eqA_rep a p h.1 hx]
def inStr (x z : Str) : Bool := match x.cps.toList with
  | [c] => decide (c ∈ z.cps.toList)
  | _ => !(Builtin.Str.occurrences z x 0 z.length 1).isEmpty
def isInO (o : Option Ob) (x : Va) : Option Bool := match o with
  | some (.lst ys) => inA x ys
  | some (.dic kvs) => match x with
    | .non => some false
    | x => match keyOf x with
      | some k => some (dGet kvs k).isSome
      | none => none
  | _ => none
def isIn (S : Sto) (x y : Va) : Option Bool := match y with
  | .tup ys => inA x ys
  | .fro ys => inA x ys
  | .str z => match x with
    | .str t => some (inStr t z)
    | _ => none
  | .ref n => isInO (S.get n) x
  | _ => none
def mIn (neg : Bool) (a b : EF) : EF := fun env S => (a env S).bind fun x S1 => (b env S1).bind fun y S2 => match isIn S2 x y with
  | some k => .ok (.bl (if neg then !k else k)) S2
  | none => .bad
theorem some_false {o : Option V} (h : o = none) : o.isSome = false := by
  subst h
  rfl
/-- what x in y gives, by the right rule -/
theorem isIn_ok (gx : GX G X) {x y : Va} {v u : V} {S : Sto} {ρ : List Addr} {H : Hp} {k : Bool} (hr : Rel G ρ S H) (px : Rep G ρ H v x) (py : Rep G ρ H u y) (h : isIn S x y = some k) :
    (∃ n kvs, y = .ref n ∧ S.get n = some (.dic kvs)) ∨ (∀ Q : VK, Q (.bl k) H → OpW X (compareOp .In) v u H Q) ∧ (∀ Q : VK, Q (.bl (!k)) H → OpW X (compareOp .NotIn) v u H Q) := by
  have seq : ∀ (p : Addr) (ys : List V) (xs : List Va), u = .ref p → (SqL G.K H p ys ∨ SqT G.K H p ys) → Reps G ρ H ys xs → inA x xs = some k → (∀ Q : VK, Q (.bl k) H → OpW X (compareOp .In) v u H Q) ∧ (∀ Q : VK, Q (.bl (!k)) H → OpW X (compareOp .NotIn) v u H Q) := by
    intro p ys xs e hs r hi
    subst e
    unfold inA at hi
    cases q : flatA x && xs.all flatA with
    | false => rw [q] at hi; cases hi
    | true =>
      rw [q] at hi
      obtain ⟨q1, q2⟩ := Bool.and_eq_true_iff.mp q
      obtain ⟨h1, h2⟩ := inA_rep px q1 r q2
      have hi2 : inV v ys = k := by rw [h2]; exact Option.some.inj hi
      refine ⟨fun Q hq => OpW.by op_in_seq ⟨p, ys, rfl, by rw [gx.hK]; exact hs, flat_rep px q1, h1, ?_⟩, fun Q hq => OpW.by op_notIn_seq ⟨p, ys, rfl, by rw [gx.hK]; exact hs, flat_rep px q1, h1, ?_⟩⟩
      · rw [hi2]; exact hq
      · rw [hi2]; exact hq
  cases py with
  | tup t r => exact .inr (seq _ _ _ rfl (.inr t) r h)
  | fro t r => exact .inr (seq _ _ _ rfl (.inl t.sq) r h)
  | str z =>
    cases px with
    | str t =>
      have h' : some (inStr t z) = some k := h
      unfold inStr at h'
      cases q : t.cps.toList with
      | nil =>
        rw [q] at h'
        have h2 : (!(Builtin.Str.occurrences z t 0 z.length 1).isEmpty) = k := Option.some.inj h'
        exact .inr ⟨fun Q hq => OpW.by op_in_str ⟨t, z, rfl, rfl, by rw [h2]; exact hq⟩, fun Q hq => OpW.by op_notIn_str ⟨t, z, rfl, rfl, by rw [h2]; exact hq⟩⟩
      | cons c r =>
        cases r with
        | nil =>
          rw [q] at h'
          have h2 : decide (c ∈ z.cps.toList) = k := Option.some.inj h'
          have et : t = ⟨#[c]⟩ := by
            obtain ⟨cps⟩ := t
            have : cps = #[c] := by
              have q' : cps.toList = [c] := q
              rw [← Array.toArray_toList (xs := cps), q']
            rw [this]
          subst et
          exact .inr ⟨fun Q hq => OpW.by op_in_sign ⟨c, z, rfl, rfl, by rw [h2]; exact hq⟩, fun Q hq => OpW.by op_notIn_sign ⟨c, z, rfl, rfl, by rw [h2]; exact hq⟩⟩
        | cons d r =>
          rw [q] at h'
          have h2 : (!(Builtin.Str.occurrences z t 0 z.length 1).isEmpty) = k := Option.some.inj h'
          exact .inr ⟨fun Q hq => OpW.by op_in_str ⟨t, z, rfl, rfl, by rw [h2]; exact hq⟩, fun Q hq => OpW.by op_notIn_str ⟨t, z, rfl, rfl, by rw [h2]; exact hq⟩⟩
    | _ => cases h
  | ref e1 =>
    rename_i n p
    have h' : isInO (S.get n) x = some k := h
    cases g1 : S.get n with
    | none => rw [g1] at h'; cases h'
    | some o1 =>
      rw [g1] at h'
      cases o1 with
      | lst xs =>
        obtain ⟨ys, f1, r1⟩ := hr.lst g1 e1
        exact .inr (seq _ _ _ rfl (.inl (SqL.of f1)) r1 h')
      | dic kvs => exact .inl ⟨n, kvs, rfl, g1⟩
      | ins C fs => cases h'
  | _ => cases h
theorem Rel.dic {S : Sto} {ρ : List Addr} {H : Hp} {n : Nat} {p : Addr} {xs : List (Key × Va)} (hr : Rel G ρ S H) (h : S.get n = some (.dic xs)) (e : ρ[n]? = some p) : ∃ ys, H p = some (.dK ys) ∧ RepK G ρ H ys xs := hr.ob_of h e
theorem isIn_dic {x : Va} {v : V} {S : Sto} {ρ : List Addr} {H : Hp} {k : Bool} {n : Nat} {p : Addr} {kvs : List (Key × Va)} (hr : Rel G ρ S H) (px : Rep G ρ H v x) (hp : ρ[n]? = some p) (g : S.get n = some (.dic kvs)) (h : isIn S x (.ref n) = some k) :
    (∃ o, DGet H p v o ∧ o.isSome = k) ∨ ∃ ks, v = .non ∧ Rd H p (.dK ks) ∧ k = false := by
  obtain ⟨ks, f, r⟩ := hr.dic g hp
  have h' : isInO (S.get n) x = some k := h
  rw [g] at h'
  have key : ∀ kk, keyOf x = some kk → (dGet kvs kk).isSome = k → ∃ o, DGet H p v o ∧ o.isSome = k := fun kk e1 e2 => by
    rw [keyOf_rep px e1]
    refine ⟨_, DGet.k f, ?_⟩
    obtain ⟨h1, h2⟩ := dGet_rep kk r
    cases q : dGet kvs kk with
    | none => rw [h2 q]; rw [q] at e2; exact e2
    | some z =>
      obtain ⟨w, hw, _⟩ := h1 z q
      rw [hw]; rw [q] at e2; exact e2
  cases px with
  | non => exact .inr ⟨ks, rfl, .inl f, (Option.some.inj h').symm⟩
  | int i => exact .inl (key (.inl i) rfl (Option.some.inj h'))
  | str i => exact .inl (key (.inr i) rfl (Option.some.inj h'))
  | _ => cases h'
theorem sc_in (gx : GX G X) (ha : SE G X a fa) (hb : SE G X b fb) : SC G X .In a b (mIn false fa fb) := by
  intro env S ρ σ H Q he hr h
  have hu : X.A.units + 1 < cLine := by have := gx.hu; omega
  by_cases hd : ∃ x S1 y S2 n kvs, fa env S = .ok x S1 ∧ fb env S1 = .ok y S2 ∧ y = .ref n ∧ S2.get n = some (.dic kvs)
  · obtain ⟨x0, S01, y0, S02, n, kvs, q1, q2, q3, q4⟩ := hd
    refine PCw.by (pc_dinN hu pew pew) (ha env S ρ σ H _ he hr (Out.bind h fun x S1 ρ1 H1 v w1 e1 r1 p1 h1 => ?_))
    have w1' := q1.symm.trans w1
    injection w1' with w1a w1b
    subst w1a w1b
    refine hb env S01 ρ1 σ H1 _ (he.mono e1) r1 (Out.bind h1 fun y S2 ρ2 H2 u w2 e2 r2 p2 h2 => ?_)
    have w2' := q2.symm.trans w2
    injection w2' with w2a w2b
    subst w2a w2b
    subst q3
    cases q : isIn S02 x0 (.ref n) with
    | none => rw [q] at h2; exact h2.elim
    | some k =>
      rw [q] at h2
      cases p2 with
      | ref hp =>
        rcases isIn_dic r2 (p1.mono e2) hp q4 q with ⟨o, g, e⟩ | ⟨ks, e, g, e'⟩
        · exact .inl ⟨_, o, rfl, g, by rw [e]; exact Out.ok h2 r2 (.bl k)⟩
        · exact .inr ⟨_, ks, rfl, e, g, by subst e'; exact Out.ok h2 r2 (.bl false)⟩
  · intro pins s I
    refine thn (ha env S ρ σ H (fun v H1 => ∀ s, Inv X pins σ H1 s → ∀ u, RelV v u → wpAny (model X.prog X.w) X.A (eval b X.env) (fun u' s₂ => wpAny (model X.prog X.w) X.A (compareOp .In u u') (EP X pins σ Q) X.xe s₂) X.xe s) he hr (Out.bind h fun x S1 ρ1 H1 v w1 e1 r1 p1 h1 => ?_) pins s I)
      fun u s1 ⟨v, H1, I1, r1, q1⟩ => q1 s1 I1 u r1
    intro s1 I1 u ru
    refine thn (hb env S1 ρ1 σ H1 (fun v' H2 => OpW X (compareOp .In) v v' H2 Q) (he.mono e1) r1 (Out.bind h1 fun y S2 ρ2 H2 u2 w2 e2 r2 p2 h2 => ?_) pins s1 I1) fun u' s2 ⟨v', H2, I2, r2, q2⟩ => q2 pins s2 σ _ _ I2 ru r2
    cases q : isIn S2 x y with
    | none => rw [q] at h2; exact h2.elim
    | some k =>
      rw [q] at h2
      rcases isIn_ok gx r2 (p1.mono e2) p2 q with ⟨n, kvs, e, g⟩ | ⟨f, _⟩
      · exact (hd ⟨x, S1, y, S2, n, kvs, w1, w2, e, g⟩).elim
      · exact f Q (Out.ok h2 r2 (.bl k))
theorem sc_notin (gx : GX G X) (ha : SE G X a fa) (hb : SE G X b fb) : SC G X .NotIn a b (mIn true fa fb) := by
  intro env S ρ σ H Q he hr h
  have hu : X.A.units + 1 < cLine := by have := gx.hu; omega
  by_cases hd : ∃ x S1 y S2 n kvs, fa env S = .ok x S1 ∧ fb env S1 = .ok y S2 ∧ y = .ref n ∧ S2.get n = some (.dic kvs)
  · obtain ⟨x0, S01, y0, S02, n, kvs, q1, q2, q3, q4⟩ := hd
    refine PCw.by (pc_dnotinN hu pew pew) (ha env S ρ σ H _ he hr (Out.bind h fun x S1 ρ1 H1 v w1 e1 r1 p1 h1 => ?_))
    have w1' := q1.symm.trans w1
    injection w1' with w1a w1b
    subst w1a w1b
    refine hb env S01 ρ1 σ H1 _ (he.mono e1) r1 (Out.bind h1 fun y S2 ρ2 H2 u w2 e2 r2 p2 h2 => ?_)
    have w2' := q2.symm.trans w2
    injection w2' with w2a w2b
    subst w2a w2b
    subst q3
    cases q : isIn S02 x0 (.ref n) with
    | none => rw [q] at h2; exact h2.elim
    | some k =>
      rw [q] at h2
      cases p2 with
      | ref hp =>
        rcases isIn_dic r2 (p1.mono e2) hp q4 q with ⟨o, g, e⟩ | ⟨ks, e, g, e'⟩
        · exact .inl ⟨_, o, rfl, g, by rw [e]; exact Out.ok h2 r2 (.bl (!k))⟩
        · exact .inr ⟨_, ks, rfl, e, g, by subst e'; exact Out.ok h2 r2 (.bl true)⟩
  · intro pins s I
    refine thn (ha env S ρ σ H (fun v H1 => ∀ s, Inv X pins σ H1 s → ∀ u, RelV v u → wpAny (model X.prog X.w) X.A (eval b X.env) (fun u' s₂ => wpAny (model X.prog X.w) X.A (compareOp .NotIn u u') (EP X pins σ Q) X.xe s₂) X.xe s) he hr (Out.bind h fun x S1 ρ1 H1 v w1 e1 r1 p1 h1 => ?_) pins s I)
      fun u s1 ⟨v, H1, I1, r1, q1⟩ => q1 s1 I1 u r1
    intro s1 I1 u ru
    refine thn (hb env S1 ρ1 σ H1 (fun v' H2 => OpW X (compareOp .NotIn) v v' H2 Q) (he.mono e1) r1 (Out.bind h1 fun y S2 ρ2 H2 u2 w2 e2 r2 p2 h2 => ?_) pins s1 I1) fun u' s2 ⟨v', H2, I2, r2, q2⟩ => q2 pins s2 σ _ _ I2 ru r2
    cases q : isIn S2 x y with
    | none => rw [q] at h2; exact h2.elim
    | some k =>
      rw [q] at h2
      rcases isIn_ok gx r2 (p1.mono e2) p2 q with ⟨n, kvs, e, g⟩ | ⟨_, f⟩
      · exact (hd ⟨x, S1, y, S2, n, kvs, w1, w2, e, g⟩).elim
      · exact f Q (Out.ok h2 r2 (.bl (!k)))

/-! ### x[y] -/
def atA (xs : List Va) (i : Int) : Option Va := (ixN xs.length i).bind fun j => xs[j]?
def gIxO (o : Option Ob) (y : Va) : Option Va := match o with
  | some (.lst xs) => match y with
    | .int i => atA xs i
    | _ => none
  | some (.dic kvs) => match keyOf y with
    | some k => dGet kvs k
    | none => none
  | _ => none
def gIx (x y : Va) (S : Sto) : Option Va := match x with
  | .tup xs => match y with
    | .int i => atA xs i
    | _ => none
  | .fro xs => match y with
    | .int i => atA xs i
    | _ => none
  | .str z => match y with
    | .int i => match Nat.ble z.length 16777216 with
      | true => match atI z.cps.toList i with
        | some c => some (.str ⟨#[c]⟩)
        | none => none
      | false => none
    | _ => none
  | .ref n => gIxO (S.get n) y
  | _ => none
def mIx (a b : EF) : EF := fun env S => (a env S).bind fun x S1 => (b env S1).bind fun y S2 => match gIx x y S2 with
  | some v => .ok v S2
  | none => .bad
theorem atA_rep {ρ : List Addr} {H : Hp} {vs : List V} {xs : List Va} {i : Int} {x : Va} (r : Reps G ρ H vs xs) (h : atA xs i = some x) : ∃ v, atI vs i = some v ∧ Rep G ρ H v x := by
  unfold atA at h
  unfold atI
  rw [r.length]
  cases q : ixN xs.length i with
  | none => rw [q] at h; cases h
  | some j =>
    rw [q] at h
    exact r.get (i := j) h
def IxW (X : Cx) : R2 := fun x y H Q => ∀ (value slice : Expr) pins s σ v u, Inv X pins σ H s → RelV x v → RelV y u → subscripted slice false v u = operate [v, u] (getItem v u) → wpAny (model X.prog X.w) X.A (subscriptTail value slice v u) (EP X pins σ Q) X.xe s
theorem ixw : IxR X (IxW X) := fun value slice pins s σ H x y v u Q I rx ry h hs => h value slice pins s σ v u I rx ry hs
theorem IxW.by {r : R2} (h : IxR X r) {x y : V} {H : Hp} {Q : VK} (q : r x y H Q) : IxW X x y H Q := fun value slice pins s σ v u I rx ry hs => h value slice pins s σ H x y v u Q I rx ry q hs
theorem se_ix (gx : GX G X) (ha : SE G X a fa) (hb : SE G X b fb) (hs : PlainIx b) : SE G X (.Subscript a b pos) (mIx fa fb) := by
  intro env S ρ σ H Q he hr h
  have hu : X.A.units + 1 < cLine := by have := gx.hu; omega
  by_cases hd : ∃ x S1 y S2 n kvs, fa env S = .ok x S1 ∧ fb env S1 = .ok y S2 ∧ x = .ref n ∧ S2.get n = some (.dic kvs)
  · obtain ⟨x0, S01, y0, S02, n, kvs, q1, q2, q3, q4⟩ := hd
    refine PEw.by (pe_dget hu pew pew hs) (ha env S ρ σ H _ he hr (Out.bind h fun x S1 ρ1 H1 v w1 e1 r1 p1 h1 => ?_))
    have w1' := q1.symm.trans w1
    injection w1' with w1a w1b
    subst w1a w1b
    refine hb env S01 ρ1 σ H1 _ (he.mono e1) r1 (Out.bind h1 fun y S2 ρ2 H2 u w2 e2 r2 p2 h2 => ?_)
    have w2' := q2.symm.trans w2
    injection w2' with w2a w2b
    subst w2a w2b
    subst q3
    have e3 : gIx (.ref n) y0 S02 = (match keyOf y0 with | some k => dGet kvs k | none => none) := by
      show gIxO (S02.get n) y0 = _
      rw [q4] <;> rfl
    rw [e3] at h2
    cases qk : keyOf y0 with
    | none => rw [qk] at h2; exact h2.elim
    | some k =>
      rw [qk] at h2
      have h3 : Out G (PV G) ρ2 H2 (match dGet kvs k with | some v => .ok v S02 | none => .bad) Q := h2
      cases qd : dGet kvs k with
      | none => rw [qd] at h3; exact h3.elim
      | some z =>
        rw [qd] at h3
        cases (p1.mono e2) with
        | ref hp =>
          obtain ⟨ks, f, r⟩ := r2.dic q4 hp
          obtain ⟨w, hw, rw'⟩ := (dGet_rep k r).1 z qd
          refine ⟨_, w, rfl, ?_, Out.ok h3 r2 rw'⟩
          rw [keyOf_rep p2 qk, ← hw]
          exact DGet.k f
  · refine PEw.by (pe_ix ixw pew pew hs) (ha env S ρ σ H _ he hr (Out.bind h fun x S1 ρ1 H1 v w1 e1 r1 p1 h1 => ?_))
    refine hb env S1 ρ1 σ H1 _ (he.mono e1) r1 (Out.bind h1 fun y S2 ρ2 H2 u w2 e2 r2 p2 h2 => ?_)
    cases q : gIx x y S2 with
    | none => rw [q] at h2; exact h2.elim
    | some z =>
      rw [q] at h2
      cases (p1.mono e2) with
      | tup t r =>
        cases p2 with
        | int i =>
          obtain ⟨w, hw, rw'⟩ := atA_rep r q
          exact IxW.by ix_tup ⟨_, _, i, w, rfl, rfl, by rw [gx.hK]; exact t, hw, Out.ok h2 r2 rw'⟩
        | _ => cases q
      | fro t r =>
        cases p2 with
        | int i =>
          obtain ⟨w, hw, rw'⟩ := atA_rep r q
          exact IxW.by ix_list ⟨_, _, i, w, rfl, rfl, by rw [gx.hK]; exact t.sq, hw, Out.ok h2 r2 rw'⟩
        | _ => cases q
      | str t =>
        cases p2 with
        | int i =>
          have q' : (match Nat.ble t.length 16777216 with | true => (match atI t.cps.toList i with | some c => some (Va.str ⟨#[c]⟩) | none => none) | false => none) = some z := q
          cases qb : Nat.ble t.length 16777216 with
          | false => rw [qb] at q'; cases q'
          | true =>
            rw [qb] at q'
            have q2 : (match atI t.cps.toList i with | some c => some (Va.str ⟨#[c]⟩) | none => none) = some z := q'
            cases qa : atI t.cps.toList i with
            | none => rw [qa] at q2; cases q2
            | some c =>
              rw [qa] at q2
              cases q2
              exact IxW.by ix_str ⟨t, i, c, rfl, rfl, ble_line qb, qa, Out.ok h2 r2 (.str _)⟩
        | _ => cases q
      | ref hp =>
        rename_i n p
        have q' : gIxO (S2.get n) y = some z := q
        cases g : S2.get n with
        | none => rw [g] at q'; cases q'
        | some o =>
          rw [g] at q'
          cases o with
          | lst xs =>
            obtain ⟨ys, f1, r1'⟩ := r2.lst g hp
            cases p2 with
            | int i =>
              obtain ⟨w, hw, rw'⟩ := atA_rep r1' q'
              exact IxW.by ix_list ⟨_, _, i, w, rfl, rfl, by rw [gx.hK]; exact SqL.of f1, hw, Out.ok h2 r2 rw'⟩
            | _ => cases q'
          | dic kvs => exact (hd ⟨_, S1, y, S2, n, kvs, w1, w2, rfl, g⟩).elim
          | ins C fs => cases q'
      | _ => cases q

/-! ### x[lo:hi] -/
abbrev OF := Ev → Sto → R (Option Int)
def POw (X : Cx) (o : Option Expr) : TO := fun σ H Q => ∀ t, PO X o t → True
def mNoP : OF := fun _ S => .ok none S
def mPart (f : EF) : OF := fun env S => (f env S).bind fun x S1 => match x with
  | .int i => .ok (some i) S1
  | _ => .bad
abbrev PI0 : List Addr → Hp → Option Int → Option Int → Prop := fun _ _ b c => b = c
/-- an optional part of a slice: some reading that the function answers -/
def SO (G : Cf) (X : Cx) (o : Option Expr) (f : OF) : Prop := ∃ t : TO, PO X o t ∧ ∀ (env : Ev) (S : Sto) (ρ : List Addr) (σ : L2.St) (H : Hp) (Q : Option Int → Hp → Prop), RepE G ρ H σ env → Rel G ρ S H → Out G PI0 ρ H (f env S) Q → t σ H Q
theorem so_none : SO G X none mNoP := ⟨tNoPart, po_none, fun env S ρ σ H Q he hr h => Out.ok h hr rfl⟩
theorem so_some (ha : SE G X a fa) : SO G X (some a) (mPart fa) := by
  refine ⟨tPart (PEw X a), po_some pew, fun env S ρ σ H Q he hr h => ?_⟩
  refine ha env S ρ σ H _ he hr (Out.bind h fun x S1 ρ1 H1 v w1 e1 r1 p1 h1 => ?_)
  cases p1 with
  | int i => exact ⟨i, rfl, Out.ok h1 r1 rfl⟩
  | _ => exact h1.elim
def cutA (xs : List Va) (lo hi : Option Int) : List Va := (xs.drop (HT.sIx xs.length 0 lo)).take (HT.sIx xs.length xs.length hi - HT.sIx xs.length 0 lo)
theorem cutA_rep {ρ : List Addr} {H : Hp} {vs : List V} {xs : List Va} (r : Reps G ρ H vs xs) (lo hi : Option Int) : Reps G ρ H (cutV vs lo hi) (cutA xs lo hi) := by
  unfold cutV cutA
  rw [r.length]
  exact (r.drop _).take _
def mSl (a : EF) (lo hi : OF) : EF := fun env S => (a env S).bind fun x S1 => (lo env S1).bind fun l S2 => (hi env S2).bind fun h S3 => match x with
  | .tup xs => .ok (.tup (cutA xs l h)) S3
  | .fro xs => .ok (.ref S3.n) (S3.new (.lst (cutA xs l h)))
  | .str z => match Nat.ble z.length 16777216 with
    | true => .ok (.str (cutS z l h)) S3
    | false => .bad
  | .ref n => match S3.get n with
    | some (.lst xs) => .ok (.ref S3.n) (S3.new (.lst (cutA xs l h)))
    | _ => .bad
  | _ => .bad
def SlW (X : Cx) : V → Option Int → Option Int → Hp → VK → Prop := fun x lo hi H Q => ∀ pins s σ v vl vu sl, Inv X pins σ H s → RelV x v → s.heap.IsSliceOf sl vl vu .none → IsPart vl lo → IsPart vu hi →
    ∃ T id, typeLookup (.type T) "__getitem__" = pure (some (.builtin id)) ∧ s.TypeIs v T ∧ wpAny (model X.prog X.w) X.A (getItem v (.ref sl)) (EP X pins σ Q) X.xe s
theorem slw : SlR X (SlW X) := fun pins s σ H x v vl vu lo hi sl Q I rx hs pl pu q => q pins s σ v vl vu sl I rx hs pl pu
theorem SlW.by {r : V → Option Int → Option Int → Hp → VK → Prop} (h : SlR X r) {x : V} {lo hi : Option Int} {H : Hp} {Q : VK} (q : r x lo hi H Q) : SlW X x lo hi H Q := fun pins s σ v vl vu sl I rx hs pl pu => h pins s σ H x v vl vu lo hi sl Q I rx hs pl pu q
theorem cut_whole {xs : List Va} {lo hi : Option Int} (h : HT.sIx xs.length 0 lo = 0 ∧ HT.sIx xs.length xs.length hi = xs.length) : cutA xs lo hi = xs := by
  unfold cutA
  rw [h.1, h.2, Nat.sub_zero, List.drop_zero, List.take_length]
theorem se_sl {lo hi : Option Expr} {fl fh : OF} {p2 : Pos} (gx : GX G X) (ha : SE G X a fa) (hl : SO G X lo fl) (hh : SO G X hi fh) : SE G X (.Subscript a (.Slice lo hi none p2) pos) (mSl fa fl fh) := by
  intro env S ρ σ H Q he hr h
  obtain ⟨tl, pl, hl⟩ := hl
  obtain ⟨th, ph, hh⟩ := hh
  refine PEw.by (pe_slice slw pew pl ph) (ha env S ρ σ H _ he hr (Out.bind h fun x S1 ρ1 H1 v w1 e1 r1 p1 h1 => ?_))
  refine hl env S1 ρ1 σ H1 _ (he.mono e1) r1 (Out.bind h1 fun l S2 ρ2 H2 l' w2 e2 r2 p2 h2 => ?_)
  subst p2
  refine hh env S2 ρ2 σ H2 _ (he.mono (e1.trans e2)) r2 (Out.bind h2 fun u S3 ρ3 H3 u' w3 e3 r3 p3 h3 => ?_)
  subst p3
  cases (p1.mono (e2.trans e3)) with
  | tup t r =>
    refine SlW.by sl_tupA ⟨_, _, rfl, by rw [gx.hK]; exact t, fun hw => ?_, fun hw p hp => Out.tup h3 r3 (cutA_rep r _ _) p hp⟩
    rw [r.length] at hw
    have h4 : Out G (PV G) ρ3 H3 (.ok (.tup (cutA _ l' u')) S3) Q := h3
    rw [cut_whole hw] at h4
    exact Out.ok h4 r3 (.tup t r)
  | fro t r => exact SlW.by sl_list ⟨_, _, rfl, by rw [gx.hK]; exact t.sq, fun p hp => Out.lst h3 r3 (cutA_rep r _ _) p hp⟩
  | str z =>
    have h4 : Out G (PV G) ρ3 H3 (match Nat.ble z.length 16777216 with | true => .ok (.str (cutS z l' u')) S3 | false => .bad) Q := h3
    cases qb : Nat.ble z.length 16777216 with
    | false => rw [qb] at h4; exact h4.elim
    | true =>
      rw [qb] at h4
      exact SlW.by sl_str ⟨z, rfl, ble_line qb, Out.ok h4 r3 (.str _)⟩
  | ref hp =>
    rename_i n p
    have h4 : Out G (PV G) ρ3 H3 (match S3.get n with | some (.lst xs) => .ok (.ref S3.n) (S3.new (.lst (cutA xs l' u'))) | _ => .bad) Q := h3
    cases g : S3.get n with
    | none => rw [g] at h4; exact h4.elim
    | some o =>
      rw [g] at h4
      cases o with
      | lst xs =>
        obtain ⟨ys, f1, r1'⟩ := r3.lst g hp
        exact SlW.by sl_list ⟨_, _, rfl, by rw [gx.hK]; exact SqL.of f1, fun p hp => Out.lst h4 r3 (cutA_rep r1' _ _) p hp⟩
      | _ => exact h4.elim
  | _ => exact h3.elim
end
end Mi
/-! Fields, calls of defs, methods and classes, built-in functions. -/
namespace Mi
open PySem PySem.Spec PyProof.Rows L2

/-- what a call of the j-th def gives -/
abbrev CO := Nat → List Va → Sto → R Va
/-- the j-th def's promise: it does what the function says -/
def spOf (G : Cf) (C : CO) (n j : Nat) : Sp := fun vs H Q _ => vs.length = n ∧ ∃ (ρ : List Addr) (S : Sto) (args : List Va), Rel G ρ S H ∧ Reps G ρ H vs args ∧ Out G (PV G) ρ H (C j args S) Q

section
variable {G : Cf} {X : Cx} {a b c e o : Expr} {es : List Expr} {fa fb fc fo : EF} {fs : AF} {pos : Pos}
/-! ### fields -/
def fGet (fs : List (Nat × Va)) (j : Nat) : Option Va := match fs with
  | [] => none
  | (h, v) :: r => match Nat.beq h j with
    | true => some v
    | false => fGet r j
def fPut (fs : List (Nat × Va)) (j : Nat) (v : Va) : List (Nat × Va) := match fs with
  | [] => [(j, v)]
  | (h, u) :: r => match Nat.beq h j with
    | true => (j, v) :: r
    | false => (h, u) :: fPut r j v
def gFld (j : Nat) (x : Va) (S : Sto) : Option Va := match x with
  | .ref n => match S.get n with
    | some (.ins _ fs) => fGet fs j
    | _ => none
  | _ => none
def mFld (j : Nat) (f : EF) : EF := fun env S => (f env S).bind fun x S1 => match gFld j x S1 with
  | some v => .ok v S1
  | none => .bad
theorem fGet_rep {ρ : List Addr} {H : Hp} (hi : ∀ i j, G.fN i = G.fN j → i = j) : ∀ {gs : List (Str × V)} {fs : List (Nat × Va)} {j : Nat} {x : Va}, RepF G ρ H gs fs → fGet fs j = some x → ∃ v, gs.lookup (G.fN j) = some v ∧ Rep G ρ H v x
  | _, _, _, _, .nil, h => by cases h
  | _, _, j, x, .cons (j := k) (x := y) (xs := xs) p r, h => by
    by_cases q : k = j
    · subst q
      have e : fGet ((k, y) :: xs) k = some y := by rw [fGet, beqT rfl]
      rw [e] at h
      cases h
      exact ⟨_, by rw [List.lookup_cons, beq_self_eq_true], p⟩
    · have e : fGet ((k, y) :: xs) j = fGet xs j := by rw [fGet, beqF q]
      rw [e] at h
      obtain ⟨v, h1, h2⟩ := fGet_rep hi r h
      refine ⟨v, ?_, h2⟩
      rw [List.lookup_cons, beq_eq_false_iff_ne.mpr fun z => q (hi _ _ z.symm)]
      exact h1
theorem fPut_rep {ρ : List Addr} {H : Hp} (hi : ∀ i j, G.fN i = G.fN j → i = j) {j : Nat} {v : V} {x : Va} (p : Rep G ρ H v x) : ∀ {gs : List (Str × V)} {fs : List (Nat × Va)}, RepF G ρ H gs fs → RepF G ρ H (putF (G.fN j) v gs) (fPut fs j x)
  | _, _, .nil => .cons p .nil
  | _, _, .cons (j := k) (v := u) (vs := vs) (x := y) (xs := xs) q r => by
    by_cases e : k = j
    · subst e
      have e1 : fPut ((k, y) :: xs) k x = (k, x) :: xs := by rw [fPut, beqT rfl]
      have e2 : putF (G.fN k) v ((G.fN k, u) :: vs) = (G.fN k, v) :: vs := by rw [putF, if_pos rfl]
      rw [e1, e2]
      exact .cons p r
    · have e1 : fPut ((k, y) :: xs) j x = (k, y) :: fPut xs j x := by rw [fPut, beqF e]
      have e2 : putF (G.fN j) v ((G.fN k, u) :: vs) = (G.fN k, u) :: putF (G.fN j) v vs := by
        rw [putF, if_neg fun z => e (hi _ _ z)]
      rw [e1, e2]
      exact .cons q (fPut_rep hi p r)
theorem fPut_mem {j : Nat} {x : Va} : ∀ {fs : List (Nat × Va)} {q : Nat × Va}, q ∈ fPut fs j x → q.1 = j ∨ ∃ z, (q.1, z) ∈ fs
  | [], q, h => by
    have h' : q ∈ [(j, x)] := h
    rw [List.mem_singleton] at h'
    exact .inl (by rw [h'])
  | (k, y) :: xs, q, h => by
    by_cases e : k = j
    · subst e
      have e1 : fPut ((k, y) :: xs) k x = (k, x) :: xs := by rw [fPut, beqT rfl]
      rw [e1] at h
      rcases List.mem_cons.mp h with h | h
      · exact .inl (by rw [h])
      · exact .inr ⟨q.2, List.mem_cons_of_mem _ h⟩
    · have e1 : fPut ((k, y) :: xs) j x = (k, y) :: fPut xs j x := by rw [fPut, beqF e]
      rw [e1] at h
      rcases List.mem_cons.mp h with h | h
      · exact .inr ⟨y, by rw [h]; exact List.mem_cons_self⟩
      · rcases fPut_mem h with h | ⟨z, h⟩
        · exact .inl h
        · exact .inr ⟨z, List.mem_cons_of_mem _ h⟩
theorem fPut_len {j : Nat} {x : Va} : ∀ {fs : List (Nat × Va)}, (fPut fs j x).length ≤ fs.length + 1
  | [] => Nat.le_refl _
  | (k, y) :: xs => by
    by_cases e : k = j
    · subst e
      rw [fPut, beqT rfl]
      exact Nat.le_succ _
    · rw [fPut, beqF e]
      exact Nat.succ_le_succ fPut_len
theorem Rel.ins {S : Sto} {ρ : List Addr} {H : Hp} {n C : Nat} {p : Addr} {fs : List (Nat × Va)} (hr : Rel G ρ S H) (h : S.get n = some (.ins C fs)) (e : ρ[n]? = some p) :
    ∃ dx gs, H p = some (.ins (G.cA C) dx gs) ∧ RepF G ρ H gs fs ∧ Cls G.K (G.cA C) ∧ (∀ q ∈ fs, G.na C q.1 = true) ∧ fs.length ≤ 100 := hr.ob_of h e
theorem fGet_mem {j : Nat} {x : Va} : ∀ {fs : List (Nat × Va)}, fGet fs j = some x → (j, x) ∈ fs
  | [], h => by cases h
  | (k, y) :: xs, h => by
    by_cases e : k = j
    · subst e
      have e1 : fGet ((k, y) :: xs) k = some y := by rw [fGet, beqT rfl]
      rw [e1] at h
      cases h
      exact List.mem_cons_self
    · have e1 : fGet ((k, y) :: xs) j = fGet xs j := by rw [fGet, beqF e]
      rw [e1] at h
      exact List.mem_cons_of_mem _ (fGet_mem h)
theorem se_fld {f : Str} {j : Nat} (gx : GX G X) (ha : SE G X e fa) (hf : f = G.fN j) (hb : attributeBase e f X.env (eval e X.env) = eval e X.env) : SE G X (.Attribute e f pos) (mFld j fa) := by
  subst hf
  intro env S ρ σ H Q he hr h
  refine PEw.by (pe_fld pew hb) (ha env S ρ σ H _ he hr (Out.bind h fun x S1 ρ1 H1 v w1 e1 r1 p1 h1 => ?_))
  cases q : gFld j x S1 with
  | none => rw [q] at h1; exact h1.elim
  | some z =>
    rw [q] at h1
    cases p1 with
    | ref hp =>
      rename_i n p
      have q' : (match S1.get n with | some (.ins _ fs) => fGet fs j | _ => none) = some z := q
      cases g : S1.get n with
      | none => rw [g] at q'; cases q'
      | some ob =>
        rw [g] at q'
        cases ob with
        | ins C fs =>
          obtain ⟨dx, gs, f1, rf, cl, na, _⟩ := r1.ins g hp
          have q2 : fGet fs j = some z := q'
          obtain ⟨w, hw, rw'⟩ := fGet_rep gx.ok.inj rf q2
          exact ⟨p, G.cA C, dx, gs, w, rfl, f1, by rw [gx.hK]; exact cl, by rw [gx.hK]; exact gx.ok.na C j (na _ (fGet_mem q2)), hw, Out.ok h1 r1 rw'⟩
        | _ => cases q'
    | _ => cases q

/-! ### calls -/
variable {C : CO} {k : Nat} {f : Addr} {fd : FuncData} {ps : List Str} {dvs : List V} {ds : List Value} {x : Str} {p apos : Pos}
/-- defaults: flat values -/
def flatD : Va → V
  | .bl b => .bl b
  | .int i => .int i
  | .str x => .str x
  | _ => .non
theorem reps_flat {ρ : List Addr} {H : Hp} : ∀ {dx : List Va}, dx.all flatA = true → Reps G ρ H (dx.map flatD) dx
  | [], _ => .nil
  | x :: xs, h => by
    rw [List.all_cons, Bool.and_eq_true] at h
    refine .cons ?_ (reps_flat h.2)
    cases x <;> first | exact .non | exact .bl _ | exact .int _ | exact .str _ | cases h.1
/-- what a def needs to be called, with its defaults -/
structure Cal (G : Cf) (X : Cx) (C : CO) (k j : Nat) (f : Addr) (dx : List Va) : Prop where
  ex : ∃ (fd : FuncData) (ps : List Str) (n : Nat) (ds : List Value), FnOk X.prog X.w X.K X.mg X.base CX0 k f fd ps (spOf G C n j) ∧ Binds X.K fd ps ds ∧ Vals (dx.map flatD) ds ∧ (∀ args S a S', C j args S = .ok a S' → args.length = n)
  flat : dx.all flatA = true
/-- the text's table: the defs' addresses, defaults, global names; methods (class, name, def); classes' names; built-ins' names that nothing shadows; constants -/
structure Tab where
  fA : Nat → Addr
  dx : Nat → List Va
  fname : Nat → Option Str
  mth : Nat → Option (Nat × Str × Nat)
  cname : Nat → Option Str
  init : Nat → Nat
  free : Nat → Option Str
  cv : Nat → Option (Str × Va)
  has : Nat → Bool
/-- a module's constant: an int, a text, a tuple of such -/
def CvOk (G : Cf) (mg : Str → Option Value) (x : Str) (v : Va) : Prop := match v with
  | .int i => ∃ t, mg x = some (.int i t)
  | .str y => ∃ t, mg x = some (.str y t)
  | .tup xs => ∃ p ys, mg x = some (.ref p) ∧ (∀ H, SqT G.K H p ys) ∧ ∀ ρ H, Reps G ρ H ys xs
  | _ => False
structure GC (G : Cf) (X : Cx) (C : CO) (k : Nat) (T : Tab) : Prop where
  gx : GX G X
  room : Room (k + 1) X.A
  cal : ∀ j, T.has j = true → Cal G X C k j (T.fA j) (T.dx j)
  fn : ∀ j x, T.fname j = some x → T.has j = true ∧ X.mg x = some (.ref (T.fA j)) ∧ PySem.W.keepIn X.K (.ref (T.fA j)) = true
  mt : ∀ i c m j, T.mth i = some (c, m, j) → T.has j = true ∧ Meth X.K (G.cA c) m (T.fA j) ∧ (∀ i, G.fN i ≠ m) ∧ Cls G.K (G.cA c)
  mker : ∀ c x, T.cname c = some x → T.has (T.init c) = true ∧ X.mg x = some (.ref (G.cA c)) ∧ Mk X.K (G.cA c) (T.fA (T.init c)) ∧ Cls G.K (G.cA c)
  fr : ∀ i x, T.free i = some x → X.mg x = none
  cv : ∀ i x v, T.cv i = some (x, v) → CvOk G X.mg x v
theorem se_cv {C : CO} {k : Nat} {T : Tab} {x : Str} {v : Va} (gc : GC G X C k T) (i : Nat) (h : T.cv i = some (x, v)) (hg : Gl X x) (hd : (x == ("__debug__" : Str)) = false) : SE G X (.Name x pos) (mC v) := by
  have q := gc.cv i x v h
  cases v with
  | int i => exact se_gint hg q hd
  | str y => exact se_gstr hg q hd
  | tup xs =>
    obtain ⟨p, ys, q1, q2, q3⟩ := q
    exact se_gtup gc.gx.hK hg q1 q2 q3 hd
  | _ => exact q.elim
theorem Out.len {P : List Addr → Hp → V → Va → Prop} {ρ : List Addr} {H : Hp} {Q : VK} {j n : Nat} {args : List Va} {S : Sto} (hn : ∀ args S a S', C j args S = .ok a S' → args.length = n) (h : Out G P ρ H (C j args S) Q) : args.length = n := by
  cases q : C j args S with
  | bad => rw [q] at h; exact h.elim
  | ok a S' => exact hn _ _ _ _ q
variable {T : Tab}
def mCall (C : CO) (j : Nat) (fs : AF) (dx : List Va) : EF := fun env S => (fs env S).bind fun xs S1 => C j (xs ++ dx) S1
theorem se_call {j : Nat} (gc : GC G X C k T) (hj : T.fname j = some x) (hg : Gl X x) (ha : SA G X (e :: es) fs)
    (hdb : (x == ("__debug__" : Str)) = false) (hs : starEach (e :: es) X.env = (false, eval e X.env) :: starEach es X.env) (hpl : (backTo pos (starEach es X.env)).any (·.1) = false) :
    SE G X (.Call (.Name x p) (e :: es) [] pos) (mCall C j fs (T.dx j)) := by
  intro env S ρ σ H Q he hrl h
  obtain ⟨hh, hm, hk⟩ := gc.fn j x hj
  obtain ⟨⟨fd, ps, n, ds, F, hb, hd, hn⟩, fl⟩ := gc.cal j hh
  refine PEw.by (pe_call F (gc.room.mono (Nat.le_succ k)) hg hm hk hb hd (pass0 (X := X)) paw hdb hs hpl) (ha env S ρ σ H _ he hrl (Out.bind h fun xs S1 ρ1 H1 vs w1 e1 r1 p1 h1 => ?_))
  have rr : Reps G ρ1 H1 (vs ++ (T.dx j).map flatD) (xs ++ T.dx j) := p1.append (reps_flat fl)
  exact ⟨by rw [rr.length]; exact Out.len hn h1, ρ1, S1, xs ++ T.dx j, r1, rr, h1⟩
theorem se_call0 {j : Nat} (gc : GC G X C k T) (hj : T.fname j = some x) (hg : Gl X x) (hdb : (x == ("__debug__" : Str)) = false) : SE G X (.Call (.Name x p) [] [] pos) (mCall C j mNil (T.dx j)) := by
  intro env S ρ σ H Q he hrl h
  obtain ⟨hh, hm, hk⟩ := gc.fn j x hj
  obtain ⟨⟨fd, ps, n, ds, F, hb, hd, hn⟩, fl⟩ := gc.cal j hh
  refine PEw.by (pe_call0 F (gc.room.mono (Nat.le_succ k)) hg hm hk hb hd (pass0 (X := X)) hdb) ?_
  have h1 : Out G (PV G) ρ H (C j ([] ++ T.dx j) S) Q := h
  have rr : Reps G ρ H ([] ++ (T.dx j).map flatD) ([] ++ T.dx j) := reps_flat fl
  exact ⟨by rw [rr.length]; exact Out.len hn h1, ρ, S, [] ++ T.dx j, hrl, rr, h1⟩
/-- the class of an instance -/
def clsOf (x : Va) (S : Sto) : Option Nat := match x with
  | .ref n => match S.get n with
    | some (.ins c _) => some c
    | _ => none
  | _ => none
theorem clsOf_rep {ρ : List Addr} {H : Hp} {S : Sto} {v : V} {y : Va} {c : Nat} (hr : Rel G ρ S H) (p : Rep G ρ H v y) (h : clsOf y S = some c) :
    ∃ a dx gs fs, v = .ref a ∧ H a = some (.ins (G.cA c) dx gs) ∧ RepF G ρ H gs fs ∧ Cls G.K (G.cA c) := by
  cases p with
  | ref hp =>
    rename_i n a
    have q' : (match S.get n with | some (.ins c _) => some c | _ => none) = some c := h
    cases g : S.get n with
    | none => rw [g] at q'; cases q'
    | some ob =>
      rw [g] at q'
      cases ob with
      | ins C fs =>
        have e : C = c := Option.some.inj q'
        subst e
        obtain ⟨dx, gs, f1, rf, cl, na, _⟩ := hr.ins g hp
        exact ⟨a, dx, gs, fs, rfl, f1, rf, cl⟩
      | _ => cases q'
  | _ => cases h
theorem repF_no {ρ : List Addr} {H : Hp} {m : Str} (hm : ∀ i, G.fN i ≠ m) : ∀ {gs : List (Str × V)} {fs : List (Nat × Va)}, RepF G ρ H gs fs → gs.lookup m = none
  | _, _, .nil => rfl
  | _, _, .cons _ r => by
    rw [List.lookup_cons, beq_eq_false_iff_ne.mpr fun z => hm _ z.symm]
    exact repF_no hm r
/-- o.m(..): the def by the class -/
def mMeth (C : CO) (T : Nat → Option (Nat × List Va)) (o : EF) (fs : AF) : EF := fun env S => (o env S).bind fun x S1 => match clsOf x S1 with
  | some c => match T c with
    | some (j, dx) => (fs env S1).bind fun xs S2 => C j (x :: (xs ++ dx)) S2
    | none => .bad
  | none => .bad
/-- a method of one class, or of another too -/
def M1 (c j : Nat) (dx : List Va) : Nat → Option (Nat × List Va) := fun c' => match Nat.beq c' c with
  | true => some (j, dx)
  | false => none
def MO (M N : Nat → Option (Nat × List Va)) : Nat → Option (Nat × List Va) := fun c => match M c with
  | some q => some q
  | none => N c
def MOk (T : Tab) (m : Str) (M : Nat → Option (Nat × List Va)) : Prop := ∀ c j dx, M c = some (j, dx) → ∃ i, T.mth i = some (c, m, j) ∧ dx = T.dx j
theorem mok1 {T : Tab} {m : Str} {c j : Nat} (i : Nat) (h : T.mth i = some (c, m, j)) : MOk T m (M1 c j (T.dx j)) := fun c' j' dx q => by
  unfold M1 at q
  cases e : Nat.beq c' c with
  | false => rw [e] at q; cases q
  | true =>
    rw [e] at q
    cases q
    have e' := Nat.eq_of_beq_eq_true e
    subst e'
    exact ⟨i, h, rfl⟩
theorem mokO {T : Tab} {m : Str} {M N : Nat → Option (Nat × List Va)} (h1 : MOk T m M) (h2 : MOk T m N) : MOk T m (MO M N) := fun c j dx q => by
  unfold MO at q
  cases e : M c with
  | some z =>
    rw [e] at q
    exact h1 c j dx (by rw [e]; exact q)
  | none =>
    rw [e] at q
    exact h2 c j dx q
theorem se_meth {m : Str} {M : Nat → Option (Nat × List Va)} (gc : GC G X C k T) (hM : MOk T m M) (ho : SE G X o fo) (ha : SA G X (e :: es) fs)
    (hpe : ∀ {to : TE} {t : TA} {D f : Addr} {fd : FuncData} {ps : List Str} {sp : Sp} {dvs : List V} {ds : List Value}, PE X o to → PA X (e :: es) t → Cls X.K D → Meth X.K D m f → FnOk X.prog X.w X.K X.mg X.base CX0 k f fd ps sp → Room k X.A → Binds X.K fd ps ds → Vals dvs ds →
      PE X (.Call (.Attribute o m apos) (e :: es) [] pos) (tMeth D m sp dvs E0 to t)) : SE G X (.Call (.Attribute o m apos) (e :: es) [] pos) (mMeth C M fo fs) := by
  intro env S ρ σ H Q he hrl h
  cases q0 : fo env S with
  | bad =>
    have h' : Out G (PV G) ρ H ((fo env S).bind fun x S1 => match clsOf x S1 with | some c => (match M c with | some (j, dx) => (fs env S1).bind fun xs S2 => C j (x :: (xs ++ dx)) S2 | none => .bad) | none => .bad) Q := h
    rw [q0] at h'
    exact h'.elim
  | ok x0 S0 =>
    have h' : Out G (PV G) ρ H ((fo env S).bind fun x S1 => match clsOf x S1 with | some c => (match M c with | some (j, dx) => (fs env S1).bind fun xs S2 => C j (x :: (xs ++ dx)) S2 | none => .bad) | none => .bad) Q := h
    have h'' := h'
    rw [q0] at h''
    have h2 : Out G (PV G) ρ H (match clsOf x0 S0 with | some c => (match M c with | some (j, dx) => (fs env S0).bind fun xs S2 => C j (x0 :: (xs ++ dx)) S2 | none => .bad) | none => .bad) Q := h''
    cases q1 : clsOf x0 S0 with
    | none => rw [q1] at h2; exact h2.elim
    | some c =>
      rw [q1] at h2
      have h3 : Out G (PV G) ρ H (match M c with | some (j, dx) => (fs env S0).bind fun xs S2 => C j (x0 :: (xs ++ dx)) S2 | none => .bad) Q := h2
      cases q2 : M c with
      | none => rw [q2] at h3; exact h3.elim
      | some jd =>
        obtain ⟨j, dx⟩ := jd
        obtain ⟨i0, q3, rfl⟩ := hM c j dx q2
        obtain ⟨hh, hm, hno, hc⟩ := gc.mt i0 c m j q3
        obtain ⟨⟨fd, ps, n, ds, F, hb, hd, hn⟩, fl⟩ := gc.cal j hh
        refine PEw.by (hpe pew paw (by rw [gc.gx.hK]; exact hc) hm F (gc.room.mono (Nat.le_succ k)) hb hd) (ho env S ρ σ H _ he hrl (Out.bind h' fun x S1 ρ1 H1 v w1 ex r1 p1 h1 => ?_))
        have w1' := q0.symm.trans w1
        injection w1' with wa wb
        subst wa wb
        obtain ⟨a, dx, gs, gf, ev, ha1, rf, cl⟩ := clsOf_rep r1 p1 q1
        subst ev
        refine ⟨a, dx, gs, rfl, ha1, repF_no hno rf, ?_⟩
        rw [q1] at h1
        have h4 : Out G (PV G) ρ1 H1 (match M c with | some (j, dx) => (fs env S0).bind fun xs S2 => C j (x0 :: (xs ++ dx)) S2 | none => .bad) Q := h1
        rw [q2] at h4
        refine ha env S0 ρ1 σ H1 _ (he.mono ex) r1 (Out.bind h4 fun xs S2 ρ2 H2 vs w2 ey r2 p2 h5 => ?_)
        have rr : Reps G ρ2 H2 (V.ref a :: (vs ++ (T.dx j).map flatD)) (x0 :: (xs ++ T.dx j)) := .cons (p1.mono ey) (p2.append (reps_flat fl))
        exact ⟨by rw [rr.length]; exact Out.len hn h5, ρ2, S2, _, r2, rr, h5⟩
theorem se_meth0 {m : Str} {M : Nat → Option (Nat × List Va)} (gc : GC G X C k T) (hM : MOk T m M) (ho : SE G X o fo)
    (hpe : ∀ {to : TE} {D f : Addr} {fd : FuncData} {ps : List Str} {sp : Sp} {dvs : List V} {ds : List Value}, PE X o to → Cls X.K D → Meth X.K D m f → FnOk X.prog X.w X.K X.mg X.base CX0 k f fd ps sp → Room k X.A → Binds X.K fd ps ds → Vals dvs ds →
      PE X (.Call (.Attribute o m apos) [] [] pos) (tMeth D m sp dvs E0 to tNil)) : SE G X (.Call (.Attribute o m apos) [] [] pos) (mMeth C M fo mNil) := by
  intro env S ρ σ H Q he hrl h
  have h' : Out G (PV G) ρ H ((fo env S).bind fun x S1 => match clsOf x S1 with | some c => (match M c with | some (j, dx) => (mNil env S1).bind fun xs S2 => C j (x :: (xs ++ dx)) S2 | none => .bad) | none => .bad) Q := h
  cases q0 : fo env S with
  | bad =>
    rw [q0] at h'
    exact h'.elim
  | ok x0 S0 =>
    have h'' := h'
    rw [q0] at h''
    have h2 : Out G (PV G) ρ H (match clsOf x0 S0 with | some c => (match M c with | some (j, dx) => (mNil env S0).bind fun xs S2 => C j (x0 :: (xs ++ dx)) S2 | none => .bad) | none => .bad) Q := h''
    cases q1 : clsOf x0 S0 with
    | none => rw [q1] at h2; exact h2.elim
    | some c =>
      rw [q1] at h2
      have h3 : Out G (PV G) ρ H (match M c with | some (j, dx) => (mNil env S0).bind fun xs S2 => C j (x0 :: (xs ++ dx)) S2 | none => .bad) Q := h2
      cases q2 : M c with
      | none => rw [q2] at h3; exact h3.elim
      | some jd =>
        obtain ⟨j, dx⟩ := jd
        obtain ⟨i0, q3, rfl⟩ := hM c j dx q2
        obtain ⟨hh, hm, hno, hc⟩ := gc.mt i0 c m j q3
        obtain ⟨⟨fd, ps, n, ds, F, hb, hd, hn⟩, fl⟩ := gc.cal j hh
        refine PEw.by (hpe pew (by rw [gc.gx.hK]; exact hc) hm F (gc.room.mono (Nat.le_succ k)) hb hd) (ho env S ρ σ H _ he hrl (Out.bind h' fun x S1 ρ1 H1 v w1 ex r1 p1 h1 => ?_))
        have w1' := q0.symm.trans w1
        injection w1' with wa wb
        subst wa wb
        obtain ⟨a, dx, gs, gf, ev, ha1, rf, cl⟩ := clsOf_rep r1 p1 q1
        subst ev
        refine ⟨a, dx, gs, rfl, ha1, repF_no hno rf, ?_⟩
        rw [q1] at h1
        have h4 : Out G (PV G) ρ1 H1 (match M c with | some (j, dx) => (mNil env S0).bind fun xs S2 => C j (x0 :: (xs ++ dx)) S2 | none => .bad) Q := h1
        rw [q2] at h4
        have h5 : Out G (PV G) ρ1 H1 (C j (x0 :: ([] ++ T.dx j)) S0) Q := h4
        have rr : Reps G ρ1 H1 (V.ref a :: ([] ++ (T.dx j).map flatD)) (x0 :: ([] ++ T.dx j)) := .cons p1 (reps_flat fl)
        exact ⟨by rw [rr.length]; exact Out.len hn h5, ρ1, S0, _, r1, rr, h5⟩

/-! ### a new instance -/
theorem same_made {H : Hp} {x dx C : Addr} (nx : H x = none) (nd : H dx = none) (hne : dx ≠ x) : ∀ b u, H b = some u → upd (upd H dx (.own x)) x (.ins C dx []) b = some u := fun b u e => by
  rw [upd_ne (ne_of_none e nx), upd_ne (ne_of_none e nd)]
  exact e
def mMake (C : CO) (c j : Nat) (fs : AF) (dx : List Va) : EF := fun env S => (fs env S).bind fun xs S1 => (C j (.ref S1.n :: (xs ++ dx)) (S1.new (.ins c []))).bind fun v S2 => match v with
  | .non => .ok (.ref S1.n) S2
  | _ => .bad
theorem make_out {c : Nat} {j : Nat} {xs : List Va} {vs : List V} {S1 : Sto} {ρ : List Addr} {H : Hp} {Q : VK} {n : Nat} {dx : List Va} (hc : Cls G.K (G.cA c)) (hn : ∀ args S a S', C j args S = .ok a S' → args.length = n) (fl : dx.all flatA = true) (hr : Rel G ρ S1 H) (p : Reps G ρ H vs xs)
    (h : Out G (PV G) ρ H ((C j (.ref S1.n :: (xs ++ dx)) (S1.new (.ins c []))).bind fun v S2 => match v with | .non => .ok (.ref S1.n) S2 | _ => .bad) Q) (x dxa : Addr) (nx : H x = none) (nd : H dxa = none) (hne : dxa ≠ x) :
    spOf G C n j (.ref x :: (vs ++ dx.map flatD)) (upd (upd H dxa (.own x)) x (.ins (G.cA c) dxa [])) (fun v H2 => v = .non ∧ Q (.ref x) H2) E0 := by
  obtain ⟨r1, e1⟩ := hr.new (o := .ins c []) nx (same_made (C := G.cA c) nx nd hne) ⟨dxa, [], upd_same, .nil, hc, fun q hq => (nomatch hq), Nat.zero_le _⟩
  have hx : (ρ ++ [x])[S1.n]? = some x := by rw [← hr.len]; simp
  have rr : Reps G (ρ ++ [x]) (upd (upd H dxa (.own x)) x (.ins (G.cA c) dxa [])) (V.ref x :: (vs ++ dx.map flatD)) (Va.ref S1.n :: (xs ++ dx)) := .cons (.ref hx) ((p.mono e1).append (reps_flat fl))
  have h1 := Out.mono e1 h
  refine ⟨?_, _, _, _, r1, rr, Out.bind h1 fun v S2 ρ2 H2 w w1 e2 r2 p2 h2 => ?_⟩
  · rw [rr.length]
    cases q : C j (.ref S1.n :: (xs ++ dx)) (S1.new (.ins c [])) with
    | bad => rw [q] at h1; exact h1.elim
    | ok a S' => exact hn _ _ _ _ q
  · cases p2 with
    | non => exact ⟨rfl, Out.ok h2 r2 (.ref (e2.at hx))⟩
    | _ => exact h2.elim
theorem se_make {c : Nat} (gc : GC G X C k T) (hj : T.cname c = some x) (hg : Gl X x) (ha : SA G X (e :: es) fs)
    (hdb : (x == ("__debug__" : Str)) = false) (hs : starEach (e :: es) X.env = (false, eval e X.env) :: starEach es X.env) (hpl : (backTo pos (starEach es X.env)).any (·.1) = false) :
    SE G X (.Call (.Name x p) (e :: es) [] pos) (mMake C c (T.init c) fs (T.dx (T.init c))) := by
  intro env S ρ σ H Q he hrl h
  obtain ⟨hh, hm, mk, cl⟩ := gc.mker c x hj
  obtain ⟨⟨fd, ps, n, ds, F, hb, hd, hn⟩, fl⟩ := gc.cal (T.init c) hh
  refine PEw.by (pe_make mk F gc.room hg hm hb hd (pass0 (X := X)) paw hdb hs hpl) (ha env S ρ σ H _ he hrl (Out.bind h fun xs S1 ρ1 H1 vs w1 e1 r1 p1 h1 => ?_))
  exact fun x dxa nx nd hne => make_out cl hn fl r1 p1 h1 x dxa nx nd hne
theorem se_make0 {c : Nat} (gc : GC G X C k T) (hj : T.cname c = some x) (hg : Gl X x) (hdb : (x == ("__debug__" : Str)) = false) : SE G X (.Call (.Name x p) [] [] pos) (mMake C c (T.init c) mNil (T.dx (T.init c))) := by
  intro env S ρ σ H Q he hrl h
  obtain ⟨hh, hm, mk, cl⟩ := gc.mker c x hj
  obtain ⟨⟨fd, ps, n, ds, F, hb, hd, hn⟩, fl⟩ := gc.cal (T.init c) hh
  refine PEw.by (pe_make0 mk F gc.room hg hm hb hd (pass0 (X := X)) hdb) ?_
  exact fun x dxa nx nd hne => make_out (xs := []) cl hn fl hrl .nil h x dxa nx nd hne

/-! ### built-in functions and classes, by values -/
def CallW (X : Cx) (f : Value) : List V → Hp → VK → Prop := fun xs H Q => ∀ pins s σ us, Inv X pins σ H s → Vals xs us → wpAny (model X.prog X.w) X.A (call f us) (EP X pins σ Q) X.xe s
theorem callw {f : Value} : CallR X f (CallW X f) := fun pins s σ H xs us Q I r h => h pins s σ us I r
theorem CallW.by {f : Value} {r : List V → Hp → VK → Prop} (h : CallR X f r) {xs : List V} {H : Hp} {Q : VK} (q : r xs H Q) : CallW X f xs H Q := fun pins s σ us I rv => h pins s σ H xs us Q I rv q
abbrev GL := List Va → Sto → R Va
def CallS (G : Cf) (X : Cx) (f : Value) (g : GL) : Prop := ∀ (xs : List Va) (vs : List V) (S : Sto) (ρ : List Addr) (H : Hp) (Q : VK), Rel G ρ S H → Reps G ρ H vs xs → Out G (PV G) ρ H (g xs S) Q → CallW X f vs H Q
def mBi (g : GL) (fs : AF) : EF := fun env S => (fs env S).bind fun xs S1 => g xs S1
theorem se_bi {id : String} {g : GL} (hc : CallS G X (.builtin id) g) (hg : Gl X x) (hm : X.mg x = none) (hv : bootBuiltins x = some (.builtin id)) (ha : SA G X (e :: es) fs) (hn : x ≠ "__name__") (hdb : (x == ("__debug__" : Str)) = false)
    (hs : starEach (e :: es) X.env = (false, eval e X.env) :: starEach es X.env) (hpl : (backTo pos (starEach es X.env)).any (·.1) = false) : SE G X (.Call (.Name x p) (e :: es) [] pos) (mBi g fs) := by
  intro env S ρ σ H Q he hrl h
  refine PEw.by (pe_callB callw hg hm hv paw hn hdb hs hpl) (ha env S ρ σ H _ he hrl (Out.bind h fun xs S1 ρ1 H1 vs w1 e1 r1 p1 h1 => ?_))
  exact hc xs vs S1 ρ1 H1 Q r1 p1 h1
theorem se_ty {id : String} {g : GL} (hc : CallS G X (.type id) g) (hg : Gl X x) (hm : X.mg x = none) (hv : bootBuiltins x = some (.type id)) (ha : SA G X (e :: es) fs) (hn : x ≠ "__name__") (hdb : (x == ("__debug__" : Str)) = false)
    (hs : starEach (e :: es) X.env = (false, eval e X.env) :: starEach es X.env) (hpl : (backTo pos (starEach es X.env)).any (·.1) = false) : SE G X (.Call (.Name x p) (e :: es) [] pos) (mBi g fs) := by
  intro env S ρ σ H Q he hrl h
  refine PEw.by (pe_callTy callw hg hm hv paw hn hdb hs hpl) (ha env S ρ σ H _ he hrl (Out.bind h fun xs S1 ρ1 H1 vs w1 e1 r1 p1 h1 => ?_))
  exact hc xs vs S1 ρ1 H1 Q r1 p1 h1
/-- a list or a tuple: its items -/
def seqOf (x : Va) (S : Sto) : Option (List Va) := match x with
  | .tup xs => some xs
  | .fro xs => some xs
  | .ref n => match S.get n with
    | some (.lst xs) => some xs
    | _ => none
  | _ => none
theorem seq_rep {ρ : List Addr} {H : Hp} {S : Sto} {v : V} {x : Va} {xs : List Va} (hr : Rel G ρ S H) (p : Rep G ρ H v x) (h : seqOf x S = some xs) : ∃ q ys, v = .ref q ∧ (SqL G.K H q ys ∨ SqT G.K H q ys) ∧ Reps G ρ H ys xs := by
  cases p with
  | tup t r => cases h; exact ⟨_, _, rfl, .inr t, r⟩
  | fro t r => cases h; exact ⟨_, _, rfl, .inl t.sq, r⟩
  | ref hp =>
    rename_i n a
    have q' : (match S.get n with | some (.lst xs) => some xs | _ => none) = some xs := h
    cases g : S.get n with
    | none => rw [g] at q'; cases q'
    | some ob =>
      rw [g] at q'
      cases ob with
      | lst ys =>
        have e : ys = xs := Option.some.inj q'
        subst e
        obtain ⟨zs, f1, r1⟩ := hr.lst g hp
        exact ⟨_, _, rfl, .inl (SqL.of f1), r1⟩
      | _ => cases q'
  | _ => cases h
/-- a list (no tuple): its items -/
def lstOf (x : Va) (S : Sto) : Option (List Va) := match x with
  | .fro xs => some xs
  | .ref n => match S.get n with
    | some (.lst xs) => some xs
    | _ => none
  | _ => none
theorem lst_rep {ρ : List Addr} {H : Hp} {S : Sto} {v : V} {x : Va} {xs : List Va} (hr : Rel G ρ S H) (p : Rep G ρ H v x) (h : lstOf x S = some xs) : ∃ q ys, v = .ref q ∧ SqL G.K H q ys ∧ Reps G ρ H ys xs := by
  cases p with
  | fro t r => cases h; exact ⟨_, _, rfl, t.sq, r⟩
  | ref hp =>
    rename_i n a
    have q' : (match S.get n with | some (.lst xs) => some xs | _ => none) = some xs := h
    cases g : S.get n with
    | none => rw [g] at q'; cases q'
    | some ob =>
      rw [g] at q'
      cases ob with
      | lst ys =>
        have e : ys = xs := Option.some.inj q'
        subst e
        obtain ⟨zs, f1, r1⟩ := hr.lst g hp
        exact ⟨_, _, rfl, SqL.of f1, r1⟩
      | _ => cases q'
  | _ => cases h
def intsOf : List Va → Option (List Int)
  | [] => some []
  | .int i :: r => match intsOf r with
    | some is => some (i :: is)
    | none => none
  | _ :: _ => none
def blsOf : List Va → Option (List Bool)
  | [] => some []
  | .bl i :: r => match blsOf r with
    | some is => some (i :: is)
    | none => none
  | _ :: _ => none
theorem ints_rep {ρ : List Addr} {H : Hp} : ∀ {vs : List V} {xs : List Va} {is : List Int}, Reps G ρ H vs xs → intsOf xs = some is → vs = is.map V.int
  | _, _, _, .nil, h => by cases h; rfl
  | _, _, is, .cons (x := x) (xs := xs) p r, h => by
    cases p with
    | int i =>
      rw [intsOf] at h
      cases q : intsOf xs with
      | none => rw [q] at h; cases h
      | some js =>
        rw [q] at h
        cases h
        rw [ints_rep r q] <;> rfl
    | _ => cases h
theorem bls_rep {ρ : List Addr} {H : Hp} : ∀ {vs : List V} {xs : List Va} {is : List Bool}, Reps G ρ H vs xs → blsOf xs = some is → vs = is.map V.bl
  | _, _, _, .nil, h => by cases h; rfl
  | _, _, is, .cons (x := x) (xs := xs) p r, h => by
    cases p with
    | bl i =>
      rw [blsOf] at h
      cases q : blsOf xs with
      | none => rw [q] at h; cases h
      | some js =>
        rw [q] at h
        cases h
        rw [bls_rep r q] <;> rfl
    | _ => cases h
theorem reps1 {ρ : List Addr} {H : Hp} {vs : List V} {x : Va} (h : Reps G ρ H vs [x]) : ∃ v, vs = [v] ∧ Rep G ρ H v x := by
  obtain ⟨v, r, e, a, b⟩ := h.cons_inv
  rw [b.nil_inv] at e
  exact ⟨v, e, a⟩
theorem reps2 {ρ : List Addr} {H : Hp} {vs : List V} {x y : Va} (h : Reps G ρ H vs [x, y]) : ∃ v u, vs = [v, u] ∧ Rep G ρ H v x ∧ Rep G ρ H u y := by
  obtain ⟨v, r, e, a, b⟩ := h.cons_inv
  obtain ⟨u, e2, b2⟩ := reps1 b
  rw [e2] at e
  exact ⟨v, u, e, a, b2⟩
/-- a built-in of one argument: by cases on what it is -/
def g1 (g : Va → Sto → R Va) : GL := fun xs S => match xs with
  | [x] => g x S
  | _ => .bad
def g2 (g : Va → Va → Sto → R Va) : GL := fun xs S => match xs with
  | [x, y] => g x y S
  | _ => .bad
theorem calls1 {f : Value} {g : Va → Sto → R Va} (h : ∀ (x : Va) (v : V) (S : Sto) (ρ : List Addr) (H : Hp) (Q : VK), Rel G ρ S H → Rep G ρ H v x → Out G (PV G) ρ H (g x S) Q → CallW X f [v] H Q) : CallS G X f (g1 g) := by
  intro xs vs S ρ H Q hr rs q
  match xs, rs, q with
  | [], _, q => exact q.elim
  | [x], rs, q =>
    obtain ⟨v, e, p⟩ := reps1 rs
    subst e
    exact h x v S ρ H Q hr p q
  | _ :: _ :: _, _, q => exact q.elim
theorem calls2 {f : Value} {g : Va → Va → Sto → R Va} (h : ∀ (x y : Va) (v u : V) (S : Sto) (ρ : List Addr) (H : Hp) (Q : VK), Rel G ρ S H → Rep G ρ H v x → Rep G ρ H u y → Out G (PV G) ρ H (g x y S) Q → CallW X f [v, u] H Q) : CallS G X f (g2 g) := by
  intro xs vs S ρ H Q hr rs q
  match xs, rs, q with
  | [], _, q => exact q.elim
  | [_], _, q => exact q.elim
  | [x, y], rs, q =>
    obtain ⟨v, u, e, p, p2⟩ := reps2 rs
    subst e
    exact h x y v u S ρ H Q hr p p2 q
  | _ :: _ :: _ :: _, _, q => exact q.elim
def gLen : GL := g1 fun x S => match x with
  | .str y => match Nat.ble y.length 16777216 with
    | true => .ok (.int y.length) S
    | false => .bad
  | x => match seqOf x S with
    | some xs => .ok (.int xs.length) S
    | none => .bad
theorem calls_len (gx : GX G X) : CallS G X (.builtin "len") gLen := calls1 fun x v S ρ H Q hr p h => by
  have seq : ∀ xs, seqOf x S = some xs → Out G (PV G) ρ H (.ok (.int xs.length) S) Q → CallW X (.builtin "len") [v] H Q := fun xs q h => by
    obtain ⟨q1, ys, rfl, hs, r⟩ := seq_rep hr p q
    refine CallW.by call_len_seq ⟨q1, ys, rfl, by rw [gx.hK]; exact hs, ?_⟩
    rw [r.length]
    exact Out.ok h hr (.int _)
  have gen : (match seqOf x S with | some xs => R.ok (Va.int xs.length) S | none => .bad) ≠ R.bad → True := fun _ => trivial
  have fin : ∀ (h : Out G (PV G) ρ H (match seqOf x S with | some xs => R.ok (Va.int xs.length) S | none => .bad) Q), CallW X (.builtin "len") [v] H Q := fun h => by
    cases q : seqOf x S with
    | none => rw [q] at h; exact h.elim
    | some xs => rw [q] at h; exact seq xs q h
  cases p with
  | str y =>
    have h' : Out G (PV G) ρ H (match Nat.ble y.length 16777216 with | true => R.ok (Va.int y.length) S | false => .bad) Q := h
    cases qb : Nat.ble y.length 16777216 with
    | false => rw [qb] at h'; exact h'.elim
    | true =>
      rw [qb] at h'
      exact CallW.by call_len ⟨.str y, y.length, rfl, ⟨ble_line qb, rfl⟩, Out.ok h' hr (.int _)⟩
  | tup t r => exact fin h
  | fro t r => exact fin h
  | ref e => exact fin h
  | _ => exact h.elim
def gList : GL := g1 fun x S => match seqOf x S with
  | some xs => .ok (.ref S.n) (S.new (.lst xs))
  | none => .bad
theorem calls_list (gx : GX G X) : CallS G X (.type "list") gList := calls1 fun x v S ρ H Q hr p h => by
  cases q : seqOf x S with
  | none => rw [q] at h; exact h.elim
  | some xs =>
    rw [q] at h
    obtain ⟨q1, ys, rfl, hs, r⟩ := seq_rep hr p q
    exact CallW.by call_list_of ⟨q1, ys, rfl, by rw [gx.hK]; exact hs, fun l hl => Out.lst h hr r l hl⟩
def gTuple : GL := g1 fun x S => match seqOf x S with
  | some xs => .ok (.tup xs) S
  | none => .bad
theorem calls_tuple (gx : GX G X) : CallS G X (.type "tuple") gTuple := calls1 fun x v S ρ H Q hr p h => by
  cases q : seqOf x S with
  | none => rw [q] at h; exact h.elim
  | some xs =>
    rw [q] at h
    obtain ⟨q1, ys, rfl, hs, r⟩ := seq_rep hr p q
    refine CallW.by call_tuple_of ⟨q1, ys, rfl, ?_⟩
    rcases hs with hs | hs
    · exact .inl ⟨by rw [gx.hK]; exact hs, fun l hl => Out.tup h hr r l hl⟩
    · exact .inr ⟨by rw [gx.hK]; exact hs, Out.ok h hr (.tup hs r)⟩
def gSum : GL := g1 fun x S => match lstOf x S with
  | some xs => match intsOf xs with
    | some is => .ok (.int is.sum) S
    | none => .bad
  | none => .bad
theorem calls_sum (gx : GX G X) : CallS G X (.builtin "sum") gSum := calls1 fun x v S ρ H Q hr p h => by
  cases q : lstOf x S with
  | none => rw [q] at h; exact h.elim
  | some xs =>
    rw [q] at h
    have h' : Out G (PV G) ρ H (match intsOf xs with | some is => R.ok (Va.int is.sum) S | none => .bad) Q := h
    cases q2 : intsOf xs with
    | none => rw [q2] at h'; exact h'.elim
    | some is =>
      rw [q2] at h'
      obtain ⟨q1, ys, rfl, hs, r⟩ := lst_rep hr p q
      have e := ints_rep r q2
      subst e
      exact CallW.by (cr_sum gx.calm) ⟨q1, is, rfl, by rw [gx.hK]; exact hs, Out.ok h' hr (.int _)⟩
def gAll : GL := g1 fun x S => match lstOf x S with
  | some xs => match blsOf xs with
    | some bs => .ok (.bl (bs.all id)) S
    | none => .bad
  | none => .bad
def gAny : GL := g1 fun x S => match lstOf x S with
  | some xs => match blsOf xs with
    | some bs => .ok (.bl (bs.any id)) S
    | none => .bad
  | none => .bad
theorem calls_all (gx : GX G X) : CallS G X (.builtin "all") gAll := calls1 fun x v S ρ H Q hr p h => by
  cases q : lstOf x S with
  | none => rw [q] at h; exact h.elim
  | some xs =>
    rw [q] at h
    have h' : Out G (PV G) ρ H (match blsOf xs with | some bs => R.ok (Va.bl (bs.all id)) S | none => .bad) Q := h
    cases q2 : blsOf xs with
    | none => rw [q2] at h'; exact h'.elim
    | some is =>
      rw [q2] at h'
      obtain ⟨q1, ys, rfl, hs, r⟩ := lst_rep hr p q
      have e := bls_rep r q2
      subst e
      exact CallW.by (cr_all gx.calm) ⟨q1, is, rfl, by rw [gx.hK]; exact hs, Out.ok h' hr (.bl _)⟩
theorem calls_any (gx : GX G X) : CallS G X (.builtin "any") gAny := calls1 fun x v S ρ H Q hr p h => by
  cases q : lstOf x S with
  | none => rw [q] at h; exact h.elim
  | some xs =>
    rw [q] at h
    have h' : Out G (PV G) ρ H (match blsOf xs with | some bs => R.ok (Va.bl (bs.any id)) S | none => .bad) Q := h
    cases q2 : blsOf xs with
    | none => rw [q2] at h'; exact h'.elim
    | some is =>
      rw [q2] at h'
      obtain ⟨q1, ys, rfl, hs, r⟩ := lst_rep hr p q
      have e := bls_rep r q2
      subst e
      exact CallW.by (cr_any gx.calm) ⟨q1, is, rfl, by rw [gx.hK]; exact hs, Out.ok h' hr (.bl _)⟩
def gMax2 : GL := g2 fun x y S => match x, y with
  | .int i, .int j => .ok (.int (if j > i then j else i)) S
  | _, _ => .bad
def gMin2 : GL := g2 fun x y S => match x, y with
  | .int i, .int j => .ok (.int (if j < i then j else i)) S
  | _, _ => .bad
theorem calls_max2 (gx : GX G X) : CallS G X (.builtin "max") gMax2 := calls2 fun x y v u S ρ H Q hr p p2 h => by
  cases p with
  | int i => cases p2 with
    | int j => exact CallW.by (call_max2 gx.calm) ⟨i, j, rfl, Out.ok h hr (.int _)⟩
    | _ => exact h.elim
  | _ => exact h.elim
theorem calls_min2 (gx : GX G X) : CallS G X (.builtin "min") gMin2 := calls2 fun x y v u S ρ H Q hr p p2 h => by
  cases p with
  | int i => cases p2 with
    | int j => exact CallW.by (call_min2 gx.calm) ⟨i, j, rfl, Out.ok h hr (.int _)⟩
    | _ => exact h.elim
  | _ => exact h.elim
def gInt : GL := g1 fun x S => match x with
  | .int i => .ok (.int i) S
  | .bl b => .ok (.int (if b then 1 else 0)) S
  | _ => .bad
theorem calls_int : CallS G X (.type "int") gInt := calls1 fun x v S ρ H Q hr p h => by
  cases p with
  | int i => exact CallW.by call_int1 (.inl ⟨i, rfl, Out.ok h hr (.int _)⟩)
  | bl b => exact CallW.by call_int1 (.inr ⟨b, rfl, Out.ok h hr (.int _)⟩)
  | _ => exact h.elim
/-! ### isinstance of a built-in class -/
def tyN (x : Va) (S : Sto) : Option String := match x with
  | .non => some "NoneType"
  | .bl _ => some "bool"
  | .int _ => some "int"
  | .str _ => some "str"
  | .tup _ => some "tuple"
  | .fro _ => some "list"
  | .ref n => match S.get n with
    | some (.lst _) => some "list"
    | some (.dic _) => some "dict"
    | _ => none
theorem tyN_rep {ρ : List Addr} {H : Hp} {S : Sto} {v : V} {x : Va} {t : String} (hr : Rel G ρ S H) (p : Rep G ρ H v x) (h : tyN x S = some t) : TyX G.K H v (.type t) := by
  cases p with
  | non => cases h; exact .base .non
  | bl b => cases h; exact .base (.bl b)
  | int i => cases h; exact .base (.int i)
  | str i => cases h; exact .base (.str i)
  | tup q r =>
    cases h
    rcases q with (q | ⟨o, q⟩) | ⟨o, its, n, k, c, _⟩
    · exact .base (.tup q)
    · exact .fTuple q
    · exact .kTuple k c
  | fro q r =>
    cases h
    rcases q with ⟨o, q⟩ | ⟨o, its, n, k, c, _⟩
    · exact .base (.frz q)
    · exact .kList k c
  | ref hp =>
    rename_i n a
    have q' : (match S.get n with | some (.lst _) => some "list" | some (.dic _) => some "dict" | _ => none) = some t := h
    cases g : S.get n with
    | none => rw [g] at q'; cases q'
    | some ob =>
      rw [g] at q'
      cases ob with
      | lst ys =>
        cases q'
        obtain ⟨zs, f1, r1⟩ := hr.lst g hp
        exact .base (.lst f1)
      | dic ys =>
        cases q'
        obtain ⟨zs, f1, r1⟩ := hr.dic g hp
        exact .base (.dK f1)
      | ins c fs => cases q'
/-- by the six kinds -/
structure IsT where
  n : Bool
  b : Bool
  i : Bool
  s : Bool
  t : Bool
  l : Bool
  d : Bool
def isTy (q : IsT) (x : Va) (S : Sto) : Option Bool := match x with
  | .non => some q.n
  | .bl _ => some q.b
  | .int _ => some q.i
  | .str _ => some q.s
  | .tup _ => some q.t
  | .fro _ => some q.l
  | .ref n => match S.get n with
    | some (.lst _) => some q.l
    | some (.dic _) => some q.d
    | _ => none
def IsT.ok (q : IsT) (T : String) : Prop := kitB "NoneType" T = some q.n ∧ kitB "bool" T = some q.b ∧ kitB "int" T = some q.i ∧ kitB "str" T = some q.s ∧ kitB "tuple" T = some q.t ∧ kitB "list" T = some q.l ∧ kitB "dict" T = some q.d
theorem isTy_ok {q : IsT} {T : String} (ok : q.ok T) {x : Va} {S : Sto} {b : Bool} (h : isTy q x S = some b) : ∃ t, tyN x S = some t ∧ kitB t T = some b := by
  obtain ⟨k1, k2, k3, k4, k5, k6, k7⟩ := ok
  cases x with
  | non => cases h; exact ⟨_, rfl, k1⟩
  | bl _ => cases h; exact ⟨_, rfl, k2⟩
  | int _ => cases h; exact ⟨_, rfl, k3⟩
  | str _ => cases h; exact ⟨_, rfl, k4⟩
  | tup _ => cases h; exact ⟨_, rfl, k5⟩
  | fro _ => cases h; exact ⟨_, rfl, k6⟩
  | ref n =>
    have q' : (match S.get n with | some (.lst _) => some q.l | some (.dic _) => some q.d | _ => none) = some b := h
    show ∃ t, (match S.get n with | some (.lst _) => some "list" | some (.dic _) => some "dict" | _ => none) = some t ∧ kitB t T = some b
    cases g : S.get n with
    | none => rw [g] at q'; cases q'
    | some ob =>
      rw [g] at q'
      cases ob with
      | lst ys => cases q'; exact ⟨_, rfl, k6⟩
      | dic ys => cases q'; exact ⟨_, rfl, k7⟩
      | ins c fs => cases q'
def mIsi (q : IsT) (f : EF) : EF := fun env S => (f env S).bind fun x S1 => match isTy q x S1 with
  | some b => .ok (.bl b) S1
  | none => .bad
theorem se_isi {q : IsT} {tx : Str} {n : String} {p2 : Pos} (gx : GX G X) (ok : q.ok n) (hg : Gl X "isinstance") (hm : X.mg "isinstance" = none) (hg2 : Gl X tx) (hm2 : X.mg tx = none) (hv2 : bootBuiltins tx = some (.type n)) (hn2 : tx ≠ "__name__") (hd2 : (tx == ("__debug__" : Str)) = false) (ha : SE G X e fa)
    (hs : starEach [e, .Name tx p2] X.env = (false, eval e X.env) :: starEach [.Name tx p2] X.env) (hs2 : starEach [.Name tx p2] X.env = [(false, eval (.Name tx p2) X.env)]) (hpl : (backTo pos (starEach [.Name tx p2] X.env)).any (·.1) = false) :
    SE G X (.Call (.Name "isinstance" p) [e, .Name tx p2] [] pos) (mIsi q fa) := by
  intro env S ρ σ H Q he hrl h
  refine PEw.by (pe_callB call_isi hg hm (by decide +kernel) (pa_cons pew (pa_cons (pe_bltn (v := .ty n) hg2 hm2 hv2 rfl hn2 hd2) pa_nil (by rw [hs2] <;> rfl)) hs) (by decide) (by decide) hs hpl) (ha env S ρ σ H _ he hrl (Out.bind h fun x S1 ρ1 H1 v w1 e1 r1 p1 h1 => ?_))
  cases qq : isTy q x S1 with
  | none => rw [qq] at h1; exact h1.elim
  | some b =>
    rw [qq] at h1
    obtain ⟨t, h2, h3⟩ := isTy_ok ok qq
    exact ⟨v, .ty n, .type t, .type n, b, rfl, .ty n, by rw [gx.hK]; exact tyN_rep r1 p1 h2, by rw [gx.hK]; exact kit_ty h3, Out.ok h1 r1 (.bl b)⟩
def isTInt : IsT := ⟨false, true, true, false, false, false, false⟩
def isTBool : IsT := ⟨false, true, false, false, false, false, false⟩
def isTStr : IsT := ⟨false, false, false, true, false, false, false⟩
def isTTuple : IsT := ⟨false, false, false, false, true, false, false⟩
def isTList : IsT := ⟨false, false, false, false, false, true, false⟩
theorem isTInt_ok : isTInt.ok "int" := ⟨by decide +kernel, by decide +kernel, by decide +kernel, by decide +kernel, by decide +kernel, by decide +kernel, by decide +kernel⟩
theorem isTBool_ok : isTBool.ok "bool" := ⟨by decide +kernel, by decide +kernel, by decide +kernel, by decide +kernel, by decide +kernel, by decide +kernel, by decide +kernel⟩
theorem isTStr_ok : isTStr.ok "str" := ⟨by decide +kernel, by decide +kernel, by decide +kernel, by decide +kernel, by decide +kernel, by decide +kernel, by decide +kernel⟩
theorem isTTuple_ok : isTTuple.ok "tuple" := ⟨by decide +kernel, by decide +kernel, by decide +kernel, by decide +kernel, by decide +kernel, by decide +kernel, by decide +kernel⟩
theorem isTList_ok : isTList.ok "list" := ⟨by decide +kernel, by decide +kernel, by decide +kernel, by decide +kernel, by decide +kernel, by decide +kernel, by decide +kernel⟩
end
end Mi
/-! Statements, targets, loops, list comprehensions. -/
namespace Mi
open PySem PySem.Spec PyProof.Rows L2

inductive Fl where
  | nx (env : Ev) | bk (env : Ev) | ct (env : Ev) | rt (v : Va)
abbrev SF := Ev → Sto → R Fl
def OutS (G : Cf) (ρ : List Addr) (H : Hp) (r : R Fl) (D : Ends) : Prop := match r with
  | .ok (.nx env) S => ∀ ρ' H' σ', Ext G ρ H ρ' H' → Rel G ρ' S H' → RepE G ρ' H' σ' env → D.nx σ' H'
  | .ok (.bk env) S => ∀ ρ' H' σ', Ext G ρ H ρ' H' → Rel G ρ' S H' → RepE G ρ' H' σ' env → D.bk σ' H'
  | .ok (.ct env) S => ∀ ρ' H' σ', Ext G ρ H ρ' H' → Rel G ρ' S H' → RepE G ρ' H' σ' env → D.ct σ' H'
  | .ok (.rt v) S => ∀ ρ' H' u, Ext G ρ H ρ' H' → Rel G ρ' S H' → Rep G ρ' H' u v → D.rt u H'
  | .bad => False
theorem OutS.mono {G : Cf} {ρ ρ1 : List Addr} {H H1 : Hp} {r : R Fl} {D : Ends} (e : Ext G ρ H ρ1 H1) (h : OutS G ρ H r D) : OutS G ρ1 H1 r D := by
  cases r with
  | bad => exact h
  | ok f S => cases f with
    | rt v => exact fun ρ' H' u e' => h ρ' H' u (e.trans e')
    | nx env => exact fun ρ' H' u e' => h ρ' H' u (e.trans e')
    | bk env => exact fun ρ' H' u e' => h ρ' H' u (e.trans e')
    | ct env => exact fun ρ' H' u e' => h ρ' H' u (e.trans e')
theorem OutS.bind {α β : Type} {G : Cf} {P : List Addr → Hp → β → α → Prop} {ρ : List Addr} {H : Hp} {r : R α} {k : α → Sto → R Fl} {D : Ends} {Q : β → Hp → Prop} (h : OutS G ρ H (r.bind k) D)
    (c : ∀ (a : α) (S' : Sto) (ρ' : List Addr) (H' : Hp) (b : β), r = .ok a S' → Ext G ρ H ρ' H' → Rel G ρ' S' H' → P ρ' H' b a → OutS G ρ' H' (k a S') D → Q b H') : Out G P ρ H r Q := by
  cases r with
  | bad => exact h.elim
  | ok a S => exact fun ρ' H' b e rel p => c a S ρ' H' b rfl e rel p (OutS.mono e h)

def PSw (X : Cx) (st : Stmt) : TS := fun D σ H => ∀ pins s, Inv X pins σ H s → wpAny (model X.prog X.w) X.A (exec st X.env) (SP X pins D) X.xe s
def PSsw (X : Cx) (st : List Stmt) : TS := fun D σ H => ∀ pins s, Inv X pins σ H s → wpAny (model X.prog X.w) X.A (execs st X.env) (SP X pins D) X.xe s
theorem psw {X : Cx} {e : Stmt} : PS X e (PSw X e) := ⟨fun pins s _ _ _ I h => h pins s I⟩
theorem pssw {X : Cx} {e : List Stmt} : PSs X e (PSsw X e) := ⟨fun pins s _ _ _ I h => h pins s I⟩
theorem PSw.by {X : Cx} {e : Stmt} {t : TS} {σ : L2.St} {H : Hp} {D : Ends} (h : PS X e t) (q : t D σ H) : PSw X e D σ H := fun pins s I => h.run pins s σ H D I q
theorem PSsw.by {X : Cx} {e : List Stmt} {t : TS} {σ : L2.St} {H : Hp} {D : Ends} (h : PSs X e t) (q : t D σ H) : PSsw X e D σ H := fun pins s I => h.run pins s σ H D I q
def SS (G : Cf) (X : Cx) (st : Stmt) (f : SF) : Prop := ∀ (env : Ev) (S : Sto) (ρ : List Addr) (σ : L2.St) (H : Hp) (D : Ends), RepE G ρ H σ env → Rel G ρ S H → OutS G ρ H (f env S) D → PSw X st D σ H
def SSs (G : Cf) (X : Cx) (st : List Stmt) (f : SF) : Prop := ∀ (env : Ev) (S : Sto) (ρ : List Addr) (σ : L2.St) (H : Hp) (D : Ends), RepE G ρ H σ env → Rel G ρ S H → OutS G ρ H (f env S) D → PSsw X st D σ H

section
variable {G : Cf} {X : Cx} {a b c e o : Expr} {es : List Expr} {st : Stmt} {rest body orelse : List Stmt} {fa fb fc fo : EF} {fs : AF} {f g : SF} {pos : Pos}
def mEnd : SF := fun env S => .ok (.nx env) S
def mSeq (f g : SF) : SF := fun env S => match f env S with
  | .ok (.nx env') S' => g env' S'
  | r => r
theorem ss_nil : SSs G X [] mEnd := fun env S ρ σ H D he hr h => PSsw.by pss_nil (h ρ H σ Ext.refl hr he)
theorem ss_cons (h1 : SS G X st f) (h2 : SSs G X rest g) : SSs G X (st :: rest) (mSeq f g) := by
  intro env S ρ σ H D he hr h
  refine PSsw.by (pss_cons psw pssw) (h1 env S ρ σ H _ he hr ?_)
  unfold mSeq at h
  cases q : f env S with
  | bad => rw [q] at h; exact h.elim
  | ok fl S1 =>
    rw [q] at h
    cases fl with
    | nx env1 => exact fun ρ1 H1 σ1 e1 r1 he1 => h2 env1 S1 ρ1 σ1 H1 D he1 r1 (OutS.mono e1 h)
    | bk env1 => exact h
    | ct env1 => exact h
    | rt v => exact h
theorem ss_one (h1 : SS G X st f) : SSs G X [st] f := fun env S ρ σ H D he hr h => PSsw.by (pss_one psw) (h1 env S ρ σ H D he hr h)
def mBreak : SF := fun env S => .ok (.bk env) S
def mCont : SF := fun env S => .ok (.ct env) S
def mNever : SF := fun _ _ => .bad
theorem ss_pass : SS G X (.Pass pos) mEnd := fun env S ρ σ H D he hr h => PSw.by ps_pass (h ρ H σ Ext.refl hr he)
theorem ss_break : SS G X (.Break pos) mBreak := fun env S ρ σ H D he hr h => PSw.by ps_break (h ρ H σ Ext.refl hr he)
theorem ss_cont : SS G X (.Continue pos) mCont := fun env S ρ σ H D he hr h => PSw.by ps_continue (h ρ H σ Ext.refl hr he)
theorem ss_never : SS G X st mNever := fun env S ρ σ H D he hr h => h.elim
def mExpr (a : EF) : SF := fun env S => (a env S).bind fun _ S1 => .ok (.nx env) S1
theorem ss_expr (ha : SE G X a fa) (hs : swapsWith a none pos.line X.env = pure false) : SS G X (.Expr a pos) (mExpr fa) := by
  intro env S ρ σ H D he hr h
  refine PSw.by (ps_expr pew hs) (ha env S ρ σ H _ he hr (OutS.bind h fun x S1 ρ1 H1 v w1 e1 r1 p1 h1 => ?_))
  exact h1 ρ1 H1 σ Ext.refl r1 (he.mono e1)
def mRet (a : EF) : SF := fun env S => (a env S).bind fun x S1 => .ok (.rt x) S1
theorem ss_ret (ha : SE G X a fa) : SS G X (.Return (some a) pos) (mRet fa) := by
  intro env S ρ σ H D he hr h
  refine PSw.by (ps_ret pew) (ha env S ρ σ H _ he hr (OutS.bind h fun x S1 ρ1 H1 v w1 e1 r1 p1 h1 => ?_))
  exact h1 ρ1 H1 v Ext.refl r1 p1
def mRetN : SF := fun _ S => .ok (.rt .non) S
theorem ss_retN : SS G X (.Return none pos) mRetN := fun env S ρ σ H D he hr h => PSw.by ps_retN (h ρ H .non Ext.refl hr .non)
def mIfS (t : BF) (f g : SF) : SF := fun env S => (t env S).bind fun k S1 => match k with
  | true => f env S1
  | false => g env S1
theorem ss_if {t : BF} (hc : ST G X c t) (ha : SSs G X body f) (hb : SSs G X orelse g) : SS G X (.If c body orelse pos) (mIfS t f g) := by
  intro env S ρ σ H D he hr h
  refine PSw.by (ps_if ptw pssw pssw) (hc env S ρ σ H _ he hr (OutS.bind h fun x S1 ρ1 H1 v w1 e1 r1 p1 h1 => ?_))
  subst p1
  cases v with
  | true => exact ha env S1 ρ1 σ H1 D (he.mono e1) r1 h1
  | false => exact hb env S1 ρ1 σ H1 D (he.mono e1) r1 h1

/-! ### targets -/
abbrev TF := Va → Ev → Sto → Option Ev
/-- a target of names: what is stored, at the slots ids alone -/
def PGw (X : Cx) (tg : Expr) : TG := fun v σ H Q => ∀ pins s u, Inv X pins σ H s → RelV v u → wpAny (model X.prog X.w) X.A (assign tg X.env u) (fun _ s' => ∃ σ' H', Inv X pins σ' H' s' ∧ Q σ' H') X.xe s
def PGsw (X : Cx) (tg : List Expr) : TGs := fun vs σ H Q => ∀ pins s us, Inv X pins σ H s → Vals vs us → wpAny (model X.prog X.w) X.A (assignInOrder ((assignEach tg X.env).map (·.2)) us) (fun _ s' => ∃ σ' H', Inv X pins σ' H' s' ∧ Q σ' H') X.xe s
theorem pgw {X : Cx} {tg : Expr} : PG X tg (PGw X tg) := ⟨fun pins s _ _ _ u _ I r h => h pins s u I r⟩
theorem pgsw {X : Cx} {tg : List Expr} : PGs X tg (PGsw X tg) := ⟨fun pins s _ _ _ us _ I r h => h pins s us I r⟩
theorem PGw.by {X : Cx} {tg : Expr} {t : TG} {v : V} {σ : L2.St} {H : Hp} {Q : L2.St → Hp → Prop} (h : PG X tg t) (q : t v σ H Q) : PGw X tg v σ H Q := fun pins s u I r => h.run pins s σ H v u Q I r q
theorem PGsw.by {X : Cx} {tg : List Expr} {t : TGs} {v : List V} {σ : L2.St} {H : Hp} {Q : L2.St → Hp → Prop} (h : PGs X tg t) (q : t v σ H Q) : PGsw X tg v σ H Q := fun pins s u I r => h.run pins s σ H v u Q I r q
structure Kept (ids : List Nat) (σ σ' : L2.St) : Prop where
  len : σ'.length = σ.length
  same : ∀ j, j ∉ ids → σ'[j]? = σ[j]?
def SG (G : Cf) (X : Cx) (tg : Expr) (t : TF) (ids : List Nat) : Prop := ∀ (x : Va) (v : V) (env env' : Ev) (S : Sto) (ρ : List Addr) (σ : L2.St) (H : Hp) (Q : L2.St → Hp → Prop), RepE G ρ H σ env → Rel G ρ S H → Rep G ρ H v x → t x env S = some env' →
  (∀ σ', RepE G ρ H σ' env' → Kept ids σ σ' → Q σ' H) → PGw X tg v σ H Q
abbrev TFs := List Va → Ev → Sto → Option Ev
def SGs (G : Cf) (X : Cx) (tg : List Expr) (t : TFs) (ids : List Nat) : Prop := ∀ (x : List Va) (v : List V) (env env' : Ev) (S : Sto) (ρ : List Addr) (σ : L2.St) (H : Hp) (Q : L2.St → Hp → Prop), RepE G ρ H σ env → Rel G ρ S H → Reps G ρ H v x → t x env S = some env' →
  (∀ σ', RepE G ρ H σ' env' → Kept ids σ σ' → Q σ' H) → PGsw X tg v σ H Q
def tNm (i : Nat) : TF := fun v env _ => some (env.set i (some v))
theorem sg_name {i : Nat} {x : Str} (gx : GX G X) (hi : X.N[i]? = some x) (hx : Loc X.env.scope x) (hf : X.fn x = true ∨ X.env.scope.names.lookup x = some .local) : SG G X (.Name x pos) (tNm i) [i] := by
  intro x v env env' S ρ σ H Q he hr p h q
  cases h
  refine PGw.by (pg_name gx.nd hi hx hf) (q _ (he.set p i) ⟨List.length_set, fun j hj => ?_⟩)
  rw [List.getElem?_set_ne (fun z => hj (by rw [z]; exact List.mem_singleton.mpr rfl))]
def tsNil : TFs := fun vs env _ => match vs with
  | [] => some env
  | _ => none
def tsCons (t : TF) (u : TFs) : TFs := fun vs env S => match vs with
  | [] => none
  | v :: r => match t v env S with
    | some env1 => u r env1 S
    | none => none
theorem sgs_nil : SGs G X [] tsNil [] := by
  intro x v env env' S ρ σ H Q he hr p h q
  cases x with
  | nil =>
    cases h
    exact PGsw.by pgs_nil ⟨p.nil_inv, q σ he ⟨rfl, fun _ _ => rfl⟩⟩
  | cons _ _ => cases h
theorem sgs_cons {t : TF} {u : TFs} {i1 i2 : List Nat} (h1 : SG G X e t i1) (h2 : SGs G X es u i2) (hs : (assignEach (e :: es) X.env).map (·.2) = assign e X.env :: (assignEach es X.env).map (·.2)) : SGs G X (e :: es) (tsCons t u) (i1 ++ i2) := by
  intro x v env env' S ρ σ H Q he hr p h q
  cases x with
  | nil => cases h
  | cons y ys =>
    obtain ⟨w, r, ev, pw, pr⟩ := p.cons_inv
    have h' : (match t y env S with | some env1 => u ys env1 S | none => none) = some env' := h
    cases q1 : t y env S with
    | none => rw [q1] at h'; cases h'
    | some env1 =>
      rw [q1] at h'
      refine PGsw.by (pgs_cons pgw pgsw hs) ⟨w, r, ev, h1 y w env env1 S ρ σ H _ he hr pw q1 fun σ1 he1 k1 => ?_⟩
      refine h2 ys r env1 env' S ρ σ1 H Q he1 hr pr h' fun σ2 he2 k2 => q σ2 he2 ⟨k2.len.trans k1.len, fun j hj => ?_⟩
      rw [k2.same j fun z => hj (List.mem_append_right _ z), k1.same j fun z => hj (List.mem_append_left _ z)]
def tTp (n : Nat) (u : TFs) : TF := fun v env S => match v with
  | .tup xs => match Nat.beq xs.length n with
    | true => u xs env S
    | false => none
  | _ => none
theorem sg_tup {k n : Nat} {u : TFs} {ids : List Nat} (gx : GX G X) (h1 : SGs G X es u ids) (hn : (assignEach es X.env).length = n) (hst : (assignEach es X.env).findIdx? (·.1) = none) : SG G X (.Tuple es k pos) (tTp n u) ids := by
  intro x v env env' S ρ σ H Q he hr p h q
  cases p with
  | tup t r =>
    rename_i pp ys xs
    have h' : (match Nat.beq xs.length n with | true => u xs env S | false => none) = some env' := h
    cases qb : Nat.beq xs.length n with
    | false => rw [qb] at h'; cases h'
    | true =>
      rw [qb] at h'
      exact PGw.by (pg_tup gx.calm pgsw hn hst) ⟨_, _, rfl, by rw [gx.hK]; exact t, by rw [r.length]; exact Nat.eq_of_beq_eq_true qb, h1 xs ys env env' S ρ σ H Q he hr r h' q⟩
  | _ => cases h

/-! ### assignments -/
def mSet (t : TF) (a : EF) : SF := fun env S => (a env S).bind fun x S1 => match t x env S1 with
  | some env' => .ok (.nx env') S1
  | none => .bad
theorem ss_asg {tg : Expr} {t : TF} {ids : List Nat} (ha : SE G X a fa) (hg : SG G X tg t ids) (hs : swapsWithSole [tg] a pos.line X.env = pure false) (hw : swappedStores [tg] a X.env = pure none) (h1 : (assignEach [tg] X.env).map (·.2) = [assign tg X.env]) :
    SS G X (.Assign [tg] a pos) (mSet t fa) := by
  intro env S ρ σ H D he hr h
  refine PSw.by (ps_asg pew pgw hs hw h1) (ha env S ρ σ H _ he hr (OutS.bind h fun x S1 ρ1 H1 v w1 e1 r1 p1 h1 => ?_))
  cases q : t x env S1 with
  | none => rw [q] at h1; exact h1.elim
  | some env' =>
    rw [q] at h1
    exact hg x v env env' S1 ρ1 σ H1 _ (he.mono e1) r1 p1 q fun σ' he' _ => h1 ρ1 H1 σ' Ext.refl r1 he'
theorem ss_set {i : Nat} {x : Str} {pos' : Pos} (gx : GX G X) (hi : X.N[i]? = some x) (hx : Loc X.env.scope x) (ha : SE G X a fa) (hs : swapsWith a (some (.Name x pos')) pos.line X.env = pure false) (hf : X.fn x = true ∨ X.env.scope.names.lookup x = some .local) :
    SS G X (.Assign [.Name x pos'] a pos) (mSet (tNm i) fa) := by
  intro env S ρ σ H D he hr h
  refine PSw.by (ps_set gx.nd hi hx pew hs hf) (ha env S ρ σ H _ he hr (OutS.bind h fun x S1 ρ1 H1 v w1 e1 r1 p1 h1 => ?_))
  exact h1 ρ1 H1 _ Ext.refl r1 ((he.mono e1).set p1 i)
/-- a, b = x, y -/
def mPar (i j : Nat) (f : AF) : SF := fun env S => (f env S).bind fun xs S1 => match xs with
  | [v, w] => .ok (.nx ((env.set i (some v)).set j (some w))) S1
  | _ => .bad
theorem ss_par {i j : Nat} {x y : Str} {px py pt : Pos} {kt k2 : Nat} {pt2 : Pos} (gx : GX G X) (hi : X.N[i]? = some x) (hj : X.N[j]? = some y) (hij : i ≠ j) (hx : X.env.scope.names.lookup x = some .local) (hy : X.env.scope.names.lookup y = some .local) (ha : SA G X [a, b] fs)
    (hw : swappedStores [.Tuple [.Name x px, .Name y py] kt pt] (.Tuple [a, b] k2 pt2) X.env = pure (some [x, y])) (hs : swapsWithSole [.Tuple [.Name x px, .Name y py] kt pt] (.Tuple [a, b] k2 pt2) pos.line X.env = pure false) :
    SS G X (.Assign [.Tuple [.Name x px, .Name y py] kt pt] (.Tuple [a, b] k2 pt2) pos) (mPar i j fs) := by
  intro env S ρ σ H D he hr h
  refine PSw.by (ps_par gx.calm gx.nd hi hj hij hx hy paw hw hs) (ha env S ρ σ H _ he hr (OutS.bind h fun xs S1 ρ1 H1 vs w1 e1 r1 p1 h1 => ?_))
  match xs, p1, h1 with
  | [], _, h1 => exact h1.elim
  | [_], _, h1 => exact h1.elim
  | [v, w], p1, h1 =>
    obtain ⟨u1, u2, e, q1, q2⟩ := reps2 p1
    exact ⟨u1, u2, e, h1 ρ1 H1 _ Ext.refl r1 (((he.mono e1).set q1 i).set q2 j)⟩
  | _ :: _ :: _ :: _, _, h1 => exact h1.elim
/-- o[i] = e: a list, a dict -/
def gSetIx (o i v : Va) (S : Sto) : Option Sto := match o with
  | .ref n => match S.get n with
    | some (.lst xs) => match i with
      | .int k => match ixN xs.length k with
        | some j => some (S.set n (.lst (xs.set j v)))
        | none => none
      | _ => none
    | some (.dic kvs) => match keyOf i with
      | some k => match Nat.blt kvs.length 1000000 with
        | true => some (S.set n (.dic (dPut kvs k v)))
        | false => none
      | none => none
    | _ => none
  | _ => none
def mSetIx (o i a : EF) : SF := fun env S => (a env S).bind fun v S1 => (o env S1).bind fun x S2 => (i env S2).bind fun y S3 => match gSetIx x y v S3 with
  | some S4 => .ok (.nx env) S4
  | none => .bad
def PSetW (X : Cx) : TSet := fun o i v H Q => ∀ pins s σ ov iv u, Inv X pins σ H s → RelV o ov → RelV i iv → RelV v u → wpAny (model X.prog X.w) X.A (setItem ov iv u) (fun _ s' => ∃ H', Inv X pins σ H' s' ∧ Q H') X.xe s
theorem psetw : PSet X (PSetW X) := fun pins s σ H o i v ov iv u Q I r1 r2 r3 h => h pins s σ ov iv u I r1 r2 r3
theorem PSetW.by {t : TSet} (h : PSet X t) {o i v : V} {H : Hp} {Q : Hp → Prop} (q : t o i v H Q) : PSetW X o i v H Q := fun pins s σ ov iv u I r1 r2 r3 => h pins s σ H o i v ov iv u Q I r1 r2 r3 q

/-- a written object: what follows -/
theorem Out.put {ρ : List Addr} {H : Hp} {S : Sto} {n : Nat} {p : Addr} {ob : Ob} {ho : HO} {x : Va} {v : V} {Q : VK} (h : Out G (PV G) ρ H (.ok x (S.set n ob)) Q) (hr : Rel G ρ S H) (hp : ρ[n]? = some p) (ro : ∀ e : Ext G ρ H ρ (upd H p ho), RepO G ρ (upd H p ho) p ob) (rv : Rep G ρ H v x) : Q v (upd H p ho) := by
  obtain ⟨r1, e1⟩ := hr.put hp ro
  exact h ρ _ v e1 r1 (rv.mono e1)
theorem ss_setIx (gx : GX G X) (ho : SE G X o fo) (hb : SE G X b fb) (ha : SE G X a fa)
    (hps : ∀ {te : TE} {g : TG}, PE X a te → PG X (.Subscript o b pos) g → PS X st (tAsg te g)) (hpg : ∀ {to ti : TE} {t : TSet}, PE X o to → PE X b ti → PSet X t → PG X (.Subscript o b pos) (L2.gSub to ti t)) : SS G X st (mSetIx fo fb fa) := by
  intro env S ρ σ H D he hr h
  refine PSw.by (hps pew (hpg pew pew psetw)) (ha env S ρ σ H _ he hr (OutS.bind h fun x S1 ρ1 H1 v w1 e1 r1 p1 h1 => ?_))
  refine ho env S1 ρ1 σ H1 _ (he.mono e1) r1 (OutS.bind h1 fun y S2 ρ2 H2 u w2 e2 r2 p2 h2 => ?_)
  refine hb env S2 ρ2 σ H2 _ (he.mono (e1.trans e2)) r2 (OutS.bind h2 fun z S3 ρ3 H3 t w3 e3 r3 p3 h3 => ?_)
  cases q : gSetIx y z x S3 with
  | none => rw [q] at h3; exact h3.elim
  | some S4 =>
    rw [q] at h3
    cases (p2.mono e3) with
    | ref hp =>
      rename_i n p
      unfold gSetIx at q
      dsimp only at q
      cases g : S3.get n with
      | none => rw [g] at q; cases q
      | some ob =>
        rw [g] at q
        have rv := p1.mono (e2.trans e3)
        cases ob with
        | lst xs =>
          obtain ⟨ys, f1, r1'⟩ := r3.lst g hp
          cases p3 with
          | int k =>
            have q' : (match ixN xs.length k with | some j => some (S3.set n (.lst (xs.set j x))) | none => none) = some S4 := q
            cases qj : ixN xs.length k with
            | none => rw [qj] at q'; cases q'
            | some j =>
              rw [qj] at q'
              cases q'
              refine PSetW.by set_list ⟨p, ys, k, j, rfl, rfl, f1, by rw [r1'.length]; exact qj, ?_⟩
              obtain ⟨r4, e4⟩ := r3.put (o := .lst (xs.set j x)) (u := .lst (ys.set j v)) hp fun e => ⟨_, upd_same, (r1'.set j rv).mono e⟩
              exact h3 ρ3 _ σ e4 r4 (he.mono (((e1.trans e2).trans e3).trans e4))
          | _ => cases q
        | dic kvs =>
          obtain ⟨ks, f1, r1'⟩ := r3.dic g hp
          have q' : (match keyOf z with | some k => (match Nat.blt kvs.length 1000000 with | true => some (S3.set n (.dic (dPut kvs k x))) | false => none) | none => none) = some S4 := q
          cases qk : keyOf z with
          | none => rw [qk] at q'; cases q'
          | some k =>
            rw [qk] at q'
            have q2 : (match Nat.blt kvs.length 1000000 with | true => some (S3.set n (.dic (dPut kvs k x))) | false => none) = some S4 := q'
            cases qb : Nat.blt kvs.length 1000000 with
            | false => rw [qb] at q2; cases q2
            | true =>
              rw [qb] at q2
              cases q2
              have hlt : ks.length < sizeLine := by
                rw [r1'.length]
                exact Nat.lt_of_lt_of_le (Nat.le_of_ble_eq_true qb) (by rw [sizeLine_eq]; decide)
              refine PSetW.by (set_dict (by have := gx.hu; omega)) ⟨p, upd H3 p (.dK (putK ks k v)), rfl, ?_, ?_⟩
              · rw [keyOf_rep p3 qk]
                exact DPut.k f1 hlt
              · obtain ⟨r4, e4⟩ := r3.put (o := .dic (dPut kvs k x)) (u := .dK (putK ks k v)) hp fun e => ⟨_, upd_same, (dPut_rep k r1' rv).mono e⟩
                exact h3 ρ3 _ σ e4 r4 (he.mono (((e1.trans e2).trans e3).trans e4))
        | ins c fs => cases q
    | _ => cases q
/-- o.f = e -/
def gSetFld (na : Nat → Nat → Bool) (j : Nat) (o v : Va) (S : Sto) : Option Sto := match o with
  | .ref n => match S.get n with
    | some (.ins c fs) => match na c j && Nat.blt fs.length 100 with
      | true => some (S.set n (.ins c (fPut fs j v)))
      | false => none
    | _ => none
  | _ => none
def mSetFld (na : Nat → Nat → Bool) (j : Nat) (o a : EF) : SF := fun env S => (a env S).bind fun v S1 => (o env S1).bind fun x S2 => match gSetFld na j x v S2 with
  | some S4 => .ok (.nx env) S4
  | none => .bad
theorem ss_setFld {f : Str} {j : Nat} {pos' : Pos} (gx : GX G X) (ho : SE G X o fo) (ha : SE G X a fa) (hf : f = G.fN j) (hs : swapsWith a (some (.Attribute o f pos')) pos.line X.env = pure false) : SS G X (.Assign [.Attribute o f pos'] a pos) (mSetFld G.na j fo fa) := by
  subst hf
  intro env S ρ σ H D he hr h
  refine PSw.by (ps_fld pew pew hs) (ha env S ρ σ H _ he hr (OutS.bind h fun x S1 ρ1 H1 v w1 e1 r1 p1 h1 => ?_))
  refine ho env S1 ρ1 σ H1 _ (he.mono e1) r1 (OutS.bind h1 fun y S2 ρ2 H2 u w2 e2 r2 p2 h2 => ?_)
  cases q : gSetFld G.na j y x S2 with
  | none => rw [q] at h2; exact h2.elim
  | some S4 =>
    rw [q] at h2
    cases p2 with
    | ref hp =>
      rename_i n p
      unfold gSetFld at q
      dsimp only at q
      cases g : S2.get n with
      | none => rw [g] at q; cases q
      | some ob =>
        rw [g] at q
        cases ob with
        | ins c fs =>
          obtain ⟨dx, gs, f1, rf, cl, na, ln⟩ := r2.ins g hp
          have q' : (match G.na c j && Nat.blt fs.length 100 with | true => some (S2.set n (.ins c (fPut fs j x))) | false => none) = some S4 := q
          cases qb : G.na c j && Nat.blt fs.length 100 with
          | false => rw [qb] at q'; cases q'
          | true =>
            rw [qb] at q'
            cases q'
            obtain ⟨q1, q2⟩ := Bool.and_eq_true_iff.mp qb
            have hlt : fs.length < 100 := Nat.le_of_ble_eq_true q2
            have rv := p1.mono e2
            refine ⟨p, G.cA c, dx, gs, rfl, f1, by rw [gx.hK]; exact cl, by rw [gx.hK]; exact gx.ok.na c j q1, by rw [rf.length]; omega, ?_⟩
            have hmem : ∀ z ∈ fPut fs j x, G.na c z.1 = true := fun z hz => by
              rcases fPut_mem hz with e | ⟨w, e⟩
              · rw [e]; exact q1
              · exact na (z.1, w) e
            obtain ⟨r4, e4⟩ := r2.put (o := .ins c (fPut fs j x)) (u := .ins (G.cA c) dx (putF (G.fN j) v gs)) hp fun e => ⟨dx, _, upd_same, (fPut_rep gx.ok.inj rv rf).mono e, cl, hmem, Nat.le_trans fPut_len hlt⟩
            exact h2 ρ2 _ σ e4 r4 (he.mono ((e1.trans e2).trans e4))
        | _ => cases q
    | _ => cases q

/-! ### methods of lists, dicts, texts -/
def MtW (X : Cx) (id : String) : V → List V → Hp → VK → Prop := fun x xs H Q => ∀ pins s σ v us, Inv X pins σ H s → RelV x v → Vals xs us → wpAny (model X.prog X.w) X.A (call (.builtin id) (v :: us)) (EP X pins σ Q) X.xe s
theorem mtw {id : String} : MtR X id (MtW X id) := fun pins s σ H x xs v us Q I r rs h => h pins s σ v us I r rs
theorem MtW.by {id : String} {r : V → List V → Hp → VK → Prop} (h : MtR X id r) {x : V} {xs : List V} {H : Hp} {Q : VK} (q : r x xs H Q) : MtW X id x xs H Q := fun pins s σ v us I r rs => h pins s σ H x xs v us Q I r rs q
theorem MtW.byM {id : String} {r : V → List V → Hp → VK → Prop} (h : MtM X id r) {x : V} {xs : List V} {H : Hp} {Q : VK} (q : r x xs H Q) : MtW X id x xs H Q := fun pins s σ v us I r rs => h pins s σ H x xs v us Q I r rs q
inductive Kn where
  | list | dict | str
def Kn.nm : Kn → String
  | .list => "list"
  | .dict => "dict"
  | .str => "str"
def isKn (k : Kn) (x : Va) (S : Sto) : Bool := match x with
  | .str _ => match k with
    | .str => true
    | _ => false
  | .fro _ => match k with
    | .list => true
    | _ => false
  | .ref n => match S.get n with
    | some (.lst _) => match k with
      | .list => true
      | _ => false
    | some (.dic _) => match k with
      | .dict => true
      | _ => false
    | _ => false
  | _ => false
theorem isKn_rep {k : Kn} {ρ : List Addr} {H : Hp} {S : Sto} {v : V} {x : Va} (hr : Rel G ρ S H) (p : Rep G ρ H v x) (h : isKn k x S = true) : tyV G.K k.nm v H := by
  cases p with
  | str y => cases k <;> first | rfl | cases h
  | fro t r => cases k <;> first | exact .inl ⟨rfl, _, t.sq⟩ | cases h
  | ref hp =>
    rename_i n a
    unfold isKn at h
    dsimp only at h
    cases g : S.get n with
    | none => rw [g] at h; cases h
    | some ob =>
      rw [g] at h
      cases ob with
      | lst ys =>
        obtain ⟨zs, f1, r1⟩ := hr.lst g hp
        cases k <;> first | exact .inl ⟨rfl, _, SqL.of f1⟩ | cases h
      | dic ys =>
        obtain ⟨zs, f1, r1⟩ := hr.dic g hp
        cases k <;> first | exact .inr (.inr (.inl ⟨rfl, .inl ⟨_, f1⟩⟩)) | cases h
      | ins c fs => cases h
  | _ => cases h
abbrev GM := Va → List Va → Sto → R Va
def MtS (G : Cf) (X : Cx) (id : String) (g : GM) : Prop := ∀ (x : Va) (xs : List Va) (v : V) (vs : List V) (S : Sto) (ρ : List Addr) (H : Hp) (Q : VK), Rel G ρ S H → Rep G ρ H v x → Reps G ρ H vs xs → Out G (PV G) ρ H (g x xs S) Q → MtW X id v vs H Q
def mBm (k : Kn) (g : GM) (o : EF) (fs : AF) : EF := fun env S => (o env S).bind fun x S1 => match isKn k x S1 with
  | true => (fs env S1).bind fun xs S2 => g x xs S2
  | false => .bad
theorem se_bm {k : Kn} {m : Str} {id : String} {g : GM} {apos : Pos} (gx : GX G X) (hm : MtS G X id g) (ho : SE G X o fo) (ha : SA G X (e :: es) fs)
    (hpe : ∀ {to : TE} {t : TA} {r : V → List V → Hp → VK → Prop}, MtR X id r → PE X o to → PA X (e :: es) t → PE X (.Call (.Attribute o m apos) (e :: es) [] pos) (tBM X.K k.nm r to t)) : SE G X (.Call (.Attribute o m apos) (e :: es) [] pos) (mBm k g fo fs) := by
  intro env S ρ σ H Q he hrl h
  refine PEw.by (hpe mtw pew paw) (ho env S ρ σ H _ he hrl (Out.bind h fun x S1 ρ1 H1 v w1 e1 r1 p1 h1 => ?_))
  cases q : isKn k x S1 with
  | false => rw [q] at h1; exact h1.elim
  | true =>
    rw [q] at h1
    refine ⟨by rw [gx.hK]; exact isKn_rep r1 p1 q, ha env S1 ρ1 σ H1 _ (he.mono e1) r1 (Out.bind h1 fun xs S2 ρ2 H2 vs w2 e2 r2 p2 h2 => ?_)⟩
    exact hm x xs v vs S2 ρ2 H2 Q r2 (p1.mono e2) p2 h2
theorem se_bm0 {k : Kn} {m : Str} {id : String} {g : GM} {apos : Pos} (gx : GX G X) (hm : MtS G X id g) (ho : SE G X o fo)
    (hpe : ∀ {to : TE} {r : V → List V → Hp → VK → Prop}, MtR X id r → PE X o to → PE X (.Call (.Attribute o m apos) [] [] pos) (tBM0 X.K k.nm r to)) : SE G X (.Call (.Attribute o m apos) [] [] pos) (mBm k g fo mNil) := by
  intro env S ρ σ H Q he hrl h
  refine PEw.by (hpe mtw pew) (ho env S ρ σ H _ he hrl (Out.bind h fun x S1 ρ1 H1 v w1 e1 r1 p1 h1 => ?_))
  cases q : isKn k x S1 with
  | false => rw [q] at h1; exact h1.elim
  | true =>
    rw [q] at h1
    exact ⟨by rw [gx.hK]; exact isKn_rep r1 p1 q, hm x [] v [] S1 ρ1 H1 Q r1 p1 .nil h1⟩
/-- a method of a list that stands in the store -/
def gmL (g : Nat → List Va → List Va → Sto → R Va) : GM := fun x xs S => match x with
  | .ref n => match S.get n with
    | some (.lst l) => g n l xs S
    | _ => .bad
  | _ => .bad
theorem mts_L {id : String} {g : Nat → List Va → List Va → Sto → R Va} (h : ∀ (n : Nat) (l : List Va) (xs : List Va) (p : Addr) (ys vs : List V) (S : Sto) (ρ : List Addr) (H : Hp) (Q : VK), Rel G ρ S H → ρ[n]? = some p → S.get n = some (.lst l) → H p = some (.lst ys) → Reps G ρ H ys l → Reps G ρ H vs xs → Out G (PV G) ρ H (g n l xs S) Q → MtW X id (.ref p) vs H Q) : MtS G X id (gmL g) := by
  intro x xs v vs S ρ H Q hr p r q
  cases p with
  | ref hp =>
    rename_i n a
    have q' : Out G (PV G) ρ H (match S.get n with | some (.lst l) => g n l xs S | _ => .bad) Q := q
    cases gg : S.get n with
    | none => rw [gg] at q'; exact q'.elim
    | some ob =>
      rw [gg] at q'
      cases ob with
      | lst l =>
        obtain ⟨ys, f1, r1⟩ := hr.lst gg hp
        exact h n l xs a ys vs S ρ H Q hr hp gg f1 r1 r q'
      | _ => exact q'.elim
  | _ => exact q.elim
def gAppend : GM := gmL fun n l xs S => match xs with
  | [y] => match Nat.blt l.length 1000000 with
    | true => .ok .non (S.set n (.lst (l ++ [y])))
    | false => .bad
  | _ => .bad
theorem blt_line {n : Nat} (h : Nat.blt n 1000000 = true) : n < sizeLine := Nat.lt_of_lt_of_le (Nat.le_of_ble_eq_true h) (by rw [sizeLine_eq]; decide)
theorem mts_append : MtS G X "list.append" gAppend := mts_L fun n l xs p ys vs S ρ H Q hr hp gg f1 r1 r q => by
  match xs, r, q with
  | [], _, q => exact q.elim
  | [y], r, q =>
    have q' : Out G (PV G) ρ H (match Nat.blt l.length 1000000 with | true => R.ok Va.non (S.set n (.lst (l ++ [y]))) | false => .bad) Q := q
    cases qb : Nat.blt l.length 1000000 with
    | false => rw [qb] at q'; exact q'.elim
    | true =>
      rw [qb] at q'
      obtain ⟨v, e, pv⟩ := reps1 r
      subst e
      exact MtW.byM mt_append ⟨p, ys, v, rfl, rfl, f1, by rw [r1.length]; exact blt_line qb, Out.put q' hr hp (fun e => ⟨_, upd_same, (r1.append (.cons pv .nil)).mono e⟩) .non⟩
  | _ :: _ :: _, _, q => exact q.elim
theorem Reps.dropLast {ρ : List Addr} {H : Hp} {vs : List V} {xs : List Va} (r : Reps G ρ H vs xs) : Reps G ρ H vs.dropLast xs.dropLast := by
  rw [List.dropLast_eq_take, List.dropLast_eq_take, r.length]
  exact r.take _
theorem Reps.eraseIdx {ρ : List Addr} {H : Hp} {vs : List V} {xs : List Va} (r : Reps G ρ H vs xs) (k : Nat) : Reps G ρ H (vs.eraseIdx k) (xs.eraseIdx k) := by
  rw [List.eraseIdx_eq_take_drop_succ, List.eraseIdx_eq_take_drop_succ]
  exact (r.take _).append (r.drop _)
def gPop : GM := gmL fun n l xs S => match xs with
  | [] => match l[l.length - 1]? with
    | some y => .ok y (S.set n (.lst l.dropLast))
    | none => .bad
  | [.int i] => match decide (-(2 ^ 63) ≤ i) && decide (i < 2 ^ 63) with
    | true => match seqIndex? i l.length with
      | some k => match l[k]? with
        | some y => .ok y (S.set n (.lst (l.eraseIdx k)))
        | none => .bad
      | none => .bad
    | false => .bad
  | _ => .bad
theorem mts_pop : MtS G X "list.pop" gPop := mts_L fun n l xs p ys vs S ρ H Q hr hp gg f1 r1 r q => by
  match xs, r, q with
  | [], r, q =>
    have q' : Out G (PV G) ρ H (match l[l.length - 1]? with | some y => R.ok y (S.set n (.lst l.dropLast)) | none => .bad) Q := q
    cases qb : l[l.length - 1]? with
    | none => rw [qb] at q'; exact q'.elim
    | some y =>
      rw [qb] at q'
      obtain ⟨v, hv, pv⟩ := r1.get qb
      have e := r.nil_inv
      subst e
      exact MtW.byM mt_pop ⟨p, ys, v, rfl, rfl, f1, by rw [r1.length]; exact hv, Out.put q' hr hp (fun e => ⟨_, upd_same, r1.dropLast.mono e⟩) pv⟩
  | [.int i], r, q =>
    have q' : Out G (PV G) ρ H (match decide (-(2 ^ 63) ≤ i) && decide (i < 2 ^ 63) with | true => (match seqIndex? i l.length with | some k => (match l[k]? with | some y => R.ok y (S.set n (.lst (l.eraseIdx k))) | none => .bad) | none => .bad) | false => .bad) Q := q
    cases qc : decide (-(2 ^ 63) ≤ i) && decide (i < 2 ^ 63) with
    | false => rw [qc] at q'; exact q'.elim
    | true =>
      rw [qc] at q'
      have q2 : Out G (PV G) ρ H (match seqIndex? i l.length with | some k => (match l[k]? with | some y => R.ok y (S.set n (.lst (l.eraseIdx k))) | none => .bad) | none => .bad) Q := q'
      cases qs : seqIndex? i l.length with
      | none => rw [qs] at q2; exact q2.elim
      | some k =>
        rw [qs] at q2
        have q3 : Out G (PV G) ρ H (match l[k]? with | some y => R.ok y (S.set n (.lst (l.eraseIdx k))) | none => .bad) Q := q2
        cases qb : l[k]? with
        | none => rw [qb] at q3; exact q3.elim
        | some y =>
          rw [qb] at q3
          obtain ⟨v, hv, pv⟩ := r1.get qb
          obtain ⟨w, e, pw⟩ := reps1 r
          subst e
          cases pw
          simp only [Bool.and_eq_true, decide_eq_true_eq] at qc
          exact MtW.byM mt_popAt ⟨p, ys, i, k, v, rfl, rfl, f1, qc.1, qc.2, by rw [r1.length]; exact qs, hv, Out.put q3 hr hp (fun e => ⟨_, upd_same, (r1.eraseIdx k).mono e⟩) pv⟩
  | [.non], _, q => exact q.elim
  | [.bl _], _, q => exact q.elim
  | [.str _], _, q => exact q.elim
  | [.tup _], _, q => exact q.elim
  | [.fro _], _, q => exact q.elim
  | [.ref _], _, q => exact q.elim
  | .non :: _ :: _, _, q => exact q.elim
  | .bl _ :: _ :: _, _, q => exact q.elim
  | .int _ :: _ :: _, _, q => exact q.elim
  | .str _ :: _ :: _, _, q => exact q.elim
  | .tup _ :: _ :: _, _, q => exact q.elim
  | .fro _ :: _ :: _, _, q => exact q.elim
  | .ref _ :: _ :: _, _, q => exact q.elim
def gExtend : GM := gmL fun n l xs S => match xs with
  | [.ref m] => match S.get m with
    | some (.lst z) => match Nat.ble (l.length + z.length) 16777216 with
      | true => .ok .non (S.set n (.lst (l ++ z)))
      | false => .bad
    | _ => .bad
  | _ => .bad
theorem mts_extend : MtS G X "list.extend" gExtend := mts_L fun n l xs p ys vs S ρ H Q hr hp gg f1 r1 r q => by
  match xs, r, q with
  | [], _, q => exact q.elim
  | [.ref m], r, q =>
    have q' : Out G (PV G) ρ H (match S.get m with | some (.lst z) => (match Nat.ble (l.length + z.length) 16777216 with | true => R.ok Va.non (S.set n (.lst (l ++ z))) | false => .bad) | _ => .bad) Q := q
    cases g2 : S.get m with
    | none => rw [g2] at q'; exact q'.elim
    | some ob =>
      rw [g2] at q'
      cases ob with
      | lst z =>
        have q2 : Out G (PV G) ρ H (match Nat.ble (l.length + z.length) 16777216 with | true => R.ok Va.non (S.set n (.lst (l ++ z))) | false => .bad) Q := q'
        cases qb : Nat.ble (l.length + z.length) 16777216 with
        | false => rw [qb] at q2; exact q2.elim
        | true =>
          rw [qb] at q2
          obtain ⟨v, e, pv⟩ := reps1 r
          subst e
          cases pv with
          | ref hm =>
            obtain ⟨zs, f2, r2⟩ := hr.lst g2 hm
            exact MtW.byM mt_extend ⟨p, _, ys, zs, rfl, rfl, f1, f2, by rw [r1.length, r2.length]; exact ble_line qb, Out.put q2 hr hp (fun e => ⟨_, upd_same, (r1.append r2).mono e⟩) .non⟩
      | _ => exact q'.elim
  | [.non], _, q => exact q.elim
  | [.bl _], _, q => exact q.elim
  | [.int _], _, q => exact q.elim
  | [.str _], _, q => exact q.elim
  | [.tup _], _, q => exact q.elim
  | [.fro _], _, q => exact q.elim
  | .non :: _ :: _, _, q => exact q.elim
  | .bl _ :: _ :: _, _, q => exact q.elim
  | .int _ :: _ :: _, _, q => exact q.elim
  | .str _ :: _ :: _, _, q => exact q.elim
  | .tup _ :: _ :: _, _, q => exact q.elim
  | .fro _ :: _ :: _, _, q => exact q.elim
  | .ref _ :: _ :: _, _, q => exact q.elim
def gClear : GM := gmL fun n l xs S => match xs with
  | [] => .ok .non (S.set n (.lst []))
  | _ => .bad
theorem mts_clear : MtS G X "list.clear" gClear := mts_L fun n l xs p ys vs S ρ H Q hr hp gg f1 r1 r q => by
  match xs, r, q with
  | [], r, q =>
    have e := r.nil_inv
    subst e
    exact MtW.byM mt_clear ⟨p, ys, rfl, rfl, f1, Out.put q hr hp (fun e => ⟨_, upd_same, .nil⟩) .non⟩
  | _ :: _, _, q => exact q.elim
end
end Mi
/-! Loops, list comprehensions. -/
namespace Mi
open PySem PySem.Spec PyProof.Rows L2

/-! ### what is walked -/
/-- at turn i: an item, the end (some none), or nothing that is told -/
structure MI where
  nx : Nat → Sto → Option (Option Va)
  bound : Nat
def ItOk (G : Cf) (ρ0 : List Addr) (H0 : Hp) (J : It) (m : MI) : Prop := ∀ (i : Nat) (ρ : List Addr) (S : Sto) (H : Hp), Ext G ρ0 H0 ρ H → Rel G ρ S H → match m.nx i S with
  | some (some v) => J.go i H ∧ ∀ x H', J.yld i H x H' → Rel G ρ S H' ∧ Ext G ρ H ρ H' ∧ Rep G ρ H' x v
  | some none => J.stop i H
  | none => True
def OutI (G : Cf) (ρ : List Addr) (H : Hp) (r : R MI) (Q : It → Hp → Prop) : Prop := match r with
  | .ok m S' => ∀ (ρ' : List Addr) (H' : Hp) (J : It), Ext G ρ H ρ' H' → Rel G ρ' S' H' → ItOk G ρ' H' J m → Q J H'
  | .bad => False
theorem OutI.mono {G : Cf} {ρ ρ1 : List Addr} {H H1 : Hp} {r : R MI} {Q : It → Hp → Prop} (e : Ext G ρ H ρ1 H1) (h : OutI G ρ H r Q) : OutI G ρ1 H1 r Q := by
  cases r with
  | bad => exact h
  | ok m S => exact fun ρ' H' J e' => h ρ' H' J (e.trans e')
abbrev IF := Ev → Sto → R MI
theorem OutI.bind {α β : Type} {G : Cf} {P : List Addr → Hp → β → α → Prop} {ρ : List Addr} {H : Hp} {r : R α} {k : α → Sto → R MI} {D : It → Hp → Prop} {Q : β → Hp → Prop} (h : OutI G ρ H (r.bind k) D)
    (c : ∀ (a : α) (S' : Sto) (ρ' : List Addr) (H' : Hp) (b : β), r = .ok a S' → Ext G ρ H ρ' H' → Rel G ρ' S' H' → P ρ' H' b a → OutI G ρ' H' (k a S') D → Q b H') : Out G P ρ H r Q := by
  cases r with
  | bad => exact h.elim
  | ok a S => exact fun ρ' H' b e rel p => c a S ρ' H' b rfl e rel p (OutI.mono e h)
def PIw (X : Cx) (tg iter : Expr) : TI := fun σ H R => ∀ pins s, Inv X pins σ H s → wpAny (model X.prog X.w) X.A (eval iter X.env) (fun v s1 => wpAny (model X.prog X.w) X.A (pyIter v) (PIE X pins σ tg R) X.xe s1) X.xe s
theorem piw {X : Cx} {tg iter : Expr} : PI X tg iter (PIw X tg iter) := ⟨fun pins s _ _ _ I h => h pins s I⟩
theorem PIw.by {X : Cx} {tg iter : Expr} {t : TI} {σ : L2.St} {H : Hp} {R : It → Hp → Prop} (h : PI X tg iter t) (q : t σ H R) : PIw X tg iter σ H R := fun pins s I => h.run pins s σ H R I q
def SI (G : Cf) (X : Cx) (tg iter : Expr) (f : IF) : Prop := ∀ (env : Ev) (S : Sto) (ρ : List Addr) (σ : L2.St) (H : Hp) (Q : It → Hp → Prop), RepE G ρ H σ env → Rel G ρ S H → OutI G ρ H (f env S) Q → PIw X tg iter σ H Q

section
variable {G : Cf} {X : Cx} {a b c e o tg iter : Expr} {es : List Expr} {st : Stmt} {rest body orelse : List Stmt} {fa fb fc fo : EF} {fs : AF} {f g : SF} {pos : Pos}
/-- the items are known at the start -/
def miL (xs : List Va) : MI := ⟨fun i _ => some xs[i]?, xs.length⟩
/-- the list at n, as it stands at each turn -/
def miR (n b : Nat) : MI := ⟨fun i S => match S.get n with
  | some (.lst xs) => some xs[i]?
  | _ => none, b⟩
theorem itok_list {ρ : List Addr} {H : Hp} {n b : Nat} {p : Addr} (hp : ρ[n]? = some p) : ItOk G ρ H (Itl G.K p) (miR n b) := by
  intro i ρ1 S H1 e hr
  show (match (match S.get n with | some (.lst xs) => some xs[i]? | _ => none) with | some (some v) => _ | some none => _ | none => True)
  cases g : S.get n with
  | none => trivial
  | some ob =>
    cases ob with
    | lst xs =>
      obtain ⟨ys, f1, r⟩ := hr.lst g (e.at hp)
      show (match some xs[i]? with | some (some v) => _ | some none => _ | none => True)
      cases q : xs[i]? with
      | none =>
        refine ⟨ys, SqL.of f1, ?_⟩
        have := List.getElem?_eq_none_iff.mp (r.none q)
        exact this
      | some v =>
        obtain ⟨w, hw, rw'⟩ := r.get q
        refine ⟨⟨ys, w, SqL.of f1, hw⟩, fun x H' y => ?_⟩
        obtain ⟨e1, y2⟩ := y
        subst e1
        have e2 := y2 ys (SqL.of f1)
        rw [hw] at e2
        cases e2
        exact ⟨hr, Ext.refl, rw'⟩
    | _ => trivial
theorem itok_tup {ρ : List Addr} {H : Hp} {p : Addr} {ys : List V} {xs : List Va} (t : SqT G.K H p ys) (r : Reps G ρ H ys xs) : ItOk G ρ H (Itt G.K p) (miL xs) := by
  intro i ρ1 S H1 e hr
  show (match some xs[i]? with | some (some v) => _ | some none => _ | none => True)
  have t1 := e.tup _ _ t
  have r1 := r.mono e
  cases q : xs[i]? with
  | none => exact ⟨ys, t1, List.getElem?_eq_none_iff.mp (r1.none q)⟩
  | some v =>
    obtain ⟨w, hw, rw'⟩ := r1.get q
    refine ⟨⟨ys, w, t1, hw⟩, fun x H' y => ?_⟩
    obtain ⟨e1, y2⟩ := y
    subst e1
    have e2 := y2 ys t1
    rw [hw] at e2
    cases e2
    exact ⟨hr, Ext.refl, rw'⟩
theorem itok_fro {ρ : List Addr} {H : Hp} {p : Addr} {ys : List V} {xs : List Va} (t : SqF G.K H p ys) (r : Reps G ρ H ys xs) : ItOk G ρ H (Itl G.K p) (miL xs) := by
  intro i ρ1 S H1 e hr
  show (match some xs[i]? with | some (some v) => _ | some none => _ | none => True)
  have t1 := (e.fro _ _ t).sq
  have r1 := r.mono e
  cases q : xs[i]? with
  | none => exact ⟨ys, t1, List.getElem?_eq_none_iff.mp (r1.none q)⟩
  | some v =>
    obtain ⟨w, hw, rw'⟩ := r1.get q
    refine ⟨⟨ys, w, t1, hw⟩, fun x H' y => ?_⟩
    obtain ⟨e1, y2⟩ := y
    subst e1
    have e2 := y2 ys t1
    rw [hw] at e2
    cases e2
    exact ⟨hr, Ext.refl, rw'⟩
/-- a list, a tuple -/
def iSeq (f : EF) : IF := fun env S => (f env S).bind fun x S1 => match x with
  | .tup xs => .ok (miL xs) S1
  | .fro xs => .ok (miL xs) S1
  | .ref n => match S1.get n with
    | some (.lst xs) => .ok (miR n xs.length) S1
    | _ => .bad
  | _ => .bad
def isTup : Va → Bool
  | .tup _ => true
  | _ => false
theorem si_seq (gx : GX G X) (ha : SE G X a fa) : SI G X tg a (iSeq fa) := by
  intro env S ρ σ H Q he hr h
  by_cases ht : ∃ xs S1, fa env S = .ok (.tup xs) S1
  · obtain ⟨xs, S1, q⟩ := ht
    refine PIw.by (pi_tup pew) (ha env S ρ σ H _ he hr (OutI.bind h fun x S1' ρ1 H1 v w1 e1 r1 p1 h1 => ?_))
    rw [q] at w1
    injection w1 with wa wb
    subst wa wb
    cases p1 with
    | tup t r => exact ⟨_, rfl, ⟨_, by rw [gx.hK]; exact t⟩, by rw [gx.hK]; exact h1 ρ1 H1 _ Ext.refl r1 (itok_tup t r)⟩
  · refine PIw.by (pi_list pew) (ha env S ρ σ H _ he hr (OutI.bind h fun x S1' ρ1 H1 v w1 e1 r1 p1 h1 => ?_))
    cases p1 with
    | tup t r => exact (ht ⟨_, _, w1⟩).elim
    | fro t r => exact ⟨_, rfl, ⟨_, by rw [gx.hK]; exact t.sq⟩, by rw [gx.hK]; exact h1 ρ1 H1 _ Ext.refl r1 (itok_fro t r)⟩
    | ref hp =>
      rename_i n p
      have h2 : OutI G ρ1 H1 (match S1'.get n with | some (.lst xs) => .ok (miR n xs.length) S1' | _ => .bad) Q := h1
      cases g : S1'.get n with
      | none => rw [g] at h2; exact h2.elim
      | some ob =>
        rw [g] at h2
        cases ob with
        | lst xs =>
          obtain ⟨ys, f1, r⟩ := r1.lst g hp
          exact ⟨_, rfl, ⟨_, by rw [gx.hK]; exact SqL.of f1⟩, by rw [gx.hK]; exact h2 ρ1 H1 _ Ext.refl r1 (itok_list hp)⟩
        | _ => exact h2.elim
    | _ => exact h1.elim
/-- range -/
def miN (lo : Int) (n : Nat) : MI := ⟨fun i _ => match Nat.blt i n with
  | true => some (some (.int (lo + i)))
  | false => some none, n⟩
theorem itok_rng {ρ : List Addr} {H : Hp} {lo : Int} {n : Nat} : ItOk G ρ H (Itr lo n) (miN lo n) := by
  intro i ρ1 S H1 e hr
  show (match (match Nat.blt i n with | true => some (some (Va.int (lo + i))) | false => some none) with | some (some v) => _ | some none => _ | none => True)
  cases q : Nat.blt i n with
  | true =>
    refine ⟨Nat.le_of_ble_eq_true q, fun x H' y => ?_⟩
    obtain ⟨e1, e2⟩ := y
    subst e1 e2
    exact ⟨hr, Ext.refl, .int _⟩
  | false =>
    show n ≤ i
    refine Nat.le_of_not_lt fun z => ?_
    rw [bltT z] at q
    cases q
def okR (j : Int) : Bool := decide (-(2 ^ 62) ≤ j) && decide (j < 2 ^ 62)
theorem okR_of {j : Int} (h : okR j = true) : -(2 ^ 62) ≤ j ∧ j < 2 ^ 62 := by
  unfold okR at h
  simp only [Bool.and_eq_true, decide_eq_true_eq] at h
  exact h
def iRange1 (f : AF) : IF := fun env S => (f env S).bind fun xs S1 => match xs with
  | [.int j] => match okR j with
    | true => .ok (miN 0 j.toNat) S1
    | false => .bad
  | _ => .bad
theorem si_range1 {p : Pos} (hg : Gl X "range") (hm : X.mg "range" = none) (ha : SA G X [a] fs) (hs : starEach [a] X.env = [(false, eval a X.env)]) : SI G X tg (.Call (.Name "range" p) [a] [] pos) (iRange1 fs) := by
  intro env S ρ σ H Q he hr h
  refine PIw.by (pi_range1 hg hm paw hs) (ha env S ρ σ H _ he hr (OutI.bind h fun xs S1 ρ1 H1 vs w1 e1 r1 p1 h1 => ?_))
  match xs, p1, h1 with
  | [.int j], p1, h1 =>
    have h2 : OutI G ρ1 H1 (match okR j with | true => R.ok (miN 0 j.toNat) S1 | false => .bad) Q := h1
    cases q : okR j with
    | false => rw [q] at h2; exact h2.elim
    | true =>
      rw [q] at h2
      obtain ⟨v, ev, pv⟩ := reps1 p1
      subst ev
      cases pv
      exact ⟨j, rfl, (okR_of q).1, (okR_of q).2, h2 ρ1 H1 _ Ext.refl r1 itok_rng⟩
  | [], _, h1 => exact h1.elim
  | [.non], _, q => exact q.elim
  | [.bl _], _, q => exact q.elim
  | [.str _], _, q => exact q.elim
  | [.tup _], _, q => exact q.elim
  | [.fro _], _, q => exact q.elim
  | [.ref _], _, q => exact q.elim
  | .non :: _ :: _, _, q => exact q.elim
  | .bl _ :: _ :: _, _, q => exact q.elim
  | .int _ :: _ :: _, _, q => exact q.elim
  | .str _ :: _ :: _, _, q => exact q.elim
  | .tup _ :: _ :: _, _, q => exact q.elim
  | .fro _ :: _ :: _, _, q => exact q.elim
  | .ref _ :: _ :: _, _, q => exact q.elim
def iRange2 (f g : EF) : IF := fun env S => (f env S).bind fun x S1 => (g env S1).bind fun y S2 => match x, y with
  | .int i, .int j => match okR i && okR j with
    | true => .ok (miN i (j - i).toNat) S2
    | false => .bad
  | _, _ => .bad
theorem si_range2 {p : Pos} (hg : Gl X "range") (hm : X.mg "range" = none) (ha : SE G X a fa) (hb : SE G X b fb) (hs : starEach [a, b] X.env = [(false, eval a X.env), (false, eval b X.env)]) (hs2 : starEach [b] X.env = [(false, eval b X.env)]) (hs3 : starEach [a, b] X.env = (false, eval a X.env) :: starEach [b] X.env) (hs4 : starEach [b] X.env = (false, eval b X.env) :: starEach [] X.env) :
    SI G X tg (.Call (.Name "range" p) [a, b] [] pos) (iRange2 fa fb) := by
  intro env S ρ σ H Q he hr h
  refine PIw.by (pi_range2 hg hm (pa_cons pew (pa_cons pew pa_nil hs4) hs3) hs hs2) (ha env S ρ σ H _ he hr (OutI.bind h fun x S1 ρ1 H1 v w1 e1 r1 p1 h1 => ?_))
  refine hb env S1 ρ1 σ H1 _ (he.mono e1) r1 (OutI.bind h1 fun y S2 ρ2 H2 u w2 e2 r2 p2 h2 => ?_)
  cases (p1.mono e2) with
  | int i =>
    cases p2 with
    | int j =>
      have h3 : OutI G ρ2 H2 (match okR i && okR j with | true => R.ok (miN i (j - i).toNat) S2 | false => .bad) Q := h2
      cases q : okR i && okR j with
      | false => rw [q] at h3; exact h3.elim
      | true =>
        rw [q] at h3
        obtain ⟨q1, q2⟩ := Bool.and_eq_true_iff.mp q
        exact ⟨i, j, rfl, ⟨(okR_of q1).1, (okR_of q1).2, (okR_of q2).1, (okR_of q2).2⟩, h3 ρ2 H2 _ Ext.refl r2 itok_rng⟩
    | _ => exact h2.elim
  | _ => exact h2.elim
/-- enumerate of a list -/
def miE (m : MI) : MI := ⟨fun i S => match m.nx i S with
  | some (some v) => some (some (.tup [.int i, v]))
  | r => r, m.bound⟩
def miSeq (x : Va) (S : Sto) : Option MI := match x with
  | .fro xs => some (miL xs)
  | .ref n => match S.get n with
    | some (.lst xs) => some (miR n xs.length)
    | _ => none
  | _ => none
def iEnumL (f : EF) : IF := fun env S => (f env S).bind fun x S1 => match miSeq x S1 with
  | some m => .ok (miE m) S1
  | none => .bad
theorem new_tup {ρ : List Addr} {S : Sto} {H : Hp} {T : Addr} {ys : List V} {xs : List Va} (hr : Rel G ρ S H) (hT : H T = none) (r : Reps G ρ H ys xs) : Rel G ρ S (upd H T (.tup ys)) ∧ Ext G ρ H ρ (upd H T (.tup ys)) ∧ Rep G ρ (upd H T (.tup ys)) (.ref T) (.tup xs) :=
  ⟨hr.same (same_upd hT), Ext.same (same_upd hT), .tup (.inl (.inl upd_same)) (r.mono (Ext.same (same_upd hT)))⟩
theorem miSeq_ok {x : Va} {v : V} {ρ : List Addr} {S : Sto} {H : Hp} {m : MI} (hr : Rel G ρ S H) (p : Rep G ρ H v x) (h : miSeq x S = some m) : ∃ q ys, v = .ref q ∧ SqL G.K H q ys ∧ ItOk G ρ H (Itl G.K q) m := by
  cases p with
  | fro t r => cases h; exact ⟨_, _, rfl, t.sq, itok_fro t r⟩
  | ref hp =>
    rename_i n a
    have q' : (match S.get n with | some (.lst xs) => some (miR n xs.length) | _ => none) = some m := h
    cases g : S.get n with
    | none => rw [g] at q'; cases q'
    | some ob =>
      rw [g] at q'
      cases ob with
      | lst ys =>
        cases q'
        obtain ⟨zs, f1, r1⟩ := hr.lst g hp
        exact ⟨_, _, rfl, SqL.of f1, itok_list hp⟩
      | _ => cases q'
  | _ => cases h
theorem itok_enum {ρ : List Addr} {H : Hp} {p : Addr} {m : MI} (hm : ItOk G ρ H (Itl G.K p) m) : ItOk G ρ H (Ite G.K p) (miE m) := by
  intro i ρ1 S H1 e hr
  have h := hm i ρ1 S H1 e hr
  show (match (match m.nx i S with | some (some v) => some (some (Va.tup [.int i, v])) | r => r) with | some (some v) => _ | some none => _ | none => True)
  cases q : m.nx i S with
  | none => trivial
  | some w =>
    rw [q] at h
    cases w with
    | none => exact h
    | some v =>
      obtain ⟨⟨ys, x, hs, hx⟩, hy⟩ := h
      refine ⟨⟨ys, x, hs, hx⟩, fun z H' y => ?_⟩
      obtain ⟨T, x2, ez, hT, eH, hall⟩ := y
      subst ez eH
      have e2 := hall ys hs
      rw [hx] at e2
      cases e2
      obtain ⟨_, _, rx⟩ := hy x H1 ⟨rfl, fun xs hxs => hall xs hxs⟩
      exact new_tup hr hT (.cons (.int _) (.cons rx .nil))
theorem si_enum {p tpos : Pos} {elts : List Expr} {kk : Nat} (gx : GX G X) (hg : Gl X "enumerate") (hm : X.mg "enumerate" = none) (ha : SE G X a fa) (hs : starEach [a] X.env = [(false, eval a X.env)]) (hs4 : starEach [a] X.env = (false, eval a X.env) :: starEach [] X.env) :
    SI G X (.Tuple elts kk tpos) (.Call (.Name "enumerate" p) [a] [] pos) (iEnumL fa) := by
  intro env S ρ σ H Q he hr h
  refine PIw.by (pi_enum hg hm (pa_cons pew pa_nil hs4) hs) (ha env S ρ σ H _ he hr (OutI.bind h fun x S1 ρ1 H1 v w1 e1 r1 p1 h1 => ?_))
  cases q : miSeq x S1 with
  | none => rw [q] at h1; exact h1.elim
  | some m =>
    rw [q] at h1
    obtain ⟨qa, ys, ev, hs, ok⟩ := miSeq_ok r1 p1 q
    subst ev
    exact ⟨qa, ys, rfl, by rw [gx.hK]; exact hs, by rw [gx.hK]; exact h1 ρ1 H1 _ Ext.refl r1 (itok_enum ok)⟩

/-! ### for -/
def loopF (m : MI) (t : TF) (body : SF) : Nat → Nat → Ev → Sto → R Fl
  | 0, _, _, _ => .bad
  | f + 1, i, env, S => match m.nx i S with
    | none => .bad
    | some none => .ok (.nx env) S
    | some (some v) => match t v env S with
      | none => .bad
      | some env1 => match body env1 S with
        | .ok (.nx env2) S2 => loopF m t body f (i + 1) env2 S2
        | .ok (.ct env2) S2 => loopF m t body f (i + 1) env2 S2
        | .ok (.bk env2) S2 => .ok (.nx env2) S2
        | .ok (.rt v) S2 => .ok (.rt v) S2
        | .bad => .bad
def mFor (fi : IF) (t : TF) (body : SF) : SF := fun env S => (fi env S).bind fun m S1 => loopF m t body (m.bound + 1) 0 env S1
theorem ss_for {fi : IF} {t : TF} {ids : List Nat} (gx : GX G X) (hxe : PassesOwn (model X.prog X.w) X.A X.env X.xe) (hi : SI G X tg iter fi) (hg : SG G X tg t ids) (hb : SSs G X body f) (hs : ∀ x, foldedSetIterable iter X.env x = pure x) : SS G X (.For tg iter body [] pos) (mFor fi t f) := by
  intro env S ρ σ H D he hr h
  refine PSw.by (ps_for hxe gx.calm piw pgw pssw hs) ?_
  refine hi env S ρ σ H _ he hr ?_
  unfold mFor at h
  cases q0 : fi env S with
  | bad => rw [q0] at h; exact h.elim
  | ok m S1 =>
    rw [q0] at h
    have h' : OutS G ρ H (loopF m t f (m.bound + 1) 0 env S1) D := h
    intro ρ1 H1 J e1 r1 ok
    refine ⟨fun i n σ H => ∃ env S ρ, Ext G ρ1 H1 ρ H ∧ Rel G ρ S H ∧ RepE G ρ H σ env ∧ OutS G ρ H (loopF m t f n i env S) D, ⟨m.bound + 1, env, S1, ρ1, Ext.refl, r1, he.mono e1, OutS.mono e1 h'⟩, ?_⟩
    rintro i n σ2 H2 ⟨env2, S2, ρ2, e2, r2, he2, h2⟩
    cases n with
    | zero => exact h2.elim
    | succ n =>
      have hj := ok i ρ2 S2 H2 e2 r2
      have h3 : OutS G ρ2 H2 (match m.nx i S2 with | none => .bad | some none => .ok (.nx env2) S2 | some (some v) => (match t v env2 S2 with | none => .bad | some env1 => (match f env1 S2 with | .ok (.nx env2) S2 => loopF m t f n (i + 1) env2 S2 | .ok (.ct env2) S2 => loopF m t f n (i + 1) env2 S2 | .ok (.bk env2) S2 => .ok (.nx env2) S2 | .ok (.rt v) S2 => .ok (.rt v) S2 | .bad => .bad))) D := h2
      cases q : m.nx i S2 with
      | none => rw [q] at h3; exact h3.elim
      | some w =>
        rw [q] at h3 hj
        cases w with
        | none => exact .inl ⟨hj, h3 ρ2 H2 σ2 Ext.refl r2 he2⟩
        | some v =>
          obtain ⟨go, yl⟩ := hj
          refine .inr ⟨go, fun σ' H' => ∃ env S ρ, Ext G ρ1 H1 ρ H' ∧ Rel G ρ S H' ∧ RepE G ρ H' σ' env ∧ OutS G ρ H' (loopF m t f n (i + 1) env S) D, fun σ' H' hn => ⟨n, Nat.lt_succ_self n, hn⟩, fun x H3 hy => ?_⟩
          obtain ⟨r3, e3, rx⟩ := yl x H3 hy
          have h4 : OutS G ρ2 H2 (match t v env2 S2 with | none => .bad | some env1 => (match f env1 S2 with | .ok (.nx env2) S2 => loopF m t f n (i + 1) env2 S2 | .ok (.ct env2) S2 => loopF m t f n (i + 1) env2 S2 | .ok (.bk env2) S2 => .ok (.nx env2) S2 | .ok (.rt v) S2 => .ok (.rt v) S2 | .bad => .bad)) D := h3
          cases qt : t v env2 S2 with
          | none => rw [qt] at h4; exact h4.elim
          | some env1 =>
            rw [qt] at h4
            refine hg v x env2 env1 S2 ρ2 σ2 H3 _ (he2.mono e3) r3 rx qt fun σ4 he4 _ => ?_
            refine hb env1 S2 ρ2 σ4 H3 _ he4 r3 ?_
            have h5 : OutS G ρ2 H3 (match f env1 S2 with | .ok (.nx env2) S2 => loopF m t f n (i + 1) env2 S2 | .ok (.ct env2) S2 => loopF m t f n (i + 1) env2 S2 | .ok (.bk env2) S2 => .ok (.nx env2) S2 | .ok (.rt v) S2 => .ok (.rt v) S2 | .bad => .bad) D := OutS.mono e3 h4
            cases qf : f env1 S2 with
            | bad => rw [qf] at h5; exact h5.elim
            | ok fl S5 =>
              rw [qf] at h5
              cases fl with
              | nx env5 => exact fun ρ6 H6 σ6 e6 r6 he6 => ⟨env5, S5, ρ6, (e2.trans e3).trans e6, r6, he6, OutS.mono e6 h5⟩
              | ct env5 => exact fun ρ6 H6 σ6 e6 r6 he6 => ⟨env5, S5, ρ6, (e2.trans e3).trans e6, r6, he6, OutS.mono e6 h5⟩
              | bk env5 => exact fun ρ6 H6 σ6 e6 r6 he6 => h5 ρ6 H6 σ6 e6 r6 he6
              | rt u => exact fun ρ6 H6 w6 e6 r6 p6 => h5 ρ6 H6 w6 e6 r6 p6

/-! ### while -/
def loopW (t : BF) (body : SF) : Nat → Ev → Sto → R Fl
  | 0, _, _ => .bad
  | n + 1, env, S => (t env S).bind fun k S1 => match k with
    | false => .ok (.nx env) S1
    | true => match body env S1 with
      | .ok (.nx env2) S2 => loopW t body n env2 S2
      | .ok (.ct env2) S2 => loopW t body n env2 S2
      | .ok (.bk env2) S2 => .ok (.nx env2) S2
      | .ok (.rt v) S2 => .ok (.rt v) S2
      | .bad => .bad
def whileMax : Nat := 100000
def mWhile (t : BF) (body : SF) : SF := fun env S => loopW t body whileMax env S
theorem ss_while {t : BF} (hxe : PassesOwn (model X.prog X.w) X.A X.env X.xe) (hc : ST G X c t) (hb : SSs G X body f) : SS G X (.While c body [] pos) (mWhile t f) := by
  intro env S ρ σ H D he hr h
  refine PSw.by (ps_while hxe ptw pssw) ?_
  refine ⟨fun n σ H => ∃ env S ρ, Rel G ρ S H ∧ RepE G ρ H σ env ∧ OutS G ρ H (loopW t f n env S) D, ⟨whileMax, env, S, ρ, hr, he, h⟩, ?_⟩
  rintro n σ2 H2 ⟨env2, S2, ρ2, r2, he2, h2⟩
  cases n with
  | zero => exact h2.elim
  | succ n =>
    have h3 : OutS G ρ2 H2 ((t env2 S2).bind fun k S1 => match k with | false => .ok (.nx env2) S1 | true => (match f env2 S1 with | .ok (.nx env2) S2 => loopW t f n env2 S2 | .ok (.ct env2) S2 => loopW t f n env2 S2 | .ok (.bk env2) S2 => .ok (.nx env2) S2 | .ok (.rt v) S2 => .ok (.rt v) S2 | .bad => .bad)) D := h2
    refine hc env2 S2 ρ2 σ2 H2 _ he2 r2 (OutS.bind h3 fun k S3 ρ3 H3 k' w1 e3 r3 p3 h4 => ?_)
    subst p3
    cases k' with
    | false => exact h4 ρ3 H3 σ2 Ext.refl r3 (he2.mono e3)
    | true =>
      refine ⟨fun σ' H' => ∃ env S ρ, Rel G ρ S H' ∧ RepE G ρ H' σ' env ∧ OutS G ρ H' (loopW t f n env S) D, fun σ' H' hn => ⟨n, Nat.lt_succ_self n, hn⟩, ?_⟩
      refine hb env2 S3 ρ3 σ2 H3 _ (he2.mono e3) r3 ?_
      have h5 : OutS G ρ3 H3 (match f env2 S3 with | .ok (.nx env2) S2 => loopW t f n env2 S2 | .ok (.ct env2) S2 => loopW t f n env2 S2 | .ok (.bk env2) S2 => .ok (.nx env2) S2 | .ok (.rt v) S2 => .ok (.rt v) S2 | .bad => .bad) D := h4
      cases qf : f env2 S3 with
      | bad => rw [qf] at h5; exact h5.elim
      | ok fl S5 =>
        rw [qf] at h5
        cases fl with
        | nx env5 => exact fun ρ6 H6 σ6 e6 r6 he6 => ⟨env5, S5, ρ6, r6, he6, OutS.mono e6 h5⟩
        | ct env5 => exact fun ρ6 H6 σ6 e6 r6 he6 => ⟨env5, S5, ρ6, r6, he6, OutS.mono e6 h5⟩
        | bk env5 => exact fun ρ6 H6 σ6 e6 r6 he6 => h5 ρ6 H6 σ6 e6 r6 he6
        | rt u => exact fun ρ6 H6 w6 e6 r6 p6 => h5 ρ6 H6 w6 e6 r6 p6

/-! ### list comprehensions -/
def wipeE (env : Ev) : List Nat → Ev
  | [] => env
  | v :: vs => (wipeE env vs).set v none
theorem wipeE_length (env : Ev) : ∀ vs : List Nat, (wipeE env vs).length = env.length
  | [] => rfl
  | v :: vs => by unfold wipeE; rw [List.length_set, wipeE_length env vs]
theorem wipeE_some {env : Ev} {i : Nat} {x : Va} : ∀ {vs : List Nat}, (wipeE env vs)[i]? = some (some x) → env[i]? = some (some x) ∧ i ∉ vs
  | [], h => ⟨h, by simp⟩
  | v :: vs, h => by
    unfold wipeE at h
    by_cases hi : v = i
    · subst hi
      by_cases hv : v < (wipeE env vs).length
      · rw [List.getElem?_set_self hv] at h
        cases h
      · rw [List.getElem?_eq_none_iff.mpr (by rw [List.length_set]; omega)] at h
        cases h
    · rw [List.getElem?_set_ne hi] at h
      obtain ⟨h1, h2⟩ := wipeE_some h
      exact ⟨h1, fun z => (List.mem_cons.mp z).elim (fun z => hi z.symm) h2⟩
theorem wipe_at {σ : L2.St} {i : Nat} : ∀ {vs : List Nat}, i ∉ vs → (wipe σ vs)[i]? = σ[i]?
  | [], _ => rfl
  | v :: vs, h => by
    have h1 : v ≠ i := fun e => h (by rw [e]; exact List.mem_cons_self)
    unfold wipe
    rw [List.getElem?_set_ne h1]
    exact wipe_at fun m => h (List.mem_cons_of_mem _ m)
theorem RepE.wipe {ρ : List Addr} {H : Hp} {σ : L2.St} {env : Ev} (r : RepE G ρ H σ env) (vs : List Nat) : RepE G ρ H (wipe σ vs) (wipeE env vs) :=
  ⟨by rw [wipe_length, wipeE_length, r.len], fun i x h => by
    obtain ⟨h1, h2⟩ := wipeE_some h
    obtain ⟨v, a, b⟩ := r.at_ i x h1
    exact ⟨v, by rw [wipe_at h2]; exact a, b⟩⟩
theorem kept_wipe {σ σ' : L2.St} {ids vs : List Nat} (k : Kept ids (wipe σ vs) σ') (hs : ∀ j ∈ ids, j ∈ vs) : wipe σ' vs = wipe σ vs := by
  have hin : ∀ (τ : L2.St) (j : Nat), j ∈ vs → j < τ.length → (wipe τ vs)[j]? = some none := by
    intro τ j hj hl
    induction vs with
    | nil => cases hj
    | cons v r ih =>
      unfold wipe
      by_cases e : v = j
      · subst e
        exact List.getElem?_set_self (by rw [wipe_length]; exact hl)
      · rw [List.getElem?_set_ne e]
        have hj' : j ∈ r := (List.mem_cons.mp hj).elim (fun z => (e z.symm).elim) id
        clear ih hs k hj
        induction r with
        | nil => cases hj'
        | cons v2 r2 ih2 =>
          unfold wipe
          by_cases e2 : v2 = j
          · subst e2
            exact List.getElem?_set_self (by rw [wipe_length]; exact hl)
          · rw [List.getElem?_set_ne e2]
            exact ih2 ((List.mem_cons.mp hj').elim (fun z => (e2 z.symm).elim) id)
  have hl : σ'.length = σ.length := by rw [k.len, wipe_length]
  refine List.ext_getElem? fun j => ?_
  by_cases hj : j ∈ vs
  · by_cases hlt : j < σ.length
    · rw [hin σ' j hj (by rw [hl]; exact hlt), hin σ j hj hlt]
    · rw [List.getElem?_eq_none_iff.mpr (by rw [wipe_length, hl]; omega), List.getElem?_eq_none_iff.mpr (by rw [wipe_length]; omega)]
  · rw [wipe_at hj, k.same j fun z => hj (hs j z)]
def loopC (m : MI) (t : TF) (cond : BF) (elt : EF) (D : Nat) (env : Ev) : Nat → Nat → Sto → R Va
  | 0, _, _ => .bad
  | f + 1, i, S => match m.nx i S with
    | none => .bad
    | some none => .ok (.ref D) S
    | some (some v) => match t v env S with
      | none => .bad
      | some env1 => (cond env1 S).bind fun k S1 => match k with
        | false => loopC m t cond elt D env f (i + 1) S1
        | true => (elt env1 S1).bind fun y S2 => match S2.get D with
          | some (.lst acc) => match Nat.blt acc.length 1000000 with
            | true => loopC m t cond elt D env f (i + 1) (S2.set D (.lst (acc ++ [y])))
            | false => .bad
          | _ => .bad
def mLc (fi : IF) (t : TF) (cond : BF) (elt : EF) (vs : List Nat) : EF := fun env S => (fi env S).bind fun m S1 => loopC m t cond elt S1.n (wipeE env vs) (m.bound + 1) 0 (S1.new (.lst []))
def mYes : BF := fun _ S => .ok true S
/-- judgements within a block: for every entry to it -/
abbrev Blk (X : Cx) (scope : Scope) (P : Cx → Prop) : Prop := ∀ (s : Shared) (H : Hp) (C : Addr) (cl : List (Str × Addr)) (fp : List Addr), P (X.blk s H scope (compEnvC scope cl C X.env) fp)
def PEb (X : Cx) (scope : Scope) (e : Expr) : TE := fun σ H Q => Blk X scope fun Y => PEw Y e σ H Q
def PTb (X : Cx) (scope : Scope) (e : Expr) : TT := fun σ H Q => Blk X scope fun Y => PTw Y e σ H Q
def PGb (X : Cx) (scope : Scope) (e : Expr) : TG := fun v σ H Q => Blk X scope fun Y => PGw Y e v σ H Q
theorem peb {X : Cx} {scope : Scope} {e : Expr} (s : Shared) (H : Hp) (C : Addr) (cl : List (Str × Addr)) (fp : List Addr) : PE (X.blk s H scope (compEnvC scope cl C X.env) fp) e (PEb X scope e) := ⟨fun pins s' _ _ _ I h => h s H C cl fp pins s' I⟩
theorem ptb {X : Cx} {scope : Scope} {e : Expr} (s : Shared) (H : Hp) (C : Addr) (cl : List (Str × Addr)) (fp : List Addr) : PT (X.blk s H scope (compEnvC scope cl C X.env) fp) e (PTb X scope e) := ⟨fun pins s' _ _ _ I h => h s H C cl fp pins s' I⟩
theorem pgb {X : Cx} {scope : Scope} {e : Expr} (s : Shared) (H : Hp) (C : Addr) (cl : List (Str × Addr)) (fp : List Addr) : PG (X.blk s H scope (compEnvC scope cl C X.env) fp) e (PGb X scope e) := ⟨fun pins s' _ _ v u _ I r h => h s H C cl fp pins s' u I r⟩
/-- the comprehension's ifs: none, or one -/
def SIf (G : Cf) (X : Cx) (scope : Scope) (ifs : List Expr) (cond : BF) : Prop := ∃ tt : TT, (Blk X scope fun Y => PTs Y ifs tt) ∧ ∀ (env : Ev) (S : Sto) (ρ : List Addr) (σ : L2.St) (H : Hp) (Q : Bool → Hp → Prop), RepE G ρ H σ env → Rel G ρ S H → Out G PB ρ H (cond env S) Q → tt σ H Q
theorem sif_none {scope : Scope} : SIf G X scope [] mYes := ⟨tYes, fun _ _ _ _ _ => pts_nil, fun env S ρ σ H Q he hr h => Out.ok h hr rfl⟩
theorem sif_one {scope : Scope} {cond : BF} (h : Blk X scope fun Y => ST G Y c cond) : SIf G X scope [c] cond :=
  ⟨PTb X scope c, fun s H C cl fp => pts_one (ptb s H C cl fp), fun env S ρ σ H Q he hr q s H' C cl fp => h s H' C cl fp env S ρ σ H Q he hr q⟩
theorem tlc_of {scope : Scope} {fi : IF} {t : TF} {cond : BF} {fe : EF} {ids vs : List Nat} {tt : TT} {elt : Expr} (hi : SI G X tg iter fi) (hg : Blk X scope fun Y => SG G Y tg t ids)
    (ht : ∀ (env : Ev) (S : Sto) (ρ : List Addr) (σ : L2.St) (H : Hp) (Q : Bool → Hp → Prop), RepE G ρ H σ env → Rel G ρ S H → Out G PB ρ H (cond env S) Q → tt σ H Q)
    (he : Blk X scope fun Y => SE G Y elt fe) (hs : ∀ j ∈ ids, j ∈ vs) {env : Ev} {S : Sto} {ρ : List Addr} {σ : L2.St} {H : Hp} {Q : VK} (hv : RepE G ρ H σ env) (hr : Rel G ρ S H) (h : Out G (PV G) ρ H (mLc fi t cond fe vs env S) Q) :
    tLc (PIw X tg iter) (PGb X scope tg) tt (PEb X scope elt) vs σ H Q := by
  refine hi env S ρ σ H _ hv hr ?_
  unfold mLc at h
  cases q0 : fi env S with
  | bad => rw [q0] at h; exact h.elim
  | ok m S1 =>
    rw [q0] at h
    have h' : Out G (PV G) ρ H (loopC m t cond fe S1.n (wipeE env vs) (m.bound + 1) 0 (S1.new (.lst []))) Q := h
    intro ρ1 H1 J e1 r1 ok D hD
    obtain ⟨r2, e2⟩ := r1.new (o := .lst []) hD (same_upd (o := .lst []) hD) ⟨[], upd_same, .nil⟩
    have hDx : (ρ1 ++ [D])[S1.n]? = some D := by rw [← r1.len]; simp
    refine ⟨fun i n H => ∃ S ρ, Ext G (ρ1 ++ [D]) (upd H1 D (.lst [])) ρ H ∧ Rel G ρ S H ∧ Out G (PV G) ρ H (loopC m t cond fe S1.n (wipeE env vs) n i S) Q,
      ⟨m.bound + 1, S1.new (.lst []), ρ1 ++ [D], Ext.refl, r2, Out.mono (e1.trans e2) h'⟩, ?_⟩
    rintro i n H3 ⟨S3, ρ3, e3, r3, h3⟩
    cases n with
    | zero => exact h3.elim
    | succ n =>
      have hj := ok i ρ3 S3 H3 (e2.trans e3) r3
      have h4 : Out G (PV G) ρ3 H3 (match m.nx i S3 with | none => .bad | some none => .ok (.ref S1.n) S3 | some (some v) => (match t v (wipeE env vs) S3 with | none => .bad | some env1 => (cond env1 S3).bind fun k S1' => match k with | false => loopC m t cond fe S1.n (wipeE env vs) n (i + 1) S1' | true => (fe env1 S1').bind fun y S2 => match S2.get S1.n with | some (.lst acc) => (match Nat.blt acc.length 1000000 with | true => loopC m t cond fe S1.n (wipeE env vs) n (i + 1) (S2.set S1.n (.lst (acc ++ [y]))) | false => .bad) | _ => .bad)) Q := h3
      cases q : m.nx i S3 with
      | none => rw [q] at h4; exact h4.elim
      | some w =>
        rw [q] at h4 hj
        cases w with
        | none => exact .inl ⟨hj, Out.ok h4 r3 (.ref (e3.at hDx))⟩
        | some v =>
          obtain ⟨go, yl⟩ := hj
          refine .inr ⟨go, fun H' => ∃ S ρ, Ext G (ρ1 ++ [D]) (upd H1 D (.lst [])) ρ H' ∧ Rel G ρ S H' ∧ Out G (PV G) ρ H' (loopC m t cond fe S1.n (wipeE env vs) n (i + 1) S) Q, fun H' hn => ⟨n, Nat.lt_succ_self n, hn⟩, fun x H5 hy => ?_⟩
          obtain ⟨r5, e5, rx⟩ := yl x H5 hy
          have h5 : Out G (PV G) ρ3 H3 (match t v (wipeE env vs) S3 with | none => .bad | some env1 => (cond env1 S3).bind fun k S1' => match k with | false => loopC m t cond fe S1.n (wipeE env vs) n (i + 1) S1' | true => (fe env1 S1').bind fun y S2 => match S2.get S1.n with | some (.lst acc) => (match Nat.blt acc.length 1000000 with | true => loopC m t cond fe S1.n (wipeE env vs) n (i + 1) (S2.set S1.n (.lst (acc ++ [y]))) | false => .bad) | _ => .bad) Q := h4
          cases qt : t v (wipeE env vs) S3 with
          | none => rw [qt] at h5; exact h5.elim
          | some env1 =>
            rw [qt] at h5
            have hvw : RepE G ρ3 H5 (wipe σ vs) (wipeE env vs) := ((hv.mono (((e1.trans e2).trans e3).trans e5))).wipe vs
            intro s0 H0 C cl fp
            refine hg s0 H0 C cl fp v x (wipeE env vs) env1 S3 ρ3 (wipe σ vs) H5 _ hvw r5 rx qt fun σ6 he6 k6 => ⟨kept_wipe k6 hs, ?_⟩
            have h6 := Out.mono e5 h5
            refine ht env1 S3 ρ3 σ6 H5 _ he6 r5 (Out.bind h6 fun kb S7 ρ7 H7 kb' w7 e7 r7 p7 h7 => ?_)
            subst p7
            cases kb' with
            | false => exact ⟨S7, ρ7, (e3.trans e5).trans e7, r7, h7⟩
            | true =>
              intro s1 H1' C1 cl1 fp1
              refine he s1 H1' C1 cl1 fp1 env1 S7 ρ7 σ6 H7 _ (he6.mono e7) r7 (Out.bind h7 fun y S8 ρ8 H8 u w8 e8 r8 p8 h8 => ?_)
              cases g : S8.get S1.n with
              | none => rw [g] at h8; exact h8.elim
              | some ob =>
                rw [g] at h8
                cases ob with
                | lst acc =>
                  have h9 : Out G (PV G) ρ8 H8 (match Nat.blt acc.length 1000000 with | true => loopC m t cond fe S1.n (wipeE env vs) n (i + 1) (S8.set S1.n (.lst (acc ++ [y]))) | false => .bad) Q := h8
                  cases qb : Nat.blt acc.length 1000000 with
                  | false => rw [qb] at h9; exact h9.elim
                  | true =>
                    rw [qb] at h9
                    have eall := ((e3.trans e5).trans e7).trans e8
                    obtain ⟨ys, f1, ry⟩ := r8.lst g (eall.at hDx)
                    refine ⟨ys, f1, by rw [ry.length]; exact blt_line qb, ?_⟩
                    obtain ⟨r9, e9⟩ := r8.put (o := .lst (acc ++ [y])) (u := .lst (ys ++ [u])) (eall.at hDx) fun e => ⟨_, upd_same, (ry.append (.cons p8 .nil)).mono e⟩
                    exact ⟨_, ρ8, eall.trans e9, r9, Out.mono e9 h9⟩
                | _ => exact h8.elim
theorem GC.blk {C : CO} {k : Nat} {T : Tab} (g : GC G X C k T) (s : Shared) (H : Hp) (scope : Scope) (a : Addr) (cl : List (Str × Addr)) (fp : List Addr) : GC G (X.blk s H scope (compEnvC scope cl a X.env) fp) C k T :=
  ⟨⟨g.gx.ok, g.gx.hK, g.gx.nd, g.gx.calm, g.gx.hu⟩, g.room, fun j hj => (g.cal j hj).casesOn fun ex fl => ⟨ex, fl⟩, g.fn, g.mt, g.mker, g.fr, g.cv⟩
/-- within a block, with the calls -/
abbrev BlkC (G : Cf) (X : Cx) (C : CO) (k : Nat) (T : Tab) (scope : Scope) (P : Cx → Prop) : Prop := Blk X scope fun Y => GC G Y C k T → P Y
theorem BlkC.of {C : CO} {k : Nat} {T : Tab} {scope : Scope} {P : Cx → Prop} (gc : GC G X C k T) (h : BlkC G X C k T scope P) : Blk X scope P := fun s H a cl fp => h s H a cl fp (gc.blk s H scope a cl fp)
theorem sif_oneC {C : CO} {k : Nat} {T : Tab} {scope : Scope} {cond : BF} (gc : GC G X C k T) (h : BlkC G X C k T scope fun Y => ST G Y c cond) : SIf G X scope [c] cond := sif_one (BlkC.of gc h)
theorem se_lc {C : CO} {k : Nat} {T : Tab} {scope : Scope} {own : List (Str × Nat)} {fi : IF} {t : TF} {cond : BF} {fe : EF} {ids : List Nat} {ifs : List Expr} {elt : Expr} (gc : GC G X C k T) (ok : BlkOk X.N X.env.scope scope own) (hi : SI G X tg iter fi) (hg : BlkC G X C k T scope fun Y => SG G Y tg t ids)
    (ht : SIf G X scope ifs cond) (he : BlkC G X C k T scope fun Y => SE G Y elt fe) (hs : ∀ j ∈ ids, j ∈ own.map (·.2)) (hf : ∀ x, foldedSetIterable iter X.env x = pure x) :
    SE G X (.ListComp elt [⟨tg, iter, ifs, 0⟩] scope pos) (mLc fi t cond fe (own.map (·.2))) := by
  intro env S ρ σ H Q hv hr h
  obtain ⟨tt, pt, qt⟩ := ht
  exact PEw.by (pe_lc gc.gx.calm gc.gx.nd piw ok pgb pt peb hf) (tlc_of hi (BlkC.of gc hg) qt (BlkC.of gc he) hs hv hr h)
theorem ss_setLc {C : CO} {k : Nat} {T : Tab} {scope : Scope} {own : List (Str × Nat)} {fi : IF} {t : TF} {cond : BF} {fe : EF} {ids : List Nat} {ifs : List Expr} {elt : Expr} {i : Nat} {y : Str} {py spos : Pos} (gc : GC G X C k T) (hy : X.N[i]? = some y) (hyl : X.env.scope.names.lookup y = some .local)
    (hsw : swapsWith (.ListComp elt [⟨tg, iter, ifs, 0⟩] scope pos) (some (.Name y py)) spos.line X.env = pure true) (ok : BlkOk X.N X.env.scope scope own) (hi : SI G X tg iter fi) (hg : BlkC G X C k T scope fun Y => SG G Y tg t ids)
    (ht : SIf G X scope ifs cond) (he : BlkC G X C k T scope fun Y => SE G Y elt fe) (hs : ∀ j ∈ ids, j ∈ own.map (·.2)) (hf : ∀ x, foldedSetIterable iter X.env x = pure x) :
    SS G X (.Assign [.Name y py] (.ListComp elt [⟨tg, iter, ifs, 0⟩] scope pos) spos) (mSet (tNm i) (mLc fi t cond fe (own.map (·.2)))) := by
  intro env S ρ σ H D hv hr h
  obtain ⟨tt, pt, qt⟩ := ht
  refine PSw.by (ps_setLc gc.gx.calm gc.gx.nd hy hyl hsw piw ok pgb pt peb hf) (tlc_of hi (BlkC.of gc hg) qt (BlkC.of gc he) hs hv hr (OutS.bind h fun x S1 ρ1 H1 v w1 e1 r1 p1 h1 => ?_))
  exact h1 ρ1 H1 _ Ext.refl r1 ((hv.mono e1).set p1 i)
end
end Mi
/-! A program of such defs; every def keeps its promise at every depth; a law's end. -/
namespace Mi
open PySem PySem.Spec PyProof.Rows L2

/-- a def: how many parameters, how many slots, its body over the calls -/
structure Df where
  np : Nat
  ns : Nat
  body : CO → SF
def startE (n : Nat) (args : List Va) : Ev := args.map some ++ List.replicate (n - args.length) none
def runB (r : R Fl) : R Va := match r with
  | .ok (.rt v) S => .ok v S
  | .ok (.nx _) S => .ok .non S
  | _ => .bad
def callF (P : Nat → Option Df) : Nat → CO
  | 0 => fun _ _ _ => .bad
  | d + 1 => fun j args S => match P j with
    | some df => match Nat.beq args.length df.np with
      | true => runB (df.body (callF P d) (startE df.ns args) S)
      | false => .bad
    | none => .bad
theorem callF_len {P : Nat → Option Df} {j : Nat} {df : Df} (hj : P j = some df) : ∀ (d : Nat) (args : List Va) (S : Sto) (a : Va) (S' : Sto), callF P d j args S = .ok a S' → args.length = df.np
  | 0, _, _, _, _, h => by cases h
  | d + 1, args, S, a, S', h => by
    have h' : (match P j with | some df => (match Nat.beq args.length df.np with | true => runB (df.body (callF P d) (startE df.ns args) S) | false => .bad) | none => .bad) = R.ok a S' := h
    rw [hj] at h'
    have h2 : (match Nat.beq args.length df.np with | true => runB (df.body (callF P d) (startE df.ns args) S) | false => .bad) = R.ok a S' := h'
    cases q : Nat.beq args.length df.np with
    | false => rw [q] at h2; cases h2
    | true => exact Nat.eq_of_beq_eq_true q
theorem repE_start {G : Cf} {ρ : List Addr} {H : Hp} {N : List Str} {vs : List V} {args : List Va} (r : Reps G ρ H vs args) (hl : vs.length ≤ N.length) : RepE G ρ H (L2.start N vs) (startE N.length args) := by
  refine ⟨?_, fun i x h => ?_⟩
  · unfold L2.start startE
    rw [List.length_append, List.length_append, List.length_map, List.length_map, List.length_replicate, List.length_replicate, r.length]
  · unfold startE at h
    by_cases hi : i < args.length
    · rw [List.getElem?_append_left (by rw [List.length_map]; exact hi), List.getElem?_map] at h
      cases q : args[i]? with
      | none => rw [q] at h; cases h
      | some y =>
        rw [q] at h
        cases h
        obtain ⟨v, hv, p⟩ := r.get q
        refine ⟨v, ?_, p⟩
        unfold L2.start
        rw [List.getElem?_append_left (by rw [List.length_map, r.length]; exact hi), List.getElem?_map, hv]
        rfl
    · rw [List.getElem?_append_right (by rw [List.length_map]; omega), List.getElem?_replicate] at h
      split at h <;> cases h
/-- a def's context: nothing is raised -/
abbrev XX (P : Program) (w : World) (K : PySem.W.Frag) (mg : Str → Option Value) (base : Heap) (N : List Str) (qual : Str) (scope : Scope) (f : Addr) (cd : Value) (A : Around) (outer : List Env) (s : Shared) (H : Hp) (E : XK) : Cx :=
  (cxOf CX0 P w K mg base N qual scope f cd A outer s H E).nox
theorem out_run {G : Cf} {ρ : List Addr} {H : Hp} {r : R Fl} {Q : VK} (h : Out G (PV G) ρ H (runB r) Q) : OutS G ρ H r { nx := fun _ H' => Q .non H', rt := Q } := by
  cases r with
  | bad => exact h
  | ok fl S => cases fl with
    | nx env => exact fun ρ' H' σ' e rl re => h ρ' H' .non e rl .non
    | rt v => exact fun ρ' H' u e rl p => h ρ' H' u e rl p
    | bk env => exact h.elim
    | ct env => exact h.elim
theorem fn_ok {G : Cf} {T : Tab} {Pr : Nat → Option Df} {P : Program} {w : World} {K : PySem.W.Frag} {mg : Str → Option Value} {base : Heap} {x qual : Str} {params : Arguments} {body : List Stmt} {scope : Scope} {dvs : List V} {kws : List (Str × V)} {f : Addr} {fd : FuncData} {N ps : List Str} {j d : Nat} {df : Df}
    (F : FunD K x qual params body scope dvs kws f fd) (S : FnScope N ps scope) (hP : Pr j = some df) (hn : N.length = df.ns) (hp : ps.length = df.np)
    (gcs : ∀ (cdv : Value) (A : Around) (outer : List Env) (s : Shared) (H : Hp) (E : XK), Room (2 * d + 1) (A.deeper (envOfC qual scope s.heap.objs.size f cdv)) → GC G (XX P w K mg base N qual scope f cdv A outer s H E) (callF Pr d) (2 * d) T)
    (hb : ∀ (cdv : Value) (A : Around) (outer : List Env) (s : Shared) (H : Hp) (E : XK) (C : CO) (k : Nat), GC G (XX P w K mg base N qual scope f cdv A outer s H E) C k T → SSs G (XX P w K mg base N qual scope f cdv A outer s H E) body (df.body C)) :
    FnOk P w K mg base CX0 (2 * (d + 1)) f fd ps (spOf G (callF Pr (d + 1)) df.np j) := by
  refine F.ok (k := 2 * d + 1) S (fun vs H Q E h => by rw [hp]; exact h.1) fun cdv A outer s H vs Q E hr hsp => ?_
  obtain ⟨hl, ρ, S0, args, rl, rs, o⟩ := hsp
  refine ⟨_, PSs.nox pssw, ?_⟩
  have ha : args.length = df.np := by rw [← rs.length]; exact hl
  have o' : Out G (PV G) ρ H (match Pr j with | some df => (match Nat.beq args.length df.np with | true => runB (df.body (callF Pr d) (startE df.ns args) S0) | false => .bad) | none => .bad) Q := o
  rw [hP] at o'
  have o2 : Out G (PV G) ρ H (match Nat.beq args.length df.np with | true => runB (df.body (callF Pr d) (startE df.ns args) S0) | false => .bad) Q := o'
  rw [beqT ha] at o2
  have hle : vs.length ≤ N.length := by
    have := congrArg List.length S.pre
    rw [List.length_take] at this
    omega
  have hre : RepE G ρ H (L2.start N vs) (startE df.ns args) := by rw [← hn]; exact repE_start rs hle
  exact hb cdv A outer s H E (callF Pr d) (2 * d) (gcs cdv A outer s H E hr) _ _ ρ _ H _ hre rl (out_run o2)

/-! ### all defs at once -/
/-- a def of the text: where it stands; its names; its function -/
structure Fact (G : Cf) (T : Tab) (Pr : Nat → Option Df) (P : Program) (w : World) (K : PySem.W.Frag) (mg : Str → Option Value) (j : Nat) : Prop where
  ok : ∃ (x qual : Str) (params : Arguments) (body : List Stmt) (scope : Scope) (dvs : List V) (kws : List (Str × V)) (fd : FuncData) (N ps : List Str) (df : Df) (ds : List Value),
    FunD K x qual params body scope dvs kws (T.fA j) fd ∧ FnScope N ps scope ∧ Pr j = some df ∧ N.length = df.ns ∧ ps.length = df.np ∧ Binds K fd ps ds ∧ Vals ((T.dx j).map flatD) ds ∧ (T.dx j).all flatA = true ∧
    ∀ (base : Heap) (cdv : Value) (A : Around) (outer : List Env) (s : Shared) (H : Hp) (E : XK) (C : CO) (k : Nat), GC G (XX P w K mg base N qual scope (T.fA j) cdv A outer s H E) C k T → SSs G (XX P w K mg base N qual scope (T.fA j) cdv A outer s H E) body (df.body C)
/-- what of the text's globals and classes is known -/
structure Glob (G : Cf) (T : Tab) (K : PySem.W.Frag) (mg : Str → Option Value) : Prop where
  ok : G.Ok
  hK : K = G.K
  fn : ∀ j x, T.fname j = some x → T.has j = true ∧ mg x = some (.ref (T.fA j)) ∧ PySem.W.keepIn K (.ref (T.fA j)) = true
  mt : ∀ i c m j, T.mth i = some (c, m, j) → T.has j = true ∧ Meth K (G.cA c) m (T.fA j) ∧ (∀ i, G.fN i ≠ m) ∧ Cls G.K (G.cA c)
  mker : ∀ c x, T.cname c = some x → T.has (T.init c) = true ∧ mg x = some (.ref (G.cA c)) ∧ Mk K (G.cA c) (T.fA (T.init c)) ∧ Cls G.K (G.cA c)
  fr : ∀ i x, T.free i = some x → mg x = none
  cv : ∀ i x v, T.cv i = some (x, v) → CvOk G mg x v
theorem gc_of {G : Cf} {T : Tab} {C : CO} {k : Nat} {P : Program} {w : World} {K : PySem.W.Frag} {mg : Str → Option Value} {base : Heap} {N ps : List Str} {qual : Str} {scope : Scope} {f : Addr} {cd : Value} {A : Around} {outer : List Env} {s : Shared} {H : Hp} {E : XK}
    (g : Glob G T K mg) (S : FnScope N ps scope) (hr : Room (k + 1) (A.deeper (envOfC qual scope s.heap.objs.size f cd))) (hc : ∀ (X : Cx), X.prog = P → X.w = w → X.K = K → X.mg = mg → X.base = base → ∀ j, T.has j = true → Cal G X C k j (T.fA j) (T.dx j)) :
    GC G (XX P w K mg base N qual scope f cd A outer s H E) C k T where
  gx := ⟨g.ok, g.hK, S.nd, rfl, by
    have h := hr.un
    show (A.deeper (envOfC qual scope s.heap.objs.size f cd)).units + 65 < cLine
    omega⟩
  room := hr
  cal := hc _ rfl rfl rfl rfl rfl
  fn := g.fn
  mt := g.mt
  mker := g.mker
  fr := g.fr
  cv := g.cv
theorem cals {G : Cf} {T : Tab} {Pr : Nat → Option Df} {P : Program} {w : World} {K : PySem.W.Frag} {mg : Str → Option Value} (g : Glob G T K mg) (hF : ∀ j, T.has j = true → Fact G T Pr P w K mg j) (base : Heap) :
    ∀ (d : Nat) (X : Cx), X.prog = P → X.w = w → X.K = K → X.mg = mg → X.base = base → ∀ j, T.has j = true → Cal G X (callF Pr d) (2 * d) j (T.fA j) (T.dx j) := by
  intro d
  induction d with
  | zero =>
    intro X h1 h2 h3 h4 h5 j hj
    subst h1 h2 h3 h4 h5
    obtain ⟨x, qual, params, body, scope, dvs, kws, fd, N, ps, df, ds, F, S, hP, hn, hp, hb, hv, hfl, _⟩ := (hF j hj).ok
    have hno : ∀ vs H Q E, ¬ spOf G (callF Pr 0) df.np j vs H Q E := fun vs H Q E ⟨_, ρ, S0, args, _, _, o⟩ => o
    exact ⟨⟨fd, ps, df.np, ds, ⟨fun vs H Q E h => (hno _ _ _ _ h).elim, fun A outer s H args us vs Q E _ _ _ _ h => (hno _ _ _ _ h).elim⟩, hb, hv, fun args S a S' => callF_len hP 0 args S a S'⟩, hfl⟩
  | succ d ih =>
    intro X h1 h2 h3 h4 h5 j hj
    subst h1 h2 h3 h4 h5
    obtain ⟨x, qual, params, body, scope, dvs, kws, fd, N, ps, df, ds, F, S, hP, hn, hp, hb, hv, hfl, hbody⟩ := (hF j hj).ok
    exact ⟨⟨fd, ps, df.np, ds, fn_ok (d := d) F S hP hn hp (fun cdv A outer s H E hr => gc_of g S hr ih) fun cdv A outer s H E C k gc => hbody X.base cdv A outer s H E C k gc, hb, hv, fun args S a S' => callF_len hP (d + 1) args S a S'⟩, hfl⟩
/-- the law's def, at depth d -/
theorem law_fn {G : Cf} {T : Tab} {Pr : Nat → Option Df} {P : Program} {w : World} {K : PySem.W.Frag} {mg : Str → Option Value} (g : Glob G T K mg) (hF : ∀ j, T.has j = true → Fact G T Pr P w K mg j) {j : Nat} (hj : T.has j = true) (d : Nat)
    {x qual : Str} {params : Arguments} {body : List Stmt} {scope : Scope} {dvs : List V} {kws : List (Str × V)} {fd : FuncData} {N ps : List Str} {df : Df} (F : FunD K x qual params body scope dvs kws (T.fA j) fd) (S : FnScope N ps scope) (hP : Pr j = some df) (hn : N.length = df.ns) (hp : ps.length = df.np)
    (hb : ∀ (base : Heap) (cdv : Value) (A : Around) (outer : List Env) (s : Shared) (H : Hp) (E : XK) (C : CO) (k : Nat), GC G (XX P w K mg base N qual scope (T.fA j) cdv A outer s H E) C k T → SSs G (XX P w K mg base N qual scope (T.fA j) cdv A outer s H E) body (df.body C)) (base : Heap) :
    FnOk P w K mg base CX0 (2 * (d + 1)) (T.fA j) fd ps (spOf G (callF Pr (d + 1)) df.np j) :=
  fn_ok F S hP hn hp (fun cdv A outer s H E hr => gc_of g S hr (cals g hF base d)) (hb base)
/-- a script, locked -/
theorem sqF_only {K : PySem.W.Frag} {H : Hp} {a : Addr} {xs : List V} (hO : Only H) (h : SqL K H a xs) : SqF K H a xs := by
  rcases h with (h | h) | h
  · rcases hO a with e | ⟨o, ys, e⟩
    · rw [e] at h; cases h
    · rw [e] at h; cases h
  · exact .inl h
  · exact .inr h
theorem reps_ints {G : Cf} {ρ : List Addr} {H : Hp} : ∀ ns : List Int, Reps G ρ H (ns.map V.int) (ns.map Va.int)
  | [] => .nil
  | n :: ns => .cons (.int n) (reps_ints ns)
/-- the law's promise, from the plain law -/
theorem law_sp {G : Cf} {Pr : Nat → Option Df} {d j : Nat} (hlaw : ∀ ns : List Int, ns.length ≤ 63 → ∃ S, callF Pr d j [.fro (ns.map Va.int)] ⟨0, .nil⟩ = .ok (.bl true) S) {H : Hp} {a : Addr} {ns : List Int} (hl : ns.length ≤ 63) (hO : Only H) (hS : SqL G.K H a (ns.map V.int)) :
    spOf G (callF Pr d) 1 j [.ref a] H (fun v _ => v = .bl true) fun _ _ _ => False := by
  obtain ⟨S, e⟩ := hlaw ns hl
  refine ⟨rfl, [], ⟨0, .nil⟩, [.fro (ns.map Va.int)], ⟨rfl, List.nodup_nil, fun i b h => by simp at h⟩, .cons (.fro (sqF_only hO hS) (reps_ints ns)) .nil, ?_⟩
  rw [e]
  intro ρ' H' u _ _ p
  cases p
  rfl
end Mi
/-! From a head's facts to the table of a program. -/
namespace Mi
open PySem PySem.Spec PyProof.Rows L2

/-- names by place; a name that no text has behind the end -/
def fNof (l : List Str) (j : Nat) : Str := match l[j]? with
  | some x => x
  | none => ⟨#[0, j]⟩
def head0 (x : Str) : Bool := match x.cps.toList with
  | 0 :: _ => true
  | _ => false
theorem fNof_none {l : List Str} {j : Nat} (h : l[j]? = none) : fNof l j = ⟨#[0, j]⟩ := by
  unfold fNof
  rw [h]
theorem fNof_some {l : List Str} {j : Nat} {x : Str} (h : l[j]? = some x) : fNof l j = x := by
  unfold fNof
  rw [h]
theorem fNof_inj {l : List Str} (h : l.Nodup) (h0 : ∀ x ∈ l, head0 x = false) (i j : Nat) (e : fNof l i = fNof l j) : i = j := by
  cases qi : l[i]? with
  | some x =>
    rw [fNof_some qi] at e
    cases qj : l[j]? with
    | some y =>
      rw [fNof_some qj] at e
      subst e
      obtain ⟨h1, e1⟩ := List.getElem?_eq_some_iff.mp qi
      obtain ⟨h2, e2⟩ := List.getElem?_eq_some_iff.mp qj
      exact (List.getElem_inj h).mp (e1.trans e2.symm)
    | none =>
      rw [fNof_none qj] at e
      have := h0 x (List.mem_of_getElem? qi)
      rw [e] at this
      cases this
  | none =>
    rw [fNof_none qi] at e
    cases qj : l[j]? with
    | some y =>
      rw [fNof_some qj] at e
      have := h0 y (List.mem_of_getElem? qj)
      rw [← e] at this
      cases this
    | none =>
      rw [fNof_none qj] at e
      have e2 := congrArg (fun z : Str => z.cps.toList) e
      have e3 : [0, i] = [0, j] := e2
      simpa using e3
theorem fNof_ne {l : List Str} {m : Str} (h : m ∉ l) (h0 : head0 m = false) (i : Nat) : fNof l i ≠ m := by
  intro e
  cases qi : l[i]? with
  | some x =>
    rw [fNof_some qi] at e
    subst e
    exact h (List.mem_of_getElem? qi)
  | none =>
    rw [fNof_none qi] at e
    subst e
    cases h0

/-- a program's tables -/
structure Dt where
  fields : List Str
  cnames : List Str
  naL : List (Nat × Nat)
  mths : List (Nat × Str × Nat)
  frees : List Str
  cvs : List (Str × Va)
  fats : List (Str × Option Str)
  dxs : List (Nat × List Va)
  inits : List Nat
  has : List Nat
def Dt.cn (D : Dt) (c : Nat) : Str := D.cnames.getD c Str.empty
def Dt.fat (D : Dt) (j : Nat) : Str × Option Str := D.fats.getD j (Str.empty, none)
def inL (j : Nat) : List Nat → Bool
  | [] => false
  | a :: r => match Nat.beq a j with
    | true => true
    | false => inL j r
def inL2 (c j : Nat) : List (Nat × Nat) → Bool
  | [] => false
  | a :: r => match Nat.beq a.1 c && Nat.beq a.2 j with
    | true => true
    | false => inL2 c j r
def dxOf (j : Nat) : List (Nat × List Va) → List Va
  | [] => []
  | a :: r => match Nat.beq a.1 j with
    | true => a.2
    | false => dxOf j r
theorem inL_mem {j : Nat} : ∀ {l : List Nat}, inL j l = true → j ∈ l
  | [], h => by cases h
  | a :: r, h => by
    unfold inL at h
    cases q : Nat.beq a j with
    | true => rw [Nat.eq_of_beq_eq_true q]; exact List.mem_cons_self
    | false => rw [q] at h; exact List.mem_cons_of_mem _ (inL_mem h)
theorem inL2_mem {c j : Nat} : ∀ {l : List (Nat × Nat)}, inL2 c j l = true → (c, j) ∈ l
  | [], h => by cases h
  | a :: r, h => by
    unfold inL2 at h
    cases q : Nat.beq a.1 c && Nat.beq a.2 j with
    | true =>
      obtain ⟨q1, q2⟩ := Bool.and_eq_true_iff.mp q
      have e : a = (c, j) := Prod.ext (Nat.eq_of_beq_eq_true q1) (Nat.eq_of_beq_eq_true q2)
      rw [e]
      exact List.mem_cons_self
    | false => rw [q] at h; exact List.mem_cons_of_mem _ (inL2_mem h)
def Dt.G (D : Dt) (K : PySem.W.Frag) : Cf := ⟨K, fun c => He.ga K (D.cn c), fNof D.fields, fun c j => inL2 c j D.naL⟩
def Dt.fn (D : Dt) (j : Nat) : Option Str := match inL j D.has with
  | true => match D.fat j with
    | (x, none) => some x
    | _ => none
  | false => none
def Dt.T (D : Dt) (K : PySem.W.Frag) : Tab where
  fA := fun j => He.fAd K (D.fat j)
  dx := fun j => dxOf j D.dxs
  fname := D.fn
  mth := fun i => D.mths[i]?
  cname := fun c => D.cnames[c]?
  init := fun c => D.inits.getD c 0
  free := fun i => D.frees[i]?
  cv := fun i => D.cvs[i]?
  has := fun j => inL j D.has
def glosOf (D : Dt) (j : Nat) : List He.Fa := match D.fat j with
  | (x, none) => [.glo x, .keep x]
  | _ => []
def cvFa : Str × Va → List He.Fa
  | (x, .int i) => [.int x i]
  | (x, .str y) => [.str x y]
  | (x, .tup _) => [.glo x]
  | _ => []
def dvOf : Va → He.Dv
  | .bl b => .bl b
  | .int i => .int i
  | .str x => .str x
  | _ => .non
/-- the constants that are tuples -/
def Dt.ex (D : Dt) (K : PySem.W.Frag) : Bool := D.cvs.all fun q => match q.2 with
  | .int _ => true
  | .str _ => true
  | .tup xs => He.tupB K q.1 (xs.map dvOf) && xs.all flatA
  | _ => false
def Dt.fa (D : Dt) : List He.Fa :=
  D.frees.map He.Fa.free ++ D.has.flatMap (glosOf D) ++ D.cnames.flatMap (fun x => [.glo x, .cls x, .mkr x]) ++ D.naL.map (fun q => .noat (D.cn q.1) (fNof D.fields q.2)) ++
  D.mths.map (fun q => .meth (D.cn q.1) q.2.1) ++ D.cvs.flatMap cvFa
def Dt.check (D : Dt) : Bool :=
  decide D.fields.Nodup && (D.fields.all fun x => !head0 x) && (D.mths.all fun q => inL q.2.2 D.has && decide (D.fat q.2.2 = (D.cn q.1, some q.2.1)) && !(D.fields.contains q.2.1) && !head0 q.2.1 && Nat.blt q.1 D.cnames.length) &&
  ((List.range D.cnames.length).all fun c => inL (D.inits.getD c 0) D.has && decide (D.fat (D.inits.getD c 0) = (D.cn c, some ("__init__" : Str))))
theorem mg_ref {K : PySem.W.Frag} {x : Str} (c : (He.Fa.glo x).ok K = true) {h : Heap} {mg : Str → Option Value} (X : K.In h) (N : h.Ns mainGlobals mg) : mg x = some (.ref (He.ga K x)) := He.glo_ok X N c
theorem relV_dv {K : PySem.W.Frag} {G : Cf} {ρ : List Addr} {H : Hp} : ∀ {xs : List Va}, xs.all flatA = true → Reps G ρ H ((xs.map dvOf).map (He.Dv.v K)) xs
  | [], _ => .nil
  | x :: xs, h => by
    rw [List.all_cons, Bool.and_eq_true] at h
    refine .cons ?_ (relV_dv h.2)
    cases x <;> first | exact .non | exact .bl _ | exact .int _ | exact .str _ | cases h.1
theorem Dt.glob (D : Dt) (hc : D.check = true) {K : PySem.W.Frag} {h : Heap} {mg : Str → Option Value} (hf : ∀ f ∈ D.fa, f.ok K = true) (he : D.ex K = true) (X : K.In h) (N : h.Ns mainGlobals mg) : Glob (D.G K) (D.T K) K mg := by
  unfold Dt.check at hc
  simp only [Bool.and_eq_true, decide_eq_true_eq, List.all_eq_true, Bool.not_eq_true'] at hc
  obtain ⟨⟨⟨c1, c2⟩, c3⟩, c4⟩ := hc
  have fr : ∀ x ∈ D.frees, mg x = none := fun x hx => He.free_ok X N (hf (.free x) (by
    unfold Dt.fa
    simp only [List.mem_append, List.mem_map]
    exact .inl (.inl (.inl (.inl (.inl ⟨x, hx, rfl⟩))))))
  have cl : ∀ x ∈ D.cnames, (He.Fa.glo x).ok K = true ∧ (He.Fa.cls x).ok K = true ∧ (He.Fa.mkr x).ok K = true := fun x hx => by
    have m : ∀ f ∈ ([.glo x, .cls x, .mkr x] : List He.Fa), f ∈ D.fa := fun f hfm => by
      unfold Dt.fa
      simp only [List.mem_append, List.mem_flatMap]
      exact .inl (.inl (.inl (.inr ⟨x, hx, hfm⟩)))
    exact ⟨hf _ (m _ (by simp)), hf _ (m _ (by simp)), hf _ (m _ (by simp))⟩
  have cnm : ∀ c, c < D.cnames.length → D.cn c ∈ D.cnames := fun c hc => by
    unfold Dt.cn
    rw [List.getD_eq_getElem?_getD, List.getElem?_eq_getElem hc]
    exact List.getElem_mem hc
  refine ⟨⟨fNof_inj c1 fun x hx => c2 x hx, fun C j hj => ?_⟩, rfl, fun j x hj => ?_, fun i c m j hi => ?_, fun c x hc => ?_, fun i x hi => fr x (List.mem_of_getElem? hi), fun i x v hi => ?_⟩
  · exact He.noat_ok (hf (.noat (D.cn C) (fNof D.fields j)) (by
      unfold Dt.fa
      simp only [List.mem_append, List.mem_map]
      exact .inl (.inl (.inr ⟨(C, j), inL2_mem hj, rfl⟩))))
  · have hj' : (match inL j D.has with | true => (match D.fat j with | (x, none) => some x | _ => none) | false => none) = some x := hj
    cases q : inL j D.has with
    | false => rw [q] at hj'; cases hj'
    | true =>
      rw [q] at hj'
      have h2 : (match D.fat j with | (x, none) => some x | _ => none) = some x := hj'
      obtain ⟨y, o⟩ : Str × Option Str := D.fat j
      cases e : D.fat j with
      | mk y o =>
        rw [e] at h2
        cases o with
        | some m => cases h2
        | none =>
          have e2 : y = x := Option.some.inj h2
          subst e2
          have m : ∀ f ∈ ([.glo y, .keep y] : List He.Fa), f ∈ D.fa := fun f hfm => by
            unfold Dt.fa
            simp only [List.mem_append, List.mem_flatMap]
            exact .inl (.inl (.inl (.inl (.inr ⟨j, inL_mem q, by unfold glosOf; rw [e]; exact hfm⟩))))
          refine ⟨q, ?_, ?_⟩
          · show mg y = some (.ref (He.fAd K (D.fat j)))
            rw [e]
            exact He.glo_ok X N (hf _ (m _ (by simp)))
          · show PySem.W.keepIn K (.ref (He.fAd K (D.fat j))) = true
            rw [e]
            exact He.keep_ok (hf _ (m (.keep y) (by simp)))
  · have hm := List.mem_of_getElem? (show D.mths[i]? = some (c, m, j) from hi)
    obtain ⟨⟨⟨⟨m1, m2⟩, m3⟩, m4⟩, m5⟩ := c3 _ hm
    refine ⟨m1, ?_, fun i => fNof_ne (fun z => by simp [z] at m3) m4 i, He.cls_ok (cl _ (cnm c (Nat.le_of_ble_eq_true m5))).2.1⟩
    show Meth K (He.ga K (D.cn c)) m (He.fAd K (D.fat j))
    rw [show D.fat j = (D.cn c, some m) from m2]
    exact He.meth_ok (hf (.meth (D.cn c) m) (by
      unfold Dt.fa
      simp only [List.mem_append, List.mem_map]
      exact .inl (.inr ⟨(c, m, j), hm, rfl⟩)))
  · have hc' : D.cnames[c]? = some x := hc
    obtain ⟨hl, ex⟩ := List.getElem?_eq_some_iff.mp hc'
    have e : D.cn c = x := by
      unfold Dt.cn
      rw [List.getD_eq_getElem?_getD, hc']
      rfl
    obtain ⟨i1, i2⟩ := c4 c (List.mem_range.mpr hl)
    obtain ⟨g1, g2, g3⟩ := cl x (List.mem_of_getElem? hc')
    refine ⟨i1, ?_, ?_, ?_⟩
    · show mg x = some (.ref (He.ga K (D.cn c)))
      rw [e]
      exact He.glo_ok X N g1
    · show Mk K (He.ga K (D.cn c)) (He.fAd K (D.fat (D.inits.getD c 0)))
      rw [i2, e]
      exact He.mkr_ok g3
    · show Cls K (He.ga K (D.cn c))
      rw [e]
      exact He.cls_ok g2
  · have hm := List.mem_of_getElem? (show D.cvs[i]? = some (x, v) from hi)
    have m : ∀ f ∈ cvFa (x, v), f ∈ D.fa := fun f hfm => by
      unfold Dt.fa
      simp only [List.mem_append, List.mem_flatMap]
      exact .inr ⟨(x, v), hm, hfm⟩
    unfold Dt.ex at he
    have hx := List.all_eq_true.mp he _ hm
    cases v with
    | int i => exact He.int_ok X N (hf _ (m (.int x i) (by simp [cvFa])))
    | str y => exact He.str_ok X N (hf _ (m (.str x y) (by simp [cvFa])))
    | tup xs =>
      obtain ⟨h1, h2⟩ := Bool.and_eq_true_iff.mp (show (He.tupB K x (xs.map dvOf) && xs.all flatA) = true from hx)
      exact ⟨He.ga K x, _, He.glo_ok X N (hf _ (m (.glo x) (by simp [cvFa]))), fun H => He.tupB_ok h1 H, fun ρ H => relV_dv h2⟩
    | _ => cases hx

/-! ### the head's Hook: the facts, the defs, one more Bool -/
abbrev AlM : Type := He.AlD × Bool
def obsM (n : Nat) (fa : List He.Fa) (fn : List He.DefD) (ex : PySem.W.Frag → Bool) (g : Addr → Option PySem.Obj) : AlM := (He.obsD fa fn (He.frG g (He.asD g n)), ex (He.frG g (He.asD g n)))
def hookM (n : Nat) (fa : List He.Fa) (fn : List He.DefD) (ex : PySem.W.Frag → Bool) : PySem.W.Hook where
  α := AlM
  obs := fun s => obsM n fa fn ex s.heap.get?
  val := fun _ => (He.valD fn, true)
  says := fun _ h => ∃ K : PySem.W.Frag, K.In h ∧ He.SaysD fa fn K ∧ ex K = true
  of := fun _ _ e => ⟨_, He.frG_in, congrArg (fun z : AlM => z.1) e, congrArg (fun z : AlM => z.2) e⟩
  keeps := fun _ _ _ ⟨K, hK, c⟩ k => ⟨K, PySem.W.Frag.In.keeps hK k, c⟩
theorem obsM_eq {n : Nat} {fa : List He.Fa} {fn : List He.DefD} {ex : PySem.W.Frag → Bool} {g : Addr → Option PySem.Obj} {s : Shared} (h : ∀ a, g a = s.heap.get? a) : obsM n fa fn ex g = (hookM n fa fn ex).obs s := by
  have e : g = s.heap.get? := funext h
  rw [e] <;> rfl
theorem says_facts {fa : List He.Fa} {fn : List He.DefD} {K : PySem.W.Frag} (c : He.SaysD fa fn K) : ∀ f ∈ fa, f.ok K = true := fun f hf => by
  obtain ⟨i, hi, e⟩ := List.mem_iff_getElem.mp hf
  exact c.fact i (f := f) (by rw [List.getElem?_eq_getElem hi, e])
end Mi
/-! Reckoning with such functions: stores that differ at few places; loops by an invariant; the law's draws. -/
namespace Mi
open PySem PySem.Spec PyProof.Rows L2

/-- S' is S but at the places bs, and for new objects -/
structure Fr (bs : List Nat) (S S' : Sto) : Prop where
  le : S.n ≤ S'.n
  same : ∀ i, i < S.n → i ∉ bs → S'.get i = S.get i
theorem Fr.refl (bs : List Nat) (S : Sto) : Fr bs S S := ⟨Nat.le_refl _, fun _ _ _ => rfl⟩
theorem Fr.trans {bs : List Nat} {S S1 S2 : Sto} (a : Fr bs S S1) (b : Fr bs S1 S2) : Fr bs S S2 := ⟨Nat.le_trans a.le b.le, fun i hi hn => (b.same i (Nat.lt_of_lt_of_le hi a.le) hn).trans (a.same i hi hn)⟩
theorem Fr.mono {bs cs : List Nat} {S S1 : Sto} (a : Fr bs S S1) (h : ∀ i ∈ bs, i ∈ cs) : Fr cs S S1 := ⟨a.le, fun i hi hn => a.same i hi fun z => hn (h i z)⟩
theorem Fr.set {b : Nat} (S : Sto) (o : Ob) : Fr [b] S (S.set b o) := ⟨Nat.le_refl _, fun i _ hn => Sto.get_set_ne (fun e => hn (by rw [e]; exact List.mem_singleton.mpr rfl))⟩
theorem Fr.new (bs : List Nat) (S : Sto) (o : Ob) : Fr bs S (S.new o) := ⟨Nat.le_succ _, fun i hi _ => Sto.get_new_ne (Nat.ne_of_lt hi)⟩
theorem Fr.at {bs : List Nat} {S S1 : Sto} (a : Fr bs S S1) {i : Nat} {o : Ob} (h : S.get i = some o) (hn : i ∉ bs) : S1.get i = some o := by rw [a.same i (Sto.lt h) hn, h]
theorem Fr.lt {bs : List Nat} {S S1 : Sto} (a : Fr bs S S1) {i : Nat} (h : i < S.n) : i < S1.n := Nat.lt_of_lt_of_le h a.le
/-- new places are not old ones -/
theorem Fr.old {bs cs : List Nat} {S S1 : Sto} (a : Fr bs S S1) (h : ∀ i ∈ bs, i < S.n → i ∈ cs) : Fr cs S S1 := ⟨a.le, fun i hi hn => a.same i hi fun z => hn (h i z hi)⟩

/-! ### one step of a body -/
theorem seq_nx {f g : SF} {env e1 : Ev} {S S1 : Sto} (h : f env S = .ok (.nx e1) S1) : mSeq f g env S = g e1 S1 := by unfold mSeq; rw [h]
theorem seq_rt {f g : SF} {env : Ev} {v : Va} {S S1 : Sto} (h : f env S = .ok (.rt v) S1) : mSeq f g env S = .ok (.rt v) S1 := by unfold mSeq; rw [h]
theorem seq_bk {f g : SF} {env e1 : Ev} {S S1 : Sto} (h : f env S = .ok (.bk e1) S1) : mSeq f g env S = .ok (.bk e1) S1 := by unfold mSeq; rw [h]
theorem seq_ct {f g : SF} {env e1 : Ev} {S S1 : Sto} (h : f env S = .ok (.ct e1) S1) : mSeq f g env S = .ok (.ct e1) S1 := by unfold mSeq; rw [h]
theorem ifs_t {t : BF} {f g : SF} {env : Ev} {S S1 : Sto} (h : t env S = .ok true S1) : mIfS t f g env S = f env S1 := by unfold mIfS; rw [h] <;> rfl
theorem ifs_f {t : BF} {f g : SF} {env : Ev} {S S1 : Sto} (h : t env S = .ok false S1) : mIfS t f g env S = g env S1 := by unfold mIfS; rw [h] <;> rfl
theorem set_ok {t : TF} {a : EF} {env e1 : Ev} {S S1 : Sto} {v : Va} (h : a env S = .ok v S1) (ht : t v env S1 = some e1) : mSet t a env S = .ok (.nx e1) S1 := by
  unfold mSet
  rw [h]
  show (match t v env S1 with | some env' => R.ok (Fl.nx env') S1 | none => .bad) = _
  rw [ht]
theorem ret_ok {a : EF} {env : Ev} {S S1 : Sto} {v : Va} (h : a env S = .ok v S1) : mRet a env S = .ok (.rt v) S1 := by unfold mRet; rw [h] <;> rfl
theorem exp_ok {a : EF} {env : Ev} {S S1 : Sto} {v : Va} (h : a env S = .ok v S1) : mExpr a env S = .ok (.nx env) S1 := by unfold mExpr; rw [h] <;> rfl
theorem bind_ok {α β : Type} {a : α} {S : Sto} {k : α → Sto → R β} : R.bind (.ok a S) k = k a S := rfl
theorem callF_succ {P : Nat → Option Df} {d j : Nat} {args : List Va} {S : Sto} {df : Df} (h : P j = some df) (hl : Nat.beq args.length df.np = true) : callF P (d + 1) j args S = runB (df.body (callF P d) (startE df.ns args) S) := by
  show (match P j with | some df => (match Nat.beq args.length df.np with | true => runB (df.body (callF P d) (startE df.ns args) S) | false => .bad) | none => .bad) = _
  rw [h]
  show (match Nat.beq args.length df.np with | true => runB (df.body (callF P d) (startE df.ns args) S) | false => .bad) = _
  rw [hl]

/-! ### loops by an invariant -/
/-- what a body's turn may come to -/
def TurnOk (I : Ev → Sto → Prop) (Qr : Va → Sto → Prop) (r : R Fl) : Prop := match r with
  | .ok (.nx e) S => I e S
  | .ok (.ct e) S => I e S
  | .ok (.rt v) S => Qr v S
  | _ => False
def LoopOk (I : Ev → Sto → Prop) (Qr : Va → Sto → Prop) (r : R Fl) : Prop := match r with
  | .ok (.nx e) S => I e S
  | .ok (.rt v) S => Qr v S
  | _ => False
theorem loop_inv {m : MI} {t : TF} {body : SF} {n : Nat} (I : Nat → Ev → Sto → Prop) (Qr : Va → Sto → Prop)
    (step : ∀ i env S, i < n → I i env S → ∃ v env1, m.nx i S = some (some v) ∧ t v env S = some env1 ∧ TurnOk (I (i + 1)) Qr (body env1 S))
    (stop : ∀ env S, I n env S → m.nx n S = some none) :
    ∀ (k i f : Nat) (env : Ev) (S : Sto), i + k = n → k < f → I i env S → LoopOk (I n) Qr (loopF m t body f i env S)
  | 0, i, f, env, S, hk, hf, hi => by
    have e : i = n := by omega
    subst e
    cases f with
    | zero => omega
    | succ f =>
      show LoopOk _ _ (match m.nx i S with | none => .bad | some none => .ok (.nx env) S | some (some v) => _)
      rw [stop env S hi]
      exact hi
  | k + 1, i, f, env, S, hk, hf, hi => by
    cases f with
    | zero => omega
    | succ f =>
      obtain ⟨v, env1, h1, h2, h3⟩ := step i env S (by omega) hi
      show LoopOk _ _ (match m.nx i S with | none => .bad | some none => .ok (.nx env) S | some (some v) => (match t v env S with | none => .bad | some env1 => (match body env1 S with | .ok (.nx env2) S2 => loopF m t body f (i + 1) env2 S2 | .ok (.ct env2) S2 => loopF m t body f (i + 1) env2 S2 | .ok (.bk env2) S2 => .ok (.nx env2) S2 | .ok (.rt v) S2 => .ok (.rt v) S2 | .bad => .bad)))
      rw [h1]
      show LoopOk _ _ (match t v env S with | none => .bad | some env1 => (match body env1 S with | .ok (.nx env2) S2 => loopF m t body f (i + 1) env2 S2 | .ok (.ct env2) S2 => loopF m t body f (i + 1) env2 S2 | .ok (.bk env2) S2 => .ok (.nx env2) S2 | .ok (.rt v) S2 => .ok (.rt v) S2 | .bad => .bad))
      rw [h2]
      show LoopOk _ _ (match body env1 S with | .ok (.nx env2) S2 => loopF m t body f (i + 1) env2 S2 | .ok (.ct env2) S2 => loopF m t body f (i + 1) env2 S2 | .ok (.bk env2) S2 => .ok (.nx env2) S2 | .ok (.rt v) S2 => .ok (.rt v) S2 | .bad => .bad)
      cases q : body env1 S with
      | bad => rw [q] at h3; exact h3.elim
      | ok fl S2 =>
        rw [q] at h3
        cases fl with
        | nx e => exact loop_inv I Qr step stop k (i + 1) f e S2 (by omega) (by omega) h3
        | ct e => exact loop_inv I Qr step stop k (i + 1) f e S2 (by omega) (by omega) h3
        | rt v => exact h3
        | bk e => exact h3.elim
/-- for over a range -/
theorem for_rng {fi : IF} {t : TF} {body : SF} {env : Ev} {S : Sto} {lo : Int} {n : Nat} (I : Nat → Ev → Sto → Prop) (Qr : Va → Sto → Prop) (hf : fi env S = .ok (miN lo n) S)
    (h0 : I 0 env S) (step : ∀ i env S, i < n → I i env S → ∃ env1, t (.int (lo + i)) env S = some env1 ∧ TurnOk (I (i + 1)) Qr (body env1 S)) : LoopOk (I n) Qr (mFor fi t body env S) := by
  unfold mFor
  rw [hf]
  refine loop_inv (m := miN lo n) I Qr (fun i env S hi h => ?_) (fun env S h => ?_) n 0 _ env S (by omega) (Nat.lt_succ_self _) h0
  · obtain ⟨e1, h1, h2⟩ := step i env S hi h
    refine ⟨_, e1, ?_, h1, h2⟩
    show (match Nat.blt i n with | true => some (some (Va.int (lo + i))) | false => some none) = _
    rw [bltT hi]
  · show (match Nat.blt n n with | true => some (some (Va.int (lo + n))) | false => some none) = _
    rw [bltF (Nat.lt_irrefl n)]
/-- for over items known at the start -/
theorem for_items {fi : IF} {t : TF} {body : SF} {env : Ev} {S S1 : Sto} {xs : List Va} (I : Nat → Ev → Sto → Prop) (Qr : Va → Sto → Prop) (hf : fi env S = .ok (miL xs) S1)
    (h0 : I 0 env S1) (step : ∀ i v env S, xs[i]? = some v → I i env S → ∃ env1, t v env S = some env1 ∧ TurnOk (I (i + 1)) Qr (body env1 S)) : LoopOk (I xs.length) Qr (mFor fi t body env S) := by
  unfold mFor
  rw [hf]
  refine loop_inv (m := miL xs) I Qr (fun i env S hi h => ?_) (fun env S h => ?_) xs.length 0 _ env S1 (by omega) (Nat.lt_succ_self _) h0
  · obtain ⟨e1, h1, h2⟩ := step i xs[i] env S (List.getElem?_eq_getElem hi) h
    exact ⟨_, e1, by show some xs[i]? = _; rw [List.getElem?_eq_getElem hi], h1, h2⟩
  · show some xs[xs.length]? = _
    rw [List.getElem?_eq_none_iff.mpr (Nat.le_refl _)]
/-- for over a list that stays as it is -/
theorem for_list' {fi : IF} {t : TF} {body : SF} {env : Ev} {S S1 : Sto} {a : Nat} {xs : List Va} (I : Nat → Ev → Sto → Prop) (Qr : Va → Sto → Prop) (hf : fi env S = .ok (miR a xs.length) S1)
    (h0 : I 0 env S1) (hl : ∀ i env S, I i env S → S.get a = some (.lst xs)) (step : ∀ i v env S, xs[i]? = some v → I i env S → ∃ env1, t v env S = some env1 ∧ TurnOk (I (i + 1)) Qr (body env1 S)) : LoopOk (I xs.length) Qr (mFor fi t body env S) := by
  unfold mFor
  rw [hf]
  refine loop_inv (m := miR a xs.length) I Qr (fun i env S hi h => ?_) (fun env S h => ?_) xs.length 0 _ env S1 (by omega) (Nat.lt_succ_self _) h0
  · obtain ⟨e1, h1, h2⟩ := step i xs[i] env S (List.getElem?_eq_getElem hi) h
    refine ⟨_, e1, ?_, h1, h2⟩
    show (match S.get a with | some (.lst ys) => some ys[i]? | _ => none) = _
    rw [hl i env S h]
    show some xs[i]? = _
    rw [List.getElem?_eq_getElem hi]
  · show (match S.get a with | some (.lst ys) => some ys[xs.length]? | _ => none) = _
    rw [hl _ env S h]
    show some xs[xs.length]? = _
    rw [List.getElem?_eq_none_iff.mpr (Nat.le_refl _)]
/-- a list comprehension whose element makes a value (the store may grow) -/
theorem lc_inv {m : MI} {t : TF} {cond : BF} {elt : EF} {D : Nat} {env : Ev} {n : Nat} (I : Nat → List Va → Sto → Prop)
    (hD : ∀ i acc S, I i acc S → S.get D = some (.lst acc) ∧ acc.length ≤ i) (hn : n ≤ 1000000)
    (step : ∀ i acc S, i < n → I i acc S → ∃ v env1, m.nx i S = some (some v) ∧ t v env S = some env1 ∧
      ((∃ S1, cond env1 S = .ok false S1 ∧ I (i + 1) acc S1) ∨ ∃ S1 y S2, cond env1 S = .ok true S1 ∧ elt env1 S1 = .ok y S2 ∧ S2.get D = some (.lst acc) ∧ I (i + 1) (acc ++ [y]) (S2.set D (.lst (acc ++ [y])))))
    (stop : ∀ acc S, I n acc S → m.nx n S = some none) :
    ∀ (k i f : Nat) (acc : List Va) (S : Sto), i + k = n → k < f → I i acc S → ∃ acc' S', loopC m t cond elt D env f i S = .ok (.ref D) S' ∧ I n acc' S'
  | 0, i, f, acc, S, hk, hf, hi => by
    have e : i = n := by omega
    subst e
    cases f with
    | zero => omega
    | succ f =>
      refine ⟨acc, S, ?_, hi⟩
      rw [loopC, stop acc S hi]
  | k + 1, i, f, acc, S, hk, hf, hi => by
    cases f with
    | zero => omega
    | succ f =>
      obtain ⟨v, env1, h1, h2, h3⟩ := step i acc S (by omega) hi
      have hu : loopC m t cond elt D env (f + 1) i S = (cond env1 S).bind fun k S1 => match k with
          | false => loopC m t cond elt D env f (i + 1) S1
          | true => (elt env1 S1).bind fun y S2 => match S2.get D with
            | some (.lst acc) => (match Nat.blt acc.length 1000000 with | true => loopC m t cond elt D env f (i + 1) (S2.set D (.lst (acc ++ [y]))) | false => .bad)
            | _ => .bad := by
        rw [loopC, h1]
        dsimp only
        rw [h2] <;> rfl
      rw [hu]
      rcases h3 with ⟨S1, h4, h5⟩ | ⟨S1, y, S2, h4, h5, h6, h7⟩
      · rw [h4]
        exact lc_inv I hD hn step stop k (i + 1) f acc S1 (by omega) (by omega) h5
      · rw [h4]
        show ∃ acc' S', ((elt env1 S1).bind fun y S2 => match S2.get D with | some (.lst acc) => (match Nat.blt acc.length 1000000 with | true => loopC m t cond elt D env f (i + 1) (S2.set D (.lst (acc ++ [y]))) | false => .bad) | _ => .bad) = R.ok (Va.ref D) S' ∧ _
        rw [h5]
        show ∃ acc' S', (match S2.get D with | some (.lst acc) => (match Nat.blt acc.length 1000000 with | true => loopC m t cond elt D env f (i + 1) (S2.set D (.lst (acc ++ [y]))) | false => .bad) | _ => .bad) = R.ok (Va.ref D) S' ∧ _
        rw [h6]
        show ∃ acc' S', (match Nat.blt acc.length 1000000 with | true => loopC m t cond elt D env f (i + 1) (S2.set D (.lst (acc ++ [y]))) | false => .bad) = R.ok (Va.ref D) S' ∧ _
        rw [bltT (show acc.length < 1000000 by have := (hD i acc S hi).2; omega)]
        exact lc_inv I hD hn step stop k (i + 1) f _ _ (by omega) (by omega) h7
end Mi
/-! The law's draws: a bag of three numbers. -/
namespace Mi
open PySem PySem.Spec PyProof.Rows L2
def wellF (C : CO) : SF :=
  (mSeq (mIfS (mBool (mBin gGe (mVar 0) (mBin gPow (mC (.int 10)) (mC (.int 18))))) (mRet (mLst (mCons (mBin gSub (mVar 0) (mBin gPow (mC (.int 10)) (mC (.int 18)))) (mCons (mBin gMod (mVar 0) (mC (.int 2305843009213693951))) (mCons (mVar 1) mNil))))) mEnd)
    (mRet (mLst (mCons (mC (.int 0)) (mCons (mBin gMod (mVar 0) (mC (.int 2305843009213693951))) (mCons (mVar 1) mNil))))))
def takeF (C : CO) : SF :=
  (mSeq (mIfS (mBool (mBin gGt (mIx (mVar 0) (mC (.int 0))) (mC (.int 0)))) (mSeq (mSet (tNm 2) (mBin gMod (mIx (mVar 0) (mC (.int 0))) (mVar 1)))
    (mSeq (mSetIx (mVar 0) (mC (.int 0)) (mBin gDiv (mIx (mVar 0) (mC (.int 0))) (mVar 1)))
    (mRet (mVar 2)))) mEnd)
    (mSeq (mSetIx (mVar 0) (mC (.int 2)) (mBin gAdd (mIx (mVar 0) (mC (.int 2))) (mC (.int 1))))
    (mSeq (mSet (tNm 3) (mC (.int 2305843009213693951)))
    (mSeq (mSet (tNm 4) (mBin gMod (mBin gAdd (mIx (mVar 0) (mC (.int 1))) (mBin gMul (mC (.int 1000003)) (mIx (mVar 0) (mC (.int 2))))) (mVar 3)))
    (mSeq (mSet (tNm 4) (mBin gMod (mBin gAdd (mBin gAdd (mBin gMul (mVar 4) (mVar 4)) (mBin gMul (mC (.int 7919)) (mBin gPow (mIx (mVar 0) (mC (.int 2))) (mC (.int 2))))) (mC (.int 5))) (mVar 3)))
    (mRet (mBin gMod (mBin gDiv (mBin gMod (mBin gPow (mVar 4) (mC (.int 3))) (mVar 3)) (mC (.int 13))) (mVar 1))))))))
/-- at b a bag: its second number below the prime, its third at most n -/
def Bag (n : Nat) (b : Nat) (S : Sto) : Prop := ∃ x y z : Int, S.get b = some (.lst [.int x, .int y, .int z]) ∧ 0 ≤ y ∧ y < 2305843009213693951 ∧ 0 ≤ z ∧ z ≤ n
theorem Bag.lt {n b : Nat} {S : Sto} (h : Bag n b S) : b < S.n := by
  obtain ⟨x, y, z, h, _⟩ := h
  exact Sto.lt h
theorem Bag.fr {n b : Nat} {S S1 : Sto} {bs : List Nat} (h : Bag n b S) (f : Fr bs S S1) (hb : b ∉ bs) : Bag n b S1 := by
  obtain ⟨x, y, z, h, r⟩ := h
  exact ⟨x, y, z, f.at h hb, r⟩
theorem Bag.mono {n m b : Nat} {S : Sto} (h : Bag n b S) (hl : n ≤ m) : Bag m b S := by
  obtain ⟨x, y, z, h, h1, h2, h3, h4⟩ := h
  exact ⟨x, y, z, h, h1, h2, h3, by omega⟩
theorem take_ok {C : CO} {b n : Nat} {m : Int} {S : Sto} (hb : Bag n b S) (hn : n < 1000000000000) (h0 : 0 < m) (h1 : m < 1073741824) :
    ∃ r S1, runB (takeF C (startE 5 [.ref b, .int m]) S) = .ok (.int r) S1 ∧ 0 ≤ r ∧ r < m ∧ Bag (n + 1) b S1 ∧ Fr [b] S S1 := by
  obtain ⟨x, y, z, hg, y0, y1, z0, z1⟩ := hb
  have hlt := Sto.lt hg
  by_cases hx : 0 < x
  · refine ⟨x % m, S.set b (.lst [.int (x / m), .int y, .int z]), ?_, Int.emod_nonneg _ (by omega), Int.emod_lt_of_pos _ h0, ⟨x / m, y, z, Sto.get_set hlt, y0, y1, z0, by omega⟩, Fr.set S _⟩
    simp [takeF, startE, runB, mSeq, mIfS, mBool, mBin, mIx, mVar, mC, gGt, gIx, gIxO, atA, ixN, R.bind, hg, mSet, tNm, gMod, gDiv, okDiv, mSetIx, gSetIx, mRet, hx, h0, h1]
  · have hz : ¬ (0 : Int) < x := hx
    let p : Int := 2305843009213693951
    have hp : (0 : Int) < p := by decide
    have hm1 : okMul 1000003 (z + 1) = true := rfl
    let n1 : Int := (y + 1000003 * (z + 1)) % p
    have a0 : 0 ≤ n1 := Int.emod_nonneg _ (by decide)
    have a1 : n1 < p := Int.emod_lt_of_pos _ hp
    have hm2 : okMul n1 n1 = true := by
      unfold okMul
      rw [decide_eq_true (show -(2 ^ 64) < n1 by omega), decide_eq_true (show n1 < 2 ^ 64 by have : n1 < 2305843009213693951 := a1; omega)]
      rfl
    have hm3 : okPow (z + 1) 2 = true := by
      unfold okPow
      rw [decide_eq_true (show (z + 1).natAbs < 2 ^ 64 by omega)]
      rfl
    let n2 : Int := (n1 * n1 + 7919 * (z + 1) ^ (2 : Int).toNat + 5) % p
    have c0 : 0 ≤ n2 := Int.emod_nonneg _ (by decide)
    have c1 : n2 < p := Int.emod_lt_of_pos _ hp
    have hm4 : okPow n2 3 = true := by
      unfold okPow
      rw [decide_eq_true (show n2.natAbs < 2 ^ 64 by have : n2 < 2305843009213693951 := c1; omega)]
      rfl
    have hm5 : okMul 7919 ((z + 1) ^ (2 : Int).toNat) = true := rfl
    refine ⟨n2 ^ (3 : Int).toNat % p / 13 % m, S.set b (.lst [.int x, .int y, .int (z + 1)]), ?_, Int.emod_nonneg _ (by omega), Int.emod_lt_of_pos _ h0, ⟨x, y, z + 1, Sto.get_set hlt, y0, y1, by omega, by omega⟩, Fr.set S _⟩
    have e1 : (mSetIx (mVar 0) (mC (.int 2)) (mBin gAdd (mIx (mVar 0) (mC (.int 2))) (mC (.int 1)))) [some (.ref b), some (.int m), none, none, none] S = .ok (.nx [some (.ref b), some (.int m), none, none, none]) (S.set b (.lst [.int x, .int y, .int (z + 1)])) := by
      simp [mSetIx, mBin, mIx, mVar, mC, gAdd, gIx, gIxO, atA, ixN, R.bind, hg, gSetIx]
    have hg1 : (S.set b (.lst [.int x, .int y, .int (z + 1)])).get b = some (.lst [.int x, .int y, .int (z + 1)]) := Sto.get_set hlt
    generalize S.set b (.lst [.int x, .int y, .int (z + 1)]) = S1 at e1 hg1
    have e2 : (mSet (tNm 4) (mBin gMod (mBin gAdd (mIx (mVar 0) (mC (.int 1))) (mBin gMul (mC (.int 1000003)) (mIx (mVar 0) (mC (.int 2))))) (mVar 3))) [some (.ref b), some (.int m), none, some (.int p), none] S1 = .ok (.nx [some (.ref b), some (.int m), none, some (.int p), some (.int n1)]) S1 := by
      simp [mSet, tNm, mBin, mIx, mVar, mC, gAdd, gIx, gIxO, atA, ixN, R.bind, hg1, gMul, hm1, gMod, hp, n1]
    have e3 : (mSet (tNm 4) (mBin gMod (mBin gAdd (mBin gAdd (mBin gMul (mVar 4) (mVar 4)) (mBin gMul (mC (.int 7919)) (mBin gPow (mIx (mVar 0) (mC (.int 2))) (mC (.int 2))))) (mC (.int 5))) (mVar 3))) [some (.ref b), some (.int m), none, some (.int p), some (.int n1)] S1 = .ok (.nx [some (.ref b), some (.int m), none, some (.int p), some (.int n2)]) S1 := by
      have hA : atA [Va.int x, Va.int y, Va.int (z + 1)] 2 = some (.int (z + 1)) := rfl
      simp only [mSet, tNm, mBin, mIx, mVar, mC, gAdd, gIx, gIxO, hA, R.bind, hg1, gMul, hm2, gPow, hm3, hm5, gMod, hp, decide_true, List.getElem?_cons_zero, List.getElem?_cons_succ]
      rfl
    have e4 : (mRet (mBin gMod (mBin gDiv (mBin gMod (mBin gPow (mVar 4) (mC (.int 3))) (mVar 3)) (mC (.int 13))) (mVar 1))) [some (.ref b), some (.int m), none, some (.int p), some (.int n2)] S1 = .ok (.rt (.int (n2 ^ (3 : Int).toNat % p / 13 % m))) S1 := by
      have hd : okDiv 13 = true := by decide
      simp only [mRet, mBin, mVar, mC, R.bind, gPow, hm4, gMod, gDiv, hp, h0, hd, decide_true, List.getElem?_cons_zero, List.getElem?_cons_succ]
    have e0 : (mIfS (mBool (mBin gGt (mIx (mVar 0) (mC (.int 0))) (mC (.int 0)))) (mSeq (mSet (tNm 2) (mBin gMod (mIx (mVar 0) (mC (.int 0))) (mVar 1)))
    (mSeq (mSetIx (mVar 0) (mC (.int 0)) (mBin gDiv (mIx (mVar 0) (mC (.int 0))) (mVar 1)))
    (mRet (mVar 2)))) mEnd) [some (.ref b), some (.int m), none, none, none] S = .ok (.nx [some (.ref b), some (.int m), none, none, none]) S := by
      simp [mIfS, mBool, mBin, mIx, mVar, mC, gGt, gIx, gIxO, atA, ixN, R.bind, hg, hz, mEnd]
    show runB (takeF C [some (.ref b), some (.int m), none, none, none] S) = _
    unfold takeF
    rw [seq_nx e0, seq_nx e1, seq_nx (set_ok (v := .int p) rfl rfl)]
    show runB (mSeq _ _ [some (.ref b), some (.int m), none, some (.int p), none] S1) = _
    rw [seq_nx e2, seq_nx e3, e4]
    rfl

/-! ### bags -/
def wellX (c : Int) : Int := if 1000000000000000000 ≤ c then c - 1000000000000000000 else 0
theorem well_ok {C : CO} {c t : Int} {S : Sto} : runB (wellF C (startE 2 [.int c, .int t]) S) = .ok (.ref S.n) (S.new (.lst [.int (wellX c), .int (c % 2305843009213693951), .int t])) := by
  have hp : okPow 10 18 = true := by decide
  have e18 : (10 : Int) ^ (18 : Int).toNat = 1000000000000000000 := by decide
  by_cases h : 1000000000000000000 ≤ c
  · unfold wellX
    simp [wellF, startE, runB, mSeq, mIfS, mBool, mBin, mVar, mC, gGe, gPow, hp, e18, R.bind, mRet, mLst, mCons, mNil, gSub, gMod, h]
  · unfold wellX
    simp [wellF, startE, runB, mSeq, mIfS, mBool, mBin, mVar, mC, gGe, gPow, hp, e18, R.bind, mRet, mLst, mCons, mNil, gSub, gMod, h, mEnd]
def bagsF (j : Nat) (C : CO) : SF :=
  (mRet (mLc (iEnumL (mBin gAdd (mSl (mVar 0) mNoP (mPart (mVar 1))) (mLst (mCons (mC (.int 0)) mNil)))) (tTp 2 (tsCons (tNm 2) (tsCons (tNm 3) tsNil))) mYes (mCall C j (mCons (mVar 3) (mCons (mBin gMul (mC (.int 977)) (mVar 2)) mNil)) []) [2, 3]))
theorem cut_ints (ns : List Int) (lo hi : Option Int) : cutA (ns.map Va.int) lo hi = (((ns.drop (HT.sIx ns.length 0 lo)).take (HT.sIx ns.length ns.length hi - HT.sIx ns.length 0 lo)).map Va.int) := by
  unfold cutA
  rw [List.length_map, List.map_take, List.map_drop]
/-- the bags: as many as told, and one; all new, unlike -/
theorem bags_ok {C : CO} {j : Nat} (hC : ∀ (c t : Int) (S : Sto), C j [.int c, .int t] S = .ok (.ref S.n) (S.new (.lst [.int (wellX c), .int (c % 2305843009213693951), .int t]))) {ns : List Int} {m : Nat} {S : Sto} (hl : ns.length ≤ 63) (hm : m ≤ 63) :
    ∃ (L : Nat) (bs : List Nat) (S' : Sto), runB (bagsF j C (startE 4 [.fro (ns.map Va.int), .int m]) S) = .ok (.ref L) S' ∧ S'.get L = some (.lst (bs.map Va.ref)) ∧ bs.length ≤ 64 ∧ bs.Nodup ∧ (∀ b ∈ bs, L < b ∧ b < S'.n ∧ Bag 61551 b S') ∧ Fr [] S S' ∧ S.n ≤ L := by
  let cs : List Int := ((ns.drop (HT.sIx ns.length 0 none)).take (HT.sIx ns.length ns.length (some (m : Int)) - HT.sIx ns.length 0 none)) ++ [0]
  have hcs : cs.length ≤ 64 := by
    show (((ns.drop (HT.sIx ns.length 0 none)).take (HT.sIx ns.length ns.length (some (m : Int)) - HT.sIx ns.length 0 none)) ++ [0]).length ≤ 64
    rw [List.length_append, List.length_take, List.length_drop, List.length_singleton]
    omega
  let S1 : Sto := S.new (.lst (cutA (ns.map Va.int) none (some (m : Int))))
  let S2 : Sto := S1.new (.lst [.int 0])
  let S3 : Sto := S2.new (.lst (cs.map Va.int))
  have hcut : cutA (ns.map Va.int) none (some (m : Int)) ++ [.int 0] = cs.map Va.int := by
    rw [cut_ints, List.map_append] <;> rfl
  have hb : Nat.ble ((cutA (ns.map Va.int) none (some (m : Int))).length + 1) 16777216 = true := by
    have e := congrArg List.length hcut
    rw [List.length_append, List.length_map] at e
    have e2 : (cutA (ns.map Va.int) none (some (m : Int))).length + 1 = cs.length := e
    rw [e2]
    exact Nat.ble_eq_true_of_le (by omega)
  have g1 : S2.get S.n = some (.lst (cutA (ns.map Va.int) none (some (m : Int)))) := Sto.get_new_of Sto.get_new
  have g2 : S2.get S1.n = some (.lst [.int 0]) := Sto.get_new
  have g3 : S3.get S2.n = some (.lst (cs.map Va.int)) := Sto.get_new
  have e0 : iEnumL (mBin gAdd (mSl (mVar 0) mNoP (mPart (mVar 1))) (mLst (mCons (mC (.int 0)) mNil))) [some (.fro (ns.map Va.int)), some (.int m), none, none] S = .ok (miE (miR S2.n (cs.map Va.int).length)) S3 := by
    have ea : mSl (mVar 0) mNoP (mPart (mVar 1)) [some (.fro (ns.map Va.int)), some (.int m), none, none] S = .ok (.ref S.n) S1 := rfl
    have eb : mLst (mCons (mC (.int 0)) mNil) [some (.fro (ns.map Va.int)), some (.int m), none, none] S1 = .ok (.ref S1.n) S2 := rfl
    have ec : mBin gAdd (mSl (mVar 0) mNoP (mPart (mVar 1))) (mLst (mCons (mC (.int 0)) mNil)) [some (.fro (ns.map Va.int)), some (.int m), none, none] S = .ok (.ref S2.n) S3 := by
      unfold mBin
      rw [ea, bind_ok, eb, bind_ok]
      show (match S2.get S.n, S2.get S1.n with | some (.lst i), some (.lst j) => (match Nat.ble (i.length + j.length) 16777216 with | true => R.ok (Va.ref S2.n) (S2.new (.lst (i ++ j))) | false => .bad) | _, _ => .bad) = _
      rw [g1, g2]
      show (match Nat.ble ((cutA (ns.map Va.int) none (some (m : Int))).length + 1) 16777216 with | true => R.ok (Va.ref S2.n) (S2.new (.lst (cutA (ns.map Va.int) none (some (m : Int)) ++ [Va.int 0]))) | false => .bad) = _
      rw [hb, hcut]
    unfold iEnumL
    rw [ec, bind_ok]
    show (match (match S3.get S2.n with | some (.lst xs) => some (miR S2.n xs.length) | _ => none) with | some m => R.ok (miE m) S3 | none => .bad) = _
    rw [g3]
  let Lc := S3.n
  let S4 : Sto := S3.new (.lst [])
  have key := lc_inv (m := miE (miR S2.n (cs.map Va.int).length)) (t := tTp 2 (tsCons (tNm 2) (tsCons (tNm 3) tsNil))) (cond := mYes) (elt := mCall C j (mCons (mVar 3) (mCons (mBin gMul (mC (.int 977)) (mVar 2)) mNil)) []) (D := Lc)
    (env := wipeE [some (.fro (ns.map Va.int)), some (.int m), none, none] [2, 3]) (n := cs.length)
    (fun i acc S' => ∃ bs : List Nat, acc = bs.map Va.ref ∧ bs.length = i ∧ bs.Nodup ∧ S'.get Lc = some (.lst (bs.map Va.ref)) ∧ S'.get S2.n = some (.lst (cs.map Va.int)) ∧ (∀ b ∈ bs, Lc < b ∧ b < S'.n ∧ Bag 61551 b S') ∧ Fr [] S S' ∧ Lc < S'.n)
    (fun i acc S' ⟨bs, h1, h2, _, h3, _⟩ => ⟨by rw [h1]; exact h3, by rw [h1, List.length_map]; omega⟩) (by omega) ?step ?stop cs.length 0 _ [] S4 (by omega) (Nat.lt_succ_self _) ?start
  case start =>
    refine ⟨[], rfl, rfl, List.nodup_nil, Sto.get_new, Sto.get_new_of g3, fun b hb => (nomatch hb), ?_, Nat.lt_succ_self _⟩
    exact (((Fr.new [] S _).trans (Fr.new [] S1 _)).trans (Fr.new [] S2 _)).trans (Fr.new [] S3 _)
  case stop =>
    rintro acc S' ⟨bs, _, _, _, _, h5, _⟩
    show (match (match S'.get S2.n with | some (.lst xs) => some xs[cs.length]? | _ => none) with | some (some v) => some (some (Va.tup [.int (cs.length : Nat), v])) | r => r) = _
    rw [h5]
    show (match some (cs.map Va.int)[cs.length]? with | some (some v) => some (some (Va.tup [.int (cs.length : Nat), v])) | r => r) = _
    rw [List.getElem?_eq_none_iff.mpr (by rw [List.length_map]; exact Nat.le_refl _)]
  case step =>
    rintro i acc S' hi ⟨bs, h1, h2, h3, h4, h5, h6, h7, h8⟩
    have hc : (cs.map Va.int)[i]? = some (.int cs[i]) := by rw [List.getElem?_map, List.getElem?_eq_getElem hi]; rfl
    refine ⟨.tup [.int i, .int cs[i]], [some (.fro (ns.map Va.int)), some (.int m), some (.int i), some (.int cs[i])], ?_, rfl, .inr ⟨S', .ref S'.n, S'.new (.lst [.int (wellX cs[i]), .int (cs[i] % 2305843009213693951), .int (977 * i)]), rfl, ?_, ?_, bs ++ [S'.n], ?_, ?_, ?_, ?_, ?_, ?_, ?_, ?_⟩⟩
    · show (match (match S'.get S2.n with | some (.lst xs) => some xs[i]? | _ => none) with | some (some v) => some (some (Va.tup [.int (i : Nat), v])) | r => r) = _
      rw [h5]
      show (match some (cs.map Va.int)[i]? with | some (some v) => some (some (Va.tup [.int (i : Nat), v])) | r => r) = _
      rw [hc]
    · show (mCall C j (mCons (mVar 3) (mCons (mBin gMul (mC (.int 977)) (mVar 2)) mNil)) []) [some (.fro (ns.map Va.int)), some (.int m), some (.int i), some (.int cs[i])] S' = _
      have hk : okMul 977 (i : Int) = true := rfl
      have : (mCons (mVar 3) (mCons (mBin gMul (mC (.int 977)) (mVar 2)) mNil)) [some (.fro (ns.map Va.int)), some (.int m), some (.int i), some (.int cs[i])] S' = .ok [.int cs[i], .int (977 * i)] S' := by
        simp [mCons, mVar, mBin, mC, mNil, gMul, hk, R.bind]
      unfold mCall
      rw [this, bind_ok]
      exact hC _ _ _
    · rw [h1]
      exact Sto.get_new_of h4
    · rw [h1, List.map_append] <;> rfl
    · rw [List.length_append, h2] <;> rfl
    · refine List.nodup_append.mpr ⟨h3, by simp, fun a ha b hb z => ?_⟩
      have z2 : b = S'.n := by simpa using hb
      have := (h6 a ha).2.1
      omega
    · rw [h1, List.map_append]
      exact Sto.get_set (Nat.lt_succ_of_lt h8)
    · rw [Sto.get_set_ne (by show Lc ≠ S2.n; exact Nat.ne_of_gt (Nat.lt_succ_self _))]
      exact Sto.get_new_of h5
    · intro b hb
      have hne : ∀ b, Lc < b → Lc ≠ b := fun b h => Nat.ne_of_lt h
      rcases List.mem_append.mp hb with hb | hb
      · obtain ⟨q1, q2, q3⟩ := h6 b hb
        refine ⟨q1, Nat.lt_succ_of_lt q2, ?_⟩
        obtain ⟨x, y, z, g, r⟩ := q3
        exact ⟨x, y, z, by rw [Sto.get_set_ne (hne b q1)]; exact Sto.get_new_of g, r⟩
      · have e : b = S'.n := by simpa using hb
        subst e
        refine ⟨h8, Nat.lt_succ_self _, _, _, _, by rw [Sto.get_set_ne (hne _ h8)]; exact Sto.get_new, Int.emod_nonneg _ (by decide), Int.emod_lt_of_pos _ (by decide), by omega, by omega⟩
    · refine (((h7.trans (Fr.new [] S' _)).mono (cs := [Lc]) (fun _ h => nomatch h)).trans (Fr.set _ _)).old fun z hz hzl => ?_
      have ez : z = Lc := by simpa using hz
      exact absurd hzl (by
        have e : Lc = S.n + 1 + 1 + 1 := rfl
        rw [ez, e]
        omega)
    · exact Nat.lt_succ_of_lt h8
  obtain ⟨acc', S', he, bs, h1, h2, h3, h4, h5, h6, h7, h8⟩ := key
  refine ⟨Lc, bs, S', ?_, h4, by omega, h3, h6, h7, by show S.n ≤ S.n + 1 + 1 + 1; omega⟩
  show runB (bagsF j C [some (.fro (ns.map Va.int)), some (.int m), none, none] S) = _
  unfold bagsF mRet mLc
  rw [e0, bind_ok]
  have he' : loopC (miE (miR S2.n (cs.map Va.int).length)) (tTp 2 (tsCons (tNm 2) (tsCons (tNm 3) tsNil))) mYes (mCall C j (mCons (mVar 3) (mCons (mBin gMul (mC (.int 977)) (mVar 2)) mNil)) []) Lc (wipeE [some (.fro (ns.map Va.int)), some (.int m), none, none] [2, 3]) ((miE (miR S2.n (cs.map Va.int).length)).bound + 1) 0 S4 = .ok (.ref Lc) S' := by
    rw [show (miE (miR S2.n (cs.map Va.int).length)).bound = cs.length by show (cs.map Va.int).length = _; rw [List.length_map]]
    exact he
  show runB (R.bind (loopC (miE (miR S2.n (cs.map Va.int).length)) (tTp 2 (tsCons (tNm 2) (tsCons (tNm 3) tsNil))) mYes (mCall C j (mCons (mVar 3) (mCons (mBin gMul (mC (.int 977)) (mVar 2)) mNil)) []) Lc (wipeE [some (.fro (ns.map Va.int)), some (.int m), none, none] [2, 3]) ((miE (miR S2.n (cs.map Va.int).length)).bound + 1) 0 S4) _) = _
  rw [he']
  rfl
end Mi
namespace Pg
open PySem PySem.Spec PyProof.Rows L2 Mi
def top (i : Nat) : Stmt := PySem.Challenge.pw_faultward_k84_whole_calls_through_gates.main.body.getD i (.Pass ⟨0, 0, 0, 0⟩)
/-! ### texts -/
def s0 : Str := ⟨#[97, 115, 107]⟩
theorem s0_eq : ("ask" : Str) = s0 := by decide +kernel
def s1 : Str := ⟨#[115, 104, 117, 116]⟩
theorem s1_eq : ("shut" : Str) = s1 := by decide +kernel
def s2 : Str := ⟨#[97, 106, 97, 114]⟩
theorem s2_eq : ("ajar" : Str) = s2 := by decide +kernel
def s3 : Str := ⟨#[111, 112, 101, 110]⟩
theorem s3_eq : ("open" : Str) = s3 := by decide +kernel
def s4 : Str := ⟨#[103, 111, 111, 100]⟩
theorem s4_eq : ("good" : Str) = s4 := by decide +kernel
def s5 : Str := ⟨#[98, 97, 100]⟩
theorem s5_eq : ("bad" : Str) = s5 := by decide +kernel
def s6 : Str := ⟨#[95, 95, 105, 110, 105, 116, 95, 95]⟩
theorem s6_eq : ("__init__" : Str) = s6 := by decide +kernel
/-! ### tables -/
def fields_0 : List (Str) := ["until", "most", "price", "held", "called", "retried", "limit", "rest", "clock", "row", "out", "rows"]
def fields : List (Str) := fields_0
def cnames_0 : List (Str) := ["Budget", "Gate"]
def cnames : List (Str) := cnames_0
def naL_0 : List (Nat × Nat) := [(0, 1), (0, 2), (0, 3), (0, 4), (0, 5), (1, 6), (1, 7), (1, 8), (1, 9), (1, 0), (1, 10), (1, 11)]
def naL : List (Nat × Nat) := naL_0
def na : Nat → Nat → Bool := fun c j => inL2 c j naL
def mths_0 : List (Nat × Str × Nat) := [(0, "counts", 7), (1, "log", 14), (1, "state", 11), (1, "go_to", 10), (1, "end", 13), (1, "ask", 12), (0, "again", 6), (0, "may", 5), (0, "call", 4)]
def mths : List (Nat × Str × Nat) := mths_0
def frees_0 : List (Str) := ["len", "range", "list", "enumerate", "min", "isinstance", "bool", "int"]
def frees : List (Str) := frees_0
def cvs_0 : List (Str × Va) := [("MOST_LIMIT", .int 1000), ("MOST_TIME", .int 1000000000)]
def cvs : List (Str × Va) := cvs_0
def fats_0 : List (Str × Option Str) := [("Shut", some "__init__"), ("is_whole", none), ("is_within", none), ("Budget", some "__init__"), ("Budget", some "call"), ("Budget", some "may"), ("Budget", some "again"), ("Budget", some "counts"), ("Budget", some "__eq__"), ("Gate", some "__init__"), ("Gate", some "go_to"), ("Gate", some "state"), ("Gate", some "ask"), ("Gate", some "end"), ("Gate", some "log"), ("Gate", some "__eq__"), ("Gate", some "parts"), ("_law_well", none), ("_law_take", none), ("_law_bags", none)]
def fats_1 : List (Str × Option Str) := [("_law_call", none), ("law", none)]
def fats : List (Str × Option Str) := fats_0 ++ fats_1
def dxs_0 : List (Nat × List Va) := [(3, [.non])]
def dxs : List (Nat × List Va) := dxs_0
def inits_0 : List (Nat) := [3, 9]
def inits : List (Nat) := inits_0
def has_0 : List (Nat) := [1, 2, 3, 4, 5, 6, 7, 9, 10, 11, 12, 13, 14, 17, 18, 19, 20, 21]
def has : List (Nat) := has_0
def D : Dt := ⟨fields, cnames, naL, mths, frees, cvs, fats, dxs, inits, has⟩
abbrev G0 (K : PySem.W.Frag) : Cf := D.G K
abbrev T0 (K : PySem.W.Frag) : Tab := D.T K
theorem D_ok : D.check = true := by decide +kernel
/-! ### the defs -/
/-! 1 is_whole -/
def N1 : List Str := ["thing"]
def ps1 : List Str := ["thing"]
def f1 (C : CO) : SF :=
  (mRet (mAndV (mIsi isTInt (mVar 0)) (mNotV (mIsi isTBool (mVar 0)))))
/-! 2 is_within -/
def N2 : List Str := ["thing", "low", "high"]
def ps2 : List Str := ["thing", "low", "high"]
def f2 (C : CO) : SF :=
  (mRet (mAndV (mCall C 1 (mCons (mVar 0) mNil) []) (mChain gLe gLe (mVar 1) (mVar 0) (mVar 2))))
/-! 3 Budget.__init__ -/
def N3 : List Str := ["self", "most", "price", "start"]
def ps3 : List Str := ["self", "most", "price", "start"]
def f3 (C : CO) : SF :=
  (mSeq (mIfS (mOrB (mNotB (mTru (mCall C 2 (mCons (mVar 1) (mCons (mC (.int 1)) (mCons (mC (.int 1000)) mNil))) []))) (mNotB (mTru (mCall C 2 (mCons (mVar 2) (mCons (mC (.int 1)) (mCons (mVar 1) mNil))) [])))) mNever mEnd)
    (mSeq (mIfS (mAndB (mBool (mBin gNotN (mVar 3) (mC .non))) (mNotB (mTru (mCall C 2 (mCons (mVar 3) (mCons (mC (.int 0)) (mCons (mVar 1) mNil))) [])))) mNever mEnd)
    (mSeq (mSetFld na 1 (mVar 0) (mVar 1))
    (mSeq (mSetFld na 2 (mVar 0) (mVar 2))
    (mSeq (mSetFld na 3 (mVar 0) (mIf (mBool (mBin gIsN (mVar 3) (mC .non))) (mVar 1) (mVar 3)))
    (mSeq (mSetFld na 4 (mVar 0) (mC (.int 0)))
    (mSetFld na 5 (mVar 0) (mC (.int 0)))))))))
/-! 4 Budget.call -/
def N4 : List Str := ["self"]
def ps4 : List Str := ["self"]
def f4 (C : CO) : SF :=
  (mSeq (mSetFld na 4 (mVar 0) (mBin gAdd (mFld 4 (mVar 0)) (mC (.int 1))))
    (mSetFld na 3 (mVar 0) (mBi gMin2 (mCons (mFld 1 (mVar 0)) (mCons (mBin gAdd (mFld 3 (mVar 0)) (mC (.int 1))) mNil)))))
/-! 5 Budget.may -/
def N5 : List Str := ["self"]
def ps5 : List Str := ["self"]
def f5 (C : CO) : SF :=
  (mRet (mBin gGe (mFld 3 (mVar 0)) (mFld 2 (mVar 0))))
/-! 6 Budget.again -/
def N6 : List Str := ["self"]
def ps6 : List Str := ["self"]
def f6 (C : CO) : SF :=
  (mSeq (mIfS (mNotB (mTru (mMeth C (M1 0 5 []) (mVar 0) mNil))) mNever mEnd)
    (mSeq (mSetFld na 3 (mVar 0) (mBin gSub (mFld 3 (mVar 0)) (mFld 2 (mVar 0))))
    (mSetFld na 5 (mVar 0) (mBin gAdd (mFld 5 (mVar 0)) (mC (.int 1))))))
/-! 7 Budget.counts -/
def N7 : List Str := ["self"]
def ps7 : List Str := ["self"]
def f7 (C : CO) : SF :=
  (mRet (mTup (mCons (mFld 3 (mVar 0)) (mCons (mFld 4 (mVar 0)) (mCons (mFld 5 (mVar 0)) mNil)))))
/-! 9 Gate.__init__ -/
def N9 : List Str := ["self", "limit", "rest"]
def ps9 : List Str := ["self", "limit", "rest"]
def f9 (C : CO) : SF :=
  (mSeq (mIfS (mOrB (mNotB (mTru (mCall C 2 (mCons (mVar 1) (mCons (mC (.int 1)) (mCons (mC (.int 1000)) mNil))) []))) (mNotB (mTru (mCall C 2 (mCons (mVar 2) (mCons (mC (.int 1)) (mCons (mC (.int 1000)) mNil))) [])))) mNever mEnd)
    (mSeq (mSetFld na 6 (mVar 0) (mVar 1))
    (mSeq (mSetFld na 7 (mVar 0) (mVar 2))
    (mSeq (mSetFld na 8 (mVar 0) (mC (.int 0)))
    (mSeq (mSetFld na 9 (mVar 0) (mC (.int 0)))
    (mSeq (mSetFld na 0 (mVar 0) (mC .non))
    (mSeq (mSetFld na 10 (mVar 0) (mC (.bl false)))
    (mSetFld na 11 (mVar 0) (mLst mNil)))))))))
/-! 10 Gate.go_to -/
def N10 : List Str := ["self", "time"]
def ps10 : List Str := ["self", "time"]
def f10 (C : CO) : SF :=
  (mSeq (mIfS (mNotB (mTru (mCall C 2 (mCons (mVar 1) (mCons (mFld 8 (mVar 0)) (mCons (mC (.int 1000000000)) mNil))) []))) mNever mEnd)
    (mSetFld na 8 (mVar 0) (mVar 1)))
/-! 11 Gate.state -/
def N11 : List Str := ["self"]
def ps11 : List Str := ["self"]
def f11 (C : CO) : SF :=
  (mSeq (mIfS (mBool (mBin gIsN (mFld 0 (mVar 0)) (mC .non))) (mRet (mC (.str s3))) mEnd)
    (mRet (mIf (mBool (mBin gLt (mFld 8 (mVar 0)) (mFld 0 (mVar 0)))) (mC (.str s1)) (mC (.str s2)))))
/-! 12 Gate.ask -/
def N12 : List Str := ["self"]
def ps12 : List Str := ["self"]
def f12 (C : CO) : SF :=
  (mSeq (mIfS (mOrB (mBool (mBin gEq (mMeth C (M1 1 11 []) (mVar 0) mNil) (mC (.str s1)))) (mAndB (mBool (mBin gEq (mMeth C (M1 1 11 []) (mVar 0) mNil) (mC (.str s2)))) (mTru (mFld 10 (mVar 0))))) mNever mEnd)
    (mSeq (mSetFld na 10 (mVar 0) (mC (.bl true)))
    (mExpr (mBm .list gAppend (mFld 11 (mVar 0)) (mCons (mTup (mCons (mFld 8 (mVar 0)) (mCons (mC (.str s0)) mNil))) mNil)))))
/-! 13 Gate.end -/
def N13 : List Str := ["self", "good"]
def ps13 : List Str := ["self", "good"]
def f13 (C : CO) : SF :=
  (mSeq (mIfS (mNotB (mTru (mFld 10 (mVar 0)))) mNever mEnd)
    (mSeq (mSetFld na 10 (mVar 0) (mC (.bl false)))
    (mSeq (mExpr (mBm .list gAppend (mFld 11 (mVar 0)) (mCons (mTup (mCons (mFld 8 (mVar 0)) (mCons (mIf (mTru (mVar 1)) (mC (.str s4)) (mC (.str s5))) mNil))) mNil)))
    (mIfS (mTru (mVar 1)) (mSeq (mSetFld na 9 (mVar 0) (mC (.int 0)))
    (mSetFld na 0 (mVar 0) (mC .non))) (mSeq (mSetFld na 9 (mVar 0) (mBin gAdd (mFld 9 (mVar 0)) (mC (.int 1))))
    (mIfS (mOrB (mBool (mBin gNotN (mFld 0 (mVar 0)) (mC .non))) (mBool (mBin gGe (mFld 9 (mVar 0)) (mFld 6 (mVar 0))))) (mSeq (mSetFld na 0 (mVar 0) (mBin gAdd (mFld 8 (mVar 0)) (mFld 7 (mVar 0))))
    (mSetFld na 9 (mVar 0) (mC (.int 0)))) mEnd))))))
/-! 14 Gate.log -/
def N14 : List Str := ["self"]
def ps14 : List Str := ["self"]
def f14 (C : CO) : SF :=
  (mRet (mBi gList (mCons (mFld 11 (mVar 0)) mNil)))
/-! 17 _law_well -/
def N17 : List Str := ["cell", "turn"]
def ps17 : List Str := ["cell", "turn"]
def f17 (C : CO) : SF :=
  (mSeq (mIfS (mBool (mBin gGe (mVar 0) (mBin gPow (mC (.int 10)) (mC (.int 18))))) (mRet (mLst (mCons (mBin gSub (mVar 0) (mBin gPow (mC (.int 10)) (mC (.int 18)))) (mCons (mBin gMod (mVar 0) (mC (.int 2305843009213693951))) (mCons (mVar 1) mNil))))) mEnd)
    (mRet (mLst (mCons (mC (.int 0)) (mCons (mBin gMod (mVar 0) (mC (.int 2305843009213693951))) (mCons (mVar 1) mNil))))))
/-! 18 _law_take -/
def N18 : List Str := ["bag", "many", "found", "p", "n"]
def ps18 : List Str := ["bag", "many"]
def f18 (C : CO) : SF :=
  (mSeq (mIfS (mBool (mBin gGt (mIx (mVar 0) (mC (.int 0))) (mC (.int 0)))) (mSeq (mSet (tNm 2) (mBin gMod (mIx (mVar 0) (mC (.int 0))) (mVar 1)))
    (mSeq (mSetIx (mVar 0) (mC (.int 0)) (mBin gDiv (mIx (mVar 0) (mC (.int 0))) (mVar 1)))
    (mRet (mVar 2)))) mEnd)
    (mSeq (mSetIx (mVar 0) (mC (.int 2)) (mBin gAdd (mIx (mVar 0) (mC (.int 2))) (mC (.int 1))))
    (mSeq (mSet (tNm 3) (mC (.int 2305843009213693951)))
    (mSeq (mSet (tNm 4) (mBin gMod (mBin gAdd (mIx (mVar 0) (mC (.int 1))) (mBin gMul (mC (.int 1000003)) (mIx (mVar 0) (mC (.int 2))))) (mVar 3)))
    (mSeq (mSet (tNm 4) (mBin gMod (mBin gAdd (mBin gAdd (mBin gMul (mVar 4) (mVar 4)) (mBin gMul (mC (.int 7919)) (mBin gPow (mIx (mVar 0) (mC (.int 2))) (mC (.int 2))))) (mC (.int 5))) (mVar 3)))
    (mRet (mBin gMod (mBin gDiv (mBin gMod (mBin gPow (mVar 4) (mC (.int 3))) (mVar 3)) (mC (.int 13))) (mVar 1))))))))
/-! 19 _law_bags -/
def N19 : List Str := ["script", "most", "k", "cell"]
def ps19 : List Str := ["script", "most"]
def f19 (C : CO) : SF :=
  (mRet (mLc (iEnumL (mBin gAdd (mSl (mVar 0) mNoP (mPart (mVar 1))) (mLst (mCons (mC (.int 0)) mNil)))) (tTp 2 (tsCons (tNm 2) (tsCons (tNm 3) tsNil))) mYes (mCall C 17 (mCons (mVar 3) (mCons (mBin gMul (mC (.int 977)) (mVar 2)) mNil)) []) [2, 3]))
/-! 20 _law_call -/
def N20 : List Str := ["gate", "budget", "good", "found", "attempt"]
def ps20 : List Str := ["gate", "budget", "good"]
def f20 (C : CO) : SF :=
  (mSeq (mExpr (mMeth C (M1 0 4 []) (mVar 1) mNil))
    (mSeq (mSet (tNm 3) (mC (.int 0)))
    (mSeq (mFor (iRange1 (mCons (mC (.int 4)) mNil)) (tNm 4) (mSeq (mIfS (mOrB (mBool (mBin gEq (mMeth C (M1 1 11 []) (mVar 0) mNil) (mC (.str s1)))) (mAndB (mBool (mBin gGt (mVar 4) (mC (.int 0)))) (mNotB (mTru (mMeth C (M1 0 5 []) (mVar 1) mNil))))) (mRet (mVar 3)) mEnd)
    (mSeq (mIfS (mBool (mBin gGt (mVar 4) (mC (.int 0)))) (mExpr (mMeth C (M1 0 6 []) (mVar 1) mNil)) mEnd)
    (mSeq (mExpr (mMeth C (M1 1 12 []) (mVar 0) mNil))
    (mSeq (mExpr (mMeth C (M1 1 13 []) (mVar 0) (mCons (mVar 2) mNil)))
    (mSeq (mSet (tNm 3) (mBin gAdd (mVar 3) (mC (.int 1))))
    (mIfS (mTru (mVar 2)) (mRet (mVar 3)) mEnd)))))))
    (mRet (mVar 3)))))
/-! 21 law -/
def N21 : List Str := ["script", "bag", "limit", "rest", "price", "gate", "budget", "now", "good", "since", "turn", "before", "found", "some", "row"]
def ps21 : List Str := ["script"]
def f21 (C : CO) : SF :=
  (mSeq (mFor (iSeq (mCall C 19 (mCons (mVar 0) (mCons (mC (.int 6)) mNil)) [])) (tNm 1) (mSeq (mPar 2 3 (mCons (mBin gAdd (mC (.int 1)) (mCall C 18 (mCons (mVar 1) (mCons (mC (.int 5)) mNil)) [])) (mCons (mBin gAdd (mC (.int 1)) (mCall C 18 (mCons (mVar 1) (mCons (mC (.int 20)) mNil)) [])) mNil)))
    (mSeq (mSet (tNm 4) (mBin gAdd (mC (.int 1)) (mCall C 18 (mCons (mVar 1) (mCons (mC (.int 4)) mNil)) [])))
    (mSeq (mPar 5 6 (mCons (mMake C 1 9 (mCons (mVar 2) (mCons (mVar 3) mNil)) []) (mCons (mMake C 0 3 (mCons (mC (.int 10)) (mCons (mVar 4) mNil)) [.non]) mNil)))
    (mSeq (mSet (tNm 7) (mC (.int 0)))
    (mSeq (mSet (tNm 8) (mC (.bl true)))
    (mSeq (mSet (tNm 9) (mC (.int 0)))
    (mSeq (mFor (iRange1 (mCons (mC (.int 200)) mNil)) (tNm 10) (mSeq (mSet (tNm 7) (mBin gAdd (mBin gAdd (mVar 7) (mC (.int 1))) (mCall C 18 (mCons (mVar 1) (mCons (mC (.int 3)) mNil)) [])))
    (mSeq (mExpr (mMeth C (M1 1 10 []) (mVar 5) (mCons (mVar 7) mNil)))
    (mSeq (mIfS (mBool (mBin gEq (mCall C 18 (mCons (mVar 1) (mCons (mC (.int 12)) mNil)) []) (mC (.int 0)))) (mSeq (mSet (tNm 8) (mNotV (mVar 8)))
    (mSet (tNm 9) (mVar 7))) mEnd)
    (mSeq (mSet (tNm 11) (mMeth C (M1 1 11 []) (mVar 5) mNil))
    (mSeq (mSet (tNm 12) (mCall C 20 (mCons (mVar 5) (mCons (mVar 6) (mCons (mVar 8) mNil))) []))
    (mSeq (mIfS (mBool (mBin gNe (mBin gEq (mVar 12) (mC (.int 0))) (mBin gEq (mVar 11) (mC (.str s1))))) (mRet (mC (.bl false))) mEnd)
    (mSeq (mIfS (mAndB (mTru (mVar 8)) (mAndB (mBool (mBin gNe (mVar 11) (mC (.str s1)))) (mOrB (mBool (mBin gNe (mVar 12) (mC (.int 1)))) (mBool (mBin gNe (mMeth C (M1 1 11 []) (mVar 5) mNil) (mC (.str s3))))))) (mRet (mC (.bl false))) mEnd)
    (mSeq (mIfS (mAndB (mTru (mVar 8)) (mAndB (mBool (mBin gGt (mVar 7) (mBin gAdd (mVar 9) (mVar 3)))) (mBool (mBin gNe (mMeth C (M1 1 11 []) (mVar 5) mNil) (mC (.str s3)))))) (mRet (mC (.bl false))) mEnd)
    (mSeq (mIfS (mAndB (mNotB (mTru (mVar 8))) (mAndB (mBool (mBin gEq (mVar 11) (mC (.str s2)))) (mOrB (mBool (mBin gNe (mVar 12) (mC (.int 1)))) (mBool (mBin gNe (mMeth C (M1 1 11 []) (mVar 5) mNil) (mC (.str s1))))))) (mRet (mC (.bl false))) mEnd)
    (mIfS (mBool (mBin gGt (mBin gMul (mIx (mMeth C (M1 0 7 []) (mVar 6) mNil) (mC (.int 2))) (mVar 4)) (mBin gAdd (mBin gAdd (mC (.int 10)) (mVar 10)) (mC (.int 1))))) (mRet (mC (.bl false))) mEnd)))))))))))
    (mSeq (mSet (tNm 13) (mLc (iSeq (mMeth C (M1 1 14 []) (mVar 5) mNil)) (tNm 14) (mBool (mBin gEq (mIx (mVar 14) (mC (.int 1))) (mC (.str s0)))) (mVar 14) [14]))
    (mIfS (mOrB (mBool (mBin gNe (mBin gMul (mBi gLen (mCons (mVar 13) mNil)) (mC (.int 2))) (mBi gLen (mCons (mMeth C (M1 1 14 []) (mVar 5) mNil) mNil)))) (mBool (mBin gNe (mIx (mMeth C (M1 0 7 []) (mVar 6) mNil) (mC (.int 1))) (mC (.int 200))))) (mRet (mC (.bl false))) mEnd))))))))))
    (mRet (mC (.bl true))))
def prog : Nat → Option Df
  | 1 => some ⟨1, 1, f1⟩
  | 2 => some ⟨3, 3, f2⟩
  | 3 => some ⟨4, 4, f3⟩
  | 4 => some ⟨1, 1, f4⟩
  | 5 => some ⟨1, 1, f5⟩
  | 6 => some ⟨1, 1, f6⟩
  | 7 => some ⟨1, 1, f7⟩
  | 9 => some ⟨3, 3, f9⟩
  | 10 => some ⟨2, 2, f10⟩
  | 11 => some ⟨1, 1, f11⟩
  | 12 => some ⟨1, 1, f12⟩
  | 13 => some ⟨2, 2, f13⟩
  | 14 => some ⟨1, 1, f14⟩
  | 17 => some ⟨2, 2, f17⟩
  | 18 => some ⟨2, 5, f18⟩
  | 19 => some ⟨2, 4, f19⟩
  | 20 => some ⟨3, 5, f20⟩
  | 21 => some ⟨1, 15, f21⟩
  | _ => none
section
variable {P : Program} {w : World} {K : PySem.W.Frag} {mg : Str → Option Value}
theorem sc1 : FnScope N1 ps1 (defScope (top 9)) := ⟨rfl, rfl, rfl, by decide +kernel, rfl, by decide +kernel, by decide +kernel⟩
theorem b1 {base : Heap} {f : Addr} {cdv : Value} {A : Around} {outer : List Env} {s : Shared} {H : Hp} {E : XK} {C : CO} {k : Nat} (gc : GC (G0 K) (XX P w K mg base N1 "is_whole" (defScope (top 9)) f cdv A outer s H E) C k (T0 K)) :
    SSs (G0 K) (XX P w K mg base N1 "is_whole" (defScope (top 9)) f cdv A outer s H E) (defBody (top 9)) (f1 C) :=
  (ss_one (ss_ret (se_and gc.gx (se_isi gc.gx isTInt_ok rfl (gc.fr 5 _ rfl) rfl (gc.fr 7 _ rfl) (by decide +kernel) (by decide) (by decide) (se_var (i := 0) rfl (by first | exact Or.inl rfl | exact Or.inr (Or.inl rfl) | exact Or.inr (Or.inr rfl)) (by decide) (by decide)) rfl rfl rfl) (se_one (se_not gc.gx (se_isi gc.gx isTBool_ok rfl (gc.fr 5 _ rfl) rfl (gc.fr 6 _ rfl) (by decide +kernel) (by decide) (by decide) (se_var (i := 0) rfl (by first | exact Or.inl rfl | exact Or.inr (Or.inl rfl) | exact Or.inr (Or.inr rfl)) (by decide) (by decide)) rfl rfl rfl))))))
theorem sc2 : FnScope N2 ps2 (defScope (top 10)) := ⟨rfl, rfl, rfl, by decide +kernel, rfl, by decide +kernel, by decide +kernel⟩
theorem b2 {base : Heap} {f : Addr} {cdv : Value} {A : Around} {outer : List Env} {s : Shared} {H : Hp} {E : XK} {C : CO} {k : Nat} (gc : GC (G0 K) (XX P w K mg base N2 "is_within" (defScope (top 10)) f cdv A outer s H E) C k (T0 K)) :
    SSs (G0 K) (XX P w K mg base N2 "is_within" (defScope (top 10)) f cdv A outer s H E) (defBody (top 10)) (f2 C) :=
  (ss_one (ss_ret (se_and gc.gx (se_call (j := 1) gc rfl rfl (sa_cons (se_var (i := 0) rfl (by first | exact Or.inl rfl | exact Or.inr (Or.inl rfl) | exact Or.inr (Or.inr rfl)) (by decide) (by decide)) sa_nil rfl) (by decide) rfl rfl) (se_one (se_chain ops_le ops_le (se_var (i := 1) rfl (by first | exact Or.inl rfl | exact Or.inr (Or.inl rfl) | exact Or.inr (Or.inr rfl)) (by decide) (by decide)) (se_var (i := 0) rfl (by first | exact Or.inl rfl | exact Or.inr (Or.inl rfl) | exact Or.inr (Or.inr rfl)) (by decide) (by decide)) (se_var (i := 2) rfl (by first | exact Or.inl rfl | exact Or.inr (Or.inl rfl) | exact Or.inr (Or.inr rfl)) (by decide) (by decide)) rfl rfl (fun ho ho' ha hb hc => pe_chain ho ho' ha hb hc))))))
theorem sc3 : FnScope N3 ps3 (defScope (inClass (top 14) 0)) := ⟨rfl, rfl, rfl, by decide +kernel, rfl, by decide +kernel, by decide +kernel⟩
theorem b3 {base : Heap} {f : Addr} {cdv : Value} {A : Around} {outer : List Env} {s : Shared} {H : Hp} {E : XK} {C : CO} {k : Nat} (gc : GC (G0 K) (XX P w K mg base N3 "Budget.__init__" (defScope (inClass (top 14) 0)) f cdv A outer s H E) C k (T0 K)) :
    SSs (G0 K) (XX P w K mg base N3 "Budget.__init__" (defScope (inClass (top 14) 0)) f cdv A outer s H E) (defBody (inClass (top 14) 0)) (f3 C) :=
  (ss_cons (ss_if (st_w (sw_or (st_not (st_tru gc.gx (se_call (j := 2) gc rfl rfl (sa_cons (se_var (i := 1) rfl (by first | exact Or.inl rfl | exact Or.inr (Or.inl rfl) | exact Or.inr (Or.inr rfl)) (by decide) (by decide)) (sa_cons se_int (sa_cons (se_cv gc 0 rfl rfl (by decide)) sa_nil rfl) rfl) rfl) (by decide) rfl rfl) (by intro _; rfl))) (sw_or1 (st_not (st_tru gc.gx (se_call (j := 2) gc rfl rfl (sa_cons (se_var (i := 2) rfl (by first | exact Or.inl rfl | exact Or.inr (Or.inl rfl) | exact Or.inr (Or.inr rfl)) (by decide) (by decide)) (sa_cons se_int (sa_cons (se_var (i := 1) rfl (by first | exact Or.inl rfl | exact Or.inr (Or.inl rfl) | exact Or.inr (Or.inr rfl)) (by decide) (by decide)) sa_nil rfl) rfl) rfl) (by decide) rfl rfl) (by intro _; rfl)))))) (ss_one ss_never) ss_nil)
    (ss_cons (ss_if (st_w (sw_and (st_cmp (sc_op ops_notN (se_var (i := 3) rfl (by first | exact Or.inl rfl | exact Or.inr (Or.inl rfl) | exact Or.inr (Or.inr rfl)) (by decide) (by decide)) se_non) rfl) (sw_and1 (st_not (st_tru gc.gx (se_call (j := 2) gc rfl rfl (sa_cons (se_var (i := 3) rfl (by first | exact Or.inl rfl | exact Or.inr (Or.inl rfl) | exact Or.inr (Or.inr rfl)) (by decide) (by decide)) (sa_cons se_int (sa_cons (se_var (i := 1) rfl (by first | exact Or.inl rfl | exact Or.inr (Or.inl rfl) | exact Or.inr (Or.inr rfl)) (by decide) (by decide)) sa_nil rfl) rfl) rfl) (by decide) rfl rfl) (by intro _; rfl)))))) (ss_one ss_never) ss_nil)
    (ss_cons (ss_setFld (j := 1) gc.gx (se_var (i := 0) rfl (by first | exact Or.inl rfl | exact Or.inr (Or.inl rfl) | exact Or.inr (Or.inr rfl)) (by decide) (by decide)) (se_var (i := 1) rfl (by first | exact Or.inl rfl | exact Or.inr (Or.inl rfl) | exact Or.inr (Or.inr rfl)) (by decide) (by decide)) rfl rfl)
    (ss_cons (ss_setFld (j := 2) gc.gx (se_var (i := 0) rfl (by first | exact Or.inl rfl | exact Or.inr (Or.inl rfl) | exact Or.inr (Or.inr rfl)) (by decide) (by decide)) (se_var (i := 2) rfl (by first | exact Or.inl rfl | exact Or.inr (Or.inl rfl) | exact Or.inr (Or.inr rfl)) (by decide) (by decide)) rfl rfl)
    (ss_cons (ss_setFld (j := 3) gc.gx (se_var (i := 0) rfl (by first | exact Or.inl rfl | exact Or.inr (Or.inl rfl) | exact Or.inr (Or.inr rfl)) (by decide) (by decide)) (se_if (st_cmp (sc_op ops_isN (se_var (i := 3) rfl (by first | exact Or.inl rfl | exact Or.inr (Or.inl rfl) | exact Or.inr (Or.inr rfl)) (by decide) (by decide)) se_non) rfl) (se_var (i := 1) rfl (by first | exact Or.inl rfl | exact Or.inr (Or.inl rfl) | exact Or.inr (Or.inr rfl)) (by decide) (by decide)) (se_var (i := 3) rfl (by first | exact Or.inl rfl | exact Or.inr (Or.inl rfl) | exact Or.inr (Or.inr rfl)) (by decide) (by decide))) rfl rfl)
    (ss_cons (ss_setFld (j := 4) gc.gx (se_var (i := 0) rfl (by first | exact Or.inl rfl | exact Or.inr (Or.inl rfl) | exact Or.inr (Or.inr rfl)) (by decide) (by decide)) se_int rfl rfl)
    (ss_one (ss_setFld (j := 5) gc.gx (se_var (i := 0) rfl (by first | exact Or.inl rfl | exact Or.inr (Or.inl rfl) | exact Or.inr (Or.inr rfl)) (by decide) (by decide)) se_int rfl rfl))))))))
theorem sc4 : FnScope N4 ps4 (defScope (inClass (top 14) 1)) := ⟨rfl, rfl, rfl, by decide +kernel, rfl, by decide +kernel, by decide +kernel⟩
theorem b4 {base : Heap} {f : Addr} {cdv : Value} {A : Around} {outer : List Env} {s : Shared} {H : Hp} {E : XK} {C : CO} {k : Nat} (gc : GC (G0 K) (XX P w K mg base N4 "Budget.call" (defScope (inClass (top 14) 1)) f cdv A outer s H E) C k (T0 K)) :
    SSs (G0 K) (XX P w K mg base N4 "Budget.call" (defScope (inClass (top 14) 1)) f cdv A outer s H E) (defBody (inClass (top 14) 1)) (f4 C) :=
  (ss_cons (ss_setFld (j := 4) gc.gx (se_var (i := 0) rfl (by first | exact Or.inl rfl | exact Or.inr (Or.inl rfl) | exact Or.inr (Or.inr rfl)) (by decide) (by decide)) (se_bin (ops_add gc.gx) (se_fld (j := 4) gc.gx (se_var (i := 0) rfl (by first | exact Or.inl rfl | exact Or.inr (Or.inl rfl) | exact Or.inr (Or.inr rfl)) (by decide) (by decide)) rfl rfl) se_int) rfl rfl)
    (ss_one (ss_setFld (j := 3) gc.gx (se_var (i := 0) rfl (by first | exact Or.inl rfl | exact Or.inr (Or.inl rfl) | exact Or.inr (Or.inr rfl)) (by decide) (by decide)) (se_bi (id := "min") (calls_min2 gc.gx) rfl (gc.fr 4 _ rfl) (by decide +kernel) (sa_cons (se_fld (j := 1) gc.gx (se_var (i := 0) rfl (by first | exact Or.inl rfl | exact Or.inr (Or.inl rfl) | exact Or.inr (Or.inr rfl)) (by decide) (by decide)) rfl rfl) (sa_cons (se_bin (ops_add gc.gx) (se_fld (j := 3) gc.gx (se_var (i := 0) rfl (by first | exact Or.inl rfl | exact Or.inr (Or.inl rfl) | exact Or.inr (Or.inr rfl)) (by decide) (by decide)) rfl rfl) se_int) sa_nil rfl) rfl) (by decide) (by decide) rfl rfl) rfl rfl)))
theorem sc5 : FnScope N5 ps5 (defScope (inClass (top 14) 2)) := ⟨rfl, rfl, rfl, by decide +kernel, rfl, by decide +kernel, by decide +kernel⟩
theorem b5 {base : Heap} {f : Addr} {cdv : Value} {A : Around} {outer : List Env} {s : Shared} {H : Hp} {E : XK} {C : CO} {k : Nat} (gc : GC (G0 K) (XX P w K mg base N5 "Budget.may" (defScope (inClass (top 14) 2)) f cdv A outer s H E) C k (T0 K)) :
    SSs (G0 K) (XX P w K mg base N5 "Budget.may" (defScope (inClass (top 14) 2)) f cdv A outer s H E) (defBody (inClass (top 14) 2)) (f5 C) :=
  (ss_one (ss_ret (se_cmp (sc_op ops_ge (se_fld (j := 3) gc.gx (se_var (i := 0) rfl (by first | exact Or.inl rfl | exact Or.inr (Or.inl rfl) | exact Or.inr (Or.inr rfl)) (by decide) (by decide)) rfl rfl) (se_fld (j := 2) gc.gx (se_var (i := 0) rfl (by first | exact Or.inl rfl | exact Or.inr (Or.inl rfl) | exact Or.inr (Or.inr rfl)) (by decide) (by decide)) rfl rfl)) rfl)))
theorem sc6 : FnScope N6 ps6 (defScope (inClass (top 14) 3)) := ⟨rfl, rfl, rfl, by decide +kernel, rfl, by decide +kernel, by decide +kernel⟩
theorem b6 {base : Heap} {f : Addr} {cdv : Value} {A : Around} {outer : List Env} {s : Shared} {H : Hp} {E : XK} {C : CO} {k : Nat} (gc : GC (G0 K) (XX P w K mg base N6 "Budget.again" (defScope (inClass (top 14) 3)) f cdv A outer s H E) C k (T0 K)) :
    SSs (G0 K) (XX P w K mg base N6 "Budget.again" (defScope (inClass (top 14) 3)) f cdv A outer s H E) (defBody (inClass (top 14) 3)) (f6 C) :=
  (ss_cons (ss_if (st_not (st_tru gc.gx (se_meth0 gc (mok1 7 rfl) (se_var (i := 0) rfl (by first | exact Or.inl rfl | exact Or.inr (Or.inl rfl) | exact Or.inr (Or.inr rfl)) (by decide) (by decide)) (fun ho c hm F hr hb hd => pe_meth0 ho c hm F hr hb hd pass0)) (by intro _; rfl))) (ss_one ss_never) ss_nil)
    (ss_cons (ss_setFld (j := 3) gc.gx (se_var (i := 0) rfl (by first | exact Or.inl rfl | exact Or.inr (Or.inl rfl) | exact Or.inr (Or.inr rfl)) (by decide) (by decide)) (se_bin ops_sub (se_fld (j := 3) gc.gx (se_var (i := 0) rfl (by first | exact Or.inl rfl | exact Or.inr (Or.inl rfl) | exact Or.inr (Or.inr rfl)) (by decide) (by decide)) rfl rfl) (se_fld (j := 2) gc.gx (se_var (i := 0) rfl (by first | exact Or.inl rfl | exact Or.inr (Or.inl rfl) | exact Or.inr (Or.inr rfl)) (by decide) (by decide)) rfl rfl)) rfl rfl)
    (ss_one (ss_setFld (j := 5) gc.gx (se_var (i := 0) rfl (by first | exact Or.inl rfl | exact Or.inr (Or.inl rfl) | exact Or.inr (Or.inr rfl)) (by decide) (by decide)) (se_bin (ops_add gc.gx) (se_fld (j := 5) gc.gx (se_var (i := 0) rfl (by first | exact Or.inl rfl | exact Or.inr (Or.inl rfl) | exact Or.inr (Or.inr rfl)) (by decide) (by decide)) rfl rfl) se_int) rfl rfl))))
theorem sc7 : FnScope N7 ps7 (defScope (inClass (top 14) 4)) := ⟨rfl, rfl, rfl, by decide +kernel, rfl, by decide +kernel, by decide +kernel⟩
theorem b7 {base : Heap} {f : Addr} {cdv : Value} {A : Around} {outer : List Env} {s : Shared} {H : Hp} {E : XK} {C : CO} {k : Nat} (gc : GC (G0 K) (XX P w K mg base N7 "Budget.counts" (defScope (inClass (top 14) 4)) f cdv A outer s H E) C k (T0 K)) :
    SSs (G0 K) (XX P w K mg base N7 "Budget.counts" (defScope (inClass (top 14) 4)) f cdv A outer s H E) (defBody (inClass (top 14) 4)) (f7 C) :=
  (ss_one (ss_ret (se_tup (sa_cons (se_fld (j := 3) gc.gx (se_var (i := 0) rfl (by first | exact Or.inl rfl | exact Or.inr (Or.inl rfl) | exact Or.inr (Or.inr rfl)) (by decide) (by decide)) rfl rfl) (sa_cons (se_fld (j := 4) gc.gx (se_var (i := 0) rfl (by first | exact Or.inl rfl | exact Or.inr (Or.inl rfl) | exact Or.inr (Or.inr rfl)) (by decide) (by decide)) rfl rfl) (sa_cons (se_fld (j := 5) gc.gx (se_var (i := 0) rfl (by first | exact Or.inl rfl | exact Or.inr (Or.inl rfl) | exact Or.inr (Or.inr rfl)) (by decide) (by decide)) rfl rfl) sa_nil rfl) rfl) rfl))))
theorem sc9 : FnScope N9 ps9 (defScope (inClass (top 15) 0)) := ⟨rfl, rfl, rfl, by decide +kernel, rfl, by decide +kernel, by decide +kernel⟩
theorem b9 {base : Heap} {f : Addr} {cdv : Value} {A : Around} {outer : List Env} {s : Shared} {H : Hp} {E : XK} {C : CO} {k : Nat} (gc : GC (G0 K) (XX P w K mg base N9 "Gate.__init__" (defScope (inClass (top 15) 0)) f cdv A outer s H E) C k (T0 K)) :
    SSs (G0 K) (XX P w K mg base N9 "Gate.__init__" (defScope (inClass (top 15) 0)) f cdv A outer s H E) (defBody (inClass (top 15) 0)) (f9 C) :=
  (ss_cons (ss_if (st_w (sw_or (st_not (st_tru gc.gx (se_call (j := 2) gc rfl rfl (sa_cons (se_var (i := 1) rfl (by first | exact Or.inl rfl | exact Or.inr (Or.inl rfl) | exact Or.inr (Or.inr rfl)) (by decide) (by decide)) (sa_cons se_int (sa_cons (se_cv gc 0 rfl rfl (by decide)) sa_nil rfl) rfl) rfl) (by decide) rfl rfl) (by intro _; rfl))) (sw_or1 (st_not (st_tru gc.gx (se_call (j := 2) gc rfl rfl (sa_cons (se_var (i := 2) rfl (by first | exact Or.inl rfl | exact Or.inr (Or.inl rfl) | exact Or.inr (Or.inr rfl)) (by decide) (by decide)) (sa_cons se_int (sa_cons (se_cv gc 0 rfl rfl (by decide)) sa_nil rfl) rfl) rfl) (by decide) rfl rfl) (by intro _; rfl)))))) (ss_one ss_never) ss_nil)
    (ss_cons (ss_setFld (j := 6) gc.gx (se_var (i := 0) rfl (by first | exact Or.inl rfl | exact Or.inr (Or.inl rfl) | exact Or.inr (Or.inr rfl)) (by decide) (by decide)) (se_var (i := 1) rfl (by first | exact Or.inl rfl | exact Or.inr (Or.inl rfl) | exact Or.inr (Or.inr rfl)) (by decide) (by decide)) rfl rfl)
    (ss_cons (ss_setFld (j := 7) gc.gx (se_var (i := 0) rfl (by first | exact Or.inl rfl | exact Or.inr (Or.inl rfl) | exact Or.inr (Or.inr rfl)) (by decide) (by decide)) (se_var (i := 2) rfl (by first | exact Or.inl rfl | exact Or.inr (Or.inl rfl) | exact Or.inr (Or.inr rfl)) (by decide) (by decide)) rfl rfl)
    (ss_cons (ss_setFld (j := 8) gc.gx (se_var (i := 0) rfl (by first | exact Or.inl rfl | exact Or.inr (Or.inl rfl) | exact Or.inr (Or.inr rfl)) (by decide) (by decide)) se_int rfl rfl)
    (ss_cons (ss_setFld (j := 9) gc.gx (se_var (i := 0) rfl (by first | exact Or.inl rfl | exact Or.inr (Or.inl rfl) | exact Or.inr (Or.inr rfl)) (by decide) (by decide)) se_int rfl rfl)
    (ss_cons (ss_setFld (j := 0) gc.gx (se_var (i := 0) rfl (by first | exact Or.inl rfl | exact Or.inr (Or.inl rfl) | exact Or.inr (Or.inr rfl)) (by decide) (by decide)) se_non rfl rfl)
    (ss_cons (ss_setFld (j := 10) gc.gx (se_var (i := 0) rfl (by first | exact Or.inl rfl | exact Or.inr (Or.inl rfl) | exact Or.inr (Or.inr rfl)) (by decide) (by decide)) se_bl rfl rfl)
    (ss_one (ss_setFld (j := 11) gc.gx (se_var (i := 0) rfl (by first | exact Or.inl rfl | exact Or.inr (Or.inl rfl) | exact Or.inr (Or.inr rfl)) (by decide) (by decide)) (se_lst sa_nil) rfl rfl)))))))))
theorem sc10 : FnScope N10 ps10 (defScope (inClass (top 15) 1)) := ⟨rfl, rfl, rfl, by decide +kernel, rfl, by decide +kernel, by decide +kernel⟩
theorem b10 {base : Heap} {f : Addr} {cdv : Value} {A : Around} {outer : List Env} {s : Shared} {H : Hp} {E : XK} {C : CO} {k : Nat} (gc : GC (G0 K) (XX P w K mg base N10 "Gate.go_to" (defScope (inClass (top 15) 1)) f cdv A outer s H E) C k (T0 K)) :
    SSs (G0 K) (XX P w K mg base N10 "Gate.go_to" (defScope (inClass (top 15) 1)) f cdv A outer s H E) (defBody (inClass (top 15) 1)) (f10 C) :=
  (ss_cons (ss_if (st_not (st_tru gc.gx (se_call (j := 2) gc rfl rfl (sa_cons (se_var (i := 1) rfl (by first | exact Or.inl rfl | exact Or.inr (Or.inl rfl) | exact Or.inr (Or.inr rfl)) (by decide) (by decide)) (sa_cons (se_fld (j := 8) gc.gx (se_var (i := 0) rfl (by first | exact Or.inl rfl | exact Or.inr (Or.inl rfl) | exact Or.inr (Or.inr rfl)) (by decide) (by decide)) rfl rfl) (sa_cons (se_cv gc 1 rfl rfl (by decide)) sa_nil rfl) rfl) rfl) (by decide) rfl rfl) (by intro _; rfl))) (ss_one ss_never) ss_nil)
    (ss_one (ss_setFld (j := 8) gc.gx (se_var (i := 0) rfl (by first | exact Or.inl rfl | exact Or.inr (Or.inl rfl) | exact Or.inr (Or.inr rfl)) (by decide) (by decide)) (se_var (i := 1) rfl (by first | exact Or.inl rfl | exact Or.inr (Or.inl rfl) | exact Or.inr (Or.inr rfl)) (by decide) (by decide)) rfl rfl)))
theorem sc11 : FnScope N11 ps11 (defScope (inClass (top 15) 2)) := ⟨rfl, rfl, rfl, by decide +kernel, rfl, by decide +kernel, by decide +kernel⟩
theorem b11 {base : Heap} {f : Addr} {cdv : Value} {A : Around} {outer : List Env} {s : Shared} {H : Hp} {E : XK} {C : CO} {k : Nat} (gc : GC (G0 K) (XX P w K mg base N11 "Gate.state" (defScope (inClass (top 15) 2)) f cdv A outer s H E) C k (T0 K)) :
    SSs (G0 K) (XX P w K mg base N11 "Gate.state" (defScope (inClass (top 15) 2)) f cdv A outer s H E) (defBody (inClass (top 15) 2)) (f11 C) :=
  (ss_cons (ss_if (st_cmp (sc_op ops_isN (se_fld (j := 0) gc.gx (se_var (i := 0) rfl (by first | exact Or.inl rfl | exact Or.inr (Or.inl rfl) | exact Or.inr (Or.inr rfl)) (by decide) (by decide)) rfl rfl) se_non) rfl) (ss_one (ss_ret (se_str s3_eq))) ss_nil)
    (ss_one (ss_ret (se_if (st_cmp (sc_op ops_lt (se_fld (j := 8) gc.gx (se_var (i := 0) rfl (by first | exact Or.inl rfl | exact Or.inr (Or.inl rfl) | exact Or.inr (Or.inr rfl)) (by decide) (by decide)) rfl rfl) (se_fld (j := 0) gc.gx (se_var (i := 0) rfl (by first | exact Or.inl rfl | exact Or.inr (Or.inl rfl) | exact Or.inr (Or.inr rfl)) (by decide) (by decide)) rfl rfl)) rfl) (se_str s1_eq) (se_str s2_eq)))))
theorem sc12 : FnScope N12 ps12 (defScope (inClass (top 15) 3)) := ⟨rfl, rfl, rfl, by decide +kernel, rfl, by decide +kernel, by decide +kernel⟩
theorem b12 {base : Heap} {f : Addr} {cdv : Value} {A : Around} {outer : List Env} {s : Shared} {H : Hp} {E : XK} {C : CO} {k : Nat} (gc : GC (G0 K) (XX P w K mg base N12 "Gate.ask" (defScope (inClass (top 15) 3)) f cdv A outer s H E) C k (T0 K)) :
    SSs (G0 K) (XX P w K mg base N12 "Gate.ask" (defScope (inClass (top 15) 3)) f cdv A outer s H E) (defBody (inClass (top 15) 3)) (f12 C) :=
  (ss_cons (ss_if (st_w (sw_or (st_cmp (sc_op (ops_eq gc.gx) (se_meth0 gc (mok1 2 rfl) (se_var (i := 0) rfl (by first | exact Or.inl rfl | exact Or.inr (Or.inl rfl) | exact Or.inr (Or.inr rfl)) (by decide) (by decide)) (fun ho c hm F hr hb hd => pe_meth0 ho c hm F hr hb hd pass0)) (se_str s1_eq)) rfl) (sw_or1 (st_w (sw_and (st_cmp (sc_op (ops_eq gc.gx) (se_meth0 gc (mok1 2 rfl) (se_var (i := 0) rfl (by first | exact Or.inl rfl | exact Or.inr (Or.inl rfl) | exact Or.inr (Or.inr rfl)) (by decide) (by decide)) (fun ho c hm F hr hb hd => pe_meth0 ho c hm F hr hb hd pass0)) (se_str s2_eq)) rfl) (sw_and1 (st_tru gc.gx (se_fld (j := 10) gc.gx (se_var (i := 0) rfl (by first | exact Or.inl rfl | exact Or.inr (Or.inl rfl) | exact Or.inr (Or.inr rfl)) (by decide) (by decide)) rfl rfl) (by intro _; rfl)))))))) (ss_one ss_never) ss_nil)
    (ss_cons (ss_setFld (j := 10) gc.gx (se_var (i := 0) rfl (by first | exact Or.inl rfl | exact Or.inr (Or.inl rfl) | exact Or.inr (Or.inr rfl)) (by decide) (by decide)) se_bl rfl rfl)
    (ss_one (ss_expr (se_bm (k := .list) (id := "list.append") gc.gx mts_append (se_fld (j := 11) gc.gx (se_var (i := 0) rfl (by first | exact Or.inl rfl | exact Or.inr (Or.inl rfl) | exact Or.inr (Or.inr rfl)) (by decide) (by decide)) rfl rfl) (sa_cons (se_tup (sa_cons (se_fld (j := 8) gc.gx (se_var (i := 0) rfl (by first | exact Or.inl rfl | exact Or.inr (Or.inl rfl) | exact Or.inr (Or.inr rfl)) (by decide) (by decide)) rfl rfl) (sa_cons (se_str s0_eq) sa_nil rfl) rfl)) sa_nil rfl) (fun hm ho ha => pe_bm PySem.F.plainAttrs_list PySem.F.slot_list_append PySem.F.type_list_append hm ho ha)) rfl))))
theorem sc13 : FnScope N13 ps13 (defScope (inClass (top 15) 4)) := ⟨rfl, rfl, rfl, by decide +kernel, rfl, by decide +kernel, by decide +kernel⟩
theorem b13 {base : Heap} {f : Addr} {cdv : Value} {A : Around} {outer : List Env} {s : Shared} {H : Hp} {E : XK} {C : CO} {k : Nat} (gc : GC (G0 K) (XX P w K mg base N13 "Gate.end" (defScope (inClass (top 15) 4)) f cdv A outer s H E) C k (T0 K)) :
    SSs (G0 K) (XX P w K mg base N13 "Gate.end" (defScope (inClass (top 15) 4)) f cdv A outer s H E) (defBody (inClass (top 15) 4)) (f13 C) :=
  (ss_cons (ss_if (st_not (st_tru gc.gx (se_fld (j := 10) gc.gx (se_var (i := 0) rfl (by first | exact Or.inl rfl | exact Or.inr (Or.inl rfl) | exact Or.inr (Or.inr rfl)) (by decide) (by decide)) rfl rfl) (by intro _; rfl))) (ss_one ss_never) ss_nil)
    (ss_cons (ss_setFld (j := 10) gc.gx (se_var (i := 0) rfl (by first | exact Or.inl rfl | exact Or.inr (Or.inl rfl) | exact Or.inr (Or.inr rfl)) (by decide) (by decide)) se_bl rfl rfl)
    (ss_cons (ss_expr (se_bm (k := .list) (id := "list.append") gc.gx mts_append (se_fld (j := 11) gc.gx (se_var (i := 0) rfl (by first | exact Or.inl rfl | exact Or.inr (Or.inl rfl) | exact Or.inr (Or.inr rfl)) (by decide) (by decide)) rfl rfl) (sa_cons (se_tup (sa_cons (se_fld (j := 8) gc.gx (se_var (i := 0) rfl (by first | exact Or.inl rfl | exact Or.inr (Or.inl rfl) | exact Or.inr (Or.inr rfl)) (by decide) (by decide)) rfl rfl) (sa_cons (se_if (st_tru gc.gx (se_var (i := 1) rfl (by first | exact Or.inl rfl | exact Or.inr (Or.inl rfl) | exact Or.inr (Or.inr rfl)) (by decide) (by decide)) (by intro _; rfl)) (se_str s4_eq) (se_str s5_eq)) sa_nil rfl) rfl)) sa_nil rfl) (fun hm ho ha => pe_bm PySem.F.plainAttrs_list PySem.F.slot_list_append PySem.F.type_list_append hm ho ha)) rfl)
    (ss_one (ss_if (st_tru gc.gx (se_var (i := 1) rfl (by first | exact Or.inl rfl | exact Or.inr (Or.inl rfl) | exact Or.inr (Or.inr rfl)) (by decide) (by decide)) (by intro _; rfl)) (ss_cons (ss_setFld (j := 9) gc.gx (se_var (i := 0) rfl (by first | exact Or.inl rfl | exact Or.inr (Or.inl rfl) | exact Or.inr (Or.inr rfl)) (by decide) (by decide)) se_int rfl rfl)
    (ss_one (ss_setFld (j := 0) gc.gx (se_var (i := 0) rfl (by first | exact Or.inl rfl | exact Or.inr (Or.inl rfl) | exact Or.inr (Or.inr rfl)) (by decide) (by decide)) se_non rfl rfl))) (ss_cons (ss_setFld (j := 9) gc.gx (se_var (i := 0) rfl (by first | exact Or.inl rfl | exact Or.inr (Or.inl rfl) | exact Or.inr (Or.inr rfl)) (by decide) (by decide)) (se_bin (ops_add gc.gx) (se_fld (j := 9) gc.gx (se_var (i := 0) rfl (by first | exact Or.inl rfl | exact Or.inr (Or.inl rfl) | exact Or.inr (Or.inr rfl)) (by decide) (by decide)) rfl rfl) se_int) rfl rfl)
    (ss_one (ss_if (st_w (sw_or (st_cmp (sc_op ops_notN (se_fld (j := 0) gc.gx (se_var (i := 0) rfl (by first | exact Or.inl rfl | exact Or.inr (Or.inl rfl) | exact Or.inr (Or.inr rfl)) (by decide) (by decide)) rfl rfl) se_non) rfl) (sw_or1 (st_cmp (sc_op ops_ge (se_fld (j := 9) gc.gx (se_var (i := 0) rfl (by first | exact Or.inl rfl | exact Or.inr (Or.inl rfl) | exact Or.inr (Or.inr rfl)) (by decide) (by decide)) rfl rfl) (se_fld (j := 6) gc.gx (se_var (i := 0) rfl (by first | exact Or.inl rfl | exact Or.inr (Or.inl rfl) | exact Or.inr (Or.inr rfl)) (by decide) (by decide)) rfl rfl)) rfl)))) (ss_cons (ss_setFld (j := 0) gc.gx (se_var (i := 0) rfl (by first | exact Or.inl rfl | exact Or.inr (Or.inl rfl) | exact Or.inr (Or.inr rfl)) (by decide) (by decide)) (se_bin (ops_add gc.gx) (se_fld (j := 8) gc.gx (se_var (i := 0) rfl (by first | exact Or.inl rfl | exact Or.inr (Or.inl rfl) | exact Or.inr (Or.inr rfl)) (by decide) (by decide)) rfl rfl) (se_fld (j := 7) gc.gx (se_var (i := 0) rfl (by first | exact Or.inl rfl | exact Or.inr (Or.inl rfl) | exact Or.inr (Or.inr rfl)) (by decide) (by decide)) rfl rfl)) rfl rfl)
    (ss_one (ss_setFld (j := 9) gc.gx (se_var (i := 0) rfl (by first | exact Or.inl rfl | exact Or.inr (Or.inl rfl) | exact Or.inr (Or.inr rfl)) (by decide) (by decide)) se_int rfl rfl))) ss_nil))))))))
theorem sc14 : FnScope N14 ps14 (defScope (inClass (top 15) 5)) := ⟨rfl, rfl, rfl, by decide +kernel, rfl, by decide +kernel, by decide +kernel⟩
theorem b14 {base : Heap} {f : Addr} {cdv : Value} {A : Around} {outer : List Env} {s : Shared} {H : Hp} {E : XK} {C : CO} {k : Nat} (gc : GC (G0 K) (XX P w K mg base N14 "Gate.log" (defScope (inClass (top 15) 5)) f cdv A outer s H E) C k (T0 K)) :
    SSs (G0 K) (XX P w K mg base N14 "Gate.log" (defScope (inClass (top 15) 5)) f cdv A outer s H E) (defBody (inClass (top 15) 5)) (f14 C) :=
  (ss_one (ss_ret (se_ty (id := "list") (calls_list gc.gx) rfl (gc.fr 2 _ rfl) (by decide +kernel) (sa_cons (se_fld (j := 11) gc.gx (se_var (i := 0) rfl (by first | exact Or.inl rfl | exact Or.inr (Or.inl rfl) | exact Or.inr (Or.inr rfl)) (by decide) (by decide)) rfl rfl) sa_nil rfl) (by decide) (by decide) rfl rfl)))
theorem sc17 : FnScope N17 ps17 (defScope (top 17)) := ⟨rfl, rfl, rfl, by decide +kernel, rfl, by decide +kernel, by decide +kernel⟩
theorem b17 {base : Heap} {f : Addr} {cdv : Value} {A : Around} {outer : List Env} {s : Shared} {H : Hp} {E : XK} {C : CO} {k : Nat} (gc : GC (G0 K) (XX P w K mg base N17 "_law_well" (defScope (top 17)) f cdv A outer s H E) C k (T0 K)) :
    SSs (G0 K) (XX P w K mg base N17 "_law_well" (defScope (top 17)) f cdv A outer s H E) (defBody (top 17)) (f17 C) :=
  (ss_cons (ss_if (st_cmp (sc_op ops_ge (se_var (i := 0) rfl (by first | exact Or.inl rfl | exact Or.inr (Or.inl rfl) | exact Or.inr (Or.inr rfl)) (by decide) (by decide)) (se_bin ops_pow se_int se_int)) rfl) (ss_one (ss_ret (se_lst (sa_cons (se_bin ops_sub (se_var (i := 0) rfl (by first | exact Or.inl rfl | exact Or.inr (Or.inl rfl) | exact Or.inr (Or.inr rfl)) (by decide) (by decide)) (se_bin ops_pow se_int se_int)) (sa_cons (se_bin ops_mod (se_var (i := 0) rfl (by first | exact Or.inl rfl | exact Or.inr (Or.inl rfl) | exact Or.inr (Or.inr rfl)) (by decide) (by decide)) se_int) (sa_cons (se_var (i := 1) rfl (by first | exact Or.inl rfl | exact Or.inr (Or.inl rfl) | exact Or.inr (Or.inr rfl)) (by decide) (by decide)) sa_nil rfl) rfl) rfl)))) ss_nil)
    (ss_one (ss_ret (se_lst (sa_cons se_int (sa_cons (se_bin ops_mod (se_var (i := 0) rfl (by first | exact Or.inl rfl | exact Or.inr (Or.inl rfl) | exact Or.inr (Or.inr rfl)) (by decide) (by decide)) se_int) (sa_cons (se_var (i := 1) rfl (by first | exact Or.inl rfl | exact Or.inr (Or.inl rfl) | exact Or.inr (Or.inr rfl)) (by decide) (by decide)) sa_nil rfl) rfl) rfl)))))
theorem sc18 : FnScope N18 ps18 (defScope (top 18)) := ⟨rfl, rfl, rfl, by decide +kernel, rfl, by decide +kernel, by decide +kernel⟩
theorem b18 {base : Heap} {f : Addr} {cdv : Value} {A : Around} {outer : List Env} {s : Shared} {H : Hp} {E : XK} {C : CO} {k : Nat} (gc : GC (G0 K) (XX P w K mg base N18 "_law_take" (defScope (top 18)) f cdv A outer s H E) C k (T0 K)) :
    SSs (G0 K) (XX P w K mg base N18 "_law_take" (defScope (top 18)) f cdv A outer s H E) (defBody (top 18)) (f18 C) :=
  (ss_cons (ss_if (st_cmp (sc_op ops_gt (se_ix gc.gx (se_var (i := 0) rfl (by first | exact Or.inl rfl | exact Or.inr (Or.inl rfl) | exact Or.inr (Or.inr rfl)) (by decide) (by decide)) se_int (fun _ _ => rfl)) se_int) rfl) (ss_cons (ss_set (i := 2) gc.gx rfl (by first | exact Or.inl rfl | exact Or.inr rfl) (se_bin ops_mod (se_ix gc.gx (se_var (i := 0) rfl (by first | exact Or.inl rfl | exact Or.inr (Or.inl rfl) | exact Or.inr (Or.inr rfl)) (by decide) (by decide)) se_int (fun _ _ => rfl)) (se_var (i := 1) rfl (by first | exact Or.inl rfl | exact Or.inr (Or.inl rfl) | exact Or.inr (Or.inr rfl)) (by decide) (by decide))) rfl (by first | exact Or.inl rfl | exact Or.inr rfl))
    (ss_cons (ss_setIx gc.gx (se_var (i := 0) rfl (by first | exact Or.inl rfl | exact Or.inr (Or.inl rfl) | exact Or.inr (Or.inr rfl)) (by decide) (by decide)) se_int (se_bin ops_div (se_ix gc.gx (se_var (i := 0) rfl (by first | exact Or.inl rfl | exact Or.inr (Or.inl rfl) | exact Or.inr (Or.inr rfl)) (by decide) (by decide)) se_int (fun _ _ => rfl)) (se_var (i := 1) rfl (by first | exact Or.inl rfl | exact Or.inr (Or.inl rfl) | exact Or.inr (Or.inr rfl)) (by decide) (by decide))) (fun ht hg => ps_asg ht hg) (fun ho hi hs => pg_sub ho hi hs))
    (ss_one (ss_ret (se_var (i := 2) rfl (by first | exact Or.inl rfl | exact Or.inr (Or.inl rfl) | exact Or.inr (Or.inr rfl)) (by decide) (by decide)))))) ss_nil)
    (ss_cons (ss_setIx gc.gx (se_var (i := 0) rfl (by first | exact Or.inl rfl | exact Or.inr (Or.inl rfl) | exact Or.inr (Or.inr rfl)) (by decide) (by decide)) se_int (se_bin (ops_add gc.gx) (se_ix gc.gx (se_var (i := 0) rfl (by first | exact Or.inl rfl | exact Or.inr (Or.inl rfl) | exact Or.inr (Or.inr rfl)) (by decide) (by decide)) se_int (fun _ _ => rfl)) se_int) (fun ht hg => ps_asg ht hg) (fun ho hi hs => pg_sub ho hi hs))
    (ss_cons (ss_set (i := 3) gc.gx rfl (by first | exact Or.inl rfl | exact Or.inr rfl) se_int rfl (by first | exact Or.inl rfl | exact Or.inr rfl))
    (ss_cons (ss_set (i := 4) gc.gx rfl (by first | exact Or.inl rfl | exact Or.inr rfl) (se_bin ops_mod (se_bin (ops_add gc.gx) (se_ix gc.gx (se_var (i := 0) rfl (by first | exact Or.inl rfl | exact Or.inr (Or.inl rfl) | exact Or.inr (Or.inr rfl)) (by decide) (by decide)) se_int (fun _ _ => rfl)) (se_bin ops_mul se_int (se_ix gc.gx (se_var (i := 0) rfl (by first | exact Or.inl rfl | exact Or.inr (Or.inl rfl) | exact Or.inr (Or.inr rfl)) (by decide) (by decide)) se_int (fun _ _ => rfl)))) (se_var (i := 3) rfl (by first | exact Or.inl rfl | exact Or.inr (Or.inl rfl) | exact Or.inr (Or.inr rfl)) (by decide) (by decide))) rfl (by first | exact Or.inl rfl | exact Or.inr rfl))
    (ss_cons (ss_set (i := 4) gc.gx rfl (by first | exact Or.inl rfl | exact Or.inr rfl) (se_bin ops_mod (se_bin (ops_add gc.gx) (se_bin (ops_add gc.gx) (se_bin ops_mul (se_var (i := 4) rfl (by first | exact Or.inl rfl | exact Or.inr (Or.inl rfl) | exact Or.inr (Or.inr rfl)) (by decide) (by decide)) (se_var (i := 4) rfl (by first | exact Or.inl rfl | exact Or.inr (Or.inl rfl) | exact Or.inr (Or.inr rfl)) (by decide) (by decide))) (se_bin ops_mul se_int (se_bin ops_pow (se_ix gc.gx (se_var (i := 0) rfl (by first | exact Or.inl rfl | exact Or.inr (Or.inl rfl) | exact Or.inr (Or.inr rfl)) (by decide) (by decide)) se_int (fun _ _ => rfl)) se_int))) se_int) (se_var (i := 3) rfl (by first | exact Or.inl rfl | exact Or.inr (Or.inl rfl) | exact Or.inr (Or.inr rfl)) (by decide) (by decide))) rfl (by first | exact Or.inl rfl | exact Or.inr rfl))
    (ss_one (ss_ret (se_bin ops_mod (se_bin ops_div (se_bin ops_mod (se_bin ops_pow (se_var (i := 4) rfl (by first | exact Or.inl rfl | exact Or.inr (Or.inl rfl) | exact Or.inr (Or.inr rfl)) (by decide) (by decide)) se_int) (se_var (i := 3) rfl (by first | exact Or.inl rfl | exact Or.inr (Or.inl rfl) | exact Or.inr (Or.inr rfl)) (by decide) (by decide))) se_int) (se_var (i := 1) rfl (by first | exact Or.inl rfl | exact Or.inr (Or.inl rfl) | exact Or.inr (Or.inr rfl)) (by decide) (by decide))))))))))
theorem sc19 : FnScope N19 ps19 (defScope (top 19)) := ⟨rfl, rfl, rfl, by decide +kernel, rfl, by decide +kernel, by decide +kernel⟩
theorem b19 {base : Heap} {f : Addr} {cdv : Value} {A : Around} {outer : List Env} {s : Shared} {H : Hp} {E : XK} {C : CO} {k : Nat} (gc : GC (G0 K) (XX P w K mg base N19 "_law_bags" (defScope (top 19)) f cdv A outer s H E) C k (T0 K)) :
    SSs (G0 K) (XX P w K mg base N19 "_law_bags" (defScope (top 19)) f cdv A outer s H E) (defBody (top 19)) (f19 C) :=
  (ss_one (ss_ret (se_lc (own := [("k", 2), ("cell", 3)]) gc (blkOk_by (N := N19) (own := [("k", 2), ("cell", 3)]) (sc := defScope (top 19)) (by decide +kernel)) (si_enum gc.gx rfl (gc.fr 3 _ rfl) (se_bin (ops_add gc.gx) (se_sl gc.gx (se_var (i := 0) rfl (by first | exact Or.inl rfl | exact Or.inr (Or.inl rfl) | exact Or.inr (Or.inr rfl)) (by decide) (by decide)) so_none (so_some (se_var (i := 1) rfl (by first | exact Or.inl rfl | exact Or.inr (Or.inl rfl) | exact Or.inr (Or.inr rfl)) (by decide) (by decide)))) (se_lst (sa_cons se_int sa_nil rfl))) rfl rfl) (fun s0 H0 C0 cl0 fp0 gc => (sg_tup gc.gx (sgs_cons (sg_name (i := 2) gc.gx rfl (by first | exact Or.inl rfl | exact Or.inr rfl) (by first | exact Or.inl rfl | exact Or.inr rfl)) (sgs_cons (sg_name (i := 3) gc.gx rfl (by first | exact Or.inl rfl | exact Or.inr rfl) (by first | exact Or.inl rfl | exact Or.inr rfl)) sgs_nil rfl) rfl) rfl rfl)) sif_none (fun s0 H0 C0 cl0 fp0 gc => (se_call (j := 17) gc rfl rfl (sa_cons (se_var (i := 3) rfl (by first | exact Or.inl rfl | exact Or.inr (Or.inl rfl) | exact Or.inr (Or.inr rfl)) (by decide) (by decide)) (sa_cons (se_bin ops_mul se_int (se_var (i := 2) rfl (by first | exact Or.inl rfl | exact Or.inr (Or.inl rfl) | exact Or.inr (Or.inr rfl)) (by decide) (by decide))) sa_nil rfl) rfl) (by decide) rfl rfl)) (by decide) (by intro _; rfl))))
theorem sc20 : FnScope N20 ps20 (defScope (top 20)) := ⟨rfl, rfl, rfl, by decide +kernel, rfl, by decide +kernel, by decide +kernel⟩
theorem b20 {base : Heap} {f : Addr} {cdv : Value} {A : Around} {outer : List Env} {s : Shared} {H : Hp} {E : XK} {C : CO} {k : Nat} (gc : GC (G0 K) (XX P w K mg base N20 "_law_call" (defScope (top 20)) f cdv A outer s H E) C k (T0 K)) :
    SSs (G0 K) (XX P w K mg base N20 "_law_call" (defScope (top 20)) f cdv A outer s H E) (defBody (top 20)) (f20 C) :=
  (ss_cons (ss_expr (se_meth0 gc (mok1 8 rfl) (se_var (i := 1) rfl (by first | exact Or.inl rfl | exact Or.inr (Or.inl rfl) | exact Or.inr (Or.inr rfl)) (by decide) (by decide)) (fun ho c hm F hr hb hd => pe_meth0 ho c hm F hr hb hd pass0)) rfl)
    (ss_cons (ss_set (i := 3) gc.gx rfl (by first | exact Or.inl rfl | exact Or.inr rfl) se_int rfl (by first | exact Or.inl rfl | exact Or.inr rfl))
    (ss_cons (ss_for gc.gx PassesOwn.never (si_range1 rfl (gc.fr 1 _ rfl) (sa_cons se_int sa_nil rfl) rfl) (sg_name (i := 4) gc.gx rfl (by first | exact Or.inl rfl | exact Or.inr rfl) (by first | exact Or.inl rfl | exact Or.inr rfl)) (ss_cons (ss_if (st_w (sw_or (st_cmp (sc_op (ops_eq gc.gx) (se_meth0 gc (mok1 2 rfl) (se_var (i := 0) rfl (by first | exact Or.inl rfl | exact Or.inr (Or.inl rfl) | exact Or.inr (Or.inr rfl)) (by decide) (by decide)) (fun ho c hm F hr hb hd => pe_meth0 ho c hm F hr hb hd pass0)) (se_str s1_eq)) rfl) (sw_or1 (st_w (sw_and (st_cmp (sc_op ops_gt (se_var (i := 4) rfl (by first | exact Or.inl rfl | exact Or.inr (Or.inl rfl) | exact Or.inr (Or.inr rfl)) (by decide) (by decide)) se_int) rfl) (sw_and1 (st_not (st_tru gc.gx (se_meth0 gc (mok1 7 rfl) (se_var (i := 1) rfl (by first | exact Or.inl rfl | exact Or.inr (Or.inl rfl) | exact Or.inr (Or.inr rfl)) (by decide) (by decide)) (fun ho c hm F hr hb hd => pe_meth0 ho c hm F hr hb hd pass0)) (by intro _; rfl))))))))) (ss_one (ss_ret (se_var (i := 3) rfl (by first | exact Or.inl rfl | exact Or.inr (Or.inl rfl) | exact Or.inr (Or.inr rfl)) (by decide) (by decide)))) ss_nil)
    (ss_cons (ss_if (st_cmp (sc_op ops_gt (se_var (i := 4) rfl (by first | exact Or.inl rfl | exact Or.inr (Or.inl rfl) | exact Or.inr (Or.inr rfl)) (by decide) (by decide)) se_int) rfl) (ss_one (ss_expr (se_meth0 gc (mok1 6 rfl) (se_var (i := 1) rfl (by first | exact Or.inl rfl | exact Or.inr (Or.inl rfl) | exact Or.inr (Or.inr rfl)) (by decide) (by decide)) (fun ho c hm F hr hb hd => pe_meth0 ho c hm F hr hb hd pass0)) rfl)) ss_nil)
    (ss_cons (ss_expr (se_meth0 gc (mok1 5 rfl) (se_var (i := 0) rfl (by first | exact Or.inl rfl | exact Or.inr (Or.inl rfl) | exact Or.inr (Or.inr rfl)) (by decide) (by decide)) (fun ho c hm F hr hb hd => pe_meth0 ho c hm F hr hb hd pass0)) rfl)
    (ss_cons (ss_expr (se_meth gc (mok1 4 rfl) (se_var (i := 0) rfl (by first | exact Or.inl rfl | exact Or.inr (Or.inl rfl) | exact Or.inr (Or.inr rfl)) (by decide) (by decide)) (sa_cons (se_var (i := 2) rfl (by first | exact Or.inl rfl | exact Or.inr (Or.inl rfl) | exact Or.inr (Or.inr rfl)) (by decide) (by decide)) sa_nil rfl) (fun ho ha c hm F hr hb hd => pe_meth ho c hm F hr hb hd pass0 ha)) rfl)
    (ss_cons (ss_set (i := 3) gc.gx rfl (by first | exact Or.inl rfl | exact Or.inr rfl) (se_bin (ops_add gc.gx) (se_var (i := 3) rfl (by first | exact Or.inl rfl | exact Or.inr (Or.inl rfl) | exact Or.inr (Or.inr rfl)) (by decide) (by decide)) se_int) rfl (by first | exact Or.inl rfl | exact Or.inr rfl))
    (ss_one (ss_if (st_tru gc.gx (se_var (i := 2) rfl (by first | exact Or.inl rfl | exact Or.inr (Or.inl rfl) | exact Or.inr (Or.inr rfl)) (by decide) (by decide)) (by intro _; rfl)) (ss_one (ss_ret (se_var (i := 3) rfl (by first | exact Or.inl rfl | exact Or.inr (Or.inl rfl) | exact Or.inr (Or.inr rfl)) (by decide) (by decide)))) ss_nil))))))) (by intro _; rfl))
    (ss_one (ss_ret (se_var (i := 3) rfl (by first | exact Or.inl rfl | exact Or.inr (Or.inl rfl) | exact Or.inr (Or.inr rfl)) (by decide) (by decide)))))))
theorem sc21 : FnScope N21 ps21 (defScope (top 21)) := ⟨rfl, rfl, rfl, by decide +kernel, rfl, by decide +kernel, by decide +kernel⟩
theorem b21 {base : Heap} {f : Addr} {cdv : Value} {A : Around} {outer : List Env} {s : Shared} {H : Hp} {E : XK} {C : CO} {k : Nat} (gc : GC (G0 K) (XX P w K mg base N21 "law" (defScope (top 21)) f cdv A outer s H E) C k (T0 K)) :
    SSs (G0 K) (XX P w K mg base N21 "law" (defScope (top 21)) f cdv A outer s H E) (defBody (top 21)) (f21 C) :=
  (ss_cons (ss_for gc.gx PassesOwn.never (si_seq gc.gx (se_call (j := 19) gc rfl rfl (sa_cons (se_var (i := 0) rfl (by first | exact Or.inl rfl | exact Or.inr (Or.inl rfl) | exact Or.inr (Or.inr rfl)) (by decide) (by decide)) (sa_cons se_int sa_nil rfl) rfl) (by decide) rfl rfl)) (sg_name (i := 1) gc.gx rfl (by first | exact Or.inl rfl | exact Or.inr rfl) (by first | exact Or.inl rfl | exact Or.inr rfl)) (ss_cons (ss_par (i := 2) (j := 3) gc.gx rfl rfl (by decide) rfl rfl (sa_cons (se_bin (ops_add gc.gx) se_int (se_call (j := 18) gc rfl rfl (sa_cons (se_var (i := 1) rfl (by first | exact Or.inl rfl | exact Or.inr (Or.inl rfl) | exact Or.inr (Or.inr rfl)) (by decide) (by decide)) (sa_cons se_int sa_nil rfl) rfl) (by decide) rfl rfl)) (sa_cons (se_bin (ops_add gc.gx) se_int (se_call (j := 18) gc rfl rfl (sa_cons (se_var (i := 1) rfl (by first | exact Or.inl rfl | exact Or.inr (Or.inl rfl) | exact Or.inr (Or.inr rfl)) (by decide) (by decide)) (sa_cons se_int sa_nil rfl) rfl) (by decide) rfl rfl)) sa_nil rfl) rfl) rfl rfl)
    (ss_cons (ss_set (i := 4) gc.gx rfl (by first | exact Or.inl rfl | exact Or.inr rfl) (se_bin (ops_add gc.gx) se_int (se_call (j := 18) gc rfl rfl (sa_cons (se_var (i := 1) rfl (by first | exact Or.inl rfl | exact Or.inr (Or.inl rfl) | exact Or.inr (Or.inr rfl)) (by decide) (by decide)) (sa_cons se_int sa_nil rfl) rfl) (by decide) rfl rfl)) rfl (by first | exact Or.inl rfl | exact Or.inr rfl))
    (ss_cons (ss_par (i := 5) (j := 6) gc.gx rfl rfl (by decide) rfl rfl (sa_cons (se_make (c := 1) gc rfl rfl (sa_cons (se_var (i := 2) rfl (by first | exact Or.inl rfl | exact Or.inr (Or.inl rfl) | exact Or.inr (Or.inr rfl)) (by decide) (by decide)) (sa_cons (se_var (i := 3) rfl (by first | exact Or.inl rfl | exact Or.inr (Or.inl rfl) | exact Or.inr (Or.inr rfl)) (by decide) (by decide)) sa_nil rfl) rfl) (by decide) rfl rfl) (sa_cons (se_make (c := 0) gc rfl rfl (sa_cons se_int (sa_cons (se_var (i := 4) rfl (by first | exact Or.inl rfl | exact Or.inr (Or.inl rfl) | exact Or.inr (Or.inr rfl)) (by decide) (by decide)) sa_nil rfl) rfl) (by decide) rfl rfl) sa_nil rfl) rfl) rfl rfl)
    (ss_cons (ss_set (i := 7) gc.gx rfl (by first | exact Or.inl rfl | exact Or.inr rfl) se_int rfl (by first | exact Or.inl rfl | exact Or.inr rfl))
    (ss_cons (ss_set (i := 8) gc.gx rfl (by first | exact Or.inl rfl | exact Or.inr rfl) se_bl rfl (by first | exact Or.inl rfl | exact Or.inr rfl))
    (ss_cons (ss_set (i := 9) gc.gx rfl (by first | exact Or.inl rfl | exact Or.inr rfl) se_int rfl (by first | exact Or.inl rfl | exact Or.inr rfl))
    (ss_cons (ss_for gc.gx PassesOwn.never (si_range1 rfl (gc.fr 1 _ rfl) (sa_cons se_int sa_nil rfl) rfl) (sg_name (i := 10) gc.gx rfl (by first | exact Or.inl rfl | exact Or.inr rfl) (by first | exact Or.inl rfl | exact Or.inr rfl)) (ss_cons (ss_set (i := 7) gc.gx rfl (by first | exact Or.inl rfl | exact Or.inr rfl) (se_bin (ops_add gc.gx) (se_bin (ops_add gc.gx) (se_var (i := 7) rfl (by first | exact Or.inl rfl | exact Or.inr (Or.inl rfl) | exact Or.inr (Or.inr rfl)) (by decide) (by decide)) se_int) (se_call (j := 18) gc rfl rfl (sa_cons (se_var (i := 1) rfl (by first | exact Or.inl rfl | exact Or.inr (Or.inl rfl) | exact Or.inr (Or.inr rfl)) (by decide) (by decide)) (sa_cons se_int sa_nil rfl) rfl) (by decide) rfl rfl)) rfl (by first | exact Or.inl rfl | exact Or.inr rfl))
    (ss_cons (ss_expr (se_meth gc (mok1 3 rfl) (se_var (i := 5) rfl (by first | exact Or.inl rfl | exact Or.inr (Or.inl rfl) | exact Or.inr (Or.inr rfl)) (by decide) (by decide)) (sa_cons (se_var (i := 7) rfl (by first | exact Or.inl rfl | exact Or.inr (Or.inl rfl) | exact Or.inr (Or.inr rfl)) (by decide) (by decide)) sa_nil rfl) (fun ho ha c hm F hr hb hd => pe_meth ho c hm F hr hb hd pass0 ha)) rfl)
    (ss_cons (ss_if (st_cmp (sc_op (ops_eq gc.gx) (se_call (j := 18) gc rfl rfl (sa_cons (se_var (i := 1) rfl (by first | exact Or.inl rfl | exact Or.inr (Or.inl rfl) | exact Or.inr (Or.inr rfl)) (by decide) (by decide)) (sa_cons se_int sa_nil rfl) rfl) (by decide) rfl rfl) se_int) rfl) (ss_cons (ss_set (i := 8) gc.gx rfl (by first | exact Or.inl rfl | exact Or.inr rfl) (se_not gc.gx (se_var (i := 8) rfl (by first | exact Or.inl rfl | exact Or.inr (Or.inl rfl) | exact Or.inr (Or.inr rfl)) (by decide) (by decide))) rfl (by first | exact Or.inl rfl | exact Or.inr rfl))
    (ss_one (ss_set (i := 9) gc.gx rfl (by first | exact Or.inl rfl | exact Or.inr rfl) (se_var (i := 7) rfl (by first | exact Or.inl rfl | exact Or.inr (Or.inl rfl) | exact Or.inr (Or.inr rfl)) (by decide) (by decide)) rfl (by first | exact Or.inl rfl | exact Or.inr rfl)))) ss_nil)
    (ss_cons (ss_set (i := 11) gc.gx rfl (by first | exact Or.inl rfl | exact Or.inr rfl) (se_meth0 gc (mok1 2 rfl) (se_var (i := 5) rfl (by first | exact Or.inl rfl | exact Or.inr (Or.inl rfl) | exact Or.inr (Or.inr rfl)) (by decide) (by decide)) (fun ho c hm F hr hb hd => pe_meth0 ho c hm F hr hb hd pass0)) rfl (by first | exact Or.inl rfl | exact Or.inr rfl))
    (ss_cons (ss_set (i := 12) gc.gx rfl (by first | exact Or.inl rfl | exact Or.inr rfl) (se_call (j := 20) gc rfl rfl (sa_cons (se_var (i := 5) rfl (by first | exact Or.inl rfl | exact Or.inr (Or.inl rfl) | exact Or.inr (Or.inr rfl)) (by decide) (by decide)) (sa_cons (se_var (i := 6) rfl (by first | exact Or.inl rfl | exact Or.inr (Or.inl rfl) | exact Or.inr (Or.inr rfl)) (by decide) (by decide)) (sa_cons (se_var (i := 8) rfl (by first | exact Or.inl rfl | exact Or.inr (Or.inl rfl) | exact Or.inr (Or.inr rfl)) (by decide) (by decide)) sa_nil rfl) rfl) rfl) (by decide) rfl rfl) rfl (by first | exact Or.inl rfl | exact Or.inr rfl))
    (ss_cons (ss_if (st_cmp (sc_op (ops_ne gc.gx) (se_cmp (sc_op (ops_eq gc.gx) (se_var (i := 12) rfl (by first | exact Or.inl rfl | exact Or.inr (Or.inl rfl) | exact Or.inr (Or.inr rfl)) (by decide) (by decide)) se_int) rfl) (se_cmp (sc_op (ops_eq gc.gx) (se_var (i := 11) rfl (by first | exact Or.inl rfl | exact Or.inr (Or.inl rfl) | exact Or.inr (Or.inr rfl)) (by decide) (by decide)) (se_str s1_eq)) rfl)) rfl) (ss_one (ss_ret se_bl)) ss_nil)
    (ss_cons (ss_if (st_w (sw_and (st_tru gc.gx (se_var (i := 8) rfl (by first | exact Or.inl rfl | exact Or.inr (Or.inl rfl) | exact Or.inr (Or.inr rfl)) (by decide) (by decide)) (by intro _; rfl)) (sw_and (st_cmp (sc_op (ops_ne gc.gx) (se_var (i := 11) rfl (by first | exact Or.inl rfl | exact Or.inr (Or.inl rfl) | exact Or.inr (Or.inr rfl)) (by decide) (by decide)) (se_str s1_eq)) rfl) (sw_and1 (st_w (sw_or (st_cmp (sc_op (ops_ne gc.gx) (se_var (i := 12) rfl (by first | exact Or.inl rfl | exact Or.inr (Or.inl rfl) | exact Or.inr (Or.inr rfl)) (by decide) (by decide)) se_int) rfl) (sw_or1 (st_cmp (sc_op (ops_ne gc.gx) (se_meth0 gc (mok1 2 rfl) (se_var (i := 5) rfl (by first | exact Or.inl rfl | exact Or.inr (Or.inl rfl) | exact Or.inr (Or.inr rfl)) (by decide) (by decide)) (fun ho c hm F hr hb hd => pe_meth0 ho c hm F hr hb hd pass0)) (se_str s3_eq)) rfl)))))))) (ss_one (ss_ret se_bl)) ss_nil)
    (ss_cons (ss_if (st_w (sw_and (st_tru gc.gx (se_var (i := 8) rfl (by first | exact Or.inl rfl | exact Or.inr (Or.inl rfl) | exact Or.inr (Or.inr rfl)) (by decide) (by decide)) (by intro _; rfl)) (sw_and (st_cmp (sc_op ops_gt (se_var (i := 7) rfl (by first | exact Or.inl rfl | exact Or.inr (Or.inl rfl) | exact Or.inr (Or.inr rfl)) (by decide) (by decide)) (se_bin (ops_add gc.gx) (se_var (i := 9) rfl (by first | exact Or.inl rfl | exact Or.inr (Or.inl rfl) | exact Or.inr (Or.inr rfl)) (by decide) (by decide)) (se_var (i := 3) rfl (by first | exact Or.inl rfl | exact Or.inr (Or.inl rfl) | exact Or.inr (Or.inr rfl)) (by decide) (by decide)))) rfl) (sw_and1 (st_cmp (sc_op (ops_ne gc.gx) (se_meth0 gc (mok1 2 rfl) (se_var (i := 5) rfl (by first | exact Or.inl rfl | exact Or.inr (Or.inl rfl) | exact Or.inr (Or.inr rfl)) (by decide) (by decide)) (fun ho c hm F hr hb hd => pe_meth0 ho c hm F hr hb hd pass0)) (se_str s3_eq)) rfl))))) (ss_one (ss_ret se_bl)) ss_nil)
    (ss_cons (ss_if (st_w (sw_and (st_not (st_tru gc.gx (se_var (i := 8) rfl (by first | exact Or.inl rfl | exact Or.inr (Or.inl rfl) | exact Or.inr (Or.inr rfl)) (by decide) (by decide)) (by intro _; rfl))) (sw_and (st_cmp (sc_op (ops_eq gc.gx) (se_var (i := 11) rfl (by first | exact Or.inl rfl | exact Or.inr (Or.inl rfl) | exact Or.inr (Or.inr rfl)) (by decide) (by decide)) (se_str s2_eq)) rfl) (sw_and1 (st_w (sw_or (st_cmp (sc_op (ops_ne gc.gx) (se_var (i := 12) rfl (by first | exact Or.inl rfl | exact Or.inr (Or.inl rfl) | exact Or.inr (Or.inr rfl)) (by decide) (by decide)) se_int) rfl) (sw_or1 (st_cmp (sc_op (ops_ne gc.gx) (se_meth0 gc (mok1 2 rfl) (se_var (i := 5) rfl (by first | exact Or.inl rfl | exact Or.inr (Or.inl rfl) | exact Or.inr (Or.inr rfl)) (by decide) (by decide)) (fun ho c hm F hr hb hd => pe_meth0 ho c hm F hr hb hd pass0)) (se_str s1_eq)) rfl)))))))) (ss_one (ss_ret se_bl)) ss_nil)
    (ss_one (ss_if (st_cmp (sc_op ops_gt (se_bin ops_mul (se_ix gc.gx (se_meth0 gc (mok1 0 rfl) (se_var (i := 6) rfl (by first | exact Or.inl rfl | exact Or.inr (Or.inl rfl) | exact Or.inr (Or.inr rfl)) (by decide) (by decide)) (fun ho c hm F hr hb hd => pe_meth0 ho c hm F hr hb hd pass0)) se_int (fun _ _ => rfl)) (se_var (i := 4) rfl (by first | exact Or.inl rfl | exact Or.inr (Or.inl rfl) | exact Or.inr (Or.inr rfl)) (by decide) (by decide))) (se_bin (ops_add gc.gx) (se_bin (ops_add gc.gx) se_int (se_var (i := 10) rfl (by first | exact Or.inl rfl | exact Or.inr (Or.inl rfl) | exact Or.inr (Or.inr rfl)) (by decide) (by decide))) se_int)) rfl) (ss_one (ss_ret se_bl)) ss_nil))))))))))) (by intro _; rfl))
    (ss_cons (ss_setLc (own := [("row", 14)]) (i := 13) gc rfl rfl rfl (blkOk_by (N := N21) (own := [("row", 14)]) (sc := defScope (top 21)) (by decide +kernel)) (si_seq gc.gx (se_meth0 gc (mok1 1 rfl) (se_var (i := 5) rfl (by first | exact Or.inl rfl | exact Or.inr (Or.inl rfl) | exact Or.inr (Or.inr rfl)) (by decide) (by decide)) (fun ho c hm F hr hb hd => pe_meth0 ho c hm F hr hb hd pass0))) (fun s0 H0 C0 cl0 fp0 gc => (sg_name (i := 14) gc.gx rfl (by first | exact Or.inl rfl | exact Or.inr rfl) (by first | exact Or.inl rfl | exact Or.inr rfl))) (sif_oneC gc (fun s0 H0 C0 cl0 fp0 gc => (st_cmp (sc_op (ops_eq gc.gx) (se_ix gc.gx (se_var (i := 14) rfl (by first | exact Or.inl rfl | exact Or.inr (Or.inl rfl) | exact Or.inr (Or.inr rfl)) (by decide) (by decide)) se_int (fun _ _ => rfl)) (se_str s0_eq)) rfl))) (fun s0 H0 C0 cl0 fp0 gc => (se_var (i := 14) rfl (by first | exact Or.inl rfl | exact Or.inr (Or.inl rfl) | exact Or.inr (Or.inr rfl)) (by decide) (by decide))) (by decide) (by intro _; rfl))
    (ss_one (ss_if (st_w (sw_or (st_cmp (sc_op (ops_ne gc.gx) (se_bin ops_mul (se_bi (id := "len") (calls_len gc.gx) rfl (gc.fr 0 _ rfl) (by decide +kernel) (sa_cons (se_var (i := 13) rfl (by first | exact Or.inl rfl | exact Or.inr (Or.inl rfl) | exact Or.inr (Or.inr rfl)) (by decide) (by decide)) sa_nil rfl) (by decide) (by decide) rfl rfl) se_int) (se_bi (id := "len") (calls_len gc.gx) rfl (gc.fr 0 _ rfl) (by decide +kernel) (sa_cons (se_meth0 gc (mok1 1 rfl) (se_var (i := 5) rfl (by first | exact Or.inl rfl | exact Or.inr (Or.inl rfl) | exact Or.inr (Or.inr rfl)) (by decide) (by decide)) (fun ho c hm F hr hb hd => pe_meth0 ho c hm F hr hb hd pass0)) sa_nil rfl) (by decide) (by decide) rfl rfl)) rfl) (sw_or1 (st_cmp (sc_op (ops_ne gc.gx) (se_ix gc.gx (se_meth0 gc (mok1 0 rfl) (se_var (i := 6) rfl (by first | exact Or.inl rfl | exact Or.inr (Or.inl rfl) | exact Or.inr (Or.inr rfl)) (by decide) (by decide)) (fun ho c hm F hr hb hd => pe_meth0 ho c hm F hr hb hd pass0)) se_int (fun _ _ => rfl)) se_int) rfl)))) (ss_one (ss_ret se_bl)) ss_nil)))))))))) (by intro _; rfl))
    (ss_one (ss_ret se_bl)))
end
/-! ### the head -/
def dfs_0 : List (He.DefD) := [⟨("is_whole", none), "is_whole", "is_whole", defArgs (top 9), defBody (top 9), defScope (top 9), [], []⟩, ⟨("is_within", none), "is_within", "is_within", defArgs (top 10), defBody (top 10), defScope (top 10), [], []⟩, ⟨("Budget", some "__init__"), "__init__", "Budget.__init__", defArgs (inClass (top 14) 0), defBody (inClass (top 14) 0), defScope (inClass (top 14) 0), [], [("start", .non)]⟩, ⟨("Budget", some "call"), "call", "Budget.call", defArgs (inClass (top 14) 1), defBody (inClass (top 14) 1), defScope (inClass (top 14) 1), [], []⟩, ⟨("Budget", some "may"), "may", "Budget.may", defArgs (inClass (top 14) 2), defBody (inClass (top 14) 2), defScope (inClass (top 14) 2), [], []⟩, ⟨("Budget", some "again"), "again", "Budget.again", defArgs (inClass (top 14) 3), defBody (inClass (top 14) 3), defScope (inClass (top 14) 3), [], []⟩, ⟨("Budget", some "counts"), "counts", "Budget.counts", defArgs (inClass (top 14) 4), defBody (inClass (top 14) 4), defScope (inClass (top 14) 4), [], []⟩, ⟨("Gate", some "__init__"), "__init__", "Gate.__init__", defArgs (inClass (top 15) 0), defBody (inClass (top 15) 0), defScope (inClass (top 15) 0), [], []⟩, ⟨("Gate", some "go_to"), "go_to", "Gate.go_to", defArgs (inClass (top 15) 1), defBody (inClass (top 15) 1), defScope (inClass (top 15) 1), [], []⟩, ⟨("Gate", some "state"), "state", "Gate.state", defArgs (inClass (top 15) 2), defBody (inClass (top 15) 2), defScope (inClass (top 15) 2), [], []⟩, ⟨("Gate", some "ask"), "ask", "Gate.ask", defArgs (inClass (top 15) 3), defBody (inClass (top 15) 3), defScope (inClass (top 15) 3), [], []⟩, ⟨("Gate", some "end"), "end", "Gate.end", defArgs (inClass (top 15) 4), defBody (inClass (top 15) 4), defScope (inClass (top 15) 4), [], []⟩, ⟨("Gate", some "log"), "log", "Gate.log", defArgs (inClass (top 15) 5), defBody (inClass (top 15) 5), defScope (inClass (top 15) 5), [], []⟩, ⟨("_law_well", none), "_law_well", "_law_well", defArgs (top 17), defBody (top 17), defScope (top 17), [], []⟩, ⟨("_law_take", none), "_law_take", "_law_take", defArgs (top 18), defBody (top 18), defScope (top 18), [], []⟩, ⟨("_law_bags", none), "_law_bags", "_law_bags", defArgs (top 19), defBody (top 19), defScope (top 19), [], []⟩, ⟨("_law_call", none), "_law_call", "_law_call", defArgs (top 20), defBody (top 20), defScope (top 20), [], []⟩, ⟨("law", none), "law", "law", defArgs (top 21), defBody (top 21), defScope (top 21), [], []⟩]
def dfs : List (He.DefD) := dfs_0
def loose_0 : List (Str) := ["WardError", "FormError", "AskError", "NoTime", "NoLimit", "Shut", "NothingLeft", "is_whole", "is_within", "MOST_LIMIT", "MOST_TIME", "Budget", "Gate", "_law_well", "_law_take", "_law_bags", "_law_call"]
def loose : List (Str) := loose_0
abbrev Rw : PySem.W.OpenRow := PySem.W.OpenLaw.row PySem.Challenge.rw_faultward_k84_whole_calls_through_gates
abbrev hk : PySem.W.Hook := hookM 4 D.fa dfs D.ex
def ob (s : PySem.W.SharedT) : AlM := obsM 4 D.fa dfs D.ex (HandSHeadRun.getT s)
theorem ob_eq (s : PySem.W.SharedT) : ob s = hk.obs s.abs := obsM_eq (HandSHeadRun.getT_eq s)
theorem run (w : World) : HandSHeadRun.RunEq Rw (PySem.W.view Rw.prog [21]) hk ob 3000 loose w := by
  intro os
  kernel_rfl
/-! ### each def's fact -/
theorem fact1 {P : Program} {w : World} {K : PySem.W.Frag} {mg : Str → Option Value} (c : He.SaysD D.fa dfs K) : Fact (G0 K) (T0 K) prog P w K mg 1 := by
  obtain ⟨fd, F⟩ := c.def_ 0 (d := dfs.getD 0 ⟨(Str.empty, none), Str.empty, Str.empty, defArgs (top 0), [], defScope (top 0), [], []⟩) rfl
  exact ⟨_, _, _, _, _, _, _, fd, N1, ps1, ⟨1, 1, f1⟩, [], F, sc1, rfl, rfl, rfl, FunD.bindsN (ps := ps1) F (fun _ _ _ _ _ _ us hl => match us, hl with | [_], _ => rfl), .nil, rfl, fun base cdv A outer s H E C k gc => b1 gc⟩
theorem fact2 {P : Program} {w : World} {K : PySem.W.Frag} {mg : Str → Option Value} (c : He.SaysD D.fa dfs K) : Fact (G0 K) (T0 K) prog P w K mg 2 := by
  obtain ⟨fd, F⟩ := c.def_ 1 (d := dfs.getD 1 ⟨(Str.empty, none), Str.empty, Str.empty, defArgs (top 0), [], defScope (top 0), [], []⟩) rfl
  exact ⟨_, _, _, _, _, _, _, fd, N2, ps2, ⟨3, 3, f2⟩, [], F, sc2, rfl, rfl, rfl, FunD.bindsN (ps := ps2) F (fun _ _ _ _ _ _ us hl => match us, hl with | [_, _, _], _ => rfl), .nil, rfl, fun base cdv A outer s H E C k gc => b2 gc⟩
theorem fact3 {P : Program} {w : World} {K : PySem.W.Frag} {mg : Str → Option Value} (c : He.SaysD D.fa dfs K) : Fact (G0 K) (T0 K) prog P w K mg 3 := by
  obtain ⟨fd, F⟩ := c.def_ 2 (d := dfs.getD 2 ⟨(Str.empty, none), Str.empty, Str.empty, defArgs (top 0), [], defScope (top 0), [], []⟩) rfl
  obtain ⟨ds, hv, hb⟩ := FunD.binds0 (ps := ps3) F 3 (List.cons_ne_nil _ _) rfl (fun D doc pm an cdv ct us ks h1 h2 => match us, ks, h1, h2 with | [_, _, _], [_], _, _ => ⟨_, _, _, _, _, _, rfl, rfl, rfl⟩)
  exact ⟨_, _, _, _, _, _, _, fd, N3, ps3, ⟨4, 4, f3⟩, ds, F, sc3, rfl, rfl, rfl, hb, hv, rfl, fun base cdv A outer s H E C k gc => b3 gc⟩
theorem fact4 {P : Program} {w : World} {K : PySem.W.Frag} {mg : Str → Option Value} (c : He.SaysD D.fa dfs K) : Fact (G0 K) (T0 K) prog P w K mg 4 := by
  obtain ⟨fd, F⟩ := c.def_ 3 (d := dfs.getD 3 ⟨(Str.empty, none), Str.empty, Str.empty, defArgs (top 0), [], defScope (top 0), [], []⟩) rfl
  exact ⟨_, _, _, _, _, _, _, fd, N4, ps4, ⟨1, 1, f4⟩, [], F, sc4, rfl, rfl, rfl, FunD.bindsN (ps := ps4) F (fun _ _ _ _ _ _ us hl => match us, hl with | [_], _ => rfl), .nil, rfl, fun base cdv A outer s H E C k gc => b4 gc⟩
theorem fact5 {P : Program} {w : World} {K : PySem.W.Frag} {mg : Str → Option Value} (c : He.SaysD D.fa dfs K) : Fact (G0 K) (T0 K) prog P w K mg 5 := by
  obtain ⟨fd, F⟩ := c.def_ 4 (d := dfs.getD 4 ⟨(Str.empty, none), Str.empty, Str.empty, defArgs (top 0), [], defScope (top 0), [], []⟩) rfl
  exact ⟨_, _, _, _, _, _, _, fd, N5, ps5, ⟨1, 1, f5⟩, [], F, sc5, rfl, rfl, rfl, FunD.bindsN (ps := ps5) F (fun _ _ _ _ _ _ us hl => match us, hl with | [_], _ => rfl), .nil, rfl, fun base cdv A outer s H E C k gc => b5 gc⟩
theorem fact6 {P : Program} {w : World} {K : PySem.W.Frag} {mg : Str → Option Value} (c : He.SaysD D.fa dfs K) : Fact (G0 K) (T0 K) prog P w K mg 6 := by
  obtain ⟨fd, F⟩ := c.def_ 5 (d := dfs.getD 5 ⟨(Str.empty, none), Str.empty, Str.empty, defArgs (top 0), [], defScope (top 0), [], []⟩) rfl
  exact ⟨_, _, _, _, _, _, _, fd, N6, ps6, ⟨1, 1, f6⟩, [], F, sc6, rfl, rfl, rfl, FunD.bindsN (ps := ps6) F (fun _ _ _ _ _ _ us hl => match us, hl with | [_], _ => rfl), .nil, rfl, fun base cdv A outer s H E C k gc => b6 gc⟩
theorem fact7 {P : Program} {w : World} {K : PySem.W.Frag} {mg : Str → Option Value} (c : He.SaysD D.fa dfs K) : Fact (G0 K) (T0 K) prog P w K mg 7 := by
  obtain ⟨fd, F⟩ := c.def_ 6 (d := dfs.getD 6 ⟨(Str.empty, none), Str.empty, Str.empty, defArgs (top 0), [], defScope (top 0), [], []⟩) rfl
  exact ⟨_, _, _, _, _, _, _, fd, N7, ps7, ⟨1, 1, f7⟩, [], F, sc7, rfl, rfl, rfl, FunD.bindsN (ps := ps7) F (fun _ _ _ _ _ _ us hl => match us, hl with | [_], _ => rfl), .nil, rfl, fun base cdv A outer s H E C k gc => b7 gc⟩
theorem fact9 {P : Program} {w : World} {K : PySem.W.Frag} {mg : Str → Option Value} (c : He.SaysD D.fa dfs K) : Fact (G0 K) (T0 K) prog P w K mg 9 := by
  obtain ⟨fd, F⟩ := c.def_ 7 (d := dfs.getD 7 ⟨(Str.empty, none), Str.empty, Str.empty, defArgs (top 0), [], defScope (top 0), [], []⟩) rfl
  exact ⟨_, _, _, _, _, _, _, fd, N9, ps9, ⟨3, 3, f9⟩, [], F, sc9, rfl, rfl, rfl, FunD.bindsN (ps := ps9) F (fun _ _ _ _ _ _ us hl => match us, hl with | [_, _, _], _ => rfl), .nil, rfl, fun base cdv A outer s H E C k gc => b9 gc⟩
theorem fact10 {P : Program} {w : World} {K : PySem.W.Frag} {mg : Str → Option Value} (c : He.SaysD D.fa dfs K) : Fact (G0 K) (T0 K) prog P w K mg 10 := by
  obtain ⟨fd, F⟩ := c.def_ 8 (d := dfs.getD 8 ⟨(Str.empty, none), Str.empty, Str.empty, defArgs (top 0), [], defScope (top 0), [], []⟩) rfl
  exact ⟨_, _, _, _, _, _, _, fd, N10, ps10, ⟨2, 2, f10⟩, [], F, sc10, rfl, rfl, rfl, FunD.bindsN (ps := ps10) F (fun _ _ _ _ _ _ us hl => match us, hl with | [_, _], _ => rfl), .nil, rfl, fun base cdv A outer s H E C k gc => b10 gc⟩
theorem fact11 {P : Program} {w : World} {K : PySem.W.Frag} {mg : Str → Option Value} (c : He.SaysD D.fa dfs K) : Fact (G0 K) (T0 K) prog P w K mg 11 := by
  obtain ⟨fd, F⟩ := c.def_ 9 (d := dfs.getD 9 ⟨(Str.empty, none), Str.empty, Str.empty, defArgs (top 0), [], defScope (top 0), [], []⟩) rfl
  exact ⟨_, _, _, _, _, _, _, fd, N11, ps11, ⟨1, 1, f11⟩, [], F, sc11, rfl, rfl, rfl, FunD.bindsN (ps := ps11) F (fun _ _ _ _ _ _ us hl => match us, hl with | [_], _ => rfl), .nil, rfl, fun base cdv A outer s H E C k gc => b11 gc⟩
theorem fact12 {P : Program} {w : World} {K : PySem.W.Frag} {mg : Str → Option Value} (c : He.SaysD D.fa dfs K) : Fact (G0 K) (T0 K) prog P w K mg 12 := by
  obtain ⟨fd, F⟩ := c.def_ 10 (d := dfs.getD 10 ⟨(Str.empty, none), Str.empty, Str.empty, defArgs (top 0), [], defScope (top 0), [], []⟩) rfl
  exact ⟨_, _, _, _, _, _, _, fd, N12, ps12, ⟨1, 1, f12⟩, [], F, sc12, rfl, rfl, rfl, FunD.bindsN (ps := ps12) F (fun _ _ _ _ _ _ us hl => match us, hl with | [_], _ => rfl), .nil, rfl, fun base cdv A outer s H E C k gc => b12 gc⟩
theorem fact13 {P : Program} {w : World} {K : PySem.W.Frag} {mg : Str → Option Value} (c : He.SaysD D.fa dfs K) : Fact (G0 K) (T0 K) prog P w K mg 13 := by
  obtain ⟨fd, F⟩ := c.def_ 11 (d := dfs.getD 11 ⟨(Str.empty, none), Str.empty, Str.empty, defArgs (top 0), [], defScope (top 0), [], []⟩) rfl
  exact ⟨_, _, _, _, _, _, _, fd, N13, ps13, ⟨2, 2, f13⟩, [], F, sc13, rfl, rfl, rfl, FunD.bindsN (ps := ps13) F (fun _ _ _ _ _ _ us hl => match us, hl with | [_, _], _ => rfl), .nil, rfl, fun base cdv A outer s H E C k gc => b13 gc⟩
theorem fact14 {P : Program} {w : World} {K : PySem.W.Frag} {mg : Str → Option Value} (c : He.SaysD D.fa dfs K) : Fact (G0 K) (T0 K) prog P w K mg 14 := by
  obtain ⟨fd, F⟩ := c.def_ 12 (d := dfs.getD 12 ⟨(Str.empty, none), Str.empty, Str.empty, defArgs (top 0), [], defScope (top 0), [], []⟩) rfl
  exact ⟨_, _, _, _, _, _, _, fd, N14, ps14, ⟨1, 1, f14⟩, [], F, sc14, rfl, rfl, rfl, FunD.bindsN (ps := ps14) F (fun _ _ _ _ _ _ us hl => match us, hl with | [_], _ => rfl), .nil, rfl, fun base cdv A outer s H E C k gc => b14 gc⟩
theorem fact17 {P : Program} {w : World} {K : PySem.W.Frag} {mg : Str → Option Value} (c : He.SaysD D.fa dfs K) : Fact (G0 K) (T0 K) prog P w K mg 17 := by
  obtain ⟨fd, F⟩ := c.def_ 13 (d := dfs.getD 13 ⟨(Str.empty, none), Str.empty, Str.empty, defArgs (top 0), [], defScope (top 0), [], []⟩) rfl
  exact ⟨_, _, _, _, _, _, _, fd, N17, ps17, ⟨2, 2, f17⟩, [], F, sc17, rfl, rfl, rfl, FunD.bindsN (ps := ps17) F (fun _ _ _ _ _ _ us hl => match us, hl with | [_, _], _ => rfl), .nil, rfl, fun base cdv A outer s H E C k gc => b17 gc⟩
theorem fact18 {P : Program} {w : World} {K : PySem.W.Frag} {mg : Str → Option Value} (c : He.SaysD D.fa dfs K) : Fact (G0 K) (T0 K) prog P w K mg 18 := by
  obtain ⟨fd, F⟩ := c.def_ 14 (d := dfs.getD 14 ⟨(Str.empty, none), Str.empty, Str.empty, defArgs (top 0), [], defScope (top 0), [], []⟩) rfl
  exact ⟨_, _, _, _, _, _, _, fd, N18, ps18, ⟨2, 5, f18⟩, [], F, sc18, rfl, rfl, rfl, FunD.bindsN (ps := ps18) F (fun _ _ _ _ _ _ us hl => match us, hl with | [_, _], _ => rfl), .nil, rfl, fun base cdv A outer s H E C k gc => b18 gc⟩
theorem fact19 {P : Program} {w : World} {K : PySem.W.Frag} {mg : Str → Option Value} (c : He.SaysD D.fa dfs K) : Fact (G0 K) (T0 K) prog P w K mg 19 := by
  obtain ⟨fd, F⟩ := c.def_ 15 (d := dfs.getD 15 ⟨(Str.empty, none), Str.empty, Str.empty, defArgs (top 0), [], defScope (top 0), [], []⟩) rfl
  exact ⟨_, _, _, _, _, _, _, fd, N19, ps19, ⟨2, 4, f19⟩, [], F, sc19, rfl, rfl, rfl, FunD.bindsN (ps := ps19) F (fun _ _ _ _ _ _ us hl => match us, hl with | [_, _], _ => rfl), .nil, rfl, fun base cdv A outer s H E C k gc => b19 gc⟩
theorem fact20 {P : Program} {w : World} {K : PySem.W.Frag} {mg : Str → Option Value} (c : He.SaysD D.fa dfs K) : Fact (G0 K) (T0 K) prog P w K mg 20 := by
  obtain ⟨fd, F⟩ := c.def_ 16 (d := dfs.getD 16 ⟨(Str.empty, none), Str.empty, Str.empty, defArgs (top 0), [], defScope (top 0), [], []⟩) rfl
  exact ⟨_, _, _, _, _, _, _, fd, N20, ps20, ⟨3, 5, f20⟩, [], F, sc20, rfl, rfl, rfl, FunD.bindsN (ps := ps20) F (fun _ _ _ _ _ _ us hl => match us, hl with | [_, _, _], _ => rfl), .nil, rfl, fun base cdv A outer s H E C k gc => b20 gc⟩
theorem fact21 {P : Program} {w : World} {K : PySem.W.Frag} {mg : Str → Option Value} (c : He.SaysD D.fa dfs K) : Fact (G0 K) (T0 K) prog P w K mg 21 := by
  obtain ⟨fd, F⟩ := c.def_ 17 (d := dfs.getD 17 ⟨(Str.empty, none), Str.empty, Str.empty, defArgs (top 0), [], defScope (top 0), [], []⟩) rfl
  exact ⟨_, _, _, _, _, _, _, fd, N21, ps21, ⟨1, 15, f21⟩, [], F, sc21, rfl, rfl, rfl, FunD.bindsN (ps := ps21) F (fun _ _ _ _ _ _ us hl => match us, hl with | [_], _ => rfl), .nil, rfl, fun base cdv A outer s H E C k gc => b21 gc⟩
theorem facts {P : Program} {w : World} {K : PySem.W.Frag} {mg : Str → Option Value} (c : He.SaysD D.fa dfs K) : ∀ j, (T0 K).has j = true → Fact (G0 K) (T0 K) prog P w K mg j := by
  intro j hj
  have hm : j ∈ has := inL_mem hj
  simp only [has, has_0, List.mem_append, List.mem_cons, List.not_mem_nil, or_false] at hm
  rcases hm with rfl | hm
  · exact fact1 c
  rcases hm with rfl | hm
  · exact fact2 c
  rcases hm with rfl | hm
  · exact fact3 c
  rcases hm with rfl | hm
  · exact fact4 c
  rcases hm with rfl | hm
  · exact fact5 c
  rcases hm with rfl | hm
  · exact fact6 c
  rcases hm with rfl | hm
  · exact fact7 c
  rcases hm with rfl | hm
  · exact fact9 c
  rcases hm with rfl | hm
  · exact fact10 c
  rcases hm with rfl | hm
  · exact fact11 c
  rcases hm with rfl | hm
  · exact fact12 c
  rcases hm with rfl | hm
  · exact fact13 c
  rcases hm with rfl | hm
  · exact fact14 c
  rcases hm with rfl | hm
  · exact fact17 c
  rcases hm with rfl | hm
  · exact fact18 c
  rcases hm with rfl | hm
  · exact fact19 c
  rcases hm with rfl | hm
  · exact fact20 c
  subst hm
  exact fact21 c
/-- from the plain law to the row -/
theorem whole {d : Nat} (hd : Room (2 * (d + 1)) callerA) (hlaw : ∀ ns : List Int, ns.length ≤ 63 → ∃ S, callF prog (d + 1) 21 [.fro (ns.map Va.int)] ⟨0, .nil⟩ = .ok (.bl true) S) :
    PySem.W.WalkO (PySem.W.view Rw.prog [21]) loose (PySem.W.XL (PySem.W.view Rw.prog [21]) []) hk.says Rw.toRowW (HandSHeadRun.topDef Rw.prog 21) [] (fun f vs => PySem.call f vs) := by
  refine L2.walk_ofE (l := PySem.Challenge.rw_faultward_k84_whole_calls_through_gates) (n := 63) (k := 2 * (d + 1)) (x := "script") (CX := L2.CX0) rfl (by decide) (by kernel_rfl) hd ?F (fun _ _ _ _ z => z)
  intro w mg fa h Y N hmg0
  obtain ⟨K, KX, c, ex⟩ := Y
  have hmg : mg ("law" : Str) = some (.ref fa) := by
    have e : (HandSHeadRun.topDef Rw.prog 21).name = ("law" : Str) := by kernel_rfl
    rw [← e]
    exact hmg0
  have g : Glob (G0 K) (T0 K) K mg := D.glob D_ok (says_facts c) ex KX N
  obtain ⟨fd, F⟩ := c.def_ 17 (d := dfs.getD 17 ⟨(Str.empty, none), Str.empty, Str.empty, defArgs (top 0), [], defScope (top 0), [], []⟩) rfl
  obtain ⟨_, e1, _⟩ := g.fn 21 ("law" : Str) rfl
  have e2 := hmg.symm.trans e1
  cases e2
  have b := FunD.bindsA (ps := ["script"]) F fun _ _ _ _ _ _ us hl => match us, hl with | [_], _ => rfl
  exact ⟨K, fd, spOf (G0 K) (callF prog (d + 1)) 1 21, KX, fun s v => b s [v] rfl, fun H a ns hl hO hS => law_sp (G := G0 K) hlaw hl hO hS, fun base _ _ => law_fn g (facts c) (j := 21) rfl d F sc21 rfl rfl rfl (fun base cdv A outer s H E C k gc => b21 gc) base⟩
end Pg
namespace Mi
open PySem PySem.Spec PyProof.Rows L2 Pg
/-! ### the plain law -/
theorem na01 : na 0 1 = true := rfl
theorem na02 : na 0 2 = true := rfl
theorem na03 : na 0 3 = true := rfl
theorem na04 : na 0 4 = true := rfl
theorem na05 : na 0 5 = true := rfl
theorem na16 : na 1 6 = true := rfl
theorem na17 : na 1 7 = true := rfl
theorem na18 : na 1 8 = true := rfl
theorem na19 : na 1 9 = true := rfl
theorem na10 : na 1 0 = true := rfl
theorem na1a : na 1 10 = true := rfl
theorem na1b : na 1 11 = true := rfl
theorem blt5 : Nat.blt 5 100 = true := rfl
theorem blt7 : Nat.blt 7 100 = true := rfl
theorem is_whole_ok {d : Nat} {i : Int} {S : Sto} : callF prog (d + 1) 1 [.int i] S = .ok (.bl true) S := by
  rw [callF_succ (df := ⟨1, 1, f1⟩) rfl rfl]
  simp [f1, startE, runB, mRet, mAndV, mNotV, mIsi, isTInt, isTBool, isTy, mVar, R.bind, truth]
theorem is_within_ok {d : Nat} {i lo hi : Int} {S : Sto} : callF prog (d + 2) 2 [.int i, .int lo, .int hi] S = .ok (.bl (decide (lo ≤ i) && decide (i ≤ hi))) S := by
  rw [callF_succ (df := ⟨3, 3, f2⟩) rfl rfl]
  by_cases h : lo ≤ i
  · simp [f2, startE, runB, mRet, mAndV, mCall, mCons, mNil, mVar, R.bind, is_whole_ok, truth, mChain, gLe, h]
  · simp [f2, startE, runB, mRet, mAndV, mCall, mCons, mNil, mVar, R.bind, is_whole_ok, truth, mChain, gLe, h]
def uV (u : Option Int) : Va := match u with
  | some t => .int t
  | none => .non
def gateO (lim rest clock row : Int) (u : Option Int) (out : Bool) (L : Nat) : Ob := .ins 1 [(6, .int lim), (7, .int rest), (8, .int clock), (9, .int row), (0, uV u), (10, .bl out), (11, .ref L)]
def budO (price held called ret : Int) : Ob := .ins 0 [(1, .int 10), (2, .int price), (3, .int held), (4, .int called), (5, .int ret)]
def stS (u : Option Int) (clock : Int) : Str := match u with
  | none => s3
  | some t => if clock < t then s1 else s2
theorem state_ok {d : Nat} {g : Nat} {lim rest clock row : Int} {u : Option Int} {out : Bool} {L : Nat} {S : Sto} (hg : S.get g = some (gateO lim rest clock row u out L)) : callF prog (d + 1) 11 [.ref g] S = .ok (.str (stS u clock)) S := by
  rw [callF_succ (df := ⟨1, 1, f11⟩) rfl rfl]
  unfold gateO at hg
  cases u with
  | none => simp [f11, startE, runB, mSeq, mIfS, mBool, mBin, mFld, gFld, fGet, mVar, mC, hg, gIsN, Mi.isNon, R.bind, uV, mRet, stS]
  | some t =>
    by_cases h : clock < t
    · simp [f11, startE, runB, mSeq, mIfS, mBool, mBin, mFld, gFld, fGet, mVar, mC, hg, gIsN, Mi.isNon, R.bind, uV, mRet, stS, mEnd, mIf, gLt, h]
    · simp [f11, startE, runB, mSeq, mIfS, mBool, mBin, mFld, gFld, fGet, mVar, mC, hg, gIsN, Mi.isNon, R.bind, uV, mRet, stS, mEnd, mIf, gLt, h]
theorem call_ok {d : Nat} {b : Nat} {price held called ret : Int} {S : Sto} (hb : S.get b = some (budO price held called ret)) :
    callF prog (d + 1) 4 [.ref b] S = .ok .non ((S.set b (budO price held (called + 1) ret)).set b (budO price (if held + 1 < 10 then held + 1 else 10) (called + 1) ret)) := by
  rw [callF_succ (df := ⟨1, 1, f4⟩) rfl rfl]
  have hlt := Sto.lt hb
  unfold budO at *
  simp [f4, startE, runB, mSeq, mSetFld, gSetFld, mBin, mFld, gFld, fGet, mVar, mC, hb, R.bind, gAdd, na01, na02, na03, na04, na05, na16, na17, na18, na19, na10, na1a, na1b, fPut, blt5, blt7, Sto.get_set hlt, mBi, gMin2, g2, mCons, mNil]
theorem may_ok {d : Nat} {b : Nat} {price held called ret : Int} {S : Sto} (hb : S.get b = some (budO price held called ret)) : callF prog (d + 1) 5 [.ref b] S = .ok (.bl (decide (price ≤ held))) S := by
  rw [callF_succ (df := ⟨1, 1, f5⟩) rfl rfl]
  unfold budO at *
  simp [f5, startE, runB, mRet, mBin, mFld, gFld, fGet, mVar, hb, R.bind, gGe]
theorem again_ok {d : Nat} {b : Nat} {price held called ret : Int} {S : Sto} (hb : S.get b = some (budO price held called ret)) (h : price ≤ held) :
    callF prog (d + 2) 6 [.ref b] S = .ok .non ((S.set b (budO price (held - price) called ret)).set b (budO price (held - price) called (ret + 1))) := by
  rw [callF_succ (df := ⟨1, 1, f6⟩) rfl rfl]
  have hm := may_ok (d := d) hb
  have hlt := Sto.lt hb
  unfold budO at *
  simp [f6, startE, runB, mSeq, mIfS, mNotB, mTru, mMeth, clsOf, Mi.M1, hm, h, truth, mNil, mEnd, mSetFld, gSetFld, mBin, mFld, gFld, fGet, mVar, mC, hb, R.bind, gAdd, Mi.gSub, na01, na02, na03, na04, na05, na16, na17, na18, na19, na10, na1a, na1b, fPut, blt5, blt7, Sto.get_set hlt]
theorem counts_ok {d : Nat} {b : Nat} {price held called ret : Int} {S : Sto} (hb : S.get b = some (budO price held called ret)) : callF prog (d + 1) 7 [.ref b] S = .ok (.tup [.int held, .int called, .int ret]) S := by
  rw [callF_succ (df := ⟨1, 1, f7⟩) rfl rfl]
  unfold budO at *
  simp [f7, startE, runB, mRet, mTup, mCons, mNil, mFld, gFld, fGet, mVar, hb, R.bind]
theorem go_ok {d : Nat} {g : Nat} {lim rest clock row t : Int} {u : Option Int} {out : Bool} {L : Nat} {S : Sto} (hg : S.get g = some (gateO lim rest clock row u out L)) (h : clock ≤ t) (h2 : t ≤ 1000000000) :
    callF prog (d + 3) 10 [.ref g, .int t] S = .ok .non (S.set g (gateO lim rest t row u out L)) := by
  rw [callF_succ (df := ⟨2, 2, f10⟩) rfl rfl]
  unfold gateO at *
  simp [f10, startE, runB, mSeq, mIfS, mNotB, mTru, mCall, is_within_ok, h, h2, truth, mNil, mCons, mEnd, mSetFld, gSetFld, mFld, gFld, fGet, mVar, mC, hg, R.bind, na01, na02, na03, na04, na05, na16, na17, na18, na19, na10, na1a, na1b, fPut, blt5, blt7]
theorem ask_ok {d : Nat} {g : Nat} {lim rest clock row : Int} {u : Option Int} {L : Nat} {S : Sto} {log : List Va} (hg : S.get g = some (gateO lim rest clock row u false L)) (hL : S.get L = some (.lst log)) (hn : g ≠ L) (h : stS u clock ≠ s1) (hl : log.length < 1000000) :
    callF prog (d + 2) 12 [.ref g] S = .ok .non ((S.set g (gateO lim rest clock row u true L)).set L (.lst (log ++ [.tup [.int clock, .str s0]]))) := by
  rw [callF_succ (df := ⟨1, 1, f12⟩) rfl rfl]
  have hs := state_ok (d := d) hg
  have hlt := Sto.lt hg
  have e1 : decide (stS u clock = s1) = false := decide_eq_false h
  unfold gateO at *
  cases q : decide (stS u clock = s2) <;>
  simp [f12, startE, runB, mSeq, mIfS, mOrB, mAndB, mBool, mBin, gEq, veq, sEq, e1, q, mTru, mMeth, clsOf, Mi.M1, hs, truth, mNil, mCons, mEnd, mSetFld, gSetFld, mFld, gFld, fGet, mVar, mC, hg, R.bind, na01, na02, na03, na04, na05, na16, na17, na18, na19, na10, na1a, na1b, fPut, blt5, blt7, mExpr, mBm, isKn, Sto.get_set hlt, Sto.get_set_ne hn, hL, mTup, gAppend, gmL, bltT hl]
theorem end_ok {d : Nat} {g : Nat} {lim rest clock row : Int} {u : Option Int} {good : Bool} {L : Nat} {S : Sto} {log : List Va} (hg : S.get g = some (gateO lim rest clock row u true L)) (hL : S.get L = some (.lst log)) (hn : g ≠ L) (hl : log.length < 1000000) :
    ∃ row' u' S', callF prog (d + 1) 13 [.ref g, .bl good] S = .ok .non S' ∧ Fr [g, L] S S' ∧ S'.get g = some (gateO lim rest clock row' u' false L) ∧ S'.get L = some (.lst (log ++ [.tup [.int clock, .str (if good then s4 else s5)]])) ∧
      (good = true → u' = none) ∧ (good = false → u' = some (clock + rest) ∨ (u = none ∧ u' = none)) := by
  rw [callF_succ (df := ⟨2, 2, f13⟩) rfl rfl]
  have hlt := Sto.lt hg
  have hLl := Sto.lt hL
  obtain ⟨S1, eS⟩ : ∃ S1, (S.set g (gateO lim rest clock row u false L)).set L (.lst (log ++ [.tup [.int clock, .str (if good then s4 else s5)]])) = S1 := ⟨_, rfl⟩
  have F1 : Fr [g, L] S S1 := eS ▸ ((Fr.set S _).mono (fun i h => List.mem_cons.mpr (.inl (by simpa using h)))).trans ((Fr.set _ _).mono (fun i h => List.mem_cons_of_mem _ h))
  have g1 : S1.get g = some (gateO lim rest clock row u false L) := by rw [← eS, Sto.get_set_ne (Ne.symm hn)]; exact Sto.get_set hlt
  have l1 : S1.get L = some (.lst (log ++ [.tup [.int clock, .str (if good then s4 else s5)]])) := by rw [← eS]; exact Sto.get_set hLl
  have lt1 : g < S1.n := Sto.lt g1
  have st : ∀ o, S1.set g o = S1.set g o := fun _ => rfl
  have e1 : (mIfS (mNotB (mTru (mFld 10 (mVar 0)))) mNever mEnd) [some (.ref g), some (.bl good)] S = .ok (.nx [some (.ref g), some (.bl good)]) S := by
    unfold gateO at hg
    simp [mIfS, mNotB, mTru, mFld, gFld, fGet, mVar, hg, R.bind, truth, mEnd]
  have e2 : (mSetFld na 10 (mVar 0) (mC (.bl false))) [some (.ref g), some (.bl good)] S = .ok (.nx [some (.ref g), some (.bl good)]) (S.set g (gateO lim rest clock row u false L)) := by
    unfold gateO at *
    simp [mSetFld, gSetFld, mVar, mC, hg, R.bind, na1a, fPut, blt7]
  have e3 : (mExpr (mBm .list gAppend (mFld 11 (mVar 0)) (mCons (mTup (mCons (mFld 8 (mVar 0)) (mCons (mIf (mTru (mVar 1)) (mC (.str s4)) (mC (.str s5))) mNil))) mNil))) [some (.ref g), some (.bl good)] (S.set g (gateO lim rest clock row u false L)) = .ok (.nx [some (.ref g), some (.bl good)]) S1 := by
    have a1 : (S.set g (gateO lim rest clock row u false L)).get g = some (gateO lim rest clock row u false L) := Sto.get_set hlt
    have a2 : (S.set g (gateO lim rest clock row u false L)).get L = some (.lst log) := by rw [Sto.get_set_ne hn, hL]
    rw [← eS]
    clear eS F1 g1 l1 lt1 e2
    generalize S.set g (gateO lim rest clock row u false L) = S0 at a1 a2
    unfold gateO at *
    cases good <;> simp [mExpr, mBm, isKn, mFld, gFld, fGet, mVar, mC, R.bind, mCons, mTup, mNil, mIf, mTru, truth, gAppend, gmL, bltT hl, a1, a2]
  have F2 : ∀ o, Fr [g, L] S (S1.set g o) := fun o => F1.trans ((Fr.set _ _).mono (fun i h => List.mem_cons.mpr (.inl (by simpa using h))))
  have F3 : ∀ o p, Fr [g, L] S ((S1.set g o).set g p) := fun o p => (F2 o).trans ((Fr.set _ _).mono (fun i h => List.mem_cons.mpr (.inl (by simpa using h))))
  have l2 : ∀ o, (S1.set g o).get L = some (.lst (log ++ [.tup [.int clock, .str (if good then s4 else s5)]])) := fun o => by rw [Sto.get_set_ne hn]; exact l1
  have l3 : ∀ o p, ((S1.set g o).set g p).get L = some (.lst (log ++ [.tup [.int clock, .str (if good then s4 else s5)]])) := fun o p => by rw [Sto.get_set_ne hn]; exact l2 o
  show ∃ row' u' S', runB (f13 (callF prog d) [some (.ref g), some (.bl good)] S) = .ok .non S' ∧ _
  unfold f13
  rw [seq_nx e1, seq_nx e2, seq_nx e3]
  clear e1 e2 e3 eS st
  cases good with
  | true =>
    refine ⟨0, none, (S1.set g (gateO lim rest clock 0 u false L)).set g (gateO lim rest clock 0 none false L), ?_, F3 _ _, Sto.get_set lt1, l3 _ _, fun _ => rfl, fun h => nomatch h⟩
    unfold gateO at *
    simp [mIfS, mTru, mVar, R.bind, truth, mSeq, mSetFld, gSetFld, mC, g1, na19, na10, fPut, blt7, Sto.get_set lt1, runB, uV]
  | false =>
    have z : ∀ row u, (S1.set g (gateO lim rest clock row u false L)).get g = some (gateO lim rest clock row u false L) := fun row u => Sto.get_set lt1
    have e4 : (mSetFld na 9 (mVar 0) (mBin gAdd (mFld 9 (mVar 0)) (mC (.int 1)))) [some (.ref g), some (.bl false)] S1 = .ok (.nx [some (.ref g), some (.bl false)]) (S1.set g (gateO lim rest clock (row + 1) u false L)) := by
      unfold gateO at *
      simp [mBin, gAdd, mFld, gFld, fGet, mVar, R.bind, mSetFld, gSetFld, mC, g1, na19, fPut, blt7]
    rw [ifs_f (S1 := S1) (by simp [mTru, mVar, R.bind, truth]), seq_nx e4]
    clear e4
    by_cases h : u = none ∧ ¬ lim ≤ row + 1
    · obtain ⟨rfl, h2⟩ := h
      refine ⟨row + 1, none, S1.set g (gateO lim rest clock (row + 1) none false L), ?_, F2 _, Sto.get_set lt1, l2 _, (fun h => nomatch h), fun _ => .inr ⟨rfl, rfl⟩⟩
      have z1 := z (row + 1) none
      generalize S1.set g (gateO lim rest clock (row + 1) none false L) = S2 at z1
      unfold gateO at *
      simp [mIfS, mOrB, mBool, mBin, gNotN, Mi.isNon, gGe, mFld, gFld, fGet, mVar, R.bind, mC, z1, uV, h2, mEnd, runB]
    · have hc : (mOrB (mBool (mBin gNotN (mFld 0 (mVar 0)) (mC .non))) (mBool (mBin gGe (mFld 9 (mVar 0)) (mFld 6 (mVar 0))))) [some (.ref g), some (.bl false)] (S1.set g (gateO lim rest clock (row + 1) u false L)) = .ok true (S1.set g (gateO lim rest clock (row + 1) u false L)) := by
        have z1 := z (row + 1) u
        generalize S1.set g (gateO lim rest clock (row + 1) u false L) = S2 at z1
        unfold gateO at *
        cases u with
        | none =>
          have : lim ≤ row + 1 := Int.not_lt.mp fun q => h ⟨rfl, by omega⟩
          simp [mOrB, mBool, mBin, gNotN, Mi.isNon, gGe, mFld, gFld, fGet, mVar, R.bind, mC, z1, uV, this]
        | some t => simp [mOrB, mBool, mBin, gNotN, Mi.isNon, gGe, mFld, gFld, fGet, mVar, R.bind, mC, z1, uV]
      refine ⟨0, some (clock + rest), ((S1.set g (gateO lim rest clock (row + 1) u false L)).set g (gateO lim rest clock (row + 1) (some (clock + rest)) false L)).set g (gateO lim rest clock 0 (some (clock + rest)) false L), ?_, (F3 _ _).trans ((Fr.set _ _).mono (fun i h => List.mem_cons.mpr (.inl (by simpa using h)))), Sto.get_set lt1, by rw [Sto.get_set_ne hn]; exact l3 _ _, (fun h => nomatch h), fun _ => .inl rfl⟩
      rw [ifs_t hc]
      have z1 := z (row + 1) u
      have lt2 : g < (S1.set g (gateO lim rest clock (row + 1) u false L)).n := lt1
      generalize S1.set g (gateO lim rest clock (row + 1) u false L) = S2 at z1 lt2
      unfold gateO at *
      simp [mSeq, mSetFld, gSetFld, mBin, gAdd, mFld, gFld, fGet, mVar, R.bind, mC, z1, uV, na19, na10, fPut, blt7, Sto.get_set lt2, runB]
end Mi
namespace Mi
open PySem PySem.Spec PyProof.Rows L2 Pg
/-- asks and ends by turns -/
inductive Lg : Nat → List Va → Prop where
  | nil : Lg 0 []
  | snoc {n : Nat} {l : List Va} {c : Int} {good : Bool} : Lg n l → Lg (n + 1) (l ++ [.tup [.int c, .str s0]] ++ [.tup [.int c, .str (if good then s4 else s5)]])
theorem Lg.len {n : Nat} {l : List Va} (h : Lg n l) : l.length = 2 * n := by
  induction h with
  | nil => rfl
  | snoc h ih => rw [List.length_append, List.length_append, ih] <;> simp only [List.length_singleton] <;> omega
structure St (g b L : Nat) (lim rest price : Int) (S : Sto) (clock : Int) (u : Option Int) (called held ret : Int) (n : Nat) : Prop where
  hg : ∃ row, S.get g = some (gateO lim rest clock row u false L)
  hb : S.get b = some (budO price held called ret)
  hl : ∃ log, S.get L = some (.lst log) ∧ Lg n log
theorem Fr.cons {b : Nat} {bs : List Nat} {S : Sto} {o : Ob} (h : b ∈ bs) : Fr bs S (S.set b o) := (Fr.set S o).mono fun i q => by rw [List.mem_singleton.mp q]; exact h
/-- what a call comes to -/
structure Done (u0 : Option Int) (clock rest : Int) (good : Bool) (u : Option Int) (found : Nat) : Prop where
  shut : stS u0 clock = s1 → found = 0 ∧ u = u0
  through : stS u0 clock ≠ s1 → 1 ≤ found
  well : stS u0 clock ≠ s1 → good = true → found = 1 ∧ u = none
  ajar : stS u0 clock = s2 → good = false → found = 1 ∧ u = some (clock + rest)
  bad : good = false → u = u0 ∨ u = none ∨ u = some (clock + rest)
theorem ns12 : s1 ≠ s2 := by decide
theorem ns13 : s1 ≠ s3 := by decide
theorem ns23 : s2 ≠ s3 := by decide
def bodyC (C : CO) : SF := (mSeq (mIfS (mOrB (mBool (mBin gEq (mMeth C (Mi.M1 1 11 []) (mVar 0) mNil) (mC (.str s1)))) (mAndB (mBool (mBin gGt (mVar 4) (mC (.int 0)))) (mNotB (mTru (mMeth C (Mi.M1 0 5 []) (mVar 1) mNil))))) (mRet (mVar 3)) mEnd)
    (mSeq (mIfS (mBool (mBin gGt (mVar 4) (mC (.int 0)))) (mExpr (mMeth C (Mi.M1 0 6 []) (mVar 1) mNil)) mEnd)
    (mSeq (mExpr (mMeth C (Mi.M1 1 12 []) (mVar 0) mNil))
    (mSeq (mExpr (mMeth C (Mi.M1 1 13 []) (mVar 0) (mCons (mVar 2) mNil)))
    (mSeq (mSet (tNm 3) (mBin gAdd (mVar 3) (mC (.int 1))))
    (mIfS (mTru (mVar 2)) (mRet (mVar 3)) mEnd))))))
theorem f20_eq (C : CO) : f20 C = (mSeq (mExpr (mMeth C (Mi.M1 0 4 []) (mVar 1) mNil)) (mSeq (mSet (tNm 3) (mC (.int 0))) (mSeq (mFor (iRange1 (mCons (mC (.int 4)) mNil)) (tNm 4) (bodyC C)) (mRet (mVar 3))))) := rfl
/-- the loop's standing: i attempts made -/
structure Inv (g b L : Nat) (lim rest price : Int) (S0 : Sto) (clock : Int) (u0 : Option Int) (called r0 : Int) (n0 : Nat) (good : Bool) (i : Nat) (env : Ev) (S : Sto) : Prop where
  env : ∃ x, env = [some (.ref g), some (.ref b), some (.bl good), some (.int i), x]
  st : ∃ u held ret, St g b L lim rest price S clock u called held ret (n0 + i) ∧ 0 ≤ held ∧ held + ret * price ≤ r0 ∧
    (i = 0 → u = u0) ∧ (0 < i → stS u0 clock ≠ s1 ∧ good = false ∧ (u = none ∧ u0 = none ∨ u = some (clock + rest))) ∧ (1 < i → u0 = none)
  fr : Fr [g, b, L] S0 S
theorem turn_ok {d : Nat} {g b L : Nat} {lim rest price : Int} {S0 : Sto} {clock : Int} {u0 : Option Int} {called r0 : Int} {n0 : Nat} {good : Bool} {i : Nat} {env : Ev} {S : Sto} (gb : g ≠ b) (gL : g ≠ L) (bL : b ≠ L) (hn : n0 ≤ 1000) (hi : i < 4) (h1 : 1 ≤ rest)
    (h : Inv g b L lim rest price S0 clock u0 called r0 n0 good i env S) : ∃ env1, tNm 4 (.int (0 + i)) env S = some env1 ∧ TurnOk (Inv g b L lim rest price S0 clock u0 called r0 n0 good (i + 1))
      (fun v S' => Fr [g, b, L] S0 S' ∧ ∃ u held ret found, v = .int (found : Nat) ∧ found ≤ 4 ∧ St g b L lim rest price S' clock u called held ret (n0 + found) ∧ 0 ≤ held ∧ held + ret * price ≤ r0 ∧ Done u0 clock rest good u found) (bodyC (callF prog (d + 2)) env1 S) := by
  obtain ⟨⟨x, rfl⟩, ⟨u, held, ret, ⟨⟨row, hg⟩, hb, log, hl, lg⟩, b0, bs, i0, ip, iq⟩, fr⟩ := h
  refine ⟨[some (.ref g), some (.ref b), some (.bl good), some (.int i), some (.int i)], by simp [tNm], ?_⟩
  have hs := state_ok (d := d + 1) hg
  have hm := may_ok (d := d + 1) hb
  have cg : clsOf (.ref g) S = some 1 := by show (match S.get g with | some (.ins c _) => some c | _ => none) = _; rw [hg] <;> rfl
  have cb : clsOf (.ref b) S = some 0 := by show (match S.get b with | some (.ins c _) => some c | _ => none) = _; rw [hb] <;> rfl
  have hcond : (mOrB (mBool (mBin gEq (mMeth (callF prog (d + 2)) (Mi.M1 1 11 []) (mVar 0) mNil) (mC (.str s1)))) (mAndB (mBool (mBin gGt (mVar 4) (mC (.int 0)))) (mNotB (mTru (mMeth (callF prog (d + 2)) (Mi.M1 0 5 []) (mVar 1) mNil))))) [some (.ref g), some (.ref b), some (.bl good), some (.int i), some (.int i)] S = .ok (decide (stS u clock = s1) || (decide (0 < (i : Int)) && !decide (price ≤ held))) S := by
    cases q1 : decide (stS u clock = s1) <;> cases q2 : decide (0 < (i : Int)) <;>
    simp [-Int.natCast_pos, mOrB, mAndB, mNotB, mTru, mBool, mBin, gEq, gGt, mMeth, cg, cb, Mi.M1, mVar, mNil, mC, R.bind, hs, hm, veq, sEq, q1, q2, truth]
  unfold bodyC
  cases q : (decide (stS u clock = s1) || (decide (0 < (i : Int)) && !decide (price ≤ held))) with
  | true =>
    rw [q] at hcond
    rw [seq_rt (v := .int i) (S1 := S) (by rw [ifs_t hcond]; rfl)]
    refine ⟨fr, u, held, ret, i, rfl, by omega, ⟨⟨row, hg⟩, hb, log, hl, lg⟩, b0, bs, ?_⟩
    by_cases hz : i = 0
    · subst hz
      have e := i0 rfl
      subst e
      have hsh : stS u clock = s1 := by simpa using q
      exact ⟨fun _ => ⟨rfl, rfl⟩, fun z => absurd hsh z, fun z => absurd hsh z, fun z => absurd (hsh.symm.trans z) ns12, fun _ => .inl rfl⟩
    · obtain ⟨p1, p2, p3⟩ := ip (by omega)
      have hbad : u = some (clock + rest) → stS u clock = s1 := fun e => by subst e; show (if clock < clock + rest then s1 else s2) = s1; rw [if_pos (by omega)]
      refine ⟨fun z => absurd z p1, fun _ => by omega, (fun _ z => by rw [p2] at z; cases z), fun z _ => ?_, fun _ => ?_⟩
      · have hu : u0 ≠ none := fun e => by rw [e] at z; exact ns23.symm z
        rcases p3 with ⟨_, e⟩ | e
        · exact absurd e hu
        · refine ⟨?_, e⟩
          by_cases q : 1 < i
          · exact absurd (iq q) hu
          · omega
      · rcases p3 with ⟨e, _⟩ | e
        · exact .inr (.inl e)
        · exact .inr (.inr e)
  | false =>
    rw [q] at hcond
    have q1 : decide (stS u clock = s1) = false := by
      cases z : decide (stS u clock = s1) with
      | false => rfl
      | true => rw [z] at q; cases q
    have ns : stS u clock ≠ s1 := of_decide_eq_false q1
    rw [q1, Bool.false_or] at q
    rw [seq_nx (e1 := [some (.ref g), some (.ref b), some (.bl good), some (.int i), some (.int i)]) (S1 := S) (by rw [ifs_f hcond]; rfl)]
    have hag : ∃ S1 held1 ret1, (mIfS (mBool (mBin gGt (mVar 4) (mC (.int 0)))) (mExpr (mMeth (callF prog (d + 2)) (Mi.M1 0 6 []) (mVar 1) mNil)) mEnd) [some (.ref g), some (.ref b), some (.bl good), some (.int i), some (.int i)] S = .ok (.nx [some (.ref g), some (.ref b), some (.bl good), some (.int i), some (.int i)]) S1 ∧
        S1.get b = some (budO price held1 called ret1) ∧ 0 ≤ held1 ∧ held1 + ret1 * price ≤ r0 ∧ Fr [b] S S1 := by
      by_cases hz : i = 0
      · subst hz
        exact ⟨S, held, ret, by simp [mIfS, mBool, mBin, gGt, mVar, mC, R.bind, mEnd], hb, b0, bs, Fr.refl _ _⟩
      · have hp : price ≤ held := by
          have e : decide (0 < (i : Int)) = true := decide_eq_true (by omega)
          rw [e] at q
          simpa using q
        refine ⟨_, held - price, ret + 1, ?_, Sto.get_set (S := S.set b (budO price (held - price) called ret)) (show b < S.n from Sto.lt hb), by omega, by rw [Int.add_mul]; omega, (Fr.set _ _).trans (Fr.set _ _)⟩
        rw [ifs_t (S1 := S) (by show R.ok (decide ((0 : Int) < i)) S = _; rw [decide_eq_true (by omega)])]
        refine exp_ok (v := .non) ?_
        show (match clsOf (.ref b) S with | some c => (match Mi.M1 0 6 [] c with | some (j, dx) => (mNil _ S).bind fun xs S2 => callF prog (d + 2) j (.ref b :: (xs ++ dx)) S2 | none => .bad) | none => .bad) = _
        rw [cb]
        exact again_ok hb hp
    obtain ⟨S1, held1, ret1, e1, hb1, b01, bs1, F1⟩ := hag
    rw [seq_nx e1]
    have hg1 := F1.at hg (by simpa using gb)
    have hl1 := F1.at hl (by simpa using (Ne.symm bL))
    have ha := ask_ok (d := d) hg1 hl1 gL ns (by rw [lg.len]; omega)
    have cg1 : clsOf (.ref g) S1 = some 1 := by show (match S1.get g with | some (.ins c _) => some c | _ => none) = _; rw [hg1] <;> rfl
    obtain ⟨S2, eS2⟩ : ∃ S2, (S1.set g (gateO lim rest clock row u true L)).set L (.lst (log ++ [.tup [.int clock, .str s0]])) = S2 := ⟨_, rfl⟩
    rw [eS2] at ha
    have hl2 : S2.get L = some (.lst (log ++ [.tup [.int clock, .str s0]])) := by rw [← eS2]; exact Sto.get_set (show L < S1.n from Sto.lt hl1)
    have hg2 : S2.get g = some (gateO lim rest clock row u true L) := by rw [← eS2, Sto.get_set_ne (Ne.symm gL)]; exact Sto.get_set (Sto.lt hg1)
    have hb2 : S2.get b = some (budO price held1 called ret1) := by rw [← eS2, Sto.get_set_ne (Ne.symm bL), Sto.get_set_ne gb]; exact hb1
    have F2 : Fr [g, b, L] S S2 := by rw [← eS2]; exact (F1.mono (by simp)).trans ((Fr.cons (by simp)).trans (Fr.cons (by simp)))
    have cg2 : clsOf (.ref g) S2 = some 1 := by show (match S2.get g with | some (.ins c _) => some c | _ => none) = _; rw [hg2] <;> rfl
    have e2 : (mExpr (mMeth (callF prog (d + 2)) (Mi.M1 1 12 []) (mVar 0) mNil)) [some (.ref g), some (.ref b), some (.bl good), some (.int i), some (.int i)] S1 = .ok (.nx [some (.ref g), some (.ref b), some (.bl good), some (.int i), some (.int i)]) S2 := by
      refine exp_ok (v := .non) ?_
      show (match clsOf (.ref g) S1 with | some c => (match Mi.M1 1 12 [] c with | some (j, dx) => (mNil _ S1).bind fun xs S2 => callF prog (d + 2) j (.ref g :: (xs ++ dx)) S2 | none => .bad) | none => .bad) = _
      rw [cg1]
      exact ha
    rw [seq_nx e2]
    obtain ⟨row3, u3, S3, he, F3, hg3, hl3, hgood, hbad⟩ := end_ok (d := d + 1) (good := good) hg2 hl2 gL (by rw [List.length_append, lg.len]; simp only [List.length_singleton]; omega)
    have e3 : (mExpr (mMeth (callF prog (d + 2)) (Mi.M1 1 13 []) (mVar 0) (mCons (mVar 2) mNil))) [some (.ref g), some (.ref b), some (.bl good), some (.int i), some (.int i)] S2 = .ok (.nx [some (.ref g), some (.ref b), some (.bl good), some (.int i), some (.int i)]) S3 := by
      refine exp_ok (v := .non) ?_
      show (match clsOf (.ref g) S2 with | some c => (match Mi.M1 1 13 [] c with | some (j, dx) => ((mCons (mVar 2) mNil) [some (.ref g), some (.ref b), some (.bl good), some (.int i), some (.int i)] S2).bind fun xs S2 => callF prog (d + 2) j (.ref g :: (xs ++ dx)) S2 | none => .bad) | none => .bad) = _
      rw [cg2]
      exact he
    rw [seq_nx e3]
    have hb3 := F3.at hb2 (by simp; exact ⟨Ne.symm gb, bL⟩)
    have FF : Fr [g, b, L] S0 S3 := fr.trans (F2.trans (F3.mono (by simp)))
    rw [seq_nx (e1 := [some (.ref g), some (.ref b), some (.bl good), some (.int (i + 1 : Nat)), some (.int i)]) (S1 := S3) rfl]
    have lg3 : Lg (n0 + (i + 1)) (log ++ [.tup [.int clock, .str s0]] ++ [.tup [.int clock, .str (if good then s4 else s5)]]) := .snoc lg
    have st3 : St g b L lim rest price S3 clock u3 called held1 ret1 (n0 + (i + 1)) := ⟨⟨row3, hg3⟩, hb3, _, hl3, lg3⟩
    have hns0 : stS u0 clock ≠ s1 := by
      by_cases hz : i = 0
      · rw [← i0 hz]; exact ns
      · exact (ip (by omega)).1
    cases good with
    | true =>
      have hz : i = 0 := by
        by_cases hz : i = 0
        · exact hz
        · exact absurd (ip (by omega)).2.1 (by decide)
      subst hz
      refine ⟨FF, u3, held1, ret1, 1, rfl, by omega, st3, b01, bs1, fun z => absurd z hns0, fun _ => Nat.le_refl _, fun _ _ => ⟨rfl, hgood rfl⟩, (fun _ z => nomatch z), (fun z => nomatch z)⟩
    | false =>
      refine ⟨⟨_, rfl⟩, ⟨u3, held1, ret1, st3, b01, bs1, (fun z => nomatch z), fun _ => ⟨hns0, rfl, ?_⟩, fun h1i => ?_⟩, FF⟩
      · rcases hbad rfl with e | ⟨e, e2⟩
        · exact .inr e
        · refine .inl ⟨e2, ?_⟩
          by_cases hz : i = 0
          · rw [← i0 hz]; exact e
          · rcases (ip (by omega)).2.2 with ⟨_, e3⟩ | e3
            · exact e3
            · rw [e] at e3; cases e3
      · have hz : 0 < i := by omega
        rcases (ip hz).2.2 with ⟨_, e3⟩ | e3
        · exact e3
        · exact absurd (by subst e3; show (if clock < clock + rest then s1 else s2) = s1; rw [if_pos (by omega)]) ns
end Mi
namespace Mi
open PySem PySem.Spec PyProof.Rows L2 Pg
theorem law_call_ok {d : Nat} {g b L : Nat} {lim rest price : Int} {S : Sto} {clock : Int} {u : Option Int} {called held ret : Int} {n : Nat} {good : Bool} (gb : g ≠ b) (gL : g ≠ L) (bL : b ≠ L) (hn : n ≤ 1000) (h1 : 1 ≤ rest)
    (h : St g b L lim rest price S clock u called held ret n) (h0 : 0 ≤ held) (hs : held + ret * price ≤ 10 + called) :
    ∃ S' u' held' ret' found, callF prog (d + 3) 20 [.ref g, .ref b, .bl good] S = .ok (.int (found : Nat)) S' ∧ found ≤ 4 ∧ Fr [g, b, L] S S' ∧ St g b L lim rest price S' clock u' (called + 1) held' ret' (n + found) ∧ 0 ≤ held' ∧ held' + ret' * price ≤ 10 + (called + 1) ∧ Done u clock rest good u' found := by
  obtain ⟨⟨row, hg⟩, hb, log, hl, lg⟩ := h
  rw [callF_succ (df := ⟨3, 5, f20⟩) rfl rfl]
  show ∃ S' u' held' ret' found, runB (f20 (callF prog (d + 2)) [some (.ref g), some (.ref b), some (.bl good), none, none] S) = _ ∧ _
  rw [f20_eq]
  have hc := call_ok (d := d + 1) hb
  obtain ⟨S1, eS1⟩ : ∃ S1, (S.set b (budO price held (called + 1) ret)).set b (budO price (if held + 1 < 10 then held + 1 else 10) (called + 1) ret) = S1 := ⟨_, rfl⟩
  rw [eS1] at hc
  have F1 : Fr [b] S S1 := eS1 ▸ (Fr.set _ _).trans (Fr.set _ _)
  have hb1 : S1.get b = some (budO price (if held + 1 < 10 then held + 1 else 10) (called + 1) ret) := by rw [← eS1]; exact Sto.get_set (show b < S.n from Sto.lt hb)
  have cb : clsOf (.ref b) S = some 0 := by show (match S.get b with | some (.ins c _) => some c | _ => none) = _; rw [hb] <;> rfl
  have e1 : (mExpr (mMeth (callF prog (d + 2)) (Mi.M1 0 4 []) (mVar 1) mNil)) [some (.ref g), some (.ref b), some (.bl good), none, none] S = .ok (.nx [some (.ref g), some (.ref b), some (.bl good), none, none]) S1 := by
    refine exp_ok (v := .non) ?_
    show (match clsOf (.ref b) S with | some c => (match Mi.M1 0 4 [] c with | some (j, dx) => (mNil _ S).bind fun xs S2 => callF prog (d + 2) j (.ref b :: (xs ++ dx)) S2 | none => .bad) | none => .bad) = _
    rw [cb]
    exact hc
  rw [seq_nx e1, seq_nx (set_ok (v := .int 0) rfl rfl)]
  have lp := for_rng (fi := iRange1 (mCons (mC (.int 4)) mNil)) (t := tNm 4) (body := bodyC (callF prog (d + 2))) (env := [some (.ref g), some (.ref b), some (.bl good), some (.int 0), none]) (S := S1) (lo := 0) (n := 4)
    (Inv g b L lim rest price S clock u (called + 1) (10 + (called + 1)) n good)
    (fun v S' => Fr [g, b, L] S S' ∧ ∃ u' held ret found, v = .int (found : Nat) ∧ found ≤ 4 ∧ St g b L lim rest price S' clock u' (called + 1) held ret (n + found) ∧ 0 ≤ held ∧ held + ret * price ≤ 10 + (called + 1) ∧ Done u clock rest good u' found)
    rfl ⟨⟨none, rfl⟩, ⟨u, _, ret, ⟨⟨row, F1.at hg (by simpa using gb)⟩, hb1, log, F1.at hl (by simpa using Ne.symm bL), lg⟩, by split <;> omega, by split <;> omega, fun _ => rfl, (fun z => absurd z (by decide)), (fun z => absurd z (by decide))⟩, F1.mono (by simp)⟩
    (fun i env S' hi h => turn_ok gb gL bL hn hi h1 h)
  revert lp
  show LoopOk _ _ (mFor (iRange1 (mCons (mC (.int 4)) mNil)) (tNm 4) (bodyC (callF prog (d + 2))) [some (.ref g), some (.ref b), some (.bl good), some (.int 0), none] S1) → ∃ S' u' held' ret' found, runB (mSeq (mFor (iRange1 (mCons (mC (.int 4)) mNil)) (tNm 4) (bodyC (callF prog (d + 2)))) (mRet (mVar 3)) [some (.ref g), some (.ref b), some (.bl good), some (.int 0), none] S1) = .ok (.int (found : Nat)) S' ∧ _
  cases q : mFor (iRange1 (mCons (mC (.int 4)) mNil)) (tNm 4) (bodyC (callF prog (d + 2))) [some (.ref g), some (.ref b), some (.bl good), some (.int 0), none] S1 with
  | bad => exact fun h => h.elim
  | ok fl S2 => cases fl with
    | rt v =>
      rintro ⟨F, u', held', ret', found, rfl, hf, st, z0, z1, dn⟩
      rw [seq_rt q]
      exact ⟨S2, u', held', ret', found, rfl, hf, F, st, z0, z1, dn⟩
    | nx e =>
      rintro ⟨⟨x, rfl⟩, ⟨u', held', ret', st, z0, z1, i0, ip, iq⟩, F⟩
      obtain ⟨p1, p2, p3⟩ := ip (by decide)
      have p4 := iq (by decide)
      rw [seq_nx q]
      refine ⟨S2, u', held', ret', 4, rfl, by decide, F, st, z0, z1, (fun z => absurd z p1), (fun _ => by decide), (fun _ z => by rw [p2] at z; cases z), (fun z _ => by subst p4; exact absurd z ns23.symm), fun _ => ?_⟩
      rcases p3 with ⟨e, _⟩ | e
      · exact .inr (.inl e)
      · exact .inr (.inr e)
    | bk e => exact fun h => h.elim
    | ct e => exact fun h => h.elim
def isAsk : Va → Bool
  | .tup [_, .str s] => decide (s = s0)
  | _ => false
theorem n40 : s4 ≠ s0 := by decide
theorem n50 : s5 ≠ s0 := by decide
theorem Lg.asks {n : Nat} {l : List Va} (h : Lg n l) : (l.filter isAsk).length = n := by
  induction h with
  | nil => rfl
  | @snoc n l c good h ih =>
    have e1 : isAsk (.tup [.int c, .str s0]) = true := (decide_eq_true rfl : decide (s0 = s0) = true)
    have e2 : isAsk (.tup [.int c, .str (if good then s4 else s5)]) = false := by cases good <;> rfl
    rw [List.filter_append, List.filter_append, List.length_append, List.length_append, ih, List.filter_cons, if_pos e1, List.filter_cons, if_neg (by rw [e2]; decide)] <;> rfl
theorem Lg.row {n : Nat} {l : List Va} (h : Lg n l) : ∀ v ∈ l, ∃ c s, v = .tup [.int c, .str s] := by
  induction h with
  | nil => exact fun v h => nomatch h
  | snoc h ih =>
    intro v hv
    rcases List.mem_append.mp hv with hv | hv
    · rcases List.mem_append.mp hv with hv | hv
      · exact ih v hv
      · exact ⟨_, _, List.mem_singleton.mp hv⟩
    · exact ⟨_, _, List.mem_singleton.mp hv⟩
theorem filter_take_succ {l : List Va} {i : Nat} {v : Va} (h : l[i]? = some v) : (l.take (i + 1)).filter isAsk = (l.take i).filter isAsk ++ (if isAsk v then [v] else []) := by
  rw [List.take_succ, h, List.filter_append]
  cases q : isAsk v <;> simp [q]
theorem log_ok {d : Nat} {g : Nat} {lim rest clock row : Int} {u : Option Int} {out : Bool} {L : Nat} {S : Sto} {log : List Va} (hg : S.get g = some (gateO lim rest clock row u out L)) (hl : S.get L = some (.lst log)) : callF prog (d + 1) 14 [.ref g] S = .ok (.ref S.n) (S.new (.lst log)) := by
  rw [callF_succ (df := ⟨1, 1, f14⟩) rfl rfl]
  unfold gateO at hg
  simp [f14, startE, runB, mRet, mBi, gList, g1, mCons, mNil, mFld, gFld, fGet, mVar, hg, R.bind, seqOf, hl]
end Mi
namespace Mi
open PySem PySem.Spec PyProof.Rows L2 Pg
theorem sf_ok {c g j : Nat} {fs : List (Nat × Va)} {env : Ev} {S S1 : Sto} {v : Va} {a : EF} (hv : env[0]? = some (some (.ref g))) (ha : a env S = .ok v S1) (hS : S1.get g = some (.ins c fs)) (hn : na c j = true) (hb : Nat.blt fs.length 100 = true) :
    ∃ S', mSetFld na j (mVar 0) a env S = .ok (.nx env) S' ∧ S'.get g = some (.ins c (fPut fs j v)) ∧ Fr [g] S1 S' := by
  refine ⟨S1.set g (.ins c (fPut fs j v)), ?_, Sto.get_set (Sto.lt hS), Fr.set _ _⟩
  unfold mSetFld
  rw [ha, bind_ok]
  have : mVar 0 env S1 = .ok (.ref g) S1 := by unfold mVar; rw [hv]
  rw [this, bind_ok]
  show (match (match S1.get g with | some (.ins c fs) => (match na c j && Nat.blt fs.length 100 with | true => some (S1.set g (.ins c (fPut fs j v))) | false => none) | _ => none) with | some S4 => R.ok (Fl.nx env) S4 | none => .bad) = _
  rw [hS]
  show (match (match na c j && Nat.blt fs.length 100 with | true => some (S1.set g (.ins c (fPut fs j v))) | false => none) with | some S4 => R.ok (Fl.nx env) S4 | none => .bad) = _
  rw [hn, hb]
  rfl
theorem gate_ok {d g : Nat} {lim rest : Int} {S : Sto} (hg : S.get g = some (.ins 1 [])) (h1 : 1 ≤ lim) (h2 : lim ≤ 1000) (h3 : 1 ≤ rest) (h4 : rest ≤ 1000) :
    ∃ S' L, callF prog (d + 3) 9 [.ref g, .int lim, .int rest] S = .ok .non S' ∧ S'.get g = some (gateO lim rest 0 0 none false L) ∧ S'.get L = some (.lst []) ∧ g ≠ L ∧ S.n ≤ L ∧ Fr [g] S S' := by
  rw [callF_succ (df := ⟨3, 3, f9⟩) rfl rfl]
  have w1 : callF prog (d + 2) 2 [.int lim, .int 1, .int 1000] S = .ok (.bl true) S := by rw [is_within_ok, decide_eq_true h1, decide_eq_true h2] <;> rfl
  have w2 : callF prog (d + 2) 2 [.int rest, .int 1, .int 1000] S = .ok (.bl true) S := by rw [is_within_ok, decide_eq_true h3, decide_eq_true h4] <;> rfl
  have e0 : (mIfS (mOrB (mNotB (mTru (mCall (callF prog (d + 2)) 2 (mCons (mVar 1) (mCons (mC (.int 1)) (mCons (mC (.int 1000)) mNil))) []))) (mNotB (mTru (mCall (callF prog (d + 2)) 2 (mCons (mVar 2) (mCons (mC (.int 1)) (mCons (mC (.int 1000)) mNil))) [])))) mNever mEnd) [some (.ref g), some (.int lim), some (.int rest)] S = .ok (.nx [some (.ref g), some (.int lim), some (.int rest)]) S := by
    simp [mIfS, mOrB, mNotB, mTru, mCall, mCons, mNil, mVar, mC, R.bind, w1, w2, truth, mEnd]
  obtain ⟨A1, a1, g1, F1⟩ := sf_ok (env := [some (.ref g), some (.int lim), some (.int rest)]) (a := mVar 1) (v := .int lim) (S := S) (j := 6) rfl rfl hg na16 rfl
  obtain ⟨A2, a2, g2, F2⟩ := sf_ok (env := [some (.ref g), some (.int lim), some (.int rest)]) (a := mVar 2) (v := .int rest) (S := A1) (j := 7) rfl rfl g1 na17 rfl
  obtain ⟨A3, a3, g3, F3⟩ := sf_ok (env := [some (.ref g), some (.int lim), some (.int rest)]) (a := mC (.int 0)) (v := .int 0) (S := A2) (j := 8) rfl rfl g2 na18 rfl
  obtain ⟨A4, a4, g4, F4⟩ := sf_ok (env := [some (.ref g), some (.int lim), some (.int rest)]) (a := mC (.int 0)) (v := .int 0) (S := A3) (j := 9) rfl rfl g3 na19 rfl
  obtain ⟨A5, a5, g5, F5⟩ := sf_ok (env := [some (.ref g), some (.int lim), some (.int rest)]) (a := mC .non) (v := .non) (S := A4) (j := 0) rfl rfl g4 na10 rfl
  obtain ⟨A6, a6, g6, F6⟩ := sf_ok (env := [some (.ref g), some (.int lim), some (.int rest)]) (a := mC (.bl false)) (v := .bl false) (S := A5) (j := 10) rfl rfl g5 na1a rfl
  obtain ⟨A7, a7, g7, F7⟩ := sf_ok (env := [some (.ref g), some (.int lim), some (.int rest)]) (a := mLst mNil) (v := .ref A6.n) (S := A6) (S1 := A6.new (.lst [])) (j := 11) rfl rfl (Sto.get_new_of g6) na1b rfl
  have FF := F1.trans (F2.trans (F3.trans (F4.trans (F5.trans F6))))
  have hne : g ≠ A6.n := Nat.ne_of_lt (Sto.lt g6)
  refine ⟨A7, A6.n, ?_, g7, F7.at Sto.get_new (by simpa using Ne.symm hne), hne, FF.le, FF.trans ((Fr.new [g] A6 _).trans F7)⟩
  show runB (f9 (callF prog (d + 2)) [some (.ref g), some (.int lim), some (.int rest)] S) = _
  unfold f9
  rw [seq_nx e0, seq_nx a1, seq_nx a2, seq_nx a3, seq_nx a4, seq_nx a5, seq_nx a6, a7]
  rfl
theorem bud_ok {d g : Nat} {price : Int} {S : Sto} (hg : S.get g = some (.ins 0 [])) (h1 : 1 ≤ price) (h2 : price ≤ 10) :
    ∃ S', callF prog (d + 3) 3 [.ref g, .int 10, .int price, .non] S = .ok .non S' ∧ S'.get g = some (budO price 10 0 0) ∧ Fr [g] S S' := by
  rw [callF_succ (df := ⟨4, 4, f3⟩) rfl rfl]
  have w1 : callF prog (d + 2) 2 [.int 10, .int 1, .int 1000] S = .ok (.bl true) S := by rw [is_within_ok] <;> rfl
  have w2 : callF prog (d + 2) 2 [.int price, .int 1, .int 10] S = .ok (.bl true) S := by rw [is_within_ok, decide_eq_true h1, decide_eq_true h2] <;> rfl
  have e0 : (mIfS (mOrB (mNotB (mTru (mCall (callF prog (d + 2)) 2 (mCons (mVar 1) (mCons (mC (.int 1)) (mCons (mC (.int 1000)) mNil))) []))) (mNotB (mTru (mCall (callF prog (d + 2)) 2 (mCons (mVar 2) (mCons (mC (.int 1)) (mCons (mVar 1) mNil))) [])))) mNever mEnd) [some (.ref g), some (.int 10), some (.int price), some .non] S = .ok (.nx [some (.ref g), some (.int 10), some (.int price), some .non]) S := by
    simp [mIfS, mOrB, mNotB, mTru, mCall, mCons, mNil, mVar, mC, R.bind, w1, w2, truth, mEnd]
  have e1 : (mIfS (mAndB (mBool (mBin gNotN (mVar 3) (mC .non))) (mNotB (mTru (mCall (callF prog (d + 2)) 2 (mCons (mVar 3) (mCons (mC (.int 0)) (mCons (mVar 1) mNil))) [])))) mNever mEnd) [some (.ref g), some (.int 10), some (.int price), some .non] S = .ok (.nx [some (.ref g), some (.int 10), some (.int price), some .non]) S := rfl
  obtain ⟨A1, a1, g1, F1⟩ := sf_ok (env := [some (.ref g), some (.int 10), some (.int price), some .non]) (a := mVar 1) (v := .int 10) (S := S) (j := 1) rfl rfl hg na01 rfl
  obtain ⟨A2, a2, g2, F2⟩ := sf_ok (env := [some (.ref g), some (.int 10), some (.int price), some .non]) (a := mVar 2) (v := .int price) (S := A1) (j := 2) rfl rfl g1 na02 rfl
  obtain ⟨A3, a3, g3, F3⟩ := sf_ok (env := [some (.ref g), some (.int 10), some (.int price), some .non]) (a := mIf (mBool (mBin gIsN (mVar 3) (mC .non))) (mVar 1) (mVar 3)) (v := .int 10) (S := A2) (j := 3) rfl rfl g2 na03 rfl
  obtain ⟨A4, a4, g4, F4⟩ := sf_ok (env := [some (.ref g), some (.int 10), some (.int price), some .non]) (a := mC (.int 0)) (v := .int 0) (S := A3) (j := 4) rfl rfl g3 na04 rfl
  obtain ⟨A5, a5, g5, F5⟩ := sf_ok (env := [some (.ref g), some (.int 10), some (.int price), some .non]) (a := mC (.int 0)) (v := .int 0) (S := A4) (j := 5) rfl rfl g4 na05 rfl
  refine ⟨A5, ?_, g5, F1.trans (F2.trans (F3.trans (F4.trans F5)))⟩
  show runB (f3 (callF prog (d + 2)) [some (.ref g), some (.int 10), some (.int price), some .non] S) = _
  unfold f3
  rw [seq_nx e0, seq_nx e1, seq_nx a1, seq_nx a2, seq_nx a3, seq_nx a4, a5]
  rfl
theorem take18 {d b n : Nat} {m : Int} {S : Sto} (hb : Bag n b S) (hn : n < 1000000000000) (h0 : 0 < m) (h1 : m < 1073741824) :
    ∃ r S1, callF prog (d + 1) 18 [.ref b, .int m] S = .ok (.int r) S1 ∧ 0 ≤ r ∧ r < m ∧ Bag (n + 1) b S1 ∧ Fr [b] S S1 := by
  rw [callF_succ (df := ⟨2, 5, f18⟩) rfl rfl]
  exact take_ok (C := callF prog d) hb hn h0 h1
theorem well17 {d : Nat} {c t : Int} {S : Sto} : callF prog (d + 1) 17 [.int c, .int t] S = .ok (.ref S.n) (S.new (.lst [.int (wellX c), .int (c % 2305843009213693951), .int t])) := by
  rw [callF_succ (df := ⟨2, 2, f17⟩) rfl rfl]
  exact well_ok (C := callF prog d)
theorem bags19 {d : Nat} {ns : List Int} {S : Sto} (hl : ns.length ≤ 63) :
    ∃ (L : Nat) (bs : List Nat) (S' : Sto), callF prog (d + 2) 19 [.fro (ns.map Va.int), .int (6 : Nat)] S = .ok (.ref L) S' ∧ S'.get L = some (.lst (bs.map Va.ref)) ∧ bs.length ≤ 64 ∧ bs.Nodup ∧ (∀ b ∈ bs, L < b ∧ b < S'.n ∧ Bag 61551 b S') ∧ Fr [] S S' ∧ S.n ≤ L := by
  rw [callF_succ (df := ⟨2, 4, f19⟩) rfl rfl]
  exact bags_ok (C := callF prog (d + 1)) (fun c t S => well17) hl (by decide)
/-- a draw plus one -/
theorem one18 {d b n : Nat} {m : Int} {x : EF} {env : Ev} {S : Sto} (hx : env[1]? = some (some (.ref b))) (hb : Bag n b S) (hn : n < 1000000000000) (h0 : 0 < m) (h1 : m < 1073741824) :
    ∃ r S1, mCall (callF prog (d + 1)) 18 (mCons (mVar 1) (mCons (mC (.int m)) mNil)) [] env S = .ok (.int r) S1 ∧ 0 ≤ r ∧ r < m ∧ Bag (n + 1) b S1 ∧ Fr [b] S S1 := by
  obtain ⟨r, S1, h, q⟩ := take18 (d := d) hb hn h0 h1
  refine ⟨r, S1, ?_, q⟩
  have : mVar 1 env S = .ok (.ref b) S := by unfold mVar; rw [hx]
  simp [mCall, mCons, mC, mNil, R.bind, this, h]
end Mi
namespace Mi
open PySem PySem.Spec PyProof.Rows L2 Pg
def turnB (C : CO) : SF := (mSeq (mSet (tNm 7) (mBin gAdd (mBin gAdd (mVar 7) (mC (.int 1))) (mCall C 18 (mCons (mVar 1) (mCons (mC (.int 3)) mNil)) [])))
    (mSeq (mExpr (mMeth C (Mi.M1 1 10 []) (mVar 5) (mCons (mVar 7) mNil)))
    (mSeq (mIfS (mBool (mBin gEq (mCall C 18 (mCons (mVar 1) (mCons (mC (.int 12)) mNil)) []) (mC (.int 0)))) (mSeq (mSet (tNm 8) (mNotV (mVar 8)))
    (mSet (tNm 9) (mVar 7))) mEnd)
    (mSeq (mSet (tNm 11) (mMeth C (Mi.M1 1 11 []) (mVar 5) mNil))
    (mSeq (mSet (tNm 12) (mCall C 20 (mCons (mVar 5) (mCons (mVar 6) (mCons (mVar 8) mNil))) []))
    (mSeq (mIfS (mBool (mBin gNe (mBin gEq (mVar 12) (mC (.int 0))) (mBin gEq (mVar 11) (mC (.str s1))))) (mRet (mC (.bl false))) mEnd)
    (mSeq (mIfS (mAndB (mTru (mVar 8)) (mAndB (mBool (mBin gNe (mVar 11) (mC (.str s1)))) (mOrB (mBool (mBin gNe (mVar 12) (mC (.int 1)))) (mBool (mBin gNe (mMeth C (Mi.M1 1 11 []) (mVar 5) mNil) (mC (.str s3))))))) (mRet (mC (.bl false))) mEnd)
    (mSeq (mIfS (mAndB (mTru (mVar 8)) (mAndB (mBool (mBin gGt (mVar 7) (mBin gAdd (mVar 9) (mVar 3)))) (mBool (mBin gNe (mMeth C (Mi.M1 1 11 []) (mVar 5) mNil) (mC (.str s3)))))) (mRet (mC (.bl false))) mEnd)
    (mSeq (mIfS (mAndB (mNotB (mTru (mVar 8))) (mAndB (mBool (mBin gEq (mVar 11) (mC (.str s2)))) (mOrB (mBool (mBin gNe (mVar 12) (mC (.int 1)))) (mBool (mBin gNe (mMeth C (Mi.M1 1 11 []) (mVar 5) mNil) (mC (.str s1))))))) (mRet (mC (.bl false))) mEnd)
    (mIfS (mBool (mBin gGt (mBin gMul (mIx (mMeth C (Mi.M1 0 7 []) (mVar 6) mNil) (mC (.int 2))) (mVar 4)) (mBin gAdd (mBin gAdd (mC (.int 10)) (mVar 10)) (mC (.int 1))))) (mRet (mC (.bl false))) mEnd))))))))))
def bagB (C : CO) : SF := (mSeq (mPar 2 3 (mCons (mBin gAdd (mC (.int 1)) (mCall C 18 (mCons (mVar 1) (mCons (mC (.int 5)) mNil)) [])) (mCons (mBin gAdd (mC (.int 1)) (mCall C 18 (mCons (mVar 1) (mCons (mC (.int 20)) mNil)) [])) mNil)))
    (mSeq (mSet (tNm 4) (mBin gAdd (mC (.int 1)) (mCall C 18 (mCons (mVar 1) (mCons (mC (.int 4)) mNil)) [])))
    (mSeq (mPar 5 6 (mCons (mMake C 1 9 (mCons (mVar 2) (mCons (mVar 3) mNil)) []) (mCons (mMake C 0 3 (mCons (mC (.int 10)) (mCons (mVar 4) mNil)) [.non]) mNil)))
    (mSeq (mSet (tNm 7) (mC (.int 0)))
    (mSeq (mSet (tNm 8) (mC (.bl true)))
    (mSeq (mSet (tNm 9) (mC (.int 0)))
    (mSeq (mFor (iRange1 (mCons (mC (.int 200)) mNil)) (tNm 10) (turnB C))
    (mSeq (mSet (tNm 13) (mLc (iSeq (mMeth C (Mi.M1 1 14 []) (mVar 5) mNil)) (tNm 14) (mBool (mBin gEq (mIx (mVar 14) (mC (.int 1))) (mC (.str s0)))) (mVar 14) [14]))
    (mIfS (mOrB (mBool (mBin gNe (mBin gMul (mBi gLen (mCons (mVar 13) mNil)) (mC (.int 2))) (mBi gLen (mCons (mMeth C (Mi.M1 1 14 []) (mVar 5) mNil) mNil)))) (mBool (mBin gNe (mIx (mMeth C (Mi.M1 0 7 []) (mVar 6) mNil) (mC (.int 1))) (mC (.int 200))))) (mRet (mC (.bl false))) mEnd)))))))))
theorem f21_eq (C : CO) : f21 C = mSeq (mFor (iSeq (mCall C 19 (mCons (mVar 0) (mCons (mC (.int 6)) mNil)) [])) (tNm 1) (bagB C)) (mRet (mC (.bl true))) := rfl
structure Tv (bag g b L : Nat) (lim rest price : Int) (S0 : Sto) (n0 : Option Va) (i : Nat) (env : Ev) (S : Sto) : Prop where
  env : ∃ now good since x10 x11 x12 x13 x14, env = [n0, some (.ref bag), some (.int lim), some (.int rest), some (.int price), some (.ref g), some (.ref b), some (.int now), some (.bl good), some (.int since), x10, x11, x12, x13, x14] ∧
    0 ≤ since ∧ since ≤ now ∧ now ≤ 3 * i ∧ ∃ u held ret n, St g b L lim rest price S now u i held ret n ∧ n ≤ 4 * i ∧ 0 ≤ held ∧ held + ret * price ≤ 10 + i ∧ (good = true → ∀ t, u = some t → t ≤ since + rest) ∧ (good = false → ∀ t, u = some t → t ≤ now + rest)
  bg : Bag (61554 + 2 * i) bag S
  fr : Fr [bag, g, b, L] S0 S
theorem meth1 {C : CO} {c j n : Nat} {o : EF} {fs : AF} {env : Ev} {S : Sto} {fs0 : List (Nat × Va)} {xs : List Va} (ho : o env S = .ok (.ref n) S) (hS : S.get n = some (.ins c fs0)) (hf : fs env S = .ok xs S) : mMeth C (Mi.M1 c j []) o fs env S = C j (.ref n :: xs) S := by
  unfold mMeth
  rw [ho, bind_ok]
  have e : clsOf (.ref n) S = some c := by show (match S.get n with | some (.ins c _) => some c | _ => none) = _; rw [hS] <;> rfl
  rw [e]
  show (match Mi.M1 c j [] c with | some (j, dx) => (fs env S).bind fun xs S2 => C j (.ref n :: (xs ++ dx)) S2 | none => .bad) = _
  have e2 : Mi.M1 c j [] c = some (j, []) := by unfold Mi.M1; rw [beqT rfl] <;> rfl
  rw [e2]
  show ((fs env S).bind fun xs S2 => C j (.ref n :: (xs ++ [])) S2) = _
  rw [hf, bind_ok, List.append_nil]
theorem turnB_ok {d : Nat} {bag g b L : Nat} {lim rest price : Int} {S0 : Sto} {n0 : Option Va} {i : Nat} {env : Ev} {S : Sto} (gb : g ≠ b) (gL : g ≠ L) (bL : b ≠ L) (kg : bag ≠ g) (kb : bag ≠ b) (kL : bag ≠ L) (hi : i < 200) (h1 : 1 ≤ rest) (hp1 : 1 ≤ price) (hp4 : price ≤ 4)
    (h : Tv bag g b L lim rest price S0 n0 i env S) : ∃ env1, tNm 10 (.int (0 + i)) env S = some env1 ∧ TurnOk (Tv bag g b L lim rest price S0 n0 (i + 1)) (fun _ _ => False) (turnB (callF prog (d + 3)) env1 S) := by
  obtain ⟨⟨now, good, since, x10, x11, x12, x13, x14, rfl, v0, v1, v2, u, held, ret, n, st, nn, b0, bs, ug, ub⟩, hbag, fr⟩ := h
  refine ⟨[n0, some (.ref bag), some (.int lim), some (.int rest), some (.int price), some (.ref g), some (.ref b), some (.int now), some (.bl good), some (.int since), some (.int i), x11, x12, x13, x14], by simp [tNm], ?_⟩
  obtain ⟨r1, S1, t1, r10, r11, bag1, F1⟩ := one18 (d := d + 2) (x := mVar 1) (m := 3) (env := [n0, some (.ref bag), some (.int lim), some (.int rest), some (.int price), some (.ref g), some (.ref b), some (.int now), some (.bl good), some (.int since), some (.int i), x11, x12, x13, x14]) rfl hbag (by omega) (by decide) (by decide)
  unfold turnB
  have hnow : ∃ now1, now1 = now + 1 + r1 := ⟨_, rfl⟩
  obtain ⟨now1, hnow⟩ := hnow
  rw [seq_nx (e1 := [n0, some (.ref bag), some (.int lim), some (.int rest), some (.int price), some (.ref g), some (.ref b), some (.int now1), some (.bl good), some (.int since), some (.int i), x11, x12, x13, x14]) (S1 := S1) (set_ok (v := .int now1) (by
    have e : mBin gAdd (mVar 7) (mC (.int 1)) [n0, some (.ref bag), some (.int lim), some (.int rest), some (.int price), some (.ref g), some (.ref b), some (.int now), some (.bl good), some (.int since), some (.int i), x11, x12, x13, x14] S = .ok (.int (now + 1)) S := rfl
    rw [mBin, e, bind_ok, t1, bind_ok, hnow] <;> rfl) rfl)]
  obtain ⟨⟨row, hg⟩, hb, log, hl, lg⟩ := st
  have hg1 := F1.at hg (by simpa using Ne.symm kg)
  have hb1 := F1.at hb (by simpa using Ne.symm kb)
  have hl1 := F1.at hl (by simpa using Ne.symm kL)
  have hgo := go_ok (d := d) (t := now1) hg1 (by omega) (by omega)
  obtain ⟨S2, eS2⟩ : ∃ S2, S1.set g (gateO lim rest now1 row u false L) = S2 := ⟨_, rfl⟩
  rw [eS2] at hgo
  have F2 : Fr [g] S1 S2 := eS2 ▸ Fr.set _ _
  have hg2 : S2.get g = some (gateO lim rest now1 row u false L) := eS2 ▸ Sto.get_set (Sto.lt hg1)
  have hb2 := F2.at hb1 (by simpa using Ne.symm gb)
  have hl2 := F2.at hl1 (by simpa using Ne.symm gL)
  have bag2 := bag1.fr F2 (by simpa using kg)
  rw [seq_nx (exp_ok (v := .non) (S1 := S2) (by rw [meth1 (xs := [.int now1]) rfl hg1 rfl]; exact hgo))]
  -- the house's turn
  obtain ⟨r2, S3, t2, r20, r21, bag3, F3⟩ := one18 (d := d + 2) (x := mVar 1) (m := 12) (env := [n0, some (.ref bag), some (.int lim), some (.int rest), some (.int price), some (.ref g), some (.ref b), some (.int now1), some (.bl good), some (.int since), some (.int i), x11, x12, x13, x14]) rfl bag2 (by omega) (by decide) (by decide)
  have hg3 := F3.at hg2 (by simpa using Ne.symm kg)
  have hb3 := F3.at hb2 (by simpa using Ne.symm kb)
  have hl3 := F3.at hl2 (by simpa using Ne.symm kL)
  have hflip : ∃ good1 since1, (mIfS (mBool (mBin gEq (mCall (callF prog (d + 3)) 18 (mCons (mVar 1) (mCons (mC (.int 12)) mNil)) []) (mC (.int 0)))) (mSeq (mSet (tNm 8) (mNotV (mVar 8))) (mSet (tNm 9) (mVar 7))) mEnd) [n0, some (.ref bag), some (.int lim), some (.int rest), some (.int price), some (.ref g), some (.ref b), some (.int now1), some (.bl good), some (.int since), some (.int i), x11, x12, x13, x14] S2 =
      .ok (.nx [n0, some (.ref bag), some (.int lim), some (.int rest), some (.int price), some (.ref g), some (.ref b), some (.int now1), some (.bl good1), some (.int since1), some (.int i), x11, x12, x13, x14]) S3 ∧ 0 ≤ since1 ∧ since1 ≤ now1 ∧ (good1 = true → ∀ t, u = some t → t ≤ since1 + rest) ∧ (good1 = false → ∀ t, u = some t → t ≤ now1 + rest) := by
    by_cases hz : r2 = 0
    · refine ⟨!good, now1, ?_, by omega, by omega, fun q t e => ?_, fun q t e => ?_⟩
      · rw [ifs_t (S1 := S3) (by simp [mBool, mBin, t2, R.bind, mC, gEq, veq, sEq, hz])]
        simp [mSeq, mSet, tNm, mNotV, mVar, R.bind, truth]
      · have := ub (by simpa using q) t e; omega
      · have := ug (by simpa using q) t e; omega
    · refine ⟨good, since, ?_, by omega, by omega, fun q t e => ug q t e, fun q t e => ?_⟩
      · rw [ifs_f (S1 := S3) (by simp [mBool, mBin, t2, R.bind, mC, gEq, veq, sEq, hz])]
        rfl
      · have := ub q t e; omega
  obtain ⟨good1, since1, e3, w0, w1, ug1, ub1⟩ := hflip
  rw [seq_nx e3]
  clear e3
  have hs3 := state_ok (d := d + 2) hg3
  rw [seq_nx (set_ok (v := .str (stS u now1)) (S1 := S3) (by rw [meth1 (xs := []) rfl hg3 rfl]; exact hs3) rfl)]
  obtain ⟨S4, u4, held4, ret4, found, hc, hf4, F4, st4, z0, z1, dn⟩ := law_call_ok (d := d) (good := good1) (S := S3) (clock := now1) (u := u) (called := i) (held := held) (ret := ret) (n := n) (lim := lim) (price := price) gb gL bL (by omega) h1 ⟨⟨row, hg3⟩, hb3, log, hl3, lg⟩ b0 bs
  rw [seq_nx (e1 := [n0, some (.ref bag), some (.int lim), some (.int rest), some (.int price), some (.ref g), some (.ref b), some (.int now1), some (.bl good1), some (.int since1), some (.int i), some (.str (stS u now1)), some (.int found), x13, x14]) (set_ok (v := .int (found : Nat)) (S1 := S4) hc rfl)]
  have FF : Fr [bag, g, b, L] S0 S4 := fr.trans ((F1.mono (by simp)).trans ((F2.mono (by simp)).trans ((F3.mono (by simp)).trans (F4.mono (by simp)))))
  have bag4 : Bag (61554 + 2 * (i + 1)) bag S4 := (bag3.fr F4 (by simp; exact ⟨kg, kb, kL⟩)).mono (by omega)
  obtain ⟨⟨row4, hg4⟩, hb4, log4, hl4, lg4⟩ := st4
  have hs4 := state_ok (d := d + 2) hg4
  have hc4 := counts_ok (d := d + 2) hb4
  have cg : clsOf (.ref g) S4 = some 1 := by show (match S4.get g with | some (.ins c _) => some c | _ => none) = _; rw [hg4] <;> rfl
  have cb : clsOf (.ref b) S4 = some 0 := by show (match S4.get b with | some (.ins c _) => some c | _ => none) = _; rw [hb4] <;> rfl
  have ns31 : s3 ≠ s1 := by decide
  have ns32 : s3 ≠ s2 := by decide
  have ns21 : s2 ≠ s1 := by decide
  have q0 : decide ((found : Int) = 0) = decide (stS u now1 = s1) := by
    by_cases q : stS u now1 = s1
    · rw [(dn.shut q).1, decide_eq_true q] <;> rfl
    · have := dn.through q
      rw [decide_eq_false q, decide_eq_false (by omega)]
  rw [seq_nx (e1 := [n0, some (.ref bag), some (.int lim), some (.int rest), some (.int price), some (.ref g), some (.ref b), some (.int now1), some (.bl good1), some (.int since1), some (.int i), some (.str (stS u now1)), some (.int found), x13, x14]) (S1 := S4) (by
    rw [ifs_f (S1 := S4) (by
      have : ∀ p q : Bool, p = q → (!decide (p = q)) = false := fun p q h => by simp [h]
      simp only [mBool, mBin, mVar, mC, R.bind, gEq, gNe, veq, sEq, List.getElem?_cons_zero, List.getElem?_cons_succ, q0, decide_true, Bool.not_true])]
    rfl)]
  rw [seq_nx (e1 := [n0, some (.ref bag), some (.int lim), some (.int rest), some (.int price), some (.ref g), some (.ref b), some (.int now1), some (.bl good1), some (.int since1), some (.int i), some (.str (stS u now1)), some (.int found), x13, x14]) (S1 := S4) (by
    rw [ifs_f (S1 := S4) (by
      cases good1 with
      | false => rfl
      | true =>
        by_cases q : stS u now1 = s1
        · simp [mAndB, mTru, mBool, mBin, mVar, mC, R.bind, truth, gNe, veq, sEq, q]
        · obtain ⟨q1, q2⟩ := dn.well q rfl
          subst q1 q2
          simp [mAndB, mOrB, mTru, mBool, mBin, mVar, mC, R.bind, truth, gNe, veq, sEq, q, mMeth, cg, Mi.M1, mNil, hs4, show stS none now1 = s3 from rfl])]
    rfl)]
  rw [seq_nx (e1 := [n0, some (.ref bag), some (.int lim), some (.int rest), some (.int price), some (.ref g), some (.ref b), some (.int now1), some (.bl good1), some (.int since1), some (.int i), some (.str (stS u now1)), some (.int found), x13, x14]) (S1 := S4) (by
    rw [ifs_f (S1 := S4) (by
      cases good1 with
      | false => rfl
      | true =>
        by_cases q : since1 + rest < now1
        · have qs : stS u now1 ≠ s1 := fun e => by
            cases u with
            | none => exact ns31 e
            | some t =>
              have := ug1 rfl t rfl
              have e2 : (if now1 < t then s1 else s2) = s1 := e
              rw [if_neg (by omega)] at e2
              exact ns21 e2
          obtain ⟨q1, q2⟩ := dn.well qs rfl
          subst q1 q2
          simp [mAndB, mOrB, mTru, mBool, mBin, mVar, mC, R.bind, truth, gNe, gGt, gAdd, veq, sEq, q, mMeth, cg, Mi.M1, mNil, hs4, show stS none now1 = s3 from rfl]
        · simp [mAndB, mTru, mBool, mBin, mVar, mC, R.bind, truth, gGt, gAdd, q])]
    rfl)]
  rw [seq_nx (e1 := [n0, some (.ref bag), some (.int lim), some (.int rest), some (.int price), some (.ref g), some (.ref b), some (.int now1), some (.bl good1), some (.int since1), some (.int i), some (.str (stS u now1)), some (.int found), x13, x14]) (S1 := S4) (by
    rw [ifs_f (S1 := S4) (by
      cases good1 with
      | true => rfl
      | false =>
        by_cases q : stS u now1 = s2
        · obtain ⟨q1, q2⟩ := dn.ajar q rfl
          subst q1 q2
          have q3 : stS (some (now1 + rest)) now1 = s1 := by show (if now1 < now1 + rest then s1 else s2) = s1; rw [if_pos (by omega)]
          simp [mAndB, mOrB, mNotB, mTru, mBool, mBin, mVar, mC, R.bind, truth, gNe, gEq, veq, sEq, q, mMeth, cg, Mi.M1, mNil, hs4, q3]
        · simp [mAndB, mNotB, mTru, mBool, mBin, mVar, mC, R.bind, truth, gEq, veq, sEq, q])]
    rfl)]
  have hm : okMul ret4 price = true := by
    unfold okMul
    rw [decide_eq_true (show -(2 ^ 64) < price by omega), decide_eq_true (show price < 2 ^ 64 by omega), Bool.and_self, Bool.or_true]
  rw [ifs_f (S1 := S4) (by
    have hA : atA [Va.int held4, Va.int (i + 1), Va.int ret4] 2 = some (.int ret4) := rfl
    have hk : decide (10 + (i : Int) + 1 < ret4 * price) = false := decide_eq_false (by omega)
    simp only [mBool, mBin, mVar, mC, R.bind, gGt, gMul, gAdd, mIx, gIx, mMeth, cb, Mi.M1, beqT rfl, mNil, List.append_nil, List.nil_append, hc4, hA, hm, hk, List.getElem?_cons_zero, List.getElem?_cons_succ])]
  refine ⟨⟨now1, good1, since1, _, _, _, _, _, rfl, w0, w1, by omega, u4, held4, ret4, n + found, ⟨⟨row4, hg4⟩, hb4, log4, hl4, lg4⟩, by omega, z0, by omega, ?_, ?_⟩, bag4, FF⟩
  · intro q t e
    by_cases qs : stS u now1 = s1
    · rw [(dn.shut qs).2] at e
      exact ug1 q t e
    · rw [(dn.well qs q).2] at e
      cases e
  · intro q t e
    rcases dn.bad q with h | h | h
    · rw [h] at e; exact ub1 q t e
    · rw [h] at e; cases e
    · rw [h] at e; cases e; omega
end Mi
namespace Mi
open PySem PySem.Spec PyProof.Rows L2 Pg
theorem mul_int {i j : Int} {S : Sto} (h : okMul i j = true) : gMul (.int i) (.int j) S = .ok (.int (i * j)) S := by
  show (match okMul i j with | true => R.ok (Va.int (i * j)) S | false => .bad) = _
  rw [h]
theorem bagB_ok {d : Nat} {bag : Nat} {n0 y2 y3 y4 y5 y6 y7 y8 y9 y10 y11 y12 y13 y14 : Option Va} {S : Sto} (hb : Bag 61551 bag S) :
    ∃ z2 z3 z4 z5 z6 z7 z8 z9 z10 z11 z12 z13 z14 S', bagB (callF prog (d + 3)) [n0, some (.ref bag), y2, y3, y4, y5, y6, y7, y8, y9, y10, y11, y12, y13, y14] S = .ok (.nx [n0, some (.ref bag), z2, z3, z4, z5, z6, z7, z8, z9, z10, z11, z12, z13, z14]) S' ∧ Fr [bag] S S' := by
  obtain ⟨r1, A1, t1, r10, r11, bag1, F1⟩ := one18 (d := d + 2) (x := mVar 1) (m := 5) (env := [n0, some (.ref bag), y2, y3, y4, y5, y6, y7, y8, y9, y10, y11, y12, y13, y14]) rfl hb (by omega) (by decide) (by decide)
  obtain ⟨r2, A2, t2, r20, r21, bag2, F2⟩ := one18 (d := d + 2) (x := mVar 1) (m := 20) (env := [n0, some (.ref bag), y2, y3, y4, y5, y6, y7, y8, y9, y10, y11, y12, y13, y14]) rfl bag1 (by omega) (by decide) (by decide)
  obtain ⟨lim, elim⟩ : ∃ x, x = 1 + r1 := ⟨_, rfl⟩
  obtain ⟨rest, erest⟩ : ∃ x, x = 1 + r2 := ⟨_, rfl⟩
  have e1 : mPar 2 3 (mCons (mBin gAdd (mC (.int 1)) (mCall (callF prog (d + 3)) 18 (mCons (mVar 1) (mCons (mC (.int 5)) mNil)) [])) (mCons (mBin gAdd (mC (.int 1)) (mCall (callF prog (d + 3)) 18 (mCons (mVar 1) (mCons (mC (.int 20)) mNil)) [])) mNil)) [n0, some (.ref bag), y2, y3, y4, y5, y6, y7, y8, y9, y10, y11, y12, y13, y14] S =
      .ok (.nx [n0, some (.ref bag), some (.int lim), some (.int rest), y4, y5, y6, y7, y8, y9, y10, y11, y12, y13, y14]) A2 := by
    rw [elim, erest]
    unfold mPar
    rw [mCons, mBin, mC, bind_ok, t1, bind_ok]
    show R.bind (R.bind (R.ok (Va.int (1 + r1)) A1) _) _ = _
    rw [bind_ok, mCons, mBin, mC, bind_ok, t2]
    rfl
  obtain ⟨r3, A3, t3, r30, r31, bag3, F3⟩ := one18 (d := d + 2) (x := mVar 1) (m := 4) (env := [n0, some (.ref bag), some (.int lim), some (.int rest), y4, y5, y6, y7, y8, y9, y10, y11, y12, y13, y14]) rfl bag2 (by omega) (by decide) (by decide)
  obtain ⟨price, eprice⟩ : ∃ x, x = 1 + r3 := ⟨_, rfl⟩
  unfold bagB
  rw [seq_nx e1, seq_nx (e1 := [n0, some (.ref bag), some (.int lim), some (.int rest), some (.int price), y5, y6, y7, y8, y9, y10, y11, y12, y13, y14]) (S1 := A3) (set_ok (v := .int price) (by rw [mBin, mC, bind_ok, t3, bind_ok, eprice] <;> rfl) rfl)]
  obtain ⟨A4, L, mg, hg4, hl4, gL, hLn, F4⟩ := gate_ok (d := d) (g := A3.n) (lim := lim) (rest := rest) (S := A3.new (.ins 1 [])) Sto.get_new (by omega) (by omega) (by omega) (by omega)
  obtain ⟨A5, mb, hb5, F5⟩ := bud_ok (d := d) (g := A4.n) (price := price) (S := A4.new (.ins 0 [])) Sto.get_new (by omega) (by omega)
  have gb : A3.n ≠ A4.n := Nat.ne_of_lt (Sto.lt hg4)
  have bL : A4.n ≠ L := Nat.ne_of_gt (Sto.lt hl4)
  have hg5 : A5.get A3.n = some (gateO lim rest 0 0 none false L) := F5.at (Sto.get_new_of hg4) (by simpa using gb)
  have hl5 : A5.get L = some (.lst []) := F5.at (Sto.get_new_of hl4) (by simpa using Ne.symm bL)
  have kg : bag ≠ A3.n := Nat.ne_of_lt bag3.lt
  have bag4 : Bag 61554 bag A4 := ((bag3.fr (Fr.new [] A3 (.ins 1 [])) (by simp)).fr F4 (by simpa using kg)).mono (by omega)
  have kb : bag ≠ A4.n := Nat.ne_of_lt bag4.lt
  have bag5 : Bag 61554 bag A5 := (bag4.fr (Fr.new [] A4 (.ins 0 [])) (by simp)).fr F5 (by simpa using kb)
  have kL : bag ≠ L := by have h1 := bag3.lt; have h2 : A3.n + 1 ≤ L := hLn; omega
  have e2 : mPar 5 6 (mCons (mMake (callF prog (d + 3)) 1 9 (mCons (mVar 2) (mCons (mVar 3) mNil)) []) (mCons (mMake (callF prog (d + 3)) 0 3 (mCons (mC (.int 10)) (mCons (mVar 4) mNil)) [.non]) mNil)) [n0, some (.ref bag), some (.int lim), some (.int rest), some (.int price), y5, y6, y7, y8, y9, y10, y11, y12, y13, y14] A3 =
      .ok (.nx [n0, some (.ref bag), some (.int lim), some (.int rest), some (.int price), some (.ref A3.n), some (.ref A4.n), y7, y8, y9, y10, y11, y12, y13, y14]) A5 := by
    have m1 : mMake (callF prog (d + 3)) 1 9 (mCons (mVar 2) (mCons (mVar 3) mNil)) [] [n0, some (.ref bag), some (.int lim), some (.int rest), some (.int price), y5, y6, y7, y8, y9, y10, y11, y12, y13, y14] A3 = .ok (.ref A3.n) A4 := by
      show ((callF prog (d + 3) 9 [.ref A3.n, .int lim, .int rest] (A3.new (.ins 1 []))).bind fun v S2 => match v with | .non => R.ok (Va.ref A3.n) S2 | _ => R.bad) = _
      rw [mg] <;> rfl
    have m2 : mMake (callF prog (d + 3)) 0 3 (mCons (mC (.int 10)) (mCons (mVar 4) mNil)) [.non] [n0, some (.ref bag), some (.int lim), some (.int rest), some (.int price), y5, y6, y7, y8, y9, y10, y11, y12, y13, y14] A4 = .ok (.ref A4.n) A5 := by
      show ((callF prog (d + 3) 3 [.ref A4.n, .int 10, .int price, .non] (A4.new (.ins 0 []))).bind fun v S2 => match v with | .non => R.ok (Va.ref A4.n) S2 | _ => R.bad) = _
      rw [mb] <;> rfl
    unfold mPar
    rw [mCons, m1, bind_ok, mCons, m2]
    rfl
  rw [seq_nx e2, seq_nx (set_ok (v := .int 0) rfl rfl), seq_nx (set_ok (v := .bl true) rfl rfl), seq_nx (set_ok (v := .int 0) rfl rfl)]
  have F03 : Fr [bag] S A3 := F1.trans (F2.trans F3)
  have F35 : Fr [bag] A3 A5 := ((((Fr.new [A3.n] A3 _).trans F4).old (cs := [bag]) (fun z hz hzl => by simp at hz; omega)).trans ((((Fr.new [A4.n] A4 _).trans F5)).old (cs := [bag]) (fun z hz hzl => by simp at hz; omega)))
  have lp := for_rng (fi := iRange1 (mCons (mC (.int 200)) mNil)) (t := tNm 10) (body := turnB (callF prog (d + 3))) (env := [n0, some (.ref bag), some (.int lim), some (.int rest), some (.int price), some (.ref A3.n), some (.ref A4.n), some (.int 0), some (.bl true), some (.int 0), y10, y11, y12, y13, y14]) (S := A5) (lo := 0) (n := 200)
    (Tv bag A3.n A4.n L lim rest price A5 n0) (fun _ _ => False) rfl
    ⟨⟨0, true, 0, _, _, _, _, _, rfl, Int.le_refl _, Int.le_refl _, Int.le_refl _, none, 10, 0, 0, ⟨⟨0, hg5⟩, hb5, [], hl5, .nil⟩, Nat.le_refl _, by decide, by omega, (fun _ t e => nomatch e), (fun _ t e => nomatch e)⟩, bag5.mono (by omega), Fr.refl _ _⟩
    (fun i env S' hi h => turnB_ok gb gL bL kg kb kL hi (by omega) (by omega) (by omega) h)
  have key : ∃ e6 S6, mFor (iRange1 (mCons (mC (.int 200)) mNil)) (tNm 10) (turnB (callF prog (d + 3))) [n0, some (.ref bag), some (.int lim), some (.int rest), some (.int price), some (.ref A3.n), some (.ref A4.n), some (.int 0), some (.bl true), some (.int 0), y10, y11, y12, y13, y14] A5 = .ok (.nx e6) S6 ∧ Tv bag A3.n A4.n L lim rest price A5 n0 200 e6 S6 := by
    revert lp
    cases q : mFor (iRange1 (mCons (mC (.int 200)) mNil)) (tNm 10) (turnB (callF prog (d + 3))) [n0, some (.ref bag), some (.int lim), some (.int rest), some (.int price), some (.ref A3.n), some (.ref A4.n), some (.int 0), some (.bl true), some (.int 0), y10, y11, y12, y13, y14] A5 with
    | bad => exact fun h => h.elim
    | ok fl S2 => cases fl with
      | rt v => exact fun h => h.elim
      | nx e => exact fun h => ⟨e, S2, rfl, h⟩
      | bk e => exact fun h => h.elim
      | ct e => exact fun h => h.elim
  obtain ⟨e6, S6, q6, ⟨now, good, since, x10, x11, x12, x13, x14, rfl, _, _, _, u, held, ret, n, ⟨⟨row, hg6⟩, hb6, log, hl6, lg⟩, hn, h0, hs, _, _⟩, bag6, F6⟩ := key
  simp only [List.set_cons_zero, List.set_cons_succ]
  rw [seq_nx q6]
  clear q6 lp
  have cg : clsOf (.ref A3.n) S6 = some 1 := by show (match S6.get A3.n with | some (.ins c _) => some c | _ => none) = _; rw [hg6] <;> rfl
  -- the asks
  obtain ⟨S7, eS7⟩ : ∃ S7, S6.new (.lst log) = S7 := ⟨_, rfl⟩
  have n7 : S7.n = S6.n + 1 := by rw [← eS7] <;> rfl
  have l7 : S7.get S6.n = some (.lst log) := by rw [← eS7]; exact Sto.get_new
  have F7 : Fr [] S6 S7 := eS7 ▸ Fr.new [] S6 _
  have ei : iSeq (mMeth (callF prog (d + 3)) (Mi.M1 1 14 []) (mVar 5) mNil) [n0, some (.ref bag), some (.int lim), some (.int rest), some (.int price), some (.ref A3.n), some (.ref A4.n), some (.int now), some (.bl good), some (.int since), x10, x11, x12, x13, x14] S6 = .ok (miR S6.n log.length) S7 := by
    unfold iSeq
    rw [meth1 (xs := []) rfl hg6 rfl, log_ok (d := d + 2) hg6 hl6, bind_ok, eS7]
    show (match S7.get S6.n with | some (.lst xs) => R.ok (miR S6.n xs.length) S7 | _ => .bad) = _
    rw [l7]
  have hlen := lg.len
  have elc := lc_inv (m := miR S6.n log.length) (t := tNm 14) (cond := mBool (mBin gEq (mIx (mVar 14) (mC (.int 1))) (mC (.str s0)))) (elt := mVar 14) (D := S7.n)
    (env := [n0, some (.ref bag), some (.int lim), some (.int rest), some (.int price), some (.ref A3.n), some (.ref A4.n), some (.int now), some (.bl good), some (.int since), x10, x11, x12, x13, none]) (n := log.length)
    (fun i acc S' => acc = (log.take i).filter isAsk ∧ i ≤ log.length ∧ S'.get S7.n = some (.lst acc) ∧ S'.get S6.n = some (.lst log) ∧ Fr [] S7 S')
    (fun i acc S' ⟨h1, h2, h3, _⟩ => ⟨h3, by rw [h1]; exact Nat.le_trans (List.length_filter_le _ _) (by rw [List.length_take]; omega)⟩) (by omega)
    (fun i acc S' hi ⟨h1, h2, h3, h4, h5⟩ => by
      obtain ⟨c, s, hv⟩ := lg.row log[i] (List.getElem_mem hi)
      have hgi : log[i]? = some (.tup [.int c, .str s]) := by rw [List.getElem?_eq_getElem hi, hv]
      refine ⟨.tup [.int c, .str s], [n0, some (.ref bag), some (.int lim), some (.int rest), some (.int price), some (.ref A3.n), some (.ref A4.n), some (.int now), some (.bl good), some (.int since), x10, x11, x12, x13, some (.tup [.int c, .str s])], ?_, rfl, ?_⟩
      · show (match S'.get S6.n with | some (.lst ys) => some ys[i]? | _ => none) = _
        rw [h4]
        show some log[i]? = _
        rw [hgi]
      · have hc : mBool (mBin gEq (mIx (mVar 14) (mC (.int 1))) (mC (.str s0))) [n0, some (.ref bag), some (.int lim), some (.int rest), some (.int price), some (.ref A3.n), some (.ref A4.n), some (.int now), some (.bl good), some (.int since), x10, x11, x12, x13, some (.tup [.int c, .str s])] S' = .ok (isAsk (.tup [.int c, .str s])) S' := rfl
        have hft := filter_take_succ hgi
        cases q : isAsk (.tup [.int c, .str s]) with
        | false =>
          refine .inl ⟨S', by rw [hc, q], ?_, by omega, h3, h4, h5⟩
          rw [hft, q, h1]
          simp
        | true =>
          refine .inr ⟨S', _, S', by rw [hc, q], rfl, h3, ?_, by omega, Sto.get_set (Sto.lt h3), by rw [Sto.get_set_ne (by omega)]; exact h4, ?_⟩
          · rw [hft, q, h1]
            simp
          · exact (h5.mono (cs := [S7.n]) (fun _ h => nomatch h)).trans (Fr.set _ _) |>.old fun z hz hzl => by simp at hz; omega)
    (fun acc S' ⟨_, _, _, h4, _⟩ => by
      show (match S'.get S6.n with | some (.lst ys) => some ys[log.length]? | _ => none) = _
      rw [h4]
      show some log[log.length]? = _
      rw [List.getElem?_eq_none_iff.mpr (Nat.le_refl _)])
    log.length 0 (log.length + 1) [] (S7.new (.lst [])) (by omega) (Nat.lt_succ_self _) ⟨rfl, Nat.zero_le _, Sto.get_new, Sto.get_new_of l7, Fr.new [] S7 _⟩
  obtain ⟨acc, S8, e8, h81, _, h83, h84, F8⟩ := elc
  rw [List.take_length] at h81
  have hacc : acc.length = n := by rw [h81]; exact lg.asks
  have e9 : mLc (iSeq (mMeth (callF prog (d + 3)) (Mi.M1 1 14 []) (mVar 5) mNil)) (tNm 14) (mBool (mBin gEq (mIx (mVar 14) (mC (.int 1))) (mC (.str s0)))) (mVar 14) [14] [n0, some (.ref bag), some (.int lim), some (.int rest), some (.int price), some (.ref A3.n), some (.ref A4.n), some (.int now), some (.bl good), some (.int since), x10, x11, x12, x13, x14] S6 = .ok (.ref S7.n) S8 := by
    unfold mLc
    rw [ei, bind_ok]
    exact e8
  rw [seq_nx (set_ok (v := .ref S7.n) (S1 := S8) e9 rfl)]
  simp only [List.set_cons_zero, List.set_cons_succ]
  have hg8 := F8.at (F7.at hg6 (by simp)) (by simp)
  have hl8 := F8.at (F7.at hl6 (by simp)) (by simp)
  have hb8 := F8.at (F7.at hb6 (by simp)) (by simp)
  have hlog := log_ok (d := d + 2) hg8 hl8
  have F9 : Fr [bag] S S8 := by
    have a : Fr [bag] A3 S6 := ((F35.mono (cs := [bag, A3.n, A4.n, L]) (by simp)).trans F6).old fun z hz hzl => by
      have h1 : A3.n + 1 ≤ L := hLn
      have h2 : A3.n < A4.n := Sto.lt hg4
      simp at hz
      simp
      omega
    exact F03.trans (a.trans ((F7.trans F8).mono (fun _ h => nomatch h)))
  have cg8 : clsOf (.ref A3.n) S8 = some 1 := by show (match S8.get A3.n with | some (.ins c _) => some c | _ => none) = _; rw [hg8] <;> rfl
  have hc8 := counts_ok (d := d + 2) hb8
  have hm : okMul (acc.length : Int) 2 = true := by unfold okMul; rw [decide_eq_true (show -(2 ^ 64) < (2 : Int) by decide), decide_eq_true (show (2 : Int) < 2 ^ 64 by decide), Bool.and_self, Bool.or_true]
  obtain ⟨E, eE⟩ : ∃ E, [n0, some (Va.ref bag), some (.int lim), some (.int rest), some (.int price), some (.ref A3.n), some (.ref A4.n), some (.int now), some (.bl good), some (.int since), x10, x11, x12, some (.ref S7.n), x14] = E := ⟨_, rfl⟩
  have v13 : mVar 13 E S8 = .ok (.ref S7.n) S8 := by rw [← eE] <;> rfl
  have v5 : mVar 5 E S8 = .ok (.ref A3.n) S8 := by rw [← eE] <;> rfl
  have c1 : mBool (mBin gNe (mBin gMul (mBi gLen (mCons (mVar 13) mNil)) (mC (.int 2))) (mBi gLen (mCons (mMeth (callF prog (d + 3)) (Mi.M1 1 14 []) (mVar 5) mNil) mNil))) E S8 = .ok false (S8.new (.lst log)) := by
    have l1 : mBi gLen (mCons (mVar 13) mNil) E S8 = .ok (.int acc.length) S8 := by
      simp [mBi, gLen, g1, mCons, mNil, R.bind, v13, seqOf, h83]
    have l2 : mBi gLen (mCons (mMeth (callF prog (d + 3)) (Mi.M1 1 14 []) (mVar 5) mNil) mNil) E S8 = .ok (.int log.length) (S8.new (.lst log)) := by
      have : mMeth (callF prog (d + 3)) (Mi.M1 1 14 []) (mVar 5) mNil E S8 = .ok (.ref S8.n) (S8.new (.lst log)) := by rw [meth1 (xs := []) v5 hg8 rfl]; exact hlog
      have hn : (S8.new (.lst log)).get S8.n = some (.lst log) := Sto.get_new
      simp [mBi, gLen, g1, mCons, mNil, R.bind, this, seqOf, hn]
    have hk : decide ((acc.length : Int) * 2 = log.length) = true := decide_eq_true (by omega)
    have m1 : mBin gMul (mBi gLen (mCons (mVar 13) mNil)) (mC (.int 2)) E S8 = .ok (.int ((acc.length : Int) * 2)) S8 := by
      unfold mBin
      rw [l1, bind_ok, mC, bind_ok]
      exact mul_int hm
    have ne_int : ∀ (i j : Int) (S : Sto), gNe (.int i) (.int j) S = .ok (.bl (!decide (i = j))) S := fun _ _ _ => rfl
    have m2 : mBin gNe (mBin gMul (mBi gLen (mCons (mVar 13) mNil)) (mC (.int 2))) (mBi gLen (mCons (mMeth (callF prog (d + 3)) (Mi.M1 1 14 []) (mVar 5) mNil) mNil)) E S8 = .ok (.bl false) (S8.new (.lst log)) := by
      rw [mBin, m1, bind_ok, l2, bind_ok, ne_int, hk, Bool.not_true]
    unfold mBool
    rw [m2, bind_ok]
  have hb9 : (S8.new (.lst log)).get A4.n = some (budO price held (200 : Nat) ret) := Sto.get_new_of hb8
  have hc9 := counts_ok (d := d + 2) hb9
  have v6 : mVar 6 E (S8.new (.lst log)) = .ok (.ref A4.n) (S8.new (.lst log)) := by rw [← eE] <;> rfl
  have c2 : mBool (mBin gNe (mIx (mMeth (callF prog (d + 3)) (Mi.M1 0 7 []) (mVar 6) mNil) (mC (.int 1))) (mC (.int 200))) E (S8.new (.lst log)) = .ok false (S8.new (.lst log)) := by
    have : mMeth (callF prog (d + 3)) (Mi.M1 0 7 []) (mVar 6) mNil E (S8.new (.lst log)) = .ok (.tup [.int held, .int (200 : Nat), .int ret]) (S8.new (.lst log)) := by rw [meth1 (xs := []) v6 hb9 rfl]; exact hc9
    have hA : gIx (.tup [.int held, .int (200 : Nat), .int ret]) (.int 1) (S8.new (.lst log)) = some (.int (200 : Nat)) := rfl
    simp only [mBool, mBin, mIx, R.bind, this, mC, hA, gNe, veq, sEq]
    rfl
  rw [ifs_f (S1 := S8.new (.lst log)) (by rw [eE]; unfold mOrB; rw [c1, bind_ok]; exact c2)]
  exact ⟨_, _, _, _, _, _, _, _, _, _, _, _, _, S8.new (.lst log), rfl, F9.trans (Fr.new [bag] S8 _)⟩
theorem law21 {d : Nat} {ns : List Int} (hl : ns.length ≤ 63) : ∃ S, callF prog (d + 4) 21 [.fro (ns.map Va.int)] ⟨0, .nil⟩ = .ok (.bl true) S := by
  rw [callF_succ (df := ⟨1, 15, f21⟩) rfl rfl]
  show ∃ S, runB (f21 (callF prog (d + 3)) [some (.fro (ns.map Va.int)), none, none, none, none, none, none, none, none, none, none, none, none, none, none] ⟨0, .nil⟩) = .ok (.bl true) S
  rw [f21_eq]
  obtain ⟨L0, bs, S1, e1, hL, hlen, hnd, hbs, F1, _⟩ := bags19 (d := d + 1) (S := ⟨0, .nil⟩) hl
  have ei : iSeq (mCall (callF prog (d + 3)) 19 (mCons (mVar 0) (mCons (mC (.int 6)) mNil)) []) [some (.fro (ns.map Va.int)), none, none, none, none, none, none, none, none, none, none, none, none, none, none] ⟨0, .nil⟩ = .ok (miR L0 (bs.map Va.ref).length) S1 := by
    have : mCall (callF prog (d + 3)) 19 (mCons (mVar 0) (mCons (mC (.int 6)) mNil)) [] [some (.fro (ns.map Va.int)), none, none, none, none, none, none, none, none, none, none, none, none, none, none] ⟨0, .nil⟩ = .ok (.ref L0) S1 := e1
    unfold iSeq
    rw [this, bind_ok]
    show (match S1.get L0 with | some (.lst xs) => R.ok (miR L0 xs.length) S1 | _ => .bad) = _
    rw [hL]
  have lp := for_list' (t := tNm 1) (body := bagB (callF prog (d + 3)))
    (fun i env S => (∃ y1 y2 y3 y4 y5 y6 y7 y8 y9 y10 y11 y12 y13 y14, env = [some (.fro (ns.map Va.int)), y1, y2, y3, y4, y5, y6, y7, y8, y9, y10, y11, y12, y13, y14]) ∧ S.get L0 = some (.lst (bs.map Va.ref)) ∧ ∀ j b, i ≤ j → bs[j]? = some b → Bag 61551 b S)
    (fun _ _ => False) ei ⟨⟨_, _, _, _, _, _, _, _, _, _, _, _, _, _, rfl⟩, hL, fun j b _ h => (hbs b (List.mem_of_getElem? h)).2.2⟩ (fun i env S h => h.2.1)
    (fun i v env S hv ⟨⟨y1, y2, y3, y4, y5, y6, y7, y8, y9, y10, y11, y12, y13, y14, he⟩, h2, h3⟩ => by
      subst he
      rw [List.getElem?_map] at hv
      cases q : bs[i]? with
      | none => rw [q] at hv; cases hv
      | some b =>
        rw [q] at hv
        cases hv
        refine ⟨[some (.fro (ns.map Va.int)), some (.ref b), y2, y3, y4, y5, y6, y7, y8, y9, y10, y11, y12, y13, y14], rfl, ?_⟩
        obtain ⟨z2, z3, z4, z5, z6, z7, z8, z9, z10, z11, z12, z13, z14, S', e, F⟩ := bagB_ok (d := d) (n0 := some (.fro (ns.map Va.int))) (y2 := y2) (y3 := y3) (y4 := y4) (y5 := y5) (y6 := y6) (y7 := y7) (y8 := y8) (y9 := y9) (y10 := y10) (y11 := y11) (y12 := y12) (y13 := y13) (y14 := y14) (h3 i b (Nat.le_refl _) q)
        rw [e]
        have hbL := (hbs b (List.mem_of_getElem? q)).1
        refine ⟨⟨_, _, _, _, _, _, _, _, _, _, _, _, _, _, rfl⟩, F.at h2 (by simp; omega), fun j b' hj hb' => (h3 j b' (by omega) hb').fr F ?_⟩
        intro hm
        have e2 : b' = b := List.mem_singleton.mp hm
        subst e2
        obtain ⟨hi', ei'⟩ := List.getElem?_eq_some_iff.mp q
        obtain ⟨hj', ej'⟩ := List.getElem?_eq_some_iff.mp hb'
        have := (List.getElem_inj hnd).mp (ei'.trans ej'.symm)
        omega)
  revert lp
  cases q : mFor (iSeq (mCall (callF prog (d + 3)) 19 (mCons (mVar 0) (mCons (mC (.int 6)) mNil)) [])) (tNm 1) (bagB (callF prog (d + 3))) [some (.fro (ns.map Va.int)), none, none, none, none, none, none, none, none, none, none, none, none, none, none] ⟨0, .nil⟩ with
  | bad => exact fun h => h.elim
  | ok fl S2 => cases fl with
    | rt v => exact fun h => h.elim
    | nx e => exact fun _ => ⟨S2, by rw [seq_nx q] <;> rfl⟩
    | bk e => exact fun h => h.elim
    | ct e => exact fun h => h.elim
end Mi
namespace Pg
open PySem PySem.Spec PyProof.Rows L2 Mi
theorem law_true : ∀ ns : List Int, ns.length ≤ 63 → ∃ S, callF prog (9 + 1) 21 [.fro (ns.map Va.int)] ⟨0, .nil⟩ = .ok (.bl true) S := fun ns h => law21 (d := 6) h
end Pg
open PySem PySem.W PySem.Calls PyProof.Rows in
set_option maxRecDepth 100000 in
set_option maxHeartbeats 0 in
theorem PySem.Challenge.cw_faultward_k84_whole_calls_through_gates_holds : PySem.Challenge.rw_faultward_k84_whole_calls_through_gates.Holds := by
  w_on; o_law
  refine HandSHeadRun.head_any (r := OpenLaw.row PySem.Challenge.rw_faultward_k84_whole_calls_through_gates) (q := view (OpenLaw.row PySem.Challenge.rw_faultward_k84_whole_calls_through_gates).prog [21]) (H := Pg.hk) (ob := Pg.ob) (M := 3000) (loose := Pg.loose) (d := HandSHeadRun.topDef (OpenLaw.row PySem.Challenge.rw_faultward_k84_whole_calls_through_gates).prog 21) (kwd := []) Pg.ob_eq
    (by kernel_rfl) (fun s => by kernel_rfl) Pg.run (by kernel_rfl) (by kernel_rfl) (by kernel_rfl) (by rfl) (by first | assumption | decide +kernel) (by decide +kernel) ⟨rfl, rfl, rfl, rfl, rfl, by decide +kernel⟩ ?hw ?hc
  case hw => w_witness2
  case hc => exact Pg.whole (d := 9) ⟨rfl, by decide, by decide⟩ Pg.law_true
